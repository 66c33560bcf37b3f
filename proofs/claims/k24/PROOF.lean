import PyProof.Rows.All
import HandS.ForMost
import HandS.ForExc
import HandS.Lambda
import HandS.EndTab
import HandS.Flow
import HandS.TupAny
import HandS.Style
import HandS.Defaults
import HandS.IsInst
import HandS.Deep
import HandS.TupMul
import HandS.Conv
import HandS.Zip
import HandS.SortKw
import KE.SortData
import KE.GoesEnum
import HandS.ExcSuper
import KE.KExcSuper
import HandS.HeadHook4
import HandS.HeadWalk
import HandS.Head2
import KE.KEqDeep
import PyProof.P3Eq
import HandS.NestedK
import HandS.Text
import KE.KTupSum
import PyProof.SumAny
import KE.GoesZip
import KE.GoesMore
import KE.OsSorts
import PySem.Challenge.RW_channelshared_k24_whole_rows_of_waits
section
set_option Elab.async false
set_option linter.all false
set_option maxRecDepth 100000
set_option maxHeartbeats 1000000
namespace DL
open PySem PySem.Spec PyProof.Rows L2

/-! ## data -/
inductive D where
  | non | bl (b : Bool) | int (i : Int) | str (x : Str) | ty (n : String) | ref (a : Addr) | tup (ds : List D) | lst (ds : List D) | scr (ds : List D)
/-- what may change -/
inductive GO where
  | lst (ds : List D)
  | ins (C : Addr) (fs : List (Str × D))
  | tab (q : Str)
abbrev GH := Addr → Option GO
def updG (G : GH) (a : Addr) (o : GO) : GH := fun b => if b = a then some o else G b
@[simp] theorem updG_same {G : GH} {a : Addr} {o : GO} : updG G a o a = some o := by unfold updG; rw [if_pos rfl]
theorem updG_ne {G : GH} {a b : Addr} {o : GO} (h : b ≠ a) : updG G a o b = G b := by unfold updG; rw [if_neg h]
@[simp] theorem updG_updG {G : GH} {a : Addr} {o u : GO} : updG (updG G a o) a u = updG G a u := by
  funext b; unfold updG; split <;> rfl

/-- a list that nobody writes: frozen, or of the module -/
def FrzL (K : PySem.W.Frag) (H : Hp) (a : Addr) (xs : List V) : Prop :=
  (∃ o, H a = some (.frz o (.lst xs))) ∨
    ∃ (o : Obj) (its : Array Value) (n : Nat), K.lookup a = some o ∧ o.cls = .type "list" ∧ o.dict = none ∧ o.data = .seq its n ∧ its.size ≤ sizeLine ∧ Vals xs its.toList
theorem FrzL.seq {K : PySem.W.Frag} {H : Hp} {a : Addr} {xs : List V} (h : FrzL K H a xs) : SqL K H a xs := by
  rcases h with h | h
  · exact .inl (.inr h)
  · exact .inr h

section
variable (K : PySem.W.Frag) (P : Addr → Prop) (G : GH) (H : Hp)
mutual
inductive Rep : V → D → Prop
  | non : Rep .non .non
  | bl (b : Bool) : Rep (.bl b) (.bl b)
  | int (i : Int) : Rep (.int i) (.int i)
  | str (x : Str) : Rep (.str x) (.str x)
  | ty (n : String) : Rep (.ty n) (.ty n)
  | ref (a : Addr) : Rep (.ref a) (.ref a)
  | tup {a : Addr} {xs : List V} {ds : List D} : SqT K H a xs → RepL xs ds → Rep (.ref a) (.tup ds)
  | lst {a : Addr} {xs : List V} {ds : List D} : H a = some (.lst xs) → G a = none → ¬ P a → RepL xs ds → Rep (.ref a) (.lst ds)
  | frz {a : Addr} {xs : List V} {ds : List D} : FrzL K H a xs → RepL xs ds → Rep (.ref a) (.scr ds)
inductive RepL : List V → List D → Prop
  | nil : RepL [] []
  | cons {v : V} {d : D} {vs : List V} {ds : List D} : Rep v d → RepL vs ds → RepL (v :: vs) (d :: ds)
end
/-- one slot -/
def RepO : Option V → Option D → Prop
  | some v, some d => Rep K P G H v d
  | none, none => True
  | some _, none => True
  | none, some _ => False
inductive RepS : List (Option V) → List (Option D) → Prop
  | nil : RepS [] []
  | cons {v : Option V} {d : Option D} {vs : List (Option V)} {ds : List (Option D)} : RepO K P G H v d → RepS vs ds → RepS (v :: vs) (d :: ds)
inductive RepF : List (Str × V) → List (Str × D) → Prop
  | nil : RepF [] []
  | cons {f : Str} {v : V} {d : D} {vs : List (Str × V)} {ds : List (Str × D)} : Rep K P G H v d → RepF vs ds → RepF ((f, v) :: vs) ((f, d) :: ds)
def RelG (a : Addr) : GO → Prop
  | .lst ds => ∃ xs, H a = some (.lst xs) ∧ RepL K P G H xs ds
  | .ins C fs => ∃ dx gs, H a = some (.ins C dx gs) ∧ RepF K P G H gs fs
  | .tab q => LamX.TabS H a q
structure Rl : Prop where
  h : ∀ a o, G a = some o → RelG K P G H a o
  p : ∀ a, P a → G a = none ∧ ∃ xs, H a = some (.lst xs)
end
def Tbl : HO → Prop
  | .tbl _ => True
  | _ => False
/-- what was there stays, but for what may change -/
def Step (G : GH) (H : Hp) (G' : GH) (H' : Hp) : Prop := ∀ a o, H a = some o → ¬ Tbl o → G a = none → H' a = some o ∧ G' a = none
theorem Step.refl (G : GH) (H : Hp) : Step G H G H := fun _ _ h _ g => ⟨h, g⟩
theorem Step.trans {G G1 G2 : GH} {H H1 H2 : Hp} (a : Step G H G1 H1) (b : Step G1 H1 G2 H2) : Step G H G2 H2 := fun c o h n g =>
  let ⟨h1, g1⟩ := a c o h n g
  b c o h1 n g1

section
variable {K : PySem.W.Frag} {P : Addr → Prop} {G G' : GH} {H H' : Hp}
theorem Rl.tupG (r : Rl K P G H) {a : Addr} {o : HO} (h : H a = some o) (h1 : ∀ xs, o ≠ .lst xs) (h2 : ∀ C dx gs, o ≠ .ins C dx gs) (h3 : ¬ Tbl o) : G a = none := by
  cases e : G a with
  | none => rfl
  | some g =>
    have q := r.h a g e
    cases g with
    | lst ds =>
      obtain ⟨xs, e1, _⟩ := q
      rw [h] at e1
      exact absurd (Option.some.inj e1) (h1 xs)
    | ins C fs =>
      obtain ⟨dx, gs, e1, _⟩ := q
      rw [h] at e1
      exact absurd (Option.some.inj e1) (h2 C dx gs)
    | tab q' =>
      obtain ⟨ps, e1, _⟩ := q
      rw [h] at e1
      cases (Option.some.inj e1)
      exact absurd trivial h3
theorem Step.sqT (r : Rl K P G H) (s : Step G H G' H') {a : Addr} {xs : List V} (h : SqT K H a xs) : SqT K H' a xs := by
  rcases h with (h | ⟨o, h⟩) | h
  · exact .inl (.inl (s a _ h (fun z => z) (r.tupG h (fun _ z => nomatch z) (fun _ _ _ z => nomatch z) (fun z => z))).1)
  · exact .inl (.inr ⟨o, (s a _ h (fun z => z) (r.tupG h (fun _ z => nomatch z) (fun _ _ _ z => nomatch z) (fun z => z))).1⟩)
  · exact .inr h
theorem Step.frz (r : Rl K P G H) (s : Step G H G' H') {a : Addr} {xs : List V} (h : FrzL K H a xs) : FrzL K H' a xs := by
  rcases h with ⟨o, h⟩ | h
  · exact .inl ⟨o, (s a _ h (fun z => z) (r.tupG h (fun _ z => nomatch z) (fun _ _ _ z => nomatch z) (fun z => z))).1⟩
  · exact .inr h
mutual
theorem Rep.mono (r : Rl K P G H) (s : Step G H G' H') : ∀ {v : V} {d : D}, Rep K P G H v d → Rep K P G' H' v d
  | _, _, .non => .non
  | _, _, .bl b => .bl b
  | _, _, .int i => .int i
  | _, _, .str x => .str x
  | _, _, .ty n => .ty n
  | _, _, .ref a => .ref a
  | _, _, .tup h t => .tup (s.sqT r h) (RepL.mono r s t)
  | _, _, .lst h g p t => .lst (s _ _ h (fun z => z) g).1 (s _ _ h (fun z => z) g).2 p (RepL.mono r s t)
  | _, _, .frz h t => .frz (s.frz r h) (RepL.mono r s t)
theorem RepL.mono (r : Rl K P G H) (s : Step G H G' H') : ∀ {v : List V} {d : List D}, RepL K P G H v d → RepL K P G' H' v d
  | _, _, .nil => .nil
  | _, _, .cons h t => .cons (Rep.mono r s h) (RepL.mono r s t)
end
theorem RepO.mono (r : Rl K P G H) (s : Step G H G' H') : ∀ {v : Option V} {d : Option D}, RepO K P G H v d → RepO K P G' H' v d
  | some _, some _, h => Rep.mono r s h
  | none, none, _ => trivial
  | some _, none, _ => trivial
  | none, some _, h => h.elim
theorem RepS.mono (r : Rl K P G H) (s : Step G H G' H') : ∀ {v : List (Option V)} {d : List (Option D)}, RepS K P G H v d → RepS K P G' H' v d
  | _, _, .nil => .nil
  | _, _, .cons h t => .cons (RepO.mono r s h) (RepS.mono r s t)
theorem RepF.mono (r : Rl K P G H) (s : Step G H G' H') : ∀ {v : List (Str × V)} {d : List (Str × D)}, RepF K P G H v d → RepF K P G' H' v d
  | _, _, .nil => .nil
  | _, _, .cons h t => .cons (Rep.mono r s h) (RepF.mono r s t)
theorem RepL.length : ∀ {xs : List V} {ds : List D}, RepL K P G H xs ds → xs.length = ds.length
  | _, _, .nil => rfl
  | _, _, .cons _ t => congrArg (· + 1) (RepL.length t)
theorem RepS.length : ∀ {xs : List (Option V)} {ds : List (Option D)}, RepS K P G H xs ds → xs.length = ds.length
  | _, _, .nil => rfl
  | _, _, .cons _ t => congrArg (· + 1) (RepS.length t)
theorem RepL.get : ∀ {xs : List V} {ds : List D} {i : Nat} {d : D}, RepL K P G H xs ds → ds[i]? = some d → ∃ v, xs[i]? = some v ∧ Rep K P G H v d
  | _, _, _, _, .nil, e => by simp at e
  | _, _, 0, _, .cons h _, e => by simp at e; subst e; exact ⟨_, rfl, h⟩
  | _, _, i + 1, _, .cons _ t, e => by
    obtain ⟨v, h1, h2⟩ := RepL.get (i := i) t (by simpa using e)
    exact ⟨v, by simpa using h1, h2⟩
theorem RepL.getV : ∀ {xs : List V} {ds : List D} {i : Nat} {v : V}, RepL K P G H xs ds → xs[i]? = some v → ∃ d, ds[i]? = some d ∧ Rep K P G H v d
  | _, _, _, _, .nil, e => by simp at e
  | _, _, 0, _, .cons h _, e => by simp at e; subst e; exact ⟨_, rfl, h⟩
  | _, _, i + 1, _, .cons _ t, e => by
    obtain ⟨v, h1, h2⟩ := RepL.getV (i := i) t (by simpa using e)
    exact ⟨v, by simpa using h1, h2⟩
theorem RepL.append : ∀ {xs ys : List V} {ds es : List D}, RepL K P G H xs ds → RepL K P G H ys es → RepL K P G H (xs ++ ys) (ds ++ es)
  | _, _, _, _, .nil, s => s
  | _, _, _, _, .cons r t, s => .cons r (RepL.append t s)
theorem RepL.take : ∀ {xs : List V} {ds : List D} (n : Nat), RepL K P G H xs ds → RepL K P G H (xs.take n) (ds.take n)
  | _, _, 0, _ => .nil
  | _, _, _ + 1, .nil => .nil
  | _, _, n + 1, .cons r t => .cons r (RepL.take n t)
theorem RepL.drop : ∀ {xs : List V} {ds : List D} (n : Nat), RepL K P G H xs ds → RepL K P G H (xs.drop n) (ds.drop n)
  | _, _, 0, r => r
  | _, _, _ + 1, .nil => .nil
  | _, _, n + 1, .cons _ t => RepL.drop n t
theorem RepL.reverse {xs : List V} {ds : List D} (r : RepL K P G H xs ds) : RepL K P G H xs.reverse ds.reverse := by
  induction ds generalizing xs with
  | nil => cases r; exact .nil
  | cons d ds ih =>
    cases r with
    | cons h t =>
      rw [List.reverse_cons, List.reverse_cons]
      exact (ih t).append (.cons h .nil)
theorem RepL.set {v : V} {d : D} (h : Rep K P G H v d) : ∀ {xs : List V} {ds : List D} (i : Nat), RepL K P G H xs ds → RepL K P G H (xs.set i v) (ds.set i d)
  | _, _, _, .nil => .nil
  | _, _, 0, .cons _ t => .cons h t
  | _, _, i + 1, .cons q t => .cons q (RepL.set h i t)
theorem RepL.dropLast {xs : List V} {ds : List D} (r : RepL K P G H xs ds) : RepL K P G H xs.dropLast ds.dropLast := by
  rw [List.dropLast_eq_take, List.dropLast_eq_take, r.length]
  exact r.take _
theorem RepL.replicate {xs : List V} {ds : List D} (r : RepL K P G H xs ds) : ∀ n : Nat, RepL K P G H (List.replicate n xs).flatten (List.replicate n ds).flatten
  | 0 => .nil
  | n + 1 => by
    rw [List.replicate_succ, List.replicate_succ, List.flatten_cons, List.flatten_cons]
    exact r.append (RepL.replicate r n)
theorem RepS.set {v : V} {d : D} (h : Rep K P G H v d) : ∀ {xs : List (Option V)} {ds : List (Option D)} (i : Nat), RepS K P G H xs ds → RepS K P G H (xs.set i (some v)) (ds.set i (some d))
  | _, _, _, .nil => .nil
  | _, _, 0, .cons _ t => .cons h t
  | _, _, i + 1, .cons q t => .cons q (RepS.set h i t)
theorem RepS.forget : ∀ {xs : List (Option V)} {ds : List (Option D)} (i : Nat), RepS K P G H xs ds → RepS K P G H (xs.set i none) (ds.set i none)
  | _, _, _, .nil => .nil
  | _, _, 0, .cons _ t => .cons trivial t
  | _, _, i + 1, .cons q t => .cons q (RepS.forget i t)
theorem RepS.get : ∀ {xs : List (Option V)} {ds : List (Option D)} {i : Nat} {d : D}, RepS K P G H xs ds → ds[i]? = some (some d) → ∃ v, xs[i]? = some (some v) ∧ Rep K P G H v d
  | _, _, _, _, .nil, e => by simp at e
  | v :: _, _, 0, _, .cons h _, e => by
    simp at e; subst e
    cases v with
    | none => exact h.elim
    | some v => exact ⟨_, rfl, h⟩
  | _, _, i + 1, _, .cons _ t, e => by
    obtain ⟨v, h1, h2⟩ := RepS.get (i := i) t (by simpa using e)
    exact ⟨v, by simpa using h1, h2⟩
theorem RepF.lookup : ∀ {xs : List (Str × V)} {ds : List (Str × D)} {f : Str} {d : D}, RepF K P G H xs ds → ds.lookup f = some d → ∃ v, xs.lookup f = some v ∧ Rep K P G H v d
  | _, _, _, _, .nil, e => by simp at e
  | _, _, f, d, .cons (f := g) (v := v) (d := d') h t, e => by
    rw [List.lookup_cons] at e ⊢
    cases q : (f == g) with
    | true =>
      rw [q] at e
      exact ⟨v, rfl, by cases e; exact h⟩
    | false =>
      rw [q] at e
      exact RepF.lookup t e
theorem RepF.lookup_none : ∀ {xs : List (Str × V)} {ds : List (Str × D)} {f : Str}, RepF K P G H xs ds → ds.lookup f = none → xs.lookup f = none
  | _, _, _, .nil, _ => rfl
  | _, _, f, .cons (f := g) h t, e => by
    rw [List.lookup_cons] at e ⊢
    cases q : (f == g) with
    | true => rw [q] at e; cases e
    | false => rw [q] at e; exact RepF.lookup_none t e
theorem RepF.length : ∀ {xs : List (Str × V)} {ds : List (Str × D)}, RepF K P G H xs ds → xs.length = ds.length
  | _, _, .nil => rfl
  | _, _, .cons _ t => congrArg (· + 1) (RepF.length t)
end
end DL

end

section
set_option Elab.async false
set_option linter.all false
set_option maxRecDepth 100000
set_option maxHeartbeats 1000000
namespace DL
open PySem PySem.Spec PyProof.Rows L2

/-! ## states: what a store leaves -/
section
variable {K : PySem.W.Frag} {P : Addr → Prop} {G G' : GH} {H H' : Hp} {p : Addr} {o : HO} {xs : List V} {ds : List D}
theorem Rl.free (r : Rl K P G H) (h : H p = none) : G p = none := by
  cases e : G p with
  | none => rfl
  | some g =>
    have q := r.h p g e
    cases g with
    | lst ds => obtain ⟨xs, e1, _⟩ := q; rw [h] at e1; cases e1
    | ins C fs => obtain ⟨dx, gs, e1, _⟩ := q; rw [h] at e1; cases e1
    | tab q' => obtain ⟨ps, e1, _⟩ := q; rw [h] at e1; cases e1
theorem Rl.nP (r : Rl K P G H) (h : H p = none) : ¬ P p := fun z => by
  obtain ⟨_, xs, e⟩ := r.p p z
  rw [h] at e; cases e
theorem step_new (h : H p = none) : Step G H G (upd H p o) := fun a u e n g => ⟨by rw [upd_ne (ne_of_none e h)]; exact e, g⟩
theorem step_newG {go : GO} (h : H p = none) : Step G H (updG G p go) (upd H p o) := fun a u e n g => ⟨by rw [upd_ne (ne_of_none e h)]; exact e, by rw [updG_ne (ne_of_none e h)]; exact g⟩
theorem step_put {go go' : GO} (h : G p = some go) : Step G H (updG G p go') (upd H p o) := fun a u e n g => by
  have z : a ≠ p := fun z => by rw [z, h] at g; cases g
  exact ⟨by rw [upd_ne z]; exact e, by rw [updG_ne z]; exact g⟩
theorem tabS_ext {H H' : Hp} {a : Addr} {q : Str} (t : LamX.TabS H a q) (ha : ∀ o, H a = some o → H' a = some o) (e : ∀ b q, H b = some (LamX.CodeO b q) → H' b = some (LamX.CodeO b q)) : LamX.TabS H' a q := by
  obtain ⟨ps, h1, h2, h3⟩ := t
  refine ⟨ps, ha _ h1, h2, fun pos cv hc => ?_⟩
  obtain ⟨c, e1, e2⟩ := h3 pos cv hc
  exact ⟨c, e1, e _ _ e2⟩
/-- what G tells stays so -/
theorem RelG.mono (r : Rl K P G H) (s : Step G H G' H') {a : Addr} {g : GO} (h : RelG K P G H a g) (ha : ∀ u, H a = some u → H' a = some u) (hc : ∀ b q, H b = some (LamX.CodeO b q) → H' b = some (LamX.CodeO b q)) : RelG K P G' H' a g := by
  cases g with
  | lst ds => obtain ⟨xs, e, q⟩ := h; exact ⟨xs, ha _ e, q.mono r s⟩
  | ins C fs => obtain ⟨dx, gs, e, q⟩ := h; exact ⟨dx, gs, ha _ e, q.mono r s⟩
  | tab q => exact tabS_ext h ha hc
theorem Rl.new (r : Rl K P G H) (h : H p = none) : Rl K P G (upd H p o) where
  h := fun a g e => (r.h a g e).mono r (step_new h) (fun u q => by rw [upd_ne (ne_of_none q h)]; exact q) fun b q z => by rw [upd_ne (ne_of_none z h)]; exact z
  p := fun a z => by
    obtain ⟨g, xs, e⟩ := r.p a z
    exact ⟨g, xs, by rw [upd_ne (ne_of_none e h)]; exact e⟩
theorem Rl.newL (r : Rl K P G H) (h : H p = none) (x : RepL K P G H xs ds) : Rl K P (updG G p (.lst ds)) (upd H p (.lst xs)) where
  h := fun a g e => by
    by_cases q : a = p
    · subst q
      rw [updG_same] at e; cases e
      exact ⟨xs, upd_same, x.mono r (step_newG h)⟩
    · rw [updG_ne q] at e
      exact (r.h a g e).mono r (step_newG h) (fun u q => by rw [upd_ne (ne_of_none q h)]; exact q) fun b q z => by rw [upd_ne (ne_of_none z h)]; exact z
  p := fun a z => by
    obtain ⟨g, xs, e⟩ := r.p a z
    have n := ne_of_none e h
    exact ⟨by rw [updG_ne n]; exact g, xs, by rw [upd_ne n]; exact e⟩
theorem Rl.put {ds' : List D} {xs' : List V} (r : Rl K P G H) (h : G p = some (.lst ds)) (x : RepL K P G H xs' ds') : Rl K P (updG G p (.lst ds')) (upd H p (.lst xs')) where
  h := fun a g e => by
    obtain ⟨xs, hp, _⟩ := r.h p _ h
    by_cases q : a = p
    · subst q
      rw [updG_same] at e; cases e
      exact ⟨xs', upd_same, x.mono r (step_put h)⟩
    · rw [updG_ne q] at e
      refine (r.h a g e).mono r (step_put h) (fun u z => by rw [upd_ne q]; exact z) fun b q z => ?_
      rw [upd_ne (fun w => by rw [w, hp] at z; cases z)]; exact z
  p := fun a z => by
    obtain ⟨g, xs, e⟩ := r.p a z
    have n : a ≠ p := fun w => by rw [w, h] at g; cases g
    exact ⟨by rw [updG_ne n]; exact g, xs, by rw [upd_ne n]; exact e⟩
theorem Rep.newT (r : Rl K P G H) (h : H p = none) (x : RepL K P G H xs ds) : Rep K P G (upd H p (.tup xs)) (.ref p) (.tup ds) := .tup (.of upd_same) (x.mono r (step_new h))
theorem Rep.newL (r : Rl K P G H) (h : H p = none) (x : RepL K P G H xs ds) : Rep K P G (upd H p (.lst xs)) (.ref p) (.lst ds) := .lst upd_same (r.free h) (r.nP h) (x.mono r (step_new h))
end

/-! ## sequences -/
def asL : D → GH → Option (List D)
  | .lst a, _ => some a
  | .ref p, G => match G p with
    | some (.lst a) => some a
    | _ => none
  | _, _ => none
def asQ : D → GH → Option (List D)
  | .lst a, _ => some a
  | .tup a, _ => some a
  | .scr a, _ => some a
  | .ref p, G => match G p with
    | some (.lst a) => some a
    | _ => none
  | _, _ => none
section
variable {K : PySem.W.Frag} {P : Addr → Prop} {G : GH} {H : Hp} {v : V} {d : D} {ds : List D}
theorem asL_rep (r : Rl K P G H) (h : Rep K P G H v d) (e : asL d G = some ds) : ∃ p xs, v = .ref p ∧ H p = some (.lst xs) ∧ RepL K P G H xs ds := by
  cases h with
  | lst h1 _ _ t => cases e; exact ⟨_, _, rfl, h1, t⟩
  | ref a =>
    have e1 : (match G a with | some (.lst a) => some a | _ => none) = some ds := e
    split at e1
    · rename_i z
      cases e1
      obtain ⟨xs, h1, t⟩ := r.h a _ z
      exact ⟨_, _, rfl, h1, t⟩
    · cases e1
  | _ => cases e
theorem asQ_rep (r : Rl K P G H) (h : Rep K P G H v d) (e : asQ d G = some ds) : ∃ p xs, v = .ref p ∧ (SqL K H p xs ∨ SqT K H p xs) ∧ RepL K P G H xs ds := by
  cases h with
  | lst h1 _ _ t => cases e; exact ⟨_, _, rfl, .inl (.of h1), t⟩
  | tup h1 t => cases e; exact ⟨_, _, rfl, .inr h1, t⟩
  | frz h1 t => cases e; exact ⟨_, _, rfl, .inl h1.seq, t⟩
  | ref a =>
    have e1 : (match G a with | some (.lst a) => some a | _ => none) = some ds := e
    split at e1
    · rename_i z
      cases e1
      obtain ⟨xs, h1, t⟩ := r.h a _ z
      exact ⟨_, _, rfl, .inl (.of h1), t⟩
    · cases e1
  | _ => cases e
end

/-! ## readings over data, and what they stand for -/
abbrev DSt := List (Option D)
abbrev DK := D → GH → Prop
abbrev DE := DSt → GH → DK → Prop
abbrev DT := DSt → GH → (Bool → GH → Prop) → Prop
abbrev DA := DSt → GH → (List D → GH → Prop) → Prop
structure DEnds where
  nx : DSt → GH → Prop
  rt : DK
  bk : DSt → GH → Prop := fun _ _ => False
  ct : DSt → GH → Prop := fun _ _ => False
abbrev DS := DEnds → DSt → GH → Prop
/-- an exception: its class, its one field -/
structure DX where
  cls : Addr
  fld : Str
  val : D
abbrev DXK := DX → GH → Prop
def noX : DXK := fun _ _ => False
structure DC where
  P : Addr → Prop
  G0 : GH
  H0 : Hp
structure Cur (K : PySem.W.Frag) (c : DC) (σ : L2.St) (H : Hp) (ρ : DSt) (G : GH) : Prop where
  rl : Rl K c.P G H
  st : Step c.G0 c.H0 G H
  env : RepS K c.P G H σ ρ
theorem Cur.step {K : PySem.W.Frag} {c : DC} {σ : L2.St} {H H' : Hp} {ρ : DSt} {G G' : GH} (u : Cur K c σ H ρ G) (s : Step G H G' H') (r : Rl K c.P G' H') : Cur K c σ H' ρ G' :=
  ⟨r, u.st.trans s, u.env.mono u.rl s⟩
def lE (K : PySem.W.Frag) (c : DC) (t : DE) : TE := fun σ H Q => ∃ ρ G QD, Cur K c σ H ρ G ∧ t ρ G QD ∧ ∀ d G' v H', QD d G' → Step G H G' H' → Rl K c.P G' H' → Rep K c.P G' H' v d → Q v H'
def lT (K : PySem.W.Frag) (c : DC) (t : DT) : TT := fun σ H Q => ∃ ρ G QD, Cur K c σ H ρ G ∧ t ρ G QD ∧ ∀ b G' H', QD b G' → Step G H G' H' → Rl K c.P G' H' → Q b H'
def lA (K : PySem.W.Frag) (c : DC) (t : DA) : TA := fun σ H Q => ∃ ρ G QD, Cur K c σ H ρ G ∧ t ρ G QD ∧ ∀ ds G' vs H', QD ds G' → Step G H G' H' → Rl K c.P G' H' → RepL K c.P G' H' vs ds → Q vs H'
structure EndsOk (K : PySem.W.Frag) (c : DC) (G0 : GH) (H0 : Hp) (D : DEnds) (E : Ends) : Prop where
  nx : ∀ ρ G σ H, D.nx ρ G → Step G0 H0 G H → Cur K c σ H ρ G → E.nx σ H
  rt : ∀ d G v H, D.rt d G → Step G0 H0 G H → Rl K c.P G H → Rep K c.P G H v d → E.rt v H
  bk : ∀ ρ G σ H, D.bk ρ G → Step G0 H0 G H → Cur K c σ H ρ G → E.bk σ H
  ct : ∀ ρ G σ H, D.ct ρ G → Step G0 H0 G H → Cur K c σ H ρ G → E.ct σ H
def lS (K : PySem.W.Frag) (c : DC) (t : DS) : TS := fun E σ H => ∃ ρ G D, Cur K c σ H ρ G ∧ t D ρ G ∧ EndsOk K c G H D E

theorem PE_imp {X : Cx} {e : Expr} {t t' : TE} (h : PE X e t) (i : ∀ σ H Q, t' σ H Q → t σ H Q) : PE X e t' := ⟨fun pins s σ H Q I q => h.run pins s σ H Q I (i _ _ _ q)⟩
theorem PT_imp {X : Cx} {e : Expr} {t t' : TT} (h : PT X e t) (i : ∀ σ H Q, t' σ H Q → t σ H Q) : PT X e t' := ⟨fun pins s σ H Q I q => h.run pins s σ H Q I (i _ _ _ q)⟩
theorem PW_imp {X : Cx} {e : Expr} {t t' : TT} (h : PW X e t) (i : ∀ σ H Q, t' σ H Q → t σ H Q) : PW X e t' := ⟨fun w pins s σ H Q I q => h.run w pins s σ H Q I (i _ _ _ q)⟩
theorem PA_imp {X : Cx} {e : List Expr} {t t' : TA} (h : PA X e t) (i : ∀ σ H Q, t' σ H Q → t σ H Q) : PA X e t' := ⟨fun pos pins s σ H Q I q => h.run pos pins s σ H Q I (i _ _ _ q)⟩
theorem PS_imp {X : Cx} {e : Stmt} {t t' : TS} (h : PS X e t) (i : ∀ E σ H, t' E σ H → t E σ H) : PS X e t' := ⟨fun pins s σ H D I q => h.run pins s σ H D I (i _ _ _ q)⟩
theorem PSs_imp {X : Cx} {e : List Stmt} {t t' : TS} (h : PSs X e t) (i : ∀ E σ H, t' E σ H → t E σ H) : PSs X e t' := ⟨fun pins s σ H D I q => h.run pins s σ H D I (i _ _ _ q)⟩
section
variable {X : Cx} {c : DC}
/-! ### names, constants -/
def getS : DSt → Nat → Option D
  | x :: _, 0 => x
  | _ :: r, n + 1 => getS r n
  | [], _ => none
theorem getS_eq : ∀ {ρ : DSt} {i : Nat} {d : D}, getS ρ i = some d → ρ[i]? = some (some d)
  | x :: _, 0, d, h => by
    have h : x = some d := h
    simp [h]
  | _ :: r, n + 1, d, h => by
    have := getS_eq (ρ := r) (i := n) (d := d) h
    simpa using this
  | [], _, _, h => nomatch h
def dVar (i : Nat) : DE := fun ρ G Q => match getS ρ i with
  | some d => Q d G
  | none => False
theorem d_var {i : Nat} {x : Str} {pos : Pos} (hN : X.N[i]? = some x := by rfl) (hv : Vis X.env.scope x := by first | exact Or.inl rfl | exact Or.inr (Or.inl rfl) | exact Or.inr (Or.inr rfl)) (hd : (x == ("__debug__" : Str)) = false := by decide) (hcd : (x == ("__classdict__" : Str)) = false := by decide) :
    PE X (.Name x pos) (lE X.K c (dVar i)) := PE_imp (pe_var hN hv hd hcd) fun σ H Q ⟨ρ, G, QD, u, h, k⟩ => by
  unfold dVar at h
  split at h
  · rename_i d e
    obtain ⟨v, h1, h2⟩ := u.env.get (getS_eq e)
    exact ⟨v, h1, k _ _ _ _ h (Step.refl _ _) u.rl h2⟩
  · exact h.elim
def dC (d : D) : DE := fun _ G Q => Q d G
/-- a value that stands whatever the heap -/
def Flat : V → D → Prop := fun v d => ∀ (K : PySem.W.Frag) (P : Addr → Prop) (G : GH) (H : Hp), Rep K P G H v d
theorem d_c {e : Expr} {v : V} {d : D} (h : PE X e (tC v)) (f : Flat v d) : PE X e (lE X.K c (dC d)) := PE_imp h fun σ H Q ⟨ρ, G, QD, u, h, k⟩ => k _ _ _ _ h (Step.refl _ _) u.rl (f _ _ _ _)
theorem d_int {i j pos} : PE X (.Constant (.int i) j pos) (lE X.K c (dC (.int i))) := d_c pe_int fun _ _ _ _ => .int i
theorem d_bl {b j pos} : PE X (.Constant (.bool b) j pos) (lE X.K c (dC (.bl b))) := d_c pe_bl fun _ _ _ _ => .bl b
theorem d_non {j pos} : PE X (.Constant .none j pos) (lE X.K c (dC .non)) := d_c pe_non fun _ _ _ _ => .non
theorem d_str {x j pos} : PE X (.Constant (.str x) j pos) (lE X.K c (dC (.str x))) := d_c pe_str fun _ _ _ _ => .str x
theorem d_gint {x : Str} {i : Int} {t : Tok} {pos : Pos} (hm : X.mg x = some (.int i t)) (hg : Gl X x := by rfl) (hd : (x == ("__debug__" : Str)) = false := by decide) : PE X (.Name x pos) (lE X.K c (dC (.int i))) :=
  d_c (pe_glob hg hm (v := .int i) ⟨t, rfl⟩ hd) fun _ _ _ _ => .int i
theorem d_gstr {x : Str} {z : Str} {t : Tok} {pos : Pos} (hm : X.mg x = some (.str z t)) (hg : Gl X x := by rfl) (hd : (x == ("__debug__" : Str)) = false := by decide) : PE X (.Name x pos) (lE X.K c (dC (.str z))) :=
  d_c (pe_glob hg hm (v := .str z) ⟨t, rfl⟩ hd) fun _ _ _ _ => .str z
/-- a built-in class as a value -/
theorem d_gty {x : Str} {n : String} {pos : Pos} (hm : X.mg x = none) (hv : bootBuiltins x = some (.type n)) (hg : Gl X x := by rfl) (hn : x ≠ "__name__" := by decide) (hd : (x == ("__debug__" : Str)) = false := by decide) : PE X (.Name x pos) (lE X.K c (dC (.ty n))) :=
  d_c (pe_bltn hg hm hv (v := .ty n) rfl hn hd) fun _ _ _ _ => .ty n
/-- a tuple of the module -/
theorem d_gtup {x : Str} {a : Addr} {vs : List V} {ds : List D} {pos : Pos} (hm : X.mg x = some (.ref a)) (hk : ∀ H, SqT X.K H a vs) (hr : ∀ (P : Addr → Prop) (G : GH) (H : Hp), RepL X.K P G H vs ds) (hg : Gl X x := by rfl) (hd : (x == ("__debug__" : Str)) = false := by decide) :
    PE X (.Name x pos) (lE X.K c (dC (.tup ds))) := PE_imp (pe_glob hg hm (v := .ref a) rfl hd) fun σ H Q ⟨ρ, G, QD, u, h, k⟩ => k _ _ _ _ h (Step.refl _ _) u.rl (.tup (hk H) (hr _ _ _))

/-! ### operators by values -/
abbrev R2D := D → D → GH → DK → Prop
def lR2 (K : PySem.W.Frag) (P : Addr → Prop) (r : R2D) : R2 := fun x y H Q => ∃ d e G QD, Rl K P G H ∧ Rep K P G H x d ∧ Rep K P G H y e ∧ r d e G QD ∧ ∀ d' G' v H', QD d' G' → Step G H G' H' → Rl K P G' H' → Rep K P G' H' v d' → Q v H'
def OpD (X : Cx) (f : Value → Value → Sem Value) (r : R2D) : Prop := ∀ P, OpR X f (lR2 X.K P r)
def dOp (r : R2D) (ta tb : DE) : DE := fun ρ G Q => ta ρ G fun x G1 => tb ρ G1 fun y G2 => r x y G2 Q
theorem op_imp {P : Addr → Prop} {K : PySem.W.Frag} {r : R2D} {ta tb : DE} {σ : L2.St} {H : Hp} {Q : VK} (h : lE K c (dOp r ta tb) σ H Q) (hP : c.P = P) : tOp (lR2 K P r) (lE K c ta) (lE K c tb) σ H Q := by
  subst hP
  obtain ⟨ρ, G, QD, u, h, k⟩ := h
  exact ⟨ρ, G, _, u, h, fun d G1 v H1 q s1 r1 p1 => ⟨ρ, G1, _, u.step s1 r1, q, fun e G2 w H2 q2 s2 r2 p2 => ⟨d, e, G2, QD, r2, p1.mono r1 s2, p2, q2, fun d' G' v' H' q3 s3 r3 p3 => k _ _ _ _ q3 (s1.trans (s2.trans s3)) r3 p3⟩⟩⟩
variable {a b : Expr} {ta tb : DE} {pos : Pos}
theorem d_op {op : Operator} {r : R2D} (ho : OpD X (binaryOp op) r) (ha : PE X a (lE X.K c ta)) (hb : PE X b (lE X.K c tb)) : PE X (.BinOp a op b pos) (lE X.K c (dOp r ta tb)) :=
  PE_imp (pe_op (ho c.P) ha hb) fun _ _ _ h => op_imp h rfl
theorem d_cmp {op : CmpOp} {r : R2D} (ho : OpD X (compareOp op) r) (ha : PE X a (lE X.K c ta)) (hb : PE X b (lE X.K c tb)) (hm : behindInMarks op b = false) : PE X (.Compare a [op] [b] pos) (lE X.K c (dOp r ta tb)) :=
  PE_imp (pe_cmpR (ho c.P) ha hb hm) fun _ _ _ h => op_imp h rfl
/-- a value that must be a bool -/
def isB (Q : Bool → GH → Prop) : DK := fun d G => match d with
  | .bl b => Q b G
  | _ => False
def dTst (t : DE) : DT := fun ρ G Q => t ρ G (isB Q)
theorem dt_cmp {op : CmpOp} {r : R2D} (ho : OpD X (compareOp op) r) (ha : PE X a (lE X.K c ta)) (hb : PE X b (lE X.K c tb)) (hm : behindInMarks op b = false) : PT X (.Compare a [op] [b] pos) (lT X.K c (dTst (dOp r ta tb))) :=
  PT_imp (pt_cmpR (ho c.P) ha hb hm) fun σ H Q ⟨ρ, G, QD, u, h, k⟩ => op_imp (Q := fun x H' => ∃ k, x = .bl k ∧ Q k H') ⟨ρ, G, isB QD, u, h, fun d G' v H' q s r p => by
    cases p with
    | bl b => exact ⟨b, rfl, k _ _ _ q s r⟩
    | _ => exact (show False from q).elim⟩ rfl
/-- a < b < c -/
def dChain (r r' : R2D) (ta tb tc : DE) : DE := fun ρ G Q => ta ρ G fun x G1 => tb ρ G1 fun y G2 => r x y G2 (isB fun b G3 => if b = true then tc ρ G3 fun z G4 => r' y z G4 Q else Q (.bl false) G3)
theorem chain_imp {K : PySem.W.Frag} {r r' : R2D} {ta tb tc : DE} {σ : L2.St} {H : Hp} {Q : VK} (h : lE K c (dChain r r' ta tb tc) σ H Q) : tChain (lR2 K c.P r) (lR2 K c.P r') (lE K c ta) (lE K c tb) (lE K c tc) σ H Q := by
  obtain ⟨ρ, G, QD, u, h, k⟩ := h
  refine ⟨ρ, G, _, u, h, fun d G1 v H1 q s1 r1 p1 => ⟨ρ, G1, _, u.step s1 r1, q, fun e G2 w H2 q2 s2 r2 p2 => ⟨d, e, G2, _, r2, p1.mono r1 s2, p2, q2, fun d' G3 v' H3 q3 s3 r3 p3 => ?_⟩⟩⟩
  cases p3 with
  | bl b =>
    refine ⟨b, rfl, ?_⟩
    cases b with
    | true =>
      exact ⟨ρ, G3, _, (u.step s1 r1).step (s2.trans s3) r3, q3, fun f G4 z H4 q4 s4 r4 p4 => ⟨e, f, G4, QD, r4, p2.mono r2 (s3.trans s4), p4, q4, fun d' G' v' H' q5 s5 r5 p5 => k _ _ _ _ q5 (s1.trans (s2.trans (s3.trans (s4.trans s5)))) r5 p5⟩⟩
    | false => exact k _ _ _ _ q3 (s1.trans (s2.trans s3)) r3 (.bl false)
  | _ => exact (show False from q3).elim
theorem d_chain {op op' : CmpOp} {r r' : R2D} {e : Expr} {tc : DE} (ho : OpD X (compareOp op) r) (ho' : OpD X (compareOp op') r') (ha : PE X a (lE X.K c ta)) (hb : PE X b (lE X.K c tb)) (hc : PE X e (lE X.K c tc))
    (hm : lastMarks [op, op'] [b, e] = false := by with_unfolding_all rfl) : PE X (.Compare a [op, op'] [b, e] pos) (lE X.K c (dChain r r' ta tb tc)) :=
  PE_imp (pe_chain (ho c.P) (ho' c.P) ha hb hc hm) fun _ _ _ h => chain_imp h
end
end DL

end

section
set_option Elab.async false
set_option linter.all false
set_option maxRecDepth 100000
set_option maxHeartbeats 1000000
namespace DL
open PySem PySem.Spec PyProof.Rows L2
section
variable {X : Cx} {c : DC} {e : Expr} {es : List Expr} {te : DE} {ta : DA} {pos : Pos}
/-! ### arguments, displays -/
def dNil : DA := fun _ G Q => Q [] G
def dCons (te : DE) (ta : DA) : DA := fun ρ G Q => te ρ G fun d G1 => ta ρ G1 fun ds G2 => Q (d :: ds) G2
theorem da_nil : PA X [] (lA X.K c dNil) := PA_imp pa_nil fun σ H Q ⟨ρ, G, QD, u, h, k⟩ => k _ _ _ _ h (Step.refl _ _) u.rl .nil
theorem da_cons (ha : PE X e (lE X.K c te)) (hr : PA X es (lA X.K c ta)) (hs : starEach (e :: es) X.env = (false, eval e X.env) :: starEach es X.env := by rfl) : PA X (e :: es) (lA X.K c (dCons te ta)) :=
  PA_imp (pa_cons ha hr hs) fun σ H Q ⟨ρ, G, QD, u, h, k⟩ => ⟨ρ, G, _, u, h, fun d G1 v H1 q1 s1 r1 p1 => ⟨ρ, G1, _, u.step s1 r1, q1, fun ds G2 vs H2 q2 s2 r2 p2 => k _ _ _ _ q2 (s1.trans s2) r2 (.cons (p1.mono r1 s2) p2)⟩⟩
def dTup (ta : DA) : DE := fun ρ G Q => ta ρ G fun ds G1 => ds.length ≤ sizeLine ∧ Q (.tup ds) G1
def dLst (ta : DA) : DE := fun ρ G Q => ta ρ G fun ds G1 => ds.length ≤ sizeLine ∧ Q (.lst ds) G1
/-- a list that is written later -/
def dLstM (ta : DA) : DE := fun ρ G Q => ta ρ G fun ds G1 => ds.length ≤ sizeLine ∧ ∀ p, G1 p = none → Q (.ref p) (updG G1 p (.lst ds))
theorem d_tup {x1} (h : PA X es (lA X.K c ta)) : PE X (.Tuple es x1 pos) (lE X.K c (dTup ta)) :=
  PE_imp (pe_tup h) fun σ H Q ⟨ρ, G, QD, u, h, k⟩ => ⟨ρ, G, _, u, h, fun ds G1 vs H1 ⟨q0, q1⟩ s1 r1 p1 => ⟨by rw [p1.length]; exact q0, fun p hp => k _ _ _ _ q1 (s1.trans (step_new hp)) (r1.new hp) (Rep.newT r1 hp p1)⟩⟩
theorem d_lst (h : PA X es (lA X.K c ta)) : PE X (.List es pos) (lE X.K c (dLst ta)) :=
  PE_imp (pe_lst h) fun σ H Q ⟨ρ, G, QD, u, h, k⟩ => ⟨ρ, G, _, u, h, fun ds G1 vs H1 ⟨q0, q1⟩ s1 r1 p1 => ⟨by rw [p1.length]; exact q0, fun p hp => k _ _ _ _ q1 (s1.trans (step_new hp)) (r1.new hp) (Rep.newL r1 hp p1)⟩⟩
theorem d_lstM (h : PA X es (lA X.K c ta)) : PE X (.List es pos) (lE X.K c (dLstM ta)) :=
  PE_imp (pe_lst h) fun σ H Q ⟨ρ, G, QD, u, h, k⟩ => ⟨ρ, G, _, u, h, fun ds G1 vs H1 ⟨q0, q1⟩ s1 r1 p1 => ⟨by rw [p1.length]; exact q0, fun p hp => k _ _ _ _ (q1 p (r1.free hp)) (s1.trans (step_newG hp)) (r1.newL hp p1) (.ref p)⟩⟩

/-! ### truth, and, or, not, if -/
def truD : D → GH → (Bool → Prop) → Prop
  | .non, _, k => k false
  | .bl b, _, k => k b
  | .int i, _, k => k (i != 0)
  | .str x, _, k => x.length ≤ sizeLine ∧ k ((x.length : Int) != 0)
  | .tup ds, _, k => k (!ds.isEmpty)
  | .lst ds, _, k => k (!ds.isEmpty)
  | .scr ds, _, k => k (!ds.isEmpty)
  | .ref p, G, k => match G p with
    | some (.lst ds) => k (!ds.isEmpty)
    | _ => False
  | .ty _, _, _ => False
theorem RepL.isEmpty {K : PySem.W.Frag} {P : Addr → Prop} {G : GH} {H : Hp} {xs : List V} {ds : List D} (r : RepL K P G H xs ds) : xs.isEmpty = ds.isEmpty := by
  cases r <;> rfl
theorem tru_rep {K : PySem.W.Frag} {P : Addr → Prop} {G : GH} {H : Hp} {v : V} {d : D} {k : Bool → Prop} (r : Rl K P G H) (h : Rep K P G H v d) (q : truD d G k) : ∃ b, TruV K v H b ∧ k b := by
  cases h with
  | non => exact ⟨false, rfl, q⟩
  | bl b => exact ⟨b, rfl, q⟩
  | int i => exact ⟨_, rfl, q⟩
  | str x => exact ⟨_, ⟨q.1, rfl⟩, q.2⟩
  | ty n => exact (show False from q).elim
  | tup h t => exact ⟨_, .inr (.inl ⟨_, h, rfl⟩), by rw [t.isEmpty]; exact q⟩
  | lst h _ _ t => exact ⟨_, .inl ⟨_, .of h, rfl⟩, by rw [t.isEmpty]; exact q⟩
  | frz h t => exact ⟨_, .inl ⟨_, h.seq, rfl⟩, by rw [t.isEmpty]; exact q⟩
  | ref a =>
    have q : (match G a with | some (.lst ds) => k (!ds.isEmpty) | _ => False) := q
    split at q
    · rename_i z
      obtain ⟨xs, h1, t⟩ := r.h a _ z
      exact ⟨_, .inl ⟨_, .of h1, rfl⟩, by rw [t.isEmpty]; exact q⟩
    · exact q.elim
def dTru (t : DE) : DT := fun ρ G Q => t ρ G fun d G1 => truD d G1 fun b => Q b G1
theorem dt_tru (h : PE X e (lE X.K c te)) (he : ∀ whole, isTrue e X.env whole = (do let v ← whole; standAt e.pos; holding [v] (truthy v)) := by intro _; rfl) : PT X e (lT X.K c (dTru te)) :=
  PT_imp (pt_truth h he) fun σ H Q ⟨ρ, G, QD, u, h, k⟩ => ⟨ρ, G, _, u, h, fun d G1 v H1 q s1 r1 p1 => by
    obtain ⟨b, e1, e2⟩ := tru_rep (k := fun b => QD b G1) r1 p1 q
    exact ⟨b, e1, k _ _ _ e2 s1 r1⟩⟩
variable {a b : Expr} {tA tB : DT} {ta' tb' : DE} {rest : List Expr}
def dAnd (t u : DT) : DT := fun ρ G Q => t ρ G fun c G1 => if c = true then u ρ G1 Q else Q false G1
def dOr (t u : DT) : DT := fun ρ G Q => t ρ G fun c G1 => if c = true then Q true G1 else u ρ G1 Q
def dNot (t : DT) : DT := fun ρ G Q => t ρ G fun c G1 => Q (!c) G1
theorem dw_and1 (ha : PT X a (lT X.K c tA)) : PW X (.BoolOp .And [a] pos) (lT X.K c tA) := pw_and1 ha
theorem dw_or1 (ha : PT X a (lT X.K c tA)) : PW X (.BoolOp .Or [a] pos) (lT X.K c tA) := pw_or1 ha
theorem dw_and (ha : PT X a (lT X.K c tA)) (hb : PW X (.BoolOp .And (b :: rest) pos) (lT X.K c tB)) : PW X (.BoolOp .And (a :: b :: rest) pos) (lT X.K c (dAnd tA tB)) :=
  PW_imp (pw_and ha hb) fun σ H Q ⟨ρ, G, QD, u, h, k⟩ => ⟨ρ, G, _, u, h, fun d G1 H1 q s1 r1 => by
    cases d with
    | true => exact ⟨ρ, G1, QD, u.step s1 r1, q, fun b G2 H2 q2 s2 r2 => k _ _ _ q2 (s1.trans s2) r2⟩
    | false => exact k _ _ _ q s1 r1⟩
theorem dw_or (ha : PT X a (lT X.K c tA)) (hb : PW X (.BoolOp .Or (b :: rest) pos) (lT X.K c tB)) : PW X (.BoolOp .Or (a :: b :: rest) pos) (lT X.K c (dOr tA tB)) :=
  PW_imp (pw_or ha hb) fun σ H Q ⟨ρ, G, QD, u, h, k⟩ => ⟨ρ, G, _, u, h, fun d G1 H1 q s1 r1 => by
    cases d with
    | false => exact ⟨ρ, G1, QD, u.step s1 r1, q, fun b G2 H2 q2 s2 r2 => k _ _ _ q2 (s1.trans s2) r2⟩
    | true => exact k _ _ _ q s1 r1⟩
theorem dt_not (ha : PT X a (lT X.K c tA)) : PT X (.UnaryOp .Not a pos) (lT X.K c (dNot tA)) :=
  PT_imp (pt_not ha) fun σ H Q ⟨ρ, G, QD, u, h, k⟩ => ⟨ρ, G, _, u, h, fun d G1 H1 q s1 r1 => k _ _ _ q s1 r1⟩
def dAndV (t u : DE) : DE := fun ρ G Q => t ρ G fun d G1 => truD d G1 fun b => if b = true then u ρ G1 Q else Q d G1
def dOrV (t u : DE) : DE := fun ρ G Q => t ρ G fun d G1 => truD d G1 fun b => if b = true then Q d G1 else u ρ G1 Q
def dNotV (t : DE) : DE := fun ρ G Q => t ρ G fun d G1 => truD d G1 fun b => Q (.bl (!b)) G1
theorem d_one {op} (h : PE X a (lE X.K c ta')) : PE X (.BoolOp op [a] pos) (lE X.K c ta') := pe_one h
theorem d_and (ha : PE X a (lE X.K c ta')) (hb : PE X (.BoolOp .And (b :: rest) pos) (lE X.K c tb')) : PE X (.BoolOp .And (a :: b :: rest) pos) (lE X.K c (dAndV ta' tb')) :=
  PE_imp (pe_andT ha hb) fun σ H Q ⟨ρ, G, QD, u, h, k⟩ => ⟨ρ, G, _, u, h, fun d G1 v H1 q s1 r1 p1 => by
    obtain ⟨b, e1, e2⟩ := tru_rep (k := fun b => if b = true then tb' ρ G1 QD else QD d G1) r1 p1 q
    refine ⟨b, e1, ?_⟩
    cases b with
    | true => exact ⟨ρ, G1, QD, u.step s1 r1, e2, fun b G2 v2 H2 q2 s2 r2 p2 => k _ _ _ _ q2 (s1.trans s2) r2 p2⟩
    | false => exact k _ _ _ _ e2 s1 r1 p1⟩
theorem d_or (ha : PE X a (lE X.K c ta')) (hb : PE X (.BoolOp .Or (b :: rest) pos) (lE X.K c tb')) : PE X (.BoolOp .Or (a :: b :: rest) pos) (lE X.K c (dOrV ta' tb')) :=
  PE_imp (pe_orT ha hb) fun σ H Q ⟨ρ, G, QD, u, h, k⟩ => ⟨ρ, G, _, u, h, fun d G1 v H1 q s1 r1 p1 => by
    obtain ⟨b, e1, e2⟩ := tru_rep (k := fun b => if b = true then QD d G1 else tb' ρ G1 QD) r1 p1 q
    refine ⟨b, e1, ?_⟩
    cases b with
    | false => exact ⟨ρ, G1, QD, u.step s1 r1, e2, fun b G2 v2 H2 q2 s2 r2 p2 => k _ _ _ _ q2 (s1.trans s2) r2 p2⟩
    | true => exact k _ _ _ _ e2 s1 r1 p1⟩
theorem d_not (ha : PE X a (lE X.K c ta')) : PE X (.UnaryOp .Not a pos) (lE X.K c (dNotV ta')) :=
  PE_imp (pe_notT ha) fun σ H Q ⟨ρ, G, QD, u, h, k⟩ => ⟨ρ, G, _, u, h, fun d G1 v H1 q s1 r1 p1 => by
    obtain ⟨b, e1, e2⟩ := tru_rep (k := fun b => QD (.bl (!b)) G1) r1 p1 q
    exact ⟨b, e1, k _ _ _ _ e2 s1 r1 (.bl _)⟩⟩
def dIf (t : DT) (u w : DE) : DE := fun ρ G Q => t ρ G fun c G1 => if c = true then u ρ G1 Q else w ρ G1 Q
theorem d_ifExp {cnd : Expr} (hc : PT X cnd (lT X.K c tA)) (ha : PE X a (lE X.K c ta')) (hb : PE X b (lE X.K c tb')) : PE X (.IfExp cnd a b pos) (lE X.K c (dIf tA ta' tb')) :=
  PE_imp (pe_ifExp hc ha hb) fun σ H Q ⟨ρ, G, QD, u, h, k⟩ => ⟨ρ, G, _, u, h, fun d G1 H1 q s1 r1 => by
    cases d with
    | true => exact ⟨ρ, G1, QD, u.step s1 r1, q, fun b G2 v2 H2 q2 s2 r2 p2 => k _ _ _ _ q2 (s1.trans s2) r2 p2⟩
    | false => exact ⟨ρ, G1, QD, u.step s1 r1, q, fun b G2 v2 H2 q2 s2 r2 p2 => k _ _ _ _ q2 (s1.trans s2) r2 p2⟩⟩
/-- a - sign -/
def uNeg : D → DK → GH → Prop := fun d Q G => match d with
  | .int i => Q (.int (-i)) G
  | _ => False
def dNeg (t : DE) : DE := fun ρ G Q => t ρ G fun d G1 => uNeg d Q G1
theorem d_neg (ha : PE X a (lE X.K c ta')) : PE X (.UnaryOp .USub a pos) (lE X.K c (dNeg ta')) :=
  PE_imp (pe_un un_neg ha) fun σ H Q ⟨ρ, G, QD, u, h, k⟩ => ⟨ρ, G, _, u, h, fun d G1 v H1 q s1 r1 p1 => by
    cases p1 with
    | int i => exact ⟨i, rfl, k _ _ _ _ q s1 r1 (.int _)⟩
    | _ => exact (show False from q).elim⟩

/-! ### calls of what the model brings -/
def dCB (r : List D → GH → DK → Prop) (t : DA) : DE := fun ρ G Q => t ρ G fun ds G1 => r ds G1 Q
def lCR (K : PySem.W.Frag) (P : Addr → Prop) (r : List D → GH → DK → Prop) : List V → Hp → VK → Prop := fun vs H Q => ∃ ds G QD, Rl K P G H ∧ RepL K P G H vs ds ∧ r ds G QD ∧ ∀ d' G' v H', QD d' G' → Step G H G' H' → Rl K P G' H' → Rep K P G' H' v d' → Q v H'
def CallD (X : Cx) (f : Value) (r : List D → GH → DK → Prop) : Prop := ∀ P, CallR X f (lCR X.K P r)
theorem cb_imp {K : PySem.W.Frag} {r : List D → GH → DK → Prop} {t : DA} {σ : L2.St} {H : Hp} {Q : VK} (h : lE K c (dCB r t) σ H Q) : tCB (lCR K c.P r) (lA K c t) σ H Q := by
  obtain ⟨ρ, G, QD, u, h, k⟩ := h
  exact ⟨ρ, G, _, u, h, fun ds G1 vs H1 q s1 r1 p1 => ⟨ds, G1, QD, r1, p1, q, fun d' G' v H' q2 s2 r2 p2 => k _ _ _ _ q2 (s1.trans s2) r2 p2⟩⟩
variable {x : Str} {p : Pos} {id T : String} {r : List D → GH → DK → Prop} {t : DA}
theorem d_callB (hc : CallD X (.builtin id) r) (hg : Gl X x) (hm : X.mg x = none) (hv : bootBuiltins x = some (.builtin id)) (ha : PA X (e :: es) (lA X.K c t)) (hn : x ≠ "__name__" := by decide) (hdb : (x == ("__debug__" : Str)) = false := by decide)
    (he : starEach (e :: es) X.env = (false, eval e X.env) :: starEach es X.env := by rfl) (hpl : (backTo pos (starEach es X.env)).any (·.1) = false := by rfl) : PE X (.Call (.Name x p) (e :: es) [] pos) (lE X.K c (dCB r t)) :=
  PE_imp (pe_callB (hc c.P) hg hm hv ha hn hdb he hpl) fun _ _ _ h => cb_imp h
theorem d_callTy (hc : CallD X (.type T) r) (hg : Gl X x) (hm : X.mg x = none) (hv : bootBuiltins x = some (.type T)) (ha : PA X (e :: es) (lA X.K c t)) (hn : x ≠ "__name__" := by decide) (hdb : (x == ("__debug__" : Str)) = false := by decide)
    (he : starEach (e :: es) X.env = (false, eval e X.env) :: starEach es X.env := by rfl) (hpl : (backTo pos (starEach es X.env)).any (·.1) = false := by rfl) : PE X (.Call (.Name x p) (e :: es) [] pos) (lE X.K c (dCB r t)) :=
  PE_imp (pe_callTy (hc c.P) hg hm hv ha hn hdb he hpl) fun _ _ _ h => cb_imp h

/-! ### items, slices -/
def lIx (K : PySem.W.Frag) (P : Addr → Prop) (r : R2D) : R2 := lR2 K P r
def IxD (X : Cx) (r : R2D) : Prop := ∀ P, IxR X (lR2 X.K P r)
theorem d_ix {r : R2D} (hr : IxD X r) (ha : PE X a (lE X.K c ta')) (hb : PE X b (lE X.K c tb')) (hs : PlainIx b := by exact fun _ _ => rfl) : PE X (.Subscript a b pos) (lE X.K c (dOp r ta' tb')) :=
  PE_imp (pe_ix (hr c.P) ha hb hs) fun _ _ _ h => op_imp h rfl
/-- a part of a slice -/
abbrev DO := DSt → GH → (Option Int → GH → Prop) → Prop
def lO (K : PySem.W.Frag) (c : DC) (t : DO) : TO := fun σ H Q => ∃ ρ G QD, Cur K c σ H ρ G ∧ t ρ G QD ∧ ∀ o G' H', QD o G' → Step G H G' H' → Rl K c.P G' H' → Q o H'
def dNoPart : DO := fun _ G Q => Q none G
def dPart (t : DE) : DO := fun ρ G Q => t ρ G fun d G1 => match d with
  | .int i => Q (some i) G1
  | _ => False
theorem do_none : PO X none (lO X.K c dNoPart) := ⟨fun pins s σ H Q I ⟨ρ, G, QD, u, h, k⟩ => po_none.run pins s σ H Q I (k _ _ _ h (Step.refl _ _) u.rl)⟩
theorem do_some (h : PE X e (lE X.K c te)) : PO X (some e) (lO X.K c (dPart te)) := ⟨fun pins s σ H Q I ⟨ρ, G, QD, u, q, k⟩ => (po_some h).run pins s σ H Q I ⟨ρ, G, _, u, q, fun d G1 v H1 q1 s1 r1 p1 => by
  cases p1 with
  | int i => exact ⟨i, rfl, k _ _ _ q1 s1 r1⟩
  | _ => exact (show False from q1).elim⟩⟩
abbrev RSl := D → Option Int → Option Int → GH → DK → Prop
def lSl (K : PySem.W.Frag) (P : Addr → Prop) (r : RSl) : V → Option Int → Option Int → Hp → VK → Prop := fun x lo hi H Q => ∃ d G QD, Rl K P G H ∧ Rep K P G H x d ∧ r d lo hi G QD ∧ ∀ d' G' v H', QD d' G' → Step G H G' H' → Rl K P G' H' → Rep K P G' H' v d' → Q v H'
def SlD (X : Cx) (r : RSl) : Prop := ∀ P, SlR X (lSl X.K P r)
def dSl (r : RSl) (te : DE) (tl th : DO) : DE := fun ρ G Q => te ρ G fun d G1 => tl ρ G1 fun l G2 => th ρ G2 fun u G3 => r d l u G3 Q
theorem d_slice {r : RSl} {lo hi : Option Expr} {tl th : DO} {p2 : Pos} (hr : SlD X r) (he : PE X e (lE X.K c te)) (hl : PO X lo (lO X.K c tl)) (hu : PO X hi (lO X.K c th)) : PE X (.Subscript e (.Slice lo hi none p2) pos) (lE X.K c (dSl r te tl th)) :=
  PE_imp (pe_slice (hr c.P) he hl hu) fun σ H Q ⟨ρ, G, QD, u, h, k⟩ => ⟨ρ, G, _, u, h, fun d G1 v H1 q1 s1 r1 p1 => ⟨ρ, G1, _, u.step s1 r1, q1, fun l G2 H2 q2 s2 r2 => ⟨ρ, G2, _, (u.step s1 r1).step s2 r2, q2, fun w G3 H3 q3 s3 r3 =>
    ⟨d, G3, QD, r3, p1.mono r1 (s2.trans s3), q3, fun d' G' v' H' q4 s4 r4 p4 => k _ _ _ _ q4 (s1.trans (s2.trans (s3.trans s4))) r4 p4⟩⟩⟩⟩
end
end DL

end

section
set_option Elab.async false
set_option linter.all false
set_option maxRecDepth 100000
set_option maxHeartbeats 1000000
namespace DL
open PySem PySem.Spec PyProof.Rows L2

/-! ## targets -/
inductive Tg where
  | name (i : Nat)
  | tup (ts : List Tg)
mutual
def setT : Tg → D → DSt → (DSt → Prop) → Prop
  | .name i, d, ρ, k => k (ρ.set i (some d))
  | .tup ts, d, ρ, k => match d with
    | .tup ds => setTs ts ds ρ k
    | _ => False
def setTs : List Tg → List D → DSt → (DSt → Prop) → Prop
  | [], [], ρ, k => k ρ
  | t :: ts, d :: ds, ρ, k => setT t d ρ fun ρ1 => setTs ts ds ρ1 k
  | _, _, _, _ => False
end
mutual
def Tg.slots : Tg → List Nat
  | .name i => [i]
  | .tup ts => slotsL ts
def slotsL : List Tg → List Nat
  | [] => []
  | t :: ts => t.slots ++ slotsL ts
end
theorem setTs_len : ∀ {ts : List Tg} {ds : List D} {ρ : DSt} {k : DSt → Prop}, setTs ts ds ρ k → (∀ t d ρ (k : DSt → Prop), setT t d ρ k → ∃ ρ', k ρ') → ts.length = ds.length
  | [], [], _, _, _, _ => rfl
  | t :: ts, d :: ds, ρ, k, h, f => by
    have h : setT t d ρ fun ρ1 => setTs ts ds ρ1 k := by simpa [setTs] using h
    obtain ⟨ρ', h'⟩ := f _ _ _ _ h
    exact congrArg (· + 1) (setTs_len h' f)
  | [], _ :: _, _, _, h, _ => by simp [setTs] at h
  | _ :: _, [], _, _, h, _ => by simp [setTs] at h
mutual
theorem setT_ex : ∀ (t : Tg) (d : D) (ρ : DSt) (k : DSt → Prop), setT t d ρ k → ∃ ρ', k ρ'
  | .name i, d, ρ, k, h => ⟨_, by simpa [setT] using h⟩
  | .tup ts, d, ρ, k, h => by
    cases d with
    | tup ds => exact setTs_ex ts ds ρ k (by simpa [setT] using h)
    | _ => simp [setT] at h
theorem setTs_ex : ∀ (ts : List Tg) (ds : List D) (ρ : DSt) (k : DSt → Prop), setTs ts ds ρ k → ∃ ρ', k ρ'
  | [], [], ρ, k, h => ⟨ρ, by simpa [setTs] using h⟩
  | t :: ts, d :: ds, ρ, k, h => by
    have h : setT t d ρ fun ρ1 => setTs ts ds ρ1 k := by simpa [setTs] using h
    obtain ⟨ρ', h'⟩ := setT_ex t d ρ _ h
    exact setTs_ex ts ds ρ' k h'
  | [], _ :: _, _, _, h => by simp [setTs] at h
  | _ :: _, [], _, _, h => by simp [setTs] at h
end
theorem wipe_set {v : Option V} : ∀ {vs : List Nat} {σ : L2.St} {i : Nat}, i ∈ vs → wipe (σ.set i v) vs = wipe σ vs
  | [], _, _, h => absurd h (by simp)
  | j :: vs, σ, i, h => by
    unfold wipe
    by_cases q : i ∈ vs
    · rw [wipe_set q]
    · have e : i = j := by
        rcases List.mem_cons.mp h with z | z
        · exact z
        · exact absurd z q
      subst e
      apply List.ext_getElem?
      intro n
      have gen : ∀ (ws : List Nat) (τ : L2.St), i ∉ ws → wipe (τ.set i v) ws = (wipe τ ws).set i v := by
        intro ws
        induction ws with
        | nil => intro τ _; rfl
        | cons w ws ih =>
          intro τ hn
          have h1 : i ≠ w := fun z => hn (by simp [z])
          have h2 : i ∉ ws := fun z => hn (by simp [z])
          unfold wipe
          rw [ih τ h2, List.set_comm _ _ h1]
      rw [gen vs σ q, List.set_set]
def lG (K : PySem.W.Frag) (c : DC) (tg : Tg) : TG := fun v σ H Q => ∃ d ρ G QD, Cur K c σ H ρ G ∧ Rep K c.P G H v d ∧ setT tg d ρ QD ∧
  ∀ ρ' σ', QD ρ' → Cur K c σ' H ρ' G → (∀ vs, (∀ i ∈ tg.slots, i ∈ vs) → wipe σ' vs = wipe σ vs) → Q σ' H
def lGs (K : PySem.W.Frag) (c : DC) (ts : List Tg) : TGs := fun vs σ H Q => ∃ ds ρ G QD, Cur K c σ H ρ G ∧ RepL K c.P G H vs ds ∧ setTs ts ds ρ QD ∧
  ∀ ρ' σ', QD ρ' → Cur K c σ' H ρ' G → (∀ vs, (∀ i ∈ slotsL ts, i ∈ vs) → wipe σ' vs = wipe σ vs) → Q σ' H
theorem PG_imp {X : Cx} {e : Expr} {t t' : TG} (h : PG X e t) (i : ∀ v σ H Q, t' v σ H Q → t v σ H Q) : PG X e t' := ⟨fun pins s σ H v u Q I r q => h.run pins s σ H v u Q I r (i _ _ _ _ q)⟩
theorem PGs_imp {X : Cx} {e : List Expr} {t t' : TGs} (h : PGs X e t) (i : ∀ v σ H Q, t' v σ H Q → t v σ H Q) : PGs X e t' := ⟨fun pins s σ H v u Q I r q => h.run pins s σ H v u Q I r (i _ _ _ _ q)⟩
theorem Cur.set {K : PySem.W.Frag} {c : DC} {σ : L2.St} {H : Hp} {ρ : DSt} {G : GH} {v : V} {d : D} (u : Cur K c σ H ρ G) (r : Rep K c.P G H v d) (i : Nat) : Cur K c (σ.set i (some v)) H (ρ.set i (some d)) G := ⟨u.rl, u.st, u.env.set r i⟩
section
variable {X : Cx} {c : DC}
theorem g_name {i : Nat} {x : Str} {pos : Pos} (hN : X.N.Nodup) (hi : X.N[i]? = some x := by rfl) (hx : Loc X.env.scope x := by first | exact Or.inl rfl | exact Or.inr rfl) (hf : X.fn x = true ∨ X.env.scope.names.lookup x = some .local := by first | exact .inl rfl | exact .inr rfl) : PG X (.Name x pos) (lG X.K c (.name i)) :=
  PG_imp (pg_name hN hi hx hf) fun v σ H Q ⟨d, ρ, G, QD, u, r, h, k⟩ => k _ _ (by simpa [setT] using h) (u.set r i) fun vs hv => wipe_set (hv i (by simp [Tg.slots]))
theorem gs_nil : PGs X [] (lGs X.K c []) := PGs_imp pgs_nil fun v σ H Q ⟨ds, ρ, G, QD, u, r, h, k⟩ => by
  cases r with
  | nil => exact ⟨rfl, k _ _ (by simpa [setTs] using h) u fun _ _ => rfl⟩
  | cons _ _ => simp [setTs] at h
theorem gs_cons {e : Expr} {es : List Expr} {t : Tg} {ts : List Tg} (h1 : PG X e (lG X.K c t)) (h2 : PGs X es (lGs X.K c ts)) (hs : (assignEach (e :: es) X.env).map (·.2) = assign e X.env :: (assignEach es X.env).map (·.2) := by rfl) :
    PGs X (e :: es) (lGs X.K c (t :: ts)) := PGs_imp (pgs_cons h1 h2 hs) fun v σ H Q ⟨ds, ρ, G, QD, u, r, h, k⟩ => by
  cases r with
  | nil => simp [setTs] at h
  | cons r rs =>
    refine ⟨_, _, rfl, _, ρ, G, _, u, r, (by simpa only [setTs] using h), fun ρ1 σ1 q1 u1 w1 => ⟨_, ρ1, G, QD, u1, rs, q1, fun ρ2 σ2 q2 u2 w2 => k _ _ q2 u2 fun vs hv => ?_⟩⟩
    rw [w2 vs fun i hi => hv i (by unfold slotsL; exact List.mem_append_right _ hi), w1 vs fun i hi => hv i (by unfold slotsL; exact List.mem_append_left _ hi)]
theorem g_tup {es : List Expr} {k : Nat} {ts : List Tg} {pos : Pos} (hc : X.calm = true) (h : PGs X es (lGs X.K c ts)) (hn : (assignEach es X.env).length = ts.length := by rfl) (hst : (assignEach es X.env).findIdx? (·.1) = none := by rfl) :
    PG X (.Tuple es k pos) (lG X.K c (.tup ts)) := PG_imp (pg_tup hc h hn hst) fun v σ H Q ⟨d, ρ, G, QD, u, r, h, kk⟩ => by
  cases r with
  | tup hq rs =>
    rename_i _ aa dd _
    have h : setTs ts dd ρ QD := by simpa only [setT] using h
    exact ⟨_, _, rfl, hq, by rw [rs.length, setTs_len h setT_ex], _, ρ, G, QD, u, rs, h, fun ρ' σ' q u' w => kk _ _ q u' fun vs hv => w vs fun i hi => hv i (by unfold Tg.slots; exact hi)⟩
  | _ => simp [setT] at h

/-! ## statements -/
def dNext : DS := fun D ρ G => D.nx ρ G
def dSeq (t u : DS) : DS := fun D ρ G => t { D with nx := u D } ρ G
def dBreak : DS := fun D ρ G => D.bk ρ G
def dCont : DS := fun D ρ G => D.ct ρ G
def dRet (te : DE) : DS := fun D ρ G => te ρ G D.rt
def dRetN : DS := fun D _ G => D.rt .non G
def dDrop (te : DE) : DS := fun D ρ G => te ρ G fun _ G1 => D.nx ρ G1
def dIfS (t : DT) (u w : DS) : DS := fun D ρ G => t ρ G fun c G1 => if c = true then u D ρ G1 else w D ρ G1
def dAsg (te : DE) (tg : Tg) : DS := fun D ρ G => te ρ G fun d G1 => setT tg d ρ fun ρ1 => D.nx ρ1 G1
variable {st : Stmt} {rest : List Stmt} {t u : DS} {e : Expr} {te : DE} {pos : Pos}
theorem EndsOk.later {K : PySem.W.Frag} {G0 G1 : GH} {H0 H1 : Hp} {D : DEnds} {E : Ends} (k : EndsOk K c G0 H0 D E) (s : Step G0 H0 G1 H1) : EndsOk K c G1 H1 D E :=
  ⟨fun ρ G σ H q z u => k.nx ρ G σ H q (s.trans z) u, fun d G v H q z r p => k.rt d G v H q (s.trans z) r p, fun ρ G σ H q z u => k.bk ρ G σ H q (s.trans z) u, fun ρ G σ H q z u => k.ct ρ G σ H q (s.trans z) u⟩
theorem dss_nil : PSs X [] (lS X.K c dNext) := PSs_imp pss_nil fun E σ H ⟨ρ, G, D, u, h, k⟩ => k.nx _ _ _ _ h (Step.refl _ _) u
theorem dss_one (h1 : PS X st (lS X.K c t)) : PSs X [st] (lS X.K c t) := pss_one h1
theorem dss_cons (h1 : PS X st (lS X.K c t)) (h2 : PSs X rest (lS X.K c u)) : PSs X (st :: rest) (lS X.K c (dSeq t u)) :=
  PSs_imp (pss_cons h1 h2) fun E σ H ⟨ρ, G, D, w, h, k⟩ => ⟨ρ, G, _, w, h, ⟨fun ρ1 G1 σ1 H1 q s u1 => ⟨ρ1, G1, D, u1, q, k.later s⟩, k.rt, k.bk, k.ct⟩⟩
theorem ds_pass : PS X (.Pass pos) (lS X.K c dNext) := PS_imp ps_pass fun E σ H ⟨ρ, G, D, u, h, k⟩ => k.nx _ _ _ _ h (Step.refl _ _) u
theorem ds_break : PS X (.Break pos) (lS X.K c dBreak) := PS_imp ps_break fun E σ H ⟨ρ, G, D, u, h, k⟩ => k.bk _ _ _ _ h (Step.refl _ _) u
theorem ds_cont : PS X (.Continue pos) (lS X.K c dCont) := PS_imp ps_continue fun E σ H ⟨ρ, G, D, u, h, k⟩ => k.ct _ _ _ _ h (Step.refl _ _) u
theorem ds_ret (he : PE X e (lE X.K c te)) : PS X (.Return (some e) pos) (lS X.K c (dRet te)) :=
  PS_imp (ps_ret he) fun E σ H ⟨ρ, G, D, u, h, k⟩ => ⟨ρ, G, _, u, h, fun d G1 v H1 q s r p => k.rt _ _ _ _ q s r p⟩
theorem ds_retN : PS X (.Return none pos) (lS X.K c dRetN) := PS_imp ps_retN fun E σ H ⟨ρ, G, D, u, h, k⟩ => k.rt _ _ _ _ h (Step.refl _ _) u.rl .non
theorem ds_expr (he : PE X e (lE X.K c te)) (hs : swapsWith e none pos.line X.env = pure false := by rfl) : PS X (.Expr e pos) (lS X.K c (dDrop te)) :=
  PS_imp (ps_expr he hs) fun E σ H ⟨ρ, G, D, u, h, k⟩ => ⟨ρ, G, _, u, h, fun d G1 v H1 q s r p => k.nx _ _ _ _ q s (u.step s r)⟩
theorem ds_if {cnd : Expr} {a b : List Stmt} {tc : DT} {t u : DS} (hc : PT X cnd (lT X.K c tc)) (ha : PSs X a (lS X.K c t)) (hb : PSs X b (lS X.K c u)) : PS X (.If cnd a b pos) (lS X.K c (dIfS tc t u)) :=
  PS_imp (ps_if hc ha hb) fun E σ H ⟨ρ, G, D, w, h, k⟩ => ⟨ρ, G, _, w, h, fun d G1 H1 q s r => by
    cases d with
    | true => exact ⟨ρ, G1, D, w.step s r, q, k.later s⟩
    | false => exact ⟨ρ, G1, D, w.step s r, q, k.later s⟩⟩
theorem asg_imp {K : PySem.W.Frag} {te : DE} {tg : Tg} {E : Ends} {σ : L2.St} {H : Hp} (h : lS K c (dAsg te tg) E σ H) : tAsg (lE K c te) (lG K c tg) E σ H := by
  obtain ⟨ρ, G, D, u, h, k⟩ := h
  exact ⟨ρ, G, _, u, h, fun d G1 v H1 q s r p => ⟨d, ρ, G1, _, u.step s r, p, q, fun ρ' σ' q2 u2 _ => k.nx _ _ _ _ q2 s u2⟩⟩
theorem ds_asg {tg : Expr} {g : Tg} (he : PE X e (lE X.K c te)) (hg : PG X tg (lG X.K c g)) (hs : swapsWithSole [tg] e pos.line X.env = pure false := by rfl) (hw : swappedStores [tg] e X.env = pure none := by rfl)
    (h1 : (assignEach [tg] X.env).map (·.2) = [assign tg X.env] := by rfl) : PS X (.Assign [tg] e pos) (lS X.K c (dAsg te g)) :=
  PS_imp (ps_asg he hg hs hw h1) fun _ _ _ h => asg_imp h
theorem ds_set {i : Nat} {x : Str} {pos' : Pos} (hN : X.N.Nodup) (he : PE X e (lE X.K c te)) (hi : X.N[i]? = some x := by rfl) (hx : Loc X.env.scope x := by first | exact Or.inl rfl | exact Or.inr rfl) (hs : swapsWith e (some (.Name x pos')) pos.line X.env = pure false := by rfl) (hf : X.fn x = true ∨ X.env.scope.names.lookup x = some .local := by first | exact .inl rfl | exact .inr rfl) :
    PS X (.Assign [.Name x pos'] e pos) (lS X.K c (dAsg te (.name i))) :=
  PS_imp (ps_set hN hi hx he hs hf) fun E σ H ⟨ρ, G, D, u, h, k⟩ => ⟨ρ, G, _, u, h, fun d G1 v H1 q s r p => k.nx _ _ _ _ (show D.nx (ρ.set i (some d)) G1 from by simpa only [setT] using q) s ((u.step s r).set p i)⟩
/-- a, b = x, y; three -/
def dPar2 (i j : Nat) (ta : DA) : DS := fun D ρ G => ta ρ G fun ds G1 => match ds with
  | [a, b] => D.nx ((ρ.set i (some a)).set j (some b)) G1
  | _ => False
def dPar3 (i j l : Nat) (ta : DA) : DS := fun D ρ G => ta ρ G fun ds G1 => match ds with
  | [a, b, d] => D.nx (((ρ.set i (some a)).set j (some b)).set l (some d)) G1
  | _ => False
theorem ds_par {i j : Nat} {x y : Str} {a b : Expr} {ta : DA} {px py pt : Pos} {kt k2 pt2} (hc : X.calm = true) (hN : X.N.Nodup) (ha : PA X [a, b] (lA X.K c ta)) (hi : X.N[i]? = some x := by rfl) (hj : X.N[j]? = some y := by rfl) (hij : i ≠ j := by decide)
    (hx : X.env.scope.names.lookup x = some .local := by rfl) (hy : X.env.scope.names.lookup y = some .local := by rfl)
    (hw : swappedStores [.Tuple [.Name x px, .Name y py] kt pt] (.Tuple [a, b] k2 pt2) X.env = pure (some [x, y]) := by rfl)
    (hs : swapsWithSole [.Tuple [.Name x px, .Name y py] kt pt] (.Tuple [a, b] k2 pt2) pos.line X.env = pure false := by rfl) :
    PS X (.Assign [.Tuple [.Name x px, .Name y py] kt pt] (.Tuple [a, b] k2 pt2) pos) (lS X.K c (dPar2 i j ta)) :=
  PS_imp (ps_par hc hN hi hj hij hx hy ha hw hs) fun E σ H ⟨ρ, G, D, u, h, k⟩ => ⟨ρ, G, _, u, h, fun ds G1 vs H1 q s r p => by
    cases p with
    | nil => exact (show False from q).elim
    | cons p1 p => cases p with
      | nil => exact (show False from q).elim
      | cons p2 p => cases p with
        | cons _ _ => exact (show False from q).elim
        | nil => exact ⟨_, _, rfl, k.nx _ _ _ _ q s (((u.step s r).set p1 i).set p2 j)⟩⟩
theorem ds_par3 {i j l : Nat} {x y z : Str} {a b d : Expr} {ta : DA} {px py pz pt : Pos} {kt k2 pt2} (hc : X.calm = true) (hN : X.N.Nodup) (ha : PA X [a, b, d] (lA X.K c ta)) (hi : X.N[i]? = some x := by rfl) (hj : X.N[j]? = some y := by rfl) (hl : X.N[l]? = some z := by rfl) (hij : i ≠ j := by decide) (hil : i ≠ l := by decide) (hjl : j ≠ l := by decide)
    (hx : X.env.scope.names.lookup x = some .local := by rfl) (hy : X.env.scope.names.lookup y = some .local := by rfl) (hz : X.env.scope.names.lookup z = some .local := by rfl)
    (hw : swappedStores [.Tuple [.Name x px, .Name y py, .Name z pz] kt pt] (.Tuple [a, b, d] k2 pt2) X.env = pure (some [x, y, z]) := by rfl)
    (hs : swapsWithSole [.Tuple [.Name x px, .Name y py, .Name z pz] kt pt] (.Tuple [a, b, d] k2 pt2) pos.line X.env = pure false := by rfl) :
    PS X (.Assign [.Tuple [.Name x px, .Name y py, .Name z pz] kt pt] (.Tuple [a, b, d] k2 pt2) pos) (lS X.K c (dPar3 i j l ta)) :=
  PS_imp (ps_par3 hc hN hi hj hl hij hil hjl hx hy hz ha hw hs) fun E σ H ⟨ρ, G, D, u, h, k⟩ => ⟨ρ, G, _, u, h, fun ds G1 vs H1 q s r p => by
    cases p with
    | nil => exact (show False from q).elim
    | cons p1 p => cases p with
      | nil => exact (show False from q).elim
      | cons p2 p => cases p with
        | nil => exact (show False from q).elim
        | cons p3 p => cases p with
          | cons _ _ => exact (show False from q).elim
          | nil => exact ⟨_, _, _, rfl, k.nx _ _ _ _ q s ((((u.step s r).set p1 i).set p2 j).set p3 l)⟩⟩

/-! ### x op= e; o[i] = e -/
def lIp (K : PySem.W.Frag) (P : Addr → Prop) (r : R2D) : TIp := lR2 K P r
def IpD (X : Cx) (op : Operator) (r : R2D) : Prop := ∀ P, PIp X op (lR2 X.K P r)
def dAug (i : Nat) (r : R2D) (te : DE) : DS := fun D ρ G => match getS ρ i with
  | some x => te ρ G fun y G1 => r x y G1 fun z G2 => D.nx (ρ.set i (some z)) G2
  | none => False
theorem ds_aug {i : Nat} {x : Str} {op : Operator} {r : R2D} {pos' : Pos} (hN : X.N.Nodup) (ho : IpD X op r) (he : PE X e (lE X.K c te)) (hi : X.N[i]? = some x := by rfl) (hx : Loc X.env.scope x := by first | exact Or.inl rfl | exact Or.inr rfl) (hf : X.fn x = true ∨ X.env.scope.names.lookup x = some .local := by first | exact .inl rfl | exact .inr rfl) :
    PS X (.AugAssign (.Name x pos') op e pos) (lS X.K c (dAug i r te)) :=
  PS_imp (ps_aug hN hi hx he (ho c.P) hf) fun E σ H ⟨ρ, G, D, u, h, k⟩ => by
    unfold dAug at h
    split at h
    · rename_i d ed
      obtain ⟨v, h1, h2⟩ := u.env.get (getS_eq ed)
      exact ⟨v, h1, ρ, G, _, u, h, fun y G1 w H1 q s r p => ⟨d, y, G1, _, r, h2.mono u.rl s, p, q, fun z G2 v2 H2 q2 s2 r2 p2 => k.nx _ _ _ _ q2 (s.trans s2) (((u.step s r).step s2 r2).set p2 i)⟩⟩
    · exact h.elim
abbrev RSet := D → D → D → GH → (GH → Prop) → Prop
def lSet (K : PySem.W.Frag) (P : Addr → Prop) (r : RSet) : TSet := fun o i v H Q => ∃ d j e G QD, Rl K P G H ∧ Rep K P G H o d ∧ Rep K P G H i j ∧ Rep K P G H v e ∧ r d j e G QD ∧ ∀ G' H', QD G' → Step G H G' H' → Rl K P G' H' → Q H'
def SetD (X : Cx) (r : RSet) : Prop := ∀ P, PSet X (lSet X.K P r)
/-- o[i] = e: e, o, i, then the store -/
def dPut (r : RSet) (te to ti : DE) : DS := fun D ρ G => te ρ G fun e G1 => to ρ G1 fun o G2 => ti ρ G2 fun i G3 => r o i e G3 fun G4 => D.nx ρ G4
theorem ds_put {o i : Expr} {r : RSet} {to ti : DE} {ps : Pos} (hr : SetD X r) (he : PE X e (lE X.K c te)) (ho : PE X o (lE X.K c to)) (hi : PE X i (lE X.K c ti))
    (ha : ∀ v, assign (.Subscript o i ps) X.env v = (do
      let ov ← holding [v] (eval o X.env)
      let iv ← holding [v, ov] (eval i X.env)
      standAt ps
      holding [v, ov, iv] (setItem ov iv v)
      release [v, ov, iv] []) := by intro _; rfl)
    (hs : swapsWithSole [.Subscript o i ps] e pos.line X.env = pure false := by rfl) (hw : swappedStores [.Subscript o i ps] e X.env = pure none := by rfl)
    (h1 : (assignEach [.Subscript o i ps] X.env).map (·.2) = [assign (.Subscript o i ps) X.env] := by rfl) :
    PS X (.Assign [.Subscript o i ps] e pos) (lS X.K c (dPut r te to ti)) :=
  PS_imp (ps_asg he (pg_sub ho hi (hr c.P) ha) hs hw h1) fun E σ H ⟨ρ, G, D, u, h, k⟩ =>
    ⟨ρ, G, _, u, h, fun d G1 v H1 q s1 r1 p1 => ⟨ρ, G1, _, u.step s1 r1, q, fun d2 G2 v2 H2 q2 s2 r2 p2 => ⟨ρ, G2, _, (u.step s1 r1).step s2 r2, q2, fun d3 G3 v3 H3 q3 s3 r3 p3 =>
      ⟨d2, d3, d, G3, _, r3, p2.mono r2 s3, p3, p1.mono r1 (s2.trans s3), q3, fun G4 H4 q4 s4 r4 => k.nx _ _ _ _ q4 (s1.trans (s2.trans (s3.trans s4))) ((((u.step s1 r1).step s2 r2).step s3 r3).step s4 r4)⟩⟩⟩⟩

/-! ## loops -/
/-- the iterator J yields ds while gd holds -/
def ItOk (K : PySem.W.Frag) (P : Addr → Prop) (J : It) (ds : List D) (gd : GH → Prop) (G0 : GH) (H0 : Hp) : Prop :=
  ∀ P' : Addr → Prop, (∀ a, P a → P' a) → (∀ a, P' a → P a ∨ H0 a = none) → ∀ i G H, Step G0 H0 G H → Rl K P' G H → gd G →
    (i < ds.length → J.go i H ∧ ∀ x H', J.yld i H x H' → ∃ d, ds[i]? = some d ∧ Rep K P' G H' x d ∧ Step G H G H' ∧ Rl K P' G H') ∧ (ds.length ≤ i → J.stop i H)
abbrev DI := DSt → GH → (List D → (GH → Prop) → GH → Prop) → Prop
def lI (K : PySem.W.Frag) (c : DC) (ti : DI) : TI := fun σ H R => ∃ ρ G QD, Cur K c σ H ρ G ∧ ti ρ G QD ∧ ∀ ds gd G' H' J, QD ds gd G' → Step G H G' H' → Rl K c.P G' H' → ItOk K c.P J ds gd G' H' → R J H'
def loopD (gd : GH → Prop) (tg : Tg) (tb : DS) (E : DEnds) : List D → DSt → GH → Prop
  | [], ρ, G => gd G ∧ E.nx ρ G
  | d :: ds, ρ, G => gd G ∧ setT tg d ρ fun ρ1 => tb { E with nx := loopD gd tg tb E ds, ct := loopD gd tg tb E ds, bk := E.nx } ρ1 G
def dFor (ti : DI) (tg : Tg) (tb : DS) : DS := fun D ρ G => ti ρ G fun ds gd G1 => loopD gd tg tb D ds ρ G1
theorem ds_for {iter tgt : Expr} {body : List Stmt} {ti : DI} {g : Tg} {tb : DS} (hp : PassesOwn (model X.prog X.w) X.A X.env X.xe) (hc : X.calm = true) (hi : PI X tgt iter (lI X.K c ti)) (hg : PG X tgt (lG X.K c g)) (hb : PSs X body (lS X.K c tb))
    (hs : ∀ x, foldedSetIterable iter X.env x = pure x := by intro _; rfl) : PS X (.For tgt iter body [] pos) (lS X.K c (dFor ti g tb)) :=
  PS_imp (ps_for hp hc hi hg hb hs) fun E σ H ⟨ρ, G, D, u, h, k⟩ => ⟨ρ, G, _, u, h, fun ds gd G1 H1 J q s1 r1 it => by
    refine ⟨fun i m σ' H' => m = ds.length - i ∧ i ≤ ds.length ∧ ∃ ρ' G', Cur X.K c σ' H' ρ' G' ∧ Step G1 H1 G' H' ∧ loopD gd g tb D (ds.drop i) ρ' G', ⟨ds.length, by simp, Nat.zero_le _, ρ, G1, u.step s1 r1, Step.refl _ _, by simpa using q⟩, ?_⟩
    rintro i m σ' H' ⟨rfl, hi, ρ', G', u', s', q'⟩
    by_cases hlt : i < ds.length
    · have e : ds.drop i = ds[i] :: ds.drop (i + 1) := List.drop_eq_getElem_cons hlt
      rw [e] at q'
      obtain ⟨g1, q'⟩ : gd G' ∧ _ := q'
      obtain ⟨⟨go, yl⟩, _⟩ : (_ ∧ _) ∧ _ := ⟨(it c.P (fun _ z => z) (fun _ z => .inl z) i G' H' s' u'.rl g1).1 hlt, trivial⟩
      refine .inr ⟨go, fun σ2 H2 => ∃ ρ2 G2, Cur X.K c σ2 H2 ρ2 G2 ∧ Step G1 H1 G2 H2 ∧ loopD gd g tb D (ds.drop (i + 1)) ρ2 G2, fun σ2 H2 ⟨ρ2, G2, a, b, d⟩ => ⟨_, by omega, rfl, hlt, ρ2, G2, a, b, d⟩, fun x H2 y => ?_⟩
      obtain ⟨d, hd, rp, s2, r2⟩ := yl x H2 y
      rw [List.getElem?_eq_getElem hlt] at hd
      cases hd
      refine ⟨_, ρ', G', _, u'.step s2 r2, rp, q', fun ρ3 σ3 q3 u3 _ => ⟨ρ3, G', _, u3, q3, ⟨fun ρ4 G4 σ4 H4 q4 s4 u4 => ⟨ρ4, G4, u4, s'.trans (s2.trans s4), q4⟩, fun d G4 v H4 q4 s4 r4 p4 => k.rt _ _ _ _ q4 (s1.trans (s'.trans (s2.trans s4))) r4 p4, fun ρ4 G4 σ4 H4 q4 s4 u4 => k.nx _ _ _ _ q4 (s1.trans (s'.trans (s2.trans s4))) u4, fun ρ4 G4 σ4 H4 q4 s4 u4 => ⟨ρ4, G4, u4, s'.trans (s2.trans s4), q4⟩⟩⟩⟩
    · have e : ds.drop i = [] := List.drop_eq_nil_of_le (by omega)
      rw [e] at q'
      obtain ⟨g1, q'⟩ : gd G' ∧ _ := q'
      exact .inl ⟨(it c.P (fun _ z => z) (fun _ z => .inl z) i G' H' s' u'.rl g1).2 (by omega), k.nx _ _ _ _ q' (s1.trans s') u'⟩⟩
/-- while, by a word W and its measure -/
def dWhile (tc : DT) (tb : DS) : DS := fun D ρ G => ∃ W : Nat → DSt → GH → Prop, (∃ m, W m ρ G) ∧ ∀ m ρ G, W m ρ G →
  tc ρ G fun b G1 => if b = true then tb { D with nx := fun ρ' G' => ∃ m', m' < m ∧ W m' ρ' G', ct := fun ρ' G' => ∃ m', m' < m ∧ W m' ρ' G', bk := D.nx } ρ G1 else D.nx ρ G1
theorem ds_while {cnd : Expr} {body : List Stmt} {tc : DT} {tb : DS} (hp : PassesOwn (model X.prog X.w) X.A X.env X.xe) (hc : PT X cnd (lT X.K c tc)) (hb : PSs X body (lS X.K c tb)) : PS X (.While cnd body [] pos) (lS X.K c (dWhile tc tb)) :=
  PS_imp (ps_while hp hc hb) fun E σ H ⟨ρ, G, D, u, ⟨W, ⟨m0, w0⟩, turn⟩, k⟩ => by
    refine ⟨fun m σ' H' => ∃ ρ' G', Cur X.K c σ' H' ρ' G' ∧ Step G H G' H' ∧ W m ρ' G', ⟨m0, ρ, G, u, Step.refl _ _, w0⟩, ?_⟩
    rintro m σ' H' ⟨ρ', G', u', s', w'⟩
    refine ⟨ρ', G', _, u', turn m ρ' G' w', fun b G1 H1 q s1 r1 => ?_⟩
    cases b with
    | true =>
      refine ⟨fun σ2 H2 => ∃ ρ2 G2, Cur X.K c σ2 H2 ρ2 G2 ∧ Step G H G2 H2 ∧ ∃ m', m' < m ∧ W m' ρ2 G2, fun σ2 H2 ⟨ρ2, G2, a, b, m', hm, w2⟩ => ⟨m', hm, ρ2, G2, a, b, w2⟩, ρ', G1, _, u'.step s1 r1, q, ?_⟩
      exact ⟨fun ρ4 G4 σ4 H4 q4 s4 u4 => ⟨ρ4, G4, u4, s'.trans (s1.trans s4), q4⟩, fun d G4 v H4 q4 s4 r4 p4 => k.rt _ _ _ _ q4 (s'.trans (s1.trans s4)) r4 p4, fun ρ4 G4 σ4 H4 q4 s4 u4 => k.nx _ _ _ _ q4 (s'.trans (s1.trans s4)) u4, fun ρ4 G4 σ4 H4 q4 s4 u4 => ⟨ρ4, G4, u4, s'.trans (s1.trans s4), q4⟩⟩
    | false => exact k.nx _ _ _ _ q (s'.trans s1) (u'.step s1 r1)
end
end DL

end

section
set_option Elab.async false
set_option linter.all false
set_option maxRecDepth 100000
set_option maxHeartbeats 1000000
namespace DL
open PySem PySem.Spec PyProof.Rows L2

/-! ## comprehensions -/
def wipeD (ρ : DSt) : List Nat → DSt
  | [] => ρ
  | v :: vs => (wipeD ρ vs).set v none
def compD (gd : GH → Prop) (tg : Tg) (tt : DT) (te : DE) (ρ0 : DSt) (Q : List D → GH → Prop) : List D → List D → GH → Prop
  | [], acc, G => gd G ∧ Q acc G
  | d :: ds, acc, G => gd G ∧ setT tg d ρ0 fun ρ1 => tt ρ1 G fun b G1 => if b = true then te ρ1 G1 fun y G2 => acc.length < sizeLine ∧ compD gd tg tt te ρ0 Q ds (acc ++ [y]) G2 else compD gd tg tt te ρ0 Q ds acc G1
def dLc (ti : DI) (vs : List Nat) (tg : Tg) (tt : DT) (te : DE) : DE := fun ρ G Q => ti ρ G fun ds gd G1 => compD gd tg tt te (wipeD ρ vs) (fun acc G2 => Q (.lst acc) G2) ds [] G1
def dLcM (ti : DI) (vs : List Nat) (tg : Tg) (tt : DT) (te : DE) : DE := fun ρ G Q => ti ρ G fun ds gd G1 => compD gd tg tt te (wipeD ρ vs) (fun acc G2 => ∀ p, G2 p = none → Q (.ref p) (updG G2 p (.lst acc))) ds [] G1
def dYes : DT := fun _ G Q => Q true G
section
variable {K : PySem.W.Frag} {P : Addr → Prop} {G : GH} {H : Hp} {L : Addr}
mutual
/-- one address more is kept private -/
theorem Rep.priv (o : HO) (h : H L = none) : ∀ {v : V} {d : D}, Rep K P G H v d → Rep K (fun a => P a ∨ a = L) G (upd H L o) v d
  | _, _, .non => .non
  | _, _, .bl b => .bl b
  | _, _, .int i => .int i
  | _, _, .str x => .str x
  | _, _, .ty n => .ty n
  | _, _, .ref a => .ref a
  | _, _, .tup hq t => .tup (by
      rcases hq with (e | ⟨o', e⟩) | e
      · exact .inl (.inl (by rw [upd_ne (ne_of_none e h)]; exact e))
      · exact .inl (.inr ⟨o', by rw [upd_ne (ne_of_none e h)]; exact e⟩)
      · exact .inr e) (RepL.priv o h t)
  | _, _, .lst e g p t => .lst (by rw [upd_ne (ne_of_none e h)]; exact e) g (fun z => z.elim p (ne_of_none e h)) (RepL.priv o h t)
  | _, _, .frz hq t => .frz (by
      rcases hq with ⟨o', e⟩ | e
      · exact .inl ⟨o', by rw [upd_ne (ne_of_none e h)]; exact e⟩
      · exact .inr e) (RepL.priv o h t)
theorem RepL.priv (o : HO) (h : H L = none) : ∀ {v : List V} {d : List D}, RepL K P G H v d → RepL K (fun a => P a ∨ a = L) G (upd H L o) v d
  | _, _, .nil => .nil
  | _, _, .cons a t => .cons (Rep.priv o h a) (RepL.priv o h t)
end
mutual
/-- the private list is written -/
theorem Rep.privPut {acc acc' : List V} (p : P L) (h : H L = some (.lst acc)) : ∀ {v : V} {d : D}, Rep K P G H v d → Rep K P G (upd H L (.lst acc')) v d
  | _, _, .non => .non
  | _, _, .bl b => .bl b
  | _, _, .int i => .int i
  | _, _, .str x => .str x
  | _, _, .ty n => .ty n
  | _, _, .ref a => .ref a
  | _, _, .tup hq t => .tup (by
      rcases hq with (e | ⟨o', e⟩) | e
      · exact .inl (.inl (by rw [upd_ne (ne_of e h (by intro z; cases z))]; exact e))
      · exact .inl (.inr ⟨o', by rw [upd_ne (ne_of e h (by intro z; cases z))]; exact e⟩)
      · exact .inr e) (RepL.privPut p h t)
  | _, _, .lst e g q t => .lst (by rw [upd_ne (fun z => q (by rw [z]; exact p))]; exact e) g q (RepL.privPut p h t)
  | _, _, .frz hq t => .frz (by
      rcases hq with ⟨o', e⟩ | e
      · exact .inl ⟨o', by rw [upd_ne (ne_of e h (by intro z; cases z))]; exact e⟩
      · exact .inr e) (RepL.privPut p h t)
theorem RepL.privPut {acc acc' : List V} (p : P L) (h : H L = some (.lst acc)) : ∀ {v : List V} {d : List D}, RepL K P G H v d → RepL K P G (upd H L (.lst acc')) v d
  | _, _, .nil => .nil
  | _, _, .cons a t => .cons (Rep.privPut p h a) (RepL.privPut p h t)
end
mutual
/-- less is private, less may change -/
theorem Rep.sub {P' : Addr → Prop} {G' : GH} (hp : ∀ a, P a → P' a) (hg : ∀ a, ¬ P' a → G a = none → G' a = none) : ∀ {v : V} {d : D}, Rep K P' G H v d → Rep K P G' H v d
  | _, _, .non => .non
  | _, _, .bl b => .bl b
  | _, _, .int i => .int i
  | _, _, .str x => .str x
  | _, _, .ty n => .ty n
  | _, _, .ref a => .ref a
  | _, _, .tup hq t => .tup hq (RepL.sub hp hg t)
  | _, _, .lst e g q t => .lst e (hg _ q g) (fun z => q (hp _ z)) (RepL.sub hp hg t)
  | _, _, .frz hq t => .frz hq (RepL.sub hp hg t)
theorem RepL.sub {P' : Addr → Prop} {G' : GH} (hp : ∀ a, P a → P' a) (hg : ∀ a, ¬ P' a → G a = none → G' a = none) : ∀ {v : List V} {d : List D}, RepL K P' G H v d → RepL K P G' H v d
  | _, _, .nil => .nil
  | _, _, .cons a t => .cons (Rep.sub hp hg a) (RepL.sub hp hg t)
end
theorem RepF.sub {P' : Addr → Prop} {G' : GH} (hp : ∀ a, P a → P' a) (hg : ∀ a, ¬ P' a → G a = none → G' a = none) : ∀ {v : List (Str × V)} {d : List (Str × D)}, RepF K P' G H v d → RepF K P G' H v d
  | _, _, .nil => .nil
  | _, _, .cons a t => .cons (Rep.sub hp hg a) (RepF.sub hp hg t)
theorem RepF.priv (o : HO) (h : H L = none) : ∀ {v : List (Str × V)} {d : List (Str × D)}, RepF K P G H v d → RepF K (fun a => P a ∨ a = L) G (upd H L o) v d
  | _, _, .nil => .nil
  | _, _, .cons a t => .cons (Rep.priv o h a) (RepF.priv o h t)
theorem RepF.privPut {acc acc' : List V} (p : P L) (h : H L = some (.lst acc)) : ∀ {v : List (Str × V)} {d : List (Str × D)}, RepF K P G H v d → RepF K P G (upd H L (.lst acc')) v d
  | _, _, .nil => .nil
  | _, _, .cons a t => .cons (Rep.privPut p h a) (RepF.privPut p h t)
theorem RepO.priv (o : HO) (h : H L = none) : ∀ {v : Option V} {d : Option D}, RepO K P G H v d → RepO K (fun a => P a ∨ a = L) G (upd H L o) v d
  | some _, some _, x => Rep.priv o h x
  | none, none, _ => trivial
  | some _, none, _ => trivial
  | none, some _, x => x.elim
theorem RepS.priv (o : HO) (h : H L = none) : ∀ {v : L2.St} {d : DSt}, RepS K P G H v d → RepS K (fun a => P a ∨ a = L) G (upd H L o) v d
  | _, _, .nil => .nil
  | _, _, .cons a t => .cons (RepO.priv o h a) (RepS.priv o h t)
theorem RepO.privPut {acc acc' : List V} (p : P L) (h : H L = some (.lst acc)) : ∀ {v : Option V} {d : Option D}, RepO K P G H v d → RepO K P G (upd H L (.lst acc')) v d
  | some _, some _, x => Rep.privPut p h x
  | none, none, _ => trivial
  | some _, none, _ => trivial
  | none, some _, x => x.elim
theorem RepS.privPut {acc acc' : List V} (p : P L) (h : H L = some (.lst acc)) : ∀ {v : L2.St} {d : DSt}, RepS K P G H v d → RepS K P G (upd H L (.lst acc')) v d
  | _, _, .nil => .nil
  | _, _, .cons a t => .cons (RepO.privPut p h a) (RepS.privPut p h t)
theorem RepS.wipe {v : L2.St} {d : DSt} (r : RepS K P G H v d) : ∀ vs : List Nat, RepS K P G H (L2.wipe v vs) (wipeD d vs)
  | [] => r
  | i :: vs => (RepS.wipe r vs).forget i
theorem Rl.priv (r : Rl K P G H) (h : H L = none) : Rl K (fun a => P a ∨ a = L) G (upd H L (.lst [])) where
  h := fun a g e => by
    have q := r.h a g e
    have k : ∀ b o, H b = some o → upd H L (.lst []) b = some o := fun b o z => by rw [upd_ne (ne_of_none z h)]; exact z
    cases g with
    | lst ds => obtain ⟨xs, e, t⟩ := q; exact ⟨xs, k _ _ e, t.priv _ h⟩
    | ins C fs => obtain ⟨dx, gs, e, t⟩ := q; exact ⟨dx, gs, k _ _ e, t.priv _ h⟩
    | tab q' => exact tabS_ext q (fun o => k _ o) fun b q => k _ _
  p := fun a z => by
    rcases z with z | z
    · obtain ⟨g, xs, e⟩ := r.p a z
      exact ⟨g, xs, by rw [upd_ne (ne_of_none e h)]; exact e⟩
    · subst z
      exact ⟨r.free h, [], upd_same⟩
theorem Rl.privPut {acc acc' : List V} (r : Rl K P G H) (p : P L) (h : H L = some (.lst acc)) : Rl K P G (upd H L (.lst acc')) where
  h := fun a g e => by
    have q := r.h a g e
    have na : a ≠ L := fun z => by
      have := (r.p L p).1
      rw [z, this] at e; cases e
    have k : ∀ b o, (∀ xs, o ≠ .lst xs) → H b = some o → upd H L (.lst acc') b = some o := fun b o n z => by rw [upd_ne (ne_of z h (n _))]; exact z
    cases g with
    | lst ds => obtain ⟨xs, e, t⟩ := q; exact ⟨xs, by rw [upd_ne na]; exact e, t.privPut p h⟩
    | ins C fs => obtain ⟨dx, gs, e, t⟩ := q; exact ⟨dx, gs, by rw [upd_ne na]; exact e, t.privPut p h⟩
    | tab q' => exact tabS_ext q (fun o z => by rw [upd_ne na]; exact z) fun b q => k _ _ (by intro xs z; unfold LamX.CodeO at z; cases z)
  p := fun a z => by
    obtain ⟨g, xs, e⟩ := r.p a z
    by_cases q : a = L
    · subst q; exact ⟨g, acc', upd_same⟩
    · exact ⟨g, xs, by rw [upd_ne q]; exact e⟩
theorem Rl.pub {P' : Addr → Prop} (r : Rl K P' G H) (hp : ∀ a, P a → P' a) : Rl K P G H where
  h := fun a g e => by
    have q := r.h a g e
    cases g with
    | lst ds => obtain ⟨xs, e, t⟩ := q; exact ⟨xs, e, t.sub hp fun _ _ z => z⟩
    | ins C fs => obtain ⟨dx, gs, e, t⟩ := q; exact ⟨dx, gs, e, t.sub hp fun _ _ z => z⟩
    | tab q' => exact q
  p := fun a z => r.p a (hp a z)
theorem Rl.pubL {P' : Addr → Prop} {xs : List V} {ds : List D} (r : Rl K P' G H) (hp : ∀ a, P a → P' a) (hL : P' L) (nL : ¬ P L) (h : H L = some (.lst xs)) (t : RepL K P' G H xs ds) : Rl K P (updG G L (.lst ds)) H where
  h := fun a g e => by
    have hg : ∀ b, ¬ P' b → G b = none → updG G L (.lst ds) b = none := fun b n z => by rw [updG_ne (fun w => n (by rw [w]; exact hL))]; exact z
    by_cases q : a = L
    · subst q
      rw [updG_same] at e; cases e
      exact ⟨xs, h, t.sub hp hg⟩
    · rw [updG_ne q] at e
      have q := r.h a g e
      cases g with
      | lst ds => obtain ⟨xs, e, t⟩ := q; exact ⟨xs, e, t.sub hp hg⟩
      | ins C fs => obtain ⟨dx, gs, e, t⟩ := q; exact ⟨dx, gs, e, t.sub hp hg⟩
      | tab q' => exact q
  p := fun a z => ⟨by rw [updG_ne (fun w => nL (by rw [← w]; exact z))]; exact (r.p a (hp a z)).1, (r.p a (hp a z)).2⟩
end
theorem wipe_wipe (σ : L2.St) (vs : List Nat) : L2.wipe (L2.wipe σ vs) vs = L2.wipe σ vs := by
  have g : ∀ (ws : List Nat) (τ : L2.St) (i : Nat), (L2.wipe τ ws)[i]? = if i ∈ ws then (τ[i]?).map (fun _ => none) else τ[i]? := by
    intro ws
    induction ws with
    | nil => intro τ i; simp [L2.wipe]
    | cons w ws ih =>
      intro τ i
      unfold L2.wipe
      rw [List.getElem?_set]
      by_cases q : w = i
      · subst q
        by_cases hl : w < τ.length
        · simp [wipe_length, hl]
        · simp [wipe_length, hl]
      · have q' : ¬ i = w := fun z => q z.symm
        rw [if_neg q, ih τ i]
        by_cases m : i ∈ ws <;> simp [m, q']
  apply List.ext_getElem?
  intro i
  rw [g, g]
  by_cases m : i ∈ vs
  · simp only [if_pos m]
    cases σ[i]? <;> rfl
  · simp only [if_neg m]
def xG (K : PySem.W.Frag) (g : Tg) : TG := fun v σ H Q => ∃ c, lG K c g v σ H Q
def xT (K : PySem.W.Frag) (t : DT) : TT := fun σ H Q => ∃ c, lT K c t σ H Q
def xE (K : PySem.W.Frag) (t : DE) : TE := fun σ H Q => ∃ c, lE K c t σ H Q
section
variable {X : Cx} {c : DC}
theorem pg_ex {e : Expr} {g : Tg} (h : ∀ c, PG X e (lG X.K c g)) : PG X e (xG X.K g) := ⟨fun pins s σ H v u Q I r ⟨c, q⟩ => (h c).run pins s σ H v u Q I r q⟩
theorem pts_ex {e : List Expr} {t : DT} (h : ∀ c, PTs X e (lT X.K c t)) : PTs X e (xT X.K t) := ⟨fun pins s σ H Q I ⟨c, q⟩ => (h c).run pins s σ H Q I q⟩
theorem pe_ex {e : Expr} {t : DE} (h : ∀ c, PE X e (lE X.K c t)) : PE X e (xE X.K t) := ⟨fun pins s σ H Q I ⟨c, q⟩ => (h c).run pins s σ H Q I q⟩
theorem dts_nil : PTs X [] (lT X.K c dYes) := ⟨fun pins s σ H Q I ⟨ρ, G, QD, u, h, k⟩ => pts_nil.run pins s σ H Q I (k _ _ _ h (Step.refl _ _) u.rl)⟩
theorem dts_one {e : Expr} {t : DT} (h : PT X e (lT X.K c t)) : PTs X [e] (lT X.K c t) := pts_one h
theorem lc_imp {K : PySem.W.Frag} {ti : DI} {vs : List Nat} {g : Tg} {tt : DT} {te : DE} {fin : List D → GH → DK → Prop} {σ : L2.St} {H : Hp} {Q : VK} {ρ : DSt} {G : GH} {QD : DK} (hv : ∀ i ∈ g.slots, i ∈ vs)
    (u : Cur K c σ H ρ G) (h : ti ρ G fun ds gd G1 => compD gd g tt te (wipeD ρ vs) (fun acc G2 => fin acc G2 QD) ds [] G1) (k : ∀ d G' v H', QD d G' → Step G H G' H' → Rl K c.P G' H' → Rep K c.P G' H' v d → Q v H')
    (hf : ∀ (L : Addr) acc xs G1 H1 G2 H2, H1 L = none → ¬ c.P L → Rl K c.P G1 H1 → fin acc G2 QD → Step G1 H1 G2 H2 → Rl K (fun a => c.P a ∨ a = L) G2 H2 → H2 L = some (.lst xs) → RepL K (fun a => c.P a ∨ a = L) G2 H2 xs acc →
      ∃ d G3, QD d G3 ∧ Step G1 H1 G3 H2 ∧ Rl K c.P G3 H2 ∧ Rep K c.P G3 H2 (.ref L) d) :
    lI K c ti σ H fun J H1 => ∀ L, H1 L = none → ∃ W : Nat → Nat → Hp → Prop, (∃ m, W 0 m (upd H1 L (.lst []))) ∧ ∀ i m H, W i m H →
      (J.stop i H ∧ Q (.ref L) H) ∨ (J.go i H ∧ ∃ Nx : Hp → Prop, (∀ H', Nx H' → ∃ m', m' < m ∧ W (i + 1) m' H') ∧ ∀ x H', J.yld i H x H' → xG K g x (wipe σ vs) H' fun σ2 H2 => wipe σ2 vs = wipe σ vs ∧ xT K tt σ2 H2 fun b H3 =>
        if b = true then xE K te σ2 H3 fun y H4 => ∃ acc, H4 L = some (.lst acc) ∧ acc.length < sizeLine ∧ Nx (upd H4 L (.lst (acc ++ [y]))) else Nx H3) := by
  refine ⟨ρ, G, _, u, h, fun ds gd G1 H1 J q s1 r1 it L hL => ?_⟩
  have u1 := u.step s1 r1
  refine ⟨fun i m H' => m = ds.length - i ∧ i ≤ ds.length ∧ ∃ G' acc xs, Rl K (fun a => c.P a ∨ a = L) G' H' ∧ Step G1 H1 G' H' ∧ H' L = some (.lst xs) ∧ RepL K (fun a => c.P a ∨ a = L) G' H' xs acc ∧
    RepS K (fun a => c.P a ∨ a = L) G' H' (L2.wipe σ vs) (wipeD ρ vs) ∧ compD gd g tt te (wipeD ρ vs) (fun acc G2 => fin acc G2 QD) (ds.drop i) acc G', ?_, ?_⟩
  · exact ⟨_, rfl, Nat.zero_le _, G1, [], [], r1.priv hL, step_new hL, upd_same, .nil, (u1.env.wipe vs).priv _ hL, by simpa using q⟩
  rintro i m H' ⟨rfl, hi, G', acc, xs, r', s', hx, ra, rs, q'⟩
  have pub : ∀ a, (c.P a ∨ a = L) → c.P a ∨ H1 a = none := fun a z => z.elim .inl fun e => .inr (by rw [e]; exact hL)
  by_cases hlt : i < ds.length
  · have e : ds.drop i = ds[i] :: ds.drop (i + 1) := List.drop_eq_getElem_cons hlt
    rw [e] at q'
    obtain ⟨g1, q'⟩ : gd G' ∧ _ := q'
    obtain ⟨go, yl⟩ := (it _ (fun _ z => .inl z) pub i G' H' s' r' g1).1 hlt
    refine .inr ⟨go, fun H2 => ∃ G2 acc xs, Rl K (fun a => c.P a ∨ a = L) G2 H2 ∧ Step G1 H1 G2 H2 ∧ H2 L = some (.lst xs) ∧ RepL K (fun a => c.P a ∨ a = L) G2 H2 xs acc ∧
      RepS K (fun a => c.P a ∨ a = L) G2 H2 (L2.wipe σ vs) (wipeD ρ vs) ∧ compD gd g tt te (wipeD ρ vs) (fun acc G2 => fin acc G2 QD) (ds.drop (i + 1)) acc G2, fun H2 ⟨G2, a, x, h1, h2, h3, h4, h5, h6⟩ => ⟨_, by omega, rfl, hlt, G2, a, x, h1, h2, h3, h4, h5, h6⟩, fun x H2 y => ?_⟩
    obtain ⟨d, hd, rp, s2, r2⟩ := yl x H2 y
    rw [List.getElem?_eq_getElem hlt] at hd
    cases hd
    have pL : (fun a => c.P a ∨ a = L) L := .inr rfl
    have gL : G' L = none := (r'.p L pL).1
    refine ⟨⟨fun a => c.P a ∨ a = L, G', H'⟩, _, wipeD ρ vs, G', _, ⟨r2, s2, rs.mono r' s2⟩, rp, q', fun ρ3 σ3 q3 u3 w3 => ⟨?_, ⟨fun a => c.P a ∨ a = L, G', H'⟩, ρ3, G', _, u3, q3, fun b G4 H4 q4 s4 r4 => ?_⟩⟩
    · rw [w3 vs hv, wipe_wipe]
    · cases b with
      | false => exact ⟨G4, acc, xs, r4, s'.trans (s2.trans s4), ((s2.trans s4) L _ hx (fun z => z) gL).1, ra.mono r' (s2.trans s4), rs.mono r' (s2.trans s4), q4⟩
      | true =>
        refine ⟨⟨fun a => c.P a ∨ a = L, G', H'⟩, ρ3, G4, _, u3.step s4 r4, q4, fun z G5 w H5 ⟨ql, q5⟩ s5 r5 p5 => ?_⟩
        have s25 := s2.trans (s4.trans s5)
        have hx5 := (s25 L _ hx (fun z => z) gL).1
        refine ⟨xs, hx5, by rw [ra.length]; exact ql, G5, acc ++ [z], xs ++ [w], r5.privPut pL hx5, ?_, upd_same, RepL.append ((ra.mono r' s25).privPut pL hx5) (.cons (p5.privPut pL hx5) .nil), (rs.mono r' s25).privPut pL hx5, q5⟩
        intro a o ha n ga
        obtain ⟨e1, e2⟩ := (s'.trans s25) a o ha n ga
        exact ⟨by rw [upd_ne (ne_of_none ha hL)]; exact e1, e2⟩
  · have e : ds.drop i = [] := List.drop_eq_nil_of_le (by omega)
    rw [e] at q'
    obtain ⟨g1, q'⟩ : gd G' ∧ _ := q'
    obtain ⟨d, G3, qd, s3, r3, p3⟩ := hf L acc xs G1 H1 G' H' hL (r1.nP hL) r1 q' s' r' hx ra
    exact .inl ⟨(it _ (fun _ z => .inl z) pub i G' H' s' r' g1).2 (by omega), k _ _ _ _ qd (s1.trans s3) r3 p3⟩

theorem fin_val {K : PySem.W.Frag} {QD : DK} : ∀ (L : Addr) acc xs G1 H1 G2 H2, H1 L = none → ¬ c.P L → Rl K c.P G1 H1 → QD (.lst acc) G2 → Step G1 H1 G2 H2 → Rl K (fun a => c.P a ∨ a = L) G2 H2 → H2 L = some (.lst xs) → RepL K (fun a => c.P a ∨ a = L) G2 H2 xs acc →
    ∃ d G3, QD d G3 ∧ Step G1 H1 G3 H2 ∧ Rl K c.P G3 H2 ∧ Rep K c.P G3 H2 (.ref L) d := fun L acc xs G1 H1 G2 H2 _ nP _ q s r hx t =>
  ⟨_, G2, q, s, r.pub fun _ z => .inl z, .lst hx (r.p L (.inr rfl)).1 nP (t.sub (fun _ z => .inl z) fun _ _ z => z)⟩
theorem fin_mut {K : PySem.W.Frag} {QD : DK} : ∀ (L : Addr) acc xs G1 H1 G2 H2, H1 L = none → ¬ c.P L → Rl K c.P G1 H1 → (∀ p, G2 p = none → QD (.ref p) (updG G2 p (.lst acc))) → Step G1 H1 G2 H2 → Rl K (fun a => c.P a ∨ a = L) G2 H2 → H2 L = some (.lst xs) → RepL K (fun a => c.P a ∨ a = L) G2 H2 xs acc →
    ∃ d G3, QD d G3 ∧ Step G1 H1 G3 H2 ∧ Rl K c.P G3 H2 ∧ Rep K c.P G3 H2 (.ref L) d := fun L acc xs G1 H1 G2 H2 hL nP _ q s r hx t =>
  ⟨_, _, q L (r.p L (.inr rfl)).1, fun a o ha n ga => by
    obtain ⟨e1, e2⟩ := s a o ha n ga
    exact ⟨e1, by rw [updG_ne (ne_of_none ha hL)]; exact e2⟩, r.pubL (fun _ z => .inl z) (.inr rfl) nP hx t, .ref L⟩
section
variable {elt tg iter : Expr} {ifs : List Expr} {scope : Scope} {own : List (Str × Nat)} {pos : Pos} {ti : DI} {g : Tg} {tt : DT} {te : DE}
theorem d_lc (hc : X.calm = true) (hN : X.N.Nodup) (hi : PI X tg iter (lI X.K c ti)) (ok : BlkOk X.N X.env.scope scope own)
    (hg : ∀ (s : Shared) (H : Hp) (C : Addr) (cl : List (Str × Addr)) (fp : List Addr) (c' : DC), PG (X.blk s H scope (compEnvC scope cl C X.env) fp) tg (lG X.K c' g)) (ht : ∀ (s : Shared) (H : Hp) (C : Addr) (cl : List (Str × Addr)) (fp : List Addr) (c' : DC), PTs (X.blk s H scope (compEnvC scope cl C X.env) fp) ifs (lT X.K c' tt))
    (he : ∀ (s : Shared) (H : Hp) (C : Addr) (cl : List (Str × Addr)) (fp : List Addr) (c' : DC), PE (X.blk s H scope (compEnvC scope cl C X.env) fp) elt (lE X.K c' te)) (hv : ∀ i ∈ g.slots, i ∈ own.map (·.2) := by decide) (hs : ∀ x, foldedSetIterable iter X.env x = pure x := by intro _; rfl) :
    PE X (.ListComp elt [⟨tg, iter, ifs, 0⟩] scope pos) (lE X.K c (dLc ti (own.map (·.2)) g tt te)) :=
  PE_imp (pe_lc (g := xG X.K g) (tt := xT X.K tt) (te := xE X.K te) hc hN hi ok (fun s H C cl fp => pg_ex fun c' => hg s H C cl fp c') (fun s H C cl fp => pts_ex fun c' => ht s H C cl fp c') (fun s H C cl fp => pe_ex fun c' => he s H C cl fp c') hs)
    fun σ H Q ⟨ρ, G, QD, u, h, k⟩ => lc_imp (fin := fun acc G2 Q => Q (.lst acc) G2) hv u h k fin_val
theorem d_lcM (hc : X.calm = true) (hN : X.N.Nodup) (hi : PI X tg iter (lI X.K c ti)) (ok : BlkOk X.N X.env.scope scope own)
    (hg : ∀ (s : Shared) (H : Hp) (C : Addr) (cl : List (Str × Addr)) (fp : List Addr) (c' : DC), PG (X.blk s H scope (compEnvC scope cl C X.env) fp) tg (lG X.K c' g)) (ht : ∀ (s : Shared) (H : Hp) (C : Addr) (cl : List (Str × Addr)) (fp : List Addr) (c' : DC), PTs (X.blk s H scope (compEnvC scope cl C X.env) fp) ifs (lT X.K c' tt))
    (he : ∀ (s : Shared) (H : Hp) (C : Addr) (cl : List (Str × Addr)) (fp : List Addr) (c' : DC), PE (X.blk s H scope (compEnvC scope cl C X.env) fp) elt (lE X.K c' te)) (hv : ∀ i ∈ g.slots, i ∈ own.map (·.2) := by decide) (hs : ∀ x, foldedSetIterable iter X.env x = pure x := by intro _; rfl) :
    PE X (.ListComp elt [⟨tg, iter, ifs, 0⟩] scope pos) (lE X.K c (dLcM ti (own.map (·.2)) g tt te)) :=
  PE_imp (pe_lc (g := xG X.K g) (tt := xT X.K tt) (te := xE X.K te) hc hN hi ok (fun s H C cl fp => pg_ex fun c' => hg s H C cl fp c') (fun s H C cl fp => pts_ex fun c' => ht s H C cl fp c') (fun s H C cl fp => pe_ex fun c' => he s H C cl fp c') hs)
    fun σ H Q ⟨ρ, G, QD, u, h, k⟩ => lc_imp (fin := fun acc G2 Q => ∀ p, G2 p = none → Q (.ref p) (updG G2 p (.lst acc))) hv u h k fin_mut
/-- name = [..], the name a local -/
theorem ds_setLc {i : Nat} {y : Str} {py spos : Pos} (hc : X.calm = true) (hN : X.N.Nodup) (hi : PI X tg iter (lI X.K c ti)) (ok : BlkOk X.N X.env.scope scope own)
    (hg : ∀ (s : Shared) (H : Hp) (C : Addr) (cl : List (Str × Addr)) (fp : List Addr) (c' : DC), PG (X.blk s H scope (compEnvC scope cl C X.env) fp) tg (lG X.K c' g)) (ht : ∀ (s : Shared) (H : Hp) (C : Addr) (cl : List (Str × Addr)) (fp : List Addr) (c' : DC), PTs (X.blk s H scope (compEnvC scope cl C X.env) fp) ifs (lT X.K c' tt))
    (he : ∀ (s : Shared) (H : Hp) (C : Addr) (cl : List (Str × Addr)) (fp : List Addr) (c' : DC), PE (X.blk s H scope (compEnvC scope cl C X.env) fp) elt (lE X.K c' te)) (hsw : swapsWith (.ListComp elt [⟨tg, iter, ifs, 0⟩] scope pos) (some (.Name y py)) spos.line X.env = pure true)
    (hy : X.N[i]? = some y := by rfl) (hyl : X.env.scope.names.lookup y = some .local := by rfl) (hv : ∀ i ∈ g.slots, i ∈ own.map (·.2) := by decide) (hs : ∀ x, foldedSetIterable iter X.env x = pure x := by intro _; rfl) :
    PS X (.Assign [.Name y py] (.ListComp elt [⟨tg, iter, ifs, 0⟩] scope pos) spos) (lS X.K c (dAsg (dLc ti (own.map (·.2)) g tt te) (.name i))) :=
  PS_imp (ps_setLc (i := i) (g := xG X.K g) (tt := xT X.K tt) (te := xE X.K te) hc hN hy hyl hsw hi ok (fun s H C cl fp => pg_ex fun c' => hg s H C cl fp c') (fun s H C cl fp => pts_ex fun c' => ht s H C cl fp c') (fun s H C cl fp => pe_ex fun c' => he s H C cl fp c') hs)
    fun E σ H ⟨ρ, G, D, u, h, k⟩ => lc_imp (fin := fun acc G2 Q => Q (.lst acc) G2) (QD := fun d G1 => setT (.name i) d ρ fun ρ1 => D.nx ρ1 G1) hv u h (fun d G' v H' q s r p => k.nx _ _ _ _ (show D.nx (ρ.set i (some d)) G' from by simpa only [setT] using q) s ((u.step s r).set p i)) (fin_val (c := c) (QD := fun d G1 => setT (.name i) d ρ fun ρ1 => D.nx ρ1 G1))
theorem ds_setLcM {i : Nat} {y : Str} {py spos : Pos} (hc : X.calm = true) (hN : X.N.Nodup) (hi : PI X tg iter (lI X.K c ti)) (ok : BlkOk X.N X.env.scope scope own)
    (hg : ∀ (s : Shared) (H : Hp) (C : Addr) (cl : List (Str × Addr)) (fp : List Addr) (c' : DC), PG (X.blk s H scope (compEnvC scope cl C X.env) fp) tg (lG X.K c' g)) (ht : ∀ (s : Shared) (H : Hp) (C : Addr) (cl : List (Str × Addr)) (fp : List Addr) (c' : DC), PTs (X.blk s H scope (compEnvC scope cl C X.env) fp) ifs (lT X.K c' tt))
    (he : ∀ (s : Shared) (H : Hp) (C : Addr) (cl : List (Str × Addr)) (fp : List Addr) (c' : DC), PE (X.blk s H scope (compEnvC scope cl C X.env) fp) elt (lE X.K c' te)) (hsw : swapsWith (.ListComp elt [⟨tg, iter, ifs, 0⟩] scope pos) (some (.Name y py)) spos.line X.env = pure true)
    (hy : X.N[i]? = some y := by rfl) (hyl : X.env.scope.names.lookup y = some .local := by rfl) (hv : ∀ i ∈ g.slots, i ∈ own.map (·.2) := by decide) (hs : ∀ x, foldedSetIterable iter X.env x = pure x := by intro _; rfl) :
    PS X (.Assign [.Name y py] (.ListComp elt [⟨tg, iter, ifs, 0⟩] scope pos) spos) (lS X.K c (dAsg (dLcM ti (own.map (·.2)) g tt te) (.name i))) :=
  PS_imp (ps_setLc (i := i) (g := xG X.K g) (tt := xT X.K tt) (te := xE X.K te) hc hN hy hyl hsw hi ok (fun s H C cl fp => pg_ex fun c' => hg s H C cl fp c') (fun s H C cl fp => pts_ex fun c' => ht s H C cl fp c') (fun s H C cl fp => pe_ex fun c' => he s H C cl fp c') hs)
    fun E σ H ⟨ρ, G, D, u, h, k⟩ => lc_imp (fin := fun acc G2 Q => ∀ p, G2 p = none → Q (.ref p) (updG G2 p (.lst acc))) (QD := fun d G1 => setT (.name i) d ρ fun ρ1 => D.nx ρ1 G1) hv u h (fun d G' v H' q s r p => k.nx _ _ _ _ (show D.nx (ρ.set i (some d)) G' from by simpa only [setT] using q) s ((u.step s r).set p i)) (fin_mut (c := c) (QD := fun d G1 => setT (.name i) d ρ fun ρ1 => D.nx ρ1 G1))
end
end
end DL

end

section
set_option Elab.async false
set_option linter.all false
set_option maxRecDepth 100000
set_option maxHeartbeats 1000000
namespace DL
open PySem PySem.Spec PyProof.Rows L2

/-! ## what a def promises -/
abbrev DSp := List D → GH → DK → DXK → Prop
def RelX (K : PySem.W.Frag) (P : Addr → Prop) (G : GH) (H : Hp) (cls : Value) (d : Option Addr) (x : DX) : Prop :=
  cls = .ref x.cls ∧ ∃ dd v, d = some dd ∧ H dd = some (.xd [(x.fld, v)]) ∧ Rep K P G H v x.val
def liftSp (K : PySem.W.Frag) (sp : DSp) : Sp := fun vs H Q E => ∃ ds P G QD ED, RepL K P G H vs ds ∧ Rl K P G H ∧ sp ds G QD ED ∧
  (∀ d G' v H', QD d G' → Step G H G' H' → Rl K P G' H' → Rep K P G' H' v d → Q v H') ∧ ∀ x G' cls d H', ED x G' → Step G H G' H' → Rl K P G' H' → RelX K P G' H' cls d x → E cls d H'
/-- an exception that Ex tells may leave -/
def XOk (X : Cx) (c : DC) (Ex : DXK) : Prop := ∃ W, Takes X W ∧ ∀ x G H cls d σ, Ex x G → Step c.G0 c.H0 G H → Rl X.K c.P G H → RelX X.K c.P G H cls d x → W cls d σ H
theorem xok0 {X : Cx} {c : DC} : XOk X c noX := ⟨fun _ _ _ _ => False, L2.takes0, fun _ _ _ _ _ _ h => h.elim⟩
def dCall (sp : DSp) (Ex : DXK) (ta : DA) : DE := fun ρ G Q => ta ρ G fun ds G1 => sp ds G1 Q Ex
structure FnD (P : Program) (w : World) (K : PySem.W.Frag) (mg : Str → Option Value) (base : Heap) (x : Str) (k : Nat) (ps : List Str) (sp : DSp) : Prop where
  ex : ∃ f fd, mg x = some (.ref f) ∧ PySem.W.keepIn K (.ref f) = true ∧ Binds K fd ps [] ∧ KBn K fd ps 0 ps (fun _ ws => ws) (fun _ zs => zs) ∧ FnOk P w K mg base (L2.CX P w) k f fd ps (liftSp K sp)
theorem FnD.mono {P : Program} {w : World} {K : PySem.W.Frag} {mg : Str → Option Value} {base : Heap} {x : Str} {j k : Nat} {ps : List Str} {sp : DSp} (F : FnD P w K mg base x j ps sp) (h : j ≤ k) : FnD P w K mg base x k ps sp := by
  obtain ⟨f, fd, a, b, d, e, g⟩ := F.ex
  exact ⟨f, fd, a, b, d, e, g.mono h⟩
/-- a weaker promise -/
theorem FnD.imp {P : Program} {w : World} {K : PySem.W.Frag} {mg : Str → Option Value} {base : Heap} {x : Str} {k : Nat} {ps : List Str} {sp sp' : DSp} (F : FnD P w K mg base x k ps sp) (h : ∀ ds G Q E, sp' ds G Q E → sp ds G Q E) : FnD P w K mg base x k ps sp' := by
  obtain ⟨f, fd, a, b, d, e, g⟩ := F.ex
  exact ⟨f, fd, a, b, d, e, g.imp fun vs H Q E ⟨ds, P, G, QD, ED, h1, h2, h3, h4⟩ => ⟨ds, P, G, QD, ED, h1, h2, h _ _ _ _ h3, h4⟩⟩
section
variable {X : Cx} {c : DC} {Ex : DXK} {k : Nat} {ps : List Str} {sp : DSp} {x : Str} {p pos : Pos} {e : Expr} {es : List Expr} {ta : DA} {kws : List Keyword}
/-- the wish about exceptions, on the side of the heap -/
def exV (K : PySem.W.Frag) (c : DC) (Ex : DXK) : XK := fun cls d H => ∃ x G, Ex x G ∧ Step c.G0 c.H0 G H ∧ Rl K c.P G H ∧ RelX K c.P G H cls d x
theorem XOk.passes (h : XOk X c Ex) : Passes (L2.CX X.prog X.w) X (exV X.K c Ex) := by
  obtain ⟨W, tk, hW⟩ := h
  exact passes_call tk fun cls d σ H ⟨x, G, h1, h2, h3, h4⟩ => hW x G H cls d σ h1 h2 h3 h4
theorem call_lift {K : PySem.W.Frag} {ρ : DSt} {σ : L2.St} {H H1 : Hp} {Q : VK} {QD : DK} {ds : List D} {G G1 : GH} {vs : List V} (u : Cur K c σ H ρ G) (k : ∀ d G' v H', QD d G' → Step G H G' H' → Rl K c.P G' H' → Rep K c.P G' H' v d → Q v H')
    (q : sp ds G1 QD Ex) (s1 : Step G H G1 H1) (r1 : Rl K c.P G1 H1) (p1 : RepL K c.P G1 H1 vs ds) : liftSp K sp vs H1 Q (exV K c Ex) :=
  ⟨ds, c.P, G1, QD, Ex, p1, r1, q, fun d G' v H' q2 s2 r2 p2 => k _ _ _ _ q2 (s1.trans s2) r2 p2, fun x G' cls d H' q2 s2 r2 p2 => ⟨x, G', q2, (u.st.trans s1).trans s2, r2, p2⟩⟩
theorem d_call (F : FnD X.prog X.w X.K X.mg X.base x k ps sp) (hr : Room k X.A) (hx : XOk X c Ex) (ha : PA X (e :: es) (lA X.K c ta)) (hg : Gl X x := by rfl) (hdb : (x == ("__debug__" : Str)) = false := by decide)
    (he : starEach (e :: es) X.env = (false, eval e X.env) :: starEach es X.env := by rfl) (hpl : (backTo pos (starEach es X.env)).any (·.1) = false := by rfl) : PE X (.Call (.Name x p) (e :: es) [] pos) (lE X.K c (dCall sp Ex ta)) := by
  obtain ⟨f, fd, hm, hk, hb, _, FF⟩ := F.ex
  exact PE_imp (pe_call FF hr hg hm hk hb .nil hx.passes ha hdb he hpl) fun σ H Q ⟨ρ, G, QD, u, h, kk⟩ => ⟨ρ, G, _, u, h, fun ds G1 vs H1 q s1 r1 p1 => by
    show liftSp X.K sp (vs ++ []) H1 Q (exV X.K c Ex)
    rw [List.append_nil]
    exact call_lift u kk q s1 r1 p1⟩
/-- the keywords' values -/
theorem dk_nil : PK X [] (lA X.K c dNil) := ⟨fun pos pins s σ H Q I ⟨ρ, G, QD, u, h, k⟩ => pk_nil.run pos pins s σ H Q I (k _ _ _ _ h (Step.refl _ _) u.rl .nil)⟩
theorem dk_cons {te : DE} {nm : Option Str} {kpos : Pos} (ha : PE X e (lE X.K c te)) (hr : PK X kws (lA X.K c ta)) : PK X (⟨nm, e, kpos⟩ :: kws) (lA X.K c (dCons te ta)) := ⟨fun pos pins s σ H Q I ⟨ρ, G, QD, u, h, k⟩ =>
  (pk_cons ha hr).run pos pins s σ H Q I ⟨ρ, G, _, u, h, fun d G1 v H1 q1 s1 r1 p1 => ⟨ρ, G1, _, u.step s1 r1, q1, fun ds G2 vs H2 q2 s2 r2 p2 => k _ _ _ _ q2 (s1.trans s2) r2 (.cons (p1.mono r1 s2) p2)⟩⟩⟩
theorem d_callK (F : FnD X.prog X.w X.K X.mg X.base x k ps sp) (hr : Room k X.A) (hx : XOk X c Ex) (hkw : PK X kws (lA X.K c ta)) (hlen : ∀ ds G Q E, sp ds G Q E → ds.length = ps.length) (hg : Gl X x := by rfl)
    (hall : (backToKw pos (keywordEach kws X.env)).all (·.1.isSome) = true := by rfl) (hks : (backToKw pos (keywordEach kws X.env)).filterMap (·.1) = ps := by rfl) (hdb : (x == ("__debug__" : Str)) = false := by decide)
    (hpl : ((backTo pos (starEach [] X.env)).any (·.1) || (backToKw pos (keywordEach kws X.env)).any (·.1.isNone)) = false := by rfl) : PE X (.Call (.Name x p) [] kws pos) (lE X.K c (dCall sp Ex ta)) := by
  obtain ⟨f, fd, hm, hk, _, hb, FF⟩ := F.ex
  refine ⟨fun pins s σ H Q I h => ?_⟩
  refine wpAny_Call_Name_kw (ld_glob I hg hm ?_ hdb)
  refine PySem.W.callWith_KW0 (h₀ := X.base) I.ok.mod.kin hk hall ?_ hpl
  obtain ⟨ρ, G, QD, u, h, kk⟩ := h
  refine thn (hkw.run pos pins s σ H (fun zs H2 => zs.length = ps.length ∧ liftSp X.K sp zs H2 Q (exV X.K c Ex)) I ⟨ρ, G, _, u, h, fun ds G1 vs H1 q s1 r1 p1 => ⟨by rw [p1.length]; exact hlen _ _ _ _ q, call_lift u kk q s1 r1 p1⟩⟩) fun ws s2 ⟨zs, H2, I2, rz, l2, q2⟩ => ⟨I2.kIn, ?_⟩
  rw [hks]
  exact run_fnN (us := []) (vs := []) FF hr hb hx.passes I2 .nil rz rfl l2 q2
end

/-! ## a def's end -/
mutual
/-- what a def hands back of its own lists stands still from then on -/
inductive Frz (G G' : GH) : D → D → Prop
  | same (d : D) : Frz G G' d d
  | own {p : Addr} {ds ds' : List D} : G p = some (.lst ds) → G' p = none → FrzA G G' ds ds' → Frz G G' (.ref p) (.lst ds')
  | tup {ds ds' : List D} : FrzA G G' ds ds' → Frz G G' (.tup ds) (.tup ds')
  | lst {ds ds' : List D} : FrzA G G' ds ds' → Frz G G' (.lst ds) (.lst ds')
inductive FrzA (G G' : GH) : List D → List D → Prop
  | nil : FrzA G G' [] []
  | cons {d d' : D} {ds ds' : List D} : Frz G G' d d' → FrzA G G' ds ds' → FrzA G G' (d :: ds) (d' :: ds')
end
def Le (G' G : GH) : Prop := ∀ a o, G' a = some o → G a = some o
theorem Le.refl (G : GH) : Le G G := fun _ _ h => h
theorem Le.trans {G G1 G2 : GH} (a : Le G G1) (b : Le G1 G2) : Le G G2 := fun c o h => b c o (a c o h)
theorem Le.none {G' G : GH} (l : Le G' G) {a : Addr} (h : G a = Option.none) : G' a = Option.none := by
  cases e : G' a with
  | none => rfl
  | some o => have := l a o e; rw [h] at this; cases this
theorem Le.new {G' G : GH} (l : Le G' G) {p : Addr} {o : GO} (h : G p = Option.none) : Le G' (updG G p o) := fun a u e => by
  have n : a ≠ p := fun z => by
    have := l a u e
    rw [z, h] at this; cases this
  rw [updG_ne n]; exact l a u e
theorem Le.put {G' G : GH} (l : Le G' G) {p : Addr} {o : GO} (h : G' p = Option.none) : Le G' (updG G p o) := fun a u e => by
  have n : a ≠ p := fun z => by rw [z, h] at e; cases e
  rw [updG_ne n]; exact l a u e
section
variable {K : PySem.W.Frag} {P : Addr → Prop} {G G' : GH} {H : Hp}
theorem Rl.le (r : Rl K P G H) (l : Le G' G) : Rl K P G' H where
  h := fun a g e => by
    have q := r.h a g (l a g e)
    cases g with
    | lst ds => obtain ⟨xs, e, t⟩ := q; exact ⟨xs, e, t.sub (fun _ z => z) fun a _ z => l.none z⟩
    | ins C fs => obtain ⟨dx, gs, e, t⟩ := q; exact ⟨dx, gs, e, t.sub (fun _ z => z) fun a _ z => l.none z⟩
    | tab q' => exact q
  p := fun a z => ⟨l.none (r.p a z).1, (r.p a z).2⟩
mutual
theorem Frz.rep (r : Rl K P G H) (l : Le G' G) : ∀ {v : V} {d d' : D}, Rep K P G H v d → Frz G G' d d' → Rep K P G' H v d'
  | v, d, d', x, z => by
    cases z with
    | same => exact x.sub (fun _ z => z) fun a _ z => l.none z
    | own h g t =>
      cases x with
      | ref a =>
        obtain ⟨xs, e, q⟩ := r.h _ _ h
        exact .lst e g (fun z => by have := (r.p _ z).1; rw [h] at this; cases this) (FrzA.rep r l q t)
    | tup t =>
      cases x with
      | tup h x => exact .tup h (FrzA.rep r l x t)
    | lst t =>
      cases x with
      | lst h g p x => exact .lst h (l.none g) p (FrzA.rep r l x t)
theorem FrzA.rep (r : Rl K P G H) (l : Le G' G) : ∀ {v : List V} {d d' : List D}, RepL K P G H v d → FrzA G G' d d' → RepL K P G' H v d'
  | v, d, d', x, z => by
    cases z with
    | nil => cases x; exact .nil
    | cons t ts =>
      cases x with
      | cons x xs => exact .cons (Frz.rep r l x t) (FrzA.rep r l xs ts)
end
end
def fnEnds (Q : DK) : DEnds where
  nx := fun _ G => ∃ G', Le G' G ∧ Q .non G'
  rt := fun d G => ∃ d' G', Le G' G ∧ Frz G G' d d' ∧ Q d' G'
def startD (N : List Str) (ds : List D) : DSt := ds.map some ++ List.replicate (N.length - ds.length) none
theorem start_rep {K : PySem.W.Frag} {P : Addr → Prop} {G : GH} {H : Hp} {N : List Str} : ∀ {vs : List V} {ds : List D}, RepL K P G H vs ds → RepS K P G H (L2.start N vs) (startD N ds) := by
  intro vs ds h
  unfold L2.start startD
  rw [h.length]
  generalize N.length - ds.length = n
  have base : ∀ n : Nat, RepS K P G H (List.replicate n (none : Option V)) (List.replicate n none) := fun n => by
    induction n with
    | zero => exact .nil
    | succ n ih => rw [List.replicate_succ, List.replicate_succ]; exact .cons trivial ih
  induction ds generalizing vs with
  | nil => cases h; exact base n
  | cons d ds ih =>
    cases h with
    | cons a t => exact .cons a (ih t)
/-- THE RULE for a def -/
theorem fn_ok {Pg : Program} {w : World} {K : PySem.W.Frag} {mg : Str → Option Value} {base : Heap} {x qual : Str} {params : Arguments} {body : List Stmt} {scope : Scope} {f : Addr} {fd : FuncData} {N ps : List Str} {k : Nat} {sp : DSp} {t : DXK → DS}
    (F : FunD K x qual params body scope [] [] f fd) (S : FnScope N ps scope) (len : ∀ ds G Q E, sp ds G Q E → ds.length = ps.length)
    (hbody : ∀ (cdv : Value) (A : Around) (outer : List Env) (s : Shared) (H : Hp) (E : XK) (c : DC) (Ex : DXK), Room k (A.deeper (envOfC qual scope s.heap.objs.size f cdv)) → XOk (cxOf (L2.CX Pg w) Pg w K mg base N qual scope f cdv A outer s H E) c Ex →
      PSs (cxOf (L2.CX Pg w) Pg w K mg base N qual scope f cdv A outer s H E) body (lS K c (t Ex)))
    (pure : ∀ ds G Q E, sp ds G Q E → t E (fnEnds Q) (startD N ds) G) : FnOk Pg w K mg base (L2.CX Pg w) (k + 1) f fd ps (liftSp K sp) := by
  refine F.ok S (fun vs H Q E ⟨ds, P, G, QD, ED, h1, h2, h3, _⟩ => by rw [h1.length]; exact len _ _ _ _ h3) fun cdv A outer s H vs Q E hr ⟨ds, P, G, QD, ED, h1, h2, h3, h4, h5⟩ => ?_
  have ok : XOk (cxOf (L2.CX Pg w) Pg w K mg base N qual scope f cdv A outer s H E) ⟨P, G, H⟩ ED := ⟨fun cls d _ H => E cls d H, takes_of rfl rfl rfl rfl, fun x G' H' cls d σ q s r p => h5 x G' cls d H' q s r p⟩
  refine ⟨_, hbody cdv A outer s H E ⟨P, G, H⟩ ED hr ok, startD N ds, G, fnEnds QD, ⟨h2, Step.refl _ _, start_rep h1⟩, pure _ _ _ _ h3, ⟨?_, ?_, ?_, ?_⟩⟩
  · rintro ρ G2 σ H2 ⟨G', l, q⟩ s2 u2
    exact h4 _ _ _ _ q (fun a o e n g => let ⟨e1, e2⟩ := s2 a o e n g; ⟨e1, l.none e2⟩) (u2.rl.le l) .non
  · rintro d G2 v H2 ⟨d', G', l, z, q⟩ s2 r2 p2
    exact h4 _ _ _ _ q (fun a o e n g => let ⟨e1, e2⟩ := s2 a o e n g; ⟨e1, l.none e2⟩) (r2.le l) (z.rep r2 l p2)
  · intro ρ G2 σ H2 q
    exact q.elim
  · intro ρ G2 σ H2 q
    exact q.elim
theorem fnD_of {P : Program} {w : World} {K : PySem.W.Frag} {mg : Str → Option Value} {base : Heap} {x qual : Str} {params : Arguments} {body : List Stmt} {scope : Scope} {f : Addr} {fd : FuncData} {ps : List Str} {k : Nat} {sp : DSp}
    (F : FunD K x qual params body scope [] [] f fd) (hm : mg x = some (.ref f)) (FF : FnOk P w K mg base (L2.CX P w) k f fd ps (liftSp K sp))
    (h : ∀ (kV doc pm : Value) (an : Option Addr) (cdv ct : Value) (us : List Value), us.length = ps.length → bindArgs (PySem.W.fnOf x qual params body scope .none kV doc pm an cdv ct) ⟨us, []⟩ = pure (ps.zip us))
    (h2 : ∀ (kV doc pm : Value) (an : Option Addr) (cdv ct : Value) (ws : List Value), ws.length = ps.length → bindArgs (PySem.W.fnOf x qual params body scope .none kV doc pm an cdv ct) ⟨[], ps.zip ws⟩ = pure (ps.zip ws)) : FnD P w K mg base x k ps sp := by
  refine ⟨f, fd, hm, F.kp, F.bindsN h, ⟨fun s us ws X l1 l2 => ?_, fun _ r => r⟩, FF⟩
  obtain rfl : us = [] := List.length_eq_zero_iff.mp l1
  obtain ⟨oc, od, dV, kV, doc, pm, an, cdv, ct, osl, rfl, lk, hcd, hD, hK⟩ := F.ex
  rcases hD with ⟨_, rfl⟩ | ⟨e, _⟩
  · exact .of_eq (h2 kV doc pm an cdv ct ws l2)
  · exact absurd rfl e

/-! ## raise -/
def lMk (K : PySem.W.Frag) (c : DC) (t : DSt → GH → DXK → Prop) : L2.St → Hp → XK → Prop := fun σ H Q => ∃ ρ G QD, Cur K c σ H ρ G ∧ t ρ G QD ∧ ∀ x G' cls d H', QD x G' → Step G H G' H' → Rl K c.P G' H' → RelX K c.P G' H' cls d x → Q cls d H'
def dRaise (Ex : DXK) (t : DSt → GH → DXK → Prop) : DS := fun _ ρ G => t ρ G Ex
theorem PMk_imp {X : Cx} {e : Expr} {t t' : L2.St → Hp → XK → Prop} (h : PMk X e t) (i : ∀ σ H Q, t' σ H Q → t σ H Q) : PMk X e t' := fun pins s σ H Q I q => h pins s σ H Q I (i _ _ _ q)
theorem ds_raise {X : Cx} {c : DC} {Ex : DXK} {e : Expr} {t : DSt → GH → DXK → Prop} {pos : Pos} (hc : X.calm = true) (hx : XOk X c Ex) (he : PMk X e (lMk X.K c t)) : PS X (.Raise (some e) none pos) (lS X.K c (dRaise Ex t)) := by
  obtain ⟨W, tk, hW⟩ := hx
  exact PS_imp (ps_raise hc tk he) fun E σ H ⟨ρ, G, D, u, h, k⟩ => ⟨ρ, G, _, u, h, fun x G' cls d H' q s r p => hW x G' H' cls d σ q (u.st.trans s) r p⟩
/-- C(e), C an own class whose one field f keeps what it is made with -/
def tMkF (C : Addr) (f : Str) (ta : TA) : L2.St → Hp → XK → Prop := fun σ H Q => ta σ H fun vs H1 => ∃ v, vs = [v] ∧ ∀ d, H1 d = none → Q (.ref C) (some d) (upd H1 d (.xd [(f, v)]))
def dMk (C : Addr) (f : Str) (ta : DA) : DSt → GH → DXK → Prop := fun ρ G Q => ta ρ G fun ds G1 => match ds with
  | [d] => Q ⟨C, f, d⟩ G1
  | _ => False
theorem dmk_of {X : Cx} {c : DC} {C : Addr} {f : Str} {e : Expr} {ta : DA} (h : PMk X e (tMkF C f (lA X.K c ta))) : PMk X e (lMk X.K c (dMk C f ta)) :=
  PMk_imp h fun σ H Q ⟨ρ, G, QD, u, h, k⟩ => ⟨ρ, G, _, u, h, fun ds G1 vs H1 q s r p => by
    cases p with
    | nil => exact (show False from q).elim
    | cons p ps => cases ps with
      | cons _ _ => exact (show False from q).elim
      | nil => exact ⟨_, rfl, fun d hd => k _ _ _ _ _ q (s.trans (step_new hd)) (r.new hd) ⟨rfl, d, _, rfl, upd_same, p.mono r (step_new hd)⟩⟩⟩
end DL

end

section
set_option Elab.async false
set_option linter.all false
set_option maxRecDepth 100000
set_option maxHeartbeats 1000000
namespace DL
open PySem PySem.Spec PyProof.Rows L2

/-! ## data as the library's data -/
mutual
def D.py : D → PyData
  | .non => .none
  | .bl b => .bool b
  | .int i => .int i
  | .str x => .str x
  | .ty _ => .dict []
  | .ref _ => .dict []
  | .tup ds => .tuple (pyL ds)
  | .lst ds => .list (pyL ds)
  | .scr ds => .list (pyL ds)
def pyL : List D → List PyData
  | [] => []
  | d :: ds => d.py :: pyL ds
end
theorem pyL_map (ds : List D) : pyL ds = ds.map D.py := by
  induction ds with
  | nil => simp [pyL]
  | cons d ds ih => simp [pyL, ih]
section
variable {K : PySem.W.Frag} {P : Addr → Prop} {G : GH} {H : Hp}
theorem canLay_dict (kvs : List (PyData × PyData)) : PyData.canLay0 (.dict kvs) = false := by simp [PyData.canLay0]
mutual
theorem Rep.dp : ∀ {v : V} {d : D}, Rep K P G H v d → d.py.canLay0 = true → Dp K H v d.py
  | _, _, .non, _ => by simp only [D.py]; exact .non
  | _, _, .bl b, _ => by simp only [D.py]; exact .bl b
  | _, _, .int i, _ => by simp only [D.py]; exact .int i
  | _, _, .str x, _ => by simp only [D.py]; exact .str x
  | _, _, .ty n, h => by simp [D.py, PyData.canLay0] at h
  | _, _, .ref a, h => by simp [D.py, PyData.canLay0] at h
  | _, _, .tup hq t, h => by
    simp only [D.py] at h ⊢
    exact .tup hq (RepL.dp t (by simpa only [PyData.canLay0] using h))
  | _, _, .lst e _ _ t, h => by
    simp only [D.py] at h ⊢
    exact .lst (.of e) (RepL.dp t (by simpa only [PyData.canLay0] using h))
  | _, _, .frz e t, h => by
    simp only [D.py] at h ⊢
    exact .lst e.seq (RepL.dp t (by simpa only [PyData.canLay0] using h))
theorem RepL.dp : ∀ {v : List V} {d : List D}, RepL K P G H v d → PyData.canLayAll0 (pyL d) = true → DpAll K H v (pyL d)
  | _, _, .nil, _ => by simp only [pyL]; exact .nil
  | _, _, .cons h t, e => by
    simp only [pyL, PyData.canLayAll0, Bool.and_eq_true] at e ⊢
    exact .cons (Rep.dp h e.1) (RepL.dp t e.2)
end
end
/-- a list of one's own is read as it stands -/
def valD (G : GH) : D → D
  | .ref p => match G p with
    | some (.lst ds) => .lst ds
    | _ => .ref p
  | d => d
/-- may be compared -/
def shapedD (d : D) : Bool := SeqAt.shaped d.py
theorem val_dp {K : PySem.W.Frag} {P : Addr → Prop} {G : GH} {H : Hp} {v : V} {d : D} (r : Rl K P G H) (h : Rep K P G H v d) (e : shapedD (valD G d) = true) : Dp K H v (valD G d).py := by
  have cl := SeqAt.canLay_of_shaped e
  cases h with
  | ref a =>
    cases q : G a with
    | none =>
      have z : valD G (.ref a) = .ref a := by unfold valD; simp [q]
      rw [z] at cl
      simp [D.py, PyData.canLay0] at cl
    | some g =>
      cases g with
      | lst ds =>
        have z : valD G (.ref a) = .lst ds := by unfold valD; simp [q]
        rw [z] at cl ⊢
        obtain ⟨xs, e1, t⟩ := r.h a _ q
        simp only [D.py] at cl ⊢
        exact .lst (.of e1) (t.dp (by simpa only [PyData.canLay0] using cl))
      | ins C fs =>
        have z : valD G (.ref a) = .ref a := by unfold valD; simp [q]
        rw [z] at cl
        simp [D.py, PyData.canLay0] at cl
      | tab q' =>
        have z : valD G (.ref a) = .ref a := by unfold valD; simp [q]
        rw [z] at cl
        simp [D.py, PyData.canLay0] at cl
  | non => exact Rep.dp (P := P) (G := G) .non cl
  | bl b => exact Rep.dp (P := P) (G := G) (.bl b) cl
  | int i => exact Rep.dp (P := P) (G := G) (.int i) cl
  | str x => exact Rep.dp (P := P) (G := G) (.str x) cl
  | ty n => exact Rep.dp (P := P) (G := G) (.ty n) cl
  | tup a b => exact Rep.dp (P := P) (G := G) (.tup a b) cl
  | lst a b x y => exact Rep.dp (P := P) (G := G) (.lst a b x y) cl
  | frz a b => exact Rep.dp (P := P) (G := G) (.frz a b) cl

/-! ## operators -/
section
variable {X : Cx}
/-- an end whose heap is the same -/
theorem here {K : PySem.W.Frag} {P : Addr → Prop} {G : GH} {H : Hp} {Q : VK} {QD : DK} {v : V} {d : D} (k : ∀ d' G' v H', QD d' G' → Step G H G' H' → Rl K P G' H' → Rep K P G' H' v d' → Q v H') (r : Rl K P G H) (q : QD d G) (p : Rep K P G H v d) : Q v H :=
  k _ _ _ _ q (Step.refl _ _) r p
def i2 (C : Int → Int → Prop) (g : Int → Int → D) : R2D := fun x y G Q => match x, y with
  | .int i, .int j => C i j ∧ Q (g i j) G
  | _, _ => False
theorem od_i2 {f : Value → Value → Sem Value} {C : Int → Int → Prop} {g : Int → Int → V} {gd : Int → Int → D} (ho : OpR X f (rI C g)) (fl : ∀ i j, Flat (g i j) (gd i j)) : OpD X f (i2 C gd) := by
  intro P pins s σ H x y v u Q I rx ry ⟨d, e, G, QD, r, hd, he, h, k⟩
  cases hd with
  | int i =>
    cases he with
    | int j => exact ho pins s σ H _ _ v u Q I rx ry ⟨i, j, rfl, rfl, h.1, here k r h.2 (fl i j _ _ _ _)⟩
    | _ => exact (show False from h).elim
  | _ => exact (show False from h).elim
theorem OpR.of0 {f : Value → Value → Sem Value} {g : Int → Int → V} (ho : OpR X f (rI0 g)) : OpR X f (rI (fun _ _ => True) g) := fun pins s σ H x y v u Q I rx ry ⟨i, j, a, b, _, q⟩ => ho pins s σ H x y v u Q I rx ry ⟨i, j, a, b, q⟩
def TT0 : Int → Int → Prop := fun _ _ => True
abbrev subD : R2D := i2 TT0 fun i j => .int (i - j)
theorem od_sub : OpD X (binaryOp .Sub) subD := od_i2 (OpR.of0 op_sub) fun i j _ _ _ _ => .int _
abbrev modD : R2D := i2 (fun _ j => j ≠ 0) fun i j => .int (i.fmod j)
theorem od_mod : OpD X (binaryOp .Mod) modD := od_i2 op_modN fun i j _ _ _ _ => .int _
abbrev fdivD : R2D := i2 CDivN fun i j => .int (i.fdiv j)
theorem od_fdiv : OpD X (binaryOp .FloorDiv) fdivD := od_i2 op_fdivN fun i j _ _ _ _ => .int _
abbrev powD : R2D := i2 CPow fun i j => .int (i ^ j.toNat)
theorem od_pow : OpD X (binaryOp .Pow) powD := od_i2 op_pow fun i j _ _ _ _ => .int _
abbrev leD : R2D := i2 TT0 fun i j => .bl (decide (i ≤ j))
theorem od_le : OpD X (compareOp .LtE) leD := od_i2 (OpR.of0 op_le) fun i j _ _ _ _ => .bl _
abbrev gtD : R2D := i2 TT0 fun i j => .bl (decide (j < i))
theorem od_gt : OpD X (compareOp .Gt) gtD := od_i2 (OpR.of0 op_gt) fun i j _ _ _ _ => .bl _
abbrev geD : R2D := i2 TT0 fun i j => .bl (decide (j ≤ i))
theorem od_ge : OpD X (compareOp .GtE) geD := od_i2 (OpR.of0 op_ge) fun i j _ _ _ _ => .bl _
/-- a + b -/
def catD (x y : D) (G : GH) (Q : DK) : Prop := match asL x G, asL y G with
  | some a, some b => a.length + b.length ≤ sizeLine ∧ Q (.lst (a ++ b)) G
  | _, _ => False
def addD : R2D := fun x y G Q => match x, y with
  | .int i, .int j => Q (.int (i + j)) G
  | .str a, .str b => a.length + b.length ≤ sizeLine ∧ Q (.str (a ++ b)) G
  | .tup a, .tup b => a.length + b.length ≤ sizeLine ∧ Q (.tup (a ++ b)) G
  | .lst a, y => catD (.lst a) y G Q
  | .ref p, y => catD (.ref p) y G Q
  | _, _ => False
theorem cat_ok {P : Addr → Prop} {pins : List (Addr × Obj)} {s : Shared} {σ : L2.St} {H : Hp} {x y : V} {v u : Value} {Q : VK} {d e : D} {G : GH} {QD : DK} (I : Inv X pins σ H s) (rx : RelV x v) (ry : RelV y u) (r : Rl X.K P G H) (hd : Rep X.K P G H x d) (he : Rep X.K P G H y e) (h : catD d e G QD)
    (k : ∀ d' G' v H', QD d' G' → Step G H G' H' → Rl X.K P G' H' → Rep X.K P G' H' v d' → Q v H') : wpAny (model X.prog X.w) X.A (binaryOp .Add v u) (EP X pins σ Q) X.xe s := by
  unfold catD at h
  split at h
  · rename_i a b ea eb
    obtain ⟨p, xs, rfl, e1, t1⟩ := asL_rep r hd ea
    obtain ⟨q, ys, rfl, e2, t2⟩ := asL_rep r he eb
    exact op_cat pins s σ H _ _ v u Q I rx ry ⟨p, q, xs, ys, rfl, rfl, e1, e2, by rw [t1.length, t2.length]; exact h.1, fun n hn => k _ _ _ _ h.2 (step_new hn) (r.new hn) (Rep.newL r hn (t1.append t2))⟩
  · exact h.elim
theorem od_add : OpD X (binaryOp .Add) addD := by
  intro P pins s σ H x y v u Q I rx ry ⟨d, e, G, QD, r, hd, he, h, k⟩
  cases d with
  | int i =>
    cases hd
    cases he with
    | int j => exact op_add pins s σ H _ _ v u Q I rx ry ⟨i, j, rfl, rfl, here k r h (.int _)⟩
    | _ => exact (show False from h).elim
  | str a =>
    cases hd
    cases he with
    | str b => exact op_add_str pins s σ H _ _ v u Q I rx ry ⟨a, b, rfl, rfl, h.1, here k r h.2 (.str _)⟩
    | _ => exact (show False from h).elim
  | tup a =>
    cases he with
    | tup h2 t2 =>
      cases hd with
      | tup h1 t1 =>
        refine op_catA pins s σ H _ _ v u Q I rx ry ⟨_, _, _, _, rfl, rfl, h1, h2, by rw [t1.length, t2.length]; exact h.1, fun e1 => ?_, fun _ e2 => ?_, fun _ _ n hn => ?_⟩
        · subst e1
          cases t1
          exact here k r h.2 (.tup h2 t2)
        · subst e2
          cases t2
          exact here k r h.2 (.tup h1 (by rw [List.append_nil]; exact t1))
        · exact k _ _ _ _ h.2 (step_new hn) (r.new hn) (Rep.newT r hn (t1.append t2))
    | _ => exact (show False from h).elim
  | lst a => exact cat_ok I rx ry r hd he h k
  | ref p => exact cat_ok I rx ry r hd he h k
  | non => cases he <;> exact (show False from h).elim
  | bl _ => cases he <;> exact (show False from h).elim
  | ty _ => cases he <;> exact (show False from h).elim
  | scr _ => cases he <;> exact (show False from h).elim
/-- a * b -/
def mulD : R2D := fun x y G Q => match x, y with
  | .int i, .int j => CMul i j ∧ Q (.int (i * j)) G
  | .tup a, .int n => (a ≠ [] ∧ 2 ≤ n ∧ n ≤ 1000 ∧ a.length ≤ 1000) ∧ Q (.tup (List.replicate n.toNat a).flatten) G
  | .lst a, .int n => (-(2 ^ 63) ≤ n ∧ n < 2 ^ 63 ∧ a.length * n.toNat ≤ sizeLine) ∧ Q (.lst (List.replicate n.toNat a).flatten) G
  | _, _ => False
theorem od_mul : OpD X (binaryOp .Mult) mulD := by
  intro P pins s σ H x y v u Q I rx ry ⟨d, e, G, QD, r, hd, he, h, k⟩
  cases d with
  | int i =>
    cases hd
    cases he with
    | int j => exact op_mul pins s σ H _ _ v u Q I rx ry ⟨i, j, rfl, rfl, h.1, here k r h.2 (.int _)⟩
    | _ => exact (show False from h).elim
  | tup a =>
    cases he with
    | int n =>
      cases hd with
      | tup h1 t1 =>
        obtain ⟨⟨c1, c2, c3, c4⟩, q⟩ := h
        have ne : ∀ xs : List V, RepL X.K P G H xs a → xs ≠ [] := fun xs t z => c1 (by subst z; cases t; rfl)
        exact op_repT pins s σ H _ _ v u Q I rx ry ⟨_, n, _, rfl, rfl, h1, ne _ t1, c2, c3, by rw [t1.length]; exact c4, fun p hp => k _ _ _ _ q (step_new hp) (r.new hp) (Rep.newT r hp (t1.replicate _))⟩
    | _ => exact (show False from h).elim
  | lst a =>
    cases he with
    | int n =>
      cases hd with
      | lst h1 _ _ t1 =>
        obtain ⟨⟨c1, c2, c3⟩, q⟩ := h
        exact op_rep pins s σ H _ _ v u Q I rx ry ⟨_, n, _, rfl, rfl, h1, c1, c2, by rw [t1.length]; exact c3, fun p hp => k _ _ _ _ q (step_new hp) (r.new hp) (Rep.newL r hp (t1.replicate _))⟩
    | _ => exact (show False from h).elim
  | ref p => cases he <;> exact (show False from h).elim
  | non => cases he <;> exact (show False from h).elim
  | bl _ => cases he <;> exact (show False from h).elim
  | ty _ => cases he <;> exact (show False from h).elim
  | scr _ => cases he <;> exact (show False from h).elim
  | str _ => cases he <;> exact (show False from h).elim
/-- a < b: ints, texts -/
def ltD : R2D := fun x y G Q => match x, y with
  | .int i, .int j => Q (.bl (decide (i < j))) G
  | .str a, .str b => Q (.bl (decide (a.cps.toList < b.cps.toList))) G
  | _, _ => False
theorem od_lt : OpD X (compareOp .Lt) ltD := by
  intro P pins s σ H x y v u Q I rx ry ⟨d, e, G, QD, r, hd, he, h, k⟩
  cases hd with
  | int i =>
    cases he with
    | int j => exact op_lt pins s σ H _ _ v u Q I rx ry ⟨i, j, rfl, rfl, here k r h (.bl _)⟩
    | _ => exact (show False from h).elim
  | str a =>
    cases he with
    | str b => exact op_lt_str pins s σ H _ _ v u Q I rx ry ⟨a, b, rfl, rfl, here k r h (.bl _)⟩
    | _ => exact (show False from h).elim
  | _ => cases he <;> exact (show False from h).elim
/-- x is None -/
def isNon : D → Bool
  | .non => true
  | _ => false
def isND : R2D := fun x y G Q => match y with
  | .non => Q (.bl (isNon x)) G
  | _ => False
def notND : R2D := fun x y G Q => match y with
  | .non => Q (.bl (!isNon x)) G
  | _ => False
theorem isNon_rep {K : PySem.W.Frag} {P : Addr → Prop} {G : GH} {H : Hp} {v : V} {d : D} (h : Rep K P G H v d) : decide (v = .non) = isNon d := by
  cases h <;> rfl
theorem od_isN : OpD X (compareOp .Is) isND := by
  intro P pins s σ H x y v u Q I rx ry ⟨d, e, G, QD, r, hd, he, h, k⟩
  cases he with
  | non => exact op_isN pins s σ H _ _ v u Q I rx ry ⟨rfl, by rw [isNon_rep hd]; exact here k r h (.bl _)⟩
  | _ => exact (show False from h).elim
theorem od_notN : OpD X (compareOp .IsNot) notND := by
  intro P pins s σ H x y v u Q I rx ry ⟨d, e, G, QD, r, hd, he, h, k⟩
  cases he with
  | non => exact op_notN pins s σ H _ _ v u Q I rx ry ⟨rfl, by rw [isNon_rep hd]; exact here k r h (.bl _)⟩
  | _ => exact (show False from h).elim
/-- x == y: the scalars by themselves, all else as data -/
def eqS : D → D → Option Bool
  | .non, .non => some true
  | .int i, .int j => some (decide (i = j))
  | .bl i, .bl j => some (decide (i = j))
  | .str i, .str j => some (decide (i = j))
  | .non, .int _ => some false
  | .int _, .non => some false
  | .non, .bl _ => some false
  | .bl _, .non => some false
  | .non, .str _ => some false
  | .str _, .non => some false
  | .int _, .str _ => some false
  | .str _, .int _ => some false
  | .bl _, .str _ => some false
  | .str _, .bl _ => some false
  | _, _ => none
def eqQ (neg : Bool) : R2D := fun x y G Q => match eqS x y with
  | some b => Q (.bl (b ^^ neg)) G
  | none => (shapedD (valD G x) = true ∧ shapedD (valD G y) = true) ∧ Q (.bl (PyData.eqv (valD G x).py (valD G y).py ^^ neg)) G
theorem eqS_rep {K : PySem.W.Frag} {P : Addr → Prop} {G : GH} {H : Hp} {v u : V} {d e : D} {b : Bool} (h1 : Rep K P G H v d) (h2 : Rep K P G H u e) (q : eqS d e = some b) : scal v u = true ∧ decide (v = u) = b := by
  cases h1 <;> cases h2 <;> first
    | (cases q; exact ⟨rfl, rfl⟩)
    | (cases q; refine ⟨rfl, ?_⟩; simp)
    | cases q
abbrev eqD : R2D := eqQ false
abbrev neD : R2D := eqQ true
theorem od_eq (hu : X.A.units + 64 < cLine) : OpD X (compareOp .Eq) eqD := by
  intro P pins s σ H x y v u Q I rx ry ⟨d, e, G, QD, r, hd, he, h, k⟩
  have h : (match eqS d e with
    | some b => QD (.bl (b ^^ false)) G
    | none => (shapedD (valD G d) = true ∧ shapedD (valD G e) = true) ∧ QD (.bl (PyData.eqv (valD G d).py (valD G e).py ^^ false)) G) := h
  split at h
  · rename_i b q
    obtain ⟨q1, q2⟩ := eqS_rep hd he q
    rw [Bool.xor_false] at h
    exact op_eq pins s σ H _ _ v u Q I rx ry ⟨q1, by rw [q2]; exact here k r h (.bl _)⟩
  · obtain ⟨⟨s1, s2⟩, h⟩ := h
    rw [Bool.xor_false] at h
    exact op_eqD hu pins s σ H _ _ v u Q I rx ry ⟨_, _, val_dp r hd s1, val_dp r he s2, s1, s2, here k r h (.bl _)⟩
theorem od_ne (hu : X.A.units + 64 < cLine) : OpD X (compareOp .NotEq) neD := by
  intro P pins s σ H x y v u Q I rx ry ⟨d, e, G, QD, r, hd, he, h, k⟩
  have h : (match eqS d e with
    | some b => QD (.bl (b ^^ true)) G
    | none => (shapedD (valD G d) = true ∧ shapedD (valD G e) = true) ∧ QD (.bl (PyData.eqv (valD G d).py (valD G e).py ^^ true)) G) := h
  split at h
  · rename_i b q
    obtain ⟨q1, q2⟩ := eqS_rep hd he q
    rw [Bool.xor_true] at h
    exact op_ne pins s σ H _ _ v u Q I rx ry ⟨q1, by rw [q2]; exact here k r h (.bl _)⟩
  · obtain ⟨⟨s1, s2⟩, h⟩ := h
    rw [Bool.xor_true] at h
    exact op_neD hu pins s σ H _ _ v u Q I rx ry ⟨_, _, val_dp r hd s1, val_dp r he s2, s1, s2, here k r h (.bl _)⟩
/-- x in y: one sign in a text, data in a list or a tuple -/
def inQ (neg : Bool) : R2D := fun x y G Q => match y with
  | .str z => match x with
    | .str a => match a.cps.toList with
      | [c] => Q (.bl (decide (c ∈ z.cps.toList) ^^ neg)) G
      | _ => False
    | _ => False
  | y => (shapedD x = true ∧ shapedD (valD G y) = true) ∧ match asQ y G with
    | some ds => Q (.bl ((ds.any fun z => PyData.eqv z.py x.py) ^^ neg)) G
    | none => False
abbrev inD : R2D := inQ false
abbrev ninD : R2D := inQ true
theorem one_sign {a : Str} {c : Nat} (h : a.cps.toList = [c]) : a = ⟨#[c]⟩ := by
  obtain ⟨l⟩ := a
  have : l = #[c] := by
    apply Array.toList_inj.mp
    exact h
  rw [this]
theorem any_py (ds : List D) (d : PyData) : (ds.any fun z => PyData.eqv z.py d) = (pyL ds).any fun z => PyData.eqv z d := by
  rw [pyL_map, List.any_map]
  rfl
theorem in_data {neg : Bool} (hu : X.A.units + 65 < cLine) {P : Addr → Prop} {pins : List (Addr × Obj)} {s : Shared} {σ : L2.St} {H : Hp} {x y : V} {v u : Value} {Q : VK} {d e : D} {G : GH} {QD : DK} (I : Inv X pins σ H s) (rx : RelV x v) (ry : RelV y u) (r : Rl X.K P G H) (hd : Rep X.K P G H x d) (he : Rep X.K P G H y e)
    (h : (shapedD d = true ∧ shapedD (valD G e) = true) ∧ match asQ e G with
      | some ds => QD (.bl ((ds.any fun z => PyData.eqv z.py d.py) ^^ neg)) G
      | none => False)
    (k : ∀ d' G' v H', QD d' G' → Step G H G' H' → Rl X.K P G' H' → Rep X.K P G' H' v d' → Q v H') : wpAny (model X.prog X.w) X.A (compareOp (if neg = true then .NotIn else .In) v u) (EP X pins σ Q) X.xe s := by
  obtain ⟨⟨s1, s2⟩, h⟩ := h
  have dx : Dp X.K H x d.py := hd.dp (SeqAt.canLay_of_shaped s1)
  have dy := val_dp r he s2
  obtain ⟨as, r1⟩ := Dp.reads I _ x v dx rx
  obtain ⟨bs, r2⟩ := Dp.reads I _ y u dy ry
  split at h
  · rename_i ds eds
    have key : (valD G e).py = .list (pyL ds) ∨ (valD G e).py = .tuple (pyL ds) := by
      cases he with
      | lst _ _ _ _ => cases eds; exact .inl (by simp [valD, D.py])
      | frz _ _ => cases eds; exact .inl (by simp [valD, D.py])
      | tup _ _ => cases eds; exact .inr (by simp [valD, D.py])
      | ref a =>
        have e1 : (match G a with | some (.lst a) => some a | _ => none) = some ds := eds
        split at e1
        · rename_i z
          cases e1
          exact .inl (by simp [valD, z, D.py])
        · cases e1
      | _ => cases eds
    rw [any_py] at h
    have hn : ∀ b : Bool, QD (.bl b) G → EP X pins σ Q (.bool b) s := fun b q => ⟨.bl b, H, I, rfl, here k r q (.bl _)⟩
    rcases key with e1 | e1
    · have s2 : SeqAt.shaped (.list (pyL ds)) = true := by rw [← e1]; exact s2
      rw [e1] at r2
      cases neg with
      | true => exact SeqAt.notIn_list_reads r2 r1 (SeqAt.canLay_of_shaped s2) (SeqAt.canLay_of_shaped s1) (room_in_shaped s1 hu) (hn _ (by simpa using h))
      | false => exact SeqAt.in_list_reads r2 r1 (SeqAt.canLay_of_shaped s2) (SeqAt.canLay_of_shaped s1) (room_in_shaped s1 hu) (hn _ (by simpa using h))
    · have s2 : SeqAt.shaped (.tuple (pyL ds)) = true := by rw [← e1]; exact s2
      rw [e1] at r2
      cases neg with
      | true => exact SeqAt.notIn_tuple_reads r2 r1 (SeqAt.canLay_of_shaped s2) (SeqAt.canLay_of_shaped s1) (room_in_shaped s1 hu) (hn _ (by simpa using h))
      | false => exact SeqAt.in_tuple_reads r2 r1 (SeqAt.canLay_of_shaped s2) (SeqAt.canLay_of_shaped s1) (room_in_shaped s1 hu) (hn _ (by simpa using h))
  · exact h.elim
theorem od_in (hu : X.A.units + 65 < cLine) : OpD X (compareOp .In) inD := by
  intro P pins s σ H x y v u Q I rx ry ⟨d, e, G, QD, r, hd, he, h, k⟩
  cases e with
  | str z =>
    cases he
    cases hd with
    | str a =>
      have h : (match a.cps.toList with | [c] => QD (.bl (decide (c ∈ z.cps.toList) ^^ false)) G | _ => False) := h
      split at h
      · rename_i c ec
        rw [Bool.xor_false] at h
        exact op_in_sign pins s σ H _ _ v u Q I rx ry ⟨c, z, by rw [one_sign ec], rfl, here k r h (.bl _)⟩
      · exact h.elim
    | _ => exact (show False from h).elim
  | _ => exact in_data (neg := false) hu I rx ry r hd he h k
theorem od_nin (hu : X.A.units + 65 < cLine) : OpD X (compareOp .NotIn) ninD := by
  intro P pins s σ H x y v u Q I rx ry ⟨d, e, G, QD, r, hd, he, h, k⟩
  cases e with
  | str z =>
    cases he
    cases hd with
    | str a =>
      have h : (match a.cps.toList with | [c] => QD (.bl (decide (c ∈ z.cps.toList) ^^ true)) G | _ => False) := h
      split at h
      · rename_i c ec
        rw [Bool.xor_true] at h
        exact op_notIn_sign pins s σ H _ _ v u Q I rx ry ⟨c, z, by rw [one_sign ec], rfl, here k r h (.bl _)⟩
      · exact h.elim
    | _ => exact (show False from h).elim
  | _ => exact in_data (neg := true) hu I rx ry r hd he h k
/-! ### items, slices, stores -/
def ixD : R2D := fun x y G Q => match y with
  | .int i => match x with
    | .str z => z.length ≤ sizeLine ∧ match atI z.cps.toList i with
      | some c => Q (.str ⟨#[c]⟩) G
      | none => False
    | x => match asQ x G with
      | some ds => match atI ds i with
        | some d => Q d G
        | none => False
      | none => False
  | _ => False
theorem RepL.atI {K : PySem.W.Frag} {P : Addr → Prop} {G : GH} {H : Hp} {xs : List V} {ds : List D} {i : Int} {d : D} (t : RepL K P G H xs ds) (h : L2.atI ds i = some d) : ∃ v, L2.atI xs i = some v ∧ Rep K P G H v d := by
  unfold L2.atI at h ⊢
  rw [t.length]
  cases e : ixN ds.length i with
  | none => rw [e] at h; cases h
  | some j =>
    rw [e] at h
    obtain ⟨v, h1, h2⟩ := t.get (show ds[j]? = some d from h)
    exact ⟨v, h1, h2⟩
theorem ixd_seq : IxD X ixD := by
  intro P ev es pins s σ H x y v u Q I rx ry ⟨d, e, G, QD, r, hd, he, h, k⟩ hsub
  cases he with
  | int i =>
    have seq : ∀ ds, asQ d G = some ds → (match L2.atI ds i with | some d => QD d G | none => False) → wpAny (model X.prog X.w) X.A (subscriptTail ev es v u) (EP X pins σ Q) X.xe s := fun ds e1 h => by
      split at h
      · rename_i d' ed
        obtain ⟨p, xs, rfl, hs, t⟩ := asQ_rep r hd e1
        obtain ⟨w, h1, h2⟩ := t.atI ed
        rcases hs with hs | hs
        · exact ix_list ev es pins s σ H _ _ v u Q I rx ry ⟨p, xs, i, w, rfl, rfl, hs, h1, here k r h h2⟩ hsub
        · exact ix_tup ev es pins s σ H _ _ v u Q I rx ry ⟨p, xs, i, w, rfl, rfl, hs, h1, here k r h h2⟩ hsub
      · exact h.elim
    cases d with
    | str z =>
      cases hd
      have h : z.length ≤ sizeLine ∧ (match L2.atI z.cps.toList i with | some c => QD (.str ⟨#[c]⟩) G | none => False) := h
      obtain ⟨hz, h⟩ := h
      split at h
      · rename_i c ec
        exact ix_str ev es pins s σ H _ _ v u Q I rx ry ⟨z, i, c, rfl, rfl, hz, ec, here k r h (.str _)⟩ hsub
      · exact h.elim
    | lst a => exact seq a rfl h
    | tup a => exact seq a rfl h
    | scr a => exact seq a rfl h
    | ref p =>
      have h : (match asQ (.ref p) G with | some ds => (match L2.atI ds i with | some d => QD d G | none => False) | none => False) := h
      split at h
      · rename_i ds e1
        exact seq ds e1 h
      · exact h.elim
    | _ => exact (show False from h).elim
  | _ => exact (show False from h).elim
def setD : RSet := fun o i v G Q => match o, i with
  | .ref p, .int i => match G p with
    | some (.lst ds) => match ixN ds.length i with
      | some j => Q (updG G p (.lst (ds.set j v)))
      | none => False
    | _ => False
  | _, _ => False
theorem setd_list : SetD X setD := by
  intro P pins s σ H o i v ov iv u Q I ro ri rv ⟨d, j, e, G, QD, r, hd, hj, he, h, k⟩
  cases hd with
  | ref p =>
    cases hj with
    | int i =>
      have h : (match G p with | some (.lst ds) => (match ixN ds.length i with | some j => QD (updG G p (.lst (ds.set j e))) | none => False) | _ => False) := h
      split at h
      · rename_i ds g
        split at h
        · rename_i n en
          obtain ⟨xs, hp, t⟩ := r.h p _ g
          exact set_list pins s σ H _ _ _ ov iv u Q I ro ri rv ⟨p, xs, i, n, rfl, rfl, hp, by rw [t.length]; exact en, k _ _ h (step_put g) (r.put g (t.set he n))⟩
        · exact h.elim
      · exact h.elim
    | _ => exact (show False from h).elim
  | _ => cases hj <;> exact (show False from h).elim
def cutD (ds : List D) (lo hi : Option Int) : List D := (ds.drop (HT.sIx ds.length 0 lo)).take (HT.sIx ds.length ds.length hi - HT.sIx ds.length 0 lo)
def slD : RSl := fun x lo hi G Q => match x with
  | .tup a => Q (.tup (cutD a lo hi)) G
  | .str z => z.length ≤ sizeLine ∧ Q (.str (cutS z lo hi)) G
  | .lst a => Q (.lst (cutD a lo hi)) G
  | .scr a => Q (.lst (cutD a lo hi)) G
  | .ref p => match G p with
    | some (.lst a) => Q (.lst (cutD a lo hi)) G
    | _ => False
  | _ => False
theorem RepL.cut {K : PySem.W.Frag} {P : Addr → Prop} {G : GH} {H : Hp} {xs : List V} {ds : List D} (t : RepL K P G H xs ds) (lo hi : Option Int) : RepL K P G H (cutV xs lo hi) (cutD ds lo hi) := by
  unfold cutV cutD
  rw [t.length]
  exact (t.drop _).take _
theorem cut_whole {ds : List D} {lo hi : Option Int} (h : HT.sIx ds.length 0 lo = 0 ∧ HT.sIx ds.length ds.length hi = ds.length) : cutD ds lo hi = ds := by
  unfold cutD
  rw [h.1, h.2]
  simp
theorem sld_seq : SlD X slD := by
  intro P pins s σ H x v vl vu lo hi sl Q I rx hs pl pu ⟨d, G, QD, r, hd, h, k⟩
  have lst : ∀ p xs a, x = .ref p → SqL X.K H p xs → RepL X.K P G H xs a → QD (.lst (cutD a lo hi)) G → _ := fun p xs a e hq t q =>
    sl_list pins s σ H x v vl vu lo hi sl Q I rx hs pl pu ⟨p, xs, e, hq, fun n hn => k _ _ _ _ q (step_new hn) (r.new hn) (Rep.newL r hn (t.cut lo hi))⟩
  cases hd with
  | tup hq t =>
    refine sl_tupA pins s σ H _ v vl vu lo hi sl Q I rx hs pl pu ⟨_, _, rfl, hq, fun w => ?_, fun _ n hn => k _ _ _ _ h (step_new hn) (r.new hn) (Rep.newT r hn (t.cut lo hi))⟩
    have h : QD (.tup (cutD _ lo hi)) G := h
    rw [t.length] at w
    rw [cut_whole w] at h
    exact here k r h (.tup hq t)
  | str z => exact sl_str pins s σ H _ v vl vu lo hi sl Q I rx hs pl pu ⟨z, rfl, h.1, here k r h.2 (.str _)⟩
  | lst e _ _ t => exact lst _ _ _ rfl (.of e) t h
  | frz e t => exact lst _ _ _ rfl e.seq t h
  | ref p =>
    have h : (match G p with | some (.lst a) => QD (.lst (cutD a lo hi)) G | _ => False) := h
    split at h
    · rename_i a g
      obtain ⟨xs, hp, t⟩ := r.h p _ g
      exact lst _ _ _ rfl (.of hp) t h
    · exact h.elim
  | _ => exact (show False from h).elim
end
end DL

end

section
set_option Elab.async false
set_option linter.all false
set_option maxRecDepth 100000
set_option maxHeartbeats 1000000
namespace DL
open PySem PySem.Spec PyProof.Rows L2

/-! ## what the model brings: calls -/
section
variable {X : Cx}
theorem RepL.one {K : PySem.W.Frag} {P : Addr → Prop} {G : GH} {H : Hp} {xs : List V} {d : D} (t : RepL K P G H xs [d]) : ∃ v, xs = [v] ∧ Rep K P G H v d := by
  cases t with
  | cons h t => cases t; exact ⟨_, rfl, h⟩
theorem RepL.two {K : PySem.W.Frag} {P : Addr → Prop} {G : GH} {H : Hp} {xs : List V} {d e : D} (t : RepL K P G H xs [d, e]) : ∃ v u, xs = [v, u] ∧ Rep K P G H v d ∧ Rep K P G H u e := by
  cases t with
  | cons h t =>
    obtain ⟨u, rfl, q⟩ := t.one
    exact ⟨_, _, rfl, h, q⟩
def on1 (f : D → GH → DK → Prop) : List D → GH → DK → Prop := fun ds G Q => match ds with
  | [d] => f d G Q
  | _ => False
def on2 (f : D → D → GH → DK → Prop) : List D → GH → DK → Prop := fun ds G Q => match ds with
  | [d, e] => f d e G Q
  | _ => False
theorem cd_one {fv : Value} {f : D → GH → DK → Prop} (h : ∀ (P : Addr → Prop) (pins : List (Addr × Obj)) (s : Shared) (σ : L2.St) (H : Hp) (v : V) (u : Value) (d : D) (G : GH) (QD : DK) (Q : VK), Inv X pins σ H s → RelV v u → Rl X.K P G H → Rep X.K P G H v d → f d G QD →
    (∀ d' G' v H', QD d' G' → Step G H G' H' → Rl X.K P G' H' → Rep X.K P G' H' v d' → Q v H') → wpAny (model X.prog X.w) X.A (call fv [u]) (EP X pins σ Q) X.xe s) : CallD X fv (on1 f) := by
  intro P pins s σ H xs us Q I rs ⟨ds, G, QD, r, t, q, k⟩
  unfold on1 at q
  split at q
  · obtain ⟨v, rfl, hd⟩ := t.one
    obtain ⟨u, rfl, ru⟩ := vals1 rs
    exact h P pins s σ H v u _ G QD Q I ru r hd q k
  · exact q.elim
/-- the same, from a rule by values -/
theorem cd_one' {fv : Value} {f : D → GH → DK → Prop} {rr : List V → Hp → VK → Prop} (ho : CallR X fv rr) (h : ∀ (P : Addr → Prop) (H : Hp) (v : V) (d : D) (G : GH) (QD : DK) (Q : VK), Rl X.K P G H → Rep X.K P G H v d → f d G QD →
    (∀ d' G' v H', QD d' G' → Step G H G' H' → Rl X.K P G' H' → Rep X.K P G' H' v d' → Q v H') → rr [v] H Q) : CallD X fv (on1 f) :=
  cd_one fun P pins s σ H v u d G QD Q I ru r hd q k => ho pins s σ H [v] [u] Q I (.cons ru .nil) (h P H v d G QD Q r hd q k)
theorem cd_two' {fv : Value} {f : D → D → GH → DK → Prop} {rr : List V → Hp → VK → Prop} (ho : CallR X fv rr) (h : ∀ (P : Addr → Prop) (H : Hp) (v u : V) (d e : D) (G : GH) (QD : DK) (Q : VK), Rl X.K P G H → Rep X.K P G H v d → Rep X.K P G H u e → f d e G QD →
    (∀ d' G' v H', QD d' G' → Step G H G' H' → Rl X.K P G' H' → Rep X.K P G' H' v d' → Q v H') → rr [v, u] H Q) : CallD X fv (on2 f) := by
  intro P pins s σ H xs us Q I rs ⟨ds, G, QD, r, t, q, k⟩
  unfold on2 at q
  split at q
  · obtain ⟨v, u, rfl, h1, h2⟩ := t.two
    exact ho pins s σ H _ us Q I rs (h P H v u _ _ G QD Q r h1 h2 q k)
  · exact q.elim
/-- len -/
def lenF : D → GH → DK → Prop := fun d G Q => match d with
  | .str x => x.length ≤ sizeLine ∧ Q (.int x.length) G
  | d => match asQ d G with
    | some a => Q (.int a.length) G
    | none => False
theorem seq_len {K : PySem.W.Frag} {P : Addr → Prop} {G : GH} {H : Hp} {v : V} {d : D} {a : List D} (r : Rl K P G H) (h : Rep K P G H v d) (e : asQ d G = some a) : LenV K v H a.length := by
  obtain ⟨p, xs, rfl, h1, t⟩ := asQ_rep r h e
  rcases h1 with h1 | h1
  · exact .inl ⟨xs, h1, t.length.symm⟩
  · exact .inr ⟨xs, h1, t.length.symm⟩
theorem cd_len : CallD X (.builtin "len") (on1 lenF) := cd_one' call_len fun P H v d G QD Q r h q k => by
  have seq : ∀ a, asQ d G = some a → QD (.int a.length) G → _ := fun a e q => (⟨v, a.length, rfl, seq_len r h e, here k r q (.int _)⟩ : ∃ x n, [v] = [x] ∧ LenV X.K x H n ∧ Q (.int n) H)
  cases d with
  | str x =>
    cases h
    exact ⟨_, _, rfl, ⟨q.1, rfl⟩, here k r q.2 (.int _)⟩
  | _ =>
    unfold lenF at q
    dsimp only at q
    split at q
    · rename_i a e
      exact seq a e q
    · exact q.elim
/-- int -/
def intF : D → GH → DK → Prop := fun d G Q => match d with
  | .int i => Q (.int i) G
  | .bl k => Q (.int (if k then 1 else 0)) G
  | _ => False
theorem cd_int : CallD X (.type "int") (on1 intF) := cd_one' call_int1 fun P H v d G QD Q r h q k => by
  cases h with
  | int i => exact .inl ⟨i, rfl, here k r q (.int _)⟩
  | bl b => exact .inr ⟨b, rfl, here k r q (.int _)⟩
  | _ => exact (show False from q).elim
/-- min of two -/
def minF : D → D → GH → DK → Prop := fun d e G Q => match d, e with
  | .int i, .int j => Q (.int (min i j)) G
  | _, _ => False
theorem cd_min2 (hc : X.calm = true) : CallD X (.builtin "min") (on2 minF) := cd_two' (call_min2 hc) fun P H v u d e G QD Q r h1 h2 q k => by
  cases h1 with
  | int i =>
    cases h2 with
    | int j =>
      refine ⟨i, j, rfl, ?_⟩
      have e : (if j < i then j else i) = min i j := by omega
      rw [e]
      exact here k r q (.int _)
    | _ => exact (show False from q).elim
  | _ => exact (show False from q).elim
/-- the class of a datum -/
def tyD (G : GH) : D → Option String
  | .non => some "NoneType"
  | .bl _ => some "bool"
  | .int _ => some "int"
  | .str _ => some "str"
  | .tup _ => some "tuple"
  | .lst _ => some "list"
  | .scr _ => some "list"
  | .ref p => match G p with
    | some (.lst _) => some "list"
    | _ => none
  | .ty _ => none
def isK (a b : String) : Bool := a == b || (a == "bool" && b == "int")
def isaF : D → D → GH → DK → Prop := fun d e G Q => match e with
  | .ty b => match tyD G d with
    | some a => b ∈ ["int", "bool", "str", "tuple", "list", "dict"] ∧ Q (.bl (isK a b)) G
    | none => False
  | _ => False
theorem tyD_mem {G : GH} {d : D} {a : String} (h : tyD G d = some a) : a ∈ ["NoneType", "bool", "int", "str", "tuple", "list"] := by
  unfold tyD at h
  split at h
  any_goals (cases h; decide)
  · split at h
    · cases h; decide
    · cases h
  · cases h
theorem isK_kit {K : PySem.W.Frag} {a b : String} (ha : a ∈ ["NoneType", "bool", "int", "str", "tuple", "list"]) (hb : b ∈ ["int", "bool", "str", "tuple", "list", "dict"]) : PySem.W.kitOne K (.type a) (.type b) = some (isK a b) := by
  simp only [List.mem_cons, List.not_mem_nil, or_false] at ha hb
  rcases ha with rfl | rfl | rfl | rfl | rfl | rfl <;> rcases hb with rfl | rfl | rfl | rfl | rfl | rfl <;> exact kit_ty (by decide +kernel)
theorem ty_rep {K : PySem.W.Frag} {P : Addr → Prop} {G : GH} {H : Hp} {v : V} {d : D} {a : String} (r : Rl K P G H) (h : Rep K P G H v d) (e : tyD G d = some a) : TyX K H v (.type a) := by
  cases h with
  | non => cases e; exact .base .non
  | bl b => cases e; exact .base (.bl b)
  | int i => cases e; exact .base (.int i)
  | str x => cases e; exact .base (.str x)
  | ty n => cases e
  | tup h t =>
    cases e
    rcases h with (h | ⟨o, h⟩) | ⟨o, its, n, h, c, _⟩
    · exact .base (.tup h)
    · exact .fTuple h
    · exact .kTuple h c
  | lst h _ _ t => cases e; exact .base (.lst h)
  | frz h t =>
    cases e
    rcases h with ⟨o, h⟩ | ⟨o, its, n, h, c, _⟩
    · exact .base (.frz h)
    · exact .kList h c
  | ref p =>
    have e : (match G p with | some (.lst _) => some "list" | _ => none) = some a := e
    split at e
    · rename_i g
      cases e
      obtain ⟨xs, h, _⟩ := r.h p _ g
      exact .base (.lst h)
    · cases e
theorem cd_isa : CallD X (.builtin "isinstance") (on2 isaF) := cd_two' call_isi fun P H v u d e G QD Q r h1 h2 q k => by
  cases h2 with
  | ty b =>
    have q : (match tyD G d with | some a => b ∈ ["int", "bool", "str", "tuple", "list", "dict"] ∧ QD (.bl (isK a b)) G | none => False) := q
    split at q
    · rename_i a ea
      exact ⟨v, .ty b, .type a, .type b, _, rfl, .ty b, ty_rep r h1 ea, isK_kit (tyD_mem ea) q.1, here k r q.2 (.bl _)⟩
    · exact q.elim
  | _ => exact (show False from q).elim
/-- list(..), a new list that is not written -/
def listF : D → GH → DK → Prop := fun d G Q => match asQ d G with
  | some a => Q (.lst a) G
  | none => False
def listMF : D → GH → DK → Prop := fun d G Q => match asQ d G with
  | some a => ∀ p, G p = none → Q (.ref p) (updG G p (.lst a))
  | none => False
theorem cd_list : CallD X (.type "list") (on1 listF) := cd_one' call_list_of fun P H v d G QD Q r h q k => by
  unfold listF at q
  split at q
  · rename_i a e
    obtain ⟨p, xs, rfl, h1, t⟩ := asQ_rep r h e
    exact ⟨p, xs, rfl, h1, fun l hl => k _ _ _ _ q (step_new hl) (r.new hl) (Rep.newL r hl t)⟩
  · exact q.elim
theorem cd_listM : CallD X (.type "list") (on1 listMF) := cd_one' call_list_of fun P H v d G QD Q r h q k => by
  unfold listMF at q
  split at q
  · rename_i a e
    obtain ⟨p, xs, rfl, h1, t⟩ := asQ_rep r h e
    exact ⟨p, xs, rfl, h1, fun l hl => k _ _ _ _ (q l (r.free hl)) (step_newG hl) (r.newL hl t) (.ref l)⟩
  · exact q.elim
/-- tuple(..) -/
def tupF : D → GH → DK → Prop := fun d G Q => match asQ d G with
  | some a => Q (.tup a) G
  | none => False
theorem asQ_lst {K : PySem.W.Frag} {P : Addr → Prop} {G : GH} {H : Hp} {v : V} {d : D} {a : List D} (r : Rl K P G H) (h : Rep K P G H v d) (e : asQ d G = some a) (n : ∀ b, d ≠ .tup b) : ∃ p xs, v = .ref p ∧ SqL K H p xs ∧ RepL K P G H xs a := by
  cases h with
  | lst h1 _ _ t => cases e; exact ⟨_, _, rfl, .of h1, t⟩
  | tup h1 t => exact absurd rfl (n _)
  | frz h1 t => cases e; exact ⟨_, _, rfl, h1.seq, t⟩
  | ref a =>
    have e1 : (match G a with | some (.lst a) => some a | _ => none) = some _ := e
    split at e1
    · rename_i z
      cases e1
      obtain ⟨xs, h1, t⟩ := r.h a _ z
      exact ⟨_, _, rfl, .of h1, t⟩
    · cases e1
  | _ => cases e
theorem asQ_tup {G : GH} {d : D} {a : List D} (e : asQ d G = some a) : (d = .tup a) ∨ ∀ b, d ≠ .tup b := by
  cases d with
  | tup b => cases e; exact .inl rfl
  | _ => exact .inr fun b z => nomatch z
theorem cd_tup : CallD X (.type "tuple") (on1 tupF) := cd_one' call_tuple_of fun P H v d G QD Q r h q k => by
  unfold tupF at q
  split at q
  · rename_i a e
    rcases asQ_tup e with z | z
    · subst z
      cases h with
      | tup h1 t => exact ⟨_, _, rfl, .inr ⟨h1, here k r q (.tup h1 t)⟩⟩
    · obtain ⟨p, xs, rfl, h1, t⟩ := asQ_lst r h e z
      exact ⟨p, xs, rfl, .inl ⟨h1, fun l hl => k _ _ _ _ q (step_new hl) (r.new hl) (Rep.newT r hl t)⟩⟩
  · exact q.elim
end
end DL

end

section
set_option Elab.async false
set_option linter.all false
set_option maxRecDepth 100000
set_option maxHeartbeats 1000000
namespace DL
open PySem PySem.Spec PyProof.Rows L2

/-! ## all, any, sorted, methods -/
section
variable {X : Cx}
theorem rep_bls {K : PySem.W.Frag} {P : Addr → Prop} {G : GH} {H : Hp} : ∀ {xs : List V} {bs : List Bool}, RepL K P G H xs (bs.map .bl) → xs = bs.map V.bl
  | _, [], t => by cases t; rfl
  | _, b :: bs, t => by
    cases t with
    | cons h t =>
      cases h
      rw [rep_bls t] <;> rfl
def allF : D → GH → DK → Prop := fun d G Q => match asL d G with
  | some a => ∃ bs : List Bool, a = bs.map .bl ∧ Q (.bl (bs.all id)) G
  | none => False
def anyF : D → GH → DK → Prop := fun d G Q => match asL d G with
  | some a => ∃ bs : List Bool, a = bs.map .bl ∧ Q (.bl (bs.any id)) G
  | none => False
theorem cd_all (hc : X.calm = true) : CallD X (.builtin "all") (on1 allF) := cd_one' (cr_all hc) fun P H v d G QD Q r h q k => by
  unfold allF at q
  split at q
  · rename_i a e
    obtain ⟨bs, rfl, q⟩ := q
    obtain ⟨p, xs, rfl, h1, t⟩ := asL_rep r h e
    exact ⟨p, bs, rfl, .of (by rw [← rep_bls t]; exact h1), here k r q (.bl _)⟩
  · exact q.elim
theorem cd_any (hc : X.calm = true) : CallD X (.builtin "any") (on1 anyF) := cd_one' (cr_any hc) fun P H v d G QD Q r h q k => by
  unfold anyF at q
  split at q
  · rename_i a e
    obtain ⟨bs, rfl, q⟩ := q
    obtain ⟨p, xs, rfl, h1, t⟩ := asL_rep r h e
    exact ⟨p, bs, rfl, .of (by rw [← rep_bls t]; exact h1), here k r q (.bl _)⟩
  · exact q.elim

/-! ### sorted -/
structure SrtOk (a : List D) : Prop where
  al : PySem.W.AllAlike (a.map D.py)
  so : PySem.W.Sortable (a.map D.py)
  lay : ∀ d ∈ a, d.py.canLay0 = true
  dep : ∀ d ∈ a, d.py.depth ≤ 40
  len : a.length ≤ sizeLine
def sortF (rev : Bool) : D → GH → DK → Prop := fun d G Q => match asQ d G with
  | some a => SrtOk a ∧ Q (.lst (a.mergeSort (PySem.W.dataLe rev D.py))) G
  | none => False
section
variable {prog : Program} {w : World} {A : Around} {E : Value → Shared → Prop} {s : Shared}
/-- what sorted copies: a tuple's items too -/
theorem collectT {l : Addr} {vs : List Value} {Q : List Value → Shared → Prop} (hl : IsTup s.heap l vs.toArray)
    (h : Q vs { s with heap := (s.heap.push (seqObj "list" #[] 0)).update s.heap.objs.size (Obj.mapSeq (· ++ vs.toArray)) }) (hsz : vs.length ≤ sizeLine) :
    wpAny (model prog w) A (collect (.ref l)) Q E s := by
  obtain ⟨o, ho, hc, n, hd⟩ := id hl
  unfold collect
  refine wpAny_bind (wpAny_runValue (codeAny_builtin entry_proto_collect' ?_))
  show wpAny _ _ (newList [] >>= fun l0 => again (.builtin "list.__iadd__" ⟨[l0, .ref l], []⟩)) _ _ s
  refine wpAny_bind (wpAny_newList (wpAny_pure ⟨Code.quiet_builtin _ (by decide +kernel), codeAny_builtin entry_list_iadd' ?_⟩))
  show wpAny _ _ (Builtin.List.listExtendWith (.ref s.heap.objs.size) (.ref l) (.ref s.heap.objs.size)) _ _ { s with heap := s.heap.push (seqObj "list" #[] 0) }
  unfold Builtin.List.listExtendWith
  have ho' : (s.heap.push (seqObj "list" #[] 0)).get? l = some o := Heap.get?_push_of_some _ ho
  refine wpAny_bind (wpAny_typeOf (T := "tuple") ⟨o, ho', hc⟩ ?_)
  have ht : (Value.type "tuple" == Value.type "tuple") = true := by rfl
  rw [if_pos (by rw [ht]; simp)]
  refine wpAny_bind (listItems_at ho' hd ?_)
  refine wpAny_bind (listItems_at (n := 0) (xs := #[]) (Heap.get?_push_size _ rfl) rfl ?_)
  rw [if_neg (by simp)]
  refine wpAny_bind (listUpdate_at (n := 0) (xs := #[]) (Heap.get?_push_size _ rfl) rfl ?_ (Nat.zero_le _) (by show (#[] ++ vs.toArray).size ≤ sizeLine + 1; simp only [Array.size_append, List.size_toArray, List.length_nil]; omega))
  refine wpAny_pure ?_
  show wpAny (model prog w) A (load s.heap.objs.size >>= fun o => match o.data with
      | .seq xs _ => pure xs.toList
      | _ => unsupported "internal:collect") Q E { s with heap := (s.heap.push (seqObj "list" #[] 0)).update s.heap.objs.size (Obj.mapSeq (· ++ vs.toArray)) }
  refine wpAny_bind (wpAny_load (get?_update_seq (Heap.get?_push_size _ rfl) _) ?_)
  show wpAny _ _ (pure ((#[] : Array Value) ++ vs.toArray).toList) Q E _
  refine wpAny_pure ?_
  have e : ((#[] : Array Value) ++ vs.toArray).toList = vs := by simp
  rw [e]
  exact h
/-- xs: a list or a tuple -/
def SeqAtV (h : Heap) (l : Addr) (vs : List Value) : Prop := h.IsList l vs.toArray ∨ IsTup h l vs.toArray
theorem srt_of {l : Addr} {vs : List Value} {kw : List (Str × Value)} {Q : Value → Shared → Prop} (hl : SeqAtV s.heap l vs) (hL : vs.length ≤ sizeLine) (ha1 : argsOk "sorted" ⟨[.ref l], kw⟩) (ha2 : ∀ x, argsOk "list.sort" ⟨[.ref x], kw⟩)
    (body : ∀ E' : Value → Shared → Prop, wpAny (model prog w) A.in1.in1 (Builtin.«list.sort» ⟨[.ref (s.heap.objs.size + 1)], kw⟩) (fun f s' => f = .done (.ret .none) ∧ Q (.ref (s.heap.objs.size + 1)) s') E' { s with heap := PySem.W.copyHeap s.heap vs }) :
    wpAny (model prog w) A (call (.builtin "sorted") [.ref l] kw) Q E s := by
  rcases hl with hl | hl
  · exact PySem.W.sorted_of_sort hl hL ha1 ha2 body
  refine call_function_entry_kw kind_sorted plain_sorted entry_sorted ha1 ?_
  unfold Builtin.«sorted»
  refine wpAny_bind (m := checkCount "sorted" 1 1 _) (wpAny_pure ?_)
  refine wpAny_bind (collectT hl ?_ hL)
  refine wpAny_bind (wpAny_newList ?_ hL)
  have hsz : ((s.heap.push (seqObj "list" #[] 0)).update s.heap.objs.size (Obj.mapSeq (· ++ vs.toArray))).objs.size = s.heap.objs.size + 1 := by
    rw [Heap.size_update, size_push']
  show wpAny _ _ _ _ _ { s with heap := PySem.W.copyHeap s.heap vs }
  rw [hsz]
  refine wpAny_bind (wpAny_holding (wpAny_call_entry_kw slot_list_sort ⟨_, PySem.W.copyHeap_at s.heap vs, rfl⟩ entry_list_sort ?b (ha2 _)))
  case b =>
    show wpAny (model prog w) A.in1.in1 (Builtin.«list.sort» ⟨[.ref (s.heap.objs.size + 1)], kw⟩) _ _ _
    refine wpAny_mono (body _) (fun f s' hf => ?_) fun _ _ e => e
    obtain ⟨rfl, hq⟩ := hf
    exact ⟨_, rfl, wpAny_pure ⟨_, rfl, hq⟩⟩
end
theorem each_rep {K : PySem.W.Frag} {P : Addr → Prop} {G : GH} {H : Hp} : ∀ {xs : List V} {vs : List Value} {ds : List D}, Vals xs vs → RepL K P G H xs ds → PySem.W.EachIs (fun v d => ∃ x, RelV x v ∧ Rep K P G H x d) vs ds
  | _, _, _, .nil, .nil => .nil
  | _, _, _, .cons r t, .cons h u => .cons ⟨_, r, h⟩ (each_rep t u)
theorem rep_each {K : PySem.W.Frag} {P : Addr → Prop} {G : GH} {H : Hp} : ∀ {vs : List Value} {ds : List D}, PySem.W.EachIs (fun v d => ∃ x, RelV x v ∧ Rep K P G H x d) vs ds → ∃ xs, Vals xs vs ∧ RepL K P G H xs ds
  | _, _, .nil => ⟨[], .nil, .nil⟩
  | _, _, .cons ⟨x, r, h⟩ t => by
    obtain ⟨xs, a, b⟩ := rep_each t
    exact ⟨x :: xs, .cons r a, .cons h b⟩
theorem each_reads {pins : List (Addr × Obj)} {σ : L2.St} {s : Shared} {P : Addr → Prop} {G : GH} {H : Hp} (I : Inv X pins σ H s) : ∀ {xs : List V} {vs : List Value} {ds : List D}, Vals xs vs → RepL X.K P G H xs ds → (∀ d ∈ ds, d.py.canLay0 = true) → PySem.W.EachIs (fun v d => ∃ as, Reads s.heap v d.py as) vs ds
  | _, _, _, .nil, .nil, _ => .nil
  | _, _, _, .cons r t, .cons h u, l => .cons (Dp.reads I _ _ _ (h.dp (l _ (by simp))) r) (each_reads I t u fun d hd => l d (by simp [hd]))
theorem srt_run {rev : Bool} {kw : List (Str × Value)} {P : Addr → Prop} {pins : List (Addr × Obj)} {s : Shared} {σ : L2.St} {H : Hp} {v : V} {u : Value} {d : D} {G : GH} {QD : DK} {Q : VK} (hu : X.A.units + 64 < cLine) (I : Inv X pins σ H s) (ru : RelV v u) (r : Rl X.K P G H) (h : Rep X.K P G H v d) (q : sortF rev d G QD)
    (k : ∀ d' G' v H', QD d' G' → Step G H G' H' → Rl X.K P G' H' → Rep X.K P G' H' v d' → Q v H')
    (ha1 : ∀ l, argsOk "sorted" ⟨[.ref l], kw⟩) (ha2 : ∀ x, argsOk "list.sort" ⟨[.ref x], kw⟩) (hkw : ∀ a, Builtin.«list.sort» ⟨[.ref a], kw⟩ = Builtin.«list.sort» ⟨[.ref a], [(Str.ofString "reverse", .bool rev)]⟩) :
    wpAny (model X.prog X.w) X.A (call (.builtin "sorted") [u] kw) (EP X pins σ Q) X.xe s := by
  unfold sortF at q
  split at q
  · rename_i a e
    obtain ⟨ok, q⟩ := q
    obtain ⟨p, xs, rfl, hq, t⟩ := asQ_rep r h e
    cases ru
    obtain ⟨its, rv, pl⟩ : ∃ its, Vals xs its ∧ SeqAtV s.heap p its := by
      rcases hq with hq | hq
      · obtain ⟨its, rv, pl, _⟩ := I.list hq
        exact ⟨its, rv, .inl pl.isList⟩
      · obtain ⟨its, rv, pl, _⟩ := I.tuple hq
        exact ⟨its, rv, .inr pl⟩
    have hlen : its.length = a.length := by rw [← rv.length, t.length]
    have er := each_reads I rv t ok.lay
    have er' : PySem.W.EachIs (fun v b => ∃ as, Reads (PySem.W.sortingHeap (PySem.W.copyHeap s.heap its) (s.heap.objs.size + 1) its) v b.py as) its a := er.mono fun _ _ ⟨as, r⟩ => ⟨as, PyProof.Rows.Reads.keeps (fun _ _ => PySem.W.sorting_copy_old) r⟩
    have S := PySem.W.SortsAt.data (prog := X.prog) (w := X.w) (A := X.A.in1.in1) (s := { s with heap := PySem.W.sortingHeap (PySem.W.copyHeap s.heap its) (s.heap.objs.size + 1) its })
      (PySem.W.each_map (R := fun v d => ∃ as, Reads (PySem.W.sortingHeap (PySem.W.copyHeap s.heap its) (s.heap.objs.size + 1) its) v d as) D.py er') ok.al ok.so (PySem.W.bound_map fun b hb => by have := ok.dep b hb; show X.A.units + 1 + 1 + _ < _; omega)
    refine srt_of pl (by rw [hlen]; exact ok.len) (ha1 _) ha2 fun E' => ?_
    rw [hkw]
    refine PySem.W.list_sort_rev_vals (s := { s with heap := PySem.W.copyHeap s.heap its }) (PySem.W.copyHeap_at s.heap its) S (by rw [hlen]; exact ok.len) ⟨rfl, ?_⟩
    have out := PySem.W.sortVals_data rev (each_rep rv t) er' ok.al
    obtain ⟨ys, ry, ty⟩ := rep_each out
    obtain ⟨ep, he'⟩ := PyProof.Rows.sortedAll_at s.heap its (PySem.W.sortVals (PySem.W.dataKind (PySem.W.sortingHeap (PySem.W.copyHeap s.heap its) (s.heap.objs.size + 1) its) (a.map D.py)) rev its its).toArray
    have hn := I.hok.fresh (Nat.le_succ s.heap.objs.size)
    have hl2 : ys.length ≤ sizeLine := by rw [ty.length, List.length_mergeSort]; exact ok.len
    exact ⟨.ref _, upd H (s.heap.objs.size + 1) (.lst ys), I.laid (t' := s.toks) (fun _ _ => PyProof.Rows.sortedAll_old) (Nat.le_succ _) ⟨hl2, _, ep, ry, he'⟩, rfl, k _ _ _ _ q (step_new hn) (r.new hn) (Rep.newL r hn ty)⟩
  · exact q.elim
theorem cd_sorted (hu : X.A.units + 64 < cLine) : CallD X (.builtin "sorted") (on1 (sortF false)) := cd_one fun P pins s σ H v u d G QD Q I ru r h q k =>
  srt_run hu I ru r h q k (fun _ => PyProof.Rows.args_sorted1 _) (fun _ => PyProof.Rows.args_list_sort _) PySem.W.plain_is_rev
variable {c : DC} {e : Expr} {te : DE} {p pos : Pos} {kws : List Keyword}
/-- sorted(e, reverse=True) -/
theorem d_sortedRev {kpos j cp} (hu : X.A.units + 64 < cLine) (hg : Gl X "sorted") (hm : X.mg "sorted" = none) (hv : bootBuiltins "sorted" = some (.builtin "sorted")) (he : PE X e (lE X.K c te))
    (h1 : backTo pos (starEach [e] X.env) = (false, eval e X.env) :: backTo pos (starEach [] X.env) := by rfl) (hpl : (backTo pos (starEach [e] X.env)).any (·.1) = false := by rfl)
    (hall : (backToKw pos (keywordEach [⟨some "reverse", .Constant (.bool true) j cp, kpos⟩] X.env)).all (·.1.isSome) = true := by rfl) (hnone : (backToKw pos (keywordEach [⟨some "reverse", .Constant (.bool true) j cp, kpos⟩] X.env)).any (·.1.isNone) = false := by rfl)
    (hks : (backToKw pos (keywordEach [⟨some "reverse", .Constant (.bool true) j cp, kpos⟩] X.env)).filterMap (·.1) = [Str.ofString "reverse"] := by rfl) (hs : starEach [e] X.env = (false, eval e X.env) :: starEach [] X.env := by rfl) :
    PE X (.Call (.Name "sorted" p) [e] [⟨some "reverse", .Constant (.bool true) j cp, kpos⟩] pos) (lE X.K c (dCB (on1 (sortF true)) (dCons te dNil))) :=
  PE_imp (pe_callBK (r := fun vs zs H Q => zs = [.bl true] ∧ lCR X.K c.P (on1 (sortF true)) vs H Q) (fun pins s σ H xs zs us ws Q I r rz ⟨ez, ds, G, QD, rl, t, q, k⟩ => by
    subst ez
    obtain ⟨w1, rfl, e1⟩ := vals1 rz
    obtain rfl : w1 = Value.bool true := e1
    unfold on1 at q
    split at q
    · obtain ⟨v, rfl, hd⟩ := t.one
      obtain ⟨u, rfl, ru⟩ := vals1 r
      exact srt_run hu I ru rl hd q k (fun _ => PyProof.Rows.args_sorted_rev _ _) (fun _ => PyProof.Rows.args_list_sort_rev _ _) fun _ => rfl
    · exact q.elim) hg hm hv (da_cons he da_nil hs) (pk_cons pe_bl pk_nil) (by decide) (by decide) h1 hpl hall hnone hks)
  fun σ H Q h => by
    obtain ⟨ρ, G, QD, u, h, k⟩ := h
    exact ⟨ρ, G, _, u, h, fun ds G1 vs H1 q1 s1 r1 p1 => ⟨rfl, ds, G1, QD, r1, p1, q1, fun d' G' v H' q2 s2 r2 p2 => k _ _ _ _ q2 (s1.trans s2) r2 p2⟩⟩
end
end DL

end

section
set_option Elab.async false
set_option linter.all false
set_option maxRecDepth 100000
set_option maxHeartbeats 1000000
namespace DL
open PySem PySem.Spec PyProof.Rows L2

/-! ## methods of lists -/
section
variable {X : Cx} {c : DC} {o e : Expr} {to te : DE} {apos cpos : Pos}
/-- d is a list of one's own -/
def ownL (d : D) (G : GH) (k : Addr → Prop) : Prop := match d with
  | .ref p => match G p with
    | some (.lst _) => k p
    | _ => False
  | _ => False
def getL (G : GH) (p : Addr) (k : List D → Prop) : Prop := match G p with
  | some (.lst ds) => k ds
  | _ => False
theorem ownL_of {d : D} {G : GH} {k : Addr → Prop} (h : ownL d G k) : ∃ p ds, d = .ref p ∧ G p = some (.lst ds) ∧ k p := by
  unfold ownL at h
  split at h
  · split at h
    · rename_i p _ ds e
      exact ⟨p, ds, rfl, e, h⟩
    · exact h.elim
  · exact h.elim
theorem getL_of {G : GH} {p : Addr} {k : List D → Prop} (h : getL G p k) : ∃ ds, G p = some (.lst ds) ∧ k ds := by
  unfold getL at h
  split at h
  · rename_i ds e
    exact ⟨ds, e, h⟩
  · exact h.elim
theorem Rl.tyL {K : PySem.W.Frag} {P : Addr → Prop} {G : GH} {H : Hp} {p : Addr} {ds : List D} (r : Rl K P G H) (h : G p = some (.lst ds)) : tyV K "list" (.ref p) H := by
  obtain ⟨xs, e, _⟩ := r.h p _ h
  exact .inl ⟨rfl, xs, .of e⟩
abbrev M1 := Addr → D → GH → DK → Prop
def dM1 (f : M1) (to te : DE) : DE := fun ρ G Q => to ρ G fun d G1 => ownL d G1 fun p => te ρ G1 fun y G2 => f p y G2 Q
def dM0 (f : Addr → GH → DK → Prop) (to : DE) : DE := fun ρ G Q => to ρ G fun d G1 => ownL d G1 fun p => f p G1 Q
def M1Ok (K : PySem.W.Frag) (r : V → List V → Hp → VK → Prop) (f : M1) : Prop := ∀ (P : Addr → Prop) (p : Addr) (y : D) (v : V) (G : GH) (H : Hp) (QD : DK) (Q : VK), Rl K P G H → Rep K P G H v y → f p y G QD → (∀ d' G' v H', QD d' G' → Step G H G' H' → Rl K P G' H' → Rep K P G' H' v d' → Q v H') → r (.ref p) [v] H Q
def M0Ok (K : PySem.W.Frag) (r : V → List V → Hp → VK → Prop) (f : Addr → GH → DK → Prop) : Prop := ∀ (P : Addr → Prop) (p : Addr) (G : GH) (H : Hp) (QD : DK) (Q : VK), Rl K P G H → f p G QD → (∀ d' G' v H', QD d' G' → Step G H G' H' → Rl K P G' H' → Rep K P G' H' v d' → Q v H') → r (.ref p) [] H Q
variable {id : String} {name : Str} {r : V → List V → Hp → VK → Prop} {f : M1} {f0 : Addr → GH → DK → Prop}
theorem d_m1 (slot : Slot "list" name id) (hty : typeOf (.builtin id) = pure (.type "method_descriptor")) (hm : MtR X id r) (hf : M1Ok X.K r f) (ho : PE X o (lE X.K c to)) (he : PE X e (lE X.K c te)) (hbase : attributeBase o name X.env (eval o X.env) = eval o X.env := by rfl)
    (hfew : ((backTo cpos (starEach [e] X.env)).all (fun x => !x.1) && (backToKw cpos (keywordEach [] X.env)).all (fun x => x.1.isSome)
      && decide ([e].length + ([] : List Keyword).length + (if ([] : List Keyword).isEmpty then 0 else 1) < 30)) = true := by rfl)
    (hline : (apos.endLine == cpos.line) = true := by rfl) (hs : starEach [e] X.env = (false, eval e X.env) :: starEach [] X.env := by rfl) (hplain : (backTo cpos (starEach [] X.env)).any (·.1) = false := by rfl) :
    PE X (.Call (.Attribute o name apos) [e] [] cpos) (lE X.K c (dM1 f to te)) :=
  PE_imp (pe_bm PySem.F.plainAttrs_list slot hty hm ho (pa_cons he pa_nil hs) hbase hfew hline hs hplain) fun σ H Q ⟨ρ, G, QD, u, h, k⟩ => ⟨ρ, G, _, u, h, fun d G1 v H1 q s1 r1 p1 => by
    obtain ⟨p, ds0, rfl, e0, q⟩ := ownL_of q
    cases p1
    exact ⟨r1.tyL e0, ρ, G1, _, u.step s1 r1, q, fun y G2 w H2 q2 s2 r2 p2 => hf c.P p y w G2 H2 QD Q r2 p2 q2 fun d' G' v' H' q3 s3 r3 p3 => k _ _ _ _ q3 (s1.trans (s2.trans s3)) r3 p3⟩⟩
theorem d_m0 (slot : Slot "list" name id) (hty : typeOf (.builtin id) = pure (.type "method_descriptor")) (hm : MtR X id r) (hf : M0Ok X.K r f0) (ho : PE X o (lE X.K c to)) (hbase : attributeBase o name X.env (eval o X.env) = eval o X.env := by rfl)
    (hline : (apos.endLine == cpos.line) = true := by rfl) : PE X (.Call (.Attribute o name apos) [] [] cpos) (lE X.K c (dM0 f0 to)) :=
  PE_imp (pe_bm0 PySem.F.plainAttrs_list slot hty hm ho hbase hline) fun σ H Q ⟨ρ, G, QD, u, h, k⟩ => ⟨ρ, G, _, u, h, fun d G1 v H1 q s1 r1 p1 => by
    obtain ⟨p, ds0, rfl, e0, q⟩ := ownL_of q
    cases p1
    exact ⟨r1.tyL e0, hf c.P p G1 H1 QD Q r1 q fun d' G' v' H' q3 s3 r3 p3 => k _ _ _ _ q3 (s1.trans s3) r3 p3⟩⟩
def appF : M1 := fun p y G Q => getL G p fun ds => ds.length < sizeLine ∧ Q .non (updG G p (.lst (ds ++ [y])))
theorem m_append : M1Ok X.K rAppend appF := fun P p y v G H QD Q r h q k => by
  obtain ⟨ds, e, hl, q⟩ := getL_of q
  obtain ⟨xs, hx, t⟩ := r.h p _ e
  exact ⟨p, xs, v, rfl, rfl, hx, by rw [t.length]; exact hl, k _ _ _ _ q (step_put e) (r.put e (t.append (.cons h .nil))) .non⟩
def extF : M1 := fun p y G Q => getL G p fun ds => match asL y G with
  | some es => ds.length + es.length ≤ sizeLine ∧ Q .non (updG G p (.lst (ds ++ es)))
  | none => False
theorem m_extend : M1Ok X.K rExtend extF := fun P p y v G H QD Q r h q k => by
  obtain ⟨ds, e, q⟩ := getL_of q
  obtain ⟨xs, hx, t⟩ := r.h p _ e
  split at q
  · rename_i es ey
    obtain ⟨b, zs, rfl, hb, t2⟩ := asL_rep r h ey
    exact ⟨p, b, xs, zs, rfl, rfl, hx, hb, by rw [t.length, t2.length]; exact q.1, k _ _ _ _ q.2 (step_put e) (r.put e (t.append t2)) .non⟩
  · exact q.elim
def popF : Addr → GH → DK → Prop := fun p G Q => getL G p fun ds => match ds[ds.length - 1]? with
  | some d => Q d (updG G p (.lst ds.dropLast))
  | none => False
theorem m_pop : M0Ok X.K rPop popF := fun P p G H QD Q r q k => by
  obtain ⟨ds, e, q⟩ := getL_of q
  obtain ⟨xs, hx, t⟩ := r.h p _ e
  split at q
  · rename_i d ed
    obtain ⟨v, hv, pv⟩ := t.get ed
    exact ⟨p, xs, v, rfl, rfl, hx, by rw [t.length]; exact hv, k _ _ _ _ q (step_put e) (r.put e t.dropLast) (pv.mono r (step_put e))⟩
  · exact q.elim
abbrev d_append (ho : PE X o (lE X.K c to)) (he : PE X e (lE X.K c te)) (hbase : attributeBase o "append" X.env (eval o X.env) = eval o X.env := by rfl)
    (hfew : ((backTo cpos (starEach [e] X.env)).all (fun x => !x.1) && (backToKw cpos (keywordEach [] X.env)).all (fun x => x.1.isSome)
      && decide ([e].length + ([] : List Keyword).length + (if ([] : List Keyword).isEmpty then 0 else 1) < 30)) = true := by rfl)
    (hline : (apos.endLine == cpos.line) = true := by rfl) (hs : starEach [e] X.env = (false, eval e X.env) :: starEach [] X.env := by rfl) (hplain : (backTo cpos (starEach [] X.env)).any (·.1) = false := by rfl) :
    PE X (.Call (.Attribute o "append" apos) [e] [] cpos) (lE X.K c (dM1 appF to te)) := d_m1 PySem.F.slot_list_append PySem.F.type_list_append mt_append m_append ho he hbase hfew hline hs hplain
abbrev d_extend (ho : PE X o (lE X.K c to)) (he : PE X e (lE X.K c te)) (hbase : attributeBase o "extend" X.env (eval o X.env) = eval o X.env := by rfl)
    (hfew : ((backTo cpos (starEach [e] X.env)).all (fun x => !x.1) && (backToKw cpos (keywordEach [] X.env)).all (fun x => x.1.isSome)
      && decide ([e].length + ([] : List Keyword).length + (if ([] : List Keyword).isEmpty then 0 else 1) < 30)) = true := by rfl)
    (hline : (apos.endLine == cpos.line) = true := by rfl) (hs : starEach [e] X.env = (false, eval e X.env) :: starEach [] X.env := by rfl) (hplain : (backTo cpos (starEach [] X.env)).any (·.1) = false := by rfl) :
    PE X (.Call (.Attribute o "extend" apos) [e] [] cpos) (lE X.K c (dM1 extF to te)) := d_m1 PySem.F.slot_list_extend PySem.F.type_list_extend mt_extend m_extend ho he hbase hfew hline hs hplain
abbrev d_pop (ho : PE X o (lE X.K c to)) (hbase : attributeBase o "pop" X.env (eval o X.env) = eval o X.env := by rfl) (hline : (apos.endLine == cpos.line) = true := by rfl) :
    PE X (.Call (.Attribute o "pop" apos) [] [] cpos) (lE X.K c (dM0 popF to)) := d_m0 PySem.F.slot_list_pop PySem.F.type_list_pop mt_pop m_pop ho hbase hline

/-! ## x += y -/
def plusF : R2D := fun x y G Q => match x, y with
  | .int i, .int j => Q (.int (i + j)) G
  | .str a, .str b => a.length + b.length ≤ sizeLine ∧ Q (.str (a ++ b)) G
  | _, _ => False
theorem ip_plus : IpD X .Add plusF := by
  intro P pins s σ H x y v u Q I rx ry ⟨d, e, G, QD, r, hd, he, h, k⟩
  cases hd with
  | int i =>
    cases he with
    | int j => exact iop_add pins s σ H _ _ v u Q I rx ry ⟨i, j, rfl, rfl, here k r h (.int _)⟩
    | _ => exact (show False from h).elim
  | str a =>
    cases he with
    | str b => exact iop_add_str pins s σ H _ _ v u Q I rx ry ⟨a, b, rfl, rfl, h.1, here k r h.2 (.str _)⟩
    | _ => exact (show False from h).elim
  | _ => cases he <;> exact (show False from h).elim
theorem ip_minus : IpD X .Sub subD := by
  intro P pins s σ H x y v u Q I rx ry ⟨d, e, G, QD, r, hd, he, h, k⟩
  cases hd with
  | int i =>
    cases he with
    | int j => exact iop_sub pins s σ H _ _ v u Q I rx ry ⟨i, j, rfl, rfl, here k r h.2 (.int _)⟩
    | _ => exact (show False from h).elim
  | _ => cases he <;> exact (show False from h).elim
end

/-! ## what is walked -/
section
variable {K : PySem.W.Frag} {P P' : Addr → Prop} {G G' : GH} {H H' : Hp}
mutual
theorem Rep.later (r : Rl K P G H) (s : Step G H G' H') (hp : ∀ a, P' a → P a ∨ H a = none) : ∀ {v : V} {d : D}, Rep K P G H v d → Rep K P' G' H' v d
  | _, _, .non => .non
  | _, _, .bl b => .bl b
  | _, _, .int i => .int i
  | _, _, .str x => .str x
  | _, _, .ty n => .ty n
  | _, _, .ref a => .ref a
  | _, _, .tup h t => .tup (s.sqT r h) (RepL.later r s hp t)
  | _, _, .lst h g p t => .lst (s _ _ h (fun z => z) g).1 (s _ _ h (fun z => z) g).2 (fun z => (hp _ z).elim p fun e => by rw [h] at e; cases e) (RepL.later r s hp t)
  | _, _, .frz h t => .frz (s.frz r h) (RepL.later r s hp t)
theorem RepL.later (r : Rl K P G H) (s : Step G H G' H') (hp : ∀ a, P' a → P a ∨ H a = none) : ∀ {v : List V} {d : List D}, RepL K P G H v d → RepL K P' G' H' v d
  | _, _, .nil => .nil
  | _, _, .cons h t => .cons (Rep.later r s hp h) (RepL.later r s hp t)
end
def yes0 : GH → Prop := fun _ => True
/-- how a walked thing stands: its items, while gd holds -/
def itD (d : D) (G : GH) (k : List D → (GH → Prop) → Prop) : Prop := match d with
  | .lst ds => k ds yes0
  | .tup ds => k ds yes0
  | .scr ds => k ds yes0
  | .str x => k (x.cps.toList.map fun c => .str ⟨#[c]⟩) yes0
  | .ref p => match G p with
    | some (.lst ds) => k ds fun G => G p = some (.lst ds)
    | _ => False
  | _ => False
/-- a list, a tuple; no text -/
def seqD (d : D) (G : GH) (k : List D → (GH → Prop) → Prop) : Prop := match d with
  | .lst ds => k ds yes0
  | .tup ds => k ds yes0
  | .scr ds => k ds yes0
  | .ref p => match G p with
    | some (.lst ds) => k ds fun G => G p = some (.lst ds)
    | _ => False
  | _ => False
end
end DL

end

section
set_option Elab.async false
set_option linter.all false
set_option maxRecDepth 100000
set_option maxHeartbeats 1000000
namespace DL
open PySem PySem.Spec PyProof.Rows L2

/-! ## what is walked: the rules -/
section
variable {K : PySem.W.Frag} {P P' : Addr → Prop} {G : GH} {H : Hp} {v : V} {d : D}
/-- a list's or a tuple's items, now and while gd holds -/
structure Held (K : PySem.W.Frag) (P : Addr → Prop) (R : Hp → Addr → List V → Prop) (a : Addr) (ds : List D) (gd : GH → Prop) (G0 : GH) (H0 : Hp) : Prop where
  now : ∃ xs, R H0 a xs ∧ RepL K P G0 H0 xs ds
  later : ∀ P' : Addr → Prop, (∀ a, P a → P' a) → (∀ a, P' a → P a ∨ H0 a = none) → ∀ G H, Step G0 H0 G H → Rl K P' G H → gd G → ∃ xs, R H a xs ∧ RepL K P' G H xs ds
theorem seq_held {k : List D → (GH → Prop) → Prop} (r : Rl K P G H) (h : Rep K P G H v d) (q : seqD d G k) : ∃ a ds gd, v = .ref a ∧ k ds gd ∧ (Held K P (SqL K) a ds gd G H ∨ Held K P (SqT K) a ds gd G H) := by
  cases h with
  | lst h1 g p t => exact ⟨_, _, _, rfl, q, .inl ⟨⟨_, .of h1, t⟩, fun P' _ hp G' H' s r' _ => ⟨_, .of (s _ _ h1 (fun z => z) g).1, t.later r s hp⟩⟩⟩
  | tup h1 t => exact ⟨_, _, _, rfl, q, .inr ⟨⟨_, h1, t⟩, fun P' _ hp G' H' s r' _ => ⟨_, s.sqT r h1, t.later r s hp⟩⟩⟩
  | frz h1 t => exact ⟨_, _, _, rfl, q, .inl ⟨⟨_, h1.seq, t⟩, fun P' _ hp G' H' s r' _ => ⟨_, (s.frz r h1).seq, t.later r s hp⟩⟩⟩
  | ref p =>
    have q : (match G p with | some (.lst ds) => k ds (fun G => G p = some (.lst ds)) | _ => False) := q
    split at q
    · rename_i ds e
      have z : ∀ {P : Addr → Prop} {G : GH} {H : Hp}, Rl K P G H → G p = some (.lst ds) → ∃ xs, SqL K H p xs ∧ RepL K P G H xs ds := fun r e => by
        obtain ⟨xs, hx, t⟩ := r.h p _ e
        exact ⟨xs, .of hx, t⟩
      exact ⟨_, _, _, rfl, q, .inl ⟨z r e, fun P' _ _ G' H' _ r' e' => z r' e'⟩⟩
    · exact q.elim
  | _ => exact (show False from q).elim
theorem Held.itl {a : Addr} {ds : List D} {gd : GH → Prop} (h : Held K P (SqL K) a ds gd G H) : ItOk K P (Itl K a) ds gd G H := by
  intro P' h1 h2 i G' H' s r g
  obtain ⟨xs, hq, t⟩ := h.later P' h1 h2 G' H' s r g
  refine ⟨fun hi => ?_, fun hi => ⟨xs, hq, by rw [t.length]; exact hi⟩⟩
  obtain ⟨v, hv, pv⟩ := t.get (List.getElem?_eq_getElem hi)
  refine ⟨⟨xs, v, hq, hv⟩, fun x H2 ⟨e, f⟩ => ?_⟩
  subst e
  have e2 := f xs hq
  rw [hv] at e2; cases e2
  exact ⟨_, List.getElem?_eq_getElem hi, pv, Step.refl _ _, r⟩
theorem Held.itt {a : Addr} {ds : List D} {gd : GH → Prop} (h : Held K P (SqT K) a ds gd G H) : ItOk K P (Itt K a) ds gd G H := by
  intro P' h1 h2 i G' H' s r g
  obtain ⟨xs, hq, t⟩ := h.later P' h1 h2 G' H' s r g
  refine ⟨fun hi => ?_, fun hi => ⟨xs, hq, by rw [t.length]; exact hi⟩⟩
  obtain ⟨v, hv, pv⟩ := t.get (List.getElem?_eq_getElem hi)
  refine ⟨⟨xs, v, hq, hv⟩, fun x H2 ⟨e, f⟩ => ?_⟩
  subst e
  have e2 := f xs hq
  rw [hv] at e2; cases e2
  exact ⟨_, List.getElem?_eq_getElem hi, pv, Step.refl _ _, r⟩
theorem its_ok {z : Str} : ItOk K P (Its z) (z.cps.toList.map fun c => .str ⟨#[c]⟩) yes0 G H := by
  intro P' h1 h2 i G' H' s r g
  have len : (z.cps.toList.map fun c => D.str ⟨#[c]⟩).length = z.cps.size := by simp
  refine ⟨fun hi => ⟨by rw [len] at hi; exact hi, fun x H2 ⟨e, c, hc, ex⟩ => ?_⟩, fun hi => by rw [len] at hi; exact hi⟩
  subst e; subst ex
  refine ⟨_, ?_, .str _, Step.refl _ _, r⟩
  rw [List.getElem?_map, Array.getElem?_toList, hc] <;> rfl
theorem itr_ok {lo : Int} {n : Nat} : ItOk K P (Itr lo n) ((List.range n).map fun i => .int (lo + (i : Nat))) yes0 G H := by
  intro P' h1 h2 i G' H' s r g
  have len : ((List.range n).map fun i => D.int (lo + (i : Nat))).length = n := by simp
  refine ⟨fun hi => ⟨by rw [len] at hi; exact hi, fun x H2 ⟨e, ex⟩ => ?_⟩, fun hi => by rw [len] at hi; exact hi⟩
  subst e; subst ex
  rw [len] at hi
  refine ⟨_, ?_, .int _, Step.refl _ _, r⟩
  rw [List.getElem?_map, List.getElem?_range hi] <;> rfl
end
section
variable {X : Cx} {c : DC} {tg e e2 : Expr} {te : DE} {ta : DA} {p pos : Pos}
theorem PI_imp {t t' : TI} (h : PI X tg e t) (i : ∀ σ H R, t' σ H R → t σ H R) : PI X tg e t' := ⟨fun pins s σ H R I q => h.run pins s σ H R I (i _ _ _ q)⟩
/-- a list, a tuple, a text -/
def iAny (K : PySem.W.Frag) (tl : TE) : TI := fun σ H R => tl σ H fun x H1 => (∃ a, x = .ref a ∧ (∃ xs, SqL K H1 a xs) ∧ R (Itl K a) H1) ∨ (∃ a, x = .ref a ∧ (∃ xs, SqT K H1 a xs) ∧ R (Itt K a) H1) ∨ ∃ z, x = .str z ∧ R (Its z) H1
theorem pi_any {tl : TE} (hl : PE X e tl) : PI X tg e (iAny X.K tl) := by
  refine ⟨fun pins s σ H R I h => thn (hl.run pins s σ H _ I h) fun v s1 ⟨x, H1, I1, r1, q1⟩ => ?_⟩
  rcases q1 with ⟨a, rfl, ⟨xs, hq⟩, q⟩ | ⟨a, rfl, ⟨xs, hq⟩, q⟩ | ⟨z, rfl, q⟩
  · cases r1
    obtain ⟨its, rv, pl, _⟩ := I1.list hq
    exact wpAny_pyIter_list pl.isList (pi_one (tk := s1.toks) I1 _ (turn_list a _) ⟨_, Heap.get?_push_size _ rfl, rfl, rfl⟩ q)
  · cases r1
    obtain ⟨its, rv, pl, _⟩ := I1.tuple hq
    exact wpAny_pyIter_tuple (show s1.heap.IsTuple a its.toArray from pl) (pi_one (tk := s1.toks) I1 _ (turn_tuple a _) ⟨_, Heap.get?_push_size _ rfl, rfl, rfl⟩ q)
  · obtain ⟨t, rfl⟩ := r1
    cases ha : z.cps.all (· < 128)
    · exact wpAny_pyIter_wide ha (pi_one (tk := s1.toks) I1 _ (turn_str _ z t "str_iterator" (.inr rfl)) ⟨_, Heap.get?_push_size _ rfl, rfl, rfl⟩ q)
    · exact wpAny_pyIter_ascii ha (pi_one (tk := s1.toks) I1 _ (turn_str _ z t "str_ascii_iterator" (.inl rfl)) ⟨_, Heap.get?_push_size _ rfl, rfl, rfl⟩ q)
def dItr (te : DE) : DI := fun ρ G Q => te ρ G fun d G1 => itD d G1 fun ds gd => Q ds gd G1
theorem itD_seq {d : D} {G : GH} {k : List D → (GH → Prop) → Prop} (n : ∀ z, d ≠ .str z) (h : itD d G k) : seqD d G k := by
  cases d with
  | str z => exact absurd rfl (n z)
  | _ => exact h
theorem di_any (he : PE X e (lE X.K c te)) : PI X tg e (lI X.K c (dItr te)) :=
  PI_imp (pi_any he) fun σ H R ⟨ρ, G, QD, u, h, k⟩ => ⟨ρ, G, _, u, h, fun d G1 v H1 q s1 r1 p1 => by
    by_cases n : ∃ z, d = .str z
    · obtain ⟨z, rfl⟩ := n
      cases p1
      exact .inr (.inr ⟨z, rfl, k _ _ _ _ _ q s1 r1 its_ok⟩)
    · have q := itD_seq (fun z e => n ⟨z, e⟩) q
      obtain ⟨a, ds, gd, rfl, q, hh | hh⟩ := seq_held r1 p1 q
      · obtain ⟨xs, hx, _⟩ := hh.now
        exact .inl ⟨a, rfl, ⟨xs, hx⟩, k _ _ _ _ _ q s1 r1 hh.itl⟩
      · obtain ⟨xs, hx, _⟩ := hh.now
        exact .inr (.inl ⟨a, rfl, ⟨xs, hx⟩, k _ _ _ _ _ q s1 r1 hh.itt⟩)⟩
/-- range -/
def rgD (lo : Int) (n : Nat) : List D := (List.range n).map fun i => .int (lo + (i : Nat))
def dRange1 (ta : DA) : DI := fun ρ G Q => ta ρ G fun ds G1 => match ds with
  | [.int j] => (-(2 ^ 62) ≤ j ∧ j < 2 ^ 62) ∧ Q (rgD 0 j.toNat) yes0 G1
  | _ => False
def dRange2 (ta : DA) : DI := fun ρ G Q => ta ρ G fun ds G1 => match ds with
  | [.int i, .int j] => (-(2 ^ 62) ≤ i ∧ i < 2 ^ 62 ∧ -(2 ^ 62) ≤ j ∧ j < 2 ^ 62) ∧ Q (rgD i (j - i).toNat) yes0 G1
  | _ => False
theorem di_range1 (hg : Gl X "range") (hm : X.mg "range" = none) (ha : PA X [e] (lA X.K c ta)) (hs : starEach [e] X.env = [(false, eval e X.env)] := by rfl) : PI X tg (.Call (.Name "range" p) [e] [] pos) (lI X.K c (dRange1 ta)) :=
  PI_imp (pi_range1 hg hm ha hs) fun σ H R ⟨ρ, G, QD, u, h, k⟩ => ⟨ρ, G, _, u, h, fun ds G1 vs H1 q s1 r1 p1 => by
    split at q
    · rename_i j
      obtain ⟨v, ev, hp⟩ := p1.one
      subst ev
      cases hp with
      | int j => exact ⟨j, rfl, q.1.1, q.1.2, k _ _ _ _ _ q.2 s1 r1 (by unfold rgD; exact itr_ok)⟩
    · exact q.elim⟩
theorem di_range2 (hg : Gl X "range") (hm : X.mg "range" = none) (ha : PA X [e, e2] (lA X.K c ta)) (hs : starEach [e, e2] X.env = [(false, eval e X.env), (false, eval e2 X.env)] := by rfl) (hs2 : starEach [e2] X.env = [(false, eval e2 X.env)] := by rfl) :
    PI X tg (.Call (.Name "range" p) [e, e2] [] pos) (lI X.K c (dRange2 ta)) :=
  PI_imp (pi_range2 hg hm ha hs hs2) fun σ H R ⟨ρ, G, QD, u, h, k⟩ => ⟨ρ, G, _, u, h, fun ds G1 vs H1 q s1 r1 p1 => by
    split at q
    · obtain ⟨v, w, rfl, p1, p2⟩ := p1.two
      cases p1
      cases p2
      exact ⟨_, _, rfl, q.1, k _ _ _ _ _ q.2 s1 r1 (by unfold rgD; exact itr_ok)⟩
    · exact q.elim⟩
/-- zip of two lists or of two tuples -/
def zipL (a b : List D) : List D := (a.zip b).map fun z => .tup [z.1, z.2]
def isT : D → Bool
  | .tup _ => true
  | _ => false
def dZip (ta : DA) : DI := fun ρ G Q => ta ρ G fun ds G1 => match ds with
  | [x, y] => isT x = isT y ∧ seqD x G1 fun a ga => seqD y G1 fun b gb => Q (zipL a b) (fun G => ga G ∧ gb G) G1
  | _ => False
theorem zipL_get {a b : List D} {i : Nat} (h1 : i < a.length) (h2 : i < b.length) : (zipL a b)[i]? = some (.tup [a[i], b[i]]) := by
  have l : i < (a.zip b).length := by rw [List.length_zip]; omega
  unfold zipL
  rw [List.getElem?_map, List.getElem?_eq_getElem l, List.getElem_zip] <;> rfl
theorem zipL_len {a b : List D} : (zipL a b).length = min a.length b.length := by
  unfold zipL
  rw [List.length_map, List.length_zip]
section
variable {K : PySem.W.Frag} {P : Addr → Prop} {G : GH} {H : Hp} {a b : Addr} {ds es : List D} {ga gb : GH → Prop}
theorem itz_ok {R : Hp → Addr → List V → Prop} (J : It) (hgo : ∀ i H, J.go i H = ∃ (xs ys : List V) (x y : V), R H a xs ∧ R H b ys ∧ xs[i]? = some x ∧ ys[i]? = some y)
    (hy : ∀ i H v H', J.yld i H v H' = ∃ T x y, v = .ref T ∧ H T = none ∧ H' = upd H T (.tup [x, y]) ∧ (∀ xs, R H a xs → xs[i]? = some x) ∧ ∀ ys, R H b ys → ys[i]? = some y)
    (hst : ∀ i H, J.stop i H = ∃ xs ys : List V, R H a xs ∧ R H b ys ∧ (xs.length ≤ i ∨ ys.length ≤ i)) (h1 : Held K P R a ds ga G H) (h2 : Held K P R b es gb G H) : ItOk K P J (zipL ds es) (fun G => ga G ∧ gb G) G H := by
  intro P' k1 k2 i G' H' s r ⟨g1, g2⟩
  obtain ⟨xs, hx, tx⟩ := h1.later P' k1 k2 G' H' s r g1
  obtain ⟨ys, hz, ty⟩ := h2.later P' k1 k2 G' H' s r g2
  rw [zipL_len]
  refine ⟨fun hi => ?_, fun hi => by rw [hst]; exact ⟨xs, ys, hx, hz, by rw [tx.length, ty.length]; omega⟩⟩
  have l1 : i < ds.length := by omega
  have l2 : i < es.length := by omega
  obtain ⟨x, ex, px⟩ := tx.get (List.getElem?_eq_getElem l1)
  obtain ⟨y, ey, py⟩ := ty.get (List.getElem?_eq_getElem l2)
  refine ⟨by rw [hgo]; exact ⟨xs, ys, x, y, hx, hz, ex, ey⟩, fun w H2 hw => ?_⟩
  rw [hy] at hw
  obtain ⟨T, x', y', rfl, hT, rfl, f1, f2⟩ := hw
  have q1 := f1 xs hx
  have q2 := f2 ys hz
  rw [ex] at q1; cases q1
  rw [ey] at q2; cases q2
  exact ⟨_, zipL_get l1 l2, Rep.newT r hT (.cons px (.cons py .nil)), step_new hT, r.new hT⟩
end
theorem seq_isT {K : PySem.W.Frag} {P : Addr → Prop} {G : GH} {H : Hp} {v : V} {d : D} {k : List D → (GH → Prop) → Prop} (r : Rl K P G H) (h : Rep K P G H v d) (q : seqD d G k) : ∃ a ds gd, v = .ref a ∧ k ds gd ∧ ((isT d = false ∧ Held K P (SqL K) a ds gd G H) ∨ (isT d = true ∧ Held K P (SqT K) a ds gd G H)) := by
  cases h with
  | tup h1 t => exact ⟨_, _, _, rfl, q, .inr ⟨rfl, ⟨_, h1, t⟩, fun P' _ hp G' H' s r' _ => ⟨_, s.sqT r h1, t.later r s hp⟩⟩⟩
  | lst h1 g p t => exact ⟨_, _, _, rfl, q, .inl ⟨rfl, ⟨_, .of h1, t⟩, fun P' _ hp G' H' s r' _ => ⟨_, .of (s _ _ h1 (fun z => z) g).1, t.later r s hp⟩⟩⟩
  | frz h1 t => exact ⟨_, _, _, rfl, q, .inl ⟨rfl, ⟨_, h1.seq, t⟩, fun P' _ hp G' H' s r' _ => ⟨_, (s.frz r h1).seq, t.later r s hp⟩⟩⟩
  | ref p =>
    have q : (match G p with | some (.lst ds) => k ds (fun G => G p = some (.lst ds)) | _ => False) := q
    split at q
    · rename_i ds e
      have z : ∀ {P : Addr → Prop} {G : GH} {H : Hp}, Rl K P G H → G p = some (.lst ds) → ∃ xs, SqL K H p xs ∧ RepL K P G H xs ds := fun r e => by
        obtain ⟨xs, hx, t⟩ := r.h p _ e
        exact ⟨xs, .of hx, t⟩
      exact ⟨_, _, _, rfl, q, .inl ⟨rfl, z r e, fun P' _ _ G' H' _ r' e' => z r' e'⟩⟩
    · exact q.elim
  | _ => exact (show False from q).elim
theorem di_zip {tpos : Pos} {elts : List Expr} {kk : Nat} (hg : Gl X "zip") (hm : X.mg "zip" = none) (ha : PA X [e, e2] (lA X.K c ta))
    (hs : starEach [e, e2] X.env = (false, eval e X.env) :: starEach [e2] X.env := by rfl) (hpl : (backTo pos (starEach [e2] X.env)).any (·.1) = false := by rfl) :
    PI X (.Tuple elts kk tpos) (.Call (.Name "zip" p) [e, e2] [] pos) (lI X.K c (dZip ta)) :=
  PI_imp (RZ.pi_zipA hg hm ha hs hpl) fun σ H R ⟨ρ, G, QD, u, h, k⟩ => ⟨ρ, G, _, u, h, fun ds G1 vs H1 q s1 r1 p1 => by
    split at q
    · obtain ⟨v, w, rfl, p1, p2⟩ := p1.two
      obtain ⟨et, q⟩ := q
      obtain ⟨a, da, ga, rfl, q, ha⟩ := seq_isT r1 p1 q
      obtain ⟨b, db, gb, rfl, q, hb⟩ := seq_isT r1 p2 q
      have fin : ∀ J, ItOk X.K c.P J (zipL da db) (fun G => ga G ∧ gb G) G1 H1 → R J H1 := fun J it => k _ _ _ _ J q s1 r1 it
      rcases ha with ⟨t1, ha⟩ | ⟨t1, ha⟩
      · rcases hb with ⟨t2, hb⟩ | ⟨t2, hb⟩
        · obtain ⟨xs, hx, _⟩ := ha.now
          obtain ⟨ys, hy, _⟩ := hb.now
          exact ⟨a, b, xs, ys, rfl, .inl ⟨hx, hy, fin _ (itz_ok _ (fun _ _ => rfl) (fun _ _ _ _ => rfl) (fun _ _ => rfl) ha hb)⟩⟩
        · rw [t1, t2] at et; cases et
      · rcases hb with ⟨t2, hb⟩ | ⟨t2, hb⟩
        · rw [t1, t2] at et; cases et
        · obtain ⟨xs, hx, _⟩ := ha.now
          obtain ⟨ys, hy, _⟩ := hb.now
          exact ⟨a, b, xs, ys, rfl, .inr ⟨hx, hy, fin _ (itz_ok _ (fun _ _ => rfl) (fun _ _ _ _ => rfl) (fun _ _ => rfl) ha hb)⟩⟩
    · exact q.elim⟩
end
end DL

end

section
set_option Elab.async false
set_option linter.all false
set_option maxRecDepth 100000
set_option maxHeartbeats 1000000
namespace DL
open PySem PySem.Spec PyProof.Rows L2

/-! ## enumerate of a list or a tuple -/
set_option maxHeartbeats 1000000 in
theorem enum_made {v : Value} {o : Obj} {H : Heap → Prop} (B : Begins v o H) :
    Meets (Builtin.«enumerate.__new__» ⟨[.type "enumerate", v], []⟩) (fun _ R s => H s.heap ∧
      R (.ok (.ret (.ref (s.heap.push o).objs.size))) { s with heap := (s.heap.push o).push { cls := .type "enumerate", data := .fields #[.none, .bool false, .ref s.heap.objs.size, rawInt 0, .none, .none] } }) :=
  .of_wp fun prog w A R s h => by
    obtain ⟨hp, g, d, tk, os⟩ := s
    obtain ⟨h1, h⟩ := h
    have hsub := sub_enumerate
    have it : ∀ {A' : Around} {E : Value → Shared → Prop} {Q : Value → Shared → Prop}, Q (.ref hp.objs.size) ⟨hp.push o, g, d, tk, os⟩ → wpAny (model prog w) A' (pyIter v) Q E ⟨hp, g, d, tk, os⟩ :=
      fun q => B.iter prog w _ _ ⟨hp, g, d, tk, os⟩ _ h1 q
    wp_walk using it
    refine wpAny_stack_any fun st => wpAny_pure ?_
    split
    · rename_i c _ _ _ _ _
      cases (c == Value.type "enumerate") <;> (wp_walk using it; exact ⟨_, rfl, h⟩)
    · wp_walk using it
      exact ⟨_, rfl, h⟩
section
variable {prog : Program} {w : World} {A : Around} {E : Value → Shared → Prop} {s : Shared}
theorem enum_call {v : Value} {o : Obj} {H : Heap → Prop} {Q : Value → Shared → Prop} (B : Begins v o H) (h1 : H s.heap)
    (h : ∀ h', IsEnum h' (s.heap.objs.size + 1) s.heap.objs.size 0 .none → h'.get? s.heap.objs.size = some o → h'.objs.size = s.heap.objs.size + 2 →
      (∀ b o, s.heap.get? b = some o → h'.get? b = some o) → Q (.ref (s.heap.objs.size + 1)) { s with heap := h' }) :
    wpAny (model prog w) A (call (.type "enumerate") [v]) Q E s := by
  refine callType_new F.called_enumerate (by decide) (F.typeCall_enumerate_1 _) (F.newCall_enumerate_1 _) (fun obj => F.args_object_init_2 obj _) F.entry_enumerate_new (enum_made B) ⟨h1, ?_⟩
  have hz : (s.heap.push o).objs.size = s.heap.objs.size + 1 := Heap.size_push ..
  show _ ∧ _
  rw [hz]
  have he : IsEnum ((s.heap.push o).push { cls := .type "enumerate", data := .fields #[.none, .bool false, .ref s.heap.objs.size, rawInt 0, .none, .none] }) (s.heap.objs.size + 1) s.heap.objs.size 0 .none := by
    have q := Heap.get?_push_size (s.heap.push o) (o := { cls := .type "enumerate", data := .fields #[.none, .bool false, .ref s.heap.objs.size, rawInt 0, .none, .none] }) rfl
    rw [hz] at q; exact q
  exact ⟨⟨_, he, rfl⟩, h _ he (Heap.get?_push_of_some _ (Heap.get?_push_size _ B.free)) (by rw [Heap.size_push, hz]) fun b o x => Heap.get?_push_of_some _ (Heap.get?_push_of_some _ x)⟩
end
def IteT (K : PySem.W.Frag) (a : Addr) : It :=
  ⟨fun i H => ∃ (xs : List V) (x : V), SqT K H a xs ∧ xs[i]? = some x, fun i H v H' => ∃ T x, v = .ref T ∧ H T = none ∧ H' = upd H T (.tup [.int (i : Nat), x]) ∧ ∀ xs, SqT K H a xs → xs[i]? = some x, fun i H => ∃ xs : List V, SqT K H a xs ∧ xs.length ≤ i⟩
theorem turn_enumT {P : Program} {w : World} {K : PySem.W.Frag} {elts : List Expr} {kk : Nat} {tpos : Pos} (a e it : Addr) (ha : a ≠ it) (hae : a ≠ e) :
    Turn P w K (.Tuple elts kk tpos) (IteT K a) [e, it] e (fun i h => (∃ old, IsEnum h e it ((i : Nat) : Int) old) ∧ h.IsTupleIter it a i ∧ e ≠ it) where
  mem := by simp
  obj := fun i h st b hb => by
    obtain ⟨⟨old, he⟩, ⟨o, ho, hc, hd⟩, _⟩ := st
    rcases (show b = e ∨ b = it by simpa using hb) with z | z
    · rw [z]; exact ⟨_, he, fun v q => nomatch q⟩
    · rw [z]; exact ⟨o, ho, fun v q => by rw [hd] at q; cases q⟩
  keep := fun i h h' st k => let ⟨⟨old, he⟩, hi, hne⟩ := st; ⟨⟨old, k e (by simp) _ he⟩, hi.at fun o q => k it (by simp) o q, hne⟩
  item := by
    intro X hP hw hK hc i pins s σ H E I hf st hg
    subst hP hw hK
    obtain ⟨⟨old, he⟩, hit, hne⟩ := st
    obtain ⟨xs, x, hq, hx⟩ := hg
    obtain ⟨its, rv, p, hz⟩ := I.tuple hq
    obtain ⟨u, hu, ru⟩ := rv.get hx
    have hel : e < s.heap.objs.size := Heap.lt_size he
    have hil : it < s.heap.objs.size := by obtain ⟨_, q, _⟩ := hit; exact Heap.lt_size q
    have hli : i < its.toArray.size := by
      have := List.getElem?_eq_some_iff.mp hu
      simpa using this.1
    have D := Draws.tuple (prog := X.prog) (w := X.w) (A := X.A.in1) (I.ok.hd hc) it a ha its.toArray
    refine wpAny_pyNext_enum_itemC D he ⟨hit, p⟩ hli hne (by simp [hne, Ne.symm hae]) fun y h' tk hy ho hit' hT hsz hk => ?_
    have ey : y = u := by
      have hy : its.toArray[i]? = some y := hy
      have hu' : its.toArray[i]? = some u := by simpa using hu
      rw [hy] at hu'; cases hu'; rfl
    subst ey
    refine ⟨_, rfl, wpAny_letOwnedTupleGo_enum (s := { s with heap := h', toks := tk + 1 }) ho fun h'' he' sb => ?_⟩
    have hT2 : h''.get? s.heap.objs.size = some { cls := .type "tuple", data := .seq #[.int i tk, y] } := (sb.2 _ (Nat.ne_of_gt hel)).trans hT
    have new : ObjOk X.prog X.w (upd H s.heap.objs.size (.tup [.int (i : Nat), x])) h'' s.heap.objs.size (.tup [.int (i : Nat), x]) :=
      ⟨by show 2 ≤ sizeLine; decide, [.int i tk, y], .cons ⟨_, rfl⟩ (.cons ru .nil), ⟨_, hT2, rfl, _, rfl⟩⟩
    have I1 : Inv X pins σ (upd H s.heap.objs.size (.tup [.int (i : Nat), x])) { s with heap := h'', toks := tk + 1 } :=
      I.turnedNew (ch := [e, it]) (fun b ob hb q => (sb.2 b (fun z => hb (by simp [z]))).trans (hk b ob (fun z => hb (by simp [z])) (fun z => hb (by simp [z])) q)) hf (Nat.le_refl _) new
    refine ⟨.ref s.heap.objs.size, _, I1, rfl, ⟨_, x, rfl, I.hok.fresh (Nat.le_refl _), rfl, fun ys hy => by rw [I.tuple_inj hy hq]; exact hx⟩, ⟨⟨y, ?_⟩, hit'.1.at fun o q => (sb.2 it (Ne.symm hne)).trans q, hne⟩, fun b hb => ?_⟩
    · have e1 : ((i + 1 : Nat) : Int) = (i : Int) + 1 := by omega
      rw [e1]; exact he'
    · have hb' : b < s.heap.objs.size := by
        rcases (show b = e ∨ b = it by simpa using hb) with z | z
        · rw [z]; exact hel
        · rw [z]; exact hil
      rw [upd_ne (Nat.ne_of_lt hb')]
      exact (hf b hb).1
  done := by
    intro X hP hw hK hc i pins s σ H E I hf st hg
    subst hP hw hK
    obtain ⟨⟨old, he⟩, hit, hne⟩ := st
    obtain ⟨xs, hq, hx⟩ := hg
    obtain ⟨its, rv, p, hz⟩ := I.tuple hq
    obtain ⟨f0, f1, f2, f3, f4, f5⟩ := hf it (by simp)
    have hl := rv.length
    have D : Draws X.prog X.w X.A.in1 it [it, a] i (fun _ _ => True) (fun j h => if j < i then False else h.IsTupleIter it a j ∧ h.IsTuple a its.toArray) := {
      live := fun j h st => by
        split at st
        · exact st.elim
        · obtain ⟨⟨o, ho, _⟩, _⟩ := st; exact ⟨o, ho⟩
      frame := fun j h h' st hk => by
        split at st
        · exact st.elim
        · rename_i nj
          rw [if_neg nj]
          exact ⟨st.1.at fun o e => hk it (by simp) o e, st.2.at fun o e => hk a (by simp) o e⟩
      item := fun j s Q E hj st hQ => by
        rw [if_pos hj] at st
        exact st.elim
      done := fun s Q E st hE => by
        rw [if_neg (Nat.lt_irrefl _)] at st
        exact wpAny_nextOf_tuple_end (I.ok.hd hc) st.1 st.2 (by simp; omega) hE }
    exact wpAny_pyNext_enum_endD D he (by rw [if_neg (Nat.lt_irrefl _)]; exact ⟨hit, p⟩) fun h' eb => ⟨rfl, I.turned (t' := s.toks) (fun b o hb q => eb b o hb q) f0 f1 f3 f4 f5⟩
  self := fun A i s Q E st h => let ⟨⟨_, he⟩, _⟩ := st; wpAny_pyIter_enum he h
section
variable {X : Cx} {c : DC} {e : Expr} {te : DE} {p pos : Pos}
def iEnumA (K : PySem.W.Frag) (ta : TA) : TI := fun σ H R => ta σ H fun vs H1 => ∃ a xs, vs = [.ref a] ∧ ((SqL K H1 a xs ∧ R (Ite K a) H1) ∨ (SqT K H1 a xs ∧ R (IteT K a) H1))
theorem pi_enumA {ta : TA} {tpos : Pos} {elts : List Expr} {kk : Nat} (hg : Gl X "enumerate") (hm : X.mg "enumerate" = none) (ha : PA X [e] ta) (hs : starEach [e] X.env = [(false, eval e X.env)] := by rfl) :
    PI X (.Tuple elts kk tpos) (.Call (.Name "enumerate" p) [e] [] pos) (iEnumA X.K ta) := by
  refine ⟨fun pins s σ H R I h => Call_ (ld_blt I hg hm boot_enumerate (PyProof.Rows.callWith_type1 (thn (ha.run pos pins s σ H _ I h) fun us s1 ⟨vs, H1, I1, r1, q1⟩ => ?_) hs rfl))⟩
  obtain ⟨a, xs, ex, q1⟩ := q1
  subst ex
  obtain ⟨u, rfl, ru⟩ := vals1 r1
  cases ru
  have fp2 : ∀ b, b ∈ [s1.heap.objs.size + 1, s1.heap.objs.size] → FpOk X pins H1 b := fun b hb => by
    have hle : s1.heap.objs.size ≤ b := by
      rcases (show b = s1.heap.objs.size + 1 ∨ b = s1.heap.objs.size by simpa using hb) with z | z
      · rw [z]; exact Nat.le_add_right _ _
      · rw [z]; exact Nat.le_refl _
    exact I1.fpOk hle (I1.hok.fresh hle)
  rcases q1 with ⟨hq, q⟩ | ⟨hq, q⟩
  · obtain ⟨its, rv, pl, hz⟩ := I1.list hq
    refine enum_call (begins_list a its.toArray) pl.isList fun h' he hit hsz hk => wpAny_pyIter_enum he ?_
    exact ⟨s1.heap.objs.size + 1, [s1.heap.objs.size + 1, s1.heap.objs.size], _, _, H1, rfl, I1.kept (t' := s1.toks) hk, turn_enum a (s1.heap.objs.size + 1) s1.heap.objs.size, ⟨⟨.none, he⟩, ⟨_, hit, rfl, rfl⟩, Nat.succ_ne_self _⟩, fp2, q⟩
  · obtain ⟨its, rv, pl, hz⟩ := I1.tuple hq
    have hlt : a < s1.heap.objs.size := by
      obtain ⟨o, ho, _⟩ := id pl
      exact Heap.lt_size ho
    refine enum_call (begins_tuple a its.toArray) pl fun h' he hit hsz hk => wpAny_pyIter_enum he ?_
    exact ⟨s1.heap.objs.size + 1, [s1.heap.objs.size + 1, s1.heap.objs.size], _, _, H1, rfl, I1.kept (t' := s1.toks) hk, turn_enumT a (s1.heap.objs.size + 1) s1.heap.objs.size (Nat.ne_of_lt hlt) (Nat.ne_of_lt (Nat.lt_succ_of_lt hlt)), ⟨⟨.none, he⟩, ⟨_, hit, rfl, rfl⟩, Nat.succ_ne_self _⟩, fp2, q⟩
def enumL (n : Nat) : List D → List D
  | [] => []
  | d :: ds => .tup [.int (n : Nat), d] :: enumL (n + 1) ds
theorem enumL_len : ∀ {n : Nat} {ds : List D}, (enumL n ds).length = ds.length
  | _, [] => rfl
  | n, d :: ds => congrArg (· + 1) (enumL_len (n := n + 1) (ds := ds))
theorem enumL_get : ∀ {n i : Nat} {ds : List D} {d : D}, ds[i]? = some d → (enumL n ds)[i]? = some (.tup [.int ((n + i : Nat) : Int), d])
  | _, _, [], _, h => by simp at h
  | n, 0, d :: ds, e, h => by simp at h; subst h; rfl
  | n, i + 1, d :: ds, e, h => by
    have := enumL_get (n := n + 1) (i := i) (ds := ds) (d := e) (by simpa using h)
    unfold enumL
    rw [List.getElem?_cons_succ, this]
    have e : n + 1 + i = n + (i + 1) := by omega
    rw [e]
def dEnum (ta : DA) : DI := fun ρ G Q => ta ρ G fun ds G1 => match ds with
  | [x] => seqD x G1 fun a ga => Q (enumL 0 a) ga G1
  | _ => False
theorem ite_ok {K : PySem.W.Frag} {P : Addr → Prop} {G : GH} {H : Hp} {a : Addr} {ds : List D} {ga : GH → Prop} {R : Hp → Addr → List V → Prop} (J : It) (hgo : ∀ i H, J.go i H = ∃ (xs : List V) (x : V), R H a xs ∧ xs[i]? = some x)
    (hy : ∀ i H v H', J.yld i H v H' = ∃ T x, v = .ref T ∧ H T = none ∧ H' = upd H T (.tup [.int (i : Nat), x]) ∧ ∀ xs, R H a xs → xs[i]? = some x)
    (hst : ∀ i H, J.stop i H = ∃ xs : List V, R H a xs ∧ xs.length ≤ i) (h1 : Held K P R a ds ga G H) : ItOk K P J (enumL 0 ds) ga G H := by
  intro P' k1 k2 i G' H' s r g1
  obtain ⟨xs, hx, tx⟩ := h1.later P' k1 k2 G' H' s r g1
  rw [enumL_len]
  refine ⟨fun hi => ?_, fun hi => by rw [hst]; exact ⟨xs, hx, by rw [tx.length]; exact hi⟩⟩
  obtain ⟨x, ex, px⟩ := tx.get (List.getElem?_eq_getElem hi)
  refine ⟨by rw [hgo]; exact ⟨xs, x, hx, ex⟩, fun w H2 hw => ?_⟩
  rw [hy] at hw
  obtain ⟨T, x', rfl, hT, rfl, f1⟩ := hw
  have q1 := f1 xs hx
  rw [ex] at q1; cases q1
  refine ⟨_, enumL_get (List.getElem?_eq_getElem hi), ?_, step_new hT, r.new hT⟩
  rw [Nat.zero_add]
  exact Rep.newT r hT (.cons (.int _) (.cons px .nil))
theorem di_enum {ta : DA} {tpos : Pos} {elts : List Expr} {kk : Nat} (hg : Gl X "enumerate") (hm : X.mg "enumerate" = none) (ha : PA X [e] (lA X.K c ta)) (hs : starEach [e] X.env = [(false, eval e X.env)] := by rfl) :
    PI X (.Tuple elts kk tpos) (.Call (.Name "enumerate" p) [e] [] pos) (lI X.K c (dEnum ta)) :=
  PI_imp (pi_enumA hg hm ha hs) fun σ H R ⟨ρ, G, QD, u, h, k⟩ => ⟨ρ, G, _, u, h, fun ds G1 vs H1 q s1 r1 p1 => by
    split at q
    · obtain ⟨v, ev, hp⟩ := p1.one
      subst ev
      obtain ⟨a, da, ga, rfl, q, ha | ha⟩ := seq_held r1 hp q
      · obtain ⟨xs, hx, _⟩ := ha.now
        exact ⟨a, xs, rfl, .inl ⟨hx, k _ _ _ _ _ q s1 r1 (ite_ok _ (fun _ _ => rfl) (fun _ _ _ _ => rfl) (fun _ _ => rfl) ha)⟩⟩
      · obtain ⟨xs, hx, _⟩ := ha.now
        exact ⟨a, xs, rfl, .inr ⟨hx, k _ _ _ _ _ q s1 r1 (ite_ok _ (fun _ _ => rfl) (fun _ _ _ _ => rfl) (fun _ _ => rfl) ha)⟩⟩
    · exact q.elim⟩
/-- list(range(n)), list(range(i, j)) -/
theorem rep_rg {K : PySem.W.Frag} {P : Addr → Prop} {G : GH} {H : Hp} {lo hi : Int} : RepL K P G H (rgV lo hi) (rgD lo (hi - lo).toNat) := by
  unfold rgV rgD
  generalize (hi - lo).toNat = n
  generalize List.range n = l
  induction l with
  | nil => exact .nil
  | cons a l ih => exact .cons (.int _) ih
def dLstRg (t : DSt → GH → (Int → Int → GH → Prop) → Prop) : DE := fun ρ G Q => t ρ G fun i j G1 => RgOk i j ∧ Q (.lst (rgD i (j - i).toNat)) G1
def dRg1 (te : DE) : DSt → GH → (Int → Int → GH → Prop) → Prop := fun ρ G Q => te ρ G fun d G1 => match d with
  | .int n => Q 0 n G1
  | _ => False
def lRg (K : PySem.W.Frag) (c : DC) (t : DSt → GH → (Int → Int → GH → Prop) → Prop) : L2.St → Hp → (Int → Int → Hp → Prop) → Prop := fun σ H Q => ∃ ρ G QD, Cur K c σ H ρ G ∧ t ρ G QD ∧ ∀ i j G' H', QD i j G' → Step G H G' H' → Rl K c.P G' H' → Q i j H'
theorem PRg_imp {X : Cx} {e : Expr} {t t' : L2.St → Hp → (Int → Int → Hp → Prop) → Prop} (h : PRg X e t) (i : ∀ σ H Q, t' σ H Q → t σ H Q) : PRg X e t' := fun pins s σ H Q I q => h pins s σ H Q I (i _ _ _ q)
theorem dr_1 (hg : Gl X "range") (hm : X.mg "range" = none) (ha : PE X e (lE X.K c te)) (na : starEach [e] X.env = (false, eval e X.env) :: starEach [] X.env := by rfl) : PRg X (.Call (.Name "range" p) [e] [] pos) (lRg X.K c (dRg1 te)) :=
  PRg_imp (prg_1 hg hm ha na) fun σ H Q ⟨ρ, G, QD, u, h, k⟩ => ⟨ρ, G, _, u, h, fun d G1 v H1 q s1 r1 p1 => by
    cases p1 with
    | int n => exact ⟨n, rfl, k _ _ _ _ q s1 r1⟩
    | _ => exact (show False from q).elim⟩
theorem d_lstRg {t : DSt → GH → (Int → Int → GH → Prop) → Prop} (hc : X.calm = true) (hg : Gl X "list") (hm : X.mg "list" = none) (he : PRg X e (lRg X.K c t)) (na : starEach [e] X.env = (false, eval e X.env) :: starEach [] X.env := by rfl) :
    PE X (.Call (.Name "list" p) [e] [] pos) (lE X.K c (dLstRg t)) :=
  PE_imp (pe_listRg hc hg hm he na) fun σ H Q ⟨ρ, G, QD, u, h, k⟩ => ⟨ρ, G, _, u, h, fun i j G1 H1 q s1 r1 => ⟨q.1, fun l hl => k _ _ _ _ q.2 (s1.trans (step_new hl)) (r1.new hl) (Rep.newL r1 hl rep_rg)⟩⟩
end
end DL

end

section
set_option Elab.async false
set_option linter.all false
set_option maxRecDepth 100000
set_option maxHeartbeats 2000000
namespace DX
open PySem PySem.W PySem.Calls PyProof.Rows PySem.HandSPX
/-! ## an own error C(v): class C(D0), D0(ValueError); __init__(self, f): super().__init__(f); self.f = f -/
def eA (f : Str) (p1 p2 : Pos) : Arguments := { posonlyargs := [], args := [{ arg := "self", annotation := none, pos := p1 }, { arg := f, annotation := none, pos := p2 }], vararg := none, kwonlyargs := [], kw_defaults := [], kwarg := none, defaults := [] }
def eB (f : Str) (a1 a2 a3 a4 a5 a6 q1 q2 q3 q4 : Pos) : List Stmt :=
  [.Expr (.Call (.Attribute (.Call (.Name "super" a1) [] [] a2) "__init__" a3) [.Name f a4] [] a5) a6, .Assign [.Attribute (.Name "self" q1) f q2] (.Name f q3) q4]
def eS (f : Str) : Scope := { kind := .function, names := [(PySem.Str.ofString "self", .local), (f, .local), (PySem.Str.ofString "__class__", .free), (PySem.Str.ofString "super", .globalImplicit)], isGenerator := false, isCoroutine := false, more := [] }
/-- what the written part says of the class (at C) and of its __init__ (at fI; its cell at cc, its code at cda) -/
structure ErrTxt (P : Program) (K : Frag) (mg : Str → Option Value) (cn f : Str) (C fI cc cda : Addr) (qual : Str) : Prop where
  gC : mg cn = some (.ref C)
  noS : mg "super" = none
  cls : ∃ nm q N bs bm sn sub ab col dd k0 k1 k2 k3 k5, K.lookup C = some (excClassObj nm q C N bs bm true sn sub ab col dd k0 k1 k2 k3 k5 "ValueError.__new__") ∧ refsVE bm = true ∧ alongIn K "__init__" bm = some (some (.builtin "ValueError.__init__"))
  sa : findIn K (.ref C) "__setattr__" = some (some (.builtin "object.__setattr__"))
  ga : findIn K (.ref C) "__getattribute__" = some (some (.builtin "BaseException.__getattribute__"))
  gg : findIn K (.ref C) "__getattr__" = some none
  noN : findIn K (.ref C) f = some none
  iC : findIn K (.ref C) "__init__" = some (some (.ref fI))
  tC : typeIn K (.ref fI) = some (.type "function")
  kC : keepIn K (.ref C) = true
  exC : subIn K (.ref C) (.type "BaseException") = some true
  veC : subIn K (.ref C) (.type "ValueError") = some true
  tyC : typeIn K (.ref C) = some (.type "type")
  hdC : hasDictIn K C = true
  te : exmOne K (.ref C) (.ref C) = some true
  nop : nsIn K cStatics "thirdparty.any" = some none
  top : (P.main.scope.names.lookup ("super" : Str)).isSome = false
  fn : ∃ (oc : Value) (od : Option Addr) (doc pm : Value) (an : Option Addr) (ct : Value) (osl : Array (Option Value)) (p1 p2 a1 a2 a3 a4 a5 a6 q1 q2 q3 q4 : Pos),
    K.lookup fI = some ⟨oc, od, .func (ksFn "__init__" qual (eA f p1 p2) (eB f a1 a2 a3 a4 a5 a6 q1 q2 q3 q4) (eS f) .none .none doc pm an (.ref cda) ct cc), osl⟩ ∧ codeIn K (.ref cda) qual = true ∧
      (∀ L : Addr, ∃ pl : Sem Bool, eval (.Call (.Attribute (.Call (.Name "super" a1) [] [] a2) "__init__" a3) [.Name f a4] [] a5) (ksEnv qual (eS f) L fI (.ref cda) cc) = (do
        let ov ← attributeBase (.Call (.Name "super" a1) [] [] a2) "__init__" (ksEnv qual (eS f) L fI (.ref cda) cc) (eval (.Call (.Name "super" a1) [] [] a2) (ksEnv qual (eS f) L fI (.ref cda) cc))
        standAt a3.atName
        let (fv, first) ← holding [ov] (getMethod ov "__init__" pl)
        callWith a5 fv first (backTo a5 (starEach [.Name f a4] (ksEnv qual (eS f) L fI (.ref cda) cc))) [])) ∧
      (∀ L : Addr, swapsWith (.Call (.Attribute (.Call (.Name "super" a1) [] [] a2) "__init__" a3) [.Name f a4] [] a5) none a6.line (ksEnv qual (eS f) L fI (.ref cda) cc) = pure false) ∧
      (∀ L : Addr, swapsWith (.Name f q3) (some (.Attribute (.Name "self" q1) f q2)) q4.line (ksEnv qual (eS f) L fI (.ref cda) cc) = pure false)
  code : ∃ (ccl : Value) (cdd : Option Addr) (vs : Array Value) (ccs : Array (Option Value)) (file : Str) (tf : Tok), K.lookup cda = some ⟨ccl, cdd, .fields vs, ccs⟩ ∧ vs[2]? = some (.str file tf) ∧ ((P.main.file : Str) == file) = true
  cell : ∃ (cl : Value) (cld : Option Addr) (csl : Array (Option Value)), K.lookup cc = some ⟨cl, cld, .cell (some (.ref C)), csl⟩
/-- what __init__ leaves of a fresh exception at x -/
structure Left (h h' : Heap) (f : Str) (x C dx t1 : Addr) (v : Value) : Prop where
  keep : ∀ b o, b ≠ x → h.get? b = some o → h'.get? b = some o
  obj : h'.get? x = some { cls := .ref C, dict := some dx, data := .fields #[.ref t1, .none, .none, .none, .bool false, .none] }
  dbig : h.objs.size ≤ dx
  dne : dx ≠ x
  ns : h'.Ns1 dx (fun y => if y = f then some v else none)
/-- the exception that was made -/
structure Made (h h' : Heap) (f : Str) (e C d : Addr) (v : Value) : Prop where
  keep : ∀ b o, h.get? b = some o → h'.get? b = some o
  new : h.objs.size ≤ e
  obj : ∃ oe vs, h'.get? e = some oe ∧ oe.cls = .ref C ∧ oe.dict = some d ∧ oe.data = .fields vs ∧ vs[1]? = some .none
  dbig : h.objs.size ≤ d
  dne : d ≠ e
  ns : h'.Ns1 d (fun y => if y = f then some v else none)
section
variable {prog : Program} {w : World} {A : Around} {E : Value → Shared → Prop} {R : Result → Shared → Prop} {s : Shared} {K : Frag} {mg mb : Str → Option Value} {C fI cc cda x t0 : Addr} {cn f qual : Str} {v : Value}
/-- ValueError.__init__ bound to x, called -/
theorem call_wrap {h : Heap} {g : Array GenState} {d : Drawn} {t : Nat} {os : OsState} {u e t0 : Addr} {rest : List Value} {Q : Value → Shared → Prop} {nm q : Str} {N : Addr} {bs bm : List Value} {hdct : Bool} {sn : List Str} {sub : List Value} {ab : Bool} {col : Option Bool} {dd : Option Addr} {k0 k1 k2 k3 k5 : Option Value}
    (hC : h.get? C = some (excClassObj nm q C N bs bm hdct sn sub ab col dd k0 k1 k2 k3 k5 "ValueError.__new__")) (he : h.get? e = some (excO C t0)) (hu : h.get? u = some (kxs_mw "ValueError.__init__" e)) (hrest : rest.length ≤ sizeLine)
    (hq : ∀ h' t1, (∀ b o, b ≠ e → h.get? b = some o → h'.get? b = some o) → h'.get? e = some (excO C t1) → Q .none ⟨h', g, d, t, os⟩) :
    wpAny (model prog w) A (call (.ref u) rest) Q E ⟨h, g, d, t, os⟩ := by
  refine wpAny_call (codeAny_of_tree ?_)
  show wpAny _ A.in1 (callAny (.ref u) ⟨rest, []⟩) _ _ _
  simp only [callAny]
  refine wpAny_bind (wpAny_load hu ?_)
  simp only [kxs_mw, show (Value.type "method-wrapper" == Value.type "method" || Value.type "method-wrapper" == Value.type "builtin_function_or_method" || Value.type "method-wrapper" == Value.type "method-wrapper") = true by decide, if_true]
  refine KFB.if_so (by decide) ?_
  refine wpAny_bind (ESX.check_bound F.excBase_ValueError hC he rfl ?_)
  refine wpAny_bind (wpAny_pure (wpAny_pure ?_))
  refine ⟨Code.quiet_builtin _ (by decide +kernel), codeAny_builtin F.excBase_ValueError.initEntry ?_⟩
  rw [Around.under_plainId F.excBase_ValueError.init.plain _]
  wp_walk
  refine hq _ h.objs.size (fun b o hb ho => ?_) ?_
  · rw [Heap.get?_update_other _ _ (Ne.symm hb)]
    exact Heap.get?_push_of_some _ ho
  · rw [Heap.get?_update_self _ (Heap.get?_push_of_some _ he) rfl]
    rfl
theorem ld_loc {M : Model} {s : Shared} {name : Str} {scope : Scope} {L a : Addr} {cd : Value} {cc : Addr} {m : Str → Option Value} {x : Str} {pos : Pos} {v : Value} {Q : Value → Shared → Prop} {A : Around} {E : Value → Shared → Prop} (hn : s.heap.Ns L m) (hv : m x = some v) (h : Q v s)
    (hk : scope.kind = .function) (hl : scope.names.lookup x = some .local) (hd : (x == ("__debug__" : Str)) = false) :
    wpAny M A (eval (.Name x pos) (ksEnv name scope L a cd cc)) Q E s := wpAny_Name (wpAny_loadName_local hk hl hn hv h) hd
structure FldOk (f : Str) : Prop where
  self : (f == ("self" : Str)) = false
  dbg : (f == ("__debug__" : Str)) = false
  l1 : (eS f).names.lookup ("self" : Str) = some .local
  l2 : (eS f).names.lookup f = some .local
  l3 : (eS f).names.lookup ("__class__" : Str) = some .free
  l4 : (eS f).names.lookup ("super" : Str) = some .globalImplicit
  cells : ∀ x ∈ (eS f).names, x.2 ≠ .cell
  bind : ∀ (qual : Str) (body : List Stmt) (doc pm : Value) (an : Option Addr) (cdv ct : Value) (cc : Addr) (p1 p2 : Pos) (x v : Value), bindArgs (ksFn "__init__" qual (eA f p1 p2) body (eS f) .none .none doc pm an cdv ct cc) ⟨[x, v], []⟩ = pure [(PySem.Str.ofString "self", x), (f, v)]
theorem fld_name : FldOk "name" := ⟨by decide, by decide, by rfl, by rfl, by rfl, by rfl, by decide, fun _ _ _ _ _ _ _ _ _ _ _ _ => by with_unfolding_all rfl⟩
theorem fld_limit : FldOk "limit" := ⟨by decide, by decide, by rfl, by rfl, by rfl, by rfl, by decide, fun _ _ _ _ _ _ _ _ _ _ _ _ => by with_unfolding_all rfl⟩
theorem err_init (T : ErrTxt prog K mg cn f C fI cc cda qual) (O : FldOk f) (X : K.In s.heap) (hg : s.heap.Ns mainGlobals mg) (hb : s.heap.Ns builtinsNs mb) (hsu : mb "super" = some (.type "super")) (hlim : s.heap.NoLimit) (hx : s.heap.get? x = some (excO C t0)) (hnx : K.lookup x = none) (hroom : A.depth < recursionLimit)
    (hq : ∀ h' tk dx t1, Left s.heap h' f x C dx t1 v → R (.ok (.ret .none)) { s with heap := h', toks := tk }) :
    codeAny (model prog w) A (.call (.ref fI) ⟨[.ref x, v], []⟩) R s := by
  obtain ⟨oc, od, doc, pm, an, ct, osl, p1, p2, a1, a2, a3, a4, a5, a6, q1, q2, q3, q4, ho, hcd, ev, sw1, sw2⟩ := T.fn
  obtain ⟨nm, q, N, bs, bm, sn, sub, ab, col, dd, k0, k1, k2, k3, k5, hC, hbm, hal⟩ := T.cls
  obtain ⟨ccl, cdd, vs, ccs, file, tf, hcode, hvs, hfile⟩ := T.code
  obtain ⟨cl, cld, csl, hcell⟩ := T.cell
  have hcl : clsIn K C = some { name := nm, bases := bs, mro := .ref C :: bm, ns := N, qualname := q, hasDict := true, slotNames := sn, subclasses := sub, abstract := ab, collection := col, hasDel := false } := by unfold clsIn; rw [hC] <;> rfl
  refine ks_codeAny_call_defAt (binds := [("self", .ref x), (f, v)]) hroom (X _ _ ho) rfl hlim (codeRec_of X hcd) rfl (BindsTo.of_eq (O.bind _ _ _ _ _ _ _ _ _ _ _ _)) O.cells ?_ (fun h₁ hns k => ?_) rfl rfl rfl
  · intro y hy
    rcases List.mem_cons.mp hy with rfl | hy
    · exact O.l1
    · rcases List.mem_cons.mp hy with rfl | hy
      · exact O.l2
      · cases hy
  have hse : ∀ y, [(("self" : Str), Value.ref x), (f, v)].reverse.lookup y = if y = f then some v else if y = "self" then some (.ref x) else none := fun y => by
    show List.lookup y [(f, v), ("self", .ref x)] = _
    rw [List.lookup_cons]
    by_cases e : y = f
    · rw [if_pos e, show (y == f) = true by rw [e]; simp]
    · rw [if_neg e, show (y == f) = false by simp [e], List.lookup_cons]
      by_cases e2 : y = "self"
      · rw [if_pos e2, show (y == ("self" : Str)) = true by rw [e2]; simp]
      · rw [if_neg e2, show (y == ("self" : Str)) = false by simp [e2]] <;> rfl
  have vself : [(("self" : Str), Value.ref x), (f, v)].reverse.lookup ("self" : Str) = some (.ref x) := by
    rw [hse, if_neg (fun z => by have := O.self; rw [← z] at this; exact absurd this (by decide)), if_pos rfl]
  have vf : [(("self" : Str), Value.ref x), (f, v)].reverse.lookup f = some v := by rw [hse, if_pos rfl]
  have hxL : s.heap.objs.size ≠ x := Nat.ne_of_gt (Heap.lt_size hx)
  have X₁ : K.In h₁ := X.keeps k
  have hx₁ := k _ _ hx
  have hC₁ := X₁ _ _ hC
  have hxC : x ≠ C := fun z => by rw [z, hC] at hnx; cases hnx
  have I₁ : InstAt h₁ x (excO C t0) C none := ⟨hx₁, rfl, rfl, trivial⟩
  show _root_.PySem.wpAt (model prog w) (A.deeper (ksEnv qual (eS f) s.heap.objs.size fI (.ref cda) cc)) (.func _ (ksEnv qual (eS f) s.heap.objs.size fI (.ref cda) cc)) (execs _ (ksEnv qual (eS f) s.heap.objs.size fI (.ref cda) cc)) _ _ _
  obtain ⟨pl, hev⟩ := ev s.heap.objs.size
  refine ks_wpAt_execs_cons (ks_wpAt_Expr_any (ks_wpAt_MethodCall (pl := pl) ?_ hev) rfl (sw1 _))
  · -- super()
    refine ks_wpAt_super_base (ar := { arg := "self", annotation := none, pos := p1 }) O.l4 O.l3 rfl rfl (X₁ _ _ ho) rfl rfl rfl (X₁ _ _ hcode) rfl hvs hfile T.top ?_
    refine ks_loadName_global rfl O.l4 (loadGlobal_builtin (mg := mg) (mb := mb) (hg.keeps k) T.noS (hb.keeps k) hsu ⟨rfl, ?_⟩)
    refine wpAny_loadName_free rfl O.l3 rfl ⟨_, X₁ _ _ hcell, rfl⟩ ?_
    refine wpAny_loadName_local rfl O.l1 hns vself ?_
    refine ks_wpAny_isType_cls hC₁ rfl ⟨rfl, ?_⟩
    refine ks_wpAny_call_super hC₁ rfl hx₁ rfl (fun c z => nomatch z) (looks_mroIn X₁ (by unfold mroIn; rw [hcl]; simp)) (fun h₂ hso k₂ => ?_)
    have X₂ : K.In h₂ := X₁.keeps k₂
    have I₂ : InstAt h₂ x (excO C t0) C none := ⟨k₂ _ _ hx₁, rfl, rfl, trivial⟩
    have hn₂ := hns.at (fun o e => k₂ _ o e)
    refine kxs_getMethod kxs_ValueError hso (looks_opaque X₂ T.nop) ((looks_clsIn X₂ hcl).andThen .now) (ESX.drop_own C bm) X₂ hal (I₂.type.andThen (looks_subIn X₂ T.veC)) hxC rfl ?_
    have k₃ : ∀ b o, h₂.get? b = some o → (h₂.push (kxs_mw "ValueError.__init__" x)).get? b = some o := fun b o e => Heap.get?_push_of_some _ e
    have hu : (h₂.push (kxs_mw "ValueError.__init__" x)).get? h₂.objs.size = some (kxs_mw "ValueError.__init__" x) := Heap.get?_push_at rfl rfl
    have hn₃ := hn₂.at (fun o e => k₃ _ o e)
    refine kxs_callWith (i := "ValueError.__init__") (x := x) rfl (evalArgs_plain (args_cons (ld_loc hn₃ vf (args_nil ⟨hu, ?_⟩) rfl O.l2 O.dbg) rfl))
    refine call_wrap (k₃ _ _ (k₂ _ _ hC₁)) (k₃ _ _ (k₂ _ _ hx₁)) hu (by show 1 ≤ sizeLine; decide) fun h₄ t1 k₄ hx₄ => ?_
    have ku : ∀ b o, b ≠ x → h₁.get? b = some o → h₄.get? b = some o := fun b o hb e => k₄ b o hb (k₃ b o (k₂ b o e))
    have hn₄ := hns.at (fun o e => ku _ o hxL e)
    have X₄ : K.In h₄ := fun a o e => ku a o (fun z => by rw [z, hnx] at e; cases e) (X₁ a o e)
    refine wpAt_of_wpAny ?_
    refine wpAny_execs_cons (plainObj_wpAny_Assign_Attribute ?_ (sw2 _))
    refine ld_loc hn₄ vf (ld_loc hn₄ vself ?_ rfl O.l1 (by decide)) rfl O.l2 O.dbg
    refine set_plain X₄ (ox := excO C t1) (od := none) ⟨hx₄, rfl, rfl, trivial⟩ T.sa ?_
    refine exc_osa X₄ hx₄ hcl (show refsVE (.ref C :: bm) = true from hbm) rfl T.noN fun h₅ tk₅ dx k₅ dn dne hx₅ hn₅ => ?_
    have z : s.heap.objs.size < h₄.objs.size := hn₄.lt
    exact wpAny_execs_nil (hq h₅ tk₅ dx t1 ⟨fun b o hb e => k₅ b o hb (ku b o hb (k b o e)), hx₅, Nat.le_of_lt (Nat.lt_of_lt_of_le z dn), dne, hn₅⟩)
end
end DX

end

section
set_option Elab.async false
set_option linter.all false
set_option maxRecDepth 100000
set_option maxHeartbeats 2000000
namespace DX
open PySem PySem.W PySem.Calls PyProof.Rows PySem.HandSPX
section
variable {prog : Program} {w : World} {A : Around} {R : Result → Shared → Prop} {s : Shared} {K : Frag} {mg mb : Str → Option Value} {C fI cc cda : Addr} {cn f qual : Str} {v : Value}
theorem err_made (T : ErrTxt prog K mg cn f C fI cc cda qual) (O : FldOk f) (X : K.In s.heap) (hg : s.heap.Ns mainGlobals mg) (hb : s.heap.Ns builtinsNs mb) (hsu : mb "super" = some (.type "super")) (hlim : s.heap.NoLimit) (hroom : A.depth + 1 < recursionLimit)
    (hq : ∀ h' tk e d, Made s.heap h' f e C d v → R (.ok (.ret (.ref e))) { s with heap := h', toks := tk }) :
    codeAny (model prog w) A (.call (.ref C) ⟨[v], []⟩) R s := by
  obtain ⟨nm, q, N, bs, bm, sn, sub, ab, col, dd, k0, k1, k2, k3, k5, hC, hbm, hal⟩ := T.cls
  obtain ⟨hp, g, dr, tk, os⟩ := s
  have k : ∀ b o, hp.get? b = some o → ((hp.push (kdv_tup [v])).push (excO C hp.objs.size)).get? b = some o := fun b o e => Heap.get?_push_of_some _ (Heap.get?_push_of_some _ e)
  have hget : ((hp.push (kdv_tup [v])).push (excO C hp.objs.size)).get? (hp.objs.size + 1) = some (excO C hp.objs.size) := by heap_get
  have hnx : K.lookup (hp.objs.size + 1) = none := by
    cases e : K.lookup (hp.objs.size + 1) with
    | none => rfl
    | some o => exact absurd (Nat.lt_of_succ_lt (Heap.lt_size (X _ _ e))) (Nat.lt_irrefl _)
  refine call_own F.excBase_ValueError (fun X => refsVE_contains X bm hbm) (X _ _ hC) (looks_findIn X T.iC) (fun self => bind_fn X self T.tC) (by show 1 ≤ sizeLine; decide) ?_
  refine err_init (s := ⟨(hp.push (kdv_tup [v])).push (excO C hp.objs.size), g, dr, tk, os⟩) T O (X.keeps k) (hg.keeps k) (hb.keeps k) hsu (hlim.keeps k) hget hnx ?_ fun h' tk' dx t1 L => ?_
  · show A.depth + 1 < recursionLimit
    exact hroom
  · have z : hp.objs.size + 1 + 1 ≤ dx := by
      have q := L.dbig
      rw [Heap.size_push, Heap.size_push] at q; exact q
    exact ⟨rfl, hq h' tk' (hp.objs.size + 1) dx ⟨fun b o e => L.keep b o (Nat.ne_of_lt (Nat.lt_succ_of_lt (Heap.lt_size e))) (k b o e), Nat.le_succ _, ⟨_, _, L.obj, rfl, rfl, rfl, rfl⟩, Nat.le_trans (Nat.le_trans (Nat.le_succ _) (Nat.le_succ _)) z, L.dne, L.ns⟩⟩
end
end DX
namespace DL
open PySem PySem.Spec PyProof.Rows L2
theorem relO_fld {v : V} {v' : Value} (r : RelV v v') (g f : Str) : RelO (List.lookup f [(g, v)]) (if f = g then some v' else none) := by
  by_cases hw : f = g
  · subst hw
    rw [if_pos rfl, show List.lookup f [(f, v)] = some v by simp [List.lookup]]
    exact r
  · rw [if_neg hw, show List.lookup f [(g, v)] = none by rw [List.lookup_cons, show (f == g) = false by simp [hw]] <;> rfl]
    trivial
section
variable {X : Cx} {C fI cc cda : Addr} {cn f qual : Str}
theorem pmk_err {a : Expr} {ta : TA} {p pos : Pos} {k : Nat} (T : DX.ErrTxt X.prog X.K X.mg cn f C fI cc cda qual) (O : DX.FldOk f) (hr : Room k X.A) (ha : PA X [a] ta) (hg : Gl X cn := by rfl) (hdb : (cn == ("__debug__" : Str)) = false := by decide)
    (he : starEach (a :: []) X.env = (false, eval a X.env) :: starEach [] X.env := by rfl) (hpl : (backTo pos (starEach [] X.env)).any (·.1) = false := by rfl) :
    PMk X (.Call (.Name cn p) [a] [] pos) (tMkF C f ta) := by
  intro pins s σ H Q I h
  refine wpAny_Call_Name_kw (ld_glob I hg T.gC ?_ hdb)
  refine PySem.W.callWith_K (h₀ := X.base) I.ok.mod.kin T.kC (thn (ha.run pos pins s σ H _ I h) fun us s1 hh => ?_) he hpl
  obtain ⟨vs, H1, I1, r1, v, ev, q1⟩ := hh
  subst ev
  refine ⟨I1.kIn, ?_⟩
  obtain ⟨v', rfl, rv⟩ := vals1 r1
  show wpAny _ _ (call (.ref C) [v']) _ _ _
  have hlim := I1.nolimit
  obtain ⟨mb, hb1, hb2⟩ := I1.mod.blt
  have gg := I1.mod.glob.keeps I1.bk
  have gb := hb1.keeps I1.bk
  have hsu : mb "super" = some (.type "super") := (hb2 "super" (by decide)).trans (by kernel_rfl)
  obtain ⟨hp, g, dr, tk, os⟩ := s1
  refine wpAny_call (DX.err_made T O I1.kIn gg gb hsu hlim (by have := hr.dp; omega) fun h' tk' e d M => ?_)
  show MkP X pins σ Q (.ref e) ⟨h', g, dr, tk', os⟩
  obtain ⟨oe, fv, hoe, hc, hd, hdat, h1⟩ := M.obj
  have hns := M.ns
  obtain ⟨G', g1, g2⟩ := restrict h' fun b => decide (b ≠ e)
  have gk : ∀ b, b ≠ e → G'.get? b = h'.get? b := fun b hb => g1 b (decide_eq_true hb)
  have ge : G'.get? e = none := g2 e (by simp)
  have old : ∀ b o, hp.get? b = some o → G'.get? b = some o := fun b o q => (gk b (Nat.ne_of_lt (Nat.lt_of_lt_of_le (Heap.lt_size q) M.new))).trans (M.keep b o q)
  have ob : ObjOk X.prog X.w (upd H1 d (.xd [(f, v)])) G' d (.xd [(f, v)]) := ⟨_, hns.at (fun o q => (gk d M.dne).trans q), fun y => relO_fld rv f y⟩
  have J : Inv X pins σ (upd H1 d (.xd [(f, v)])) ⟨G', g, dr, tk', os⟩ := I1.laid (t' := tk') old M.dbig ob
  refine ⟨e, oe, fv, ⟨G', g, dr, tk', os⟩, _, .ref C, some d, rfl, J, fun b o q => ?_, ge, hoe, ⟨hc, hd⟩, hdat, h1, ?_, rfl, I1.bare, raises_own T.exC T.tyC, q1 d (I1.hok.fresh M.dbig)⟩
  · by_cases hb : b = e
    · have q' : G'.get? b = some o := q
      rw [hb, ge] at q'; cases q'
    · exact (gk b hb).symm.trans q
  · rw [upd_ne (Ne.symm M.dne)]
    exact I1.hok.fresh M.new
/-- x.f, x the exception that the suite holds (at a; its class cls, its dict d) -/
def tFld (C : Addr) (f : Str) (a : Addr) (cls : Value) (d : Option Addr) (te : TE) : TE := fun σ H Q => te σ H fun x H1 => x = .ref a ∧ cls = .ref C ∧ ∃ (dd : Addr) (v : V), d = some dd ∧ H1 dd = some (.xd [(f, v)]) ∧ Q v H1
theorem pe_fld {a : Addr} {oe : Obj} {cls : Value} {d : Option Addr} {pn : List (Addr × Obj)} {e : Expr} {te : TE} {pos : Pos} (T : DX.ErrTxt X.prog X.K X.mg cn f C fI cc cda qual) (hz : Zc cls d oe) (hf : ∃ vs, oe.data = .fields vs) (he : PE (X.suite a ((a, oe) :: pn)) e te)
    (hb : attributeBase e f X.env (eval e X.env) = eval e X.env := by rfl) :
    PE (X.suite a ((a, oe) :: pn)) (.Attribute e f pos) (tFld C f a cls d te) := by
  refine ⟨fun pins s σ H Q I h => ?_⟩
  refine attr_of hb (thn (he.run pins s σ H _ I h) fun u s1 hh => ?_)
  obtain ⟨x, H1, I1, rx, ex, ec, dd, v, ed, ea, q⟩ := hh
  subst ex
  obtain rfl : u = Value.ref a := rx
  subst ec
  subst ed
  obtain ⟨ha, _⟩ := I1.pin (a, oe) (List.mem_append_left _ List.mem_cons_self)
  obtain ⟨vs, hd⟩ := hf
  have hx : ObjOk X.prog X.w H1 s1.heap dd (.xd [(f, v)]) := I1.hok dd _ ea
  obtain ⟨mA, hns, hr⟩ := hx
  obtain ⟨od, ho, hl⟩ := lookIn_ns hns
  obtain ⟨u, hu, ru⟩ := RelO.some_of (v := v) (o := mA f) (by rw [← show List.lookup f [(f, v)] = some v by simp [List.lookup]]; exact hr f)
  have J : PySem.W.InstAt s1.heap a oe C (some od) := ⟨ha, hz.1, by unfold PySem.W.notCls; rw [hd] <;> rfl, by rw [hz.2]; exact ho⟩
  exact HandSPX.exc_get I1.kIn J T.ga T.gg T.exC (PySem.W.findObj_own T.hdC T.noN rfl (by rw [hl, hu])) (handed_of ru) ⟨v, H1, I1.tok _, ru, q⟩
end
end DL

end

section
set_option Elab.async false
set_option linter.all false
set_option maxRecDepth 100000
set_option maxHeartbeats 2000000
namespace DL
open PySem PySem.Spec PyProof.Rows L2 LamX
/-! ## the def that calls what it got: try: call() / except C as e: return e.f; return ret -/
def TTref (K : PySem.W.Frag) (C : Addr) (f ret : Str) : (XK → Hp → VK → Prop) → Hp → VK → Prop := fun tl H Q =>
  tl (fun cls d H' => ∃ b, PySem.W.exmOne K cls (.ref C) = some b ∧ (b = true → cls = .ref C ∧ ∃ dd v, d = some dd ∧ H' dd = some (.xd [(f, v)]) ∧ Q v H') ∧ (b = false → False)) H (fun _ H' => Q (.str ret) H')
theorem takes_len {X : Cx} {W : WX} (t : Takes X W) : Takes X (fun cls d σ H => σ.length = X.N.length → W cls d σ H) := fun u s' ⟨a, B, sI, pins, σ, H, cls, d, e, I, nb, up, sky, na, os, ag, w⟩ =>
  t u s' ⟨a, B, sI, pins, σ, H, cls, d, e, I, nb, up, sky, na, os, ag, w I.len⟩
theorem set_at {σ : L2.St} {i : Nat} {v : Option V} (h : i < σ.length) : (σ.set i v)[i]? = some v := by simp [h]
section
variable {X : Cx}
theorem ref_gives {Ng : List Str} {x a cn n f q ret qual : Str} {sg : Scope} {g C fI cc cda : Addr} {cdg : Value} {j : Nat} {p1 p2 p3 p4 p5 p6 p7 p8 p9 p10 p11 : Pos} (T : DX.ErrTxt X.prog X.K X.mg cn f C fI cc cda qual) (hge : sg.names.lookup cn = some .globalImplicit) (hde : (cn == ("__debug__" : Str)) = false) (h0 : ∀ f : Addr, (L2.start Ng [V.ref f])[0]? = some (some (V.ref f)))
    (hN : Ng.Nodup) (h1 : Ng[1]? = some n) (hl : sg.names.lookup n = some .local) (hlen : 1 < Ng.length) (hdn : (n == ("__debug__" : Str)) = false) (hcn : (n == ("__classdict__" : Str)) = false)
    (hsw : ∀ L : Addr, swapsWith (.Call (.Name a p1) [] [] p2) none p3.line (envOfC x sg L g cdg) = pure false)
    (hb : ∀ L : Addr, attributeBase (.Name n p6) f (envOfC x sg L g cdg) (eval (.Name n p6) (envOfC x sg L g cdg)) = eval (.Name n p6) (envOfC x sg L g cdg)) :
    GivesTo X Ng x sg g cdg [.Try [.Expr (.Call (.Name a p1) [] [] p2) p3] [.ExceptHandler (some (.Name cn p4)) (some n) [.Return (some (.Attribute (.Name n p6) f p7)) p5] p8] [] [] p9, .Return (some (.Constant (.str ret) j p10)) p11] a q (TTref X.K C f ret) := by
  intro fl c' s H Q tl act hc h
  have hgl : Gl (cxOf C8.CX0 X.prog X.w X.K X.mg X.base Ng x sg g cdg X.A X.stack s H C8.E0).nox cn := hge
  refine ⟨_, pss_cons (ps_try_as (X := (cxOf C8.CX0 X.prog X.w X.K X.mg X.base Ng x sg g cdg X.A X.stack s H C8.E0).nox) (c := .ref C) (i := 1) (n := n) (Wout := fun _ _ _ _ => False)
      (tb := fun W D σ H => ∃ Ech : XK, (∀ cls d σ' H', σ'.length = Ng.length → Ech cls d H' → W cls d σ' H') ∧ σ[0]? = some (some (.ref fl)) ∧ H c' = some (CodeO c' q) ∧ tl Ech H (fun _ H' => D.nx σ H'))
      (ts := fun a cls d => tRet (tFld C f a cls d (tVar 1)))
      rfl rfl hN h1 hl ⟨hgl, hde, .inl T.gC⟩ L2.takes0 (fun W pn xe tk _ => ?_) (fun a oe cls d pn hz hf => pss_one (ps_ret ?_))) (pss_one (ps_ret pe_str)), ?_⟩
  · refine ⟨fun pins s' σ H' D I h' => ?_⟩
    obtain ⟨Ech, hW, h1, h2, h3⟩ := h'
    exact (pss_one (ps_expr (pos := p3) (act _ pn xe Ech p1 p2 (takes_len tk) fun cls d σ' H' e hl => hW cls d σ' H' hl e) (hsw _))).run pins s' σ H' D I ⟨h1, h2, h3⟩
  · exact pe_fld (X := (cxOf C8.CX0 X.prog X.w X.K X.mg X.base Ng x sg g cdg X.A X.stack s H C8.E0).nox) T hz hf (pe_var h1 (.inl hl) hdn hcn) (hb _)
  · refine ⟨_, fun cls d σ' H' hl ⟨b, e1, e2, e3⟩ => ⟨b, e1, fun hb a ha => ?_, fun hb => e3 hb⟩, h0 fl, hc, h⟩
    obtain ⟨ec, dd, v, ed, ev, q⟩ := e2 hb
    exact ⟨.ref a, set_at (by rw [hl]; exact hlen), rfl, ec, dd, v, ed, ev, q⟩
/-! ## in data -/
def OneTab (Pt : Addr) (qn : Str) (G : GH) : Prop := G Pt = some (.tab qn) ∧ ∀ a q, G a = some (.tab q) → a = Pt ∧ q = qn
/-- x(lambda: ..): t tells the lambda's body -/
def dRef (Pt : Addr) (qn : Str) (C : Addr) (f ret : Str) (t : DXK → DE) : DE := fun ρ G Q => OneTab Pt qn G ∧ t (fun x G' => x.cls = C ∧ x.fld = f ∧ Q x.val G') ρ G (fun _ G' => Q (.str ret) G')
theorem OneTab.put {Pt : Addr} {qn : Str} {G : GH} {p : Addr} {ds es : List D} (h : OneTab Pt qn G) (e : G p = some (.lst ds)) : OneTab Pt qn (updG G p (.lst es)) := by
  have n : Pt ≠ p := fun z => by have := h.1; rw [z, e] at this; cases this
  refine ⟨by rw [updG_ne n]; exact h.1, fun a q z => ?_⟩
  by_cases w : a = p
  · subst w
    rw [updG_same] at z; cases z
  · rw [updG_ne w] at z
    exact h.2 a q z
theorem OneTab.new {Pt : Addr} {qn : Str} {G : GH} {p : Addr} {es : List D} (h : OneTab Pt qn G) (e : G p = none) : OneTab Pt qn (updG G p (.lst es)) := by
  have n : Pt ≠ p := fun z => by have := h.1; rw [z, e] at this; cases this
  refine ⟨by rw [updG_ne n]; exact h.1, fun a q z => ?_⟩
  by_cases w : a = p
  · subst w
    rw [updG_same] at z; cases z
  · rw [updG_ne w] at z
    exact h.2 a q z
variable {c : DC}
theorem tab_step {K : PySem.W.Frag} {P : Addr → Prop} {G : GH} {H H1 : Hp} {Pt : Addr} {qn : Str} (r : Rl K P G H) (o : OneTab Pt qn G) (e : ExtN H H1) (t : Tabs [(Pt, qn)] H1) : Step G H G H1 ∧ Rl K P G H1 := by
  have nt : ∀ {u : HO}, ¬ Tbl u → ∀ ps, u ≠ .tbl ps := fun h ps z => by subst z; exact h trivial
  have st : Step G H G H1 := fun a u h n g => ⟨e a u h (nt n), g⟩
  refine ⟨st, fun a g z => ?_, fun a z => ?_⟩
  · have q := r.h a g z
    cases g with
    | lst ds => obtain ⟨xs, e1, t1⟩ := q; exact ⟨xs, e a _ e1 (nt id), t1.mono r st⟩
    | ins C fs => obtain ⟨dx, gs, e1, t1⟩ := q; exact ⟨dx, gs, e a _ e1 (nt id), t1.mono r st⟩
    | tab q' =>
      obtain ⟨rfl, rfl⟩ := o.2 a q' z
      exact t (a, q') (by simp)
  · obtain ⟨g, xs, e1⟩ := r.p a z
    exact ⟨g, xs, e a _ e1 (nt id)⟩
theorem d_ref {Pt C fI cc cda : Addr} {cn f ret qual : Str} (T : DX.ErrTxt X.prog X.K X.mg cn f C fI cc cda qual) {x a : Str} {g ca : Addr} {k : Nat} {pg : Arguments} {bg : List Stmt} {sg : Scope} {dV kV doc pm cdv ct oc : Value} {an od : Option Addr} {osl : Array (Option Value)} {Ng : List Str}
    {params : Arguments} {body : Expr} {scope : Scope} {t : DXK → DE} {p lpos pos : Pos} (hg : Gl X x) (hm : X.mg x = some (.ref g)) (hk : PySem.W.keepIn X.K (.ref g) = true)
    (lk : X.K.lookup g = some ⟨oc, od, .func (PySem.W.fnOf x x pg bg sg dV kV doc pm an cdv ct), osl⟩) (hcg : PySem.W.codeIn X.K cdv x = true) (hb : L2.Binds X.K (PySem.W.fnOf x x pg bg sg dV kV doc pm an cdv ct) [a] []) (Sg : FnScope Ng [a] sg) (hNg : Ng[0]? = some a) (hva : Vis sg a)
    (hG : GivesTo X Ng x sg g cdv bg a (X.env.qual ++ "<lambda>") (TTref X.K C f ret))
    (TB : TabB X.base X.mg ca Pt) (hcode : X.env.code = .ref ca) (hr : Room (k + 2) X.A) (L : LamS X.env.scope scope) (hdef : defaultsOf params X.env = ([], []))
    (hbind : ∀ (q : Str) (cl : List (Str × Addr)) (pm cv ctv : Value), bindArgs (PySem.W.kla_fn "<lambda>" q params body scope cl pm cv ctv) ⟨[], []⟩ = pure [])
    (hbody : ∀ (A : Around) (outer : List Env) (s : Shared) (H : Hp) (E : XK) (f c' : Addr) (c : DC) (Ex : DXK), Room k (A.deeper (lamEnv X scope s.heap.objs.size f c')) → XOk (lamCx X A outer s H E scope f c') c Ex → PE (lamCx X A outer s H E scope f c') body (lE X.K c (t Ex)))
    (hdb : (x == ("__debug__" : Str)) = false := by decide) (hd : (a == ("__debug__" : Str)) = false := by decide) (hcd : (a == ("__classdict__" : Str)) = false := by decide) :
    PE X (.Call (.Name x p) [.Lambda params body scope lpos] [] pos) (lE X.K c (dRef Pt (X.env.qual ++ "<lambda>") C f ret t)) := by
  refine PE_imp (pe_lamcall (T := [(Pt, X.env.qual ++ "<lambda>")]) (t := fun E σ H Q => ∃ (c : DC) (Ex : DXK), (∀ x G H cls d, Ex x G → Step c.G0 c.H0 G H → Rl X.K c.P G H → RelX X.K c.P G H cls d x → E cls d H) ∧ lE X.K c (t Ex) σ H Q) hg hm hk lk hcg hb Sg hNg hva hG TB hcode (by simp) (fun p hp _ => by
    simp only [List.mem_singleton] at hp
    rw [hp]) hr L hdef hbind (fun A outer s H E f c' hr2 => ?_) hdb hd hcd) ?_
  · refine ⟨fun pins s' σ H' Q I ⟨c, Ex, h1, h2⟩ => ?_⟩
    exact (hbody A outer s H E f c' c Ex hr2 ⟨fun cls d _ H => E cls d H, takes_of rfl rfl rfl rfl, fun x G H cls d σ q s r p => h1 x G H cls d q s r p⟩).run pins s' σ H' Q I h2
  · rintro σ H Q ⟨ρ, G, QD, u, ⟨o, h⟩, kk⟩
    refine ⟨fun p hp => ?_, fun H1 eN T1 => ?_⟩
    · simp only [List.mem_singleton] at hp
      rw [hp]
      exact u.rl.h Pt _ o.1
    · obtain ⟨s1, r1⟩ := tab_step u.rl o eN T1
      refine ⟨⟨c.P, G, H1⟩, _, fun x G' H' cls d q s2 r2 p2 => ?_, ρ, G, _, ⟨r1, Step.refl _ _, u.env.mono u.rl s1⟩, h, fun d G' v H' q s2 r2 p2 => kk _ _ _ _ q (s1.trans s2) r2 (.str _)⟩
      obtain ⟨e1, e2, q⟩ := q
      obtain ⟨ec, dd, v, ed, ev, pv⟩ := p2
      rw [e1] at ec
      rw [e2] at ev
      refine ⟨true, by rw [ec]; exact T.te, fun _ => ⟨ec, dd, v, ed, ev, kk _ _ _ _ q (s1.trans s2) r2 pv⟩, fun z => nomatch z⟩
end
end DL

end

section
set_option Elab.async false
set_option linter.all false
set_option maxRecDepth 100000
set_option maxHeartbeats 1000000
namespace DL
open PySem PySem.Spec PyProof.Rows L2

/-! ## short forms -/
/-- these are the built-in ones -/
structure Blt (mg : Str → Option Value) : Prop where
  len : mg "len" = none
  int : mg "int" = none
  bool : mg "bool" = none
  str : mg "str" = none
  tuple : mg "tuple" = none
  list : mg "list" = none
  dict : mg "dict" = none
  min : mg "min" = none
  isinstance : mg "isinstance" = none
  all : mg "all" = none
  any : mg "any" = none
  range : mg "range" = none
  zip : mg "zip" = none
  enumerate : mg "enumerate" = none
  sorted : mg "sorted" = none
def dF1 (f : D → GH → DK → Prop) (te : DE) : DE := fun ρ G Q => te ρ G fun d G1 => f d G1 Q
def dF2 (f : D → D → GH → DK → Prop) (ta tb : DE) : DE := fun ρ G Q => ta ρ G fun d G1 => tb ρ G1 fun e G2 => f d e G2 Q
def isa1 (b : String) : D → GH → DK → Prop := fun d G Q => isaF d (.ty b) G Q
theorem isa1_of {b a : String} {d : D} {G : GH} {Q : DK} (e : tyD G d = some a) (q : Q (.bl (isK a b)) G) (hb : b ∈ ["int", "bool", "str", "tuple", "list", "dict"] := by decide) : isa1 b d G Q := by
  unfold isa1 isaF
  simp only [e]
  exact ⟨hb, q⟩
section
variable {X : Cx} {c : DC} {e e2 tg : Expr} {te te2 : DE} {p p2 pos : Pos}
theorem f1_imp {f : D → GH → DK → Prop} (h : PE X e (lE X.K c (dCB (on1 f) (dCons te dNil)))) : PE X e (lE X.K c (dF1 f te)) := h
theorem dl_len (B : Blt X.mg) (he : PE X e (lE X.K c te)) (hg : Gl X "len" := by rfl) (hs : starEach [e] X.env = (false, eval e X.env) :: starEach [] X.env := by rfl) (hpl : (backTo pos (starEach [] X.env)).any (·.1) = false := by rfl) : PE X (.Call (.Name "len" p) [e] [] pos) (lE X.K c (dF1 lenF te)) :=
  d_callB cd_len hg B.len boot_len (da_cons he da_nil hs) (he := hs) (hpl := hpl)
theorem dl_all (B : Blt X.mg) (hc : X.calm = true) (he : PE X e (lE X.K c te)) (hg : Gl X "all" := by rfl) (hs : starEach [e] X.env = (false, eval e X.env) :: starEach [] X.env := by rfl) (hpl : (backTo pos (starEach [] X.env)).any (·.1) = false := by rfl) : PE X (.Call (.Name "all" p) [e] [] pos) (lE X.K c (dF1 allF te)) :=
  d_callB (cd_all hc) hg B.all (by decide +kernel) (da_cons he da_nil hs) (he := hs) (hpl := hpl)
theorem dl_any (B : Blt X.mg) (hc : X.calm = true) (he : PE X e (lE X.K c te)) (hg : Gl X "any" := by rfl) (hs : starEach [e] X.env = (false, eval e X.env) :: starEach [] X.env := by rfl) (hpl : (backTo pos (starEach [] X.env)).any (·.1) = false := by rfl) : PE X (.Call (.Name "any" p) [e] [] pos) (lE X.K c (dF1 anyF te)) :=
  d_callB (cd_any hc) hg B.any (by decide +kernel) (da_cons he da_nil hs) (he := hs) (hpl := hpl)
theorem dl_sorted (B : Blt X.mg) (hu : X.A.units + 64 < cLine) (he : PE X e (lE X.K c te)) (hg : Gl X "sorted" := by rfl) (hs : starEach [e] X.env = (false, eval e X.env) :: starEach [] X.env := by rfl) (hpl : (backTo pos (starEach [] X.env)).any (·.1) = false := by rfl) : PE X (.Call (.Name "sorted" p) [e] [] pos) (lE X.K c (dF1 (sortF false) te)) :=
  d_callB (cd_sorted hu) hg B.sorted boot_sorted (da_cons he da_nil hs) (he := hs) (hpl := hpl)
theorem dl_int (B : Blt X.mg) (he : PE X e (lE X.K c te)) (hg : Gl X "int" := by rfl) (hs : starEach [e] X.env = (false, eval e X.env) :: starEach [] X.env := by rfl) (hpl : (backTo pos (starEach [] X.env)).any (·.1) = false := by rfl) : PE X (.Call (.Name "int" p) [e] [] pos) (lE X.K c (dF1 intF te)) :=
  d_callTy cd_int hg B.int boot_int (da_cons he da_nil hs) (he := hs) (hpl := hpl)
theorem dl_list (B : Blt X.mg) (he : PE X e (lE X.K c te)) (hg : Gl X "list" := by rfl) (hs : starEach [e] X.env = (false, eval e X.env) :: starEach [] X.env := by rfl) (hpl : (backTo pos (starEach [] X.env)).any (·.1) = false := by rfl) : PE X (.Call (.Name "list" p) [e] [] pos) (lE X.K c (dF1 listF te)) :=
  d_callTy cd_list hg B.list boot_list (da_cons he da_nil hs) (he := hs) (hpl := hpl)
theorem dl_listM (B : Blt X.mg) (he : PE X e (lE X.K c te)) (hg : Gl X "list" := by rfl) (hs : starEach [e] X.env = (false, eval e X.env) :: starEach [] X.env := by rfl) (hpl : (backTo pos (starEach [] X.env)).any (·.1) = false := by rfl) : PE X (.Call (.Name "list" p) [e] [] pos) (lE X.K c (dF1 listMF te)) :=
  d_callTy cd_listM hg B.list boot_list (da_cons he da_nil hs) (he := hs) (hpl := hpl)
theorem dl_tuple (B : Blt X.mg) (he : PE X e (lE X.K c te)) (hg : Gl X "tuple" := by rfl) (hs : starEach [e] X.env = (false, eval e X.env) :: starEach [] X.env := by rfl) (hpl : (backTo pos (starEach [] X.env)).any (·.1) = false := by rfl) : PE X (.Call (.Name "tuple" p) [e] [] pos) (lE X.K c (dF1 tupF te)) :=
  d_callTy cd_tup hg B.tuple boot_tuple (da_cons he da_nil hs) (he := hs) (hpl := hpl)
theorem dl_min2 (B : Blt X.mg) (hc : X.calm = true) (he : PE X e (lE X.K c te)) (he2 : PE X e2 (lE X.K c te2)) (hg : Gl X "min" := by rfl) (hs : starEach [e, e2] X.env = (false, eval e X.env) :: starEach [e2] X.env := by rfl) (hs2 : starEach [e2] X.env = (false, eval e2 X.env) :: starEach [] X.env := by rfl) (hpl : (backTo pos (starEach [e2] X.env)).any (·.1) = false := by rfl) :
    PE X (.Call (.Name "min" p) [e, e2] [] pos) (lE X.K c (dF2 minF te te2)) :=
  d_callB (cd_min2 hc) hg B.min (by decide +kernel) (da_cons he (da_cons he2 da_nil hs2) hs) (he := hs) (hpl := hpl)
/-- isinstance(e, T), T a built-in class -/
theorem dl_isa {x : Str} {b : String} (B : Blt X.mg) (hx : X.mg x = none) (hb : bootBuiltins x = some (.type b)) (he : PE X e (lE X.K c te)) (hg : Gl X "isinstance" := by rfl) (hgx : Gl X x := by rfl) (hn : x ≠ "__name__" := by decide) (hd : (x == ("__debug__" : Str)) = false := by decide)
    (hs : starEach [e, .Name x p2] X.env = (false, eval e X.env) :: starEach [.Name x p2] X.env := by rfl) (hs2 : starEach [.Name x p2] X.env = (false, eval (.Name x p2) X.env) :: starEach [] X.env := by rfl) (hpl : (backTo pos (starEach [.Name x p2] X.env)).any (·.1) = false := by rfl) :
    PE X (.Call (.Name "isinstance" p) [e, .Name x p2] [] pos) (lE X.K c (dF1 (isa1 b) te)) :=
  d_callB cd_isa hg B.isinstance boot_isinstance (da_cons he (da_cons (d_gty hx hb hgx hn hd) da_nil hs2) hs) (he := hs) (hpl := hpl)
theorem d_int2 (B : Blt X.mg) (he : PE X e (lE X.K c te)) (hg : Gl X "isinstance" := by rfl) (hgx : Gl X "int" := by rfl) (hs : starEach [e, .Name "int" p2] X.env = (false, eval e X.env) :: starEach [.Name "int" p2] X.env := by rfl) (hs2 : starEach [.Name "int" p2] X.env = (false, eval (.Name "int" p2) X.env) :: starEach [] X.env := by rfl) (hpl : (backTo pos (starEach [.Name "int" p2] X.env)).any (·.1) = false := by rfl) :
    PE X (.Call (.Name "isinstance" p) [e, .Name "int" p2] [] pos) (lE X.K c (dF1 (isa1 "int") te)) := dl_isa B B.int boot_int he hg hgx (by decide) (by decide) hs hs2 hpl
theorem d_bool2 (B : Blt X.mg) (he : PE X e (lE X.K c te)) (hg : Gl X "isinstance" := by rfl) (hgx : Gl X "bool" := by rfl) (hs : starEach [e, .Name "bool" p2] X.env = (false, eval e X.env) :: starEach [.Name "bool" p2] X.env := by rfl) (hs2 : starEach [.Name "bool" p2] X.env = (false, eval (.Name "bool" p2) X.env) :: starEach [] X.env := by rfl) (hpl : (backTo pos (starEach [.Name "bool" p2] X.env)).any (·.1) = false := by rfl) :
    PE X (.Call (.Name "isinstance" p) [e, .Name "bool" p2] [] pos) (lE X.K c (dF1 (isa1 "bool") te)) := dl_isa B B.bool boot_bool he hg hgx (by decide) (by decide) hs hs2 hpl
theorem d_str2 (B : Blt X.mg) (he : PE X e (lE X.K c te)) (hg : Gl X "isinstance" := by rfl) (hgx : Gl X "str" := by rfl) (hs : starEach [e, .Name "str" p2] X.env = (false, eval e X.env) :: starEach [.Name "str" p2] X.env := by rfl) (hs2 : starEach [.Name "str" p2] X.env = (false, eval (.Name "str" p2) X.env) :: starEach [] X.env := by rfl) (hpl : (backTo pos (starEach [.Name "str" p2] X.env)).any (·.1) = false := by rfl) :
    PE X (.Call (.Name "isinstance" p) [e, .Name "str" p2] [] pos) (lE X.K c (dF1 (isa1 "str") te)) := dl_isa B B.str boot_str he hg hgx (by decide) (by decide) hs hs2 hpl
theorem d_tup2 (B : Blt X.mg) (he : PE X e (lE X.K c te)) (hg : Gl X "isinstance" := by rfl) (hgx : Gl X "tuple" := by rfl) (hs : starEach [e, .Name "tuple" p2] X.env = (false, eval e X.env) :: starEach [.Name "tuple" p2] X.env := by rfl) (hs2 : starEach [.Name "tuple" p2] X.env = (false, eval (.Name "tuple" p2) X.env) :: starEach [] X.env := by rfl) (hpl : (backTo pos (starEach [.Name "tuple" p2] X.env)).any (·.1) = false := by rfl) :
    PE X (.Call (.Name "isinstance" p) [e, .Name "tuple" p2] [] pos) (lE X.K c (dF1 (isa1 "tuple") te)) := dl_isa B B.tuple boot_tuple he hg hgx (by decide) (by decide) hs hs2 hpl
theorem d_list2 (B : Blt X.mg) (he : PE X e (lE X.K c te)) (hg : Gl X "isinstance" := by rfl) (hgx : Gl X "list" := by rfl) (hs : starEach [e, .Name "list" p2] X.env = (false, eval e X.env) :: starEach [.Name "list" p2] X.env := by rfl) (hs2 : starEach [.Name "list" p2] X.env = (false, eval (.Name "list" p2) X.env) :: starEach [] X.env := by rfl) (hpl : (backTo pos (starEach [.Name "list" p2] X.env)).any (·.1) = false := by rfl) :
    PE X (.Call (.Name "isinstance" p) [e, .Name "list" p2] [] pos) (lE X.K c (dF1 (isa1 "list") te)) := dl_isa B B.list boot_list he hg hgx (by decide) (by decide) hs hs2 hpl
/-! a def that promises nothing yet -/
def spNo : DSp := fun _ _ _ _ => False
theorem fnD_no {P : Program} {w : World} {K : PySem.W.Frag} {mg : Str → Option Value} {base : Heap} {x qual : Str} {params : Arguments} {body : List Stmt} {scope : Scope} {f : Addr} {fd : FuncData} {ps : List Str} {k : Nat}
    (F : FunD K x qual params body scope [] [] f fd) (hm : mg x = some (.ref f))
    (h : ∀ (kV doc pm : Value) (an : Option Addr) (cdv ct : Value) (us : List Value), us.length = ps.length → bindArgs (PySem.W.fnOf x qual params body scope .none kV doc pm an cdv ct) ⟨us, []⟩ = pure (ps.zip us))
    (h2 : ∀ (kV doc pm : Value) (an : Option Addr) (cdv ct : Value) (ws : List Value), ws.length = ps.length → bindArgs (PySem.W.fnOf x qual params body scope .none kV doc pm an cdv ct) ⟨[], ps.zip ws⟩ = pure (ps.zip ws)) : FnD P w K mg base x k ps spNo :=
  fnD_of F hm ⟨fun vs H Q E ⟨_, _, _, _, _, _, _, h, _⟩ => h.elim, fun A outer s H args us vs Q E _ _ _ _ ⟨_, _, _, _, _, _, _, h, _⟩ => h.elim⟩ h h2
end

/-! ## walking a list: what a pure proof asks -/
/-- each item by itself: f tells what is kept of it -/
theorem comp_pure {gd : GH → Prop} {tg : Tg} {tt : DT} {te : DE} {ρ : DSt} {Q : List D → GH → Prop} {G : GH} (f : D → Option D) (hgd : gd G) : ∀ (ds acc : List D), (∀ d ∈ ds, ∀ (k : DK) (k0 : GH → Prop), (match f d with | some y => k y G | none => k0 G) → setT tg d ρ fun ρ1 => tt ρ1 G fun b G1 => if b = true then te ρ1 G1 k else k0 G1) →
    acc.length + ds.length ≤ sizeLine → Q (acc ++ ds.filterMap f) G → compD gd tg tt te ρ Q ds acc G
  | [], acc, _, _, q => ⟨hgd, by simpa using q⟩
  | d :: ds, acc, h, hl, q => by
    refine ⟨hgd, ?_⟩
    rw [List.length_cons] at hl
    refine h d (by simp) _ _ ?_
    cases e : f d with
    | some y =>
      refine ⟨by omega, comp_pure f hgd ds (acc ++ [y]) (fun d hd => h d (by simp [hd])) (by rw [List.length_append, List.length_singleton]; omega) ?_⟩
      rw [List.filterMap_cons, e] at q
      simpa using q
    | none =>
      refine comp_pure f hgd ds acc (fun d hd => h d (by simp [hd])) (by omega) ?_
      rw [List.filterMap_cons, e] at q
      simpa using q
/-- no test -/
theorem comp_map {gd : GH → Prop} {tg : Tg} {te : DE} {ρ : DSt} {Q : List D → GH → Prop} {G : GH} (f : D → D) (hgd : gd G) (ds : List D) (h : ∀ d ∈ ds, ∀ k : DK, k (f d) G → setT tg d ρ fun ρ1 => te ρ1 G k) (hl : ds.length ≤ sizeLine) (q : Q (ds.map f) G) : compD gd tg dYes te ρ Q ds [] G := by
  refine comp_pure (fun d => some (f d)) hgd ds [] (fun d hd k k0 hk => ?_) (by simpa using hl) (by simpa using q)
  have := h d hd k hk
  simpa [dYes] using this
end DL

end

section
set_option Elab.async false
set_option linter.all false
set_option maxRecDepth 100000
set_option maxHeartbeats 1000000
namespace DL
open PySem PySem.Spec PyProof.Rows L2 HT
/-! ## x[::-1] of a list or a tuple -/
section
variable {prog : Program} {w : World} {A : Around} {E : Value → Shared → Prop} {s : Shared}
theorem fm_some {α β : Type} (f : α → Option β) (g : α → β) : ∀ l : List α, (∀ a ∈ l, f a = some (g a)) → l.filterMap f = l.map g
  | [], _ => rfl
  | a :: l, h => by rw [List.filterMap_cons, h a (by simp), List.map_cons, fm_some f g l fun b hb => h b (by simp [hb])]
theorem pick_back (xs : Array Value) : ((List.range xs.size).filterMap fun (m : Nat) => xs[((xs.size : Int) - 1 + (m : Int) * (-1)).toNat]?).toArray = xs.toList.reverse.toArray := by
  congr 1
  obtain ⟨l⟩ := xs
  show (List.range l.length).filterMap (fun (m : Nat) => l.toArray[((l.length : Int) - 1 + (m : Int) * (-1)).toNat]?) = l.reverse
  simp only [List.getElem?_toArray]
  apply List.ext_getElem?
  intro i
  have key : (List.range l.length).filterMap (fun (m : Nat) => l[((l.length : Int) - 1 + (m : Int) * (-1)).toNat]?) = (List.range l.length).map fun m => l.reverse.getD m (.none) := by
    refine fm_some _ _ _ fun m hm => ?_
    have hm : m < l.length := List.mem_range.mp hm
    have e : ((l.length : Int) - 1 + (m : Int) * (-1)).toNat = l.length - 1 - m := by omega
    rw [e, List.getD_eq_getElem?_getD, List.getElem?_reverse hm, List.getElem?_eq_getElem (by omega)]
    rfl
  rw [key, List.getElem?_map]
  by_cases hi : i < l.length
  · rw [List.getElem?_range hi, List.getElem?_eq_getElem (by simpa using hi)]
    simp [List.getD_eq_getElem?_getD, hi]
  · rw [List.getElem?_eq_none (by simpa using hi), List.getElem?_eq_none (by simpa using hi)]
    rfl
theorem applied_back {sl : Addr} {vk : Value} {n : Nat} {Q : Int × Int × Nat → Shared → Prop} (hs : s.heap.IsSliceOf sl .none .none vk) (pk : IsPart vk (some (-1)))
    (h : Q ((n : Int) - 1, -1, n) s) : wpAny (model prog w) A (Builtin.Slice.sliceApplied (.ref sl) (pure (n : Int))) Q E s := by
  obtain ⟨os, hos, hcs, hds⟩ := id hs
  unfold Builtin.Slice.sliceApplied Builtin.Slice.sliceFields
  refine wpAny_bind (wpAny_bind (wpAny_field hos hds (x := .none) rfl (wpAny_bind (wpAny_field hos hds (x := .none) rfl (wpAny_bind (wpAny_field hos hds (x := vk) rfl (wpAny_pure ?_)))))))
  refine wpAny_bind (slicePart_ pk ?_)
  show wpAny _ _ (if ((-1 : Int) == 0) = true then _ else _) _ _ s
  rw [if_neg (by decide)]
  refine wpAny_bind (slicePart_ .none (wpAny_bind (slicePart_ .none (wpAny_bind (wpAny_pure ?_)))))
  have e1 : Builtin.Slice.sliceAdjust none none (-1) (n : Int) = ((n : Int) - 1, -1) := by
    unfold Builtin.Slice.sliceAdjust
    rfl
  show wpAny _ _ (match Builtin.Slice.sliceAdjust none none (-1) (n : Int) with | (lo, hi) => pure (lo, (-1 : Int), Builtin.Slice.slicePlaces lo hi (-1))) _ _ s
  rw [e1]
  have e2 : Builtin.Slice.slicePlaces ((n : Int) - 1) (-1) (-1) = n := by
    unfold Builtin.Slice.slicePlaces
    have h1 : ¬ ((-1 : Int) > 0) := by omega
    simp only [h1, if_false]
    by_cases hn : n = 0
    · subst hn; rfl
    · have e : ((n : Int) - 1 - -1 - 1) / - -1 = (n : Int) - 1 := by
        rw [show (- -1 : Int) = 1 from rfl, Int.ediv_one]
        omega
      rw [e]
      split <;> omega
  show wpAny _ _ (pure ((n : Int) - 1, (-1 : Int), Builtin.Slice.slicePlaces ((n : Int) - 1) (-1) (-1))) _ _ s
  rw [e2]
  exact wpAny_pure h
theorem tuple_back {t sl : Addr} {items : Array Value} {vk : Value} {Q : Value → Shared → Prop} (ht : IsTup s.heap t items) (hs : s.heap.IsSliceOf sl .none .none vk) (pk : IsPart vk (some (-1)))
    (h : Q (.ref s.heap.objs.size) { s with heap := s.heap.push { cls := .type "tuple", data := .seq items.toList.reverse.toArray } })
    (hsz : items.size ≤ sizeLine) : wpAny (model prog w) A (getItem (.ref t) (.ref sl)) Q E s := by
  have htake : sizeOk (.seq items.toList.reverse.toArray) := by
    show items.toList.reverse.toArray.size ≤ sizeLine
    rw [List.size_toArray, List.length_reverse, Array.length_toList]
    exact hsz
  obtain ⟨os, hos, hcs, hds⟩ := id hs
  have hTs : s.TypeIs (.ref sl) "slice" := ⟨os, hos, hcs⟩
  unfold getItem
  try with_reducible refine wpAny_holding ?_
  first | refine wpAny_bind (wpAny_pure ?_) | skip
  refine wpAny_bind (wpAny_sequenceKey ht.typeIs (by decide) ?_)
  refine wpAny_bind (wpAny_callSpecial?_slot (name := Str.ofString "__getitem__") ht.typeIs PyProof.Rows.slot_tuple_getitem
    (wpAny_call_entry PyProof.Rows.slot_tuple_getitem ht.typeIs entry_tuple_getitem ?_ (args_tuple_getitem _ _)))
  show wpAny _ _ (Builtin.Tuple.tupleItemsOf (.ref t) >>= _) _ _ s
  refine wpAny_bind (tupleItemsOf_ ht ?_)
  refine wpAny_bind (wpAny_typeOf hTs ?_)
  rw [if_pos (by decide)]
  refine wpAny_bind (applied_back (n := items.size) hs pk ?_)
  have hno : ¬ ((((items.size : Int) - 1) == 0 && (-1 : Int) == 1 && items.size == items.size) = true) := by
    intro q
    rw [Bool.and_eq_true, Bool.and_eq_true] at q
    exact absurd q.1.2 (by decide)
  show wpAny _ _ (if (((items.size : Int) - 1) == 0 && (-1 : Int) == 1 && items.size == items.size) = true then _ else _) _ _ s
  rw [if_neg hno, pick_back]
  first
    | exact wpAny_bind (m := Builtin.Tuple.tupleExact _) (wpAny_newObj_type (wpAny_pure ⟨_, rfl, wpAny_pure h⟩) htake)
    | exact wpAny_bind (m := Builtin.Tuple.tupleExact _) (wpAny_newObj_type (wpAny_bind (wpAny_pure (wpAny_pure ⟨_, rfl, wpAny_pure h⟩))) htake)
    | exact wpAny_bind (wpAny_bind (m := Builtin.Tuple.tupleExact _) (wpAny_newObj_type (wpAny_pure (wpAny_pure ⟨_, rfl, wpAny_pure h⟩)) htake))
    | exact wpAny_bind (wpAny_bind (m := Builtin.Tuple.tupleExact _) (wpAny_newObj_type (wpAny_pure ⟨_, rfl, wpAny_pure h⟩) htake))
end
def revF : D → GH → DK → Prop := fun d G Q => match d with
  | .tup a => Q (.tup a.reverse) G
  | d => match asQ d G with
    | some a => Q (.lst a.reverse) G
    | none => False
def tRevA (K : PySem.W.Frag) (te : TE) : TE := fun σ H Q => te σ H fun x H1 => ∃ a xs, x = .ref a ∧ ((SqL K H1 a xs ∧ ∀ p, H1 p = none → Q (.ref p) (upd H1 p (.lst xs.reverse))) ∨ (SqT K H1 a xs ∧ ∀ p, H1 p = none → Q (.ref p) (upd H1 p (.tup xs.reverse))))
section
variable {X : Cx} {c : DC} {e : Expr} {te : DE} {k : Nat} {p1 p2 p3 pos : Pos}
theorem pe_revA {te : TE} (he : PE X e te) : PE X (.Subscript e (.Slice none none (some (.UnaryOp .USub (.Constant (.int 1) k p1) p2)) p3) pos) (tRevA X.K te) := by
  refine ⟨fun pins s σ H Q I h => Subscript_ (thn (he.run pins s σ H _ I h) fun v s1 ⟨x, H1, I1, r1, q1⟩ => ?_)⟩
  obtain ⟨a, xs, ex, q⟩ := q1
  subst ex
  cases r1
  have hst : PO X (some (.UnaryOp .USub (.Constant (.int 1) k p1) p2)) (tPart (tUn (rU fun i => .int (-i)) (tC (.int 1)))) := po_some (pe_un un_neg pe_int)
  rw [show (none : Option Expr) = none from rfl]
  refine wpAny_Slice ?_
  rw [evalPart_none]
  refine wpAny_pure (wpAny_pure ?_)
  refine thn (hst.run pins s1 σ H1 (fun o H4 => o = some (-1) ∧ H4 = H1) I1 ⟨1, rfl, -1, rfl, rfl, rfl⟩) fun vs s4 ⟨o, H4, I4, ps, eo, e4⟩ => ?_
  subst eo e4
  have I5 : Inv X pins σ H4 { s4 with heap := s4.heap.push { cls := .type "slice", data := .fields #[.none, .none, vs] } } := I4.kept (t' := s4.toks) fun b ob q => Heap.get?_push_of_some _ q
  show wpAny (model X.prog X.w) X.A (subscriptTail e (.Slice none none (some (.UnaryOp .USub (.Constant (.int 1) k p1) p2)) p3) (.ref a) (.ref s4.heap.objs.size)) (EP X pins σ Q) X.xe { s4 with heap := s4.heap.push { cls := .type "slice", data := .fields #[.none, .none, vs] } }
  rcases q with ⟨hx, q⟩ | ⟨hx, q⟩
  · obtain ⟨its, r, ht, hz⟩ := I5.list hx
    have hlen := r.length
    refine tail_any (ops := [.ref a, .ref s4.heap.objs.size]) ht.isList.typeIs (PySem.slot_list_getitem.lookup) ?_ (by with_unfolding_all rfl)
    refine wpAny_getItem_list_slice ht.isList (Heap.IsSliceOf.new _ .none .none vs) .none .none ps (by decide) ?_ (by rw [List.size_toArray]; omega)
    rw [PySem.W.krv_pick]
    refine ⟨.ref _, _, I5.laid (t' := s4.toks) (o := .lst xs.reverse) (fun b ob q => Heap.get?_push_of_some _ q) (Nat.le_refl _) ?_, rfl, q _ (I5.hok.fresh (Nat.le_refl _))⟩
    exact ⟨by rw [List.length_reverse]; exact hz, _, 0, r.reverse, Heap.get?_push_size _ rfl⟩
  · obtain ⟨its, r, ht, hz⟩ := I5.tuple hx
    have hlen := r.length
    refine tail_any (ops := [.ref a, .ref s4.heap.objs.size]) ht.typeIs (PyProof.Rows.slot_tuple_getitem.lookup) ?_ (by with_unfolding_all rfl)
    refine tuple_back ht (Heap.IsSliceOf.new _ .none .none vs) ps ?_ (by rw [List.size_toArray]; omega)
    refine ⟨.ref _, _, I5.laid (t' := s4.toks) (o := .tup xs.reverse) (fun b ob q => Heap.get?_push_of_some _ q) (Nat.le_refl _) ?_, rfl, q _ (I5.hok.fresh (Nat.le_refl _))⟩
    exact ⟨by rw [List.length_reverse]; exact hz, _, r.reverse, IsTup.new _ _⟩
theorem d_rev (he : PE X e (lE X.K c te)) : PE X (.Subscript e (.Slice none none (some (.UnaryOp .USub (.Constant (.int 1) k p1) p2)) p3) pos) (lE X.K c (dF1 revF te)) :=
  PE_imp (pe_revA he) fun σ H Q ⟨ρ, G, QD, u, h, kk⟩ => ⟨ρ, G, _, u, h, fun d G1 v H1 q s1 r1 p1 => by
    have lst : ∀ a, asQ d G1 = some a → (∀ b, d ≠ .tup b) → QD (.lst a.reverse) G1 → ∃ p xs, v = .ref p ∧ SqL X.K H1 p xs ∧ ∀ l, H1 l = none → Q (.ref l) (upd H1 l (.lst xs.reverse)) := fun a e n q => by
      obtain ⟨p, xs, rfl, h1, t⟩ := asQ_lst r1 p1 e n
      exact ⟨p, xs, rfl, h1, fun l hl => kk _ _ _ _ q (s1.trans (step_new hl)) (r1.new hl) (Rep.newL r1 hl t.reverse)⟩
    have key : (∃ b, d = .tup b) ∨ ∀ b, d ≠ .tup b := by
      cases d with
      | tup b => exact .inl ⟨b, rfl⟩
      | _ => exact .inr fun b z => nomatch z
    rcases key with ⟨b, rfl⟩ | n
    · cases p1 with
      | tup h1 t => exact ⟨_, _, rfl, .inr ⟨h1, fun l hl => kk _ _ _ _ q (s1.trans (step_new hl)) (r1.new hl) (Rep.newT r1 hl t.reverse)⟩⟩
    · have q : (match asQ d G1 with | some a => QD (.lst a.reverse) G1 | none => False) := by
        cases d with
        | tup b => exact absurd rfl (n b)
        | _ => exact q
      split at q
      · rename_i a e
        obtain ⟨p, xs, e1, h1, h2⟩ := lst a e n q
        exact ⟨p, xs, e1, .inl ⟨h1, h2⟩⟩
      · exact q.elim⟩
theorem hu65 {k : Nat} {A : Around} (r : Room k A) : A.units + 65 < cLine := by have := r.un; omega
/-- THE RULE for a def whose code object is to be known -/
theorem fn_okC {Pg : Program} {w : World} {K : PySem.W.Frag} {mg : Str → Option Value} {base : Heap} {x qual : Str} {params : Arguments} {body : List Stmt} {scope : Scope} {f : Addr} {fd : FuncData} {N ps : List Str} {k : Nat} {sp : DSp} {t : DXK → DS}
    (F : FunD K x qual params body scope [] [] f fd) (S : FnScope N ps scope) (len : ∀ ds G Q E, sp ds G Q E → ds.length = ps.length)
    (hbody : ∀ (cdv : Value) (A : Around) (outer : List Env) (s : Shared) (H : Hp) (E : XK) (c : DC) (Ex : DXK), fd.code = cdv → Room k (A.deeper (envOfC qual scope s.heap.objs.size f cdv)) → XOk (cxOf (L2.CX Pg w) Pg w K mg base N qual scope f cdv A outer s H E) c Ex →
      PSs (cxOf (L2.CX Pg w) Pg w K mg base N qual scope f cdv A outer s H E) body (lS K c (t Ex)))
    (pure : ∀ ds G Q E, sp ds G Q E → t E (fnEnds Q) (startD N ds) G) : FnOk Pg w K mg base (L2.CX Pg w) (k + 1) f fd ps (liftSp K sp) := by
  obtain ⟨oc, od, dV, kV, doc, pm, an, cdv, ct, osl, rfl, lk, hcd, _, _⟩ := F.ex
  refine fn_of lk hcd S (fun vs H Q E ⟨ds, P, G, QD, ED, h1, h2, h3, _⟩ => by rw [h1.length]; exact len _ _ _ _ h3) fun A outer s H vs Q E hr ⟨ds, P, G, QD, ED, h1, h2, h3, h4, h5⟩ => ?_
  have ok : XOk (cxOf (L2.CX Pg w) Pg w K mg base N qual scope f cdv A outer s H E) ⟨P, G, H⟩ ED := ⟨fun cls d _ H => E cls d H, takes_of rfl rfl rfl rfl, fun x G' H' cls d σ q s r p => h5 x G' cls d H' q s r p⟩
  refine ⟨_, hbody cdv A outer s H E ⟨P, G, H⟩ ED rfl hr ok, startD N ds, G, fnEnds QD, ⟨h2, Step.refl _ _, start_rep h1⟩, pure _ _ _ _ h3, ⟨?_, ?_, ?_, ?_⟩⟩
  · rintro ρ G2 σ H2 ⟨G', l, q⟩ s2 u2
    exact h4 _ _ _ _ q (fun a o e n g => let ⟨e1, e2⟩ := s2 a o e n g; ⟨e1, l.none e2⟩) (u2.rl.le l) .non
  · rintro d G2 v H2 ⟨d', G', l, z, q⟩ s2 r2 p2
    exact h4 _ _ _ _ q (fun a o e n g => let ⟨e1, e2⟩ := s2 a o e n g; ⟨e1, l.none e2⟩) (r2.le l) (z.rep r2 l p2)
  · intro ρ G2 σ H2 q
    exact q.elim
  · intro ρ G2 σ H2 q
    exact q.elim
end
end DL

end

section
set_option Elab.async false
set_option linter.all false
set_option maxRecDepth 100000
set_option maxHeartbeats 1000000
namespace DL
open PySem PySem.Spec PyProof.Rows L2
/-! ## pure: ends, classes, comparing -/
theorem fin_ret {Q : DK} {d : D} {G : GH} (q : Q d G) : (fnEnds Q).rt d G := ⟨d, G, Le.refl G, .same d, q⟩
theorem fin_nx {Q : DK} {ρ : DSt} {G : GH} (q : Q .non G) : (fnEnds Q).nx ρ G := ⟨G, Le.refl G, q⟩
/-- what was made is left behind -/
theorem fin_le {Q : DK} {d : D} {G G' : GH} (l : Le G' G) (q : Q d G') : (fnEnds Q).rt d G := ⟨d, G', l, .same d, q⟩
theorem isk_NoneType_int : isK "NoneType" "int" = false := by decide
theorem isk_NoneType_bool : isK "NoneType" "bool" = false := by decide
theorem isk_NoneType_str : isK "NoneType" "str" = false := by decide
theorem isk_NoneType_tuple : isK "NoneType" "tuple" = false := by decide
theorem isk_NoneType_list : isK "NoneType" "list" = false := by decide
theorem isk_NoneType_dict : isK "NoneType" "dict" = false := by decide
theorem isk_bool_int : isK "bool" "int" = true := by decide
theorem isk_bool_bool : isK "bool" "bool" = true := by decide
theorem isk_bool_str : isK "bool" "str" = false := by decide
theorem isk_bool_tuple : isK "bool" "tuple" = false := by decide
theorem isk_bool_list : isK "bool" "list" = false := by decide
theorem isk_bool_dict : isK "bool" "dict" = false := by decide
theorem isk_int_int : isK "int" "int" = true := by decide
theorem isk_int_bool : isK "int" "bool" = false := by decide
theorem isk_int_str : isK "int" "str" = false := by decide
theorem isk_int_tuple : isK "int" "tuple" = false := by decide
theorem isk_int_list : isK "int" "list" = false := by decide
theorem isk_int_dict : isK "int" "dict" = false := by decide
theorem isk_str_int : isK "str" "int" = false := by decide
theorem isk_str_bool : isK "str" "bool" = false := by decide
theorem isk_str_str : isK "str" "str" = true := by decide
theorem isk_str_tuple : isK "str" "tuple" = false := by decide
theorem isk_str_list : isK "str" "list" = false := by decide
theorem isk_str_dict : isK "str" "dict" = false := by decide
theorem isk_tuple_int : isK "tuple" "int" = false := by decide
theorem isk_tuple_bool : isK "tuple" "bool" = false := by decide
theorem isk_tuple_str : isK "tuple" "str" = false := by decide
theorem isk_tuple_tuple : isK "tuple" "tuple" = true := by decide
theorem isk_tuple_list : isK "tuple" "list" = false := by decide
theorem isk_tuple_dict : isK "tuple" "dict" = false := by decide
theorem isk_list_int : isK "list" "int" = false := by decide
theorem isk_list_bool : isK "list" "bool" = false := by decide
theorem isk_list_str : isK "list" "str" = false := by decide
theorem isk_list_tuple : isK "list" "tuple" = false := by decide
theorem isk_list_list : isK "list" "list" = true := by decide
theorem isk_list_dict : isK "list" "dict" = false := by decide

theorem isa_int {b : String} {i : Int} {G : GH} {Q : DK} (q : Q (.bl (isK "int" b)) G) (hb : b ∈ ["int", "bool", "str", "tuple", "list", "dict"] := by decide) : isa1 b (.int i) G Q := isa1_of (a := "int") rfl q hb
theorem isa_bl {b : String} {i : Bool} {G : GH} {Q : DK} (q : Q (.bl (isK "bool" b)) G) (hb : b ∈ ["int", "bool", "str", "tuple", "list", "dict"] := by decide) : isa1 b (.bl i) G Q := isa1_of (a := "bool") rfl q hb
theorem isa_str {b : String} {i : Str} {G : GH} {Q : DK} (q : Q (.bl (isK "str" b)) G) (hb : b ∈ ["int", "bool", "str", "tuple", "list", "dict"] := by decide) : isa1 b (.str i) G Q := isa1_of (a := "str") rfl q hb
theorem isa_non {b : String} {G : GH} {Q : DK} (q : Q (.bl (isK "NoneType" b)) G) (hb : b ∈ ["int", "bool", "str", "tuple", "list", "dict"] := by decide) : isa1 b .non G Q := isa1_of (a := "NoneType") rfl q hb
theorem isa_tup {b : String} {i : List D} {G : GH} {Q : DK} (q : Q (.bl (isK "tuple" b)) G) (hb : b ∈ ["int", "bool", "str", "tuple", "list", "dict"] := by decide) : isa1 b (.tup i) G Q := isa1_of (a := "tuple") rfl q hb
theorem isa_lst {b : String} {i : List D} {G : GH} {Q : DK} (q : Q (.bl (isK "list" b)) G) (hb : b ∈ ["int", "bool", "str", "tuple", "list", "dict"] := by decide) : isa1 b (.lst i) G Q := isa1_of (a := "list") rfl q hb
/-- isinstance(d, tuple): what it says -/
def isTup : D → Bool
  | .tup _ => true
  | _ => false
theorem isa_tuple {d : D} {G : GH} {Q : DK} (h : (tyD G d).isSome = true) (q : Q (.bl (isTup d)) G) : isa1 "tuple" d G Q := by
  cases d with
  | non => exact isa_non q
  | bl b => exact isa_bl q
  | int i => exact isa_int q
  | str x => exact isa_str q
  | tup a => exact isa_tup q
  | lst a => exact isa_lst q
  | scr a => exact isa1_of (a := "list") rfl q
  | ty n => cases h
  | ref p =>
    have h : (match G p with | some (.lst _) => some "list" | _ => none : Option String).isSome = true := h
    cases e : tyD G (.ref p) with
    | none =>
      have e : (match G p with | some (.lst _) => some "list" | _ => none : Option String) = none := e
      rw [e] at h; cases h
    | some a =>
      have ea : a = "list" := by
        have e : (match G p with | some (.lst _) => some "list" | _ => none : Option String) = some a := e
        split at e
        · cases e; rfl
        · cases e
      subst ea
      exact isa1_of e q
def isBlD : D → Bool
  | .bl _ => true
  | _ => false
theorem isa_bool {d : D} {G : GH} {Q : DK} (h : (tyD G d).isSome = true) (q : Q (.bl (isBlD d)) G) : isa1 "bool" d G Q := by
  cases d with
  | non => exact isa_non q
  | bl b => exact isa_bl q
  | int i => exact isa_int q
  | str x => exact isa_str q
  | tup a => exact isa_tup q
  | lst a => exact isa_lst q
  | scr a => exact isa1_of (a := "list") rfl q
  | ty n => cases h
  | ref p =>
    have h : (match G p with | some (.lst _) => some "list" | _ => none : Option String).isSome = true := h
    cases e : tyD G (.ref p) with
    | none =>
      have e : (match G p with | some (.lst _) => some "list" | _ => none : Option String) = none := e
      rw [e] at h; cases h
    | some a =>
      have ea : a = "list" := by
        have e : (match G p with | some (.lst _) => some "list" | _ => none : Option String) = some a := e
        split at e
        · cases e; rfl
        · cases e
      subst ea
      exact isa1_of e q
def isIntD : D → Bool
  | .bl _ => true
  | .int _ => true
  | _ => false
theorem isa_intD {d : D} {G : GH} {Q : DK} (h : (tyD G d).isSome = true) (q : Q (.bl (isIntD d)) G) : isa1 "int" d G Q := by
  cases d with
  | non => exact isa_non q
  | bl b => exact isa_bl q
  | int i => exact isa_int q
  | str x => exact isa_str q
  | tup a => exact isa_tup q
  | lst a => exact isa_lst q
  | scr a => exact isa1_of (a := "list") rfl q
  | ty n => cases h
  | ref p =>
    have h : (match G p with | some (.lst _) => some "list" | _ => none : Option String).isSome = true := h
    cases e : tyD G (.ref p) with
    | none =>
      have e : (match G p with | some (.lst _) => some "list" | _ => none : Option String) = none := e
      rw [e] at h; cases h
    | some a =>
      have ea : a = "list" := by
        have e : (match G p with | some (.lst _) => some "list" | _ => none : Option String) = some a := e
        split at e
        · cases e; rfl
        · cases e
      subst ea
      exact isa1_of e q
/-! ### data of a depth -/
theorem canAll (ds : List D) (h : ∀ d ∈ ds, d.py.canLay0 = true) : PyData.canLayAll0 (pyL ds) = true := by
  induction ds with
  | nil => simp [pyL, PyData.canLayAll0]
  | cons d ds ih => simp only [pyL, PyData.canLayAll0, Bool.and_eq_true]; exact ⟨h d (by simp), ih fun e he => h e (by simp [he])⟩
theorem depAll (n : Nat) (ds : List D) (h : ∀ d ∈ ds, d.py.depth ≤ n) : PyData.depthAll (pyL ds) ≤ n := by
  induction ds with
  | nil => simp [pyL, PyData.depthAll]
  | cons d ds ih =>
    simp only [pyL, PyData.depthAll]
    have h1 := h d (by simp)
    have h2 := ih fun e he => h e (by simp [he])
    omega
/-- scalars, tuples, lists, n deep -/
def dpt : Nat → D → Bool
  | _, .non => true
  | _, .bl _ => true
  | _, .int _ => true
  | _, .str x => PyData.strOk x
  | n + 1, .tup ds => ds.all (dpt n)
  | n + 1, .lst ds => ds.all (dpt n)
  | n + 1, .scr ds => ds.all (dpt n)
  | _, _ => false
theorem dpt_ok : ∀ (n : Nat) (d : D), dpt n d = true → d.py.canLay0 = true ∧ d.py.depth ≤ n
  | n, .non, _ => ⟨by simp [D.py, PyData.canLay0], by simp [D.py, PyData.depth]⟩
  | n, .bl _, _ => ⟨by simp [D.py, PyData.canLay0], by simp [D.py, PyData.depth]⟩
  | n, .int _, _ => ⟨by simp [D.py, PyData.canLay0], by simp [D.py, PyData.depth]⟩
  | n, .str x, h => ⟨by
      have h : PyData.strOk x = true := by cases n <;> exact h
      simp [D.py, PyData.canLay0, h], by simp [D.py, PyData.depth]⟩
  | n, .ty _, h => by cases n <;> cases h
  | n, .ref _, h => by cases n <;> cases h
  | 0, .tup _, h => by cases h
  | 0, .lst _, h => by cases h
  | 0, .scr _, h => by cases h
  | n + 1, .tup ds, h => by
    have h := List.all_eq_true.mp (show ds.all (dpt n) = true from h)
    refine ⟨by simp only [D.py, PyData.canLay0]; exact canAll ds fun d hd => (dpt_ok n d (h d hd)).1, ?_⟩
    simp only [D.py, PyData.depth]
    have := depAll n ds fun d hd => (dpt_ok n d (h d hd)).2
    omega
  | n + 1, .lst ds, h => by
    have h := List.all_eq_true.mp (show ds.all (dpt n) = true from h)
    refine ⟨by simp only [D.py, PyData.canLay0]; exact canAll ds fun d hd => (dpt_ok n d (h d hd)).1, ?_⟩
    simp only [D.py, PyData.depth]
    have := depAll n ds fun d hd => (dpt_ok n d (h d hd)).2
    omega
  | n + 1, .scr ds, h => by
    have h := List.all_eq_true.mp (show ds.all (dpt n) = true from h)
    refine ⟨by simp only [D.py, PyData.canLay0]; exact canAll ds fun d hd => (dpt_ok n d (h d hd)).1, ?_⟩
    simp only [D.py, PyData.depth]
    have := depAll n ds fun d hd => (dpt_ok n d (h d hd)).2
    omega
theorem shp {d : D} (n : Nat) (h : dpt n d = true) (hn : n ≤ 64 := by decide) : shapedD d = true := by
  obtain ⟨a, b⟩ := dpt_ok n d h
  unfold shapedD SeqAt.shaped
  rw [a, Bool.true_and, decide_eq_true_eq]
  omega
theorem shp_list (n : Nat) {ds : List D} (h : ∀ d ∈ ds, dpt n d = true) (hn : n + 1 ≤ 64 := by decide) : shapedD (.lst ds) = true := shp (n + 1) (List.all_eq_true.mpr h) hn
theorem shp_tup (n : Nat) {ds : List D} (h : ∀ d ∈ ds, dpt n d = true) (hn : n + 1 ≤ 64 := by decide) : shapedD (.tup ds) = true := shp (n + 1) (List.all_eq_true.mpr h) hn
/-- x == x -/
theorem eq_self {d : D} {G : GH} {Q : DK} (n : Nat) (h : dpt n (valD G d) = true) (q : Q (.bl true) G) (hn : n ≤ 64 := by decide) : eqD d d G Q := by
  have s := shp n h hn
  show eqQ false d d G Q
  unfold eqQ
  split
  · rename_i b e
    cases d <;> cases e <;> simpa using q
  · refine ⟨⟨s, s⟩, ?_⟩
    rw [SeqAt.eqv_refl _ (SeqAt.canLay_of_shaped s)]
    exact q
theorem pyL_ints (ns : List Int) : pyL (ns.map .int) = ns.map PyData.int := by
  induction ns with
  | nil => simp [pyL]
  | cons n ns ih => simp [pyL, ih, D.py]
theorem eqv_ints (ns ms : List Int) : PyData.eqv (D.lst (ns.map .int)).py (D.lst (ms.map .int)).py = decide (ns = ms) := by
  simp only [D.py, PyData.eqv, pyL_ints]
  exact PySem.W.ked_eqvAll ns ms
/-! ### single steps -/
section
variable {G : GH} {Q : DK} {i j : Int} {a : List D} {d : D} {p : Addr}
theorem eqI (q : Q (.bl (decide (i = j))) G) : eqD (.int i) (.int j) G Q := by
  show Q (.bl (decide (i = j) ^^ false)) G
  rw [Bool.xor_false]; exact q
theorem neI (q : Q (.bl (!decide (i = j))) G) : neD (.int i) (.int j) G Q := by
  show Q (.bl (decide (i = j) ^^ true)) G
  rw [Bool.xor_true]; exact q
theorem eqB {x y : Bool} (q : Q (.bl (decide (x = y))) G) : eqD (.bl x) (.bl y) G Q := by
  show Q (.bl (decide (x = y) ^^ false)) G
  rw [Bool.xor_false]; exact q
theorem eqX {x y : Str} (q : Q (.bl (decide (x = y))) G) : eqD (.str x) (.str y) G Q := by
  show Q (.bl (decide (x = y) ^^ false)) G
  rw [Bool.xor_false]; exact q
theorem neX {x y : Str} (q : Q (.bl (!decide (x = y))) G) : neD (.str x) (.str y) G Q := by
  show Q (.bl (decide (x = y) ^^ true)) G
  rw [Bool.xor_true]; exact q
theorem ixT (e : L2.atI a i = some d) (q : Q d G) : ixD (.tup a) (.int i) G Q := by
  show (match L2.atI a i with | some d => Q d G | none => False)
  rw [e]; exact q
theorem ixL (e : L2.atI a i = some d) (q : Q d G) : ixD (.lst a) (.int i) G Q := by
  show (match L2.atI a i with | some d => Q d G | none => False)
  rw [e]; exact q
theorem ixS (e : L2.atI a i = some d) (q : Q d G) : ixD (.scr a) (.int i) G Q := by
  show (match L2.atI a i with | some d => Q d G | none => False)
  rw [e]; exact q
theorem ixR (g : G p = some (.lst a)) (e : L2.atI a i = some d) (q : Q d G) : ixD (.ref p) (.int i) G Q := by
  show (match (match G p with | some (.lst a) => some a | _ => none) with | some ds => (match L2.atI ds i with | some d => Q d G | none => False) | none => False)
  rw [g]
  show (match L2.atI a i with | some d => Q d G | none => False)
  rw [e]; exact q
theorem lenT (q : Q (.int a.length) G) : lenF (.tup a) G Q := q
theorem lenL (q : Q (.int a.length) G) : lenF (.lst a) G Q := q
theorem lenS (q : Q (.int a.length) G) : lenF (.scr a) G Q := q
theorem lenR (g : G p = some (.lst a)) (q : Q (.int a.length) G) : lenF (.ref p) G Q := by
  show (match (match G p with | some (.lst a) => some a | _ => none) with | some a => Q (.int a.length) G | none => False)
  rw [g]; exact q
theorem atI_nat {α : Type} {xs : List α} {n : Nat} {x : α} (h : xs[n]? = some x) : L2.atI xs (n : Int) = some x := by
  have hn : n < xs.length := (List.getElem?_eq_some_iff.mp h).1
  unfold L2.atI
  have e : ixN xs.length (n : Int) = some n := by
    unfold ixN
    first
      | (simp; omega)
      | (split <;> simp <;> omega)
  rw [e]
  exact h
theorem getLR {k : List D → Prop} (g : G p = some (.lst a)) (q : k a) : getL G p k := by
  unfold getL
  rw [g]; exact q
theorem ownLR {k : Addr → Prop} (g : G p = some (.lst a)) (q : k p) : ownL (.ref p) G k := by
  show (match G p with | some (.lst _) => k p | _ => False)
  rw [g]; exact q
theorem tupR (g : G p = some (.lst a)) (q : Q (.tup a) G) : tupF (.ref p) G Q := by
  show (match (match G p with | some (.lst a) => some a | _ => none) with | some a => Q (.tup a) G | none => False)
  rw [g]; exact q
theorem setR {j : Nat} (g : G p = some (.lst a)) (e : ixN a.length i = some j) {Q : GH → Prop} (q : Q (updG G p (.lst (a.set j d)))) : setD (.ref p) (.int i) d G Q := by
  show (match G p with | some (.lst ds) => (match ixN ds.length i with | some j => Q (updG G p (.lst (ds.set j d))) | none => False) | _ => False)
  rw [g]
  show (match ixN a.length i with | some j => Q (updG G p (.lst (a.set j d))) | none => False)
  rw [e]; exact q
end
end DL

end

section
set_option Elab.async false
set_option linter.all false
set_option maxRecDepth 100000
set_option maxHeartbeats 2000000
namespace HX
open PySem PySem.Spec PyProof.Rows L2 He DX DL
/-! ## an own error's facts, by looking -/
/-- the function that stands inside a class's text -/
def clsFn (st : Stmt) : Stmt := match st with
  | .ClassDef _ _ _ body _ _ _ _ _ _ _ => body.getD 0 (.Pass ⟨0, 0, 0, 0⟩)
  | s => s
abbrev FnC : Type := Option (Str × Str × Arguments × FuncBody × Scope)
def fnC (K : PySem.W.Frag) (f : Addr) : FnC := match K.lookup f with
  | some ⟨_, _, .func fd, _⟩ => some (fd.name, fd.qualname, fd.params, fd.body, fd.scope)
  | _ => none
def ini (K : PySem.W.Frag) (cn : Str) : Addr := ma K (ga K cn) "__init__"
def cloOf (K : PySem.W.Frag) (f : Addr) : Addr := match K.lookup f with
  | some ⟨_, _, .func fd, _⟩ => (match fd.closure with
    | [(_, c)] => c
    | _ => 0)
  | _ => 0
def cdOf (K : PySem.W.Frag) (f : Addr) : Addr := match K.lookup f with
  | some ⟨_, _, .func fd, _⟩ => (match fd.code with
    | .ref c => c
    | _ => 0)
  | _ => 0
def clsB (K : PySem.W.Frag) (C : Addr) : Bool := match K.lookup C with
  | some ⟨.type "type", _, .cls cd, sl⟩ => (match cd.mro, sl.toList with
    | .ref C' :: bm, [_, _, _, _, some (.builtin n), _] => decide (C' = C) && (decide (n = "ValueError.__new__") && (!cd.hasDel && (cd.hasDict && (PySem.HandSPX.refsVE bm && eqO (PySem.W.alongIn K "__init__" bm) (some (some (.builtin "ValueError.__init__")))))))
    | _, _ => false)
  | _ => false
theorem clsB_ok {K : PySem.W.Frag} {C : Addr} (h : clsB K C = true) : ∃ nm q N bs bm sn sub ab col dd k0 k1 k2 k3 k5, K.lookup C = some (excClassObj nm q C N bs bm true sn sub ab col dd k0 k1 k2 k3 k5 "ValueError.__new__") ∧ PySem.HandSPX.refsVE bm = true ∧ PySem.W.alongIn K "__init__" bm = some (some (.builtin "ValueError.__init__")) := by
  unfold clsB at h
  split at h
  · rename_i dd cd sl ho
    split at h
    · rename_i C' bm k0 k1 k2 k3 n k5 hm hs
      obtain ⟨e1, h⟩ := ba h
      obtain ⟨e2, h⟩ := ba h
      obtain ⟨e3, h⟩ := ba h
      obtain ⟨e4, h⟩ := ba h
      obtain ⟨e5, e6⟩ := ba h
      have e1 := of_decide_eq_true e1
      have e2 := of_decide_eq_true e2
      obtain ⟨nm, bs, mro, ns, qn, hd, sn, sub, ab, col, del⟩ := cd
      dsimp only at hm e3 e4
      subst hm e1 e2 e4
      have e3 : del = false := by
        cases del
        · rfl
        · cases e3
      subst e3
      have hsl : sl = #[k0, k1, k2, k3, some (.builtin "ValueError.__new__"), k5] := by
        apply Array.toList_inj.mp
        exact hs
      subst hsl
      exact ⟨nm, qn, ns, bs, bm, sn, sub, ab, col, dd, k0, k1, k2, k3, k5, ho, e5, eqO_ok e6⟩
    · cases h
  · cases h
def fnB (K : PySem.W.Frag) (f : Addr) (qual : Str) : Bool := match K.lookup f with
  | some ⟨_, _, .func fd, _⟩ => decide (fd.globals = mainGlobals) && (decide (fd.builtins = builtinsNs) && (decide (fd.closure = [(("__class__" : Str), cloOf K f)]) && (decide (fd.defaults = .none) && (decide (fd.kwdefaults = .none) && (decide (fd.code = .ref (cdOf K f)) && PySem.W.codeIn K (.ref (cdOf K f)) qual)))))
  | _ => false
theorem fnB_ok {K : PySem.W.Frag} {f : Addr} {qual nm : Str} {A : Arguments} {B : List Stmt} {S : Scope} (e : fnC K f = (some (nm, qual, A, FuncBody.stmts B, S) : FnC)) (h : fnB K f qual = true) :
    ∃ (oc : Value) (od : Option Addr) (doc pm : Value) (an : Option Addr) (ct : Value) (osl : Array (Option Value)), K.lookup f = some ⟨oc, od, .func (PySem.W.ksFn nm qual A B S .none .none doc pm an (.ref (cdOf K f)) ct (cloOf K f)), osl⟩ ∧ PySem.W.codeIn K (.ref (cdOf K f)) qual = true := by
  unfold fnC at e
  unfold fnB at h
  cases q : K.lookup f with
  | none => rw [q] at h; cases h
  | some o =>
    obtain ⟨oc, od, dt, osl⟩ := o
    rw [q] at h e
    cases dt with
    | func fd =>
      obtain ⟨n1, n2, n3, n4, n5, n6, n7, n8, n9, n10, n11, n12, n13, n14, n15⟩ := fd
      have e2 : (some (n1, n2, n3, n4, n5) : FnC) = some (nm, qual, A, FuncBody.stmts B, S) := e
      simp only [Option.some.injEq, Prod.mk.injEq] at e2
      obtain ⟨h1, h2, h3, h4, h5⟩ := e2
      subst h1 h2 h3 h4 h5
      obtain ⟨c1, h⟩ := ba h
      obtain ⟨c2, h⟩ := ba h
      obtain ⟨c3, h⟩ := ba h
      obtain ⟨c4, h⟩ := ba h
      obtain ⟨c5, h⟩ := ba h
      obtain ⟨c6, c7⟩ := ba h
      have c1 := of_decide_eq_true c1
      have c2 := of_decide_eq_true c2
      have c3 := of_decide_eq_true c3
      have c4 := of_decide_eq_true c4
      have c5 := of_decide_eq_true c5
      have c6 := of_decide_eq_true c6
      dsimp only at c1 c2 c3 c4 c5 c6
      refine ⟨oc, od, n10, n11, n12, n14, osl, ?_, c7⟩
      rw [c1, c2, c3, c4, c5, c6]
    | _ => cases h
def codeB (P : Program) (K : PySem.W.Frag) (cda : Addr) : Bool := match K.lookup cda with
  | some ⟨_, _, .fields vs, _⟩ => (match (vs[2]? : Option Value) with
    | some (.str file _) => (P.main.file : Str) == file
    | _ => false)
  | _ => false
theorem codeB_ok {P : Program} {K : PySem.W.Frag} {cda : Addr} (h : codeB P K cda = true) : ∃ (ccl : Value) (cdd : Option Addr) (vs : Array Value) (ccs : Array (Option Value)) (file : Str) (tf : Tok), K.lookup cda = some ⟨ccl, cdd, .fields vs, ccs⟩ ∧ vs[2]? = some (.str file tf) ∧ ((P.main.file : Str) == file) = true := by
  unfold codeB at h
  split at h
  · rename_i oc od vs osl q
    split at h
    · rename_i file tf e
      exact ⟨oc, od, vs, osl, file, tf, q, e, h⟩
    · cases h
  · cases h
def cellB (K : PySem.W.Frag) (cc C : Addr) : Bool := match K.lookup cc with
  | some ⟨_, _, .cell (some (.ref D)), _⟩ => decide (D = C)
  | _ => false
theorem cellB_ok {K : PySem.W.Frag} {cc C : Addr} (h : cellB K cc C = true) : ∃ (cl : Value) (cld : Option Addr) (csl : Array (Option Value)), K.lookup cc = some ⟨cl, cld, .cell (some (.ref C)), csl⟩ := by
  unfold cellB at h
  split at h
  · rename_i oc od D osl q
    have e := of_decide_eq_true h
    subst e
    exact ⟨oc, od, osl, q⟩
  · cases h
def errB (P : Program) (cn f qual : Str) (K : PySem.W.Frag) : Bool :=
  clsB K (ga K cn) && (fnB K (ini K cn) qual && (codeB P K (cdOf K (ini K cn)) && (cellB K (cloOf K (ini K cn)) (ga K cn) &&
  (eqO (PySem.W.findIn K (.ref (ga K cn)) "__setattr__") (some (some (.builtin "object.__setattr__"))) && (eqO (PySem.W.findIn K (.ref (ga K cn)) "__getattribute__") (some (some (.builtin "BaseException.__getattribute__"))) &&
  (eqO (PySem.W.findIn K (.ref (ga K cn)) "__getattr__") (some none) && (eqO (PySem.W.findIn K (.ref (ga K cn)) f) (some none) && (eqO (PySem.W.findIn K (.ref (ga K cn)) "__init__") (some (some (.ref (ini K cn)))) &&
  (decide (PySem.W.typeIn K (.ref (ini K cn)) = some (.type "function")) && (PySem.W.keepIn K (.ref (ga K cn)) && (decide (PySem.W.subIn K (.ref (ga K cn)) (.type "BaseException") = some true) && (decide (PySem.W.subIn K (.ref (ga K cn)) (.type "ValueError") = some true) &&
  (decide (PySem.W.typeIn K (.ref (ga K cn)) = some (.type "type")) && (PySem.W.hasDictIn K (ga K cn) && (decide (PySem.W.exmOne K (.ref (ga K cn)) (.ref (ga K cn)) = some true) && eqO (PySem.W.nsIn K PySem.cStatics "thirdparty.any") (some none))))))))))))))))
theorem err_ok {P : Program} {K : PySem.W.Frag} {h : Heap} {mg : Str → Option Value} {cn f qual : Str} (X : K.In h) (G : h.Ns mainGlobals mg) (gC : (Fa.glo cn).ok K = true) (gS : (Fa.free "super").ok K = true) (top : (P.main.scope.names.lookup ("super" : Str)).isSome = false)
    {p1 p2 a1 a2 a3 a4 a5 a6 q1 q2 q3 q4 : Pos} (e : fnC K (ini K cn) = (some ((("__init__" : Str)), qual, eA f p1 p2, FuncBody.stmts (eB f a1 a2 a3 a4 a5 a6 q1 q2 q3 q4), eS f) : FnC)) (c : errB P cn f qual K = true)
    (ev : ∀ L fI cda cc : Addr, ∃ pl : Sem Bool, eval (.Call (.Attribute (.Call (.Name "super" a1) [] [] a2) "__init__" a3) [.Name f a4] [] a5) (PySem.W.ksEnv qual (eS f) L fI (.ref cda) cc) = (do
        let ov ← attributeBase (.Call (.Name "super" a1) [] [] a2) "__init__" (PySem.W.ksEnv qual (eS f) L fI (.ref cda) cc) (eval (.Call (.Name "super" a1) [] [] a2) (PySem.W.ksEnv qual (eS f) L fI (.ref cda) cc))
        standAt a3.atName
        let (fv, first) ← holding [ov] (getMethod ov "__init__" pl)
        callWith a5 fv first (backTo a5 (starEach [.Name f a4] (PySem.W.ksEnv qual (eS f) L fI (.ref cda) cc))) []))
    (sw1 : ∀ L fI cda cc : Addr, swapsWith (.Call (.Attribute (.Call (.Name "super" a1) [] [] a2) "__init__" a3) [.Name f a4] [] a5) none a6.line (PySem.W.ksEnv qual (eS f) L fI (.ref cda) cc) = pure false)
    (sw2 : ∀ L fI cda cc : Addr, swapsWith (.Name f q3) (some (.Attribute (.Name "self" q1) f q2)) q4.line (PySem.W.ksEnv qual (eS f) L fI (.ref cda) cc) = pure false) :
    ErrTxt P K mg cn f (ga K cn) (ini K cn) (cloOf K (ini K cn)) (cdOf K (ini K cn)) qual := by
  obtain ⟨c1, c⟩ := ba c
  obtain ⟨c2, c⟩ := ba c
  obtain ⟨c3, c⟩ := ba c
  obtain ⟨c4, c⟩ := ba c
  obtain ⟨c5, c⟩ := ba c
  obtain ⟨c6, c⟩ := ba c
  obtain ⟨c7, c⟩ := ba c
  obtain ⟨c8, c⟩ := ba c
  obtain ⟨c9, c⟩ := ba c
  obtain ⟨c10, c⟩ := ba c
  obtain ⟨c11, c⟩ := ba c
  obtain ⟨c12, c⟩ := ba c
  obtain ⟨c13, c⟩ := ba c
  obtain ⟨c14, c⟩ := ba c
  obtain ⟨c15, c⟩ := ba c
  obtain ⟨c16, c17⟩ := ba c
  obtain ⟨oc, od, doc, pm, an, ct, osl, lk, hcd⟩ := fnB_ok e c2
  exact {
    gC := glo_ok X G gC, noS := free_ok X G gS, cls := clsB_ok c1, sa := eqO_ok c5, ga := eqO_ok c6, gg := eqO_ok c7, noN := eqO_ok c8, iC := eqO_ok c9, tC := of_decide_eq_true c10, kC := c11,
    exC := of_decide_eq_true c12, veC := of_decide_eq_true c13, tyC := of_decide_eq_true c14, hdC := c15, te := of_decide_eq_true c16, nop := eqO_ok c17, top := top,
    fn := ⟨oc, od, doc, pm, an, ct, osl, p1, p2, a1, a2, a3, a4, a5, a6, q1, q2, q3, q4, lk, hcd, fun L => ev L _ _ _, fun L => sw1 L _ _ _, fun L => sw2 L _ _ _⟩,
    code := codeB_ok c3, cell := cellB_ok c4 }

/-! ## the Hook: He's, and the texts of the errors' __init__ -/
abbrev AlZ : Type := AlX × List FnC
/-- the addresses that are looked at: those grown from the globals, and the statics' -/
def frZ (g : Addr → Option Obj) (n : Nat) : PySem.W.Frag := frT g (PySem.cStatics :: asD g n)
def obsZ (n : Nat) (fa : List Fa) (fn : List DefD) (ts : List Tab) (tf : List Defn) (ex : PySem.W.Frag → Bool) (es : List Str) (g : Addr → Option Obj) : AlZ := ((obsT fa fn ts (frZ g n), ex (frZ g n) && tabsB g tf (frZ g n)), es.map fun cn => fnC (frZ g n) (ini (frZ g n) cn))
def valZ (fn : List DefD) (ts : List Tab) (vs : List FnC) (w : World) : AlZ := (valX fn ts w, vs)
theorem tabs_at {g : Addr → Option Obj} {tf : List Defn} {K : PySem.W.Frag} (h : tabsB g tf K = true) {p : Defn} (hp : p ∈ tf) : PySem.W.codeHdIn K (cT K p).1 (cT K p).2 = true ∧ ∃ o, g (cT K p).2 = some o ∧ emptyTab o = true := by
  unfold tabsB at h
  have u := List.all_eq_true.mp h p hp
  rw [Bool.and_eq_true] at u
  refine ⟨u.1, ?_⟩
  have u2 := u.2
  cases q : g (cT K p).2 with
  | none => rw [q] at u2; cases u2
  | some o => rw [q] at u2; exact ⟨o, rfl, u2⟩
theorem saysZ_of {n : Nat} {fa : List Fa} {fn : List DefD} {ts : List Tab} {tf : List Defn} {ex : PySem.W.Frag → Bool} {w : World} {h : Heap} (e : (obsT fa fn ts (frZ h.get? n), ex (frZ h.get? n) && tabsB h.get? tf (frZ h.get? n)) = valX fn ts w) : SaysX fa fn ts tf ex w h (frZ h.get? n) := by
  obtain ⟨z1, z2⟩ := Prod.mk.inj e
  rw [Bool.and_eq_true] at z2
  refine ⟨z1, z2.1, fun p hp => (tabs_at z2.2 hp).1, fun p hp => ?_, fun p hp => ?_⟩
  · obtain ⟨_, o, q, z⟩ := tabs_at z2.2 hp
    exact frT_none q z
  · obtain ⟨_, o, q, z⟩ := tabs_at z2.2 hp
    rw [emptyTab_eq z] at q
    exact q
structure SaysZ (fa : List Fa) (fn : List DefD) (ts : List Tab) (tf : List Defn) (ex : PySem.W.Frag → Bool) (es : List Str) (vs : List FnC) (w : World) (h : Heap) (K : PySem.W.Frag) : Prop where
  x : SaysX fa fn ts tf ex w h K
  e : es.map (fun cn => fnC K (ini K cn)) = vs
def hookZ (n : Nat) (fa : List Fa) (fn : List DefD) (ts : List Tab) (tf : List Defn) (ex : PySem.W.Frag → Bool) (es : List Str) (vs : List FnC) : PySem.W.Hook where
  α := AlZ
  obs := fun s => obsZ n fa fn ts tf ex es s.heap.get?
  val := fun w => valZ fn ts vs w
  says := fun w h => ∃ K : PySem.W.Frag, K.In h ∧ SaysZ fa fn ts tf ex es vs w h K
  of := fun w s e => ⟨frZ s.heap.get? n, frT_in, saysZ_of (congrArg (fun z : AlZ => z.1) e), congrArg (fun z : AlZ => z.2) e⟩
  keeps := fun _ _ _ ⟨K, hK, c⟩ k => ⟨K, PySem.W.Frag.In.keeps hK k, ⟨c.x.t, c.x.more, c.x.hd, c.x.out, fun p hp => k _ _ (c.x.empty p hp)⟩, c.e⟩
theorem obsZ_eq {n : Nat} {fa : List Fa} {fn : List DefD} {ts : List Tab} {tf : List Defn} {ex : PySem.W.Frag → Bool} {es : List Str} {vs : List FnC} {g : Addr → Option Obj} {s : Shared} (h : ∀ a, g a = s.heap.get? a) : obsZ n fa fn ts tf ex es g = (hookZ n fa fn ts tf ex es vs).obs s := by
  have e : g = s.heap.get? := funext h
  rw [e] <;> rfl
/-- a def's code -/
theorem code_of {K : PySem.W.Frag} {p : Defn} {x qual : Str} {params : Arguments} {body : List Stmt} {scope : Scope} {fd : FuncData} (F : FunD K x qual params body scope [] [] (fAd K p) fd) : fd.code = .ref (codeOf K p) := by
  obtain ⟨oc, od, dV, kV, doc, pm, an, cdv, ct, osl, rfl, lk, hcd, _, _⟩ := F.ex
  obtain ⟨c, rfl⟩ := codeIn_ref hcd
  show Value.ref c = _
  rw [codeOf_eq lk rfl]
/-- the script stands: frozen, or a list that nobody else tells -/
theorem script_sp {K : PySem.W.Frag} {H : Hp} {a Pt : Addr} {ns : List Int} {qn : Str} {sp : DSp} (hT : H Pt = some (.tbl #[])) (hS : SqL K H a (ns.map V.int))
    (h : ∀ (l : Bool) (G : GH), DL.OneTab Pt qn G → sp [if l = true then D.lst (ns.map .int) else .scr (ns.map .int)] G (fun d _ => d = .bl true) noX) : liftSp K sp [.ref a] H (fun v _ => v = .bl true) fun _ _ _ => False := by
  have rl : ∀ {K : PySem.W.Frag} {P : Addr → Prop} {G : GH} {H : Hp} (ns : List Int), RepL K P G H (ns.map V.int) (ns.map D.int) := by
    intro K P G H ns
    induction ns with
    | nil => exact .nil
    | cons n ns ih => exact .cons (.int n) ih
  have gg : ∀ b g, (if b = Pt then (some (.tab qn) : Option GO) else none) = some g → b = Pt ∧ g = .tab qn := by
    intro b g e
    by_cases z : b = Pt
    · rw [if_pos z] at e
      cases e
      exact ⟨z, rfl⟩
    · rw [if_neg z] at e
      cases e
  have ot : DL.OneTab Pt qn (fun b => if b = Pt then some (.tab qn) else none) := ⟨if_pos rfl, fun b q e => by
    obtain ⟨z, e⟩ := gg b _ e
    injection e with e
    exact ⟨z, e⟩⟩
  have r : Rl K (fun _ => False) (fun b => if b = Pt then some (.tab qn) else none) H := ⟨fun b g e => by
    obtain ⟨z, rfl⟩ := gg b _ e
    rw [z]
    exact LamX.TabS.nil hT, fun b z => z.elim⟩
  have fin : ∀ (l : Bool), Rep K (fun _ => False) (fun b => if b = Pt then some (.tab qn) else none) H (.ref a) (if l = true then D.lst (ns.map .int) else .scr (ns.map .int)) → liftSp K sp [.ref a] H (fun v _ => v = .bl true) fun _ _ _ => False := fun l hr =>
    ⟨_, fun _ => False, _, _, noX, .cons hr .nil, r, h l _ ot, fun d G' v H' q _ _ p => by
      subst q
      cases p
      rfl, fun x G' cls d H' q => q.elim⟩
  rcases hS with (hS | ⟨o, hS⟩) | hS
  · refine fin true (.lst hS (if_neg fun z => ?_) id (rl ns))
    rw [z, hT] at hS; cases hS
  · exact fin false (.frz (.inl ⟨o, hS⟩) (rl ns))
  · exact fin false (.frz (.inr hS) (rl ns))
theorem cx_out {P : Program} {w : World} {H : Hp} {s : Shared} {e : Value} {s' : Shared} (h : L2.CX P w [] H s (fun _ _ _ => False) e s') : False := by
  obtain ⟨_, _, _, _, _, _, _, _, _, _, _, _, z⟩ := h
  exact z
end HX

end

section
set_option Elab.async false
set_option linter.all false
set_option maxRecDepth 100000
set_option maxHeartbeats 1000000
namespace DL
open PySem PySem.Spec PyProof.Rows L2
/-! ## sep.join -/
theorem rep_strs {K : PySem.W.Frag} {P : Addr → Prop} {G : GH} {H : Hp} : ∀ {xs : List V} {ys : List Str}, RepL K P G H xs (ys.map .str) → xs = ys.map V.str
  | _, [], t => by cases t; rfl
  | _, b :: bs, t => by
    cases t with
    | cons h t =>
      cases h
      have e := rep_strs t
      rw [e, List.map_cons]
def joinF : Str → D → GH → DK → Prop := fun a y G Q => match asQ y G with
  | some ds => ∃ ys : List Str, ds = ys.map .str ∧ (ys.map (·.length)).sum + ys.length * a.length ≤ 16777216 ∧ Q (.str (Txt.join a ys)) G
  | none => False
def dJoin (to te : DE) : DE := fun ρ G Q => to ρ G fun d G1 => ∃ a, d = .str a ∧ te ρ G1 fun y G2 => joinF a y G2 Q
section
variable {X : Cx} {c : DC} {o e : Expr} {to te : DE} {apos pos : Pos}
theorem d_join (ho : PE X o (lE X.K c to)) (he : PE X e (lE X.K c te)) (hs : starEach [e] X.env = [(false, eval e X.env)] := by rfl) (hbase : attributeBase o "join" X.env (eval o X.env) = eval o X.env := by rfl) (hline : (apos.endLine == pos.line) = true := by rfl) :
    PE X (.Call (.Attribute o "join" apos) [e] [] pos) (lE X.K c (dJoin to te)) :=
  PE_imp (pe_join ho he hs hbase hline) fun σ H Q ⟨ρ, G, QD, u, h, k⟩ => ⟨ρ, G, _, u, h, fun d G1 v H1 q s1 r1 p1 => by
    obtain ⟨a, rfl, q⟩ := q
    cases p1
    refine ⟨⟨a, rfl⟩, ρ, G1, _, u.step s1 r1, q, fun y G2 w H2 q2 s2 r2 p2 => ?_⟩
    unfold joinF at q2
    split at q2
    · rename_i ds eds
      obtain ⟨ys, rfl, hz, q2⟩ := q2
      obtain ⟨p, xs, rfl, h1, t⟩ := asQ_rep r2 p2 eds
      exact ⟨a, p, ys, rfl, rfl, by rw [← rep_strs t]; exact h1, hz, k _ _ _ _ q2 (s1.trans s2) r2 (.str _)⟩
    · exact q2.elim⟩
/-- a < b < c, where a test stands -/
theorem dt_chain {op op' : CmpOp} {r r' : R2D} {a b e2 : Expr} {ta tb tc : DE} (ho : OpD X (compareOp op) r) (ho' : OpD X (compareOp op') r') (ha : PE X a (lE X.K c ta)) (hb : PE X b (lE X.K c tb)) (hc : PE X e2 (lE X.K c tc))
    (hm : lastMarks [op, op'] [b, e2] = false := by with_unfolding_all rfl) : PT X (.Compare a [op, op'] [b, e2] pos) (lT X.K c (dTst (dChain r r' ta tb tc))) :=
  PT_imp (pt_chain (ho c.P) (ho' c.P) ha hb hc hm) fun σ H Q ⟨ρ, G, QD, u, h, k⟩ => chain_imp (Q := fun x H' => ∃ k, x = .bl k ∧ Q k H') ⟨ρ, G, isB QD, u, h, fun d G' v H' q s r p => by
    cases p with
    | bl b => exact ⟨b, rfl, k _ _ _ q s r⟩
    | _ => exact (show False from q).elim⟩
end
end DL

end

section
set_option Elab.async false
set_option linter.all false
set_option maxRecDepth 100000
set_option maxHeartbeats 1000000
namespace DL
open PySem PySem.Spec PyProof.Rows L2 PySem.W
/-! ## sum of a list's or a tuple's ints -/
theorem cr_sumA {X : Cx} (hc : X.calm = true) : CallR X (.builtin "sum") (fun vs H Q => ∃ (a : Addr) (ns : List Int), vs = [V.ref a] ∧ (SqL X.K H a (ns.map V.int) ∨ SqT X.K H a (ns.map V.int)) ∧ Q (.int ns.sum) H) := by
  intro pins s σ H vs us Q I r h
  obtain ⟨a, ns, rfl, hs | hs, q⟩ := h
  · exact cr_sum hc pins s σ H _ us Q I r ⟨a, ns, rfl, hs, q⟩
  · obtain ⟨its, rv, hl, _⟩ := I.tuple hs
    rw [Vals.ref1 r]
    have hi := rv.ints
    obtain ⟨xs, hx⟩ := hi.allInts.items
    have hn : numsOf its.toArray.toList = ns := by rw [show its.toArray.toList = its from rfl, hi.numsOf]
    have hl2 : s.heap.IsTuple a its.toArray := hl
    rw [hx] at hl2 hn
    rw [nums_intItems] at hn
    refine ktm_sumG (I.ok.hd hc) hl2 fun h' tk t' hk => ?_
    rw [preSum_eq, List.take_of_length_le (by simp), hn]
    exact ⟨.int _, H, I.kept hk, ⟨_, rfl⟩, q⟩
theorem rep_ints {K : PySem.W.Frag} {P : Addr → Prop} {G : GH} {H : Hp} : ∀ {xs : List V} {ns : List Int}, RepL K P G H xs (ns.map .int) → xs = ns.map V.int
  | _, [], t => by cases t; rfl
  | _, b :: bs, t => by
    cases t with
    | cons h t =>
      cases h
      have e := rep_ints t
      rw [e, List.map_cons]
def sumF : D → GH → DK → Prop := fun d G Q => match asQ d G with
  | some ds => ∃ ns : List Int, ds = ns.map .int ∧ Q (.int ns.sum) G
  | none => False
theorem cd_sum {X : Cx} (hc : X.calm = true) : CallD X (.builtin "sum") (on1 sumF) := cd_one' (cr_sumA hc) fun P H v d G QD Q r h q k => by
  unfold sumF at q
  split at q
  · rename_i ds e
    obtain ⟨ns, rfl, q⟩ := q
    obtain ⟨p, xs, rfl, h1, t⟩ := asQ_rep r h e
    exact ⟨p, ns, rfl, by rw [← rep_ints t]; exact h1, here k r q (.int _)⟩
  · exact q.elim
theorem dl_sum {X : Cx} {c : DC} {e : Expr} {te : DE} {p pos : Pos} (hm : X.mg "sum" = none) (hc : X.calm = true) (he : PE X e (lE X.K c te)) (hg : Gl X "sum" := by rfl) (hs : starEach [e] X.env = (false, eval e X.env) :: starEach [] X.env := by rfl) (hpl : (backTo pos (starEach [] X.env)).any (·.1) = false := by rfl) : PE X (.Call (.Name "sum" p) [e] [] pos) (lE X.K c (dF1 sumF te)) :=
  d_callB (cd_sum hc) hg hm (by decide +kernel) (da_cons he da_nil hs) (he := hs) (hpl := hpl)
end DL

end

section
set_option Elab.async false
set_option linter.all false
set_option maxRecDepth 100000
set_option maxHeartbeats 1000000
namespace DL
open PySem PySem.Spec PyProof.Rows L2
/-! ## zip of a tuple with a list -/
abbrev mixH1 (h : Heap) (a : Addr) : Heap := h.push { cls := .type "tuple_iterator", data := .fields #[.ref a, .int 0 0] }
abbrev mixH2 (h : Heap) (a b : Addr) : Heap := (mixH1 h a).push { cls := .type "list_iterator", data := .fields #[.ref b, .int 0 0] }
abbrev mixH3 (h : Heap) (a b : Addr) : Heap := (mixH2 h a b).push { cls := .type "tuple", data := .seq #[.ref h.objs.size, .ref (mixH1 h a).objs.size] }
abbrev mixH4 (h : Heap) (a b : Addr) : Heap := (mixH3 h a b).push { cls := .type "tuple", data := .seq #[.none, .none] }
abbrev mixH5 (h : Heap) (a b : Addr) : Heap := (mixH4 h a b).push { cls := .type "zip", data := .fields #[.none, .bool false, .bool false, .ref (mixH2 h a b).objs.size, .ref (mixH3 h a b).objs.size] }
theorem meets_mix (a b : Addr) (xs ys : Array Value) :
    Meets (Builtin.«zip.__new__» ⟨[.type "zip", .ref a, .ref b], []⟩) (fun _ R s => s.heap.IsTuple a xs ∧ s.heap.IsList b ys ∧
      R (.ok (.ret (.ref (mixH4 s.heap a b).objs.size))) { s with heap := mixH5 s.heap a b }) :=
  .of_wp fun prog w A R s h => by
    obtain ⟨hp, gg, dr, tk, os⟩ := s
    obtain ⟨ha, hb, h⟩ := h
    have hsub := sub_zip
    have hA : Heap.IsTuple (Shared.heap ⟨hp, gg, dr, tk, os⟩) a xs := ha
    have hB : Heap.IsList (Shared.heap ⟨hp.push { cls := .type "tuple_iterator", data := .fields #[.ref a, .int 0 0] }, gg, dr, tk, os⟩) b ys := Heap.IsList.push hb _
    wp_walk using wpAny_pyIter_tuple hA, wpAny_pyIter_list hB
    exact ⟨_, rfl, h⟩
section
variable {prog : Program} {w : World} {A : Around} {E : Value → Shared → Prop} {s : Shared}
theorem call_mix {a b : Addr} {xs ys : Array Value} {Q : Value → Shared → Prop} (ha : s.heap.IsTuple a xs) (hb : s.heap.IsList b ys)
    (h : ∀ h', IsZip h' (s.heap.objs.size + 4) (s.heap.objs.size + 2) (s.heap.objs.size + 3) .none → IsPair h' (s.heap.objs.size + 2) (.ref s.heap.objs.size) (.ref (s.heap.objs.size + 1)) →
      IsPair h' (s.heap.objs.size + 3) .none .none → h'.IsTupleIter s.heap.objs.size a 0 → h'.IsListIter (s.heap.objs.size + 1) b 0 → (∀ c o, s.heap.get? c = some o → h'.get? c = some o) → Q (.ref (s.heap.objs.size + 4)) { s with heap := h' }) :
    wpAny (model prog w) A (call (.type "zip") [.ref a, .ref b]) Q E s := by
  refine callType_new F.called_zip (by decide) (F.typeCall_zip_2 _ _) (F.newCall_zip_2 _ _) (fun obj => F.args_object_init_3 obj _ _) F.entry_zip_new (meets_mix a b xs ys) ⟨ha, hb, ?_⟩
  have n1 : (mixH1 s.heap a).objs.size = s.heap.objs.size + 1 := Heap.size_push ..
  have n2 : (mixH2 s.heap a b).objs.size = s.heap.objs.size + 2 := by rw [Heap.size_push, n1]
  have n3 : (mixH3 s.heap a b).objs.size = s.heap.objs.size + 3 := by rw [Heap.size_push, n2]
  have n4 : (mixH4 s.heap a b).objs.size = s.heap.objs.size + 4 := by rw [Heap.size_push, n3]
  have e5 : (mixH5 s.heap a b).get? (mixH4 s.heap a b).objs.size = some _ := Heap.get?_push_size _ rfl
  have e4 : (mixH5 s.heap a b).get? (mixH3 s.heap a b).objs.size = some _ := Heap.get?_push_of_some _ (Heap.get?_push_size _ rfl)
  have e3 : (mixH5 s.heap a b).get? (mixH2 s.heap a b).objs.size = some _ := Heap.get?_push_of_some _ (Heap.get?_push_of_some _ (Heap.get?_push_size _ rfl))
  have e2 : (mixH5 s.heap a b).get? (mixH1 s.heap a).objs.size = some _ := Heap.get?_push_of_some _ (Heap.get?_push_of_some _ (Heap.get?_push_of_some _ (Heap.get?_push_size _ rfl)))
  have e1 : (mixH5 s.heap a b).get? s.heap.objs.size = some _ := Heap.get?_push_of_some _ (Heap.get?_push_of_some _ (Heap.get?_push_of_some _ (Heap.get?_push_of_some _ (Heap.get?_push_size _ rfl))))
  show _ ∧ _
  rw [n2, n3, n4] at e5
  rw [n1, n2] at e3
  rw [n3] at e4
  rw [n1] at e2
  rw [n4]
  exact ⟨⟨_, e5, rfl⟩, h _ e5 e3 e4 ⟨_, e1, rfl, rfl⟩ ⟨_, e2, rfl, rfl⟩ fun c o x =>
    Heap.get?_push_of_some _ (Heap.get?_push_of_some _ (Heap.get?_push_of_some _ (Heap.get?_push_of_some _ (Heap.get?_push_of_some _ x))))⟩
end
/-- a tuple at a and a list at b, as they stand at each turn -/
def ItM (K : PySem.W.Frag) (a b : Addr) : It :=
  ⟨fun i H => ∃ (xs ys : List V) (x y : V), SqT K H a xs ∧ SqL K H b ys ∧ xs[i]? = some x ∧ ys[i]? = some y,
    fun i H v H' => ∃ T x y, v = .ref T ∧ H T = none ∧ H' = upd H T (.tup [x, y]) ∧ (∀ xs, SqT K H a xs → xs[i]? = some x) ∧ ∀ ys, SqL K H b ys → ys[i]? = some y,
    fun i H => ∃ xs ys : List V, SqT K H a xs ∧ SqL K H b ys ∧ (xs.length ≤ i ∨ ys.length ≤ i)⟩
theorem mix_sep {z TI TO i1 i2 a b : Addr} (D : ZipApart z TI TO i1 i2 a b) : PySem.ZipSep2 z TI TO i1 i2 [i1, a] [i2, b] :=
  ⟨D.TIz, D.TOz, D.TITO, D.TIi1, by simp, by simp [D.i1z.symm, D.l1z.symm], by simp [D.TOi1, D.l1TO.symm], D.TIi2, by simp, by simp [D.i2z.symm, D.l2z.symm], by simp [D.TOi2, D.l2TO.symm], by simp [D.i12, D.l2i1.symm], by simp [D.i12.symm, D.l1i2.symm]⟩
/-- what is still to come from place k on -/
theorem rest_tup {prog : Program} {w : World} {A : Around} (hh : A.handled = none) (it t : Addr) (hne : t ≠ it) (xs : Array Value) (k : Nat) :
    Draws prog w A it [it, t] (xs.size - k) (fun j v => xs[k + j]? = some v) (fun j h => h.IsTupleIter it t (k + j) ∧ h.IsTuple t xs) where
  live := fun _ _ st => let ⟨o, ho, _⟩ := st.1; ⟨o, ho⟩
  frame := fun _ _ _ st hk => ⟨st.1.at fun o e => hk it (by simp) o e, st.2.at fun o e => hk t (by simp) o e⟩
  item := fun j s Q E hj st hQ => by
    have hx : xs[k + j]? = some (xs[k + j]'(by omega)) := by simp
    exact RZ.nextOf_tuple_item st.1 st.2 hx fun h' p q => hQ _ h' s.toks hx ⟨p, st.2.extBut q.extBut hne⟩ q
  done := fun s Q E st hE => RZ.nextOf_tuple_end hh st.1 st.2 (by simp; omega) hE
theorem rest_lst {prog : Program} {w : World} {A : Around} (hh : A.handled = none) (it t : Addr) (hne : t ≠ it) (xs : Array Value) (k : Nat) :
    Draws prog w A it [it, t] (xs.size - k) (fun j v => xs[k + j]? = some v) (fun j h => h.IsListIter it t (k + j) ∧ h.IsList t xs) where
  live := fun _ _ st => let ⟨o, ho, _⟩ := st.1; ⟨o, ho⟩
  frame := fun _ _ _ st hk => ⟨st.1.at fun o e => hk it (by simp) o e, st.2.at fun o e => hk t (by simp) o e⟩
  item := fun j s Q E hj st hQ => by
    have hx : xs[k + j]? = some (xs[k + j]'(by omega)) := by simp
    exact wpAny_nextOf_list_item st.1 st.2 hx fun h' p q => hQ _ h' s.toks hx ⟨p, st.2.extBut q.extBut hne⟩ q
  done := fun s Q E st hE => wpAny_nextOf_list_end hh st.1 st.2 (by simp; omega) hE
theorem turn_mix {P : Program} {w : World} {K : PySem.W.Frag} {elts : List Expr} {kk : Nat} {tpos : Pos} {a b z TI TO i1 i2 : Addr} (D : ZipApart z TI TO i1 i2 a b) :
    Turn P w K (.Tuple elts kk tpos) (ItM K a b) [z, TI, TO, i1, i2] z (fun i h => IsZip h z TI TO .none ∧ IsPair h TI (.ref i1) (.ref i2) ∧ (∃ x y, IsPair h TO x y) ∧ h.IsTupleIter i1 a i ∧ h.IsListIter i2 b i) where
  mem := by simp
  obj := fun i h ⟨hz, hTI, ⟨x, y, hTO⟩, ⟨o1, e1, _, d1⟩, ⟨o2, e2, _, d2⟩⟩ c hc => by
    simp only [List.mem_cons, List.not_mem_nil, or_false] at hc
    rcases hc with rfl | rfl | rfl | rfl | rfl
    · exact ⟨_, hz, fun v q => nomatch q⟩
    · exact ⟨_, hTI, fun v q => nomatch q⟩
    · exact ⟨_, hTO, fun v q => nomatch q⟩
    · exact ⟨o1, e1, fun v q => by rw [d1] at q; cases q⟩
    · exact ⟨o2, e2, fun v q => by rw [d2] at q; cases q⟩
  keep := fun i h h' ⟨hz, hTI, ⟨x, y, hTO⟩, h1, h2⟩ k =>
    ⟨k z (by simp) _ hz, k TI (by simp) _ hTI, ⟨x, y, k TO (by simp) _ hTO⟩, h1.at fun o q => k i1 (by simp) o q, h2.at fun o q => k i2 (by simp) o q⟩
  item := by
    rintro X rfl rfl rfl hc i pins s σ H E I hf ⟨hz, hTI, ⟨x0, y0, hTO⟩, h1, h2⟩ ⟨xs, ys, x, y, hqx, hqy, hx, hy⟩
    obtain ⟨its, rv, p, _⟩ := I.tuple hqx
    obtain ⟨its2, rv2, p2, _⟩ := I.list hqy
    obtain ⟨u, hu, ru⟩ := rv.get hx
    obtain ⟨u2, hu2, ru2⟩ := rv2.get hy
    have l1 : i < its.length := (List.getElem?_eq_some_iff.mp hu).1
    have l2 : i < its2.length := (List.getElem?_eq_some_iff.mp hu2).1
    have hzl : z < s.heap.objs.size := Heap.lt_size hz
    have t1 : s.heap.IsTuple a its.toArray := p
    refine PySem.wpAny_pyNext_zipD2_item (i := 0) (mix_sep D) (rest_tup (A := X.A.in1) (show X.A.in1.handled = none from I.ok.hd hc) i1 a D.l1i1 its.toArray i) (rest_lst (A := X.A.in1) (show X.A.in1.handled = none from I.ok.hd hc) i2 b D.l2i2 its2.toArray i) hz hTI hTO ⟨h1, t1⟩ ⟨h2, p2.isList⟩ (by simp; omega) (by simp; omega) fun x1 x2 h' tk e1 e2 z' TO' n1 n2 hT hsz hk => ?_
    have e1 : x1 = u := by
      have : its[i]? = some x1 := by simpa using e1
      rw [hu] at this
      exact (Option.some.inj this).symm
    have e2 : x2 = u2 := by
      have : its2[i]? = some x2 := by simpa using e2
      rw [hu2] at this
      exact (Option.some.inj this).symm
    subst e1 e2
    refine ⟨_, rfl, wpAny_letOwnedTupleGo_zip (s := { s with heap := h', toks := tk }) z' fun h'' z'' sb => ?_⟩
    have hT2 : h''.get? s.heap.objs.size = some { cls := .type "tuple", data := .seq #[x1, x2] } := (sb.2 _ (Nat.ne_of_gt hzl)).trans hT
    have new : ObjOk X.prog X.w (upd H s.heap.objs.size (.tup [x, y])) h'' s.heap.objs.size (.tup [x, y]) := ⟨by show 2 ≤ sizeLine; decide, [x1, x2], .cons ru (.cons ru2 .nil), ⟨_, hT2, rfl, _, rfl⟩⟩
    have I1 : Inv X pins σ (upd H s.heap.objs.size (.tup [x, y])) { s with heap := h'', toks := tk } :=
      I.turnedNew (t' := tk) (ch := [z, TI, TO, i1, i2]) (fun c o hb q => by
        simp only [List.mem_cons, List.not_mem_nil, or_false, not_or] at hb
        exact (sb.2 c hb.1).trans (hk c o hb.1 hb.2.2.1 hb.2.2.2.1 hb.2.2.2.2 q)) hf (Nat.le_refl _) new
    refine ⟨.ref s.heap.objs.size, _, I1, rfl, ⟨_, x, y, rfl, I.hok.fresh (Nat.le_refl _), rfl, fun l hl => by rw [I.tuple_inj hl hqx]; exact hx, fun l hl => by rw [I.list_inj hl hqy]; exact hy⟩, ⟨z'', ?_, ⟨x1, x2, ?_⟩, ?_, ?_⟩, fun c hcm => ?_⟩
    · exact (sb.2 _ D.TIz).trans (hk _ _ D.TIz D.TITO D.TIi1 D.TIi2 hTI)
    · exact (sb.2 _ D.TOz).trans TO'
    · exact n1.1.at fun o q => (sb.2 _ D.i1z).trans q
    · exact n2.1.at fun o q => (sb.2 _ D.i2z).trans q
    · have hlt : c < s.heap.objs.size := by
        simp only [List.mem_cons, List.not_mem_nil, or_false] at hcm
        rcases hcm with rfl | rfl | rfl | rfl | rfl
        · exact hzl
        · exact Heap.lt_size hTI
        · exact Heap.lt_size hTO
        · obtain ⟨_, e, _⟩ := h1; exact Heap.lt_size e
        · obtain ⟨_, e, _⟩ := h2; exact Heap.lt_size e
      rw [upd_ne (Nat.ne_of_lt hlt)]
      exact (hf c hcm).1
  done := by
    rintro X rfl rfl rfl hc i pins s σ H E I hf ⟨hz, hTI, ⟨x0, y0, hTO⟩, h1, h2⟩ ⟨xs, ys, hqx, hqy, hend⟩
    obtain ⟨its, rv, p, _⟩ := I.tuple hqx
    obtain ⟨its2, rv2, p2, _⟩ := I.list hqy
    have l1 := rv.length
    have l2 := rv2.length
    have t1 : s.heap.IsTuple a its.toArray := p
    refine PySem.wpAny_pyNext_zipD2_end (i := 0) (mix_sep D) (rest_tup (A := X.A.in1) (show X.A.in1.handled = none from I.ok.hd hc) i1 a D.l1i1 its.toArray i) (rest_lst (A := X.A.in1) (show X.A.in1.handled = none from I.ok.hd hc) i2 b D.l2i2 its2.toArray i) hz hTI hTO ⟨h1, t1⟩ ⟨h2, p2.isList⟩ (Nat.zero_le _) (Nat.zero_le _) (by simp; omega) fun h' tk hk => ⟨rfl, I.turnedL (t' := tk) (ch := [z, TI, TO, i1, i2]) (fun c o hb q => ?_) hf⟩
    simp only [List.mem_cons, List.not_mem_nil, or_false, not_or] at hb
    exact hk c o hb.1 hb.2.2.1 hb.2.2.2.1 hb.2.2.2.2 q
  self := fun A i s Q E st h => wpAny_pyIter_zip st.1 h
end DL

end

section
set_option Elab.async false
set_option linter.all false
set_option maxRecDepth 100000
set_option maxHeartbeats 1000000
namespace DL
open PySem PySem.Spec PyProof.Rows L2
def iMix (K : PySem.W.Frag) (ta : TA) : TI := fun σ H R => ta σ H fun vs H1 => ∃ a b xs ys, vs = [.ref a, .ref b] ∧ SqT K H1 a xs ∧ SqL K H1 b ys ∧ R (ItM K a b) H1
theorem pi_mix {X : Cx} {e e2 : Expr} {ta : TA} {p pos tpos : Pos} {elts : List Expr} {kk : Nat} (hg : Gl X "zip") (hm : X.mg "zip" = none) (ha : PA X [e, e2] ta)
    (hs : starEach [e, e2] X.env = (false, eval e X.env) :: starEach [e2] X.env := by rfl) (hpl : (backTo pos (starEach [e2] X.env)).any (·.1) = false := by rfl) :
    PI X (.Tuple elts kk tpos) (.Call (.Name "zip" p) [e, e2] [] pos) (iMix X.K ta) := by
  refine ⟨fun pins s σ H R I h => ?_⟩
  refine Call_ (ld_blt I hg hm PyProof.Rows.boot_zip (PyProof.Rows.callWith_type1 (thn (ha.run pos pins s σ H _ I h) fun us s1 ⟨vs, H1, I1, r1, a, b, xs, ys, ex, hqx, hqy, q⟩ => ?_) hs hpl))
  subst ex
  cases r1 with
  | cons r rr =>
   cases rr with
   | cons r' rr =>
    cases rr
    cases r
    cases r'
    have fresh5 : ∀ c, c ∈ [s1.heap.objs.size + 4, s1.heap.objs.size + 2, s1.heap.objs.size + 3, s1.heap.objs.size, s1.heap.objs.size + 1] → FpOk X pins H1 c := fun c hcm => by
      have hle : s1.heap.objs.size ≤ c := by
        simp only [List.mem_cons, List.not_mem_nil, or_false] at hcm
        omega
      exact I1.fpOk hle (I1.hok.fresh hle)
    obtain ⟨its, rv, p1, _⟩ := I1.tuple hqx
    obtain ⟨its2, rv2, p2, _⟩ := I1.list hqy
    have t1 : s1.heap.IsTuple a its.toArray := p1
    obtain ⟨o1, ho1, _⟩ := id p1
    refine call_mix t1 p2.isList fun h' hz hTI hTO h1 h2 hk => wpAny_pyIter_zip hz ?_
    exact ⟨s1.heap.objs.size + 4, [s1.heap.objs.size + 4, s1.heap.objs.size + 2, s1.heap.objs.size + 3, s1.heap.objs.size, s1.heap.objs.size + 1], _, _, H1, rfl, I1.kept (t' := s1.toks) hk, turn_mix (PySem.W.ktu_apart s1.heap.objs.size a b (Heap.lt_size ho1) p2.lt), ⟨hz, hTI, ⟨_, _, hTO⟩, h1, h2⟩, fresh5, q⟩
def dZipM (ta : DA) : DI := fun ρ G Q => ta ρ G fun ds G1 => match ds with
  | [x, y] => (isT x = true ∧ isT y = false) ∧ seqD x G1 fun a ga => seqD y G1 fun b gb => Q (zipL a b) (fun G => ga G ∧ gb G) G1
  | _ => False
section
variable {K : PySem.W.Frag} {P : Addr → Prop} {G : GH} {H : Hp} {a b : Addr} {ds es : List D} {ga gb : GH → Prop}
theorem itm_ok {R S : Hp → Addr → List V → Prop} (J : It) (hgo : ∀ i H, J.go i H = ∃ (xs ys : List V) (x y : V), R H a xs ∧ S H b ys ∧ xs[i]? = some x ∧ ys[i]? = some y)
    (hy : ∀ i H v H', J.yld i H v H' = ∃ T x y, v = .ref T ∧ H T = none ∧ H' = upd H T (.tup [x, y]) ∧ (∀ xs, R H a xs → xs[i]? = some x) ∧ ∀ ys, S H b ys → ys[i]? = some y)
    (hst : ∀ i H, J.stop i H = ∃ xs ys : List V, R H a xs ∧ S H b ys ∧ (xs.length ≤ i ∨ ys.length ≤ i)) (h1 : Held K P R a ds ga G H) (h2 : Held K P S b es gb G H) : ItOk K P J (zipL ds es) (fun G => ga G ∧ gb G) G H := by
  intro P' k1 k2 i G' H' s r ⟨g1, g2⟩
  obtain ⟨xs, hx, tx⟩ := h1.later P' k1 k2 G' H' s r g1
  obtain ⟨ys, hz, ty⟩ := h2.later P' k1 k2 G' H' s r g2
  rw [zipL_len]
  refine ⟨fun hi => ?_, fun hi => by rw [hst]; exact ⟨xs, ys, hx, hz, by rw [tx.length, ty.length]; omega⟩⟩
  have l1 : i < ds.length := by omega
  have l2 : i < es.length := by omega
  obtain ⟨x, ex, px⟩ := tx.get (List.getElem?_eq_getElem l1)
  obtain ⟨y, ey, py⟩ := ty.get (List.getElem?_eq_getElem l2)
  refine ⟨by rw [hgo]; exact ⟨xs, ys, x, y, hx, hz, ex, ey⟩, fun w H2 hw => ?_⟩
  rw [hy] at hw
  obtain ⟨T, x', y', rfl, hT, rfl, f1, f2⟩ := hw
  have q1 := f1 xs hx
  have q2 := f2 ys hz
  rw [ex] at q1; cases q1
  rw [ey] at q2; cases q2
  exact ⟨_, zipL_get l1 l2, Rep.newT r hT (.cons px (.cons py .nil)), step_new hT, r.new hT⟩
end
theorem di_zipM {X : Cx} {c : DC} {e e2 : Expr} {ta : DA} {p pos tpos : Pos} {elts : List Expr} {kk : Nat} (hg : Gl X "zip") (hm : X.mg "zip" = none) (ha : PA X [e, e2] (lA X.K c ta))
    (hs : starEach [e, e2] X.env = (false, eval e X.env) :: starEach [e2] X.env := by rfl) (hpl : (backTo pos (starEach [e2] X.env)).any (·.1) = false := by rfl) :
    PI X (.Tuple elts kk tpos) (.Call (.Name "zip" p) [e, e2] [] pos) (lI X.K c (dZipM ta)) :=
  PI_imp (pi_mix hg hm ha hs hpl) fun σ H R ⟨ρ, G, QD, u, h, k⟩ => ⟨ρ, G, _, u, h, fun ds G1 vs H1 q s1 r1 p1 => by
    split at q
    · obtain ⟨v, w, rfl, p1, p2⟩ := p1.two
      obtain ⟨⟨et, eu⟩, q⟩ := q
      obtain ⟨a, da, ga, rfl, q, ha⟩ := seq_isT r1 p1 q
      obtain ⟨b, db, gb, rfl, q, hb⟩ := seq_isT r1 p2 q
      rcases ha with ⟨t1, ha⟩ | ⟨t1, ha⟩
      · rw [t1] at et; cases et
      · rcases hb with ⟨t2, hb⟩ | ⟨t2, hb⟩
        · obtain ⟨xs, hx, _⟩ := ha.now
          obtain ⟨ys, hy, _⟩ := hb.now
          exact ⟨a, b, xs, ys, rfl, hx, hy, k _ _ _ _ _ q s1 r1 (itm_ok (ItM X.K a b) (fun _ _ => rfl) (fun _ _ _ _ => rfl) (fun _ _ => rfl) ha hb)⟩
        · rw [t2] at eu; cases eu
    · exact q.elim⟩
end DL

end

section
set_option Elab.async false
set_option linter.all false
set_option maxRecDepth 100000
set_option maxHeartbeats 2000000
namespace DL
open PySem PySem.Spec PyProof.Rows L2 LamX
/-! ## the same where an int is given back -/
def TTrefI (K : PySem.W.Frag) (C : Addr) (f : Str) (ret : Int) : (XK → Hp → VK → Prop) → Hp → VK → Prop := fun tl H Q =>
  tl (fun cls d H' => ∃ b, PySem.W.exmOne K cls (.ref C) = some b ∧ (b = true → cls = .ref C ∧ ∃ dd v, d = some dd ∧ H' dd = some (.xd [(f, v)]) ∧ Q v H') ∧ (b = false → False)) H (fun _ H' => Q (.int ret) H')
section
variable {X : Cx}
theorem ref_givesI {Ng : List Str} {ret : Int} {x a cn n f q qual : Str} {sg : Scope} {g C fI cc cda : Addr} {cdg : Value} {j : Nat} {p1 p2 p3 p4 p5 p6 p7 p8 p9 p10 p11 : Pos} (T : DX.ErrTxt X.prog X.K X.mg cn f C fI cc cda qual) (hge : sg.names.lookup cn = some .globalImplicit) (hde : (cn == ("__debug__" : Str)) = false) (h0 : ∀ f : Addr, (L2.start Ng [V.ref f])[0]? = some (some (V.ref f)))
    (hN : Ng.Nodup) (h1 : Ng[1]? = some n) (hl : sg.names.lookup n = some .local) (hlen : 1 < Ng.length) (hdn : (n == ("__debug__" : Str)) = false) (hcn : (n == ("__classdict__" : Str)) = false)
    (hsw : ∀ L : Addr, swapsWith (.Call (.Name a p1) [] [] p2) none p3.line (envOfC x sg L g cdg) = pure false)
    (hb : ∀ L : Addr, attributeBase (.Name n p6) f (envOfC x sg L g cdg) (eval (.Name n p6) (envOfC x sg L g cdg)) = eval (.Name n p6) (envOfC x sg L g cdg)) :
    GivesTo X Ng x sg g cdg [.Try [.Expr (.Call (.Name a p1) [] [] p2) p3] [.ExceptHandler (some (.Name cn p4)) (some n) [.Return (some (.Attribute (.Name n p6) f p7)) p5] p8] [] [] p9, .Return (some (.Constant (.int ret) j p10)) p11] a q (TTrefI X.K C f ret) := by
  intro fl c' s H Q tl act hc h
  have hgl : Gl (cxOf C8.CX0 X.prog X.w X.K X.mg X.base Ng x sg g cdg X.A X.stack s H C8.E0).nox cn := hge
  refine ⟨_, pss_cons (ps_try_as (X := (cxOf C8.CX0 X.prog X.w X.K X.mg X.base Ng x sg g cdg X.A X.stack s H C8.E0).nox) (c := .ref C) (i := 1) (n := n) (Wout := fun _ _ _ _ => False)
      (tb := fun W D σ H => ∃ Ech : XK, (∀ cls d σ' H', σ'.length = Ng.length → Ech cls d H' → W cls d σ' H') ∧ σ[0]? = some (some (.ref fl)) ∧ H c' = some (CodeO c' q) ∧ tl Ech H (fun _ H' => D.nx σ H'))
      (ts := fun a cls d => tRet (tFld C f a cls d (tVar 1)))
      rfl rfl hN h1 hl ⟨hgl, hde, .inl T.gC⟩ L2.takes0 (fun W pn xe tk _ => ?_) (fun a oe cls d pn hz hf => pss_one (ps_ret ?_))) (pss_one (ps_ret pe_int)), ?_⟩
  · refine ⟨fun pins s' σ H' D I h' => ?_⟩
    obtain ⟨Ech, hW, h1, h2, h3⟩ := h'
    exact (pss_one (ps_expr (pos := p3) (act _ pn xe Ech p1 p2 (takes_len tk) fun cls d σ' H' e hl => hW cls d σ' H' hl e) (hsw _))).run pins s' σ H' D I ⟨h1, h2, h3⟩
  · exact pe_fld (X := (cxOf C8.CX0 X.prog X.w X.K X.mg X.base Ng x sg g cdg X.A X.stack s H C8.E0).nox) T hz hf (pe_var h1 (.inl hl) hdn hcn) (hb _)
  · refine ⟨_, fun cls d σ' H' hl ⟨b, e1, e2, e3⟩ => ⟨b, e1, fun hb a ha => ?_, fun hb => e3 hb⟩, h0 fl, hc, h⟩
    obtain ⟨ec, dd, v, ed, ev, q⟩ := e2 hb
    exact ⟨.ref a, set_at (by rw [hl]; exact hlen), rfl, ec, dd, v, ed, ev, q⟩
/-! ## in data -/
def dRefI (Pt : Addr) (qn : Str) (C : Addr) (f : Str) (ret : Int) (t : DXK → DE) : DE := fun ρ G Q => OneTab Pt qn G ∧ t (fun x G' => x.cls = C ∧ x.fld = f ∧ Q x.val G') ρ G (fun _ G' => Q (.int ret) G')
variable {c : DC}
theorem d_refI {Pt C fI cc cda : Addr} {cn f qual : Str} {ret : Int} (T : DX.ErrTxt X.prog X.K X.mg cn f C fI cc cda qual) {x a : Str} {g ca : Addr} {k : Nat} {pg : Arguments} {bg : List Stmt} {sg : Scope} {dV kV doc pm cdv ct oc : Value} {an od : Option Addr} {osl : Array (Option Value)} {Ng : List Str}
    {params : Arguments} {body : Expr} {scope : Scope} {t : DXK → DE} {p lpos pos : Pos} (hg : Gl X x) (hm : X.mg x = some (.ref g)) (hk : PySem.W.keepIn X.K (.ref g) = true)
    (lk : X.K.lookup g = some ⟨oc, od, .func (PySem.W.fnOf x x pg bg sg dV kV doc pm an cdv ct), osl⟩) (hcg : PySem.W.codeIn X.K cdv x = true) (hb : L2.Binds X.K (PySem.W.fnOf x x pg bg sg dV kV doc pm an cdv ct) [a] []) (Sg : FnScope Ng [a] sg) (hNg : Ng[0]? = some a) (hva : Vis sg a)
    (hG : GivesTo X Ng x sg g cdv bg a (X.env.qual ++ "<lambda>") (TTrefI X.K C f ret))
    (TB : TabB X.base X.mg ca Pt) (hcode : X.env.code = .ref ca) (hr : Room (k + 2) X.A) (L : LamS X.env.scope scope) (hdef : defaultsOf params X.env = ([], []))
    (hbind : ∀ (q : Str) (cl : List (Str × Addr)) (pm cv ctv : Value), bindArgs (PySem.W.kla_fn "<lambda>" q params body scope cl pm cv ctv) ⟨[], []⟩ = pure [])
    (hbody : ∀ (A : Around) (outer : List Env) (s : Shared) (H : Hp) (E : XK) (f c' : Addr) (c : DC) (Ex : DXK), Room k (A.deeper (lamEnv X scope s.heap.objs.size f c')) → XOk (lamCx X A outer s H E scope f c') c Ex → PE (lamCx X A outer s H E scope f c') body (lE X.K c (t Ex)))
    (hdb : (x == ("__debug__" : Str)) = false := by decide) (hd : (a == ("__debug__" : Str)) = false := by decide) (hcd : (a == ("__classdict__" : Str)) = false := by decide) :
    PE X (.Call (.Name x p) [.Lambda params body scope lpos] [] pos) (lE X.K c (dRefI Pt (X.env.qual ++ "<lambda>") C f ret t)) := by
  refine PE_imp (pe_lamcall (T := [(Pt, X.env.qual ++ "<lambda>")]) (t := fun E σ H Q => ∃ (c : DC) (Ex : DXK), (∀ x G H cls d, Ex x G → Step c.G0 c.H0 G H → Rl X.K c.P G H → RelX X.K c.P G H cls d x → E cls d H) ∧ lE X.K c (t Ex) σ H Q) hg hm hk lk hcg hb Sg hNg hva hG TB hcode (by simp) (fun p hp _ => by
    simp only [List.mem_singleton] at hp
    rw [hp]) hr L hdef hbind (fun A outer s H E f c' hr2 => ?_) hdb hd hcd) ?_
  · refine ⟨fun pins s' σ H' Q I ⟨c, Ex, h1, h2⟩ => ?_⟩
    exact (hbody A outer s H E f c' c Ex hr2 ⟨fun cls d _ H => E cls d H, takes_of rfl rfl rfl rfl, fun x G H cls d σ q s r p => h1 x G H cls d q s r p⟩).run pins s' σ H' Q I h2
  · rintro σ H Q ⟨ρ, G, QD, u, ⟨o, h⟩, kk⟩
    refine ⟨fun p hp => ?_, fun H1 eN T1 => ?_⟩
    · simp only [List.mem_singleton] at hp
      rw [hp]
      exact u.rl.h Pt _ o.1
    · obtain ⟨s1, r1⟩ := tab_step u.rl o eN T1
      refine ⟨⟨c.P, G, H1⟩, _, fun x G' H' cls d q s2 r2 p2 => ?_, ρ, G, _, ⟨r1, Step.refl _ _, u.env.mono u.rl s1⟩, h, fun d G' v H' q s2 r2 p2 => kk _ _ _ _ q (s1.trans s2) r2 (.int _)⟩
      obtain ⟨e1, e2, q⟩ := q
      obtain ⟨ec, dd, v, ed, ev, pv⟩ := p2
      rw [e1] at ec
      rw [e2] at ev
      refine ⟨true, by rw [ec]; exact T.te, fun _ => ⟨ec, dd, v, ed, ev, kk _ _ _ _ q (s1.trans s2) r2 pv⟩, fun z => nomatch z⟩
end
end DL

end

section
set_option Elab.async false
set_option linter.all false
set_option maxRecDepth 100000
set_option maxHeartbeats 1000000
open PySem PySem.Spec PyProof.Rows L2 DL
namespace KL
/-! ## what the defs promise -/
def isNum (d : D) (a b : Int) : Bool := match d with
  | .int i => decide (a ≤ i) && decide (i ≤ b)
  | _ => false
/-- plain data, at most n deep, of a bounded size -/
def datL : Nat := 100000
def dat : Nat → D → Bool
  | _, .non => true
  | _, .bl _ => true
  | _, .int _ => true
  | _, .str _ => true
  | n + 1, .tup ds => decide (ds.length ≤ datL) && ds.all (dat n)
  | n + 1, .lst ds => decide (ds.length ≤ datL) && ds.all (dat n)
  | _, _ => false
def bad (C : Addr) (x : Str) : DX := ⟨C, "name", .str x⟩
def sp_need (C : Addr) : DSp := fun ds G Q E => ∃ b x, ds = [.bl b, .str x] ∧ (b = true → Q .non G) ∧ (b = false → E (bad C x) G)
def sp_is_number : DSp := fun ds G Q _ => ∃ d a b, ds = [d, .int a, .int b] ∧ (tyD G d).isSome = true ∧ Q (.bl (isNum d a b)) G
def rising : List Int → Bool
  | a :: b :: r => decide (a < b) && rising (b :: r)
  | _ => true
def intsD (ns : List Int) : List D := ns.map .int
def natsD (ns : List Nat) : List D := ns.map fun (n : Nat) => .int (n : Int)
def sp_is_rising : DSp := fun ds G Q _ => ∃ (d : D) (ns : List Int), ds = [d] ∧ (d = .tup (intsD ns) ∨ d = .lst (intsD ns)) ∧ ns.length ≤ datL ∧ Q (.bl (rising ns)) G
def getI : D → Int
  | .int i => i
  | _ => 0
/-! ## the law's words -/
/-- the law's row: the script, a place, two more ints -/
structure Scr where
  xs : List Int
  l : Bool
def Scr.length (s : Scr) : Nat := s.xs.length
def scrD (s : Scr) : D := if s.l = true then .lst (intsD s.xs) else .scr (intsD s.xs)
def rowG (xs : Scr) (at_ : Nat) (a b : Int) : GO := .lst [scrD xs, .int (at_ : Int), .int a, .int b]
def Row (xs : Scr) (G : GH) (p : Addr) : Prop := ∃ (at_ : Nat) (a b : Int), G p = some (rowG xs at_ a b)
def sp__law_taken : DSp := fun ds G Q _ => ∃ (p : Addr) (many : Nat) (xs : Scr), ds = [.ref p, .int (many : Int)] ∧ 1 ≤ many ∧ many ≤ 1000000000 ∧ xs.length ≤ datL ∧ Row xs G p ∧ ∀ (v at_ : Nat) (a b : Int), v < many → Q (.int (v : Int)) (updG G p (rowG xs at_ a b))
/-- one of a list's or a tuple's data, or one of a text's signs -/
def Among (some : D) (n : Nat) (ok : D → Prop) : Prop := ((∃ l, (some = .lst l ∨ some = .tup l) ∧ l.length = n ∧ ∀ d ∈ l, ok d) ∨ ∃ x : Str, some = .str x ∧ x.length = n ∧ ∀ c ∈ x.cps.toList, ok (.str ⟨#[c]⟩))
def sp__law_pick : DSp := fun ds G Q _ => ∃ (p : Addr) (some : D) (n : Nat) (ok : D → Prop) (xs : Scr), ds = [.ref p, some] ∧ (1 ≤ n ∧ n ≤ 1000) ∧ Among some n ok ∧ xs.length ≤ datL ∧ Row xs G p ∧ ∀ (d : D) (at_ : Nat) (a b : Int), ok d → Q d (updG G p (rowG xs at_ a b))
/-- data of which _law_alike holds with itself -/
def alk : Nat → D → Bool
  | _, .non => true
  | _, .bl _ => true
  | _, .int _ => true
  | _, .str _ => true
  | n + 1, .tup ds => decide (ds.length ≤ datL) && ds.all (alk n)
  | _, _ => false
def sp_alike (n : Nat) : DSp := fun ds G Q _ => ∃ d, ds = [d, d] ∧ alk n d = true ∧ Q (.bl true) G
abbrev sp__law_alike : DSp := sp_alike 4
theorem cut_tail (ds : List D) : DL.cutD ds (some 1) none = ds.drop 1 := by
  unfold DL.cutD
  have e : HT.sIx ds.length 0 (some 1) = min 1 ds.length := by
    have := HT.sIx_nat ds.length 0 1
    simpa using this
  rw [e, HT.sIx_none]
  cases ds with
  | nil => rfl
  | cons d ds =>
    have : min 1 (d :: ds).length = 1 := by simp
    rw [this]
    simp
theorem rising_all (ns : List Int) : ((ns.zip (ns.drop 1)).map fun z => decide (z.1 < z.2)).all id = rising ns := by
  induction ns with
  | nil => rfl
  | cons a ns ih =>
    cases ns with
    | nil => rfl
    | cons b r =>
      have ih : (((b :: r).zip r).map fun z => decide (z.1 < z.2)).all id = rising (b :: r) := ih
      show (decide (a < b) && (((b :: r).zip r).map fun z => decide (z.1 < z.2)).all id) = _
      rw [ih] <;> rfl
theorem zip_ints (ns ms : List Int) : zipL (intsD ns) (intsD ms) = (ns.zip ms).map fun z => .tup [.int z.1, .int z.2] := by
  unfold zipL intsD
  rw [List.zip_map, List.map_map]
  rfl
theorem sizeL : sizeLine = 16777216 := sizeLine_eq
theorem dat_ty {n : Nat} {d : D} {G : GH} (h : dat n d = true) : (tyD G d).isSome = true := by
  cases d with
  | ref p => cases n <;> cases h
  | ty x => cases n <;> cases h
  | _ => rfl
theorem dat_tup {n : Nat} {ds : List D} (h : dat n (.tup ds) = true) : ds.length ≤ datL ∧ ∃ m, n = m + 1 ∧ ∀ d ∈ ds, dat m d = true := by
  cases n with
  | zero => cases h
  | succ n =>
    have h : (decide (ds.length ≤ datL) && ds.all (dat n)) = true := h
    rw [Bool.and_eq_true, decide_eq_true_eq, List.all_eq_true] at h
    exact ⟨h.1, n, rfl, h.2⟩
theorem nums_ints {a b : Int} : ∀ {ages : List D}, ages.all (isNum · a b) = true → ages = intsD (ages.map getI)
  | [], _ => rfl
  | d :: ds, h => by
    rw [List.all_cons, Bool.and_eq_true] at h
    have ih := nums_ints h.2
    cases d with
    | int i =>
      show _ = D.int i :: intsD (ds.map getI)
      rw [← ih]
    | _ => cases h.1
theorem isTup_of {d : D} (h : isTup d = true) : ∃ a, d = .tup a := by
  cases d with
  | tup a => exact ⟨a, rfl⟩
  | _ => cases h
theorem enum_mem {n : Nat} {d : D} : ∀ {m : Nat} {rs : List D}, d ∈ enumL m rs → ∃ (i : Nat) (v : D), d = .tup [.int (i : Int), v] ∧ v ∈ rs
  | _, [], h => by cases h
  | m, v :: r, h => by
    rcases List.mem_cons.mp h with e | h
    · exact ⟨m, v, e, by simp⟩
    · obtain ⟨i, u, e, hu⟩ := enum_mem (n := n) h
      exact ⟨i, u, e, by simp [hu]⟩
theorem natsD_len (l : List Nat) : (natsD l).length = l.length := by unfold natsD; rw [List.length_map]
theorem natsD_app (a b : List Nat) : natsD (a ++ b) = natsD a ++ natsD b := by unfold natsD; rw [List.map_append]
theorem natsD_get {l : List Nat} {i : Nat} (h : i < l.length) : (natsD l)[i]? = some (.int ((l.getD i 0 : Nat) : Int)) := by
  unfold natsD
  rw [List.getElem?_map, List.getD_eq_getElem?_getD, List.getElem?_eq_getElem h] <;> rfl
theorem natsD_ints (l : List Nat) : natsD l = (l.map fun (n : Nat) => (n : Int)).map .int := by unfold natsD; rw [List.map_map] <;> rfl
theorem rgD_nats (n : Nat) : rgD 0 n = natsD (List.range n) := by
  unfold rgD natsD
  apply List.map_congr_left
  intro i _
  rw [Int.zero_add]
theorem nats_dpt (l : List Nat) : ∀ d ∈ natsD l, dpt 0 d = true := fun d hd => by
  obtain ⟨n, _, rfl⟩ := List.mem_map.mp hd
  rfl
theorem eqv_nats (l m : List Nat) : PyData.eqv (D.lst (natsD l)).py (D.lst (natsD m)).py = decide (l = m) := by
  rw [natsD_ints, natsD_ints, eqv_ints]
  congr 1
  apply propext
  constructor
  · intro h
    exact List.map_inj_right (f := fun n : Nat => (n : Int)) (fun a b e => by omega) |>.mp h
  · intro h; rw [h]
theorem val_ref {G : GH} {p : Addr} {ds : List D} (g : G p = some (.lst ds)) : valD G (.ref p) = .lst ds := by
  show (match G p with | some (.lst ds) => D.lst ds | _ => .ref p) = _
  rw [g]
theorem eqS_ref (p : Addr) (e : D) : eqS (.ref p) e = none := by cases e <;> rfl
theorem eqS_lst (l : List D) (e : D) : eqS (.lst l) e = none := by cases e <;> rfl
theorem isNum_nat {M a b : Nat} (h1 : a ≤ M) (h2 : M ≤ b) : isNum (.int (M : Int)) (a : Int) (b : Int) = true := by
  show (decide ((a : Int) ≤ (M : Int)) && decide ((M : Int) ≤ (b : Int))) = true
  rw [Bool.and_eq_true, decide_eq_true_eq, decide_eq_true_eq]
  omega
theorem isNum_int {d : D} {a b : Int} (h : isNum d a b = true) : ∃ i, d = .int i ∧ a ≤ i ∧ i ≤ b := by
  cases d with
  | int i =>
    have h : (decide (a ≤ i) && decide (i ≤ b)) = true := h
    rw [Bool.and_eq_true, decide_eq_true_eq, decide_eq_true_eq] at h
    exact ⟨i, rfl, h⟩
  | _ => cases h
theorem rising_nats : ∀ {l : List Nat}, l.Pairwise (· < ·) → rising ((natsD l).map getI) = true
  | [], _ => rfl
  | [_], _ => rfl
  | a :: b :: r, h => by
    show (decide ((a : Int) < (b : Int)) && rising ((natsD (b :: r)).map getI)) = true
    cases h with
    | cons h1 h2 =>
      rw [rising_nats h2, Bool.and_true, decide_eq_true_eq]
      have := h1 b (by simp)
      omega
theorem fmod_many {i : Int} {many : Nat} (h : 1 ≤ many) : ∃ v : Nat, v < many ∧ i.fmod (many : Int) = (v : Int) := by
  have h1 := Int.fmod_nonneg_of_pos i (show (0 : Int) < (many : Int) by omega)
  have h2 := Int.fmod_lt_of_pos i (show (0 : Int) < (many : Int) by omega)
  exact ⟨(i.fmod (many : Int)).toNat, by omega, by omega⟩
theorem row_self {G : GH} {p : Addr} {o : GO} (h : G p = some o) : updG G p o = G := by
  funext b
  unfold updG
  split
  · rename_i e; rw [e, h]
  · rfl
theorem lenScr {xs : Scr} {G : GH} {Q : DK} (q : Q (.int (xs.length : Int)) G) : lenF (scrD xs) G Q := by
  have hlx : (intsD xs.xs).length = xs.length := by unfold intsD; rw [List.length_map] <;> rfl
  unfold scrD
  split
  · exact lenL (by rw [hlx]; exact q)
  · exact lenS (by rw [hlx]; exact q)
theorem ixScr {xs : Scr} {i : Nat} {G : GH} {Q : DK} (h : i < xs.xs.length) (q : Q (.int xs.xs[i]) G) : ixD (scrD xs) (.int (i : Int)) G Q := by
  have hix : (intsD xs.xs)[i]? = some (.int xs.xs[i]) := by
    unfold intsD
    rw [List.getElem?_map, List.getElem?_eq_getElem h] <;> rfl
  unfold scrD
  split
  · exact ixL (L2.atI_nat hix) q
  · exact ixS (L2.atI_nat hix) q
theorem eqN {G : GH} {Q : DK} (q : Q (.bl true) G) : eqD .non .non G Q := q
theorem alk_ty {n : Nat} {d : D} {G : GH} (h : alk n d = true) : (tyD G d).isSome = true := by
  cases d with
  | ref p => cases n <;> cases h
  | ty x => cases n <;> cases h
  | lst x => cases n <;> cases h
  | scr x => cases n <;> cases h
  | _ => rfl
theorem asLR {G : GH} {p : Addr} {a : List D} (g : G p = some (.lst a)) : asL (.ref p) G = some a := by
  show (match G p with | some (.lst a) => some a | _ => none) = some a
  rw [g]
theorem alike_nats (l : List Nat) : PySem.W.AllAlike ((natsD l).map D.py) := by
  intro d hd d' hd'
  obtain ⟨x, hx, rfl⟩ := List.mem_map.mp hd
  obtain ⟨y, hy, rfl⟩ := List.mem_map.mp hd'
  obtain ⟨n, _, rfl⟩ := List.mem_map.mp hx
  obtain ⟨m, _, rfl⟩ := List.mem_map.mp hy
  simp [D.py, PySem.W.alike]
theorem srt_nats {l : List Nat} (h : l.length ≤ 100000) : SrtOk (natsD l) := by
  refine ⟨alike_nats l, .inr fun d hd => ?_, fun d hd => ?_, fun d hd => ?_, by rw [natsD_len, sizeL]; omega⟩
  · obtain ⟨x, hx, rfl⟩ := List.mem_map.mp hd
    obtain ⟨n, _, rfl⟩ := List.mem_map.mp hx
    exact ⟨by simp [D.py], fun xs => by simp [D.py]⟩
  · obtain ⟨n, _, rfl⟩ := List.mem_map.mp hd
    simp [D.py, PyData.canLay0]
  · obtain ⟨n, _, rfl⟩ := List.mem_map.mp hd
    simp [D.py, PyData.depth]
theorem ne_self {d : D} {G : GH} {Q : DK} (n : Nat) (hs : ∀ e, eqS d e = none) (h : dpt n (valD G d) = true) (q : Q (.bl false) G) (hn : n ≤ 64 := by decide) : neD d d G Q := by
  have s := shp n h hn
  show eqQ true d d G Q
  unfold eqQ
  rw [hs]
  refine ⟨⟨s, s⟩, ?_⟩
  rw [SeqAt.eqv_refl _ (SeqAt.canLay_of_shaped s)]
  exact q
theorem alk_nats {n : Nat} {l : List Nat} : ∀ d ∈ natsD l, alk n d = true := fun d hd => by
  obtain ⟨m, _, rfl⟩ := List.mem_map.mp hd
  cases n <;> rfl
theorem alk_tup {n : Nat} {ds : List D} (h : ds.length ≤ datL) (h2 : ∀ d ∈ ds, alk n d = true) : alk (n + 1) (.tup ds) = true := by
  show (decide (ds.length ≤ datL) && ds.all (alk n)) = true
  rw [Bool.and_eq_true, decide_eq_true_eq, List.all_eq_true]
  exact ⟨h, h2⟩
theorem dat_nats {n : Nat} {l : List Nat} : ∀ d ∈ natsD l, dat n d = true := fun d hd => by
  obtain ⟨m, _, rfl⟩ := List.mem_map.mp hd
  cases n <;> rfl
theorem dat_tupI {n : Nat} {ds : List D} (h : ds.length ≤ datL) (h2 : ∀ d ∈ ds, dat n d = true) : dat (n + 1) (.tup ds) = true := by
  show (decide (ds.length ≤ datL) && ds.all (dat n)) = true
  rw [Bool.and_eq_true, decide_eq_true_eq, List.all_eq_true]
  exact ⟨h, h2⟩
theorem row_put {xs : Scr} {G : GH} {p : Addr} {at_ : Nat} {a b : Int} : Row xs (updG G p (rowG xs at_ a b)) p := ⟨at_, a, b, updG_same⟩
theorem otab_row {xs : Scr} {G : GH} {p Pt : Addr} {qn : Str} (o : OneTab Pt qn G) (g : Row xs G p) {at_ : Nat} {a b : Int} : OneTab Pt qn (updG G p (rowG xs at_ a b)) := by
  obtain ⟨c, d, e, g⟩ := g
  exact OneTab.put o g
theorem sm10 {n : Nat} (h : n ≤ 100) : n ≤ sizeLine := by rw [sizeL]; omega
theorem eqS_tup (l : List D) (e : D) : eqS (.tup l) e = none := by cases e <;> rfl
/-! ### walking an encoded list -/
theorem comp_enc {α : Type} {gd : GH → Prop} {tg : Tg} {tt : DT} {te : DE} {ρ : DSt} {Q : List D → GH → Prop} {G : GH} (enc : α → D) (p : α → Bool) (g : α → D) (L : List α) (hgd : gd G)
    (h : ∀ a ∈ L, ∀ (k : DK) (k0 : GH → Prop), (p a = true → k (g a) G) → (p a = false → k0 G) → setT tg (enc a) ρ fun ρ1 => tt ρ1 G fun b G1 => if b = true then te ρ1 G1 k else k0 G1)
    (hl : L.length ≤ sizeLine) (q : Q ((L.filter p).map g) G) : compD gd tg tt te ρ Q (L.map enc) [] G := by
  have key : ∀ (L : List α) (acc : List D), (∀ a ∈ L, ∀ (k : DK) (k0 : GH → Prop), (p a = true → k (g a) G) → (p a = false → k0 G) → setT tg (enc a) ρ fun ρ1 => tt ρ1 G fun b G1 => if b = true then te ρ1 G1 k else k0 G1) →
      acc.length + L.length ≤ sizeLine → Q (acc ++ (L.filter p).map g) G → compD gd tg tt te ρ Q (L.map enc) acc G := by
    intro L
    induction L with
    | nil => intro acc _ _ q; exact ⟨hgd, by simpa using q⟩
    | cons a L ih =>
      intro acc h hl q
      rw [List.length_cons] at hl
      refine ⟨hgd, h a (by simp) _ _ (fun e => ⟨by omega, ih _ (fun b hb => h b (by simp [hb])) (by rw [List.length_append]; simp; omega) ?_⟩) fun e => ih _ (fun b hb => h b (by simp [hb])) (by omega) ?_⟩
      · rw [List.filter_cons, if_pos e, List.map_cons] at q
        simpa using q
      · rw [List.filter_cons, if_neg (by rw [e]; exact Bool.false_ne_true)] at q
        exact q
  exact key L [] h (by simpa using hl) (by simpa using q)
theorem comp_each {α : Type} {gd : GH → Prop} {tg : Tg} {te : DE} {ρ : DSt} {Q : List D → GH → Prop} {G : GH} (enc : α → D) (g : α → D) (L : List α) (hgd : gd G) (h : ∀ a ∈ L, ∀ k : DK, k (g a) G → setT tg (enc a) ρ fun ρ1 => te ρ1 G k) (hl : L.length ≤ sizeLine) (q : Q (L.map g) G) :
    compD gd tg dYes te ρ Q (L.map enc) [] G := by
  refine comp_enc enc (fun _ => true) g L hgd (fun a ha k k0 h1 _ => ?_) hl (by rw [List.filter_eq_self.mpr fun _ _ => rfl]; exact q)
  have := h a ha k (h1 rfl)
  simpa [dYes] using this
/-! ### members -/
theorem eqv_int (i j : Int) : PyData.eqv (D.int i).py (D.int j).py = decide (i = j) := by
  simp only [D.py, PyData.eqv]
  rfl
theorem any_nats (l : List Nat) (x : Nat) : ((natsD l).any fun z => PyData.eqv z.py (D.int (x : Int)).py) = decide (x ∈ l) := by
  induction l with
  | nil => rfl
  | cons a l ih =>
    show (PyData.eqv (D.int (a : Int)).py (D.int (x : Int)).py || (natsD l).any _) = _
    rw [ih, eqv_int]
    by_cases h : a = x
    · subst h; simp
    · have h2 : ¬((a : Int) = (x : Int)) := by omega
      have h3 : ¬(x = a) := fun e => h e.symm
      simp [h2, h3]
theorem inT {neg : Bool} {l : List Nat} {x : Nat} {G : GH} {Q : DK} (q : Q (.bl (decide (x ∈ l) ^^ neg)) G) : inQ neg (.int (x : Int)) (.tup (natsD l)) G Q := by
  refine ⟨⟨shp 0 rfl, shp_tup 0 (nats_dpt l)⟩, ?_⟩
  show Q (.bl (((natsD l).any fun z => PyData.eqv z.py (D.int (x : Int)).py) ^^ neg)) G
  rw [any_nats]
  exact q
theorem inL {neg : Bool} {l : List Nat} {x : Nat} {G : GH} {Q : DK} (q : Q (.bl (decide (x ∈ l) ^^ neg)) G) : inQ neg (.int (x : Int)) (.lst (natsD l)) G Q := by
  refine ⟨⟨shp 0 rfl, shp_list 0 (nats_dpt l)⟩, ?_⟩
  show Q (.bl (((natsD l).any fun z => PyData.eqv z.py (D.int (x : Int)).py) ^^ neg)) G
  rw [any_nats]
  exact q
end KL


end

section
set_option Elab.async false
set_option linter.all false
set_option maxRecDepth 100000
set_option maxHeartbeats 1000000
open PySem PySem.Spec PyProof.Rows L2 DL
namespace KL
def top (i : Nat) : Stmt := PySem.Challenge.pw_channelshared_k24_whole_rows_of_waits.main.body.getD i (.Pass ⟨0, 0, 0, 0⟩)
/-! ## nets -/
structure Net where
  lab : Str
  ears : List (List Nat)
abbrev Pr : Type := Nat × Nat
def Net.n (N : Net) : Nat := N.ears.length
def Net.row (N : Net) (i : Nat) : List Nat := N.ears.getD i []
def earsD (es : List (List Nat)) : List D := es.map fun r => .tup (natsD r)
def encN (N : Net) : D := .tup [.str N.lab, .tup (earsD N.ears)]
def isLet (c : Nat) : Bool := decide (c ∈ ("abcdefg" : Str).cps.toList)
structure Good (N : Net) : Prop where
  lab : N.lab.cps.toList.all isLet = true
  len : N.lab.length = N.n
  one : 1 ≤ N.n
  top : N.n ≤ 7
  row : ∀ i, ∀ x ∈ N.row i, x < N.n ∧ x ≠ i
  ris : ∀ i, (N.row i).Pairwise (· < ·)
def lettersD : D → Bool
  | .str x => x.cps.toList.all isLet
  | _ => false
def stRow (many : Int) : D → Bool
  | .tup ds => ds.all (isNum · 0 (many - 1)) && rising (ds.map getI)
  | _ => false
def selfIn (i : Int) : D → Bool
  | .tup ds => ds.any fun z => PyData.eqv z.py (D.int i).py
  | _ => false
def netRows (many : Nat) : Nat → List D → Bool
  | _, [] => true
  | i, r :: rs => (stRow (many : Int) r && !selfIn (i : Int) r) && netRows many (i + 1) rs
def netOk : D → Bool
  | .tup [.str l, .tup es] => lettersD (.str l) && (decide (1 ≤ l.length) && (decide (l.length ≤ 7) && (decide (es.length = l.length) && netRows l.length 0 es)))
  | _ => false
def StrS (d : D) : Prop := ∀ (x : Str) (y : D), d = .tup [.str x, y] → x.length ≤ datL
def sp_are_letters : DSp := fun ds G Q _ => ∃ d n, ds = [d] ∧ dat n d = true ∧ (∀ x, d = .str x → x.length ≤ datL) ∧ Q (.bl (lettersD d)) G
def sp_is_station_row : DSp := fun ds G Q _ => ∃ d many, ds = [d, .int many] ∧ dat 1 d = true ∧ Q (.bl (stRow many d)) G
def sp_is_net : DSp := fun ds G Q _ => ∃ d, ds = [d] ∧ dat 3 d = true ∧ StrS d ∧ Q (.bl (netOk d)) G
def sp_check_net (C : Addr) : DSp := fun ds G Q E => ∃ d, ds = [d] ∧ dat 3 d = true ∧ StrS d ∧ (netOk d = true → Q .non G) ∧ (netOk d = false → E (bad C "net") G)
def encP (p : Pr) : D := .tup [.int (p.1 : Int), .int (p.2 : Int)]
def encT (t : Nat × Nat × Nat) : D := .tup [.int (t.1 : Int), .int (t.2.1 : Int), .int (t.2.2 : Int)]
def linksFrom : Nat → List (List Nat) → List Pr
  | _, [] => []
  | i, r :: rs => r.map (fun x => (x, i)) ++ linksFrom (i + 1) rs
def linksU (N : Net) : List Pr := linksFrom 0 N.ears
def links (N : Net) : List Pr := (linksU N).mergeSort fun a b => PySem.W.dataLe false D.py (encP a) (encP b)
def sp_all_links : DSp := fun ds G Q _ => ∃ N, ds = [encN N] ∧ Good N ∧ Q (.tup ((links N).map encP)) G
def sp__law_links : DSp := fun ds G Q _ => ∃ N, ds = [encN N] ∧ Good N ∧ Q (.lst ((links N).map encP)) G
def hears (N : Net) (st : Nat) (S : List Nat) : Int := if st ∈ S then -3 else match (N.row st).filter fun o => decide (o ∈ S) with
  | [] => -1
  | [x] => (x : Int)
  | _ => -2
def sp_heard_by : DSp := fun ds G Q _ => ∃ N st S, ds = [encN N, .int ((st : Nat) : Int), .tup (natsD S)] ∧ Good N ∧ st < N.n ∧ S.length ≤ 1000 ∧ Q (.int (hears N st S)) G
def sp__law_hears : DSp := fun ds G Q _ => ∃ N st S d, ds = [encN N, .int ((st : Nat) : Int), d] ∧ (d = .lst (natsD S) ∨ d = .tup (natsD S)) ∧ Good N ∧ st < N.n ∧ S.length ≤ 1000 ∧ Q (.int (hears N st S)) G
/-! ## waits -/
def clearU (N : Net) (S : List Nat) : List Pr := (List.range N.n).filterMap fun st => if 0 ≤ hears N st S then some ((hears N st S).toNat, st) else none
def clearL (N : Net) (S : List Nat) : List Pr := (clearU N S).mergeSort fun a b => PySem.W.dataLe false D.py (encP a) (encP b)
def sp_clear_links : DSp := fun ds G Q _ => ∃ N S, ds = [encN N, .tup (natsD S)] ∧ Good N ∧ S.length ≤ 1000 ∧ Q (.tup ((clearL N S).map encP)) G
abbrev Ws : Type := List (List Nat)
def encW (W : Ws) : D := .tup (earsD W)
def wrowOk : D → Bool
  | .tup ds => decide (1 ≤ ds.length) && decide (ds.length ≤ 6) && ds.all (isNum · 0 9)
  | _ => false
def waitsOk : D → Bool
  | .tup ds => decide (1 ≤ ds.length) && decide (ds.length ≤ 7) && ds.all wrowOk
  | _ => false
structure GoodW (W : Ws) : Prop where
  one : 1 ≤ W.length
  top : W.length ≤ 7
  row : ∀ r ∈ W, 1 ≤ r.length ∧ r.length ≤ 6 ∧ ∀ x ∈ r, x ≤ 9
def sp_is_wait_row : DSp := fun ds G Q _ => ∃ d n, ds = [d] ∧ dat n d = true ∧ Q (.bl (wrowOk d)) G
def sp_is_waits : DSp := fun ds G Q _ => ∃ d n, ds = [d] ∧ dat n d = true ∧ Q (.bl (waitsOk d)) G
def sp_check_waits (C : Addr) : DSp := fun ds G Q E => ∃ d n, ds = [d] ∧ dat n d = true ∧ (waitsOk d = true → Q .non G) ∧ (waitsOk d = false → E (bad C "waits") G)
def sp_check_net_waits (C : Addr) : DSp := fun ds G Q E => (∃ d e, ds = [d, e] ∧ (dat 3 d = true ∧ StrS d) ∧ netOk d = false ∧ E (bad C "net") G) ∨
  (∃ N e n, ds = [encN N, e] ∧ Good N ∧ dat n e = true ∧ waitsOk e = false ∧ E (bad C "waits") G) ∨
  (∃ N W, ds = [encN N, encW W] ∧ Good N ∧ GoodW W ∧ (W.length = N.n → Q .non G) ∧ (W.length ≠ N.n → E (bad C "waits") G))
def rp (r : List Nat) : Nat := r.sum + r.length
def sp_row_period : DSp := fun ds G Q _ => ∃ r : List Nat, ds = [.tup (natsD r)] ∧ r.length ≤ 1000 ∧ Q (.int ((rp r : Nat) : Int)) G
def sp_common : DSp := fun ds G Q _ => ∃ a b : Nat, ds = [.int (a : Int), .int (b : Int)] ∧ Q (.int ((Nat.gcd a b : Nat) : Int)) G
def perL (W : Ws) : Nat := W.foldl (fun f r => f * rp r / Nat.gcd f (rp r)) 1
def much (C2 : Addr) : DX := ⟨C2, "limit", .int 5000⟩
def sp_period_of (C2 : Addr) : DSp := fun ds G Q E => ∃ W, ds = [encW W] ∧ GoodW W ∧ (perL W ≤ 5000 → Q (.int ((perL W : Nat) : Int)) G) ∧ (5000 < perL W → E (much C2) G)
def sp_period (C C2 : Addr) : DSp := fun ds G Q E => (∃ d n, ds = [d] ∧ dat n d = true ∧ waitsOk d = false ∧ E (bad C "waits") G) ∨ sp_period_of C2 ds G Q E
def sendsB (r : List Nat) (slot : Nat) : Bool := go (slot % rp r) r
where go (left : Nat) : List Nat → Bool
  | [] => false
  | x :: r => if left ≤ x then decide (left = x) else go (left - (x + 1)) r
def sp_does_send : DSp := fun ds G Q _ => ∃ (r : List Nat) (slot : Nat), ds = [.tup (natsD r), .int (slot : Int)] ∧ 1 ≤ r.length ∧ r.length ≤ 1000 ∧ Q (.bl (sendsB r slot)) G
def sendersL (W : Ws) (slot : Nat) : List Nat := (List.range W.length).filter fun i => sendsB (W.getD i []) slot
def sp_senders_in : DSp := fun ds G Q _ => ∃ W slot, ds = [encW W, .int ((slot : Nat) : Int)] ∧ GoodW W ∧ Q (.tup (natsD (sendersL W slot))) G
def sp_senders_at (C : Addr) : DSp := fun ds G Q E => (∃ d e n, ds = [d, e] ∧ dat n d = true ∧ waitsOk d = false ∧ E (bad C "waits") G) ∨ ∃ W e n, ds = [encW W, e] ∧ GoodW W ∧ dat n e = true ∧ ((isNum e 0 1000000 = false ∧ E (bad C "slot") G) ∨ ∃ s : Nat, e = .int (s : Int) ∧ s ≤ 1000000 ∧ Q (.tup (natsD (sendersL W s))) G)
def countL (N : Net) (W : Ws) (l : Pr) : Nat := ((List.range (perL W)).filter fun s => decide (l ∈ clearL N (sendersL W s))).length
def countsL (N : Net) (W : Ws) : List Nat := (links N).map (countL N W)
def sp_counts_of (C2 : Addr) : DSp := fun ds G Q E => ∃ N W, ds = [encN N, encW W] ∧ Good N ∧ GoodW W ∧ W.length = N.n ∧ (perL W ≤ 5000 → Q (.lst (natsD (countsL N W))) G) ∧ (5000 < perL W → E (much C2) G)
def NetWaits (C C2 : Addr) (ds : List D) (G : GH) (Q : DK) (E : DXK) (r : Net → Ws → D) : Prop :=
  (∃ d e, ds = [d, e] ∧ (dat 3 d = true ∧ StrS d) ∧ netOk d = false ∧ E (bad C "net") G) ∨
  (∃ N e n, ds = [encN N, e] ∧ Good N ∧ dat n e = true ∧ waitsOk e = false ∧ E (bad C "waits") G) ∨
  (∃ N W, ds = [encN N, encW W] ∧ Good N ∧ GoodW W ∧ W.length ≠ N.n ∧ E (bad C "waits") G) ∨
  (∃ N W, ds = [encN N, encW W] ∧ Good N ∧ GoodW W ∧ W.length = N.n ∧ (perL W ≤ 5000 → Q (r N W) G) ∧ (5000 < perL W → E (much C2) G))
def neverL (N : Net) (W : Ws) : List Pr := (links N).filter fun l => decide (countL N W l = 0)
def sp_clear_in_period (C C2 : Addr) : DSp := fun ds G Q E => NetWaits C C2 ds G Q E fun N W => .tup (natsD (countsL N W))
def sp_never_clear (C C2 : Addr) : DSp := fun ds G Q E => NetWaits C C2 ds G Q E fun N W => .tup ((neverL N W).map encP)
theorem len_nw {C C2 : Addr} {ds : List D} {G : GH} {Q : DK} {E : DXK} {r : Net → Ws → D} (h : NetWaits C C2 ds G Q E r) : ds.length = 2 := by
  rcases h with ⟨_, _, e, _⟩ | ⟨_, _, _, e, _⟩ | ⟨_, _, e, _⟩ | ⟨_, _, e, _⟩ <;> rw [e] <;> rfl
theorem len_clear_in_period {C C2 : Addr} : ∀ ds G Q E, sp_clear_in_period C C2 ds G Q E → ds.length = (["net", "waits"] : List Str).length := fun _ _ _ _ h => len_nw h
theorem len_never_clear {C C2 : Addr} : ∀ ds G Q E, sp_never_clear C C2 ds G Q E → ds.length = (["net", "waits"] : List Str).length := fun _ _ _ _ h => len_nw h
theorem len_senders_at {C : Addr} : ∀ ds G Q E, sp_senders_at C ds G Q E → ds.length = (["waits", "slot"] : List Str).length := fun _ _ _ _ h => by
  rcases h with ⟨_, _, _, e, _⟩ | ⟨_, _, _, e, _⟩ <;> rw [e] <;> rfl
def oneB (W : Ws) : Bool := W.all fun r => decide (r.length = 1) && decide (0 < r.getD 0 0)
def copB : List Nat → Bool
  | [] => true
  | a :: r => r.all (fun b => decide (Nat.gcd a b = 1)) && copB r
def sp_are_coprime (C : Addr) : DSp := fun ds G Q E => (∃ d n, ds = [d] ∧ dat n d = true ∧ waitsOk d = false ∧ E (bad C "waits") G) ∨ ∃ W, ds = [encW W] ∧ GoodW W ∧ Q (.bl (oneB W && copB (W.map rp))) G
/-! ## the law's own -/
def sp__law_net : DSp := fun ds G Q _ => ∃ (p : Addr) (most : Nat) (xs : Scr), ds = [.ref p, .int (most : Int)] ∧ 1 ≤ most ∧ most ≤ 7 ∧ xs.length ≤ datL ∧ Row xs G p ∧ ∀ (N : Net) (at_ : Nat) (a b : Int), Good N → N.n ≤ most → Q (encN N) (updG G p (rowG xs at_ a b))
def sp__law_clear : DSp := fun ds G Q _ => ∃ N S, ds = [encN N, .lst (natsD S)] ∧ Good N ∧ S.length ≤ 1000 ∧ Q (.lst (((links N).filter fun p => decide (hears N p.2 S = (p.1 : Int))).map encP)) G
def sp__law_common : DSp := fun ds G Q _ => ∃ a b : Nat, ds = [.int (a : Int), .int (b : Int)] ∧ b ≤ 100 ∧ Q (.int ((Nat.gcd a b : Nat) : Int)) G
def patL (r : List Nat) : List Nat := r.flatMap fun x => List.replicate x 0 ++ [1]
def sp__law_pattern : DSp := fun ds G Q _ => ∃ r : List Nat, ds = [.tup (natsD r)] ∧ r.length ≤ 6 ∧ (∀ x ∈ r, x ≤ 9) ∧ Q (.lst (natsD (patL r))) G
structure Small (W : Ws) : Prop where
  row : ∀ r ∈ W, 1 ≤ r.length ∧ r.length ≤ 3 ∧ ∀ x ∈ r, x ≤ 6
def sp__law_waits : DSp := fun ds G Q _ => ∃ (p : Addr) (many : Nat) (xs : Scr), ds = [.ref p, .int (many : Int)] ∧ 1 ≤ many ∧ many ≤ 5 ∧ xs.length ≤ datL ∧ Row xs G p ∧ ∀ (W : Ws) (at_ : Nat) (a b : Int), W.length = many → Small W → Q (encW W) (updG G p (rowG xs at_ a b))

abbrev s_need : Stmt := top 4
abbrev s_is_number : Stmt := top 8
abbrev s_is_rising : Stmt := top 9
abbrev s_are_letters : Stmt := top 10
abbrev s_is_station_row : Stmt := top 11
abbrev s_is_net : Stmt := top 12
abbrev s_check_net : Stmt := top 13
abbrev s_all_links : Stmt := top 15
abbrev s_heard_by : Stmt := top 20
abbrev s_clear_links : Stmt := top 21
abbrev s_is_wait_row : Stmt := top 27
abbrev s_is_waits : Stmt := top 28
abbrev s_check_waits : Stmt := top 29
abbrev s_check_net_waits : Stmt := top 30
abbrev s_row_period : Stmt := top 31
abbrev s_common : Stmt := top 32
abbrev s_period_of : Stmt := top 33
abbrev s_period : Stmt := top 34
abbrev s_does_send : Stmt := top 35
abbrev s_senders_in : Stmt := top 36
abbrev s_senders_at : Stmt := top 37
abbrev s_counts_of : Stmt := top 38
abbrev s_clear_in_period : Stmt := top 39
abbrev s_never_clear : Stmt := top 40
abbrev s_are_coprime : Stmt := top 41
abbrev s__law_taken : Stmt := top 43
abbrev s__law_pick : Stmt := top 44
abbrev s__law_refused : Stmt := top 45
abbrev s__law_alike : Stmt := top 46
abbrev s__law_net : Stmt := top 47
abbrev s__law_links : Stmt := top 48
abbrev s__law_hears : Stmt := top 49
abbrev s__law_clear : Stmt := top 50
abbrev s__law_common : Stmt := top 51
abbrev s__law_pattern : Stmt := top 52
abbrev s__law_waits : Stmt := top 53
abbrev s__law_limit : Stmt := top 54
abbrev s_law : Stmt := top 55
abbrev N__law_limit : List Str := ["call", "e"]
theorem sc__law_limit : FnScope N__law_limit ["call"] (defScope s__law_limit) := ⟨rfl, rfl, rfl, by decide +kernel, rfl, by decide +kernel, by decide +kernel⟩
abbrev N__law_refused : List Str := ["call", "e"]
theorem sc__law_refused : FnScope N__law_refused ["call"] (defScope s__law_refused) := ⟨rfl, rfl, rfl, by decide +kernel, rfl, by decide +kernel, by decide +kernel⟩
/-! need: 0 is_valid, 1 name -/
abbrev N_need : List Str := ["is_valid", "name"]
theorem sc_need : FnScope N_need ["is_valid", "name"] (defScope s_need) := ⟨rfl, rfl, rfl, by decide +kernel, rfl, by decide +kernel, by decide +kernel⟩
def t_need (C : Addr) (Ex : DXK) : DS :=
  (dIfS (dNot (dTru (dVar 0))) (dRaise Ex (dMk C "name" (dCons (dVar 1) dNil))) dNext)
theorem b_need {P : Program} {w : World} {K : PySem.W.Frag} {mg : Str → Option Value} {base : Heap} {fA C : Addr}  (B : Blt mg) {fI cc cda : Addr}
    (T_BadArgument : DX.ErrTxt P K mg "BadArgument" "name" C fI cc cda "BadArgument.__init__")
    (cdv : Value) (A : Around) (outer : List Env) (s : Shared) (H : Hp) (E : XK) (c : DC) (Ex : DXK) (hr : Room 2 (A.deeper (envOfC "need" (defScope s_need) s.heap.objs.size fA cdv))) (ok : XOk (cxOf (L2.CX P w) P w K mg base N_need "need" (defScope s_need) fA cdv A outer s H E) c Ex) :
    PSs (cxOf (L2.CX P w) P w K mg base N_need "need" (defScope s_need) fA cdv A outer s H E) (defBody s_need) (lS K c (t_need C Ex)) :=
  (dss_one (ds_if (dt_not (dt_tru (d_var (i := 0)))) (dss_one (ds_raise rfl ok (dmk_of (pmk_err T_BadArgument DX.fld_name hr (da_cons (d_var (i := 1)) da_nil))))) dss_nil))
/-! is_number: 0 value, 1 least, 2 most -/
abbrev N_is_number : List Str := ["value", "least", "most"]
theorem sc_is_number : FnScope N_is_number ["value", "least", "most"] (defScope s_is_number) := ⟨rfl, rfl, rfl, by decide +kernel, rfl, by decide +kernel, by decide +kernel⟩
def t_is_number (C : Addr) (Ex : DXK) : DS :=
  (dRet (dAndV (dF1 (isa1 "int") (dVar 0)) (dAndV (dNotV (dF1 (isa1 "bool") (dVar 0))) (dChain leD leD (dVar 1) (dVar 0) (dVar 2)))))
theorem b_is_number {P : Program} {w : World} {K : PySem.W.Frag} {mg : Str → Option Value} {base : Heap} {fA C : Addr}  (B : Blt mg)
    (cdv : Value) (A : Around) (outer : List Env) (s : Shared) (H : Hp) (E : XK) (c : DC) (Ex : DXK) (hr : Room 0 (A.deeper (envOfC "is_number" (defScope s_is_number) s.heap.objs.size fA cdv))) (ok : XOk (cxOf (L2.CX P w) P w K mg base N_is_number "is_number" (defScope s_is_number) fA cdv A outer s H E) c Ex) :
    PSs (cxOf (L2.CX P w) P w K mg base N_is_number "is_number" (defScope s_is_number) fA cdv A outer s H E) (defBody s_is_number) (lS K c (t_is_number C Ex)) :=
  (dss_one (ds_ret (d_and (d_int2 B (d_var (i := 0))) (d_and (d_not (d_bool2 B (d_var (i := 0)))) (d_one (d_chain od_le od_le (d_var (i := 1)) (d_var (i := 0)) (d_var (i := 2))))))))
/-! is_rising: 0 row, 1 one, 2 other -/
abbrev N_is_rising : List Str := ["row", "one", "other"]
theorem sc_is_rising : FnScope N_is_rising ["row"] (defScope s_is_rising) := ⟨rfl, rfl, rfl, by decide +kernel, rfl, by decide +kernel, by decide +kernel⟩
def t_is_rising (C : Addr) (Ex : DXK) : DS :=
  (dRet (dF1 allF (dLc (dZip (dCons (dVar 0) (dCons (dSl slD (dVar 0) (dPart (dC (.int 1))) dNoPart) dNil))) [1, 2] (.tup [(.name 1), (.name 2)]) dYes (dOp ltD (dVar 1) (dVar 2)))))
theorem b_is_rising {P : Program} {w : World} {K : PySem.W.Frag} {mg : Str → Option Value} {base : Heap} {fA C : Addr}  (B : Blt mg)
    (cdv : Value) (A : Around) (outer : List Env) (s : Shared) (H : Hp) (E : XK) (c : DC) (Ex : DXK) (hr : Room 0 (A.deeper (envOfC "is_rising" (defScope s_is_rising) s.heap.objs.size fA cdv))) (ok : XOk (cxOf (L2.CX P w) P w K mg base N_is_rising "is_rising" (defScope s_is_rising) fA cdv A outer s H E) c Ex) :
    PSs (cxOf (L2.CX P w) P w K mg base N_is_rising "is_rising" (defScope s_is_rising) fA cdv A outer s H E) (defBody s_is_rising) (lS K c (t_is_rising C Ex)) :=
  (dss_one (ds_ret (dl_all B rfl (d_lc (own := [("one", 1), ("other", 2)]) rfl sc_is_rising.nd (di_zip rfl B.zip (da_cons (d_var (i := 0)) (da_cons (d_slice sld_seq (d_var (i := 0)) (do_some d_int) do_none) da_nil))) (blkOk_by (by first | rfl | decide +kernel)) (fun _ _ _ _ _ _ => (g_tup rfl (gs_cons (g_name (i := 1) sc_is_rising.nd) (gs_cons (g_name (i := 2) sc_is_rising.nd) gs_nil)))) (fun _ _ _ _ _ _ => dts_nil) (fun _ _ _ _ _ _ => (d_cmp od_lt (d_var (i := 1)) (d_var (i := 2)) (nomark _)))))))
/-! are_letters: 0 value, 1 own -/
abbrev N_are_letters : List Str := ["value", "own"]
theorem sc_are_letters : FnScope N_are_letters ["value"] (defScope s_are_letters) := ⟨rfl, rfl, rfl, by decide +kernel, rfl, by decide +kernel, by decide +kernel⟩
def t_are_letters (C : Addr) (Ex : DXK) : DS :=
  (dRet (dAndV (dF1 (isa1 "str") (dVar 0)) (dF1 allF (dLc (dItr (dVar 0)) [1] (.name 1) dYes (dOp inD (dVar 1) (dC (.str "abcdefg")))))))
theorem b_are_letters {P : Program} {w : World} {K : PySem.W.Frag} {mg : Str → Option Value} {base : Heap} {fA C : Addr}  (B : Blt mg)
    {t_LETTERS : Tok} (c_LETTERS : mg "LETTERS" = some (.str "abcdefg" t_LETTERS))
    (cdv : Value) (A : Around) (outer : List Env) (s : Shared) (H : Hp) (E : XK) (c : DC) (Ex : DXK) (hr : Room 0 (A.deeper (envOfC "are_letters" (defScope s_are_letters) s.heap.objs.size fA cdv))) (ok : XOk (cxOf (L2.CX P w) P w K mg base N_are_letters "are_letters" (defScope s_are_letters) fA cdv A outer s H E) c Ex) :
    PSs (cxOf (L2.CX P w) P w K mg base N_are_letters "are_letters" (defScope s_are_letters) fA cdv A outer s H E) (defBody s_are_letters) (lS K c (t_are_letters C Ex)) :=
  (dss_one (ds_ret (d_and (d_str2 B (d_var (i := 0))) (d_one (dl_all B rfl (d_lc (own := [("own", 1)]) rfl sc_are_letters.nd (di_any (d_var (i := 0))) (blkOk_by (by first | rfl | decide +kernel)) (fun _ _ _ _ _ _ => (g_name (i := 1) sc_are_letters.nd)) (fun _ _ _ _ _ _ => dts_nil) (fun _ _ _ _ _ _ => (d_cmp (od_in (hu65 hr)) (d_var (i := 1)) (d_gstr c_LETTERS) (by rfl)))))))))
/-! is_station_row: 0 value, 1 many, 2 own -/
abbrev N_is_station_row : List Str := ["value", "many", "own"]
theorem sc_is_station_row : FnScope N_is_station_row ["value", "many"] (defScope s_is_station_row) := ⟨rfl, rfl, rfl, by decide +kernel, rfl, by decide +kernel, by decide +kernel⟩
def t_is_station_row (C : Addr) (Ex : DXK) : DS :=
  (dRet (dAndV (dF1 (isa1 "tuple") (dVar 0)) (dAndV (dF1 allF (dLc (dItr (dVar 0)) [2] (.name 2) dYes (dCall sp_is_number noX (dCons (dVar 2) (dCons (dC (.int 0)) (dCons (dOp subD (dVar 1) (dC (.int 1))) dNil)))))) (dCall sp_is_rising noX (dCons (dVar 0) dNil)))))
theorem b_is_station_row {P : Program} {w : World} {K : PySem.W.Frag} {mg : Str → Option Value} {base : Heap} {fA C : Addr}  (B : Blt mg)
    (F_is_rising : FnD P w K mg base "is_rising" 1 ["row"] sp_is_rising)
    (F_is_number : FnD P w K mg base "is_number" 1 ["value", "least", "most"] sp_is_number)
    (cdv : Value) (A : Around) (outer : List Env) (s : Shared) (H : Hp) (E : XK) (c : DC) (Ex : DXK) (hr : Room 1 (A.deeper (envOfC "is_station_row" (defScope s_is_station_row) s.heap.objs.size fA cdv))) (ok : XOk (cxOf (L2.CX P w) P w K mg base N_is_station_row "is_station_row" (defScope s_is_station_row) fA cdv A outer s H E) c Ex) :
    PSs (cxOf (L2.CX P w) P w K mg base N_is_station_row "is_station_row" (defScope s_is_station_row) fA cdv A outer s H E) (defBody s_is_station_row) (lS K c (t_is_station_row C Ex)) :=
  (dss_one (ds_ret (d_and (d_tup2 B (d_var (i := 0))) (d_and (dl_all B rfl (d_lc (own := [("own", 2)]) rfl sc_is_station_row.nd (di_any (d_var (i := 0))) (blkOk_by (by first | rfl | decide +kernel)) (fun _ _ _ _ _ _ => (g_name (i := 2) sc_is_station_row.nd)) (fun _ _ _ _ _ _ => dts_nil) (fun _ _ _ _ _ _ => (d_call F_is_number (hr.mono (by decide)) xok0 (da_cons (d_var (i := 2)) (da_cons d_int (da_cons (d_op od_sub (d_var (i := 1)) d_int) da_nil))))))) (d_one (d_call F_is_rising (hr.mono (by decide)) xok0 (da_cons (d_var (i := 0)) da_nil)))))))
/-! is_net: 0 value, 1 labels, 2 ears, 3 at, 4 own -/
abbrev N_is_net : List Str := ["value", "labels", "ears", "at", "own"]
theorem sc_is_net : FnScope N_is_net ["value"] (defScope s_is_net) := ⟨rfl, rfl, rfl, by decide +kernel, rfl, by decide +kernel, by decide +kernel⟩
def t_is_net (C : Addr) (Ex : DXK) : DS :=
  (dSeq (dIfS (dNot (dAnd (dTru (dF1 (isa1 "tuple") (dVar 0))) (dTst (dOp eqD (dF1 lenF (dVar 0)) (dC (.int 2)))))) (dRet (dC (.bl false))) dNext) (dSeq (dAsg (dVar 0) (.tup [(.name 1), (.name 2)])) (dSeq (dIfS (dOr (dNot (dTru (dCall sp_are_letters noX (dCons (dVar 1) dNil)))) (dNot (dTst (dChain leD leD (dC (.int 1)) (dF1 lenF (dVar 1)) (dC (.int (7))))))) (dRet (dC (.bl false))) dNext) (dSeq (dIfS (dNot (dAnd (dTru (dF1 (isa1 "tuple") (dVar 2))) (dTst (dOp eqD (dF1 lenF (dVar 2)) (dF1 lenF (dVar 1)))))) (dRet (dC (.bl false))) dNext) (dRet (dF1 allF (dLc (dEnum (dCons (dVar 2) dNil)) [3, 4] (.tup [(.name 3), (.name 4)]) dYes (dAndV (dCall sp_is_station_row noX (dCons (dVar 4) (dCons (dF1 lenF (dVar 1)) dNil))) (dOp ninD (dVar 3) (dVar 4))))))))))
theorem b_is_net {P : Program} {w : World} {K : PySem.W.Frag} {mg : Str → Option Value} {base : Heap} {fA C : Addr}  (B : Blt mg)
    (F_is_station_row : FnD P w K mg base "is_station_row" 2 ["value", "many"] sp_is_station_row)
    (F_are_letters : FnD P w K mg base "are_letters" 1 ["value"] sp_are_letters)
    {t_MOST_STATIONS : Tok} (c_MOST_STATIONS : mg "MOST_STATIONS" = some (.int (7) t_MOST_STATIONS))
    (cdv : Value) (A : Around) (outer : List Env) (s : Shared) (H : Hp) (E : XK) (c : DC) (Ex : DXK) (hr : Room 2 (A.deeper (envOfC "is_net" (defScope s_is_net) s.heap.objs.size fA cdv))) (ok : XOk (cxOf (L2.CX P w) P w K mg base N_is_net "is_net" (defScope s_is_net) fA cdv A outer s H E) c Ex) :
    PSs (cxOf (L2.CX P w) P w K mg base N_is_net "is_net" (defScope s_is_net) fA cdv A outer s H E) (defBody s_is_net) (lS K c (t_is_net C Ex)) :=
  (dss_cons (ds_if (dt_not (PW.pt (dw_and (dt_tru (d_tup2 B (d_var (i := 0)))) (dw_and1 (dt_cmp (od_eq hr.units) (dl_len B (d_var (i := 0))) d_int (nomark _)))))) (dss_one (ds_ret d_bl)) dss_nil)
    (dss_cons (ds_asg (d_var (i := 0)) (g_tup rfl (gs_cons (g_name (i := 1) sc_is_net.nd) (gs_cons (g_name (i := 2) sc_is_net.nd) gs_nil))))
    (dss_cons (ds_if (PW.pt (dw_or (dt_not (dt_tru (d_call F_are_letters (hr.mono (by decide)) xok0 (da_cons (d_var (i := 1)) da_nil)))) (dw_or1 (dt_not (dt_chain od_le od_le d_int (dl_len B (d_var (i := 1))) (d_gint c_MOST_STATIONS)))))) (dss_one (ds_ret d_bl)) dss_nil)
    (dss_cons (ds_if (dt_not (PW.pt (dw_and (dt_tru (d_tup2 B (d_var (i := 2)))) (dw_and1 (dt_cmp (od_eq hr.units) (dl_len B (d_var (i := 2))) (dl_len B (d_var (i := 1))) (nomark _)))))) (dss_one (ds_ret d_bl)) dss_nil)
    (dss_one (ds_ret (dl_all B rfl (d_lc (own := [("at", 3), ("own", 4)]) rfl sc_is_net.nd (di_enum rfl B.enumerate (da_cons (d_var (i := 2)) da_nil)) (blkOk_by (by first | rfl | decide +kernel)) (fun _ _ _ _ _ _ => (g_tup rfl (gs_cons (g_name (i := 3) sc_is_net.nd) (gs_cons (g_name (i := 4) sc_is_net.nd) gs_nil)))) (fun _ _ _ _ _ _ => dts_nil) (fun _ _ _ _ _ _ => (d_and (d_call F_is_station_row (hr.mono (by decide)) xok0 (da_cons (d_var (i := 4)) (da_cons (dl_len B (d_var (i := 1))) da_nil))) (d_one (d_cmp (od_nin (hu65 hr)) (d_var (i := 3)) (d_var (i := 4)) (by rfl)))))))))))))
/-! check_net: 0 net -/
abbrev N_check_net : List Str := ["net"]
theorem sc_check_net : FnScope N_check_net ["net"] (defScope s_check_net) := ⟨rfl, rfl, rfl, by decide +kernel, rfl, by decide +kernel, by decide +kernel⟩
def t_check_net (C : Addr) (Ex : DXK) : DS :=
  (dDrop (dCall (sp_need C) Ex (dCons (dCall sp_is_net Ex (dCons (dVar 0) dNil)) (dCons (dC (.str "net")) dNil))))
theorem b_check_net {P : Program} {w : World} {K : PySem.W.Frag} {mg : Str → Option Value} {base : Heap} {fA C : Addr}  (B : Blt mg)
    (F_is_net : FnD P w K mg base "is_net" 3 ["value"] sp_is_net)
    (F_need : FnD P w K mg base "need" 3 ["is_valid", "name"] (sp_need C))
    (cdv : Value) (A : Around) (outer : List Env) (s : Shared) (H : Hp) (E : XK) (c : DC) (Ex : DXK) (hr : Room 3 (A.deeper (envOfC "check_net" (defScope s_check_net) s.heap.objs.size fA cdv))) (ok : XOk (cxOf (L2.CX P w) P w K mg base N_check_net "check_net" (defScope s_check_net) fA cdv A outer s H E) c Ex) :
    PSs (cxOf (L2.CX P w) P w K mg base N_check_net "check_net" (defScope s_check_net) fA cdv A outer s H E) (defBody s_check_net) (lS K c (t_check_net C Ex)) :=
  (dss_one (ds_expr (d_call F_need (hr.mono (by decide)) ok (da_cons (d_call F_is_net (hr.mono (by decide)) ok (da_cons (d_var (i := 0)) da_nil)) (da_cons d_str da_nil)))))
/-! all_links: 0 net, 1 found, 2 listener, 3 row, 4 own -/
abbrev N_all_links : List Str := ["net", "found", "listener", "row", "own"]
theorem sc_all_links : FnScope N_all_links ["net"] (defScope s_all_links) := ⟨rfl, rfl, rfl, by decide +kernel, rfl, by decide +kernel, by decide +kernel⟩
def t_all_links_1 (C : Addr) (Ex : DXK) : DS :=
  (dDrop (dM1 extF (dVar 1) (dLc (dItr (dVar 3)) [4] (.name 4) dYes (dTup (dCons (dVar 4) (dCons (dVar 2) dNil))))))
def t_all_links (C : Addr) (Ex : DXK) : DS :=
  (dSeq (dAsg (dLstM dNil) (.name 1)) (dSeq (dFor (dEnum (dCons (dOp ixD (dVar 0) (dC (.int 1))) dNil)) (.tup [(.name 2), (.name 3)]) (t_all_links_1 C Ex)) (dRet (dF1 tupF (dF1 (sortF false) (dVar 1))))))
theorem b_all_links {P : Program} {w : World} {K : PySem.W.Frag} {mg : Str → Option Value} {base : Heap} {fA C : Addr}  (B : Blt mg)
    (cdv : Value) (A : Around) (outer : List Env) (s : Shared) (H : Hp) (E : XK) (c : DC) (Ex : DXK) (hr : Room 0 (A.deeper (envOfC "all_links" (defScope s_all_links) s.heap.objs.size fA cdv))) (ok : XOk (cxOf (L2.CX P w) P w K mg base N_all_links "all_links" (defScope s_all_links) fA cdv A outer s H E) c Ex) :
    PSs (cxOf (L2.CX P w) P w K mg base N_all_links "all_links" (defScope s_all_links) fA cdv A outer s H E) (defBody s_all_links) (lS K c (t_all_links C Ex)) :=
  (dss_cons (ds_set (i := 1) sc_all_links.nd (d_lstM da_nil))
    (dss_cons (ds_for (passes_of rfl) rfl (di_enum rfl B.enumerate (da_cons (d_ix ixd_seq (d_var (i := 0)) d_int) da_nil)) (g_tup rfl (gs_cons (g_name (i := 2) sc_all_links.nd) (gs_cons (g_name (i := 3) sc_all_links.nd) gs_nil))) (dss_one (ds_expr (d_extend (d_var (i := 1)) (d_lc (own := [("own", 4)]) rfl sc_all_links.nd (di_any (d_var (i := 3))) (blkOk_by (by first | rfl | decide +kernel)) (fun _ _ _ _ _ _ => (g_name (i := 4) sc_all_links.nd)) (fun _ _ _ _ _ _ => dts_nil) (fun _ _ _ _ _ _ => (d_tup (da_cons (d_var (i := 4)) (da_cons (d_var (i := 2)) da_nil)))))))))
    (dss_one (ds_ret (dl_tuple B (dl_sorted B hr.units (d_var (i := 1))))))))
/-! heard_by: 0 net, 1 station, 2 senders, 3 some, 4 own -/
abbrev N_heard_by : List Str := ["net", "station", "senders", "some", "own"]
theorem sc_heard_by : FnScope N_heard_by ["net", "station", "senders"] (defScope s_heard_by) := ⟨rfl, rfl, rfl, by decide +kernel, rfl, by decide +kernel, by decide +kernel⟩
def t_heard_by (C : Addr) (Ex : DXK) : DS :=
  (dSeq (dIfS (dTst (dOp inD (dVar 1) (dVar 2))) (dRet (dC (.int (-3)))) dNext) (dSeq (dAsg (dLc (dItr (dOp ixD (dOp ixD (dVar 0) (dC (.int 1))) (dVar 1))) [4] (.name 4) (dTst (dOp inD (dVar 4) (dVar 2))) (dVar 4)) (.name 3)) (dSeq (dIfS (dTst (dOp eqD (dF1 lenF (dVar 3)) (dC (.int 1)))) (dRet (dOp ixD (dVar 3) (dC (.int 0)))) dNext) (dRet (dIf (dTru (dVar 3)) (dC (.int (-2))) (dC (.int (-1))))))))
theorem b_heard_by {P : Program} {w : World} {K : PySem.W.Frag} {mg : Str → Option Value} {base : Heap} {fA C : Addr}  (B : Blt mg)
    {t_SILENCE : Tok} (c_SILENCE : mg "SILENCE" = some (.int (-1) t_SILENCE))
    {t_NOISE : Tok} (c_NOISE : mg "NOISE" = some (.int (-2) t_NOISE))
    {t_SENDS : Tok} (c_SENDS : mg "SENDS" = some (.int (-3) t_SENDS))
    (cdv : Value) (A : Around) (outer : List Env) (s : Shared) (H : Hp) (E : XK) (c : DC) (Ex : DXK) (hr : Room 0 (A.deeper (envOfC "heard_by" (defScope s_heard_by) s.heap.objs.size fA cdv))) (ok : XOk (cxOf (L2.CX P w) P w K mg base N_heard_by "heard_by" (defScope s_heard_by) fA cdv A outer s H E) c Ex) :
    PSs (cxOf (L2.CX P w) P w K mg base N_heard_by "heard_by" (defScope s_heard_by) fA cdv A outer s H E) (defBody s_heard_by) (lS K c (t_heard_by C Ex)) :=
  (dss_cons (ds_if (dt_cmp (od_in (hu65 hr)) (d_var (i := 1)) (d_var (i := 2)) (by rfl)) (dss_one (ds_ret (d_gint c_SENDS))) dss_nil)
    (dss_cons (ds_setLc (i := 3) (own := [("own", 4)]) rfl sc_heard_by.nd (di_any (d_ix ixd_seq (d_ix ixd_seq (d_var (i := 0)) d_int) (d_var (i := 1)))) (blkOk_by (by first | rfl | decide +kernel)) (fun _ _ _ _ _ _ => (g_name (i := 4) sc_heard_by.nd)) (fun _ _ _ _ _ _ => (dts_one (dt_cmp (od_in (hu65 hr)) (d_var (i := 4)) (d_var (i := 2)) (by rfl)))) (fun _ _ _ _ _ _ => (d_var (i := 4))) (by exact sw_true rfl rfl rfl rfl))
    (dss_cons (ds_if (dt_cmp (od_eq hr.units) (dl_len B (d_var (i := 3))) d_int (nomark _)) (dss_one (ds_ret (d_ix ixd_seq (d_var (i := 3)) d_int))) dss_nil)
    (dss_one (ds_ret (d_ifExp (dt_tru (d_var (i := 3))) (d_gint c_NOISE) (d_gint c_SILENCE)))))))
/-! clear_links: 0 net, 1 senders, 2 found, 3 station, 4 own -/
abbrev N_clear_links : List Str := ["net", "senders", "found", "station", "own"]
theorem sc_clear_links : FnScope N_clear_links ["net", "senders"] (defScope s_clear_links) := ⟨rfl, rfl, rfl, by decide +kernel, rfl, by decide +kernel, by decide +kernel⟩
def t_clear_links_1 (C : Addr) (Ex : DXK) : DS :=
  (dSeq (dAsg (dCall sp_heard_by noX (dCons (dVar 0) (dCons (dVar 3) (dCons (dVar 1) dNil)))) (.name 4)) (dIfS (dTst (dOp geD (dVar 4) (dC (.int 0)))) (dDrop (dM1 appF (dVar 2) (dTup (dCons (dVar 4) (dCons (dVar 3) dNil))))) dNext))
def t_clear_links (C : Addr) (Ex : DXK) : DS :=
  (dSeq (dAsg (dLstM dNil) (.name 2)) (dSeq (dFor (dRange1 (dCons (dF1 lenF (dOp ixD (dVar 0) (dC (.int 0)))) dNil)) (.name 3) (t_clear_links_1 C Ex)) (dRet (dF1 tupF (dF1 (sortF false) (dVar 2))))))
theorem b_clear_links {P : Program} {w : World} {K : PySem.W.Frag} {mg : Str → Option Value} {base : Heap} {fA C : Addr}  (B : Blt mg)
    (F_heard_by : FnD P w K mg base "heard_by" 1 ["net", "station", "senders"] sp_heard_by)
    (cdv : Value) (A : Around) (outer : List Env) (s : Shared) (H : Hp) (E : XK) (c : DC) (Ex : DXK) (hr : Room 1 (A.deeper (envOfC "clear_links" (defScope s_clear_links) s.heap.objs.size fA cdv))) (ok : XOk (cxOf (L2.CX P w) P w K mg base N_clear_links "clear_links" (defScope s_clear_links) fA cdv A outer s H E) c Ex) :
    PSs (cxOf (L2.CX P w) P w K mg base N_clear_links "clear_links" (defScope s_clear_links) fA cdv A outer s H E) (defBody s_clear_links) (lS K c (t_clear_links C Ex)) :=
  (dss_cons (ds_set (i := 2) sc_clear_links.nd (d_lstM da_nil))
    (dss_cons (ds_for (passes_of rfl) rfl (di_range1 rfl B.range (da_cons (dl_len B (d_ix ixd_seq (d_var (i := 0)) d_int)) da_nil)) (g_name (i := 3) sc_clear_links.nd) (dss_cons (ds_set (i := 4) sc_clear_links.nd (d_call F_heard_by (hr.mono (by decide)) xok0 (da_cons (d_var (i := 0)) (da_cons (d_var (i := 3)) (da_cons (d_var (i := 1)) da_nil)))))
    (dss_one (ds_if (dt_cmp od_ge (d_var (i := 4)) d_int (nomark _)) (dss_one (ds_expr (d_append (d_var (i := 2)) (d_tup (da_cons (d_var (i := 4)) (da_cons (d_var (i := 3)) da_nil)))))) dss_nil))))
    (dss_one (ds_ret (dl_tuple B (dl_sorted B hr.units (d_var (i := 2))))))))
/-! is_wait_row: 0 value, 1 is_row, 2 own -/
abbrev N_is_wait_row : List Str := ["value", "is_row", "own"]
theorem sc_is_wait_row : FnScope N_is_wait_row ["value"] (defScope s_is_wait_row) := ⟨rfl, rfl, rfl, by decide +kernel, rfl, by decide +kernel, by decide +kernel⟩
def t_is_wait_row (C : Addr) (Ex : DXK) : DS :=
  (dSeq (dAsg (dAndV (dF1 (isa1 "tuple") (dVar 0)) (dChain leD leD (dC (.int 1)) (dF1 lenF (dVar 0)) (dC (.int (6))))) (.name 1)) (dRet (dAndV (dVar 1) (dF1 allF (dLc (dItr (dVar 0)) [2] (.name 2) dYes (dCall sp_is_number noX (dCons (dVar 2) (dCons (dC (.int 0)) (dCons (dC (.int (9))) dNil)))))))))
theorem b_is_wait_row {P : Program} {w : World} {K : PySem.W.Frag} {mg : Str → Option Value} {base : Heap} {fA C : Addr}  (B : Blt mg)
    (F_is_number : FnD P w K mg base "is_number" 1 ["value", "least", "most"] sp_is_number)
    {t_MOST_ROW : Tok} (c_MOST_ROW : mg "MOST_ROW" = some (.int (6) t_MOST_ROW))
    {t_MOST_WAIT : Tok} (c_MOST_WAIT : mg "MOST_WAIT" = some (.int (9) t_MOST_WAIT))
    (cdv : Value) (A : Around) (outer : List Env) (s : Shared) (H : Hp) (E : XK) (c : DC) (Ex : DXK) (hr : Room 1 (A.deeper (envOfC "is_wait_row" (defScope s_is_wait_row) s.heap.objs.size fA cdv))) (ok : XOk (cxOf (L2.CX P w) P w K mg base N_is_wait_row "is_wait_row" (defScope s_is_wait_row) fA cdv A outer s H E) c Ex) :
    PSs (cxOf (L2.CX P w) P w K mg base N_is_wait_row "is_wait_row" (defScope s_is_wait_row) fA cdv A outer s H E) (defBody s_is_wait_row) (lS K c (t_is_wait_row C Ex)) :=
  (dss_cons (ds_set (i := 1) sc_is_wait_row.nd (d_and (d_tup2 B (d_var (i := 0))) (d_one (d_chain od_le od_le d_int (dl_len B (d_var (i := 0))) (d_gint c_MOST_ROW)))))
    (dss_one (ds_ret (d_and (d_var (i := 1)) (d_one (dl_all B rfl (d_lc (own := [("own", 2)]) rfl sc_is_wait_row.nd (di_any (d_var (i := 0))) (blkOk_by (by first | rfl | decide +kernel)) (fun _ _ _ _ _ _ => (g_name (i := 2) sc_is_wait_row.nd)) (fun _ _ _ _ _ _ => dts_nil) (fun _ _ _ _ _ _ => (d_call F_is_number (hr.mono (by decide)) xok0 (da_cons (d_var (i := 2)) (da_cons d_int (da_cons (d_gint c_MOST_WAIT) da_nil))))))))))))
/-! is_waits: 0 value, 1 own -/
abbrev N_is_waits : List Str := ["value", "own"]
theorem sc_is_waits : FnScope N_is_waits ["value"] (defScope s_is_waits) := ⟨rfl, rfl, rfl, by decide +kernel, rfl, by decide +kernel, by decide +kernel⟩
def t_is_waits (C : Addr) (Ex : DXK) : DS :=
  (dRet (dAndV (dF1 (isa1 "tuple") (dVar 0)) (dAndV (dChain leD leD (dC (.int 1)) (dF1 lenF (dVar 0)) (dC (.int 7))) (dF1 allF (dLc (dItr (dVar 0)) [1] (.name 1) dYes (dCall sp_is_wait_row noX (dCons (dVar 1) dNil)))))))
theorem b_is_waits {P : Program} {w : World} {K : PySem.W.Frag} {mg : Str → Option Value} {base : Heap} {fA C : Addr}  (B : Blt mg)
    (F_is_wait_row : FnD P w K mg base "is_wait_row" 2 ["value"] sp_is_wait_row)
    (cdv : Value) (A : Around) (outer : List Env) (s : Shared) (H : Hp) (E : XK) (c : DC) (Ex : DXK) (hr : Room 2 (A.deeper (envOfC "is_waits" (defScope s_is_waits) s.heap.objs.size fA cdv))) (ok : XOk (cxOf (L2.CX P w) P w K mg base N_is_waits "is_waits" (defScope s_is_waits) fA cdv A outer s H E) c Ex) :
    PSs (cxOf (L2.CX P w) P w K mg base N_is_waits "is_waits" (defScope s_is_waits) fA cdv A outer s H E) (defBody s_is_waits) (lS K c (t_is_waits C Ex)) :=
  (dss_one (ds_ret (d_and (d_tup2 B (d_var (i := 0))) (d_and (d_chain od_le od_le d_int (dl_len B (d_var (i := 0))) d_int) (d_one (dl_all B rfl (d_lc (own := [("own", 1)]) rfl sc_is_waits.nd (di_any (d_var (i := 0))) (blkOk_by (by first | rfl | decide +kernel)) (fun _ _ _ _ _ _ => (g_name (i := 1) sc_is_waits.nd)) (fun _ _ _ _ _ _ => dts_nil) (fun _ _ _ _ _ _ => (d_call F_is_wait_row (hr.mono (by decide)) xok0 (da_cons (d_var (i := 1)) da_nil))))))))))
/-! check_waits: 0 waits -/
abbrev N_check_waits : List Str := ["waits"]
theorem sc_check_waits : FnScope N_check_waits ["waits"] (defScope s_check_waits) := ⟨rfl, rfl, rfl, by decide +kernel, rfl, by decide +kernel, by decide +kernel⟩
def t_check_waits (C : Addr) (Ex : DXK) : DS :=
  (dDrop (dCall (sp_need C) Ex (dCons (dCall sp_is_waits Ex (dCons (dVar 0) dNil)) (dCons (dC (.str "waits")) dNil))))
theorem b_check_waits {P : Program} {w : World} {K : PySem.W.Frag} {mg : Str → Option Value} {base : Heap} {fA C : Addr}  (B : Blt mg)
    (F_is_waits : FnD P w K mg base "is_waits" 3 ["value"] sp_is_waits)
    (F_need : FnD P w K mg base "need" 3 ["is_valid", "name"] (sp_need C))
    (cdv : Value) (A : Around) (outer : List Env) (s : Shared) (H : Hp) (E : XK) (c : DC) (Ex : DXK) (hr : Room 3 (A.deeper (envOfC "check_waits" (defScope s_check_waits) s.heap.objs.size fA cdv))) (ok : XOk (cxOf (L2.CX P w) P w K mg base N_check_waits "check_waits" (defScope s_check_waits) fA cdv A outer s H E) c Ex) :
    PSs (cxOf (L2.CX P w) P w K mg base N_check_waits "check_waits" (defScope s_check_waits) fA cdv A outer s H E) (defBody s_check_waits) (lS K c (t_check_waits C Ex)) :=
  (dss_one (ds_expr (d_call F_need (hr.mono (by decide)) ok (da_cons (d_call F_is_waits (hr.mono (by decide)) ok (da_cons (d_var (i := 0)) da_nil)) (da_cons d_str da_nil)))))
/-! check_net_waits: 0 net, 1 waits -/
abbrev N_check_net_waits : List Str := ["net", "waits"]
theorem sc_check_net_waits : FnScope N_check_net_waits ["net", "waits"] (defScope s_check_net_waits) := ⟨rfl, rfl, rfl, by decide +kernel, rfl, by decide +kernel, by decide +kernel⟩
def t_check_net_waits (C : Addr) (Ex : DXK) : DS :=
  (dSeq (dDrop (dCall (sp_check_net C) Ex (dCons (dVar 0) dNil))) (dDrop (dCall (sp_need C) Ex (dCons (dAndV (dCall sp_is_waits Ex (dCons (dVar 1) dNil)) (dOp eqD (dF1 lenF (dVar 1)) (dF1 lenF (dOp ixD (dVar 0) (dC (.int 0)))))) (dCons (dC (.str "waits")) dNil)))))
theorem b_check_net_waits {P : Program} {w : World} {K : PySem.W.Frag} {mg : Str → Option Value} {base : Heap} {fA C : Addr}  (B : Blt mg)
    (F_is_waits : FnD P w K mg base "is_waits" 3 ["value"] sp_is_waits)
    (F_need : FnD P w K mg base "need" 3 ["is_valid", "name"] (sp_need C))
    (F_check_net : FnD P w K mg base "check_net" 4 ["net"] (sp_check_net C))
    (cdv : Value) (A : Around) (outer : List Env) (s : Shared) (H : Hp) (E : XK) (c : DC) (Ex : DXK) (hr : Room 4 (A.deeper (envOfC "check_net_waits" (defScope s_check_net_waits) s.heap.objs.size fA cdv))) (ok : XOk (cxOf (L2.CX P w) P w K mg base N_check_net_waits "check_net_waits" (defScope s_check_net_waits) fA cdv A outer s H E) c Ex) :
    PSs (cxOf (L2.CX P w) P w K mg base N_check_net_waits "check_net_waits" (defScope s_check_net_waits) fA cdv A outer s H E) (defBody s_check_net_waits) (lS K c (t_check_net_waits C Ex)) :=
  (dss_cons (ds_expr (d_call F_check_net (hr.mono (by decide)) ok (da_cons (d_var (i := 0)) da_nil)))
    (dss_one (ds_expr (d_call F_need (hr.mono (by decide)) ok (da_cons (d_and (d_call F_is_waits (hr.mono (by decide)) ok (da_cons (d_var (i := 1)) da_nil)) (d_one (d_cmp (od_eq hr.units) (dl_len B (d_var (i := 1))) (dl_len B (d_ix ixd_seq (d_var (i := 0)) d_int)) (nomark _)))) (da_cons d_str da_nil))))))
/-! row_period: 0 row -/
abbrev N_row_period : List Str := ["row"]
theorem sc_row_period : FnScope N_row_period ["row"] (defScope s_row_period) := ⟨rfl, rfl, rfl, by decide +kernel, rfl, by decide +kernel, by decide +kernel⟩
def t_row_period (C : Addr) (Ex : DXK) : DS :=
  (dRet (dOp addD (dF1 sumF (dVar 0)) (dF1 lenF (dVar 0))))
theorem b_row_period {P : Program} {w : World} {K : PySem.W.Frag} {mg : Str → Option Value} {base : Heap} {fA C : Addr}  (B : Blt mg)
    (S_sum : mg "sum" = none)
    (cdv : Value) (A : Around) (outer : List Env) (s : Shared) (H : Hp) (E : XK) (c : DC) (Ex : DXK) (hr : Room 0 (A.deeper (envOfC "row_period" (defScope s_row_period) s.heap.objs.size fA cdv))) (ok : XOk (cxOf (L2.CX P w) P w K mg base N_row_period "row_period" (defScope s_row_period) fA cdv A outer s H E) c Ex) :
    PSs (cxOf (L2.CX P w) P w K mg base N_row_period "row_period" (defScope s_row_period) fA cdv A outer s H E) (defBody s_row_period) (lS K c (t_row_period C Ex)) :=
  (dss_one (ds_ret (d_op od_add (dl_sum S_sum rfl (d_var (i := 0))) (dl_len B (d_var (i := 0))))))
/-! common: 0 one, 1 other -/
abbrev N_common : List Str := ["one", "other"]
theorem sc_common : FnScope N_common ["one", "other"] (defScope s_common) := ⟨rfl, rfl, rfl, by decide +kernel, rfl, by decide +kernel, by decide +kernel⟩
def t_common_1 (C : Addr) (Ex : DXK) : DS :=
  (dPar2 0 1 (dCons (dVar 1) (dCons (dOp modD (dVar 0) (dVar 1)) dNil)))
def t_common (C : Addr) (Ex : DXK) : DS :=
  (dSeq (dWhile (dTru (dVar 1)) (t_common_1 C Ex)) (dRet (dVar 0)))
theorem b_common {P : Program} {w : World} {K : PySem.W.Frag} {mg : Str → Option Value} {base : Heap} {fA C : Addr}  (B : Blt mg)
    (cdv : Value) (A : Around) (outer : List Env) (s : Shared) (H : Hp) (E : XK) (c : DC) (Ex : DXK) (hr : Room 0 (A.deeper (envOfC "common" (defScope s_common) s.heap.objs.size fA cdv))) (ok : XOk (cxOf (L2.CX P w) P w K mg base N_common "common" (defScope s_common) fA cdv A outer s H E) c Ex) :
    PSs (cxOf (L2.CX P w) P w K mg base N_common "common" (defScope s_common) fA cdv A outer s H E) (defBody s_common) (lS K c (t_common C Ex)) :=
  (dss_cons (ds_while (passes_of rfl) (dt_tru (d_var (i := 1))) (dss_one (ds_par (i := 0) (j := 1) rfl sc_common.nd (da_cons (d_var (i := 1)) (da_cons (d_op od_mod (d_var (i := 0)) (d_var (i := 1))) da_nil)))))
    (dss_one (ds_ret (d_var (i := 0)))))
/-! period_of: 0 waits, 1 found, 2 row, 3 own -/
abbrev N_period_of : List Str := ["waits", "found", "row", "own"]
theorem sc_period_of : FnScope N_period_of ["waits"] (defScope s_period_of) := ⟨rfl, rfl, rfl, by decide +kernel, rfl, by decide +kernel, by decide +kernel⟩
def t_period_of_1 (C : Addr) (C2 : Addr) (Ex : DXK) : DS :=
  (dRet (dVar 1))
def t_period_of_2 (C : Addr) (C2 : Addr) (Ex : DXK) : DS :=
  (dIfS (dTst (dOp gtD (dVar 1) (dC (.int (5000))))) (dRaise Ex (dMk C2 "limit" (dCons (dC (.int (5000))) dNil))) dNext)
def t_period_of_3 (C : Addr) (C2 : Addr) (Ex : DXK) : DS :=
  (dAsg (dOp fdivD (dOp mulD (dVar 1) (dVar 3)) (dCall sp_common Ex (dCons (dVar 1) (dCons (dVar 3) dNil)))) (.name 1))
def t_period_of_4 (C : Addr) (C2 : Addr) (Ex : DXK) : DS :=
  (dAsg (dCall sp_row_period Ex (dCons (dVar 2) dNil)) (.name 3))
def t_period_of_5 (C : Addr) (C2 : Addr) (Ex : DXK) : DS :=
  (dSeq (t_period_of_4 C C2 Ex) (t_period_of_3 C C2 Ex))
def t_period_of_6 (C : Addr) (C2 : Addr) (Ex : DXK) : DS :=
  (dFor (dItr (dVar 0)) (.name 2) (t_period_of_5 C C2 Ex))
def t_period_of_7 (C : Addr) (C2 : Addr) (Ex : DXK) : DS :=
  (dAsg (dC (.int 1)) (.name 1))
def t_period_of (C : Addr) (C2 : Addr) (Ex : DXK) : DS :=
  (dSeq (t_period_of_7 C C2 Ex) (dSeq (t_period_of_6 C C2 Ex) (dSeq (t_period_of_2 C C2 Ex) (t_period_of_1 C C2 Ex))))
theorem b_period_of {P : Program} {w : World} {K : PySem.W.Frag} {mg : Str → Option Value} {base : Heap} {fA C : Addr} {C2 : Addr} (B : Blt mg)
    (F_common : FnD P w K mg base "common" 1 ["one", "other"] sp_common)
    (F_row_period : FnD P w K mg base "row_period" 1 ["row"] sp_row_period) {fI2 cc2 cda2 : Addr}
    (T_TooMuch : DX.ErrTxt P K mg "TooMuch" "limit" C2 fI2 cc2 cda2 "TooMuch.__init__")
    {t_MOST_PERIOD : Tok} (c_MOST_PERIOD : mg "MOST_PERIOD" = some (.int (5000) t_MOST_PERIOD))
    (cdv : Value) (A : Around) (outer : List Env) (s : Shared) (H : Hp) (E : XK) (c : DC) (Ex : DXK) (hr : Room 2 (A.deeper (envOfC "period_of" (defScope s_period_of) s.heap.objs.size fA cdv))) (ok : XOk (cxOf (L2.CX P w) P w K mg base N_period_of "period_of" (defScope s_period_of) fA cdv A outer s H E) c Ex) :
    PSs (cxOf (L2.CX P w) P w K mg base N_period_of "period_of" (defScope s_period_of) fA cdv A outer s H E) (defBody s_period_of) (lS K c (t_period_of C C2 Ex)) :=
  (dss_cons (ds_set (i := 1) sc_period_of.nd d_int)
    (dss_cons (ds_for (passes_of rfl) rfl (di_any (d_var (i := 0))) (g_name (i := 2) sc_period_of.nd) (dss_cons (ds_set (i := 3) sc_period_of.nd (d_call F_row_period (hr.mono (by decide)) ok (da_cons (d_var (i := 2)) da_nil)))
    (dss_one (ds_set (i := 1) sc_period_of.nd (d_op od_fdiv (d_op od_mul (d_var (i := 1)) (d_var (i := 3))) (d_call F_common (hr.mono (by decide)) ok (da_cons (d_var (i := 1)) (da_cons (d_var (i := 3)) da_nil))))))))
    (dss_cons (ds_if (dt_cmp od_gt (d_var (i := 1)) (d_gint c_MOST_PERIOD) (nomark _)) (dss_one (ds_raise rfl ok (dmk_of (pmk_err T_TooMuch DX.fld_limit hr (da_cons (d_gint c_MOST_PERIOD) da_nil))))) dss_nil)
    (dss_one (ds_ret (d_var (i := 1)))))))
/-! period: 0 waits -/
abbrev N_period : List Str := ["waits"]
theorem sc_period : FnScope N_period ["waits"] (defScope s_period) := ⟨rfl, rfl, rfl, by decide +kernel, rfl, by decide +kernel, by decide +kernel⟩
def t_period (C : Addr) (C2 : Addr) (Ex : DXK) : DS :=
  (dSeq (dDrop (dCall (sp_check_waits C) Ex (dCons (dVar 0) dNil))) (dRet (dCall (sp_period_of C2) Ex (dCons (dVar 0) dNil))))
theorem b_period {P : Program} {w : World} {K : PySem.W.Frag} {mg : Str → Option Value} {base : Heap} {fA C : Addr} {C2 : Addr} (B : Blt mg)
    (F_period_of : FnD P w K mg base "period_of" 3 ["waits"] (sp_period_of C2))
    (F_check_waits : FnD P w K mg base "check_waits" 4 ["waits"] (sp_check_waits C))
    (cdv : Value) (A : Around) (outer : List Env) (s : Shared) (H : Hp) (E : XK) (c : DC) (Ex : DXK) (hr : Room 4 (A.deeper (envOfC "period" (defScope s_period) s.heap.objs.size fA cdv))) (ok : XOk (cxOf (L2.CX P w) P w K mg base N_period "period" (defScope s_period) fA cdv A outer s H E) c Ex) :
    PSs (cxOf (L2.CX P w) P w K mg base N_period "period" (defScope s_period) fA cdv A outer s H E) (defBody s_period) (lS K c (t_period C C2 Ex)) :=
  (dss_cons (ds_expr (d_call F_check_waits (hr.mono (by decide)) ok (da_cons (d_var (i := 0)) da_nil)))
    (dss_one (ds_ret (d_call F_period_of (hr.mono (by decide)) ok (da_cons (d_var (i := 0)) da_nil)))))
/-! does_send: 0 row, 1 slot, 2 left, 3 own -/
abbrev N_does_send : List Str := ["row", "slot", "left", "own"]
theorem sc_does_send : FnScope N_does_send ["row", "slot"] (defScope s_does_send) := ⟨rfl, rfl, rfl, by decide +kernel, rfl, by decide +kernel, by decide +kernel⟩
def t_does_send_1 (C : Addr) (Ex : DXK) : DS :=
  (dSeq (dIfS (dTst (dOp leD (dVar 2) (dVar 3))) (dRet (dOp eqD (dVar 2) (dVar 3))) dNext) (dAug 2 subD (dOp addD (dVar 3) (dC (.int 1)))))
def t_does_send (C : Addr) (Ex : DXK) : DS :=
  (dSeq (dAsg (dOp modD (dVar 1) (dCall sp_row_period noX (dCons (dVar 0) dNil))) (.name 2)) (dSeq (dFor (dItr (dVar 0)) (.name 3) (t_does_send_1 C Ex)) (dRet (dC (.bl false)))))
theorem b_does_send {P : Program} {w : World} {K : PySem.W.Frag} {mg : Str → Option Value} {base : Heap} {fA C : Addr}  (B : Blt mg)
    (F_row_period : FnD P w K mg base "row_period" 1 ["row"] sp_row_period)
    (cdv : Value) (A : Around) (outer : List Env) (s : Shared) (H : Hp) (E : XK) (c : DC) (Ex : DXK) (hr : Room 1 (A.deeper (envOfC "does_send" (defScope s_does_send) s.heap.objs.size fA cdv))) (ok : XOk (cxOf (L2.CX P w) P w K mg base N_does_send "does_send" (defScope s_does_send) fA cdv A outer s H E) c Ex) :
    PSs (cxOf (L2.CX P w) P w K mg base N_does_send "does_send" (defScope s_does_send) fA cdv A outer s H E) (defBody s_does_send) (lS K c (t_does_send C Ex)) :=
  (dss_cons (ds_set (i := 2) sc_does_send.nd (d_op od_mod (d_var (i := 1)) (d_call F_row_period (hr.mono (by decide)) xok0 (da_cons (d_var (i := 0)) da_nil))))
    (dss_cons (ds_for (passes_of rfl) rfl (di_any (d_var (i := 0))) (g_name (i := 3) sc_does_send.nd) (dss_cons (ds_if (dt_cmp od_le (d_var (i := 2)) (d_var (i := 3)) (nomark _)) (dss_one (ds_ret (d_cmp (od_eq hr.units) (d_var (i := 2)) (d_var (i := 3)) (nomark _)))) dss_nil)
    (dss_one (ds_aug (i := 2) sc_does_send.nd ip_minus (d_op od_add (d_var (i := 3)) d_int)))))
    (dss_one (ds_ret d_bl))))
/-! senders_in: 0 waits, 1 slot, 2 at, 3 row -/
abbrev N_senders_in : List Str := ["waits", "slot", "at", "row"]
theorem sc_senders_in : FnScope N_senders_in ["waits", "slot"] (defScope s_senders_in) := ⟨rfl, rfl, rfl, by decide +kernel, rfl, by decide +kernel, by decide +kernel⟩
def t_senders_in (C : Addr) (Ex : DXK) : DS :=
  (dRet (dF1 tupF (dLc (dEnum (dCons (dVar 0) dNil)) [2, 3] (.tup [(.name 2), (.name 3)]) (dTru (dCall sp_does_send noX (dCons (dVar 3) (dCons (dVar 1) dNil)))) (dVar 2))))
theorem b_senders_in {P : Program} {w : World} {K : PySem.W.Frag} {mg : Str → Option Value} {base : Heap} {fA C : Addr}  (B : Blt mg)
    (F_does_send : FnD P w K mg base "does_send" 2 ["row", "slot"] sp_does_send)
    (cdv : Value) (A : Around) (outer : List Env) (s : Shared) (H : Hp) (E : XK) (c : DC) (Ex : DXK) (hr : Room 2 (A.deeper (envOfC "senders_in" (defScope s_senders_in) s.heap.objs.size fA cdv))) (ok : XOk (cxOf (L2.CX P w) P w K mg base N_senders_in "senders_in" (defScope s_senders_in) fA cdv A outer s H E) c Ex) :
    PSs (cxOf (L2.CX P w) P w K mg base N_senders_in "senders_in" (defScope s_senders_in) fA cdv A outer s H E) (defBody s_senders_in) (lS K c (t_senders_in C Ex)) :=
  (dss_one (ds_ret (dl_tuple B (d_lc (own := [("at", 2), ("row", 3)]) rfl sc_senders_in.nd (di_enum rfl B.enumerate (da_cons (d_var (i := 0)) da_nil)) (blkOk_by (by first | rfl | decide +kernel)) (fun _ _ _ _ _ _ => (g_tup rfl (gs_cons (g_name (i := 2) sc_senders_in.nd) (gs_cons (g_name (i := 3) sc_senders_in.nd) gs_nil)))) (fun _ _ _ _ _ _ => (dts_one (dt_tru (d_call F_does_send (hr.mono (by decide)) xok0 (da_cons (d_var (i := 3)) (da_cons (d_var (i := 1)) da_nil)))))) (fun _ _ _ _ _ _ => (d_var (i := 2)))))))
/-! senders_at: 0 waits, 1 slot -/
abbrev N_senders_at : List Str := ["waits", "slot"]
theorem sc_senders_at : FnScope N_senders_at ["waits", "slot"] (defScope s_senders_at) := ⟨rfl, rfl, rfl, by decide +kernel, rfl, by decide +kernel, by decide +kernel⟩
def t_senders_at (C : Addr) (Ex : DXK) : DS :=
  (dSeq (dDrop (dCall (sp_check_waits C) Ex (dCons (dVar 0) dNil))) (dSeq (dDrop (dCall (sp_need C) Ex (dCons (dCall sp_is_number Ex (dCons (dVar 1) (dCons (dC (.int 0)) (dCons (dC (.int (1000000))) dNil)))) (dCons (dC (.str "slot")) dNil)))) (dRet (dCall sp_senders_in Ex (dCons (dVar 0) (dCons (dVar 1) dNil))))))
theorem b_senders_at {P : Program} {w : World} {K : PySem.W.Frag} {mg : Str → Option Value} {base : Heap} {fA C : Addr}  (B : Blt mg)
    (F_senders_in : FnD P w K mg base "senders_in" 3 ["waits", "slot"] sp_senders_in)
    (F_is_number : FnD P w K mg base "is_number" 1 ["value", "least", "most"] sp_is_number)
    (F_need : FnD P w K mg base "need" 3 ["is_valid", "name"] (sp_need C))
    (F_check_waits : FnD P w K mg base "check_waits" 4 ["waits"] (sp_check_waits C))
    {t_MOST_SLOT : Tok} (c_MOST_SLOT : mg "MOST_SLOT" = some (.int (1000000) t_MOST_SLOT))
    (cdv : Value) (A : Around) (outer : List Env) (s : Shared) (H : Hp) (E : XK) (c : DC) (Ex : DXK) (hr : Room 4 (A.deeper (envOfC "senders_at" (defScope s_senders_at) s.heap.objs.size fA cdv))) (ok : XOk (cxOf (L2.CX P w) P w K mg base N_senders_at "senders_at" (defScope s_senders_at) fA cdv A outer s H E) c Ex) :
    PSs (cxOf (L2.CX P w) P w K mg base N_senders_at "senders_at" (defScope s_senders_at) fA cdv A outer s H E) (defBody s_senders_at) (lS K c (t_senders_at C Ex)) :=
  (dss_cons (ds_expr (d_call F_check_waits (hr.mono (by decide)) ok (da_cons (d_var (i := 0)) da_nil)))
    (dss_cons (ds_expr (d_call F_need (hr.mono (by decide)) ok (da_cons (d_call F_is_number (hr.mono (by decide)) ok (da_cons (d_var (i := 1)) (da_cons d_int (da_cons (d_gint c_MOST_SLOT) da_nil)))) (da_cons d_str da_nil))))
    (dss_one (ds_ret (d_call F_senders_in (hr.mono (by decide)) ok (da_cons (d_var (i := 0)) (da_cons (d_var (i := 1)) da_nil)))))))
/-! counts_of: 0 net, 1 waits, 2 rows, 3 slot, 4 link, 5 own -/
abbrev N_counts_of : List Str := ["net", "waits", "rows", "slot", "link", "own"]
theorem sc_counts_of : FnScope N_counts_of ["net", "waits"] (defScope s_counts_of) := ⟨rfl, rfl, rfl, by decide +kernel, rfl, by decide +kernel, by decide +kernel⟩
def t_counts_of (C : Addr) (C2 : Addr) (Ex : DXK) : DS :=
  (dSeq (dAsg (dLc (dRange1 (dCons (dCall (sp_period_of C2) Ex (dCons (dVar 1) dNil)) dNil)) [3] (.name 3) dYes (dCall sp_clear_links noX (dCons (dVar 0) (dCons (dCall sp_senders_in noX (dCons (dVar 1) (dCons (dVar 3) dNil))) dNil)))) (.name 2)) (dRet (dLc (dItr (dCall sp_all_links Ex (dCons (dVar 0) dNil))) [4] (.name 4) dYes (dF1 lenF (dLc (dItr (dVar 2)) [5] (.name 5) (dTst (dOp inD (dVar 4) (dVar 5))) (dC (.int 1)))))))
theorem b_counts_of {P : Program} {w : World} {K : PySem.W.Frag} {mg : Str → Option Value} {base : Heap} {fA C : Addr} {C2 : Addr} (B : Blt mg)
    (F_all_links : FnD P w K mg base "all_links" 1 ["net"] sp_all_links)
    (F_period_of : FnD P w K mg base "period_of" 3 ["waits"] (sp_period_of C2))
    (F_senders_in : FnD P w K mg base "senders_in" 3 ["waits", "slot"] sp_senders_in)
    (F_clear_links : FnD P w K mg base "clear_links" 2 ["net", "senders"] sp_clear_links)
    (cdv : Value) (A : Around) (outer : List Env) (s : Shared) (H : Hp) (E : XK) (c : DC) (Ex : DXK) (hr : Room 3 (A.deeper (envOfC "counts_of" (defScope s_counts_of) s.heap.objs.size fA cdv))) (ok : XOk (cxOf (L2.CX P w) P w K mg base N_counts_of "counts_of" (defScope s_counts_of) fA cdv A outer s H E) c Ex) :
    PSs (cxOf (L2.CX P w) P w K mg base N_counts_of "counts_of" (defScope s_counts_of) fA cdv A outer s H E) (defBody s_counts_of) (lS K c (t_counts_of C C2 Ex)) :=
  (dss_cons (ds_set (i := 2) sc_counts_of.nd (d_lc (own := [("slot", 3)]) rfl sc_counts_of.nd (di_range1 rfl B.range (da_cons (d_call F_period_of (hr.mono (by decide)) ok (da_cons (d_var (i := 1)) da_nil)) da_nil)) (blkOk_by (by first | rfl | decide +kernel)) (fun _ _ _ _ _ _ => (g_name (i := 3) sc_counts_of.nd)) (fun _ _ _ _ _ _ => dts_nil) (fun _ _ _ _ _ _ => (d_call F_clear_links (hr.mono (by decide)) xok0 (da_cons (d_var (i := 0)) (da_cons (d_call F_senders_in (hr.mono (by decide)) xok0 (da_cons (d_var (i := 1)) (da_cons (d_var (i := 3)) da_nil))) da_nil))))))
    (dss_one (ds_ret (d_lc (own := [("link", 4)]) rfl sc_counts_of.nd (di_any (d_call F_all_links (hr.mono (by decide)) ok (da_cons (d_var (i := 0)) da_nil))) (blkOk_by (by first | rfl | decide +kernel)) (fun _ _ _ _ _ _ => (g_name (i := 4) sc_counts_of.nd)) (fun _ _ _ _ _ _ => dts_nil) (fun _ _ _ _ _ _ => (dl_len B (d_lc (own := [("own", 5)]) rfl sc_counts_of.nd (di_any (d_var (i := 2))) (blkOk_by (by first | rfl | decide +kernel)) (fun _ _ _ _ _ _ => (g_name (i := 5) sc_counts_of.nd)) (fun _ _ _ _ _ _ => (dts_one (dt_cmp (od_in (hu65 hr)) (d_var (i := 4)) (d_var (i := 5)) (by rfl)))) (fun _ _ _ _ _ _ => d_int))))))))
/-! clear_in_period: 0 net, 1 waits -/
abbrev N_clear_in_period : List Str := ["net", "waits"]
theorem sc_clear_in_period : FnScope N_clear_in_period ["net", "waits"] (defScope s_clear_in_period) := ⟨rfl, rfl, rfl, by decide +kernel, rfl, by decide +kernel, by decide +kernel⟩
def t_clear_in_period (C : Addr) (C2 : Addr) (Ex : DXK) : DS :=
  (dSeq (dDrop (dCall (sp_check_net_waits C) Ex (dCons (dVar 0) (dCons (dVar 1) dNil)))) (dRet (dF1 tupF (dCall (sp_counts_of C2) Ex (dCons (dVar 0) (dCons (dVar 1) dNil))))))
theorem b_clear_in_period {P : Program} {w : World} {K : PySem.W.Frag} {mg : Str → Option Value} {base : Heap} {fA C : Addr} {C2 : Addr} (B : Blt mg)
    (F_counts_of : FnD P w K mg base "counts_of" 4 ["net", "waits"] (sp_counts_of C2))
    (F_check_net_waits : FnD P w K mg base "check_net_waits" 5 ["net", "waits"] (sp_check_net_waits C))
    (cdv : Value) (A : Around) (outer : List Env) (s : Shared) (H : Hp) (E : XK) (c : DC) (Ex : DXK) (hr : Room 5 (A.deeper (envOfC "clear_in_period" (defScope s_clear_in_period) s.heap.objs.size fA cdv))) (ok : XOk (cxOf (L2.CX P w) P w K mg base N_clear_in_period "clear_in_period" (defScope s_clear_in_period) fA cdv A outer s H E) c Ex) :
    PSs (cxOf (L2.CX P w) P w K mg base N_clear_in_period "clear_in_period" (defScope s_clear_in_period) fA cdv A outer s H E) (defBody s_clear_in_period) (lS K c (t_clear_in_period C C2 Ex)) :=
  (dss_cons (ds_expr (d_call F_check_net_waits (hr.mono (by decide)) ok (da_cons (d_var (i := 0)) (da_cons (d_var (i := 1)) da_nil))))
    (dss_one (ds_ret (dl_tuple B (d_call F_counts_of (hr.mono (by decide)) ok (da_cons (d_var (i := 0)) (da_cons (d_var (i := 1)) da_nil)))))))
/-! never_clear: 0 net, 1 waits, 2 link, 3 own -/
abbrev N_never_clear : List Str := ["net", "waits", "link", "own"]
theorem sc_never_clear : FnScope N_never_clear ["net", "waits"] (defScope s_never_clear) := ⟨rfl, rfl, rfl, by decide +kernel, rfl, by decide +kernel, by decide +kernel⟩
def t_never_clear (C : Addr) (C2 : Addr) (Ex : DXK) : DS :=
  (dSeq (dDrop (dCall (sp_check_net_waits C) Ex (dCons (dVar 0) (dCons (dVar 1) dNil)))) (dRet (dF1 tupF (dLc (dZipM (dCons (dCall sp_all_links Ex (dCons (dVar 0) dNil)) (dCons (dCall (sp_counts_of C2) Ex (dCons (dVar 0) (dCons (dVar 1) dNil))) dNil))) [2, 3] (.tup [(.name 2), (.name 3)]) (dTst (dOp eqD (dVar 3) (dC (.int 0)))) (dVar 2)))))
theorem b_never_clear {P : Program} {w : World} {K : PySem.W.Frag} {mg : Str → Option Value} {base : Heap} {fA C : Addr} {C2 : Addr} (B : Blt mg)
    (F_counts_of : FnD P w K mg base "counts_of" 4 ["net", "waits"] (sp_counts_of C2))
    (F_all_links : FnD P w K mg base "all_links" 1 ["net"] sp_all_links)
    (F_check_net_waits : FnD P w K mg base "check_net_waits" 5 ["net", "waits"] (sp_check_net_waits C))
    (cdv : Value) (A : Around) (outer : List Env) (s : Shared) (H : Hp) (E : XK) (c : DC) (Ex : DXK) (hr : Room 5 (A.deeper (envOfC "never_clear" (defScope s_never_clear) s.heap.objs.size fA cdv))) (ok : XOk (cxOf (L2.CX P w) P w K mg base N_never_clear "never_clear" (defScope s_never_clear) fA cdv A outer s H E) c Ex) :
    PSs (cxOf (L2.CX P w) P w K mg base N_never_clear "never_clear" (defScope s_never_clear) fA cdv A outer s H E) (defBody s_never_clear) (lS K c (t_never_clear C C2 Ex)) :=
  (dss_cons (ds_expr (d_call F_check_net_waits (hr.mono (by decide)) ok (da_cons (d_var (i := 0)) (da_cons (d_var (i := 1)) da_nil))))
    (dss_one (ds_ret (dl_tuple B (d_lc (own := [("link", 2), ("own", 3)]) rfl sc_never_clear.nd (di_zipM rfl B.zip (da_cons (d_call F_all_links (hr.mono (by decide)) ok (da_cons (d_var (i := 0)) da_nil)) (da_cons (d_call F_counts_of (hr.mono (by decide)) ok (da_cons (d_var (i := 0)) (da_cons (d_var (i := 1)) da_nil))) da_nil))) (blkOk_by (by first | rfl | decide +kernel)) (fun _ _ _ _ _ _ => (g_tup rfl (gs_cons (g_name (i := 2) sc_never_clear.nd) (gs_cons (g_name (i := 3) sc_never_clear.nd) gs_nil)))) (fun _ _ _ _ _ _ => (dts_one (dt_cmp (od_eq hr.units) (d_var (i := 3)) d_int (nomark _)))) (fun _ _ _ _ _ _ => (d_var (i := 2))))))))
/-! are_coprime: 0 waits, 1 rows, 2 at, 3 one, 4 row, 5 other -/
abbrev N_are_coprime : List Str := ["waits", "rows", "at", "one", "row", "other"]
theorem sc_are_coprime : FnScope N_are_coprime ["waits"] (defScope s_are_coprime) := ⟨rfl, rfl, rfl, by decide +kernel, rfl, by decide +kernel, by decide +kernel⟩
def t_are_coprime_1 (C : Addr) (Ex : DXK) : DS :=
  (dRet (dC (.bl true)))
def t_are_coprime_2 (C : Addr) (Ex : DXK) : DS :=
  (dIfS (dNot (dTru (dF1 allF (dLc (dItr (dSl slD (dVar 1) (dPart (dOp addD (dVar 2) (dC (.int 1)))) dNoPart)) [5] (.name 5) dYes (dOp eqD (dCall sp_common noX (dCons (dVar 3) (dCons (dVar 5) dNil))) (dC (.int 1))))))) (dRet (dC (.bl false))) dNext)
def t_are_coprime_3 (C : Addr) (Ex : DXK) : DS :=
  (dFor (dEnum (dCons (dVar 1) dNil)) (.tup [(.name 2), (.name 3)]) (t_are_coprime_2 C Ex))
def t_are_coprime_4 (C : Addr) (Ex : DXK) : DS :=
  (dAsg (dLc (dItr (dVar 0)) [4] (.name 4) dYes (dCall sp_row_period noX (dCons (dVar 4) dNil))) (.name 1))
def t_are_coprime_5 (C : Addr) (Ex : DXK) : DS :=
  (dIfS (dNot (dTru (dF1 allF (dLc (dItr (dVar 0)) [4] (.name 4) dYes (dAndV (dOp eqD (dF1 lenF (dVar 4)) (dC (.int 1))) (dOp gtD (dOp ixD (dVar 4) (dC (.int 0))) (dC (.int 0)))))))) (dRet (dC (.bl false))) dNext)
def t_are_coprime_6 (C : Addr) (Ex : DXK) : DS :=
  (dDrop (dCall (sp_check_waits C) Ex (dCons (dVar 0) dNil)))
def t_are_coprime (C : Addr) (Ex : DXK) : DS :=
  (dSeq (t_are_coprime_6 C Ex) (dSeq (t_are_coprime_5 C Ex) (dSeq (t_are_coprime_4 C Ex) (dSeq (t_are_coprime_3 C Ex) (t_are_coprime_1 C Ex)))))
theorem b_are_coprime {P : Program} {w : World} {K : PySem.W.Frag} {mg : Str → Option Value} {base : Heap} {fA C : Addr}  (B : Blt mg)
    (F_common : FnD P w K mg base "common" 1 ["one", "other"] sp_common)
    (F_row_period : FnD P w K mg base "row_period" 1 ["row"] sp_row_period)
    (F_check_waits : FnD P w K mg base "check_waits" 4 ["waits"] (sp_check_waits C))
    (cdv : Value) (A : Around) (outer : List Env) (s : Shared) (H : Hp) (E : XK) (c : DC) (Ex : DXK) (hr : Room 4 (A.deeper (envOfC "are_coprime" (defScope s_are_coprime) s.heap.objs.size fA cdv))) (ok : XOk (cxOf (L2.CX P w) P w K mg base N_are_coprime "are_coprime" (defScope s_are_coprime) fA cdv A outer s H E) c Ex) :
    PSs (cxOf (L2.CX P w) P w K mg base N_are_coprime "are_coprime" (defScope s_are_coprime) fA cdv A outer s H E) (defBody s_are_coprime) (lS K c (t_are_coprime C Ex)) :=
  (dss_cons (ds_expr (d_call F_check_waits (hr.mono (by decide)) ok (da_cons (d_var (i := 0)) da_nil)))
    (dss_cons (ds_if (dt_not (dt_tru (dl_all B rfl (d_lc (own := [("row", 4)]) rfl sc_are_coprime.nd (di_any (d_var (i := 0))) (blkOk_by (by first | rfl | decide +kernel)) (fun _ _ _ _ _ _ => (g_name (i := 4) sc_are_coprime.nd)) (fun _ _ _ _ _ _ => dts_nil) (fun _ _ _ _ _ _ => (d_and (d_cmp (od_eq hr.units) (dl_len B (d_var (i := 4))) d_int (nomark _)) (d_one (d_cmp od_gt (d_ix ixd_seq (d_var (i := 4)) d_int) d_int (nomark _))))))))) (dss_one (ds_ret d_bl)) dss_nil)
    (dss_cons (ds_setLc (i := 1) (own := [("row", 4)]) rfl sc_are_coprime.nd (di_any (d_var (i := 0))) (blkOk_by (by first | rfl | decide +kernel)) (fun _ _ _ _ _ _ => (g_name (i := 4) sc_are_coprime.nd)) (fun _ _ _ _ _ _ => dts_nil) (fun _ _ _ _ _ _ => (d_call F_row_period (hr.mono (by decide)) xok0 (da_cons (d_var (i := 4)) da_nil))) (by exact sw_true rfl rfl rfl rfl))
    (dss_cons (ds_for (passes_of rfl) rfl (di_enum rfl B.enumerate (da_cons (d_var (i := 1)) da_nil)) (g_tup rfl (gs_cons (g_name (i := 2) sc_are_coprime.nd) (gs_cons (g_name (i := 3) sc_are_coprime.nd) gs_nil))) (dss_one (ds_if (dt_not (dt_tru (dl_all B rfl (d_lc (own := [("other", 5)]) rfl sc_are_coprime.nd (di_any (d_slice sld_seq (d_var (i := 1)) (do_some (d_op od_add (d_var (i := 2)) d_int)) do_none)) (blkOk_by (by first | rfl | decide +kernel)) (fun _ _ _ _ _ _ => (g_name (i := 5) sc_are_coprime.nd)) (fun _ _ _ _ _ _ => dts_nil) (fun _ _ _ _ _ _ => (d_cmp (od_eq hr.units) (d_call F_common (hr.mono (by decide)) xok0 (da_cons (d_var (i := 3)) (da_cons (d_var (i := 5)) da_nil))) d_int (nomark _))))))) (dss_one (ds_ret d_bl)) dss_nil)))
    (dss_one (ds_ret d_bl))))))
/-! _law_taken: 0 row, 1 many, 2 found, 3 cell -/
abbrev N__law_taken : List Str := ["row", "many", "found", "cell"]
theorem sc__law_taken : FnScope N__law_taken ["row", "many"] (defScope s__law_taken) := ⟨rfl, rfl, rfl, by decide +kernel, rfl, by decide +kernel, by decide +kernel⟩
def t__law_taken (C : Addr) (Ex : DXK) : DS :=
  (dSeq (dIfS (dTst (dOp gtD (dOp ixD (dVar 0) (dC (.int 3))) (dC (.int 0)))) (dSeq (dAsg (dOp modD (dF1 intF (dOp ixD (dVar 0) (dC (.int 3)))) (dVar 1)) (.name 2)) (dSeq (dPut setD (dOp fdivD (dOp ixD (dVar 0) (dC (.int 3))) (dVar 1)) (dVar 0) (dC (.int 3))) (dRet (dVar 2)))) dNext) (dSeq (dPut setD (dOp addD (dOp ixD (dVar 0) (dC (.int 1))) (dC (.int 1))) (dVar 0) (dC (.int 1))) (dSeq (dIfS (dTst (dOp gtD (dOp ixD (dVar 0) (dC (.int 1))) (dF1 lenF (dOp ixD (dVar 0) (dC (.int 0)))))) (dSeq (dPut setD (dOp modD (dF1 intF (dOp addD (dOp mulD (dOp ixD (dVar 0) (dC (.int 2))) (dC (.int 48271))) (dC (.int 11)))) (dC (.int 2147483647))) (dVar 0) (dC (.int 2))) (dRet (dOp modD (dF1 intF (dOp fdivD (dOp ixD (dVar 0) (dC (.int 2))) (dC (.int 7)))) (dVar 1)))) dNext) (dSeq (dAsg (dOp ixD (dOp ixD (dVar 0) (dC (.int 0))) (dOp subD (dOp ixD (dVar 0) (dC (.int 1))) (dC (.int 1)))) (.name 3)) (dSeq (dPut setD (dOp modD (dF1 intF (dOp addD (dOp addD (dOp mulD (dOp ixD (dVar 0) (dC (.int 2))) (dC (.int 48271))) (dF1 intF (dVar 3))) (dC (.int 11)))) (dC (.int 2147483647))) (dVar 0) (dC (.int 2))) (dSeq (dIfS (dTst (dOp geD (dVar 3) (dOp powD (dC (.int 10)) (dC (.int 18))))) (dPut setD (dOp fdivD (dF1 intF (dOp modD (dF1 intF (dVar 3)) (dOp powD (dC (.int 10)) (dC (.int 90))))) (dVar 1)) (dVar 0) (dC (.int 3))) dNext) (dRet (dOp modD (dF1 intF (dVar 3)) (dVar 1)))))))))
theorem b__law_taken {P : Program} {w : World} {K : PySem.W.Frag} {mg : Str → Option Value} {base : Heap} {fA C : Addr}  (B : Blt mg)
    (cdv : Value) (A : Around) (outer : List Env) (s : Shared) (H : Hp) (E : XK) (c : DC) (Ex : DXK) (hr : Room 0 (A.deeper (envOfC "_law_taken" (defScope s__law_taken) s.heap.objs.size fA cdv))) (ok : XOk (cxOf (L2.CX P w) P w K mg base N__law_taken "_law_taken" (defScope s__law_taken) fA cdv A outer s H E) c Ex) :
    PSs (cxOf (L2.CX P w) P w K mg base N__law_taken "_law_taken" (defScope s__law_taken) fA cdv A outer s H E) (defBody s__law_taken) (lS K c (t__law_taken C Ex)) :=
  (dss_cons (ds_if (dt_cmp od_gt (d_ix ixd_seq (d_var (i := 0)) d_int) d_int (nomark _)) (dss_cons (ds_set (i := 2) sc__law_taken.nd (d_op od_mod (dl_int B (d_ix ixd_seq (d_var (i := 0)) d_int)) (d_var (i := 1))))
    (dss_cons (ds_put setd_list (d_op od_fdiv (d_ix ixd_seq (d_var (i := 0)) d_int) (d_var (i := 1))) (d_var (i := 0)) d_int)
    (dss_one (ds_ret (d_var (i := 2)))))) dss_nil)
    (dss_cons (ds_put setd_list (d_op od_add (d_ix ixd_seq (d_var (i := 0)) d_int) d_int) (d_var (i := 0)) d_int)
    (dss_cons (ds_if (dt_cmp od_gt (d_ix ixd_seq (d_var (i := 0)) d_int) (dl_len B (d_ix ixd_seq (d_var (i := 0)) d_int)) (nomark _)) (dss_cons (ds_put setd_list (d_op od_mod (dl_int B (d_op od_add (d_op od_mul (d_ix ixd_seq (d_var (i := 0)) d_int) d_int) d_int)) d_int) (d_var (i := 0)) d_int)
    (dss_one (ds_ret (d_op od_mod (dl_int B (d_op od_fdiv (d_ix ixd_seq (d_var (i := 0)) d_int) d_int)) (d_var (i := 1)))))) dss_nil)
    (dss_cons (ds_set (i := 3) sc__law_taken.nd (d_ix ixd_seq (d_ix ixd_seq (d_var (i := 0)) d_int) (d_op od_sub (d_ix ixd_seq (d_var (i := 0)) d_int) d_int)))
    (dss_cons (ds_put setd_list (d_op od_mod (dl_int B (d_op od_add (d_op od_add (d_op od_mul (d_ix ixd_seq (d_var (i := 0)) d_int) d_int) (dl_int B (d_var (i := 3)))) d_int)) d_int) (d_var (i := 0)) d_int)
    (dss_cons (ds_if (dt_cmp od_ge (d_var (i := 3)) (d_op od_pow d_int d_int) (nomark _)) (dss_one (ds_put setd_list (d_op od_fdiv (dl_int B (d_op od_mod (dl_int B (d_var (i := 3))) (d_op od_pow d_int d_int))) (d_var (i := 1))) (d_var (i := 0)) d_int)) dss_nil)
    (dss_one (ds_ret (d_op od_mod (dl_int B (d_var (i := 3))) (d_var (i := 1)))))))))))
/-! _law_pick: 0 row, 1 some -/
abbrev N__law_pick : List Str := ["row", "some"]
theorem sc__law_pick : FnScope N__law_pick ["row", "some"] (defScope s__law_pick) := ⟨rfl, rfl, rfl, by decide +kernel, rfl, by decide +kernel, by decide +kernel⟩
def t__law_pick (C : Addr) (Ex : DXK) : DS :=
  (dRet (dOp ixD (dVar 1) (dCall sp__law_taken noX (dCons (dVar 0) (dCons (dF1 lenF (dVar 1)) dNil)))))
theorem b__law_pick {P : Program} {w : World} {K : PySem.W.Frag} {mg : Str → Option Value} {base : Heap} {fA C : Addr}  (B : Blt mg)
    (F__law_taken : FnD P w K mg base "_law_taken" 1 ["row", "many"] sp__law_taken)
    (cdv : Value) (A : Around) (outer : List Env) (s : Shared) (H : Hp) (E : XK) (c : DC) (Ex : DXK) (hr : Room 1 (A.deeper (envOfC "_law_pick" (defScope s__law_pick) s.heap.objs.size fA cdv))) (ok : XOk (cxOf (L2.CX P w) P w K mg base N__law_pick "_law_pick" (defScope s__law_pick) fA cdv A outer s H E) c Ex) :
    PSs (cxOf (L2.CX P w) P w K mg base N__law_pick "_law_pick" (defScope s__law_pick) fA cdv A outer s H E) (defBody s__law_pick) (lS K c (t__law_pick C Ex)) :=
  (dss_one (ds_ret (d_ix ixd_seq (d_var (i := 1)) (d_call F__law_taken (hr.mono (by decide)) xok0 (da_cons (d_var (i := 0)) (da_cons (dl_len B (d_var (i := 1))) da_nil))))))
/-! _law_alike: 0 found, 1 due, 2 at -/
abbrev N__law_alike : List Str := ["found", "due", "at"]
theorem sc__law_alike : FnScope N__law_alike ["found", "due"] (defScope s__law_alike) := ⟨rfl, rfl, rfl, by decide +kernel, rfl, by decide +kernel, by decide +kernel⟩
def t__law_alike (C : Addr) (sp : DSp) (Ex : DXK) : DS :=
  (dSeq (dIfS (dTru (dF1 (isa1 "tuple") (dVar 1))) (dSeq (dIfS (dOr (dNot (dTru (dF1 (isa1 "tuple") (dVar 0)))) (dTst (dOp neD (dF1 lenF (dVar 0)) (dF1 lenF (dVar 1))))) (dRet (dC (.bl false))) dNext) (dRet (dOp eqD (dLc (dRange1 (dCons (dF1 lenF (dVar 1)) dNil)) [2] (.name 2) (dNot (dTru (dCall sp noX (dCons (dOp ixD (dVar 0) (dVar 2)) (dCons (dOp ixD (dVar 1) (dVar 2)) dNil))))) (dVar 2)) (dLst dNil)))) dNext) (dSeq (dIfS (dOr (dTst (dOp isND (dVar 1) (dC .non))) (dTru (dF1 (isa1 "str") (dVar 1)))) (dRet (dAndV (dOp eqD (dVar 0) (dVar 1)) (dOp eqD (dF1 (isa1 "str") (dVar 0)) (dF1 (isa1 "str") (dVar 1))))) dNext) (dRet (dAndV (dF1 (isa1 "int") (dVar 0)) (dAndV (dOp eqD (dF1 (isa1 "bool") (dVar 0)) (dF1 (isa1 "bool") (dVar 1))) (dOp eqD (dVar 0) (dVar 1)))))))
theorem b__law_alike {P : Program} {w : World} {K : PySem.W.Frag} {mg : Str → Option Value} {base : Heap} {fA C : Addr} {sp : DSp} {j : Nat} (B : Blt mg)
    (F__law_alike : FnD P w K mg base "_law_alike" j ["found", "due"] sp)
    (cdv : Value) (A : Around) (outer : List Env) (s : Shared) (H : Hp) (E : XK) (c : DC) (Ex : DXK) (hr : Room j (A.deeper (envOfC "_law_alike" (defScope s__law_alike) s.heap.objs.size fA cdv))) (ok : XOk (cxOf (L2.CX P w) P w K mg base N__law_alike "_law_alike" (defScope s__law_alike) fA cdv A outer s H E) c Ex) :
    PSs (cxOf (L2.CX P w) P w K mg base N__law_alike "_law_alike" (defScope s__law_alike) fA cdv A outer s H E) (defBody s__law_alike) (lS K c (t__law_alike C sp Ex)) :=
  (dss_cons (ds_if (dt_tru (d_tup2 B (d_var (i := 1)))) (dss_cons (ds_if (PW.pt (dw_or (dt_not (dt_tru (d_tup2 B (d_var (i := 0))))) (dw_or1 (dt_cmp (od_ne hr.units) (dl_len B (d_var (i := 0))) (dl_len B (d_var (i := 1))) (nomark _))))) (dss_one (ds_ret d_bl)) dss_nil)
    (dss_one (ds_ret (d_cmp (od_eq hr.units) (d_lc (own := [("at", 2)]) rfl sc__law_alike.nd (di_range1 rfl B.range (da_cons (dl_len B (d_var (i := 1))) da_nil)) (blkOk_by (by first | rfl | decide +kernel)) (fun _ _ _ _ _ _ => (g_name (i := 2) sc__law_alike.nd)) (fun _ _ _ _ _ _ => (dts_one (dt_not (dt_tru (d_call F__law_alike hr xok0 (da_cons (d_ix ixd_seq (d_var (i := 0)) (d_var (i := 2))) (da_cons (d_ix ixd_seq (d_var (i := 1)) (d_var (i := 2))) da_nil))))))) (fun _ _ _ _ _ _ => (d_var (i := 2)))) (d_lst da_nil) (nomark _))))) dss_nil)
    (dss_cons (ds_if (PW.pt (dw_or (dt_cmp od_isN (d_var (i := 1)) d_non (nomark _)) (dw_or1 (dt_tru (d_str2 B (d_var (i := 1))))))) (dss_one (ds_ret (d_and (d_cmp (od_eq hr.units) (d_var (i := 0)) (d_var (i := 1)) (nomark _)) (d_one (d_cmp (od_eq hr.units) (d_str2 B (d_var (i := 0))) (d_str2 B (d_var (i := 1))) (nomark _)))))) dss_nil)
    (dss_one (ds_ret (d_and (d_int2 B (d_var (i := 0))) (d_and (d_cmp (od_eq hr.units) (d_bool2 B (d_var (i := 0))) (d_bool2 B (d_var (i := 1))) (nomark _)) (d_one (d_cmp (od_eq hr.units) (d_var (i := 0)) (d_var (i := 1)) (nomark _)))))))))
/-! _law_net: 0 row, 1 most, 2 many, 3 letters, 4 ears, 5 labels, 6 at, 7 bits, 8 thin, 9 some, 10 own -/
abbrev N__law_net : List Str := ["row", "most", "many", "letters", "ears", "labels", "at", "bits", "thin", "some", "own"]
theorem sc__law_net : FnScope N__law_net ["row", "most"] (defScope s__law_net) := ⟨rfl, rfl, rfl, by decide +kernel, rfl, by decide +kernel, by decide +kernel⟩
def t__law_net_1 (C : Addr) (Ex : DXK) : DS :=
  (dRet (dTup (dCons (dVar 5) (dCons (dF1 tupF (dVar 4)) dNil))))
def t__law_net_2 (C : Addr) (Ex : DXK) : DS :=
  (dDrop (dM1 appF (dVar 4) (dF1 tupF (dLc (dItr (dVar 9)) [10] (.name 10) (dAnd (dTst (dOp neD (dVar 10) (dVar 6))) (dTst (dOp eqD (dOp modD (dF1 intF (dOp fdivD (dVar 8) (dOp ixD (dTup (dCons (dC (.int 1)) (dCons (dC (.int 2)) (dCons (dC (.int 4)) (dCons (dC (.int 8)) (dCons (dC (.int 16)) (dCons (dC (.int 32)) (dCons (dC (.int 64)) dNil)))))))) (dVar 10)))) (dC (.int 2))) (dC (.int 1))))) (dVar 10)))))
def t__law_net_3 (C : Addr) (Ex : DXK) : DS :=
  (dAsg (dLc (dRange1 (dCons (dVar 2) dNil)) [10] (.name 10) (dTst (dOp eqD (dOp modD (dF1 intF (dOp fdivD (dVar 7) (dOp ixD (dTup (dCons (dC (.int 1)) (dCons (dC (.int 2)) (dCons (dC (.int 4)) (dCons (dC (.int 8)) (dCons (dC (.int 16)) (dCons (dC (.int 32)) (dCons (dC (.int 64)) dNil)))))))) (dVar 10)))) (dC (.int 2))) (dC (.int 1)))) (dVar 10)) (.name 9))
def t__law_net_4 (C : Addr) (Ex : DXK) : DS :=
  (dAsg (dTup (dCons (dCall sp__law_taken noX (dCons (dVar 0) (dCons (dC (.int 128)) dNil))) (dCons (dIf (dTst (dOp eqD (dCall sp__law_taken noX (dCons (dVar 0) (dCons (dC (.int 2)) dNil))) (dC (.int 0)))) (dCall sp__law_taken noX (dCons (dVar 0) (dCons (dC (.int 128)) dNil))) (dC (.int 127))) dNil))) (.tup [(.name 7), (.name 8)]))
def t__law_net_5 (C : Addr) (Ex : DXK) : DS :=
  (dSeq (t__law_net_4 C Ex) (dSeq (t__law_net_3 C Ex) (t__law_net_2 C Ex)))
def t__law_net_6 (C : Addr) (Ex : DXK) : DS :=
  (dFor (dRange1 (dCons (dVar 2) dNil)) (.name 6) (t__law_net_5 C Ex))
def t__law_net_7 (C : Addr) (Ex : DXK) : DS :=
  (dIfS (dTst (dOp eqD (dCall sp__law_taken noX (dCons (dVar 0) (dCons (dC (.int 3)) dNil))) (dC (.int 0)))) (dAsg (dSl slD (dC (.str "cgbeafd")) dNoPart (dPart (dVar 2))) (.name 5)) dNext)
def t__law_net_8 (C : Addr) (Ex : DXK) : DS :=
  (dAsg (dJoin (dC (.str "")) (dLc (dRange1 (dCons (dVar 2) dNil)) [6] (.name 6) dYes (dCall sp__law_pick noX (dCons (dVar 0) (dCons (dVar 3) dNil))))) (.name 5))
def t__law_net_9 (C : Addr) (Ex : DXK) : DS :=
  (dAsg (dTup (dCons (dCall sp__law_pick noX (dCons (dVar 0) (dCons (dLst (dCons (dC (.str "ab")) (dCons (dC (.str "abc")) (dCons (dC (.str "abcdefg")) (dCons (dC (.str "gfedcba")) (dCons (dC (.str "a")) dNil)))))) dNil))) (dCons (dLstM dNil) dNil))) (.tup [(.name 3), (.name 4)]))
def t__law_net_10 (C : Addr) (Ex : DXK) : DS :=
  (dAsg (dOp addD (dC (.int 1)) (dCall sp__law_taken noX (dCons (dVar 0) (dCons (dVar 1) dNil)))) (.name 2))
def t__law_net (C : Addr) (Ex : DXK) : DS :=
  (dSeq (t__law_net_10 C Ex) (dSeq (t__law_net_9 C Ex) (dSeq (t__law_net_8 C Ex) (dSeq (t__law_net_7 C Ex) (dSeq (t__law_net_6 C Ex) (t__law_net_1 C Ex))))))
theorem b__law_net {P : Program} {w : World} {K : PySem.W.Frag} {mg : Str → Option Value} {base : Heap} {fA C : Addr}  (B : Blt mg)
    (F__law_taken : FnD P w K mg base "_law_taken" 1 ["row", "many"] sp__law_taken)
    (F__law_pick : FnD P w K mg base "_law_pick" 2 ["row", "some"] sp__law_pick)
    (cdv : Value) (A : Around) (outer : List Env) (s : Shared) (H : Hp) (E : XK) (c : DC) (Ex : DXK) (hr : Room 2 (A.deeper (envOfC "_law_net" (defScope s__law_net) s.heap.objs.size fA cdv))) (ok : XOk (cxOf (L2.CX P w) P w K mg base N__law_net "_law_net" (defScope s__law_net) fA cdv A outer s H E) c Ex) :
    PSs (cxOf (L2.CX P w) P w K mg base N__law_net "_law_net" (defScope s__law_net) fA cdv A outer s H E) (defBody s__law_net) (lS K c (t__law_net C Ex)) :=
  (dss_cons (ds_set (i := 2) sc__law_net.nd (d_op od_add d_int (d_call F__law_taken (hr.mono (by decide)) xok0 (da_cons (d_var (i := 0)) (da_cons (d_var (i := 1)) da_nil)))))
    (dss_cons (ds_asg (d_tup (da_cons (d_call F__law_pick (hr.mono (by decide)) xok0 (da_cons (d_var (i := 0)) (da_cons (d_lst (da_cons d_str (da_cons d_str (da_cons d_str (da_cons d_str (da_cons d_str da_nil)))))) da_nil))) (da_cons (d_lstM da_nil) da_nil))) (g_tup rfl (gs_cons (g_name (i := 3) sc__law_net.nd) (gs_cons (g_name (i := 4) sc__law_net.nd) gs_nil))))
    (dss_cons (ds_set (i := 5) sc__law_net.nd (d_join d_str (d_lc (own := [("at", 6)]) rfl sc__law_net.nd (di_range1 rfl B.range (da_cons (d_var (i := 2)) da_nil)) (blkOk_by (by first | rfl | decide +kernel)) (fun _ _ _ _ _ _ => (g_name (i := 6) sc__law_net.nd)) (fun _ _ _ _ _ _ => dts_nil) (fun _ _ _ _ _ _ => (d_call F__law_pick (hr.mono (by decide)) xok0 (da_cons (d_var (i := 0)) (da_cons (d_var (i := 3)) da_nil)))))))
    (dss_cons (ds_if (dt_cmp (od_eq hr.units) (d_call F__law_taken (hr.mono (by decide)) xok0 (da_cons (d_var (i := 0)) (da_cons d_int da_nil))) d_int (nomark _)) (dss_one (ds_set (i := 5) sc__law_net.nd (d_slice sld_seq d_str do_none (do_some (d_var (i := 2)))))) dss_nil)
    (dss_cons (ds_for (passes_of rfl) rfl (di_range1 rfl B.range (da_cons (d_var (i := 2)) da_nil)) (g_name (i := 6) sc__law_net.nd) (dss_cons (ds_asg (d_tup (da_cons (d_call F__law_taken (hr.mono (by decide)) xok0 (da_cons (d_var (i := 0)) (da_cons d_int da_nil))) (da_cons (d_ifExp (dt_cmp (od_eq hr.units) (d_call F__law_taken (hr.mono (by decide)) xok0 (da_cons (d_var (i := 0)) (da_cons d_int da_nil))) d_int (nomark _)) (d_call F__law_taken (hr.mono (by decide)) xok0 (da_cons (d_var (i := 0)) (da_cons d_int da_nil))) d_int) da_nil))) (g_tup rfl (gs_cons (g_name (i := 7) sc__law_net.nd) (gs_cons (g_name (i := 8) sc__law_net.nd) gs_nil))))
    (dss_cons (ds_setLc (i := 9) (own := [("own", 10)]) rfl sc__law_net.nd (di_range1 rfl B.range (da_cons (d_var (i := 2)) da_nil)) (blkOk_by (by first | rfl | decide +kernel)) (fun _ _ _ _ _ _ => (g_name (i := 10) sc__law_net.nd)) (fun _ _ _ _ _ _ => (dts_one (dt_cmp (od_eq hr.units) (d_op od_mod (dl_int B (d_op od_fdiv (d_var (i := 7)) (d_ix ixd_seq (d_tup (da_cons d_int (da_cons d_int (da_cons d_int (da_cons d_int (da_cons d_int (da_cons d_int (da_cons d_int da_nil)))))))) (d_var (i := 10))))) d_int) d_int (nomark _)))) (fun _ _ _ _ _ _ => (d_var (i := 10))) (by exact sw_true rfl rfl rfl rfl))
    (dss_one (ds_expr (d_append (d_var (i := 4)) (dl_tuple B (d_lc (own := [("own", 10)]) rfl sc__law_net.nd (di_any (d_var (i := 9))) (blkOk_by (by first | rfl | decide +kernel)) (fun _ _ _ _ _ _ => (g_name (i := 10) sc__law_net.nd)) (fun _ _ _ _ _ _ => (dts_one (PW.pt (dw_and (dt_cmp (od_ne hr.units) (d_var (i := 10)) (d_var (i := 6)) (nomark _)) (dw_and1 (dt_cmp (od_eq hr.units) (d_op od_mod (dl_int B (d_op od_fdiv (d_var (i := 8)) (d_ix ixd_seq (d_tup (da_cons d_int (da_cons d_int (da_cons d_int (da_cons d_int (da_cons d_int (da_cons d_int (da_cons d_int da_nil)))))))) (d_var (i := 10))))) d_int) d_int (nomark _))))))) (fun _ _ _ _ _ _ => (d_var (i := 10)))))))))))
    (dss_one (ds_ret (d_tup (da_cons (d_var (i := 5)) (da_cons (dl_tuple B (d_var (i := 4))) da_nil))))))))))
/-! _law_links: 0 net, 1 found, 2 listener, 3 own -/
abbrev N__law_links : List Str := ["net", "found", "listener", "own"]
theorem sc__law_links : FnScope N__law_links ["net"] (defScope s__law_links) := ⟨rfl, rfl, rfl, by decide +kernel, rfl, by decide +kernel, by decide +kernel⟩
def t__law_links_1 (C : Addr) (Ex : DXK) : DS :=
  (dAsg (dOp addD (dVar 1) (dLc (dItr (dOp ixD (dOp ixD (dVar 0) (dC (.int 1))) (dVar 2))) [3] (.name 3) dYes (dTup (dCons (dVar 3) (dCons (dVar 2) dNil))))) (.name 1))
def t__law_links (C : Addr) (Ex : DXK) : DS :=
  (dSeq (dAsg (dLst dNil) (.name 1)) (dSeq (dFor (dRange1 (dCons (dF1 lenF (dOp ixD (dVar 0) (dC (.int 0)))) dNil)) (.name 2) (t__law_links_1 C Ex)) (dRet (dF1 (sortF false) (dVar 1)))))
theorem b__law_links {P : Program} {w : World} {K : PySem.W.Frag} {mg : Str → Option Value} {base : Heap} {fA C : Addr}  (B : Blt mg)
    (cdv : Value) (A : Around) (outer : List Env) (s : Shared) (H : Hp) (E : XK) (c : DC) (Ex : DXK) (hr : Room 0 (A.deeper (envOfC "_law_links" (defScope s__law_links) s.heap.objs.size fA cdv))) (ok : XOk (cxOf (L2.CX P w) P w K mg base N__law_links "_law_links" (defScope s__law_links) fA cdv A outer s H E) c Ex) :
    PSs (cxOf (L2.CX P w) P w K mg base N__law_links "_law_links" (defScope s__law_links) fA cdv A outer s H E) (defBody s__law_links) (lS K c (t__law_links C Ex)) :=
  (dss_cons (ds_set (i := 1) sc__law_links.nd (d_lst da_nil))
    (dss_cons (ds_for (passes_of rfl) rfl (di_range1 rfl B.range (da_cons (dl_len B (d_ix ixd_seq (d_var (i := 0)) d_int)) da_nil)) (g_name (i := 2) sc__law_links.nd) (dss_one (ds_set (i := 1) sc__law_links.nd (d_op od_add (d_var (i := 1)) (d_lc (own := [("own", 3)]) rfl sc__law_links.nd (di_any (d_ix ixd_seq (d_ix ixd_seq (d_var (i := 0)) d_int) (d_var (i := 2)))) (blkOk_by (by first | rfl | decide +kernel)) (fun _ _ _ _ _ _ => (g_name (i := 3) sc__law_links.nd)) (fun _ _ _ _ _ _ => dts_nil) (fun _ _ _ _ _ _ => (d_tup (da_cons (d_var (i := 3)) (da_cons (d_var (i := 2)) da_nil)))))))))
    (dss_one (ds_ret (dl_sorted B hr.units (d_var (i := 1)))))))
/-! _law_hears: 0 net, 1 station, 2 senders, 3 some, 4 own -/
abbrev N__law_hears : List Str := ["net", "station", "senders", "some", "own"]
theorem sc__law_hears : FnScope N__law_hears ["net", "station", "senders"] (defScope s__law_hears) := ⟨rfl, rfl, rfl, by decide +kernel, rfl, by decide +kernel, by decide +kernel⟩
def t__law_hears (C : Addr) (Ex : DXK) : DS :=
  (dSeq (dIfS (dTst (dOp inD (dVar 1) (dVar 2))) (dRet (dNeg (dC (.int 3)))) dNext) (dSeq (dAsg (dLc (dItr (dOp ixD (dOp ixD (dVar 0) (dC (.int 1))) (dVar 1))) [4] (.name 4) (dTst (dOp inD (dVar 4) (dVar 2))) (dVar 4)) (.name 3)) (dRet (dIf (dTst (dOp eqD (dVar 3) (dLst dNil))) (dNeg (dC (.int 1))) (dIf (dTst (dOp eqD (dF1 lenF (dVar 3)) (dC (.int 1)))) (dOp ixD (dVar 3) (dC (.int 0))) (dNeg (dC (.int 2))))))))
theorem b__law_hears {P : Program} {w : World} {K : PySem.W.Frag} {mg : Str → Option Value} {base : Heap} {fA C : Addr}  (B : Blt mg)
    (cdv : Value) (A : Around) (outer : List Env) (s : Shared) (H : Hp) (E : XK) (c : DC) (Ex : DXK) (hr : Room 0 (A.deeper (envOfC "_law_hears" (defScope s__law_hears) s.heap.objs.size fA cdv))) (ok : XOk (cxOf (L2.CX P w) P w K mg base N__law_hears "_law_hears" (defScope s__law_hears) fA cdv A outer s H E) c Ex) :
    PSs (cxOf (L2.CX P w) P w K mg base N__law_hears "_law_hears" (defScope s__law_hears) fA cdv A outer s H E) (defBody s__law_hears) (lS K c (t__law_hears C Ex)) :=
  (dss_cons (ds_if (dt_cmp (od_in (hu65 hr)) (d_var (i := 1)) (d_var (i := 2)) (by rfl)) (dss_one (ds_ret (d_neg d_int))) dss_nil)
    (dss_cons (ds_setLc (i := 3) (own := [("own", 4)]) rfl sc__law_hears.nd (di_any (d_ix ixd_seq (d_ix ixd_seq (d_var (i := 0)) d_int) (d_var (i := 1)))) (blkOk_by (by first | rfl | decide +kernel)) (fun _ _ _ _ _ _ => (g_name (i := 4) sc__law_hears.nd)) (fun _ _ _ _ _ _ => (dts_one (dt_cmp (od_in (hu65 hr)) (d_var (i := 4)) (d_var (i := 2)) (by rfl)))) (fun _ _ _ _ _ _ => (d_var (i := 4))) (by exact sw_true rfl rfl rfl rfl))
    (dss_one (ds_ret (d_ifExp (dt_cmp (od_eq hr.units) (d_var (i := 3)) (d_lst da_nil) (nomark _)) (d_neg d_int) (d_ifExp (dt_cmp (od_eq hr.units) (dl_len B (d_var (i := 3))) d_int (nomark _)) (d_ix ixd_seq (d_var (i := 3)) d_int) (d_neg d_int)))))))
/-! _law_clear: 0 net, 1 senders, 2 one, 3 two -/
abbrev N__law_clear : List Str := ["net", "senders", "one", "two"]
theorem sc__law_clear : FnScope N__law_clear ["net", "senders"] (defScope s__law_clear) := ⟨rfl, rfl, rfl, by decide +kernel, rfl, by decide +kernel, by decide +kernel⟩
def t__law_clear (C : Addr) (Ex : DXK) : DS :=
  (dRet (dLc (dItr (dCall sp__law_links noX (dCons (dVar 0) dNil))) [2, 3] (.tup [(.name 2), (.name 3)]) (dTst (dOp eqD (dCall sp__law_hears noX (dCons (dVar 0) (dCons (dVar 3) (dCons (dVar 1) dNil)))) (dVar 2))) (dTup (dCons (dVar 2) (dCons (dVar 3) dNil)))))
theorem b__law_clear {P : Program} {w : World} {K : PySem.W.Frag} {mg : Str → Option Value} {base : Heap} {fA C : Addr}  (B : Blt mg)
    (F__law_links : FnD P w K mg base "_law_links" 1 ["net"] sp__law_links)
    (F__law_hears : FnD P w K mg base "_law_hears" 1 ["net", "station", "senders"] sp__law_hears)
    (cdv : Value) (A : Around) (outer : List Env) (s : Shared) (H : Hp) (E : XK) (c : DC) (Ex : DXK) (hr : Room 1 (A.deeper (envOfC "_law_clear" (defScope s__law_clear) s.heap.objs.size fA cdv))) (ok : XOk (cxOf (L2.CX P w) P w K mg base N__law_clear "_law_clear" (defScope s__law_clear) fA cdv A outer s H E) c Ex) :
    PSs (cxOf (L2.CX P w) P w K mg base N__law_clear "_law_clear" (defScope s__law_clear) fA cdv A outer s H E) (defBody s__law_clear) (lS K c (t__law_clear C Ex)) :=
  (dss_one (ds_ret (d_lc (own := [("one", 2), ("two", 3)]) rfl sc__law_clear.nd (di_any (d_call F__law_links (hr.mono (by decide)) xok0 (da_cons (d_var (i := 0)) da_nil))) (blkOk_by (by first | rfl | decide +kernel)) (fun _ _ _ _ _ _ => (g_tup rfl (gs_cons (g_name (i := 2) sc__law_clear.nd) (gs_cons (g_name (i := 3) sc__law_clear.nd) gs_nil)))) (fun _ _ _ _ _ _ => (dts_one (dt_cmp (od_eq hr.units) (d_call F__law_hears (hr.mono (by decide)) xok0 (da_cons (d_var (i := 0)) (da_cons (d_var (i := 3)) (da_cons (d_var (i := 1)) da_nil)))) (d_var (i := 2)) (nomark _)))) (fun _ _ _ _ _ _ => (d_tup (da_cons (d_var (i := 2)) (da_cons (d_var (i := 3)) da_nil)))))))
/-! _law_common: 0 one, 1 other, 2 turn -/
abbrev N__law_common : List Str := ["one", "other", "turn"]
theorem sc__law_common : FnScope N__law_common ["one", "other"] (defScope s__law_common) := ⟨rfl, rfl, rfl, by decide +kernel, rfl, by decide +kernel, by decide +kernel⟩
def t__law_common_1 (C : Addr) (Ex : DXK) : DS :=
  (dSeq (dIfS (dTst (dOp eqD (dVar 1) (dC (.int 0)))) (dRet (dVar 0)) dNext) (dPar2 0 1 (dCons (dVar 1) (dCons (dOp modD (dF1 intF (dVar 0)) (dVar 1)) dNil))))
def t__law_common (C : Addr) (Ex : DXK) : DS :=
  (dSeq (dFor (dRange1 (dCons (dC (.int 200)) dNil)) (.name 2) (t__law_common_1 C Ex)) (dRet (dVar 0)))
theorem b__law_common {P : Program} {w : World} {K : PySem.W.Frag} {mg : Str → Option Value} {base : Heap} {fA C : Addr}  (B : Blt mg)
    (cdv : Value) (A : Around) (outer : List Env) (s : Shared) (H : Hp) (E : XK) (c : DC) (Ex : DXK) (hr : Room 0 (A.deeper (envOfC "_law_common" (defScope s__law_common) s.heap.objs.size fA cdv))) (ok : XOk (cxOf (L2.CX P w) P w K mg base N__law_common "_law_common" (defScope s__law_common) fA cdv A outer s H E) c Ex) :
    PSs (cxOf (L2.CX P w) P w K mg base N__law_common "_law_common" (defScope s__law_common) fA cdv A outer s H E) (defBody s__law_common) (lS K c (t__law_common C Ex)) :=
  (dss_cons (ds_for (passes_of rfl) rfl (di_range1 rfl B.range (da_cons d_int da_nil)) (g_name (i := 2) sc__law_common.nd) (dss_cons (ds_if (dt_cmp (od_eq hr.units) (d_var (i := 1)) d_int (nomark _)) (dss_one (ds_ret (d_var (i := 0)))) dss_nil)
    (dss_one (ds_par (i := 0) (j := 1) rfl sc__law_common.nd (da_cons (d_var (i := 1)) (da_cons (d_op od_mod (dl_int B (d_var (i := 0))) (d_var (i := 1))) da_nil))))))
    (dss_one (ds_ret (d_var (i := 0)))))
/-! _law_pattern: 0 row_of, 1 found, 2 own -/
abbrev N__law_pattern : List Str := ["row_of", "found", "own"]
theorem sc__law_pattern : FnScope N__law_pattern ["row_of"] (defScope s__law_pattern) := ⟨rfl, rfl, rfl, by decide +kernel, rfl, by decide +kernel, by decide +kernel⟩
def t__law_pattern_1 (C : Addr) (Ex : DXK) : DS :=
  (dAsg (dOp addD (dOp addD (dVar 1) (dOp mulD (dLst (dCons (dC (.int 0)) dNil)) (dVar 2))) (dLst (dCons (dC (.int 1)) dNil))) (.name 1))
def t__law_pattern (C : Addr) (Ex : DXK) : DS :=
  (dSeq (dAsg (dLst dNil) (.name 1)) (dSeq (dFor (dItr (dVar 0)) (.name 2) (t__law_pattern_1 C Ex)) (dRet (dVar 1))))
theorem b__law_pattern {P : Program} {w : World} {K : PySem.W.Frag} {mg : Str → Option Value} {base : Heap} {fA C : Addr}  (B : Blt mg)
    (cdv : Value) (A : Around) (outer : List Env) (s : Shared) (H : Hp) (E : XK) (c : DC) (Ex : DXK) (hr : Room 0 (A.deeper (envOfC "_law_pattern" (defScope s__law_pattern) s.heap.objs.size fA cdv))) (ok : XOk (cxOf (L2.CX P w) P w K mg base N__law_pattern "_law_pattern" (defScope s__law_pattern) fA cdv A outer s H E) c Ex) :
    PSs (cxOf (L2.CX P w) P w K mg base N__law_pattern "_law_pattern" (defScope s__law_pattern) fA cdv A outer s H E) (defBody s__law_pattern) (lS K c (t__law_pattern C Ex)) :=
  (dss_cons (ds_set (i := 1) sc__law_pattern.nd (d_lst da_nil))
    (dss_cons (ds_for (passes_of rfl) rfl (di_any (d_var (i := 0))) (g_name (i := 2) sc__law_pattern.nd) (dss_one (ds_set (i := 1) sc__law_pattern.nd (d_op od_add (d_op od_add (d_var (i := 1)) (d_op od_mul (d_lst (da_cons d_int da_nil)) (d_var (i := 2)))) (d_lst (da_cons d_int da_nil))))))
    (dss_one (ds_ret (d_var (i := 1))))))
/-! _law_waits: 0 row, 1 many, 2 found, 3 at, 4 turn -/
abbrev N__law_waits : List Str := ["row", "many", "found", "at", "turn"]
theorem sc__law_waits : FnScope N__law_waits ["row", "many"] (defScope s__law_waits) := ⟨rfl, rfl, rfl, by decide +kernel, rfl, by decide +kernel, by decide +kernel⟩
def t__law_waits_1 (C : Addr) (Ex : DXK) : DS :=
  (dRet (dF1 tupF (dVar 2)))
def t__law_waits_2 (C : Addr) (Ex : DXK) : DS :=
  (dIfS (dAnd (dTst (dOp ltD (dVar 1) (dC (.int 5)))) (dTst (dOp eqD (dCall sp__law_taken noX (dCons (dVar 0) (dCons (dC (.int 3)) dNil))) (dC (.int 0))))) (dAsg (dLcM (dRange1 (dCons (dVar 1) dNil)) [3] (.name 3) dYes (dTup (dCons (dOp ixD (dTup (dCons (dC (.int 1)) (dCons (dC (.int 2)) (dCons (dC (.int 4)) (dCons (dC (.int 6)) dNil))))) (dVar 3)) dNil))) (.name 2)) dNext)
def t__law_waits_3 (C : Addr) (Ex : DXK) : DS :=
  (dDrop (dM1 appF (dVar 2) (dF1 tupF (dLc (dRange1 (dCons (dCall sp__law_pick noX (dCons (dVar 0) (dCons (dLst (dCons (dC (.int 1)) (dCons (dC (.int 1)) (dCons (dC (.int 1)) (dCons (dC (.int 2)) (dCons (dC (.int 3)) dNil)))))) dNil))) dNil)) [4] (.name 4) dYes (dCall sp__law_taken noX (dCons (dVar 0) (dCons (dC (.int 4)) dNil)))))))
def t__law_waits_4 (C : Addr) (Ex : DXK) : DS :=
  (dFor (dRange1 (dCons (dVar 1) dNil)) (.name 3) (t__law_waits_3 C Ex))
def t__law_waits_5 (C : Addr) (Ex : DXK) : DS :=
  (dAsg (dLstM dNil) (.name 2))
def t__law_waits (C : Addr) (Ex : DXK) : DS :=
  (dSeq (t__law_waits_5 C Ex) (dSeq (t__law_waits_4 C Ex) (dSeq (t__law_waits_2 C Ex) (t__law_waits_1 C Ex))))
theorem b__law_waits {P : Program} {w : World} {K : PySem.W.Frag} {mg : Str → Option Value} {base : Heap} {fA C : Addr}  (B : Blt mg)
    (F__law_taken : FnD P w K mg base "_law_taken" 1 ["row", "many"] sp__law_taken)
    (F__law_pick : FnD P w K mg base "_law_pick" 2 ["row", "some"] sp__law_pick)
    (cdv : Value) (A : Around) (outer : List Env) (s : Shared) (H : Hp) (E : XK) (c : DC) (Ex : DXK) (hr : Room 2 (A.deeper (envOfC "_law_waits" (defScope s__law_waits) s.heap.objs.size fA cdv))) (ok : XOk (cxOf (L2.CX P w) P w K mg base N__law_waits "_law_waits" (defScope s__law_waits) fA cdv A outer s H E) c Ex) :
    PSs (cxOf (L2.CX P w) P w K mg base N__law_waits "_law_waits" (defScope s__law_waits) fA cdv A outer s H E) (defBody s__law_waits) (lS K c (t__law_waits C Ex)) :=
  (dss_cons (ds_set (i := 2) sc__law_waits.nd (d_lstM da_nil))
    (dss_cons (ds_for (passes_of rfl) rfl (di_range1 rfl B.range (da_cons (d_var (i := 1)) da_nil)) (g_name (i := 3) sc__law_waits.nd) (dss_one (ds_expr (d_append (d_var (i := 2)) (dl_tuple B (d_lc (own := [("turn", 4)]) rfl sc__law_waits.nd (di_range1 rfl B.range (da_cons (d_call F__law_pick (hr.mono (by decide)) xok0 (da_cons (d_var (i := 0)) (da_cons (d_lst (da_cons d_int (da_cons d_int (da_cons d_int (da_cons d_int (da_cons d_int da_nil)))))) da_nil))) da_nil)) (blkOk_by (by first | rfl | decide +kernel)) (fun _ _ _ _ _ _ => (g_name (i := 4) sc__law_waits.nd)) (fun _ _ _ _ _ _ => dts_nil) (fun _ _ _ _ _ _ => (d_call F__law_taken (hr.mono (by decide)) xok0 (da_cons (d_var (i := 0)) (da_cons d_int da_nil))))))))))
    (dss_cons (ds_if (PW.pt (dw_and (dt_cmp od_lt (d_var (i := 1)) d_int (nomark _)) (dw_and1 (dt_cmp (od_eq hr.units) (d_call F__law_taken (hr.mono (by decide)) xok0 (da_cons (d_var (i := 0)) (da_cons d_int da_nil))) d_int (nomark _))))) (dss_one (ds_setLcM (i := 2) (own := [("at", 3)]) rfl sc__law_waits.nd (di_range1 rfl B.range (da_cons (d_var (i := 1)) da_nil)) (blkOk_by (by first | rfl | decide +kernel)) (fun _ _ _ _ _ _ => (g_name (i := 3) sc__law_waits.nd)) (fun _ _ _ _ _ _ => dts_nil) (fun _ _ _ _ _ _ => (d_tup (da_cons (d_ix ixd_seq (d_tup (da_cons d_int (da_cons d_int (da_cons d_int (da_cons d_int da_nil))))) (d_var (i := 3))) da_nil))) (by exact sw_true rfl rfl rfl rfl))) dss_nil)
    (dss_one (ds_ret (dl_tuple B (d_var (i := 2))))))))
/-! law: 0 script, 1 row, 2 turn, 3 net, 4 waits, 5 patterns, 6 due, 7 own, 8 rows, 9 sends, 10 slot, 11 again, 12 counts, 13 one, 14 two, 15 is_one, 16 sizes, 17 twice, 18 bad, 19 told, 20 great, 21 at, 22 to -/
abbrev qn_law : Str := ("law" : Str) ++ ".<locals>." ++ "<lambda>"
abbrev N_law : List Str := ["script", "row", "turn", "net", "waits", "patterns", "due", "own", "rows", "sends", "slot", "again", "counts", "one", "two", "is_one", "sizes", "twice", "bad", "told", "great", "at", "to"]
theorem sc_law : FnScope N_law ["script"] (defScope s_law) := ⟨rfl, rfl, rfl, by decide +kernel, rfl, by decide +kernel, by decide +kernel⟩
def t_law_1 (C : Addr) (Pt : Addr) (C2 : Addr) (Ex : DXK) : DS :=
  (dRet (dAndV (dOp eqD (dRefI Pt qn_law C2 "limit" 0 (fun Ex => (dCall (sp_are_coprime C) Ex (dCons (dVar 20) dNil)))) (dC (.int 0))) (dAndV (dOp eqD (dCall (sp_period C C2) noX (dCons (dTup (dCons (dTup (dCons (dC (.int 7)) dNil)) (dCons (dTup (dCons (dC (.int 4)) (dCons (dC (.int 4)) dNil))) (dCons (dTup (dCons (dC (.int 4)) (dCons (dC (.int 9)) (dCons (dC (.int 9)) (dCons (dC (.int 9)) (dCons (dC (.int 9)) (dCons (dC (.int 9)) dNil))))))) dNil)))) dNil)) (dOp mulD (dOp mulD (dC (.int 8)) (dC (.int 5))) (dC (.int 11)))) (dOp eqD (dCall (sp_period C C2) noX (dCons (dTup (dCons (dTup (dCons (dC (.int 9)) (dCons (dC (.int 9)) (dCons (dC (.int 9)) (dCons (dC (.int 9)) (dCons (dC (.int 9)) (dCons (dC (.int 9)) dNil))))))) dNil)) dNil)) (dC (.int 60))))))
def t_law_2 (C : Addr) (Pt : Addr) (C2 : Addr) (Ex : DXK) : DS :=
  (dIfS (dOr (dTst (dOp neD (dRefI Pt qn_law C2 "limit" 0 (fun Ex => (dCall (sp_period C C2) Ex (dCons (dVar 20) dNil)))) (dC (.int 5000)))) (dOr (dTst (dOp neD (dRefI Pt qn_law C2 "limit" 0 (fun Ex => (dCall (sp_never_clear C C2) Ex (dCons (dTup (dCons (dC (.str "abc")) (dCons (dTup (dCons (dTup dNil) (dCons (dTup dNil) (dCons (dTup dNil) dNil)))) dNil))) (dCons (dVar 20) dNil))))) (dC (.int 5000)))) (dTst (dOp neD (dRefI Pt qn_law C2 "limit" 0 (fun Ex => (dCall (sp_clear_in_period C C2) Ex (dCons (dTup (dCons (dC (.str "abc")) (dCons (dTup (dCons (dTup dNil) (dCons (dTup dNil) (dCons (dTup dNil) dNil)))) dNil))) (dCons (dVar 20) dNil))))) (dC (.int 5000)))))) (dRet (dC (.bl false))) dNext)
def t_law_3 (C : Addr) (Pt : Addr) (C2 : Addr) (Ex : DXK) : DS :=
  (dAsg (dTup (dCons (dTup (dCons (dC (.int 9)) (dCons (dC (.int 9)) (dCons (dC (.int 9)) (dCons (dC (.int 9)) (dCons (dC (.int 8)) dNil)))))) (dCons (dTup (dCons (dC (.int 9)) (dCons (dC (.int 9)) (dCons (dC (.int 9)) (dCons (dC (.int 9)) (dCons (dC (.int 6)) dNil)))))) (dCons (dTup (dCons (dC (.int 2)) dNil)) dNil)))) (.name 20))
def t_law_4 (C : Addr) (Pt : Addr) (C2 : Addr) (Ex : DXK) : DS :=
  (dIfS (dTst (dOp neD (dRef Pt qn_law C "name" "" (fun Ex => (dCall (sp_clear_in_period C C2) Ex (dCons (dVar 18) (dCons (dVar 18) dNil))))) (dC (.str "net")))) (dRet (dC (.bl false))) dNext)
def t_law_5 (C : Addr) (Pt : Addr) (C2 : Addr) (Ex : DXK) : DS :=
  (dIfS (dOr (dTst (dOp neD (dVar 19) (dOp mulD (dLst (dCons (dC (.str "waits")) dNil)) (dC (.int 4))))) (dOr (dTst (dOp neD (dRef Pt qn_law C "name" "" (fun Ex => (dCall (sp_never_clear C C2) Ex (dCons (dVar 3) (dCons (dOp addD (dVar 4) (dTup (dCons (dTup (dCons (dC (.int 1)) dNil)) dNil))) dNil))))) (dC (.str "waits")))) (dTst (dOp neD (dRef Pt qn_law C "name" "" (fun Ex => (dCall (sp_senders_at C) Ex (dCons (dVar 4) (dCons (dCall sp__law_pick Ex (dCons (dVar 1) (dCons (dLst (dCons (dNeg (dC (.int 1))) (dCons (dC (.int 1000001)) (dCons (dC .non) dNil)))) dNil))) dNil))))) (dC (.str "slot")))))) (dRet (dC (.bl false))) dNext)
def t_law_6 (C : Addr) (Pt : Addr) (C2 : Addr) (Ex : DXK) : DS :=
  (dAsg (dLst (dCons (dRef Pt qn_law C "name" "" (fun Ex => (dCall (sp_period C C2) Ex (dCons (dVar 18) dNil)))) (dCons (dRef Pt qn_law C "name" "" (fun Ex => (dCall (sp_senders_at C) Ex (dCons (dVar 18) (dCons (dNeg (dC (.int 1))) dNil))))) (dCons (dRef Pt qn_law C "name" "" (fun Ex => (dCall (sp_are_coprime C) Ex (dCons (dVar 18) dNil)))) (dCons (dRef Pt qn_law C "name" "" (fun Ex => (dCall (sp_clear_in_period C C2) Ex (dCons (dVar 3) (dCons (dVar 18) dNil))))) dNil))))) (.name 19))
def t_law_7 (C : Addr) (Pt : Addr) (C2 : Addr) (Ex : DXK) : DS :=
  (dAsg (dCall sp__law_pick noX (dCons (dVar 1) (dCons (dLst (dCons (dC .non) (dCons (dTup dNil) (dCons (dTup (dCons (dTup dNil) dNil)) (dCons (dTup (dCons (dTup (dCons (dC (.int 10)) dNil)) dNil)) (dCons (dTup (dCons (dOp mulD (dTup (dCons (dC (.int 0)) dNil)) (dC (.int 7))) dNil)) (dCons (dOp mulD (dTup (dCons (dTup (dCons (dC (.int 0)) dNil)) dNil)) (dC (.int 8))) (dCons (dLst (dCons (dTup (dCons (dC (.int 0)) dNil)) dNil)) (dCons (dTup (dCons (dTup (dCons (dC (.bl true)) dNil)) dNil)) (dCons (dTup (dCons (dTup (dCons (dNeg (dC (.int 1))) dNil)) dNil)) (dCons (dTup (dCons (dC (.int 0)) dNil)) (dCons (dTup (dCons (dC (.str "1")) dNil)) dNil)))))))))))) dNil))) (.name 18))
def t_law_8 (C : Addr) (Pt : Addr) (C2 : Addr) (Ex : DXK) : DS :=
  (dIfS (dOr (dNot (dTru (dCall sp__law_alike noX (dCons (dCall (sp_are_coprime C) noX (dCons (dVar 4) dNil)) (dCons (dAndV (dVar 15) (dOp eqD (dVar 17) (dLst dNil))) dNil))))) (dAnd (dTru (dVar 15)) (dAnd (dTst (dOp eqD (dVar 17) (dLst dNil))) (dTst (dOp neD (dLc (dItr (dVar 12)) [7] (.name 7) (dTst (dOp eqD (dVar 7) (dC (.int 0)))) (dVar 7)) (dLst dNil)))))) (dRet (dC (.bl false))) dNext)
def t_law_9 (C : Addr) (Pt : Addr) (C2 : Addr) (Ex : DXK) : DS :=
  (dAsg (dLc (dRange1 (dCons (dF1 lenF (dVar 16)) dNil)) [21] (.name 21) (dTst (dOp neD (dLc (dRange1 (dCons (dVar 21) dNil)) [22] (.name 22) (dTst (dOp gtD (dCall sp__law_common noX (dCons (dOp ixD (dVar 16) (dVar 21)) (dCons (dOp ixD (dVar 16) (dVar 22)) dNil))) (dC (.int 1)))) (dVar 22)) (dLst dNil))) (dVar 21)) (.name 17))
def t_law_10 (C : Addr) (Pt : Addr) (C2 : Addr) (Ex : DXK) : DS :=
  (dAsg (dLc (dItr (dVar 5)) [7] (.name 7) dYes (dF1 lenF (dVar 7))) (.name 16))
def t_law_11 (C : Addr) (Pt : Addr) (C2 : Addr) (Ex : DXK) : DS :=
  (dAsg (dOp eqD (dLc (dItr (dVar 4)) [7] (.name 7) (dOr (dTst (dOp neD (dF1 lenF (dVar 7)) (dC (.int 1)))) (dTst (dOp eqD (dOp ixD (dVar 7) (dC (.int 0))) (dC (.int 0))))) (dVar 7)) (dLst dNil)) (.name 15))
def t_law_12 (C : Addr) (Pt : Addr) (C2 : Addr) (Ex : DXK) : DS :=
  (dIfS (dNot (dTru (dCall sp__law_alike noX (dCons (dCall (sp_never_clear C C2) noX (dCons (dVar 3) (dCons (dVar 4) dNil))) (dCons (dF1 tupF (dLc (dRange1 (dCons (dF1 lenF (dVar 8)) dNil)) [21] (.name 21) (dTst (dOp eqD (dOp ixD (dVar 12) (dVar 21)) (dC (.int 0)))) (dOp ixD (dVar 8) (dVar 21)))) dNil))))) (dRet (dC (.bl false))) dNext)
def t_law_13 (C : Addr) (Pt : Addr) (C2 : Addr) (Ex : DXK) : DS :=
  (dIfS (dNot (dTru (dCall sp__law_alike noX (dCons (dCall (sp_clear_in_period C C2) noX (dCons (dVar 3) (dCons (dVar 4) dNil))) (dCons (dF1 tupF (dVar 12)) dNil))))) (dRet (dC (.bl false))) dNext)
def t_law_14 (C : Addr) (Pt : Addr) (C2 : Addr) (Ex : DXK) : DS :=
  (dDrop (dM1 appF (dVar 12) (dF1 lenF (dLc (dItr (dVar 9)) [7] (.name 7) (dTst (dOp eqD (dCall sp__law_hears noX (dCons (dVar 3) (dCons (dVar 14) (dCons (dVar 7) dNil)))) (dVar 13))) (dC (.int 1))))))
def t_law_15 (C : Addr) (Pt : Addr) (C2 : Addr) (Ex : DXK) : DS :=
  (dFor (dItr (dVar 8)) (.tup [(.name 13), (.name 14)]) (t_law_14 C Pt C2 Ex))
def t_law_16 (C : Addr) (Pt : Addr) (C2 : Addr) (Ex : DXK) : DS :=
  (dAsg (dLstM dNil) (.name 12))
def t_law_17 (C : Addr) (Pt : Addr) (C2 : Addr) (Ex : DXK) : DS :=
  (dSeq (dAsg (dCall sp__law_taken noX (dCons (dVar 1) (dCons (dC (.int 1000001)) dNil))) (.name 10)) (dIfS (dNot (dTru (dCall sp__law_alike noX (dCons (dCall (sp_senders_at C) noX (dCons (dVar 4) (dCons (dVar 10) dNil))) (dCons (dOp ixD (dVar 9) (dOp modD (dF1 intF (dVar 10)) (dVar 6))) dNil))))) (dRet (dC (.bl false))) dNext))
def t_law_18 (C : Addr) (Pt : Addr) (C2 : Addr) (Ex : DXK) : DS :=
  (dFor (dRange1 (dCons (dC (.int 4)) dNil)) (.name 11) (t_law_17 C Pt C2 Ex))
def t_law_19 (C : Addr) (Pt : Addr) (C2 : Addr) (Ex : DXK) : DS :=
  (dDrop (dM1 appF (dVar 9) (dF1 tupF (dLc (dRange1 (dCons (dF1 lenF (dVar 4)) dNil)) [21] (.name 21) (dTst (dOp eqD (dOp ixD (dOp ixD (dVar 5) (dVar 21)) (dOp modD (dF1 intF (dVar 10)) (dF1 lenF (dOp ixD (dVar 5) (dVar 21))))) (dC (.int 1)))) (dVar 21)))))
def t_law_20 (C : Addr) (Pt : Addr) (C2 : Addr) (Ex : DXK) : DS :=
  (dFor (dRange1 (dCons (dVar 6) dNil)) (.name 10) (t_law_19 C Pt C2 Ex))
def t_law_21 (C : Addr) (Pt : Addr) (C2 : Addr) (Ex : DXK) : DS :=
  (dAsg (dTup (dCons (dCall sp__law_links noX (dCons (dVar 3) dNil)) (dCons (dLstM dNil) dNil))) (.tup [(.name 8), (.name 9)]))
def t_law_22 (C : Addr) (Pt : Addr) (C2 : Addr) (Ex : DXK) : DS :=
  (dIfS (dNot (dTru (dCall sp__law_alike noX (dCons (dCall (sp_period C C2) noX (dCons (dVar 4) dNil)) (dCons (dVar 6) dNil))))) (dRet (dC (.bl false))) dNext)
def t_law_23 (C : Addr) (Pt : Addr) (C2 : Addr) (Ex : DXK) : DS :=
  (dIfS (dTst (dOp gtD (dVar 6) (dC (.int 1200)))) dCont dNext)
def t_law_24 (C : Addr) (Pt : Addr) (C2 : Addr) (Ex : DXK) : DS :=
  (dAsg (dOp fdivD (dOp mulD (dVar 6) (dF1 lenF (dVar 7))) (dCall sp__law_common noX (dCons (dVar 6) (dCons (dF1 lenF (dVar 7)) dNil)))) (.name 6))
def t_law_25 (C : Addr) (Pt : Addr) (C2 : Addr) (Ex : DXK) : DS :=
  (dFor (dItr (dVar 5)) (.name 7) (t_law_24 C Pt C2 Ex))
def t_law_26 (C : Addr) (Pt : Addr) (C2 : Addr) (Ex : DXK) : DS :=
  (dAsg (dTup (dCons (dLc (dItr (dVar 4)) [7] (.name 7) dYes (dCall sp__law_pattern noX (dCons (dVar 7) dNil))) (dCons (dC (.int 1)) dNil))) (.tup [(.name 5), (.name 6)]))
def t_law_27 (C : Addr) (Pt : Addr) (C2 : Addr) (Ex : DXK) : DS :=
  (dAsg (dCall sp__law_waits noX (dCons (dVar 1) (dCons (dF1 lenF (dOp ixD (dVar 3) (dC (.int 0)))) dNil))) (.name 4))
def t_law_28 (C : Addr) (Pt : Addr) (C2 : Addr) (Ex : DXK) : DS :=
  (dAsg (dCall sp__law_net noX (dCons (dVar 1) (dCons (dC (.int 5)) dNil))) (.name 3))
def t_law_29 (C : Addr) (Pt : Addr) (C2 : Addr) (Ex : DXK) : DS :=
  (dSeq (t_law_28 C Pt C2 Ex) (dSeq (t_law_27 C Pt C2 Ex) (dSeq (t_law_26 C Pt C2 Ex) (dSeq (t_law_25 C Pt C2 Ex) (dSeq (t_law_23 C Pt C2 Ex) (dSeq (t_law_22 C Pt C2 Ex) (dSeq (t_law_21 C Pt C2 Ex) (dSeq (t_law_20 C Pt C2 Ex) (dSeq (t_law_18 C Pt C2 Ex) (dSeq (t_law_16 C Pt C2 Ex) (dSeq (t_law_15 C Pt C2 Ex) (dSeq (t_law_13 C Pt C2 Ex) (dSeq (t_law_12 C Pt C2 Ex) (dSeq (t_law_11 C Pt C2 Ex) (dSeq (t_law_10 C Pt C2 Ex) (dSeq (t_law_9 C Pt C2 Ex) (dSeq (t_law_8 C Pt C2 Ex) (dSeq (t_law_7 C Pt C2 Ex) (dSeq (t_law_6 C Pt C2 Ex) (dSeq (t_law_5 C Pt C2 Ex) (t_law_4 C Pt C2 Ex)))))))))))))))))))))
def t_law_30 (C : Addr) (Pt : Addr) (C2 : Addr) (Ex : DXK) : DS :=
  (dFor (dRange1 (dCons (dC (.int 8)) dNil)) (.name 2) (t_law_29 C Pt C2 Ex))
def t_law_31 (C : Addr) (Pt : Addr) (C2 : Addr) (Ex : DXK) : DS :=
  (dAsg (dLstM (dCons (dVar 0) (dCons (dC (.int 0)) (dCons (dC (.int 126199)) (dCons (dC (.int 0)) dNil))))) (.name 1))
def t_law (C : Addr) (Pt : Addr) (C2 : Addr) (Ex : DXK) : DS :=
  (dSeq (t_law_31 C Pt C2 Ex) (dSeq (t_law_30 C Pt C2 Ex) (dSeq (t_law_3 C Pt C2 Ex) (dSeq (t_law_2 C Pt C2 Ex) (t_law_1 C Pt C2 Ex)))))
theorem b_law {P : Program} {w : World} {K : PySem.W.Frag} {mg : Str → Option Value} {base : Heap} {fA C : Addr} {Pt : Addr} {C2 : Addr} (B : Blt mg)
    (F_period : FnD P w K mg base "period" 5 ["waits"] (sp_period C C2))
    (F_are_coprime : FnD P w K mg base "are_coprime" 5 ["waits"] (sp_are_coprime C))
    (F_clear_in_period : FnD P w K mg base "clear_in_period" 6 ["net", "waits"] (sp_clear_in_period C C2))
    (F_never_clear : FnD P w K mg base "never_clear" 6 ["net", "waits"] (sp_never_clear C C2))
    (F__law_pick : FnD P w K mg base "_law_pick" 2 ["row", "some"] sp__law_pick)
    (F_senders_at : FnD P w K mg base "senders_at" 5 ["waits", "slot"] (sp_senders_at C))
    (F__law_alike : FnD P w K mg base "_law_alike" 8 ["found", "due"] sp__law_alike)
    (F__law_common : FnD P w K mg base "_law_common" 1 ["one", "other"] sp__law_common)
    (F__law_hears : FnD P w K mg base "_law_hears" 1 ["net", "station", "senders"] sp__law_hears)
    (F__law_taken : FnD P w K mg base "_law_taken" 1 ["row", "many"] sp__law_taken)
    (F__law_links : FnD P w K mg base "_law_links" 1 ["net"] sp__law_links)
    (F__law_pattern : FnD P w K mg base "_law_pattern" 1 ["row_of"] sp__law_pattern)
    (F__law_waits : FnD P w K mg base "_law_waits" 3 ["row", "many"] sp__law_waits)
    (F__law_net : FnD P w K mg base "_law_net" 3 ["row", "most"] sp__law_net) {fI cc cda fI2 cc2 cda2 ca gr gl : Addr}
    (T_BadArgument : DX.ErrTxt P K mg "BadArgument" "name" C fI cc cda "BadArgument.__init__")
    (T_TooMuch : DX.ErrTxt P K mg "TooMuch" "limit" C2 fI2 cc2 cda2 "TooMuch.__init__")
    {oc_r dV_r kV_r doc_r pm_r cdv_r ct_r : Value} {an_r od_r : Option Addr} {osl_r : Array (Option Value)} (g__law_refused : mg "_law_refused" = some (.ref gr)) (kp__law_refused : PySem.W.keepIn K (.ref gr) = true)
    (lk__law_refused : K.lookup gr = some ⟨oc_r, od_r, .func (PySem.W.fnOf "_law_refused" "_law_refused" (defArgs s__law_refused) (defBody s__law_refused) (defScope s__law_refused) dV_r kV_r doc_r pm_r an_r cdv_r ct_r), osl_r⟩) (hcd__law_refused : PySem.W.codeIn K cdv_r "_law_refused" = true)
    (hb__law_refused : L2.Binds K (PySem.W.fnOf "_law_refused" "_law_refused" (defArgs s__law_refused) (defBody s__law_refused) (defScope s__law_refused) dV_r kV_r doc_r pm_r an_r cdv_r ct_r) ["call"] [])
    {oc_l dV_l kV_l doc_l pm_l cdv_l ct_l : Value} {an_l od_l : Option Addr} {osl_l : Array (Option Value)} (g__law_limit : mg "_law_limit" = some (.ref gl)) (kp__law_limit : PySem.W.keepIn K (.ref gl) = true)
    (lk__law_limit : K.lookup gl = some ⟨oc_l, od_l, .func (PySem.W.fnOf "_law_limit" "_law_limit" (defArgs s__law_limit) (defBody s__law_limit) (defScope s__law_limit) dV_l kV_l doc_l pm_l an_l cdv_l ct_l), osl_l⟩) (hcd__law_limit : PySem.W.codeIn K cdv_l "_law_limit" = true)
    (hb__law_limit : L2.Binds K (PySem.W.fnOf "_law_limit" "_law_limit" (defArgs s__law_limit) (defBody s__law_limit) (defScope s__law_limit) dV_l kV_l doc_l pm_l an_l cdv_l ct_l) ["call"] []) (TB : LamX.TabB base mg ca Pt)
    (cdv : Value) (A : Around) (outer : List Env) (s : Shared) (H : Hp) (E : XK) (c : DC) (Ex : DXK) (hcode : cdv = .ref ca) (hr : Room 11 (A.deeper (envOfC "law" (defScope s_law) s.heap.objs.size fA cdv))) (ok : XOk (cxOf (L2.CX P w) P w K mg base N_law "law" (defScope s_law) fA cdv A outer s H E) c Ex) :
    PSs (cxOf (L2.CX P w) P w K mg base N_law "law" (defScope s_law) fA cdv A outer s H E) (defBody s_law) (lS K c (t_law C Pt C2 Ex)) :=
  (dss_cons (ds_set (i := 1) sc_law.nd (d_lstM (da_cons (d_var (i := 0)) (da_cons d_int (da_cons d_int (da_cons d_int da_nil))))))
    (dss_cons (ds_for (passes_of rfl) rfl (di_range1 rfl B.range (da_cons d_int da_nil)) (g_name (i := 2) sc_law.nd) (dss_cons (ds_set (i := 3) sc_law.nd (d_call F__law_net (hr.mono (by decide)) xok0 (da_cons (d_var (i := 1)) (da_cons d_int da_nil))))
    (dss_cons (ds_set (i := 4) sc_law.nd (d_call F__law_waits (hr.mono (by decide)) xok0 (da_cons (d_var (i := 1)) (da_cons (dl_len B (d_ix ixd_seq (d_var (i := 3)) d_int)) da_nil))))
    (dss_cons (ds_asg (d_tup (da_cons (d_lc (own := [("own", 7)]) rfl sc_law.nd (di_any (d_var (i := 4))) (blkOk_by (by first | rfl | decide +kernel)) (fun _ _ _ _ _ _ => (g_name (i := 7) sc_law.nd)) (fun _ _ _ _ _ _ => dts_nil) (fun _ _ _ _ _ _ => (d_call F__law_pattern (hr.mono (by decide)) xok0 (da_cons (d_var (i := 7)) da_nil)))) (da_cons d_int da_nil))) (g_tup rfl (gs_cons (g_name (i := 5) sc_law.nd) (gs_cons (g_name (i := 6) sc_law.nd) gs_nil))))
    (dss_cons (ds_for (passes_of rfl) rfl (di_any (d_var (i := 5))) (g_name (i := 7) sc_law.nd) (dss_one (ds_set (i := 6) sc_law.nd (d_op od_fdiv (d_op od_mul (d_var (i := 6)) (dl_len B (d_var (i := 7)))) (d_call F__law_common (hr.mono (by decide)) xok0 (da_cons (d_var (i := 6)) (da_cons (dl_len B (d_var (i := 7))) da_nil)))))))
    (dss_cons (ds_if (dt_cmp od_gt (d_var (i := 6)) d_int (nomark _)) (dss_one ds_cont) dss_nil)
    (dss_cons (ds_if (dt_not (dt_tru (d_call F__law_alike (hr.mono (by decide)) xok0 (da_cons (d_call F_period (hr.mono (by decide)) xok0 (da_cons (d_var (i := 4)) da_nil)) (da_cons (d_var (i := 6)) da_nil))))) (dss_one (ds_ret d_bl)) dss_nil)
    (dss_cons (ds_asg (d_tup (da_cons (d_call F__law_links (hr.mono (by decide)) xok0 (da_cons (d_var (i := 3)) da_nil)) (da_cons (d_lstM da_nil) da_nil))) (g_tup rfl (gs_cons (g_name (i := 8) sc_law.nd) (gs_cons (g_name (i := 9) sc_law.nd) gs_nil))))
    (dss_cons (ds_for (passes_of rfl) rfl (di_range1 rfl B.range (da_cons (d_var (i := 6)) da_nil)) (g_name (i := 10) sc_law.nd) (dss_one (ds_expr (d_append (d_var (i := 9)) (dl_tuple B (d_lc (own := [("at", 21)]) rfl sc_law.nd (di_range1 rfl B.range (da_cons (dl_len B (d_var (i := 4))) da_nil)) (blkOk_by (by first | rfl | decide +kernel)) (fun _ _ _ _ _ _ => (g_name (i := 21) sc_law.nd)) (fun _ _ _ _ _ _ => (dts_one (dt_cmp (od_eq hr.units) (d_ix ixd_seq (d_ix ixd_seq (d_var (i := 5)) (d_var (i := 21))) (d_op od_mod (dl_int B (d_var (i := 10))) (dl_len B (d_ix ixd_seq (d_var (i := 5)) (d_var (i := 21)))))) d_int (nomark _)))) (fun _ _ _ _ _ _ => (d_var (i := 21)))))))))
    (dss_cons (ds_for (passes_of rfl) rfl (di_range1 rfl B.range (da_cons d_int da_nil)) (g_name (i := 11) sc_law.nd) (dss_cons (ds_set (i := 10) sc_law.nd (d_call F__law_taken (hr.mono (by decide)) xok0 (da_cons (d_var (i := 1)) (da_cons d_int da_nil))))
    (dss_one (ds_if (dt_not (dt_tru (d_call F__law_alike (hr.mono (by decide)) xok0 (da_cons (d_callK F_senders_at (hr.mono (by decide)) xok0 (dk_cons (d_var (i := 4)) (dk_cons (d_var (i := 10)) dk_nil)) len_senders_at) (da_cons (d_ix ixd_seq (d_var (i := 9)) (d_op od_mod (dl_int B (d_var (i := 10))) (d_var (i := 6)))) da_nil))))) (dss_one (ds_ret d_bl)) dss_nil))))
    (dss_cons (ds_set (i := 12) sc_law.nd (d_lstM da_nil))
    (dss_cons (ds_for (passes_of rfl) rfl (di_any (d_var (i := 8))) (g_tup rfl (gs_cons (g_name (i := 13) sc_law.nd) (gs_cons (g_name (i := 14) sc_law.nd) gs_nil))) (dss_one (ds_expr (d_append (d_var (i := 12)) (dl_len B (d_lc (own := [("own", 7)]) rfl sc_law.nd (di_any (d_var (i := 9))) (blkOk_by (by first | rfl | decide +kernel)) (fun _ _ _ _ _ _ => (g_name (i := 7) sc_law.nd)) (fun _ _ _ _ _ _ => (dts_one (dt_cmp (od_eq hr.units) (d_call F__law_hears (hr.mono (by decide)) xok0 (da_cons (d_var (i := 3)) (da_cons (d_var (i := 14)) (da_cons (d_var (i := 7)) da_nil)))) (d_var (i := 13)) (nomark _)))) (fun _ _ _ _ _ _ => d_int)))))))
    (dss_cons (ds_if (dt_not (dt_tru (d_call F__law_alike (hr.mono (by decide)) xok0 (da_cons (d_call F_clear_in_period (hr.mono (by decide)) xok0 (da_cons (d_var (i := 3)) (da_cons (d_var (i := 4)) da_nil))) (da_cons (dl_tuple B (d_var (i := 12))) da_nil))))) (dss_one (ds_ret d_bl)) dss_nil)
    (dss_cons (ds_if (dt_not (dt_tru (d_call F__law_alike (hr.mono (by decide)) xok0 (da_cons (d_callK F_never_clear (hr.mono (by decide)) xok0 (dk_cons (d_var (i := 3)) (dk_cons (d_var (i := 4)) dk_nil)) len_never_clear) (da_cons (dl_tuple B (d_lc (own := [("at", 21)]) rfl sc_law.nd (di_range1 rfl B.range (da_cons (dl_len B (d_var (i := 8))) da_nil)) (blkOk_by (by first | rfl | decide +kernel)) (fun _ _ _ _ _ _ => (g_name (i := 21) sc_law.nd)) (fun _ _ _ _ _ _ => (dts_one (dt_cmp (od_eq hr.units) (d_ix ixd_seq (d_var (i := 12)) (d_var (i := 21))) d_int (nomark _)))) (fun _ _ _ _ _ _ => (d_ix ixd_seq (d_var (i := 8)) (d_var (i := 21)))))) da_nil))))) (dss_one (ds_ret d_bl)) dss_nil)
    (dss_cons (ds_set (i := 15) sc_law.nd (d_cmp (od_eq hr.units) (d_lc (own := [("own", 7)]) rfl sc_law.nd (di_any (d_var (i := 4))) (blkOk_by (by first | rfl | decide +kernel)) (fun _ _ _ _ _ _ => (g_name (i := 7) sc_law.nd)) (fun _ _ _ _ _ _ => (dts_one (PW.pt (dw_or (dt_cmp (od_ne hr.units) (dl_len B (d_var (i := 7))) d_int (nomark _)) (dw_or1 (dt_cmp (od_eq hr.units) (d_ix ixd_seq (d_var (i := 7)) d_int) d_int (nomark _))))))) (fun _ _ _ _ _ _ => (d_var (i := 7)))) (d_lst da_nil) (nomark _)))
    (dss_cons (ds_set (i := 16) sc_law.nd (d_lc (own := [("own", 7)]) rfl sc_law.nd (di_any (d_var (i := 5))) (blkOk_by (by first | rfl | decide +kernel)) (fun _ _ _ _ _ _ => (g_name (i := 7) sc_law.nd)) (fun _ _ _ _ _ _ => dts_nil) (fun _ _ _ _ _ _ => (dl_len B (d_var (i := 7))))))
    (dss_cons (ds_setLc (i := 17) (own := [("at", 21)]) rfl sc_law.nd (di_range1 rfl B.range (da_cons (dl_len B (d_var (i := 16))) da_nil)) (blkOk_by (by first | rfl | decide +kernel)) (fun _ _ _ _ _ _ => (g_name (i := 21) sc_law.nd)) (fun _ _ _ _ _ _ => (dts_one (dt_cmp (od_ne hr.units) (d_lc (own := [("to", 22)]) rfl sc_law.nd (di_range1 rfl B.range (da_cons (d_var (i := 21)) da_nil)) (blkOk_by (by first | rfl | decide +kernel)) (fun _ _ _ _ _ _ => (g_name (i := 22) sc_law.nd)) (fun _ _ _ _ _ _ => (dts_one (dt_cmp od_gt (d_call F__law_common (hr.mono (by decide)) xok0 (da_cons (d_ix ixd_seq (d_var (i := 16)) (d_var (i := 21))) (da_cons (d_ix ixd_seq (d_var (i := 16)) (d_var (i := 22))) da_nil))) d_int (nomark _)))) (fun _ _ _ _ _ _ => (d_var (i := 22)))) (d_lst da_nil) (nomark _)))) (fun _ _ _ _ _ _ => (d_var (i := 21))) (by exact sw_true rfl rfl rfl rfl))
    (dss_cons (ds_if (PW.pt (dw_or (dt_not (dt_tru (d_call F__law_alike (hr.mono (by decide)) xok0 (da_cons (d_call F_are_coprime (hr.mono (by decide)) xok0 (da_cons (d_var (i := 4)) da_nil)) (da_cons (d_and (d_var (i := 15)) (d_one (d_cmp (od_eq hr.units) (d_var (i := 17)) (d_lst da_nil) (nomark _)))) da_nil))))) (dw_or1 (PW.pt (dw_and (dt_tru (d_var (i := 15))) (dw_and (dt_cmp (od_eq hr.units) (d_var (i := 17)) (d_lst da_nil) (nomark _)) (dw_and1 (dt_cmp (od_ne hr.units) (d_lc (own := [("own", 7)]) rfl sc_law.nd (di_any (d_var (i := 12))) (blkOk_by (by first | rfl | decide +kernel)) (fun _ _ _ _ _ _ => (g_name (i := 7) sc_law.nd)) (fun _ _ _ _ _ _ => (dts_one (dt_cmp (od_eq hr.units) (d_var (i := 7)) d_int (nomark _)))) (fun _ _ _ _ _ _ => (d_var (i := 7)))) (d_lst da_nil) (nomark _))))))))) (dss_one (ds_ret d_bl)) dss_nil)
    (dss_cons (ds_set (i := 18) sc_law.nd (d_call F__law_pick (hr.mono (by decide)) xok0 (da_cons (d_var (i := 1)) (da_cons (d_lst (da_cons d_non (da_cons (d_tup da_nil) (da_cons (d_tup (da_cons (d_tup da_nil) da_nil)) (da_cons (d_tup (da_cons (d_tup (da_cons d_int da_nil)) da_nil)) (da_cons (d_tup (da_cons (d_op od_mul (d_tup (da_cons d_int da_nil)) d_int) da_nil)) (da_cons (d_op od_mul (d_tup (da_cons (d_tup (da_cons d_int da_nil)) da_nil)) d_int) (da_cons (d_lst (da_cons (d_tup (da_cons d_int da_nil)) da_nil)) (da_cons (d_tup (da_cons (d_tup (da_cons d_bl da_nil)) da_nil)) (da_cons (d_tup (da_cons (d_tup (da_cons (d_neg d_int) da_nil)) da_nil)) (da_cons (d_tup (da_cons d_int da_nil)) (da_cons (d_tup (da_cons d_str da_nil)) da_nil)))))))))))) da_nil))))
    (dss_cons (ds_set (i := 19) sc_law.nd (d_lst (da_cons (d_ref (k := 9) T_BadArgument rfl g__law_refused kp__law_refused lk__law_refused hcd__law_refused hb__law_refused sc__law_refused rfl (Or.inl rfl) (ref_gives T_BadArgument rfl (by decide) (fun _ => rfl) sc__law_refused.nd rfl rfl (by decide) (by decide) (by decide) (fun _ => rfl) (fun _ => rfl)) TB hcode (hr.mono (by decide)) (LamX.lamS_by (by first | rfl | decide +kernel)) rfl (fun _ _ _ _ _ => rfl) (fun _ _ _ _ _ _ _ _ _ hr ok => (d_call F_period (hr.mono (by decide)) ok (da_cons (d_var (i := 18)) da_nil)))) (da_cons (d_ref (k := 9) T_BadArgument rfl g__law_refused kp__law_refused lk__law_refused hcd__law_refused hb__law_refused sc__law_refused rfl (Or.inl rfl) (ref_gives T_BadArgument rfl (by decide) (fun _ => rfl) sc__law_refused.nd rfl rfl (by decide) (by decide) (by decide) (fun _ => rfl) (fun _ => rfl)) TB hcode (hr.mono (by decide)) (LamX.lamS_by (by first | rfl | decide +kernel)) rfl (fun _ _ _ _ _ => rfl) (fun _ _ _ _ _ _ _ _ _ hr ok => (d_call F_senders_at (hr.mono (by decide)) ok (da_cons (d_var (i := 18)) (da_cons (d_neg d_int) da_nil))))) (da_cons (d_ref (k := 9) T_BadArgument rfl g__law_refused kp__law_refused lk__law_refused hcd__law_refused hb__law_refused sc__law_refused rfl (Or.inl rfl) (ref_gives T_BadArgument rfl (by decide) (fun _ => rfl) sc__law_refused.nd rfl rfl (by decide) (by decide) (by decide) (fun _ => rfl) (fun _ => rfl)) TB hcode (hr.mono (by decide)) (LamX.lamS_by (by first | rfl | decide +kernel)) rfl (fun _ _ _ _ _ => rfl) (fun _ _ _ _ _ _ _ _ _ hr ok => (d_call F_are_coprime (hr.mono (by decide)) ok (da_cons (d_var (i := 18)) da_nil)))) (da_cons (d_ref (k := 9) T_BadArgument rfl g__law_refused kp__law_refused lk__law_refused hcd__law_refused hb__law_refused sc__law_refused rfl (Or.inl rfl) (ref_gives T_BadArgument rfl (by decide) (fun _ => rfl) sc__law_refused.nd rfl rfl (by decide) (by decide) (by decide) (fun _ => rfl) (fun _ => rfl)) TB hcode (hr.mono (by decide)) (LamX.lamS_by (by first | rfl | decide +kernel)) rfl (fun _ _ _ _ _ => rfl) (fun _ _ _ _ _ _ _ _ _ hr ok => (d_call F_clear_in_period (hr.mono (by decide)) ok (da_cons (d_var (i := 3)) (da_cons (d_var (i := 18)) da_nil))))) da_nil))))))
    (dss_cons (ds_if (PW.pt (dw_or (dt_cmp (od_ne hr.units) (d_var (i := 19)) (d_op od_mul (d_lst (da_cons d_str da_nil)) d_int) (nomark _)) (dw_or (dt_cmp (od_ne hr.units) (d_ref (k := 9) T_BadArgument rfl g__law_refused kp__law_refused lk__law_refused hcd__law_refused hb__law_refused sc__law_refused rfl (Or.inl rfl) (ref_gives T_BadArgument rfl (by decide) (fun _ => rfl) sc__law_refused.nd rfl rfl (by decide) (by decide) (by decide) (fun _ => rfl) (fun _ => rfl)) TB hcode (hr.mono (by decide)) (LamX.lamS_by (by first | rfl | decide +kernel)) rfl (fun _ _ _ _ _ => rfl) (fun _ _ _ _ _ _ _ _ _ hr ok => (d_call F_never_clear (hr.mono (by decide)) ok (da_cons (d_var (i := 3)) (da_cons (d_op od_add (d_var (i := 4)) (d_tup (da_cons (d_tup (da_cons d_int da_nil)) da_nil))) da_nil))))) d_str (nomark _)) (dw_or1 (dt_cmp (od_ne hr.units) (d_ref (k := 9) T_BadArgument rfl g__law_refused kp__law_refused lk__law_refused hcd__law_refused hb__law_refused sc__law_refused rfl (Or.inl rfl) (ref_gives T_BadArgument rfl (by decide) (fun _ => rfl) sc__law_refused.nd rfl rfl (by decide) (by decide) (by decide) (fun _ => rfl) (fun _ => rfl)) TB hcode (hr.mono (by decide)) (LamX.lamS_by (by first | rfl | decide +kernel)) rfl (fun _ _ _ _ _ => rfl) (fun _ _ _ _ _ _ _ _ _ hr ok => (d_call F_senders_at (hr.mono (by decide)) ok (da_cons (d_var (i := 4)) (da_cons (d_call F__law_pick (hr.mono (by decide)) ok (da_cons (d_var (i := 1)) (da_cons (d_lst (da_cons (d_neg d_int) (da_cons d_int (da_cons d_non da_nil)))) da_nil))) da_nil))))) d_str (nomark _)))))) (dss_one (ds_ret d_bl)) dss_nil)
    (dss_one (ds_if (dt_cmp (od_ne hr.units) (d_ref (k := 9) T_BadArgument rfl g__law_refused kp__law_refused lk__law_refused hcd__law_refused hb__law_refused sc__law_refused rfl (Or.inl rfl) (ref_gives T_BadArgument rfl (by decide) (fun _ => rfl) sc__law_refused.nd rfl rfl (by decide) (by decide) (by decide) (fun _ => rfl) (fun _ => rfl)) TB hcode (hr.mono (by decide)) (LamX.lamS_by (by first | rfl | decide +kernel)) rfl (fun _ _ _ _ _ => rfl) (fun _ _ _ _ _ _ _ _ _ hr ok => (d_call F_clear_in_period (hr.mono (by decide)) ok (da_cons (d_var (i := 18)) (da_cons (d_var (i := 18)) da_nil))))) d_str (nomark _)) (dss_one (ds_ret d_bl)) dss_nil)))))))))))))))))))))))
    (dss_cons (ds_set (i := 20) sc_law.nd (d_tup (da_cons (d_tup (da_cons d_int (da_cons d_int (da_cons d_int (da_cons d_int (da_cons d_int da_nil)))))) (da_cons (d_tup (da_cons d_int (da_cons d_int (da_cons d_int (da_cons d_int (da_cons d_int da_nil)))))) (da_cons (d_tup (da_cons d_int da_nil)) da_nil)))))
    (dss_cons (ds_if (PW.pt (dw_or (dt_cmp (od_ne hr.units) (d_refI (k := 9) T_TooMuch rfl g__law_limit kp__law_limit lk__law_limit hcd__law_limit hb__law_limit sc__law_limit rfl (Or.inl rfl) (ref_givesI T_TooMuch rfl (by decide) (fun _ => rfl) sc__law_limit.nd rfl rfl (by decide) (by decide) (by decide) (fun _ => rfl) (fun _ => rfl)) TB hcode (hr.mono (by decide)) (LamX.lamS_by (by first | rfl | decide +kernel)) rfl (fun _ _ _ _ _ => rfl) (fun _ _ _ _ _ _ _ _ _ hr ok => (d_call F_period (hr.mono (by decide)) ok (da_cons (d_var (i := 20)) da_nil)))) d_int (nomark _)) (dw_or (dt_cmp (od_ne hr.units) (d_refI (k := 9) T_TooMuch rfl g__law_limit kp__law_limit lk__law_limit hcd__law_limit hb__law_limit sc__law_limit rfl (Or.inl rfl) (ref_givesI T_TooMuch rfl (by decide) (fun _ => rfl) sc__law_limit.nd rfl rfl (by decide) (by decide) (by decide) (fun _ => rfl) (fun _ => rfl)) TB hcode (hr.mono (by decide)) (LamX.lamS_by (by first | rfl | decide +kernel)) rfl (fun _ _ _ _ _ => rfl) (fun _ _ _ _ _ _ _ _ _ hr ok => (d_call F_never_clear (hr.mono (by decide)) ok (da_cons (d_tup (da_cons d_str (da_cons (d_tup (da_cons (d_tup da_nil) (da_cons (d_tup da_nil) (da_cons (d_tup da_nil) da_nil)))) da_nil))) (da_cons (d_var (i := 20)) da_nil))))) d_int (nomark _)) (dw_or1 (dt_cmp (od_ne hr.units) (d_refI (k := 9) T_TooMuch rfl g__law_limit kp__law_limit lk__law_limit hcd__law_limit hb__law_limit sc__law_limit rfl (Or.inl rfl) (ref_givesI T_TooMuch rfl (by decide) (fun _ => rfl) sc__law_limit.nd rfl rfl (by decide) (by decide) (by decide) (fun _ => rfl) (fun _ => rfl)) TB hcode (hr.mono (by decide)) (LamX.lamS_by (by first | rfl | decide +kernel)) rfl (fun _ _ _ _ _ => rfl) (fun _ _ _ _ _ _ _ _ _ hr ok => (d_call F_clear_in_period (hr.mono (by decide)) ok (da_cons (d_tup (da_cons d_str (da_cons (d_tup (da_cons (d_tup da_nil) (da_cons (d_tup da_nil) (da_cons (d_tup da_nil) da_nil)))) da_nil))) (da_cons (d_var (i := 20)) da_nil))))) d_int (nomark _)))))) (dss_one (ds_ret d_bl)) dss_nil)
    (dss_one (ds_ret (d_and (d_cmp (od_eq hr.units) (d_refI (k := 9) T_TooMuch rfl g__law_limit kp__law_limit lk__law_limit hcd__law_limit hb__law_limit sc__law_limit rfl (Or.inl rfl) (ref_givesI T_TooMuch rfl (by decide) (fun _ => rfl) sc__law_limit.nd rfl rfl (by decide) (by decide) (by decide) (fun _ => rfl) (fun _ => rfl)) TB hcode (hr.mono (by decide)) (LamX.lamS_by (by first | rfl | decide +kernel)) rfl (fun _ _ _ _ _ => rfl) (fun _ _ _ _ _ _ _ _ _ hr ok => (d_call F_are_coprime (hr.mono (by decide)) ok (da_cons (d_var (i := 20)) da_nil)))) d_int (nomark _)) (d_and (d_cmp (od_eq hr.units) (d_call F_period (hr.mono (by decide)) xok0 (da_cons (d_tup (da_cons (d_tup (da_cons d_int da_nil)) (da_cons (d_tup (da_cons d_int (da_cons d_int da_nil))) (da_cons (d_tup (da_cons d_int (da_cons d_int (da_cons d_int (da_cons d_int (da_cons d_int (da_cons d_int da_nil))))))) da_nil)))) da_nil)) (d_op od_mul (d_op od_mul d_int d_int) d_int) (nomark _)) (d_one (d_cmp (od_eq hr.units) (d_call F_period (hr.mono (by decide)) xok0 (da_cons (d_tup (da_cons (d_tup (da_cons d_int (da_cons d_int (da_cons d_int (da_cons d_int (da_cons d_int (da_cons d_int da_nil))))))) da_nil)) da_nil)) d_int (nomark _)))))))))))

end KL

end

section
set_option Elab.async false
set_option linter.all false
set_option maxRecDepth 100000
set_option maxHeartbeats 1000000
open PySem PySem.Spec PyProof.Rows L2 DL
namespace KL
def isStrD : D → Bool
  | .str _ => true
  | _ => false
theorem isa_strD {d : D} {n : Nat} {G : GH} {Q : DK} (h : dat n d = true) (q : Q (.bl (isStrD d)) G) : isa1 "str" d G Q := by
  cases d with
  | non => exact isa_non q
  | bl b => exact isa_bl q
  | int i => exact isa_int q
  | str x => exact isa_str q
  | tup a => exact isa_tup q
  | lst a => exact isa_lst q
  | scr a => cases n <;> cases h
  | ty a => cases n <;> cases h
  | ref a => cases n <;> cases h
theorem pure_need {C : Addr} (ds : List D) (G : GH) (Q : DK) (E : DXK) (h : sp_need C ds G Q E) : t_need C E (fnEnds Q) (startD N_need ds) G := by
  obtain ⟨b, x, rfl, h1, h2⟩ := h
  show t_need C E (fnEnds Q) [some (.bl b), some (.str x)] G
  unfold t_need
  cases b with
  | true =>
    simp only [dSeq, dIfS, dTst, dTru, dNot, dAnd, dOr, dAndV, dOrV, dNotV, dRet, dRetN, dDrop, dAsg, dNext, dBreak, dCont, dVar, getS, dC, dOp, dChain, dF1, dF2, dCall, dCons, dNil, dTup, dLst, dLstM, dIf, dNeg, uNeg, dLc, dLcM, dItr, dZip, dEnum, dRange1, dRange2, dFor, dPut, dAug, dPar2, dPar3, dSl, dPart, dNoPart, dM1, dM0, dCB, on1, isB, setT, setTs, dRaise, dMk, dYes, dLstRg, dRg1, wipeD, List.set, truD]
    exact fin_nx (h1 rfl)
  | false =>
    simp only [dSeq, dIfS, dTst, dTru, dNot, dAnd, dOr, dAndV, dOrV, dNotV, dRet, dRetN, dDrop, dAsg, dNext, dBreak, dCont, dVar, getS, dC, dOp, dChain, dF1, dF2, dCall, dCons, dNil, dTup, dLst, dLstM, dIf, dNeg, uNeg, dLc, dLcM, dItr, dZip, dEnum, dRange1, dRange2, dFor, dPut, dAug, dPar2, dPar3, dSl, dPart, dNoPart, dM1, dM0, dCB, on1, isB, setT, setTs, dRaise, dMk, dYes, dLstRg, dRg1, wipeD, List.set, truD]
    exact h2 rfl
theorem pure_is_number {C : Addr} (ds : List D) (G : GH) (Q : DK) (E : DXK) (h : sp_is_number ds G Q E) : t_is_number C E (fnEnds Q) (startD N_is_number ds) G := by
  obtain ⟨d, a, b, rfl, h1, h2⟩ := h
  show t_is_number C E (fnEnds Q) [some d, some (.int a), some (.int b)] G
  unfold t_is_number
  simp only [dSeq, dIfS, dTst, dTru, dNot, dAnd, dOr, dAndV, dOrV, dNotV, dRet, dRetN, dDrop, dAsg, dNext, dBreak, dCont, dVar, getS, dC, dOp, dChain, dF1, dF2, dCall, dCons, dNil, dTup, dLst, dLstM, dIf, dNeg, uNeg, dLc, dLcM, dItr, dZip, dEnum, dRange1, dRange2, dFor, dPut, dAug, dPar2, dPar3, dSl, dPart, dNoPart, dM1, dM0, dCB, on1, isB, setT, setTs, dRaise, dMk, dYes, dLstRg, dRg1, wipeD, List.set]
  refine isa_intD h1 ?_
  cases d with
  | int i =>
    simp only [isIntD, truD, if_true]
    refine isa_int ?_
    simp only [isk_int_bool, truD, Bool.not_false, if_true, i2, TT0, true_and]
    by_cases h : a ≤ i
    · simp only [h, decide_true, if_true]
      refine fin_ret ?_
      simpa [isNum, h] using h2
    · simp only [h, decide_false]
      refine fin_ret ?_
      simpa [isNum, h] using h2
  | bl i =>
    simp only [isIntD, truD, if_true]
    refine isa_bl ?_
    simp only [isk_bool_bool, truD, Bool.not_true]
    exact fin_ret h2
  | non => simp only [isIntD, truD]; exact fin_ret h2
  | str x => simp only [isIntD, truD]; exact fin_ret h2
  | tup x => simp only [isIntD, truD]; exact fin_ret h2
  | lst x => simp only [isIntD, truD]; exact fin_ret h2
  | scr x => simp only [isIntD, truD]; exact fin_ret h2
  | ref x => simp only [isIntD, truD]; exact fin_ret h2
  | ty x => cases h1
theorem pure__law_taken {C : Addr} (ds : List D) (G : GH) (Q : DK) (E : DXK) (h : sp__law_taken ds G Q E) : t__law_taken C E (fnEnds Q) (startD N__law_taken ds) G := by
  obtain ⟨p, many, xs, rfl, h1, h2, hx, ⟨at_, a, b, g⟩, q⟩ := h
  show t__law_taken C E (fnEnds Q) [some (.ref p), some (.int (many : Int)), none, none] G
  unfold t__law_taken
  simp only [dSeq, dIfS, dTst, dTru, dNot, dAnd, dOr, dAndV, dOrV, dNotV, dRet, dRetN, dDrop, dAsg, dNext, dBreak, dCont, dVar, getS, dC, dOp, dChain, dF1, dF2, dCall, dCons, dNil, dTup, dLst, dLstM, dIf, dNeg, uNeg, dLc, dLcM, dItr, dZip, dEnum, dRange1, dRange2, dFor, dPut, dAug, dPar2, dPar3, dSl, dPart, dNoPart, dM1, dM0, dCB, on1, isB, setT, setTs, dRaise, dMk, dYes, dLstRg, dRg1, wipeD, List.set]
  have hm : (many : Int) ≠ 0 := by omega
  have hC : CDivN 0 (many : Int) := ⟨hm, by omega⟩
  refine ixR g (d := .int b) rfl ?_
  simp only [getS, List.set, truD, isB, i2, TT0, true_and, Bool.not_true, Bool.not_false, Bool.false_eq_true, if_false, if_true, dVar, dC, setT, setTs]
  by_cases hb : 0 < b
  · rw [decide_eq_true hb, if_pos rfl]
    refine ixR g (d := .int b) rfl ?_
    simp only [getS, List.set, truD, isB, i2, TT0, true_and, Bool.not_true, Bool.not_false, Bool.false_eq_true, if_false, if_true, dVar, dC, setT, setTs, intF]
    refine ⟨hm, ?_⟩
    refine ixR g (d := .int b) rfl ?_
    simp only [getS, List.set, truD, isB, i2, TT0, true_and, Bool.not_true, Bool.not_false, Bool.false_eq_true, if_false, if_true, dVar, dC, setT, setTs]
    refine ⟨hC, setR g (j := 3) rfl ?_⟩
    obtain ⟨v, hv, ev⟩ := fmod_many (i := b) h1
    rw [ev]
    exact fin_ret (q v at_ a (b.fdiv (many : Int)) hv)
  · rw [decide_eq_false hb, if_neg Bool.false_ne_true]
    refine ixR g (d := .int (at_ : Int)) rfl ?_
    simp only [addD]
    refine setR g (j := 1) rfl ?_
    have eat : ((at_ : Nat) : Int) + 1 = ((at_ + 1 : Nat) : Int) := by omega
    rw [eat]
    have g1 : (updG G p (rowG xs (at_ + 1) a b)) p = some (rowG xs (at_ + 1) a b) := updG_same
    have key : ∀ (v a1 : Nat) (a2 a3 : Int), v < many → Q (.int (v : Int)) (updG (updG G p (rowG xs (at_ + 1) a b)) p (rowG xs a1 a2 a3)) := fun v a1 a2 a3 hv => by
      rw [updG_updG]
      exact q v a1 a2 a3 hv
    refine ixR g1 (d := .int ((at_ + 1 : Nat) : Int)) rfl ?_
    refine ixR g1 (d := scrD xs) rfl ?_
    refine lenScr ?_
    simp only [getS, List.set, truD, isB, i2, TT0, true_and, Bool.not_true, Bool.not_false, Bool.false_eq_true, if_false, if_true, dVar, dC, setT, setTs]
    have hC48 : ∀ i : Int, CMul i 48271 := fun i => .inr ⟨by decide, by decide⟩
    by_cases hat : xs.length < at_ + 1
    · have e : decide ((xs.length : Int) < ((at_ + 1 : Nat) : Int)) = true := by rw [decide_eq_true_eq]; omega
      rw [e, if_pos rfl]
      refine ixR g1 (d := .int a) rfl ?_
      refine ⟨hC48 a, ?_⟩
      simp only [addD, intF]
      refine ⟨show (2147483647 : Int) ≠ 0 by decide, ?_⟩
      refine setR g1 (j := 2) rfl ?_
      refine ixR (a := [scrD xs, .int ((at_ + 1 : Nat) : Int), .int ((a * 48271 + 11).fmod 2147483647), .int b]) updG_same (d := .int ((a * 48271 + 11).fmod 2147483647)) rfl ?_
      refine ⟨⟨by decide, by decide⟩, ?_⟩
      simp only [intF, getS, List.set, truD, isB, i2, TT0, true_and, Bool.not_true, Bool.not_false, Bool.false_eq_true, if_false, if_true, dVar, dC, setT, setTs]
      refine ⟨hm, ?_⟩
      obtain ⟨v, hv, ev⟩ := fmod_many (i := ((a * 48271 + 11).fmod 2147483647).fdiv 7) h1
      rw [ev]
      exact fin_ret (key v (at_ + 1) ((a * 48271 + 11).fmod 2147483647) b hv)
    · have e : decide ((xs.length : Int) < ((at_ + 1 : Nat) : Int)) = false := by rw [decide_eq_false_iff_not]; omega
      rw [e, if_neg Bool.false_ne_true]
      refine ixR g1 (d := scrD xs) rfl ?_
      refine ixR g1 (d := .int ((at_ + 1 : Nat) : Int)) rfl ?_
      simp only [getS, List.set, truD, isB, i2, TT0, true_and, Bool.not_true, Bool.not_false, Bool.false_eq_true, if_false, if_true, dVar, dC, setT, setTs]
      have eix : ((at_ + 1 : Nat) : Int) - 1 = ((at_ : Nat) : Int) := by omega
      rw [eix]
      have hlt : at_ < xs.xs.length := by
        have e : xs.length = xs.xs.length := rfl
        omega
      refine ixScr hlt ?_
      generalize xs.xs[at_] = cell
      simp only [dSeq, dIfS, dTst, dTru, dNot, dAnd, dOr, dAndV, dOrV, dNotV, dRet, dRetN, dDrop, dAsg, dNext, dBreak, dCont, dVar, getS, dC, dOp, dChain, dF1, dF2, dCall, dCons, dNil, dTup, dLst, dLstM, dIf, dNeg, uNeg, dLc, dLcM, dItr, dZip, dEnum, dRange1, dRange2, dFor, dPut, dAug, dPar2, dPar3, dSl, dPart, dNoPart, dM1, dM0, dCB, on1, isB, setT, setTs, dRaise, dMk, dYes, dLstRg, dRg1, wipeD, List.set, getS, List.set, truD, isB, i2, TT0, true_and, Bool.not_true, Bool.not_false, Bool.false_eq_true, if_false, if_true, dVar, dC, setT, setTs]
      refine ixR g1 (d := .int a) rfl ?_
      refine ⟨hC48 a, ?_⟩
      simp only [addD, intF]
      refine ⟨show (2147483647 : Int) ≠ 0 by decide, ?_⟩
      refine setR g1 (j := 2) rfl ?_
      have g2 : (updG (updG G p (rowG xs (at_ + 1) a b)) p (.lst ([scrD xs, D.int ((at_ + 1 : Nat) : Int), D.int a, D.int b].set 2 (.int ((a * 48271 + cell + 11).fmod 2147483647))))) p = some (rowG xs (at_ + 1) ((a * 48271 + cell + 11).fmod 2147483647) b) := by rw [updG_same] <;> rfl
      have key2 : ∀ (v : Nat) at_' a' b', v < many → Q (.int (v : Int)) (updG (updG (updG G p (rowG xs (at_ + 1) a b)) p (.lst ([scrD xs, D.int ((at_ + 1 : Nat) : Int), D.int a, D.int b].set 2 (.int ((a * 48271 + cell + 11).fmod 2147483647))))) p (rowG xs at_' a' b')) := fun v a1 a2 a3 hv => by
        rw [updG_updG, updG_updG]
        exact q v a1 a2 a3 hv
      generalize updG (updG G p (rowG xs (at_ + 1) a b)) p (.lst ([scrD xs, D.int ((at_ + 1 : Nat) : Int), D.int a, D.int b].set 2 (.int ((a * 48271 + cell + 11).fmod 2147483647)))) = G2 at g2 key2 ⊢
      have hP : ∀ k : Int, 0 ≤ k → k ≤ 1000000 → CPow 10 k := fun k h1 h2 => ⟨h1, h2, by decide⟩
      refine ⟨hP 18 (by decide) (by decide), ?_⟩
      simp only [getS, List.set, truD, isB, i2, TT0, true_and, Bool.not_true, Bool.not_false, Bool.false_eq_true, if_false, if_true, dVar, dC, setT, setTs]
      obtain ⟨v, hv, ev⟩ := fmod_many (i := cell) h1
      by_cases hc : (10 : Int) ^ (18 : Int).toNat ≤ cell
      · rw [decide_eq_true hc, if_pos rfl]
        refine ⟨hP 90 (by decide) (by decide), ?_⟩
        refine ⟨by decide, ?_⟩
        try simp only [intF, getS, List.set, truD, isB, i2, TT0, true_and, Bool.not_true, Bool.not_false, Bool.false_eq_true, if_false, if_true, dVar, dC, setT, setTs]
        refine ⟨hC, ?_⟩
        refine setR g2 (j := 3) rfl ?_
        refine ⟨hm, ?_⟩
        rw [ev]
        exact fin_ret (key2 v (at_ + 1) _ _ hv)
      · rw [decide_eq_false hc, if_neg Bool.false_ne_true]
        try simp only [intF, getS, List.set, truD, isB, i2, TT0, true_and, Bool.not_true, Bool.not_false, Bool.false_eq_true, if_false, if_true, dVar, dC, setT, setTs]
        refine ⟨hm, ?_⟩
        rw [ev]
        have e : G2 = updG G2 p (rowG xs (at_ + 1) ((a * 48271 + cell + 11).fmod 2147483647) b) := (row_self g2).symm
        rw [e]
        exact fin_ret (key2 v (at_ + 1) _ _ hv)
theorem pure__law_pick {C : Addr} (ds : List D) (G : GH) (Q : DK) (E : DXK) (h : sp__law_pick ds G Q E) : t__law_pick C E (fnEnds Q) (startD N__law_pick ds) G := by
  obtain ⟨p, sm, n, ok, xs, rfl, ⟨h1, h2⟩, hs, hx, g, q⟩ := h
  show t__law_pick C E (fnEnds Q) [some (.ref p), some sm] G
  unfold t__law_pick
  simp only [dSeq, dIfS, dTst, dTru, dNot, dAnd, dOr, dAndV, dOrV, dNotV, dRet, dRetN, dDrop, dAsg, dNext, dBreak, dCont, dVar, getS, dC, dOp, dChain, dF1, dF2, dCall, dCons, dNil, dTup, dLst, dLstM, dIf, dNeg, uNeg, dLc, dLcM, dItr, dZip, dEnum, dRange1, dRange2, dFor, dPut, dAug, dPar2, dPar3, dSl, dPart, dNoPart, dM1, dM0, dCB, on1, isB, setT, setTs, dRaise, dMk, dYes, dLstRg, dRg1, wipeD, List.set]
  rcases hs with ⟨l, hl, el, hok⟩ | ⟨x, rfl, el, hok⟩
  · rcases hl with rfl | rfl
    · refine lenL ⟨p, n, xs, by rw [el], h1, Nat.le_trans h2 (by decide), hx, g, fun v at_ a b hv => ?_⟩
      have hv : v < l.length := by omega
      have e : l[v]? = some l[v] := List.getElem?_eq_getElem hv
      exact ixL (L2.atI_nat e) (fin_ret (q _ at_ a b (hok _ (List.getElem_mem hv))))
    · refine lenT ⟨p, n, xs, by rw [el], h1, Nat.le_trans h2 (by decide), hx, g, fun v at_ a b hv => ?_⟩
      have hv : v < l.length := by omega
      have e : l[v]? = some l[v] := List.getElem?_eq_getElem hv
      exact ixT (L2.atI_nat e) (fin_ret (q _ at_ a b (hok _ (List.getElem_mem hv))))
  · have e1 : x.cps.toList.length = x.length := by simp [Str.length]
    refine ⟨by rw [sizeL]; omega, ⟨p, n, xs, by rw [el], h1, Nat.le_trans h2 (by decide), hx, g, fun v at_ a b hv => ?_⟩⟩
    have hv : v < x.cps.toList.length := by omega
    have e : x.cps.toList[v]? = some x.cps.toList[v] := List.getElem?_eq_getElem hv
    refine ⟨by rw [sizeL]; omega, ?_⟩
    rw [L2.atI_nat e]
    exact fin_ret (q _ at_ a b (hok _ (List.getElem_mem hv)))
def spUnder : Nat → DSp
  | 0 => spNo
  | n + 1 => sp_alike n
theorem pure__law_alike {C : Addr} (n : Nat) (ds : List D) (G : GH) (Q : DK) (E : DXK) (h : sp_alike n ds G Q E) : t__law_alike C (spUnder n) E (fnEnds Q) (startD N__law_alike ds) G := by
  obtain ⟨d, rfl, hd, q⟩ := h
  show t__law_alike C (spUnder n) E (fnEnds Q) [some d, some d, none] G
  unfold t__law_alike
  simp only [dSeq, dIfS, dTst, dTru, dNot, dAnd, dOr, dAndV, dOrV, dNotV, dRet, dRetN, dDrop, dAsg, dNext, dBreak, dCont, dVar, getS, dC, dOp, dChain, dF1, dF2, dCall, dCons, dNil, dTup, dLst, dLstM, dIf, dNeg, uNeg, dLc, dLcM, dItr, dZip, dEnum, dRange1, dRange2, dFor, dPut, dAug, dPar2, dPar3, dSl, dPart, dNoPart, dM1, dM0, dCB, on1, isB, setT, setTs, dRaise, dMk, dYes, dLstRg, dRg1, wipeD, List.set]
  refine isa_tuple (alk_ty hd) ?_
  cases d with
  | tup a =>
    cases n with
    | zero => cases hd
    | succ n =>
      have hd : (decide (a.length ≤ datL) && a.all (alk n)) = true := hd
      rw [Bool.and_eq_true, decide_eq_true_eq, List.all_eq_true] at hd
      obtain ⟨hl, ha⟩ := hd
      unfold datL at hl
      simp only [isTup, getS, List.set, truD, isB, i2, TT0, true_and, Bool.not_true, Bool.not_false, Bool.false_eq_true, if_false, if_true, dVar, dC, setT, setTs]
      refine isa_tup ?_
      simp only [isk_tuple_tuple, getS, List.set, truD, isB, i2, TT0, true_and, Bool.not_true, Bool.not_false, Bool.false_eq_true, if_false, if_true, dVar, dC, setT, setTs]
      refine lenT (lenT (neI ?_))
      simp only [getS, List.set, truD, isB, i2, TT0, true_and, Bool.not_true, Bool.not_false, Bool.false_eq_true, if_false, if_true, dVar, dC, setT, setTs, decide_true]
      refine lenT ⟨⟨by omega, by omega⟩, ?_⟩
      refine comp_pure (fun _ => none) trivial _ [] (fun d hd k k0 hk => ?_) ?_ ?_
      · unfold rgD at hd
        obtain ⟨i, hi, rfl⟩ := List.mem_map.mp hd
        rw [Int.toNat_natCast, List.mem_range] at hi
        simp only [dSeq, dIfS, dTst, dTru, dNot, dAnd, dOr, dAndV, dOrV, dNotV, dRet, dRetN, dDrop, dAsg, dNext, dBreak, dCont, dVar, getS, dC, dOp, dChain, dF1, dF2, dCall, dCons, dNil, dTup, dLst, dLstM, dIf, dNeg, uNeg, dLc, dLcM, dItr, dZip, dEnum, dRange1, dRange2, dFor, dPut, dAug, dPar2, dPar3, dSl, dPart, dNoPart, dM1, dM0, dCB, on1, isB, setT, setTs, dRaise, dMk, dYes, dLstRg, dRg1, wipeD, List.set, getS, List.set, truD, isB, i2, TT0, true_and, Bool.not_true, Bool.not_false, Bool.false_eq_true, if_false, if_true, dVar, dC, setT, setTs, Int.zero_add]
        have e : a[i]? = some a[i] := List.getElem?_eq_getElem hi
        refine ixT (L2.atI_nat e) (ixT (L2.atI_nat e) ?_)
        exact ⟨a[i], rfl, ha _ (List.getElem_mem hi), hk⟩
      · unfold rgD
        rw [List.length_map, List.length_range, Int.toNat_natCast, sizeL, List.length_nil]
        omega
      · refine ⟨by rw [sizeL]; simp, ?_⟩
        have e : ([] ++ (rgD 0 (a.length : Int).toNat).filterMap fun _ => (none : Option D)) = ([] : List D) := by simp
        rw [e]
        exact eq_self 1 (by rfl) (fin_ret q)
  | non =>
    simp only [isTup, getS, List.set, truD, isB, i2, TT0, true_and, Bool.not_true, Bool.not_false, Bool.false_eq_true, if_false, if_true, dVar, dC, setT, setTs, isND, DL.isNon]
    refine eqN ?_
    simp only [getS, List.set, truD, isB, i2, TT0, true_and, Bool.not_true, Bool.not_false, Bool.false_eq_true, if_false, if_true, dVar, dC, setT, setTs]
    exact isa_non (isa_non (eqB (by rw [decide_eq_true rfl]; exact fin_ret q)))
  | str x =>
    simp only [isTup, getS, List.set, truD, isB, i2, TT0, true_and, Bool.not_true, Bool.not_false, Bool.false_eq_true, if_false, if_true, dVar, dC, setT, setTs, isND, DL.isNon]
    refine isa_str ?_
    simp only [isk_str_str, getS, List.set, truD, isB, i2, TT0, true_and, Bool.not_true, Bool.not_false, Bool.false_eq_true, if_false, if_true, dVar, dC, setT, setTs]
    refine eqX ?_
    rw [decide_eq_true rfl]
    simp only [getS, List.set, truD, isB, i2, TT0, true_and, Bool.not_true, Bool.not_false, Bool.false_eq_true, if_false, if_true, dVar, dC, setT, setTs]
    exact isa_str (isa_str (eqB (by rw [decide_eq_true rfl]; exact fin_ret q)))
  | int i =>
    simp only [isTup, getS, List.set, truD, isB, i2, TT0, true_and, Bool.not_true, Bool.not_false, Bool.false_eq_true, if_false, if_true, dVar, dC, setT, setTs, isND, DL.isNon]
    refine isa_int ?_
    simp only [isk_int_str, getS, List.set, truD, isB, i2, TT0, true_and, Bool.not_true, Bool.not_false, Bool.false_eq_true, if_false, if_true, dVar, dC, setT, setTs]
    refine isa_int ?_
    simp only [isk_int_int, getS, List.set, truD, isB, i2, TT0, true_and, Bool.not_true, Bool.not_false, Bool.false_eq_true, if_false, if_true, dVar, dC, setT, setTs]
    refine isa_int (isa_int (eqB ?_))
    rw [decide_eq_true rfl]
    simp only [getS, List.set, truD, isB, i2, TT0, true_and, Bool.not_true, Bool.not_false, Bool.false_eq_true, if_false, if_true, dVar, dC, setT, setTs]
    exact eqI (by rw [decide_eq_true rfl]; exact fin_ret q)
  | bl i =>
    simp only [isTup, getS, List.set, truD, isB, i2, TT0, true_and, Bool.not_true, Bool.not_false, Bool.false_eq_true, if_false, if_true, dVar, dC, setT, setTs, isND, DL.isNon]
    refine isa_bl ?_
    simp only [isk_bool_str, getS, List.set, truD, isB, i2, TT0, true_and, Bool.not_true, Bool.not_false, Bool.false_eq_true, if_false, if_true, dVar, dC, setT, setTs]
    refine isa_bl ?_
    simp only [isk_bool_int, getS, List.set, truD, isB, i2, TT0, true_and, Bool.not_true, Bool.not_false, Bool.false_eq_true, if_false, if_true, dVar, dC, setT, setTs]
    refine isa_bl (isa_bl (eqB ?_))
    rw [decide_eq_true rfl]
    simp only [getS, List.set, truD, isB, i2, TT0, true_and, Bool.not_true, Bool.not_false, Bool.false_eq_true, if_false, if_true, dVar, dC, setT, setTs]
    exact eqB (by rw [decide_eq_true rfl]; exact fin_ret q)
  | lst _ => cases n <;> cases hd
  | scr _ => cases n <;> cases hd
  | ref _ => cases n <;> cases hd
  | ty _ => cases n <;> cases hd
theorem pure_is_rising {C : Addr} (ds : List D) (G : GH) (Q : DK) (E : DXK) (h : sp_is_rising ds G Q E) : t_is_rising C E (fnEnds Q) (startD N_is_rising ds) G := by
  obtain ⟨d, ns, rfl, hd, hl, h2⟩ := h
  show t_is_rising C E (fnEnds Q) [some d, none, none] G
  unfold t_is_rising
  have hc : ∀ (ρ : DSt), compD (fun G => yes0 G ∧ yes0 G) (.tup [.name 1, .name 2]) dYes (dOp ltD (dVar 1) (dVar 2)) [some d, none, none] (fun acc G2 => allF (.lst acc) G2 (fnEnds Q).rt) ((ns.zip (ns.drop 1)).map fun z => .tup [.int z.1, .int z.2]) [] G := fun _ => by
    refine comp_each (fun z : Int × Int => .tup [.int z.1, .int z.2]) (fun z => .bl (decide (z.1 < z.2))) _ ⟨trivial, trivial⟩ (fun z hz k hk => ?_) ?_ ?_
    · simp only [dSeq, dIfS, dTst, dTru, dNot, dAnd, dOr, dAndV, dOrV, dNotV, dRet, dRetN, dDrop, dAsg, dNext, dBreak, dCont, dVar, getS, dC, dOp, dChain, dF1, dF2, dCall, dCons, dNil, dTup, dLst, dLstM, dIf, dNeg, uNeg, dLc, dLcM, dItr, dZip, dEnum, dRange1, dRange2, dFor, dPut, dAug, dPar2, dPar3, dSl, dPart, dNoPart, dM1, dM0, dCB, on1, isB, setT, setTs, dRaise, dMk, dYes, dLstRg, dRg1, wipeD, List.set, List.set, ltD]
      exact hk
    · rw [List.length_zip, sizeL]
      unfold datL at hl
      omega
    · refine ⟨(ns.zip (ns.drop 1)).map fun z => decide (z.1 < z.2), ?_, ?_⟩
      · rw [List.map_map]
        rfl
      · refine fin_ret ?_
        rw [rising_all]
        exact h2
  have hdr : (intsD ns).drop 1 = intsD (ns.drop 1) := by unfold intsD; rw [List.map_drop]
  rcases hd with rfl | rfl
  · simp only [dSeq, dIfS, dTst, dTru, dNot, dAnd, dOr, dAndV, dOrV, dNotV, dRet, dRetN, dDrop, dAsg, dNext, dBreak, dCont, dVar, getS, dC, dOp, dChain, dF1, dF2, dCall, dCons, dNil, dTup, dLst, dLstM, dIf, dNeg, uNeg, dLc, dLcM, dItr, dZip, dEnum, dRange1, dRange2, dFor, dPut, dAug, dPar2, dPar3, dSl, dPart, dNoPart, dM1, dM0, dCB, on1, isB, setT, setTs, dRaise, dMk, dYes, dLstRg, dRg1, wipeD, List.set, slD, cut_tail, isT, seqD, true_and]
    rw [hdr, zip_ints]
    exact hc []
  · simp only [dSeq, dIfS, dTst, dTru, dNot, dAnd, dOr, dAndV, dOrV, dNotV, dRet, dRetN, dDrop, dAsg, dNext, dBreak, dCont, dVar, getS, dC, dOp, dChain, dF1, dF2, dCall, dCons, dNil, dTup, dLst, dLstM, dIf, dNeg, uNeg, dLc, dLcM, dItr, dZip, dEnum, dRange1, dRange2, dFor, dPut, dAug, dPar2, dPar3, dSl, dPart, dNoPart, dM1, dM0, dCB, on1, isB, setT, setTs, dRaise, dMk, dYes, dLstRg, dRg1, wipeD, List.set, slD, cut_tail, isT, seqD, true_and]
    rw [hdr, zip_ints]
    exact hc []
theorem pure_are_letters {C : Addr} (ds : List D) (G : GH) (Q : DK) (E : DXK) (h : sp_are_letters ds G Q E) : t_are_letters C E (fnEnds Q) (startD N_are_letters ds) G := by
  obtain ⟨d, n, rfl, hd, hs, q⟩ := h
  show t_are_letters C E (fnEnds Q) [some d, none] G
  unfold t_are_letters
  simp only [dSeq, dIfS, dTst, dTru, dNot, dAnd, dOr, dAndV, dOrV, dNotV, dRet, dRetN, dDrop, dAsg, dNext, dBreak, dCont, dVar, getS, dC, dOp, dChain, dF1, dF2, dCall, dCons, dNil, dTup, dLst, dLstM, dIf, dNeg, uNeg, dLc, dLcM, dItr, dZip, dEnum, dRange1, dRange2, dFor, dPut, dAug, dPar2, dPar3, dSl, dPart, dNoPart, dM1, dM0, dCB, on1, isB, setT, setTs, dRaise, dMk, dYes, dLstRg, dRg1, wipeD, List.set]
  refine isa_strD hd ?_
  cases d with
  | str x =>
    simp only [isStrD, getS, List.set, truD, isB, i2, TT0, true_and, Bool.not_true, Bool.not_false, Bool.false_eq_true, if_false, if_true, dVar, dC, setT, setTs]
    simp only [itD]
    have hl : x.length ≤ datL := hs x rfl
    refine comp_each (fun c : Nat => .str ⟨#[c]⟩) (fun c => .bl (isLet c)) _ trivial (fun c _ k hk => ?_) ?_ ?_
    · simp only [dSeq, dIfS, dTst, dTru, dNot, dAnd, dOr, dAndV, dOrV, dNotV, dRet, dRetN, dDrop, dAsg, dNext, dBreak, dCont, dVar, getS, dC, dOp, dChain, dF1, dF2, dCall, dCons, dNil, dTup, dLst, dLstM, dIf, dNeg, uNeg, dLc, dLcM, dItr, dZip, dEnum, dRange1, dRange2, dFor, dPut, dAug, dPar2, dPar3, dSl, dPart, dNoPart, dM1, dM0, dCB, on1, isB, setT, setTs, dRaise, dMk, dYes, dLstRg, dRg1, wipeD, List.set, List.set]
      show k (.bl (isLet c ^^ false)) G
      rw [Bool.xor_false]
      exact hk
    · have e : x.cps.toList.length = x.length := by simp [Str.length]
      rw [e, sizeL]; unfold datL at hl; omega
    · refine ⟨x.cps.toList.map isLet, by rw [List.map_map] <;> rfl, fin_ret ?_⟩
      have e : (x.cps.toList.map isLet).all id = lettersD (.str x) := by rw [List.all_map] <;> rfl
      rw [e]
      exact q
  | non => simp only [isStrD, getS, List.set, truD, isB, i2, TT0, true_and, Bool.not_true, Bool.not_false, Bool.false_eq_true, if_false, if_true, dVar, dC, setT, setTs]; exact fin_ret q
  | bl _ => simp only [isStrD, getS, List.set, truD, isB, i2, TT0, true_and, Bool.not_true, Bool.not_false, Bool.false_eq_true, if_false, if_true, dVar, dC, setT, setTs]; exact fin_ret q
  | int _ => simp only [isStrD, getS, List.set, truD, isB, i2, TT0, true_and, Bool.not_true, Bool.not_false, Bool.false_eq_true, if_false, if_true, dVar, dC, setT, setTs]; exact fin_ret q
  | tup _ => simp only [isStrD, getS, List.set, truD, isB, i2, TT0, true_and, Bool.not_true, Bool.not_false, Bool.false_eq_true, if_false, if_true, dVar, dC, setT, setTs]; exact fin_ret q
  | lst _ => simp only [isStrD, getS, List.set, truD, isB, i2, TT0, true_and, Bool.not_true, Bool.not_false, Bool.false_eq_true, if_false, if_true, dVar, dC, setT, setTs]; exact fin_ret q
  | scr _ => cases n <;> cases hd
  | ty _ => cases n <;> cases hd
  | ref _ => cases n <;> cases hd
theorem pure_is_station_row {C : Addr} (ds : List D) (G : GH) (Q : DK) (E : DXK) (h : sp_is_station_row ds G Q E) : t_is_station_row C E (fnEnds Q) (startD N_is_station_row ds) G := by
  obtain ⟨d, many, rfl, hd, q⟩ := h
  show t_is_station_row C E (fnEnds Q) [some d, some (.int many), none] G
  unfold t_is_station_row
  simp only [dSeq, dIfS, dTst, dTru, dNot, dAnd, dOr, dAndV, dOrV, dNotV, dRet, dRetN, dDrop, dAsg, dNext, dBreak, dCont, dVar, getS, dC, dOp, dChain, dF1, dF2, dCall, dCons, dNil, dTup, dLst, dLstM, dIf, dNeg, uNeg, dLc, dLcM, dItr, dZip, dEnum, dRange1, dRange2, dFor, dPut, dAug, dPar2, dPar3, dSl, dPart, dNoPart, dM1, dM0, dCB, on1, isB, setT, setTs, dRaise, dMk, dYes, dLstRg, dRg1, wipeD, List.set]
  refine isa_tuple (dat_ty hd) ?_
  cases ht : isTup d with
  | false =>
    simp only [getS, List.set, truD, isB, i2, TT0, true_and, Bool.not_true, Bool.not_false, Bool.false_eq_true, if_false, if_true, dVar, dC, setT, setTs]
    refine fin_ret ?_
    have e : stRow many d = false := by cases d <;> first | rfl | cases ht
    rw [e] at q
    exact q
  | true =>
    obtain ⟨a, rfl⟩ := isTup_of ht
    obtain ⟨hl, n, en, ha⟩ := dat_tup hd
    have en : n = 0 := by omega
    subst en
    simp only [getS, List.set, truD, isB, i2, TT0, true_and, Bool.not_true, Bool.not_false, Bool.false_eq_true, if_false, if_true, dVar, dC, setT, setTs]
    simp only [itD]
    refine comp_map (fun d => .bl (isNum d 0 (many - 1))) trivial _ (fun d hd k hk => ?_) ?_ ?_
    · simp only [dSeq, dIfS, dTst, dTru, dNot, dAnd, dOr, dAndV, dOrV, dNotV, dRet, dRetN, dDrop, dAsg, dNext, dBreak, dCont, dVar, getS, dC, dOp, dChain, dF1, dF2, dCall, dCons, dNil, dTup, dLst, dLstM, dIf, dNeg, uNeg, dLc, dLcM, dItr, dZip, dEnum, dRange1, dRange2, dFor, dPut, dAug, dPar2, dPar3, dSl, dPart, dNoPart, dM1, dM0, dCB, on1, isB, setT, setTs, dRaise, dMk, dYes, dLstRg, dRg1, wipeD, List.set, List.set, subD]
      exact ⟨trivial, d, 0, many - 1, rfl, dat_ty (ha d hd), hk⟩
    · rw [sizeL]; unfold datL at hl; omega
    · refine ⟨a.map fun d => isNum d 0 (many - 1), by rw [List.map_map] <;> rfl, ?_⟩
      have eall : (a.map fun d => isNum d 0 (many - 1)).all id = a.all (isNum · 0 (many - 1)) := by rw [List.all_map] <;> rfl
      rw [eall]
      have es : stRow many (.tup a) = (a.all (isNum · 0 (many - 1)) && rising (a.map getI)) := rfl
      rw [es] at q
      cases hn : a.all (isNum · 0 (many - 1)) with
      | false =>
        rw [hn] at q
        simp only [getS, List.set, truD, isB, i2, TT0, true_and, Bool.not_true, Bool.not_false, Bool.false_eq_true, if_false, if_true, dVar, dC, setT, setTs]
        exact fin_ret q
      | true =>
        rw [hn] at q
        simp only [getS, List.set, truD, isB, i2, TT0, true_and, Bool.not_true, Bool.not_false, Bool.false_eq_true, if_false, if_true, dVar, dC, setT, setTs]
        refine ⟨.tup a, a.map getI, rfl, .inl (by rw [← nums_ints hn]), by rw [List.length_map]; exact hl, fin_ret ?_⟩
        exact q
end KL


end

section
set_option Elab.async false
set_option linter.all false
set_option maxRecDepth 100000
set_option maxHeartbeats 1000000
open PySem PySem.Spec PyProof.Rows L2 DL
namespace KL
/-! ### is_net -/
theorem netOk_two {a : List D} (h : a.length ≠ 2) : netOk (.tup a) = false := by
  unfold netOk
  split
  · rename_i e
    cases e
    exact absurd rfl h
  · rfl
def rowGo (many : Nat) (d : D) : Bool := match d with
  | .tup [.int i, r] => stRow (many : Int) r && !selfIn i r
  | _ => false
theorem netRows_all (many : Nat) : ∀ (i : Nat) (rs : List D), ((enumL i rs).map (rowGo many)).all id = netRows many i rs
  | _, [] => rfl
  | i, r :: rs => by
    show (rowGo many (.tup [.int (i : Int), r]) && ((enumL (i + 1) rs).map _).all id) = _
    rw [netRows_all many (i + 1) rs] <;> rfl
theorem nums_ok {a b : Int} {ds : List D} (h : ds.all (isNum · a b) = true) : ∀ d ∈ ds, dpt 0 d = true := fun d hd => by
  obtain ⟨i, e, _⟩ := isNum_int (List.all_eq_true.mp h d hd)
  rw [e] <;> rfl
theorem pure_is_net {C : Addr} (ds : List D) (G : GH) (Q : DK) (E : DXK) (h : sp_is_net ds G Q E) : t_is_net C E (fnEnds Q) (startD N_is_net ds) G := by
  obtain ⟨d, rfl, hd, hs, q⟩ := h
  show t_is_net C E (fnEnds Q) [some d, none, none, none, none] G
  unfold t_is_net
  simp only [dSeq, dIfS, dTst, dTru, dNot, dAnd, dOr, dAndV, dOrV, dNotV, dRet, dRetN, dDrop, dAsg, dNext, dBreak, dCont, dVar, getS, dC, dOp, dChain, dF1, dF2, dCall, dCons, dNil, dTup, dLst, dLstM, dIf, dNeg, uNeg, dLc, dLcM, dItr, dZip, dEnum, dRange1, dRange2, dFor, dPut, dAug, dPar2, dPar3, dSl, dPart, dNoPart, dM1, dM0, dCB, on1, isB, setT, setTs, dRaise, dMk, dYes, dLstRg, dRg1, wipeD, List.set]
  refine isa_tuple (dat_ty hd) ?_
  cases ht : isTup d with
  | false =>
    simp only [getS, List.set, truD, isB, i2, TT0, true_and, Bool.not_true, Bool.not_false, Bool.false_eq_true, if_false, if_true, dVar, dC, setT, setTs]
    refine fin_ret ?_
    have e : netOk d = false := by cases d <;> first | rfl | cases ht
    rw [e] at q
    exact q
  | true =>
    obtain ⟨a, rfl⟩ := isTup_of ht
    obtain ⟨hl, n, en, ha⟩ := dat_tup hd
    have en : n = 2 := by omega
    subst en
    simp only [getS, List.set, truD, isB, i2, TT0, true_and, Bool.not_true, Bool.not_false, Bool.false_eq_true, if_false, if_true, dVar, dC, setT, setTs]
    refine lenT (eqI ?_)
    simp only [isB]
    by_cases h2 : a.length = 2
    · match a, h2, q, ha, hs with
      | [x, y], _, q, ha, hs =>
        have hx := ha x (by simp)
        have hy := ha y (by simp)
        have e3 : decide ((([x, y] : List D).length : Int) = 2) = true := rfl
        rw [e3]
        simp only [dSeq, dIfS, dTst, dTru, dNot, dAnd, dOr, dAndV, dOrV, dNotV, dRet, dRetN, dDrop, dAsg, dNext, dBreak, dCont, dVar, getS, dC, dOp, dChain, dF1, dF2, dCall, dCons, dNil, dTup, dLst, dLstM, dIf, dNeg, uNeg, dLc, dLcM, dItr, dZip, dEnum, dRange1, dRange2, dFor, dPut, dAug, dPar2, dPar3, dSl, dPart, dNoPart, dM1, dM0, dCB, on1, isB, setT, setTs, dRaise, dMk, dYes, dLstRg, dRg1, wipeD, List.set, getS, List.set, truD, isB, i2, TT0, true_and, Bool.not_true, Bool.not_false, Bool.false_eq_true, if_false, if_true, dVar, dC, setT, setTs]
        refine ⟨x, 2, rfl, hx, fun z e => hs z y (by rw [e]), ?_⟩
        cases hL : lettersD x with
        | false =>
          simp only [getS, List.set, truD, isB, i2, TT0, true_and, Bool.not_true, Bool.not_false, Bool.false_eq_true, if_false, if_true, dVar, dC, setT, setTs]
          refine fin_ret ?_
          have e : netOk (.tup [x, y]) = false := by
            cases x with
            | str z =>
              cases y with
              | tup es =>
                show (lettersD (.str z) && _) = false
                rw [hL] <;> rfl
              | _ => rfl
            | _ => rfl
          rw [e] at q
          exact q
        | true =>
          obtain ⟨l, rfl⟩ : ∃ l, x = .str l := by
            cases x with
            | str l => exact ⟨l, rfl⟩
            | _ => cases hL
          have hll := hs l y rfl
          have hlZ : l.length ≤ sizeLine := by rw [sizeL]; unfold datL at hll; omega
          simp only [getS, List.set, truD, isB, i2, TT0, true_and, Bool.not_true, Bool.not_false, Bool.false_eq_true, if_false, if_true, dVar, dC, setT, setTs]
          refine ⟨hlZ, ?_⟩
          simp only [leD, getS, List.set, truD, isB, i2, TT0, true_and, Bool.not_true, Bool.not_false, Bool.false_eq_true, if_false, if_true, dVar, dC, setT, setTs]
          have q0 := q
          by_cases h1 : 1 ≤ l.length
          · rw [show decide ((1 : Int) ≤ (l.length : Int)) = true by rw [decide_eq_true_eq]; omega]
            simp only [getS, List.set, truD, isB, i2, TT0, true_and, Bool.not_true, Bool.not_false, Bool.false_eq_true, if_false, if_true, dVar, dC, setT, setTs]
            by_cases h7 : l.length ≤ 7
            · rw [show decide ((l.length : Int) ≤ 7) = true by rw [decide_eq_true_eq]; omega]
              simp only [getS, List.set, truD, isB, i2, TT0, true_and, Bool.not_true, Bool.not_false, Bool.false_eq_true, if_false, if_true, dVar, dC, setT, setTs]
              refine isa_tuple (dat_ty hy) ?_
              cases ht : isTup y with
              | false =>
                simp only [getS, List.set, truD, isB, i2, TT0, true_and, Bool.not_true, Bool.not_false, Bool.false_eq_true, if_false, if_true, dVar, dC, setT, setTs]
                refine fin_ret ?_
                have e : netOk (.tup [.str l, y]) = false := by cases y <;> first | rfl | cases ht
                rw [e] at q
                exact q
              | true =>
                obtain ⟨es, rfl⟩ := isTup_of ht
                obtain ⟨hel, n, en, he⟩ := dat_tup hy
                have en : n = 1 := by omega
                subst en
                simp only [getS, List.set, truD, isB, i2, TT0, true_and, Bool.not_true, Bool.not_false, Bool.false_eq_true, if_false, if_true, dVar, dC, setT, setTs]
                refine lenT ⟨hlZ, eqI ?_⟩
                have eok : netOk (.tup [.str l, .tup es]) = (decide (es.length = l.length) && netRows l.length 0 es) := by
                  show (lettersD (.str l) && (decide (1 ≤ l.length) && (decide (l.length ≤ 7) && (decide (es.length = l.length) && netRows l.length 0 es)))) = _
                  rw [hL, decide_eq_true h1, decide_eq_true h7] <;> rfl
                rw [eok] at q
                by_cases hee : es.length = l.length
                · rw [show decide ((es.length : Int) = (l.length : Int)) = true by rw [decide_eq_true_eq]; omega]
                  rw [decide_eq_true hee, Bool.true_and] at q
                  simp only [getS, List.set, truD, isB, i2, TT0, true_and, Bool.not_true, Bool.not_false, Bool.false_eq_true, if_false, if_true, dVar, dC, setT, setTs]
                  simp only [seqD]
                  refine comp_map (fun d => .bl (rowGo l.length d)) trivial _ (fun d hd k hk => ?_) ?_ ?_
                  · obtain ⟨i, r, rfl, hr⟩ := enum_mem (n := 0) hd
                    have hr2 := he r hr
                    simp only [dSeq, dIfS, dTst, dTru, dNot, dAnd, dOr, dAndV, dOrV, dNotV, dRet, dRetN, dDrop, dAsg, dNext, dBreak, dCont, dVar, getS, dC, dOp, dChain, dF1, dF2, dCall, dCons, dNil, dTup, dLst, dLstM, dIf, dNeg, uNeg, dLc, dLcM, dItr, dZip, dEnum, dRange1, dRange2, dFor, dPut, dAug, dPar2, dPar3, dSl, dPart, dNoPart, dM1, dM0, dCB, on1, isB, setT, setTs, dRaise, dMk, dYes, dLstRg, dRg1, wipeD, List.set, List.set]
                    refine ⟨hlZ, r, (l.length : Int), rfl, hr2, ?_⟩
                    have ek : rowGo l.length (.tup [.int (i : Int), r]) = (stRow (l.length : Int) r && !selfIn (i : Int) r) := rfl
                    rw [ek] at hk
                    cases hst : stRow (l.length : Int) r with
                    | false =>
                      rw [hst] at hk
                      simp only [getS, List.set, truD, isB, i2, TT0, true_and, Bool.not_true, Bool.not_false, Bool.false_eq_true, if_false, if_true, dVar, dC, setT, setTs]
                      exact hk
                    | true =>
                      rw [hst] at hk
                      simp only [getS, List.set, truD, isB, i2, TT0, true_and, Bool.not_true, Bool.not_false, Bool.false_eq_true, if_false, if_true, dVar, dC, setT, setTs]
                      obtain ⟨as, rfl⟩ : ∃ as, r = .tup as := by
                        cases r with
                        | tup as => exact ⟨as, rfl⟩
                        | _ => cases hst
                      have hst : (as.all (isNum · 0 ((l.length : Int) - 1)) && rising (as.map getI)) = true := hst
                      rw [Bool.and_eq_true] at hst
                      refine ⟨⟨shp 0 rfl, shp_tup 0 (nums_ok hst.1)⟩, ?_⟩
                      show k (.bl ((as.any fun z => PyData.eqv z.py (D.int (i : Int)).py) ^^ true)) G
                      rw [Bool.xor_true]
                      exact hk
                  · rw [enumL_len, sizeL]; unfold datL at hel; omega
                  · refine ⟨(enumL 0 es).map (rowGo l.length), by rw [List.map_map] <;> rfl, fin_ret ?_⟩
                    rw [netRows_all]
                    exact q
                · rw [show decide ((es.length : Int) = (l.length : Int)) = false by rw [decide_eq_false_iff_not]; omega]
                  rw [decide_eq_false hee] at q
                  simp only [getS, List.set, truD, isB, i2, TT0, true_and, Bool.not_true, Bool.not_false, Bool.false_eq_true, if_false, if_true, dVar, dC, setT, setTs]
                  exact fin_ret q
            · rw [show decide ((l.length : Int) ≤ 7) = false by rw [decide_eq_false_iff_not]; omega]
              simp only [getS, List.set, truD, isB, i2, TT0, true_and, Bool.not_true, Bool.not_false, Bool.false_eq_true, if_false, if_true, dVar, dC, setT, setTs]
              refine fin_ret ?_
              have e : netOk (.tup [.str l, y]) = false := by
                cases y with
                | tup es =>
                  show (_ && (_ && (decide (l.length ≤ 7) && _))) = false
                  rw [decide_eq_false h7]; simp
                | _ => rfl
              rw [e] at q
              exact q
          · rw [show decide ((1 : Int) ≤ (l.length : Int)) = false by rw [decide_eq_false_iff_not]; omega]
            simp only [getS, List.set, truD, isB, i2, TT0, true_and, Bool.not_true, Bool.not_false, Bool.false_eq_true, if_false, if_true, dVar, dC, setT, setTs]
            refine fin_ret ?_
            have e : netOk (.tup [.str l, y]) = false := by
              cases y with
              | tup es =>
                show (_ && (decide (1 ≤ l.length) && _)) = false
                rw [decide_eq_false h1]; simp
              | _ => rfl
            rw [e] at q
            exact q
    · have e3 : decide ((a.length : Int) = 2) = false := by
        rw [decide_eq_false_iff_not]
        omega
      rw [e3]
      simp only [getS, List.set, truD, isB, i2, TT0, true_and, Bool.not_true, Bool.not_false, Bool.false_eq_true, if_false, if_true, dVar, dC, setT, setTs]
      refine fin_ret ?_
      rw [netOk_two h2] at q
      exact q
theorem pure_check_net {C : Addr} (ds : List D) (G : GH) (Q : DK) (E : DXK) (h : sp_check_net C ds G Q E) : t_check_net C E (fnEnds Q) (startD N_check_net ds) G := by
  obtain ⟨d, rfl, hd, hs, h1, h2⟩ := h
  show t_check_net C E (fnEnds Q) [some d] G
  unfold t_check_net
  simp only [dSeq, dIfS, dTst, dTru, dNot, dAnd, dOr, dAndV, dOrV, dNotV, dRet, dRetN, dDrop, dAsg, dNext, dBreak, dCont, dVar, getS, dC, dOp, dChain, dF1, dF2, dCall, dCons, dNil, dTup, dLst, dLstM, dIf, dNeg, uNeg, dLc, dLcM, dItr, dZip, dEnum, dRange1, dRange2, dFor, dPut, dAug, dPar2, dPar3, dSl, dPart, dNoPart, dM1, dM0, dCB, on1, isB, setT, setTs, dRaise, dMk, dYes, dLstRg, dRg1, wipeD, List.set]
  exact ⟨d, rfl, hd, hs, _, _, rfl, fun e => fin_nx (h1 e), h2⟩
end KL


end

section
set_option Elab.async false
set_option linter.all false
set_option maxRecDepth 100000
set_option maxHeartbeats 1000000
open PySem PySem.Spec PyProof.Rows L2 DL
namespace KL
theorem rise_len : ∀ {l : List Nat} {b : Nat}, l.Pairwise (· < ·) → (∀ a ∈ l, 1 ≤ a ∧ a ≤ b) → l.length ≤ b
  | [], _, _, _ => Nat.zero_le _
  | a :: l, 0, _, h => by have := h a (by simp); omega
  | a :: l, b + 1, p, h => by
    cases p with
    | cons p1 p2 =>
      have : l.length ≤ b := by
        have e : l.length = (l.map (· - 1)).length := by rw [List.length_map]
        rw [e]
        refine rise_len (List.pairwise_map.mpr (List.Pairwise.imp_of_mem ?_ p2)) fun x hx => ?_
        · intro x y hx hy hxy
          have h1 := h x (by simp [hx])
          omega
        · obtain ⟨y, hy, rfl⟩ := List.mem_map.mp hx
          have h1 := h y (by simp [hy])
          have h2 := p1 y hy
          have h3 := h a (by simp)
          omega
      exact Nat.succ_le_succ this
/-- one round -/
theorem below_len {l : List Nat} {b : Nat} (h : l.Pairwise (· < ·)) (hb : ∀ a ∈ l, a < b) : l.length ≤ b := by
  have e : (l.map (· + 1)).length ≤ b := rise_len (List.pairwise_map.mpr (h.imp fun hh => by omega)) fun a ha => by
    obtain ⟨x, hx, rfl⟩ := List.mem_map.mp ha
    have := hb x hx
    omega
  simpa using e
theorem Good.len_row {N : Net} (h : Good N) (i : Nat) : (N.row i).length ≤ 7 := Nat.le_trans (below_len (h.ris i) fun a ha => (h.row i a ha).1) h.top
theorem Good.len_ear {N : Net} (h : Good N) : ∀ r ∈ N.ears, r.length ≤ 7 := fun r hr => by
  obtain ⟨i, hi, e⟩ := List.getElem_of_mem hr
  have := h.len_row i
  unfold Net.row at this
  rw [List.getD_eq_getElem?_getD, List.getElem?_eq_getElem hi] at this
  rw [← e]
  exact this
theorem row_at {N : Net} {i : Nat} (h : i < N.n) : (earsD N.ears)[i]? = some (.tup (natsD (N.row i))) := by
  unfold earsD
  rw [List.getElem?_map, List.getElem?_eq_getElem h]
  unfold Net.row
  rw [List.getD_eq_getElem?_getD, List.getElem?_eq_getElem h] <;> rfl
theorem links_len : ∀ (rs : List (List Nat)) (i : Nat), (∀ r ∈ rs, r.length ≤ 7) → (linksFrom i rs).length ≤ 7 * rs.length
  | [], _, _ => by simp [linksFrom]
  | r :: rs, i, h => by
    have h1 := h r (by simp)
    have h2 := links_len rs (i + 1) fun x hx => h x (by simp [hx])
    simp only [linksFrom, List.length_append, List.length_map, List.length_cons]
    omega
theorem Good.len_linksU {N : Net} (h : Good N) : (linksU N).length ≤ 49 := by
  have := links_len N.ears 0 h.len_ear
  have h7 : N.ears.length ≤ 7 := h.top
  unfold linksU
  omega
theorem Good.len_links {N : Net} (h : Good N) : (links N).length ≤ 49 := by
  unfold links
  rw [List.length_mergeSort]
  exact h.len_linksU
theorem links_sort (N : Net) : ((linksU N).map encP).mergeSort (PySem.W.dataLe false D.py) = (links N).map encP := (PySem.W.sort_maps encP fun a _ b _ => rfl).symm
theorem prs_dpt (L : List Pr) : ∀ d ∈ L.map encP, dpt 1 d = true := fun d hd => by
  obtain ⟨p, _, rfl⟩ := List.mem_map.mp hd
  rfl
theorem srt_prs {L : List Pr} (h : L.length ≤ 100000) : SrtOk (L.map encP) := by
  refine ⟨?_, .inl fun d hd => ?_, fun d hd => ?_, fun d hd => ?_, by rw [List.length_map, sizeL]; omega⟩
  · intro d hd d' hd'
    obtain ⟨x, hx, rfl⟩ := List.mem_map.mp hd
    obtain ⟨y, hy, rfl⟩ := List.mem_map.mp hd'
    obtain ⟨n, _, rfl⟩ := List.mem_map.mp hx
    obtain ⟨m, _, rfl⟩ := List.mem_map.mp hy
    simp [encP, D.py, pyL, PySem.W.alike, PySem.W.alikeAll]
  · obtain ⟨x, hx, rfl⟩ := List.mem_map.mp hd
    obtain ⟨n, _, rfl⟩ := List.mem_map.mp hx
    exact ⟨_, _, by simp [encP, D.py, pyL]; exact ⟨rfl, rfl⟩⟩
  · exact (dpt_ok 1 d (prs_dpt L d hd)).1
  · exact Nat.le_trans (dpt_ok 1 d (prs_dpt L d hd)).2 (by decide)
/-! ### all_links -/
theorem all_links_loop {C : Addr} {Ex : DXK} (E : DEnds) (p : Addr) (v0 : Option D) (G0 : GH) (n0 : G0 p = none) : ∀ (rs : List (List Nat)) (i : Nat) (acc : List Pr) (v2 v3 v4 : Option D) (G : GH), (∀ r ∈ rs, r.length ≤ 7) → acc.length + 7 * rs.length ≤ 1000 → Le G0 G → G p = some (.lst (acc.map encP)) →
    (∀ (v2 v3 v4 : Option D) (G' : GH), Le G0 G' → G' p = some (.lst ((acc ++ linksFrom i rs).map encP)) → E.nx [v0, some (.ref p), v2, v3, v4] G') →
    loopD yes0 (.tup [.name 2, .name 3]) (t_all_links_1 C Ex) E (enumL i (earsD rs)) [v0, some (.ref p), v2, v3, v4] G
  | [], i, acc, v2, v3, v4, G, _, _, l, hp, k => ⟨trivial, k _ _ _ G l (by simpa [linksFrom] using hp)⟩
  | r :: rs, i, acc, v2, v3, v4, G, h7, hl, l, hp, k => by
    have hr := h7 r (by simp)
    rw [List.length_cons] at hl
    refine ⟨trivial, ?_⟩
    show setT _ (.tup [.int ((i : Nat) : Int), .tup (natsD r)]) _ _
    unfold t_all_links_1
    simp only [dSeq, dIfS, dTst, dTru, dNot, dAnd, dOr, dAndV, dOrV, dNotV, dRet, dRetN, dDrop, dAsg, dNext, dBreak, dCont, dVar, getS, dC, dOp, dChain, dF1, dF2, dCall, dCons, dNil, dTup, dLst, dLstM, dIf, dNeg, uNeg, dLc, dLcM, dItr, dZip, dEnum, dRange1, dRange2, dFor, dPut, dAug, dPar2, dPar3, dSl, dPart, dNoPart, dM1, dM0, dCB, on1, isB, setT, setTs, dRaise, dMk, dYes, dLstRg, dRg1, wipeD, List.set, List.set]
    refine ownLR hp ?_
    simp only [itD]
    refine comp_each (fun n : Nat => .int (n : Int)) (fun n => encP (n, i)) r trivial (fun n _ k hk => ?_) (by rw [sizeL]; omega) ?_
    · simp only [dSeq, dIfS, dTst, dTru, dNot, dAnd, dOr, dAndV, dOrV, dNotV, dRet, dRetN, dDrop, dAsg, dNext, dBreak, dCont, dVar, getS, dC, dOp, dChain, dF1, dF2, dCall, dCons, dNil, dTup, dLst, dLstM, dIf, dNeg, uNeg, dLc, dLcM, dItr, dZip, dEnum, dRange1, dRange2, dFor, dPut, dAug, dPar2, dPar3, dSl, dPart, dNoPart, dM1, dM0, dCB, on1, isB, setT, setTs, dRaise, dMk, dYes, dLstRg, dRg1, wipeD, List.set, List.set]
      exact ⟨sm10 (by simp), hk⟩
    · refine getLR hp ?_
      simp only [asL]
      refine ⟨by rw [List.length_map, List.length_map, sizeL]; omega, ?_⟩
      have e : acc.map encP ++ r.map (fun n => encP (n, i)) = (acc ++ r.map fun x => (x, i)).map encP := by rw [List.map_append, List.map_map] <;> rfl
      rw [e]
      refine all_links_loop (C := C) (Ex := Ex) E p v0 G0 n0 rs (i + 1) _ _ _ _ _ (fun x hx => h7 x (by simp [hx])) (by rw [List.length_append, List.length_map]; omega) (l.put n0) updG_same fun v2 v3 v4 G' l' g => k v2 v3 v4 G' l' ?_
      rw [g, List.append_assoc] <;> rfl
theorem pure_all_links {C : Addr} (ds : List D) (G : GH) (Q : DK) (E : DXK) (h : sp_all_links ds G Q E) : t_all_links C E (fnEnds Q) (startD N_all_links ds) G := by
  obtain ⟨N, rfl, hG, q⟩ := h
  show t_all_links C E (fnEnds Q) [some (encN N), none, none, none, none] G
  unfold t_all_links
  simp only [dSeq, dIfS, dTst, dTru, dNot, dAnd, dOr, dAndV, dOrV, dNotV, dRet, dRetN, dDrop, dAsg, dNext, dBreak, dCont, dVar, getS, dC, dOp, dChain, dF1, dF2, dCall, dCons, dNil, dTup, dLst, dLstM, dIf, dNeg, uNeg, dLc, dLcM, dItr, dZip, dEnum, dRange1, dRange2, dFor, dPut, dAug, dPar2, dPar3, dSl, dPart, dNoPart, dM1, dM0, dCB, on1, isB, setT, setTs, dRaise, dMk, dYes, dLstRg, dRg1, wipeD, List.set]
  refine ⟨sm10 (by simp), fun p hp => ?_⟩
  refine ixT (i := 1) (d := .tup (earsD N.ears)) rfl ?_
  simp only [seqD]
  have h7 : N.ears.length ≤ 7 := hG.top
  refine all_links_loop (C := C) (Ex := E) _ p _ G hp N.ears 0 [] _ _ _ _ hG.len_ear (by simp; omega) ((Le.refl G).new hp) (by rw [updG_same] <;> rfl) fun v2 v3 v4 G' l g => ?_
  rw [List.nil_append] at g
  simp only [dSeq, dIfS, dTst, dTru, dNot, dAnd, dOr, dAndV, dOrV, dNotV, dRet, dRetN, dDrop, dAsg, dNext, dBreak, dCont, dVar, getS, dC, dOp, dChain, dF1, dF2, dCall, dCons, dNil, dTup, dLst, dLstM, dIf, dNeg, uNeg, dLc, dLcM, dItr, dZip, dEnum, dRange1, dRange2, dFor, dPut, dAug, dPar2, dPar3, dSl, dPart, dNoPart, dM1, dM0, dCB, on1, isB, setT, setTs, dRaise, dMk, dYes, dLstRg, dRg1, wipeD, List.set]
  have ea : asQ (.ref p) G' = some ((linksU N).map encP) := by
    show (match G' p with | some (.lst a) => some a | _ => none) = _
    rw [g] <;> rfl
  unfold sortF
  rw [ea]
  refine ⟨srt_prs (by have := hG.len_linksU; omega), ?_⟩
  rw [links_sort]
  exact fin_le l q
theorem law_links_loop {C : Addr} {Ex : DXK} (E : DEnds) {N : Net} (hG : Good N) (G : GH) : ∀ (m i : Nat) (acc : List Pr) (v2 v3 : Option D), i + m = N.n → acc.length + 7 * m ≤ 1000 →
    (∀ (v2 v3 : Option D), E.nx [some (encN N), some (.lst ((acc ++ linksFrom i (N.ears.drop i)).map encP)), v2, v3] G) →
    loopD yes0 (.name 2) (t__law_links_1 C Ex) E ((List.range' i m).map fun j => .int (j : Nat)) [some (encN N), some (.lst (acc.map encP)), v2, v3] G
  | 0, i, acc, v2, v3, hi, _, k => ⟨trivial, by
    have e : N.ears.drop i = [] := List.drop_eq_nil_of_le (by unfold Net.n at hi; omega)
    have := k v2 v3
    rw [e] at this
    simpa [linksFrom] using this⟩
  | m + 1, i, acc, v2, v3, hi, hl, k => by
    have hin : i < N.n := by omega
    have h7 := hG.len_row i
    rw [List.range'_succ, List.map_cons]
    refine ⟨trivial, ?_⟩
    unfold t__law_links_1
    simp only [dSeq, dIfS, dTst, dTru, dNot, dAnd, dOr, dAndV, dOrV, dNotV, dRet, dRetN, dDrop, dAsg, dNext, dBreak, dCont, dVar, getS, dC, dOp, dChain, dF1, dF2, dCall, dCons, dNil, dTup, dLst, dLstM, dIf, dNeg, uNeg, dLc, dLcM, dItr, dZip, dEnum, dRange1, dRange2, dFor, dPut, dAug, dPar2, dPar3, dSl, dPart, dNoPart, dM1, dM0, dCB, on1, isB, setT, setTs, dRaise, dMk, dYes, dLstRg, dRg1, wipeD, List.set, List.set]
    refine ixT (i := 1) (d := .tup (earsD N.ears)) rfl ?_
    refine ixT (L2.atI_nat (row_at hin)) ?_
    simp only [itD]
    refine comp_each (fun n : Nat => .int (n : Int)) (fun n => encP (n, i)) (N.row i) trivial (fun n _ k hk => ?_) (by rw [sizeL]; omega) ?_
    · simp only [dSeq, dIfS, dTst, dTru, dNot, dAnd, dOr, dAndV, dOrV, dNotV, dRet, dRetN, dDrop, dAsg, dNext, dBreak, dCont, dVar, getS, dC, dOp, dChain, dF1, dF2, dCall, dCons, dNil, dTup, dLst, dLstM, dIf, dNeg, uNeg, dLc, dLcM, dItr, dZip, dEnum, dRange1, dRange2, dFor, dPut, dAug, dPar2, dPar3, dSl, dPart, dNoPart, dM1, dM0, dCB, on1, isB, setT, setTs, dRaise, dMk, dYes, dLstRg, dRg1, wipeD, List.set, List.set]
      exact ⟨sm10 (by simp), hk⟩
    · simp only [addD, catD, asL]
      refine ⟨by rw [List.length_map, List.length_map, sizeL]; omega, ?_⟩
      have e : acc.map encP ++ (N.row i).map (fun n => encP (n, i)) = (acc ++ (N.row i).map fun x => (x, i)).map encP := by rw [List.map_append, List.map_map] <;> rfl
      rw [e]
      refine law_links_loop (C := C) (Ex := Ex) E hG G m (i + 1) _ _ _ (by omega) (by rw [List.length_append, List.length_map]; omega) fun v2 v3 => ?_
      have hin2 : i < N.ears.length := hin
      have e2 : N.ears.drop i = N.row i :: N.ears.drop (i + 1) := by
        rw [List.drop_eq_getElem_cons hin2]
        unfold Net.row
        rw [List.getD_eq_getElem?_getD, List.getElem?_eq_getElem hin2] <;> rfl
      have := k v2 v3
      rw [e2] at this
      rw [List.append_assoc]
      exact this
theorem lab_len {N : Net} (hG : Good N) : N.lab.length ≤ 7 := by rw [hG.len]; exact hG.top
theorem lenLab {N : Net} (hG : Good N) {G : GH} {Q : DK} (q : Q (.int (N.n : Int)) G) : lenF (.str N.lab) G Q := by
  have := lab_len hG
  refine ⟨by rw [sizeL]; omega, ?_⟩
  rw [hG.len]
  exact q
theorem rgD_range (n : Nat) : rgD 0 n = (List.range' 0 n).map fun j => .int (j : Nat) := by
  rw [rgD_nats, List.range_eq_range'] <;> rfl
theorem pure__law_links {C : Addr} (ds : List D) (G : GH) (Q : DK) (E : DXK) (h : sp__law_links ds G Q E) : t__law_links C E (fnEnds Q) (startD N__law_links ds) G := by
  obtain ⟨N, rfl, hG, q⟩ := h
  show t__law_links C E (fnEnds Q) [some (encN N), none, none, none] G
  unfold t__law_links
  simp only [dSeq, dIfS, dTst, dTru, dNot, dAnd, dOr, dAndV, dOrV, dNotV, dRet, dRetN, dDrop, dAsg, dNext, dBreak, dCont, dVar, getS, dC, dOp, dChain, dF1, dF2, dCall, dCons, dNil, dTup, dLst, dLstM, dIf, dNeg, uNeg, dLc, dLcM, dItr, dZip, dEnum, dRange1, dRange2, dFor, dPut, dAug, dPar2, dPar3, dSl, dPart, dNoPart, dM1, dM0, dCB, on1, isB, setT, setTs, dRaise, dMk, dYes, dLstRg, dRg1, wipeD, List.set]
  refine ⟨sm10 (by simp), ?_⟩
  refine ixT (i := 0) (d := .str N.lab) rfl ?_
  refine lenLab hG ?_
  have h7 := hG.top
  refine ⟨⟨by omega, by omega⟩, ?_⟩
  rw [Int.toNat_natCast, rgD_range]
  refine law_links_loop (C := C) (Ex := E) _ hG G N.n 0 [] _ _ (by omega) (by simp; omega) fun v2 v3 => ?_
  simp only [dSeq, dIfS, dTst, dTru, dNot, dAnd, dOr, dAndV, dOrV, dNotV, dRet, dRetN, dDrop, dAsg, dNext, dBreak, dCont, dVar, getS, dC, dOp, dChain, dF1, dF2, dCall, dCons, dNil, dTup, dLst, dLstM, dIf, dNeg, uNeg, dLc, dLcM, dItr, dZip, dEnum, dRange1, dRange2, dFor, dPut, dAug, dPar2, dPar3, dSl, dPart, dNoPart, dM1, dM0, dCB, on1, isB, setT, setTs, dRaise, dMk, dYes, dLstRg, dRg1, wipeD, List.set]
  have ea : asQ (.lst ((([] : List Pr) ++ linksFrom 0 (N.ears.drop 0)).map encP)) G = some ((linksU N).map encP) := rfl
  unfold sortF
  rw [ea]
  refine ⟨srt_prs (by have := hG.len_linksU; omega), ?_⟩
  rw [links_sort]
  exact fin_ret q
end KL


end

section
set_option Elab.async false
set_option linter.all false
set_option maxRecDepth 100000
set_option maxHeartbeats 1000000
open PySem PySem.Spec PyProof.Rows L2 DL
namespace KL
/-! ### hearing -/
theorem eqNats {neg : Bool} {a b : List Nat} {G : GH} {Q : DK} (q : Q (.bl (decide (a = b) ^^ neg)) G) : eqQ neg (.lst (natsD a)) (.lst (natsD b)) G Q := by
  unfold eqQ
  rw [eqS_lst]
  refine ⟨⟨shp_list 0 (nats_dpt a), shp_list 0 (nats_dpt b)⟩, ?_⟩
  show Q (.bl (PyData.eqv (D.lst (natsD a)).py (D.lst (natsD b)).py ^^ neg)) G
  rw [eqv_nats]
  exact q
theorem eqNil {neg : Bool} {a : List Nat} {G : GH} {Q : DK} (q : Q (.bl (decide (a = []) ^^ neg)) G) : eqQ neg (.lst (natsD a)) (.lst []) G Q := eqNats (b := []) q
/-- whom st hears of those that send -/
def those (N : Net) (st : Nat) (S : List Nat) : List Nat := (N.row st).filter fun o => decide (o ∈ S)
theorem hears_ne {N : Net} {st : Nat} {S : List Nat} (h : st ∉ S) : hears N st S = match those N st S with
  | [] => -1
  | [x] => (x : Int)
  | _ => -2 := if_neg h
theorem pure_heard_by {C : Addr} (ds : List D) (G : GH) (Q : DK) (E : DXK) (h : sp_heard_by ds G Q E) : t_heard_by C E (fnEnds Q) (startD N_heard_by ds) G := by
  obtain ⟨N, st, S, rfl, hG, hst, hS, q⟩ := h
  show t_heard_by C E (fnEnds Q) [some (encN N), some (.int (st : Int)), some (.tup (natsD S)), none, none] G
  unfold t_heard_by
  simp only [dSeq, dIfS, dTst, dTru, dNot, dAnd, dOr, dAndV, dOrV, dNotV, dRet, dRetN, dDrop, dAsg, dNext, dBreak, dCont, dVar, getS, dC, dOp, dChain, dF1, dF2, dCall, dCons, dNil, dTup, dLst, dLstM, dIf, dNeg, uNeg, dLc, dLcM, dItr, dZip, dEnum, dRange1, dRange2, dFor, dPut, dAug, dPar2, dPar3, dSl, dPart, dNoPart, dM1, dM0, dCB, on1, isB, setT, setTs, dRaise, dMk, dYes, dLstRg, dRg1, wipeD, List.set]
  refine inT ?_
  rw [Bool.xor_false]
  simp only [isB]
  by_cases hm : st ∈ S
  · rw [decide_eq_true hm, if_pos rfl]
    refine fin_ret ?_
    have e : hears N st S = -3 := if_pos hm
    rw [e] at q
    exact q
  · rw [decide_eq_false hm, if_neg Bool.false_ne_true]
    rw [hears_ne hm] at q
    refine ixT (i := 1) (d := .tup (earsD N.ears)) rfl ?_
    refine ixT (L2.atI_nat (row_at hst)) ?_
    simp only [itD]
    have h7 := hG.len_row st
    refine comp_enc (fun n : Nat => .int (n : Int)) (fun o => decide (o ∈ S)) (fun n => .int (n : Int)) (N.row st) trivial (fun n _ k k0 h1 h2 => ?_) (by rw [sizeL]; omega) ?_
    · simp only [dSeq, dIfS, dTst, dTru, dNot, dAnd, dOr, dAndV, dOrV, dNotV, dRet, dRetN, dDrop, dAsg, dNext, dBreak, dCont, dVar, getS, dC, dOp, dChain, dF1, dF2, dCall, dCons, dNil, dTup, dLst, dLstM, dIf, dNeg, uNeg, dLc, dLcM, dItr, dZip, dEnum, dRange1, dRange2, dFor, dPut, dAug, dPar2, dPar3, dSl, dPart, dNoPart, dM1, dM0, dCB, on1, isB, setT, setTs, dRaise, dMk, dYes, dLstRg, dRg1, wipeD, List.set, List.set]
      refine inT ?_
      rw [Bool.xor_false]
      cases hd : decide (n ∈ S) with
      | true => simp only [isB, if_true]; exact h1 hd
      | false => simp only [isB, Bool.false_eq_true, if_false]; exact h2 hd
    · have hl : (those N st S).length ≤ 7 := Nat.le_trans (List.length_filter_le _ _) h7
      have eg : ((N.row st).filter fun o => decide (o ∈ S)) = those N st S := rfl
      simp only [eg]
      refine lenL (eqI ?_)
      rw [List.length_map]
      generalize those N st S = f at q hl ⊢
      match f with
      | [] =>
        rw [show decide ((([] : List Nat).length : Int) = 1) = false from rfl]
        simp only [getS, List.set, truD, isB, i2, TT0, true_and, Bool.not_true, Bool.not_false, Bool.false_eq_true, if_false, if_true, dVar, dC, setT, setTs, List.map_nil, List.isEmpty_nil]
        exact fin_ret q
      | [x] =>
        rw [show decide ((([x] : List Nat).length : Int) = 1) = true from rfl]
        simp only [getS, List.set, truD, isB, i2, TT0, true_and, Bool.not_true, Bool.not_false, Bool.false_eq_true, if_false, if_true, dVar, dC, setT, setTs]
        exact ixL (a := [.int (x : Int)]) (i := 0) (d := .int (x : Int)) rfl (fin_ret q)
      | x :: y :: r =>
        rw [show decide (((x :: y :: r).length : Int) = 1) = false by rw [decide_eq_false_iff_not]; simp; omega]
        simp only [getS, List.set, truD, isB, i2, TT0, true_and, Bool.not_true, Bool.not_false, Bool.false_eq_true, if_false, if_true, dVar, dC, setT, setTs, List.map_cons, List.isEmpty_cons]
        exact fin_ret q
theorem inTL {neg : Bool} {l : List Nat} {x : Nat} {d : D} {G : GH} {Q : DK} (h : d = .lst (natsD l) ∨ d = .tup (natsD l)) (q : Q (.bl (decide (x ∈ l) ^^ neg)) G) : inQ neg (.int (x : Int)) d G Q := by
  rcases h with rfl | rfl
  · exact inL q
  · exact inT q
theorem pure__law_hears {C : Addr} (ds : List D) (G : GH) (Q : DK) (E : DXK) (h : sp__law_hears ds G Q E) : t__law_hears C E (fnEnds Q) (startD N__law_hears ds) G := by
  obtain ⟨N, st, S, d, rfl, hd, hG, hst, hS, q⟩ := h
  show t__law_hears C E (fnEnds Q) [some (encN N), some (.int (st : Int)), some d, none, none] G
  unfold t__law_hears
  simp only [dSeq, dIfS, dTst, dTru, dNot, dAnd, dOr, dAndV, dOrV, dNotV, dRet, dRetN, dDrop, dAsg, dNext, dBreak, dCont, dVar, getS, dC, dOp, dChain, dF1, dF2, dCall, dCons, dNil, dTup, dLst, dLstM, dIf, dNeg, uNeg, dLc, dLcM, dItr, dZip, dEnum, dRange1, dRange2, dFor, dPut, dAug, dPar2, dPar3, dSl, dPart, dNoPart, dM1, dM0, dCB, on1, isB, setT, setTs, dRaise, dMk, dYes, dLstRg, dRg1, wipeD, List.set]
  refine inTL hd ?_
  rw [Bool.xor_false]
  simp only [isB]
  by_cases hm : st ∈ S
  · rw [decide_eq_true hm, if_pos rfl]
    refine fin_ret ?_
    have e : hears N st S = -3 := if_pos hm
    rw [e] at q
    exact q
  · rw [decide_eq_false hm, if_neg Bool.false_ne_true]
    rw [hears_ne hm] at q
    refine ixT (i := 1) (d := .tup (earsD N.ears)) rfl ?_
    refine ixT (L2.atI_nat (row_at hst)) ?_
    simp only [itD]
    have h7 := hG.len_row st
    refine comp_enc (fun n : Nat => .int (n : Int)) (fun o => decide (o ∈ S)) (fun n => .int (n : Int)) (N.row st) trivial (fun n _ k k0 h1 h2 => ?_) (by rw [sizeL]; omega) ?_
    · simp only [dSeq, dIfS, dTst, dTru, dNot, dAnd, dOr, dAndV, dOrV, dNotV, dRet, dRetN, dDrop, dAsg, dNext, dBreak, dCont, dVar, getS, dC, dOp, dChain, dF1, dF2, dCall, dCons, dNil, dTup, dLst, dLstM, dIf, dNeg, uNeg, dLc, dLcM, dItr, dZip, dEnum, dRange1, dRange2, dFor, dPut, dAug, dPar2, dPar3, dSl, dPart, dNoPart, dM1, dM0, dCB, on1, isB, setT, setTs, dRaise, dMk, dYes, dLstRg, dRg1, wipeD, List.set, List.set]
      refine inTL hd ?_
      rw [Bool.xor_false]
      cases hn : decide (n ∈ S) with
      | true => simp only [isB, if_true]; exact h1 hn
      | false => simp only [isB, Bool.false_eq_true, if_false]; exact h2 hn
    · have hl : (those N st S).length ≤ 7 := Nat.le_trans (List.length_filter_le _ _) h7
      refine ⟨sm10 (by simp), ?_⟩
      show eqQ false (.lst (natsD (those N st S))) (.lst []) _ _
      refine eqNil ?_
      rw [Bool.xor_false]
      have eg : ((N.row st).filter fun o => decide (o ∈ S)) = those N st S := rfl
      simp only [eg]
      generalize those N st S = f at q hl ⊢
      match f with
      | [] =>
        simp only [getS, List.set, truD, isB, i2, TT0, true_and, Bool.not_true, Bool.not_false, Bool.false_eq_true, if_false, if_true, dVar, dC, setT, setTs]
        exact fin_ret q
      | [x] =>
        rw [show decide (([x] : List Nat) = []) = false from rfl]
        simp only [getS, List.set, truD, isB, i2, TT0, true_and, Bool.not_true, Bool.not_false, Bool.false_eq_true, if_false, if_true, dVar, dC, setT, setTs]
        refine lenL (eqI ?_)
        rw [List.length_map]
        simp only [getS, List.set, truD, isB, i2, TT0, true_and, Bool.not_true, Bool.not_false, Bool.false_eq_true, if_false, if_true, dVar, dC, setT, setTs]
        exact ixL (a := [.int (x : Int)]) (i := 0) (d := .int (x : Int)) rfl (fin_ret q)
      | x :: y :: r =>
        rw [show decide ((x :: y :: r : List Nat) = []) = false from rfl]
        simp only [getS, List.set, truD, isB, i2, TT0, true_and, Bool.not_true, Bool.not_false, Bool.false_eq_true, if_false, if_true, dVar, dC, setT, setTs]
        refine lenL (eqI ?_)
        rw [List.length_map]
        rw [show decide (((x :: y :: r).length : Int) = 1) = false by rw [decide_eq_false_iff_not]; simp; omega]
        simp only [getS, List.set, truD, isB, i2, TT0, true_and, Bool.not_true, Bool.not_false, Bool.false_eq_true, if_false, if_true, dVar, dC, setT, setTs]
        exact fin_ret q
/-! ### links and members -/
theorem linkFrom_mem : ∀ (rs : List (List Nat)) (i : Nat) (p : Pr), p ∈ linksFrom i rs ↔ ∃ j, j < rs.length ∧ p.2 = i + j ∧ p.1 ∈ rs.getD j []
  | [], i, p => by simp [linksFrom]
  | r :: rs, i, p => by
    rw [linksFrom, List.mem_append, linkFrom_mem rs (i + 1) p]
    constructor
    · rintro (h | ⟨j, h1, h2, h3⟩)
      · obtain ⟨x, hx, rfl⟩ := List.mem_map.mp h
        exact ⟨0, by simp, rfl, by simpa using hx⟩
      · exact ⟨j + 1, by simp; omega, by omega, by simpa using h3⟩
    · rintro ⟨j, h1, h2, h3⟩
      cases j with
      | zero =>
        refine .inl (List.mem_map.mpr ⟨p.1, by simpa using h3, ?_⟩)
        obtain ⟨a, b⟩ := p
        simp at h2
        rw [h2]
      | succ j => exact .inr ⟨j, by simp at h1; omega, by omega, by simpa using h3⟩
theorem link_mem {N : Net} {p : Pr} : p ∈ links N ↔ p.2 < N.n ∧ p.1 ∈ N.row p.2 := by
  unfold links
  rw [List.mem_mergeSort]
  unfold linksU
  rw [linkFrom_mem]
  constructor
  · rintro ⟨j, h1, h2, h3⟩
    have e : p.2 = j := by omega
    rw [e]
    exact ⟨h1, h3⟩
  · rintro ⟨h1, h2⟩
    exact ⟨p.2, h1, by omega, h2⟩
theorem Good.link {N : Net} (h : Good N) {p : Pr} (hp : p ∈ links N) : p.1 < N.n ∧ p.2 < N.n ∧ p.1 ∈ N.row p.2 ∧ p.1 ≠ p.2 := by
  obtain ⟨h1, h2⟩ := link_mem.mp hp
  exact ⟨(h.row _ _ h2).1, h1, h2, (h.row _ _ h2).2⟩
theorem pure__law_clear {C : Addr} (ds : List D) (G : GH) (Q : DK) (E : DXK) (h : sp__law_clear ds G Q E) : t__law_clear C E (fnEnds Q) (startD N__law_clear ds) G := by
  obtain ⟨N, S, rfl, hG, hS, q⟩ := h
  show t__law_clear C E (fnEnds Q) [some (encN N), some (.lst (natsD S)), none, none] G
  unfold t__law_clear
  simp only [dSeq, dIfS, dTst, dTru, dNot, dAnd, dOr, dAndV, dOrV, dNotV, dRet, dRetN, dDrop, dAsg, dNext, dBreak, dCont, dVar, getS, dC, dOp, dChain, dF1, dF2, dCall, dCons, dNil, dTup, dLst, dLstM, dIf, dNeg, uNeg, dLc, dLcM, dItr, dZip, dEnum, dRange1, dRange2, dFor, dPut, dAug, dPar2, dPar3, dSl, dPart, dNoPart, dM1, dM0, dCB, on1, isB, setT, setTs, dRaise, dMk, dYes, dLstRg, dRg1, wipeD, List.set]
  refine ⟨N, rfl, hG, ?_⟩
  simp only [itD]
  have h49 := hG.len_links
  refine comp_enc encP (fun p => decide (hears N p.2 S = (p.1 : Int))) encP (links N) trivial (fun p hp k k0 h1 h2 => ?_) (by rw [sizeL]; omega) (fin_ret q)
  obtain ⟨l1, l2, l3, l4⟩ := hG.link hp
  show setT _ (.tup [.int (p.1 : Int), .int (p.2 : Int)]) _ _
  simp only [dSeq, dIfS, dTst, dTru, dNot, dAnd, dOr, dAndV, dOrV, dNotV, dRet, dRetN, dDrop, dAsg, dNext, dBreak, dCont, dVar, getS, dC, dOp, dChain, dF1, dF2, dCall, dCons, dNil, dTup, dLst, dLstM, dIf, dNeg, uNeg, dLc, dLcM, dItr, dZip, dEnum, dRange1, dRange2, dFor, dPut, dAug, dPar2, dPar3, dSl, dPart, dNoPart, dM1, dM0, dCB, on1, isB, setT, setTs, dRaise, dMk, dYes, dLstRg, dRg1, wipeD, List.set, List.set]
  refine ⟨N, p.2, S, _, rfl, .inl rfl, hG, l2, hS, eqI ?_⟩
  cases hd : decide (hears N p.2 S = (p.1 : Int)) with
  | true =>
    simp only [isB, if_true]
    exact ⟨sm10 (by simp), h1 hd⟩
  | false => simp only [isB, Bool.false_eq_true, if_false]; exact h2 hd
/-! ### pairs -/
theorem eqv_prs (p r : Pr) : PyData.eqv (encP r).py (encP p).py = decide (r = p) := by
  obtain ⟨a, b⟩ := p
  obtain ⟨c, d⟩ := r
  have e : PyData.eqv (encP (c, d)).py (encP (a, b)).py = (PyData.eqv (D.int (c : Int)).py (D.int (a : Int)).py && PyData.eqv (D.int (d : Int)).py (D.int (b : Int)).py) := by
    simp [encP, D.py, pyL, PyData.eqv, PyData.eqvAll]
  rw [e, eqv_int, eqv_int]
  by_cases h1 : c = a
  · by_cases h2 : d = b
    · subst h1 h2; simp
    · have h3 : ¬((d : Int) = (b : Int)) := by omega
      simp [h2, h3]
  · have h3 : ¬((c : Int) = (a : Int)) := by omega
    simp [h1, h3]
theorem any_prs (L : List Pr) (p : Pr) : ((L.map encP).any fun z => PyData.eqv z.py (encP p).py) = decide (p ∈ L) := by
  induction L with
  | nil => rfl
  | cons a L ih =>
    rw [List.map_cons, List.any_cons, ih, eqv_prs]
    by_cases h : a = p
    · subst h; simp
    · have h3 : ¬(p = a) := fun e => h e.symm
      simp [h, h3]
theorem inPT {neg : Bool} {L : List Pr} {p : Pr} {G : GH} {Q : DK} (q : Q (.bl (decide (p ∈ L) ^^ neg)) G) : inQ neg (encP p) (.tup (L.map encP)) G Q := by
  refine ⟨⟨shp 1 rfl, shp_tup 1 (prs_dpt L)⟩, ?_⟩
  show Q (.bl (((L.map encP).any fun z => PyData.eqv z.py (encP p).py) ^^ neg)) G
  rw [any_prs]
  exact q
theorem inPL {neg : Bool} {L : List Pr} {p : Pr} {G : GH} {Q : DK} (q : Q (.bl (decide (p ∈ L) ^^ neg)) G) : inQ neg (encP p) (.lst (L.map encP)) G Q := by
  refine ⟨⟨shp 1 rfl, shp_list 1 (prs_dpt L)⟩, ?_⟩
  show Q (.bl (((L.map encP).any fun z => PyData.eqv z.py (encP p).py) ^^ neg)) G
  rw [any_prs]
  exact q
end KL


end

section
set_option Elab.async false
set_option linter.all false
set_option maxRecDepth 100000
set_option maxHeartbeats 1000000
open PySem PySem.Spec PyProof.Rows L2 DL
namespace KL
/-! ### a net that is one -/
theorem rows_ok {many : Nat} : ∀ (rs : List (List Nat)) (i : Nat), (∀ j, j < rs.length → (∀ x ∈ rs.getD j [], x < many ∧ x ≠ i + j) ∧ (rs.getD j []).Pairwise (· < ·)) → netRows many i (earsD rs) = true
  | [], _, _ => rfl
  | r :: rs, i, h => by
    have h0 := h 0 (by simp)
    have h0a : ∀ x ∈ r, x < many ∧ x ≠ i := h0.1
    have h0b : r.Pairwise (· < ·) := h0.2
    show ((stRow (many : Int) (.tup (natsD r)) && !selfIn (i : Int) (.tup (natsD r))) && netRows many (i + 1) (earsD rs)) = true
    rw [rows_ok rs (i + 1) fun j hj => ?_]
    · have e1 : stRow (many : Int) (.tup (natsD r)) = true := by
        show ((natsD r).all (isNum · 0 ((many : Int) - 1)) && rising ((natsD r).map getI)) = true
        rw [rising_nats h0b, Bool.and_true, List.all_eq_true]
        intro d hd
        obtain ⟨x, hx, rfl⟩ := List.mem_map.mp hd
        have := (h0a x hx).1
        show (decide ((0 : Int) ≤ (x : Int)) && decide ((x : Int) ≤ (many : Int) - 1)) = true
        rw [Bool.and_eq_true, decide_eq_true_eq, decide_eq_true_eq]
        omega
      have e2 : selfIn (i : Int) (.tup (natsD r)) = false := by
        show ((natsD r).any fun z => PyData.eqv z.py (D.int (i : Int)).py) = false
        rw [any_nats, decide_eq_false_iff_not]
        intro hi
        exact (h0a i hi).2 rfl
      rw [e1, e2] <;> rfl
    · have := h (j + 1) (by simp; omega)
      refine ⟨fun x hx => ?_, by simpa using this.2⟩
      have := this.1 x (by simpa using hx)
      omega
theorem Good.netOk {N : Net} (h : Good N) : netOk (encN N) = true := by
  have e : earsD N.ears = earsD N.ears := rfl
  show (N.lab.cps.toList.all isLet && (decide (1 ≤ N.lab.length) && (decide (N.lab.length ≤ 7) && (decide ((earsD N.ears).length = N.lab.length) && netRows N.lab.length 0 (earsD N.ears))))) = true
  have hl := h.len
  have h1 := h.one
  have h7 := h.top
  have el : (earsD N.ears).length = N.n := by unfold earsD Net.n; rw [List.length_map]
  rw [h.lab, decide_eq_true (show 1 ≤ N.lab.length by omega), decide_eq_true (show N.lab.length ≤ 7 by omega), decide_eq_true (show (earsD N.ears).length = N.lab.length by omega)]
  simp only [Bool.true_and]
  refine rows_ok N.ears 0 fun j hj => ⟨fun x hx => ?_, h.ris j⟩
  have := h.row j x hx
  rw [hl]
  omega
theorem Good.dat {N : Net} (h : Good N) : dat 3 (encN N) = true := by
  have h7 := h.top
  refine dat_tupI (by simp [datL]) fun d hd => ?_
  simp only [List.mem_cons, List.not_mem_nil, or_false] at hd
  rcases hd with rfl | rfl
  · rfl
  · refine dat_tupI (by unfold earsD; rw [List.length_map]; unfold datL; unfold Net.n at h7; omega) fun d hd => ?_
    obtain ⟨r, hr, rfl⟩ := List.mem_map.mp hd
    have := h.len_ear r hr
    exact dat_tupI (by rw [natsD_len]; unfold datL; omega) dat_nats
theorem Good.str {N : Net} (h : Good N) : StrS (encN N) := fun x y e => by
  unfold encN at e
  injection e with e
  injection e with e1 e2
  injection e1 with e1
  have := lab_len h
  rw [← e1]
  unfold datL
  omega
theorem checkG {C : Addr} {N : Net} (h : Good N) {G : GH} {Q : DK} {E : DXK} (q : Q .non G) : sp_check_net C [encN N] G Q E := ⟨encN N, rfl, h.dat, h.str, fun _ => q, fun e => by rw [h.netOk] at e; cases e⟩
theorem checkB {C : Addr} {d : D} (hd : dat 3 d = true ∧ StrS d) (hn : netOk d = false) {G : GH} {Q : DK} {E : DXK} (q : E (bad C "net") G) : sp_check_net C [d] G Q E := ⟨d, rfl, hd.1, hd.2, (fun e => absurd (hn.symm.trans e) Bool.false_ne_true), fun _ => q⟩
end KL


end

section
set_option Elab.async false
set_option linter.all false
set_option maxRecDepth 100000
set_option maxHeartbeats 1000000
open PySem PySem.Spec PyProof.Rows L2 DL
namespace KL
theorem range_pw (n : Nat) : (List.range n).Pairwise (· < ·) := List.pairwise_lt_range
/-! ### walking while the row moves on -/
theorem comp_st {I : GH → Prop} {ok : D → Prop} {gd : GH → Prop} {tg : Tg} {tt : DT} {te : DE} {ρ : DSt} {Q : List D → GH → Prop} (hgd : ∀ G, I G → gd G) : ∀ (ds acc : List D) (G : GH), I G →
    (∀ d ∈ ds, ∀ G, I G → ∀ (k : DK) (k0 : GH → Prop), (∀ y G', ok y → I G' → k y G') → (∀ G', I G' → k0 G') → setT tg d ρ fun ρ1 => tt ρ1 G fun b G1 => if b = true then te ρ1 G1 k else k0 G1) →
    acc.length + ds.length ≤ sizeLine → (∀ (ys : List D) (G' : GH), ys.length ≤ ds.length → (∀ y ∈ ys, ok y) → I G' → Q (acc ++ ys) G') → compD gd tg tt te ρ Q ds acc G
  | [], acc, G, hI, _, _, q => ⟨hgd G hI, by simpa using q [] G (by simp) (by simp) hI⟩
  | d :: ds, acc, G, hI, h, hl, q => by
    rw [List.length_cons] at hl
    refine ⟨hgd G hI, h d (by simp) G hI _ _ (fun y G' hy hI' => ⟨by omega, comp_st hgd ds _ G' hI' (fun e he => h e (by simp [he])) (by rw [List.length_append]; simp; omega) fun ys G2 hys hok hI2 => ?_⟩) fun G' hI' => comp_st hgd ds _ G' hI' (fun e he => h e (by simp [he])) (by omega) fun ys G2 hys hok hI2 => q ys G2 (by rw [List.length_cons]; omega) hok hI2⟩
    have := q (y :: ys) G2 (by simp; omega) (fun z hz => by
      rcases List.mem_cons.mp hz with e | hz
      · rw [e]; exact hy
      · exact hok z hz) hI2
    simpa using this
theorem comp_stY {I : GH → Prop} {ok : D → Prop} {gd : GH → Prop} {tg : Tg} {te : DE} {ρ : DSt} {Q : List D → GH → Prop} (hgd : ∀ G, I G → gd G) : ∀ (ds acc : List D) (G : GH), I G →
    (∀ d ∈ ds, ∀ G, I G → ∀ (k : DK), (∀ y G', ok y → I G' → k y G') → setT tg d ρ fun ρ1 => te ρ1 G k) →
    acc.length + ds.length ≤ sizeLine → (∀ (ys : List D) (G' : GH), ys.length = ds.length → (∀ y ∈ ys, ok y) → I G' → Q (acc ++ ys) G') → compD gd tg dYes te ρ Q ds acc G
  | [], acc, G, hI, _, _, q => ⟨hgd G hI, by simpa using q [] G (by simp) (by simp) hI⟩
  | d :: ds, acc, G, hI, h, hl, q => by
    rw [List.length_cons] at hl
    refine ⟨hgd G hI, ?_⟩
    have := h d (by simp) G hI (fun y G2 => acc.length < sizeLine ∧ compD gd tg dYes te ρ Q ds (acc ++ [y]) G2) (fun y G' hy hI' => ⟨by omega, comp_stY hgd ds _ G' hI' (fun e he => h e (by simp [he])) (by rw [List.length_append]; simp; omega) fun ys G2 hys hok hI2 => ?_⟩)
    · simpa [dYes] using this
    · have := q (y :: ys) G2 (by simp; omega) (fun z hz => by
        rcases List.mem_cons.mp hz with e | hz
        · rw [e]; exact hy
        · exact hok z hz) hI2
      simpa using this
/-! ### what stands while a list is made beside the row -/
theorem le_upd {A B : GH} (l : Le A B) {p : Addr} {o : GO} : Le (updG A p o) (updG B p o) := fun a u e => by
  by_cases h : a = p
  · subst h
    rw [updG_same] at e ⊢
    exact e
  · rw [updG_ne h] at e ⊢
    exact l a u e
/-- the row moved on over G; all else of G stands -/
def On (G : GH) (p : Addr) (xs : Scr) (G1 : GH) : Prop := ∃ at_ a b, Le (updG G p (rowG xs at_ a b)) G1
theorem On.row {G G1 : GH} {p : Addr} {xs : Scr} (h : On G p xs G1) : Row xs G1 p := by
  obtain ⟨at_, a, b, l⟩ := h
  exact ⟨at_, a, b, l p _ updG_same⟩
theorem On.start {G : GH} {p : Addr} {xs : Scr} (h : Row xs G p) : On G p xs G := by
  obtain ⟨at_, a, b, g⟩ := h
  exact ⟨at_, a, b, by rw [row_self g]; exact Le.refl G⟩
theorem On.put {G G1 : GH} {p : Addr} {xs : Scr} (h : On G p xs G1) {at_ : Nat} {a b : Int} : On G p xs (updG G1 p (rowG xs at_ a b)) := by
  obtain ⟨at0, a0, b0, l⟩ := h
  refine ⟨at_, a, b, ?_⟩
  have := le_upd l (p := p) (o := rowG xs at_ a b)
  rw [updG_updG] at this
  exact this
theorem On.none {G G1 : GH} {p f : Addr} {xs : Scr} (h : On G p xs G1) (hf : G1 f = Option.none) : f ≠ p ∧ ∀ at_ a b, (updG G p (rowG xs at_ a b)) f = Option.none := by
  obtain ⟨at0, a0, b0, l⟩ := h
  have n := l.none hf
  have hne : f ≠ p := fun e => by rw [e, updG_same] at n; cases n
  refine ⟨hne, fun at_ a b => ?_⟩
  rw [updG_ne hne] at n ⊢
  exact n
theorem On.new {G G1 : GH} {p f : Addr} {xs : Scr} {o : GO} (h : On G p xs G1) (hf : G1 f = Option.none) : On G p xs (updG G1 f o) := by
  obtain ⟨at0, a0, b0, l⟩ := h
  exact ⟨at0, a0, b0, l.new hf⟩
theorem On.set {G G1 : GH} {p f : Addr} {xs : Scr} {o : GO} (h : On G p xs G1) (hne : f ≠ p) (hf : G f = Option.none) : On G p xs (updG G1 f o) := by
  obtain ⟨at0, a0, b0, l⟩ := h
  exact ⟨at0, a0, b0, l.put (by rw [updG_ne hne]; exact hf)⟩
theorem On.fin {G G1 : GH} {p : Addr} {xs : Scr} {d : D} {Q : DK} (h : On G p xs G1) (q : ∀ at_ a b, Q d (updG G p (rowG xs at_ a b))) : (fnEnds Q).rt d G1 := by
  obtain ⟨at_, a, b, l⟩ := h
  exact fin_le l (q at_ a b)
end KL


end

section
set_option Elab.async false
set_option linter.all false
set_option maxRecDepth 100000
set_option maxHeartbeats 1000000
open PySem PySem.Spec PyProof.Rows L2 DL
namespace KL
/-! ### _law_net -/
def pw (own : Nat) : Int := [1, 2, 4, 8, 16, 32, 64].getD own 1
def pwD : List D := [.int 1, .int 2, .int 4, .int 8, .int 16, .int 32, .int 64]
theorem pw_at {own : Nat} (h : own < 7) : pwD[own]? = some (.int (pw own)) ∧ pw own ≠ 0 ∧ (pw own).natAbs < 1073741824 := by
  match own, h with
  | 0, _ => exact ⟨rfl, by decide, by decide⟩
  | 1, _ => exact ⟨rfl, by decide, by decide⟩
  | 2, _ => exact ⟨rfl, by decide, by decide⟩
  | 3, _ => exact ⟨rfl, by decide, by decide⟩
  | 4, _ => exact ⟨rfl, by decide, by decide⟩
  | 5, _ => exact ⟨rfl, by decide, by decide⟩
  | 6, _ => exact ⟨rfl, by decide, by decide⟩
def bt (b : Int) (own : Nat) : Bool := decide ((b.fdiv (pw own)).fmod 2 = 1)
structure Rows (n i : Nat) (acc : List (List Nat)) : Prop where
  len : acc.length = i
  row : ∀ j, ∀ x ∈ acc.getD j [], x < n ∧ x ≠ j
  ris : ∀ j, (acc.getD j []).Pairwise (· < ·)
def newRow (n i : Nat) (b t : Int) : List Nat := ((List.range n).filter (bt b)).filter fun o => !decide (o = i) && bt t o
theorem getD_snoc {acc : List (List Nat)} {r : List Nat} (j : Nat) : (acc ++ [r]).getD j [] = if j < acc.length then acc.getD j [] else if j = acc.length then r else [] := by
  rw [List.getD_eq_getElem?_getD, List.getD_eq_getElem?_getD]
  split
  · rename_i h
    rw [List.getElem?_append_left h]
  · rename_i h
    rw [List.getElem?_append_right (by omega)]
    split
    · rename_i e
      rw [e, Nat.sub_self] <;> rfl
    · rename_i e
      have : 1 ≤ j - acc.length := by omega
      rw [List.getElem?_eq_none (by simpa using this)] <;> rfl
theorem Rows.snoc {n i : Nat} {acc : List (List Nat)} (h : Rows n i acc) (b t : Int) : Rows n (i + 1) (acc ++ [newRow n i b t]) := by
  refine ⟨by rw [List.length_append, h.len] <;> rfl, fun j x hx => ?_, fun j => ?_⟩
  · rw [getD_snoc] at hx
    split at hx
    · exact h.row j x hx
    · split at hx
      · rename_i e
        unfold newRow at hx
        obtain ⟨h1, h2⟩ := List.mem_filter.mp hx
        obtain ⟨h3, _⟩ := List.mem_filter.mp h1
        rw [Bool.and_eq_true] at h2
        refine ⟨List.mem_range.mp h3, fun ex => ?_⟩
        have : decide (x = i) = true := decide_eq_true (by rw [ex, e, h.len])
        rw [this] at h2
        exact absurd h2.1 Bool.false_ne_true
      · cases hx
  · rw [getD_snoc]
    split
    · exact h.ris j
    · split
      · exact ((range_pw n).sublist List.filter_sublist).sublist List.filter_sublist
      · exact List.Pairwise.nil
theorem net_tail {C : Addr} {Ex : DXK} (E : DEnds) {n i : Nat} (hn : n ≤ 7) {f : Addr} {acc : List (List Nat)} (hl : acc.length ≤ 7) (v0 v1 v3 v5 v9 v10 : Option D) (b t : Int) (G : GH) (hf : G f = some (.lst (earsD acc)))
    (k : ∀ v9 v10 : Option D, E.nx [v0, v1, some (.int (n : Int)), v3, some (.ref f), v5, some (.int (i : Int)), some (.int b), some (.int t), v9, v10] (updG G f (.lst (earsD (acc ++ [newRow n i b t]))))) :
    dSeq (t__law_net_3 C Ex) (t__law_net_2 C Ex) E [v0, v1, some (.int (n : Int)), v3, some (.ref f), v5, some (.int (i : Int)), some (.int b), some (.int t), v9, v10] G := by
  unfold t__law_net_3 t__law_net_2
  simp only [dSeq, dIfS, dTst, dTru, dNot, dAnd, dOr, dAndV, dOrV, dNotV, dRet, dRetN, dDrop, dAsg, dNext, dBreak, dCont, dVar, getS, dC, dOp, dChain, dF1, dF2, dCall, dCons, dNil, dTup, dLst, dLstM, dIf, dNeg, uNeg, dLc, dLcM, dItr, dZip, dEnum, dRange1, dRange2, dFor, dPut, dAug, dPar2, dPar3, dSl, dPart, dNoPart, dM1, dM0, dCB, on1, isB, setT, setTs, dRaise, dMk, dYes, dLstRg, dRg1, wipeD, List.set, List.set]
  refine ⟨⟨by omega, by omega⟩, ?_⟩
  rw [Int.toNat_natCast, rgD_nats]
  refine comp_enc (fun n : Nat => .int (n : Int)) (bt b) (fun n => .int (n : Int)) (List.range n) trivial (fun o ho k k0 h1 h2 => ?_) (by rw [List.length_range, sizeL]; omega) ?_
  · have hon : o < 7 := by have := List.mem_range.mp ho; omega
    obtain ⟨p1, p2, p3⟩ := pw_at hon
    simp only [dSeq, dIfS, dTst, dTru, dNot, dAnd, dOr, dAndV, dOrV, dNotV, dRet, dRetN, dDrop, dAsg, dNext, dBreak, dCont, dVar, getS, dC, dOp, dChain, dF1, dF2, dCall, dCons, dNil, dTup, dLst, dLstM, dIf, dNeg, uNeg, dLc, dLcM, dItr, dZip, dEnum, dRange1, dRange2, dFor, dPut, dAug, dPar2, dPar3, dSl, dPart, dNoPart, dM1, dM0, dCB, on1, isB, setT, setTs, dRaise, dMk, dYes, dLstRg, dRg1, wipeD, List.set, List.set]
    refine ⟨sm10 (by simp), ixT (a := pwD) (L2.atI_nat p1) ?_⟩
    refine ⟨⟨p2, p3⟩, ?_⟩
    simp only [intF]
    refine ⟨show (2 : Int) ≠ 0 by decide, eqI ?_⟩
    cases hd : bt b o with
    | true =>
      have hd2 := hd
      unfold bt at hd2
      rw [hd2]
      simp only [isB, if_true]
      exact h1 hd
    | false =>
      have hd2 := hd
      unfold bt at hd2
      rw [hd2]
      simp only [isB, Bool.false_eq_true, if_false]
      exact h2 hd
  · refine ownLR hf ?_
    refine comp_enc (fun n : Nat => .int (n : Int)) (fun o => !decide (o = i) && bt t o) (fun n => .int (n : Int)) ((List.range n).filter (bt b)) trivial (fun o ho k k0 h1 h2 => ?_) (Nat.le_trans (List.length_filter_le _ _) (by rw [List.length_range, sizeL]; omega)) ?_
    · have hon : o < 7 := by have := List.mem_range.mp (List.mem_filter.mp ho).1; omega
      obtain ⟨p1, p2, p3⟩ := pw_at hon
      simp only [dSeq, dIfS, dTst, dTru, dNot, dAnd, dOr, dAndV, dOrV, dNotV, dRet, dRetN, dDrop, dAsg, dNext, dBreak, dCont, dVar, getS, dC, dOp, dChain, dF1, dF2, dCall, dCons, dNil, dTup, dLst, dLstM, dIf, dNeg, uNeg, dLc, dLcM, dItr, dZip, dEnum, dRange1, dRange2, dFor, dPut, dAug, dPar2, dPar3, dSl, dPart, dNoPart, dM1, dM0, dCB, on1, isB, setT, setTs, dRaise, dMk, dYes, dLstRg, dRg1, wipeD, List.set, List.set]
      refine neI ?_
      have ed : decide ((o : Int) = (i : Int)) = decide (o = i) := by congr 1; apply propext; omega
      rw [ed]
      cases hd : decide (o = i) with
      | true =>
        simp only [getS, List.set, truD, isB, i2, TT0, true_and, Bool.not_true, Bool.not_false, Bool.false_eq_true, if_false, if_true, dVar, dC, setT, setTs]
        exact h2 (by rw [hd] <;> rfl)
      | false =>
        simp only [getS, List.set, truD, isB, i2, TT0, true_and, Bool.not_true, Bool.not_false, Bool.false_eq_true, if_false, if_true, dVar, dC, setT, setTs]
        refine ⟨sm10 (by simp), ixT (a := pwD) (L2.atI_nat p1) ?_⟩
        refine ⟨⟨p2, p3⟩, ?_⟩
        simp only [intF]
        refine ⟨show (2 : Int) ≠ 0 by decide, eqI ?_⟩
        cases hb : bt t o with
        | true =>
          have hd2 := hb
          unfold bt at hd2
          rw [hd2]
          simp only [isB, if_true]
          exact h1 (by rw [hd, hb] <;> rfl)
        | false =>
          have hd2 := hb
          unfold bt at hd2
          rw [hd2]
          simp only [isB, Bool.false_eq_true, if_false]
          exact h2 (by rw [hd, hb] <;> rfl)
    · simp only [tupF, asQ]
      refine getLR hf ?_
      refine ⟨by unfold earsD; rw [List.length_map, sizeL]; omega, ?_⟩
      have e : earsD acc ++ [.tup ((((List.range n).filter (bt b)).filter fun o => !decide (o = i) && bt t o).map fun (n : Nat) => .int (n : Int))] = earsD (acc ++ [newRow n i b t]) := by
        unfold earsD
        rw [List.map_append] <;> rfl
      rw [e]
      exact k _ _
theorem net_loop {C : Addr} {Ex : DXK} (E : DEnds) {xs : Scr} (hx : xs.length ≤ datL) (p f : Addr) (hne : f ≠ p) (G0 : GH) (n0 : G0 f = none) {n : Nat} (hn : n ≤ 7) (v1 v3 v5 : Option D) : ∀ (m i : Nat) (acc : List (List Nat)) (v6 v7 v8 v9 v10 : Option D) (G : GH), i + m = n → Rows n i acc → On G0 p xs G → G f = some (.lst (earsD acc)) →
    (∀ (acc : List (List Nat)) (v6 v7 v8 v9 v10 : Option D) (G' : GH), Rows n n acc → On G0 p xs G' → G' f = some (.lst (earsD acc)) → E.nx [some (.ref p), v1, some (.int (n : Int)), v3, some (.ref f), v5, v6, v7, v8, v9, v10] G') →
    loopD yes0 (.name 6) (t__law_net_5 C Ex) E ((List.range' i m).map fun j => .int (j : Nat)) [some (.ref p), v1, some (.int (n : Int)), v3, some (.ref f), v5, v6, v7, v8, v9, v10] G
  | 0, i, acc, v6, v7, v8, v9, v10, G, hi, hS, hO, hf, k => ⟨trivial, k acc _ _ _ _ _ G (by have e : i = n := by omega
                                                                                            rw [e] at hS; exact hS) hO hf⟩
  | m + 1, i, acc, v6, v7, v8, v9, v10, G, hi, hS, hO, hf, k => by
    rw [List.range'_succ, List.map_cons]
    refine ⟨trivial, ?_⟩
    have hl := hS.len
    have go : ∀ (b t : Int) (G1 : GH), On G0 p xs G1 → G1 f = some (.lst (earsD acc)) → dSeq (t__law_net_3 C Ex) (t__law_net_2 C Ex) { E with nx := loopD yes0 (.name 6) (t__law_net_5 C Ex) E ((List.range' (i + 1) m).map fun j => .int (j : Nat)), ct := loopD yes0 (.name 6) (t__law_net_5 C Ex) E ((List.range' (i + 1) m).map fun j => .int (j : Nat)), bk := E.nx }
        [some (.ref p), v1, some (.int (n : Int)), v3, some (.ref f), v5, some (.int (i : Int)), some (.int b), some (.int t), v9, v10] G1 := fun b t G1 hO1 hf1 => by
      refine net_tail (C := C) (Ex := Ex) _ hn (by omega) _ _ _ _ _ _ b t G1 hf1 fun v9 v10 => ?_
      exact net_loop (C := C) (Ex := Ex) E hx p f hne G0 n0 hn v1 v3 v5 m (i + 1) _ _ _ _ _ _ _ (by omega) (hS.snoc b t) (hO1.set hne n0) updG_same k
    have hfp : ∀ {G1 : GH} {at_ : Nat} {a b : Int}, G1 f = some (.lst (earsD acc)) → (updG G1 p (rowG xs at_ a b)) f = some (.lst (earsD acc)) := fun h => by rw [updG_ne hne]; exact h
    show t__law_net_5 C Ex _ [some (.ref p), v1, some (.int (n : Int)), v3, some (.ref f), v5, some (.int (i : Int)), v7, v8, v9, v10] G
    unfold t__law_net_5
    show t__law_net_4 C Ex _ _ _
    unfold t__law_net_4
    simp only [dAsg, dTup, dCons, dNil, dCall, dVar, getS, dC, dIf, dTst, dOp, setT, setTs, List.set]
    refine ⟨p, 128, xs, rfl, by decide, by decide, hx, hO.row, fun v a1 a2 a3 hv => ?_⟩
    refine ⟨p, 2, xs, rfl, by decide, by decide, hx, row_put, fun v2 b1 b2 b3 hv2 => eqI ?_⟩
    cases hd : decide ((v2 : Int) = 0) with
    | true =>
      simp only [isB, if_true]
      refine ⟨p, 128, xs, rfl, by decide, by decide, hx, row_put, fun v3 c1 c2 c3 hv3 => ?_⟩
      refine ⟨sm10 (by simp), ?_⟩
      exact go _ _ _ hO.put.put.put (hfp (hfp (hfp hf)))
    | false =>
      simp only [isB, Bool.false_eq_true, if_false]
      refine ⟨sm10 (by simp), ?_⟩
      exact go _ _ _ hO.put.put (hfp (hfp hf))
/-! labels -/
theorem join_signs : ∀ cs : List Nat, TL.joinL [] (cs.map fun c => [c]) = cs
  | [] => rfl
  | [c] => rfl
  | c :: d :: r => by
    show [c] ++ ([] ++ TL.joinL [] ((d :: r).map fun c => [c])) = _
    rw [join_signs (d :: r)] <;> rfl
def signs (cs : List Nat) : List Str := cs.map fun c => ⟨#[c]⟩
theorem join_cps (cs : List Nat) : (Txt.join "" (signs cs)).cps.toList = cs := by
  have h := TL.tl_join "" (signs cs)
  rw [TL.join_eq]
  have e : (signs cs).map TL.tl = cs.map fun c => [c] := by unfold signs; rw [List.map_map] <;> rfl
  have e2 : TL.tl "" = [] := rfl
  rw [e, e2, join_signs] at h
  exact h
def isSign (d : D) : Prop := ∃ c : Nat, isLet c = true ∧ d = .str ⟨#[c]⟩
theorem signs_of : ∀ ys : List D, (∀ y ∈ ys, isSign y) → ∃ cs : List Nat, ys = (signs cs).map .str ∧ cs.all isLet = true ∧ cs.length = ys.length
  | [], _ => ⟨[], rfl, rfl, rfl⟩
  | y :: ys, h => by
    obtain ⟨cs, e1, e2, e3⟩ := signs_of ys fun z hz => h z (by simp [hz])
    obtain ⟨c, hc, e⟩ := h y (by simp)
    refine ⟨c :: cs, ?_, ?_, ?_⟩
    · rw [e1, e] <;> rfl
    · rw [List.all_cons, hc, e2] <;> rfl
    · rw [List.length_cons, List.length_cons, e3]
theorem signs_sum (cs : List Nat) : ((signs cs).map (·.length)).sum = cs.length := by
  induction cs with
  | nil => rfl
  | cons c cs ih =>
    show (1 : Nat) + ((signs cs).map (·.length)).sum = _
    rw [ih, List.length_cons]
    omega
theorem cut_labels {n : Nat} (h1 : 1 ≤ n) (h7 : n ≤ 7) : (cutS "cgbeafd" none (some (n : Int))).cps.toList.all isLet = true ∧ (cutS "cgbeafd" none (some (n : Int))).length = n := by
  match n, h1, h7 with
  | 1, _, _ => exact ⟨by decide +kernel, by decide +kernel⟩
  | 2, _, _ => exact ⟨by decide +kernel, by decide +kernel⟩
  | 3, _, _ => exact ⟨by decide +kernel, by decide +kernel⟩
  | 4, _, _ => exact ⟨by decide +kernel, by decide +kernel⟩
  | 5, _, _ => exact ⟨by decide +kernel, by decide +kernel⟩
  | 6, _, _ => exact ⟨by decide +kernel, by decide +kernel⟩
  | 7, _, _ => exact ⟨by decide +kernel, by decide +kernel⟩
def lettersL : List D := [.str "ab", .str "abc", .str "abcdefg", .str "gfedcba", .str "a"]
theorem letters_ok {d : D} (h : d ∈ lettersL) : ∃ x : Str, d = .str x ∧ (1 ≤ x.length ∧ x.length ≤ 1000) ∧ ∀ c ∈ x.cps.toList, isLet c = true := by
  simp only [lettersL, List.mem_cons, List.not_mem_nil, or_false] at h
  have key : ∀ x : Str, (decide (1 ≤ x.length) && decide (x.length ≤ 1000) && x.cps.toList.all isLet) = true → ∃ z : Str, D.str x = .str z ∧ (1 ≤ z.length ∧ z.length ≤ 1000) ∧ ∀ c ∈ z.cps.toList, isLet c = true := fun x hx => by
    rw [Bool.and_eq_true, Bool.and_eq_true, decide_eq_true_eq, decide_eq_true_eq, List.all_eq_true] at hx
    exact ⟨x, rfl, hx.1, hx.2⟩
  rcases h with rfl | rfl | rfl | rfl | rfl <;> exact key _ (by decide +kernel)
theorem net_end {C : Addr} {Ex : DXK} {Q : DK} {xs : Scr} (hx : xs.length ≤ datL) (p f : Addr) (hne : f ≠ p) (G0 : GH) (n0 : G0 f = none) {n most : Nat} (h1 : 1 ≤ n) (hn : n ≤ 7) (hm : n ≤ most) (lab : Str) (hlab : lab.cps.toList.all isLet = true) (hlen : lab.length = n) (v1 v3 v6 v7 v8 v9 v10 : Option D) (G : GH) (hO : On G0 p xs G) (hf : G f = some (.lst []))
    (q : ∀ (N : Net) (at_ : Nat) (a b : Int), Good N → N.n ≤ most → Q (encN N) (updG G0 p (rowG xs at_ a b))) :
    dSeq (t__law_net_6 C Ex) (t__law_net_1 C Ex) (fnEnds Q) [some (.ref p), v1, some (.int (n : Int)), v3, some (.ref f), some (.str lab), v6, v7, v8, v9, v10] G := by
  unfold t__law_net_6 t__law_net_1
  simp only [dSeq, dIfS, dTst, dTru, dNot, dAnd, dOr, dAndV, dOrV, dNotV, dRet, dRetN, dDrop, dAsg, dNext, dBreak, dCont, dVar, getS, dC, dOp, dChain, dF1, dF2, dCall, dCons, dNil, dTup, dLst, dLstM, dIf, dNeg, uNeg, dLc, dLcM, dItr, dZip, dEnum, dRange1, dRange2, dFor, dPut, dAug, dPar2, dPar3, dSl, dPart, dNoPart, dM1, dM0, dCB, on1, isB, setT, setTs, dRaise, dMk, dYes, dLstRg, dRg1, wipeD, List.set]
  refine ⟨⟨by omega, by omega⟩, ?_⟩
  rw [Int.toNat_natCast, rgD_range]
  refine net_loop (C := C) (Ex := Ex) _ hx p f hne G0 n0 hn _ _ _ n 0 [] _ _ _ _ _ G (by omega) ⟨rfl, (fun j x hx => by simp at hx), fun j => by simp⟩ hO (by rw [hf] <;> rfl) fun acc v6 v7 v8 v9 v10 G' hS hO' g => ?_
  simp only [dSeq, dIfS, dTst, dTru, dNot, dAnd, dOr, dAndV, dOrV, dNotV, dRet, dRetN, dDrop, dAsg, dNext, dBreak, dCont, dVar, getS, dC, dOp, dChain, dF1, dF2, dCall, dCons, dNil, dTup, dLst, dLstM, dIf, dNeg, uNeg, dLc, dLcM, dItr, dZip, dEnum, dRange1, dRange2, dFor, dPut, dAug, dPar2, dPar3, dSl, dPart, dNoPart, dM1, dM0, dCB, on1, isB, setT, setTs, dRaise, dMk, dYes, dLstRg, dRg1, wipeD, List.set]
  refine tupR g ⟨sm10 (by simp), hO'.fin fun at_ a b => ?_⟩
  have hN : (⟨lab, acc⟩ : Net).n = n := hS.len
  refine q ⟨lab, acc⟩ at_ a b ⟨hlab, by rw [hN]; exact hlen, by rw [hN]; exact h1, by rw [hN]; exact hn, fun j x hx => ?_, fun j => hS.ris j⟩ (by rw [hN]; exact hm)
  rw [hN]
  exact hS.row j x hx
theorem pure__law_net {C : Addr} (ds : List D) (G : GH) (Q : DK) (E : DXK) (h : sp__law_net ds G Q E) : t__law_net C E (fnEnds Q) (startD N__law_net ds) G := by
  obtain ⟨p, most, xs, rfl, hm1, hm7, hx, hr, q⟩ := h
  show t__law_net C E (fnEnds Q) [some (.ref p), some (.int (most : Int)), none, none, none, none, none, none, none, none, none] G
  unfold t__law_net t__law_net_10 t__law_net_9 t__law_net_8 t__law_net_7
  simp only [dSeq, dIfS, dTst, dTru, dNot, dAnd, dOr, dAndV, dOrV, dNotV, dRet, dRetN, dDrop, dAsg, dNext, dBreak, dCont, dVar, getS, dC, dOp, dChain, dF1, dF2, dCall, dCons, dNil, dTup, dLst, dLstM, dIf, dNeg, uNeg, dLc, dLcM, dItr, dZip, dEnum, dRange1, dRange2, dFor, dPut, dAug, dPar2, dPar3, dSl, dPart, dNoPart, dM1, dM0, dCB, on1, isB, setT, setTs, dRaise, dMk, dYes, dLstRg, dRg1, wipeD, List.set]
  have hO : On G p xs G := On.start hr
  refine ⟨p, most, xs, rfl, hm1, by omega, hx, hr, fun v a1 a2 a3 hv => ?_⟩
  simp only [addD]
  have e1 : (1 : Int) + (v : Int) = ((1 + v : Nat) : Int) := by omega
  rw [e1]
  have hn1 : 1 ≤ 1 + v := by omega
  have hn7 : 1 + v ≤ 7 := by omega
  have hnm : 1 + v ≤ most := by omega
  generalize 1 + v = n at hn1 hn7 hnm ⊢
  refine ⟨sm10 (by simp), p, .lst lettersL, 5, (fun d => d ∈ lettersL), xs, rfl, by decide, .inl ⟨lettersL, .inl rfl, rfl, fun d hd => hd⟩, hx, hO.put.row, fun d b1 b2 b3 hd => ?_⟩
  obtain ⟨x, rfl, hxl, hxs⟩ := letters_ok hd
  have hO2 := (hO.put (at_ := a1) (a := a2) (b := a3)).put (at_ := b1) (a := b2) (b := b3)
  refine ⟨sm10 (by simp), fun f hf => ⟨sm10 (by simp), ?_⟩⟩
  have hne := (hO2.none hf).1
  have n0 : G f = none := by
    have := hf
    rw [updG_ne hne, updG_ne hne] at this
    exact this
  have hO3 := hO2.new hf (o := .lst [])
  refine ⟨"", rfl, ⟨⟨by omega, by omega⟩, ?_⟩⟩
  rw [Int.toNat_natCast]
  refine comp_stY (I := fun G1 => On G p xs G1 ∧ G1 f = some (.lst [])) (ok := isSign) (fun _ _ => trivial) (rgD 0 n) [] _ ⟨hO3, updG_same⟩ (fun d hd G1 hI k hk => ?_) (by rw [rgD_nats, natsD_len, List.length_range, sizeL]; simp; omega) fun ys G1 hys hok hI => ?_
  · obtain ⟨i, _, rfl⟩ := List.mem_map.mp hd
    simp only [dSeq, dIfS, dTst, dTru, dNot, dAnd, dOr, dAndV, dOrV, dNotV, dRet, dRetN, dDrop, dAsg, dNext, dBreak, dCont, dVar, getS, dC, dOp, dChain, dF1, dF2, dCall, dCons, dNil, dTup, dLst, dLstM, dIf, dNeg, uNeg, dLc, dLcM, dItr, dZip, dEnum, dRange1, dRange2, dFor, dPut, dAug, dPar2, dPar3, dSl, dPart, dNoPart, dM1, dM0, dCB, on1, isB, setT, setTs, dRaise, dMk, dYes, dLstRg, dRg1, wipeD, List.set, List.set]
    refine ⟨p, .str x, x.length, isSign, xs, rfl, hxl, .inr ⟨x, rfl, rfl, fun c hc => ⟨c, hxs c hc, rfl⟩⟩, hx, hI.1.row, fun d c1 c2 c3 hd => hk d _ hd ⟨hI.1.put, by rw [updG_ne hne]; exact hI.2⟩⟩
  · obtain ⟨cs, ey, hcs, hcl⟩ := signs_of ys hok
    have hyn : ys.length = n := by rw [hys, rgD_nats, natsD_len, List.length_range]
    refine ⟨signs cs, by rw [List.nil_append]; exact ey, ?_, ?_⟩
    · rw [signs_sum]
      have : (signs cs).length = cs.length := by unfold signs; rw [List.length_map]
      rw [this]
      show cs.length + cs.length * 0 ≤ _
      omega
    · refine ⟨p, 3, xs, rfl, by decide, by decide, hx, hI.1.row, fun v2 c1 c2 c3 hv2 => eqI ?_⟩
      have hI2 := hI.1.put (at_ := c1) (a := c2) (b := c3)
      have hf2 : (updG G1 p (rowG xs c1 c2 c3)) f = some (.lst []) := by rw [updG_ne hne]; exact hI.2
      cases hd : decide ((v2 : Int) = 0) with
      | true =>
        simp only [isB, if_true]
        obtain ⟨k1, k2⟩ := cut_labels hn1 hn7
        refine ⟨show ("cgbeafd" : Str).length ≤ sizeLine from sm10 (by decide +kernel), ?_⟩
        exact net_end (C := C) (Ex := E) hx p f hne G n0 hn1 hn7 hnm _ k1 k2 _ _ _ _ _ _ _ _ hI2 hf2 q
      | false =>
        simp only [isB, Bool.false_eq_true, if_false]
        refine net_end (C := C) (Ex := E) hx p f hne G n0 hn1 hn7 hnm _ ?_ ?_ _ _ _ _ _ _ _ _ hI2 hf2 q
        · rw [join_cps]; exact hcs
        · have : (Txt.join "" (signs cs)).length = (Txt.join "" (signs cs)).cps.toList.length := by simp [Str.length]
          rw [this, join_cps]
          omega
end KL


end

section
set_option Elab.async false
set_option linter.all false
set_option maxRecDepth 100000
set_option maxHeartbeats 1000000
open PySem PySem.Spec PyProof.Rows L2 DL
namespace KL
/-! ### waits -/
theorem andFF {a b : Bool} : (a && b) = true ↔ a = true ∧ b = true := Bool.and_eq_true_iff
theorem wlen_no {b : Nat} {a : List D} {r : Bool} (h : ¬(1 ≤ a.length ∧ a.length ≤ b)) : (decide (1 ≤ a.length) && decide (a.length ≤ b) && r) = false := by
  by_cases h1 : 1 ≤ a.length
  · have h2 : ¬ a.length ≤ b := fun z => h ⟨h1, z⟩
    rw [decide_eq_false h2]; simp
  · rw [decide_eq_false h1]; simp
theorem pure_is_wait_row {C : Addr} (ds : List D) (G : GH) (Q : DK) (E : DXK) (h : sp_is_wait_row ds G Q E) : t_is_wait_row C E (fnEnds Q) (startD N_is_wait_row ds) G := by
  obtain ⟨d, n, rfl, hd, q⟩ := h
  show t_is_wait_row C E (fnEnds Q) [some d, none, none] G
  unfold t_is_wait_row
  simp only [dSeq, dIfS, dTst, dTru, dNot, dAnd, dOr, dAndV, dOrV, dNotV, dRet, dRetN, dDrop, dAsg, dNext, dBreak, dCont, dVar, getS, dC, dOp, dChain, dF1, dF2, dCall, dCons, dNil, dTup, dLst, dLstM, dIf, dNeg, uNeg, dLc, dLcM, dItr, dZip, dEnum, dRange1, dRange2, dFor, dPut, dAug, dPar2, dPar3, dSl, dPart, dNoPart, dM1, dM0, dCB, on1, isB, setT, setTs, dRaise, dMk, dYes, dLstRg, dRg1, wipeD, List.set]
  refine isa_tuple (dat_ty hd) ?_
  cases ht : isTup d with
  | false =>
    simp only [getS, List.set, truD, isB, i2, TT0, true_and, Bool.not_true, Bool.not_false, Bool.false_eq_true, if_false, if_true, dVar, dC, setT, setTs]
    refine fin_ret ?_
    have e : wrowOk d = false := by cases d <;> first | rfl | cases ht
    rw [e] at q
    exact q
  | true =>
    obtain ⟨a, rfl⟩ := isTup_of ht
    obtain ⟨hl, m, en, ha⟩ := dat_tup hd
    have ew : wrowOk (.tup a) = (decide (1 ≤ a.length) && decide (a.length ≤ 6) && a.all (isNum · 0 9)) := rfl
    rw [ew] at q
    simp only [getS, List.set, truD, isB, i2, TT0, true_and, Bool.not_true, Bool.not_false, Bool.false_eq_true, if_false, if_true, dVar, dC, setT, setTs]
    refine lenT ?_
    simp only [leD, getS, List.set, truD, isB, i2, TT0, true_and, Bool.not_true, Bool.not_false, Bool.false_eq_true, if_false, if_true, dVar, dC, setT, setTs]
    by_cases h1 : 1 ≤ a.length
    · rw [show decide ((1 : Int) ≤ (a.length : Int)) = true by rw [decide_eq_true_eq]; omega]
      simp only [getS, List.set, truD, isB, i2, TT0, true_and, Bool.not_true, Bool.not_false, Bool.false_eq_true, if_false, if_true, dVar, dC, setT, setTs]
      by_cases h6 : a.length ≤ 6
      · rw [show decide ((a.length : Int) ≤ 6) = true by rw [decide_eq_true_eq]; omega]
        rw [decide_eq_true h1, decide_eq_true h6] at q
        simp only [getS, List.set, truD, isB, i2, TT0, true_and, Bool.not_true, Bool.not_false, Bool.false_eq_true, if_false, if_true, dVar, dC, setT, setTs, Bool.true_and] at q ⊢
        simp only [itD]
        refine comp_map (fun d => .bl (isNum d 0 9)) trivial _ (fun d hd k hk => ?_) (by rw [sizeL]; omega) ?_
        · simp only [dSeq, dIfS, dTst, dTru, dNot, dAnd, dOr, dAndV, dOrV, dNotV, dRet, dRetN, dDrop, dAsg, dNext, dBreak, dCont, dVar, getS, dC, dOp, dChain, dF1, dF2, dCall, dCons, dNil, dTup, dLst, dLstM, dIf, dNeg, uNeg, dLc, dLcM, dItr, dZip, dEnum, dRange1, dRange2, dFor, dPut, dAug, dPar2, dPar3, dSl, dPart, dNoPart, dM1, dM0, dCB, on1, isB, setT, setTs, dRaise, dMk, dYes, dLstRg, dRg1, wipeD, List.set, List.set]
          exact ⟨d, 0, 9, rfl, dat_ty (ha d hd), hk⟩
        · refine ⟨a.map fun d => isNum d 0 9, by rw [List.map_map] <;> rfl, ?_⟩
          have eall : (a.map fun d => isNum d 0 9).all id = a.all (isNum · 0 9) := by rw [List.all_map] <;> rfl
          rw [eall]
          exact fin_ret q
      · rw [show decide ((a.length : Int) ≤ 6) = false by rw [decide_eq_false_iff_not]; omega]
        rw [wlen_no (fun z => h6 z.2)] at q
        simp only [getS, List.set, truD, isB, i2, TT0, true_and, Bool.not_true, Bool.not_false, Bool.false_eq_true, if_false, if_true, dVar, dC, setT, setTs]
        exact fin_ret q
    · rw [show decide ((1 : Int) ≤ (a.length : Int)) = false by rw [decide_eq_false_iff_not]; omega]
      rw [wlen_no (fun z => h1 z.1)] at q
      simp only [getS, List.set, truD, isB, i2, TT0, true_and, Bool.not_true, Bool.not_false, Bool.false_eq_true, if_false, if_true, dVar, dC, setT, setTs]
      exact fin_ret q
theorem pure_is_waits {C : Addr} (ds : List D) (G : GH) (Q : DK) (E : DXK) (h : sp_is_waits ds G Q E) : t_is_waits C E (fnEnds Q) (startD N_is_waits ds) G := by
  obtain ⟨d, n, rfl, hd, q⟩ := h
  show t_is_waits C E (fnEnds Q) [some d, none] G
  unfold t_is_waits
  simp only [dSeq, dIfS, dTst, dTru, dNot, dAnd, dOr, dAndV, dOrV, dNotV, dRet, dRetN, dDrop, dAsg, dNext, dBreak, dCont, dVar, getS, dC, dOp, dChain, dF1, dF2, dCall, dCons, dNil, dTup, dLst, dLstM, dIf, dNeg, uNeg, dLc, dLcM, dItr, dZip, dEnum, dRange1, dRange2, dFor, dPut, dAug, dPar2, dPar3, dSl, dPart, dNoPart, dM1, dM0, dCB, on1, isB, setT, setTs, dRaise, dMk, dYes, dLstRg, dRg1, wipeD, List.set]
  refine isa_tuple (dat_ty hd) ?_
  cases ht : isTup d with
  | false =>
    simp only [getS, List.set, truD, isB, i2, TT0, true_and, Bool.not_true, Bool.not_false, Bool.false_eq_true, if_false, if_true, dVar, dC, setT, setTs]
    refine fin_ret ?_
    have e : waitsOk d = false := by cases d <;> first | rfl | cases ht
    rw [e] at q
    exact q
  | true =>
    obtain ⟨a, rfl⟩ := isTup_of ht
    obtain ⟨hl, m, en, ha⟩ := dat_tup hd
    have ew : waitsOk (.tup a) = (decide (1 ≤ a.length) && decide (a.length ≤ 7) && a.all wrowOk) := rfl
    rw [ew] at q
    simp only [getS, List.set, truD, isB, i2, TT0, true_and, Bool.not_true, Bool.not_false, Bool.false_eq_true, if_false, if_true, dVar, dC, setT, setTs]
    refine lenT ?_
    simp only [leD, getS, List.set, truD, isB, i2, TT0, true_and, Bool.not_true, Bool.not_false, Bool.false_eq_true, if_false, if_true, dVar, dC, setT, setTs]
    by_cases h1 : 1 ≤ a.length
    · rw [show decide ((1 : Int) ≤ (a.length : Int)) = true by rw [decide_eq_true_eq]; omega]
      simp only [getS, List.set, truD, isB, i2, TT0, true_and, Bool.not_true, Bool.not_false, Bool.false_eq_true, if_false, if_true, dVar, dC, setT, setTs]
      by_cases h6 : a.length ≤ 7
      · rw [show decide ((a.length : Int) ≤ 7) = true by rw [decide_eq_true_eq]; omega]
        rw [decide_eq_true h1, decide_eq_true h6] at q
        simp only [getS, List.set, truD, isB, i2, TT0, true_and, Bool.not_true, Bool.not_false, Bool.false_eq_true, if_false, if_true, dVar, dC, setT, setTs, Bool.true_and] at q ⊢
        simp only [itD]
        refine comp_map (fun d => .bl (wrowOk d)) trivial _ (fun d hd k hk => ?_) (by rw [sizeL]; omega) ?_
        · simp only [dSeq, dIfS, dTst, dTru, dNot, dAnd, dOr, dAndV, dOrV, dNotV, dRet, dRetN, dDrop, dAsg, dNext, dBreak, dCont, dVar, getS, dC, dOp, dChain, dF1, dF2, dCall, dCons, dNil, dTup, dLst, dLstM, dIf, dNeg, uNeg, dLc, dLcM, dItr, dZip, dEnum, dRange1, dRange2, dFor, dPut, dAug, dPar2, dPar3, dSl, dPart, dNoPart, dM1, dM0, dCB, on1, isB, setT, setTs, dRaise, dMk, dYes, dLstRg, dRg1, wipeD, List.set, List.set]
          exact ⟨d, m, rfl, ha d hd, hk⟩
        · refine ⟨a.map wrowOk, by rw [List.map_map] <;> rfl, ?_⟩
          have eall : (a.map wrowOk).all id = a.all wrowOk := by rw [List.all_map] <;> rfl
          rw [eall]
          exact fin_ret q
      · rw [show decide ((a.length : Int) ≤ 7) = false by rw [decide_eq_false_iff_not]; omega]
        rw [wlen_no (fun z => h6 z.2)] at q
        simp only [getS, List.set, truD, isB, i2, TT0, true_and, Bool.not_true, Bool.not_false, Bool.false_eq_true, if_false, if_true, dVar, dC, setT, setTs]
        exact fin_ret q
    · rw [show decide ((1 : Int) ≤ (a.length : Int)) = false by rw [decide_eq_false_iff_not]; omega]
      rw [wlen_no (fun z => h1 z.1)] at q
      simp only [getS, List.set, truD, isB, i2, TT0, true_and, Bool.not_true, Bool.not_false, Bool.false_eq_true, if_false, if_true, dVar, dC, setT, setTs]
      exact fin_ret q
theorem pure_check_waits {C : Addr} (ds : List D) (G : GH) (Q : DK) (E : DXK) (h : sp_check_waits C ds G Q E) : t_check_waits C E (fnEnds Q) (startD N_check_waits ds) G := by
  obtain ⟨d, n, rfl, hd, h1, h2⟩ := h
  show t_check_waits C E (fnEnds Q) [some d] G
  unfold t_check_waits
  simp only [dSeq, dIfS, dTst, dTru, dNot, dAnd, dOr, dAndV, dOrV, dNotV, dRet, dRetN, dDrop, dAsg, dNext, dBreak, dCont, dVar, getS, dC, dOp, dChain, dF1, dF2, dCall, dCons, dNil, dTup, dLst, dLstM, dIf, dNeg, uNeg, dLc, dLcM, dItr, dZip, dEnum, dRange1, dRange2, dFor, dPut, dAug, dPar2, dPar3, dSl, dPart, dNoPart, dM1, dM0, dCB, on1, isB, setT, setTs, dRaise, dMk, dYes, dLstRg, dRg1, wipeD, List.set]
  exact ⟨d, n, rfl, hd, _, _, rfl, fun e => fin_nx (h1 e), h2⟩
theorem pure_row_period {C : Addr} (ds : List D) (G : GH) (Q : DK) (E : DXK) (h : sp_row_period ds G Q E) : t_row_period C E (fnEnds Q) (startD N_row_period ds) G := by
  obtain ⟨r, rfl, hl, q⟩ := h
  show t_row_period C E (fnEnds Q) [some (.tup (natsD r))] G
  unfold t_row_period
  simp only [dSeq, dIfS, dTst, dTru, dNot, dAnd, dOr, dAndV, dOrV, dNotV, dRet, dRetN, dDrop, dAsg, dNext, dBreak, dCont, dVar, getS, dC, dOp, dChain, dF1, dF2, dCall, dCons, dNil, dTup, dLst, dLstM, dIf, dNeg, uNeg, dLc, dLcM, dItr, dZip, dEnum, dRange1, dRange2, dFor, dPut, dAug, dPar2, dPar3, dSl, dPart, dNoPart, dM1, dM0, dCB, on1, isB, setT, setTs, dRaise, dMk, dYes, dLstRg, dRg1, wipeD, List.set]
  refine ⟨r.map fun (n : Nat) => (n : Int), natsD_ints r, lenT ?_⟩
  simp only [addD]
  have es : ∀ l : List Nat, ((l.map fun (n : Nat) => (n : Int)).sum : Int) = ((l.sum : Nat) : Int) := fun l => by
    induction l with
    | nil => rfl
    | cons a l ih =>
      rw [List.map_cons, List.sum_cons, List.sum_cons, ih]
      omega
  rw [es, natsD_len]
  have e : ((r.sum : Nat) : Int) + ((r.length : Nat) : Int) = ((rp r : Nat) : Int) := by unfold rp; omega
  rw [e]
  exact fin_ret q
theorem pure_common {C : Addr} (ds : List D) (G : GH) (Q : DK) (E : DXK) (h : sp_common ds G Q E) : t_common C E (fnEnds Q) (startD N_common ds) G := by
  obtain ⟨a, b, rfl, q⟩ := h
  show t_common C E (fnEnds Q) [some (.int (a : Int)), some (.int (b : Int))] G
  unfold t_common t_common_1
  simp only [dSeq, dIfS, dTst, dTru, dNot, dAnd, dOr, dAndV, dOrV, dNotV, dRet, dRetN, dDrop, dAsg, dNext, dBreak, dCont, dVar, getS, dC, dOp, dChain, dF1, dF2, dCall, dCons, dNil, dTup, dLst, dLstM, dIf, dNeg, uNeg, dLc, dLcM, dItr, dZip, dEnum, dRange1, dRange2, dFor, dPut, dAug, dPar2, dPar3, dSl, dPart, dNoPart, dM1, dM0, dCB, on1, isB, setT, setTs, dRaise, dMk, dYes, dLstRg, dRg1, wipeD, List.set]
  refine ⟨fun m ρ G1 => ∃ x y : Nat, ρ = [some (.int (x : Int)), some (.int (y : Int))] ∧ m = y ∧ Nat.gcd x y = Nat.gcd a b ∧ G1 = G, ⟨b, a, b, rfl, rfl, rfl, rfl⟩, ?_⟩
  rintro m ρ G1 ⟨x, y, rfl, rfl, hg, rfl⟩
  simp only [dSeq, dIfS, dTst, dTru, dNot, dAnd, dOr, dAndV, dOrV, dNotV, dRet, dRetN, dDrop, dAsg, dNext, dBreak, dCont, dVar, getS, dC, dOp, dChain, dF1, dF2, dCall, dCons, dNil, dTup, dLst, dLstM, dIf, dNeg, uNeg, dLc, dLcM, dItr, dZip, dEnum, dRange1, dRange2, dFor, dPut, dAug, dPar2, dPar3, dSl, dPart, dNoPart, dM1, dM0, dCB, on1, isB, setT, setTs, dRaise, dMk, dYes, dLstRg, dRg1, wipeD, List.set, truD]
  by_cases hy : m = 0
  · subst hy
    rw [show (((0 : Nat) : Int) != 0) = false from rfl]
    simp only [getS, List.set, truD, isB, i2, TT0, true_and, Bool.not_true, Bool.not_false, Bool.false_eq_true, if_false, if_true, dVar, dC, setT, setTs]
    rw [Nat.gcd_zero_right] at hg
    rw [← hg] at q
    exact fin_ret q
  · rw [show ((m : Int) != 0) = true by simp; omega]
    simp only [getS, List.set, truD, isB, i2, TT0, true_and, Bool.not_true, Bool.not_false, Bool.false_eq_true, if_false, if_true, dVar, dC, setT, setTs]
    refine ⟨show (m : Int) ≠ 0 by omega, ?_⟩
    have ef : ((x : Nat) : Int).fmod (m : Int) = ((x % m : Nat) : Int) := by
      rw [Int.fmod_eq_emod_of_nonneg _ (by omega)]
      rfl
    rw [ef]
    refine ⟨x % m, Nat.mod_lt _ (by omega), m, x % m, rfl, rfl, ?_, trivial⟩
    rw [← hg, Nat.gcd_comm m, ← Nat.gcd_rec, Nat.gcd_comm]
end KL


end

section
set_option Elab.async false
set_option linter.all false
set_option maxRecDepth 100000
set_option maxHeartbeats 1000000
open PySem PySem.Spec PyProof.Rows L2 DL
namespace KL
theorem earsD_len (W : List (List Nat)) : (earsD W).length = W.length := by unfold earsD; rw [List.length_map]
theorem GoodW.ok {W : Ws} (h : GoodW W) : waitsOk (encW W) = true := by
  show (decide (1 ≤ (earsD W).length) && decide ((earsD W).length ≤ 7) && (earsD W).all wrowOk) = true
  rw [earsD_len, decide_eq_true h.one, decide_eq_true h.top]
  simp only [Bool.true_and, List.all_eq_true]
  intro d hd
  obtain ⟨r, hr, rfl⟩ := List.mem_map.mp hd
  obtain ⟨h1, h2, h3⟩ := h.row r hr
  show (decide (1 ≤ (natsD r).length) && decide ((natsD r).length ≤ 6) && (natsD r).all (isNum · 0 9)) = true
  rw [natsD_len, decide_eq_true h1, decide_eq_true h2]
  simp only [Bool.true_and, List.all_eq_true]
  intro e he
  obtain ⟨x, hx, rfl⟩ := List.mem_map.mp he
  exact isNum_nat (a := 0) (b := 9) (Nat.zero_le _) (h3 x hx)
theorem GoodW.dat {W : Ws} (h : GoodW W) : dat 2 (encW W) = true := by
  have h7 := h.top
  refine dat_tupI (by rw [earsD_len]; unfold datL; omega) fun d hd => ?_
  obtain ⟨r, hr, rfl⟩ := List.mem_map.mp hd
  have := (h.row r hr).2.1
  exact dat_tupI (by rw [natsD_len]; unfold datL; omega) dat_nats
theorem pure_check_net_waits {C : Addr} (ds : List D) (G : GH) (Q : DK) (E : DXK) (h : sp_check_net_waits C ds G Q E) : t_check_net_waits C E (fnEnds Q) (startD N_check_net_waits ds) G := by
  rcases h with ⟨d, e, rfl, hd, hn, q⟩ | ⟨N, e, n, rfl, hG, hd, hw, q⟩ | ⟨N, W, rfl, hG, hW, q1, q2⟩
  · show t_check_net_waits C E (fnEnds Q) [some d, some e] G
    unfold t_check_net_waits
    simp only [dSeq, dIfS, dTst, dTru, dNot, dAnd, dOr, dAndV, dOrV, dNotV, dRet, dRetN, dDrop, dAsg, dNext, dBreak, dCont, dVar, getS, dC, dOp, dChain, dF1, dF2, dCall, dCons, dNil, dTup, dLst, dLstM, dIf, dNeg, uNeg, dLc, dLcM, dItr, dZip, dEnum, dRange1, dRange2, dFor, dPut, dAug, dPar2, dPar3, dSl, dPart, dNoPart, dM1, dM0, dCB, on1, isB, setT, setTs, dRaise, dMk, dYes, dLstRg, dRg1, wipeD, List.set]
    exact checkB hd hn q
  · show t_check_net_waits C E (fnEnds Q) [some (encN N), some e] G
    unfold t_check_net_waits
    simp only [dSeq, dIfS, dTst, dTru, dNot, dAnd, dOr, dAndV, dOrV, dNotV, dRet, dRetN, dDrop, dAsg, dNext, dBreak, dCont, dVar, getS, dC, dOp, dChain, dF1, dF2, dCall, dCons, dNil, dTup, dLst, dLstM, dIf, dNeg, uNeg, dLc, dLcM, dItr, dZip, dEnum, dRange1, dRange2, dFor, dPut, dAug, dPar2, dPar3, dSl, dPart, dNoPart, dM1, dM0, dCB, on1, isB, setT, setTs, dRaise, dMk, dYes, dLstRg, dRg1, wipeD, List.set]
    refine checkG hG ⟨e, n, rfl, hd, ?_⟩
    rw [hw]
    simp only [getS, List.set, truD, isB, i2, TT0, true_and, Bool.not_true, Bool.not_false, Bool.false_eq_true, if_false, if_true, dVar, dC, setT, setTs]
    exact ⟨false, _, rfl, (fun z => absurd z Bool.false_ne_true), fun _ => q⟩
  · show t_check_net_waits C E (fnEnds Q) [some (encN N), some (encW W)] G
    unfold t_check_net_waits
    simp only [dSeq, dIfS, dTst, dTru, dNot, dAnd, dOr, dAndV, dOrV, dNotV, dRet, dRetN, dDrop, dAsg, dNext, dBreak, dCont, dVar, getS, dC, dOp, dChain, dF1, dF2, dCall, dCons, dNil, dTup, dLst, dLstM, dIf, dNeg, uNeg, dLc, dLcM, dItr, dZip, dEnum, dRange1, dRange2, dFor, dPut, dAug, dPar2, dPar3, dSl, dPart, dNoPart, dM1, dM0, dCB, on1, isB, setT, setTs, dRaise, dMk, dYes, dLstRg, dRg1, wipeD, List.set]
    refine checkG hG ⟨encW W, 2, rfl, hW.dat, ?_⟩
    rw [hW.ok]
    simp only [getS, List.set, truD, isB, i2, TT0, true_and, Bool.not_true, Bool.not_false, Bool.false_eq_true, if_false, if_true, dVar, dC, setT, setTs]
    refine lenT ?_
    refine ixT (a := [.str N.lab, .tup (earsD N.ears)]) (i := 0) (d := .str N.lab) rfl ?_
    refine lenLab hG (eqI ?_)
    rw [earsD_len]
    refine ⟨_, _, rfl, fun z => fin_nx (q1 ?_), fun z => q2 ?_⟩
    · have := of_decide_eq_true z; omega
    · have := of_decide_eq_false z; omega
/-! ### clear_links -/
def clearOf (N : Net) (S : List Nat) (st : Nat) : List Pr := if 0 ≤ hears N st S then [((hears N st S).toNat, st)] else []
theorem clearU_flat (N : Net) (S : List Nat) : clearU N S = (List.range N.n).flatMap (clearOf N S) := by
  unfold clearU
  generalize List.range N.n = l
  induction l with
  | nil => rfl
  | cons a l ih =>
    rw [List.flatMap_cons, ← ih]
    unfold clearOf
    by_cases h : 0 ≤ hears N a S
    · rw [List.filterMap_cons, if_pos h, if_pos h] <;> rfl
    · rw [List.filterMap_cons, if_neg h, if_neg h] <;> rfl
theorem clearOf_len (N : Net) (S : List Nat) (st : Nat) : (clearOf N S st).length ≤ 1 := by
  unfold clearOf
  split <;> simp
theorem clear_loop {C : Addr} {Ex : DXK} (E : DEnds) {N : Net} (hG : Good N) {S : List Nat} (hS : S.length ≤ 1000) (p : Addr) (G0 : GH) (n0 : G0 p = none) : ∀ (m i : Nat) (acc : List Pr) (v3 v4 : Option D) (G : GH), i + m = N.n → acc.length + m ≤ 100 → Le G0 G → G p = some (.lst (acc.map encP)) →
    (∀ (v3 v4 : Option D) (G' : GH), Le G0 G' → G' p = some (.lst ((acc ++ (List.range' i m).flatMap (clearOf N S)).map encP)) → E.nx [some (encN N), some (.tup (natsD S)), some (.ref p), v3, v4] G') →
    loopD yes0 (.name 3) (t_clear_links_1 C Ex) E ((List.range' i m).map fun j => .int (j : Nat)) [some (encN N), some (.tup (natsD S)), some (.ref p), v3, v4] G
  | 0, i, acc, v3, v4, G, _, _, l, hp, k => ⟨trivial, k _ _ G l (by simpa using hp)⟩
  | m + 1, i, acc, v3, v4, G, hi, hl, l, hp, k => by
    have hin : i < N.n := by omega
    rw [List.range'_succ, List.map_cons]
    rw [List.range'_succ] at k
    refine ⟨trivial, ?_⟩
    unfold t_clear_links_1
    simp only [dSeq, dIfS, dTst, dTru, dNot, dAnd, dOr, dAndV, dOrV, dNotV, dRet, dRetN, dDrop, dAsg, dNext, dBreak, dCont, dVar, getS, dC, dOp, dChain, dF1, dF2, dCall, dCons, dNil, dTup, dLst, dLstM, dIf, dNeg, uNeg, dLc, dLcM, dItr, dZip, dEnum, dRange1, dRange2, dFor, dPut, dAug, dPar2, dPar3, dSl, dPart, dNoPart, dM1, dM0, dCB, on1, isB, setT, setTs, dRaise, dMk, dYes, dLstRg, dRg1, wipeD, List.set, List.set]
    refine ⟨N, i, S, rfl, hG, hin, hS, ?_⟩
    simp only [geD, getS, List.set, truD, isB, i2, TT0, true_and, Bool.not_true, Bool.not_false, Bool.false_eq_true, if_false, if_true, dVar, dC, setT, setTs]
    by_cases h0 : 0 ≤ hears N i S
    · rw [decide_eq_true h0]
      simp only [getS, List.set, truD, isB, i2, TT0, true_and, Bool.not_true, Bool.not_false, Bool.false_eq_true, if_false, if_true, dVar, dC, setT, setTs]
      refine ownLR hp ⟨sm10 (by simp), getLR hp ⟨by rw [List.length_map, sizeL]; omega, ?_⟩⟩
      have e : acc.map encP ++ [.tup [.int (hears N i S), .int (i : Int)]] = (acc ++ clearOf N S i).map encP := by
        unfold clearOf
        rw [if_pos h0, List.map_append]
        show _ = acc.map encP ++ [D.tup [.int (((hears N i S).toNat : Nat) : Int), .int (i : Int)]]
        rw [Int.toNat_of_nonneg h0]
      rw [e]
      have := clearOf_len N S i
      refine clear_loop (C := C) (Ex := Ex) E hG hS p G0 n0 m (i + 1) _ _ _ _ (by omega) (by rw [List.length_append]; omega) (l.put n0) updG_same fun v3 v4 G' l' g => k v3 v4 G' l' ?_
      rw [g, List.flatMap_cons, List.append_assoc]
    · rw [decide_eq_false h0]
      simp only [getS, List.set, truD, isB, i2, TT0, true_and, Bool.not_true, Bool.not_false, Bool.false_eq_true, if_false, if_true, dVar, dC, setT, setTs]
      refine clear_loop (C := C) (Ex := Ex) E hG hS p G0 n0 m (i + 1) acc _ _ G (by omega) (by omega) l hp fun v3 v4 G' l' g => k v3 v4 G' l' ?_
      have e : clearOf N S i = [] := if_neg h0
      rw [g, List.flatMap_cons, e, List.nil_append]
theorem clearU_len {N : Net} (hG : Good N) (S : List Nat) : (clearU N S).length ≤ 7 := by
  unfold clearU
  exact Nat.le_trans (List.length_filterMap_le _ _) (by rw [List.length_range]; exact hG.top)
theorem clear_sort (N : Net) (S : List Nat) : ((clearU N S).map encP).mergeSort (PySem.W.dataLe false D.py) = (clearL N S).map encP := (PySem.W.sort_maps encP fun a _ b _ => rfl).symm
theorem pure_clear_links {C : Addr} (ds : List D) (G : GH) (Q : DK) (E : DXK) (h : sp_clear_links ds G Q E) : t_clear_links C E (fnEnds Q) (startD N_clear_links ds) G := by
  obtain ⟨N, S, rfl, hG, hS, q⟩ := h
  show t_clear_links C E (fnEnds Q) [some (encN N), some (.tup (natsD S)), none, none, none] G
  unfold t_clear_links
  simp only [dSeq, dIfS, dTst, dTru, dNot, dAnd, dOr, dAndV, dOrV, dNotV, dRet, dRetN, dDrop, dAsg, dNext, dBreak, dCont, dVar, getS, dC, dOp, dChain, dF1, dF2, dCall, dCons, dNil, dTup, dLst, dLstM, dIf, dNeg, uNeg, dLc, dLcM, dItr, dZip, dEnum, dRange1, dRange2, dFor, dPut, dAug, dPar2, dPar3, dSl, dPart, dNoPart, dM1, dM0, dCB, on1, isB, setT, setTs, dRaise, dMk, dYes, dLstRg, dRg1, wipeD, List.set]
  refine ⟨sm10 (by simp), fun p hp => ?_⟩
  refine ixT (a := [.str N.lab, .tup (earsD N.ears)]) (i := 0) (d := .str N.lab) rfl ?_
  refine lenLab hG ?_
  have h7 := hG.top
  refine ⟨⟨by omega, by omega⟩, ?_⟩
  rw [Int.toNat_natCast, rgD_range]
  refine clear_loop (C := C) (Ex := E) _ hG hS p G hp N.n 0 [] _ _ _ (by omega) (by simp; omega) ((Le.refl G).new hp) (by rw [updG_same] <;> rfl) fun v3 v4 G' l g => ?_
  simp only [dSeq, dIfS, dTst, dTru, dNot, dAnd, dOr, dAndV, dOrV, dNotV, dRet, dRetN, dDrop, dAsg, dNext, dBreak, dCont, dVar, getS, dC, dOp, dChain, dF1, dF2, dCall, dCons, dNil, dTup, dLst, dLstM, dIf, dNeg, uNeg, dLc, dLcM, dItr, dZip, dEnum, dRange1, dRange2, dFor, dPut, dAug, dPar2, dPar3, dSl, dPart, dNoPart, dM1, dM0, dCB, on1, isB, setT, setTs, dRaise, dMk, dYes, dLstRg, dRg1, wipeD, List.set]
  rw [List.nil_append, ← List.range_eq_range', ← clearU_flat] at g
  have ea : asQ (.ref p) G' = some ((clearU N S).map encP) := by
    show (match G' p with | some (.lst a) => some a | _ => none) = _
    rw [g] <;> rfl
  unfold sortF
  rw [ea]
  have := clearU_len hG S
  refine ⟨srt_prs (by omega), ?_⟩
  rw [clear_sort]
  exact fin_le l q
end KL


end

section
set_option Elab.async false
set_option linter.all false
set_option maxRecDepth 100000
set_option maxHeartbeats 1000000
open PySem PySem.Spec PyProof.Rows L2 DL
namespace KL
/-! ### who sends -/
theorem send_loop {C : Addr} {Ex : DXK} (E : DEnds) (v0 v1 : Option D) (G : GH) : ∀ (r : List Nat) (l : Nat) (v3 : Option D), E.rt (.bl (sendsB.go l r)) G → (sendsB.go l r = false → ∀ ρ, E.nx ρ G) →
    loopD yes0 (.name 3) (t_does_send_1 C Ex) E (natsD r) [v0, v1, some (.int (l : Int)), v3] G
  | [], l, v3, _, h2 => ⟨trivial, h2 rfl _⟩
  | x :: r, l, v3, h1, h2 => by
    refine ⟨trivial, ?_⟩
    unfold t_does_send_1
    simp only [dSeq, dIfS, dTst, dTru, dNot, dAnd, dOr, dAndV, dOrV, dNotV, dRet, dRetN, dDrop, dAsg, dNext, dBreak, dCont, dVar, getS, dC, dOp, dChain, dF1, dF2, dCall, dCons, dNil, dTup, dLst, dLstM, dIf, dNeg, uNeg, dLc, dLcM, dItr, dZip, dEnum, dRange1, dRange2, dFor, dPut, dAug, dPar2, dPar3, dSl, dPart, dNoPart, dM1, dM0, dCB, on1, isB, setT, setTs, dRaise, dMk, dYes, dLstRg, dRg1, wipeD, List.set, List.set]
    simp only [leD, getS, List.set, truD, isB, i2, TT0, true_and, Bool.not_true, Bool.not_false, Bool.false_eq_true, if_false, if_true, dVar, dC, setT, setTs]
    by_cases hl : l ≤ x
    · rw [show decide ((l : Int) ≤ (x : Int)) = true by rw [decide_eq_true_eq]; omega]
      simp only [getS, List.set, truD, isB, i2, TT0, true_and, Bool.not_true, Bool.not_false, Bool.false_eq_true, if_false, if_true, dVar, dC, setT, setTs]
      refine eqI ?_
      have e : sendsB.go l (x :: r) = decide ((l : Int) = (x : Int)) := by
        show (if l ≤ x then decide (l = x) else _) = _
        rw [if_pos hl]
        congr 1
        apply propext
        omega
      rw [e] at h1
      exact h1
    · rw [show decide ((l : Int) ≤ (x : Int)) = false by rw [decide_eq_false_iff_not]; omega]
      simp only [getS, List.set, truD, isB, i2, TT0, true_and, Bool.not_true, Bool.not_false, Bool.false_eq_true, if_false, if_true, dVar, dC, setT, setTs, addD, subD]
      have e : sendsB.go l (x :: r) = sendsB.go (l - (x + 1)) r := by
        show (if l ≤ x then decide (l = x) else _) = _
        rw [if_neg hl]
      rw [e] at h1 h2
      have ei : (l : Int) - ((x : Int) + 1) = ((l - (x + 1) : Nat) : Int) := by omega
      rw [ei]
      exact send_loop (C := C) (Ex := Ex) E v0 v1 G r (l - (x + 1)) _ h1 h2
theorem fmodN (a b : Nat) : ((a : Nat) : Int).fmod (b : Int) = ((a % b : Nat) : Int) := by
  rw [Int.fmod_eq_emod_of_nonneg _ (by omega)]
  rfl
theorem pure_does_send {C : Addr} (ds : List D) (G : GH) (Q : DK) (E : DXK) (h : sp_does_send ds G Q E) : t_does_send C E (fnEnds Q) (startD N_does_send ds) G := by
  obtain ⟨r, slot, rfl, h1, hl, q⟩ := h
  show t_does_send C E (fnEnds Q) [some (.tup (natsD r)), some (.int (slot : Int)), none, none] G
  unfold t_does_send
  simp only [dSeq, dIfS, dTst, dTru, dNot, dAnd, dOr, dAndV, dOrV, dNotV, dRet, dRetN, dDrop, dAsg, dNext, dBreak, dCont, dVar, getS, dC, dOp, dChain, dF1, dF2, dCall, dCons, dNil, dTup, dLst, dLstM, dIf, dNeg, uNeg, dLc, dLcM, dItr, dZip, dEnum, dRange1, dRange2, dFor, dPut, dAug, dPar2, dPar3, dSl, dPart, dNoPart, dM1, dM0, dCB, on1, isB, setT, setTs, dRaise, dMk, dYes, dLstRg, dRg1, wipeD, List.set]
  refine ⟨r, rfl, hl, ?_⟩
  have hp : rp r ≠ 0 := by unfold rp; omega
  refine ⟨show ((rp r : Nat) : Int) ≠ 0 by omega, ?_⟩
  simp only [fmodN, itD]
  refine send_loop (C := C) (Ex := E) _ _ _ G r (slot % rp r) _ (fin_ret q) fun e ρ => ?_
  simp only [dSeq, dIfS, dTst, dTru, dNot, dAnd, dOr, dAndV, dOrV, dNotV, dRet, dRetN, dDrop, dAsg, dNext, dBreak, dCont, dVar, getS, dC, dOp, dChain, dF1, dF2, dCall, dCons, dNil, dTup, dLst, dLstM, dIf, dNeg, uNeg, dLc, dLcM, dItr, dZip, dEnum, dRange1, dRange2, dFor, dPut, dAug, dPar2, dPar3, dSl, dPart, dNoPart, dM1, dM0, dCB, on1, isB, setT, setTs, dRaise, dMk, dYes, dLstRg, dRg1, wipeD, List.set]
  refine fin_ret ?_
  have e2 : sendsB r slot = false := e
  rw [e2] at q
  exact q
theorem enum_ears : ∀ (W : List (List Nat)) (i : Nat), enumL i (earsD W) = (W.zipIdx i).map fun z => .tup [.int (z.2 : Int), .tup (natsD z.1)]
  | [], _ => rfl
  | r :: W, i => by
    show D.tup [.int (i : Int), .tup (natsD r)] :: enumL (i + 1) (earsD W) = _
    rw [enum_ears W (i + 1)]
    rfl
theorem zip_filter (p : List Nat → Bool) : ∀ (W A : List (List Nat)), ((W.zipIdx A.length).filter fun z => p z.1).map (fun z => D.int (z.2 : Int)) = natsD ((List.range' A.length W.length).filter fun i => p ((A ++ W).getD i []))
  | [], A => rfl
  | r :: W, A => by
    have ih := zip_filter p W (A ++ [r])
    have e1 : (A ++ [r]).length = A.length + 1 := by simp
    rw [e1, List.append_assoc] at ih
    have e2 : (A ++ r :: W).getD A.length [] = r := by simp
    rw [List.zipIdx_cons, List.length_cons, List.range'_succ, List.filter_cons, List.filter_cons, e2]
    split
    · rw [List.map_cons, ih]
      rfl
    · exact ih
theorem pure_senders_in {C : Addr} (ds : List D) (G : GH) (Q : DK) (E : DXK) (h : sp_senders_in ds G Q E) : t_senders_in C E (fnEnds Q) (startD N_senders_in ds) G := by
  obtain ⟨W, slot, rfl, hW, q⟩ := h
  show t_senders_in C E (fnEnds Q) [some (encW W), some (.int (slot : Int)), none, none] G
  unfold t_senders_in
  have h7 := hW.top
  simp only [dSeq, dIfS, dTst, dTru, dNot, dAnd, dOr, dAndV, dOrV, dNotV, dRet, dRetN, dDrop, dAsg, dNext, dBreak, dCont, dVar, getS, dC, dOp, dChain, dF1, dF2, dCall, dCons, dNil, dTup, dLst, dLstM, dIf, dNeg, uNeg, dLc, dLcM, dItr, dZip, dEnum, dRange1, dRange2, dFor, dPut, dAug, dPar2, dPar3, dSl, dPart, dNoPart, dM1, dM0, dCB, on1, isB, setT, setTs, dRaise, dMk, dYes, dLstRg, dRg1, wipeD, List.set]
  simp only [encW, seqD]
  rw [enum_ears]
  refine comp_enc (fun z : List Nat × Nat => .tup [.int (z.2 : Int), .tup (natsD z.1)]) (fun z => sendsB z.1 slot) (fun z => .int (z.2 : Int)) (W.zipIdx 0) ⟨⟩ (fun z hz k k0 h1 h2 => ?_) (by rw [List.length_zipIdx, sizeL]; omega) ?_
  · have hr : z.1 ∈ W := by
      obtain ⟨a, b⟩ := z
      exact (List.mem_zipIdx' hz).2 ▸ List.getElem_mem _
    have h3 := hW.row z.1 hr
    simp only [dSeq, dIfS, dTst, dTru, dNot, dAnd, dOr, dAndV, dOrV, dNotV, dRet, dRetN, dDrop, dAsg, dNext, dBreak, dCont, dVar, getS, dC, dOp, dChain, dF1, dF2, dCall, dCons, dNil, dTup, dLst, dLstM, dIf, dNeg, uNeg, dLc, dLcM, dItr, dZip, dEnum, dRange1, dRange2, dFor, dPut, dAug, dPar2, dPar3, dSl, dPart, dNoPart, dM1, dM0, dCB, on1, isB, setT, setTs, dRaise, dMk, dYes, dLstRg, dRg1, wipeD, List.set, List.set]
    refine ⟨z.1, slot, rfl, h3.1, by omega, ?_⟩
    cases hd : sendsB z.1 slot with
    | true => simp only [truD, if_true]; exact h1 hd
    | false => simp only [truD, Bool.false_eq_true, if_false]; exact h2 hd
  · have e := zip_filter (fun r => sendsB r slot) W []
    have e0 : ([] : List (List Nat)).length = 0 := rfl
    rw [e0] at e
    rw [e, List.nil_append, ← List.range_eq_range']
    simp only [tupF, asQ]
    exact fin_ret q
end KL


end

section
set_option Elab.async false
set_option linter.all false
set_option maxRecDepth 100000
set_option maxHeartbeats 1000000
open PySem PySem.Spec PyProof.Rows L2 DL
namespace KL
/-! ### periods -/
theorem rp_ok {W : Ws} (h : GoodW W) {r : List Nat} (hr : r ∈ W) : 1 ≤ rp r ∧ rp r ≤ 60 := by
  obtain ⟨h1, h2, h3⟩ := h.row r hr
  have key : ∀ l : List Nat, (∀ x ∈ l, x ≤ 9) → l.sum ≤ 9 * l.length := fun l => by
    induction l with
    | nil => intro _; simp
    | cons a l ih =>
      intro hh
      have h1 := hh a (by simp)
      have h2 := ih fun x hx => hh x (by simp [hx])
      rw [List.sum_cons, List.length_cons]
      omega
  have := key r h3
  unfold rp
  omega
def perStep (f : Nat) (r : List Nat) : Nat := f * rp r / Nat.gcd f (rp r)
theorem fdivN (a b : Nat) : ((a : Nat) : Int).fdiv (b : Int) = ((a / b : Nat) : Int) := by
  rw [Int.fdiv_eq_ediv_of_nonneg _ (by omega)]
  rfl
theorem period_loop {C C2 : Addr} {Ex : DXK} (E : DEnds) (v0 : Option D) (G : GH) {W0 : Ws} (hW : GoodW W0) : ∀ (W : Ws) (f : Nat) (v2 v3 : Option D), (∀ r ∈ W, r ∈ W0) → (∀ v2 v3 : Option D, E.nx [v0, some (.int ((W.foldl perStep f : Nat) : Int)), v2, v3] G) →
    loopD yes0 (.name 2) (t_period_of_5 C C2 Ex) E (earsD W) [v0, some (.int (f : Int)), v2, v3] G
  | [], f, v2, v3, _, k => ⟨trivial, k v2 v3⟩
  | r :: W, f, v2, v3, hr, k => by
    obtain ⟨p1, p2⟩ := rp_ok hW (hr r (by simp))
    have hl := (hW.row r (hr r (by simp))).2.1
    refine ⟨trivial, ?_⟩
    show setT _ (.tup (natsD r)) _ _
    unfold t_period_of_5 t_period_of_4 t_period_of_3
    simp only [dSeq, dIfS, dTst, dTru, dNot, dAnd, dOr, dAndV, dOrV, dNotV, dRet, dRetN, dDrop, dAsg, dNext, dBreak, dCont, dVar, getS, dC, dOp, dChain, dF1, dF2, dCall, dCons, dNil, dTup, dLst, dLstM, dIf, dNeg, uNeg, dLc, dLcM, dItr, dZip, dEnum, dRange1, dRange2, dFor, dPut, dAug, dPar2, dPar3, dSl, dPart, dNoPart, dM1, dM0, dCB, on1, isB, setT, setTs, dRaise, dMk, dYes, dLstRg, dRg1, wipeD, List.set, List.set]
    refine ⟨r, rfl, by omega, ?_⟩
    refine ⟨.inr ⟨by omega, by omega⟩, ?_⟩
    refine ⟨f, rp r, rfl, ?_⟩
    have g1 : 1 ≤ Nat.gcd f (rp r) := Nat.gcd_pos_of_pos_right _ (by omega)
    have g2 : Nat.gcd f (rp r) ≤ 60 := Nat.le_trans (Nat.gcd_le_right _ (by omega)) p2
    refine ⟨⟨by omega, by omega⟩, ?_⟩
    have e : ((f : Int) * ((rp r : Nat) : Int)).fdiv ((Nat.gcd f (rp r) : Nat) : Int) = ((perStep f r : Nat) : Int) := by
      have : (f : Int) * ((rp r : Nat) : Int) = ((f * rp r : Nat) : Int) := by rw [Int.natCast_mul]
      rw [this, fdivN]
      rfl
    simp only [e]
    exact period_loop (C := C) (C2 := C2) (Ex := Ex) E v0 G hW W (perStep f r) _ _ (fun x hx => hr x (by simp [hx])) k
theorem pure_period_of {C C2 : Addr} (ds : List D) (G : GH) (Q : DK) (E : DXK) (h : sp_period_of C2 ds G Q E) : t_period_of C C2 E (fnEnds Q) (startD N_period_of ds) G := by
  obtain ⟨W, rfl, hW, q1, q2⟩ := h
  show t_period_of C C2 E (fnEnds Q) [some (encW W), none, none, none] G
  unfold t_period_of t_period_of_7 t_period_of_6 t_period_of_2 t_period_of_1
  simp only [dSeq, dIfS, dTst, dTru, dNot, dAnd, dOr, dAndV, dOrV, dNotV, dRet, dRetN, dDrop, dAsg, dNext, dBreak, dCont, dVar, getS, dC, dOp, dChain, dF1, dF2, dCall, dCons, dNil, dTup, dLst, dLstM, dIf, dNeg, uNeg, dLc, dLcM, dItr, dZip, dEnum, dRange1, dRange2, dFor, dPut, dAug, dPar2, dPar3, dSl, dPart, dNoPart, dM1, dM0, dCB, on1, isB, setT, setTs, dRaise, dMk, dYes, dLstRg, dRg1, wipeD, List.set]
  simp only [encW, itD]
  refine period_loop (C := C) (C2 := C2) (Ex := E) _ _ G hW W 1 _ _ (fun r hr => hr) fun v2 v3 => ?_
  simp only [dSeq, dIfS, dTst, dTru, dNot, dAnd, dOr, dAndV, dOrV, dNotV, dRet, dRetN, dDrop, dAsg, dNext, dBreak, dCont, dVar, getS, dC, dOp, dChain, dF1, dF2, dCall, dCons, dNil, dTup, dLst, dLstM, dIf, dNeg, uNeg, dLc, dLcM, dItr, dZip, dEnum, dRange1, dRange2, dFor, dPut, dAug, dPar2, dPar3, dSl, dPart, dNoPart, dM1, dM0, dCB, on1, isB, setT, setTs, dRaise, dMk, dYes, dLstRg, dRg1, wipeD, List.set, getS, List.set, truD, isB, i2, TT0, true_and, Bool.not_true, Bool.not_false, Bool.false_eq_true, if_false, if_true, dVar, dC, setT, setTs]
  have e : W.foldl perStep 1 = perL W := rfl
  rw [e]
  by_cases h5 : 5000 < perL W
  · rw [show decide ((5000 : Int) < ((perL W : Nat) : Int)) = true by rw [decide_eq_true_eq]; omega]
    simp only [getS, List.set, truD, isB, i2, TT0, true_and, Bool.not_true, Bool.not_false, Bool.false_eq_true, if_false, if_true, dVar, dC, setT, setTs]
    exact q2 h5
  · rw [show decide ((5000 : Int) < ((perL W : Nat) : Int)) = false by rw [decide_eq_false_iff_not]; omega]
    simp only [getS, List.set, truD, isB, i2, TT0, true_and, Bool.not_true, Bool.not_false, Bool.false_eq_true, if_false, if_true, dVar, dC, setT, setTs]
    exact fin_ret (q1 (by omega))
theorem checkW {C : Addr} {W : Ws} (h : GoodW W) {G : GH} {Q : DK} {E : DXK} (q : Q .non G) : sp_check_waits C [encW W] G Q E := ⟨encW W, 2, rfl, h.dat, (fun _ => q), fun e => absurd (h.ok.symm.trans e) (by decide)⟩
theorem checkWB {C : Addr} {d : D} {n : Nat} (hd : dat n d = true) (hw : waitsOk d = false) {G : GH} {Q : DK} {E : DXK} (q : E (bad C "waits") G) : sp_check_waits C [d] G Q E := ⟨d, n, rfl, hd, (fun e => absurd (hw.symm.trans e) (by decide)), fun _ => q⟩
theorem pure_period {C C2 : Addr} (ds : List D) (G : GH) (Q : DK) (E : DXK) (h : sp_period C C2 ds G Q E) : t_period C C2 E (fnEnds Q) (startD N_period ds) G := by
  rcases h with ⟨d, n, rfl, hd, hw, q⟩ | ⟨W, rfl, hW, q1, q2⟩
  · show t_period C C2 E (fnEnds Q) [some d] G
    unfold t_period
    simp only [dSeq, dIfS, dTst, dTru, dNot, dAnd, dOr, dAndV, dOrV, dNotV, dRet, dRetN, dDrop, dAsg, dNext, dBreak, dCont, dVar, getS, dC, dOp, dChain, dF1, dF2, dCall, dCons, dNil, dTup, dLst, dLstM, dIf, dNeg, uNeg, dLc, dLcM, dItr, dZip, dEnum, dRange1, dRange2, dFor, dPut, dAug, dPar2, dPar3, dSl, dPart, dNoPart, dM1, dM0, dCB, on1, isB, setT, setTs, dRaise, dMk, dYes, dLstRg, dRg1, wipeD, List.set]
    exact checkWB hd hw q
  · show t_period C C2 E (fnEnds Q) [some (encW W)] G
    unfold t_period
    simp only [dSeq, dIfS, dTst, dTru, dNot, dAnd, dOr, dAndV, dOrV, dNotV, dRet, dRetN, dDrop, dAsg, dNext, dBreak, dCont, dVar, getS, dC, dOp, dChain, dF1, dF2, dCall, dCons, dNil, dTup, dLst, dLstM, dIf, dNeg, uNeg, dLc, dLcM, dItr, dZip, dEnum, dRange1, dRange2, dFor, dPut, dAug, dPar2, dPar3, dSl, dPart, dNoPart, dM1, dM0, dCB, on1, isB, setT, setTs, dRaise, dMk, dYes, dLstRg, dRg1, wipeD, List.set]
    exact checkW hW ⟨W, rfl, hW, fun h => fin_ret (q1 h), q2⟩
theorem pure_senders_at {C : Addr} (ds : List D) (G : GH) (Q : DK) (E : DXK) (h : sp_senders_at C ds G Q E) : t_senders_at C E (fnEnds Q) (startD N_senders_at ds) G := by
  rcases h with ⟨d, e, n, rfl, hd, hw, q⟩ | ⟨W, e, n, rfl, hW, he, q⟩
  · show t_senders_at C E (fnEnds Q) [some d, some e] G
    unfold t_senders_at
    simp only [dSeq, dIfS, dTst, dTru, dNot, dAnd, dOr, dAndV, dOrV, dNotV, dRet, dRetN, dDrop, dAsg, dNext, dBreak, dCont, dVar, getS, dC, dOp, dChain, dF1, dF2, dCall, dCons, dNil, dTup, dLst, dLstM, dIf, dNeg, uNeg, dLc, dLcM, dItr, dZip, dEnum, dRange1, dRange2, dFor, dPut, dAug, dPar2, dPar3, dSl, dPart, dNoPart, dM1, dM0, dCB, on1, isB, setT, setTs, dRaise, dMk, dYes, dLstRg, dRg1, wipeD, List.set]
    exact checkWB hd hw q
  · show t_senders_at C E (fnEnds Q) [some (encW W), some e] G
    unfold t_senders_at
    simp only [dSeq, dIfS, dTst, dTru, dNot, dAnd, dOr, dAndV, dOrV, dNotV, dRet, dRetN, dDrop, dAsg, dNext, dBreak, dCont, dVar, getS, dC, dOp, dChain, dF1, dF2, dCall, dCons, dNil, dTup, dLst, dLstM, dIf, dNeg, uNeg, dLc, dLcM, dItr, dZip, dEnum, dRange1, dRange2, dFor, dPut, dAug, dPar2, dPar3, dSl, dPart, dNoPart, dM1, dM0, dCB, on1, isB, setT, setTs, dRaise, dMk, dYes, dLstRg, dRg1, wipeD, List.set]
    refine checkW hW ⟨e, 0, 1000000, rfl, dat_ty he, ?_⟩
    rcases q with ⟨hs, q⟩ | ⟨s, rfl, hs, q⟩
    · rw [hs]
      exact ⟨false, _, rfl, (fun z => absurd z Bool.false_ne_true), fun _ => q⟩
    · have hn : isNum (.int (s : Int)) 0 1000000 = true := isNum_nat (a := 0) (b := 1000000) (Nat.zero_le _) hs
      rw [hn]
      exact ⟨true, _, rfl, (fun _ => ⟨W, s, rfl, hW, fin_ret q⟩), fun z => absurd z (by decide)⟩
end KL


end

section
set_option Elab.async false
set_option linter.all false
set_option maxRecDepth 100000
set_option maxHeartbeats 1000000
open PySem PySem.Spec PyProof.Rows L2 DL
namespace KL
/-! ### how often a link is clear -/
theorem sendersL_len {W : Ws} (h : GoodW W) (s : Nat) : (sendersL W s).length ≤ 7 := by
  unfold sendersL
  exact Nat.le_trans (List.length_filter_le _ _) (by rw [List.length_range]; exact h.top)
theorem pure_counts_of {C C2 : Addr} (ds : List D) (G : GH) (Q : DK) (E : DXK) (h : sp_counts_of C2 ds G Q E) : t_counts_of C C2 E (fnEnds Q) (startD N_counts_of ds) G := by
  obtain ⟨N, W, rfl, hG, hW, hl, q1, q2⟩ := h
  show t_counts_of C C2 E (fnEnds Q) [some (encN N), some (encW W), none, none, none, none] G
  unfold t_counts_of
  simp only [dSeq, dIfS, dTst, dTru, dNot, dAnd, dOr, dAndV, dOrV, dNotV, dRet, dRetN, dDrop, dAsg, dNext, dBreak, dCont, dVar, getS, dC, dOp, dChain, dF1, dF2, dCall, dCons, dNil, dTup, dLst, dLstM, dIf, dNeg, uNeg, dLc, dLcM, dItr, dZip, dEnum, dRange1, dRange2, dFor, dPut, dAug, dPar2, dPar3, dSl, dPart, dNoPart, dM1, dM0, dCB, on1, isB, setT, setTs, dRaise, dMk, dYes, dLstRg, dRg1, wipeD, List.set]
  refine ⟨W, rfl, hW, fun h5 => ?_, q2⟩
  refine ⟨⟨by omega, by omega⟩, ?_⟩
  rw [Int.toNat_natCast, rgD_nats]
  have h49 := hG.len_links
  refine comp_each (fun n : Nat => .int (n : Int)) (fun s => .tup ((clearL N (sendersL W s)).map encP)) (List.range (perL W)) trivial (fun s _ k hk => ?_) (by rw [List.length_range, sizeL]; omega) ?_
  · simp only [dSeq, dIfS, dTst, dTru, dNot, dAnd, dOr, dAndV, dOrV, dNotV, dRet, dRetN, dDrop, dAsg, dNext, dBreak, dCont, dVar, getS, dC, dOp, dChain, dF1, dF2, dCall, dCons, dNil, dTup, dLst, dLstM, dIf, dNeg, uNeg, dLc, dLcM, dItr, dZip, dEnum, dRange1, dRange2, dFor, dPut, dAug, dPar2, dPar3, dSl, dPart, dNoPart, dM1, dM0, dCB, on1, isB, setT, setTs, dRaise, dMk, dYes, dLstRg, dRg1, wipeD, List.set, List.set]
    have := sendersL_len hW s
    exact ⟨W, s, rfl, hW, N, sendersL W s, rfl, hG, by omega, hk⟩
  · refine ⟨N, rfl, hG, ?_⟩
    simp only [itD]
    refine comp_each encP (fun l => .int ((countL N W l : Nat) : Int)) (links N) trivial (fun l _ k hk => ?_) (by rw [sizeL]; omega) ?_
    · simp only [dSeq, dIfS, dTst, dTru, dNot, dAnd, dOr, dAndV, dOrV, dNotV, dRet, dRetN, dDrop, dAsg, dNext, dBreak, dCont, dVar, getS, dC, dOp, dChain, dF1, dF2, dCall, dCons, dNil, dTup, dLst, dLstM, dIf, dNeg, uNeg, dLc, dLcM, dItr, dZip, dEnum, dRange1, dRange2, dFor, dPut, dAug, dPar2, dPar3, dSl, dPart, dNoPart, dM1, dM0, dCB, on1, isB, setT, setTs, dRaise, dMk, dYes, dLstRg, dRg1, wipeD, List.set, List.set]
      refine comp_enc (fun s : Nat => .tup ((clearL N (sendersL W s)).map encP)) (fun s => decide (l ∈ clearL N (sendersL W s))) (fun _ => .int 1) (List.range (perL W)) trivial (fun s _ k k0 h1 h2 => ?_) (by rw [List.length_range, sizeL]; omega) ?_
      · simp only [dSeq, dIfS, dTst, dTru, dNot, dAnd, dOr, dAndV, dOrV, dNotV, dRet, dRetN, dDrop, dAsg, dNext, dBreak, dCont, dVar, getS, dC, dOp, dChain, dF1, dF2, dCall, dCons, dNil, dTup, dLst, dLstM, dIf, dNeg, uNeg, dLc, dLcM, dItr, dZip, dEnum, dRange1, dRange2, dFor, dPut, dAug, dPar2, dPar3, dSl, dPart, dNoPart, dM1, dM0, dCB, on1, isB, setT, setTs, dRaise, dMk, dYes, dLstRg, dRg1, wipeD, List.set, List.set]
        refine inPT ?_
        rw [Bool.xor_false]
        cases hd : decide (l ∈ clearL N (sendersL W s)) with
        | true => simp only [isB, if_true]; exact h1 hd
        | false => simp only [isB, Bool.false_eq_true, if_false]; exact h2 hd
      · refine lenL ?_
        rw [List.length_map]
        exact hk
    · have e : (links N).map (fun l => D.int ((countL N W l : Nat) : Int)) = natsD (countsL N W) := by unfold natsD countsL; rw [List.map_map] <;> rfl
      rw [e]
      exact fin_ret (q1 h5)
theorem pure_clear_in_period {C C2 : Addr} (ds : List D) (G : GH) (Q : DK) (E : DXK) (h : sp_clear_in_period C C2 ds G Q E) : t_clear_in_period C C2 E (fnEnds Q) (startD N_clear_in_period ds) G := by
  rcases h with ⟨d, e, rfl, hd, hn, q⟩ | ⟨N, e, n, rfl, hG, hd, hw, q⟩ | ⟨N, W, rfl, hG, hW, hne, q⟩ | ⟨N, W, rfl, hG, hW, hl, q1, q2⟩
  · show t_clear_in_period C C2 E (fnEnds Q) [some d, some e] G
    unfold t_clear_in_period
    simp only [dSeq, dIfS, dTst, dTru, dNot, dAnd, dOr, dAndV, dOrV, dNotV, dRet, dRetN, dDrop, dAsg, dNext, dBreak, dCont, dVar, getS, dC, dOp, dChain, dF1, dF2, dCall, dCons, dNil, dTup, dLst, dLstM, dIf, dNeg, uNeg, dLc, dLcM, dItr, dZip, dEnum, dRange1, dRange2, dFor, dPut, dAug, dPar2, dPar3, dSl, dPart, dNoPart, dM1, dM0, dCB, on1, isB, setT, setTs, dRaise, dMk, dYes, dLstRg, dRg1, wipeD, List.set]
    exact .inl ⟨d, e, rfl, hd, hn, q⟩
  · show t_clear_in_period C C2 E (fnEnds Q) [some (encN N), some e] G
    unfold t_clear_in_period
    simp only [dSeq, dIfS, dTst, dTru, dNot, dAnd, dOr, dAndV, dOrV, dNotV, dRet, dRetN, dDrop, dAsg, dNext, dBreak, dCont, dVar, getS, dC, dOp, dChain, dF1, dF2, dCall, dCons, dNil, dTup, dLst, dLstM, dIf, dNeg, uNeg, dLc, dLcM, dItr, dZip, dEnum, dRange1, dRange2, dFor, dPut, dAug, dPar2, dPar3, dSl, dPart, dNoPart, dM1, dM0, dCB, on1, isB, setT, setTs, dRaise, dMk, dYes, dLstRg, dRg1, wipeD, List.set]
    exact .inr (.inl ⟨N, e, n, rfl, hG, hd, hw, q⟩)
  · show t_clear_in_period C C2 E (fnEnds Q) [some (encN N), some (encW W)] G
    unfold t_clear_in_period
    simp only [dSeq, dIfS, dTst, dTru, dNot, dAnd, dOr, dAndV, dOrV, dNotV, dRet, dRetN, dDrop, dAsg, dNext, dBreak, dCont, dVar, getS, dC, dOp, dChain, dF1, dF2, dCall, dCons, dNil, dTup, dLst, dLstM, dIf, dNeg, uNeg, dLc, dLcM, dItr, dZip, dEnum, dRange1, dRange2, dFor, dPut, dAug, dPar2, dPar3, dSl, dPart, dNoPart, dM1, dM0, dCB, on1, isB, setT, setTs, dRaise, dMk, dYes, dLstRg, dRg1, wipeD, List.set]
    exact .inr (.inr ⟨N, W, rfl, hG, hW, (fun z => absurd z hne), fun _ => q⟩)
  · show t_clear_in_period C C2 E (fnEnds Q) [some (encN N), some (encW W)] G
    unfold t_clear_in_period
    simp only [dSeq, dIfS, dTst, dTru, dNot, dAnd, dOr, dAndV, dOrV, dNotV, dRet, dRetN, dDrop, dAsg, dNext, dBreak, dCont, dVar, getS, dC, dOp, dChain, dF1, dF2, dCall, dCons, dNil, dTup, dLst, dLstM, dIf, dNeg, uNeg, dLc, dLcM, dItr, dZip, dEnum, dRange1, dRange2, dFor, dPut, dAug, dPar2, dPar3, dSl, dPart, dNoPart, dM1, dM0, dCB, on1, isB, setT, setTs, dRaise, dMk, dYes, dLstRg, dRg1, wipeD, List.set]
    refine .inr (.inr ⟨N, W, rfl, hG, hW, (fun _ => ⟨N, W, rfl, hG, hW, hl, fun h5 => ?_, q2⟩), fun z => absurd hl z⟩)
    exact fin_ret (q1 h5)
end KL


end

section
set_option Elab.async false
set_option linter.all false
set_option maxRecDepth 100000
set_option maxHeartbeats 1000000
open PySem PySem.Spec PyProof.Rows L2 DL
namespace KL
theorem zip_counts (f : Pr → Nat) : ∀ L : List Pr, zipL (L.map encP) (natsD (L.map f)) = L.map fun l => .tup [encP l, .int ((f l : Nat) : Int)]
  | [] => rfl
  | l :: L => by
    show D.tup [encP l, .int ((f l : Nat) : Int)] :: zipL (L.map encP) (natsD (L.map f)) = _
    rw [zip_counts f L] <;> rfl
theorem pure_never_clear {C C2 : Addr} (ds : List D) (G : GH) (Q : DK) (E : DXK) (h : sp_never_clear C C2 ds G Q E) : t_never_clear C C2 E (fnEnds Q) (startD N_never_clear ds) G := by
  rcases h with ⟨d, e, rfl, hd, hn, q⟩ | ⟨N, e, n, rfl, hG, hd, hw, q⟩ | ⟨N, W, rfl, hG, hW, hne, q⟩ | ⟨N, W, rfl, hG, hW, hl, q1, q2⟩
  · show t_never_clear C C2 E (fnEnds Q) [some d, some e, none, none] G
    unfold t_never_clear
    simp only [dSeq, dIfS, dTst, dTru, dNot, dAnd, dOr, dAndV, dOrV, dNotV, dRet, dRetN, dDrop, dAsg, dNext, dBreak, dCont, dVar, getS, dC, dOp, dChain, dF1, dF2, dCall, dCons, dNil, dTup, dLst, dLstM, dIf, dNeg, uNeg, dLc, dLcM, dItr, dZip, dEnum, dRange1, dRange2, dFor, dPut, dAug, dPar2, dPar3, dSl, dPart, dNoPart, dM1, dM0, dCB, on1, isB, setT, setTs, dRaise, dMk, dYes, dLstRg, dRg1, wipeD, List.set]
    exact .inl ⟨d, e, rfl, hd, hn, q⟩
  · show t_never_clear C C2 E (fnEnds Q) [some (encN N), some e, none, none] G
    unfold t_never_clear
    simp only [dSeq, dIfS, dTst, dTru, dNot, dAnd, dOr, dAndV, dOrV, dNotV, dRet, dRetN, dDrop, dAsg, dNext, dBreak, dCont, dVar, getS, dC, dOp, dChain, dF1, dF2, dCall, dCons, dNil, dTup, dLst, dLstM, dIf, dNeg, uNeg, dLc, dLcM, dItr, dZip, dEnum, dRange1, dRange2, dFor, dPut, dAug, dPar2, dPar3, dSl, dPart, dNoPart, dM1, dM0, dCB, on1, isB, setT, setTs, dRaise, dMk, dYes, dLstRg, dRg1, wipeD, List.set]
    exact .inr (.inl ⟨N, e, n, rfl, hG, hd, hw, q⟩)
  · show t_never_clear C C2 E (fnEnds Q) [some (encN N), some (encW W), none, none] G
    unfold t_never_clear
    simp only [dSeq, dIfS, dTst, dTru, dNot, dAnd, dOr, dAndV, dOrV, dNotV, dRet, dRetN, dDrop, dAsg, dNext, dBreak, dCont, dVar, getS, dC, dOp, dChain, dF1, dF2, dCall, dCons, dNil, dTup, dLst, dLstM, dIf, dNeg, uNeg, dLc, dLcM, dItr, dZip, dEnum, dRange1, dRange2, dFor, dPut, dAug, dPar2, dPar3, dSl, dPart, dNoPart, dM1, dM0, dCB, on1, isB, setT, setTs, dRaise, dMk, dYes, dLstRg, dRg1, wipeD, List.set]
    exact .inr (.inr ⟨N, W, rfl, hG, hW, (fun z => absurd z hne), fun _ => q⟩)
  · show t_never_clear C C2 E (fnEnds Q) [some (encN N), some (encW W), none, none] G
    unfold t_never_clear
    have h49 := hG.len_links
    simp only [dSeq, dIfS, dTst, dTru, dNot, dAnd, dOr, dAndV, dOrV, dNotV, dRet, dRetN, dDrop, dAsg, dNext, dBreak, dCont, dVar, getS, dC, dOp, dChain, dF1, dF2, dCall, dCons, dNil, dTup, dLst, dLstM, dIf, dNeg, uNeg, dLc, dLcM, dItr, dZip, dEnum, dRange1, dRange2, dFor, dPut, dAug, dPar2, dPar3, dSl, dPart, dNoPart, dM1, dM0, dCB, on1, isB, setT, setTs, dRaise, dMk, dYes, dLstRg, dRg1, wipeD, List.set, dZipM]
    refine .inr (.inr ⟨N, W, rfl, hG, hW, (fun _ => ⟨N, rfl, hG, N, W, rfl, hG, hW, hl, fun h5 => ?_, q2⟩), fun z => absurd hl z⟩)
    refine ⟨⟨rfl, rfl⟩, ?_⟩
    simp only [seqD]
    have ez : zipL ((links N).map encP) (natsD (countsL N W)) = (links N).map fun l => .tup [encP l, .int ((countL N W l : Nat) : Int)] := zip_counts (countL N W) (links N)
    rw [ez]
    refine comp_enc (fun l : Pr => .tup [encP l, .int ((countL N W l : Nat) : Int)]) (fun l => decide (countL N W l = 0)) encP (links N) ⟨trivial, trivial⟩ (fun l _ k k0 h1 h2 => ?_) (by rw [sizeL]; omega) ?_
    · simp only [dSeq, dIfS, dTst, dTru, dNot, dAnd, dOr, dAndV, dOrV, dNotV, dRet, dRetN, dDrop, dAsg, dNext, dBreak, dCont, dVar, getS, dC, dOp, dChain, dF1, dF2, dCall, dCons, dNil, dTup, dLst, dLstM, dIf, dNeg, uNeg, dLc, dLcM, dItr, dZip, dEnum, dRange1, dRange2, dFor, dPut, dAug, dPar2, dPar3, dSl, dPart, dNoPart, dM1, dM0, dCB, on1, isB, setT, setTs, dRaise, dMk, dYes, dLstRg, dRg1, wipeD, List.set, List.set]
      refine eqI ?_
      have ed : decide (((countL N W l : Nat) : Int) = 0) = decide (countL N W l = 0) := by congr 1; apply propext; omega
      rw [ed]
      cases hd : decide (countL N W l = 0) with
      | true => simp only [isB, if_true]; exact h1 hd
      | false => simp only [isB, Bool.false_eq_true, if_false]; exact h2 hd
    · simp only [tupF, asQ]
      exact fin_ret (q1 h5)
end KL


end

section
set_option Elab.async false
set_option linter.all false
set_option maxRecDepth 100000
set_option maxHeartbeats 1000000
open PySem PySem.Spec PyProof.Rows L2 DL
namespace KL
theorem cut_from (ds : List D) (k : Nat) : DL.cutD ds (some ((k : Nat) : Int)) none = ds.drop k := by
  unfold DL.cutD
  rw [HT.sIx_nat, HT.sIx_none]
  by_cases h : k ≤ ds.length
  · rw [Nat.min_eq_left h]
    exact List.take_of_length_le (by rw [List.length_drop]; omega)
  · rw [Nat.min_eq_right (by omega), List.drop_eq_nil_of_le (Nat.le_refl _), List.drop_eq_nil_of_le (by omega)]
    simp
theorem cop_loop {C : Addr} {Ex : DXK} (E : DEnds) (v0 v4 : Option D) (G : GH) : ∀ (r A : List Nat) (v2 v3 v5 : Option D), (A ++ r).length ≤ 100 → (copB r = false → E.rt (.bl false) G) → (copB r = true → ∀ v2 v3 v5 : Option D, E.nx [v0, some (.lst (natsD (A ++ r))), v2, v3, v4, v5] G) →
    loopD yes0 (.tup [.name 2, .name 3]) (t_are_coprime_2 C Ex) E (enumL A.length (natsD r)) [v0, some (.lst (natsD (A ++ r))), v2, v3, v4, v5] G
  | [], A, v2, v3, v5, _, _, h2 => ⟨trivial, h2 rfl _ _ _⟩
  | x :: r, A, v2, v3, v5, hl, h1, h2 => by
    refine ⟨trivial, ?_⟩
    show setT _ (.tup [.int ((A.length : Nat) : Int), .int (x : Int)]) _ _
    unfold t_are_coprime_2
    simp only [dSeq, dIfS, dTst, dTru, dNot, dAnd, dOr, dAndV, dOrV, dNotV, dRet, dRetN, dDrop, dAsg, dNext, dBreak, dCont, dVar, getS, dC, dOp, dChain, dF1, dF2, dCall, dCons, dNil, dTup, dLst, dLstM, dIf, dNeg, uNeg, dLc, dLcM, dItr, dZip, dEnum, dRange1, dRange2, dFor, dPut, dAug, dPar2, dPar3, dSl, dPart, dNoPart, dM1, dM0, dCB, on1, isB, setT, setTs, dRaise, dMk, dYes, dLstRg, dRg1, wipeD, List.set, List.set]
    simp only [addD, slD]
    have ea : ((A.length : Nat) : Int) + 1 = ((A.length + 1 : Nat) : Int) := by omega
    have ed : (natsD (A ++ x :: r)).drop (A.length + 1) = natsD r := by
      rw [natsD_app, List.drop_append]
      rw [List.drop_eq_nil_of_le (by rw [natsD_len]; omega), natsD_len, Nat.add_sub_cancel_left]
      rfl
    rw [ea, cut_from, ed]
    simp only [itD]
    have hr : r.length ≤ 100 := by rw [List.length_append, List.length_cons] at hl; omega
    refine comp_each (fun n : Nat => .int (n : Int)) (fun y => .bl (decide (Nat.gcd x y = 1))) r trivial (fun y _ k hk => ?_) (by rw [sizeL]; omega) ?_
    · simp only [dSeq, dIfS, dTst, dTru, dNot, dAnd, dOr, dAndV, dOrV, dNotV, dRet, dRetN, dDrop, dAsg, dNext, dBreak, dCont, dVar, getS, dC, dOp, dChain, dF1, dF2, dCall, dCons, dNil, dTup, dLst, dLstM, dIf, dNeg, uNeg, dLc, dLcM, dItr, dZip, dEnum, dRange1, dRange2, dFor, dPut, dAug, dPar2, dPar3, dSl, dPart, dNoPart, dM1, dM0, dCB, on1, isB, setT, setTs, dRaise, dMk, dYes, dLstRg, dRg1, wipeD, List.set, List.set]
      refine ⟨x, y, rfl, eqI ?_⟩
      have e : decide (((Nat.gcd x y : Nat) : Int) = 1) = decide (Nat.gcd x y = 1) := by congr 1; apply propext; omega
      rw [e]
      exact hk
    · refine ⟨r.map fun y => decide (Nat.gcd x y = 1), by rw [List.map_map] <;> rfl, ?_⟩
      have eall : (r.map fun y => decide (Nat.gcd x y = 1)).all id = r.all fun y => decide (Nat.gcd x y = 1) := by rw [List.all_map] <;> rfl
      rw [eall]
      have ec : copB (x :: r) = ((r.all fun y => decide (Nat.gcd x y = 1)) && copB r) := rfl
      rw [ec] at h1 h2
      cases hb : r.all fun y => decide (Nat.gcd x y = 1) with
      | false =>
        rw [hb] at h1
        simp only [getS, List.set, truD, isB, i2, TT0, true_and, Bool.not_true, Bool.not_false, Bool.false_eq_true, if_false, if_true, dVar, dC, setT, setTs]
        exact h1 rfl
      | true =>
        rw [hb, Bool.true_and] at h1 h2
        simp only [getS, List.set, truD, isB, i2, TT0, true_and, Bool.not_true, Bool.not_false, Bool.false_eq_true, if_false, if_true, dVar, dC, setT, setTs]
        have eA : A ++ x :: r = (A ++ [x]) ++ r := by simp
        have el : A.length + 1 = (A ++ [x]).length := by simp
        rw [eA] at h2 hl ⊢
        rw [el]
        exact cop_loop (C := C) (Ex := Ex) E v0 v4 G r (A ++ [x]) _ _ _ hl h1 h2
def one1 (r : List Nat) : Bool := decide (r.length = 1) && decide (0 < r.getD 0 0)
theorem pure_are_coprime {C : Addr} (ds : List D) (G : GH) (Q : DK) (E : DXK) (h : sp_are_coprime C ds G Q E) : t_are_coprime C E (fnEnds Q) (startD N_are_coprime ds) G := by
  rcases h with ⟨d, n, rfl, hd, hw, q⟩ | ⟨W, rfl, hW, q⟩
  · show t_are_coprime C E (fnEnds Q) [some d, none, none, none, none, none] G
    unfold t_are_coprime t_are_coprime_6
    simp only [dSeq, dIfS, dTst, dTru, dNot, dAnd, dOr, dAndV, dOrV, dNotV, dRet, dRetN, dDrop, dAsg, dNext, dBreak, dCont, dVar, getS, dC, dOp, dChain, dF1, dF2, dCall, dCons, dNil, dTup, dLst, dLstM, dIf, dNeg, uNeg, dLc, dLcM, dItr, dZip, dEnum, dRange1, dRange2, dFor, dPut, dAug, dPar2, dPar3, dSl, dPart, dNoPart, dM1, dM0, dCB, on1, isB, setT, setTs, dRaise, dMk, dYes, dLstRg, dRg1, wipeD, List.set]
    exact checkWB hd hw q
  · show t_are_coprime C E (fnEnds Q) [some (encW W), none, none, none, none, none] G
    unfold t_are_coprime t_are_coprime_6 t_are_coprime_5 t_are_coprime_4 t_are_coprime_3 t_are_coprime_1
    have h7 := hW.top
    simp only [dSeq, dIfS, dTst, dTru, dNot, dAnd, dOr, dAndV, dOrV, dNotV, dRet, dRetN, dDrop, dAsg, dNext, dBreak, dCont, dVar, getS, dC, dOp, dChain, dF1, dF2, dCall, dCons, dNil, dTup, dLst, dLstM, dIf, dNeg, uNeg, dLc, dLcM, dItr, dZip, dEnum, dRange1, dRange2, dFor, dPut, dAug, dPar2, dPar3, dSl, dPart, dNoPart, dM1, dM0, dCB, on1, isB, setT, setTs, dRaise, dMk, dYes, dLstRg, dRg1, wipeD, List.set]
    refine checkW hW ?_
    simp only [encW, itD, earsD]
    refine comp_each (fun r : List Nat => .tup (natsD r)) (fun r => .bl (one1 r)) W trivial (fun r hr k hk => ?_) (by rw [sizeL]; omega) ?_
    · have h3 := hW.row r hr
      simp only [dSeq, dIfS, dTst, dTru, dNot, dAnd, dOr, dAndV, dOrV, dNotV, dRet, dRetN, dDrop, dAsg, dNext, dBreak, dCont, dVar, getS, dC, dOp, dChain, dF1, dF2, dCall, dCons, dNil, dTup, dLst, dLstM, dIf, dNeg, uNeg, dLc, dLcM, dItr, dZip, dEnum, dRange1, dRange2, dFor, dPut, dAug, dPar2, dPar3, dSl, dPart, dNoPart, dM1, dM0, dCB, on1, isB, setT, setTs, dRaise, dMk, dYes, dLstRg, dRg1, wipeD, List.set, List.set]
      refine lenT (eqI ?_)
      rw [natsD_len]
      unfold one1 at hk
      by_cases h1 : r.length = 1
      · rw [show decide ((r.length : Int) = 1) = true by rw [decide_eq_true_eq]; omega]
        rw [decide_eq_true h1, Bool.true_and] at hk
        simp only [getS, List.set, truD, isB, i2, TT0, true_and, Bool.not_true, Bool.not_false, Bool.false_eq_true, if_false, if_true, dVar, dC, setT, setTs]
        refine ixT (L2.atI_nat (natsD_get (show 0 < r.length by omega))) ?_
        simp only [gtD, getS, List.set, truD, isB, i2, TT0, true_and, Bool.not_true, Bool.not_false, Bool.false_eq_true, if_false, if_true, dVar, dC, setT, setTs]
        have e : decide ((0 : Int) < ((r.getD 0 0 : Nat) : Int)) = decide (0 < r.getD 0 0) := by congr 1; apply propext; omega
        rw [e]
        exact hk
      · rw [show decide ((r.length : Int) = 1) = false by rw [decide_eq_false_iff_not]; omega]
        rw [decide_eq_false h1, Bool.false_and] at hk
        simp only [getS, List.set, truD, isB, i2, TT0, true_and, Bool.not_true, Bool.not_false, Bool.false_eq_true, if_false, if_true, dVar, dC, setT, setTs]
        exact hk
    · refine ⟨W.map one1, by rw [List.map_map] <;> rfl, ?_⟩
      have eall : (W.map one1).all id = oneB W := by rw [List.all_map] <;> rfl
      rw [eall]
      cases hb : oneB W with
      | false =>
        rw [hb, Bool.false_and] at q
        simp only [getS, List.set, truD, isB, i2, TT0, true_and, Bool.not_true, Bool.not_false, Bool.false_eq_true, if_false, if_true, dVar, dC, setT, setTs]
        exact fin_ret q
      | true =>
        rw [hb, Bool.true_and] at q
        simp only [getS, List.set, truD, isB, i2, TT0, true_and, Bool.not_true, Bool.not_false, Bool.false_eq_true, if_false, if_true, dVar, dC, setT, setTs]
        refine comp_each (fun r : List Nat => .tup (natsD r)) (fun r => .int ((rp r : Nat) : Int)) W trivial (fun r hr k hk => ?_) (by rw [sizeL]; omega) ?_
        · have h3 := hW.row r hr
          simp only [dSeq, dIfS, dTst, dTru, dNot, dAnd, dOr, dAndV, dOrV, dNotV, dRet, dRetN, dDrop, dAsg, dNext, dBreak, dCont, dVar, getS, dC, dOp, dChain, dF1, dF2, dCall, dCons, dNil, dTup, dLst, dLstM, dIf, dNeg, uNeg, dLc, dLcM, dItr, dZip, dEnum, dRange1, dRange2, dFor, dPut, dAug, dPar2, dPar3, dSl, dPart, dNoPart, dM1, dM0, dCB, on1, isB, setT, setTs, dRaise, dMk, dYes, dLstRg, dRg1, wipeD, List.set, List.set]
          exact ⟨r, rfl, by omega, hk⟩
        · have e : W.map (fun r => D.int ((rp r : Nat) : Int)) = natsD (W.map rp) := by unfold natsD; rw [List.map_map] <;> rfl
          rw [e]
          simp only [seqD]
          refine cop_loop (C := C) (Ex := E) _ _ _ G (W.map rp) [] _ _ _ (by rw [List.nil_append, List.length_map]; omega) (fun z => ?_) fun z v2 v3 v5 => ?_
          · rw [z] at q
            exact fin_ret q
          · simp only [dSeq, dIfS, dTst, dTru, dNot, dAnd, dOr, dAndV, dOrV, dNotV, dRet, dRetN, dDrop, dAsg, dNext, dBreak, dCont, dVar, getS, dC, dOp, dChain, dF1, dF2, dCall, dCons, dNil, dTup, dLst, dLstM, dIf, dNeg, uNeg, dLc, dLcM, dItr, dZip, dEnum, dRange1, dRange2, dFor, dPut, dAug, dPar2, dPar3, dSl, dPart, dNoPart, dM1, dM0, dCB, on1, isB, setT, setTs, dRaise, dMk, dYes, dLstRg, dRg1, wipeD, List.set]
            rw [z] at q
            exact fin_ret q
end KL


end

section
set_option Elab.async false
set_option linter.all false
set_option maxRecDepth 100000
set_option maxHeartbeats 1000000
open PySem PySem.Spec PyProof.Rows L2 DL
namespace KL
theorem lcommon_loop {C : Addr} {Ex : DXK} (E : DEnds) (G : GH) (g : Nat) (k : E.rt (.int (g : Int)) G) : ∀ (ds : List D) (a b : Nat) (v2 : Option D), b < ds.length → Nat.gcd a b = g →
    loopD yes0 (.name 2) (t__law_common_1 C Ex) E ds [some (.int (a : Int)), some (.int (b : Int)), v2] G
  | [], _, _, _, h, _ => absurd h (Nat.not_lt_zero _)
  | d :: ds, a, b, v2, h, hg => by
    rw [List.length_cons] at h
    refine ⟨trivial, ?_⟩
    unfold t__law_common_1
    simp only [dSeq, dIfS, dTst, dTru, dNot, dAnd, dOr, dAndV, dOrV, dNotV, dRet, dRetN, dDrop, dAsg, dNext, dBreak, dCont, dVar, getS, dC, dOp, dChain, dF1, dF2, dCall, dCons, dNil, dTup, dLst, dLstM, dIf, dNeg, uNeg, dLc, dLcM, dItr, dZip, dEnum, dRange1, dRange2, dFor, dPut, dAug, dPar2, dPar3, dSl, dPart, dNoPart, dM1, dM0, dCB, on1, isB, setT, setTs, dRaise, dMk, dYes, dLstRg, dRg1, wipeD, List.set, List.set]
    refine eqI ?_
    by_cases hb : b = 0
    · subst hb
      rw [show decide (((0 : Nat) : Int) = 0) = true from rfl]
      simp only [getS, List.set, truD, isB, i2, TT0, true_and, Bool.not_true, Bool.not_false, Bool.false_eq_true, if_false, if_true, dVar, dC, setT, setTs]
      rw [Nat.gcd_zero_right] at hg
      rw [hg]
      exact k
    · rw [show decide ((b : Int) = 0) = false by rw [decide_eq_false_iff_not]; omega]
      simp only [getS, List.set, truD, isB, i2, TT0, true_and, Bool.not_true, Bool.not_false, Bool.false_eq_true, if_false, if_true, dVar, dC, setT, setTs, intF]
      refine ⟨show (b : Int) ≠ 0 by omega, ?_⟩
      simp only [fmodN]
      have hm := Nat.mod_lt a (show 0 < b by omega)
      refine lcommon_loop (C := C) (Ex := Ex) E G g k ds b (a % b) _ (by omega) ?_
      rw [← hg, Nat.gcd_comm b, ← Nat.gcd_rec, Nat.gcd_comm]
theorem pure__law_common {C : Addr} (ds : List D) (G : GH) (Q : DK) (E : DXK) (h : sp__law_common ds G Q E) : t__law_common C E (fnEnds Q) (startD N__law_common ds) G := by
  obtain ⟨a, b, rfl, hb, q⟩ := h
  show t__law_common C E (fnEnds Q) [some (.int (a : Int)), some (.int (b : Int)), none] G
  unfold t__law_common
  simp only [dSeq, dIfS, dTst, dTru, dNot, dAnd, dOr, dAndV, dOrV, dNotV, dRet, dRetN, dDrop, dAsg, dNext, dBreak, dCont, dVar, getS, dC, dOp, dChain, dF1, dF2, dCall, dCons, dNil, dTup, dLst, dLstM, dIf, dNeg, uNeg, dLc, dLcM, dItr, dZip, dEnum, dRange1, dRange2, dFor, dPut, dAug, dPar2, dPar3, dSl, dPart, dNoPart, dM1, dM0, dCB, on1, isB, setT, setTs, dRaise, dMk, dYes, dLstRg, dRg1, wipeD, List.set]
  refine ⟨⟨by decide, by decide⟩, ?_⟩
  refine lcommon_loop (C := C) (Ex := E) _ G (Nat.gcd a b) ?_ _ a b _ ?_ rfl
  · exact fin_ret q
  show b < (rgD 0 200).length
  rw [rgD_nats, natsD_len, List.length_range]
  omega
theorem pattern_loop {C : Addr} {Ex : DXK} (E : DEnds) (v0 : Option D) (G : GH) : ∀ (r acc : List Nat) (v2 : Option D), (∀ x ∈ r, x ≤ 9) → acc.length + 10 * r.length ≤ 1000 → (∀ v2 : Option D, E.nx [v0, some (.lst (natsD (acc ++ patL r))), v2] G) →
    loopD yes0 (.name 2) (t__law_pattern_1 C Ex) E (natsD r) [v0, some (.lst (natsD acc)), v2] G
  | [], acc, v2, _, _, k => ⟨trivial, by simpa [patL] using k v2⟩
  | x :: r, acc, v2, h9, hl, k => by
    have hx := h9 x (by simp)
    rw [List.length_cons] at hl
    refine ⟨trivial, ?_⟩
    show setT _ (.int (x : Int)) _ _
    unfold t__law_pattern_1
    simp only [dSeq, dIfS, dTst, dTru, dNot, dAnd, dOr, dAndV, dOrV, dNotV, dRet, dRetN, dDrop, dAsg, dNext, dBreak, dCont, dVar, getS, dC, dOp, dChain, dF1, dF2, dCall, dCons, dNil, dTup, dLst, dLstM, dIf, dNeg, uNeg, dLc, dLcM, dItr, dZip, dEnum, dRange1, dRange2, dFor, dPut, dAug, dPar2, dPar3, dSl, dPart, dNoPart, dM1, dM0, dCB, on1, isB, setT, setTs, dRaise, dMk, dYes, dLstRg, dRg1, wipeD, List.set, List.set]
    refine ⟨sm10 (by simp), ⟨by omega, by omega, ?_⟩, ?_⟩
    · rw [sizeL, Int.toNat_natCast]; simp; omega
    · rw [Int.toNat_natCast]
      have e0 : (List.replicate x [D.int 0]).flatten = natsD (List.replicate x 0) := by
        unfold natsD
        rw [List.map_replicate, List.flatten_replicate_singleton]
        rfl
      rw [e0]
      simp only [addD, catD, asL]
      refine ⟨by rw [natsD_len, natsD_len, List.length_replicate, sizeL]; omega, sm10 (by simp), ?_⟩
      refine ⟨by rw [List.length_append, natsD_len, natsD_len, List.length_replicate, sizeL]; simp; omega, ?_⟩
      have e1 : natsD acc ++ natsD (List.replicate x 0) ++ [D.int 1] = natsD (acc ++ (List.replicate x 0 ++ [1])) := by
        rw [natsD_app, natsD_app, List.append_assoc] <;> rfl
      rw [e1]
      refine pattern_loop (C := C) (Ex := Ex) E v0 G r _ _ (fun y hy => h9 y (by simp [hy])) (by simp; omega) fun v2 => ?_
      have := k v2
      have e2 : patL (x :: r) = (List.replicate x 0 ++ [1]) ++ patL r := rfl
      rw [e2, ← List.append_assoc] at this
      exact this
theorem pure__law_pattern {C : Addr} (ds : List D) (G : GH) (Q : DK) (E : DXK) (h : sp__law_pattern ds G Q E) : t__law_pattern C E (fnEnds Q) (startD N__law_pattern ds) G := by
  obtain ⟨r, rfl, h6, h9, q⟩ := h
  show t__law_pattern C E (fnEnds Q) [some (.tup (natsD r)), none, none] G
  unfold t__law_pattern
  simp only [dSeq, dIfS, dTst, dTru, dNot, dAnd, dOr, dAndV, dOrV, dNotV, dRet, dRetN, dDrop, dAsg, dNext, dBreak, dCont, dVar, getS, dC, dOp, dChain, dF1, dF2, dCall, dCons, dNil, dTup, dLst, dLstM, dIf, dNeg, uNeg, dLc, dLcM, dItr, dZip, dEnum, dRange1, dRange2, dFor, dPut, dAug, dPar2, dPar3, dSl, dPart, dNoPart, dM1, dM0, dCB, on1, isB, setT, setTs, dRaise, dMk, dYes, dLstRg, dRg1, wipeD, List.set]
  refine ⟨sm10 (by simp), ?_⟩
  simp only [itD]
  exact pattern_loop (C := C) (Ex := E) _ _ G r [] _ h9 (by simp; omega) fun v2 => fin_ret q
end KL


end

section
set_option Elab.async false
set_option linter.all false
set_option maxRecDepth 100000
set_option maxHeartbeats 1000000
open PySem PySem.Spec PyProof.Rows L2 DL
namespace KL
theorem ints_of {ok : Nat → Prop} : ∀ ys : List D, (∀ y ∈ ys, ∃ x : Nat, y = .int (x : Int) ∧ ok x) → ∃ ns : List Nat, ys = natsD ns ∧ ∀ x ∈ ns, ok x
  | [], _ => ⟨[], rfl, by simp⟩
  | y :: ys, h => by
    obtain ⟨ns, e1, e2⟩ := ints_of ys fun z hz => h z (by simp [hz])
    obtain ⟨x, e, hx⟩ := h y (by simp)
    refine ⟨x :: ns, by rw [e1, e] <;> rfl, fun z hz => ?_⟩
    rcases List.mem_cons.mp hz with e | hz
    · rw [e]; exact hx
    · exact e2 z hz
theorem earsD_app (A B : List (List Nat)) : earsD (A ++ B) = earsD A ++ earsD B := by unfold earsD; rw [List.map_append]
theorem waits_loop {C : Addr} {Ex : DXK} (E : DEnds) {xs : Scr} (hx : xs.length ≤ datL) (p f : Addr) (hne : f ≠ p) (G0 : GH) (n0 : G0 f = none) (v1 : Option D) : ∀ (ds : List D) (acc : Ws) (v3 v4 : Option D) (G : GH), acc.length + ds.length ≤ 100 → Small acc → On G0 p xs G → G f = some (.lst (earsD acc)) →
    (∀ (W : Ws) (v3 v4 : Option D) (G' : GH), W.length = acc.length + ds.length → Small W → On G0 p xs G' → G' f = some (.lst (earsD W)) → E.nx [some (.ref p), v1, some (.ref f), v3, v4] G') →
    loopD yes0 (.name 3) (t__law_waits_3 C Ex) E ds [some (.ref p), v1, some (.ref f), v3, v4] G
  | [], acc, v3, v4, G, _, hS, hO, hf, k => ⟨trivial, k acc _ _ G (by simp) hS hO hf⟩
  | d :: ds, acc, v3, v4, G, hl, hS, hO, hf, k => by
    rw [List.length_cons] at hl
    refine ⟨trivial, ?_⟩
    unfold t__law_waits_3
    simp only [dSeq, dIfS, dTst, dTru, dNot, dAnd, dOr, dAndV, dOrV, dNotV, dRet, dRetN, dDrop, dAsg, dNext, dBreak, dCont, dVar, getS, dC, dOp, dChain, dF1, dF2, dCall, dCons, dNil, dTup, dLst, dLstM, dIf, dNeg, uNeg, dLc, dLcM, dItr, dZip, dEnum, dRange1, dRange2, dFor, dPut, dAug, dPar2, dPar3, dSl, dPart, dNoPart, dM1, dM0, dCB, on1, isB, setT, setTs, dRaise, dMk, dYes, dLstRg, dRg1, wipeD, List.set, List.set]
    refine ownLR hf ?_
    refine ⟨sm10 (by simp), p, .lst [.int 1, .int 1, .int 1, .int 2, .int 3], 5, (fun d => ∃ n : Nat, d = .int (n : Int) ∧ 1 ≤ n ∧ n ≤ 3), xs, rfl, by decide, .inl ⟨_, .inl rfl, rfl, fun d hd => ?_⟩, hx, hO.row, fun d a1 a2 a3 hd => ?_⟩
    · simp only [List.mem_cons, List.not_mem_nil, or_false] at hd
      rcases hd with rfl | rfl | rfl | rfl | rfl
      · exact ⟨1, rfl, by decide, by decide⟩
      · exact ⟨1, rfl, by decide, by decide⟩
      · exact ⟨1, rfl, by decide, by decide⟩
      · exact ⟨2, rfl, by decide, by decide⟩
      · exact ⟨3, rfl, by decide, by decide⟩
    · obtain ⟨n, rfl, h1, h3⟩ := hd
      refine ⟨⟨by omega, by omega⟩, ?_⟩
      rw [Int.toNat_natCast]
      have hrl : (rgD 0 n).length = n := by rw [rgD_nats, natsD_len, List.length_range]
      refine comp_stY (I := fun G1 => On G0 p xs G1 ∧ G1 f = some (.lst (earsD acc))) (ok := fun y => ∃ x : Nat, y = .int (x : Int) ∧ x ≤ 3) (fun _ _ => trivial) (rgD 0 n) [] _ ⟨hO.put, by rw [updG_ne hne]; exact hf⟩ (fun d hd G1 hI k hk => ?_) (by rw [hrl, sizeL]; simp; omega) fun ys G1 hys hok hI => ?_
      · obtain ⟨i, _, rfl⟩ := List.mem_map.mp hd
        simp only [dSeq, dIfS, dTst, dTru, dNot, dAnd, dOr, dAndV, dOrV, dNotV, dRet, dRetN, dDrop, dAsg, dNext, dBreak, dCont, dVar, getS, dC, dOp, dChain, dF1, dF2, dCall, dCons, dNil, dTup, dLst, dLstM, dIf, dNeg, uNeg, dLc, dLcM, dItr, dZip, dEnum, dRange1, dRange2, dFor, dPut, dAug, dPar2, dPar3, dSl, dPart, dNoPart, dM1, dM0, dCB, on1, isB, setT, setTs, dRaise, dMk, dYes, dLstRg, dRg1, wipeD, List.set, List.set]
        exact ⟨p, 4, xs, rfl, by decide, by decide, hx, hI.1.row, fun v b1 b2 b3 hv => hk _ _ ⟨v, rfl, by omega⟩ ⟨hI.1.put, by rw [updG_ne hne]; exact hI.2⟩⟩
      · rw [hrl] at hys
        obtain ⟨r, e, hr⟩ := ints_of ys hok
        subst e
        rw [natsD_len] at hys
        rw [List.nil_append]
        simp only [tupF, asQ]
        refine getLR hI.2 ⟨by rw [earsD_len, sizeL]; omega, ?_⟩
        have e : earsD acc ++ [.tup (natsD r)] = earsD (acc ++ [r]) := by rw [earsD_app] <;> rfl
        rw [e]
        refine waits_loop (C := C) (Ex := Ex) E hx p f hne G0 n0 v1 ds (acc ++ [r]) _ _ _ (by rw [List.length_append]; simp; omega) ⟨fun z hz => ?_⟩ (hI.1.set hne n0) updG_same fun W v3 v4 G' hl' => k W v3 v4 G' (by rw [hl', List.length_append, List.length_cons]; simp; omega)
        rcases List.mem_append.mp hz with hz | hz
        · exact hS.row z hz
        · rw [List.mem_singleton.mp hz]
          exact ⟨by omega, by omega, fun x hx => by have := hr x hx; omega⟩
end KL


end

section
set_option Elab.async false
set_option linter.all false
set_option maxRecDepth 100000
set_option maxHeartbeats 1000000
open PySem PySem.Spec PyProof.Rows L2 DL
namespace KL
def wv (i : Nat) : Nat := [1, 2, 4, 6].getD i 1
def wvD : List D := [.int 1, .int 2, .int 4, .int 6]
theorem wv_at {i : Nat} (h : i < 4) : wvD[i]? = some (.int ((wv i : Nat) : Int)) ∧ wv i ≤ 6 := by
  match i, h with
  | 0, _ => exact ⟨rfl, by decide⟩
  | 1, _ => exact ⟨rfl, by decide⟩
  | 2, _ => exact ⟨rfl, by decide⟩
  | 3, _ => exact ⟨rfl, by decide⟩
theorem pure__law_waits {C : Addr} (ds : List D) (G : GH) (Q : DK) (E : DXK) (h : sp__law_waits ds G Q E) : t__law_waits C E (fnEnds Q) (startD N__law_waits ds) G := by
  obtain ⟨p, many, xs, rfl, h1, h5, hx, hr, q⟩ := h
  show t__law_waits C E (fnEnds Q) [some (.ref p), some (.int (many : Int)), none, none, none] G
  unfold t__law_waits t__law_waits_5 t__law_waits_4 t__law_waits_2 t__law_waits_1
  simp only [dSeq, dIfS, dTst, dTru, dNot, dAnd, dOr, dAndV, dOrV, dNotV, dRet, dRetN, dDrop, dAsg, dNext, dBreak, dCont, dVar, getS, dC, dOp, dChain, dF1, dF2, dCall, dCons, dNil, dTup, dLst, dLstM, dIf, dNeg, uNeg, dLc, dLcM, dItr, dZip, dEnum, dRange1, dRange2, dFor, dPut, dAug, dPar2, dPar3, dSl, dPart, dNoPart, dM1, dM0, dCB, on1, isB, setT, setTs, dRaise, dMk, dYes, dLstRg, dRg1, wipeD, List.set]
  have hO : On G p xs G := On.start hr
  refine ⟨sm10 (by simp), fun f hf => ⟨⟨by omega, by omega⟩, ?_⟩⟩
  have hne := (hO.none hf).1
  have hrl : (rgD 0 ((many : Nat) : Int).toNat).length = many := by rw [rgD_nats, natsD_len, List.length_range, Int.toNat_natCast]
  refine waits_loop (C := C) (Ex := E) _ hx p f hne G hf _ _ [] _ _ _ (by rw [hrl]; simp; omega) ⟨by simp⟩ (hO.new hf) (by rw [updG_same] <;> rfl) fun W v3 v4 G1 hl hS hO1 g => ?_
  rw [hrl] at hl
  have hWl : W.length = many := by simpa using hl
  have fin : ∀ G2, On G p xs G2 → (fnEnds Q).rt (encW W) G2 := fun G2 h2 => h2.fin fun at_ a b => q W at_ a b hWl hS
  simp only [dSeq, dIfS, dTst, dTru, dNot, dAnd, dOr, dAndV, dOrV, dNotV, dRet, dRetN, dDrop, dAsg, dNext, dBreak, dCont, dVar, getS, dC, dOp, dChain, dF1, dF2, dCall, dCons, dNil, dTup, dLst, dLstM, dIf, dNeg, uNeg, dLc, dLcM, dItr, dZip, dEnum, dRange1, dRange2, dFor, dPut, dAug, dPar2, dPar3, dSl, dPart, dNoPart, dM1, dM0, dCB, on1, isB, setT, setTs, dRaise, dMk, dYes, dLstRg, dRg1, wipeD, List.set, ltD, getS, List.set, truD, isB, i2, TT0, true_and, Bool.not_true, Bool.not_false, Bool.false_eq_true, if_false, if_true, dVar, dC, setT, setTs]
  by_cases hm : many < 5
  · rw [show decide ((many : Int) < 5) = true by rw [decide_eq_true_eq]; omega]
    simp only [getS, List.set, truD, isB, i2, TT0, true_and, Bool.not_true, Bool.not_false, Bool.false_eq_true, if_false, if_true, dVar, dC, setT, setTs]
    refine ⟨p, 3, xs, rfl, by decide, by decide, hx, hO1.row, fun v a1 a2 a3 hv => eqI ?_⟩
    have hO2 := hO1.put (at_ := a1) (a := a2) (b := a3)
    cases hd : decide ((v : Int) = 0) with
    | false =>
      simp only [getS, List.set, truD, isB, i2, TT0, true_and, Bool.not_true, Bool.not_false, Bool.false_eq_true, if_false, if_true, dVar, dC, setT, setTs]
      exact tupR (show (updG G1 p (rowG xs a1 a2 a3)) f = some (.lst (earsD W)) by rw [updG_ne hne]; exact g) (fin _ hO2)
    | true =>
      simp only [getS, List.set, truD, isB, i2, TT0, true_and, Bool.not_true, Bool.not_false, Bool.false_eq_true, if_false, if_true, dVar, dC, setT, setTs]
      refine ⟨⟨by omega, by omega⟩, ?_⟩
      rw [Int.toNat_natCast, rgD_nats]
      refine comp_each (fun n : Nat => .int (n : Int)) (fun i => .tup (natsD [wv i])) (List.range many) trivial (fun i hi k hk => ?_) (by rw [List.length_range, sizeL]; omega) ?_
      · have hi := List.mem_range.mp hi
        obtain ⟨e1, _⟩ := wv_at (show i < 4 by omega)
        simp only [dSeq, dIfS, dTst, dTru, dNot, dAnd, dOr, dAndV, dOrV, dNotV, dRet, dRetN, dDrop, dAsg, dNext, dBreak, dCont, dVar, getS, dC, dOp, dChain, dF1, dF2, dCall, dCons, dNil, dTup, dLst, dLstM, dIf, dNeg, uNeg, dLc, dLcM, dItr, dZip, dEnum, dRange1, dRange2, dFor, dPut, dAug, dPar2, dPar3, dSl, dPart, dNoPart, dM1, dM0, dCB, on1, isB, setT, setTs, dRaise, dMk, dYes, dLstRg, dRg1, wipeD, List.set, List.set]
        exact ⟨sm10 (by simp), ixT (a := wvD) (L2.atI_nat e1) ⟨sm10 (by simp), hk⟩⟩
      · refine fun f2 hf2 => ?_
        have e : (List.range many).map (fun i => D.tup (natsD [wv i])) = earsD ((List.range many).map fun i => [wv i]) := by unfold earsD; rw [List.map_map] <;> rfl
        rw [e]
        refine tupR updG_same ((hO2.new hf2).fin fun at_ a b => q ((List.range many).map fun i => [wv i]) at_ a b (by rw [List.length_map, List.length_range]) ⟨fun r hr => ?_⟩)
        obtain ⟨i, hi, rfl⟩ := List.mem_map.mp hr
        have := (wv_at (show i < 4 by have := List.mem_range.mp hi; omega)).2
        exact ⟨by simp, by simp, fun x hx => by rw [List.mem_singleton.mp hx]; exact this⟩
  · rw [show decide ((many : Int) < 5) = false by rw [decide_eq_false_iff_not]; omega]
    simp only [getS, List.set, truD, isB, i2, TT0, true_and, Bool.not_true, Bool.not_false, Bool.false_eq_true, if_false, if_true, dVar, dC, setT, setTs]
    exact tupR g (fin _ hO1)
end KL


end

section
set_option Elab.async false
set_option linter.all false
namespace KL
theorem patL_len : ∀ r : List Nat, (patL r).length = rp r
  | [] => rfl
  | x :: r => by
    have ih := patL_len r
    have e : patL (x :: r) = (List.replicate x 0 ++ [1]) ++ patL r := rfl
    rw [e, List.length_append, ih]
    unfold rp
    simp
    omega
theorem pat_at : ∀ (r : List Nat) (l : Nat), l < (patL r).length → decide ((patL r).getD l 0 = 1) = sendsB.go l r
  | [], l, h => by simp [patL] at h
  | x :: r, l, h => by
    have e : patL (x :: r) = (List.replicate x 0 ++ [1]) ++ patL r := rfl
    have eg : sendsB.go l (x :: r) = if l ≤ x then decide (l = x) else sendsB.go (l - (x + 1)) r := rfl
    rw [e] at h ⊢
    rw [eg]
    have hl : (List.replicate x 0 ++ [1]).length = x + 1 := by simp
    by_cases h1 : l ≤ x
    · rw [if_pos h1, List.getD_eq_getElem?_getD, List.getElem?_append_left (by rw [hl]; omega)]
      by_cases h2 : l = x
      · subst h2
        rw [List.getElem?_append_right (by simp)]
        simp
      · rw [List.getElem?_append_left (by simp; omega), List.getElem?_replicate, if_pos (by omega), decide_eq_false h2]
        rfl
    · rw [if_neg h1, List.getD_eq_getElem?_getD, List.getElem?_append_right (by rw [hl]; omega), hl, ← List.getD_eq_getElem?_getD]
      rw [List.length_append, hl] at h
      exact pat_at r (l - (x + 1)) (by omega)
end KL

end

section
set_option Elab.async false
set_option linter.all false
namespace KL
theorem bez (a b : Nat) : ∃ x y : Int, x * (a : Int) + y * (b : Int) = ((Nat.gcd a b : Nat) : Int) := by
  induction a, b using Nat.gcd.induction with
  | H0 n => exact ⟨0, 1, by simp⟩
  | H1 m n hm ih =>
    obtain ⟨x, y, e⟩ := ih
    refine ⟨y - x * ((n / m : Nat) : Int), x, ?_⟩
    rw [Nat.gcd_rec m n, ← e]
    have h : ((n % m : Nat) : Int) = (n : Int) - (m : Int) * ((n / m : Nat) : Int) := by
      have := Nat.mod_add_div n m
      have h2 : ((n % m : Nat) : Int) + (m : Int) * ((n / m : Nat) : Int) = (n : Int) := by
        rw [← Int.natCast_mul, ← Int.natCast_add, this]
      omega
    rw [h, Int.sub_mul, Int.mul_sub, Int.mul_assoc, Int.mul_comm ((n / m : Nat) : Int) (m : Int)]
    omega
end KL

end

section
set_option Elab.async false
set_option linter.all false
namespace KL
theorem solve {a m t : Nat} (h : Nat.gcd a m = 1) (hm : 0 < m) (ht : t < m) : ∃ k : Nat, k < m ∧ (k * a) % m = t := by
  obtain ⟨x, y, e⟩ := bez a m
  rw [h] at e
  have hm0 : (m : Int) ≠ 0 := by omega
  have k0 := Int.emod_nonneg ((t : Int) * x) hm0
  have k1 := Int.emod_lt_of_pos ((t : Int) * x) (show (0 : Int) < (m : Int) by omega)
  refine ⟨(((t : Int) * x) % (m : Int)).toNat, by omega, ?_⟩
  have key : (((((t : Int) * x) % (m : Int)).toNat * a % m : Nat) : Int) = (t : Int) := by
    rw [Int.natCast_emod, Int.natCast_mul, Int.toNat_of_nonneg k0, Int.mul_emod, Int.emod_emod_of_dvd _ (Int.dvd_refl _), ← Int.mul_emod]
    have e2 : (t : Int) * x * (a : Int) = (t : Int) + (m : Int) * (-((t : Int) * y)) := by
      have : (t : Int) * (x * (a : Int) + y * (m : Int)) = (t : Int) * 1 := by rw [e]; rfl
      rw [Int.mul_add, Int.mul_one] at this
      have h3 : (t : Int) * (y * (m : Int)) = (m : Int) * ((t : Int) * y) := by rw [← Int.mul_assoc, Int.mul_comm]
      rw [Int.mul_assoc, Int.mul_neg]
      omega
    rw [e2, Int.add_mul_emod_self_left]
    exact Int.emod_eq_of_lt (by omega) (by omega)
  omega
end KL

end

section
set_option Elab.async false
set_option linter.all false
set_option maxRecDepth 100000
set_option maxHeartbeats 1000000
open PySem PySem.Spec PyProof.Rows L2 DL
namespace KL
/-! ### periods -/
theorem fold_dvd : ∀ (W : Ws) (f : Nat), f ∣ W.foldl perStep f ∧ ∀ r ∈ W, rp r ∣ W.foldl perStep f
  | [], f => ⟨Nat.dvd_refl _, by simp⟩
  | r :: W, f => by
    obtain ⟨h1, h2⟩ := fold_dvd W (perStep f r)
    have e1 : f ∣ perStep f r := Nat.dvd_lcm_left f (rp r)
    have e2 : rp r ∣ perStep f r := Nat.dvd_lcm_right f (rp r)
    rw [List.foldl_cons]
    refine ⟨Nat.dvd_trans e1 h1, fun x hx => ?_⟩
    rcases List.mem_cons.mp hx with e | hx
    · rw [e]; exact Nat.dvd_trans e2 h1
    · exact h2 x hx
theorem per_dvd {W : Ws} {r : List Nat} (h : r ∈ W) : rp r ∣ perL W := (fold_dvd W 1).2 r h
theorem fold_pos : ∀ (W : Ws) (f : Nat), 0 < f → (∀ r ∈ W, 0 < rp r) → 0 < W.foldl perStep f
  | [], f, h, _ => h
  | r :: W, f, h, hr => fold_pos W (perStep f r) (Nat.lcm_pos h (hr r (by simp))) fun x hx => hr x (by simp [hx])
theorem per_pos {W : Ws} (hW : GoodW W) : 0 < perL W := fold_pos W 1 (by decide) fun r hr => by have := (rp_ok hW hr).1; omega
theorem sends_mod {W : Ws} {r : List Nat} (h : r ∈ W) (s : Nat) : sendsB r (s % perL W) = sendsB r s := by
  show sendsB.go (s % perL W % rp r) r = sendsB.go (s % rp r) r
  rw [Nat.mod_mod_of_dvd _ (per_dvd h)]
theorem senders_mod (W : Ws) (s : Nat) : sendersL W (s % perL W) = sendersL W s := by
  unfold sendersL
  apply List.filter_congr
  intro i hi
  have hi := List.mem_range.mp hi
  have : W.getD i [] ∈ W := by
    rw [List.getD_eq_getElem?_getD, List.getElem?_eq_getElem hi]
    exact List.getElem_mem hi
  exact sends_mod this s
/-! ### clear links -/
theorem clear_iff {N : Net} (hG : Good N) {S : List Nat} {l : Pr} (hl : l ∈ links N) : l ∈ clearL N S ↔ hears N l.2 S = (l.1 : Int) := by
  obtain ⟨l1, l2, l3, l4⟩ := hG.link hl
  unfold clearL
  rw [List.mem_mergeSort]
  unfold clearU
  rw [List.mem_filterMap]
  constructor
  · rintro ⟨st, hst, h⟩
    split at h
    · rename_i h0
      have e := Option.some.inj h
      rw [← e]
      show hears N st S = (((hears N st S).toNat : Nat) : Int)
      omega
    · cases h
  · intro h
    refine ⟨l.2, List.mem_range.mpr l2, ?_⟩
    rw [h, if_pos (by omega)]
    simp
theorem count_eq {N : Net} (hG : Good N) (W : Ws) {l : Pr} (hl : l ∈ links N) : countL N W l = ((List.range (perL W)).filter fun s => decide (hears N l.2 (sendersL W s) = (l.1 : Int))).length := by
  unfold countL
  congr 1
  apply List.filter_congr
  intro s _
  congr 1
  exact propext (clear_iff hG hl)
/-! ### coprime rows -/
theorem cop_pair : ∀ l : List Nat, copB l = true ↔ l.Pairwise fun a b => Nat.gcd a b = 1
  | [] => by simp [copB]
  | a :: r => by
    have ih := cop_pair r
    show (r.all (fun b => decide (Nat.gcd a b = 1)) && copB r) = true ↔ _
    rw [Bool.and_eq_true, List.pairwise_cons, ih, List.all_eq_true]
    simp
def twL (z : List Nat) : List Nat := (List.range z.length).filter fun i => !((List.range i).filter fun j => decide (1 < Nat.gcd (z.getD i 0) (z.getD j 0))).isEmpty
theorem getD_lt {α : Type} {l : List α} {d : α} {i : Nat} (h : i < l.length) : l.getD i d = l[i] := by
  rw [List.getD_eq_getElem?_getD, List.getElem?_eq_getElem h] <;> rfl
theorem tw_nil {z : List Nat} (hp : ∀ x ∈ z, 1 ≤ x) : (twL z).isEmpty = copB z := by
  have key : (twL z).isEmpty = true ↔ copB z = true := by
    rw [cop_pair, List.isEmpty_iff, List.pairwise_iff_getElem]
    unfold twL
    rw [List.filter_eq_nil_iff]
    constructor
    · intro h i j hi hj hij
      have h1 := h j (List.mem_range.mpr hj)
      rw [Bool.not_eq_true', Bool.not_eq_false, List.isEmpty_iff, List.filter_eq_nil_iff] at h1
      have h2 := h1 i (List.mem_range.mpr hij)
      rw [decide_eq_true_eq, getD_lt hi, getD_lt hj] at h2
      have h3 : 0 < Nat.gcd z[j] z[i] := Nat.gcd_pos_of_pos_left _ (by have := hp z[j] (List.getElem_mem hj); omega)
      rw [Nat.gcd_comm]
      omega
    · intro h i hi
      have hi := List.mem_range.mp hi
      rw [Bool.not_eq_true', Bool.not_eq_false, List.isEmpty_iff, List.filter_eq_nil_iff]
      intro j hj
      have hj := List.mem_range.mp hj
      have h1 := h j i (by omega) hi hj
      rw [decide_eq_true_eq, getD_lt hi, getD_lt (show j < z.length by omega), Nat.gcd_comm, h1]
      omega
  cases h1 : (twL z).isEmpty with
  | true => exact (key.mp h1).symm
  | false =>
    cases h2 : copB z with
    | true => rw [key.mpr h2] at h1; cases h1
    | false => rfl
/-- a product of numbers -/
def prodL : List Nat → Nat
  | [] => 1
  | a :: r => a * prodL r
theorem prod_cop {m : Nat} : ∀ {l : List Nat}, (∀ a ∈ l, Nat.gcd a m = 1) → Nat.gcd (prodL l) m = 1
  | [], _ => by simp [prodL]
  | a :: r, h => by
    have h1 : Nat.Coprime a m := h a (by simp)
    have h2 : Nat.Coprime (prodL r) m := prod_cop fun x hx => h x (by simp [hx])
    exact Nat.Coprime.mul_left h1 h2
theorem prod_dvd {a : Nat} : ∀ {l : List Nat}, a ∈ l → a ∣ prodL l
  | b :: r, h => by
    rcases List.mem_cons.mp h with e | h
    · rw [e]; exact Nat.dvd_mul_right _ _
    · exact Nat.dvd_trans (prod_dvd h) (Nat.dvd_mul_left _ _)
theorem single_sends {r : List Nat} {x : Nat} (h : r = [x]) (s : Nat) : sendsB r s = decide (s % (x + 1) = x) := by
  subst h
  have e : rp [x] = x + 1 := by unfold rp; simp
  show sendsB.go (s % rp [x]) [x] = _
  rw [e]
  show (if s % (x + 1) ≤ x then decide (s % (x + 1) = x) else false) = _
  rw [if_pos (by have := Nat.mod_lt s (show 0 < x + 1 by omega); omega)]
theorem one_of {W : Ws} (h : oneB W = true) {r : List Nat} (hr : r ∈ W) : ∃ x, r = [x] ∧ 0 < x := by
  have := List.all_eq_true.mp h r hr
  rw [Bool.and_eq_true, decide_eq_true_eq, decide_eq_true_eq] at this
  match r, this with
  | [x], ⟨_, h2⟩ => exact ⟨x, rfl, h2⟩
theorem getD_mem {α : Type} {l : List α} {d : α} {i : Nat} (h : i < l.length) : l.getD i d ∈ l := by
  rw [getD_lt h]; exact List.getElem_mem h
/-- a slot in which one station alone sends -/
theorem alone {W : Ws} (hW : GoodW W) (h1 : oneB W = true) (h2 : copB (W.map rp) = true) {a : Nat} (ha : a < W.length) : ∃ s, s < perL W ∧ sendersL W s = [a] := by
  have hpair := List.pairwise_iff_getElem.mp ((cop_pair _).mp h2)
  have hg : ∀ i j, i < W.length → j < W.length → i ≠ j → Nat.gcd (rp (W.getD i [])) (rp (W.getD j [])) = 1 := fun i j hi hj hij => by
    rw [getD_lt hi, getD_lt hj]
    rcases Nat.lt_or_gt_of_ne hij with h | h
    · have := hpair i j (by rw [List.length_map]; exact hi) (by rw [List.length_map]; exact hj) h
      simpa using this
    · have := hpair j i (by rw [List.length_map]; exact hj) (by rw [List.length_map]; exact hi) h
      rw [Nat.gcd_comm]
      simpa using this
  obtain ⟨x, ex, hx⟩ := one_of h1 (getD_mem (d := []) ha)
  have em : rp (W.getD a []) = x + 1 := by rw [ex]; unfold rp; simp
  let O := ((List.range W.length).filter fun i => decide (i ≠ a)).map fun i => rp (W.getD i [])
  have hO : Nat.gcd (prodL O) (x + 1) = 1 := prod_cop fun m hm => by
    obtain ⟨i, hi, rfl⟩ := List.mem_map.mp hm
    obtain ⟨hi, hne⟩ := List.mem_filter.mp hi
    have := hg i a (List.mem_range.mp hi) ha (of_decide_eq_true hne)
    rw [em] at this
    exact this
  obtain ⟨k, hk, ek⟩ := solve hO (by omega) (show x < x + 1 by omega)
  refine ⟨(k * prodL O) % perL W, Nat.mod_lt _ (per_pos hW), ?_⟩
  rw [senders_mod]
  unfold sendersL
  have e : ∀ i ∈ List.range W.length, sendsB (W.getD i []) (k * prodL O) = decide (i = a) := fun i hi => by
    have hi' := List.mem_range.mp hi
    by_cases hia : i = a
    · subst hia
      rw [single_sends ex, ek]
      simp
    · obtain ⟨y, ey, hy⟩ := one_of h1 (getD_mem (d := []) hi')
      have hd : y + 1 ∣ k * prodL O := by
        refine Nat.dvd_trans (prod_dvd (List.mem_map.mpr ⟨i, List.mem_filter.mpr ⟨hi, decide_eq_true hia⟩, ?_⟩)) (Nat.dvd_mul_left _ _)
        rw [ey]; unfold rp; simp
      rw [single_sends ey, Nat.mod_eq_zero_of_dvd hd, decide_eq_false hia, decide_eq_false (by omega)]
  rw [List.filter_congr e]
  clear e hO ek
  have key : ∀ n, a < n → (List.range n).filter (fun i => decide (i = a)) = [a] := fun n => by
    induction n with
    | zero => intro h; omega
    | succ n ih =>
      intro h
      rw [List.range_succ, List.filter_append]
      by_cases hn : a = n
      · subst hn
        have : (List.range a).filter (fun i => decide (i = a)) = [] := by
          rw [List.filter_eq_nil_iff]
          intro i hi
          have := List.mem_range.mp hi
          simp
          omega
        rw [this]
        simp
      · rw [ih (by omega)]
        have : ¬ n = a := fun e => hn e.symm
        simp [this]
  exact key _ ha
theorem hears_one {N : Net} (hG : Good N) {l : Pr} (hl : l ∈ links N) : hears N l.2 [l.1] = (l.1 : Int) := by
  obtain ⟨l1, l2, l3, l4⟩ := hG.link hl
  have hm := (link_mem.mp hl).2
  have hne := (hG.row l.2 l.1 hm).2
  unfold hears
  rw [if_neg (by simp; exact fun e => hne e.symm)]
  have e : (N.row l.2).filter (fun o => decide (o ∈ [l.1])) = [l.1] := by
    have hp := hG.ris l.2
    generalize N.row l.2 = r at hm hp
    induction r with
    | nil => cases hm
    | cons a r ih =>
      rw [List.pairwise_cons] at hp
      rw [List.filter_cons]
      rcases List.mem_cons.mp hm with e | hm
      · subst e
        have : r.filter (fun o => decide (o ∈ [l.1])) = [] := by
          rw [List.filter_eq_nil_iff]
          intro o ho
          have := hp.1 o ho
          simp
          omega
        rw [if_pos (by simp), this]
      · have := hp.1 l.1 hm
        rw [if_neg (by simp; omega)]
        exact ih hm hp.2
  rw [e]
theorem cop_clear {N : Net} (hG : Good N) {W : Ws} (hW : GoodW W) (hl : W.length = N.n) (h1 : oneB W = true) (h2 : copB (W.map rp) = true) {l : Pr} (hm : l ∈ links N) : countL N W l ≠ 0 := by
  obtain ⟨l1, l2, l3, l4⟩ := hG.link hm
  obtain ⟨s, hs, es⟩ := alone hW h1 h2 (a := l.1) (by omega)
  rw [count_eq hG W hm]
  intro h
  have := List.eq_nil_of_length_eq_zero h
  rw [List.filter_eq_nil_iff] at this
  refine this s (List.mem_range.mpr hs) ?_
  rw [decide_eq_true_eq, es]
  exact hears_one hG hm
/-! ### rows by index -/
theorem idx_filter {α : Type} (d : α) (p : α → Bool) : ∀ (A L : List α), ((List.range' A.length L.length).filter fun i => p ((A ++ L).getD i d)).map (fun i => (A ++ L).getD i d) = L.filter p
  | A, [] => rfl
  | A, x :: L => by
    have ih := idx_filter d p (A ++ [x]) L
    have e1 : (A ++ [x]).length = A.length + 1 := by simp
    rw [e1, List.append_assoc] at ih
    have e2 : (A ++ x :: L).getD A.length d = x := by simp
    rw [List.length_cons, List.range'_succ, List.filter_cons, List.filter_cons, e2]
    split
    · rw [List.map_cons, e2]
      exact congrArg (x :: ·) ih
    · exact ih
end KL


end

section
set_option Elab.async false
set_option linter.all false
set_option maxRecDepth 100000
set_option maxHeartbeats 4000000
open PySem PySem.Spec PyProof.Rows L2 DL
namespace KL
structure Std (xs : Scr) (p Pt : Addr) (G : GH) : Prop where
  g : Row xs G p
  o : OneTab Pt qn_law G
theorem Std.put {xs : Scr} {G : GH} {p Pt : Addr} (h : Std xs p Pt G) {at_ : Nat} {a b : Int} : Std xs p Pt (updG G p (rowG xs at_ a b)) := ⟨row_put, otab_row h.o h.g⟩
theorem Std.ne {xs : Scr} {G : GH} {p Pt f : Addr} (h : Std xs p Pt G) (hf : G f = none) : f ≠ p := fun e => by
  obtain ⟨a, b, c, g⟩ := h.g
  rw [e, g] at hf; cases hf
theorem Std.new {xs : Scr} {G : GH} {p Pt f : Addr} {L : List D} (h : Std xs p Pt G) (hf : G f = none) : Std xs p Pt (updG G f (.lst L)) := by
  obtain ⟨a, b, c, g⟩ := h.g
  exact ⟨⟨a, b, c, by rw [updG_ne (h.ne hf).symm]; exact g⟩, OneTab.new h.o hf⟩
theorem Std.set {xs : Scr} {G : GH} {p Pt f : Addr} {L L' : List D} (h : Std xs p Pt G) (hne : f ≠ p) (hf : G f = some (.lst L)) : Std xs p Pt (updG G f (.lst L')) := by
  obtain ⟨a, b, c, g⟩ := h.g
  exact ⟨⟨a, b, c, by rw [updG_ne hne.symm]; exact g⟩, OneTab.put h.o hf⟩
def sp_law (Pt : Addr) : DSp := fun ds G Q _ => ∃ xs : Scr, ds = [scrD xs] ∧ xs.length ≤ datL ∧ OneTab Pt qn_law G ∧ ∀ G', Q (.bl true) G'
theorem small_good {W : Ws} (hS : Small W) (h1 : 1 ≤ W.length) (h7 : W.length ≤ 7) : GoodW W := ⟨h1, h7, fun r hr => by
  obtain ⟨a, b, c⟩ := hS.row r hr
  exact ⟨a, by omega, fun x hx => by have := c x hx; omega⟩⟩
def patsD (W : Ws) : List D := W.map fun r => .lst (natsD (patL r))
theorem patsD_len (W : Ws) : (patsD W).length = W.length := by unfold patsD; rw [List.length_map]
theorem patsD_at {W : Ws} {i : Nat} (h : i < W.length) : (patsD W)[i]? = some (.lst (natsD (patL (W.getD i [])))) := by
  unfold patsD
  rw [List.getElem?_map, List.getElem?_eq_getElem h, getD_lt h] <;> rfl
def sendD (W : Ws) (s : Nat) : D := .tup (natsD (sendersL W s))
def rowsD (N : Net) : List D := (links N).map encP
section
variable {C Pt C2 p : Addr} {Ex : DXK} {E : DEnds} {xs : Scr} {v0 v1 v2 v3 v4 v5 v6 v7 v8 v9 v10 v11 v12 v13 v14 v15 v16 v17 v18 v19 v20 v21 v22 : Option D} {G : GH}
theorem law28 (hx : xs.length ≤ datL) (h : Std xs p Pt G) (k : ∀ (N : Net) (G' : GH), Good N → N.n ≤ 5 → Std xs p Pt G' → E.nx [v0, some (.ref p), v2, some (encN N), v4, v5, v6, v7, v8, v9, v10, v11, v12, v13, v14, v15, v16, v17, v18, v19, v20, v21, v22] G') :
    t_law_28 C Pt C2 Ex E [v0, some (.ref p), v2, v3, v4, v5, v6, v7, v8, v9, v10, v11, v12, v13, v14, v15, v16, v17, v18, v19, v20, v21, v22] G := by
  unfold t_law_28
  simp only [dSeq, dIfS, dTst, dTru, dNot, dAnd, dOr, dAndV, dOrV, dNotV, dRet, dRetN, dDrop, dAsg, dNext, dBreak, dCont, dVar, getS, dC, dOp, dChain, dF1, dF2, dCall, dCons, dNil, dTup, dLst, dLstM, dIf, dNeg, uNeg, dLc, dLcM, dItr, dZip, dEnum, dRange1, dRange2, dFor, dPut, dAug, dPar2, dPar3, dSl, dPart, dNoPart, dM1, dM0, dCB, on1, isB, setT, setTs, dRaise, dMk, dYes, dLstRg, dRg1, wipeD, List.set]
  exact ⟨p, 5, xs, rfl, by decide, by decide, hx, h.g, fun N a b c hG hn => k N _ hG hn h.put⟩
theorem law27 (hx : xs.length ≤ datL) (h : Std xs p Pt G) {N : Net} (hG : Good N) (h5 : N.n ≤ 5) (k : ∀ (W : Ws) (G' : GH), W.length = N.n → GoodW W → Std xs p Pt G' → E.nx [v0, some (.ref p), v2, some (encN N), some (encW W), v5, v6, v7, v8, v9, v10, v11, v12, v13, v14, v15, v16, v17, v18, v19, v20, v21, v22] G') :
    t_law_27 C Pt C2 Ex E [v0, some (.ref p), v2, some (encN N), v4, v5, v6, v7, v8, v9, v10, v11, v12, v13, v14, v15, v16, v17, v18, v19, v20, v21, v22] G := by
  unfold t_law_27
  simp only [dSeq, dIfS, dTst, dTru, dNot, dAnd, dOr, dAndV, dOrV, dNotV, dRet, dRetN, dDrop, dAsg, dNext, dBreak, dCont, dVar, getS, dC, dOp, dChain, dF1, dF2, dCall, dCons, dNil, dTup, dLst, dLstM, dIf, dNeg, uNeg, dLc, dLcM, dItr, dZip, dEnum, dRange1, dRange2, dFor, dPut, dAug, dPar2, dPar3, dSl, dPart, dNoPart, dM1, dM0, dCB, on1, isB, setT, setTs, dRaise, dMk, dYes, dLstRg, dRg1, wipeD, List.set]
  refine ixT (a := [.str N.lab, .tup (earsD N.ears)]) (i := 0) (d := .str N.lab) rfl ?_
  refine lenLab hG ?_
  have h1 := hG.one
  exact ⟨p, N.n, xs, rfl, h1, h5, hx, h.g, fun W a b c hl hS => k W _ hl (small_good hS (by omega) (by omega)) h.put⟩
theorem law26 {W : Ws} (hW : GoodW W) (k : E.nx [v0, v1, v2, v3, some (encW W), some (.lst (patsD W)), some (.int ((1 : Nat) : Int)), v7, v8, v9, v10, v11, v12, v13, v14, v15, v16, v17, v18, v19, v20, v21, v22] G) :
    t_law_26 C Pt C2 Ex E [v0, v1, v2, v3, some (encW W), v5, v6, v7, v8, v9, v10, v11, v12, v13, v14, v15, v16, v17, v18, v19, v20, v21, v22] G := by
  have h7 := hW.top
  unfold t_law_26
  simp only [dSeq, dIfS, dTst, dTru, dNot, dAnd, dOr, dAndV, dOrV, dNotV, dRet, dRetN, dDrop, dAsg, dNext, dBreak, dCont, dVar, getS, dC, dOp, dChain, dF1, dF2, dCall, dCons, dNil, dTup, dLst, dLstM, dIf, dNeg, uNeg, dLc, dLcM, dItr, dZip, dEnum, dRange1, dRange2, dFor, dPut, dAug, dPar2, dPar3, dSl, dPart, dNoPart, dM1, dM0, dCB, on1, isB, setT, setTs, dRaise, dMk, dYes, dLstRg, dRg1, wipeD, List.set]
  simp only [encW, itD, earsD]
  refine comp_each (fun r : List Nat => .tup (natsD r)) (fun r => .lst (natsD (patL r))) W trivial (fun r hr k hk => ?_) (by rw [sizeL]; omega) ?_
  · have h3 := hW.row r hr
    simp only [dSeq, dIfS, dTst, dTru, dNot, dAnd, dOr, dAndV, dOrV, dNotV, dRet, dRetN, dDrop, dAsg, dNext, dBreak, dCont, dVar, getS, dC, dOp, dChain, dF1, dF2, dCall, dCons, dNil, dTup, dLst, dLstM, dIf, dNeg, uNeg, dLc, dLcM, dItr, dZip, dEnum, dRange1, dRange2, dFor, dPut, dAug, dPar2, dPar3, dSl, dPart, dNoPart, dM1, dM0, dCB, on1, isB, setT, setTs, dRaise, dMk, dYes, dLstRg, dRg1, wipeD, List.set, List.set]
    exact ⟨r, rfl, h3.2.1, h3.2.2, hk⟩
  · exact ⟨sm10 (by simp), k⟩
theorem law25_loop {W0 : Ws} (hW : GoodW W0) : ∀ (W : Ws) (f : Nat) (v7 : Option D), (∀ r ∈ W, r ∈ W0) → (∀ v7 : Option D, E.nx [v0, v1, v2, v3, v4, v5, some (.int ((W.foldl perStep f : Nat) : Int)), v7, v8, v9, v10, v11, v12, v13, v14, v15, v16, v17, v18, v19, v20, v21, v22] G) →
    loopD yes0 (.name 7) (t_law_24 C Pt C2 Ex) E (patsD W) [v0, v1, v2, v3, v4, v5, some (.int (f : Int)), v7, v8, v9, v10, v11, v12, v13, v14, v15, v16, v17, v18, v19, v20, v21, v22] G
  | [], f, v7, _, k => ⟨trivial, k v7⟩
  | r :: W, f, v7, hr, k => by
    obtain ⟨p1, p2⟩ := rp_ok hW (hr r (by simp))
    refine ⟨trivial, ?_⟩
    show setT _ (.lst (natsD (patL r))) _ _
    unfold t_law_24
    simp only [dSeq, dIfS, dTst, dTru, dNot, dAnd, dOr, dAndV, dOrV, dNotV, dRet, dRetN, dDrop, dAsg, dNext, dBreak, dCont, dVar, getS, dC, dOp, dChain, dF1, dF2, dCall, dCons, dNil, dTup, dLst, dLstM, dIf, dNeg, uNeg, dLc, dLcM, dItr, dZip, dEnum, dRange1, dRange2, dFor, dPut, dAug, dPar2, dPar3, dSl, dPart, dNoPart, dM1, dM0, dCB, on1, isB, setT, setTs, dRaise, dMk, dYes, dLstRg, dRg1, wipeD, List.set, List.set]
    refine lenL ?_
    rw [natsD_len, patL_len]
    refine ⟨.inr ⟨by omega, by omega⟩, ?_⟩
    refine lenL ?_
    rw [natsD_len, patL_len]
    refine ⟨f, rp r, rfl, by omega, ?_⟩
    have g1 : 1 ≤ Nat.gcd f (rp r) := Nat.gcd_pos_of_pos_right _ (by omega)
    have g2 : Nat.gcd f (rp r) ≤ 60 := Nat.le_trans (Nat.gcd_le_right _ (by omega)) p2
    refine ⟨⟨by omega, by omega⟩, ?_⟩
    have e : ((f : Int) * ((rp r : Nat) : Int)).fdiv ((Nat.gcd f (rp r) : Nat) : Int) = ((perStep f r : Nat) : Int) := by
      have : (f : Int) * ((rp r : Nat) : Int) = ((f * rp r : Nat) : Int) := by rw [Int.natCast_mul]
      rw [this, fdivN]
      rfl
    simp only [e]
    exact law25_loop hW W (perStep f r) _ (fun x hx => hr x (by simp [hx])) k
theorem law25 {W : Ws} (hW : GoodW W) (k : ∀ v7 : Option D, E.nx [v0, v1, v2, v3, v4, some (.lst (patsD W)), some (.int ((perL W : Nat) : Int)), v7, v8, v9, v10, v11, v12, v13, v14, v15, v16, v17, v18, v19, v20, v21, v22] G) :
    t_law_25 C Pt C2 Ex E [v0, v1, v2, v3, v4, some (.lst (patsD W)), some (.int ((1 : Nat) : Int)), v7, v8, v9, v10, v11, v12, v13, v14, v15, v16, v17, v18, v19, v20, v21, v22] G := by
  unfold t_law_25
  simp only [dSeq, dIfS, dTst, dTru, dNot, dAnd, dOr, dAndV, dOrV, dNotV, dRet, dRetN, dDrop, dAsg, dNext, dBreak, dCont, dVar, getS, dC, dOp, dChain, dF1, dF2, dCall, dCons, dNil, dTup, dLst, dLstM, dIf, dNeg, uNeg, dLc, dLcM, dItr, dZip, dEnum, dRange1, dRange2, dFor, dPut, dAug, dPar2, dPar3, dSl, dPart, dNoPart, dM1, dM0, dCB, on1, isB, setT, setTs, dRaise, dMk, dYes, dLstRg, dRg1, wipeD, List.set]
  simp only [itD]
  exact law25_loop hW W 1 _ (fun r hr => hr) fun v7 => k v7
theorem law23 {W : Ws} (k : perL W ≤ 1200 → E.nx [v0, v1, v2, v3, v4, v5, some (.int ((perL W : Nat) : Int)), v7, v8, v9, v10, v11, v12, v13, v14, v15, v16, v17, v18, v19, v20, v21, v22] G) (kc : E.ct [v0, v1, v2, v3, v4, v5, some (.int ((perL W : Nat) : Int)), v7, v8, v9, v10, v11, v12, v13, v14, v15, v16, v17, v18, v19, v20, v21, v22] G) :
    t_law_23 C Pt C2 Ex E [v0, v1, v2, v3, v4, v5, some (.int ((perL W : Nat) : Int)), v7, v8, v9, v10, v11, v12, v13, v14, v15, v16, v17, v18, v19, v20, v21, v22] G := by
  unfold t_law_23
  simp only [dSeq, dIfS, dTst, dTru, dNot, dAnd, dOr, dAndV, dOrV, dNotV, dRet, dRetN, dDrop, dAsg, dNext, dBreak, dCont, dVar, getS, dC, dOp, dChain, dF1, dF2, dCall, dCons, dNil, dTup, dLst, dLstM, dIf, dNeg, uNeg, dLc, dLcM, dItr, dZip, dEnum, dRange1, dRange2, dFor, dPut, dAug, dPar2, dPar3, dSl, dPart, dNoPart, dM1, dM0, dCB, on1, isB, setT, setTs, dRaise, dMk, dYes, dLstRg, dRg1, wipeD, List.set, gtD, getS, List.set, truD, isB, i2, TT0, true_and, Bool.not_true, Bool.not_false, Bool.false_eq_true, if_false, if_true, dVar, dC, setT, setTs]
  by_cases h : 1200 < perL W
  · rw [show decide ((1200 : Int) < ((perL W : Nat) : Int)) = true by rw [decide_eq_true_eq]; omega]
    simp only [getS, List.set, truD, isB, i2, TT0, true_and, Bool.not_true, Bool.not_false, Bool.false_eq_true, if_false, if_true, dVar, dC, setT, setTs]
    exact kc
  · rw [show decide ((1200 : Int) < ((perL W : Nat) : Int)) = false by rw [decide_eq_false_iff_not]; omega]
    simp only [getS, List.set, truD, isB, i2, TT0, true_and, Bool.not_true, Bool.not_false, Bool.false_eq_true, if_false, if_true, dVar, dC, setT, setTs]
    exact k (by omega)
theorem law22 {W : Ws} (hW : GoodW W) (hp : perL W ≤ 1200) (k : E.nx [v0, v1, v2, v3, some (encW W), v5, some (.int ((perL W : Nat) : Int)), v7, v8, v9, v10, v11, v12, v13, v14, v15, v16, v17, v18, v19, v20, v21, v22] G) :
    t_law_22 C Pt C2 Ex E [v0, v1, v2, v3, some (encW W), v5, some (.int ((perL W : Nat) : Int)), v7, v8, v9, v10, v11, v12, v13, v14, v15, v16, v17, v18, v19, v20, v21, v22] G := by
  unfold t_law_22
  simp only [dSeq, dIfS, dTst, dTru, dNot, dAnd, dOr, dAndV, dOrV, dNotV, dRet, dRetN, dDrop, dAsg, dNext, dBreak, dCont, dVar, getS, dC, dOp, dChain, dF1, dF2, dCall, dCons, dNil, dTup, dLst, dLstM, dIf, dNeg, uNeg, dLc, dLcM, dItr, dZip, dEnum, dRange1, dRange2, dFor, dPut, dAug, dPar2, dPar3, dSl, dPart, dNoPart, dM1, dM0, dCB, on1, isB, setT, setTs, dRaise, dMk, dYes, dLstRg, dRg1, wipeD, List.set]
  refine .inr ⟨W, rfl, hW, fun _ => ?_, fun z => absurd hp (by omega)⟩
  refine ⟨.int ((perL W : Nat) : Int), rfl, rfl, ?_⟩
  simp only [getS, List.set, truD, isB, i2, TT0, true_and, Bool.not_true, Bool.not_false, Bool.false_eq_true, if_false, if_true, dVar, dC, setT, setTs]
  exact k
theorem law21 {N : Net} (hG : Good N) (h : Std xs p Pt G) (k : ∀ (f : Addr) (G' : GH), Std xs p Pt G' → f ≠ p → G' f = some (.lst []) → E.nx [v0, v1, v2, some (encN N), v4, v5, v6, v7, some (.lst (rowsD N)), some (.ref f), v10, v11, v12, v13, v14, v15, v16, v17, v18, v19, v20, v21, v22] G') :
    t_law_21 C Pt C2 Ex E [v0, v1, v2, some (encN N), v4, v5, v6, v7, v8, v9, v10, v11, v12, v13, v14, v15, v16, v17, v18, v19, v20, v21, v22] G := by
  unfold t_law_21
  simp only [dSeq, dIfS, dTst, dTru, dNot, dAnd, dOr, dAndV, dOrV, dNotV, dRet, dRetN, dDrop, dAsg, dNext, dBreak, dCont, dVar, getS, dC, dOp, dChain, dF1, dF2, dCall, dCons, dNil, dTup, dLst, dLstM, dIf, dNeg, uNeg, dLc, dLcM, dItr, dZip, dEnum, dRange1, dRange2, dFor, dPut, dAug, dPar2, dPar3, dSl, dPart, dNoPart, dM1, dM0, dCB, on1, isB, setT, setTs, dRaise, dMk, dYes, dLstRg, dRg1, wipeD, List.set]
  refine ⟨N, rfl, hG, ?_⟩
  exact ⟨sm10 (by simp), fun f hf => ⟨sm10 (by simp), k f _ (h.new hf) (h.ne hf) updG_same⟩⟩
theorem law20_loop {W : Ws} (hW : GoodW W) {f : Addr} (hne : f ≠ p) : ∀ (L acc : List Nat) (v10 : Option D) (G : GH), acc.length + L.length ≤ 2000 → Std xs p Pt G → G f = some (.lst (acc.map (sendD W))) →
    (∀ (v10 : Option D) (G' : GH), Std xs p Pt G' → G' f = some (.lst ((acc ++ L).map (sendD W))) → E.nx [v0, v1, v2, v3, some (encW W), some (.lst (patsD W)), v6, v7, v8, some (.ref f), v10, v11, v12, v13, v14, v15, v16, v17, v18, v19, v20, v21, v22] G') →
    loopD yes0 (.name 10) (t_law_19 C Pt C2 Ex) E (natsD L) [v0, v1, v2, v3, some (encW W), some (.lst (patsD W)), v6, v7, v8, some (.ref f), v10, v11, v12, v13, v14, v15, v16, v17, v18, v19, v20, v21, v22] G
  | [], acc, v10, G, _, h, hf, k => ⟨trivial, k v10 G h (by simpa using hf)⟩
  | s :: L, acc, v10, G, hl, h, hf, k => by
    have h7 := hW.top
    rw [List.length_cons] at hl
    refine ⟨trivial, ?_⟩
    show setT _ (.int (s : Int)) _ _
    unfold t_law_19
    simp only [dSeq, dIfS, dTst, dTru, dNot, dAnd, dOr, dAndV, dOrV, dNotV, dRet, dRetN, dDrop, dAsg, dNext, dBreak, dCont, dVar, getS, dC, dOp, dChain, dF1, dF2, dCall, dCons, dNil, dTup, dLst, dLstM, dIf, dNeg, uNeg, dLc, dLcM, dItr, dZip, dEnum, dRange1, dRange2, dFor, dPut, dAug, dPar2, dPar3, dSl, dPart, dNoPart, dM1, dM0, dCB, on1, isB, setT, setTs, dRaise, dMk, dYes, dLstRg, dRg1, wipeD, List.set, List.set]
    refine ownLR hf ?_
    refine lenT ?_
    rw [earsD_len]
    refine ⟨⟨by omega, by omega⟩, ?_⟩
    rw [Int.toNat_natCast, rgD_nats]
    refine comp_enc (fun n : Nat => .int (n : Int)) (fun i => sendsB (W.getD i []) s) (fun n => .int (n : Int)) (List.range W.length) trivial (fun i hi k k0 h1 h2 => ?_) (by rw [List.length_range, sizeL]; omega) ?_
    · have hi := List.mem_range.mp hi
      have hr : W.getD i [] ∈ W := getD_mem hi
      obtain ⟨p1, p2⟩ := rp_ok hW hr
      simp only [dSeq, dIfS, dTst, dTru, dNot, dAnd, dOr, dAndV, dOrV, dNotV, dRet, dRetN, dDrop, dAsg, dNext, dBreak, dCont, dVar, getS, dC, dOp, dChain, dF1, dF2, dCall, dCons, dNil, dTup, dLst, dLstM, dIf, dNeg, uNeg, dLc, dLcM, dItr, dZip, dEnum, dRange1, dRange2, dFor, dPut, dAug, dPar2, dPar3, dSl, dPart, dNoPart, dM1, dM0, dCB, on1, isB, setT, setTs, dRaise, dMk, dYes, dLstRg, dRg1, wipeD, List.set, List.set]
      refine ixL (L2.atI_nat (patsD_at hi)) ?_
      simp only [intF]
      refine ixL (L2.atI_nat (patsD_at hi)) ?_
      refine lenL ?_
      rw [natsD_len, patL_len]
      refine ⟨show ((rp (W.getD i []) : Nat) : Int) ≠ 0 by omega, ?_⟩
      simp only [fmodN]
      have hm : s % rp (W.getD i []) < (patL (W.getD i [])).length := by rw [patL_len]; exact Nat.mod_lt _ (by omega)
      refine ixL (L2.atI_nat (natsD_get hm)) (eqI ?_)
      have e : decide ((((patL (W.getD i [])).getD (s % rp (W.getD i [])) 0 : Nat) : Int) = 1) = sendsB (W.getD i []) s := by
        have := pat_at (W.getD i []) (s % rp (W.getD i [])) hm
        show _ = sendsB.go (s % rp (W.getD i [])) (W.getD i [])
        rw [← this]
        congr 1; apply propext; omega
      rw [e]
      cases hd : sendsB (W.getD i []) s with
      | true => simp only [getS, List.set, truD, isB, i2, TT0, true_and, Bool.not_true, Bool.not_false, Bool.false_eq_true, if_false, if_true, dVar, dC, setT, setTs]; exact h1 hd
      | false => simp only [getS, List.set, truD, isB, i2, TT0, true_and, Bool.not_true, Bool.not_false, Bool.false_eq_true, if_false, if_true, dVar, dC, setT, setTs]; exact h2 hd
    · have e : ((List.range W.length).filter fun i => sendsB (W.getD i []) s).map (fun n : Nat => D.int (n : Int)) = natsD (sendersL W s) := rfl
      rw [e]
      simp only [tupF, asQ]
      refine getLR hf ⟨by rw [List.length_map, sizeL]; omega, ?_⟩
      have e2 : acc.map (sendD W) ++ [.tup (natsD (sendersL W s))] = (acc ++ [s]).map (sendD W) := by rw [List.map_append] <;> rfl
      rw [e2]
      refine law20_loop hW hne L (acc ++ [s]) _ _ (by rw [List.length_append]; simp; omega) (h.set hne hf) updG_same fun v10 G' h' hf' => k v10 G' h' (by rw [hf', List.append_assoc] <;> rfl)
theorem law20 {W : Ws} (hW : GoodW W) (hp : perL W ≤ 1200) {f : Addr} (hne : f ≠ p) (h : Std xs p Pt G) (hf : G f = some (.lst [])) (k : ∀ (v10 : Option D) (G' : GH), Std xs p Pt G' → G' f = some (.lst ((List.range (perL W)).map (sendD W))) → E.nx [v0, v1, v2, v3, some (encW W), some (.lst (patsD W)), some (.int ((perL W : Nat) : Int)), v7, v8, some (.ref f), v10, v11, v12, v13, v14, v15, v16, v17, v18, v19, v20, v21, v22] G') :
    t_law_20 C Pt C2 Ex E [v0, v1, v2, v3, some (encW W), some (.lst (patsD W)), some (.int ((perL W : Nat) : Int)), v7, v8, some (.ref f), v10, v11, v12, v13, v14, v15, v16, v17, v18, v19, v20, v21, v22] G := by
  unfold t_law_20
  simp only [dSeq, dIfS, dTst, dTru, dNot, dAnd, dOr, dAndV, dOrV, dNotV, dRet, dRetN, dDrop, dAsg, dNext, dBreak, dCont, dVar, getS, dC, dOp, dChain, dF1, dF2, dCall, dCons, dNil, dTup, dLst, dLstM, dIf, dNeg, uNeg, dLc, dLcM, dItr, dZip, dEnum, dRange1, dRange2, dFor, dPut, dAug, dPar2, dPar3, dSl, dPart, dNoPart, dM1, dM0, dCB, on1, isB, setT, setTs, dRaise, dMk, dYes, dLstRg, dRg1, wipeD, List.set]
  refine ⟨⟨by omega, by omega⟩, ?_⟩
  rw [Int.toNat_natCast, rgD_nats]
  exact law20_loop hW hne (List.range (perL W)) [] _ G (by rw [List.length_range]; simp; omega) h hf fun v10 G' h' hf' => k v10 G' h' (by rw [hf', List.nil_append])
theorem law18_loop (hx : xs.length ≤ datL) {W : Ws} (hW : GoodW W) {f : Addr} (hne : f ≠ p) : ∀ (ds : List D) (v10 v11 : Option D) (G : GH), Std xs p Pt G → G f = some (.lst ((List.range (perL W)).map (sendD W))) →
    (∀ (v10 v11 : Option D) (G' : GH), Std xs p Pt G' → G' f = some (.lst ((List.range (perL W)).map (sendD W))) → E.nx [v0, some (.ref p), v2, v3, some (encW W), v5, some (.int ((perL W : Nat) : Int)), v7, v8, some (.ref f), v10, v11, v12, v13, v14, v15, v16, v17, v18, v19, v20, v21, v22] G') →
    loopD yes0 (.name 11) (t_law_17 C Pt C2 Ex) E ds [v0, some (.ref p), v2, v3, some (encW W), v5, some (.int ((perL W : Nat) : Int)), v7, v8, some (.ref f), v10, v11, v12, v13, v14, v15, v16, v17, v18, v19, v20, v21, v22] G
  | [], v10, v11, G, h, hf, k => ⟨trivial, k v10 v11 G h hf⟩
  | d :: ds, v10, v11, G, h, hf, k => by
    refine ⟨trivial, ?_⟩
    unfold t_law_17
    simp only [dSeq, dIfS, dTst, dTru, dNot, dAnd, dOr, dAndV, dOrV, dNotV, dRet, dRetN, dDrop, dAsg, dNext, dBreak, dCont, dVar, getS, dC, dOp, dChain, dF1, dF2, dCall, dCons, dNil, dTup, dLst, dLstM, dIf, dNeg, uNeg, dLc, dLcM, dItr, dZip, dEnum, dRange1, dRange2, dFor, dPut, dAug, dPar2, dPar3, dSl, dPart, dNoPart, dM1, dM0, dCB, on1, isB, setT, setTs, dRaise, dMk, dYes, dLstRg, dRg1, wipeD, List.set, List.set]
    refine ⟨p, 1000001, xs, rfl, by decide, by decide, hx, h.g, fun v a b c hv => ?_⟩
    refine .inr ⟨W, .int (v : Int), 0, rfl, hW, rfl, .inr ⟨v, rfl, by omega, ?_⟩⟩
    have hp := per_pos hW
    simp only [intF]
    refine ⟨show ((perL W : Nat) : Int) ≠ 0 by omega, ?_⟩
    simp only [fmodN]
    have hm : v % perL W < perL W := Nat.mod_lt _ hp
    have hf2 : (updG G p (rowG xs a b c)) f = some (.lst ((List.range (perL W)).map (sendD W))) := by rw [updG_ne hne]; exact hf
    have hat : ((List.range (perL W)).map (sendD W))[v % perL W]? = some (.tup (natsD (sendersL W v))) := by
      rw [List.getElem?_map, List.getElem?_range hm]
      show some (D.tup (natsD (sendersL W (v % perL W)))) = _
      rw [senders_mod]
    refine ixR hf2 (L2.atI_nat hat) ?_
    refine ⟨.tup (natsD (sendersL W v)), rfl, alk_tup (by rw [natsD_len]; have := sendersL_len hW v; unfold datL; omega) alk_nats, ?_⟩
    simp only [getS, List.set, truD, isB, i2, TT0, true_and, Bool.not_true, Bool.not_false, Bool.false_eq_true, if_false, if_true, dVar, dC, setT, setTs]
    exact law18_loop hx hW hne ds _ _ _ h.put hf2 k
theorem law18 (hx : xs.length ≤ datL) {W : Ws} (hW : GoodW W) {f : Addr} (hne : f ≠ p) (h : Std xs p Pt G) (hf : G f = some (.lst ((List.range (perL W)).map (sendD W)))) (k : ∀ (v10 v11 : Option D) (G' : GH), Std xs p Pt G' → G' f = some (.lst ((List.range (perL W)).map (sendD W))) → E.nx [v0, some (.ref p), v2, v3, some (encW W), v5, some (.int ((perL W : Nat) : Int)), v7, v8, some (.ref f), v10, v11, v12, v13, v14, v15, v16, v17, v18, v19, v20, v21, v22] G') :
    t_law_18 C Pt C2 Ex E [v0, some (.ref p), v2, v3, some (encW W), v5, some (.int ((perL W : Nat) : Int)), v7, v8, some (.ref f), v10, v11, v12, v13, v14, v15, v16, v17, v18, v19, v20, v21, v22] G := by
  unfold t_law_18
  simp only [dSeq, dIfS, dTst, dTru, dNot, dAnd, dOr, dAndV, dOrV, dNotV, dRet, dRetN, dDrop, dAsg, dNext, dBreak, dCont, dVar, getS, dC, dOp, dChain, dF1, dF2, dCall, dCons, dNil, dTup, dLst, dLstM, dIf, dNeg, uNeg, dLc, dLcM, dItr, dZip, dEnum, dRange1, dRange2, dFor, dPut, dAug, dPar2, dPar3, dSl, dPart, dNoPart, dM1, dM0, dCB, on1, isB, setT, setTs, dRaise, dMk, dYes, dLstRg, dRg1, wipeD, List.set]
  exact ⟨⟨by decide, by decide⟩, law18_loop hx hW hne _ _ _ _ h hf k⟩
end
end KL


end

section
set_option Elab.async false
set_option linter.all false
set_option maxRecDepth 100000
set_option maxHeartbeats 4000000
open PySem PySem.Spec PyProof.Rows L2 DL
namespace KL
theorem eqEmpty {neg : Bool} {L : List D} {G : GH} {Q : DK} (n : Nat) (hd : ∀ d ∈ L, dpt n d = true) (q : Q (.bl (L.isEmpty ^^ neg)) G) (hn : n + 1 ≤ 64 := by decide) : eqQ neg (.lst L) (.lst []) G Q := by
  unfold eqQ
  rw [eqS_lst]
  refine ⟨⟨shp_list n hd hn, shp_list 0 (by simp)⟩, ?_⟩
  have e : PyData.eqv (valD G (.lst L)).py (valD G (.lst [])).py = L.isEmpty := by
    cases L with
    | nil => simp [valD, D.py, pyL, PyData.eqv, PyData.eqvAll]
    | cons a r => simp [valD, D.py, pyL, PyData.eqv, PyData.eqvAll]
  rw [e]
  exact q
theorem nE (l : List Nat) : (natsD l).isEmpty = l.isEmpty := by cases l <;> rfl
theorem rowsD_len (N : Net) : (rowsD N).length = (links N).length := by unfold rowsD; rw [List.length_map]
theorem rowsD_at {N : Net} {i : Nat} (h : i < (links N).length) : (rowsD N)[i]? = some (encP ((links N).getD i (0, 0))) := by
  unfold rowsD
  rw [List.getElem?_map, List.getElem?_eq_getElem h, getD_lt h] <;> rfl
theorem countsL_len (N : Net) (W : Ws) : (countsL N W).length = (links N).length := by unfold countsL; rw [List.length_map]
theorem countsL_at {N : Net} {W : Ws} {i : Nat} (h : i < (links N).length) : (natsD (countsL N W))[i]? = some (.int ((countL N W ((links N).getD i (0, 0)) : Nat) : Int)) := by
  unfold natsD countsL
  rw [List.map_map, List.getElem?_map, List.getElem?_eq_getElem h, getD_lt h] <;> rfl
theorem all_empty {α : Type} (q : α → Bool) (L : List α) : (L.filter fun r => !q r).isEmpty = L.all q := by
  induction L with
  | nil => rfl
  | cons a L ih =>
    rw [List.filter_cons, List.all_cons]
    cases q a with
    | true => simpa using ih
    | false => rfl
section
variable {C Pt C2 p : Addr} {Ex : DXK} {E : DEnds} {xs : Scr} {v0 v1 v2 v3 v4 v5 v6 v7 v8 v9 v10 v11 v12 v13 v14 v15 v16 v17 v18 v19 v20 v21 v22 : Option D} {G : GH}
theorem law16 (h : Std xs p Pt G) {f : Addr} {L : List D} (hf : G f = some (.lst L)) (k : ∀ (g : Addr) (G' : GH), Std xs p Pt G' → g ≠ p → g ≠ f → G' f = some (.lst L) → G' g = some (.lst []) → E.nx [v0, v1, v2, v3, v4, v5, v6, v7, v8, v9, v10, v11, some (.ref g), v13, v14, v15, v16, v17, v18, v19, v20, v21, v22] G') :
    t_law_16 C Pt C2 Ex E [v0, v1, v2, v3, v4, v5, v6, v7, v8, v9, v10, v11, v12, v13, v14, v15, v16, v17, v18, v19, v20, v21, v22] G := by
  unfold t_law_16
  simp only [dSeq, dIfS, dTst, dTru, dNot, dAnd, dOr, dAndV, dOrV, dNotV, dRet, dRetN, dDrop, dAsg, dNext, dBreak, dCont, dVar, getS, dC, dOp, dChain, dF1, dF2, dCall, dCons, dNil, dTup, dLst, dLstM, dIf, dNeg, uNeg, dLc, dLcM, dItr, dZip, dEnum, dRange1, dRange2, dFor, dPut, dAug, dPar2, dPar3, dSl, dPart, dNoPart, dM1, dM0, dCB, on1, isB, setT, setTs, dRaise, dMk, dYes, dLstRg, dRg1, wipeD, List.set]
  refine ⟨sm10 (by simp), fun g hg => ?_⟩
  have hne : g ≠ f := fun e => by rw [e, hf] at hg; cases hg
  exact k g _ (h.new hg) (h.ne hg) hne (by rw [updG_ne hne.symm]; exact hf) updG_same
theorem law15_loop {N : Net} (hG : Good N) {W : Ws} (hW : GoodW W) (hp : perL W ≤ 1200) {f g : Addr} (hgp : g ≠ p) (hgf : g ≠ f) : ∀ (L acc : List Pr) (v13 v14 : Option D) (G : GH), (∀ l ∈ L, l ∈ links N) → acc.length + L.length ≤ 100 → Std xs p Pt G → G f = some (.lst ((List.range (perL W)).map (sendD W))) → G g = some (.lst (natsD (acc.map (countL N W)))) →
    (∀ (v13 v14 : Option D) (G' : GH), Std xs p Pt G' → G' f = some (.lst ((List.range (perL W)).map (sendD W))) → G' g = some (.lst (natsD ((acc ++ L).map (countL N W)))) → E.nx [v0, v1, v2, some (encN N), v4, v5, v6, v7, v8, some (.ref f), v10, v11, some (.ref g), v13, v14, v15, v16, v17, v18, v19, v20, v21, v22] G') →
    loopD yes0 (.tup [.name 13, .name 14]) (t_law_14 C Pt C2 Ex) E (L.map encP) [v0, v1, v2, some (encN N), v4, v5, v6, v7, v8, some (.ref f), v10, v11, some (.ref g), v13, v14, v15, v16, v17, v18, v19, v20, v21, v22] G
  | [], acc, v13, v14, G, _, _, h, hf, hg, k => ⟨trivial, k v13 v14 G h hf (by rw [List.append_nil]; exact hg)⟩
  | l :: L, acc, v13, v14, G, hL, hl, h, hf, hg, k => by
    have hlm := hL l (by simp)
    obtain ⟨l1, l2, l3, l4⟩ := hG.link hlm
    rw [List.length_cons] at hl
    refine ⟨trivial, ?_⟩
    show setT _ (.tup [.int (l.1 : Int), .int (l.2 : Int)]) _ _
    unfold t_law_14
    simp only [dSeq, dIfS, dTst, dTru, dNot, dAnd, dOr, dAndV, dOrV, dNotV, dRet, dRetN, dDrop, dAsg, dNext, dBreak, dCont, dVar, getS, dC, dOp, dChain, dF1, dF2, dCall, dCons, dNil, dTup, dLst, dLstM, dIf, dNeg, uNeg, dLc, dLcM, dItr, dZip, dEnum, dRange1, dRange2, dFor, dPut, dAug, dPar2, dPar3, dSl, dPart, dNoPart, dM1, dM0, dCB, on1, isB, setT, setTs, dRaise, dMk, dYes, dLstRg, dRg1, wipeD, List.set, List.set]
    refine ownLR hg ?_
    simp only [itD]
    rw [hf]
    refine comp_enc (fun s : Nat => sendD W s) (fun s => decide (hears N l.2 (sendersL W s) = (l.1 : Int))) (fun _ => .int 1) (List.range (perL W)) hf (fun s _ k k0 h1 h2 => ?_) (by rw [List.length_range, sizeL]; omega) ?_
    · simp only [dSeq, dIfS, dTst, dTru, dNot, dAnd, dOr, dAndV, dOrV, dNotV, dRet, dRetN, dDrop, dAsg, dNext, dBreak, dCont, dVar, getS, dC, dOp, dChain, dF1, dF2, dCall, dCons, dNil, dTup, dLst, dLstM, dIf, dNeg, uNeg, dLc, dLcM, dItr, dZip, dEnum, dRange1, dRange2, dFor, dPut, dAug, dPar2, dPar3, dSl, dPart, dNoPart, dM1, dM0, dCB, on1, isB, setT, setTs, dRaise, dMk, dYes, dLstRg, dRg1, wipeD, List.set, List.set]
      refine ⟨N, l.2, sendersL W s, _, rfl, .inr rfl, hG, l2, by have := sendersL_len hW s; omega, eqI ?_⟩
      cases hd : decide (hears N l.2 (sendersL W s) = (l.1 : Int)) with
      | true => simp only [getS, List.set, truD, isB, i2, TT0, true_and, Bool.not_true, Bool.not_false, Bool.false_eq_true, if_false, if_true, dVar, dC, setT, setTs]; exact h1 hd
      | false => simp only [getS, List.set, truD, isB, i2, TT0, true_and, Bool.not_true, Bool.not_false, Bool.false_eq_true, if_false, if_true, dVar, dC, setT, setTs]; exact h2 hd
    · refine lenL ?_
      rw [List.length_map, ← count_eq hG W hlm]
      refine getLR hg ⟨by rw [natsD_len, List.length_map, sizeL]; omega, ?_⟩
      have e : natsD (acc.map (countL N W)) ++ [.int ((countL N W l : Nat) : Int)] = natsD ((acc ++ [l]).map (countL N W)) := by rw [List.map_append, natsD_app] <;> rfl
      rw [e]
      refine law15_loop hG hW hp hgp hgf L (acc ++ [l]) _ _ _ (fun x hx => hL x (by simp [hx])) (by rw [List.length_append]; simp; omega) (h.set hgp hg) (by rw [updG_ne hgf.symm]; exact hf) updG_same fun v13 v14 G' h' hf' hg' => k v13 v14 G' h' hf' (by rw [hg', List.append_assoc] <;> rfl)
theorem law15 {N : Net} (hG : Good N) {W : Ws} (hW : GoodW W) (hp : perL W ≤ 1200) {f g : Addr} (hgp : g ≠ p) (hgf : g ≠ f) (h : Std xs p Pt G) (hf : G f = some (.lst ((List.range (perL W)).map (sendD W)))) (hg : G g = some (.lst []))
    (k : ∀ (v13 v14 : Option D) (G' : GH), Std xs p Pt G' → G' g = some (.lst (natsD (countsL N W))) → E.nx [v0, v1, v2, some (encN N), v4, v5, v6, v7, some (.lst (rowsD N)), some (.ref f), v10, v11, some (.ref g), v13, v14, v15, v16, v17, v18, v19, v20, v21, v22] G') :
    t_law_15 C Pt C2 Ex E [v0, v1, v2, some (encN N), v4, v5, v6, v7, some (.lst (rowsD N)), some (.ref f), v10, v11, some (.ref g), v13, v14, v15, v16, v17, v18, v19, v20, v21, v22] G := by
  have h49 := hG.len_links
  unfold t_law_15
  simp only [dSeq, dIfS, dTst, dTru, dNot, dAnd, dOr, dAndV, dOrV, dNotV, dRet, dRetN, dDrop, dAsg, dNext, dBreak, dCont, dVar, getS, dC, dOp, dChain, dF1, dF2, dCall, dCons, dNil, dTup, dLst, dLstM, dIf, dNeg, uNeg, dLc, dLcM, dItr, dZip, dEnum, dRange1, dRange2, dFor, dPut, dAug, dPar2, dPar3, dSl, dPart, dNoPart, dM1, dM0, dCB, on1, isB, setT, setTs, dRaise, dMk, dYes, dLstRg, dRg1, wipeD, List.set]
  simp only [itD]
  exact law15_loop hG hW hp hgp hgf (links N) [] _ _ G (fun l hl => hl) (by simp; omega) h hf hg fun v13 v14 G' h' _ hg' => k v13 v14 G' h' hg'
theorem law13 {N : Net} (hG : Good N) {W : Ws} (hW : GoodW W) (hl : W.length = N.n) (hp : perL W ≤ 1200) {g : Addr} (hg : G g = some (.lst (natsD (countsL N W)))) (k : E.nx [v0, v1, v2, some (encN N), some (encW W), v5, v6, v7, v8, v9, v10, v11, some (.ref g), v13, v14, v15, v16, v17, v18, v19, v20, v21, v22] G) :
    t_law_13 C Pt C2 Ex E [v0, v1, v2, some (encN N), some (encW W), v5, v6, v7, v8, v9, v10, v11, some (.ref g), v13, v14, v15, v16, v17, v18, v19, v20, v21, v22] G := by
  have h49 := hG.len_links
  unfold t_law_13
  simp only [dSeq, dIfS, dTst, dTru, dNot, dAnd, dOr, dAndV, dOrV, dNotV, dRet, dRetN, dDrop, dAsg, dNext, dBreak, dCont, dVar, getS, dC, dOp, dChain, dF1, dF2, dCall, dCons, dNil, dTup, dLst, dLstM, dIf, dNeg, uNeg, dLc, dLcM, dItr, dZip, dEnum, dRange1, dRange2, dFor, dPut, dAug, dPar2, dPar3, dSl, dPart, dNoPart, dM1, dM0, dCB, on1, isB, setT, setTs, dRaise, dMk, dYes, dLstRg, dRg1, wipeD, List.set]
  refine .inr (.inr (.inr ⟨N, W, rfl, hG, hW, hl, fun _ => ?_, fun z => absurd hp (by omega)⟩))
  refine tupR hg ⟨.tup (natsD (countsL N W)), rfl, alk_tup (by rw [natsD_len, countsL_len]; unfold datL; omega) alk_nats, ?_⟩
  simp only [getS, List.set, truD, isB, i2, TT0, true_and, Bool.not_true, Bool.not_false, Bool.false_eq_true, if_false, if_true, dVar, dC, setT, setTs]
  exact k
theorem law12 {N : Net} (hG : Good N) {W : Ws} (hW : GoodW W) (hl : W.length = N.n) (hp : perL W ≤ 1200) {g : Addr} (hg : G g = some (.lst (natsD (countsL N W)))) (k : E.nx [v0, v1, v2, some (encN N), some (encW W), v5, v6, v7, some (.lst (rowsD N)), v9, v10, v11, some (.ref g), v13, v14, v15, v16, v17, v18, v19, v20, v21, v22] G) :
    t_law_12 C Pt C2 Ex E [v0, v1, v2, some (encN N), some (encW W), v5, v6, v7, some (.lst (rowsD N)), v9, v10, v11, some (.ref g), v13, v14, v15, v16, v17, v18, v19, v20, v21, v22] G := by
  have h49 := hG.len_links
  unfold t_law_12
  simp only [dSeq, dIfS, dTst, dTru, dNot, dAnd, dOr, dAndV, dOrV, dNotV, dRet, dRetN, dDrop, dAsg, dNext, dBreak, dCont, dVar, getS, dC, dOp, dChain, dF1, dF2, dCall, dCons, dNil, dTup, dLst, dLstM, dIf, dNeg, uNeg, dLc, dLcM, dItr, dZip, dEnum, dRange1, dRange2, dFor, dPut, dAug, dPar2, dPar3, dSl, dPart, dNoPart, dM1, dM0, dCB, on1, isB, setT, setTs, dRaise, dMk, dYes, dLstRg, dRg1, wipeD, List.set]
  refine .inr (.inr (.inr ⟨N, W, rfl, hG, hW, hl, fun _ => ?_, fun z => absurd hp (by omega)⟩))
  refine lenL ?_
  rw [rowsD_len]
  refine ⟨⟨by omega, by omega⟩, ?_⟩
  rw [Int.toNat_natCast, rgD_nats]
  refine comp_enc (fun n : Nat => .int (n : Int)) (fun i => decide (countL N W ((links N).getD i (0, 0)) = 0)) (fun i => encP ((links N).getD i (0, 0))) (List.range (links N).length) trivial (fun i hi k k0 h1 h2 => ?_) (by rw [List.length_range, sizeL]; omega) ?_
  · have hi := List.mem_range.mp hi
    simp only [dSeq, dIfS, dTst, dTru, dNot, dAnd, dOr, dAndV, dOrV, dNotV, dRet, dRetN, dDrop, dAsg, dNext, dBreak, dCont, dVar, getS, dC, dOp, dChain, dF1, dF2, dCall, dCons, dNil, dTup, dLst, dLstM, dIf, dNeg, uNeg, dLc, dLcM, dItr, dZip, dEnum, dRange1, dRange2, dFor, dPut, dAug, dPar2, dPar3, dSl, dPart, dNoPart, dM1, dM0, dCB, on1, isB, setT, setTs, dRaise, dMk, dYes, dLstRg, dRg1, wipeD, List.set, List.set]
    refine ixR hg (L2.atI_nat (countsL_at hi)) (eqI ?_)
    have e : decide (((countL N W ((links N).getD i (0, 0)) : Nat) : Int) = 0) = decide (countL N W ((links N).getD i (0, 0)) = 0) := by congr 1; apply propext; omega
    rw [e]
    cases hd : decide (countL N W ((links N).getD i (0, 0)) = 0) with
    | true =>
      simp only [getS, List.set, truD, isB, i2, TT0, true_and, Bool.not_true, Bool.not_false, Bool.false_eq_true, if_false, if_true, dVar, dC, setT, setTs]
      exact ixL (L2.atI_nat (rowsD_at hi)) (h1 hd)
    | false => simp only [getS, List.set, truD, isB, i2, TT0, true_and, Bool.not_true, Bool.not_false, Bool.false_eq_true, if_false, if_true, dVar, dC, setT, setTs]; exact h2 hd
  · have e : ((List.range (links N).length).filter fun i => decide (countL N W ((links N).getD i (0, 0)) = 0)).map (fun i => encP ((links N).getD i (0, 0))) = (neverL N W).map encP := by
      have := idx_filter (0, 0) (fun l : Pr => decide (countL N W l = 0)) [] (links N)
      rw [List.length_nil, List.nil_append, ← List.range_eq_range'] at this
      unfold neverL
      rw [← this, List.map_map] <;> rfl
    rw [e]
    simp only [tupF, asQ]
    have hn : (neverL N W).length ≤ 49 := Nat.le_trans (List.length_filter_le _ _) h49
    refine ⟨.tup ((neverL N W).map encP), rfl, alk_tup (by rw [List.length_map]; unfold datL; omega) fun d hd => ?_, ?_⟩
    · obtain ⟨q, _, rfl⟩ := List.mem_map.mp hd
      rfl
    · simp only [getS, List.set, truD, isB, i2, TT0, true_and, Bool.not_true, Bool.not_false, Bool.false_eq_true, if_false, if_true, dVar, dC, setT, setTs]
      exact k
theorem law11 {W : Ws} (hW : GoodW W) (k : E.nx [v0, v1, v2, v3, some (encW W), v5, v6, v7, v8, v9, v10, v11, v12, v13, v14, some (.bl (oneB W)), v16, v17, v18, v19, v20, v21, v22] G) :
    t_law_11 C Pt C2 Ex E [v0, v1, v2, v3, some (encW W), v5, v6, v7, v8, v9, v10, v11, v12, v13, v14, v15, v16, v17, v18, v19, v20, v21, v22] G := by
  have h7 := hW.top
  unfold t_law_11
  simp only [dSeq, dIfS, dTst, dTru, dNot, dAnd, dOr, dAndV, dOrV, dNotV, dRet, dRetN, dDrop, dAsg, dNext, dBreak, dCont, dVar, getS, dC, dOp, dChain, dF1, dF2, dCall, dCons, dNil, dTup, dLst, dLstM, dIf, dNeg, uNeg, dLc, dLcM, dItr, dZip, dEnum, dRange1, dRange2, dFor, dPut, dAug, dPar2, dPar3, dSl, dPart, dNoPart, dM1, dM0, dCB, on1, isB, setT, setTs, dRaise, dMk, dYes, dLstRg, dRg1, wipeD, List.set]
  simp only [encW, itD, earsD]
  refine comp_enc (fun r : List Nat => .tup (natsD r)) (fun r => !one1 r) (fun r => .tup (natsD r)) W trivial (fun r hr k k0 h1 h2 => ?_) (by rw [sizeL]; omega) ?_
  · have h3 := hW.row r hr
    simp only [dSeq, dIfS, dTst, dTru, dNot, dAnd, dOr, dAndV, dOrV, dNotV, dRet, dRetN, dDrop, dAsg, dNext, dBreak, dCont, dVar, getS, dC, dOp, dChain, dF1, dF2, dCall, dCons, dNil, dTup, dLst, dLstM, dIf, dNeg, uNeg, dLc, dLcM, dItr, dZip, dEnum, dRange1, dRange2, dFor, dPut, dAug, dPar2, dPar3, dSl, dPart, dNoPart, dM1, dM0, dCB, on1, isB, setT, setTs, dRaise, dMk, dYes, dLstRg, dRg1, wipeD, List.set, List.set]
    refine lenT (neI ?_)
    rw [natsD_len]
    unfold one1 at h1 h2
    by_cases hr1 : r.length = 1
    · rw [show decide ((r.length : Int) = 1) = true by rw [decide_eq_true_eq]; omega]
      rw [decide_eq_true hr1, Bool.true_and] at h1 h2
      simp only [getS, List.set, truD, isB, i2, TT0, true_and, Bool.not_true, Bool.not_false, Bool.false_eq_true, if_false, if_true, dVar, dC, setT, setTs]
      refine ixT (L2.atI_nat (natsD_get (show 0 < r.length by omega))) (eqI ?_)
      have e : decide (((r.getD 0 0 : Nat) : Int) = 0) = !decide (0 < r.getD 0 0) := by
        by_cases h : 0 < r.getD 0 0
        · rw [decide_eq_true h]; exact decide_eq_false (by omega)
        · rw [decide_eq_false h]; exact decide_eq_true (by omega)
      rw [e]
      cases hd : (!decide (0 < r.getD 0 0)) with
      | true => simp only [getS, List.set, truD, isB, i2, TT0, true_and, Bool.not_true, Bool.not_false, Bool.false_eq_true, if_false, if_true, dVar, dC, setT, setTs]; exact h1 hd
      | false => simp only [getS, List.set, truD, isB, i2, TT0, true_and, Bool.not_true, Bool.not_false, Bool.false_eq_true, if_false, if_true, dVar, dC, setT, setTs]; exact h2 hd
    · rw [show decide ((r.length : Int) = 1) = false by rw [decide_eq_false_iff_not]; omega]
      rw [decide_eq_false hr1, Bool.false_and] at h1 h2
      simp only [getS, List.set, truD, isB, i2, TT0, true_and, Bool.not_true, Bool.not_false, Bool.false_eq_true, if_false, if_true, dVar, dC, setT, setTs]
      exact h1 rfl
  · refine ⟨sm10 (by simp), eqEmpty (neg := false) 1 (fun d hd => ?_) ?_⟩
    · obtain ⟨r, _, rfl⟩ := List.mem_map.mp hd
      exact List.all_eq_true.mpr (nats_dpt r)
    · have e : ((W.filter fun r => !one1 r).map fun r => D.tup (natsD r)).isEmpty = oneB W := by
        have := all_empty one1 W
        rw [List.isEmpty_map, this] <;> rfl
      rw [e, Bool.xor_false]
      exact k
theorem law10 {W : Ws} (hW : GoodW W) (k : E.nx [v0, v1, v2, v3, v4, some (.lst (patsD W)), v6, v7, v8, v9, v10, v11, v12, v13, v14, v15, some (.lst (natsD (W.map rp))), v17, v18, v19, v20, v21, v22] G) :
    t_law_10 C Pt C2 Ex E [v0, v1, v2, v3, v4, some (.lst (patsD W)), v6, v7, v8, v9, v10, v11, v12, v13, v14, v15, v16, v17, v18, v19, v20, v21, v22] G := by
  have h7 := hW.top
  unfold t_law_10
  simp only [dSeq, dIfS, dTst, dTru, dNot, dAnd, dOr, dAndV, dOrV, dNotV, dRet, dRetN, dDrop, dAsg, dNext, dBreak, dCont, dVar, getS, dC, dOp, dChain, dF1, dF2, dCall, dCons, dNil, dTup, dLst, dLstM, dIf, dNeg, uNeg, dLc, dLcM, dItr, dZip, dEnum, dRange1, dRange2, dFor, dPut, dAug, dPar2, dPar3, dSl, dPart, dNoPart, dM1, dM0, dCB, on1, isB, setT, setTs, dRaise, dMk, dYes, dLstRg, dRg1, wipeD, List.set]
  simp only [itD, patsD]
  refine comp_each (fun r : List Nat => .lst (natsD (patL r))) (fun r => .int ((rp r : Nat) : Int)) W trivial (fun r hr k hk => ?_) (by rw [sizeL]; omega) ?_
  · simp only [dSeq, dIfS, dTst, dTru, dNot, dAnd, dOr, dAndV, dOrV, dNotV, dRet, dRetN, dDrop, dAsg, dNext, dBreak, dCont, dVar, getS, dC, dOp, dChain, dF1, dF2, dCall, dCons, dNil, dTup, dLst, dLstM, dIf, dNeg, uNeg, dLc, dLcM, dItr, dZip, dEnum, dRange1, dRange2, dFor, dPut, dAug, dPar2, dPar3, dSl, dPart, dNoPart, dM1, dM0, dCB, on1, isB, setT, setTs, dRaise, dMk, dYes, dLstRg, dRg1, wipeD, List.set, List.set]
    refine lenL ?_
    rw [natsD_len, patL_len]
    exact hk
  · have e : W.map (fun r => D.int ((rp r : Nat) : Int)) = natsD (W.map rp) := by unfold natsD; rw [List.map_map] <;> rfl
    rw [e]
    exact k
theorem law9 {W : Ws} (hW : GoodW W) (k : E.nx [v0, v1, v2, v3, v4, v5, v6, v7, v8, v9, v10, v11, v12, v13, v14, v15, some (.lst (natsD (W.map rp))), some (.lst (natsD (twL (W.map rp)))), v18, v19, v20, v21, v22] G) :
    t_law_9 C Pt C2 Ex E [v0, v1, v2, v3, v4, v5, v6, v7, v8, v9, v10, v11, v12, v13, v14, v15, some (.lst (natsD (W.map rp))), v17, v18, v19, v20, v21, v22] G := by
  have h7 := hW.top
  have hz : ∀ x ∈ W.map rp, x ≤ 60 := fun x hx => by
    obtain ⟨r, hr, rfl⟩ := List.mem_map.mp hx
    exact (rp_ok hW hr).2
  have hzl : (W.map rp).length ≤ 7 := by rw [List.length_map]; exact h7
  unfold t_law_9
  generalize W.map rp = z at hz hzl k ⊢
  simp only [dSeq, dIfS, dTst, dTru, dNot, dAnd, dOr, dAndV, dOrV, dNotV, dRet, dRetN, dDrop, dAsg, dNext, dBreak, dCont, dVar, getS, dC, dOp, dChain, dF1, dF2, dCall, dCons, dNil, dTup, dLst, dLstM, dIf, dNeg, uNeg, dLc, dLcM, dItr, dZip, dEnum, dRange1, dRange2, dFor, dPut, dAug, dPar2, dPar3, dSl, dPart, dNoPart, dM1, dM0, dCB, on1, isB, setT, setTs, dRaise, dMk, dYes, dLstRg, dRg1, wipeD, List.set]
  refine lenL ?_
  rw [natsD_len]
  refine ⟨⟨by omega, by omega⟩, ?_⟩
  rw [Int.toNat_natCast, rgD_nats]
  refine comp_enc (fun n : Nat => .int (n : Int)) (fun i => !((List.range i).filter fun j => decide (1 < Nat.gcd (z.getD i 0) (z.getD j 0))).isEmpty) (fun n => .int (n : Int)) (List.range z.length) trivial (fun i hi k k0 h1 h2 => ?_) (by rw [List.length_range, sizeL]; omega) k
  have hi := List.mem_range.mp hi
  simp only [dSeq, dIfS, dTst, dTru, dNot, dAnd, dOr, dAndV, dOrV, dNotV, dRet, dRetN, dDrop, dAsg, dNext, dBreak, dCont, dVar, getS, dC, dOp, dChain, dF1, dF2, dCall, dCons, dNil, dTup, dLst, dLstM, dIf, dNeg, uNeg, dLc, dLcM, dItr, dZip, dEnum, dRange1, dRange2, dFor, dPut, dAug, dPar2, dPar3, dSl, dPart, dNoPart, dM1, dM0, dCB, on1, isB, setT, setTs, dRaise, dMk, dYes, dLstRg, dRg1, wipeD, List.set, List.set]
  refine ⟨⟨by omega, by omega⟩, ?_⟩
  rw [Int.toNat_natCast, rgD_nats]
  refine comp_enc (fun n : Nat => .int (n : Int)) (fun j => decide (1 < Nat.gcd (z.getD i 0) (z.getD j 0))) (fun n => .int (n : Int)) (List.range i) trivial (fun j hj k k0 h3 h4 => ?_) (by rw [List.length_range, sizeL]; omega) ?_
  · have hj := List.mem_range.mp hj
    simp only [dSeq, dIfS, dTst, dTru, dNot, dAnd, dOr, dAndV, dOrV, dNotV, dRet, dRetN, dDrop, dAsg, dNext, dBreak, dCont, dVar, getS, dC, dOp, dChain, dF1, dF2, dCall, dCons, dNil, dTup, dLst, dLstM, dIf, dNeg, uNeg, dLc, dLcM, dItr, dZip, dEnum, dRange1, dRange2, dFor, dPut, dAug, dPar2, dPar3, dSl, dPart, dNoPart, dM1, dM0, dCB, on1, isB, setT, setTs, dRaise, dMk, dYes, dLstRg, dRg1, wipeD, List.set, List.set]
    refine ixL (L2.atI_nat (natsD_get hi)) (ixL (L2.atI_nat (natsD_get (show j < z.length by omega))) ?_)
    have := hz _ (getD_mem (d := 0) (show j < z.length by omega))
    refine ⟨_, _, rfl, by omega, ?_⟩
    simp only [gtD, getS, List.set, truD, isB, i2, TT0, true_and, Bool.not_true, Bool.not_false, Bool.false_eq_true, if_false, if_true, dVar, dC, setT, setTs]
    have e : decide ((1 : Int) < ((Nat.gcd (z.getD i 0) (z.getD j 0) : Nat) : Int)) = decide (1 < Nat.gcd (z.getD i 0) (z.getD j 0)) := by congr 1; apply propext; omega
    rw [e]
    cases hd : decide (1 < Nat.gcd (z.getD i 0) (z.getD j 0)) with
    | true => simp only [getS, List.set, truD, isB, i2, TT0, true_and, Bool.not_true, Bool.not_false, Bool.false_eq_true, if_false, if_true, dVar, dC, setT, setTs]; exact h3 hd
    | false => simp only [getS, List.set, truD, isB, i2, TT0, true_and, Bool.not_true, Bool.not_false, Bool.false_eq_true, if_false, if_true, dVar, dC, setT, setTs]; exact h4 hd
  · refine ⟨sm10 (by simp), ?_⟩
    show eqQ true (.lst (natsD ((List.range i).filter fun j => decide (1 < Nat.gcd (z.getD i 0) (z.getD j 0))))) (.lst []) _ _
    refine eqEmpty (neg := true) 0 (nats_dpt _) ?_
    rw [Bool.xor_true, nE]
    cases hd : (!((List.range i).filter fun j => decide (1 < Nat.gcd (z.getD i 0) (z.getD j 0))).isEmpty) with
    | true => simp only [getS, List.set, truD, isB, i2, TT0, true_and, Bool.not_true, Bool.not_false, Bool.false_eq_true, if_false, if_true, dVar, dC, setT, setTs]; exact h1 hd
    | false => simp only [getS, List.set, truD, isB, i2, TT0, true_and, Bool.not_true, Bool.not_false, Bool.false_eq_true, if_false, if_true, dVar, dC, setT, setTs]; exact h2 hd
theorem law8 {N : Net} (hG : Good N) {W : Ws} (hW : GoodW W) (hl : W.length = N.n) {g : Addr} (hg : G g = some (.lst (natsD (countsL N W)))) (k : E.nx [v0, v1, v2, v3, some (encW W), v5, v6, v7, v8, v9, v10, v11, some (.ref g), v13, v14, some (.bl (oneB W)), v16, some (.lst (natsD (twL (W.map rp)))), v18, v19, v20, v21, v22] G) :
    t_law_8 C Pt C2 Ex E [v0, v1, v2, v3, some (encW W), v5, v6, v7, v8, v9, v10, v11, some (.ref g), v13, v14, some (.bl (oneB W)), v16, some (.lst (natsD (twL (W.map rp)))), v18, v19, v20, v21, v22] G := by
  have h49 := hG.len_links
  have etw : (twL (W.map rp)).isEmpty = copB (W.map rp) := tw_nil fun x hx => by
    obtain ⟨r, hr, rfl⟩ := List.mem_map.mp hx
    exact (rp_ok hW hr).1
  unfold t_law_8
  simp only [dSeq, dIfS, dTst, dTru, dNot, dAnd, dOr, dAndV, dOrV, dNotV, dRet, dRetN, dDrop, dAsg, dNext, dBreak, dCont, dVar, getS, dC, dOp, dChain, dF1, dF2, dCall, dCons, dNil, dTup, dLst, dLstM, dIf, dNeg, uNeg, dLc, dLcM, dItr, dZip, dEnum, dRange1, dRange2, dFor, dPut, dAug, dPar2, dPar3, dSl, dPart, dNoPart, dM1, dM0, dCB, on1, isB, setT, setTs, dRaise, dMk, dYes, dLstRg, dRg1, wipeD, List.set]
  refine .inr ⟨W, rfl, hW, ?_⟩
  cases h1 : oneB W with
  | false =>
    rw [h1] at k
    simp only [getS, List.set, truD, isB, i2, TT0, true_and, Bool.not_true, Bool.not_false, Bool.false_eq_true, if_false, if_true, dVar, dC, setT, setTs, Bool.false_and]
    refine ⟨.bl false, rfl, rfl, ?_⟩
    simp only [getS, List.set, truD, isB, i2, TT0, true_and, Bool.not_true, Bool.not_false, Bool.false_eq_true, if_false, if_true, dVar, dC, setT, setTs]
    exact k
  | true =>
    rw [h1] at k
    simp only [getS, List.set, truD, isB, i2, TT0, true_and, Bool.not_true, Bool.not_false, Bool.false_eq_true, if_false, if_true, dVar, dC, setT, setTs, Bool.true_and]
    refine ⟨sm10 (by simp), eqEmpty (neg := false) 0 (nats_dpt _) ?_⟩
    rw [Bool.xor_false, nE, etw]
    refine ⟨.bl (copB (W.map rp)), rfl, rfl, ?_⟩
    simp only [getS, List.set, truD, isB, i2, TT0, true_and, Bool.not_true, Bool.not_false, Bool.false_eq_true, if_false, if_true, dVar, dC, setT, setTs]
    refine ⟨sm10 (by simp), eqEmpty (neg := false) 0 (nats_dpt _) ?_⟩
    rw [Bool.xor_false, nE, etw]
    cases h2 : copB (W.map rp) with
    | false =>
      simp only [getS, List.set, truD, isB, i2, TT0, true_and, Bool.not_true, Bool.not_false, Bool.false_eq_true, if_false, if_true, dVar, dC, setT, setTs]
      exact k
    | true =>
      simp only [getS, List.set, truD, isB, i2, TT0, true_and, Bool.not_true, Bool.not_false, Bool.false_eq_true, if_false, if_true, dVar, dC, setT, setTs]
      simp only [itD]
      rw [hg]
      refine comp_enc (fun n : Nat => .int (n : Int)) (fun n => decide (n = 0)) (fun n => .int (n : Int)) (countsL N W) hg (fun n _ k k0 h3 h4 => ?_) (by rw [countsL_len, sizeL]; omega) ?_
      · simp only [dSeq, dIfS, dTst, dTru, dNot, dAnd, dOr, dAndV, dOrV, dNotV, dRet, dRetN, dDrop, dAsg, dNext, dBreak, dCont, dVar, getS, dC, dOp, dChain, dF1, dF2, dCall, dCons, dNil, dTup, dLst, dLstM, dIf, dNeg, uNeg, dLc, dLcM, dItr, dZip, dEnum, dRange1, dRange2, dFor, dPut, dAug, dPar2, dPar3, dSl, dPart, dNoPart, dM1, dM0, dCB, on1, isB, setT, setTs, dRaise, dMk, dYes, dLstRg, dRg1, wipeD, List.set, List.set]
        refine eqI ?_
        have e : decide (((n : Nat) : Int) = 0) = decide (n = 0) := by congr 1; apply propext; omega
        rw [e]
        cases hd : decide (n = 0) with
        | true => simp only [getS, List.set, truD, isB, i2, TT0, true_and, Bool.not_true, Bool.not_false, Bool.false_eq_true, if_false, if_true, dVar, dC, setT, setTs]; exact h3 hd
        | false => simp only [getS, List.set, truD, isB, i2, TT0, true_and, Bool.not_true, Bool.not_false, Bool.false_eq_true, if_false, if_true, dVar, dC, setT, setTs]; exact h4 hd
      · have e : (countsL N W).filter (fun n => decide (n = 0)) = [] := by
          rw [List.filter_eq_nil_iff]
          intro n hn
          obtain ⟨l, hlm, rfl⟩ := List.mem_map.mp hn
          have := cop_clear hG hW hl h1 h2 hlm
          simpa using this
        rw [e]
        refine ⟨sm10 (by simp), eqEmpty (neg := true) 0 (by simp) ?_⟩
        simp only [getS, List.set, truD, isB, i2, TT0, true_and, Bool.not_true, Bool.not_false, Bool.false_eq_true, if_false, if_true, dVar, dC, setT, setTs, List.map_nil, List.isEmpty_nil, Bool.xor_self]
        exact k
end
end KL


end

section
set_option Elab.async false
set_option linter.all false
set_option maxRecDepth 100000
set_option maxHeartbeats 4000000
open PySem PySem.Spec PyProof.Rows L2 DL
namespace KL
def badW : List D := [.non, .tup [], .tup [.tup []], .tup [.tup [.int 10]], .tup [.tup [.int 0, .int 0, .int 0, .int 0, .int 0, .int 0, .int 0]], .tup [.tup [.int 0], .tup [.int 0], .tup [.int 0], .tup [.int 0], .tup [.int 0], .tup [.int 0], .tup [.int 0], .tup [.int 0]], .lst [.tup [.int 0]], .tup [.tup [.bl true]], .tup [.tup [.int (-1)]], .tup [.int 0], .tup [.str "1"]]
structure BadW (d : D) : Prop where
  net : netOk d = false
  dat : dat 3 d = true
  str : StrS d
  w : waitsOk d = false
theorem bad_w {d : D} (h : d ∈ badW) : BadW d := by
  simp only [badW, List.mem_cons, List.not_mem_nil, or_false] at h
  rcases h with rfl | rfl | rfl | rfl | rfl | rfl | rfl | rfl | rfl | rfl | rfl <;> exact ⟨by decide +kernel, by decide +kernel, (fun x y e => by cases e), by decide +kernel⟩
section
variable {C Pt C2 p : Addr} {Ex : DXK} {E : DEnds} {xs : Scr} {v0 v1 v2 v3 v4 v5 v6 v7 v8 v9 v10 v11 v12 v13 v14 v15 v16 v17 v18 v19 v20 v21 v22 : Option D} {G : GH}
theorem law7 (hx : xs.length ≤ datL) (h : Std xs p Pt G) (k : ∀ (d : D) (G' : GH), d ∈ badW → Std xs p Pt G' → E.nx [v0, some (.ref p), v2, v3, v4, v5, v6, v7, v8, v9, v10, v11, v12, v13, v14, v15, v16, v17, some d, v19, v20, v21, v22] G') :
    t_law_7 C Pt C2 Ex E [v0, some (.ref p), v2, v3, v4, v5, v6, v7, v8, v9, v10, v11, v12, v13, v14, v15, v16, v17, v18, v19, v20, v21, v22] G := by
  unfold t_law_7
  simp only [dSeq, dIfS, dTst, dTru, dNot, dAnd, dOr, dAndV, dOrV, dNotV, dRet, dRetN, dDrop, dAsg, dNext, dBreak, dCont, dVar, getS, dC, dOp, dChain, dF1, dF2, dCall, dCons, dNil, dTup, dLst, dLstM, dIf, dNeg, uNeg, dLc, dLcM, dItr, dZip, dEnum, dRange1, dRange2, dFor, dPut, dAug, dPar2, dPar3, dSl, dPart, dNoPart, dM1, dM0, dCB, on1, isB, setT, setTs, dRaise, dMk, dYes, dLstRg, dRg1, wipeD, List.set, sizeL, List.length_cons, List.length_nil, Nat.zero_add, Nat.reduceAdd, Nat.reduceLeDiff, true_and]
  refine ⟨⟨by simp, by decide, by decide, by simp⟩, ?_⟩
  refine ⟨⟨by simp, by decide, by decide, by simp⟩, ?_⟩
  exact ⟨p, .lst badW, 11, (fun d => d ∈ badW), xs, rfl, by decide, .inl ⟨badW, .inl rfl, rfl, fun d hd => hd⟩, hx, h.g, fun d a1 a2 a3 hd => k d _ hd h.put⟩
theorem law6 (h : Std xs p Pt G) {N : Net} (hG : Good N) {d : D} (hd : BadW d) (k : E.nx [v0, v1, v2, some (encN N), v4, v5, v6, v7, v8, v9, v10, v11, v12, v13, v14, v15, v16, v17, some d, some (.lst [.str "waits", .str "waits", .str "waits", .str "waits"]), v20, v21, v22] G) :
    t_law_6 C Pt C2 Ex E [v0, v1, v2, some (encN N), v4, v5, v6, v7, v8, v9, v10, v11, v12, v13, v14, v15, v16, v17, some d, v19, v20, v21, v22] G := by
  unfold t_law_6
  simp only [dSeq, dIfS, dTst, dTru, dNot, dAnd, dOr, dAndV, dOrV, dNotV, dRet, dRetN, dDrop, dAsg, dNext, dBreak, dCont, dVar, getS, dC, dOp, dChain, dF1, dF2, dCall, dCons, dNil, dTup, dLst, dLstM, dIf, dNeg, uNeg, dLc, dLcM, dItr, dZip, dEnum, dRange1, dRange2, dFor, dPut, dAug, dPar2, dPar3, dSl, dPart, dNoPart, dM1, dM0, dCB, on1, isB, setT, setTs, dRaise, dMk, dYes, dLstRg, dRg1, wipeD, List.set]
  refine ⟨h.o, .inl ⟨d, 3, rfl, hd.dat, hd.w, ⟨rfl, rfl, ?_⟩⟩⟩
  refine ⟨h.o, .inl ⟨d, _, 3, rfl, hd.dat, hd.w, ⟨rfl, rfl, ?_⟩⟩⟩
  refine ⟨h.o, .inl ⟨d, 3, rfl, hd.dat, hd.w, ⟨rfl, rfl, ?_⟩⟩⟩
  refine ⟨h.o, .inr (.inl ⟨N, d, 3, rfl, hG, hd.dat, hd.w, ⟨rfl, rfl, ?_⟩⟩)⟩
  exact ⟨sm10 (by simp), k⟩
theorem law5 (hx : xs.length ≤ datL) (h : Std xs p Pt G) {N : Net} (hG : Good N) (h5 : N.n ≤ 5) {W : Ws} (hW : GoodW W) (hl : W.length = N.n) (k : ∀ G', Std xs p Pt G' → E.nx [v0, some (.ref p), v2, some (encN N), some (encW W), v5, v6, v7, v8, v9, v10, v11, v12, v13, v14, v15, v16, v17, v18, some (.lst [.str "waits", .str "waits", .str "waits", .str "waits"]), v20, v21, v22] G') :
    t_law_5 C Pt C2 Ex E [v0, some (.ref p), v2, some (encN N), some (encW W), v5, v6, v7, v8, v9, v10, v11, v12, v13, v14, v15, v16, v17, v18, some (.lst [.str "waits", .str "waits", .str "waits", .str "waits"]), v20, v21, v22] G := by
  have h7 := hW.top
  unfold t_law_5
  simp only [dSeq, dIfS, dTst, dTru, dNot, dAnd, dOr, dAndV, dOrV, dNotV, dRet, dRetN, dDrop, dAsg, dNext, dBreak, dCont, dVar, getS, dC, dOp, dChain, dF1, dF2, dCall, dCons, dNil, dTup, dLst, dLstM, dIf, dNeg, uNeg, dLc, dLcM, dItr, dZip, dEnum, dRange1, dRange2, dFor, dPut, dAug, dPar2, dPar3, dSl, dPart, dNoPart, dM1, dM0, dCB, on1, isB, setT, setTs, dRaise, dMk, dYes, dLstRg, dRg1, wipeD, List.set]
  refine ⟨sm10 (by simp), ⟨⟨by decide, by decide, by rw [sizeL]; decide⟩, ?_⟩⟩
  refine ne_self (d := .lst [.str "waits", .str "waits", .str "waits", .str "waits"]) 1 (eqS_lst _) (show dpt 1 (.lst [.str "waits", .str "waits", .str "waits", .str "waits"]) = true by decide +kernel) ?_
  simp only [getS, List.set, truD, isB, i2, TT0, true_and, Bool.not_true, Bool.not_false, Bool.false_eq_true, if_false, if_true, dVar, dC, setT, setTs]
  refine ⟨h.o, sm10 (by simp), sm10 (by simp), ⟨by rw [earsD_len, sizeL]; simp; omega, ?_⟩⟩
  have e : D.tup (earsD W ++ [.tup [.int 1]]) = encW (W ++ [[1]]) := by unfold encW; rw [earsD_app] <;> rfl
  rw [e]
  have hW2 : GoodW (W ++ [[1]]) := ⟨by rw [List.length_append]; simp, by rw [List.length_append]; simp; omega, fun r hr => by
    rcases List.mem_append.mp hr with hr | hr
    · exact hW.row r hr
    · rw [List.mem_singleton.mp hr]; exact ⟨by simp, by simp, fun x hx => by rw [List.mem_singleton.mp hx]; decide⟩⟩
  refine .inr (.inr (.inl ⟨N, W ++ [[1]], rfl, hG, hW2, by rw [List.length_append]; simp; omega, ⟨rfl, rfl, ?_⟩⟩))
  refine neX ?_
  simp only [decide_true, getS, List.set, truD, isB, i2, TT0, true_and, Bool.not_true, Bool.not_false, Bool.false_eq_true, if_false, if_true, dVar, dC, setT, setTs]
  refine ⟨h.o, sm10 (by simp), ?_⟩
  refine ⟨p, .lst [.int (-1), .int 1000001, .non], 3, (fun d => isNum d 0 1000000 = false ∧ dat 0 d = true), xs, rfl, by decide, .inl ⟨_, .inl rfl, rfl, fun d hd => ?_⟩, hx, h.g, fun d a b c hd => ?_⟩
  · simp only [List.mem_cons, List.not_mem_nil, or_false] at hd
    rcases hd with rfl | rfl | rfl <;> exact ⟨by decide +kernel, rfl⟩
  refine .inr ⟨W, d, 0, rfl, hW, hd.2, .inl ⟨hd.1, ⟨rfl, rfl, ?_⟩⟩⟩
  refine neX ?_
  simp only [decide_true, getS, List.set, truD, isB, i2, TT0, true_and, Bool.not_true, Bool.not_false, Bool.false_eq_true, if_false, if_true, dVar, dC, setT, setTs]
  exact k _ h.put
theorem law4 (h : Std xs p Pt G) {d : D} (hd : BadW d) (k : E.nx [v0, v1, v2, v3, v4, v5, v6, v7, v8, v9, v10, v11, v12, v13, v14, v15, v16, v17, some d, v19, v20, v21, v22] G) :
    t_law_4 C Pt C2 Ex E [v0, v1, v2, v3, v4, v5, v6, v7, v8, v9, v10, v11, v12, v13, v14, v15, v16, v17, some d, v19, v20, v21, v22] G := by
  unfold t_law_4
  simp only [dSeq, dIfS, dTst, dTru, dNot, dAnd, dOr, dAndV, dOrV, dNotV, dRet, dRetN, dDrop, dAsg, dNext, dBreak, dCont, dVar, getS, dC, dOp, dChain, dF1, dF2, dCall, dCons, dNil, dTup, dLst, dLstM, dIf, dNeg, uNeg, dLc, dLcM, dItr, dZip, dEnum, dRange1, dRange2, dFor, dPut, dAug, dPar2, dPar3, dSl, dPart, dNoPart, dM1, dM0, dCB, on1, isB, setT, setTs, dRaise, dMk, dYes, dLstRg, dRg1, wipeD, List.set]
  refine ⟨h.o, .inl ⟨d, d, rfl, ⟨hd.dat, hd.str⟩, hd.net, ⟨rfl, rfl, ?_⟩⟩⟩
  refine neX ?_
  simp only [decide_true, getS, List.set, truD, isB, i2, TT0, true_and, Bool.not_true, Bool.not_false, Bool.false_eq_true, if_false, if_true, dVar, dC, setT, setTs]
  exact k
theorem law29 (hx : xs.length ≤ datL) (h : Std xs p Pt G) (k : ∀ (v3 v4 v5 v6 v7 v8 v9 v10 v11 v12 v13 v14 v15 v16 v17 v18 v19 v20 v21 v22 : Option D) (G' : GH), Std xs p Pt G' → E.nx [v0, some (.ref p), v2, v3, v4, v5, v6, v7, v8, v9, v10, v11, v12, v13, v14, v15, v16, v17, v18, v19, v20, v21, v22] G') (kc : ∀ (v3 v4 v5 v6 v7 v8 v9 v10 v11 v12 v13 v14 v15 v16 v17 v18 v19 v20 v21 v22 : Option D) (G' : GH), Std xs p Pt G' → E.ct [v0, some (.ref p), v2, v3, v4, v5, v6, v7, v8, v9, v10, v11, v12, v13, v14, v15, v16, v17, v18, v19, v20, v21, v22] G') :
    t_law_29 C Pt C2 Ex E [v0, some (.ref p), v2, v3, v4, v5, v6, v7, v8, v9, v10, v11, v12, v13, v14, v15, v16, v17, v18, v19, v20, v21, v22] G := by
  unfold t_law_29
  simp only [dSeq]
  refine law28 (C := C) (Pt := Pt) (C2 := C2) (Ex := Ex) hx h fun N G1 hG h5 h1 => ?_
  refine law27 (C := C) (Pt := Pt) (C2 := C2) (Ex := Ex) hx h1 hG h5 fun W G2 hl hW h2 => ?_
  refine law26 (C := C) (Pt := Pt) (C2 := C2) (Ex := Ex) hW ?_
  refine law25 (C := C) (Pt := Pt) (C2 := C2) (Ex := Ex) hW fun v7 => ?_
  refine law23 (C := C) (Pt := Pt) (C2 := C2) (Ex := Ex) (fun hp => ?_) (kc _ _ _ _ _ _ _ _ _ _ _ _ _ _ _ _ _ _ _ _ _ h2)
  refine law22 (C := C) (Pt := Pt) (C2 := C2) (Ex := Ex) hW hp ?_
  refine law21 (C := C) (Pt := Pt) (C2 := C2) (Ex := Ex) hG h2 fun f G3 h3 hfp hf3 => ?_
  refine law20 (C := C) (Pt := Pt) (C2 := C2) (Ex := Ex) hW hp hfp h3 hf3 fun v10 G4 h4 hf4 => ?_
  refine law18 (C := C) (Pt := Pt) (C2 := C2) (Ex := Ex) hx hW hfp h4 hf4 fun v10 v11 G5 h5' hf5 => ?_
  refine law16 (C := C) (Pt := Pt) (C2 := C2) (Ex := Ex) h5' hf5 fun g G6 h6 hgp hgf hf6 hg6 => ?_
  refine law15 (C := C) (Pt := Pt) (C2 := C2) (Ex := Ex) hG hW hp hgp hgf h6 hf6 hg6 fun v13 v14 G7 h7 hg7 => ?_
  refine law13 (C := C) (Pt := Pt) (C2 := C2) (Ex := Ex) hG hW hl hp hg7 ?_
  refine law12 (C := C) (Pt := Pt) (C2 := C2) (Ex := Ex) hG hW hl hp hg7 ?_
  refine law11 (C := C) (Pt := Pt) (C2 := C2) (Ex := Ex) hW ?_
  refine law10 (C := C) (Pt := Pt) (C2 := C2) (Ex := Ex) hW ?_
  refine law9 (C := C) (Pt := Pt) (C2 := C2) (Ex := Ex) hW ?_
  refine law8 (C := C) (Pt := Pt) (C2 := C2) (Ex := Ex) hG hW hl hg7 ?_
  refine law7 (C := C) (Pt := Pt) (C2 := C2) (Ex := Ex) hx h7 fun d G8 hd h8 => ?_
  have hb := bad_w hd
  refine law6 (C := C) (Pt := Pt) (C2 := C2) (Ex := Ex) h8 hG hb ?_
  refine law5 (C := C) (Pt := Pt) (C2 := C2) (Ex := Ex) hx h8 hG h5 hW hl fun G9 h9 => ?_
  exact law4 (C := C) (Pt := Pt) (C2 := C2) (Ex := Ex) h9 hb (k _ _ _ _ _ _ _ _ _ _ _ _ _ _ _ _ _ _ _ _ _ h9)
theorem law_loop (hx : xs.length ≤ datL) (k : ∀ (v2 v3 v4 v5 v6 v7 v8 v9 v10 v11 v12 v13 v14 v15 v16 v17 v18 v19 v20 v21 v22 : Option D) (G' : GH), Std xs p Pt G' → E.nx [v0, some (.ref p), v2, v3, v4, v5, v6, v7, v8, v9, v10, v11, v12, v13, v14, v15, v16, v17, v18, v19, v20, v21, v22] G') : ∀ (ds : List D) (v2 v3 v4 v5 v6 v7 v8 v9 v10 v11 v12 v13 v14 v15 v16 v17 v18 v19 v20 v21 v22 : Option D) (G : GH), Std xs p Pt G →
    loopD yes0 (.name 2) (t_law_29 C Pt C2 Ex) E ds [v0, some (.ref p), v2, v3, v4, v5, v6, v7, v8, v9, v10, v11, v12, v13, v14, v15, v16, v17, v18, v19, v20, v21, v22] G
  | [], v2, v3, v4, v5, v6, v7, v8, v9, v10, v11, v12, v13, v14, v15, v16, v17, v18, v19, v20, v21, v22, G, h => ⟨trivial, k _ _ _ _ _ _ _ _ _ _ _ _ _ _ _ _ _ _ _ _ _ G h⟩
  | d :: ds, v2, v3, v4, v5, v6, v7, v8, v9, v10, v11, v12, v13, v14, v15, v16, v17, v18, v19, v20, v21, v22, G, h => by
    refine ⟨trivial, ?_⟩
    simp only [setT, List.set]
    exact law29 (C := C) (Pt := Pt) (C2 := C2) (Ex := Ex) hx h (fun v3 v4 v5 v6 v7 v8 v9 v10 v11 v12 v13 v14 v15 v16 v17 v18 v19 v20 v21 v22 G' h' => law_loop hx k ds _ _ _ _ _ _ _ _ _ _ _ _ _ _ _ _ _ _ _ _ _ G' h') (fun v3 v4 v5 v6 v7 v8 v9 v10 v11 v12 v13 v14 v15 v16 v17 v18 v19 v20 v21 v22 G' h' => law_loop hx k ds _ _ _ _ _ _ _ _ _ _ _ _ _ _ _ _ _ _ _ _ _ G' h')
end
/-! ### the great rows -/
def grW : Ws := [[9, 9, 9, 9, 8], [9, 9, 9, 9, 6], [2]]
def goodWB (W : Ws) : Bool := decide (1 ≤ W.length) && decide (W.length ≤ 7) && W.all fun r => decide (1 ≤ r.length) && decide (r.length ≤ 6) && r.all fun x => decide (x ≤ 9)
theorem goodWB_ok {W : Ws} (h : goodWB W = true) : GoodW W := by
  unfold goodWB at h
  simp only [Bool.and_eq_true, decide_eq_true_eq, List.all_eq_true] at h
  exact ⟨h.1.1, h.1.2, fun r hr => ⟨(h.2 r hr).1.1, (h.2 r hr).1.2, fun x hx => (h.2 r hr).2 x hx⟩⟩
theorem grW_good : GoodW grW := goodWB_ok (by decide +kernel)
theorem grW_per : 5000 < perL grW := by decide +kernel
def netE : Net := ⟨"abc", [[], [], []]⟩
theorem goodE : Good netE := by
  have hr : ∀ i, netE.row i = [] := fun i => by
    match i with
    | 0 => rfl
    | 1 => rfl
    | 2 => rfl
    | n + 3 => rfl
  refine ⟨by decide +kernel, by decide +kernel, by decide, by decide, fun i x hx => ?_, fun i => ?_⟩
  · rw [hr] at hx; cases hx
  · rw [hr]; simp
def w440 : Ws := [[7], [4, 4], [4, 9, 9, 9, 9, 9]]
theorem w440_good : GoodW w440 := goodWB_ok (by decide +kernel)
theorem w440_per : perL w440 = 440 := by decide +kernel
def w60 : Ws := [[9, 9, 9, 9, 9, 9]]
theorem w60_good : GoodW w60 := goodWB_ok (by decide +kernel)
theorem w60_per : perL w60 = 60 := by decide +kernel
theorem pure_law {C Pt C2 : Addr} (ds : List D) (G : GH) (Q : DK) (E : DXK) (h : sp_law Pt ds G Q E) : t_law C Pt C2 E (fnEnds Q) (startD N_law ds) G := by
  obtain ⟨xs, rfl, hx, o, q⟩ := h
  show t_law C Pt C2 E (fnEnds Q) [some (scrD xs), none, none, none, none, none, none, none, none, none, none, none, none, none, none, none, none, none, none, none, none, none, none] G
  unfold t_law t_law_31 t_law_30
  simp only [dSeq, dIfS, dTst, dTru, dNot, dAnd, dOr, dAndV, dOrV, dNotV, dRet, dRetN, dDrop, dAsg, dNext, dBreak, dCont, dVar, getS, dC, dOp, dChain, dF1, dF2, dCall, dCons, dNil, dTup, dLst, dLstM, dIf, dNeg, uNeg, dLc, dLcM, dItr, dZip, dEnum, dRange1, dRange2, dFor, dPut, dAug, dPar2, dPar3, dSl, dPart, dNoPart, dM1, dM0, dCB, on1, isB, setT, setTs, dRaise, dMk, dYes, dLstRg, dRg1, wipeD, List.set]
  refine ⟨sm10 (by simp), fun p hp => ⟨⟨by decide, by decide⟩, ?_⟩⟩
  refine law_loop (C := C) (Pt := Pt) (C2 := C2) (Ex := E) hx (fun v2 v3 v4 v5 v6 v7 v8 v9 v10 v11 v12 v13 v14 v15 v16 v17 v18 v19 v20 v21 v22 G' h => ?_) _ _ _ _ _ _ _ _ _ _ _ _ _ _ _ _ _ _ _ _ _ _ _ ⟨⟨0, 126199, 0, updG_same⟩, OneTab.new o hp⟩
  have hgr : ∀ z : Prop, perL grW ≤ 5000 → z := fun z h => absurd grW_per (by omega)
  unfold t_law_3 t_law_2 t_law_1
  simp only [dSeq, dIfS, dTst, dTru, dNot, dAnd, dOr, dAndV, dOrV, dNotV, dRet, dRetN, dDrop, dAsg, dNext, dBreak, dCont, dVar, getS, dC, dOp, dChain, dF1, dF2, dCall, dCons, dNil, dTup, dLst, dLstM, dIf, dNeg, uNeg, dLc, dLcM, dItr, dZip, dEnum, dRange1, dRange2, dFor, dPut, dAug, dPar2, dPar3, dSl, dPart, dNoPart, dM1, dM0, dCB, on1, isB, setT, setTs, dRaise, dMk, dYes, dLstRg, dRg1, wipeD, List.set, sizeL, List.length_cons, List.length_nil, Nat.zero_add, Nat.reduceAdd, Nat.reduceLeDiff, true_and]
  refine ⟨h.o, .inr ⟨grW, rfl, grW_good, hgr _, fun _ => ⟨rfl, rfl, ?_⟩⟩⟩
  refine neI ?_
  simp only [decide_true, getS, List.set, truD, isB, i2, TT0, true_and, Bool.not_true, Bool.not_false, Bool.false_eq_true, if_false, if_true, dVar, dC, setT, setTs]
  refine ⟨h.o, sm10 (by simp), sm10 (by simp), sm10 (by simp), sm10 (by simp), sm10 (by simp), .inr (.inr (.inr ⟨netE, grW, rfl, goodE, grW_good, rfl, hgr _, fun _ => ⟨rfl, rfl, ?_⟩⟩))⟩
  refine neI ?_
  simp only [decide_true, getS, List.set, truD, isB, i2, TT0, true_and, Bool.not_true, Bool.not_false, Bool.false_eq_true, if_false, if_true, dVar, dC, setT, setTs]
  refine ⟨h.o, sm10 (by simp), sm10 (by simp), sm10 (by simp), sm10 (by simp), sm10 (by simp), .inr (.inr (.inr ⟨netE, grW, rfl, goodE, grW_good, rfl, hgr _, fun _ => ⟨rfl, rfl, ?_⟩⟩))⟩
  refine neI ?_
  simp only [decide_true, getS, List.set, truD, isB, i2, TT0, true_and, Bool.not_true, Bool.not_false, Bool.false_eq_true, if_false, if_true, dVar, dC, setT, setTs]
  refine ⟨h.o, .inr ⟨grW, rfl, grW_good, ?_⟩⟩
  refine eqI ?_
  simp only [decide_true, getS, List.set, truD, isB, i2, TT0, true_and, Bool.not_true, Bool.not_false, Bool.false_eq_true, if_false, if_true, dVar, dC, setT, setTs]
  refine .inr ⟨w440, rfl, w440_good, (fun _ => ?_), fun z => absurd z (by rw [w440_per]; decide)⟩
  rw [w440_per]
  refine ⟨.inr ⟨by decide, by decide⟩, ⟨.inr ⟨by decide, by decide⟩, ?_⟩⟩
  refine eqI ?_
  simp only [getS, List.set, truD, isB, i2, TT0, true_and, Bool.not_true, Bool.not_false, Bool.false_eq_true, if_false, if_true, dVar, dC, setT, setTs]
  refine .inr ⟨w60, rfl, w60_good, (fun _ => ?_), fun z => absurd z (by rw [w60_per]; decide)⟩
  rw [w60_per]
  refine eqI ?_
  exact fin_ret (q G')
end KL


end

section
set_option Elab.async false
set_option linter.all false
set_option maxRecDepth 100000
set_option maxHeartbeats 4000000
open PySem PySem.Spec PyProof.Rows L2 DL
namespace KL
theorem len_need {C : Addr} : ∀ ds G Q E, (sp_need C) ds G Q E → ds.length = (["is_valid", "name"] : List Str).length := fun _ _ _ _ ⟨_, _, e, _⟩ => by rw [e]; rfl
theorem len_is_number  : ∀ ds G Q E, sp_is_number ds G Q E → ds.length = (["value", "least", "most"] : List Str).length := fun _ _ _ _ ⟨_, _, _, e, _⟩ => by rw [e]; rfl
theorem len_is_rising  : ∀ ds G Q E, sp_is_rising ds G Q E → ds.length = (["row"] : List Str).length := fun _ _ _ _ ⟨_, _, e, _⟩ => by rw [e]; rfl
theorem len_are_letters  : ∀ ds G Q E, sp_are_letters ds G Q E → ds.length = (["value"] : List Str).length := fun _ _ _ _ ⟨_, _, e, _⟩ => by rw [e]; rfl
theorem len_is_station_row  : ∀ ds G Q E, sp_is_station_row ds G Q E → ds.length = (["value", "many"] : List Str).length := fun _ _ _ _ ⟨_, _, e, _⟩ => by rw [e]; rfl
theorem len_is_net  : ∀ ds G Q E, sp_is_net ds G Q E → ds.length = (["value"] : List Str).length := fun _ _ _ _ ⟨_, e, _⟩ => by rw [e]; rfl
theorem len_check_net {C : Addr} : ∀ ds G Q E, (sp_check_net C) ds G Q E → ds.length = (["net"] : List Str).length := fun _ _ _ _ ⟨_, e, _⟩ => by rw [e]; rfl
theorem len_all_links  : ∀ ds G Q E, sp_all_links ds G Q E → ds.length = (["net"] : List Str).length := fun _ _ _ _ ⟨_, e, _⟩ => by rw [e]; rfl
theorem len_heard_by  : ∀ ds G Q E, sp_heard_by ds G Q E → ds.length = (["net", "station", "senders"] : List Str).length := fun _ _ _ _ ⟨_, _, _, e, _⟩ => by rw [e]; rfl
theorem len_clear_links  : ∀ ds G Q E, sp_clear_links ds G Q E → ds.length = (["net", "senders"] : List Str).length := fun _ _ _ _ ⟨_, _, e, _⟩ => by rw [e]; rfl
theorem len_is_wait_row  : ∀ ds G Q E, sp_is_wait_row ds G Q E → ds.length = (["value"] : List Str).length := fun _ _ _ _ ⟨_, _, e, _⟩ => by rw [e]; rfl
theorem len_is_waits  : ∀ ds G Q E, sp_is_waits ds G Q E → ds.length = (["value"] : List Str).length := fun _ _ _ _ ⟨_, _, e, _⟩ => by rw [e]; rfl
theorem len_check_waits {C : Addr} : ∀ ds G Q E, (sp_check_waits C) ds G Q E → ds.length = (["waits"] : List Str).length := fun _ _ _ _ ⟨_, _, e, _⟩ => by rw [e]; rfl
theorem len_row_period  : ∀ ds G Q E, sp_row_period ds G Q E → ds.length = (["row"] : List Str).length := fun _ _ _ _ ⟨_, e, _⟩ => by rw [e]; rfl
theorem len_common  : ∀ ds G Q E, sp_common ds G Q E → ds.length = (["one", "other"] : List Str).length := fun _ _ _ _ ⟨_, _, e, _⟩ => by rw [e]; rfl
theorem len_period_of {C2 : Addr} : ∀ ds G Q E, (sp_period_of C2) ds G Q E → ds.length = (["waits"] : List Str).length := fun _ _ _ _ ⟨_, e, _⟩ => by rw [e]; rfl
theorem len_does_send  : ∀ ds G Q E, sp_does_send ds G Q E → ds.length = (["row", "slot"] : List Str).length := fun _ _ _ _ ⟨_, _, e, _⟩ => by rw [e]; rfl
theorem len_senders_in  : ∀ ds G Q E, sp_senders_in ds G Q E → ds.length = (["waits", "slot"] : List Str).length := fun _ _ _ _ ⟨_, _, e, _⟩ => by rw [e]; rfl
theorem len_counts_of {C2 : Addr} : ∀ ds G Q E, (sp_counts_of C2) ds G Q E → ds.length = (["net", "waits"] : List Str).length := fun _ _ _ _ ⟨_, _, e, _⟩ => by rw [e]; rfl
theorem len__law_taken  : ∀ ds G Q E, sp__law_taken ds G Q E → ds.length = (["row", "many"] : List Str).length := fun _ _ _ _ ⟨_, _, _, e, _⟩ => by rw [e]; rfl
theorem len__law_pick  : ∀ ds G Q E, sp__law_pick ds G Q E → ds.length = (["row", "some"] : List Str).length := fun _ _ _ _ ⟨_, _, _, _, _, e, _⟩ => by rw [e]; rfl
theorem len__law_alike {n : Nat} : ∀ ds G Q E, (sp_alike n) ds G Q E → ds.length = (["found", "due"] : List Str).length := fun _ _ _ _ ⟨_, e, _⟩ => by rw [e]; rfl
theorem len__law_net  : ∀ ds G Q E, sp__law_net ds G Q E → ds.length = (["row", "most"] : List Str).length := fun _ _ _ _ ⟨_, _, _, e, _⟩ => by rw [e]; rfl
theorem len__law_links  : ∀ ds G Q E, sp__law_links ds G Q E → ds.length = (["net"] : List Str).length := fun _ _ _ _ ⟨_, e, _⟩ => by rw [e]; rfl
theorem len__law_hears  : ∀ ds G Q E, sp__law_hears ds G Q E → ds.length = (["net", "station", "senders"] : List Str).length := fun _ _ _ _ ⟨_, _, _, _, e, _⟩ => by rw [e]; rfl
theorem len__law_clear  : ∀ ds G Q E, sp__law_clear ds G Q E → ds.length = (["net", "senders"] : List Str).length := fun _ _ _ _ ⟨_, _, e, _⟩ => by rw [e]; rfl
theorem len__law_common  : ∀ ds G Q E, sp__law_common ds G Q E → ds.length = (["one", "other"] : List Str).length := fun _ _ _ _ ⟨_, _, e, _⟩ => by rw [e]; rfl
theorem len__law_pattern  : ∀ ds G Q E, sp__law_pattern ds G Q E → ds.length = (["row_of"] : List Str).length := fun _ _ _ _ ⟨_, e, _⟩ => by rw [e]; rfl
theorem len__law_waits  : ∀ ds G Q E, sp__law_waits ds G Q E → ds.length = (["row", "many"] : List Str).length := fun _ _ _ _ ⟨_, _, _, e, _⟩ => by rw [e]; rfl
theorem len_law {Pt : Addr} : ∀ ds G Q E, (sp_law Pt) ds G Q E → ds.length = (["script"] : List Str).length := fun _ _ _ _ ⟨_, e, _⟩ => by rw [e]; rfl
theorem len_check_net_waits {C : Addr} : ∀ ds G Q E, sp_check_net_waits C ds G Q E → ds.length = (["net", "waits"] : List Str).length := fun _ _ _ _ h => by rcases h with ⟨_, _, e, _⟩ | ⟨_, _, _, e, _⟩ | ⟨_, _, e, _⟩ <;> rw [e] <;> rfl
theorem len_period {C C2 : Addr} : ∀ ds G Q E, sp_period C C2 ds G Q E → ds.length = (["waits"] : List Str).length := fun _ _ _ _ h => by rcases h with ⟨_, _, e, _⟩ | ⟨_, e, _⟩ <;> rw [e] <;> rfl
theorem len_are_coprime {C : Addr} : ∀ ds G Q E, sp_are_coprime C ds G Q E → ds.length = (["waits"] : List Str).length := fun _ _ _ _ h => by rcases h with ⟨_, _, e, _⟩ | ⟨_, e, _⟩ <;> rw [e] <;> rfl
theorem mk_need {P : Program} {w : World} {K : PySem.W.Frag} {mg : Str → Option Value} {base : Heap} {fA C : Addr}  (B : Blt mg) {fI cc cda : Addr}
    (T_BadArgument : DX.ErrTxt P K mg "BadArgument" "name" C fI cc cda "BadArgument.__init__") {fd : FuncData} (F : FunD K "need" "need" (defArgs s_need) (defBody s_need) (defScope s_need) [] [] fA fd) (g : mg "need" = some (.ref fA)) : FnD P w K mg base "need" 3 ["is_valid", "name"] (sp_need C) :=
  fnD_of F g (fn_ok F sc_need len_need (fun cdv A outer s H E c Ex hr ok => b_need (C := C) B T_BadArgument cdv A outer s H E c Ex hr ok) (pure_need (C := C))) (fun _ _ _ _ _ _ us hl => match us, hl with | [_, _], _ => rfl) (fun _ _ _ _ _ _ us hl => match us, hl with | [_, _], _ => rfl)
theorem mk_is_number {P : Program} {w : World} {K : PySem.W.Frag} {mg : Str → Option Value} {base : Heap} {fA C : Addr}  (B : Blt mg) {fd : FuncData} (F : FunD K "is_number" "is_number" (defArgs s_is_number) (defBody s_is_number) (defScope s_is_number) [] [] fA fd) (g : mg "is_number" = some (.ref fA)) : FnD P w K mg base "is_number" 1 ["value", "least", "most"] sp_is_number :=
  fnD_of F g (fn_ok F sc_is_number len_is_number (fun cdv A outer s H E c Ex hr ok => b_is_number (C := C) B cdv A outer s H E c Ex hr ok) (pure_is_number (C := C))) (fun _ _ _ _ _ _ us hl => match us, hl with | [_, _, _], _ => rfl) (fun _ _ _ _ _ _ us hl => match us, hl with | [_, _, _], _ => rfl)
theorem mk_is_rising {P : Program} {w : World} {K : PySem.W.Frag} {mg : Str → Option Value} {base : Heap} {fA C : Addr}  (B : Blt mg) {fd : FuncData} (F : FunD K "is_rising" "is_rising" (defArgs s_is_rising) (defBody s_is_rising) (defScope s_is_rising) [] [] fA fd) (g : mg "is_rising" = some (.ref fA)) : FnD P w K mg base "is_rising" 1 ["row"] sp_is_rising :=
  fnD_of F g (fn_ok F sc_is_rising len_is_rising (fun cdv A outer s H E c Ex hr ok => b_is_rising (C := C) B cdv A outer s H E c Ex hr ok) (pure_is_rising (C := C))) (fun _ _ _ _ _ _ us hl => match us, hl with | [_], _ => rfl) (fun _ _ _ _ _ _ us hl => match us, hl with | [_], _ => rfl)
theorem mk_are_letters {P : Program} {w : World} {K : PySem.W.Frag} {mg : Str → Option Value} {base : Heap} {fA C : Addr}  (B : Blt mg)
    {t_LETTERS : Tok} (c_LETTERS : mg "LETTERS" = some (.str "abcdefg" t_LETTERS)) {fd : FuncData} (F : FunD K "are_letters" "are_letters" (defArgs s_are_letters) (defBody s_are_letters) (defScope s_are_letters) [] [] fA fd) (g : mg "are_letters" = some (.ref fA)) : FnD P w K mg base "are_letters" 1 ["value"] sp_are_letters :=
  fnD_of F g (fn_ok F sc_are_letters len_are_letters (fun cdv A outer s H E c Ex hr ok => b_are_letters (C := C) B c_LETTERS cdv A outer s H E c Ex hr ok) (pure_are_letters (C := C))) (fun _ _ _ _ _ _ us hl => match us, hl with | [_], _ => rfl) (fun _ _ _ _ _ _ us hl => match us, hl with | [_], _ => rfl)
theorem mk_is_station_row {P : Program} {w : World} {K : PySem.W.Frag} {mg : Str → Option Value} {base : Heap} {fA C : Addr}  (B : Blt mg)
    (F_is_rising : FnD P w K mg base "is_rising" 1 ["row"] sp_is_rising)
    (F_is_number : FnD P w K mg base "is_number" 1 ["value", "least", "most"] sp_is_number) {fd : FuncData} (F : FunD K "is_station_row" "is_station_row" (defArgs s_is_station_row) (defBody s_is_station_row) (defScope s_is_station_row) [] [] fA fd) (g : mg "is_station_row" = some (.ref fA)) : FnD P w K mg base "is_station_row" 2 ["value", "many"] sp_is_station_row :=
  fnD_of F g (fn_ok F sc_is_station_row len_is_station_row (fun cdv A outer s H E c Ex hr ok => b_is_station_row (C := C) B F_is_rising F_is_number cdv A outer s H E c Ex hr ok) (pure_is_station_row (C := C))) (fun _ _ _ _ _ _ us hl => match us, hl with | [_, _], _ => rfl) (fun _ _ _ _ _ _ us hl => match us, hl with | [_, _], _ => rfl)
theorem mk_is_net {P : Program} {w : World} {K : PySem.W.Frag} {mg : Str → Option Value} {base : Heap} {fA C : Addr}  (B : Blt mg)
    (F_is_station_row : FnD P w K mg base "is_station_row" 2 ["value", "many"] sp_is_station_row)
    (F_are_letters : FnD P w K mg base "are_letters" 1 ["value"] sp_are_letters)
    {t_MOST_STATIONS : Tok} (c_MOST_STATIONS : mg "MOST_STATIONS" = some (.int (7) t_MOST_STATIONS)) {fd : FuncData} (F : FunD K "is_net" "is_net" (defArgs s_is_net) (defBody s_is_net) (defScope s_is_net) [] [] fA fd) (g : mg "is_net" = some (.ref fA)) : FnD P w K mg base "is_net" 3 ["value"] sp_is_net :=
  fnD_of F g (fn_ok F sc_is_net len_is_net (fun cdv A outer s H E c Ex hr ok => b_is_net (C := C) B F_is_station_row F_are_letters c_MOST_STATIONS cdv A outer s H E c Ex hr ok) (pure_is_net (C := C))) (fun _ _ _ _ _ _ us hl => match us, hl with | [_], _ => rfl) (fun _ _ _ _ _ _ us hl => match us, hl with | [_], _ => rfl)
theorem mk_check_net {P : Program} {w : World} {K : PySem.W.Frag} {mg : Str → Option Value} {base : Heap} {fA C : Addr}  (B : Blt mg)
    (F_is_net : FnD P w K mg base "is_net" 3 ["value"] sp_is_net)
    (F_need : FnD P w K mg base "need" 3 ["is_valid", "name"] (sp_need C)) {fd : FuncData} (F : FunD K "check_net" "check_net" (defArgs s_check_net) (defBody s_check_net) (defScope s_check_net) [] [] fA fd) (g : mg "check_net" = some (.ref fA)) : FnD P w K mg base "check_net" 4 ["net"] (sp_check_net C) :=
  fnD_of F g (fn_ok F sc_check_net len_check_net (fun cdv A outer s H E c Ex hr ok => b_check_net (C := C) B F_is_net F_need cdv A outer s H E c Ex hr ok) (pure_check_net (C := C))) (fun _ _ _ _ _ _ us hl => match us, hl with | [_], _ => rfl) (fun _ _ _ _ _ _ us hl => match us, hl with | [_], _ => rfl)
theorem mk_all_links {P : Program} {w : World} {K : PySem.W.Frag} {mg : Str → Option Value} {base : Heap} {fA C : Addr}  (B : Blt mg) {fd : FuncData} (F : FunD K "all_links" "all_links" (defArgs s_all_links) (defBody s_all_links) (defScope s_all_links) [] [] fA fd) (g : mg "all_links" = some (.ref fA)) : FnD P w K mg base "all_links" 1 ["net"] sp_all_links :=
  fnD_of F g (fn_ok F sc_all_links len_all_links (fun cdv A outer s H E c Ex hr ok => b_all_links (C := C) B cdv A outer s H E c Ex hr ok) (pure_all_links (C := C))) (fun _ _ _ _ _ _ us hl => match us, hl with | [_], _ => rfl) (fun _ _ _ _ _ _ us hl => match us, hl with | [_], _ => rfl)
theorem mk_heard_by {P : Program} {w : World} {K : PySem.W.Frag} {mg : Str → Option Value} {base : Heap} {fA C : Addr}  (B : Blt mg)
    {t_SILENCE : Tok} (c_SILENCE : mg "SILENCE" = some (.int (-1) t_SILENCE))
    {t_NOISE : Tok} (c_NOISE : mg "NOISE" = some (.int (-2) t_NOISE))
    {t_SENDS : Tok} (c_SENDS : mg "SENDS" = some (.int (-3) t_SENDS)) {fd : FuncData} (F : FunD K "heard_by" "heard_by" (defArgs s_heard_by) (defBody s_heard_by) (defScope s_heard_by) [] [] fA fd) (g : mg "heard_by" = some (.ref fA)) : FnD P w K mg base "heard_by" 1 ["net", "station", "senders"] sp_heard_by :=
  fnD_of F g (fn_ok F sc_heard_by len_heard_by (fun cdv A outer s H E c Ex hr ok => b_heard_by (C := C) B c_SILENCE c_NOISE c_SENDS cdv A outer s H E c Ex hr ok) (pure_heard_by (C := C))) (fun _ _ _ _ _ _ us hl => match us, hl with | [_, _, _], _ => rfl) (fun _ _ _ _ _ _ us hl => match us, hl with | [_, _, _], _ => rfl)
theorem mk_clear_links {P : Program} {w : World} {K : PySem.W.Frag} {mg : Str → Option Value} {base : Heap} {fA C : Addr}  (B : Blt mg)
    (F_heard_by : FnD P w K mg base "heard_by" 1 ["net", "station", "senders"] sp_heard_by) {fd : FuncData} (F : FunD K "clear_links" "clear_links" (defArgs s_clear_links) (defBody s_clear_links) (defScope s_clear_links) [] [] fA fd) (g : mg "clear_links" = some (.ref fA)) : FnD P w K mg base "clear_links" 2 ["net", "senders"] sp_clear_links :=
  fnD_of F g (fn_ok F sc_clear_links len_clear_links (fun cdv A outer s H E c Ex hr ok => b_clear_links (C := C) B F_heard_by cdv A outer s H E c Ex hr ok) (pure_clear_links (C := C))) (fun _ _ _ _ _ _ us hl => match us, hl with | [_, _], _ => rfl) (fun _ _ _ _ _ _ us hl => match us, hl with | [_, _], _ => rfl)
theorem mk_is_wait_row {P : Program} {w : World} {K : PySem.W.Frag} {mg : Str → Option Value} {base : Heap} {fA C : Addr}  (B : Blt mg)
    (F_is_number : FnD P w K mg base "is_number" 1 ["value", "least", "most"] sp_is_number)
    {t_MOST_ROW : Tok} (c_MOST_ROW : mg "MOST_ROW" = some (.int (6) t_MOST_ROW))
    {t_MOST_WAIT : Tok} (c_MOST_WAIT : mg "MOST_WAIT" = some (.int (9) t_MOST_WAIT)) {fd : FuncData} (F : FunD K "is_wait_row" "is_wait_row" (defArgs s_is_wait_row) (defBody s_is_wait_row) (defScope s_is_wait_row) [] [] fA fd) (g : mg "is_wait_row" = some (.ref fA)) : FnD P w K mg base "is_wait_row" 2 ["value"] sp_is_wait_row :=
  fnD_of F g (fn_ok F sc_is_wait_row len_is_wait_row (fun cdv A outer s H E c Ex hr ok => b_is_wait_row (C := C) B F_is_number c_MOST_ROW c_MOST_WAIT cdv A outer s H E c Ex hr ok) (pure_is_wait_row (C := C))) (fun _ _ _ _ _ _ us hl => match us, hl with | [_], _ => rfl) (fun _ _ _ _ _ _ us hl => match us, hl with | [_], _ => rfl)
theorem mk_is_waits {P : Program} {w : World} {K : PySem.W.Frag} {mg : Str → Option Value} {base : Heap} {fA C : Addr}  (B : Blt mg)
    (F_is_wait_row : FnD P w K mg base "is_wait_row" 2 ["value"] sp_is_wait_row) {fd : FuncData} (F : FunD K "is_waits" "is_waits" (defArgs s_is_waits) (defBody s_is_waits) (defScope s_is_waits) [] [] fA fd) (g : mg "is_waits" = some (.ref fA)) : FnD P w K mg base "is_waits" 3 ["value"] sp_is_waits :=
  fnD_of F g (fn_ok F sc_is_waits len_is_waits (fun cdv A outer s H E c Ex hr ok => b_is_waits (C := C) B F_is_wait_row cdv A outer s H E c Ex hr ok) (pure_is_waits (C := C))) (fun _ _ _ _ _ _ us hl => match us, hl with | [_], _ => rfl) (fun _ _ _ _ _ _ us hl => match us, hl with | [_], _ => rfl)
theorem mk_check_waits {P : Program} {w : World} {K : PySem.W.Frag} {mg : Str → Option Value} {base : Heap} {fA C : Addr}  (B : Blt mg)
    (F_is_waits : FnD P w K mg base "is_waits" 3 ["value"] sp_is_waits)
    (F_need : FnD P w K mg base "need" 3 ["is_valid", "name"] (sp_need C)) {fd : FuncData} (F : FunD K "check_waits" "check_waits" (defArgs s_check_waits) (defBody s_check_waits) (defScope s_check_waits) [] [] fA fd) (g : mg "check_waits" = some (.ref fA)) : FnD P w K mg base "check_waits" 4 ["waits"] (sp_check_waits C) :=
  fnD_of F g (fn_ok F sc_check_waits len_check_waits (fun cdv A outer s H E c Ex hr ok => b_check_waits (C := C) B F_is_waits F_need cdv A outer s H E c Ex hr ok) (pure_check_waits (C := C))) (fun _ _ _ _ _ _ us hl => match us, hl with | [_], _ => rfl) (fun _ _ _ _ _ _ us hl => match us, hl with | [_], _ => rfl)
theorem mk_check_net_waits {P : Program} {w : World} {K : PySem.W.Frag} {mg : Str → Option Value} {base : Heap} {fA C : Addr}  (B : Blt mg)
    (F_is_waits : FnD P w K mg base "is_waits" 3 ["value"] sp_is_waits)
    (F_need : FnD P w K mg base "need" 3 ["is_valid", "name"] (sp_need C))
    (F_check_net : FnD P w K mg base "check_net" 4 ["net"] (sp_check_net C)) {fd : FuncData} (F : FunD K "check_net_waits" "check_net_waits" (defArgs s_check_net_waits) (defBody s_check_net_waits) (defScope s_check_net_waits) [] [] fA fd) (g : mg "check_net_waits" = some (.ref fA)) : FnD P w K mg base "check_net_waits" 5 ["net", "waits"] (sp_check_net_waits C) :=
  fnD_of F g (fn_ok F sc_check_net_waits len_check_net_waits (fun cdv A outer s H E c Ex hr ok => b_check_net_waits (C := C) B F_is_waits F_need F_check_net cdv A outer s H E c Ex hr ok) (pure_check_net_waits (C := C))) (fun _ _ _ _ _ _ us hl => match us, hl with | [_, _], _ => rfl) (fun _ _ _ _ _ _ us hl => match us, hl with | [_, _], _ => rfl)
theorem mk_row_period {P : Program} {w : World} {K : PySem.W.Frag} {mg : Str → Option Value} {base : Heap} {fA C : Addr}  (B : Blt mg)
    (S_sum : mg "sum" = none) {fd : FuncData} (F : FunD K "row_period" "row_period" (defArgs s_row_period) (defBody s_row_period) (defScope s_row_period) [] [] fA fd) (g : mg "row_period" = some (.ref fA)) : FnD P w K mg base "row_period" 1 ["row"] sp_row_period :=
  fnD_of F g (fn_ok F sc_row_period len_row_period (fun cdv A outer s H E c Ex hr ok => b_row_period (C := C) B S_sum cdv A outer s H E c Ex hr ok) (pure_row_period (C := C))) (fun _ _ _ _ _ _ us hl => match us, hl with | [_], _ => rfl) (fun _ _ _ _ _ _ us hl => match us, hl with | [_], _ => rfl)
theorem mk_common {P : Program} {w : World} {K : PySem.W.Frag} {mg : Str → Option Value} {base : Heap} {fA C : Addr}  (B : Blt mg) {fd : FuncData} (F : FunD K "common" "common" (defArgs s_common) (defBody s_common) (defScope s_common) [] [] fA fd) (g : mg "common" = some (.ref fA)) : FnD P w K mg base "common" 1 ["one", "other"] sp_common :=
  fnD_of F g (fn_ok F sc_common len_common (fun cdv A outer s H E c Ex hr ok => b_common (C := C) B cdv A outer s H E c Ex hr ok) (pure_common (C := C))) (fun _ _ _ _ _ _ us hl => match us, hl with | [_, _], _ => rfl) (fun _ _ _ _ _ _ us hl => match us, hl with | [_, _], _ => rfl)
theorem mk_period_of {P : Program} {w : World} {K : PySem.W.Frag} {mg : Str → Option Value} {base : Heap} {fA C : Addr} {C2 : Addr} (B : Blt mg)
    (F_common : FnD P w K mg base "common" 1 ["one", "other"] sp_common)
    (F_row_period : FnD P w K mg base "row_period" 1 ["row"] sp_row_period) {fI2 cc2 cda2 : Addr}
    (T_TooMuch : DX.ErrTxt P K mg "TooMuch" "limit" C2 fI2 cc2 cda2 "TooMuch.__init__")
    {t_MOST_PERIOD : Tok} (c_MOST_PERIOD : mg "MOST_PERIOD" = some (.int (5000) t_MOST_PERIOD)) {fd : FuncData} (F : FunD K "period_of" "period_of" (defArgs s_period_of) (defBody s_period_of) (defScope s_period_of) [] [] fA fd) (g : mg "period_of" = some (.ref fA)) : FnD P w K mg base "period_of" 3 ["waits"] (sp_period_of C2) :=
  fnD_of F g (fn_ok F sc_period_of len_period_of (fun cdv A outer s H E c Ex hr ok => b_period_of (C := C) B F_common F_row_period T_TooMuch c_MOST_PERIOD cdv A outer s H E c Ex hr ok) (pure_period_of (C := C))) (fun _ _ _ _ _ _ us hl => match us, hl with | [_], _ => rfl) (fun _ _ _ _ _ _ us hl => match us, hl with | [_], _ => rfl)
theorem mk_period {P : Program} {w : World} {K : PySem.W.Frag} {mg : Str → Option Value} {base : Heap} {fA C : Addr} {C2 : Addr} (B : Blt mg)
    (F_period_of : FnD P w K mg base "period_of" 3 ["waits"] (sp_period_of C2))
    (F_check_waits : FnD P w K mg base "check_waits" 4 ["waits"] (sp_check_waits C)) {fd : FuncData} (F : FunD K "period" "period" (defArgs s_period) (defBody s_period) (defScope s_period) [] [] fA fd) (g : mg "period" = some (.ref fA)) : FnD P w K mg base "period" 5 ["waits"] (sp_period C C2) :=
  fnD_of F g (fn_ok F sc_period len_period (fun cdv A outer s H E c Ex hr ok => b_period (C := C) B F_period_of F_check_waits cdv A outer s H E c Ex hr ok) (pure_period (C := C))) (fun _ _ _ _ _ _ us hl => match us, hl with | [_], _ => rfl) (fun _ _ _ _ _ _ us hl => match us, hl with | [_], _ => rfl)
theorem mk_does_send {P : Program} {w : World} {K : PySem.W.Frag} {mg : Str → Option Value} {base : Heap} {fA C : Addr}  (B : Blt mg)
    (F_row_period : FnD P w K mg base "row_period" 1 ["row"] sp_row_period) {fd : FuncData} (F : FunD K "does_send" "does_send" (defArgs s_does_send) (defBody s_does_send) (defScope s_does_send) [] [] fA fd) (g : mg "does_send" = some (.ref fA)) : FnD P w K mg base "does_send" 2 ["row", "slot"] sp_does_send :=
  fnD_of F g (fn_ok F sc_does_send len_does_send (fun cdv A outer s H E c Ex hr ok => b_does_send (C := C) B F_row_period cdv A outer s H E c Ex hr ok) (pure_does_send (C := C))) (fun _ _ _ _ _ _ us hl => match us, hl with | [_, _], _ => rfl) (fun _ _ _ _ _ _ us hl => match us, hl with | [_, _], _ => rfl)
theorem mk_senders_in {P : Program} {w : World} {K : PySem.W.Frag} {mg : Str → Option Value} {base : Heap} {fA C : Addr}  (B : Blt mg)
    (F_does_send : FnD P w K mg base "does_send" 2 ["row", "slot"] sp_does_send) {fd : FuncData} (F : FunD K "senders_in" "senders_in" (defArgs s_senders_in) (defBody s_senders_in) (defScope s_senders_in) [] [] fA fd) (g : mg "senders_in" = some (.ref fA)) : FnD P w K mg base "senders_in" 3 ["waits", "slot"] sp_senders_in :=
  fnD_of F g (fn_ok F sc_senders_in len_senders_in (fun cdv A outer s H E c Ex hr ok => b_senders_in (C := C) B F_does_send cdv A outer s H E c Ex hr ok) (pure_senders_in (C := C))) (fun _ _ _ _ _ _ us hl => match us, hl with | [_, _], _ => rfl) (fun _ _ _ _ _ _ us hl => match us, hl with | [_, _], _ => rfl)
theorem mk_senders_at {P : Program} {w : World} {K : PySem.W.Frag} {mg : Str → Option Value} {base : Heap} {fA C : Addr}  (B : Blt mg)
    (F_senders_in : FnD P w K mg base "senders_in" 3 ["waits", "slot"] sp_senders_in)
    (F_is_number : FnD P w K mg base "is_number" 1 ["value", "least", "most"] sp_is_number)
    (F_need : FnD P w K mg base "need" 3 ["is_valid", "name"] (sp_need C))
    (F_check_waits : FnD P w K mg base "check_waits" 4 ["waits"] (sp_check_waits C))
    {t_MOST_SLOT : Tok} (c_MOST_SLOT : mg "MOST_SLOT" = some (.int (1000000) t_MOST_SLOT)) {fd : FuncData} (F : FunD K "senders_at" "senders_at" (defArgs s_senders_at) (defBody s_senders_at) (defScope s_senders_at) [] [] fA fd) (g : mg "senders_at" = some (.ref fA)) : FnD P w K mg base "senders_at" 5 ["waits", "slot"] (sp_senders_at C) :=
  fnD_of F g (fn_ok F sc_senders_at len_senders_at (fun cdv A outer s H E c Ex hr ok => b_senders_at (C := C) B F_senders_in F_is_number F_need F_check_waits c_MOST_SLOT cdv A outer s H E c Ex hr ok) (pure_senders_at (C := C))) (fun _ _ _ _ _ _ us hl => match us, hl with | [_, _], _ => rfl) (fun _ _ _ _ _ _ us hl => match us, hl with | [_, _], _ => rfl)
theorem mk_counts_of {P : Program} {w : World} {K : PySem.W.Frag} {mg : Str → Option Value} {base : Heap} {fA C : Addr} {C2 : Addr} (B : Blt mg)
    (F_all_links : FnD P w K mg base "all_links" 1 ["net"] sp_all_links)
    (F_period_of : FnD P w K mg base "period_of" 3 ["waits"] (sp_period_of C2))
    (F_senders_in : FnD P w K mg base "senders_in" 3 ["waits", "slot"] sp_senders_in)
    (F_clear_links : FnD P w K mg base "clear_links" 2 ["net", "senders"] sp_clear_links) {fd : FuncData} (F : FunD K "counts_of" "counts_of" (defArgs s_counts_of) (defBody s_counts_of) (defScope s_counts_of) [] [] fA fd) (g : mg "counts_of" = some (.ref fA)) : FnD P w K mg base "counts_of" 4 ["net", "waits"] (sp_counts_of C2) :=
  fnD_of F g (fn_ok F sc_counts_of len_counts_of (fun cdv A outer s H E c Ex hr ok => b_counts_of (C := C) B F_all_links F_period_of F_senders_in F_clear_links cdv A outer s H E c Ex hr ok) (pure_counts_of (C := C))) (fun _ _ _ _ _ _ us hl => match us, hl with | [_, _], _ => rfl) (fun _ _ _ _ _ _ us hl => match us, hl with | [_, _], _ => rfl)
theorem mk_clear_in_period {P : Program} {w : World} {K : PySem.W.Frag} {mg : Str → Option Value} {base : Heap} {fA C : Addr} {C2 : Addr} (B : Blt mg)
    (F_counts_of : FnD P w K mg base "counts_of" 4 ["net", "waits"] (sp_counts_of C2))
    (F_check_net_waits : FnD P w K mg base "check_net_waits" 5 ["net", "waits"] (sp_check_net_waits C)) {fd : FuncData} (F : FunD K "clear_in_period" "clear_in_period" (defArgs s_clear_in_period) (defBody s_clear_in_period) (defScope s_clear_in_period) [] [] fA fd) (g : mg "clear_in_period" = some (.ref fA)) : FnD P w K mg base "clear_in_period" 6 ["net", "waits"] (sp_clear_in_period C C2) :=
  fnD_of F g (fn_ok F sc_clear_in_period len_clear_in_period (fun cdv A outer s H E c Ex hr ok => b_clear_in_period (C := C) B F_counts_of F_check_net_waits cdv A outer s H E c Ex hr ok) (pure_clear_in_period (C := C))) (fun _ _ _ _ _ _ us hl => match us, hl with | [_, _], _ => rfl) (fun _ _ _ _ _ _ us hl => match us, hl with | [_, _], _ => rfl)
theorem mk_never_clear {P : Program} {w : World} {K : PySem.W.Frag} {mg : Str → Option Value} {base : Heap} {fA C : Addr} {C2 : Addr} (B : Blt mg)
    (F_counts_of : FnD P w K mg base "counts_of" 4 ["net", "waits"] (sp_counts_of C2))
    (F_all_links : FnD P w K mg base "all_links" 1 ["net"] sp_all_links)
    (F_check_net_waits : FnD P w K mg base "check_net_waits" 5 ["net", "waits"] (sp_check_net_waits C)) {fd : FuncData} (F : FunD K "never_clear" "never_clear" (defArgs s_never_clear) (defBody s_never_clear) (defScope s_never_clear) [] [] fA fd) (g : mg "never_clear" = some (.ref fA)) : FnD P w K mg base "never_clear" 6 ["net", "waits"] (sp_never_clear C C2) :=
  fnD_of F g (fn_ok F sc_never_clear len_never_clear (fun cdv A outer s H E c Ex hr ok => b_never_clear (C := C) B F_counts_of F_all_links F_check_net_waits cdv A outer s H E c Ex hr ok) (pure_never_clear (C := C))) (fun _ _ _ _ _ _ us hl => match us, hl with | [_, _], _ => rfl) (fun _ _ _ _ _ _ us hl => match us, hl with | [_, _], _ => rfl)
theorem mk_are_coprime {P : Program} {w : World} {K : PySem.W.Frag} {mg : Str → Option Value} {base : Heap} {fA C : Addr}  (B : Blt mg)
    (F_common : FnD P w K mg base "common" 1 ["one", "other"] sp_common)
    (F_row_period : FnD P w K mg base "row_period" 1 ["row"] sp_row_period)
    (F_check_waits : FnD P w K mg base "check_waits" 4 ["waits"] (sp_check_waits C)) {fd : FuncData} (F : FunD K "are_coprime" "are_coprime" (defArgs s_are_coprime) (defBody s_are_coprime) (defScope s_are_coprime) [] [] fA fd) (g : mg "are_coprime" = some (.ref fA)) : FnD P w K mg base "are_coprime" 5 ["waits"] (sp_are_coprime C) :=
  fnD_of F g (fn_ok F sc_are_coprime len_are_coprime (fun cdv A outer s H E c Ex hr ok => b_are_coprime (C := C) B F_common F_row_period F_check_waits cdv A outer s H E c Ex hr ok) (pure_are_coprime (C := C))) (fun _ _ _ _ _ _ us hl => match us, hl with | [_], _ => rfl) (fun _ _ _ _ _ _ us hl => match us, hl with | [_], _ => rfl)
theorem mk__law_taken {P : Program} {w : World} {K : PySem.W.Frag} {mg : Str → Option Value} {base : Heap} {fA C : Addr}  (B : Blt mg) {fd : FuncData} (F : FunD K "_law_taken" "_law_taken" (defArgs s__law_taken) (defBody s__law_taken) (defScope s__law_taken) [] [] fA fd) (g : mg "_law_taken" = some (.ref fA)) : FnD P w K mg base "_law_taken" 1 ["row", "many"] sp__law_taken :=
  fnD_of F g (fn_ok F sc__law_taken len__law_taken (fun cdv A outer s H E c Ex hr ok => b__law_taken (C := C) B cdv A outer s H E c Ex hr ok) (pure__law_taken (C := C))) (fun _ _ _ _ _ _ us hl => match us, hl with | [_, _], _ => rfl) (fun _ _ _ _ _ _ us hl => match us, hl with | [_, _], _ => rfl)
theorem mk__law_pick {P : Program} {w : World} {K : PySem.W.Frag} {mg : Str → Option Value} {base : Heap} {fA C : Addr}  (B : Blt mg)
    (F__law_taken : FnD P w K mg base "_law_taken" 1 ["row", "many"] sp__law_taken) {fd : FuncData} (F : FunD K "_law_pick" "_law_pick" (defArgs s__law_pick) (defBody s__law_pick) (defScope s__law_pick) [] [] fA fd) (g : mg "_law_pick" = some (.ref fA)) : FnD P w K mg base "_law_pick" 2 ["row", "some"] sp__law_pick :=
  fnD_of F g (fn_ok F sc__law_pick len__law_pick (fun cdv A outer s H E c Ex hr ok => b__law_pick (C := C) B F__law_taken cdv A outer s H E c Ex hr ok) (pure__law_pick (C := C))) (fun _ _ _ _ _ _ us hl => match us, hl with | [_, _], _ => rfl) (fun _ _ _ _ _ _ us hl => match us, hl with | [_, _], _ => rfl)
theorem mk__law_net {P : Program} {w : World} {K : PySem.W.Frag} {mg : Str → Option Value} {base : Heap} {fA C : Addr}  (B : Blt mg)
    (F__law_taken : FnD P w K mg base "_law_taken" 1 ["row", "many"] sp__law_taken)
    (F__law_pick : FnD P w K mg base "_law_pick" 2 ["row", "some"] sp__law_pick) {fd : FuncData} (F : FunD K "_law_net" "_law_net" (defArgs s__law_net) (defBody s__law_net) (defScope s__law_net) [] [] fA fd) (g : mg "_law_net" = some (.ref fA)) : FnD P w K mg base "_law_net" 3 ["row", "most"] sp__law_net :=
  fnD_of F g (fn_ok F sc__law_net len__law_net (fun cdv A outer s H E c Ex hr ok => b__law_net (C := C) B F__law_taken F__law_pick cdv A outer s H E c Ex hr ok) (pure__law_net (C := C))) (fun _ _ _ _ _ _ us hl => match us, hl with | [_, _], _ => rfl) (fun _ _ _ _ _ _ us hl => match us, hl with | [_, _], _ => rfl)
theorem mk__law_links {P : Program} {w : World} {K : PySem.W.Frag} {mg : Str → Option Value} {base : Heap} {fA C : Addr}  (B : Blt mg) {fd : FuncData} (F : FunD K "_law_links" "_law_links" (defArgs s__law_links) (defBody s__law_links) (defScope s__law_links) [] [] fA fd) (g : mg "_law_links" = some (.ref fA)) : FnD P w K mg base "_law_links" 1 ["net"] sp__law_links :=
  fnD_of F g (fn_ok F sc__law_links len__law_links (fun cdv A outer s H E c Ex hr ok => b__law_links (C := C) B cdv A outer s H E c Ex hr ok) (pure__law_links (C := C))) (fun _ _ _ _ _ _ us hl => match us, hl with | [_], _ => rfl) (fun _ _ _ _ _ _ us hl => match us, hl with | [_], _ => rfl)
theorem mk__law_hears {P : Program} {w : World} {K : PySem.W.Frag} {mg : Str → Option Value} {base : Heap} {fA C : Addr}  (B : Blt mg) {fd : FuncData} (F : FunD K "_law_hears" "_law_hears" (defArgs s__law_hears) (defBody s__law_hears) (defScope s__law_hears) [] [] fA fd) (g : mg "_law_hears" = some (.ref fA)) : FnD P w K mg base "_law_hears" 1 ["net", "station", "senders"] sp__law_hears :=
  fnD_of F g (fn_ok F sc__law_hears len__law_hears (fun cdv A outer s H E c Ex hr ok => b__law_hears (C := C) B cdv A outer s H E c Ex hr ok) (pure__law_hears (C := C))) (fun _ _ _ _ _ _ us hl => match us, hl with | [_, _, _], _ => rfl) (fun _ _ _ _ _ _ us hl => match us, hl with | [_, _, _], _ => rfl)
theorem mk__law_clear {P : Program} {w : World} {K : PySem.W.Frag} {mg : Str → Option Value} {base : Heap} {fA C : Addr}  (B : Blt mg)
    (F__law_links : FnD P w K mg base "_law_links" 1 ["net"] sp__law_links)
    (F__law_hears : FnD P w K mg base "_law_hears" 1 ["net", "station", "senders"] sp__law_hears) {fd : FuncData} (F : FunD K "_law_clear" "_law_clear" (defArgs s__law_clear) (defBody s__law_clear) (defScope s__law_clear) [] [] fA fd) (g : mg "_law_clear" = some (.ref fA)) : FnD P w K mg base "_law_clear" 2 ["net", "senders"] sp__law_clear :=
  fnD_of F g (fn_ok F sc__law_clear len__law_clear (fun cdv A outer s H E c Ex hr ok => b__law_clear (C := C) B F__law_links F__law_hears cdv A outer s H E c Ex hr ok) (pure__law_clear (C := C))) (fun _ _ _ _ _ _ us hl => match us, hl with | [_, _], _ => rfl) (fun _ _ _ _ _ _ us hl => match us, hl with | [_, _], _ => rfl)
theorem mk__law_common {P : Program} {w : World} {K : PySem.W.Frag} {mg : Str → Option Value} {base : Heap} {fA C : Addr}  (B : Blt mg) {fd : FuncData} (F : FunD K "_law_common" "_law_common" (defArgs s__law_common) (defBody s__law_common) (defScope s__law_common) [] [] fA fd) (g : mg "_law_common" = some (.ref fA)) : FnD P w K mg base "_law_common" 1 ["one", "other"] sp__law_common :=
  fnD_of F g (fn_ok F sc__law_common len__law_common (fun cdv A outer s H E c Ex hr ok => b__law_common (C := C) B cdv A outer s H E c Ex hr ok) (pure__law_common (C := C))) (fun _ _ _ _ _ _ us hl => match us, hl with | [_, _], _ => rfl) (fun _ _ _ _ _ _ us hl => match us, hl with | [_, _], _ => rfl)
theorem mk__law_pattern {P : Program} {w : World} {K : PySem.W.Frag} {mg : Str → Option Value} {base : Heap} {fA C : Addr}  (B : Blt mg) {fd : FuncData} (F : FunD K "_law_pattern" "_law_pattern" (defArgs s__law_pattern) (defBody s__law_pattern) (defScope s__law_pattern) [] [] fA fd) (g : mg "_law_pattern" = some (.ref fA)) : FnD P w K mg base "_law_pattern" 1 ["row_of"] sp__law_pattern :=
  fnD_of F g (fn_ok F sc__law_pattern len__law_pattern (fun cdv A outer s H E c Ex hr ok => b__law_pattern (C := C) B cdv A outer s H E c Ex hr ok) (pure__law_pattern (C := C))) (fun _ _ _ _ _ _ us hl => match us, hl with | [_], _ => rfl) (fun _ _ _ _ _ _ us hl => match us, hl with | [_], _ => rfl)
theorem mk__law_waits {P : Program} {w : World} {K : PySem.W.Frag} {mg : Str → Option Value} {base : Heap} {fA C : Addr}  (B : Blt mg)
    (F__law_taken : FnD P w K mg base "_law_taken" 1 ["row", "many"] sp__law_taken)
    (F__law_pick : FnD P w K mg base "_law_pick" 2 ["row", "some"] sp__law_pick) {fd : FuncData} (F : FunD K "_law_waits" "_law_waits" (defArgs s__law_waits) (defBody s__law_waits) (defScope s__law_waits) [] [] fA fd) (g : mg "_law_waits" = some (.ref fA)) : FnD P w K mg base "_law_waits" 3 ["row", "many"] sp__law_waits :=
  fnD_of F g (fn_ok F sc__law_waits len__law_waits (fun cdv A outer s H E c Ex hr ok => b__law_waits (C := C) B F__law_taken F__law_pick cdv A outer s H E c Ex hr ok) (pure__law_waits (C := C))) (fun _ _ _ _ _ _ us hl => match us, hl with | [_, _], _ => rfl) (fun _ _ _ _ _ _ us hl => match us, hl with | [_, _], _ => rfl)
theorem mk__law_alike {P : Program} {w : World} {K : PySem.W.Frag} {mg : Str → Option Value} {base : Heap} {fA : Addr} (B : Blt mg) {fd : FuncData} (F : FunD K "_law_alike" "_law_alike" (defArgs s__law_alike) (defBody s__law_alike) (defScope s__law_alike) [] [] fA fd) (g : mg "_law_alike" = some (.ref fA)) : ∀ n, FnD P w K mg base "_law_alike" (n + 1) ["found", "due"] (sp_alike n)
  | 0 => fnD_of F g (fn_ok F sc__law_alike len__law_alike (fun cdv A outer s H E c Ex hr ok => b__law_alike (C := 0) B (fnD_no (k := 0) F g (fun _ _ _ _ _ _ us hl => match us, hl with | [_, _], _ => rfl) (fun _ _ _ _ _ _ us hl => match us, hl with | [_, _], _ => rfl)) cdv A outer s H E c Ex hr ok) (pure__law_alike (C := 0) 0)) (fun _ _ _ _ _ _ us hl => match us, hl with | [_, _], _ => rfl) (fun _ _ _ _ _ _ us hl => match us, hl with | [_, _], _ => rfl)
  | n + 1 => fnD_of F g (fn_ok F sc__law_alike len__law_alike (fun cdv A outer s H E c Ex hr ok => b__law_alike (C := 0) B (mk__law_alike B F g n) cdv A outer s H E c Ex hr ok) (pure__law_alike (C := 0) (n + 1))) (fun _ _ _ _ _ _ us hl => match us, hl with | [_, _], _ => rfl) (fun _ _ _ _ _ _ us hl => match us, hl with | [_, _], _ => rfl)
def dd (i : Nat) (x : Str) : He.DefD := ⟨(x, none), x, x, defArgs (top i), defBody (top i), defScope (top i), [], []⟩
def fn : List He.DefD := [dd 4 "need", dd 8 "is_number", dd 9 "is_rising", dd 10 "are_letters", dd 11 "is_station_row", dd 12 "is_net", dd 13 "check_net", dd 15 "all_links", dd 20 "heard_by", dd 21 "clear_links", dd 27 "is_wait_row", dd 28 "is_waits", dd 29 "check_waits", dd 30 "check_net_waits", dd 31 "row_period", dd 32 "common", dd 33 "period_of", dd 34 "period", dd 35 "does_send", dd 36 "senders_in", dd 37 "senders_at", dd 38 "counts_of", dd 39 "clear_in_period", dd 40 "never_clear", dd 41 "are_coprime", dd 43 "_law_taken", dd 44 "_law_pick", dd 45 "_law_refused", dd 46 "_law_alike", dd 47 "_law_net", dd 48 "_law_links", dd 49 "_law_hears", dd 50 "_law_clear", dd 51 "_law_common", dd 52 "_law_pattern", dd 53 "_law_waits", dd 54 "_law_limit", dd 55 "law"]
def fa : List He.Fa := [.glo "need", .glo "is_number", .glo "is_rising", .glo "are_letters", .glo "is_station_row", .glo "is_net", .glo "check_net", .glo "all_links", .glo "heard_by", .glo "clear_links", .glo "is_wait_row", .glo "is_waits", .glo "check_waits", .glo "check_net_waits", .glo "row_period", .glo "common", .glo "period_of", .glo "period", .glo "does_send", .glo "senders_in", .glo "senders_at", .glo "counts_of", .glo "clear_in_period", .glo "never_clear", .glo "are_coprime", .glo "_law_taken", .glo "_law_pick", .glo "_law_refused", .glo "_law_alike", .glo "_law_net", .glo "_law_links", .glo "_law_hears", .glo "_law_clear", .glo "_law_common", .glo "_law_pattern", .glo "_law_waits", .glo "_law_limit", .glo "law", .glo "BadArgument", .glo "TooMuch", .free "len", .free "int", .free "bool", .free "str", .free "tuple", .free "list", .free "dict", .free "min", .free "isinstance", .free "all", .free "any", .free "range", .free "zip", .free "enumerate", .free "sorted", .free "sum", .free "super", .int "MOST_STATIONS" (7), .int "SILENCE" (-1), .int "NOISE" (-2), .int "SENDS" (-3), .int "MOST_WAIT" (9), .int "MOST_ROW" (6), .int "MOST_PERIOD" (5000), .int "MOST_SLOT" (1000000), .str "LETTERS" "abcdefg"]
abbrev prog : Program := PySem.Challenge.pw_channelshared_k24_whole_rows_of_waits
abbrev tf : List He.Defn := [("law", none)]
def ex (K : PySem.W.Frag) : Bool := HX.errB prog "BadArgument" "name" "BadArgument.__init__" K && HX.errB prog "TooMuch" "limit" "TooMuch.__init__" K
def es : List Str := ["BadArgument", "TooMuch"]
def vs : List HX.FnC := [some ("__init__", "BadArgument.__init__", defArgs (HX.clsFn (top 2)), .stmts (defBody (HX.clsFn (top 2))), defScope (HX.clsFn (top 2))), some ("__init__", "TooMuch.__init__", defArgs (HX.clsFn (top 3)), .stmts (defBody (HX.clsFn (top 3))), defScope (HX.clsFn (top 3)))]
abbrev R : PySem.W.OpenRow := PySem.W.OpenLaw.row PySem.Challenge.rw_channelshared_k24_whole_rows_of_waits
abbrev hk : PySem.W.Hook := HX.hookZ 5 fa fn [] tf ex es vs
def ob (s : PySem.W.SharedT) : HX.AlZ := HX.obsZ 5 fa fn [] tf ex es (HandSHeadRun.getT s)
theorem ob_eq (s : PySem.W.SharedT) : ob s = hk.obs s.abs := HX.obsZ_eq (HandSHeadRun.getT_eq s)
theorem run (w : World) : HandSHeadRun.RunEq R (PySem.W.view R.prog [55]) hk ob 4000 [("ChannelError" : PySem.Str), ("BadArgument" : PySem.Str), ("TooMuch" : PySem.Str), ("need" : PySem.Str), ("LETTERS" : PySem.Str), ("MOST_STATIONS" : PySem.Str), ("is_number" : PySem.Str), ("is_rising" : PySem.Str), ("are_letters" : PySem.Str), ("is_station_row" : PySem.Str), ("is_net" : PySem.Str), ("check_net" : PySem.Str), ("all_links" : PySem.Str), ("SILENCE" : PySem.Str), ("NOISE" : PySem.Str), ("SENDS" : PySem.Str), ("heard_by" : PySem.Str), ("clear_links" : PySem.Str), ("MOST_WAIT" : PySem.Str), ("MOST_ROW" : PySem.Str), ("MOST_PERIOD" : PySem.Str), ("MOST_SLOT" : PySem.Str), ("is_wait_row" : PySem.Str), ("is_waits" : PySem.Str), ("check_waits" : PySem.Str), ("check_net_waits" : PySem.Str), ("row_period" : PySem.Str), ("common" : PySem.Str), ("period_of" : PySem.Str), ("period" : PySem.Str), ("does_send" : PySem.Str), ("senders_in" : PySem.Str), ("senders_at" : PySem.Str), ("counts_of" : PySem.Str), ("clear_in_period" : PySem.Str), ("never_clear" : PySem.Str), ("are_coprime" : PySem.Str), ("_law_taken" : PySem.Str), ("_law_pick" : PySem.Str), ("_law_refused" : PySem.Str), ("_law_alike" : PySem.Str), ("_law_net" : PySem.Str), ("_law_links" : PySem.Str), ("_law_hears" : PySem.Str), ("_law_clear" : PySem.Str), ("_law_common" : PySem.Str), ("_law_pattern" : PySem.Str), ("_law_waits" : PySem.Str), ("_law_limit" : PySem.Str)] w := by
  intro os
  kernel_rfl
section
variable {P : Program} {w : World} {K : PySem.W.Frag} {h : Heap} {mg : Str → Option Value} {f : Addr} (X : K.In h) (G : h.Ns mainGlobals mg) (c : HX.SaysZ fa fn [] tf ex es vs w h K)
include X G c
theorem blt : Blt mg := ⟨He.free_ok X G (c.x.t.d.fact 40 (f := .free "len") rfl), He.free_ok X G (c.x.t.d.fact 41 (f := .free "int") rfl), He.free_ok X G (c.x.t.d.fact 42 (f := .free "bool") rfl), He.free_ok X G (c.x.t.d.fact 43 (f := .free "str") rfl), He.free_ok X G (c.x.t.d.fact 44 (f := .free "tuple") rfl), He.free_ok X G (c.x.t.d.fact 45 (f := .free "list") rfl), He.free_ok X G (c.x.t.d.fact 46 (f := .free "dict") rfl), He.free_ok X G (c.x.t.d.fact 47 (f := .free "min") rfl), He.free_ok X G (c.x.t.d.fact 48 (f := .free "isinstance") rfl), He.free_ok X G (c.x.t.d.fact 49 (f := .free "all") rfl), He.free_ok X G (c.x.t.d.fact 50 (f := .free "any") rfl), He.free_ok X G (c.x.t.d.fact 51 (f := .free "range") rfl), He.free_ok X G (c.x.t.d.fact 52 (f := .free "zip") rfl), He.free_ok X G (c.x.t.d.fact 53 (f := .free "enumerate") rfl), He.free_ok X G (c.x.t.d.fact 54 (f := .free "sorted") rfl)⟩
theorem err_BadArgument : DX.ErrTxt prog K mg "BadArgument" "name" (He.ga K "BadArgument") (HX.ini K "BadArgument") (HX.cloOf K (HX.ini K "BadArgument")) (HX.cdOf K (HX.ini K "BadArgument")) "BadArgument.__init__" :=
  HX.err_ok X G (c.x.t.d.fact 38 (f := .glo "BadArgument") rfl) (c.x.t.d.fact 56 (f := .free "super") rfl) (by kernel_rfl) (List.cons.inj c.e).1 (He.ba c.x.more).1 (fun _ _ _ _ => ⟨_, rfl⟩) (fun _ _ _ _ => rfl) (fun _ _ _ _ => rfl)
theorem err_TooMuch : DX.ErrTxt prog K mg "TooMuch" "limit" (He.ga K "TooMuch") (HX.ini K "TooMuch") (HX.cloOf K (HX.ini K "TooMuch")) (HX.cdOf K (HX.ini K "TooMuch")) "TooMuch.__init__" :=
  HX.err_ok X G (c.x.t.d.fact 39 (f := .glo "TooMuch") rfl) (c.x.t.d.fact 56 (f := .free "super") rfl) (by kernel_rfl) (List.cons.inj (List.cons.inj c.e).2).1 (He.ba c.x.more).2 (fun _ _ _ _ => ⟨_, rfl⟩) (fun _ _ _ _ => rfl) (fun _ _ _ _ => rfl)
theorem facts (hfa : mg ("law" : Str) = some (.ref f)) :
    ∃ fd : FuncData, (∀ (s : Shared) (v : Value), BindsTo s fd ⟨[v], []⟩ [("script", v)]) ∧ ∀ base : Heap, K.In base → base.Ns mainGlobals mg → LamX.TabB base mg (He.cT K ("law", none)).1 (He.cT K ("law", none)).2 → FnOk prog w K mg base (L2.CX prog w) 12 f fd ["script"] (liftSp K (sp_law (He.cT K ("law", none)).2)) := by
  have B := blt X G c
  have T_BadArgument := err_BadArgument X G c
  have T_TooMuch := err_TooMuch X G c
  have S_sum := He.free_ok X G (c.x.t.d.fact 55 (f := .free "sum") rfl)
  obtain ⟨fd_need, D_need⟩ := c.x.t.d.def_ 0 (d := dd 4 "need") rfl
  have G_need := He.glo_ok X G (c.x.t.d.fact 0 (f := .glo "need") rfl)
  obtain ⟨fd_is_number, D_is_number⟩ := c.x.t.d.def_ 1 (d := dd 8 "is_number") rfl
  have G_is_number := He.glo_ok X G (c.x.t.d.fact 1 (f := .glo "is_number") rfl)
  obtain ⟨fd_is_rising, D_is_rising⟩ := c.x.t.d.def_ 2 (d := dd 9 "is_rising") rfl
  have G_is_rising := He.glo_ok X G (c.x.t.d.fact 2 (f := .glo "is_rising") rfl)
  obtain ⟨fd_are_letters, D_are_letters⟩ := c.x.t.d.def_ 3 (d := dd 10 "are_letters") rfl
  have G_are_letters := He.glo_ok X G (c.x.t.d.fact 3 (f := .glo "are_letters") rfl)
  obtain ⟨fd_is_station_row, D_is_station_row⟩ := c.x.t.d.def_ 4 (d := dd 11 "is_station_row") rfl
  have G_is_station_row := He.glo_ok X G (c.x.t.d.fact 4 (f := .glo "is_station_row") rfl)
  obtain ⟨fd_is_net, D_is_net⟩ := c.x.t.d.def_ 5 (d := dd 12 "is_net") rfl
  have G_is_net := He.glo_ok X G (c.x.t.d.fact 5 (f := .glo "is_net") rfl)
  obtain ⟨fd_check_net, D_check_net⟩ := c.x.t.d.def_ 6 (d := dd 13 "check_net") rfl
  have G_check_net := He.glo_ok X G (c.x.t.d.fact 6 (f := .glo "check_net") rfl)
  obtain ⟨fd_all_links, D_all_links⟩ := c.x.t.d.def_ 7 (d := dd 15 "all_links") rfl
  have G_all_links := He.glo_ok X G (c.x.t.d.fact 7 (f := .glo "all_links") rfl)
  obtain ⟨fd_heard_by, D_heard_by⟩ := c.x.t.d.def_ 8 (d := dd 20 "heard_by") rfl
  have G_heard_by := He.glo_ok X G (c.x.t.d.fact 8 (f := .glo "heard_by") rfl)
  obtain ⟨fd_clear_links, D_clear_links⟩ := c.x.t.d.def_ 9 (d := dd 21 "clear_links") rfl
  have G_clear_links := He.glo_ok X G (c.x.t.d.fact 9 (f := .glo "clear_links") rfl)
  obtain ⟨fd_is_wait_row, D_is_wait_row⟩ := c.x.t.d.def_ 10 (d := dd 27 "is_wait_row") rfl
  have G_is_wait_row := He.glo_ok X G (c.x.t.d.fact 10 (f := .glo "is_wait_row") rfl)
  obtain ⟨fd_is_waits, D_is_waits⟩ := c.x.t.d.def_ 11 (d := dd 28 "is_waits") rfl
  have G_is_waits := He.glo_ok X G (c.x.t.d.fact 11 (f := .glo "is_waits") rfl)
  obtain ⟨fd_check_waits, D_check_waits⟩ := c.x.t.d.def_ 12 (d := dd 29 "check_waits") rfl
  have G_check_waits := He.glo_ok X G (c.x.t.d.fact 12 (f := .glo "check_waits") rfl)
  obtain ⟨fd_check_net_waits, D_check_net_waits⟩ := c.x.t.d.def_ 13 (d := dd 30 "check_net_waits") rfl
  have G_check_net_waits := He.glo_ok X G (c.x.t.d.fact 13 (f := .glo "check_net_waits") rfl)
  obtain ⟨fd_row_period, D_row_period⟩ := c.x.t.d.def_ 14 (d := dd 31 "row_period") rfl
  have G_row_period := He.glo_ok X G (c.x.t.d.fact 14 (f := .glo "row_period") rfl)
  obtain ⟨fd_common, D_common⟩ := c.x.t.d.def_ 15 (d := dd 32 "common") rfl
  have G_common := He.glo_ok X G (c.x.t.d.fact 15 (f := .glo "common") rfl)
  obtain ⟨fd_period_of, D_period_of⟩ := c.x.t.d.def_ 16 (d := dd 33 "period_of") rfl
  have G_period_of := He.glo_ok X G (c.x.t.d.fact 16 (f := .glo "period_of") rfl)
  obtain ⟨fd_period, D_period⟩ := c.x.t.d.def_ 17 (d := dd 34 "period") rfl
  have G_period := He.glo_ok X G (c.x.t.d.fact 17 (f := .glo "period") rfl)
  obtain ⟨fd_does_send, D_does_send⟩ := c.x.t.d.def_ 18 (d := dd 35 "does_send") rfl
  have G_does_send := He.glo_ok X G (c.x.t.d.fact 18 (f := .glo "does_send") rfl)
  obtain ⟨fd_senders_in, D_senders_in⟩ := c.x.t.d.def_ 19 (d := dd 36 "senders_in") rfl
  have G_senders_in := He.glo_ok X G (c.x.t.d.fact 19 (f := .glo "senders_in") rfl)
  obtain ⟨fd_senders_at, D_senders_at⟩ := c.x.t.d.def_ 20 (d := dd 37 "senders_at") rfl
  have G_senders_at := He.glo_ok X G (c.x.t.d.fact 20 (f := .glo "senders_at") rfl)
  obtain ⟨fd_counts_of, D_counts_of⟩ := c.x.t.d.def_ 21 (d := dd 38 "counts_of") rfl
  have G_counts_of := He.glo_ok X G (c.x.t.d.fact 21 (f := .glo "counts_of") rfl)
  obtain ⟨fd_clear_in_period, D_clear_in_period⟩ := c.x.t.d.def_ 22 (d := dd 39 "clear_in_period") rfl
  have G_clear_in_period := He.glo_ok X G (c.x.t.d.fact 22 (f := .glo "clear_in_period") rfl)
  obtain ⟨fd_never_clear, D_never_clear⟩ := c.x.t.d.def_ 23 (d := dd 40 "never_clear") rfl
  have G_never_clear := He.glo_ok X G (c.x.t.d.fact 23 (f := .glo "never_clear") rfl)
  obtain ⟨fd_are_coprime, D_are_coprime⟩ := c.x.t.d.def_ 24 (d := dd 41 "are_coprime") rfl
  have G_are_coprime := He.glo_ok X G (c.x.t.d.fact 24 (f := .glo "are_coprime") rfl)
  obtain ⟨fd__law_taken, D__law_taken⟩ := c.x.t.d.def_ 25 (d := dd 43 "_law_taken") rfl
  have G__law_taken := He.glo_ok X G (c.x.t.d.fact 25 (f := .glo "_law_taken") rfl)
  obtain ⟨fd__law_pick, D__law_pick⟩ := c.x.t.d.def_ 26 (d := dd 44 "_law_pick") rfl
  have G__law_pick := He.glo_ok X G (c.x.t.d.fact 26 (f := .glo "_law_pick") rfl)
  obtain ⟨fd__law_refused, D__law_refused⟩ := c.x.t.d.def_ 27 (d := dd 45 "_law_refused") rfl
  have G__law_refused := He.glo_ok X G (c.x.t.d.fact 27 (f := .glo "_law_refused") rfl)
  obtain ⟨fd__law_alike, D__law_alike⟩ := c.x.t.d.def_ 28 (d := dd 46 "_law_alike") rfl
  have G__law_alike := He.glo_ok X G (c.x.t.d.fact 28 (f := .glo "_law_alike") rfl)
  obtain ⟨fd__law_net, D__law_net⟩ := c.x.t.d.def_ 29 (d := dd 47 "_law_net") rfl
  have G__law_net := He.glo_ok X G (c.x.t.d.fact 29 (f := .glo "_law_net") rfl)
  obtain ⟨fd__law_links, D__law_links⟩ := c.x.t.d.def_ 30 (d := dd 48 "_law_links") rfl
  have G__law_links := He.glo_ok X G (c.x.t.d.fact 30 (f := .glo "_law_links") rfl)
  obtain ⟨fd__law_hears, D__law_hears⟩ := c.x.t.d.def_ 31 (d := dd 49 "_law_hears") rfl
  have G__law_hears := He.glo_ok X G (c.x.t.d.fact 31 (f := .glo "_law_hears") rfl)
  obtain ⟨fd__law_clear, D__law_clear⟩ := c.x.t.d.def_ 32 (d := dd 50 "_law_clear") rfl
  have G__law_clear := He.glo_ok X G (c.x.t.d.fact 32 (f := .glo "_law_clear") rfl)
  obtain ⟨fd__law_common, D__law_common⟩ := c.x.t.d.def_ 33 (d := dd 51 "_law_common") rfl
  have G__law_common := He.glo_ok X G (c.x.t.d.fact 33 (f := .glo "_law_common") rfl)
  obtain ⟨fd__law_pattern, D__law_pattern⟩ := c.x.t.d.def_ 34 (d := dd 52 "_law_pattern") rfl
  have G__law_pattern := He.glo_ok X G (c.x.t.d.fact 34 (f := .glo "_law_pattern") rfl)
  obtain ⟨fd__law_waits, D__law_waits⟩ := c.x.t.d.def_ 35 (d := dd 53 "_law_waits") rfl
  have G__law_waits := He.glo_ok X G (c.x.t.d.fact 35 (f := .glo "_law_waits") rfl)
  obtain ⟨fd__law_limit, D__law_limit⟩ := c.x.t.d.def_ 36 (d := dd 54 "_law_limit") rfl
  have G__law_limit := He.glo_ok X G (c.x.t.d.fact 36 (f := .glo "_law_limit") rfl)
  obtain ⟨fd_law, D_law⟩ := c.x.t.d.def_ 37 (d := dd 55 "law") rfl
  have G_law := He.glo_ok X G (c.x.t.d.fact 37 (f := .glo "law") rfl)
  obtain ⟨t_MOST_STATIONS, c_MOST_STATIONS⟩ := He.int_ok X G (c.x.t.d.fact 57 (f := .int "MOST_STATIONS" (7)) rfl)
  obtain ⟨t_SILENCE, c_SILENCE⟩ := He.int_ok X G (c.x.t.d.fact 58 (f := .int "SILENCE" (-1)) rfl)
  obtain ⟨t_NOISE, c_NOISE⟩ := He.int_ok X G (c.x.t.d.fact 59 (f := .int "NOISE" (-2)) rfl)
  obtain ⟨t_SENDS, c_SENDS⟩ := He.int_ok X G (c.x.t.d.fact 60 (f := .int "SENDS" (-3)) rfl)
  obtain ⟨t_MOST_WAIT, c_MOST_WAIT⟩ := He.int_ok X G (c.x.t.d.fact 61 (f := .int "MOST_WAIT" (9)) rfl)
  obtain ⟨t_MOST_ROW, c_MOST_ROW⟩ := He.int_ok X G (c.x.t.d.fact 62 (f := .int "MOST_ROW" (6)) rfl)
  obtain ⟨t_MOST_PERIOD, c_MOST_PERIOD⟩ := He.int_ok X G (c.x.t.d.fact 63 (f := .int "MOST_PERIOD" (5000)) rfl)
  obtain ⟨t_MOST_SLOT, c_MOST_SLOT⟩ := He.int_ok X G (c.x.t.d.fact 64 (f := .int "MOST_SLOT" (1000000)) rfl)
  obtain ⟨t_LETTERS, c_LETTERS⟩ := He.str_ok X G (c.x.t.d.fact 65 (f := .str "LETTERS" "abcdefg") rfl)
  have e := hfa.symm.trans G_law
  cases e
  have bl := FunD.bindsA (ps := ["script"]) D_law fun _ _ _ _ _ _ us hl => match us, hl with | [_], _ => rfl
  have hcode := HX.code_of D_law
  refine ⟨fd_law, fun s v => bl s [v] rfl, fun base Kb Gb TB => ?_⟩
  have F_need := mk_need (P := prog) (w := w) (base := base) (C := He.ga K "BadArgument") B T_BadArgument D_need G_need
  have F_is_number := mk_is_number (P := prog) (w := w) (base := base) (C := He.ga K "BadArgument") B D_is_number G_is_number
  have F_is_rising := mk_is_rising (P := prog) (w := w) (base := base) (C := He.ga K "BadArgument") B D_is_rising G_is_rising
  have F_are_letters := mk_are_letters (P := prog) (w := w) (base := base) (C := He.ga K "BadArgument") B c_LETTERS D_are_letters G_are_letters
  have F_is_station_row := mk_is_station_row (P := prog) (w := w) (base := base) (C := He.ga K "BadArgument") B F_is_rising F_is_number D_is_station_row G_is_station_row
  have F_is_net := mk_is_net (P := prog) (w := w) (base := base) (C := He.ga K "BadArgument") B F_is_station_row F_are_letters c_MOST_STATIONS D_is_net G_is_net
  have F_check_net := mk_check_net (P := prog) (w := w) (base := base) (C := He.ga K "BadArgument") B F_is_net F_need D_check_net G_check_net
  have F_all_links := mk_all_links (P := prog) (w := w) (base := base) (C := He.ga K "BadArgument") B D_all_links G_all_links
  have F_heard_by := mk_heard_by (P := prog) (w := w) (base := base) (C := He.ga K "BadArgument") B c_SILENCE c_NOISE c_SENDS D_heard_by G_heard_by
  have F_clear_links := mk_clear_links (P := prog) (w := w) (base := base) (C := He.ga K "BadArgument") B F_heard_by D_clear_links G_clear_links
  have F_is_wait_row := mk_is_wait_row (P := prog) (w := w) (base := base) (C := He.ga K "BadArgument") B F_is_number c_MOST_ROW c_MOST_WAIT D_is_wait_row G_is_wait_row
  have F_is_waits := mk_is_waits (P := prog) (w := w) (base := base) (C := He.ga K "BadArgument") B F_is_wait_row D_is_waits G_is_waits
  have F_check_waits := mk_check_waits (P := prog) (w := w) (base := base) (C := He.ga K "BadArgument") B F_is_waits F_need D_check_waits G_check_waits
  have F_check_net_waits := mk_check_net_waits (P := prog) (w := w) (base := base) (C := He.ga K "BadArgument") B F_is_waits F_need F_check_net D_check_net_waits G_check_net_waits
  have F_row_period := mk_row_period (P := prog) (w := w) (base := base) (C := He.ga K "BadArgument") B S_sum D_row_period G_row_period
  have F_common := mk_common (P := prog) (w := w) (base := base) (C := He.ga K "BadArgument") B D_common G_common
  have F_period_of := mk_period_of (P := prog) (w := w) (base := base) (C := He.ga K "BadArgument") B F_common F_row_period T_TooMuch c_MOST_PERIOD D_period_of G_period_of
  have F_period := mk_period (P := prog) (w := w) (base := base) (C := He.ga K "BadArgument") B F_period_of F_check_waits D_period G_period
  have F_does_send := mk_does_send (P := prog) (w := w) (base := base) (C := He.ga K "BadArgument") B F_row_period D_does_send G_does_send
  have F_senders_in := mk_senders_in (P := prog) (w := w) (base := base) (C := He.ga K "BadArgument") B F_does_send D_senders_in G_senders_in
  have F_senders_at := mk_senders_at (P := prog) (w := w) (base := base) (C := He.ga K "BadArgument") B F_senders_in F_is_number F_need F_check_waits c_MOST_SLOT D_senders_at G_senders_at
  have F_counts_of := mk_counts_of (P := prog) (w := w) (base := base) (C := He.ga K "BadArgument") B F_all_links F_period_of F_senders_in F_clear_links D_counts_of G_counts_of
  have F_clear_in_period := mk_clear_in_period (P := prog) (w := w) (base := base) (C := He.ga K "BadArgument") B F_counts_of F_check_net_waits D_clear_in_period G_clear_in_period
  have F_never_clear := mk_never_clear (P := prog) (w := w) (base := base) (C := He.ga K "BadArgument") B F_counts_of F_all_links F_check_net_waits D_never_clear G_never_clear
  have F_are_coprime := mk_are_coprime (P := prog) (w := w) (base := base) (C := He.ga K "BadArgument") B F_common F_row_period F_check_waits D_are_coprime G_are_coprime
  have F__law_taken := mk__law_taken (P := prog) (w := w) (base := base) (C := He.ga K "BadArgument") B D__law_taken G__law_taken
  have F__law_pick := mk__law_pick (P := prog) (w := w) (base := base) (C := He.ga K "BadArgument") B F__law_taken D__law_pick G__law_pick
  have F__law_alike := (mk__law_alike (P := prog) (w := w) (base := base) B D__law_alike G__law_alike 4).mono (show 5 ≤ 8 by decide)
  have F__law_net := mk__law_net (P := prog) (w := w) (base := base) (C := He.ga K "BadArgument") B F__law_taken F__law_pick D__law_net G__law_net
  have F__law_links := mk__law_links (P := prog) (w := w) (base := base) (C := He.ga K "BadArgument") B D__law_links G__law_links
  have F__law_hears := mk__law_hears (P := prog) (w := w) (base := base) (C := He.ga K "BadArgument") B D__law_hears G__law_hears
  have F__law_clear := mk__law_clear (P := prog) (w := w) (base := base) (C := He.ga K "BadArgument") B F__law_links F__law_hears D__law_clear G__law_clear
  have F__law_common := mk__law_common (P := prog) (w := w) (base := base) (C := He.ga K "BadArgument") B D__law_common G__law_common
  have F__law_pattern := mk__law_pattern (P := prog) (w := w) (base := base) (C := He.ga K "BadArgument") B D__law_pattern G__law_pattern
  have F__law_waits := mk__law_waits (P := prog) (w := w) (base := base) (C := He.ga K "BadArgument") B F__law_taken F__law_pick D__law_waits G__law_waits
  have hb := D__law_refused.bindsN (ps := ["call"]) fun _ _ _ _ _ _ us hl => match us, hl with | [_], _ => rfl
  have kp := D__law_refused.kp
  obtain ⟨oc, od, dV, kV, doc, pm, an, cdv0, ct, osl, rfl, lk, hcd, _, _⟩ := D__law_refused.ex
  have hb2 := D__law_limit.bindsN (ps := ["call"]) fun _ _ _ _ _ _ us hl => match us, hl with | [_], _ => rfl
  have kp2 := D__law_limit.kp
  obtain ⟨oc2, od2, dV2, kV2, doc2, pm2, an2, cdv02, ct2, osl2, rfl, lk2, hcd2, _, _⟩ := D__law_limit.ex
  exact fn_okC D_law sc_law len_law (fun cdv A outer s H E c Ex hc hr ok => b_law (C := He.ga K "BadArgument") B F_period F_are_coprime F_clear_in_period F_never_clear F__law_pick F_senders_at F__law_alike F__law_common F__law_hears F__law_taken F__law_links F__law_pattern F__law_waits F__law_net T_BadArgument T_TooMuch G__law_refused kp lk hcd hb G__law_limit kp2 lk2 hcd2 hb2 TB cdv A outer s H E c Ex (hc.symm.trans hcode) hr ok) (pure_law (C := He.ga K "BadArgument") (C2 := He.ga K "TooMuch"))
end
end KL
open PySem PySem.W PySem.Calls PyProof.Rows
theorem PySem.Challenge.cw_channelshared_k24_whole_rows_of_waits_holds : PySem.Challenge.rw_channelshared_k24_whole_rows_of_waits.Holds := by
  w_on; o_law
  refine HandSHeadRun.head_any (r := OpenLaw.row PySem.Challenge.rw_channelshared_k24_whole_rows_of_waits) (q := view (OpenLaw.row PySem.Challenge.rw_channelshared_k24_whole_rows_of_waits).prog [55]) (H := KL.hk) (ob := KL.ob) (M := 4000) (loose := [("ChannelError" : PySem.Str), ("BadArgument" : PySem.Str), ("TooMuch" : PySem.Str), ("need" : PySem.Str), ("LETTERS" : PySem.Str), ("MOST_STATIONS" : PySem.Str), ("is_number" : PySem.Str), ("is_rising" : PySem.Str), ("are_letters" : PySem.Str), ("is_station_row" : PySem.Str), ("is_net" : PySem.Str), ("check_net" : PySem.Str), ("all_links" : PySem.Str), ("SILENCE" : PySem.Str), ("NOISE" : PySem.Str), ("SENDS" : PySem.Str), ("heard_by" : PySem.Str), ("clear_links" : PySem.Str), ("MOST_WAIT" : PySem.Str), ("MOST_ROW" : PySem.Str), ("MOST_PERIOD" : PySem.Str), ("MOST_SLOT" : PySem.Str), ("is_wait_row" : PySem.Str), ("is_waits" : PySem.Str), ("check_waits" : PySem.Str), ("check_net_waits" : PySem.Str), ("row_period" : PySem.Str), ("common" : PySem.Str), ("period_of" : PySem.Str), ("period" : PySem.Str), ("does_send" : PySem.Str), ("senders_in" : PySem.Str), ("senders_at" : PySem.Str), ("counts_of" : PySem.Str), ("clear_in_period" : PySem.Str), ("never_clear" : PySem.Str), ("are_coprime" : PySem.Str), ("_law_taken" : PySem.Str), ("_law_pick" : PySem.Str), ("_law_refused" : PySem.Str), ("_law_alike" : PySem.Str), ("_law_net" : PySem.Str), ("_law_links" : PySem.Str), ("_law_hears" : PySem.Str), ("_law_clear" : PySem.Str), ("_law_common" : PySem.Str), ("_law_pattern" : PySem.Str), ("_law_waits" : PySem.Str), ("_law_limit" : PySem.Str)]) (d := HandSHeadRun.topDef (OpenLaw.row PySem.Challenge.rw_channelshared_k24_whole_rows_of_waits).prog 55) (kwd := []) KL.ob_eq
    (by kernel_rfl) (fun s => by kernel_rfl) KL.run (by kernel_rfl) (by kernel_rfl) (by kernel_rfl) (by rfl) (by first | assumption | decide +kernel) (by decide +kernel) ⟨rfl, rfl, rfl, rfl, rfl, by decide +kernel⟩ ?hw ?hc
  case hw => w_witness2
  case hc =>
    refine LamX.walk_ofTsE (l := PySem.Challenge.rw_channelshared_k24_whole_rows_of_waits) (n := 63) (k := 12) (x := "script") (CX := fun w => L2.CX KL.prog w) rfl (by decide) (by kernel_rfl) ⟨rfl, by decide, by decide⟩ ?F (fun w H s e s' => HX.cx_out)
    intro w mg fa h Y G hmg0
    obtain ⟨K, KX, c⟩ := Y
    have hmg : mg ("law" : PySem.Str) = some (.ref fa) := by
      have e : (HandSHeadRun.topDef (OpenLaw.row PySem.Challenge.rw_channelshared_k24_whole_rows_of_waits).prog 55).name = ("law" : PySem.Str) := by kernel_rfl
      rw [← e]
      exact hmg0
    obtain ⟨fd, hb, hF⟩ := KL.facts KX G c hmg
    refine ⟨K, KX, fd, [He.cT K ("law", none)], _, fun p hp => ?_, fun p hp => ?_, fun p hp => ?_, hb, fun H a ns hn _ hH hS => ?_, fun base Kb Gb TB => hF base Kb Gb (TB _ (List.mem_singleton.mpr rfl))⟩
    · exact c.x.empty ("law", none) (List.mem_singleton.mpr rfl) |> fun e => by rw [List.mem_singleton.mp hp]; exact e
    · exact c.x.out ("law", none) (List.mem_singleton.mpr rfl) |> fun e => by rw [List.mem_singleton.mp hp]; exact e
    · have e := codeHd_of_K KX (c.x.hd ("law", none) (List.mem_singleton.mpr rfl))
      rw [List.mem_singleton.mp hp]
      exact e
    · exact HX.script_sp (hH _ (List.mem_singleton.mpr rfl)) hS fun l GG ot => ⟨⟨ns, l⟩, rfl, Nat.le_trans hn (by decide), ot, fun _ => rfl⟩

end

