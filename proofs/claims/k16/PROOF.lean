import PyProof.Rows.All
import HandS.ForMost
import HandS.ForExc
import HandS.Lambda
import HandS.EndTab
import HandS.Flow
import HandS.TupAny
import HandS.Style
import HandS.Defaults
import HandS.IsInst
import HandS.Deep
import HandS.TupMul
import HandS.Conv
import HandS.Zip
import HandS.SortKw
import KE.SortData
import KE.GoesEnum
import HandS.ExcSuper
import KE.KExcSuper
import HandS.HeadHook4
import HandS.HeadWalk
import HandS.Head2
import KE.KEqDeep
import PyProof.P3Eq
import HandS.NestedK
import HandS.Text
import KE.KTupSum
import PyProof.SumAny
import KE.GoesZip
import KE.GoesMore
import PyProof.Rows.StrMul
import HandS.ReplaceLit
import KE.OsSorts
import PySem.Challenge.RW_channelshared_k16_whole_texts_of_program
import PyProof.Rows.StrStrike
section
set_option Elab.async false
set_option linter.all false
set_option maxRecDepth 100000
set_option maxHeartbeats 1000000
namespace DL
open PySem PySem.Spec PyProof.Rows L2

/-! ## data -/
inductive D where
  | non | bl (b : Bool) | int (i : Int) | str (x : Str) | ty (n : String) | ref (a : Addr) | tup (ds : List D) | lst (ds : List D) | scr (ds : List D)
/-- what may change -/
inductive GO where
  | lst (ds : List D)
  | ins (C : Addr) (fs : List (Str × D))
  | tab (q : Str)
  | dicK (kvs : List (Key × D))
  | dicT (kvs : List (List Key × D))
abbrev GH := Addr → Option GO
def updG (G : GH) (a : Addr) (o : GO) : GH := fun b => if b = a then some o else G b
@[simp] theorem updG_same {G : GH} {a : Addr} {o : GO} : updG G a o a = some o := by unfold updG; rw [if_pos rfl]
theorem updG_ne {G : GH} {a b : Addr} {o : GO} (h : b ≠ a) : updG G a o b = G b := by unfold updG; rw [if_neg h]
@[simp] theorem updG_updG {G : GH} {a : Addr} {o u : GO} : updG (updG G a o) a u = updG G a u := by
  funext b; unfold updG; split <;> rfl

/-- a list that nobody writes: frozen, or of the module -/
def FrzL (K : PySem.W.Frag) (H : Hp) (a : Addr) (xs : List V) : Prop :=
  (∃ o, H a = some (.frz o (.lst xs))) ∨
    ∃ (o : Obj) (its : Array Value) (n : Nat), K.lookup a = some o ∧ o.cls = .type "list" ∧ o.dict = none ∧ o.data = .seq its n ∧ its.size ≤ sizeLine ∧ Vals xs its.toList
theorem FrzL.seq {K : PySem.W.Frag} {H : Hp} {a : Addr} {xs : List V} (h : FrzL K H a xs) : SqL K H a xs := by
  rcases h with h | h
  · exact .inl (.inr h)
  · exact .inr h

section
variable (K : PySem.W.Frag) (P : Addr → Prop) (G : GH) (H : Hp)
mutual
inductive Rep : V → D → Prop
  | non : Rep .non .non
  | bl (b : Bool) : Rep (.bl b) (.bl b)
  | int (i : Int) : Rep (.int i) (.int i)
  | str (x : Str) : Rep (.str x) (.str x)
  | ty (n : String) : Rep (.ty n) (.ty n)
  | ref (a : Addr) : Rep (.ref a) (.ref a)
  | tup {a : Addr} {xs : List V} {ds : List D} : SqT K H a xs → RepL xs ds → Rep (.ref a) (.tup ds)
  | lst {a : Addr} {xs : List V} {ds : List D} : H a = some (.lst xs) → G a = none → ¬ P a → RepL xs ds → Rep (.ref a) (.lst ds)
  | frz {a : Addr} {xs : List V} {ds : List D} : FrzL K H a xs → RepL xs ds → Rep (.ref a) (.scr ds)
inductive RepL : List V → List D → Prop
  | nil : RepL [] []
  | cons {v : V} {d : D} {vs : List V} {ds : List D} : Rep v d → RepL vs ds → RepL (v :: vs) (d :: ds)
end
/-- one slot -/
def RepO : Option V → Option D → Prop
  | some v, some d => Rep K P G H v d
  | none, none => True
  | some _, none => True
  | none, some _ => False
inductive RepS : List (Option V) → List (Option D) → Prop
  | nil : RepS [] []
  | cons {v : Option V} {d : Option D} {vs : List (Option V)} {ds : List (Option D)} : RepO K P G H v d → RepS vs ds → RepS (v :: vs) (d :: ds)
inductive RepF : List (Str × V) → List (Str × D) → Prop
  | nil : RepF [] []
  | cons {f : Str} {v : V} {d : D} {vs : List (Str × V)} {ds : List (Str × D)} : Rep K P G H v d → RepF vs ds → RepF ((f, v) :: vs) ((f, d) :: ds)
def RelG (a : Addr) : GO → Prop
  | .lst ds => ∃ xs, H a = some (.lst xs) ∧ RepL K P G H xs ds
  | .ins C fs => ∃ dx gs, H a = some (.ins C dx gs) ∧ RepF K P G H gs fs
  | .tab q => LamX.TabS H a q
  | .dicK kvs => ∃ ws : List (Key × V), H a = some (.dK ws) ∧ ws.map (·.1) = kvs.map (·.1) ∧ RepL K P G H (ws.map (·.2)) (kvs.map (·.2))
  | .dicT kvs => ∃ ws : List (List Key × V), H a = some (.dT ws) ∧ ws.map (·.1) = kvs.map (·.1) ∧ RepL K P G H (ws.map (·.2)) (kvs.map (·.2))
structure Rl : Prop where
  h : ∀ a o, G a = some o → RelG K P G H a o
  p : ∀ a, P a → G a = none ∧ ∃ xs, H a = some (.lst xs)
end
def Tbl : HO → Prop
  | .tbl _ => True
  | _ => False
/-- what was there stays, but for what may change -/
def Step (G : GH) (H : Hp) (G' : GH) (H' : Hp) : Prop := ∀ a o, H a = some o → ¬ Tbl o → G a = none → H' a = some o ∧ G' a = none
theorem Step.refl (G : GH) (H : Hp) : Step G H G H := fun _ _ h _ g => ⟨h, g⟩
theorem Step.trans {G G1 G2 : GH} {H H1 H2 : Hp} (a : Step G H G1 H1) (b : Step G1 H1 G2 H2) : Step G H G2 H2 := fun c o h n g =>
  let ⟨h1, g1⟩ := a c o h n g
  b c o h1 n g1

section
variable {K : PySem.W.Frag} {P : Addr → Prop} {G G' : GH} {H H' : Hp}
theorem Rl.tupG (r : Rl K P G H) {a : Addr} {o : HO} (h : H a = some o) (h1 : ∀ xs, o ≠ .lst xs) (h2 : ∀ C dx gs, o ≠ .ins C dx gs) (h3 : ¬ Tbl o) (h4 : ∀ ws, o ≠ .dK ws) (h5 : ∀ ws, o ≠ .dT ws) : G a = none := by
  cases e : G a with
  | none => rfl
  | some g =>
    have q := r.h a g e
    cases g with
    | lst ds =>
      obtain ⟨xs, e1, _⟩ := q
      rw [h] at e1
      exact absurd (Option.some.inj e1) (h1 xs)
    | ins C fs =>
      obtain ⟨dx, gs, e1, _⟩ := q
      rw [h] at e1
      exact absurd (Option.some.inj e1) (h2 C dx gs)
    | tab q' =>
      obtain ⟨ps, e1, _⟩ := q
      rw [h] at e1
      cases (Option.some.inj e1)
      exact absurd trivial h3
    | dicK kvs =>
      obtain ⟨ws, e1, _⟩ := q
      rw [h] at e1
      exact absurd (Option.some.inj e1) (h4 ws)
    | dicT kvs =>
      obtain ⟨ws, e1, _⟩ := q
      rw [h] at e1
      exact absurd (Option.some.inj e1) (h5 ws)
theorem Step.sqT (r : Rl K P G H) (s : Step G H G' H') {a : Addr} {xs : List V} (h : SqT K H a xs) : SqT K H' a xs := by
  rcases h with (h | ⟨o, h⟩) | h
  · exact .inl (.inl (s a _ h (fun z => z) (r.tupG h (fun _ z => nomatch z) (fun _ _ _ z => nomatch z) (fun z => z) (fun _ z => nomatch z) (fun _ z => nomatch z))).1)
  · exact .inl (.inr ⟨o, (s a _ h (fun z => z) (r.tupG h (fun _ z => nomatch z) (fun _ _ _ z => nomatch z) (fun z => z) (fun _ z => nomatch z) (fun _ z => nomatch z))).1⟩)
  · exact .inr h
theorem Step.frz (r : Rl K P G H) (s : Step G H G' H') {a : Addr} {xs : List V} (h : FrzL K H a xs) : FrzL K H' a xs := by
  rcases h with ⟨o, h⟩ | h
  · exact .inl ⟨o, (s a _ h (fun z => z) (r.tupG h (fun _ z => nomatch z) (fun _ _ _ z => nomatch z) (fun z => z) (fun _ z => nomatch z) (fun _ z => nomatch z))).1⟩
  · exact .inr h
mutual
theorem Rep.mono (r : Rl K P G H) (s : Step G H G' H') : ∀ {v : V} {d : D}, Rep K P G H v d → Rep K P G' H' v d
  | _, _, .non => .non
  | _, _, .bl b => .bl b
  | _, _, .int i => .int i
  | _, _, .str x => .str x
  | _, _, .ty n => .ty n
  | _, _, .ref a => .ref a
  | _, _, .tup h t => .tup (s.sqT r h) (RepL.mono r s t)
  | _, _, .lst h g p t => .lst (s _ _ h (fun z => z) g).1 (s _ _ h (fun z => z) g).2 p (RepL.mono r s t)
  | _, _, .frz h t => .frz (s.frz r h) (RepL.mono r s t)
theorem RepL.mono (r : Rl K P G H) (s : Step G H G' H') : ∀ {v : List V} {d : List D}, RepL K P G H v d → RepL K P G' H' v d
  | _, _, .nil => .nil
  | _, _, .cons h t => .cons (Rep.mono r s h) (RepL.mono r s t)
end
theorem RepO.mono (r : Rl K P G H) (s : Step G H G' H') : ∀ {v : Option V} {d : Option D}, RepO K P G H v d → RepO K P G' H' v d
  | some _, some _, h => Rep.mono r s h
  | none, none, _ => trivial
  | some _, none, _ => trivial
  | none, some _, h => h.elim
theorem RepS.mono (r : Rl K P G H) (s : Step G H G' H') : ∀ {v : List (Option V)} {d : List (Option D)}, RepS K P G H v d → RepS K P G' H' v d
  | _, _, .nil => .nil
  | _, _, .cons h t => .cons (RepO.mono r s h) (RepS.mono r s t)
theorem RepF.mono (r : Rl K P G H) (s : Step G H G' H') : ∀ {v : List (Str × V)} {d : List (Str × D)}, RepF K P G H v d → RepF K P G' H' v d
  | _, _, .nil => .nil
  | _, _, .cons h t => .cons (Rep.mono r s h) (RepF.mono r s t)
theorem RepL.length : ∀ {xs : List V} {ds : List D}, RepL K P G H xs ds → xs.length = ds.length
  | _, _, .nil => rfl
  | _, _, .cons _ t => congrArg (· + 1) (RepL.length t)
theorem RepS.length : ∀ {xs : List (Option V)} {ds : List (Option D)}, RepS K P G H xs ds → xs.length = ds.length
  | _, _, .nil => rfl
  | _, _, .cons _ t => congrArg (· + 1) (RepS.length t)
theorem RepL.get : ∀ {xs : List V} {ds : List D} {i : Nat} {d : D}, RepL K P G H xs ds → ds[i]? = some d → ∃ v, xs[i]? = some v ∧ Rep K P G H v d
  | _, _, _, _, .nil, e => by simp at e
  | _, _, 0, _, .cons h _, e => by simp at e; subst e; exact ⟨_, rfl, h⟩
  | _, _, i + 1, _, .cons _ t, e => by
    obtain ⟨v, h1, h2⟩ := RepL.get (i := i) t (by simpa using e)
    exact ⟨v, by simpa using h1, h2⟩
theorem RepL.getV : ∀ {xs : List V} {ds : List D} {i : Nat} {v : V}, RepL K P G H xs ds → xs[i]? = some v → ∃ d, ds[i]? = some d ∧ Rep K P G H v d
  | _, _, _, _, .nil, e => by simp at e
  | _, _, 0, _, .cons h _, e => by simp at e; subst e; exact ⟨_, rfl, h⟩
  | _, _, i + 1, _, .cons _ t, e => by
    obtain ⟨v, h1, h2⟩ := RepL.getV (i := i) t (by simpa using e)
    exact ⟨v, by simpa using h1, h2⟩
theorem RepL.append : ∀ {xs ys : List V} {ds es : List D}, RepL K P G H xs ds → RepL K P G H ys es → RepL K P G H (xs ++ ys) (ds ++ es)
  | _, _, _, _, .nil, s => s
  | _, _, _, _, .cons r t, s => .cons r (RepL.append t s)
theorem RepL.take : ∀ {xs : List V} {ds : List D} (n : Nat), RepL K P G H xs ds → RepL K P G H (xs.take n) (ds.take n)
  | _, _, 0, _ => .nil
  | _, _, _ + 1, .nil => .nil
  | _, _, n + 1, .cons r t => .cons r (RepL.take n t)
theorem RepL.drop : ∀ {xs : List V} {ds : List D} (n : Nat), RepL K P G H xs ds → RepL K P G H (xs.drop n) (ds.drop n)
  | _, _, 0, r => r
  | _, _, _ + 1, .nil => .nil
  | _, _, n + 1, .cons _ t => RepL.drop n t
theorem RepL.reverse {xs : List V} {ds : List D} (r : RepL K P G H xs ds) : RepL K P G H xs.reverse ds.reverse := by
  induction ds generalizing xs with
  | nil => cases r; exact .nil
  | cons d ds ih =>
    cases r with
    | cons h t =>
      rw [List.reverse_cons, List.reverse_cons]
      exact (ih t).append (.cons h .nil)
theorem RepL.set {v : V} {d : D} (h : Rep K P G H v d) : ∀ {xs : List V} {ds : List D} (i : Nat), RepL K P G H xs ds → RepL K P G H (xs.set i v) (ds.set i d)
  | _, _, _, .nil => .nil
  | _, _, 0, .cons _ t => .cons h t
  | _, _, i + 1, .cons q t => .cons q (RepL.set h i t)
theorem RepL.dropLast {xs : List V} {ds : List D} (r : RepL K P G H xs ds) : RepL K P G H xs.dropLast ds.dropLast := by
  rw [List.dropLast_eq_take, List.dropLast_eq_take, r.length]
  exact r.take _
theorem RepL.replicate {xs : List V} {ds : List D} (r : RepL K P G H xs ds) : ∀ n : Nat, RepL K P G H (List.replicate n xs).flatten (List.replicate n ds).flatten
  | 0 => .nil
  | n + 1 => by
    rw [List.replicate_succ, List.replicate_succ, List.flatten_cons, List.flatten_cons]
    exact r.append (RepL.replicate r n)
theorem RepS.set {v : V} {d : D} (h : Rep K P G H v d) : ∀ {xs : List (Option V)} {ds : List (Option D)} (i : Nat), RepS K P G H xs ds → RepS K P G H (xs.set i (some v)) (ds.set i (some d))
  | _, _, _, .nil => .nil
  | _, _, 0, .cons _ t => .cons h t
  | _, _, i + 1, .cons q t => .cons q (RepS.set h i t)
theorem RepS.forget : ∀ {xs : List (Option V)} {ds : List (Option D)} (i : Nat), RepS K P G H xs ds → RepS K P G H (xs.set i none) (ds.set i none)
  | _, _, _, .nil => .nil
  | _, _, 0, .cons _ t => .cons trivial t
  | _, _, i + 1, .cons q t => .cons q (RepS.forget i t)
theorem RepS.get : ∀ {xs : List (Option V)} {ds : List (Option D)} {i : Nat} {d : D}, RepS K P G H xs ds → ds[i]? = some (some d) → ∃ v, xs[i]? = some (some v) ∧ Rep K P G H v d
  | _, _, _, _, .nil, e => by simp at e
  | v :: _, _, 0, _, .cons h _, e => by
    simp at e; subst e
    cases v with
    | none => exact h.elim
    | some v => exact ⟨_, rfl, h⟩
  | _, _, i + 1, _, .cons _ t, e => by
    obtain ⟨v, h1, h2⟩ := RepS.get (i := i) t (by simpa using e)
    exact ⟨v, by simpa using h1, h2⟩
theorem RepF.lookup : ∀ {xs : List (Str × V)} {ds : List (Str × D)} {f : Str} {d : D}, RepF K P G H xs ds → ds.lookup f = some d → ∃ v, xs.lookup f = some v ∧ Rep K P G H v d
  | _, _, _, _, .nil, e => by simp at e
  | _, _, f, d, .cons (f := g) (v := v) (d := d') h t, e => by
    rw [List.lookup_cons] at e ⊢
    cases q : (f == g) with
    | true =>
      rw [q] at e
      exact ⟨v, rfl, by cases e; exact h⟩
    | false =>
      rw [q] at e
      exact RepF.lookup t e
theorem RepF.lookup_none : ∀ {xs : List (Str × V)} {ds : List (Str × D)} {f : Str}, RepF K P G H xs ds → ds.lookup f = none → xs.lookup f = none
  | _, _, _, .nil, _ => rfl
  | _, _, f, .cons (f := g) h t, e => by
    rw [List.lookup_cons] at e ⊢
    cases q : (f == g) with
    | true => rw [q] at e; cases e
    | false => rw [q] at e; exact RepF.lookup_none t e
theorem RepF.length : ∀ {xs : List (Str × V)} {ds : List (Str × D)}, RepF K P G H xs ds → xs.length = ds.length
  | _, _, .nil => rfl
  | _, _, .cons _ t => congrArg (· + 1) (RepF.length t)
end
end DL

end

section
set_option Elab.async false
set_option linter.all false
set_option maxRecDepth 100000
set_option maxHeartbeats 1000000
namespace DL
open PySem PySem.Spec PyProof.Rows L2

/-! ## states: what a store leaves -/
section
variable {K : PySem.W.Frag} {P : Addr → Prop} {G G' : GH} {H H' : Hp} {p : Addr} {o : HO} {xs : List V} {ds : List D}
theorem Rl.free (r : Rl K P G H) (h : H p = none) : G p = none := by
  cases e : G p with
  | none => rfl
  | some g =>
    have q := r.h p g e
    cases g with
    | lst ds => obtain ⟨xs, e1, _⟩ := q; rw [h] at e1; cases e1
    | ins C fs => obtain ⟨dx, gs, e1, _⟩ := q; rw [h] at e1; cases e1
    | tab q' => obtain ⟨ps, e1, _⟩ := q; rw [h] at e1; cases e1
    | dicK kvs => obtain ⟨ps, e1, _⟩ := q; rw [h] at e1; cases e1
    | dicT kvs => obtain ⟨ps, e1, _⟩ := q; rw [h] at e1; cases e1
theorem Rl.nP (r : Rl K P G H) (h : H p = none) : ¬ P p := fun z => by
  obtain ⟨_, xs, e⟩ := r.p p z
  rw [h] at e; cases e
theorem step_new (h : H p = none) : Step G H G (upd H p o) := fun a u e n g => ⟨by rw [upd_ne (ne_of_none e h)]; exact e, g⟩
theorem step_newG {go : GO} (h : H p = none) : Step G H (updG G p go) (upd H p o) := fun a u e n g => ⟨by rw [upd_ne (ne_of_none e h)]; exact e, by rw [updG_ne (ne_of_none e h)]; exact g⟩
theorem step_put {go go' : GO} (h : G p = some go) : Step G H (updG G p go') (upd H p o) := fun a u e n g => by
  have z : a ≠ p := fun z => by rw [z, h] at g; cases g
  exact ⟨by rw [upd_ne z]; exact e, by rw [updG_ne z]; exact g⟩
theorem tabS_ext {H H' : Hp} {a : Addr} {q : Str} (t : LamX.TabS H a q) (ha : ∀ o, H a = some o → H' a = some o) (e : ∀ b q, H b = some (LamX.CodeO b q) → H' b = some (LamX.CodeO b q)) : LamX.TabS H' a q := by
  obtain ⟨ps, h1, h2, h3⟩ := t
  refine ⟨ps, ha _ h1, h2, fun pos cv hc => ?_⟩
  obtain ⟨c, e1, e2⟩ := h3 pos cv hc
  exact ⟨c, e1, e _ _ e2⟩
/-- what G tells stays so -/
theorem RelG.mono (r : Rl K P G H) (s : Step G H G' H') {a : Addr} {g : GO} (h : RelG K P G H a g) (ha : ∀ u, H a = some u → H' a = some u) (hc : ∀ b q, H b = some (LamX.CodeO b q) → H' b = some (LamX.CodeO b q)) : RelG K P G' H' a g := by
  cases g with
  | lst ds => obtain ⟨xs, e, q⟩ := h; exact ⟨xs, ha _ e, q.mono r s⟩
  | ins C fs => obtain ⟨dx, gs, e, q⟩ := h; exact ⟨dx, gs, ha _ e, q.mono r s⟩
  | tab q => exact tabS_ext h ha hc
  | dicK kvs => obtain ⟨ws, e, e2, q⟩ := h; exact ⟨ws, ha _ e, e2, q.mono r s⟩
  | dicT kvs => obtain ⟨ws, e, e2, q⟩ := h; exact ⟨ws, ha _ e, e2, q.mono r s⟩
theorem Rl.new (r : Rl K P G H) (h : H p = none) : Rl K P G (upd H p o) where
  h := fun a g e => (r.h a g e).mono r (step_new h) (fun u q => by rw [upd_ne (ne_of_none q h)]; exact q) fun b q z => by rw [upd_ne (ne_of_none z h)]; exact z
  p := fun a z => by
    obtain ⟨g, xs, e⟩ := r.p a z
    exact ⟨g, xs, by rw [upd_ne (ne_of_none e h)]; exact e⟩
theorem Rl.newL (r : Rl K P G H) (h : H p = none) (x : RepL K P G H xs ds) : Rl K P (updG G p (.lst ds)) (upd H p (.lst xs)) where
  h := fun a g e => by
    by_cases q : a = p
    · subst q
      rw [updG_same] at e; cases e
      exact ⟨xs, upd_same, x.mono r (step_newG h)⟩
    · rw [updG_ne q] at e
      exact (r.h a g e).mono r (step_newG h) (fun u q => by rw [upd_ne (ne_of_none q h)]; exact q) fun b q z => by rw [upd_ne (ne_of_none z h)]; exact z
  p := fun a z => by
    obtain ⟨g, xs, e⟩ := r.p a z
    have n := ne_of_none e h
    exact ⟨by rw [updG_ne n]; exact g, xs, by rw [upd_ne n]; exact e⟩
theorem Rl.put {ds' : List D} {xs' : List V} (r : Rl K P G H) (h : G p = some (.lst ds)) (x : RepL K P G H xs' ds') : Rl K P (updG G p (.lst ds')) (upd H p (.lst xs')) where
  h := fun a g e => by
    obtain ⟨xs, hp, _⟩ := r.h p _ h
    by_cases q : a = p
    · subst q
      rw [updG_same] at e; cases e
      exact ⟨xs', upd_same, x.mono r (step_put h)⟩
    · rw [updG_ne q] at e
      refine (r.h a g e).mono r (step_put h) (fun u z => by rw [upd_ne q]; exact z) fun b q z => ?_
      rw [upd_ne (fun w => by rw [w, hp] at z; cases z)]; exact z
  p := fun a z => by
    obtain ⟨g, xs, e⟩ := r.p a z
    have n : a ≠ p := fun w => by rw [w, h] at g; cases g
    exact ⟨by rw [updG_ne n]; exact g, xs, by rw [upd_ne n]; exact e⟩
theorem Rep.newT (r : Rl K P G H) (h : H p = none) (x : RepL K P G H xs ds) : Rep K P G (upd H p (.tup xs)) (.ref p) (.tup ds) := .tup (.of upd_same) (x.mono r (step_new h))
theorem Rep.newL (r : Rl K P G H) (h : H p = none) (x : RepL K P G H xs ds) : Rep K P G (upd H p (.lst xs)) (.ref p) (.lst ds) := .lst upd_same (r.free h) (r.nP h) (x.mono r (step_new h))
end

/-! ## sequences -/
def asL : D → GH → Option (List D)
  | .lst a, _ => some a
  | .ref p, G => match G p with
    | some (.lst a) => some a
    | _ => none
  | _, _ => none
def asQ : D → GH → Option (List D)
  | .lst a, _ => some a
  | .tup a, _ => some a
  | .scr a, _ => some a
  | .ref p, G => match G p with
    | some (.lst a) => some a
    | _ => none
  | _, _ => none
section
variable {K : PySem.W.Frag} {P : Addr → Prop} {G : GH} {H : Hp} {v : V} {d : D} {ds : List D}
theorem asL_rep (r : Rl K P G H) (h : Rep K P G H v d) (e : asL d G = some ds) : ∃ p xs, v = .ref p ∧ H p = some (.lst xs) ∧ RepL K P G H xs ds := by
  cases h with
  | lst h1 _ _ t => cases e; exact ⟨_, _, rfl, h1, t⟩
  | ref a =>
    have e1 : (match G a with | some (.lst a) => some a | _ => none) = some ds := e
    split at e1
    · rename_i z
      cases e1
      obtain ⟨xs, h1, t⟩ := r.h a _ z
      exact ⟨_, _, rfl, h1, t⟩
    · cases e1
  | _ => cases e
theorem asQ_rep (r : Rl K P G H) (h : Rep K P G H v d) (e : asQ d G = some ds) : ∃ p xs, v = .ref p ∧ (SqL K H p xs ∨ SqT K H p xs) ∧ RepL K P G H xs ds := by
  cases h with
  | lst h1 _ _ t => cases e; exact ⟨_, _, rfl, .inl (.of h1), t⟩
  | tup h1 t => cases e; exact ⟨_, _, rfl, .inr h1, t⟩
  | frz h1 t => cases e; exact ⟨_, _, rfl, .inl h1.seq, t⟩
  | ref a =>
    have e1 : (match G a with | some (.lst a) => some a | _ => none) = some ds := e
    split at e1
    · rename_i z
      cases e1
      obtain ⟨xs, h1, t⟩ := r.h a _ z
      exact ⟨_, _, rfl, .inl (.of h1), t⟩
    · cases e1
  | _ => cases e
end

/-! ## readings over data, and what they stand for -/
abbrev DSt := List (Option D)
abbrev DK := D → GH → Prop
abbrev DE := DSt → GH → DK → Prop
abbrev DT := DSt → GH → (Bool → GH → Prop) → Prop
abbrev DA := DSt → GH → (List D → GH → Prop) → Prop
structure DEnds where
  nx : DSt → GH → Prop
  rt : DK
  bk : DSt → GH → Prop := fun _ _ => False
  ct : DSt → GH → Prop := fun _ _ => False
abbrev DS := DEnds → DSt → GH → Prop
/-- an exception: its class, its one field -/
structure DX where
  cls : Addr
  fld : Str
  val : D
abbrev DXK := DX → GH → Prop
def noX : DXK := fun _ _ => False
structure DC where
  P : Addr → Prop
  G0 : GH
  H0 : Hp
structure Cur (K : PySem.W.Frag) (c : DC) (σ : L2.St) (H : Hp) (ρ : DSt) (G : GH) : Prop where
  rl : Rl K c.P G H
  st : Step c.G0 c.H0 G H
  env : RepS K c.P G H σ ρ
theorem Cur.step {K : PySem.W.Frag} {c : DC} {σ : L2.St} {H H' : Hp} {ρ : DSt} {G G' : GH} (u : Cur K c σ H ρ G) (s : Step G H G' H') (r : Rl K c.P G' H') : Cur K c σ H' ρ G' :=
  ⟨r, u.st.trans s, u.env.mono u.rl s⟩
def lE (K : PySem.W.Frag) (c : DC) (t : DE) : TE := fun σ H Q => ∃ ρ G QD, Cur K c σ H ρ G ∧ t ρ G QD ∧ ∀ d G' v H', QD d G' → Step G H G' H' → Rl K c.P G' H' → Rep K c.P G' H' v d → Q v H'
def lT (K : PySem.W.Frag) (c : DC) (t : DT) : TT := fun σ H Q => ∃ ρ G QD, Cur K c σ H ρ G ∧ t ρ G QD ∧ ∀ b G' H', QD b G' → Step G H G' H' → Rl K c.P G' H' → Q b H'
def lA (K : PySem.W.Frag) (c : DC) (t : DA) : TA := fun σ H Q => ∃ ρ G QD, Cur K c σ H ρ G ∧ t ρ G QD ∧ ∀ ds G' vs H', QD ds G' → Step G H G' H' → Rl K c.P G' H' → RepL K c.P G' H' vs ds → Q vs H'
structure EndsOk (K : PySem.W.Frag) (c : DC) (G0 : GH) (H0 : Hp) (D : DEnds) (E : Ends) : Prop where
  nx : ∀ ρ G σ H, D.nx ρ G → Step G0 H0 G H → Cur K c σ H ρ G → E.nx σ H
  rt : ∀ d G v H, D.rt d G → Step G0 H0 G H → Rl K c.P G H → Rep K c.P G H v d → E.rt v H
  bk : ∀ ρ G σ H, D.bk ρ G → Step G0 H0 G H → Cur K c σ H ρ G → E.bk σ H
  ct : ∀ ρ G σ H, D.ct ρ G → Step G0 H0 G H → Cur K c σ H ρ G → E.ct σ H
def lS (K : PySem.W.Frag) (c : DC) (t : DS) : TS := fun E σ H => ∃ ρ G D, Cur K c σ H ρ G ∧ t D ρ G ∧ EndsOk K c G H D E

theorem PE_imp {X : Cx} {e : Expr} {t t' : TE} (h : PE X e t) (i : ∀ σ H Q, t' σ H Q → t σ H Q) : PE X e t' := ⟨fun pins s σ H Q I q => h.run pins s σ H Q I (i _ _ _ q)⟩
theorem PT_imp {X : Cx} {e : Expr} {t t' : TT} (h : PT X e t) (i : ∀ σ H Q, t' σ H Q → t σ H Q) : PT X e t' := ⟨fun pins s σ H Q I q => h.run pins s σ H Q I (i _ _ _ q)⟩
theorem PW_imp {X : Cx} {e : Expr} {t t' : TT} (h : PW X e t) (i : ∀ σ H Q, t' σ H Q → t σ H Q) : PW X e t' := ⟨fun w pins s σ H Q I q => h.run w pins s σ H Q I (i _ _ _ q)⟩
theorem PA_imp {X : Cx} {e : List Expr} {t t' : TA} (h : PA X e t) (i : ∀ σ H Q, t' σ H Q → t σ H Q) : PA X e t' := ⟨fun pos pins s σ H Q I q => h.run pos pins s σ H Q I (i _ _ _ q)⟩
theorem PS_imp {X : Cx} {e : Stmt} {t t' : TS} (h : PS X e t) (i : ∀ E σ H, t' E σ H → t E σ H) : PS X e t' := ⟨fun pins s σ H D I q => h.run pins s σ H D I (i _ _ _ q)⟩
theorem PSs_imp {X : Cx} {e : List Stmt} {t t' : TS} (h : PSs X e t) (i : ∀ E σ H, t' E σ H → t E σ H) : PSs X e t' := ⟨fun pins s σ H D I q => h.run pins s σ H D I (i _ _ _ q)⟩
section
variable {X : Cx} {c : DC}
/-! ### names, constants -/
def getS : DSt → Nat → Option D
  | x :: _, 0 => x
  | _ :: r, n + 1 => getS r n
  | [], _ => none
theorem getS_eq : ∀ {ρ : DSt} {i : Nat} {d : D}, getS ρ i = some d → ρ[i]? = some (some d)
  | x :: _, 0, d, h => by
    have h : x = some d := h
    simp [h]
  | _ :: r, n + 1, d, h => by
    have := getS_eq (ρ := r) (i := n) (d := d) h
    simpa using this
  | [], _, _, h => nomatch h
def dVar (i : Nat) : DE := fun ρ G Q => match getS ρ i with
  | some d => Q d G
  | none => False
theorem d_var {i : Nat} {x : Str} {pos : Pos} (hN : X.N[i]? = some x := by rfl) (hv : Vis X.env.scope x := by first | exact Or.inl rfl | exact Or.inr (Or.inl rfl) | exact Or.inr (Or.inr rfl)) (hd : (x == ("__debug__" : Str)) = false := by decide) (hcd : (x == ("__classdict__" : Str)) = false := by decide) :
    PE X (.Name x pos) (lE X.K c (dVar i)) := PE_imp (pe_var hN hv hd hcd) fun σ H Q ⟨ρ, G, QD, u, h, k⟩ => by
  unfold dVar at h
  split at h
  · rename_i d e
    obtain ⟨v, h1, h2⟩ := u.env.get (getS_eq e)
    exact ⟨v, h1, k _ _ _ _ h (Step.refl _ _) u.rl h2⟩
  · exact h.elim
def dC (d : D) : DE := fun _ G Q => Q d G
/-- a value that stands whatever the heap -/
def Flat : V → D → Prop := fun v d => ∀ (K : PySem.W.Frag) (P : Addr → Prop) (G : GH) (H : Hp), Rep K P G H v d
theorem d_c {e : Expr} {v : V} {d : D} (h : PE X e (tC v)) (f : Flat v d) : PE X e (lE X.K c (dC d)) := PE_imp h fun σ H Q ⟨ρ, G, QD, u, h, k⟩ => k _ _ _ _ h (Step.refl _ _) u.rl (f _ _ _ _)
theorem d_int {i j pos} : PE X (.Constant (.int i) j pos) (lE X.K c (dC (.int i))) := d_c pe_int fun _ _ _ _ => .int i
theorem d_bl {b j pos} : PE X (.Constant (.bool b) j pos) (lE X.K c (dC (.bl b))) := d_c pe_bl fun _ _ _ _ => .bl b
theorem d_non {j pos} : PE X (.Constant .none j pos) (lE X.K c (dC .non)) := d_c pe_non fun _ _ _ _ => .non
theorem d_str {x j pos} : PE X (.Constant (.str x) j pos) (lE X.K c (dC (.str x))) := d_c pe_str fun _ _ _ _ => .str x
theorem d_gint {x : Str} {i : Int} {t : Tok} {pos : Pos} (hm : X.mg x = some (.int i t)) (hg : Gl X x := by rfl) (hd : (x == ("__debug__" : Str)) = false := by decide) : PE X (.Name x pos) (lE X.K c (dC (.int i))) :=
  d_c (pe_glob hg hm (v := .int i) ⟨t, rfl⟩ hd) fun _ _ _ _ => .int i
theorem d_gstr {x : Str} {z : Str} {t : Tok} {pos : Pos} (hm : X.mg x = some (.str z t)) (hg : Gl X x := by rfl) (hd : (x == ("__debug__" : Str)) = false := by decide) : PE X (.Name x pos) (lE X.K c (dC (.str z))) :=
  d_c (pe_glob hg hm (v := .str z) ⟨t, rfl⟩ hd) fun _ _ _ _ => .str z
/-- a built-in class as a value -/
theorem d_gty {x : Str} {n : String} {pos : Pos} (hm : X.mg x = none) (hv : bootBuiltins x = some (.type n)) (hg : Gl X x := by rfl) (hn : x ≠ "__name__" := by decide) (hd : (x == ("__debug__" : Str)) = false := by decide) : PE X (.Name x pos) (lE X.K c (dC (.ty n))) :=
  d_c (pe_bltn hg hm hv (v := .ty n) rfl hn hd) fun _ _ _ _ => .ty n
/-- a tuple of the module -/
theorem d_gtup {x : Str} {a : Addr} {vs : List V} {ds : List D} {pos : Pos} (hm : X.mg x = some (.ref a)) (hk : ∀ H, SqT X.K H a vs) (hr : ∀ (P : Addr → Prop) (G : GH) (H : Hp), RepL X.K P G H vs ds) (hg : Gl X x := by rfl) (hd : (x == ("__debug__" : Str)) = false := by decide) :
    PE X (.Name x pos) (lE X.K c (dC (.tup ds))) := PE_imp (pe_glob hg hm (v := .ref a) rfl hd) fun σ H Q ⟨ρ, G, QD, u, h, k⟩ => k _ _ _ _ h (Step.refl _ _) u.rl (.tup (hk H) (hr _ _ _))

/-! ### operators by values -/
abbrev R2D := D → D → GH → DK → Prop
def lR2 (K : PySem.W.Frag) (P : Addr → Prop) (r : R2D) : R2 := fun x y H Q => ∃ d e G QD, Rl K P G H ∧ Rep K P G H x d ∧ Rep K P G H y e ∧ r d e G QD ∧ ∀ d' G' v H', QD d' G' → Step G H G' H' → Rl K P G' H' → Rep K P G' H' v d' → Q v H'
def OpD (X : Cx) (f : Value → Value → Sem Value) (r : R2D) : Prop := ∀ P, OpR X f (lR2 X.K P r)
def dOp (r : R2D) (ta tb : DE) : DE := fun ρ G Q => ta ρ G fun x G1 => tb ρ G1 fun y G2 => r x y G2 Q
theorem op_imp {P : Addr → Prop} {K : PySem.W.Frag} {r : R2D} {ta tb : DE} {σ : L2.St} {H : Hp} {Q : VK} (h : lE K c (dOp r ta tb) σ H Q) (hP : c.P = P) : tOp (lR2 K P r) (lE K c ta) (lE K c tb) σ H Q := by
  subst hP
  obtain ⟨ρ, G, QD, u, h, k⟩ := h
  exact ⟨ρ, G, _, u, h, fun d G1 v H1 q s1 r1 p1 => ⟨ρ, G1, _, u.step s1 r1, q, fun e G2 w H2 q2 s2 r2 p2 => ⟨d, e, G2, QD, r2, p1.mono r1 s2, p2, q2, fun d' G' v' H' q3 s3 r3 p3 => k _ _ _ _ q3 (s1.trans (s2.trans s3)) r3 p3⟩⟩⟩
variable {a b : Expr} {ta tb : DE} {pos : Pos}
theorem d_op {op : Operator} {r : R2D} (ho : OpD X (binaryOp op) r) (ha : PE X a (lE X.K c ta)) (hb : PE X b (lE X.K c tb)) : PE X (.BinOp a op b pos) (lE X.K c (dOp r ta tb)) :=
  PE_imp (pe_op (ho c.P) ha hb) fun _ _ _ h => op_imp h rfl
theorem d_cmp {op : CmpOp} {r : R2D} (ho : OpD X (compareOp op) r) (ha : PE X a (lE X.K c ta)) (hb : PE X b (lE X.K c tb)) (hm : behindInMarks op b = false) : PE X (.Compare a [op] [b] pos) (lE X.K c (dOp r ta tb)) :=
  PE_imp (pe_cmpR (ho c.P) ha hb hm) fun _ _ _ h => op_imp h rfl
/-- a value that must be a bool -/
def isB (Q : Bool → GH → Prop) : DK := fun d G => match d with
  | .bl b => Q b G
  | _ => False
def dTst (t : DE) : DT := fun ρ G Q => t ρ G (isB Q)
theorem dt_cmp {op : CmpOp} {r : R2D} (ho : OpD X (compareOp op) r) (ha : PE X a (lE X.K c ta)) (hb : PE X b (lE X.K c tb)) (hm : behindInMarks op b = false) : PT X (.Compare a [op] [b] pos) (lT X.K c (dTst (dOp r ta tb))) :=
  PT_imp (pt_cmpR (ho c.P) ha hb hm) fun σ H Q ⟨ρ, G, QD, u, h, k⟩ => op_imp (Q := fun x H' => ∃ k, x = .bl k ∧ Q k H') ⟨ρ, G, isB QD, u, h, fun d G' v H' q s r p => by
    cases p with
    | bl b => exact ⟨b, rfl, k _ _ _ q s r⟩
    | _ => exact (show False from q).elim⟩ rfl
/-- a < b < c -/
def dChain (r r' : R2D) (ta tb tc : DE) : DE := fun ρ G Q => ta ρ G fun x G1 => tb ρ G1 fun y G2 => r x y G2 (isB fun b G3 => if b = true then tc ρ G3 fun z G4 => r' y z G4 Q else Q (.bl false) G3)
theorem chain_imp {K : PySem.W.Frag} {r r' : R2D} {ta tb tc : DE} {σ : L2.St} {H : Hp} {Q : VK} (h : lE K c (dChain r r' ta tb tc) σ H Q) : tChain (lR2 K c.P r) (lR2 K c.P r') (lE K c ta) (lE K c tb) (lE K c tc) σ H Q := by
  obtain ⟨ρ, G, QD, u, h, k⟩ := h
  refine ⟨ρ, G, _, u, h, fun d G1 v H1 q s1 r1 p1 => ⟨ρ, G1, _, u.step s1 r1, q, fun e G2 w H2 q2 s2 r2 p2 => ⟨d, e, G2, _, r2, p1.mono r1 s2, p2, q2, fun d' G3 v' H3 q3 s3 r3 p3 => ?_⟩⟩⟩
  cases p3 with
  | bl b =>
    refine ⟨b, rfl, ?_⟩
    cases b with
    | true =>
      exact ⟨ρ, G3, _, (u.step s1 r1).step (s2.trans s3) r3, q3, fun f G4 z H4 q4 s4 r4 p4 => ⟨e, f, G4, QD, r4, p2.mono r2 (s3.trans s4), p4, q4, fun d' G' v' H' q5 s5 r5 p5 => k _ _ _ _ q5 (s1.trans (s2.trans (s3.trans (s4.trans s5)))) r5 p5⟩⟩
    | false => exact k _ _ _ _ q3 (s1.trans (s2.trans s3)) r3 (.bl false)
  | _ => exact (show False from q3).elim
theorem d_chain {op op' : CmpOp} {r r' : R2D} {e : Expr} {tc : DE} (ho : OpD X (compareOp op) r) (ho' : OpD X (compareOp op') r') (ha : PE X a (lE X.K c ta)) (hb : PE X b (lE X.K c tb)) (hc : PE X e (lE X.K c tc))
    (hm : lastMarks [op, op'] [b, e] = false := by with_unfolding_all rfl) : PE X (.Compare a [op, op'] [b, e] pos) (lE X.K c (dChain r r' ta tb tc)) :=
  PE_imp (pe_chain (ho c.P) (ho' c.P) ha hb hc hm) fun _ _ _ h => chain_imp h
end
end DL

end

section
set_option Elab.async false
set_option linter.all false
set_option maxRecDepth 100000
set_option maxHeartbeats 1000000
namespace DL
open PySem PySem.Spec PyProof.Rows L2
section
variable {X : Cx} {c : DC} {e : Expr} {es : List Expr} {te : DE} {ta : DA} {pos : Pos}
/-! ### arguments, displays -/
def dNil : DA := fun _ G Q => Q [] G
def dCons (te : DE) (ta : DA) : DA := fun ρ G Q => te ρ G fun d G1 => ta ρ G1 fun ds G2 => Q (d :: ds) G2
theorem da_nil : PA X [] (lA X.K c dNil) := PA_imp pa_nil fun σ H Q ⟨ρ, G, QD, u, h, k⟩ => k _ _ _ _ h (Step.refl _ _) u.rl .nil
theorem da_cons (ha : PE X e (lE X.K c te)) (hr : PA X es (lA X.K c ta)) (hs : starEach (e :: es) X.env = (false, eval e X.env) :: starEach es X.env := by rfl) : PA X (e :: es) (lA X.K c (dCons te ta)) :=
  PA_imp (pa_cons ha hr hs) fun σ H Q ⟨ρ, G, QD, u, h, k⟩ => ⟨ρ, G, _, u, h, fun d G1 v H1 q1 s1 r1 p1 => ⟨ρ, G1, _, u.step s1 r1, q1, fun ds G2 vs H2 q2 s2 r2 p2 => k _ _ _ _ q2 (s1.trans s2) r2 (.cons (p1.mono r1 s2) p2)⟩⟩
def dTup (ta : DA) : DE := fun ρ G Q => ta ρ G fun ds G1 => ds.length ≤ sizeLine ∧ Q (.tup ds) G1
def dLst (ta : DA) : DE := fun ρ G Q => ta ρ G fun ds G1 => ds.length ≤ sizeLine ∧ Q (.lst ds) G1
/-- a list that is written later -/
def dLstM (ta : DA) : DE := fun ρ G Q => ta ρ G fun ds G1 => ds.length ≤ sizeLine ∧ ∀ p, G1 p = none → Q (.ref p) (updG G1 p (.lst ds))
theorem d_tup {x1} (h : PA X es (lA X.K c ta)) : PE X (.Tuple es x1 pos) (lE X.K c (dTup ta)) :=
  PE_imp (pe_tup h) fun σ H Q ⟨ρ, G, QD, u, h, k⟩ => ⟨ρ, G, _, u, h, fun ds G1 vs H1 ⟨q0, q1⟩ s1 r1 p1 => ⟨by rw [p1.length]; exact q0, fun p hp => k _ _ _ _ q1 (s1.trans (step_new hp)) (r1.new hp) (Rep.newT r1 hp p1)⟩⟩
theorem d_lst (h : PA X es (lA X.K c ta)) : PE X (.List es pos) (lE X.K c (dLst ta)) :=
  PE_imp (pe_lst h) fun σ H Q ⟨ρ, G, QD, u, h, k⟩ => ⟨ρ, G, _, u, h, fun ds G1 vs H1 ⟨q0, q1⟩ s1 r1 p1 => ⟨by rw [p1.length]; exact q0, fun p hp => k _ _ _ _ q1 (s1.trans (step_new hp)) (r1.new hp) (Rep.newL r1 hp p1)⟩⟩
theorem d_lstM (h : PA X es (lA X.K c ta)) : PE X (.List es pos) (lE X.K c (dLstM ta)) :=
  PE_imp (pe_lst h) fun σ H Q ⟨ρ, G, QD, u, h, k⟩ => ⟨ρ, G, _, u, h, fun ds G1 vs H1 ⟨q0, q1⟩ s1 r1 p1 => ⟨by rw [p1.length]; exact q0, fun p hp => k _ _ _ _ (q1 p (r1.free hp)) (s1.trans (step_newG hp)) (r1.newL hp p1) (.ref p)⟩⟩

/-! ### truth, and, or, not, if -/
def truD : D → GH → (Bool → Prop) → Prop
  | .non, _, k => k false
  | .bl b, _, k => k b
  | .int i, _, k => k (i != 0)
  | .str x, _, k => x.length ≤ sizeLine ∧ k ((x.length : Int) != 0)
  | .tup ds, _, k => k (!ds.isEmpty)
  | .lst ds, _, k => k (!ds.isEmpty)
  | .scr ds, _, k => k (!ds.isEmpty)
  | .ref p, G, k => match G p with
    | some (.lst ds) => k (!ds.isEmpty)
    | _ => False
  | .ty _, _, _ => False
theorem RepL.isEmpty {K : PySem.W.Frag} {P : Addr → Prop} {G : GH} {H : Hp} {xs : List V} {ds : List D} (r : RepL K P G H xs ds) : xs.isEmpty = ds.isEmpty := by
  cases r <;> rfl
theorem tru_rep {K : PySem.W.Frag} {P : Addr → Prop} {G : GH} {H : Hp} {v : V} {d : D} {k : Bool → Prop} (r : Rl K P G H) (h : Rep K P G H v d) (q : truD d G k) : ∃ b, TruV K v H b ∧ k b := by
  cases h with
  | non => exact ⟨false, rfl, q⟩
  | bl b => exact ⟨b, rfl, q⟩
  | int i => exact ⟨_, rfl, q⟩
  | str x => exact ⟨_, ⟨q.1, rfl⟩, q.2⟩
  | ty n => exact (show False from q).elim
  | tup h t => exact ⟨_, .inr (.inl ⟨_, h, rfl⟩), by rw [t.isEmpty]; exact q⟩
  | lst h _ _ t => exact ⟨_, .inl ⟨_, .of h, rfl⟩, by rw [t.isEmpty]; exact q⟩
  | frz h t => exact ⟨_, .inl ⟨_, h.seq, rfl⟩, by rw [t.isEmpty]; exact q⟩
  | ref a =>
    have q : (match G a with | some (.lst ds) => k (!ds.isEmpty) | _ => False) := q
    split at q
    · rename_i z
      obtain ⟨xs, h1, t⟩ := r.h a _ z
      exact ⟨_, .inl ⟨_, .of h1, rfl⟩, by rw [t.isEmpty]; exact q⟩
    · exact q.elim
def dTru (t : DE) : DT := fun ρ G Q => t ρ G fun d G1 => truD d G1 fun b => Q b G1
theorem dt_tru (h : PE X e (lE X.K c te)) (he : ∀ whole, isTrue e X.env whole = (do let v ← whole; standAt e.pos; holding [v] (truthy v)) := by intro _; rfl) : PT X e (lT X.K c (dTru te)) :=
  PT_imp (pt_truth h he) fun σ H Q ⟨ρ, G, QD, u, h, k⟩ => ⟨ρ, G, _, u, h, fun d G1 v H1 q s1 r1 p1 => by
    obtain ⟨b, e1, e2⟩ := tru_rep (k := fun b => QD b G1) r1 p1 q
    exact ⟨b, e1, k _ _ _ e2 s1 r1⟩⟩
variable {a b : Expr} {tA tB : DT} {ta' tb' : DE} {rest : List Expr}
def dAnd (t u : DT) : DT := fun ρ G Q => t ρ G fun c G1 => if c = true then u ρ G1 Q else Q false G1
def dOr (t u : DT) : DT := fun ρ G Q => t ρ G fun c G1 => if c = true then Q true G1 else u ρ G1 Q
def dNot (t : DT) : DT := fun ρ G Q => t ρ G fun c G1 => Q (!c) G1
theorem dw_and1 (ha : PT X a (lT X.K c tA)) : PW X (.BoolOp .And [a] pos) (lT X.K c tA) := pw_and1 ha
theorem dw_or1 (ha : PT X a (lT X.K c tA)) : PW X (.BoolOp .Or [a] pos) (lT X.K c tA) := pw_or1 ha
theorem dw_and (ha : PT X a (lT X.K c tA)) (hb : PW X (.BoolOp .And (b :: rest) pos) (lT X.K c tB)) : PW X (.BoolOp .And (a :: b :: rest) pos) (lT X.K c (dAnd tA tB)) :=
  PW_imp (pw_and ha hb) fun σ H Q ⟨ρ, G, QD, u, h, k⟩ => ⟨ρ, G, _, u, h, fun d G1 H1 q s1 r1 => by
    cases d with
    | true => exact ⟨ρ, G1, QD, u.step s1 r1, q, fun b G2 H2 q2 s2 r2 => k _ _ _ q2 (s1.trans s2) r2⟩
    | false => exact k _ _ _ q s1 r1⟩
theorem dw_or (ha : PT X a (lT X.K c tA)) (hb : PW X (.BoolOp .Or (b :: rest) pos) (lT X.K c tB)) : PW X (.BoolOp .Or (a :: b :: rest) pos) (lT X.K c (dOr tA tB)) :=
  PW_imp (pw_or ha hb) fun σ H Q ⟨ρ, G, QD, u, h, k⟩ => ⟨ρ, G, _, u, h, fun d G1 H1 q s1 r1 => by
    cases d with
    | false => exact ⟨ρ, G1, QD, u.step s1 r1, q, fun b G2 H2 q2 s2 r2 => k _ _ _ q2 (s1.trans s2) r2⟩
    | true => exact k _ _ _ q s1 r1⟩
theorem dt_not (ha : PT X a (lT X.K c tA)) : PT X (.UnaryOp .Not a pos) (lT X.K c (dNot tA)) :=
  PT_imp (pt_not ha) fun σ H Q ⟨ρ, G, QD, u, h, k⟩ => ⟨ρ, G, _, u, h, fun d G1 H1 q s1 r1 => k _ _ _ q s1 r1⟩
def dAndV (t u : DE) : DE := fun ρ G Q => t ρ G fun d G1 => truD d G1 fun b => if b = true then u ρ G1 Q else Q d G1
def dOrV (t u : DE) : DE := fun ρ G Q => t ρ G fun d G1 => truD d G1 fun b => if b = true then Q d G1 else u ρ G1 Q
def dNotV (t : DE) : DE := fun ρ G Q => t ρ G fun d G1 => truD d G1 fun b => Q (.bl (!b)) G1
theorem d_one {op} (h : PE X a (lE X.K c ta')) : PE X (.BoolOp op [a] pos) (lE X.K c ta') := pe_one h
theorem d_and (ha : PE X a (lE X.K c ta')) (hb : PE X (.BoolOp .And (b :: rest) pos) (lE X.K c tb')) : PE X (.BoolOp .And (a :: b :: rest) pos) (lE X.K c (dAndV ta' tb')) :=
  PE_imp (pe_andT ha hb) fun σ H Q ⟨ρ, G, QD, u, h, k⟩ => ⟨ρ, G, _, u, h, fun d G1 v H1 q s1 r1 p1 => by
    obtain ⟨b, e1, e2⟩ := tru_rep (k := fun b => if b = true then tb' ρ G1 QD else QD d G1) r1 p1 q
    refine ⟨b, e1, ?_⟩
    cases b with
    | true => exact ⟨ρ, G1, QD, u.step s1 r1, e2, fun b G2 v2 H2 q2 s2 r2 p2 => k _ _ _ _ q2 (s1.trans s2) r2 p2⟩
    | false => exact k _ _ _ _ e2 s1 r1 p1⟩
theorem d_or (ha : PE X a (lE X.K c ta')) (hb : PE X (.BoolOp .Or (b :: rest) pos) (lE X.K c tb')) : PE X (.BoolOp .Or (a :: b :: rest) pos) (lE X.K c (dOrV ta' tb')) :=
  PE_imp (pe_orT ha hb) fun σ H Q ⟨ρ, G, QD, u, h, k⟩ => ⟨ρ, G, _, u, h, fun d G1 v H1 q s1 r1 p1 => by
    obtain ⟨b, e1, e2⟩ := tru_rep (k := fun b => if b = true then QD d G1 else tb' ρ G1 QD) r1 p1 q
    refine ⟨b, e1, ?_⟩
    cases b with
    | false => exact ⟨ρ, G1, QD, u.step s1 r1, e2, fun b G2 v2 H2 q2 s2 r2 p2 => k _ _ _ _ q2 (s1.trans s2) r2 p2⟩
    | true => exact k _ _ _ _ e2 s1 r1 p1⟩
theorem d_not (ha : PE X a (lE X.K c ta')) : PE X (.UnaryOp .Not a pos) (lE X.K c (dNotV ta')) :=
  PE_imp (pe_notT ha) fun σ H Q ⟨ρ, G, QD, u, h, k⟩ => ⟨ρ, G, _, u, h, fun d G1 v H1 q s1 r1 p1 => by
    obtain ⟨b, e1, e2⟩ := tru_rep (k := fun b => QD (.bl (!b)) G1) r1 p1 q
    exact ⟨b, e1, k _ _ _ _ e2 s1 r1 (.bl _)⟩⟩
def dIf (t : DT) (u w : DE) : DE := fun ρ G Q => t ρ G fun c G1 => if c = true then u ρ G1 Q else w ρ G1 Q
theorem d_ifExp {cnd : Expr} (hc : PT X cnd (lT X.K c tA)) (ha : PE X a (lE X.K c ta')) (hb : PE X b (lE X.K c tb')) : PE X (.IfExp cnd a b pos) (lE X.K c (dIf tA ta' tb')) :=
  PE_imp (pe_ifExp hc ha hb) fun σ H Q ⟨ρ, G, QD, u, h, k⟩ => ⟨ρ, G, _, u, h, fun d G1 H1 q s1 r1 => by
    cases d with
    | true => exact ⟨ρ, G1, QD, u.step s1 r1, q, fun b G2 v2 H2 q2 s2 r2 p2 => k _ _ _ _ q2 (s1.trans s2) r2 p2⟩
    | false => exact ⟨ρ, G1, QD, u.step s1 r1, q, fun b G2 v2 H2 q2 s2 r2 p2 => k _ _ _ _ q2 (s1.trans s2) r2 p2⟩⟩
/-- a - sign -/
def uNeg : D → DK → GH → Prop := fun d Q G => match d with
  | .int i => Q (.int (-i)) G
  | _ => False
def dNeg (t : DE) : DE := fun ρ G Q => t ρ G fun d G1 => uNeg d Q G1
theorem d_neg (ha : PE X a (lE X.K c ta')) : PE X (.UnaryOp .USub a pos) (lE X.K c (dNeg ta')) :=
  PE_imp (pe_un un_neg ha) fun σ H Q ⟨ρ, G, QD, u, h, k⟩ => ⟨ρ, G, _, u, h, fun d G1 v H1 q s1 r1 p1 => by
    cases p1 with
    | int i => exact ⟨i, rfl, k _ _ _ _ q s1 r1 (.int _)⟩
    | _ => exact (show False from q).elim⟩

/-! ### calls of what the model brings -/
def dCB (r : List D → GH → DK → Prop) (t : DA) : DE := fun ρ G Q => t ρ G fun ds G1 => r ds G1 Q
def lCR (K : PySem.W.Frag) (P : Addr → Prop) (r : List D → GH → DK → Prop) : List V → Hp → VK → Prop := fun vs H Q => ∃ ds G QD, Rl K P G H ∧ RepL K P G H vs ds ∧ r ds G QD ∧ ∀ d' G' v H', QD d' G' → Step G H G' H' → Rl K P G' H' → Rep K P G' H' v d' → Q v H'
def CallD (X : Cx) (f : Value) (r : List D → GH → DK → Prop) : Prop := ∀ P, CallR X f (lCR X.K P r)
theorem cb_imp {K : PySem.W.Frag} {r : List D → GH → DK → Prop} {t : DA} {σ : L2.St} {H : Hp} {Q : VK} (h : lE K c (dCB r t) σ H Q) : tCB (lCR K c.P r) (lA K c t) σ H Q := by
  obtain ⟨ρ, G, QD, u, h, k⟩ := h
  exact ⟨ρ, G, _, u, h, fun ds G1 vs H1 q s1 r1 p1 => ⟨ds, G1, QD, r1, p1, q, fun d' G' v H' q2 s2 r2 p2 => k _ _ _ _ q2 (s1.trans s2) r2 p2⟩⟩
variable {x : Str} {p : Pos} {id T : String} {r : List D → GH → DK → Prop} {t : DA}
theorem d_callB (hc : CallD X (.builtin id) r) (hg : Gl X x) (hm : X.mg x = none) (hv : bootBuiltins x = some (.builtin id)) (ha : PA X (e :: es) (lA X.K c t)) (hn : x ≠ "__name__" := by decide) (hdb : (x == ("__debug__" : Str)) = false := by decide)
    (he : starEach (e :: es) X.env = (false, eval e X.env) :: starEach es X.env := by rfl) (hpl : (backTo pos (starEach es X.env)).any (·.1) = false := by rfl) : PE X (.Call (.Name x p) (e :: es) [] pos) (lE X.K c (dCB r t)) :=
  PE_imp (pe_callB (hc c.P) hg hm hv ha hn hdb he hpl) fun _ _ _ h => cb_imp h
theorem d_callTy (hc : CallD X (.type T) r) (hg : Gl X x) (hm : X.mg x = none) (hv : bootBuiltins x = some (.type T)) (ha : PA X (e :: es) (lA X.K c t)) (hn : x ≠ "__name__" := by decide) (hdb : (x == ("__debug__" : Str)) = false := by decide)
    (he : starEach (e :: es) X.env = (false, eval e X.env) :: starEach es X.env := by rfl) (hpl : (backTo pos (starEach es X.env)).any (·.1) = false := by rfl) : PE X (.Call (.Name x p) (e :: es) [] pos) (lE X.K c (dCB r t)) :=
  PE_imp (pe_callTy (hc c.P) hg hm hv ha hn hdb he hpl) fun _ _ _ h => cb_imp h

/-! ### items, slices -/
def lIx (K : PySem.W.Frag) (P : Addr → Prop) (r : R2D) : R2 := lR2 K P r
def IxD (X : Cx) (r : R2D) : Prop := ∀ P, IxR X (lR2 X.K P r)
theorem d_ix {r : R2D} (hr : IxD X r) (ha : PE X a (lE X.K c ta')) (hb : PE X b (lE X.K c tb')) (hs : PlainIx b := by exact fun _ _ => rfl) : PE X (.Subscript a b pos) (lE X.K c (dOp r ta' tb')) :=
  PE_imp (pe_ix (hr c.P) ha hb hs) fun _ _ _ h => op_imp h rfl
/-- a part of a slice -/
abbrev DO := DSt → GH → (Option Int → GH → Prop) → Prop
def lO (K : PySem.W.Frag) (c : DC) (t : DO) : TO := fun σ H Q => ∃ ρ G QD, Cur K c σ H ρ G ∧ t ρ G QD ∧ ∀ o G' H', QD o G' → Step G H G' H' → Rl K c.P G' H' → Q o H'
def dNoPart : DO := fun _ G Q => Q none G
def dPart (t : DE) : DO := fun ρ G Q => t ρ G fun d G1 => match d with
  | .int i => Q (some i) G1
  | _ => False
theorem do_none : PO X none (lO X.K c dNoPart) := ⟨fun pins s σ H Q I ⟨ρ, G, QD, u, h, k⟩ => po_none.run pins s σ H Q I (k _ _ _ h (Step.refl _ _) u.rl)⟩
theorem do_some (h : PE X e (lE X.K c te)) : PO X (some e) (lO X.K c (dPart te)) := ⟨fun pins s σ H Q I ⟨ρ, G, QD, u, q, k⟩ => (po_some h).run pins s σ H Q I ⟨ρ, G, _, u, q, fun d G1 v H1 q1 s1 r1 p1 => by
  cases p1 with
  | int i => exact ⟨i, rfl, k _ _ _ q1 s1 r1⟩
  | _ => exact (show False from q1).elim⟩⟩
abbrev RSl := D → Option Int → Option Int → GH → DK → Prop
def lSl (K : PySem.W.Frag) (P : Addr → Prop) (r : RSl) : V → Option Int → Option Int → Hp → VK → Prop := fun x lo hi H Q => ∃ d G QD, Rl K P G H ∧ Rep K P G H x d ∧ r d lo hi G QD ∧ ∀ d' G' v H', QD d' G' → Step G H G' H' → Rl K P G' H' → Rep K P G' H' v d' → Q v H'
def SlD (X : Cx) (r : RSl) : Prop := ∀ P, SlR X (lSl X.K P r)
def dSl (r : RSl) (te : DE) (tl th : DO) : DE := fun ρ G Q => te ρ G fun d G1 => tl ρ G1 fun l G2 => th ρ G2 fun u G3 => r d l u G3 Q
theorem d_slice {r : RSl} {lo hi : Option Expr} {tl th : DO} {p2 : Pos} (hr : SlD X r) (he : PE X e (lE X.K c te)) (hl : PO X lo (lO X.K c tl)) (hu : PO X hi (lO X.K c th)) : PE X (.Subscript e (.Slice lo hi none p2) pos) (lE X.K c (dSl r te tl th)) :=
  PE_imp (pe_slice (hr c.P) he hl hu) fun σ H Q ⟨ρ, G, QD, u, h, k⟩ => ⟨ρ, G, _, u, h, fun d G1 v H1 q1 s1 r1 p1 => ⟨ρ, G1, _, u.step s1 r1, q1, fun l G2 H2 q2 s2 r2 => ⟨ρ, G2, _, (u.step s1 r1).step s2 r2, q2, fun w G3 H3 q3 s3 r3 =>
    ⟨d, G3, QD, r3, p1.mono r1 (s2.trans s3), q3, fun d' G' v' H' q4 s4 r4 p4 => k _ _ _ _ q4 (s1.trans (s2.trans (s3.trans s4))) r4 p4⟩⟩⟩⟩
end
end DL

end

section
set_option Elab.async false
set_option linter.all false
set_option maxRecDepth 100000
set_option maxHeartbeats 1000000
namespace DL
open PySem PySem.Spec PyProof.Rows L2

/-! ## targets -/
inductive Tg where
  | name (i : Nat)
  | tup (ts : List Tg)
mutual
def setT : Tg → D → DSt → (DSt → Prop) → Prop
  | .name i, d, ρ, k => k (ρ.set i (some d))
  | .tup ts, d, ρ, k => match d with
    | .tup ds => setTs ts ds ρ k
    | _ => False
def setTs : List Tg → List D → DSt → (DSt → Prop) → Prop
  | [], [], ρ, k => k ρ
  | t :: ts, d :: ds, ρ, k => setT t d ρ fun ρ1 => setTs ts ds ρ1 k
  | _, _, _, _ => False
end
mutual
def Tg.slots : Tg → List Nat
  | .name i => [i]
  | .tup ts => slotsL ts
def slotsL : List Tg → List Nat
  | [] => []
  | t :: ts => t.slots ++ slotsL ts
end
theorem setTs_len : ∀ {ts : List Tg} {ds : List D} {ρ : DSt} {k : DSt → Prop}, setTs ts ds ρ k → (∀ t d ρ (k : DSt → Prop), setT t d ρ k → ∃ ρ', k ρ') → ts.length = ds.length
  | [], [], _, _, _, _ => rfl
  | t :: ts, d :: ds, ρ, k, h, f => by
    have h : setT t d ρ fun ρ1 => setTs ts ds ρ1 k := by simpa [setTs] using h
    obtain ⟨ρ', h'⟩ := f _ _ _ _ h
    exact congrArg (· + 1) (setTs_len h' f)
  | [], _ :: _, _, _, h, _ => by simp [setTs] at h
  | _ :: _, [], _, _, h, _ => by simp [setTs] at h
mutual
theorem setT_ex : ∀ (t : Tg) (d : D) (ρ : DSt) (k : DSt → Prop), setT t d ρ k → ∃ ρ', k ρ'
  | .name i, d, ρ, k, h => ⟨_, by simpa [setT] using h⟩
  | .tup ts, d, ρ, k, h => by
    cases d with
    | tup ds => exact setTs_ex ts ds ρ k (by simpa [setT] using h)
    | _ => simp [setT] at h
theorem setTs_ex : ∀ (ts : List Tg) (ds : List D) (ρ : DSt) (k : DSt → Prop), setTs ts ds ρ k → ∃ ρ', k ρ'
  | [], [], ρ, k, h => ⟨ρ, by simpa [setTs] using h⟩
  | t :: ts, d :: ds, ρ, k, h => by
    have h : setT t d ρ fun ρ1 => setTs ts ds ρ1 k := by simpa [setTs] using h
    obtain ⟨ρ', h'⟩ := setT_ex t d ρ _ h
    exact setTs_ex ts ds ρ' k h'
  | [], _ :: _, _, _, h => by simp [setTs] at h
  | _ :: _, [], _, _, h => by simp [setTs] at h
end
theorem wipe_set {v : Option V} : ∀ {vs : List Nat} {σ : L2.St} {i : Nat}, i ∈ vs → wipe (σ.set i v) vs = wipe σ vs
  | [], _, _, h => absurd h (by simp)
  | j :: vs, σ, i, h => by
    unfold wipe
    by_cases q : i ∈ vs
    · rw [wipe_set q]
    · have e : i = j := by
        rcases List.mem_cons.mp h with z | z
        · exact z
        · exact absurd z q
      subst e
      apply List.ext_getElem?
      intro n
      have gen : ∀ (ws : List Nat) (τ : L2.St), i ∉ ws → wipe (τ.set i v) ws = (wipe τ ws).set i v := by
        intro ws
        induction ws with
        | nil => intro τ _; rfl
        | cons w ws ih =>
          intro τ hn
          have h1 : i ≠ w := fun z => hn (by simp [z])
          have h2 : i ∉ ws := fun z => hn (by simp [z])
          unfold wipe
          rw [ih τ h2, List.set_comm _ _ h1]
      rw [gen vs σ q, List.set_set]
def lG (K : PySem.W.Frag) (c : DC) (tg : Tg) : TG := fun v σ H Q => ∃ d ρ G QD, Cur K c σ H ρ G ∧ Rep K c.P G H v d ∧ setT tg d ρ QD ∧
  ∀ ρ' σ', QD ρ' → Cur K c σ' H ρ' G → (∀ vs, (∀ i ∈ tg.slots, i ∈ vs) → wipe σ' vs = wipe σ vs) → Q σ' H
def lGs (K : PySem.W.Frag) (c : DC) (ts : List Tg) : TGs := fun vs σ H Q => ∃ ds ρ G QD, Cur K c σ H ρ G ∧ RepL K c.P G H vs ds ∧ setTs ts ds ρ QD ∧
  ∀ ρ' σ', QD ρ' → Cur K c σ' H ρ' G → (∀ vs, (∀ i ∈ slotsL ts, i ∈ vs) → wipe σ' vs = wipe σ vs) → Q σ' H
theorem PG_imp {X : Cx} {e : Expr} {t t' : TG} (h : PG X e t) (i : ∀ v σ H Q, t' v σ H Q → t v σ H Q) : PG X e t' := ⟨fun pins s σ H v u Q I r q => h.run pins s σ H v u Q I r (i _ _ _ _ q)⟩
theorem PGs_imp {X : Cx} {e : List Expr} {t t' : TGs} (h : PGs X e t) (i : ∀ v σ H Q, t' v σ H Q → t v σ H Q) : PGs X e t' := ⟨fun pins s σ H v u Q I r q => h.run pins s σ H v u Q I r (i _ _ _ _ q)⟩
theorem Cur.set {K : PySem.W.Frag} {c : DC} {σ : L2.St} {H : Hp} {ρ : DSt} {G : GH} {v : V} {d : D} (u : Cur K c σ H ρ G) (r : Rep K c.P G H v d) (i : Nat) : Cur K c (σ.set i (some v)) H (ρ.set i (some d)) G := ⟨u.rl, u.st, u.env.set r i⟩
section
variable {X : Cx} {c : DC}
theorem g_name {i : Nat} {x : Str} {pos : Pos} (hN : X.N.Nodup) (hi : X.N[i]? = some x := by rfl) (hx : Loc X.env.scope x := by first | exact Or.inl rfl | exact Or.inr rfl) (hf : X.fn x = true ∨ X.env.scope.names.lookup x = some .local := by first | exact .inl rfl | exact .inr rfl) : PG X (.Name x pos) (lG X.K c (.name i)) :=
  PG_imp (pg_name hN hi hx hf) fun v σ H Q ⟨d, ρ, G, QD, u, r, h, k⟩ => k _ _ (by simpa [setT] using h) (u.set r i) fun vs hv => wipe_set (hv i (by simp [Tg.slots]))
theorem gs_nil : PGs X [] (lGs X.K c []) := PGs_imp pgs_nil fun v σ H Q ⟨ds, ρ, G, QD, u, r, h, k⟩ => by
  cases r with
  | nil => exact ⟨rfl, k _ _ (by simpa [setTs] using h) u fun _ _ => rfl⟩
  | cons _ _ => simp [setTs] at h
theorem gs_cons {e : Expr} {es : List Expr} {t : Tg} {ts : List Tg} (h1 : PG X e (lG X.K c t)) (h2 : PGs X es (lGs X.K c ts)) (hs : (assignEach (e :: es) X.env).map (·.2) = assign e X.env :: (assignEach es X.env).map (·.2) := by rfl) :
    PGs X (e :: es) (lGs X.K c (t :: ts)) := PGs_imp (pgs_cons h1 h2 hs) fun v σ H Q ⟨ds, ρ, G, QD, u, r, h, k⟩ => by
  cases r with
  | nil => simp [setTs] at h
  | cons r rs =>
    refine ⟨_, _, rfl, _, ρ, G, _, u, r, (by simpa only [setTs] using h), fun ρ1 σ1 q1 u1 w1 => ⟨_, ρ1, G, QD, u1, rs, q1, fun ρ2 σ2 q2 u2 w2 => k _ _ q2 u2 fun vs hv => ?_⟩⟩
    rw [w2 vs fun i hi => hv i (by unfold slotsL; exact List.mem_append_right _ hi), w1 vs fun i hi => hv i (by unfold slotsL; exact List.mem_append_left _ hi)]
theorem g_tup {es : List Expr} {k : Nat} {ts : List Tg} {pos : Pos} (hc : X.calm = true) (h : PGs X es (lGs X.K c ts)) (hn : (assignEach es X.env).length = ts.length := by rfl) (hst : (assignEach es X.env).findIdx? (·.1) = none := by rfl) :
    PG X (.Tuple es k pos) (lG X.K c (.tup ts)) := PG_imp (pg_tup hc h hn hst) fun v σ H Q ⟨d, ρ, G, QD, u, r, h, kk⟩ => by
  cases r with
  | tup hq rs =>
    rename_i _ aa dd _
    have h : setTs ts dd ρ QD := by simpa only [setT] using h
    exact ⟨_, _, rfl, hq, by rw [rs.length, setTs_len h setT_ex], _, ρ, G, QD, u, rs, h, fun ρ' σ' q u' w => kk _ _ q u' fun vs hv => w vs fun i hi => hv i (by unfold Tg.slots; exact hi)⟩
  | _ => simp [setT] at h

/-! ## statements -/
def dNext : DS := fun D ρ G => D.nx ρ G
def dSeq (t u : DS) : DS := fun D ρ G => t { D with nx := u D } ρ G
def dBreak : DS := fun D ρ G => D.bk ρ G
def dCont : DS := fun D ρ G => D.ct ρ G
def dRet (te : DE) : DS := fun D ρ G => te ρ G D.rt
def dRetN : DS := fun D _ G => D.rt .non G
def dDrop (te : DE) : DS := fun D ρ G => te ρ G fun _ G1 => D.nx ρ G1
def dIfS (t : DT) (u w : DS) : DS := fun D ρ G => t ρ G fun c G1 => if c = true then u D ρ G1 else w D ρ G1
def dAsg (te : DE) (tg : Tg) : DS := fun D ρ G => te ρ G fun d G1 => setT tg d ρ fun ρ1 => D.nx ρ1 G1
variable {st : Stmt} {rest : List Stmt} {t u : DS} {e : Expr} {te : DE} {pos : Pos}
theorem EndsOk.later {K : PySem.W.Frag} {G0 G1 : GH} {H0 H1 : Hp} {D : DEnds} {E : Ends} (k : EndsOk K c G0 H0 D E) (s : Step G0 H0 G1 H1) : EndsOk K c G1 H1 D E :=
  ⟨fun ρ G σ H q z u => k.nx ρ G σ H q (s.trans z) u, fun d G v H q z r p => k.rt d G v H q (s.trans z) r p, fun ρ G σ H q z u => k.bk ρ G σ H q (s.trans z) u, fun ρ G σ H q z u => k.ct ρ G σ H q (s.trans z) u⟩
theorem dss_nil : PSs X [] (lS X.K c dNext) := PSs_imp pss_nil fun E σ H ⟨ρ, G, D, u, h, k⟩ => k.nx _ _ _ _ h (Step.refl _ _) u
theorem dss_one (h1 : PS X st (lS X.K c t)) : PSs X [st] (lS X.K c t) := pss_one h1
theorem dss_cons (h1 : PS X st (lS X.K c t)) (h2 : PSs X rest (lS X.K c u)) : PSs X (st :: rest) (lS X.K c (dSeq t u)) :=
  PSs_imp (pss_cons h1 h2) fun E σ H ⟨ρ, G, D, w, h, k⟩ => ⟨ρ, G, _, w, h, ⟨fun ρ1 G1 σ1 H1 q s u1 => ⟨ρ1, G1, D, u1, q, k.later s⟩, k.rt, k.bk, k.ct⟩⟩
theorem ds_pass : PS X (.Pass pos) (lS X.K c dNext) := PS_imp ps_pass fun E σ H ⟨ρ, G, D, u, h, k⟩ => k.nx _ _ _ _ h (Step.refl _ _) u
theorem ds_break : PS X (.Break pos) (lS X.K c dBreak) := PS_imp ps_break fun E σ H ⟨ρ, G, D, u, h, k⟩ => k.bk _ _ _ _ h (Step.refl _ _) u
theorem ds_cont : PS X (.Continue pos) (lS X.K c dCont) := PS_imp ps_continue fun E σ H ⟨ρ, G, D, u, h, k⟩ => k.ct _ _ _ _ h (Step.refl _ _) u
theorem ds_ret (he : PE X e (lE X.K c te)) : PS X (.Return (some e) pos) (lS X.K c (dRet te)) :=
  PS_imp (ps_ret he) fun E σ H ⟨ρ, G, D, u, h, k⟩ => ⟨ρ, G, _, u, h, fun d G1 v H1 q s r p => k.rt _ _ _ _ q s r p⟩
theorem ds_retN : PS X (.Return none pos) (lS X.K c dRetN) := PS_imp ps_retN fun E σ H ⟨ρ, G, D, u, h, k⟩ => k.rt _ _ _ _ h (Step.refl _ _) u.rl .non
theorem ds_expr (he : PE X e (lE X.K c te)) (hs : swapsWith e none pos.line X.env = pure false := by rfl) : PS X (.Expr e pos) (lS X.K c (dDrop te)) :=
  PS_imp (ps_expr he hs) fun E σ H ⟨ρ, G, D, u, h, k⟩ => ⟨ρ, G, _, u, h, fun d G1 v H1 q s r p => k.nx _ _ _ _ q s (u.step s r)⟩
theorem ds_if {cnd : Expr} {a b : List Stmt} {tc : DT} {t u : DS} (hc : PT X cnd (lT X.K c tc)) (ha : PSs X a (lS X.K c t)) (hb : PSs X b (lS X.K c u)) : PS X (.If cnd a b pos) (lS X.K c (dIfS tc t u)) :=
  PS_imp (ps_if hc ha hb) fun E σ H ⟨ρ, G, D, w, h, k⟩ => ⟨ρ, G, _, w, h, fun d G1 H1 q s r => by
    cases d with
    | true => exact ⟨ρ, G1, D, w.step s r, q, k.later s⟩
    | false => exact ⟨ρ, G1, D, w.step s r, q, k.later s⟩⟩
theorem asg_imp {K : PySem.W.Frag} {te : DE} {tg : Tg} {E : Ends} {σ : L2.St} {H : Hp} (h : lS K c (dAsg te tg) E σ H) : tAsg (lE K c te) (lG K c tg) E σ H := by
  obtain ⟨ρ, G, D, u, h, k⟩ := h
  exact ⟨ρ, G, _, u, h, fun d G1 v H1 q s r p => ⟨d, ρ, G1, _, u.step s r, p, q, fun ρ' σ' q2 u2 _ => k.nx _ _ _ _ q2 s u2⟩⟩
theorem ds_asg {tg : Expr} {g : Tg} (he : PE X e (lE X.K c te)) (hg : PG X tg (lG X.K c g)) (hs : swapsWithSole [tg] e pos.line X.env = pure false := by rfl) (hw : swappedStores [tg] e X.env = pure none := by rfl)
    (h1 : (assignEach [tg] X.env).map (·.2) = [assign tg X.env] := by rfl) : PS X (.Assign [tg] e pos) (lS X.K c (dAsg te g)) :=
  PS_imp (ps_asg he hg hs hw h1) fun _ _ _ h => asg_imp h
theorem ds_set {i : Nat} {x : Str} {pos' : Pos} (hN : X.N.Nodup) (he : PE X e (lE X.K c te)) (hi : X.N[i]? = some x := by rfl) (hx : Loc X.env.scope x := by first | exact Or.inl rfl | exact Or.inr rfl) (hs : swapsWith e (some (.Name x pos')) pos.line X.env = pure false := by rfl) (hf : X.fn x = true ∨ X.env.scope.names.lookup x = some .local := by first | exact .inl rfl | exact .inr rfl) :
    PS X (.Assign [.Name x pos'] e pos) (lS X.K c (dAsg te (.name i))) :=
  PS_imp (ps_set hN hi hx he hs hf) fun E σ H ⟨ρ, G, D, u, h, k⟩ => ⟨ρ, G, _, u, h, fun d G1 v H1 q s r p => k.nx _ _ _ _ (show D.nx (ρ.set i (some d)) G1 from by simpa only [setT] using q) s ((u.step s r).set p i)⟩
/-- a, b = x, y; three -/
def dPar2 (i j : Nat) (ta : DA) : DS := fun D ρ G => ta ρ G fun ds G1 => match ds with
  | [a, b] => D.nx ((ρ.set i (some a)).set j (some b)) G1
  | _ => False
def dPar3 (i j l : Nat) (ta : DA) : DS := fun D ρ G => ta ρ G fun ds G1 => match ds with
  | [a, b, d] => D.nx (((ρ.set i (some a)).set j (some b)).set l (some d)) G1
  | _ => False
theorem ds_par {i j : Nat} {x y : Str} {a b : Expr} {ta : DA} {px py pt : Pos} {kt k2 pt2} (hc : X.calm = true) (hN : X.N.Nodup) (ha : PA X [a, b] (lA X.K c ta)) (hi : X.N[i]? = some x := by rfl) (hj : X.N[j]? = some y := by rfl) (hij : i ≠ j := by decide)
    (hx : X.env.scope.names.lookup x = some .local := by rfl) (hy : X.env.scope.names.lookup y = some .local := by rfl)
    (hw : swappedStores [.Tuple [.Name x px, .Name y py] kt pt] (.Tuple [a, b] k2 pt2) X.env = pure (some [x, y]) := by rfl)
    (hs : swapsWithSole [.Tuple [.Name x px, .Name y py] kt pt] (.Tuple [a, b] k2 pt2) pos.line X.env = pure false := by rfl) :
    PS X (.Assign [.Tuple [.Name x px, .Name y py] kt pt] (.Tuple [a, b] k2 pt2) pos) (lS X.K c (dPar2 i j ta)) :=
  PS_imp (ps_par hc hN hi hj hij hx hy ha hw hs) fun E σ H ⟨ρ, G, D, u, h, k⟩ => ⟨ρ, G, _, u, h, fun ds G1 vs H1 q s r p => by
    cases p with
    | nil => exact (show False from q).elim
    | cons p1 p => cases p with
      | nil => exact (show False from q).elim
      | cons p2 p => cases p with
        | cons _ _ => exact (show False from q).elim
        | nil => exact ⟨_, _, rfl, k.nx _ _ _ _ q s (((u.step s r).set p1 i).set p2 j)⟩⟩
theorem ds_par3 {i j l : Nat} {x y z : Str} {a b d : Expr} {ta : DA} {px py pz pt : Pos} {kt k2 pt2} (hc : X.calm = true) (hN : X.N.Nodup) (ha : PA X [a, b, d] (lA X.K c ta)) (hi : X.N[i]? = some x := by rfl) (hj : X.N[j]? = some y := by rfl) (hl : X.N[l]? = some z := by rfl) (hij : i ≠ j := by decide) (hil : i ≠ l := by decide) (hjl : j ≠ l := by decide)
    (hx : X.env.scope.names.lookup x = some .local := by rfl) (hy : X.env.scope.names.lookup y = some .local := by rfl) (hz : X.env.scope.names.lookup z = some .local := by rfl)
    (hw : swappedStores [.Tuple [.Name x px, .Name y py, .Name z pz] kt pt] (.Tuple [a, b, d] k2 pt2) X.env = pure (some [x, y, z]) := by rfl)
    (hs : swapsWithSole [.Tuple [.Name x px, .Name y py, .Name z pz] kt pt] (.Tuple [a, b, d] k2 pt2) pos.line X.env = pure false := by rfl) :
    PS X (.Assign [.Tuple [.Name x px, .Name y py, .Name z pz] kt pt] (.Tuple [a, b, d] k2 pt2) pos) (lS X.K c (dPar3 i j l ta)) :=
  PS_imp (ps_par3 hc hN hi hj hl hij hil hjl hx hy hz ha hw hs) fun E σ H ⟨ρ, G, D, u, h, k⟩ => ⟨ρ, G, _, u, h, fun ds G1 vs H1 q s r p => by
    cases p with
    | nil => exact (show False from q).elim
    | cons p1 p => cases p with
      | nil => exact (show False from q).elim
      | cons p2 p => cases p with
        | nil => exact (show False from q).elim
        | cons p3 p => cases p with
          | cons _ _ => exact (show False from q).elim
          | nil => exact ⟨_, _, _, rfl, k.nx _ _ _ _ q s ((((u.step s r).set p1 i).set p2 j).set p3 l)⟩⟩

/-! ### x op= e; o[i] = e -/
def lIp (K : PySem.W.Frag) (P : Addr → Prop) (r : R2D) : TIp := lR2 K P r
def IpD (X : Cx) (op : Operator) (r : R2D) : Prop := ∀ P, PIp X op (lR2 X.K P r)
def dAug (i : Nat) (r : R2D) (te : DE) : DS := fun D ρ G => match getS ρ i with
  | some x => te ρ G fun y G1 => r x y G1 fun z G2 => D.nx (ρ.set i (some z)) G2
  | none => False
theorem ds_aug {i : Nat} {x : Str} {op : Operator} {r : R2D} {pos' : Pos} (hN : X.N.Nodup) (ho : IpD X op r) (he : PE X e (lE X.K c te)) (hi : X.N[i]? = some x := by rfl) (hx : Loc X.env.scope x := by first | exact Or.inl rfl | exact Or.inr rfl) (hf : X.fn x = true ∨ X.env.scope.names.lookup x = some .local := by first | exact .inl rfl | exact .inr rfl) :
    PS X (.AugAssign (.Name x pos') op e pos) (lS X.K c (dAug i r te)) :=
  PS_imp (ps_aug hN hi hx he (ho c.P) hf) fun E σ H ⟨ρ, G, D, u, h, k⟩ => by
    unfold dAug at h
    split at h
    · rename_i d ed
      obtain ⟨v, h1, h2⟩ := u.env.get (getS_eq ed)
      exact ⟨v, h1, ρ, G, _, u, h, fun y G1 w H1 q s r p => ⟨d, y, G1, _, r, h2.mono u.rl s, p, q, fun z G2 v2 H2 q2 s2 r2 p2 => k.nx _ _ _ _ q2 (s.trans s2) (((u.step s r).step s2 r2).set p2 i)⟩⟩
    · exact h.elim
abbrev RSet := D → D → D → GH → (GH → Prop) → Prop
def lSet (K : PySem.W.Frag) (P : Addr → Prop) (r : RSet) : TSet := fun o i v H Q => ∃ d j e G QD, Rl K P G H ∧ Rep K P G H o d ∧ Rep K P G H i j ∧ Rep K P G H v e ∧ r d j e G QD ∧ ∀ G' H', QD G' → Step G H G' H' → Rl K P G' H' → Q H'
def SetD (X : Cx) (r : RSet) : Prop := ∀ P, PSet X (lSet X.K P r)
/-- o[i] = e: e, o, i, then the store -/
def dPut (r : RSet) (te to ti : DE) : DS := fun D ρ G => te ρ G fun e G1 => to ρ G1 fun o G2 => ti ρ G2 fun i G3 => r o i e G3 fun G4 => D.nx ρ G4
theorem ds_put {o i : Expr} {r : RSet} {to ti : DE} {ps : Pos} (hr : SetD X r) (he : PE X e (lE X.K c te)) (ho : PE X o (lE X.K c to)) (hi : PE X i (lE X.K c ti))
    (ha : ∀ v, assign (.Subscript o i ps) X.env v = (do
      let ov ← holding [v] (eval o X.env)
      let iv ← holding [v, ov] (eval i X.env)
      standAt ps
      holding [v, ov, iv] (setItem ov iv v)
      release [v, ov, iv] []) := by intro _; rfl)
    (hs : swapsWithSole [.Subscript o i ps] e pos.line X.env = pure false := by rfl) (hw : swappedStores [.Subscript o i ps] e X.env = pure none := by rfl)
    (h1 : (assignEach [.Subscript o i ps] X.env).map (·.2) = [assign (.Subscript o i ps) X.env] := by rfl) :
    PS X (.Assign [.Subscript o i ps] e pos) (lS X.K c (dPut r te to ti)) :=
  PS_imp (ps_asg he (pg_sub ho hi (hr c.P) ha) hs hw h1) fun E σ H ⟨ρ, G, D, u, h, k⟩ =>
    ⟨ρ, G, _, u, h, fun d G1 v H1 q s1 r1 p1 => ⟨ρ, G1, _, u.step s1 r1, q, fun d2 G2 v2 H2 q2 s2 r2 p2 => ⟨ρ, G2, _, (u.step s1 r1).step s2 r2, q2, fun d3 G3 v3 H3 q3 s3 r3 p3 =>
      ⟨d2, d3, d, G3, _, r3, p2.mono r2 s3, p3, p1.mono r1 (s2.trans s3), q3, fun G4 H4 q4 s4 r4 => k.nx _ _ _ _ q4 (s1.trans (s2.trans (s3.trans s4))) ((((u.step s1 r1).step s2 r2).step s3 r3).step s4 r4)⟩⟩⟩⟩

/-! ## loops -/
/-- the iterator J yields ds while gd holds -/
def ItOk (K : PySem.W.Frag) (P : Addr → Prop) (J : It) (ds : List D) (gd : GH → Prop) (G0 : GH) (H0 : Hp) : Prop :=
  ∀ P' : Addr → Prop, (∀ a, P a → P' a) → (∀ a, P' a → P a ∨ H0 a = none) → ∀ i G H, Step G0 H0 G H → Rl K P' G H → gd G →
    (i < ds.length → J.go i H ∧ ∀ x H', J.yld i H x H' → ∃ d, ds[i]? = some d ∧ Rep K P' G H' x d ∧ Step G H G H' ∧ Rl K P' G H') ∧ (ds.length ≤ i → J.stop i H)
abbrev DI := DSt → GH → (List D → (GH → Prop) → GH → Prop) → Prop
def lI (K : PySem.W.Frag) (c : DC) (ti : DI) : TI := fun σ H R => ∃ ρ G QD, Cur K c σ H ρ G ∧ ti ρ G QD ∧ ∀ ds gd G' H' J, QD ds gd G' → Step G H G' H' → Rl K c.P G' H' → ItOk K c.P J ds gd G' H' → R J H'
def loopD (gd : GH → Prop) (tg : Tg) (tb : DS) (E : DEnds) : List D → DSt → GH → Prop
  | [], ρ, G => gd G ∧ E.nx ρ G
  | d :: ds, ρ, G => gd G ∧ setT tg d ρ fun ρ1 => tb { E with nx := loopD gd tg tb E ds, ct := loopD gd tg tb E ds, bk := E.nx } ρ1 G
def dFor (ti : DI) (tg : Tg) (tb : DS) : DS := fun D ρ G => ti ρ G fun ds gd G1 => loopD gd tg tb D ds ρ G1
theorem ds_for {iter tgt : Expr} {body : List Stmt} {ti : DI} {g : Tg} {tb : DS} (hp : PassesOwn (model X.prog X.w) X.A X.env X.xe) (hc : X.calm = true) (hi : PI X tgt iter (lI X.K c ti)) (hg : PG X tgt (lG X.K c g)) (hb : PSs X body (lS X.K c tb))
    (hs : ∀ x, foldedSetIterable iter X.env x = pure x := by intro _; rfl) : PS X (.For tgt iter body [] pos) (lS X.K c (dFor ti g tb)) :=
  PS_imp (ps_for hp hc hi hg hb hs) fun E σ H ⟨ρ, G, D, u, h, k⟩ => ⟨ρ, G, _, u, h, fun ds gd G1 H1 J q s1 r1 it => by
    refine ⟨fun i m σ' H' => m = ds.length - i ∧ i ≤ ds.length ∧ ∃ ρ' G', Cur X.K c σ' H' ρ' G' ∧ Step G1 H1 G' H' ∧ loopD gd g tb D (ds.drop i) ρ' G', ⟨ds.length, by simp, Nat.zero_le _, ρ, G1, u.step s1 r1, Step.refl _ _, by simpa using q⟩, ?_⟩
    rintro i m σ' H' ⟨rfl, hi, ρ', G', u', s', q'⟩
    by_cases hlt : i < ds.length
    · have e : ds.drop i = ds[i] :: ds.drop (i + 1) := List.drop_eq_getElem_cons hlt
      rw [e] at q'
      obtain ⟨g1, q'⟩ : gd G' ∧ _ := q'
      obtain ⟨⟨go, yl⟩, _⟩ : (_ ∧ _) ∧ _ := ⟨(it c.P (fun _ z => z) (fun _ z => .inl z) i G' H' s' u'.rl g1).1 hlt, trivial⟩
      refine .inr ⟨go, fun σ2 H2 => ∃ ρ2 G2, Cur X.K c σ2 H2 ρ2 G2 ∧ Step G1 H1 G2 H2 ∧ loopD gd g tb D (ds.drop (i + 1)) ρ2 G2, fun σ2 H2 ⟨ρ2, G2, a, b, d⟩ => ⟨_, by omega, rfl, hlt, ρ2, G2, a, b, d⟩, fun x H2 y => ?_⟩
      obtain ⟨d, hd, rp, s2, r2⟩ := yl x H2 y
      rw [List.getElem?_eq_getElem hlt] at hd
      cases hd
      refine ⟨_, ρ', G', _, u'.step s2 r2, rp, q', fun ρ3 σ3 q3 u3 _ => ⟨ρ3, G', _, u3, q3, ⟨fun ρ4 G4 σ4 H4 q4 s4 u4 => ⟨ρ4, G4, u4, s'.trans (s2.trans s4), q4⟩, fun d G4 v H4 q4 s4 r4 p4 => k.rt _ _ _ _ q4 (s1.trans (s'.trans (s2.trans s4))) r4 p4, fun ρ4 G4 σ4 H4 q4 s4 u4 => k.nx _ _ _ _ q4 (s1.trans (s'.trans (s2.trans s4))) u4, fun ρ4 G4 σ4 H4 q4 s4 u4 => ⟨ρ4, G4, u4, s'.trans (s2.trans s4), q4⟩⟩⟩⟩
    · have e : ds.drop i = [] := List.drop_eq_nil_of_le (by omega)
      rw [e] at q'
      obtain ⟨g1, q'⟩ : gd G' ∧ _ := q'
      exact .inl ⟨(it c.P (fun _ z => z) (fun _ z => .inl z) i G' H' s' u'.rl g1).2 (by omega), k.nx _ _ _ _ q' (s1.trans s') u'⟩⟩
/-- while, by a word W and its measure -/
def dWhile (tc : DT) (tb : DS) : DS := fun D ρ G => ∃ W : Nat → DSt → GH → Prop, (∃ m, W m ρ G) ∧ ∀ m ρ G, W m ρ G →
  tc ρ G fun b G1 => if b = true then tb { D with nx := fun ρ' G' => ∃ m', m' < m ∧ W m' ρ' G', ct := fun ρ' G' => ∃ m', m' < m ∧ W m' ρ' G', bk := D.nx } ρ G1 else D.nx ρ G1
theorem ds_while {cnd : Expr} {body : List Stmt} {tc : DT} {tb : DS} (hp : PassesOwn (model X.prog X.w) X.A X.env X.xe) (hc : PT X cnd (lT X.K c tc)) (hb : PSs X body (lS X.K c tb)) : PS X (.While cnd body [] pos) (lS X.K c (dWhile tc tb)) :=
  PS_imp (ps_while hp hc hb) fun E σ H ⟨ρ, G, D, u, ⟨W, ⟨m0, w0⟩, turn⟩, k⟩ => by
    refine ⟨fun m σ' H' => ∃ ρ' G', Cur X.K c σ' H' ρ' G' ∧ Step G H G' H' ∧ W m ρ' G', ⟨m0, ρ, G, u, Step.refl _ _, w0⟩, ?_⟩
    rintro m σ' H' ⟨ρ', G', u', s', w'⟩
    refine ⟨ρ', G', _, u', turn m ρ' G' w', fun b G1 H1 q s1 r1 => ?_⟩
    cases b with
    | true =>
      refine ⟨fun σ2 H2 => ∃ ρ2 G2, Cur X.K c σ2 H2 ρ2 G2 ∧ Step G H G2 H2 ∧ ∃ m', m' < m ∧ W m' ρ2 G2, fun σ2 H2 ⟨ρ2, G2, a, b, m', hm, w2⟩ => ⟨m', hm, ρ2, G2, a, b, w2⟩, ρ', G1, _, u'.step s1 r1, q, ?_⟩
      exact ⟨fun ρ4 G4 σ4 H4 q4 s4 u4 => ⟨ρ4, G4, u4, s'.trans (s1.trans s4), q4⟩, fun d G4 v H4 q4 s4 r4 p4 => k.rt _ _ _ _ q4 (s'.trans (s1.trans s4)) r4 p4, fun ρ4 G4 σ4 H4 q4 s4 u4 => k.nx _ _ _ _ q4 (s'.trans (s1.trans s4)) u4, fun ρ4 G4 σ4 H4 q4 s4 u4 => ⟨ρ4, G4, u4, s'.trans (s1.trans s4), q4⟩⟩
    | false => exact k.nx _ _ _ _ q (s'.trans s1) (u'.step s1 r1)
end
end DL

end

section
set_option Elab.async false
set_option linter.all false
set_option maxRecDepth 100000
set_option maxHeartbeats 1000000
namespace DL
open PySem PySem.Spec PyProof.Rows L2

/-! ## comprehensions -/
def wipeD (ρ : DSt) : List Nat → DSt
  | [] => ρ
  | v :: vs => (wipeD ρ vs).set v none
def compD (gd : GH → Prop) (tg : Tg) (tt : DT) (te : DE) (ρ0 : DSt) (Q : List D → GH → Prop) : List D → List D → GH → Prop
  | [], acc, G => gd G ∧ Q acc G
  | d :: ds, acc, G => gd G ∧ setT tg d ρ0 fun ρ1 => tt ρ1 G fun b G1 => if b = true then te ρ1 G1 fun y G2 => acc.length < sizeLine ∧ compD gd tg tt te ρ0 Q ds (acc ++ [y]) G2 else compD gd tg tt te ρ0 Q ds acc G1
def dLc (ti : DI) (vs : List Nat) (tg : Tg) (tt : DT) (te : DE) : DE := fun ρ G Q => ti ρ G fun ds gd G1 => compD gd tg tt te (wipeD ρ vs) (fun acc G2 => Q (.lst acc) G2) ds [] G1
def dLcM (ti : DI) (vs : List Nat) (tg : Tg) (tt : DT) (te : DE) : DE := fun ρ G Q => ti ρ G fun ds gd G1 => compD gd tg tt te (wipeD ρ vs) (fun acc G2 => ∀ p, G2 p = none → Q (.ref p) (updG G2 p (.lst acc))) ds [] G1
def dYes : DT := fun _ G Q => Q true G
section
variable {K : PySem.W.Frag} {P : Addr → Prop} {G : GH} {H : Hp} {L : Addr}
mutual
/-- one address more is kept private -/
theorem Rep.priv (o : HO) (h : H L = none) : ∀ {v : V} {d : D}, Rep K P G H v d → Rep K (fun a => P a ∨ a = L) G (upd H L o) v d
  | _, _, .non => .non
  | _, _, .bl b => .bl b
  | _, _, .int i => .int i
  | _, _, .str x => .str x
  | _, _, .ty n => .ty n
  | _, _, .ref a => .ref a
  | _, _, .tup hq t => .tup (by
      rcases hq with (e | ⟨o', e⟩) | e
      · exact .inl (.inl (by rw [upd_ne (ne_of_none e h)]; exact e))
      · exact .inl (.inr ⟨o', by rw [upd_ne (ne_of_none e h)]; exact e⟩)
      · exact .inr e) (RepL.priv o h t)
  | _, _, .lst e g p t => .lst (by rw [upd_ne (ne_of_none e h)]; exact e) g (fun z => z.elim p (ne_of_none e h)) (RepL.priv o h t)
  | _, _, .frz hq t => .frz (by
      rcases hq with ⟨o', e⟩ | e
      · exact .inl ⟨o', by rw [upd_ne (ne_of_none e h)]; exact e⟩
      · exact .inr e) (RepL.priv o h t)
theorem RepL.priv (o : HO) (h : H L = none) : ∀ {v : List V} {d : List D}, RepL K P G H v d → RepL K (fun a => P a ∨ a = L) G (upd H L o) v d
  | _, _, .nil => .nil
  | _, _, .cons a t => .cons (Rep.priv o h a) (RepL.priv o h t)
end
mutual
/-- the private list is written -/
theorem Rep.privPut {acc acc' : List V} (p : P L) (h : H L = some (.lst acc)) : ∀ {v : V} {d : D}, Rep K P G H v d → Rep K P G (upd H L (.lst acc')) v d
  | _, _, .non => .non
  | _, _, .bl b => .bl b
  | _, _, .int i => .int i
  | _, _, .str x => .str x
  | _, _, .ty n => .ty n
  | _, _, .ref a => .ref a
  | _, _, .tup hq t => .tup (by
      rcases hq with (e | ⟨o', e⟩) | e
      · exact .inl (.inl (by rw [upd_ne (ne_of e h (by intro z; cases z))]; exact e))
      · exact .inl (.inr ⟨o', by rw [upd_ne (ne_of e h (by intro z; cases z))]; exact e⟩)
      · exact .inr e) (RepL.privPut p h t)
  | _, _, .lst e g q t => .lst (by rw [upd_ne (fun z => q (by rw [z]; exact p))]; exact e) g q (RepL.privPut p h t)
  | _, _, .frz hq t => .frz (by
      rcases hq with ⟨o', e⟩ | e
      · exact .inl ⟨o', by rw [upd_ne (ne_of e h (by intro z; cases z))]; exact e⟩
      · exact .inr e) (RepL.privPut p h t)
theorem RepL.privPut {acc acc' : List V} (p : P L) (h : H L = some (.lst acc)) : ∀ {v : List V} {d : List D}, RepL K P G H v d → RepL K P G (upd H L (.lst acc')) v d
  | _, _, .nil => .nil
  | _, _, .cons a t => .cons (Rep.privPut p h a) (RepL.privPut p h t)
end
mutual
/-- less is private, less may change -/
theorem Rep.sub {P' : Addr → Prop} {G' : GH} (hp : ∀ a, P a → P' a) (hg : ∀ a, ¬ P' a → G a = none → G' a = none) : ∀ {v : V} {d : D}, Rep K P' G H v d → Rep K P G' H v d
  | _, _, .non => .non
  | _, _, .bl b => .bl b
  | _, _, .int i => .int i
  | _, _, .str x => .str x
  | _, _, .ty n => .ty n
  | _, _, .ref a => .ref a
  | _, _, .tup hq t => .tup hq (RepL.sub hp hg t)
  | _, _, .lst e g q t => .lst e (hg _ q g) (fun z => q (hp _ z)) (RepL.sub hp hg t)
  | _, _, .frz hq t => .frz hq (RepL.sub hp hg t)
theorem RepL.sub {P' : Addr → Prop} {G' : GH} (hp : ∀ a, P a → P' a) (hg : ∀ a, ¬ P' a → G a = none → G' a = none) : ∀ {v : List V} {d : List D}, RepL K P' G H v d → RepL K P G' H v d
  | _, _, .nil => .nil
  | _, _, .cons a t => .cons (Rep.sub hp hg a) (RepL.sub hp hg t)
end
theorem RepF.sub {P' : Addr → Prop} {G' : GH} (hp : ∀ a, P a → P' a) (hg : ∀ a, ¬ P' a → G a = none → G' a = none) : ∀ {v : List (Str × V)} {d : List (Str × D)}, RepF K P' G H v d → RepF K P G' H v d
  | _, _, .nil => .nil
  | _, _, .cons a t => .cons (Rep.sub hp hg a) (RepF.sub hp hg t)
theorem RepF.priv (o : HO) (h : H L = none) : ∀ {v : List (Str × V)} {d : List (Str × D)}, RepF K P G H v d → RepF K (fun a => P a ∨ a = L) G (upd H L o) v d
  | _, _, .nil => .nil
  | _, _, .cons a t => .cons (Rep.priv o h a) (RepF.priv o h t)
theorem RepF.privPut {acc acc' : List V} (p : P L) (h : H L = some (.lst acc)) : ∀ {v : List (Str × V)} {d : List (Str × D)}, RepF K P G H v d → RepF K P G (upd H L (.lst acc')) v d
  | _, _, .nil => .nil
  | _, _, .cons a t => .cons (Rep.privPut p h a) (RepF.privPut p h t)
theorem RepO.priv (o : HO) (h : H L = none) : ∀ {v : Option V} {d : Option D}, RepO K P G H v d → RepO K (fun a => P a ∨ a = L) G (upd H L o) v d
  | some _, some _, x => Rep.priv o h x
  | none, none, _ => trivial
  | some _, none, _ => trivial
  | none, some _, x => x.elim
theorem RepS.priv (o : HO) (h : H L = none) : ∀ {v : L2.St} {d : DSt}, RepS K P G H v d → RepS K (fun a => P a ∨ a = L) G (upd H L o) v d
  | _, _, .nil => .nil
  | _, _, .cons a t => .cons (RepO.priv o h a) (RepS.priv o h t)
theorem RepO.privPut {acc acc' : List V} (p : P L) (h : H L = some (.lst acc)) : ∀ {v : Option V} {d : Option D}, RepO K P G H v d → RepO K P G (upd H L (.lst acc')) v d
  | some _, some _, x => Rep.privPut p h x
  | none, none, _ => trivial
  | some _, none, _ => trivial
  | none, some _, x => x.elim
theorem RepS.privPut {acc acc' : List V} (p : P L) (h : H L = some (.lst acc)) : ∀ {v : L2.St} {d : DSt}, RepS K P G H v d → RepS K P G (upd H L (.lst acc')) v d
  | _, _, .nil => .nil
  | _, _, .cons a t => .cons (RepO.privPut p h a) (RepS.privPut p h t)
theorem RepS.wipe {v : L2.St} {d : DSt} (r : RepS K P G H v d) : ∀ vs : List Nat, RepS K P G H (L2.wipe v vs) (wipeD d vs)
  | [] => r
  | i :: vs => (RepS.wipe r vs).forget i
theorem Rl.priv (r : Rl K P G H) (h : H L = none) : Rl K (fun a => P a ∨ a = L) G (upd H L (.lst [])) where
  h := fun a g e => by
    have q := r.h a g e
    have k : ∀ b o, H b = some o → upd H L (.lst []) b = some o := fun b o z => by rw [upd_ne (ne_of_none z h)]; exact z
    cases g with
    | lst ds => obtain ⟨xs, e, t⟩ := q; exact ⟨xs, k _ _ e, t.priv _ h⟩
    | ins C fs => obtain ⟨dx, gs, e, t⟩ := q; exact ⟨dx, gs, k _ _ e, t.priv _ h⟩
    | tab q' => exact tabS_ext q (fun o => k _ o) fun b q => k _ _
    | dicK kvs => obtain ⟨ws, e, e2, t⟩ := q; exact ⟨ws, k _ _ e, e2, t.priv _ h⟩
    | dicT kvs => obtain ⟨ws, e, e2, t⟩ := q; exact ⟨ws, k _ _ e, e2, t.priv _ h⟩
  p := fun a z => by
    rcases z with z | z
    · obtain ⟨g, xs, e⟩ := r.p a z
      exact ⟨g, xs, by rw [upd_ne (ne_of_none e h)]; exact e⟩
    · subst z
      exact ⟨r.free h, [], upd_same⟩
theorem Rl.privPut {acc acc' : List V} (r : Rl K P G H) (p : P L) (h : H L = some (.lst acc)) : Rl K P G (upd H L (.lst acc')) where
  h := fun a g e => by
    have q := r.h a g e
    have na : a ≠ L := fun z => by
      have := (r.p L p).1
      rw [z, this] at e; cases e
    have k : ∀ b o, (∀ xs, o ≠ .lst xs) → H b = some o → upd H L (.lst acc') b = some o := fun b o n z => by rw [upd_ne (ne_of z h (n _))]; exact z
    cases g with
    | lst ds => obtain ⟨xs, e, t⟩ := q; exact ⟨xs, by rw [upd_ne na]; exact e, t.privPut p h⟩
    | ins C fs => obtain ⟨dx, gs, e, t⟩ := q; exact ⟨dx, gs, by rw [upd_ne na]; exact e, t.privPut p h⟩
    | tab q' => exact tabS_ext q (fun o z => by rw [upd_ne na]; exact z) fun b q => k _ _ (by intro xs z; unfold LamX.CodeO at z; cases z)
    | dicK kvs => obtain ⟨ws, e, e2, t⟩ := q; exact ⟨ws, by rw [upd_ne na]; exact e, e2, t.privPut p h⟩
    | dicT kvs => obtain ⟨ws, e, e2, t⟩ := q; exact ⟨ws, by rw [upd_ne na]; exact e, e2, t.privPut p h⟩
  p := fun a z => by
    obtain ⟨g, xs, e⟩ := r.p a z
    by_cases q : a = L
    · subst q; exact ⟨g, acc', upd_same⟩
    · exact ⟨g, xs, by rw [upd_ne q]; exact e⟩
theorem Rl.pub {P' : Addr → Prop} (r : Rl K P' G H) (hp : ∀ a, P a → P' a) : Rl K P G H where
  h := fun a g e => by
    have q := r.h a g e
    cases g with
    | lst ds => obtain ⟨xs, e, t⟩ := q; exact ⟨xs, e, t.sub hp fun _ _ z => z⟩
    | ins C fs => obtain ⟨dx, gs, e, t⟩ := q; exact ⟨dx, gs, e, t.sub hp fun _ _ z => z⟩
    | tab q' => exact q
    | dicK kvs => obtain ⟨ws, e, e2, t⟩ := q; exact ⟨ws, e, e2, t.sub hp fun _ _ z => z⟩
    | dicT kvs => obtain ⟨ws, e, e2, t⟩ := q; exact ⟨ws, e, e2, t.sub hp fun _ _ z => z⟩
  p := fun a z => r.p a (hp a z)
theorem Rl.pubL {P' : Addr → Prop} {xs : List V} {ds : List D} (r : Rl K P' G H) (hp : ∀ a, P a → P' a) (hL : P' L) (nL : ¬ P L) (h : H L = some (.lst xs)) (t : RepL K P' G H xs ds) : Rl K P (updG G L (.lst ds)) H where
  h := fun a g e => by
    have hg : ∀ b, ¬ P' b → G b = none → updG G L (.lst ds) b = none := fun b n z => by rw [updG_ne (fun w => n (by rw [w]; exact hL))]; exact z
    by_cases q : a = L
    · subst q
      rw [updG_same] at e; cases e
      exact ⟨xs, h, t.sub hp hg⟩
    · rw [updG_ne q] at e
      have q := r.h a g e
      cases g with
      | lst ds => obtain ⟨xs, e, t⟩ := q; exact ⟨xs, e, t.sub hp hg⟩
      | ins C fs => obtain ⟨dx, gs, e, t⟩ := q; exact ⟨dx, gs, e, t.sub hp hg⟩
      | tab q' => exact q
      | dicK kvs => obtain ⟨ws, e, e2, t⟩ := q; exact ⟨ws, e, e2, t.sub hp hg⟩
      | dicT kvs => obtain ⟨ws, e, e2, t⟩ := q; exact ⟨ws, e, e2, t.sub hp hg⟩
  p := fun a z => ⟨by rw [updG_ne (fun w => nL (by rw [← w]; exact z))]; exact (r.p a (hp a z)).1, (r.p a (hp a z)).2⟩
end
theorem wipe_wipe (σ : L2.St) (vs : List Nat) : L2.wipe (L2.wipe σ vs) vs = L2.wipe σ vs := by
  have g : ∀ (ws : List Nat) (τ : L2.St) (i : Nat), (L2.wipe τ ws)[i]? = if i ∈ ws then (τ[i]?).map (fun _ => none) else τ[i]? := by
    intro ws
    induction ws with
    | nil => intro τ i; simp [L2.wipe]
    | cons w ws ih =>
      intro τ i
      unfold L2.wipe
      rw [List.getElem?_set]
      by_cases q : w = i
      · subst q
        by_cases hl : w < τ.length
        · simp [wipe_length, hl]
        · simp [wipe_length, hl]
      · have q' : ¬ i = w := fun z => q z.symm
        rw [if_neg q, ih τ i]
        by_cases m : i ∈ ws <;> simp [m, q']
  apply List.ext_getElem?
  intro i
  rw [g, g]
  by_cases m : i ∈ vs
  · simp only [if_pos m]
    cases σ[i]? <;> rfl
  · simp only [if_neg m]
def xG (K : PySem.W.Frag) (g : Tg) : TG := fun v σ H Q => ∃ c, lG K c g v σ H Q
def xT (K : PySem.W.Frag) (t : DT) : TT := fun σ H Q => ∃ c, lT K c t σ H Q
def xE (K : PySem.W.Frag) (t : DE) : TE := fun σ H Q => ∃ c, lE K c t σ H Q
section
variable {X : Cx} {c : DC}
theorem pg_ex {e : Expr} {g : Tg} (h : ∀ c, PG X e (lG X.K c g)) : PG X e (xG X.K g) := ⟨fun pins s σ H v u Q I r ⟨c, q⟩ => (h c).run pins s σ H v u Q I r q⟩
theorem pts_ex {e : List Expr} {t : DT} (h : ∀ c, PTs X e (lT X.K c t)) : PTs X e (xT X.K t) := ⟨fun pins s σ H Q I ⟨c, q⟩ => (h c).run pins s σ H Q I q⟩
theorem pe_ex {e : Expr} {t : DE} (h : ∀ c, PE X e (lE X.K c t)) : PE X e (xE X.K t) := ⟨fun pins s σ H Q I ⟨c, q⟩ => (h c).run pins s σ H Q I q⟩
theorem dts_nil : PTs X [] (lT X.K c dYes) := ⟨fun pins s σ H Q I ⟨ρ, G, QD, u, h, k⟩ => pts_nil.run pins s σ H Q I (k _ _ _ h (Step.refl _ _) u.rl)⟩
theorem dts_one {e : Expr} {t : DT} (h : PT X e (lT X.K c t)) : PTs X [e] (lT X.K c t) := pts_one h
theorem lc_imp {K : PySem.W.Frag} {ti : DI} {vs : List Nat} {g : Tg} {tt : DT} {te : DE} {fin : List D → GH → DK → Prop} {σ : L2.St} {H : Hp} {Q : VK} {ρ : DSt} {G : GH} {QD : DK} (hv : ∀ i ∈ g.slots, i ∈ vs)
    (u : Cur K c σ H ρ G) (h : ti ρ G fun ds gd G1 => compD gd g tt te (wipeD ρ vs) (fun acc G2 => fin acc G2 QD) ds [] G1) (k : ∀ d G' v H', QD d G' → Step G H G' H' → Rl K c.P G' H' → Rep K c.P G' H' v d → Q v H')
    (hf : ∀ (L : Addr) acc xs G1 H1 G2 H2, H1 L = none → ¬ c.P L → Rl K c.P G1 H1 → fin acc G2 QD → Step G1 H1 G2 H2 → Rl K (fun a => c.P a ∨ a = L) G2 H2 → H2 L = some (.lst xs) → RepL K (fun a => c.P a ∨ a = L) G2 H2 xs acc →
      ∃ d G3, QD d G3 ∧ Step G1 H1 G3 H2 ∧ Rl K c.P G3 H2 ∧ Rep K c.P G3 H2 (.ref L) d) :
    lI K c ti σ H fun J H1 => ∀ L, H1 L = none → ∃ W : Nat → Nat → Hp → Prop, (∃ m, W 0 m (upd H1 L (.lst []))) ∧ ∀ i m H, W i m H →
      (J.stop i H ∧ Q (.ref L) H) ∨ (J.go i H ∧ ∃ Nx : Hp → Prop, (∀ H', Nx H' → ∃ m', m' < m ∧ W (i + 1) m' H') ∧ ∀ x H', J.yld i H x H' → xG K g x (wipe σ vs) H' fun σ2 H2 => wipe σ2 vs = wipe σ vs ∧ xT K tt σ2 H2 fun b H3 =>
        if b = true then xE K te σ2 H3 fun y H4 => ∃ acc, H4 L = some (.lst acc) ∧ acc.length < sizeLine ∧ Nx (upd H4 L (.lst (acc ++ [y]))) else Nx H3) := by
  refine ⟨ρ, G, _, u, h, fun ds gd G1 H1 J q s1 r1 it L hL => ?_⟩
  have u1 := u.step s1 r1
  refine ⟨fun i m H' => m = ds.length - i ∧ i ≤ ds.length ∧ ∃ G' acc xs, Rl K (fun a => c.P a ∨ a = L) G' H' ∧ Step G1 H1 G' H' ∧ H' L = some (.lst xs) ∧ RepL K (fun a => c.P a ∨ a = L) G' H' xs acc ∧
    RepS K (fun a => c.P a ∨ a = L) G' H' (L2.wipe σ vs) (wipeD ρ vs) ∧ compD gd g tt te (wipeD ρ vs) (fun acc G2 => fin acc G2 QD) (ds.drop i) acc G', ?_, ?_⟩
  · exact ⟨_, rfl, Nat.zero_le _, G1, [], [], r1.priv hL, step_new hL, upd_same, .nil, (u1.env.wipe vs).priv _ hL, by simpa using q⟩
  rintro i m H' ⟨rfl, hi, G', acc, xs, r', s', hx, ra, rs, q'⟩
  have pub : ∀ a, (c.P a ∨ a = L) → c.P a ∨ H1 a = none := fun a z => z.elim .inl fun e => .inr (by rw [e]; exact hL)
  by_cases hlt : i < ds.length
  · have e : ds.drop i = ds[i] :: ds.drop (i + 1) := List.drop_eq_getElem_cons hlt
    rw [e] at q'
    obtain ⟨g1, q'⟩ : gd G' ∧ _ := q'
    obtain ⟨go, yl⟩ := (it _ (fun _ z => .inl z) pub i G' H' s' r' g1).1 hlt
    refine .inr ⟨go, fun H2 => ∃ G2 acc xs, Rl K (fun a => c.P a ∨ a = L) G2 H2 ∧ Step G1 H1 G2 H2 ∧ H2 L = some (.lst xs) ∧ RepL K (fun a => c.P a ∨ a = L) G2 H2 xs acc ∧
      RepS K (fun a => c.P a ∨ a = L) G2 H2 (L2.wipe σ vs) (wipeD ρ vs) ∧ compD gd g tt te (wipeD ρ vs) (fun acc G2 => fin acc G2 QD) (ds.drop (i + 1)) acc G2, fun H2 ⟨G2, a, x, h1, h2, h3, h4, h5, h6⟩ => ⟨_, by omega, rfl, hlt, G2, a, x, h1, h2, h3, h4, h5, h6⟩, fun x H2 y => ?_⟩
    obtain ⟨d, hd, rp, s2, r2⟩ := yl x H2 y
    rw [List.getElem?_eq_getElem hlt] at hd
    cases hd
    have pL : (fun a => c.P a ∨ a = L) L := .inr rfl
    have gL : G' L = none := (r'.p L pL).1
    refine ⟨⟨fun a => c.P a ∨ a = L, G', H'⟩, _, wipeD ρ vs, G', _, ⟨r2, s2, rs.mono r' s2⟩, rp, q', fun ρ3 σ3 q3 u3 w3 => ⟨?_, ⟨fun a => c.P a ∨ a = L, G', H'⟩, ρ3, G', _, u3, q3, fun b G4 H4 q4 s4 r4 => ?_⟩⟩
    · rw [w3 vs hv, wipe_wipe]
    · cases b with
      | false => exact ⟨G4, acc, xs, r4, s'.trans (s2.trans s4), ((s2.trans s4) L _ hx (fun z => z) gL).1, ra.mono r' (s2.trans s4), rs.mono r' (s2.trans s4), q4⟩
      | true =>
        refine ⟨⟨fun a => c.P a ∨ a = L, G', H'⟩, ρ3, G4, _, u3.step s4 r4, q4, fun z G5 w H5 ⟨ql, q5⟩ s5 r5 p5 => ?_⟩
        have s25 := s2.trans (s4.trans s5)
        have hx5 := (s25 L _ hx (fun z => z) gL).1
        refine ⟨xs, hx5, by rw [ra.length]; exact ql, G5, acc ++ [z], xs ++ [w], r5.privPut pL hx5, ?_, upd_same, RepL.append ((ra.mono r' s25).privPut pL hx5) (.cons (p5.privPut pL hx5) .nil), (rs.mono r' s25).privPut pL hx5, q5⟩
        intro a o ha n ga
        obtain ⟨e1, e2⟩ := (s'.trans s25) a o ha n ga
        exact ⟨by rw [upd_ne (ne_of_none ha hL)]; exact e1, e2⟩
  · have e : ds.drop i = [] := List.drop_eq_nil_of_le (by omega)
    rw [e] at q'
    obtain ⟨g1, q'⟩ : gd G' ∧ _ := q'
    obtain ⟨d, G3, qd, s3, r3, p3⟩ := hf L acc xs G1 H1 G' H' hL (r1.nP hL) r1 q' s' r' hx ra
    exact .inl ⟨(it _ (fun _ z => .inl z) pub i G' H' s' r' g1).2 (by omega), k _ _ _ _ qd (s1.trans s3) r3 p3⟩

theorem fin_val {K : PySem.W.Frag} {QD : DK} : ∀ (L : Addr) acc xs G1 H1 G2 H2, H1 L = none → ¬ c.P L → Rl K c.P G1 H1 → QD (.lst acc) G2 → Step G1 H1 G2 H2 → Rl K (fun a => c.P a ∨ a = L) G2 H2 → H2 L = some (.lst xs) → RepL K (fun a => c.P a ∨ a = L) G2 H2 xs acc →
    ∃ d G3, QD d G3 ∧ Step G1 H1 G3 H2 ∧ Rl K c.P G3 H2 ∧ Rep K c.P G3 H2 (.ref L) d := fun L acc xs G1 H1 G2 H2 _ nP _ q s r hx t =>
  ⟨_, G2, q, s, r.pub fun _ z => .inl z, .lst hx (r.p L (.inr rfl)).1 nP (t.sub (fun _ z => .inl z) fun _ _ z => z)⟩
theorem fin_mut {K : PySem.W.Frag} {QD : DK} : ∀ (L : Addr) acc xs G1 H1 G2 H2, H1 L = none → ¬ c.P L → Rl K c.P G1 H1 → (∀ p, G2 p = none → QD (.ref p) (updG G2 p (.lst acc))) → Step G1 H1 G2 H2 → Rl K (fun a => c.P a ∨ a = L) G2 H2 → H2 L = some (.lst xs) → RepL K (fun a => c.P a ∨ a = L) G2 H2 xs acc →
    ∃ d G3, QD d G3 ∧ Step G1 H1 G3 H2 ∧ Rl K c.P G3 H2 ∧ Rep K c.P G3 H2 (.ref L) d := fun L acc xs G1 H1 G2 H2 hL nP _ q s r hx t =>
  ⟨_, _, q L (r.p L (.inr rfl)).1, fun a o ha n ga => by
    obtain ⟨e1, e2⟩ := s a o ha n ga
    exact ⟨e1, by rw [updG_ne (ne_of_none ha hL)]; exact e2⟩, r.pubL (fun _ z => .inl z) (.inr rfl) nP hx t, .ref L⟩
section
variable {elt tg iter : Expr} {ifs : List Expr} {scope : Scope} {own : List (Str × Nat)} {pos : Pos} {ti : DI} {g : Tg} {tt : DT} {te : DE}
theorem d_lc (hc : X.calm = true) (hN : X.N.Nodup) (hi : PI X tg iter (lI X.K c ti)) (ok : BlkOk X.N X.env.scope scope own)
    (hg : ∀ (s : Shared) (H : Hp) (C : Addr) (cl : List (Str × Addr)) (fp : List Addr) (c' : DC), PG (X.blk s H scope (compEnvC scope cl C X.env) fp) tg (lG X.K c' g)) (ht : ∀ (s : Shared) (H : Hp) (C : Addr) (cl : List (Str × Addr)) (fp : List Addr) (c' : DC), PTs (X.blk s H scope (compEnvC scope cl C X.env) fp) ifs (lT X.K c' tt))
    (he : ∀ (s : Shared) (H : Hp) (C : Addr) (cl : List (Str × Addr)) (fp : List Addr) (c' : DC), PE (X.blk s H scope (compEnvC scope cl C X.env) fp) elt (lE X.K c' te)) (hv : ∀ i ∈ g.slots, i ∈ own.map (·.2) := by decide) (hs : ∀ x, foldedSetIterable iter X.env x = pure x := by intro _; rfl) :
    PE X (.ListComp elt [⟨tg, iter, ifs, 0⟩] scope pos) (lE X.K c (dLc ti (own.map (·.2)) g tt te)) :=
  PE_imp (pe_lc (g := xG X.K g) (tt := xT X.K tt) (te := xE X.K te) hc hN hi ok (fun s H C cl fp => pg_ex fun c' => hg s H C cl fp c') (fun s H C cl fp => pts_ex fun c' => ht s H C cl fp c') (fun s H C cl fp => pe_ex fun c' => he s H C cl fp c') hs)
    fun σ H Q ⟨ρ, G, QD, u, h, k⟩ => lc_imp (fin := fun acc G2 Q => Q (.lst acc) G2) hv u h k fin_val
theorem d_lcM (hc : X.calm = true) (hN : X.N.Nodup) (hi : PI X tg iter (lI X.K c ti)) (ok : BlkOk X.N X.env.scope scope own)
    (hg : ∀ (s : Shared) (H : Hp) (C : Addr) (cl : List (Str × Addr)) (fp : List Addr) (c' : DC), PG (X.blk s H scope (compEnvC scope cl C X.env) fp) tg (lG X.K c' g)) (ht : ∀ (s : Shared) (H : Hp) (C : Addr) (cl : List (Str × Addr)) (fp : List Addr) (c' : DC), PTs (X.blk s H scope (compEnvC scope cl C X.env) fp) ifs (lT X.K c' tt))
    (he : ∀ (s : Shared) (H : Hp) (C : Addr) (cl : List (Str × Addr)) (fp : List Addr) (c' : DC), PE (X.blk s H scope (compEnvC scope cl C X.env) fp) elt (lE X.K c' te)) (hv : ∀ i ∈ g.slots, i ∈ own.map (·.2) := by decide) (hs : ∀ x, foldedSetIterable iter X.env x = pure x := by intro _; rfl) :
    PE X (.ListComp elt [⟨tg, iter, ifs, 0⟩] scope pos) (lE X.K c (dLcM ti (own.map (·.2)) g tt te)) :=
  PE_imp (pe_lc (g := xG X.K g) (tt := xT X.K tt) (te := xE X.K te) hc hN hi ok (fun s H C cl fp => pg_ex fun c' => hg s H C cl fp c') (fun s H C cl fp => pts_ex fun c' => ht s H C cl fp c') (fun s H C cl fp => pe_ex fun c' => he s H C cl fp c') hs)
    fun σ H Q ⟨ρ, G, QD, u, h, k⟩ => lc_imp (fin := fun acc G2 Q => ∀ p, G2 p = none → Q (.ref p) (updG G2 p (.lst acc))) hv u h k fin_mut
/-- name = [..], the name a local -/
theorem ds_setLc {i : Nat} {y : Str} {py spos : Pos} (hc : X.calm = true) (hN : X.N.Nodup) (hi : PI X tg iter (lI X.K c ti)) (ok : BlkOk X.N X.env.scope scope own)
    (hg : ∀ (s : Shared) (H : Hp) (C : Addr) (cl : List (Str × Addr)) (fp : List Addr) (c' : DC), PG (X.blk s H scope (compEnvC scope cl C X.env) fp) tg (lG X.K c' g)) (ht : ∀ (s : Shared) (H : Hp) (C : Addr) (cl : List (Str × Addr)) (fp : List Addr) (c' : DC), PTs (X.blk s H scope (compEnvC scope cl C X.env) fp) ifs (lT X.K c' tt))
    (he : ∀ (s : Shared) (H : Hp) (C : Addr) (cl : List (Str × Addr)) (fp : List Addr) (c' : DC), PE (X.blk s H scope (compEnvC scope cl C X.env) fp) elt (lE X.K c' te)) (hsw : swapsWith (.ListComp elt [⟨tg, iter, ifs, 0⟩] scope pos) (some (.Name y py)) spos.line X.env = pure true)
    (hy : X.N[i]? = some y := by rfl) (hyl : X.env.scope.names.lookup y = some .local := by rfl) (hv : ∀ i ∈ g.slots, i ∈ own.map (·.2) := by decide) (hs : ∀ x, foldedSetIterable iter X.env x = pure x := by intro _; rfl) :
    PS X (.Assign [.Name y py] (.ListComp elt [⟨tg, iter, ifs, 0⟩] scope pos) spos) (lS X.K c (dAsg (dLc ti (own.map (·.2)) g tt te) (.name i))) :=
  PS_imp (ps_setLc (i := i) (g := xG X.K g) (tt := xT X.K tt) (te := xE X.K te) hc hN hy hyl hsw hi ok (fun s H C cl fp => pg_ex fun c' => hg s H C cl fp c') (fun s H C cl fp => pts_ex fun c' => ht s H C cl fp c') (fun s H C cl fp => pe_ex fun c' => he s H C cl fp c') hs)
    fun E σ H ⟨ρ, G, D, u, h, k⟩ => lc_imp (fin := fun acc G2 Q => Q (.lst acc) G2) (QD := fun d G1 => setT (.name i) d ρ fun ρ1 => D.nx ρ1 G1) hv u h (fun d G' v H' q s r p => k.nx _ _ _ _ (show D.nx (ρ.set i (some d)) G' from by simpa only [setT] using q) s ((u.step s r).set p i)) (fin_val (c := c) (QD := fun d G1 => setT (.name i) d ρ fun ρ1 => D.nx ρ1 G1))
theorem ds_setLcM {i : Nat} {y : Str} {py spos : Pos} (hc : X.calm = true) (hN : X.N.Nodup) (hi : PI X tg iter (lI X.K c ti)) (ok : BlkOk X.N X.env.scope scope own)
    (hg : ∀ (s : Shared) (H : Hp) (C : Addr) (cl : List (Str × Addr)) (fp : List Addr) (c' : DC), PG (X.blk s H scope (compEnvC scope cl C X.env) fp) tg (lG X.K c' g)) (ht : ∀ (s : Shared) (H : Hp) (C : Addr) (cl : List (Str × Addr)) (fp : List Addr) (c' : DC), PTs (X.blk s H scope (compEnvC scope cl C X.env) fp) ifs (lT X.K c' tt))
    (he : ∀ (s : Shared) (H : Hp) (C : Addr) (cl : List (Str × Addr)) (fp : List Addr) (c' : DC), PE (X.blk s H scope (compEnvC scope cl C X.env) fp) elt (lE X.K c' te)) (hsw : swapsWith (.ListComp elt [⟨tg, iter, ifs, 0⟩] scope pos) (some (.Name y py)) spos.line X.env = pure true)
    (hy : X.N[i]? = some y := by rfl) (hyl : X.env.scope.names.lookup y = some .local := by rfl) (hv : ∀ i ∈ g.slots, i ∈ own.map (·.2) := by decide) (hs : ∀ x, foldedSetIterable iter X.env x = pure x := by intro _; rfl) :
    PS X (.Assign [.Name y py] (.ListComp elt [⟨tg, iter, ifs, 0⟩] scope pos) spos) (lS X.K c (dAsg (dLcM ti (own.map (·.2)) g tt te) (.name i))) :=
  PS_imp (ps_setLc (i := i) (g := xG X.K g) (tt := xT X.K tt) (te := xE X.K te) hc hN hy hyl hsw hi ok (fun s H C cl fp => pg_ex fun c' => hg s H C cl fp c') (fun s H C cl fp => pts_ex fun c' => ht s H C cl fp c') (fun s H C cl fp => pe_ex fun c' => he s H C cl fp c') hs)
    fun E σ H ⟨ρ, G, D, u, h, k⟩ => lc_imp (fin := fun acc G2 Q => ∀ p, G2 p = none → Q (.ref p) (updG G2 p (.lst acc))) (QD := fun d G1 => setT (.name i) d ρ fun ρ1 => D.nx ρ1 G1) hv u h (fun d G' v H' q s r p => k.nx _ _ _ _ (show D.nx (ρ.set i (some d)) G' from by simpa only [setT] using q) s ((u.step s r).set p i)) (fin_mut (c := c) (QD := fun d G1 => setT (.name i) d ρ fun ρ1 => D.nx ρ1 G1))
end
end
end DL

end

section
set_option Elab.async false
set_option linter.all false
set_option maxRecDepth 100000
set_option maxHeartbeats 1000000
namespace DL
open PySem PySem.Spec PyProof.Rows L2

/-! ## what a def promises -/
abbrev DSp := List D → GH → DK → DXK → Prop
def RelX (K : PySem.W.Frag) (P : Addr → Prop) (G : GH) (H : Hp) (cls : Value) (d : Option Addr) (x : DX) : Prop :=
  cls = .ref x.cls ∧ ∃ dd v, d = some dd ∧ H dd = some (.xd [(x.fld, v)]) ∧ Rep K P G H v x.val
def liftSp (K : PySem.W.Frag) (sp : DSp) : Sp := fun vs H Q E => ∃ ds P G QD ED, RepL K P G H vs ds ∧ Rl K P G H ∧ sp ds G QD ED ∧
  (∀ d G' v H', QD d G' → Step G H G' H' → Rl K P G' H' → Rep K P G' H' v d → Q v H') ∧ ∀ x G' cls d H', ED x G' → Step G H G' H' → Rl K P G' H' → RelX K P G' H' cls d x → E cls d H'
/-- an exception that Ex tells may leave -/
def XOk (X : Cx) (c : DC) (Ex : DXK) : Prop := ∃ W, Takes X W ∧ ∀ x G H cls d σ, Ex x G → Step c.G0 c.H0 G H → Rl X.K c.P G H → RelX X.K c.P G H cls d x → W cls d σ H
theorem xok0 {X : Cx} {c : DC} : XOk X c noX := ⟨fun _ _ _ _ => False, L2.takes0, fun _ _ _ _ _ _ h => h.elim⟩
def dCall (sp : DSp) (Ex : DXK) (ta : DA) : DE := fun ρ G Q => ta ρ G fun ds G1 => sp ds G1 Q Ex
structure FnD (P : Program) (w : World) (K : PySem.W.Frag) (mg : Str → Option Value) (base : Heap) (x : Str) (k : Nat) (ps : List Str) (sp : DSp) : Prop where
  ex : ∃ f fd, mg x = some (.ref f) ∧ PySem.W.keepIn K (.ref f) = true ∧ Binds K fd ps [] ∧ KBn K fd ps 0 ps (fun _ ws => ws) (fun _ zs => zs) ∧ FnOk P w K mg base (L2.CX P w) k f fd ps (liftSp K sp)
theorem FnD.mono {P : Program} {w : World} {K : PySem.W.Frag} {mg : Str → Option Value} {base : Heap} {x : Str} {j k : Nat} {ps : List Str} {sp : DSp} (F : FnD P w K mg base x j ps sp) (h : j ≤ k) : FnD P w K mg base x k ps sp := by
  obtain ⟨f, fd, a, b, d, e, g⟩ := F.ex
  exact ⟨f, fd, a, b, d, e, g.mono h⟩
/-- a weaker promise -/
theorem FnD.imp {P : Program} {w : World} {K : PySem.W.Frag} {mg : Str → Option Value} {base : Heap} {x : Str} {k : Nat} {ps : List Str} {sp sp' : DSp} (F : FnD P w K mg base x k ps sp) (h : ∀ ds G Q E, sp' ds G Q E → sp ds G Q E) : FnD P w K mg base x k ps sp' := by
  obtain ⟨f, fd, a, b, d, e, g⟩ := F.ex
  exact ⟨f, fd, a, b, d, e, g.imp fun vs H Q E ⟨ds, P, G, QD, ED, h1, h2, h3, h4⟩ => ⟨ds, P, G, QD, ED, h1, h2, h _ _ _ _ h3, h4⟩⟩
section
variable {X : Cx} {c : DC} {Ex : DXK} {k : Nat} {ps : List Str} {sp : DSp} {x : Str} {p pos : Pos} {e : Expr} {es : List Expr} {ta : DA} {kws : List Keyword}
/-- the wish about exceptions, on the side of the heap -/
def exV (K : PySem.W.Frag) (c : DC) (Ex : DXK) : XK := fun cls d H => ∃ x G, Ex x G ∧ Step c.G0 c.H0 G H ∧ Rl K c.P G H ∧ RelX K c.P G H cls d x
theorem XOk.passes (h : XOk X c Ex) : Passes (L2.CX X.prog X.w) X (exV X.K c Ex) := by
  obtain ⟨W, tk, hW⟩ := h
  exact passes_call tk fun cls d σ H ⟨x, G, h1, h2, h3, h4⟩ => hW x G H cls d σ h1 h2 h3 h4
theorem call_lift {K : PySem.W.Frag} {ρ : DSt} {σ : L2.St} {H H1 : Hp} {Q : VK} {QD : DK} {ds : List D} {G G1 : GH} {vs : List V} (u : Cur K c σ H ρ G) (k : ∀ d G' v H', QD d G' → Step G H G' H' → Rl K c.P G' H' → Rep K c.P G' H' v d → Q v H')
    (q : sp ds G1 QD Ex) (s1 : Step G H G1 H1) (r1 : Rl K c.P G1 H1) (p1 : RepL K c.P G1 H1 vs ds) : liftSp K sp vs H1 Q (exV K c Ex) :=
  ⟨ds, c.P, G1, QD, Ex, p1, r1, q, fun d G' v H' q2 s2 r2 p2 => k _ _ _ _ q2 (s1.trans s2) r2 p2, fun x G' cls d H' q2 s2 r2 p2 => ⟨x, G', q2, (u.st.trans s1).trans s2, r2, p2⟩⟩
theorem d_call (F : FnD X.prog X.w X.K X.mg X.base x k ps sp) (hr : Room k X.A) (hx : XOk X c Ex) (ha : PA X (e :: es) (lA X.K c ta)) (hg : Gl X x := by rfl) (hdb : (x == ("__debug__" : Str)) = false := by decide)
    (he : starEach (e :: es) X.env = (false, eval e X.env) :: starEach es X.env := by rfl) (hpl : (backTo pos (starEach es X.env)).any (·.1) = false := by rfl) : PE X (.Call (.Name x p) (e :: es) [] pos) (lE X.K c (dCall sp Ex ta)) := by
  obtain ⟨f, fd, hm, hk, hb, _, FF⟩ := F.ex
  exact PE_imp (pe_call FF hr hg hm hk hb .nil hx.passes ha hdb he hpl) fun σ H Q ⟨ρ, G, QD, u, h, kk⟩ => ⟨ρ, G, _, u, h, fun ds G1 vs H1 q s1 r1 p1 => by
    show liftSp X.K sp (vs ++ []) H1 Q (exV X.K c Ex)
    rw [List.append_nil]
    exact call_lift u kk q s1 r1 p1⟩
/-- the keywords' values -/
theorem dk_nil : PK X [] (lA X.K c dNil) := ⟨fun pos pins s σ H Q I ⟨ρ, G, QD, u, h, k⟩ => pk_nil.run pos pins s σ H Q I (k _ _ _ _ h (Step.refl _ _) u.rl .nil)⟩
theorem dk_cons {te : DE} {nm : Option Str} {kpos : Pos} (ha : PE X e (lE X.K c te)) (hr : PK X kws (lA X.K c ta)) : PK X (⟨nm, e, kpos⟩ :: kws) (lA X.K c (dCons te ta)) := ⟨fun pos pins s σ H Q I ⟨ρ, G, QD, u, h, k⟩ =>
  (pk_cons ha hr).run pos pins s σ H Q I ⟨ρ, G, _, u, h, fun d G1 v H1 q1 s1 r1 p1 => ⟨ρ, G1, _, u.step s1 r1, q1, fun ds G2 vs H2 q2 s2 r2 p2 => k _ _ _ _ q2 (s1.trans s2) r2 (.cons (p1.mono r1 s2) p2)⟩⟩⟩
theorem d_callK (F : FnD X.prog X.w X.K X.mg X.base x k ps sp) (hr : Room k X.A) (hx : XOk X c Ex) (hkw : PK X kws (lA X.K c ta)) (hlen : ∀ ds G Q E, sp ds G Q E → ds.length = ps.length) (hg : Gl X x := by rfl)
    (hall : (backToKw pos (keywordEach kws X.env)).all (·.1.isSome) = true := by rfl) (hks : (backToKw pos (keywordEach kws X.env)).filterMap (·.1) = ps := by rfl) (hdb : (x == ("__debug__" : Str)) = false := by decide)
    (hpl : ((backTo pos (starEach [] X.env)).any (·.1) || (backToKw pos (keywordEach kws X.env)).any (·.1.isNone)) = false := by rfl) : PE X (.Call (.Name x p) [] kws pos) (lE X.K c (dCall sp Ex ta)) := by
  obtain ⟨f, fd, hm, hk, _, hb, FF⟩ := F.ex
  refine ⟨fun pins s σ H Q I h => ?_⟩
  refine wpAny_Call_Name_kw (ld_glob I hg hm ?_ hdb)
  refine PySem.W.callWith_KW0 (h₀ := X.base) I.ok.mod.kin hk hall ?_ hpl
  obtain ⟨ρ, G, QD, u, h, kk⟩ := h
  refine thn (hkw.run pos pins s σ H (fun zs H2 => zs.length = ps.length ∧ liftSp X.K sp zs H2 Q (exV X.K c Ex)) I ⟨ρ, G, _, u, h, fun ds G1 vs H1 q s1 r1 p1 => ⟨by rw [p1.length]; exact hlen _ _ _ _ q, call_lift u kk q s1 r1 p1⟩⟩) fun ws s2 ⟨zs, H2, I2, rz, l2, q2⟩ => ⟨I2.kIn, ?_⟩
  rw [hks]
  exact run_fnN (us := []) (vs := []) FF hr hb hx.passes I2 .nil rz rfl l2 q2
end

/-! ## a def's end -/
mutual
/-- what a def hands back of its own lists stands still from then on -/
inductive Frz (G G' : GH) : D → D → Prop
  | same (d : D) : Frz G G' d d
  | own {p : Addr} {ds ds' : List D} : G p = some (.lst ds) → G' p = none → FrzA G G' ds ds' → Frz G G' (.ref p) (.lst ds')
  | tup {ds ds' : List D} : FrzA G G' ds ds' → Frz G G' (.tup ds) (.tup ds')
  | lst {ds ds' : List D} : FrzA G G' ds ds' → Frz G G' (.lst ds) (.lst ds')
inductive FrzA (G G' : GH) : List D → List D → Prop
  | nil : FrzA G G' [] []
  | cons {d d' : D} {ds ds' : List D} : Frz G G' d d' → FrzA G G' ds ds' → FrzA G G' (d :: ds) (d' :: ds')
end
def Le (G' G : GH) : Prop := ∀ a o, G' a = some o → G a = some o
theorem Le.refl (G : GH) : Le G G := fun _ _ h => h
theorem Le.trans {G G1 G2 : GH} (a : Le G G1) (b : Le G1 G2) : Le G G2 := fun c o h => b c o (a c o h)
theorem Le.none {G' G : GH} (l : Le G' G) {a : Addr} (h : G a = Option.none) : G' a = Option.none := by
  cases e : G' a with
  | none => rfl
  | some o => have := l a o e; rw [h] at this; cases this
theorem Le.new {G' G : GH} (l : Le G' G) {p : Addr} {o : GO} (h : G p = Option.none) : Le G' (updG G p o) := fun a u e => by
  have n : a ≠ p := fun z => by
    have := l a u e
    rw [z, h] at this; cases this
  rw [updG_ne n]; exact l a u e
theorem Le.put {G' G : GH} (l : Le G' G) {p : Addr} {o : GO} (h : G' p = Option.none) : Le G' (updG G p o) := fun a u e => by
  have n : a ≠ p := fun z => by rw [z, h] at e; cases e
  rw [updG_ne n]; exact l a u e
section
variable {K : PySem.W.Frag} {P : Addr → Prop} {G G' : GH} {H : Hp}
theorem Rl.le (r : Rl K P G H) (l : Le G' G) : Rl K P G' H where
  h := fun a g e => by
    have q := r.h a g (l a g e)
    cases g with
    | lst ds => obtain ⟨xs, e, t⟩ := q; exact ⟨xs, e, t.sub (fun _ z => z) fun a _ z => l.none z⟩
    | ins C fs => obtain ⟨dx, gs, e, t⟩ := q; exact ⟨dx, gs, e, t.sub (fun _ z => z) fun a _ z => l.none z⟩
    | tab q' => exact q
    | dicK kvs => obtain ⟨ws, e, e2, t⟩ := q; exact ⟨ws, e, e2, t.sub (fun _ z => z) fun a _ z => l.none z⟩
    | dicT kvs => obtain ⟨ws, e, e2, t⟩ := q; exact ⟨ws, e, e2, t.sub (fun _ z => z) fun a _ z => l.none z⟩
  p := fun a z => ⟨l.none (r.p a z).1, (r.p a z).2⟩
mutual
theorem Frz.rep (r : Rl K P G H) (l : Le G' G) : ∀ {v : V} {d d' : D}, Rep K P G H v d → Frz G G' d d' → Rep K P G' H v d'
  | v, d, d', x, z => by
    cases z with
    | same => exact x.sub (fun _ z => z) fun a _ z => l.none z
    | own h g t =>
      cases x with
      | ref a =>
        obtain ⟨xs, e, q⟩ := r.h _ _ h
        exact .lst e g (fun z => by have := (r.p _ z).1; rw [h] at this; cases this) (FrzA.rep r l q t)
    | tup t =>
      cases x with
      | tup h x => exact .tup h (FrzA.rep r l x t)
    | lst t =>
      cases x with
      | lst h g p x => exact .lst h (l.none g) p (FrzA.rep r l x t)
theorem FrzA.rep (r : Rl K P G H) (l : Le G' G) : ∀ {v : List V} {d d' : List D}, RepL K P G H v d → FrzA G G' d d' → RepL K P G' H v d'
  | v, d, d', x, z => by
    cases z with
    | nil => cases x; exact .nil
    | cons t ts =>
      cases x with
      | cons x xs => exact .cons (Frz.rep r l x t) (FrzA.rep r l xs ts)
end
end
def fnEnds (Q : DK) : DEnds where
  nx := fun _ G => ∃ G', Le G' G ∧ Q .non G'
  rt := fun d G => ∃ d' G', Le G' G ∧ Frz G G' d d' ∧ Q d' G'
def startD (N : List Str) (ds : List D) : DSt := ds.map some ++ List.replicate (N.length - ds.length) none
theorem start_rep {K : PySem.W.Frag} {P : Addr → Prop} {G : GH} {H : Hp} {N : List Str} : ∀ {vs : List V} {ds : List D}, RepL K P G H vs ds → RepS K P G H (L2.start N vs) (startD N ds) := by
  intro vs ds h
  unfold L2.start startD
  rw [h.length]
  generalize N.length - ds.length = n
  have base : ∀ n : Nat, RepS K P G H (List.replicate n (none : Option V)) (List.replicate n none) := fun n => by
    induction n with
    | zero => exact .nil
    | succ n ih => rw [List.replicate_succ, List.replicate_succ]; exact .cons trivial ih
  induction ds generalizing vs with
  | nil => cases h; exact base n
  | cons d ds ih =>
    cases h with
    | cons a t => exact .cons a (ih t)
/-- THE RULE for a def -/
theorem fn_ok {Pg : Program} {w : World} {K : PySem.W.Frag} {mg : Str → Option Value} {base : Heap} {x qual : Str} {params : Arguments} {body : List Stmt} {scope : Scope} {f : Addr} {fd : FuncData} {N ps : List Str} {k : Nat} {sp : DSp} {t : DXK → DS}
    (F : FunD K x qual params body scope [] [] f fd) (S : FnScope N ps scope) (len : ∀ ds G Q E, sp ds G Q E → ds.length = ps.length)
    (hbody : ∀ (cdv : Value) (A : Around) (outer : List Env) (s : Shared) (H : Hp) (E : XK) (c : DC) (Ex : DXK), Room k (A.deeper (envOfC qual scope s.heap.objs.size f cdv)) → XOk (cxOf (L2.CX Pg w) Pg w K mg base N qual scope f cdv A outer s H E) c Ex →
      PSs (cxOf (L2.CX Pg w) Pg w K mg base N qual scope f cdv A outer s H E) body (lS K c (t Ex)))
    (pure : ∀ ds G Q E, sp ds G Q E → t E (fnEnds Q) (startD N ds) G) : FnOk Pg w K mg base (L2.CX Pg w) (k + 1) f fd ps (liftSp K sp) := by
  refine F.ok S (fun vs H Q E ⟨ds, P, G, QD, ED, h1, h2, h3, _⟩ => by rw [h1.length]; exact len _ _ _ _ h3) fun cdv A outer s H vs Q E hr ⟨ds, P, G, QD, ED, h1, h2, h3, h4, h5⟩ => ?_
  have ok : XOk (cxOf (L2.CX Pg w) Pg w K mg base N qual scope f cdv A outer s H E) ⟨P, G, H⟩ ED := ⟨fun cls d _ H => E cls d H, takes_of rfl rfl rfl rfl, fun x G' H' cls d σ q s r p => h5 x G' cls d H' q s r p⟩
  refine ⟨_, hbody cdv A outer s H E ⟨P, G, H⟩ ED hr ok, startD N ds, G, fnEnds QD, ⟨h2, Step.refl _ _, start_rep h1⟩, pure _ _ _ _ h3, ⟨?_, ?_, ?_, ?_⟩⟩
  · rintro ρ G2 σ H2 ⟨G', l, q⟩ s2 u2
    exact h4 _ _ _ _ q (fun a o e n g => let ⟨e1, e2⟩ := s2 a o e n g; ⟨e1, l.none e2⟩) (u2.rl.le l) .non
  · rintro d G2 v H2 ⟨d', G', l, z, q⟩ s2 r2 p2
    exact h4 _ _ _ _ q (fun a o e n g => let ⟨e1, e2⟩ := s2 a o e n g; ⟨e1, l.none e2⟩) (r2.le l) (z.rep r2 l p2)
  · intro ρ G2 σ H2 q
    exact q.elim
  · intro ρ G2 σ H2 q
    exact q.elim
theorem fnD_of {P : Program} {w : World} {K : PySem.W.Frag} {mg : Str → Option Value} {base : Heap} {x qual : Str} {params : Arguments} {body : List Stmt} {scope : Scope} {f : Addr} {fd : FuncData} {ps : List Str} {k : Nat} {sp : DSp}
    (F : FunD K x qual params body scope [] [] f fd) (hm : mg x = some (.ref f)) (FF : FnOk P w K mg base (L2.CX P w) k f fd ps (liftSp K sp))
    (h : ∀ (kV doc pm : Value) (an : Option Addr) (cdv ct : Value) (us : List Value), us.length = ps.length → bindArgs (PySem.W.fnOf x qual params body scope .none kV doc pm an cdv ct) ⟨us, []⟩ = pure (ps.zip us))
    (h2 : ∀ (kV doc pm : Value) (an : Option Addr) (cdv ct : Value) (ws : List Value), ws.length = ps.length → bindArgs (PySem.W.fnOf x qual params body scope .none kV doc pm an cdv ct) ⟨[], ps.zip ws⟩ = pure (ps.zip ws)) : FnD P w K mg base x k ps sp := by
  refine ⟨f, fd, hm, F.kp, F.bindsN h, ⟨fun s us ws X l1 l2 => ?_, fun _ r => r⟩, FF⟩
  obtain rfl : us = [] := List.length_eq_zero_iff.mp l1
  obtain ⟨oc, od, dV, kV, doc, pm, an, cdv, ct, osl, rfl, lk, hcd, hD, hK⟩ := F.ex
  rcases hD with ⟨_, rfl⟩ | ⟨e, _⟩
  · exact .of_eq (h2 kV doc pm an cdv ct ws l2)
  · exact absurd rfl e

/-! ## raise -/
def lMk (K : PySem.W.Frag) (c : DC) (t : DSt → GH → DXK → Prop) : L2.St → Hp → XK → Prop := fun σ H Q => ∃ ρ G QD, Cur K c σ H ρ G ∧ t ρ G QD ∧ ∀ x G' cls d H', QD x G' → Step G H G' H' → Rl K c.P G' H' → RelX K c.P G' H' cls d x → Q cls d H'
def dRaise (Ex : DXK) (t : DSt → GH → DXK → Prop) : DS := fun _ ρ G => t ρ G Ex
theorem PMk_imp {X : Cx} {e : Expr} {t t' : L2.St → Hp → XK → Prop} (h : PMk X e t) (i : ∀ σ H Q, t' σ H Q → t σ H Q) : PMk X e t' := fun pins s σ H Q I q => h pins s σ H Q I (i _ _ _ q)
theorem ds_raise {X : Cx} {c : DC} {Ex : DXK} {e : Expr} {t : DSt → GH → DXK → Prop} {pos : Pos} (hc : X.calm = true) (hx : XOk X c Ex) (he : PMk X e (lMk X.K c t)) : PS X (.Raise (some e) none pos) (lS X.K c (dRaise Ex t)) := by
  obtain ⟨W, tk, hW⟩ := hx
  exact PS_imp (ps_raise hc tk he) fun E σ H ⟨ρ, G, D, u, h, k⟩ => ⟨ρ, G, _, u, h, fun x G' cls d H' q s r p => hW x G' H' cls d σ q (u.st.trans s) r p⟩
/-- C(e), C an own class whose one field f keeps what it is made with -/
def tMkF (C : Addr) (f : Str) (ta : TA) : L2.St → Hp → XK → Prop := fun σ H Q => ta σ H fun vs H1 => ∃ v, vs = [v] ∧ ∀ d, H1 d = none → Q (.ref C) (some d) (upd H1 d (.xd [(f, v)]))
def dMk (C : Addr) (f : Str) (ta : DA) : DSt → GH → DXK → Prop := fun ρ G Q => ta ρ G fun ds G1 => match ds with
  | [d] => Q ⟨C, f, d⟩ G1
  | _ => False
theorem dmk_of {X : Cx} {c : DC} {C : Addr} {f : Str} {e : Expr} {ta : DA} (h : PMk X e (tMkF C f (lA X.K c ta))) : PMk X e (lMk X.K c (dMk C f ta)) :=
  PMk_imp h fun σ H Q ⟨ρ, G, QD, u, h, k⟩ => ⟨ρ, G, _, u, h, fun ds G1 vs H1 q s r p => by
    cases p with
    | nil => exact (show False from q).elim
    | cons p ps => cases ps with
      | cons _ _ => exact (show False from q).elim
      | nil => exact ⟨_, rfl, fun d hd => k _ _ _ _ _ q (s.trans (step_new hd)) (r.new hd) ⟨rfl, d, _, rfl, upd_same, p.mono r (step_new hd)⟩⟩⟩
end DL

end

section
set_option Elab.async false
set_option linter.all false
set_option maxRecDepth 100000
set_option maxHeartbeats 1000000
namespace DL
open PySem PySem.Spec PyProof.Rows L2

/-! ## data as the library's data -/
mutual
def D.py : D → PyData
  | .non => .none
  | .bl b => .bool b
  | .int i => .int i
  | .str x => .str x
  | .ty _ => .dict []
  | .ref _ => .dict []
  | .tup ds => .tuple (pyL ds)
  | .lst ds => .list (pyL ds)
  | .scr ds => .list (pyL ds)
def pyL : List D → List PyData
  | [] => []
  | d :: ds => d.py :: pyL ds
end
theorem pyL_map (ds : List D) : pyL ds = ds.map D.py := by
  induction ds with
  | nil => simp [pyL]
  | cons d ds ih => simp [pyL, ih]
section
variable {K : PySem.W.Frag} {P : Addr → Prop} {G : GH} {H : Hp}
theorem canLay_dict (kvs : List (PyData × PyData)) : PyData.canLay0 (.dict kvs) = false := by simp [PyData.canLay0]
mutual
theorem Rep.dp : ∀ {v : V} {d : D}, Rep K P G H v d → d.py.canLay0 = true → Dp K H v d.py
  | _, _, .non, _ => by simp only [D.py]; exact .non
  | _, _, .bl b, _ => by simp only [D.py]; exact .bl b
  | _, _, .int i, _ => by simp only [D.py]; exact .int i
  | _, _, .str x, _ => by simp only [D.py]; exact .str x
  | _, _, .ty n, h => by simp [D.py, PyData.canLay0] at h
  | _, _, .ref a, h => by simp [D.py, PyData.canLay0] at h
  | _, _, .tup hq t, h => by
    simp only [D.py] at h ⊢
    exact .tup hq (RepL.dp t (by simpa only [PyData.canLay0] using h))
  | _, _, .lst e _ _ t, h => by
    simp only [D.py] at h ⊢
    exact .lst (.of e) (RepL.dp t (by simpa only [PyData.canLay0] using h))
  | _, _, .frz e t, h => by
    simp only [D.py] at h ⊢
    exact .lst e.seq (RepL.dp t (by simpa only [PyData.canLay0] using h))
theorem RepL.dp : ∀ {v : List V} {d : List D}, RepL K P G H v d → PyData.canLayAll0 (pyL d) = true → DpAll K H v (pyL d)
  | _, _, .nil, _ => by simp only [pyL]; exact .nil
  | _, _, .cons h t, e => by
    simp only [pyL, PyData.canLayAll0, Bool.and_eq_true] at e ⊢
    exact .cons (Rep.dp h e.1) (RepL.dp t e.2)
end
end
/-- a list of one's own is read as it stands -/
def valD (G : GH) : D → D
  | .ref p => match G p with
    | some (.lst ds) => .lst ds
    | _ => .ref p
  | d => d
/-- may be compared -/
def shapedD (d : D) : Bool := SeqAt.shaped d.py
theorem val_dp {K : PySem.W.Frag} {P : Addr → Prop} {G : GH} {H : Hp} {v : V} {d : D} (r : Rl K P G H) (h : Rep K P G H v d) (e : shapedD (valD G d) = true) : Dp K H v (valD G d).py := by
  have cl := SeqAt.canLay_of_shaped e
  cases h with
  | ref a =>
    cases q : G a with
    | none =>
      have z : valD G (.ref a) = .ref a := by unfold valD; simp [q]
      rw [z] at cl
      simp [D.py, PyData.canLay0] at cl
    | some g =>
      cases g with
      | lst ds =>
        have z : valD G (.ref a) = .lst ds := by unfold valD; simp [q]
        rw [z] at cl ⊢
        obtain ⟨xs, e1, t⟩ := r.h a _ q
        simp only [D.py] at cl ⊢
        exact .lst (.of e1) (t.dp (by simpa only [PyData.canLay0] using cl))
      | ins C fs =>
        have z : valD G (.ref a) = .ref a := by unfold valD; simp [q]
        rw [z] at cl
        simp [D.py, PyData.canLay0] at cl
      | tab q' =>
        have z : valD G (.ref a) = .ref a := by unfold valD; simp [q]
        rw [z] at cl
        simp [D.py, PyData.canLay0] at cl
      | dicK kvs =>
        have z : valD G (.ref a) = .ref a := by unfold valD; simp [q]
        rw [z] at cl
        simp [D.py, PyData.canLay0] at cl
      | dicT kvs =>
        have z : valD G (.ref a) = .ref a := by unfold valD; simp [q]
        rw [z] at cl
        simp [D.py, PyData.canLay0] at cl
  | non => exact Rep.dp (P := P) (G := G) .non cl
  | bl b => exact Rep.dp (P := P) (G := G) (.bl b) cl
  | int i => exact Rep.dp (P := P) (G := G) (.int i) cl
  | str x => exact Rep.dp (P := P) (G := G) (.str x) cl
  | ty n => exact Rep.dp (P := P) (G := G) (.ty n) cl
  | tup a b => exact Rep.dp (P := P) (G := G) (.tup a b) cl
  | lst a b x y => exact Rep.dp (P := P) (G := G) (.lst a b x y) cl
  | frz a b => exact Rep.dp (P := P) (G := G) (.frz a b) cl

/-! ## operators -/
section
variable {X : Cx}
/-- an end whose heap is the same -/
theorem here {K : PySem.W.Frag} {P : Addr → Prop} {G : GH} {H : Hp} {Q : VK} {QD : DK} {v : V} {d : D} (k : ∀ d' G' v H', QD d' G' → Step G H G' H' → Rl K P G' H' → Rep K P G' H' v d' → Q v H') (r : Rl K P G H) (q : QD d G) (p : Rep K P G H v d) : Q v H :=
  k _ _ _ _ q (Step.refl _ _) r p
def i2 (C : Int → Int → Prop) (g : Int → Int → D) : R2D := fun x y G Q => match x, y with
  | .int i, .int j => C i j ∧ Q (g i j) G
  | _, _ => False
theorem od_i2 {f : Value → Value → Sem Value} {C : Int → Int → Prop} {g : Int → Int → V} {gd : Int → Int → D} (ho : OpR X f (rI C g)) (fl : ∀ i j, Flat (g i j) (gd i j)) : OpD X f (i2 C gd) := by
  intro P pins s σ H x y v u Q I rx ry ⟨d, e, G, QD, r, hd, he, h, k⟩
  cases hd with
  | int i =>
    cases he with
    | int j => exact ho pins s σ H _ _ v u Q I rx ry ⟨i, j, rfl, rfl, h.1, here k r h.2 (fl i j _ _ _ _)⟩
    | _ => exact (show False from h).elim
  | _ => exact (show False from h).elim
theorem OpR.of0 {f : Value → Value → Sem Value} {g : Int → Int → V} (ho : OpR X f (rI0 g)) : OpR X f (rI (fun _ _ => True) g) := fun pins s σ H x y v u Q I rx ry ⟨i, j, a, b, _, q⟩ => ho pins s σ H x y v u Q I rx ry ⟨i, j, a, b, q⟩
def TT0 : Int → Int → Prop := fun _ _ => True
abbrev subD : R2D := i2 TT0 fun i j => .int (i - j)
theorem od_sub : OpD X (binaryOp .Sub) subD := od_i2 (OpR.of0 op_sub) fun i j _ _ _ _ => .int _
abbrev modD : R2D := i2 (fun _ j => j ≠ 0) fun i j => .int (i.fmod j)
theorem od_mod : OpD X (binaryOp .Mod) modD := od_i2 op_modN fun i j _ _ _ _ => .int _
abbrev fdivD : R2D := i2 CDivN fun i j => .int (i.fdiv j)
theorem od_fdiv : OpD X (binaryOp .FloorDiv) fdivD := od_i2 op_fdivN fun i j _ _ _ _ => .int _
abbrev powD : R2D := i2 CPow fun i j => .int (i ^ j.toNat)
theorem od_pow : OpD X (binaryOp .Pow) powD := od_i2 op_pow fun i j _ _ _ _ => .int _
abbrev leD : R2D := i2 TT0 fun i j => .bl (decide (i ≤ j))
theorem od_le : OpD X (compareOp .LtE) leD := od_i2 (OpR.of0 op_le) fun i j _ _ _ _ => .bl _
abbrev gtD : R2D := i2 TT0 fun i j => .bl (decide (j < i))
theorem od_gt : OpD X (compareOp .Gt) gtD := od_i2 (OpR.of0 op_gt) fun i j _ _ _ _ => .bl _
abbrev geD : R2D := i2 TT0 fun i j => .bl (decide (j ≤ i))
theorem od_ge : OpD X (compareOp .GtE) geD := od_i2 (OpR.of0 op_ge) fun i j _ _ _ _ => .bl _
/-- a + b -/
def catD (x y : D) (G : GH) (Q : DK) : Prop := match asL x G, asL y G with
  | some a, some b => a.length + b.length ≤ sizeLine ∧ Q (.lst (a ++ b)) G
  | _, _ => False
def addD : R2D := fun x y G Q => match x, y with
  | .int i, .int j => Q (.int (i + j)) G
  | .str a, .str b => a.length + b.length ≤ sizeLine ∧ Q (.str (a ++ b)) G
  | .tup a, .tup b => a.length + b.length ≤ sizeLine ∧ Q (.tup (a ++ b)) G
  | .lst a, y => catD (.lst a) y G Q
  | .ref p, y => catD (.ref p) y G Q
  | _, _ => False
theorem cat_ok {P : Addr → Prop} {pins : List (Addr × Obj)} {s : Shared} {σ : L2.St} {H : Hp} {x y : V} {v u : Value} {Q : VK} {d e : D} {G : GH} {QD : DK} (I : Inv X pins σ H s) (rx : RelV x v) (ry : RelV y u) (r : Rl X.K P G H) (hd : Rep X.K P G H x d) (he : Rep X.K P G H y e) (h : catD d e G QD)
    (k : ∀ d' G' v H', QD d' G' → Step G H G' H' → Rl X.K P G' H' → Rep X.K P G' H' v d' → Q v H') : wpAny (model X.prog X.w) X.A (binaryOp .Add v u) (EP X pins σ Q) X.xe s := by
  unfold catD at h
  split at h
  · rename_i a b ea eb
    obtain ⟨p, xs, rfl, e1, t1⟩ := asL_rep r hd ea
    obtain ⟨q, ys, rfl, e2, t2⟩ := asL_rep r he eb
    exact op_cat pins s σ H _ _ v u Q I rx ry ⟨p, q, xs, ys, rfl, rfl, e1, e2, by rw [t1.length, t2.length]; exact h.1, fun n hn => k _ _ _ _ h.2 (step_new hn) (r.new hn) (Rep.newL r hn (t1.append t2))⟩
  · exact h.elim
theorem od_add : OpD X (binaryOp .Add) addD := by
  intro P pins s σ H x y v u Q I rx ry ⟨d, e, G, QD, r, hd, he, h, k⟩
  cases d with
  | int i =>
    cases hd
    cases he with
    | int j => exact op_add pins s σ H _ _ v u Q I rx ry ⟨i, j, rfl, rfl, here k r h (.int _)⟩
    | _ => exact (show False from h).elim
  | str a =>
    cases hd
    cases he with
    | str b => exact op_add_str pins s σ H _ _ v u Q I rx ry ⟨a, b, rfl, rfl, h.1, here k r h.2 (.str _)⟩
    | _ => exact (show False from h).elim
  | tup a =>
    cases he with
    | tup h2 t2 =>
      cases hd with
      | tup h1 t1 =>
        refine op_catA pins s σ H _ _ v u Q I rx ry ⟨_, _, _, _, rfl, rfl, h1, h2, by rw [t1.length, t2.length]; exact h.1, fun e1 => ?_, fun _ e2 => ?_, fun _ _ n hn => ?_⟩
        · subst e1
          cases t1
          exact here k r h.2 (.tup h2 t2)
        · subst e2
          cases t2
          exact here k r h.2 (.tup h1 (by rw [List.append_nil]; exact t1))
        · exact k _ _ _ _ h.2 (step_new hn) (r.new hn) (Rep.newT r hn (t1.append t2))
    | _ => exact (show False from h).elim
  | lst a => exact cat_ok I rx ry r hd he h k
  | ref p => exact cat_ok I rx ry r hd he h k
  | non => cases he <;> exact (show False from h).elim
  | bl _ => cases he <;> exact (show False from h).elim
  | ty _ => cases he <;> exact (show False from h).elim
  | scr _ => cases he <;> exact (show False from h).elim
/-- a * b -/
def mulD : R2D := fun x y G Q => match x, y with
  | .int i, .int j => CMul i j ∧ Q (.int (i * j)) G
  | .tup a, .int n => (a ≠ [] ∧ 2 ≤ n ∧ n ≤ 1000 ∧ a.length ≤ 1000) ∧ Q (.tup (List.replicate n.toNat a).flatten) G
  | .lst a, .int n => (-(2 ^ 63) ≤ n ∧ n < 2 ^ 63 ∧ a.length * n.toNat ≤ sizeLine) ∧ Q (.lst (List.replicate n.toNat a).flatten) G
  | _, _ => False
theorem od_mul : OpD X (binaryOp .Mult) mulD := by
  intro P pins s σ H x y v u Q I rx ry ⟨d, e, G, QD, r, hd, he, h, k⟩
  cases d with
  | int i =>
    cases hd
    cases he with
    | int j => exact op_mul pins s σ H _ _ v u Q I rx ry ⟨i, j, rfl, rfl, h.1, here k r h.2 (.int _)⟩
    | _ => exact (show False from h).elim
  | tup a =>
    cases he with
    | int n =>
      cases hd with
      | tup h1 t1 =>
        obtain ⟨⟨c1, c2, c3, c4⟩, q⟩ := h
        have ne : ∀ xs : List V, RepL X.K P G H xs a → xs ≠ [] := fun xs t z => c1 (by subst z; cases t; rfl)
        exact op_repT pins s σ H _ _ v u Q I rx ry ⟨_, n, _, rfl, rfl, h1, ne _ t1, c2, c3, by rw [t1.length]; exact c4, fun p hp => k _ _ _ _ q (step_new hp) (r.new hp) (Rep.newT r hp (t1.replicate _))⟩
    | _ => exact (show False from h).elim
  | lst a =>
    cases he with
    | int n =>
      cases hd with
      | lst h1 _ _ t1 =>
        obtain ⟨⟨c1, c2, c3⟩, q⟩ := h
        exact op_rep pins s σ H _ _ v u Q I rx ry ⟨_, n, _, rfl, rfl, h1, c1, c2, by rw [t1.length]; exact c3, fun p hp => k _ _ _ _ q (step_new hp) (r.new hp) (Rep.newL r hp (t1.replicate _))⟩
    | _ => exact (show False from h).elim
  | ref p => cases he <;> exact (show False from h).elim
  | non => cases he <;> exact (show False from h).elim
  | bl _ => cases he <;> exact (show False from h).elim
  | ty _ => cases he <;> exact (show False from h).elim
  | scr _ => cases he <;> exact (show False from h).elim
  | str _ => cases he <;> exact (show False from h).elim
/-- a < b: ints, texts -/
def ltD : R2D := fun x y G Q => match x, y with
  | .int i, .int j => Q (.bl (decide (i < j))) G
  | .str a, .str b => Q (.bl (decide (a.cps.toList < b.cps.toList))) G
  | _, _ => False
theorem od_lt : OpD X (compareOp .Lt) ltD := by
  intro P pins s σ H x y v u Q I rx ry ⟨d, e, G, QD, r, hd, he, h, k⟩
  cases hd with
  | int i =>
    cases he with
    | int j => exact op_lt pins s σ H _ _ v u Q I rx ry ⟨i, j, rfl, rfl, here k r h (.bl _)⟩
    | _ => exact (show False from h).elim
  | str a =>
    cases he with
    | str b => exact op_lt_str pins s σ H _ _ v u Q I rx ry ⟨a, b, rfl, rfl, here k r h (.bl _)⟩
    | _ => exact (show False from h).elim
  | _ => cases he <;> exact (show False from h).elim
/-- x is None -/
def isNon : D → Bool
  | .non => true
  | _ => false
def isND : R2D := fun x y G Q => match y with
  | .non => Q (.bl (isNon x)) G
  | _ => False
def notND : R2D := fun x y G Q => match y with
  | .non => Q (.bl (!isNon x)) G
  | _ => False
theorem isNon_rep {K : PySem.W.Frag} {P : Addr → Prop} {G : GH} {H : Hp} {v : V} {d : D} (h : Rep K P G H v d) : decide (v = .non) = isNon d := by
  cases h <;> rfl
theorem od_isN : OpD X (compareOp .Is) isND := by
  intro P pins s σ H x y v u Q I rx ry ⟨d, e, G, QD, r, hd, he, h, k⟩
  cases he with
  | non => exact op_isN pins s σ H _ _ v u Q I rx ry ⟨rfl, by rw [isNon_rep hd]; exact here k r h (.bl _)⟩
  | _ => exact (show False from h).elim
theorem od_notN : OpD X (compareOp .IsNot) notND := by
  intro P pins s σ H x y v u Q I rx ry ⟨d, e, G, QD, r, hd, he, h, k⟩
  cases he with
  | non => exact op_notN pins s σ H _ _ v u Q I rx ry ⟨rfl, by rw [isNon_rep hd]; exact here k r h (.bl _)⟩
  | _ => exact (show False from h).elim
/-- x == y: the scalars by themselves, all else as data -/
def eqS : D → D → Option Bool
  | .non, .non => some true
  | .int i, .int j => some (decide (i = j))
  | .bl i, .bl j => some (decide (i = j))
  | .str i, .str j => some (decide (i = j))
  | .non, .int _ => some false
  | .int _, .non => some false
  | .non, .bl _ => some false
  | .bl _, .non => some false
  | .non, .str _ => some false
  | .str _, .non => some false
  | .int _, .str _ => some false
  | .str _, .int _ => some false
  | .bl _, .str _ => some false
  | .str _, .bl _ => some false
  | _, _ => none
def eqQ (neg : Bool) : R2D := fun x y G Q => match eqS x y with
  | some b => Q (.bl (b ^^ neg)) G
  | none => (shapedD (valD G x) = true ∧ shapedD (valD G y) = true) ∧ Q (.bl (PyData.eqv (valD G x).py (valD G y).py ^^ neg)) G
theorem eqS_rep {K : PySem.W.Frag} {P : Addr → Prop} {G : GH} {H : Hp} {v u : V} {d e : D} {b : Bool} (h1 : Rep K P G H v d) (h2 : Rep K P G H u e) (q : eqS d e = some b) : scal v u = true ∧ decide (v = u) = b := by
  cases h1 <;> cases h2 <;> first
    | (cases q; exact ⟨rfl, rfl⟩)
    | (cases q; refine ⟨rfl, ?_⟩; simp)
    | cases q
abbrev eqD : R2D := eqQ false
abbrev neD : R2D := eqQ true
theorem od_eq (hu : X.A.units + 64 < cLine) : OpD X (compareOp .Eq) eqD := by
  intro P pins s σ H x y v u Q I rx ry ⟨d, e, G, QD, r, hd, he, h, k⟩
  have h : (match eqS d e with
    | some b => QD (.bl (b ^^ false)) G
    | none => (shapedD (valD G d) = true ∧ shapedD (valD G e) = true) ∧ QD (.bl (PyData.eqv (valD G d).py (valD G e).py ^^ false)) G) := h
  split at h
  · rename_i b q
    obtain ⟨q1, q2⟩ := eqS_rep hd he q
    rw [Bool.xor_false] at h
    exact op_eq pins s σ H _ _ v u Q I rx ry ⟨q1, by rw [q2]; exact here k r h (.bl _)⟩
  · obtain ⟨⟨s1, s2⟩, h⟩ := h
    rw [Bool.xor_false] at h
    exact op_eqD hu pins s σ H _ _ v u Q I rx ry ⟨_, _, val_dp r hd s1, val_dp r he s2, s1, s2, here k r h (.bl _)⟩
theorem od_ne (hu : X.A.units + 64 < cLine) : OpD X (compareOp .NotEq) neD := by
  intro P pins s σ H x y v u Q I rx ry ⟨d, e, G, QD, r, hd, he, h, k⟩
  have h : (match eqS d e with
    | some b => QD (.bl (b ^^ true)) G
    | none => (shapedD (valD G d) = true ∧ shapedD (valD G e) = true) ∧ QD (.bl (PyData.eqv (valD G d).py (valD G e).py ^^ true)) G) := h
  split at h
  · rename_i b q
    obtain ⟨q1, q2⟩ := eqS_rep hd he q
    rw [Bool.xor_true] at h
    exact op_ne pins s σ H _ _ v u Q I rx ry ⟨q1, by rw [q2]; exact here k r h (.bl _)⟩
  · obtain ⟨⟨s1, s2⟩, h⟩ := h
    rw [Bool.xor_true] at h
    exact op_neD hu pins s σ H _ _ v u Q I rx ry ⟨_, _, val_dp r hd s1, val_dp r he s2, s1, s2, here k r h (.bl _)⟩
/-- x in y: one sign in a text, data in a list or a tuple -/
def inQ (neg : Bool) : R2D := fun x y G Q => match y with
  | .str z => match x with
    | .str a => match a.cps.toList with
      | [c] => Q (.bl (decide (c ∈ z.cps.toList) ^^ neg)) G
      | _ => False
    | _ => False
  | y => (shapedD x = true ∧ shapedD (valD G y) = true) ∧ match asQ y G with
    | some ds => Q (.bl ((ds.any fun z => PyData.eqv z.py x.py) ^^ neg)) G
    | none => False
abbrev inD : R2D := inQ false
abbrev ninD : R2D := inQ true
theorem one_sign {a : Str} {c : Nat} (h : a.cps.toList = [c]) : a = ⟨#[c]⟩ := by
  obtain ⟨l⟩ := a
  have : l = #[c] := by
    apply Array.toList_inj.mp
    exact h
  rw [this]
theorem any_py (ds : List D) (d : PyData) : (ds.any fun z => PyData.eqv z.py d) = (pyL ds).any fun z => PyData.eqv z d := by
  rw [pyL_map, List.any_map]
  rfl
theorem in_data {neg : Bool} (hu : X.A.units + 65 < cLine) {P : Addr → Prop} {pins : List (Addr × Obj)} {s : Shared} {σ : L2.St} {H : Hp} {x y : V} {v u : Value} {Q : VK} {d e : D} {G : GH} {QD : DK} (I : Inv X pins σ H s) (rx : RelV x v) (ry : RelV y u) (r : Rl X.K P G H) (hd : Rep X.K P G H x d) (he : Rep X.K P G H y e)
    (h : (shapedD d = true ∧ shapedD (valD G e) = true) ∧ match asQ e G with
      | some ds => QD (.bl ((ds.any fun z => PyData.eqv z.py d.py) ^^ neg)) G
      | none => False)
    (k : ∀ d' G' v H', QD d' G' → Step G H G' H' → Rl X.K P G' H' → Rep X.K P G' H' v d' → Q v H') : wpAny (model X.prog X.w) X.A (compareOp (if neg = true then .NotIn else .In) v u) (EP X pins σ Q) X.xe s := by
  obtain ⟨⟨s1, s2⟩, h⟩ := h
  have dx : Dp X.K H x d.py := hd.dp (SeqAt.canLay_of_shaped s1)
  have dy := val_dp r he s2
  obtain ⟨as, r1⟩ := Dp.reads I _ x v dx rx
  obtain ⟨bs, r2⟩ := Dp.reads I _ y u dy ry
  split at h
  · rename_i ds eds
    have key : (valD G e).py = .list (pyL ds) ∨ (valD G e).py = .tuple (pyL ds) := by
      cases he with
      | lst _ _ _ _ => cases eds; exact .inl (by simp [valD, D.py])
      | frz _ _ => cases eds; exact .inl (by simp [valD, D.py])
      | tup _ _ => cases eds; exact .inr (by simp [valD, D.py])
      | ref a =>
        have e1 : (match G a with | some (.lst a) => some a | _ => none) = some ds := eds
        split at e1
        · rename_i z
          cases e1
          exact .inl (by simp [valD, z, D.py])
        · cases e1
      | _ => cases eds
    rw [any_py] at h
    have hn : ∀ b : Bool, QD (.bl b) G → EP X pins σ Q (.bool b) s := fun b q => ⟨.bl b, H, I, rfl, here k r q (.bl _)⟩
    rcases key with e1 | e1
    · have s2 : SeqAt.shaped (.list (pyL ds)) = true := by rw [← e1]; exact s2
      rw [e1] at r2
      cases neg with
      | true => exact SeqAt.notIn_list_reads r2 r1 (SeqAt.canLay_of_shaped s2) (SeqAt.canLay_of_shaped s1) (room_in_shaped s1 hu) (hn _ (by simpa using h))
      | false => exact SeqAt.in_list_reads r2 r1 (SeqAt.canLay_of_shaped s2) (SeqAt.canLay_of_shaped s1) (room_in_shaped s1 hu) (hn _ (by simpa using h))
    · have s2 : SeqAt.shaped (.tuple (pyL ds)) = true := by rw [← e1]; exact s2
      rw [e1] at r2
      cases neg with
      | true => exact SeqAt.notIn_tuple_reads r2 r1 (SeqAt.canLay_of_shaped s2) (SeqAt.canLay_of_shaped s1) (room_in_shaped s1 hu) (hn _ (by simpa using h))
      | false => exact SeqAt.in_tuple_reads r2 r1 (SeqAt.canLay_of_shaped s2) (SeqAt.canLay_of_shaped s1) (room_in_shaped s1 hu) (hn _ (by simpa using h))
  · exact h.elim
theorem od_in (hu : X.A.units + 65 < cLine) : OpD X (compareOp .In) inD := by
  intro P pins s σ H x y v u Q I rx ry ⟨d, e, G, QD, r, hd, he, h, k⟩
  cases e with
  | str z =>
    cases he
    cases hd with
    | str a =>
      have h : (match a.cps.toList with | [c] => QD (.bl (decide (c ∈ z.cps.toList) ^^ false)) G | _ => False) := h
      split at h
      · rename_i c ec
        rw [Bool.xor_false] at h
        exact op_in_sign pins s σ H _ _ v u Q I rx ry ⟨c, z, by rw [one_sign ec], rfl, here k r h (.bl _)⟩
      · exact h.elim
    | _ => exact (show False from h).elim
  | _ => exact in_data (neg := false) hu I rx ry r hd he h k
theorem od_nin (hu : X.A.units + 65 < cLine) : OpD X (compareOp .NotIn) ninD := by
  intro P pins s σ H x y v u Q I rx ry ⟨d, e, G, QD, r, hd, he, h, k⟩
  cases e with
  | str z =>
    cases he
    cases hd with
    | str a =>
      have h : (match a.cps.toList with | [c] => QD (.bl (decide (c ∈ z.cps.toList) ^^ true)) G | _ => False) := h
      split at h
      · rename_i c ec
        rw [Bool.xor_true] at h
        exact op_notIn_sign pins s σ H _ _ v u Q I rx ry ⟨c, z, by rw [one_sign ec], rfl, here k r h (.bl _)⟩
      · exact h.elim
    | _ => exact (show False from h).elim
  | _ => exact in_data (neg := true) hu I rx ry r hd he h k
/-! ### items, slices, stores -/
def ixD : R2D := fun x y G Q => match y with
  | .int i => match x with
    | .str z => z.length ≤ sizeLine ∧ match atI z.cps.toList i with
      | some c => Q (.str ⟨#[c]⟩) G
      | none => False
    | x => match asQ x G with
      | some ds => match atI ds i with
        | some d => Q d G
        | none => False
      | none => False
  | _ => False
theorem RepL.atI {K : PySem.W.Frag} {P : Addr → Prop} {G : GH} {H : Hp} {xs : List V} {ds : List D} {i : Int} {d : D} (t : RepL K P G H xs ds) (h : L2.atI ds i = some d) : ∃ v, L2.atI xs i = some v ∧ Rep K P G H v d := by
  unfold L2.atI at h ⊢
  rw [t.length]
  cases e : ixN ds.length i with
  | none => rw [e] at h; cases h
  | some j =>
    rw [e] at h
    obtain ⟨v, h1, h2⟩ := t.get (show ds[j]? = some d from h)
    exact ⟨v, h1, h2⟩
theorem ixd_seq : IxD X ixD := by
  intro P ev es pins s σ H x y v u Q I rx ry ⟨d, e, G, QD, r, hd, he, h, k⟩ hsub
  cases he with
  | int i =>
    have seq : ∀ ds, asQ d G = some ds → (match L2.atI ds i with | some d => QD d G | none => False) → wpAny (model X.prog X.w) X.A (subscriptTail ev es v u) (EP X pins σ Q) X.xe s := fun ds e1 h => by
      split at h
      · rename_i d' ed
        obtain ⟨p, xs, rfl, hs, t⟩ := asQ_rep r hd e1
        obtain ⟨w, h1, h2⟩ := t.atI ed
        rcases hs with hs | hs
        · exact ix_list ev es pins s σ H _ _ v u Q I rx ry ⟨p, xs, i, w, rfl, rfl, hs, h1, here k r h h2⟩ hsub
        · exact ix_tup ev es pins s σ H _ _ v u Q I rx ry ⟨p, xs, i, w, rfl, rfl, hs, h1, here k r h h2⟩ hsub
      · exact h.elim
    cases d with
    | str z =>
      cases hd
      have h : z.length ≤ sizeLine ∧ (match L2.atI z.cps.toList i with | some c => QD (.str ⟨#[c]⟩) G | none => False) := h
      obtain ⟨hz, h⟩ := h
      split at h
      · rename_i c ec
        exact ix_str ev es pins s σ H _ _ v u Q I rx ry ⟨z, i, c, rfl, rfl, hz, ec, here k r h (.str _)⟩ hsub
      · exact h.elim
    | lst a => exact seq a rfl h
    | tup a => exact seq a rfl h
    | scr a => exact seq a rfl h
    | ref p =>
      have h : (match asQ (.ref p) G with | some ds => (match L2.atI ds i with | some d => QD d G | none => False) | none => False) := h
      split at h
      · rename_i ds e1
        exact seq ds e1 h
      · exact h.elim
    | _ => exact (show False from h).elim
  | _ => exact (show False from h).elim
def setD : RSet := fun o i v G Q => match o, i with
  | .ref p, .int i => match G p with
    | some (.lst ds) => match ixN ds.length i with
      | some j => Q (updG G p (.lst (ds.set j v)))
      | none => False
    | _ => False
  | _, _ => False
theorem setd_list : SetD X setD := by
  intro P pins s σ H o i v ov iv u Q I ro ri rv ⟨d, j, e, G, QD, r, hd, hj, he, h, k⟩
  cases hd with
  | ref p =>
    cases hj with
    | int i =>
      have h : (match G p with | some (.lst ds) => (match ixN ds.length i with | some j => QD (updG G p (.lst (ds.set j e))) | none => False) | _ => False) := h
      split at h
      · rename_i ds g
        split at h
        · rename_i n en
          obtain ⟨xs, hp, t⟩ := r.h p _ g
          exact set_list pins s σ H _ _ _ ov iv u Q I ro ri rv ⟨p, xs, i, n, rfl, rfl, hp, by rw [t.length]; exact en, k _ _ h (step_put g) (r.put g (t.set he n))⟩
        · exact h.elim
      · exact h.elim
    | _ => exact (show False from h).elim
  | _ => cases hj <;> exact (show False from h).elim
def cutD (ds : List D) (lo hi : Option Int) : List D := (ds.drop (HT.sIx ds.length 0 lo)).take (HT.sIx ds.length ds.length hi - HT.sIx ds.length 0 lo)
def slD : RSl := fun x lo hi G Q => match x with
  | .tup a => Q (.tup (cutD a lo hi)) G
  | .str z => z.length ≤ sizeLine ∧ Q (.str (cutS z lo hi)) G
  | .lst a => Q (.lst (cutD a lo hi)) G
  | .scr a => Q (.lst (cutD a lo hi)) G
  | .ref p => match G p with
    | some (.lst a) => Q (.lst (cutD a lo hi)) G
    | _ => False
  | _ => False
theorem RepL.cut {K : PySem.W.Frag} {P : Addr → Prop} {G : GH} {H : Hp} {xs : List V} {ds : List D} (t : RepL K P G H xs ds) (lo hi : Option Int) : RepL K P G H (cutV xs lo hi) (cutD ds lo hi) := by
  unfold cutV cutD
  rw [t.length]
  exact (t.drop _).take _
theorem cut_whole {ds : List D} {lo hi : Option Int} (h : HT.sIx ds.length 0 lo = 0 ∧ HT.sIx ds.length ds.length hi = ds.length) : cutD ds lo hi = ds := by
  unfold cutD
  rw [h.1, h.2]
  simp
theorem sld_seq : SlD X slD := by
  intro P pins s σ H x v vl vu lo hi sl Q I rx hs pl pu ⟨d, G, QD, r, hd, h, k⟩
  have lst : ∀ p xs a, x = .ref p → SqL X.K H p xs → RepL X.K P G H xs a → QD (.lst (cutD a lo hi)) G → _ := fun p xs a e hq t q =>
    sl_list pins s σ H x v vl vu lo hi sl Q I rx hs pl pu ⟨p, xs, e, hq, fun n hn => k _ _ _ _ q (step_new hn) (r.new hn) (Rep.newL r hn (t.cut lo hi))⟩
  cases hd with
  | tup hq t =>
    refine sl_tupA pins s σ H _ v vl vu lo hi sl Q I rx hs pl pu ⟨_, _, rfl, hq, fun w => ?_, fun _ n hn => k _ _ _ _ h (step_new hn) (r.new hn) (Rep.newT r hn (t.cut lo hi))⟩
    have h : QD (.tup (cutD _ lo hi)) G := h
    rw [t.length] at w
    rw [cut_whole w] at h
    exact here k r h (.tup hq t)
  | str z => exact sl_str pins s σ H _ v vl vu lo hi sl Q I rx hs pl pu ⟨z, rfl, h.1, here k r h.2 (.str _)⟩
  | lst e _ _ t => exact lst _ _ _ rfl (.of e) t h
  | frz e t => exact lst _ _ _ rfl e.seq t h
  | ref p =>
    have h : (match G p with | some (.lst a) => QD (.lst (cutD a lo hi)) G | _ => False) := h
    split at h
    · rename_i a g
      obtain ⟨xs, hp, t⟩ := r.h p _ g
      exact lst _ _ _ rfl (.of hp) t h
    · exact h.elim
  | _ => exact (show False from h).elim
end
end DL

end

section
set_option Elab.async false
set_option linter.all false
set_option maxRecDepth 100000
set_option maxHeartbeats 1000000
namespace DL
open PySem PySem.Spec PyProof.Rows L2

/-! ## what the model brings: calls -/
section
variable {X : Cx}
theorem RepL.one {K : PySem.W.Frag} {P : Addr → Prop} {G : GH} {H : Hp} {xs : List V} {d : D} (t : RepL K P G H xs [d]) : ∃ v, xs = [v] ∧ Rep K P G H v d := by
  cases t with
  | cons h t => cases t; exact ⟨_, rfl, h⟩
theorem RepL.two {K : PySem.W.Frag} {P : Addr → Prop} {G : GH} {H : Hp} {xs : List V} {d e : D} (t : RepL K P G H xs [d, e]) : ∃ v u, xs = [v, u] ∧ Rep K P G H v d ∧ Rep K P G H u e := by
  cases t with
  | cons h t =>
    obtain ⟨u, rfl, q⟩ := t.one
    exact ⟨_, _, rfl, h, q⟩
def on1 (f : D → GH → DK → Prop) : List D → GH → DK → Prop := fun ds G Q => match ds with
  | [d] => f d G Q
  | _ => False
def on2 (f : D → D → GH → DK → Prop) : List D → GH → DK → Prop := fun ds G Q => match ds with
  | [d, e] => f d e G Q
  | _ => False
theorem cd_one {fv : Value} {f : D → GH → DK → Prop} (h : ∀ (P : Addr → Prop) (pins : List (Addr × Obj)) (s : Shared) (σ : L2.St) (H : Hp) (v : V) (u : Value) (d : D) (G : GH) (QD : DK) (Q : VK), Inv X pins σ H s → RelV v u → Rl X.K P G H → Rep X.K P G H v d → f d G QD →
    (∀ d' G' v H', QD d' G' → Step G H G' H' → Rl X.K P G' H' → Rep X.K P G' H' v d' → Q v H') → wpAny (model X.prog X.w) X.A (call fv [u]) (EP X pins σ Q) X.xe s) : CallD X fv (on1 f) := by
  intro P pins s σ H xs us Q I rs ⟨ds, G, QD, r, t, q, k⟩
  unfold on1 at q
  split at q
  · obtain ⟨v, rfl, hd⟩ := t.one
    obtain ⟨u, rfl, ru⟩ := vals1 rs
    exact h P pins s σ H v u _ G QD Q I ru r hd q k
  · exact q.elim
/-- the same, from a rule by values -/
theorem cd_one' {fv : Value} {f : D → GH → DK → Prop} {rr : List V → Hp → VK → Prop} (ho : CallR X fv rr) (h : ∀ (P : Addr → Prop) (H : Hp) (v : V) (d : D) (G : GH) (QD : DK) (Q : VK), Rl X.K P G H → Rep X.K P G H v d → f d G QD →
    (∀ d' G' v H', QD d' G' → Step G H G' H' → Rl X.K P G' H' → Rep X.K P G' H' v d' → Q v H') → rr [v] H Q) : CallD X fv (on1 f) :=
  cd_one fun P pins s σ H v u d G QD Q I ru r hd q k => ho pins s σ H [v] [u] Q I (.cons ru .nil) (h P H v d G QD Q r hd q k)
theorem cd_two' {fv : Value} {f : D → D → GH → DK → Prop} {rr : List V → Hp → VK → Prop} (ho : CallR X fv rr) (h : ∀ (P : Addr → Prop) (H : Hp) (v u : V) (d e : D) (G : GH) (QD : DK) (Q : VK), Rl X.K P G H → Rep X.K P G H v d → Rep X.K P G H u e → f d e G QD →
    (∀ d' G' v H', QD d' G' → Step G H G' H' → Rl X.K P G' H' → Rep X.K P G' H' v d' → Q v H') → rr [v, u] H Q) : CallD X fv (on2 f) := by
  intro P pins s σ H xs us Q I rs ⟨ds, G, QD, r, t, q, k⟩
  unfold on2 at q
  split at q
  · obtain ⟨v, u, rfl, h1, h2⟩ := t.two
    exact ho pins s σ H _ us Q I rs (h P H v u _ _ G QD Q r h1 h2 q k)
  · exact q.elim
/-- len -/
def lenF : D → GH → DK → Prop := fun d G Q => match d with
  | .str x => x.length ≤ sizeLine ∧ Q (.int x.length) G
  | d => match asQ d G with
    | some a => Q (.int a.length) G
    | none => False
theorem seq_len {K : PySem.W.Frag} {P : Addr → Prop} {G : GH} {H : Hp} {v : V} {d : D} {a : List D} (r : Rl K P G H) (h : Rep K P G H v d) (e : asQ d G = some a) : LenV K v H a.length := by
  obtain ⟨p, xs, rfl, h1, t⟩ := asQ_rep r h e
  rcases h1 with h1 | h1
  · exact .inl ⟨xs, h1, t.length.symm⟩
  · exact .inr ⟨xs, h1, t.length.symm⟩
theorem cd_len : CallD X (.builtin "len") (on1 lenF) := cd_one' call_len fun P H v d G QD Q r h q k => by
  have seq : ∀ a, asQ d G = some a → QD (.int a.length) G → _ := fun a e q => (⟨v, a.length, rfl, seq_len r h e, here k r q (.int _)⟩ : ∃ x n, [v] = [x] ∧ LenV X.K x H n ∧ Q (.int n) H)
  cases d with
  | str x =>
    cases h
    exact ⟨_, _, rfl, ⟨q.1, rfl⟩, here k r q.2 (.int _)⟩
  | _ =>
    unfold lenF at q
    dsimp only at q
    split at q
    · rename_i a e
      exact seq a e q
    · exact q.elim
/-- int -/
def intF : D → GH → DK → Prop := fun d G Q => match d with
  | .int i => Q (.int i) G
  | .bl k => Q (.int (if k then 1 else 0)) G
  | _ => False
theorem cd_int : CallD X (.type "int") (on1 intF) := cd_one' call_int1 fun P H v d G QD Q r h q k => by
  cases h with
  | int i => exact .inl ⟨i, rfl, here k r q (.int _)⟩
  | bl b => exact .inr ⟨b, rfl, here k r q (.int _)⟩
  | _ => exact (show False from q).elim
/-- min of two -/
def minF : D → D → GH → DK → Prop := fun d e G Q => match d, e with
  | .int i, .int j => Q (.int (min i j)) G
  | _, _ => False
theorem cd_min2 (hc : X.calm = true) : CallD X (.builtin "min") (on2 minF) := cd_two' (call_min2 hc) fun P H v u d e G QD Q r h1 h2 q k => by
  cases h1 with
  | int i =>
    cases h2 with
    | int j =>
      refine ⟨i, j, rfl, ?_⟩
      have e : (if j < i then j else i) = min i j := by omega
      rw [e]
      exact here k r q (.int _)
    | _ => exact (show False from q).elim
  | _ => exact (show False from q).elim
/-- the class of a datum -/
def tyD (G : GH) : D → Option String
  | .non => some "NoneType"
  | .bl _ => some "bool"
  | .int _ => some "int"
  | .str _ => some "str"
  | .tup _ => some "tuple"
  | .lst _ => some "list"
  | .scr _ => some "list"
  | .ref p => match G p with
    | some (.lst _) => some "list"
    | _ => none
  | .ty _ => none
def isK (a b : String) : Bool := a == b || (a == "bool" && b == "int")
def isaF : D → D → GH → DK → Prop := fun d e G Q => match e with
  | .ty b => match tyD G d with
    | some a => b ∈ ["int", "bool", "str", "tuple", "list", "dict"] ∧ Q (.bl (isK a b)) G
    | none => False
  | _ => False
theorem tyD_mem {G : GH} {d : D} {a : String} (h : tyD G d = some a) : a ∈ ["NoneType", "bool", "int", "str", "tuple", "list"] := by
  unfold tyD at h
  split at h
  any_goals (cases h; decide)
  · split at h
    · cases h; decide
    · cases h
  · cases h
theorem isK_kit {K : PySem.W.Frag} {a b : String} (ha : a ∈ ["NoneType", "bool", "int", "str", "tuple", "list"]) (hb : b ∈ ["int", "bool", "str", "tuple", "list", "dict"]) : PySem.W.kitOne K (.type a) (.type b) = some (isK a b) := by
  simp only [List.mem_cons, List.not_mem_nil, or_false] at ha hb
  rcases ha with rfl | rfl | rfl | rfl | rfl | rfl <;> rcases hb with rfl | rfl | rfl | rfl | rfl | rfl <;> exact kit_ty (by decide +kernel)
theorem ty_rep {K : PySem.W.Frag} {P : Addr → Prop} {G : GH} {H : Hp} {v : V} {d : D} {a : String} (r : Rl K P G H) (h : Rep K P G H v d) (e : tyD G d = some a) : TyX K H v (.type a) := by
  cases h with
  | non => cases e; exact .base .non
  | bl b => cases e; exact .base (.bl b)
  | int i => cases e; exact .base (.int i)
  | str x => cases e; exact .base (.str x)
  | ty n => cases e
  | tup h t =>
    cases e
    rcases h with (h | ⟨o, h⟩) | ⟨o, its, n, h, c, _⟩
    · exact .base (.tup h)
    · exact .fTuple h
    · exact .kTuple h c
  | lst h _ _ t => cases e; exact .base (.lst h)
  | frz h t =>
    cases e
    rcases h with ⟨o, h⟩ | ⟨o, its, n, h, c, _⟩
    · exact .base (.frz h)
    · exact .kList h c
  | ref p =>
    have e : (match G p with | some (.lst _) => some "list" | _ => none) = some a := e
    split at e
    · rename_i g
      cases e
      obtain ⟨xs, h, _⟩ := r.h p _ g
      exact .base (.lst h)
    · cases e
theorem cd_isa : CallD X (.builtin "isinstance") (on2 isaF) := cd_two' call_isi fun P H v u d e G QD Q r h1 h2 q k => by
  cases h2 with
  | ty b =>
    have q : (match tyD G d with | some a => b ∈ ["int", "bool", "str", "tuple", "list", "dict"] ∧ QD (.bl (isK a b)) G | none => False) := q
    split at q
    · rename_i a ea
      exact ⟨v, .ty b, .type a, .type b, _, rfl, .ty b, ty_rep r h1 ea, isK_kit (tyD_mem ea) q.1, here k r q.2 (.bl _)⟩
    · exact q.elim
  | _ => exact (show False from q).elim
/-- list(..), a new list that is not written -/
def listF : D → GH → DK → Prop := fun d G Q => match asQ d G with
  | some a => Q (.lst a) G
  | none => False
def listMF : D → GH → DK → Prop := fun d G Q => match asQ d G with
  | some a => ∀ p, G p = none → Q (.ref p) (updG G p (.lst a))
  | none => False
theorem cd_list : CallD X (.type "list") (on1 listF) := cd_one' call_list_of fun P H v d G QD Q r h q k => by
  unfold listF at q
  split at q
  · rename_i a e
    obtain ⟨p, xs, rfl, h1, t⟩ := asQ_rep r h e
    exact ⟨p, xs, rfl, h1, fun l hl => k _ _ _ _ q (step_new hl) (r.new hl) (Rep.newL r hl t)⟩
  · exact q.elim
theorem cd_listM : CallD X (.type "list") (on1 listMF) := cd_one' call_list_of fun P H v d G QD Q r h q k => by
  unfold listMF at q
  split at q
  · rename_i a e
    obtain ⟨p, xs, rfl, h1, t⟩ := asQ_rep r h e
    exact ⟨p, xs, rfl, h1, fun l hl => k _ _ _ _ (q l (r.free hl)) (step_newG hl) (r.newL hl t) (.ref l)⟩
  · exact q.elim
/-- tuple(..) -/
def tupF : D → GH → DK → Prop := fun d G Q => match asQ d G with
  | some a => Q (.tup a) G
  | none => False
theorem asQ_lst {K : PySem.W.Frag} {P : Addr → Prop} {G : GH} {H : Hp} {v : V} {d : D} {a : List D} (r : Rl K P G H) (h : Rep K P G H v d) (e : asQ d G = some a) (n : ∀ b, d ≠ .tup b) : ∃ p xs, v = .ref p ∧ SqL K H p xs ∧ RepL K P G H xs a := by
  cases h with
  | lst h1 _ _ t => cases e; exact ⟨_, _, rfl, .of h1, t⟩
  | tup h1 t => exact absurd rfl (n _)
  | frz h1 t => cases e; exact ⟨_, _, rfl, h1.seq, t⟩
  | ref a =>
    have e1 : (match G a with | some (.lst a) => some a | _ => none) = some _ := e
    split at e1
    · rename_i z
      cases e1
      obtain ⟨xs, h1, t⟩ := r.h a _ z
      exact ⟨_, _, rfl, .of h1, t⟩
    · cases e1
  | _ => cases e
theorem asQ_tup {G : GH} {d : D} {a : List D} (e : asQ d G = some a) : (d = .tup a) ∨ ∀ b, d ≠ .tup b := by
  cases d with
  | tup b => cases e; exact .inl rfl
  | _ => exact .inr fun b z => nomatch z
theorem cd_tup : CallD X (.type "tuple") (on1 tupF) := cd_one' call_tuple_of fun P H v d G QD Q r h q k => by
  unfold tupF at q
  split at q
  · rename_i a e
    rcases asQ_tup e with z | z
    · subst z
      cases h with
      | tup h1 t => exact ⟨_, _, rfl, .inr ⟨h1, here k r q (.tup h1 t)⟩⟩
    · obtain ⟨p, xs, rfl, h1, t⟩ := asQ_lst r h e z
      exact ⟨p, xs, rfl, .inl ⟨h1, fun l hl => k _ _ _ _ q (step_new hl) (r.new hl) (Rep.newT r hl t)⟩⟩
  · exact q.elim
end
end DL

end

section
set_option Elab.async false
set_option linter.all false
set_option maxRecDepth 100000
set_option maxHeartbeats 1000000
namespace DL
open PySem PySem.Spec PyProof.Rows L2

/-! ## all, any, sorted, methods -/
section
variable {X : Cx}
theorem rep_bls {K : PySem.W.Frag} {P : Addr → Prop} {G : GH} {H : Hp} : ∀ {xs : List V} {bs : List Bool}, RepL K P G H xs (bs.map .bl) → xs = bs.map V.bl
  | _, [], t => by cases t; rfl
  | _, b :: bs, t => by
    cases t with
    | cons h t =>
      cases h
      rw [rep_bls t] <;> rfl
def allF : D → GH → DK → Prop := fun d G Q => match asL d G with
  | some a => ∃ bs : List Bool, a = bs.map .bl ∧ Q (.bl (bs.all id)) G
  | none => False
def anyF : D → GH → DK → Prop := fun d G Q => match asL d G with
  | some a => ∃ bs : List Bool, a = bs.map .bl ∧ Q (.bl (bs.any id)) G
  | none => False
theorem cd_all (hc : X.calm = true) : CallD X (.builtin "all") (on1 allF) := cd_one' (cr_all hc) fun P H v d G QD Q r h q k => by
  unfold allF at q
  split at q
  · rename_i a e
    obtain ⟨bs, rfl, q⟩ := q
    obtain ⟨p, xs, rfl, h1, t⟩ := asL_rep r h e
    exact ⟨p, bs, rfl, .of (by rw [← rep_bls t]; exact h1), here k r q (.bl _)⟩
  · exact q.elim
theorem cd_any (hc : X.calm = true) : CallD X (.builtin "any") (on1 anyF) := cd_one' (cr_any hc) fun P H v d G QD Q r h q k => by
  unfold anyF at q
  split at q
  · rename_i a e
    obtain ⟨bs, rfl, q⟩ := q
    obtain ⟨p, xs, rfl, h1, t⟩ := asL_rep r h e
    exact ⟨p, bs, rfl, .of (by rw [← rep_bls t]; exact h1), here k r q (.bl _)⟩
  · exact q.elim

/-! ### sorted -/
structure SrtOk (a : List D) : Prop where
  al : PySem.W.AllAlike (a.map D.py)
  so : PySem.W.Sortable (a.map D.py)
  lay : ∀ d ∈ a, d.py.canLay0 = true
  dep : ∀ d ∈ a, d.py.depth ≤ 40
  len : a.length ≤ sizeLine
def sortF (rev : Bool) : D → GH → DK → Prop := fun d G Q => match asQ d G with
  | some a => SrtOk a ∧ Q (.lst (a.mergeSort (PySem.W.dataLe rev D.py))) G
  | none => False
section
variable {prog : Program} {w : World} {A : Around} {E : Value → Shared → Prop} {s : Shared}
/-- what sorted copies: a tuple's items too -/
theorem collectT {l : Addr} {vs : List Value} {Q : List Value → Shared → Prop} (hl : IsTup s.heap l vs.toArray)
    (h : Q vs { s with heap := (s.heap.push (seqObj "list" #[] 0)).update s.heap.objs.size (Obj.mapSeq (· ++ vs.toArray)) }) (hsz : vs.length ≤ sizeLine) :
    wpAny (model prog w) A (collect (.ref l)) Q E s := by
  obtain ⟨o, ho, hc, n, hd⟩ := id hl
  unfold collect
  refine wpAny_bind (wpAny_runValue (codeAny_builtin entry_proto_collect' ?_))
  show wpAny _ _ (newList [] >>= fun l0 => again (.builtin "list.__iadd__" ⟨[l0, .ref l], []⟩)) _ _ s
  refine wpAny_bind (wpAny_newList (wpAny_pure ⟨Code.quiet_builtin _ (by decide +kernel), codeAny_builtin entry_list_iadd' ?_⟩))
  show wpAny _ _ (Builtin.List.listExtendWith (.ref s.heap.objs.size) (.ref l) (.ref s.heap.objs.size)) _ _ { s with heap := s.heap.push (seqObj "list" #[] 0) }
  unfold Builtin.List.listExtendWith
  have ho' : (s.heap.push (seqObj "list" #[] 0)).get? l = some o := Heap.get?_push_of_some _ ho
  refine wpAny_bind (wpAny_typeOf (T := "tuple") ⟨o, ho', hc⟩ ?_)
  have ht : (Value.type "tuple" == Value.type "tuple") = true := by rfl
  rw [if_pos (by rw [ht]; simp)]
  refine wpAny_bind (listItems_at ho' hd ?_)
  refine wpAny_bind (listItems_at (n := 0) (xs := #[]) (Heap.get?_push_size _ rfl) rfl ?_)
  rw [if_neg (by simp)]
  refine wpAny_bind (listUpdate_at (n := 0) (xs := #[]) (Heap.get?_push_size _ rfl) rfl ?_ (Nat.zero_le _) (by show (#[] ++ vs.toArray).size ≤ sizeLine + 1; simp only [Array.size_append, List.size_toArray, List.length_nil]; omega))
  refine wpAny_pure ?_
  show wpAny (model prog w) A (load s.heap.objs.size >>= fun o => match o.data with
      | .seq xs _ => pure xs.toList
      | _ => unsupported "internal:collect") Q E { s with heap := (s.heap.push (seqObj "list" #[] 0)).update s.heap.objs.size (Obj.mapSeq (· ++ vs.toArray)) }
  refine wpAny_bind (wpAny_load (get?_update_seq (Heap.get?_push_size _ rfl) _) ?_)
  show wpAny _ _ (pure ((#[] : Array Value) ++ vs.toArray).toList) Q E _
  refine wpAny_pure ?_
  have e : ((#[] : Array Value) ++ vs.toArray).toList = vs := by simp
  rw [e]
  exact h
/-- xs: a list or a tuple -/
def SeqAtV (h : Heap) (l : Addr) (vs : List Value) : Prop := h.IsList l vs.toArray ∨ IsTup h l vs.toArray
theorem srt_of {l : Addr} {vs : List Value} {kw : List (Str × Value)} {Q : Value → Shared → Prop} (hl : SeqAtV s.heap l vs) (hL : vs.length ≤ sizeLine) (ha1 : argsOk "sorted" ⟨[.ref l], kw⟩) (ha2 : ∀ x, argsOk "list.sort" ⟨[.ref x], kw⟩)
    (body : ∀ E' : Value → Shared → Prop, wpAny (model prog w) A.in1.in1 (Builtin.«list.sort» ⟨[.ref (s.heap.objs.size + 1)], kw⟩) (fun f s' => f = .done (.ret .none) ∧ Q (.ref (s.heap.objs.size + 1)) s') E' { s with heap := PySem.W.copyHeap s.heap vs }) :
    wpAny (model prog w) A (call (.builtin "sorted") [.ref l] kw) Q E s := by
  rcases hl with hl | hl
  · exact PySem.W.sorted_of_sort hl hL ha1 ha2 body
  refine call_function_entry_kw kind_sorted plain_sorted entry_sorted ha1 ?_
  unfold Builtin.«sorted»
  refine wpAny_bind (m := checkCount "sorted" 1 1 _) (wpAny_pure ?_)
  refine wpAny_bind (collectT hl ?_ hL)
  refine wpAny_bind (wpAny_newList ?_ hL)
  have hsz : ((s.heap.push (seqObj "list" #[] 0)).update s.heap.objs.size (Obj.mapSeq (· ++ vs.toArray))).objs.size = s.heap.objs.size + 1 := by
    rw [Heap.size_update, size_push']
  show wpAny _ _ _ _ _ { s with heap := PySem.W.copyHeap s.heap vs }
  rw [hsz]
  refine wpAny_bind (wpAny_holding (wpAny_call_entry_kw slot_list_sort ⟨_, PySem.W.copyHeap_at s.heap vs, rfl⟩ entry_list_sort ?b (ha2 _)))
  case b =>
    show wpAny (model prog w) A.in1.in1 (Builtin.«list.sort» ⟨[.ref (s.heap.objs.size + 1)], kw⟩) _ _ _
    refine wpAny_mono (body _) (fun f s' hf => ?_) fun _ _ e => e
    obtain ⟨rfl, hq⟩ := hf
    exact ⟨_, rfl, wpAny_pure ⟨_, rfl, hq⟩⟩
end
theorem each_rep {K : PySem.W.Frag} {P : Addr → Prop} {G : GH} {H : Hp} : ∀ {xs : List V} {vs : List Value} {ds : List D}, Vals xs vs → RepL K P G H xs ds → PySem.W.EachIs (fun v d => ∃ x, RelV x v ∧ Rep K P G H x d) vs ds
  | _, _, _, .nil, .nil => .nil
  | _, _, _, .cons r t, .cons h u => .cons ⟨_, r, h⟩ (each_rep t u)
theorem rep_each {K : PySem.W.Frag} {P : Addr → Prop} {G : GH} {H : Hp} : ∀ {vs : List Value} {ds : List D}, PySem.W.EachIs (fun v d => ∃ x, RelV x v ∧ Rep K P G H x d) vs ds → ∃ xs, Vals xs vs ∧ RepL K P G H xs ds
  | _, _, .nil => ⟨[], .nil, .nil⟩
  | _, _, .cons ⟨x, r, h⟩ t => by
    obtain ⟨xs, a, b⟩ := rep_each t
    exact ⟨x :: xs, .cons r a, .cons h b⟩
theorem each_reads {pins : List (Addr × Obj)} {σ : L2.St} {s : Shared} {P : Addr → Prop} {G : GH} {H : Hp} (I : Inv X pins σ H s) : ∀ {xs : List V} {vs : List Value} {ds : List D}, Vals xs vs → RepL X.K P G H xs ds → (∀ d ∈ ds, d.py.canLay0 = true) → PySem.W.EachIs (fun v d => ∃ as, Reads s.heap v d.py as) vs ds
  | _, _, _, .nil, .nil, _ => .nil
  | _, _, _, .cons r t, .cons h u, l => .cons (Dp.reads I _ _ _ (h.dp (l _ (by simp))) r) (each_reads I t u fun d hd => l d (by simp [hd]))
theorem srt_run {rev : Bool} {kw : List (Str × Value)} {P : Addr → Prop} {pins : List (Addr × Obj)} {s : Shared} {σ : L2.St} {H : Hp} {v : V} {u : Value} {d : D} {G : GH} {QD : DK} {Q : VK} (hu : X.A.units + 64 < cLine) (I : Inv X pins σ H s) (ru : RelV v u) (r : Rl X.K P G H) (h : Rep X.K P G H v d) (q : sortF rev d G QD)
    (k : ∀ d' G' v H', QD d' G' → Step G H G' H' → Rl X.K P G' H' → Rep X.K P G' H' v d' → Q v H')
    (ha1 : ∀ l, argsOk "sorted" ⟨[.ref l], kw⟩) (ha2 : ∀ x, argsOk "list.sort" ⟨[.ref x], kw⟩) (hkw : ∀ a, Builtin.«list.sort» ⟨[.ref a], kw⟩ = Builtin.«list.sort» ⟨[.ref a], [(Str.ofString "reverse", .bool rev)]⟩) :
    wpAny (model X.prog X.w) X.A (call (.builtin "sorted") [u] kw) (EP X pins σ Q) X.xe s := by
  unfold sortF at q
  split at q
  · rename_i a e
    obtain ⟨ok, q⟩ := q
    obtain ⟨p, xs, rfl, hq, t⟩ := asQ_rep r h e
    cases ru
    obtain ⟨its, rv, pl⟩ : ∃ its, Vals xs its ∧ SeqAtV s.heap p its := by
      rcases hq with hq | hq
      · obtain ⟨its, rv, pl, _⟩ := I.list hq
        exact ⟨its, rv, .inl pl.isList⟩
      · obtain ⟨its, rv, pl, _⟩ := I.tuple hq
        exact ⟨its, rv, .inr pl⟩
    have hlen : its.length = a.length := by rw [← rv.length, t.length]
    have er := each_reads I rv t ok.lay
    have er' : PySem.W.EachIs (fun v b => ∃ as, Reads (PySem.W.sortingHeap (PySem.W.copyHeap s.heap its) (s.heap.objs.size + 1) its) v b.py as) its a := er.mono fun _ _ ⟨as, r⟩ => ⟨as, PyProof.Rows.Reads.keeps (fun _ _ => PySem.W.sorting_copy_old) r⟩
    have S := PySem.W.SortsAt.data (prog := X.prog) (w := X.w) (A := X.A.in1.in1) (s := { s with heap := PySem.W.sortingHeap (PySem.W.copyHeap s.heap its) (s.heap.objs.size + 1) its })
      (PySem.W.each_map (R := fun v d => ∃ as, Reads (PySem.W.sortingHeap (PySem.W.copyHeap s.heap its) (s.heap.objs.size + 1) its) v d as) D.py er') ok.al ok.so (PySem.W.bound_map fun b hb => by have := ok.dep b hb; show X.A.units + 1 + 1 + _ < _; omega)
    refine srt_of pl (by rw [hlen]; exact ok.len) (ha1 _) ha2 fun E' => ?_
    rw [hkw]
    refine PySem.W.list_sort_rev_vals (s := { s with heap := PySem.W.copyHeap s.heap its }) (PySem.W.copyHeap_at s.heap its) S (by rw [hlen]; exact ok.len) ⟨rfl, ?_⟩
    have out := PySem.W.sortVals_data rev (each_rep rv t) er' ok.al
    obtain ⟨ys, ry, ty⟩ := rep_each out
    obtain ⟨ep, he'⟩ := PyProof.Rows.sortedAll_at s.heap its (PySem.W.sortVals (PySem.W.dataKind (PySem.W.sortingHeap (PySem.W.copyHeap s.heap its) (s.heap.objs.size + 1) its) (a.map D.py)) rev its its).toArray
    have hn := I.hok.fresh (Nat.le_succ s.heap.objs.size)
    have hl2 : ys.length ≤ sizeLine := by rw [ty.length, List.length_mergeSort]; exact ok.len
    exact ⟨.ref _, upd H (s.heap.objs.size + 1) (.lst ys), I.laid (t' := s.toks) (fun _ _ => PyProof.Rows.sortedAll_old) (Nat.le_succ _) ⟨hl2, _, ep, ry, he'⟩, rfl, k _ _ _ _ q (step_new hn) (r.new hn) (Rep.newL r hn ty)⟩
  · exact q.elim
theorem cd_sorted (hu : X.A.units + 64 < cLine) : CallD X (.builtin "sorted") (on1 (sortF false)) := cd_one fun P pins s σ H v u d G QD Q I ru r h q k =>
  srt_run hu I ru r h q k (fun _ => PyProof.Rows.args_sorted1 _) (fun _ => PyProof.Rows.args_list_sort _) PySem.W.plain_is_rev
variable {c : DC} {e : Expr} {te : DE} {p pos : Pos} {kws : List Keyword}
/-- sorted(e, reverse=True) -/
theorem d_sortedRev {kpos j cp} (hu : X.A.units + 64 < cLine) (hg : Gl X "sorted") (hm : X.mg "sorted" = none) (hv : bootBuiltins "sorted" = some (.builtin "sorted")) (he : PE X e (lE X.K c te))
    (h1 : backTo pos (starEach [e] X.env) = (false, eval e X.env) :: backTo pos (starEach [] X.env) := by rfl) (hpl : (backTo pos (starEach [e] X.env)).any (·.1) = false := by rfl)
    (hall : (backToKw pos (keywordEach [⟨some "reverse", .Constant (.bool true) j cp, kpos⟩] X.env)).all (·.1.isSome) = true := by rfl) (hnone : (backToKw pos (keywordEach [⟨some "reverse", .Constant (.bool true) j cp, kpos⟩] X.env)).any (·.1.isNone) = false := by rfl)
    (hks : (backToKw pos (keywordEach [⟨some "reverse", .Constant (.bool true) j cp, kpos⟩] X.env)).filterMap (·.1) = [Str.ofString "reverse"] := by rfl) (hs : starEach [e] X.env = (false, eval e X.env) :: starEach [] X.env := by rfl) :
    PE X (.Call (.Name "sorted" p) [e] [⟨some "reverse", .Constant (.bool true) j cp, kpos⟩] pos) (lE X.K c (dCB (on1 (sortF true)) (dCons te dNil))) :=
  PE_imp (pe_callBK (r := fun vs zs H Q => zs = [.bl true] ∧ lCR X.K c.P (on1 (sortF true)) vs H Q) (fun pins s σ H xs zs us ws Q I r rz ⟨ez, ds, G, QD, rl, t, q, k⟩ => by
    subst ez
    obtain ⟨w1, rfl, e1⟩ := vals1 rz
    obtain rfl : w1 = Value.bool true := e1
    unfold on1 at q
    split at q
    · obtain ⟨v, rfl, hd⟩ := t.one
      obtain ⟨u, rfl, ru⟩ := vals1 r
      exact srt_run hu I ru rl hd q k (fun _ => PyProof.Rows.args_sorted_rev _ _) (fun _ => PyProof.Rows.args_list_sort_rev _ _) fun _ => rfl
    · exact q.elim) hg hm hv (da_cons he da_nil hs) (pk_cons pe_bl pk_nil) (by decide) (by decide) h1 hpl hall hnone hks)
  fun σ H Q h => by
    obtain ⟨ρ, G, QD, u, h, k⟩ := h
    exact ⟨ρ, G, _, u, h, fun ds G1 vs H1 q1 s1 r1 p1 => ⟨rfl, ds, G1, QD, r1, p1, q1, fun d' G' v H' q2 s2 r2 p2 => k _ _ _ _ q2 (s1.trans s2) r2 p2⟩⟩
end
end DL

end

section
set_option Elab.async false
set_option linter.all false
set_option maxRecDepth 100000
set_option maxHeartbeats 1000000
namespace DL
open PySem PySem.Spec PyProof.Rows L2

/-! ## methods of lists -/
section
variable {X : Cx} {c : DC} {o e : Expr} {to te : DE} {apos cpos : Pos}
/-- d is a list of one's own -/
def ownL (d : D) (G : GH) (k : Addr → Prop) : Prop := match d with
  | .ref p => match G p with
    | some (.lst _) => k p
    | _ => False
  | _ => False
def getL (G : GH) (p : Addr) (k : List D → Prop) : Prop := match G p with
  | some (.lst ds) => k ds
  | _ => False
theorem ownL_of {d : D} {G : GH} {k : Addr → Prop} (h : ownL d G k) : ∃ p ds, d = .ref p ∧ G p = some (.lst ds) ∧ k p := by
  unfold ownL at h
  split at h
  · split at h
    · rename_i p _ ds e
      exact ⟨p, ds, rfl, e, h⟩
    · exact h.elim
  · exact h.elim
theorem getL_of {G : GH} {p : Addr} {k : List D → Prop} (h : getL G p k) : ∃ ds, G p = some (.lst ds) ∧ k ds := by
  unfold getL at h
  split at h
  · rename_i ds e
    exact ⟨ds, e, h⟩
  · exact h.elim
theorem Rl.tyL {K : PySem.W.Frag} {P : Addr → Prop} {G : GH} {H : Hp} {p : Addr} {ds : List D} (r : Rl K P G H) (h : G p = some (.lst ds)) : tyV K "list" (.ref p) H := by
  obtain ⟨xs, e, _⟩ := r.h p _ h
  exact .inl ⟨rfl, xs, .of e⟩
abbrev M1 := Addr → D → GH → DK → Prop
def dM1 (f : M1) (to te : DE) : DE := fun ρ G Q => to ρ G fun d G1 => ownL d G1 fun p => te ρ G1 fun y G2 => f p y G2 Q
def dM0 (f : Addr → GH → DK → Prop) (to : DE) : DE := fun ρ G Q => to ρ G fun d G1 => ownL d G1 fun p => f p G1 Q
def M1Ok (K : PySem.W.Frag) (r : V → List V → Hp → VK → Prop) (f : M1) : Prop := ∀ (P : Addr → Prop) (p : Addr) (y : D) (v : V) (G : GH) (H : Hp) (QD : DK) (Q : VK), Rl K P G H → Rep K P G H v y → f p y G QD → (∀ d' G' v H', QD d' G' → Step G H G' H' → Rl K P G' H' → Rep K P G' H' v d' → Q v H') → r (.ref p) [v] H Q
def M0Ok (K : PySem.W.Frag) (r : V → List V → Hp → VK → Prop) (f : Addr → GH → DK → Prop) : Prop := ∀ (P : Addr → Prop) (p : Addr) (G : GH) (H : Hp) (QD : DK) (Q : VK), Rl K P G H → f p G QD → (∀ d' G' v H', QD d' G' → Step G H G' H' → Rl K P G' H' → Rep K P G' H' v d' → Q v H') → r (.ref p) [] H Q
variable {id : String} {name : Str} {r : V → List V → Hp → VK → Prop} {f : M1} {f0 : Addr → GH → DK → Prop}
theorem d_m1 (slot : Slot "list" name id) (hty : typeOf (.builtin id) = pure (.type "method_descriptor")) (hm : MtR X id r) (hf : M1Ok X.K r f) (ho : PE X o (lE X.K c to)) (he : PE X e (lE X.K c te)) (hbase : attributeBase o name X.env (eval o X.env) = eval o X.env := by rfl)
    (hfew : ((backTo cpos (starEach [e] X.env)).all (fun x => !x.1) && (backToKw cpos (keywordEach [] X.env)).all (fun x => x.1.isSome)
      && decide ([e].length + ([] : List Keyword).length + (if ([] : List Keyword).isEmpty then 0 else 1) < 30)) = true := by rfl)
    (hline : (apos.endLine == cpos.line) = true := by rfl) (hs : starEach [e] X.env = (false, eval e X.env) :: starEach [] X.env := by rfl) (hplain : (backTo cpos (starEach [] X.env)).any (·.1) = false := by rfl) :
    PE X (.Call (.Attribute o name apos) [e] [] cpos) (lE X.K c (dM1 f to te)) :=
  PE_imp (pe_bm PySem.F.plainAttrs_list slot hty hm ho (pa_cons he pa_nil hs) hbase hfew hline hs hplain) fun σ H Q ⟨ρ, G, QD, u, h, k⟩ => ⟨ρ, G, _, u, h, fun d G1 v H1 q s1 r1 p1 => by
    obtain ⟨p, ds0, rfl, e0, q⟩ := ownL_of q
    cases p1
    exact ⟨r1.tyL e0, ρ, G1, _, u.step s1 r1, q, fun y G2 w H2 q2 s2 r2 p2 => hf c.P p y w G2 H2 QD Q r2 p2 q2 fun d' G' v' H' q3 s3 r3 p3 => k _ _ _ _ q3 (s1.trans (s2.trans s3)) r3 p3⟩⟩
theorem d_m0 (slot : Slot "list" name id) (hty : typeOf (.builtin id) = pure (.type "method_descriptor")) (hm : MtR X id r) (hf : M0Ok X.K r f0) (ho : PE X o (lE X.K c to)) (hbase : attributeBase o name X.env (eval o X.env) = eval o X.env := by rfl)
    (hline : (apos.endLine == cpos.line) = true := by rfl) : PE X (.Call (.Attribute o name apos) [] [] cpos) (lE X.K c (dM0 f0 to)) :=
  PE_imp (pe_bm0 PySem.F.plainAttrs_list slot hty hm ho hbase hline) fun σ H Q ⟨ρ, G, QD, u, h, k⟩ => ⟨ρ, G, _, u, h, fun d G1 v H1 q s1 r1 p1 => by
    obtain ⟨p, ds0, rfl, e0, q⟩ := ownL_of q
    cases p1
    exact ⟨r1.tyL e0, hf c.P p G1 H1 QD Q r1 q fun d' G' v' H' q3 s3 r3 p3 => k _ _ _ _ q3 (s1.trans s3) r3 p3⟩⟩
def appF : M1 := fun p y G Q => getL G p fun ds => ds.length < sizeLine ∧ Q .non (updG G p (.lst (ds ++ [y])))
theorem m_append : M1Ok X.K rAppend appF := fun P p y v G H QD Q r h q k => by
  obtain ⟨ds, e, hl, q⟩ := getL_of q
  obtain ⟨xs, hx, t⟩ := r.h p _ e
  exact ⟨p, xs, v, rfl, rfl, hx, by rw [t.length]; exact hl, k _ _ _ _ q (step_put e) (r.put e (t.append (.cons h .nil))) .non⟩
def extF : M1 := fun p y G Q => getL G p fun ds => match asL y G with
  | some es => ds.length + es.length ≤ sizeLine ∧ Q .non (updG G p (.lst (ds ++ es)))
  | none => False
theorem m_extend : M1Ok X.K rExtend extF := fun P p y v G H QD Q r h q k => by
  obtain ⟨ds, e, q⟩ := getL_of q
  obtain ⟨xs, hx, t⟩ := r.h p _ e
  split at q
  · rename_i es ey
    obtain ⟨b, zs, rfl, hb, t2⟩ := asL_rep r h ey
    exact ⟨p, b, xs, zs, rfl, rfl, hx, hb, by rw [t.length, t2.length]; exact q.1, k _ _ _ _ q.2 (step_put e) (r.put e (t.append t2)) .non⟩
  · exact q.elim
def popF : Addr → GH → DK → Prop := fun p G Q => getL G p fun ds => match ds[ds.length - 1]? with
  | some d => Q d (updG G p (.lst ds.dropLast))
  | none => False
theorem m_pop : M0Ok X.K rPop popF := fun P p G H QD Q r q k => by
  obtain ⟨ds, e, q⟩ := getL_of q
  obtain ⟨xs, hx, t⟩ := r.h p _ e
  split at q
  · rename_i d ed
    obtain ⟨v, hv, pv⟩ := t.get ed
    exact ⟨p, xs, v, rfl, rfl, hx, by rw [t.length]; exact hv, k _ _ _ _ q (step_put e) (r.put e t.dropLast) (pv.mono r (step_put e))⟩
  · exact q.elim
abbrev d_append (ho : PE X o (lE X.K c to)) (he : PE X e (lE X.K c te)) (hbase : attributeBase o "append" X.env (eval o X.env) = eval o X.env := by rfl)
    (hfew : ((backTo cpos (starEach [e] X.env)).all (fun x => !x.1) && (backToKw cpos (keywordEach [] X.env)).all (fun x => x.1.isSome)
      && decide ([e].length + ([] : List Keyword).length + (if ([] : List Keyword).isEmpty then 0 else 1) < 30)) = true := by rfl)
    (hline : (apos.endLine == cpos.line) = true := by rfl) (hs : starEach [e] X.env = (false, eval e X.env) :: starEach [] X.env := by rfl) (hplain : (backTo cpos (starEach [] X.env)).any (·.1) = false := by rfl) :
    PE X (.Call (.Attribute o "append" apos) [e] [] cpos) (lE X.K c (dM1 appF to te)) := d_m1 PySem.F.slot_list_append PySem.F.type_list_append mt_append m_append ho he hbase hfew hline hs hplain
abbrev d_extend (ho : PE X o (lE X.K c to)) (he : PE X e (lE X.K c te)) (hbase : attributeBase o "extend" X.env (eval o X.env) = eval o X.env := by rfl)
    (hfew : ((backTo cpos (starEach [e] X.env)).all (fun x => !x.1) && (backToKw cpos (keywordEach [] X.env)).all (fun x => x.1.isSome)
      && decide ([e].length + ([] : List Keyword).length + (if ([] : List Keyword).isEmpty then 0 else 1) < 30)) = true := by rfl)
    (hline : (apos.endLine == cpos.line) = true := by rfl) (hs : starEach [e] X.env = (false, eval e X.env) :: starEach [] X.env := by rfl) (hplain : (backTo cpos (starEach [] X.env)).any (·.1) = false := by rfl) :
    PE X (.Call (.Attribute o "extend" apos) [e] [] cpos) (lE X.K c (dM1 extF to te)) := d_m1 PySem.F.slot_list_extend PySem.F.type_list_extend mt_extend m_extend ho he hbase hfew hline hs hplain
abbrev d_pop (ho : PE X o (lE X.K c to)) (hbase : attributeBase o "pop" X.env (eval o X.env) = eval o X.env := by rfl) (hline : (apos.endLine == cpos.line) = true := by rfl) :
    PE X (.Call (.Attribute o "pop" apos) [] [] cpos) (lE X.K c (dM0 popF to)) := d_m0 PySem.F.slot_list_pop PySem.F.type_list_pop mt_pop m_pop ho hbase hline

/-! ## x += y -/
def plusF : R2D := fun x y G Q => match x, y with
  | .int i, .int j => Q (.int (i + j)) G
  | .str a, .str b => a.length + b.length ≤ sizeLine ∧ Q (.str (a ++ b)) G
  | _, _ => False
theorem ip_plus : IpD X .Add plusF := by
  intro P pins s σ H x y v u Q I rx ry ⟨d, e, G, QD, r, hd, he, h, k⟩
  cases hd with
  | int i =>
    cases he with
    | int j => exact iop_add pins s σ H _ _ v u Q I rx ry ⟨i, j, rfl, rfl, here k r h (.int _)⟩
    | _ => exact (show False from h).elim
  | str a =>
    cases he with
    | str b => exact iop_add_str pins s σ H _ _ v u Q I rx ry ⟨a, b, rfl, rfl, h.1, here k r h.2 (.str _)⟩
    | _ => exact (show False from h).elim
  | _ => cases he <;> exact (show False from h).elim
theorem ip_minus : IpD X .Sub subD := by
  intro P pins s σ H x y v u Q I rx ry ⟨d, e, G, QD, r, hd, he, h, k⟩
  cases hd with
  | int i =>
    cases he with
    | int j => exact iop_sub pins s σ H _ _ v u Q I rx ry ⟨i, j, rfl, rfl, here k r h.2 (.int _)⟩
    | _ => exact (show False from h).elim
  | _ => cases he <;> exact (show False from h).elim
end

/-! ## what is walked -/
section
variable {K : PySem.W.Frag} {P P' : Addr → Prop} {G G' : GH} {H H' : Hp}
mutual
theorem Rep.later (r : Rl K P G H) (s : Step G H G' H') (hp : ∀ a, P' a → P a ∨ H a = none) : ∀ {v : V} {d : D}, Rep K P G H v d → Rep K P' G' H' v d
  | _, _, .non => .non
  | _, _, .bl b => .bl b
  | _, _, .int i => .int i
  | _, _, .str x => .str x
  | _, _, .ty n => .ty n
  | _, _, .ref a => .ref a
  | _, _, .tup h t => .tup (s.sqT r h) (RepL.later r s hp t)
  | _, _, .lst h g p t => .lst (s _ _ h (fun z => z) g).1 (s _ _ h (fun z => z) g).2 (fun z => (hp _ z).elim p fun e => by rw [h] at e; cases e) (RepL.later r s hp t)
  | _, _, .frz h t => .frz (s.frz r h) (RepL.later r s hp t)
theorem RepL.later (r : Rl K P G H) (s : Step G H G' H') (hp : ∀ a, P' a → P a ∨ H a = none) : ∀ {v : List V} {d : List D}, RepL K P G H v d → RepL K P' G' H' v d
  | _, _, .nil => .nil
  | _, _, .cons h t => .cons (Rep.later r s hp h) (RepL.later r s hp t)
end
def yes0 : GH → Prop := fun _ => True
/-- how a walked thing stands: its items, while gd holds -/
def itD (d : D) (G : GH) (k : List D → (GH → Prop) → Prop) : Prop := match d with
  | .lst ds => k ds yes0
  | .tup ds => k ds yes0
  | .scr ds => k ds yes0
  | .str x => k (x.cps.toList.map fun c => .str ⟨#[c]⟩) yes0
  | .ref p => match G p with
    | some (.lst ds) => k ds fun G => G p = some (.lst ds)
    | _ => False
  | _ => False
/-- a list, a tuple; no text -/
def seqD (d : D) (G : GH) (k : List D → (GH → Prop) → Prop) : Prop := match d with
  | .lst ds => k ds yes0
  | .tup ds => k ds yes0
  | .scr ds => k ds yes0
  | .ref p => match G p with
    | some (.lst ds) => k ds fun G => G p = some (.lst ds)
    | _ => False
  | _ => False
end
end DL

end

section
set_option Elab.async false
set_option linter.all false
set_option maxRecDepth 100000
set_option maxHeartbeats 1000000
namespace DL
open PySem PySem.Spec PyProof.Rows L2

/-! ## what is walked: the rules -/
section
variable {K : PySem.W.Frag} {P P' : Addr → Prop} {G : GH} {H : Hp} {v : V} {d : D}
/-- a list's or a tuple's items, now and while gd holds -/
structure Held (K : PySem.W.Frag) (P : Addr → Prop) (R : Hp → Addr → List V → Prop) (a : Addr) (ds : List D) (gd : GH → Prop) (G0 : GH) (H0 : Hp) : Prop where
  now : ∃ xs, R H0 a xs ∧ RepL K P G0 H0 xs ds
  later : ∀ P' : Addr → Prop, (∀ a, P a → P' a) → (∀ a, P' a → P a ∨ H0 a = none) → ∀ G H, Step G0 H0 G H → Rl K P' G H → gd G → ∃ xs, R H a xs ∧ RepL K P' G H xs ds
theorem seq_held {k : List D → (GH → Prop) → Prop} (r : Rl K P G H) (h : Rep K P G H v d) (q : seqD d G k) : ∃ a ds gd, v = .ref a ∧ k ds gd ∧ (Held K P (SqL K) a ds gd G H ∨ Held K P (SqT K) a ds gd G H) := by
  cases h with
  | lst h1 g p t => exact ⟨_, _, _, rfl, q, .inl ⟨⟨_, .of h1, t⟩, fun P' _ hp G' H' s r' _ => ⟨_, .of (s _ _ h1 (fun z => z) g).1, t.later r s hp⟩⟩⟩
  | tup h1 t => exact ⟨_, _, _, rfl, q, .inr ⟨⟨_, h1, t⟩, fun P' _ hp G' H' s r' _ => ⟨_, s.sqT r h1, t.later r s hp⟩⟩⟩
  | frz h1 t => exact ⟨_, _, _, rfl, q, .inl ⟨⟨_, h1.seq, t⟩, fun P' _ hp G' H' s r' _ => ⟨_, (s.frz r h1).seq, t.later r s hp⟩⟩⟩
  | ref p =>
    have q : (match G p with | some (.lst ds) => k ds (fun G => G p = some (.lst ds)) | _ => False) := q
    split at q
    · rename_i ds e
      have z : ∀ {P : Addr → Prop} {G : GH} {H : Hp}, Rl K P G H → G p = some (.lst ds) → ∃ xs, SqL K H p xs ∧ RepL K P G H xs ds := fun r e => by
        obtain ⟨xs, hx, t⟩ := r.h p _ e
        exact ⟨xs, .of hx, t⟩
      exact ⟨_, _, _, rfl, q, .inl ⟨z r e, fun P' _ _ G' H' _ r' e' => z r' e'⟩⟩
    · exact q.elim
  | _ => exact (show False from q).elim
theorem Held.itl {a : Addr} {ds : List D} {gd : GH → Prop} (h : Held K P (SqL K) a ds gd G H) : ItOk K P (Itl K a) ds gd G H := by
  intro P' h1 h2 i G' H' s r g
  obtain ⟨xs, hq, t⟩ := h.later P' h1 h2 G' H' s r g
  refine ⟨fun hi => ?_, fun hi => ⟨xs, hq, by rw [t.length]; exact hi⟩⟩
  obtain ⟨v, hv, pv⟩ := t.get (List.getElem?_eq_getElem hi)
  refine ⟨⟨xs, v, hq, hv⟩, fun x H2 ⟨e, f⟩ => ?_⟩
  subst e
  have e2 := f xs hq
  rw [hv] at e2; cases e2
  exact ⟨_, List.getElem?_eq_getElem hi, pv, Step.refl _ _, r⟩
theorem Held.itt {a : Addr} {ds : List D} {gd : GH → Prop} (h : Held K P (SqT K) a ds gd G H) : ItOk K P (Itt K a) ds gd G H := by
  intro P' h1 h2 i G' H' s r g
  obtain ⟨xs, hq, t⟩ := h.later P' h1 h2 G' H' s r g
  refine ⟨fun hi => ?_, fun hi => ⟨xs, hq, by rw [t.length]; exact hi⟩⟩
  obtain ⟨v, hv, pv⟩ := t.get (List.getElem?_eq_getElem hi)
  refine ⟨⟨xs, v, hq, hv⟩, fun x H2 ⟨e, f⟩ => ?_⟩
  subst e
  have e2 := f xs hq
  rw [hv] at e2; cases e2
  exact ⟨_, List.getElem?_eq_getElem hi, pv, Step.refl _ _, r⟩
theorem its_ok {z : Str} : ItOk K P (Its z) (z.cps.toList.map fun c => .str ⟨#[c]⟩) yes0 G H := by
  intro P' h1 h2 i G' H' s r g
  have len : (z.cps.toList.map fun c => D.str ⟨#[c]⟩).length = z.cps.size := by simp
  refine ⟨fun hi => ⟨by rw [len] at hi; exact hi, fun x H2 ⟨e, c, hc, ex⟩ => ?_⟩, fun hi => by rw [len] at hi; exact hi⟩
  subst e; subst ex
  refine ⟨_, ?_, .str _, Step.refl _ _, r⟩
  rw [List.getElem?_map, Array.getElem?_toList, hc] <;> rfl
theorem itr_ok {lo : Int} {n : Nat} : ItOk K P (Itr lo n) ((List.range n).map fun i => .int (lo + (i : Nat))) yes0 G H := by
  intro P' h1 h2 i G' H' s r g
  have len : ((List.range n).map fun i => D.int (lo + (i : Nat))).length = n := by simp
  refine ⟨fun hi => ⟨by rw [len] at hi; exact hi, fun x H2 ⟨e, ex⟩ => ?_⟩, fun hi => by rw [len] at hi; exact hi⟩
  subst e; subst ex
  rw [len] at hi
  refine ⟨_, ?_, .int _, Step.refl _ _, r⟩
  rw [List.getElem?_map, List.getElem?_range hi] <;> rfl
end
section
variable {X : Cx} {c : DC} {tg e e2 : Expr} {te : DE} {ta : DA} {p pos : Pos}
theorem PI_imp {t t' : TI} (h : PI X tg e t) (i : ∀ σ H R, t' σ H R → t σ H R) : PI X tg e t' := ⟨fun pins s σ H R I q => h.run pins s σ H R I (i _ _ _ q)⟩
/-- a list, a tuple, a text -/
def iAny (K : PySem.W.Frag) (tl : TE) : TI := fun σ H R => tl σ H fun x H1 => (∃ a, x = .ref a ∧ (∃ xs, SqL K H1 a xs) ∧ R (Itl K a) H1) ∨ (∃ a, x = .ref a ∧ (∃ xs, SqT K H1 a xs) ∧ R (Itt K a) H1) ∨ ∃ z, x = .str z ∧ R (Its z) H1
theorem pi_any {tl : TE} (hl : PE X e tl) : PI X tg e (iAny X.K tl) := by
  refine ⟨fun pins s σ H R I h => thn (hl.run pins s σ H _ I h) fun v s1 ⟨x, H1, I1, r1, q1⟩ => ?_⟩
  rcases q1 with ⟨a, rfl, ⟨xs, hq⟩, q⟩ | ⟨a, rfl, ⟨xs, hq⟩, q⟩ | ⟨z, rfl, q⟩
  · cases r1
    obtain ⟨its, rv, pl, _⟩ := I1.list hq
    exact wpAny_pyIter_list pl.isList (pi_one (tk := s1.toks) I1 _ (turn_list a _) ⟨_, Heap.get?_push_size _ rfl, rfl, rfl⟩ q)
  · cases r1
    obtain ⟨its, rv, pl, _⟩ := I1.tuple hq
    exact wpAny_pyIter_tuple (show s1.heap.IsTuple a its.toArray from pl) (pi_one (tk := s1.toks) I1 _ (turn_tuple a _) ⟨_, Heap.get?_push_size _ rfl, rfl, rfl⟩ q)
  · obtain ⟨t, rfl⟩ := r1
    cases ha : z.cps.all (· < 128)
    · exact wpAny_pyIter_wide ha (pi_one (tk := s1.toks) I1 _ (turn_str _ z t "str_iterator" (.inr rfl)) ⟨_, Heap.get?_push_size _ rfl, rfl, rfl⟩ q)
    · exact wpAny_pyIter_ascii ha (pi_one (tk := s1.toks) I1 _ (turn_str _ z t "str_ascii_iterator" (.inl rfl)) ⟨_, Heap.get?_push_size _ rfl, rfl, rfl⟩ q)
def dItr (te : DE) : DI := fun ρ G Q => te ρ G fun d G1 => itD d G1 fun ds gd => Q ds gd G1
theorem itD_seq {d : D} {G : GH} {k : List D → (GH → Prop) → Prop} (n : ∀ z, d ≠ .str z) (h : itD d G k) : seqD d G k := by
  cases d with
  | str z => exact absurd rfl (n z)
  | _ => exact h
theorem di_any (he : PE X e (lE X.K c te)) : PI X tg e (lI X.K c (dItr te)) :=
  PI_imp (pi_any he) fun σ H R ⟨ρ, G, QD, u, h, k⟩ => ⟨ρ, G, _, u, h, fun d G1 v H1 q s1 r1 p1 => by
    by_cases n : ∃ z, d = .str z
    · obtain ⟨z, rfl⟩ := n
      cases p1
      exact .inr (.inr ⟨z, rfl, k _ _ _ _ _ q s1 r1 its_ok⟩)
    · have q := itD_seq (fun z e => n ⟨z, e⟩) q
      obtain ⟨a, ds, gd, rfl, q, hh | hh⟩ := seq_held r1 p1 q
      · obtain ⟨xs, hx, _⟩ := hh.now
        exact .inl ⟨a, rfl, ⟨xs, hx⟩, k _ _ _ _ _ q s1 r1 hh.itl⟩
      · obtain ⟨xs, hx, _⟩ := hh.now
        exact .inr (.inl ⟨a, rfl, ⟨xs, hx⟩, k _ _ _ _ _ q s1 r1 hh.itt⟩)⟩
/-- range -/
def rgD (lo : Int) (n : Nat) : List D := (List.range n).map fun i => .int (lo + (i : Nat))
def dRange1 (ta : DA) : DI := fun ρ G Q => ta ρ G fun ds G1 => match ds with
  | [.int j] => (-(2 ^ 62) ≤ j ∧ j < 2 ^ 62) ∧ Q (rgD 0 j.toNat) yes0 G1
  | _ => False
def dRange2 (ta : DA) : DI := fun ρ G Q => ta ρ G fun ds G1 => match ds with
  | [.int i, .int j] => (-(2 ^ 62) ≤ i ∧ i < 2 ^ 62 ∧ -(2 ^ 62) ≤ j ∧ j < 2 ^ 62) ∧ Q (rgD i (j - i).toNat) yes0 G1
  | _ => False
theorem di_range1 (hg : Gl X "range") (hm : X.mg "range" = none) (ha : PA X [e] (lA X.K c ta)) (hs : starEach [e] X.env = [(false, eval e X.env)] := by rfl) : PI X tg (.Call (.Name "range" p) [e] [] pos) (lI X.K c (dRange1 ta)) :=
  PI_imp (pi_range1 hg hm ha hs) fun σ H R ⟨ρ, G, QD, u, h, k⟩ => ⟨ρ, G, _, u, h, fun ds G1 vs H1 q s1 r1 p1 => by
    split at q
    · rename_i j
      obtain ⟨v, ev, hp⟩ := p1.one
      subst ev
      cases hp with
      | int j => exact ⟨j, rfl, q.1.1, q.1.2, k _ _ _ _ _ q.2 s1 r1 (by unfold rgD; exact itr_ok)⟩
    · exact q.elim⟩
theorem di_range2 (hg : Gl X "range") (hm : X.mg "range" = none) (ha : PA X [e, e2] (lA X.K c ta)) (hs : starEach [e, e2] X.env = [(false, eval e X.env), (false, eval e2 X.env)] := by rfl) (hs2 : starEach [e2] X.env = [(false, eval e2 X.env)] := by rfl) :
    PI X tg (.Call (.Name "range" p) [e, e2] [] pos) (lI X.K c (dRange2 ta)) :=
  PI_imp (pi_range2 hg hm ha hs hs2) fun σ H R ⟨ρ, G, QD, u, h, k⟩ => ⟨ρ, G, _, u, h, fun ds G1 vs H1 q s1 r1 p1 => by
    split at q
    · obtain ⟨v, w, rfl, p1, p2⟩ := p1.two
      cases p1
      cases p2
      exact ⟨_, _, rfl, q.1, k _ _ _ _ _ q.2 s1 r1 (by unfold rgD; exact itr_ok)⟩
    · exact q.elim⟩
/-- zip of two lists or of two tuples -/
def zipL (a b : List D) : List D := (a.zip b).map fun z => .tup [z.1, z.2]
def isT : D → Bool
  | .tup _ => true
  | _ => false
def dZip (ta : DA) : DI := fun ρ G Q => ta ρ G fun ds G1 => match ds with
  | [x, y] => isT x = isT y ∧ seqD x G1 fun a ga => seqD y G1 fun b gb => Q (zipL a b) (fun G => ga G ∧ gb G) G1
  | _ => False
theorem zipL_get {a b : List D} {i : Nat} (h1 : i < a.length) (h2 : i < b.length) : (zipL a b)[i]? = some (.tup [a[i], b[i]]) := by
  have l : i < (a.zip b).length := by rw [List.length_zip]; omega
  unfold zipL
  rw [List.getElem?_map, List.getElem?_eq_getElem l, List.getElem_zip] <;> rfl
theorem zipL_len {a b : List D} : (zipL a b).length = min a.length b.length := by
  unfold zipL
  rw [List.length_map, List.length_zip]
section
variable {K : PySem.W.Frag} {P : Addr → Prop} {G : GH} {H : Hp} {a b : Addr} {ds es : List D} {ga gb : GH → Prop}
theorem itz_ok {R : Hp → Addr → List V → Prop} (J : It) (hgo : ∀ i H, J.go i H = ∃ (xs ys : List V) (x y : V), R H a xs ∧ R H b ys ∧ xs[i]? = some x ∧ ys[i]? = some y)
    (hy : ∀ i H v H', J.yld i H v H' = ∃ T x y, v = .ref T ∧ H T = none ∧ H' = upd H T (.tup [x, y]) ∧ (∀ xs, R H a xs → xs[i]? = some x) ∧ ∀ ys, R H b ys → ys[i]? = some y)
    (hst : ∀ i H, J.stop i H = ∃ xs ys : List V, R H a xs ∧ R H b ys ∧ (xs.length ≤ i ∨ ys.length ≤ i)) (h1 : Held K P R a ds ga G H) (h2 : Held K P R b es gb G H) : ItOk K P J (zipL ds es) (fun G => ga G ∧ gb G) G H := by
  intro P' k1 k2 i G' H' s r ⟨g1, g2⟩
  obtain ⟨xs, hx, tx⟩ := h1.later P' k1 k2 G' H' s r g1
  obtain ⟨ys, hz, ty⟩ := h2.later P' k1 k2 G' H' s r g2
  rw [zipL_len]
  refine ⟨fun hi => ?_, fun hi => by rw [hst]; exact ⟨xs, ys, hx, hz, by rw [tx.length, ty.length]; omega⟩⟩
  have l1 : i < ds.length := by omega
  have l2 : i < es.length := by omega
  obtain ⟨x, ex, px⟩ := tx.get (List.getElem?_eq_getElem l1)
  obtain ⟨y, ey, py⟩ := ty.get (List.getElem?_eq_getElem l2)
  refine ⟨by rw [hgo]; exact ⟨xs, ys, x, y, hx, hz, ex, ey⟩, fun w H2 hw => ?_⟩
  rw [hy] at hw
  obtain ⟨T, x', y', rfl, hT, rfl, f1, f2⟩ := hw
  have q1 := f1 xs hx
  have q2 := f2 ys hz
  rw [ex] at q1; cases q1
  rw [ey] at q2; cases q2
  exact ⟨_, zipL_get l1 l2, Rep.newT r hT (.cons px (.cons py .nil)), step_new hT, r.new hT⟩
end
theorem seq_isT {K : PySem.W.Frag} {P : Addr → Prop} {G : GH} {H : Hp} {v : V} {d : D} {k : List D → (GH → Prop) → Prop} (r : Rl K P G H) (h : Rep K P G H v d) (q : seqD d G k) : ∃ a ds gd, v = .ref a ∧ k ds gd ∧ ((isT d = false ∧ Held K P (SqL K) a ds gd G H) ∨ (isT d = true ∧ Held K P (SqT K) a ds gd G H)) := by
  cases h with
  | tup h1 t => exact ⟨_, _, _, rfl, q, .inr ⟨rfl, ⟨_, h1, t⟩, fun P' _ hp G' H' s r' _ => ⟨_, s.sqT r h1, t.later r s hp⟩⟩⟩
  | lst h1 g p t => exact ⟨_, _, _, rfl, q, .inl ⟨rfl, ⟨_, .of h1, t⟩, fun P' _ hp G' H' s r' _ => ⟨_, .of (s _ _ h1 (fun z => z) g).1, t.later r s hp⟩⟩⟩
  | frz h1 t => exact ⟨_, _, _, rfl, q, .inl ⟨rfl, ⟨_, h1.seq, t⟩, fun P' _ hp G' H' s r' _ => ⟨_, (s.frz r h1).seq, t.later r s hp⟩⟩⟩
  | ref p =>
    have q : (match G p with | some (.lst ds) => k ds (fun G => G p = some (.lst ds)) | _ => False) := q
    split at q
    · rename_i ds e
      have z : ∀ {P : Addr → Prop} {G : GH} {H : Hp}, Rl K P G H → G p = some (.lst ds) → ∃ xs, SqL K H p xs ∧ RepL K P G H xs ds := fun r e => by
        obtain ⟨xs, hx, t⟩ := r.h p _ e
        exact ⟨xs, .of hx, t⟩
      exact ⟨_, _, _, rfl, q, .inl ⟨rfl, z r e, fun P' _ _ G' H' _ r' e' => z r' e'⟩⟩
    · exact q.elim
  | _ => exact (show False from q).elim
theorem di_zip {tpos : Pos} {elts : List Expr} {kk : Nat} (hg : Gl X "zip") (hm : X.mg "zip" = none) (ha : PA X [e, e2] (lA X.K c ta))
    (hs : starEach [e, e2] X.env = (false, eval e X.env) :: starEach [e2] X.env := by rfl) (hpl : (backTo pos (starEach [e2] X.env)).any (·.1) = false := by rfl) :
    PI X (.Tuple elts kk tpos) (.Call (.Name "zip" p) [e, e2] [] pos) (lI X.K c (dZip ta)) :=
  PI_imp (RZ.pi_zipA hg hm ha hs hpl) fun σ H R ⟨ρ, G, QD, u, h, k⟩ => ⟨ρ, G, _, u, h, fun ds G1 vs H1 q s1 r1 p1 => by
    split at q
    · obtain ⟨v, w, rfl, p1, p2⟩ := p1.two
      obtain ⟨et, q⟩ := q
      obtain ⟨a, da, ga, rfl, q, ha⟩ := seq_isT r1 p1 q
      obtain ⟨b, db, gb, rfl, q, hb⟩ := seq_isT r1 p2 q
      have fin : ∀ J, ItOk X.K c.P J (zipL da db) (fun G => ga G ∧ gb G) G1 H1 → R J H1 := fun J it => k _ _ _ _ J q s1 r1 it
      rcases ha with ⟨t1, ha⟩ | ⟨t1, ha⟩
      · rcases hb with ⟨t2, hb⟩ | ⟨t2, hb⟩
        · obtain ⟨xs, hx, _⟩ := ha.now
          obtain ⟨ys, hy, _⟩ := hb.now
          exact ⟨a, b, xs, ys, rfl, .inl ⟨hx, hy, fin _ (itz_ok _ (fun _ _ => rfl) (fun _ _ _ _ => rfl) (fun _ _ => rfl) ha hb)⟩⟩
        · rw [t1, t2] at et; cases et
      · rcases hb with ⟨t2, hb⟩ | ⟨t2, hb⟩
        · rw [t1, t2] at et; cases et
        · obtain ⟨xs, hx, _⟩ := ha.now
          obtain ⟨ys, hy, _⟩ := hb.now
          exact ⟨a, b, xs, ys, rfl, .inr ⟨hx, hy, fin _ (itz_ok _ (fun _ _ => rfl) (fun _ _ _ _ => rfl) (fun _ _ => rfl) ha hb)⟩⟩
    · exact q.elim⟩
end
end DL

end

section
set_option Elab.async false
set_option linter.all false
set_option maxRecDepth 100000
set_option maxHeartbeats 1000000
namespace DL
open PySem PySem.Spec PyProof.Rows L2

/-! ## enumerate of a list or a tuple -/
set_option maxHeartbeats 1000000 in
theorem enum_made {v : Value} {o : Obj} {H : Heap → Prop} (B : Begins v o H) :
    Meets (Builtin.«enumerate.__new__» ⟨[.type "enumerate", v], []⟩) (fun _ R s => H s.heap ∧
      R (.ok (.ret (.ref (s.heap.push o).objs.size))) { s with heap := (s.heap.push o).push { cls := .type "enumerate", data := .fields #[.none, .bool false, .ref s.heap.objs.size, rawInt 0, .none, .none] } }) :=
  .of_wp fun prog w A R s h => by
    obtain ⟨hp, g, d, tk, os⟩ := s
    obtain ⟨h1, h⟩ := h
    have hsub := sub_enumerate
    have it : ∀ {A' : Around} {E : Value → Shared → Prop} {Q : Value → Shared → Prop}, Q (.ref hp.objs.size) ⟨hp.push o, g, d, tk, os⟩ → wpAny (model prog w) A' (pyIter v) Q E ⟨hp, g, d, tk, os⟩ :=
      fun q => B.iter prog w _ _ ⟨hp, g, d, tk, os⟩ _ h1 q
    wp_walk using it
    refine wpAny_stack_any fun st => wpAny_pure ?_
    split
    · rename_i c _ _ _ _ _
      cases (c == Value.type "enumerate") <;> (wp_walk using it; exact ⟨_, rfl, h⟩)
    · wp_walk using it
      exact ⟨_, rfl, h⟩
section
variable {prog : Program} {w : World} {A : Around} {E : Value → Shared → Prop} {s : Shared}
theorem enum_call {v : Value} {o : Obj} {H : Heap → Prop} {Q : Value → Shared → Prop} (B : Begins v o H) (h1 : H s.heap)
    (h : ∀ h', IsEnum h' (s.heap.objs.size + 1) s.heap.objs.size 0 .none → h'.get? s.heap.objs.size = some o → h'.objs.size = s.heap.objs.size + 2 →
      (∀ b o, s.heap.get? b = some o → h'.get? b = some o) → Q (.ref (s.heap.objs.size + 1)) { s with heap := h' }) :
    wpAny (model prog w) A (call (.type "enumerate") [v]) Q E s := by
  refine callType_new F.called_enumerate (by decide) (F.typeCall_enumerate_1 _) (F.newCall_enumerate_1 _) (fun obj => F.args_object_init_2 obj _) F.entry_enumerate_new (enum_made B) ⟨h1, ?_⟩
  have hz : (s.heap.push o).objs.size = s.heap.objs.size + 1 := Heap.size_push ..
  show _ ∧ _
  rw [hz]
  have he : IsEnum ((s.heap.push o).push { cls := .type "enumerate", data := .fields #[.none, .bool false, .ref s.heap.objs.size, rawInt 0, .none, .none] }) (s.heap.objs.size + 1) s.heap.objs.size 0 .none := by
    have q := Heap.get?_push_size (s.heap.push o) (o := { cls := .type "enumerate", data := .fields #[.none, .bool false, .ref s.heap.objs.size, rawInt 0, .none, .none] }) rfl
    rw [hz] at q; exact q
  exact ⟨⟨_, he, rfl⟩, h _ he (Heap.get?_push_of_some _ (Heap.get?_push_size _ B.free)) (by rw [Heap.size_push, hz]) fun b o x => Heap.get?_push_of_some _ (Heap.get?_push_of_some _ x)⟩
end
def IteT (K : PySem.W.Frag) (a : Addr) : It :=
  ⟨fun i H => ∃ (xs : List V) (x : V), SqT K H a xs ∧ xs[i]? = some x, fun i H v H' => ∃ T x, v = .ref T ∧ H T = none ∧ H' = upd H T (.tup [.int (i : Nat), x]) ∧ ∀ xs, SqT K H a xs → xs[i]? = some x, fun i H => ∃ xs : List V, SqT K H a xs ∧ xs.length ≤ i⟩
theorem turn_enumT {P : Program} {w : World} {K : PySem.W.Frag} {elts : List Expr} {kk : Nat} {tpos : Pos} (a e it : Addr) (ha : a ≠ it) (hae : a ≠ e) :
    Turn P w K (.Tuple elts kk tpos) (IteT K a) [e, it] e (fun i h => (∃ old, IsEnum h e it ((i : Nat) : Int) old) ∧ h.IsTupleIter it a i ∧ e ≠ it) where
  mem := by simp
  obj := fun i h st b hb => by
    obtain ⟨⟨old, he⟩, ⟨o, ho, hc, hd⟩, _⟩ := st
    rcases (show b = e ∨ b = it by simpa using hb) with z | z
    · rw [z]; exact ⟨_, he, fun v q => nomatch q⟩
    · rw [z]; exact ⟨o, ho, fun v q => by rw [hd] at q; cases q⟩
  keep := fun i h h' st k => let ⟨⟨old, he⟩, hi, hne⟩ := st; ⟨⟨old, k e (by simp) _ he⟩, hi.at fun o q => k it (by simp) o q, hne⟩
  item := by
    intro X hP hw hK hc i pins s σ H E I hf st hg
    subst hP hw hK
    obtain ⟨⟨old, he⟩, hit, hne⟩ := st
    obtain ⟨xs, x, hq, hx⟩ := hg
    obtain ⟨its, rv, p, hz⟩ := I.tuple hq
    obtain ⟨u, hu, ru⟩ := rv.get hx
    have hel : e < s.heap.objs.size := Heap.lt_size he
    have hil : it < s.heap.objs.size := by obtain ⟨_, q, _⟩ := hit; exact Heap.lt_size q
    have hli : i < its.toArray.size := by
      have := List.getElem?_eq_some_iff.mp hu
      simpa using this.1
    have D := Draws.tuple (prog := X.prog) (w := X.w) (A := X.A.in1) (I.ok.hd hc) it a ha its.toArray
    refine wpAny_pyNext_enum_itemC D he ⟨hit, p⟩ hli hne (by simp [hne, Ne.symm hae]) fun y h' tk hy ho hit' hT hsz hk => ?_
    have ey : y = u := by
      have hy : its.toArray[i]? = some y := hy
      have hu' : its.toArray[i]? = some u := by simpa using hu
      rw [hy] at hu'; cases hu'; rfl
    subst ey
    refine ⟨_, rfl, wpAny_letOwnedTupleGo_enum (s := { s with heap := h', toks := tk + 1 }) ho fun h'' he' sb => ?_⟩
    have hT2 : h''.get? s.heap.objs.size = some { cls := .type "tuple", data := .seq #[.int i tk, y] } := (sb.2 _ (Nat.ne_of_gt hel)).trans hT
    have new : ObjOk X.prog X.w (upd H s.heap.objs.size (.tup [.int (i : Nat), x])) h'' s.heap.objs.size (.tup [.int (i : Nat), x]) :=
      ⟨by show 2 ≤ sizeLine; decide, [.int i tk, y], .cons ⟨_, rfl⟩ (.cons ru .nil), ⟨_, hT2, rfl, _, rfl⟩⟩
    have I1 : Inv X pins σ (upd H s.heap.objs.size (.tup [.int (i : Nat), x])) { s with heap := h'', toks := tk + 1 } :=
      I.turnedNew (ch := [e, it]) (fun b ob hb q => (sb.2 b (fun z => hb (by simp [z]))).trans (hk b ob (fun z => hb (by simp [z])) (fun z => hb (by simp [z])) q)) hf (Nat.le_refl _) new
    refine ⟨.ref s.heap.objs.size, _, I1, rfl, ⟨_, x, rfl, I.hok.fresh (Nat.le_refl _), rfl, fun ys hy => by rw [I.tuple_inj hy hq]; exact hx⟩, ⟨⟨y, ?_⟩, hit'.1.at fun o q => (sb.2 it (Ne.symm hne)).trans q, hne⟩, fun b hb => ?_⟩
    · have e1 : ((i + 1 : Nat) : Int) = (i : Int) + 1 := by omega
      rw [e1]; exact he'
    · have hb' : b < s.heap.objs.size := by
        rcases (show b = e ∨ b = it by simpa using hb) with z | z
        · rw [z]; exact hel
        · rw [z]; exact hil
      rw [upd_ne (Nat.ne_of_lt hb')]
      exact (hf b hb).1
  done := by
    intro X hP hw hK hc i pins s σ H E I hf st hg
    subst hP hw hK
    obtain ⟨⟨old, he⟩, hit, hne⟩ := st
    obtain ⟨xs, hq, hx⟩ := hg
    obtain ⟨its, rv, p, hz⟩ := I.tuple hq
    obtain ⟨f0, f1, f2, f3, f4, f5⟩ := hf it (by simp)
    have hl := rv.length
    have D : Draws X.prog X.w X.A.in1 it [it, a] i (fun _ _ => True) (fun j h => if j < i then False else h.IsTupleIter it a j ∧ h.IsTuple a its.toArray) := {
      live := fun j h st => by
        split at st
        · exact st.elim
        · obtain ⟨⟨o, ho, _⟩, _⟩ := st; exact ⟨o, ho⟩
      frame := fun j h h' st hk => by
        split at st
        · exact st.elim
        · rename_i nj
          rw [if_neg nj]
          exact ⟨st.1.at fun o e => hk it (by simp) o e, st.2.at fun o e => hk a (by simp) o e⟩
      item := fun j s Q E hj st hQ => by
        rw [if_pos hj] at st
        exact st.elim
      done := fun s Q E st hE => by
        rw [if_neg (Nat.lt_irrefl _)] at st
        exact wpAny_nextOf_tuple_end (I.ok.hd hc) st.1 st.2 (by simp; omega) hE }
    exact wpAny_pyNext_enum_endD D he (by rw [if_neg (Nat.lt_irrefl _)]; exact ⟨hit, p⟩) fun h' eb => ⟨rfl, I.turned (t' := s.toks) (fun b o hb q => eb b o hb q) f0 f1 f3 f4 f5⟩
  self := fun A i s Q E st h => let ⟨⟨_, he⟩, _⟩ := st; wpAny_pyIter_enum he h
section
variable {X : Cx} {c : DC} {e : Expr} {te : DE} {p pos : Pos}
def iEnumA (K : PySem.W.Frag) (ta : TA) : TI := fun σ H R => ta σ H fun vs H1 => ∃ a xs, vs = [.ref a] ∧ ((SqL K H1 a xs ∧ R (Ite K a) H1) ∨ (SqT K H1 a xs ∧ R (IteT K a) H1))
theorem pi_enumA {ta : TA} {tpos : Pos} {elts : List Expr} {kk : Nat} (hg : Gl X "enumerate") (hm : X.mg "enumerate" = none) (ha : PA X [e] ta) (hs : starEach [e] X.env = [(false, eval e X.env)] := by rfl) :
    PI X (.Tuple elts kk tpos) (.Call (.Name "enumerate" p) [e] [] pos) (iEnumA X.K ta) := by
  refine ⟨fun pins s σ H R I h => Call_ (ld_blt I hg hm boot_enumerate (PyProof.Rows.callWith_type1 (thn (ha.run pos pins s σ H _ I h) fun us s1 ⟨vs, H1, I1, r1, q1⟩ => ?_) hs rfl))⟩
  obtain ⟨a, xs, ex, q1⟩ := q1
  subst ex
  obtain ⟨u, rfl, ru⟩ := vals1 r1
  cases ru
  have fp2 : ∀ b, b ∈ [s1.heap.objs.size + 1, s1.heap.objs.size] → FpOk X pins H1 b := fun b hb => by
    have hle : s1.heap.objs.size ≤ b := by
      rcases (show b = s1.heap.objs.size + 1 ∨ b = s1.heap.objs.size by simpa using hb) with z | z
      · rw [z]; exact Nat.le_add_right _ _
      · rw [z]; exact Nat.le_refl _
    exact I1.fpOk hle (I1.hok.fresh hle)
  rcases q1 with ⟨hq, q⟩ | ⟨hq, q⟩
  · obtain ⟨its, rv, pl, hz⟩ := I1.list hq
    refine enum_call (begins_list a its.toArray) pl.isList fun h' he hit hsz hk => wpAny_pyIter_enum he ?_
    exact ⟨s1.heap.objs.size + 1, [s1.heap.objs.size + 1, s1.heap.objs.size], _, _, H1, rfl, I1.kept (t' := s1.toks) hk, turn_enum a (s1.heap.objs.size + 1) s1.heap.objs.size, ⟨⟨.none, he⟩, ⟨_, hit, rfl, rfl⟩, Nat.succ_ne_self _⟩, fp2, q⟩
  · obtain ⟨its, rv, pl, hz⟩ := I1.tuple hq
    have hlt : a < s1.heap.objs.size := by
      obtain ⟨o, ho, _⟩ := id pl
      exact Heap.lt_size ho
    refine enum_call (begins_tuple a its.toArray) pl fun h' he hit hsz hk => wpAny_pyIter_enum he ?_
    exact ⟨s1.heap.objs.size + 1, [s1.heap.objs.size + 1, s1.heap.objs.size], _, _, H1, rfl, I1.kept (t' := s1.toks) hk, turn_enumT a (s1.heap.objs.size + 1) s1.heap.objs.size (Nat.ne_of_lt hlt) (Nat.ne_of_lt (Nat.lt_succ_of_lt hlt)), ⟨⟨.none, he⟩, ⟨_, hit, rfl, rfl⟩, Nat.succ_ne_self _⟩, fp2, q⟩
def enumL (n : Nat) : List D → List D
  | [] => []
  | d :: ds => .tup [.int (n : Nat), d] :: enumL (n + 1) ds
theorem enumL_len : ∀ {n : Nat} {ds : List D}, (enumL n ds).length = ds.length
  | _, [] => rfl
  | n, d :: ds => congrArg (· + 1) (enumL_len (n := n + 1) (ds := ds))
theorem enumL_get : ∀ {n i : Nat} {ds : List D} {d : D}, ds[i]? = some d → (enumL n ds)[i]? = some (.tup [.int ((n + i : Nat) : Int), d])
  | _, _, [], _, h => by simp at h
  | n, 0, d :: ds, e, h => by simp at h; subst h; rfl
  | n, i + 1, d :: ds, e, h => by
    have := enumL_get (n := n + 1) (i := i) (ds := ds) (d := e) (by simpa using h)
    unfold enumL
    rw [List.getElem?_cons_succ, this]
    have e : n + 1 + i = n + (i + 1) := by omega
    rw [e]
def dEnum (ta : DA) : DI := fun ρ G Q => ta ρ G fun ds G1 => match ds with
  | [x] => seqD x G1 fun a ga => Q (enumL 0 a) ga G1
  | _ => False
theorem ite_ok {K : PySem.W.Frag} {P : Addr → Prop} {G : GH} {H : Hp} {a : Addr} {ds : List D} {ga : GH → Prop} {R : Hp → Addr → List V → Prop} (J : It) (hgo : ∀ i H, J.go i H = ∃ (xs : List V) (x : V), R H a xs ∧ xs[i]? = some x)
    (hy : ∀ i H v H', J.yld i H v H' = ∃ T x, v = .ref T ∧ H T = none ∧ H' = upd H T (.tup [.int (i : Nat), x]) ∧ ∀ xs, R H a xs → xs[i]? = some x)
    (hst : ∀ i H, J.stop i H = ∃ xs : List V, R H a xs ∧ xs.length ≤ i) (h1 : Held K P R a ds ga G H) : ItOk K P J (enumL 0 ds) ga G H := by
  intro P' k1 k2 i G' H' s r g1
  obtain ⟨xs, hx, tx⟩ := h1.later P' k1 k2 G' H' s r g1
  rw [enumL_len]
  refine ⟨fun hi => ?_, fun hi => by rw [hst]; exact ⟨xs, hx, by rw [tx.length]; exact hi⟩⟩
  obtain ⟨x, ex, px⟩ := tx.get (List.getElem?_eq_getElem hi)
  refine ⟨by rw [hgo]; exact ⟨xs, x, hx, ex⟩, fun w H2 hw => ?_⟩
  rw [hy] at hw
  obtain ⟨T, x', rfl, hT, rfl, f1⟩ := hw
  have q1 := f1 xs hx
  rw [ex] at q1; cases q1
  refine ⟨_, enumL_get (List.getElem?_eq_getElem hi), ?_, step_new hT, r.new hT⟩
  rw [Nat.zero_add]
  exact Rep.newT r hT (.cons (.int _) (.cons px .nil))
theorem di_enum {ta : DA} {tpos : Pos} {elts : List Expr} {kk : Nat} (hg : Gl X "enumerate") (hm : X.mg "enumerate" = none) (ha : PA X [e] (lA X.K c ta)) (hs : starEach [e] X.env = [(false, eval e X.env)] := by rfl) :
    PI X (.Tuple elts kk tpos) (.Call (.Name "enumerate" p) [e] [] pos) (lI X.K c (dEnum ta)) :=
  PI_imp (pi_enumA hg hm ha hs) fun σ H R ⟨ρ, G, QD, u, h, k⟩ => ⟨ρ, G, _, u, h, fun ds G1 vs H1 q s1 r1 p1 => by
    split at q
    · obtain ⟨v, ev, hp⟩ := p1.one
      subst ev
      obtain ⟨a, da, ga, rfl, q, ha | ha⟩ := seq_held r1 hp q
      · obtain ⟨xs, hx, _⟩ := ha.now
        exact ⟨a, xs, rfl, .inl ⟨hx, k _ _ _ _ _ q s1 r1 (ite_ok _ (fun _ _ => rfl) (fun _ _ _ _ => rfl) (fun _ _ => rfl) ha)⟩⟩
      · obtain ⟨xs, hx, _⟩ := ha.now
        exact ⟨a, xs, rfl, .inr ⟨hx, k _ _ _ _ _ q s1 r1 (ite_ok _ (fun _ _ => rfl) (fun _ _ _ _ => rfl) (fun _ _ => rfl) ha)⟩⟩
    · exact q.elim⟩
/-- list(range(n)), list(range(i, j)) -/
theorem rep_rg {K : PySem.W.Frag} {P : Addr → Prop} {G : GH} {H : Hp} {lo hi : Int} : RepL K P G H (rgV lo hi) (rgD lo (hi - lo).toNat) := by
  unfold rgV rgD
  generalize (hi - lo).toNat = n
  generalize List.range n = l
  induction l with
  | nil => exact .nil
  | cons a l ih => exact .cons (.int _) ih
def dLstRg (t : DSt → GH → (Int → Int → GH → Prop) → Prop) : DE := fun ρ G Q => t ρ G fun i j G1 => RgOk i j ∧ Q (.lst (rgD i (j - i).toNat)) G1
def dRg1 (te : DE) : DSt → GH → (Int → Int → GH → Prop) → Prop := fun ρ G Q => te ρ G fun d G1 => match d with
  | .int n => Q 0 n G1
  | _ => False
def lRg (K : PySem.W.Frag) (c : DC) (t : DSt → GH → (Int → Int → GH → Prop) → Prop) : L2.St → Hp → (Int → Int → Hp → Prop) → Prop := fun σ H Q => ∃ ρ G QD, Cur K c σ H ρ G ∧ t ρ G QD ∧ ∀ i j G' H', QD i j G' → Step G H G' H' → Rl K c.P G' H' → Q i j H'
theorem PRg_imp {X : Cx} {e : Expr} {t t' : L2.St → Hp → (Int → Int → Hp → Prop) → Prop} (h : PRg X e t) (i : ∀ σ H Q, t' σ H Q → t σ H Q) : PRg X e t' := fun pins s σ H Q I q => h pins s σ H Q I (i _ _ _ q)
theorem dr_1 (hg : Gl X "range") (hm : X.mg "range" = none) (ha : PE X e (lE X.K c te)) (na : starEach [e] X.env = (false, eval e X.env) :: starEach [] X.env := by rfl) : PRg X (.Call (.Name "range" p) [e] [] pos) (lRg X.K c (dRg1 te)) :=
  PRg_imp (prg_1 hg hm ha na) fun σ H Q ⟨ρ, G, QD, u, h, k⟩ => ⟨ρ, G, _, u, h, fun d G1 v H1 q s1 r1 p1 => by
    cases p1 with
    | int n => exact ⟨n, rfl, k _ _ _ _ q s1 r1⟩
    | _ => exact (show False from q).elim⟩
theorem d_lstRg {t : DSt → GH → (Int → Int → GH → Prop) → Prop} (hc : X.calm = true) (hg : Gl X "list") (hm : X.mg "list" = none) (he : PRg X e (lRg X.K c t)) (na : starEach [e] X.env = (false, eval e X.env) :: starEach [] X.env := by rfl) :
    PE X (.Call (.Name "list" p) [e] [] pos) (lE X.K c (dLstRg t)) :=
  PE_imp (pe_listRg hc hg hm he na) fun σ H Q ⟨ρ, G, QD, u, h, k⟩ => ⟨ρ, G, _, u, h, fun i j G1 H1 q s1 r1 => ⟨q.1, fun l hl => k _ _ _ _ q.2 (s1.trans (step_new hl)) (r1.new hl) (Rep.newL r1 hl rep_rg)⟩⟩
end
end DL

end

section
set_option Elab.async false
set_option linter.all false
set_option maxRecDepth 100000
set_option maxHeartbeats 2000000
namespace DX
open PySem PySem.W PySem.Calls PyProof.Rows PySem.HandSPX
/-! ## an own error C(v): class C(D0), D0(ValueError); __init__(self, f): super().__init__(f); self.f = f -/
def eA (f : Str) (p1 p2 : Pos) : Arguments := { posonlyargs := [], args := [{ arg := "self", annotation := none, pos := p1 }, { arg := f, annotation := none, pos := p2 }], vararg := none, kwonlyargs := [], kw_defaults := [], kwarg := none, defaults := [] }
def eB (f : Str) (a1 a2 a3 a4 a5 a6 q1 q2 q3 q4 : Pos) : List Stmt :=
  [.Expr (.Call (.Attribute (.Call (.Name "super" a1) [] [] a2) "__init__" a3) [.Name f a4] [] a5) a6, .Assign [.Attribute (.Name "self" q1) f q2] (.Name f q3) q4]
def eS (f : Str) : Scope := { kind := .function, names := [(PySem.Str.ofString "self", .local), (f, .local), (PySem.Str.ofString "__class__", .free), (PySem.Str.ofString "super", .globalImplicit)], isGenerator := false, isCoroutine := false, more := [] }
/-- what the written part says of the class (at C) and of its __init__ (at fI; its cell at cc, its code at cda) -/
structure ErrTxt (P : Program) (K : Frag) (mg : Str → Option Value) (cn f : Str) (C fI cc cda : Addr) (qual : Str) : Prop where
  gC : mg cn = some (.ref C)
  noS : mg "super" = none
  cls : ∃ nm q N bs bm sn sub ab col dd k0 k1 k2 k3 k5, K.lookup C = some (excClassObj nm q C N bs bm true sn sub ab col dd k0 k1 k2 k3 k5 "ValueError.__new__") ∧ refsVE bm = true ∧ alongIn K "__init__" bm = some (some (.builtin "ValueError.__init__"))
  sa : findIn K (.ref C) "__setattr__" = some (some (.builtin "object.__setattr__"))
  ga : findIn K (.ref C) "__getattribute__" = some (some (.builtin "BaseException.__getattribute__"))
  gg : findIn K (.ref C) "__getattr__" = some none
  noN : findIn K (.ref C) f = some none
  iC : findIn K (.ref C) "__init__" = some (some (.ref fI))
  tC : typeIn K (.ref fI) = some (.type "function")
  kC : keepIn K (.ref C) = true
  exC : subIn K (.ref C) (.type "BaseException") = some true
  veC : subIn K (.ref C) (.type "ValueError") = some true
  tyC : typeIn K (.ref C) = some (.type "type")
  hdC : hasDictIn K C = true
  te : exmOne K (.ref C) (.ref C) = some true
  nop : nsIn K cStatics "thirdparty.any" = some none
  top : (P.main.scope.names.lookup ("super" : Str)).isSome = false
  fn : ∃ (oc : Value) (od : Option Addr) (doc pm : Value) (an : Option Addr) (ct : Value) (osl : Array (Option Value)) (p1 p2 a1 a2 a3 a4 a5 a6 q1 q2 q3 q4 : Pos),
    K.lookup fI = some ⟨oc, od, .func (ksFn "__init__" qual (eA f p1 p2) (eB f a1 a2 a3 a4 a5 a6 q1 q2 q3 q4) (eS f) .none .none doc pm an (.ref cda) ct cc), osl⟩ ∧ codeIn K (.ref cda) qual = true ∧
      (∀ L : Addr, ∃ pl : Sem Bool, eval (.Call (.Attribute (.Call (.Name "super" a1) [] [] a2) "__init__" a3) [.Name f a4] [] a5) (ksEnv qual (eS f) L fI (.ref cda) cc) = (do
        let ov ← attributeBase (.Call (.Name "super" a1) [] [] a2) "__init__" (ksEnv qual (eS f) L fI (.ref cda) cc) (eval (.Call (.Name "super" a1) [] [] a2) (ksEnv qual (eS f) L fI (.ref cda) cc))
        standAt a3.atName
        let (fv, first) ← holding [ov] (getMethod ov "__init__" pl)
        callWith a5 fv first (backTo a5 (starEach [.Name f a4] (ksEnv qual (eS f) L fI (.ref cda) cc))) [])) ∧
      (∀ L : Addr, swapsWith (.Call (.Attribute (.Call (.Name "super" a1) [] [] a2) "__init__" a3) [.Name f a4] [] a5) none a6.line (ksEnv qual (eS f) L fI (.ref cda) cc) = pure false) ∧
      (∀ L : Addr, swapsWith (.Name f q3) (some (.Attribute (.Name "self" q1) f q2)) q4.line (ksEnv qual (eS f) L fI (.ref cda) cc) = pure false)
  code : ∃ (ccl : Value) (cdd : Option Addr) (vs : Array Value) (ccs : Array (Option Value)) (file : Str) (tf : Tok), K.lookup cda = some ⟨ccl, cdd, .fields vs, ccs⟩ ∧ vs[2]? = some (.str file tf) ∧ ((P.main.file : Str) == file) = true
  cell : ∃ (cl : Value) (cld : Option Addr) (csl : Array (Option Value)), K.lookup cc = some ⟨cl, cld, .cell (some (.ref C)), csl⟩
/-- what __init__ leaves of a fresh exception at x -/
structure Left (h h' : Heap) (f : Str) (x C dx t1 : Addr) (v : Value) : Prop where
  keep : ∀ b o, b ≠ x → h.get? b = some o → h'.get? b = some o
  obj : h'.get? x = some { cls := .ref C, dict := some dx, data := .fields #[.ref t1, .none, .none, .none, .bool false, .none] }
  dbig : h.objs.size ≤ dx
  dne : dx ≠ x
  ns : h'.Ns1 dx (fun y => if y = f then some v else none)
/-- the exception that was made -/
structure Made (h h' : Heap) (f : Str) (e C d : Addr) (v : Value) : Prop where
  keep : ∀ b o, h.get? b = some o → h'.get? b = some o
  new : h.objs.size ≤ e
  obj : ∃ oe vs, h'.get? e = some oe ∧ oe.cls = .ref C ∧ oe.dict = some d ∧ oe.data = .fields vs ∧ vs[1]? = some .none
  dbig : h.objs.size ≤ d
  dne : d ≠ e
  ns : h'.Ns1 d (fun y => if y = f then some v else none)
section
variable {prog : Program} {w : World} {A : Around} {E : Value → Shared → Prop} {R : Result → Shared → Prop} {s : Shared} {K : Frag} {mg mb : Str → Option Value} {C fI cc cda x t0 : Addr} {cn f qual : Str} {v : Value}
/-- ValueError.__init__ bound to x, called -/
theorem call_wrap {h : Heap} {g : Array GenState} {d : Drawn} {t : Nat} {os : OsState} {u e t0 : Addr} {rest : List Value} {Q : Value → Shared → Prop} {nm q : Str} {N : Addr} {bs bm : List Value} {hdct : Bool} {sn : List Str} {sub : List Value} {ab : Bool} {col : Option Bool} {dd : Option Addr} {k0 k1 k2 k3 k5 : Option Value}
    (hC : h.get? C = some (excClassObj nm q C N bs bm hdct sn sub ab col dd k0 k1 k2 k3 k5 "ValueError.__new__")) (he : h.get? e = some (excO C t0)) (hu : h.get? u = some (kxs_mw "ValueError.__init__" e)) (hrest : rest.length ≤ sizeLine)
    (hq : ∀ h' t1, (∀ b o, b ≠ e → h.get? b = some o → h'.get? b = some o) → h'.get? e = some (excO C t1) → Q .none ⟨h', g, d, t, os⟩) :
    wpAny (model prog w) A (call (.ref u) rest) Q E ⟨h, g, d, t, os⟩ := by
  refine wpAny_call (codeAny_of_tree ?_)
  show wpAny _ A.in1 (callAny (.ref u) ⟨rest, []⟩) _ _ _
  simp only [callAny]
  refine wpAny_bind (wpAny_load hu ?_)
  simp only [kxs_mw, show (Value.type "method-wrapper" == Value.type "method" || Value.type "method-wrapper" == Value.type "builtin_function_or_method" || Value.type "method-wrapper" == Value.type "method-wrapper") = true by decide, if_true]
  refine KFB.if_so (by decide) ?_
  refine wpAny_bind (ESX.check_bound F.excBase_ValueError hC he rfl ?_)
  refine wpAny_bind (wpAny_pure (wpAny_pure ?_))
  refine ⟨Code.quiet_builtin _ (by decide +kernel), codeAny_builtin F.excBase_ValueError.initEntry ?_⟩
  rw [Around.under_plainId F.excBase_ValueError.init.plain _]
  wp_walk
  refine hq _ h.objs.size (fun b o hb ho => ?_) ?_
  · rw [Heap.get?_update_other _ _ (Ne.symm hb)]
    exact Heap.get?_push_of_some _ ho
  · rw [Heap.get?_update_self _ (Heap.get?_push_of_some _ he) rfl]
    rfl
theorem ld_loc {M : Model} {s : Shared} {name : Str} {scope : Scope} {L a : Addr} {cd : Value} {cc : Addr} {m : Str → Option Value} {x : Str} {pos : Pos} {v : Value} {Q : Value → Shared → Prop} {A : Around} {E : Value → Shared → Prop} (hn : s.heap.Ns L m) (hv : m x = some v) (h : Q v s)
    (hk : scope.kind = .function) (hl : scope.names.lookup x = some .local) (hd : (x == ("__debug__" : Str)) = false) :
    wpAny M A (eval (.Name x pos) (ksEnv name scope L a cd cc)) Q E s := wpAny_Name (wpAny_loadName_local hk hl hn hv h) hd
structure FldOk (f : Str) : Prop where
  self : (f == ("self" : Str)) = false
  dbg : (f == ("__debug__" : Str)) = false
  l1 : (eS f).names.lookup ("self" : Str) = some .local
  l2 : (eS f).names.lookup f = some .local
  l3 : (eS f).names.lookup ("__class__" : Str) = some .free
  l4 : (eS f).names.lookup ("super" : Str) = some .globalImplicit
  cells : ∀ x ∈ (eS f).names, x.2 ≠ .cell
  bind : ∀ (qual : Str) (body : List Stmt) (doc pm : Value) (an : Option Addr) (cdv ct : Value) (cc : Addr) (p1 p2 : Pos) (x v : Value), bindArgs (ksFn "__init__" qual (eA f p1 p2) body (eS f) .none .none doc pm an cdv ct cc) ⟨[x, v], []⟩ = pure [(PySem.Str.ofString "self", x), (f, v)]
theorem fld_name : FldOk "name" := ⟨by decide, by decide, by rfl, by rfl, by rfl, by rfl, by decide, fun _ _ _ _ _ _ _ _ _ _ _ _ => by with_unfolding_all rfl⟩
theorem fld_limit : FldOk "limit" := ⟨by decide, by decide, by rfl, by rfl, by rfl, by rfl, by decide, fun _ _ _ _ _ _ _ _ _ _ _ _ => by with_unfolding_all rfl⟩
theorem err_init (T : ErrTxt prog K mg cn f C fI cc cda qual) (O : FldOk f) (X : K.In s.heap) (hg : s.heap.Ns mainGlobals mg) (hb : s.heap.Ns builtinsNs mb) (hsu : mb "super" = some (.type "super")) (hlim : s.heap.NoLimit) (hx : s.heap.get? x = some (excO C t0)) (hnx : K.lookup x = none) (hroom : A.depth < recursionLimit)
    (hq : ∀ h' tk dx t1, Left s.heap h' f x C dx t1 v → R (.ok (.ret .none)) { s with heap := h', toks := tk }) :
    codeAny (model prog w) A (.call (.ref fI) ⟨[.ref x, v], []⟩) R s := by
  obtain ⟨oc, od, doc, pm, an, ct, osl, p1, p2, a1, a2, a3, a4, a5, a6, q1, q2, q3, q4, ho, hcd, ev, sw1, sw2⟩ := T.fn
  obtain ⟨nm, q, N, bs, bm, sn, sub, ab, col, dd, k0, k1, k2, k3, k5, hC, hbm, hal⟩ := T.cls
  obtain ⟨ccl, cdd, vs, ccs, file, tf, hcode, hvs, hfile⟩ := T.code
  obtain ⟨cl, cld, csl, hcell⟩ := T.cell
  have hcl : clsIn K C = some { name := nm, bases := bs, mro := .ref C :: bm, ns := N, qualname := q, hasDict := true, slotNames := sn, subclasses := sub, abstract := ab, collection := col, hasDel := false } := by unfold clsIn; rw [hC] <;> rfl
  refine ks_codeAny_call_defAt (binds := [("self", .ref x), (f, v)]) hroom (X _ _ ho) rfl hlim (codeRec_of X hcd) rfl (BindsTo.of_eq (O.bind _ _ _ _ _ _ _ _ _ _ _ _)) O.cells ?_ (fun h₁ hns k => ?_) rfl rfl rfl
  · intro y hy
    rcases List.mem_cons.mp hy with rfl | hy
    · exact O.l1
    · rcases List.mem_cons.mp hy with rfl | hy
      · exact O.l2
      · cases hy
  have hse : ∀ y, [(("self" : Str), Value.ref x), (f, v)].reverse.lookup y = if y = f then some v else if y = "self" then some (.ref x) else none := fun y => by
    show List.lookup y [(f, v), ("self", .ref x)] = _
    rw [List.lookup_cons]
    by_cases e : y = f
    · rw [if_pos e, show (y == f) = true by rw [e]; simp]
    · rw [if_neg e, show (y == f) = false by simp [e], List.lookup_cons]
      by_cases e2 : y = "self"
      · rw [if_pos e2, show (y == ("self" : Str)) = true by rw [e2]; simp]
      · rw [if_neg e2, show (y == ("self" : Str)) = false by simp [e2]] <;> rfl
  have vself : [(("self" : Str), Value.ref x), (f, v)].reverse.lookup ("self" : Str) = some (.ref x) := by
    rw [hse, if_neg (fun z => by have := O.self; rw [← z] at this; exact absurd this (by decide)), if_pos rfl]
  have vf : [(("self" : Str), Value.ref x), (f, v)].reverse.lookup f = some v := by rw [hse, if_pos rfl]
  have hxL : s.heap.objs.size ≠ x := Nat.ne_of_gt (Heap.lt_size hx)
  have X₁ : K.In h₁ := X.keeps k
  have hx₁ := k _ _ hx
  have hC₁ := X₁ _ _ hC
  have hxC : x ≠ C := fun z => by rw [z, hC] at hnx; cases hnx
  have I₁ : InstAt h₁ x (excO C t0) C none := ⟨hx₁, rfl, rfl, trivial⟩
  show _root_.PySem.wpAt (model prog w) (A.deeper (ksEnv qual (eS f) s.heap.objs.size fI (.ref cda) cc)) (.func _ (ksEnv qual (eS f) s.heap.objs.size fI (.ref cda) cc)) (execs _ (ksEnv qual (eS f) s.heap.objs.size fI (.ref cda) cc)) _ _ _
  obtain ⟨pl, hev⟩ := ev s.heap.objs.size
  refine ks_wpAt_execs_cons (ks_wpAt_Expr_any (ks_wpAt_MethodCall (pl := pl) ?_ hev) rfl (sw1 _))
  · -- super()
    refine ks_wpAt_super_base (ar := { arg := "self", annotation := none, pos := p1 }) O.l4 O.l3 rfl rfl (X₁ _ _ ho) rfl rfl rfl (X₁ _ _ hcode) rfl hvs hfile T.top ?_
    refine ks_loadName_global rfl O.l4 (loadGlobal_builtin (mg := mg) (mb := mb) (hg.keeps k) T.noS (hb.keeps k) hsu ⟨rfl, ?_⟩)
    refine wpAny_loadName_free rfl O.l3 rfl ⟨_, X₁ _ _ hcell, rfl⟩ ?_
    refine wpAny_loadName_local rfl O.l1 hns vself ?_
    refine ks_wpAny_isType_cls hC₁ rfl ⟨rfl, ?_⟩
    refine ks_wpAny_call_super hC₁ rfl hx₁ rfl (fun c z => nomatch z) (looks_mroIn X₁ (by unfold mroIn; rw [hcl]; simp)) (fun h₂ hso k₂ => ?_)
    have X₂ : K.In h₂ := X₁.keeps k₂
    have I₂ : InstAt h₂ x (excO C t0) C none := ⟨k₂ _ _ hx₁, rfl, rfl, trivial⟩
    have hn₂ := hns.at (fun o e => k₂ _ o e)
    refine kxs_getMethod kxs_ValueError hso (looks_opaque X₂ T.nop) ((looks_clsIn X₂ hcl).andThen .now) (ESX.drop_own C bm) X₂ hal (I₂.type.andThen (looks_subIn X₂ T.veC)) hxC rfl ?_
    have k₃ : ∀ b o, h₂.get? b = some o → (h₂.push (kxs_mw "ValueError.__init__" x)).get? b = some o := fun b o e => Heap.get?_push_of_some _ e
    have hu : (h₂.push (kxs_mw "ValueError.__init__" x)).get? h₂.objs.size = some (kxs_mw "ValueError.__init__" x) := Heap.get?_push_at rfl rfl
    have hn₃ := hn₂.at (fun o e => k₃ _ o e)
    refine kxs_callWith (i := "ValueError.__init__") (x := x) rfl (evalArgs_plain (args_cons (ld_loc hn₃ vf (args_nil ⟨hu, ?_⟩) rfl O.l2 O.dbg) rfl))
    refine call_wrap (k₃ _ _ (k₂ _ _ hC₁)) (k₃ _ _ (k₂ _ _ hx₁)) hu (by show 1 ≤ sizeLine; decide) fun h₄ t1 k₄ hx₄ => ?_
    have ku : ∀ b o, b ≠ x → h₁.get? b = some o → h₄.get? b = some o := fun b o hb e => k₄ b o hb (k₃ b o (k₂ b o e))
    have hn₄ := hns.at (fun o e => ku _ o hxL e)
    have X₄ : K.In h₄ := fun a o e => ku a o (fun z => by rw [z, hnx] at e; cases e) (X₁ a o e)
    refine wpAt_of_wpAny ?_
    refine wpAny_execs_cons (plainObj_wpAny_Assign_Attribute ?_ (sw2 _))
    refine ld_loc hn₄ vf (ld_loc hn₄ vself ?_ rfl O.l1 (by decide)) rfl O.l2 O.dbg
    refine set_plain X₄ (ox := excO C t1) (od := none) ⟨hx₄, rfl, rfl, trivial⟩ T.sa ?_
    refine exc_osa X₄ hx₄ hcl (show refsVE (.ref C :: bm) = true from hbm) rfl T.noN fun h₅ tk₅ dx k₅ dn dne hx₅ hn₅ => ?_
    have z : s.heap.objs.size < h₄.objs.size := hn₄.lt
    exact wpAny_execs_nil (hq h₅ tk₅ dx t1 ⟨fun b o hb e => k₅ b o hb (ku b o hb (k b o e)), hx₅, Nat.le_of_lt (Nat.lt_of_lt_of_le z dn), dne, hn₅⟩)
end
end DX

end

section
set_option Elab.async false
set_option linter.all false
set_option maxRecDepth 100000
set_option maxHeartbeats 2000000
namespace DX
open PySem PySem.W PySem.Calls PyProof.Rows PySem.HandSPX
section
variable {prog : Program} {w : World} {A : Around} {R : Result → Shared → Prop} {s : Shared} {K : Frag} {mg mb : Str → Option Value} {C fI cc cda : Addr} {cn f qual : Str} {v : Value}
theorem err_made (T : ErrTxt prog K mg cn f C fI cc cda qual) (O : FldOk f) (X : K.In s.heap) (hg : s.heap.Ns mainGlobals mg) (hb : s.heap.Ns builtinsNs mb) (hsu : mb "super" = some (.type "super")) (hlim : s.heap.NoLimit) (hroom : A.depth + 1 < recursionLimit)
    (hq : ∀ h' tk e d, Made s.heap h' f e C d v → R (.ok (.ret (.ref e))) { s with heap := h', toks := tk }) :
    codeAny (model prog w) A (.call (.ref C) ⟨[v], []⟩) R s := by
  obtain ⟨nm, q, N, bs, bm, sn, sub, ab, col, dd, k0, k1, k2, k3, k5, hC, hbm, hal⟩ := T.cls
  obtain ⟨hp, g, dr, tk, os⟩ := s
  have k : ∀ b o, hp.get? b = some o → ((hp.push (kdv_tup [v])).push (excO C hp.objs.size)).get? b = some o := fun b o e => Heap.get?_push_of_some _ (Heap.get?_push_of_some _ e)
  have hget : ((hp.push (kdv_tup [v])).push (excO C hp.objs.size)).get? (hp.objs.size + 1) = some (excO C hp.objs.size) := by heap_get
  have hnx : K.lookup (hp.objs.size + 1) = none := by
    cases e : K.lookup (hp.objs.size + 1) with
    | none => rfl
    | some o => exact absurd (Nat.lt_of_succ_lt (Heap.lt_size (X _ _ e))) (Nat.lt_irrefl _)
  refine call_own F.excBase_ValueError (fun X => refsVE_contains X bm hbm) (X _ _ hC) (looks_findIn X T.iC) (fun self => bind_fn X self T.tC) (by show 1 ≤ sizeLine; decide) ?_
  refine err_init (s := ⟨(hp.push (kdv_tup [v])).push (excO C hp.objs.size), g, dr, tk, os⟩) T O (X.keeps k) (hg.keeps k) (hb.keeps k) hsu (hlim.keeps k) hget hnx ?_ fun h' tk' dx t1 L => ?_
  · show A.depth + 1 < recursionLimit
    exact hroom
  · have z : hp.objs.size + 1 + 1 ≤ dx := by
      have q := L.dbig
      rw [Heap.size_push, Heap.size_push] at q; exact q
    exact ⟨rfl, hq h' tk' (hp.objs.size + 1) dx ⟨fun b o e => L.keep b o (Nat.ne_of_lt (Nat.lt_succ_of_lt (Heap.lt_size e))) (k b o e), Nat.le_succ _, ⟨_, _, L.obj, rfl, rfl, rfl, rfl⟩, Nat.le_trans (Nat.le_trans (Nat.le_succ _) (Nat.le_succ _)) z, L.dne, L.ns⟩⟩
end
end DX
namespace DL
open PySem PySem.Spec PyProof.Rows L2
theorem relO_fld {v : V} {v' : Value} (r : RelV v v') (g f : Str) : RelO (List.lookup f [(g, v)]) (if f = g then some v' else none) := by
  by_cases hw : f = g
  · subst hw
    rw [if_pos rfl, show List.lookup f [(f, v)] = some v by simp [List.lookup]]
    exact r
  · rw [if_neg hw, show List.lookup f [(g, v)] = none by rw [List.lookup_cons, show (f == g) = false by simp [hw]] <;> rfl]
    trivial
section
variable {X : Cx} {C fI cc cda : Addr} {cn f qual : Str}
theorem pmk_err {a : Expr} {ta : TA} {p pos : Pos} {k : Nat} (T : DX.ErrTxt X.prog X.K X.mg cn f C fI cc cda qual) (O : DX.FldOk f) (hr : Room k X.A) (ha : PA X [a] ta) (hg : Gl X cn := by rfl) (hdb : (cn == ("__debug__" : Str)) = false := by decide)
    (he : starEach (a :: []) X.env = (false, eval a X.env) :: starEach [] X.env := by rfl) (hpl : (backTo pos (starEach [] X.env)).any (·.1) = false := by rfl) :
    PMk X (.Call (.Name cn p) [a] [] pos) (tMkF C f ta) := by
  intro pins s σ H Q I h
  refine wpAny_Call_Name_kw (ld_glob I hg T.gC ?_ hdb)
  refine PySem.W.callWith_K (h₀ := X.base) I.ok.mod.kin T.kC (thn (ha.run pos pins s σ H _ I h) fun us s1 hh => ?_) he hpl
  obtain ⟨vs, H1, I1, r1, v, ev, q1⟩ := hh
  subst ev
  refine ⟨I1.kIn, ?_⟩
  obtain ⟨v', rfl, rv⟩ := vals1 r1
  show wpAny _ _ (call (.ref C) [v']) _ _ _
  have hlim := I1.nolimit
  obtain ⟨mb, hb1, hb2⟩ := I1.mod.blt
  have gg := I1.mod.glob.keeps I1.bk
  have gb := hb1.keeps I1.bk
  have hsu : mb "super" = some (.type "super") := (hb2 "super" (by decide)).trans (by kernel_rfl)
  obtain ⟨hp, g, dr, tk, os⟩ := s1
  refine wpAny_call (DX.err_made T O I1.kIn gg gb hsu hlim (by have := hr.dp; omega) fun h' tk' e d M => ?_)
  show MkP X pins σ Q (.ref e) ⟨h', g, dr, tk', os⟩
  obtain ⟨oe, fv, hoe, hc, hd, hdat, h1⟩ := M.obj
  have hns := M.ns
  obtain ⟨G', g1, g2⟩ := restrict h' fun b => decide (b ≠ e)
  have gk : ∀ b, b ≠ e → G'.get? b = h'.get? b := fun b hb => g1 b (decide_eq_true hb)
  have ge : G'.get? e = none := g2 e (by simp)
  have old : ∀ b o, hp.get? b = some o → G'.get? b = some o := fun b o q => (gk b (Nat.ne_of_lt (Nat.lt_of_lt_of_le (Heap.lt_size q) M.new))).trans (M.keep b o q)
  have ob : ObjOk X.prog X.w (upd H1 d (.xd [(f, v)])) G' d (.xd [(f, v)]) := ⟨_, hns.at (fun o q => (gk d M.dne).trans q), fun y => relO_fld rv f y⟩
  have J : Inv X pins σ (upd H1 d (.xd [(f, v)])) ⟨G', g, dr, tk', os⟩ := I1.laid (t' := tk') old M.dbig ob
  refine ⟨e, oe, fv, ⟨G', g, dr, tk', os⟩, _, .ref C, some d, rfl, J, fun b o q => ?_, ge, hoe, ⟨hc, hd⟩, hdat, h1, ?_, rfl, I1.bare, raises_own T.exC T.tyC, q1 d (I1.hok.fresh M.dbig)⟩
  · by_cases hb : b = e
    · have q' : G'.get? b = some o := q
      rw [hb, ge] at q'; cases q'
    · exact (gk b hb).symm.trans q
  · rw [upd_ne (Ne.symm M.dne)]
    exact I1.hok.fresh M.new
/-- x.f, x the exception that the suite holds (at a; its class cls, its dict d) -/
def tFld (C : Addr) (f : Str) (a : Addr) (cls : Value) (d : Option Addr) (te : TE) : TE := fun σ H Q => te σ H fun x H1 => x = .ref a ∧ cls = .ref C ∧ ∃ (dd : Addr) (v : V), d = some dd ∧ H1 dd = some (.xd [(f, v)]) ∧ Q v H1
theorem pe_fld {a : Addr} {oe : Obj} {cls : Value} {d : Option Addr} {pn : List (Addr × Obj)} {e : Expr} {te : TE} {pos : Pos} (T : DX.ErrTxt X.prog X.K X.mg cn f C fI cc cda qual) (hz : Zc cls d oe) (hf : ∃ vs, oe.data = .fields vs) (he : PE (X.suite a ((a, oe) :: pn)) e te)
    (hb : attributeBase e f X.env (eval e X.env) = eval e X.env := by rfl) :
    PE (X.suite a ((a, oe) :: pn)) (.Attribute e f pos) (tFld C f a cls d te) := by
  refine ⟨fun pins s σ H Q I h => ?_⟩
  refine attr_of hb (thn (he.run pins s σ H _ I h) fun u s1 hh => ?_)
  obtain ⟨x, H1, I1, rx, ex, ec, dd, v, ed, ea, q⟩ := hh
  subst ex
  obtain rfl : u = Value.ref a := rx
  subst ec
  subst ed
  obtain ⟨ha, _⟩ := I1.pin (a, oe) (List.mem_append_left _ List.mem_cons_self)
  obtain ⟨vs, hd⟩ := hf
  have hx : ObjOk X.prog X.w H1 s1.heap dd (.xd [(f, v)]) := I1.hok dd _ ea
  obtain ⟨mA, hns, hr⟩ := hx
  obtain ⟨od, ho, hl⟩ := lookIn_ns hns
  obtain ⟨u, hu, ru⟩ := RelO.some_of (v := v) (o := mA f) (by rw [← show List.lookup f [(f, v)] = some v by simp [List.lookup]]; exact hr f)
  have J : PySem.W.InstAt s1.heap a oe C (some od) := ⟨ha, hz.1, by unfold PySem.W.notCls; rw [hd] <;> rfl, by rw [hz.2]; exact ho⟩
  exact HandSPX.exc_get I1.kIn J T.ga T.gg T.exC (PySem.W.findObj_own T.hdC T.noN rfl (by rw [hl, hu])) (handed_of ru) ⟨v, H1, I1.tok _, ru, q⟩
end
end DL

end

section
set_option Elab.async false
set_option linter.all false
set_option maxRecDepth 100000
set_option maxHeartbeats 2000000
namespace DL
open PySem PySem.Spec PyProof.Rows L2 LamX
/-! ## the def that calls what it got: try: call() / except C as e: return e.f; return ret -/
def TTref (K : PySem.W.Frag) (C : Addr) (f ret : Str) : (XK → Hp → VK → Prop) → Hp → VK → Prop := fun tl H Q =>
  tl (fun cls d H' => ∃ b, PySem.W.exmOne K cls (.ref C) = some b ∧ (b = true → cls = .ref C ∧ ∃ dd v, d = some dd ∧ H' dd = some (.xd [(f, v)]) ∧ Q v H') ∧ (b = false → False)) H (fun _ H' => Q (.str ret) H')
theorem takes_len {X : Cx} {W : WX} (t : Takes X W) : Takes X (fun cls d σ H => σ.length = X.N.length → W cls d σ H) := fun u s' ⟨a, B, sI, pins, σ, H, cls, d, e, I, nb, up, sky, na, os, ag, w⟩ =>
  t u s' ⟨a, B, sI, pins, σ, H, cls, d, e, I, nb, up, sky, na, os, ag, w I.len⟩
theorem set_at {σ : L2.St} {i : Nat} {v : Option V} (h : i < σ.length) : (σ.set i v)[i]? = some v := by simp [h]
section
variable {X : Cx}
theorem ref_gives {Ng : List Str} {x a cn n f q ret qual : Str} {sg : Scope} {g C fI cc cda : Addr} {cdg : Value} {j : Nat} {p1 p2 p3 p4 p5 p6 p7 p8 p9 p10 p11 : Pos} (T : DX.ErrTxt X.prog X.K X.mg cn f C fI cc cda qual) (hge : sg.names.lookup cn = some .globalImplicit) (hde : (cn == ("__debug__" : Str)) = false) (h0 : ∀ f : Addr, (L2.start Ng [V.ref f])[0]? = some (some (V.ref f)))
    (hN : Ng.Nodup) (h1 : Ng[1]? = some n) (hl : sg.names.lookup n = some .local) (hlen : 1 < Ng.length) (hdn : (n == ("__debug__" : Str)) = false) (hcn : (n == ("__classdict__" : Str)) = false)
    (hsw : ∀ L : Addr, swapsWith (.Call (.Name a p1) [] [] p2) none p3.line (envOfC x sg L g cdg) = pure false)
    (hb : ∀ L : Addr, attributeBase (.Name n p6) f (envOfC x sg L g cdg) (eval (.Name n p6) (envOfC x sg L g cdg)) = eval (.Name n p6) (envOfC x sg L g cdg)) :
    GivesTo X Ng x sg g cdg [.Try [.Expr (.Call (.Name a p1) [] [] p2) p3] [.ExceptHandler (some (.Name cn p4)) (some n) [.Return (some (.Attribute (.Name n p6) f p7)) p5] p8] [] [] p9, .Return (some (.Constant (.str ret) j p10)) p11] a q (TTref X.K C f ret) := by
  intro fl c' s H Q tl act hc h
  have hgl : Gl (cxOf C8.CX0 X.prog X.w X.K X.mg X.base Ng x sg g cdg X.A X.stack s H C8.E0).nox cn := hge
  refine ⟨_, pss_cons (ps_try_as (X := (cxOf C8.CX0 X.prog X.w X.K X.mg X.base Ng x sg g cdg X.A X.stack s H C8.E0).nox) (c := .ref C) (i := 1) (n := n) (Wout := fun _ _ _ _ => False)
      (tb := fun W D σ H => ∃ Ech : XK, (∀ cls d σ' H', σ'.length = Ng.length → Ech cls d H' → W cls d σ' H') ∧ σ[0]? = some (some (.ref fl)) ∧ H c' = some (CodeO c' q) ∧ tl Ech H (fun _ H' => D.nx σ H'))
      (ts := fun a cls d => tRet (tFld C f a cls d (tVar 1)))
      rfl rfl hN h1 hl ⟨hgl, hde, .inl T.gC⟩ L2.takes0 (fun W pn xe tk _ => ?_) (fun a oe cls d pn hz hf => pss_one (ps_ret ?_))) (pss_one (ps_ret pe_str)), ?_⟩
  · refine ⟨fun pins s' σ H' D I h' => ?_⟩
    obtain ⟨Ech, hW, h1, h2, h3⟩ := h'
    exact (pss_one (ps_expr (pos := p3) (act _ pn xe Ech p1 p2 (takes_len tk) fun cls d σ' H' e hl => hW cls d σ' H' hl e) (hsw _))).run pins s' σ H' D I ⟨h1, h2, h3⟩
  · exact pe_fld (X := (cxOf C8.CX0 X.prog X.w X.K X.mg X.base Ng x sg g cdg X.A X.stack s H C8.E0).nox) T hz hf (pe_var h1 (.inl hl) hdn hcn) (hb _)
  · refine ⟨_, fun cls d σ' H' hl ⟨b, e1, e2, e3⟩ => ⟨b, e1, fun hb a ha => ?_, fun hb => e3 hb⟩, h0 fl, hc, h⟩
    obtain ⟨ec, dd, v, ed, ev, q⟩ := e2 hb
    exact ⟨.ref a, set_at (by rw [hl]; exact hlen), rfl, ec, dd, v, ed, ev, q⟩
/-! ## in data -/
def OneTab (Pt : Addr) (qn : Str) (G : GH) : Prop := G Pt = some (.tab qn) ∧ ∀ a q, G a = some (.tab q) → a = Pt ∧ q = qn
/-- x(lambda: ..): t tells the lambda's body -/
def dRef (Pt : Addr) (qn : Str) (C : Addr) (f ret : Str) (t : DXK → DE) : DE := fun ρ G Q => OneTab Pt qn G ∧ t (fun x G' => x.cls = C ∧ x.fld = f ∧ Q x.val G') ρ G (fun _ G' => Q (.str ret) G')
theorem OneTab.put {Pt : Addr} {qn : Str} {G : GH} {p : Addr} {ds es : List D} (h : OneTab Pt qn G) (e : G p = some (.lst ds)) : OneTab Pt qn (updG G p (.lst es)) := by
  have n : Pt ≠ p := fun z => by have := h.1; rw [z, e] at this; cases this
  refine ⟨by rw [updG_ne n]; exact h.1, fun a q z => ?_⟩
  by_cases w : a = p
  · subst w
    rw [updG_same] at z; cases z
  · rw [updG_ne w] at z
    exact h.2 a q z
theorem OneTab.new {Pt : Addr} {qn : Str} {G : GH} {p : Addr} {es : List D} (h : OneTab Pt qn G) (e : G p = none) : OneTab Pt qn (updG G p (.lst es)) := by
  have n : Pt ≠ p := fun z => by have := h.1; rw [z, e] at this; cases this
  refine ⟨by rw [updG_ne n]; exact h.1, fun a q z => ?_⟩
  by_cases w : a = p
  · subst w
    rw [updG_same] at z; cases z
  · rw [updG_ne w] at z
    exact h.2 a q z
variable {c : DC}
theorem tab_step {K : PySem.W.Frag} {P : Addr → Prop} {G : GH} {H H1 : Hp} {Pt : Addr} {qn : Str} (r : Rl K P G H) (o : OneTab Pt qn G) (e : ExtN H H1) (t : Tabs [(Pt, qn)] H1) : Step G H G H1 ∧ Rl K P G H1 := by
  have nt : ∀ {u : HO}, ¬ Tbl u → ∀ ps, u ≠ .tbl ps := fun h ps z => by subst z; exact h trivial
  have st : Step G H G H1 := fun a u h n g => ⟨e a u h (nt n), g⟩
  refine ⟨st, fun a g z => ?_, fun a z => ?_⟩
  · have q := r.h a g z
    cases g with
    | lst ds => obtain ⟨xs, e1, t1⟩ := q; exact ⟨xs, e a _ e1 (nt id), t1.mono r st⟩
    | ins C fs => obtain ⟨dx, gs, e1, t1⟩ := q; exact ⟨dx, gs, e a _ e1 (nt id), t1.mono r st⟩
    | dicK kvs => obtain ⟨ws, e1, e2, t1⟩ := q; exact ⟨ws, e a _ e1 (nt id), e2, t1.mono r st⟩
    | dicT kvs => obtain ⟨ws, e1, e2, t1⟩ := q; exact ⟨ws, e a _ e1 (nt id), e2, t1.mono r st⟩
    | tab q' =>
      obtain ⟨rfl, rfl⟩ := o.2 a q' z
      exact t (a, q') (by simp)
  · obtain ⟨g, xs, e1⟩ := r.p a z
    exact ⟨g, xs, e a _ e1 (nt id)⟩
theorem d_ref {Pt C fI cc cda : Addr} {cn f ret qual : Str} (T : DX.ErrTxt X.prog X.K X.mg cn f C fI cc cda qual) {x a : Str} {g ca : Addr} {k : Nat} {pg : Arguments} {bg : List Stmt} {sg : Scope} {dV kV doc pm cdv ct oc : Value} {an od : Option Addr} {osl : Array (Option Value)} {Ng : List Str}
    {params : Arguments} {body : Expr} {scope : Scope} {t : DXK → DE} {p lpos pos : Pos} (hg : Gl X x) (hm : X.mg x = some (.ref g)) (hk : PySem.W.keepIn X.K (.ref g) = true)
    (lk : X.K.lookup g = some ⟨oc, od, .func (PySem.W.fnOf x x pg bg sg dV kV doc pm an cdv ct), osl⟩) (hcg : PySem.W.codeIn X.K cdv x = true) (hb : L2.Binds X.K (PySem.W.fnOf x x pg bg sg dV kV doc pm an cdv ct) [a] []) (Sg : FnScope Ng [a] sg) (hNg : Ng[0]? = some a) (hva : Vis sg a)
    (hG : GivesTo X Ng x sg g cdv bg a (X.env.qual ++ "<lambda>") (TTref X.K C f ret))
    (TB : TabB X.base X.mg ca Pt) (hcode : X.env.code = .ref ca) (hr : Room (k + 2) X.A) (L : LamS X.env.scope scope) (hdef : defaultsOf params X.env = ([], []))
    (hbind : ∀ (q : Str) (cl : List (Str × Addr)) (pm cv ctv : Value), bindArgs (PySem.W.kla_fn "<lambda>" q params body scope cl pm cv ctv) ⟨[], []⟩ = pure [])
    (hbody : ∀ (A : Around) (outer : List Env) (s : Shared) (H : Hp) (E : XK) (f c' : Addr) (c : DC) (Ex : DXK), Room k (A.deeper (lamEnv X scope s.heap.objs.size f c')) → XOk (lamCx X A outer s H E scope f c') c Ex → PE (lamCx X A outer s H E scope f c') body (lE X.K c (t Ex)))
    (hdb : (x == ("__debug__" : Str)) = false := by decide) (hd : (a == ("__debug__" : Str)) = false := by decide) (hcd : (a == ("__classdict__" : Str)) = false := by decide) :
    PE X (.Call (.Name x p) [.Lambda params body scope lpos] [] pos) (lE X.K c (dRef Pt (X.env.qual ++ "<lambda>") C f ret t)) := by
  refine PE_imp (pe_lamcall (T := [(Pt, X.env.qual ++ "<lambda>")]) (t := fun E σ H Q => ∃ (c : DC) (Ex : DXK), (∀ x G H cls d, Ex x G → Step c.G0 c.H0 G H → Rl X.K c.P G H → RelX X.K c.P G H cls d x → E cls d H) ∧ lE X.K c (t Ex) σ H Q) hg hm hk lk hcg hb Sg hNg hva hG TB hcode (by simp) (fun p hp _ => by
    simp only [List.mem_singleton] at hp
    rw [hp]) hr L hdef hbind (fun A outer s H E f c' hr2 => ?_) hdb hd hcd) ?_
  · refine ⟨fun pins s' σ H' Q I ⟨c, Ex, h1, h2⟩ => ?_⟩
    exact (hbody A outer s H E f c' c Ex hr2 ⟨fun cls d _ H => E cls d H, takes_of rfl rfl rfl rfl, fun x G H cls d σ q s r p => h1 x G H cls d q s r p⟩).run pins s' σ H' Q I h2
  · rintro σ H Q ⟨ρ, G, QD, u, ⟨o, h⟩, kk⟩
    refine ⟨fun p hp => ?_, fun H1 eN T1 => ?_⟩
    · simp only [List.mem_singleton] at hp
      rw [hp]
      exact u.rl.h Pt _ o.1
    · obtain ⟨s1, r1⟩ := tab_step u.rl o eN T1
      refine ⟨⟨c.P, G, H1⟩, _, fun x G' H' cls d q s2 r2 p2 => ?_, ρ, G, _, ⟨r1, Step.refl _ _, u.env.mono u.rl s1⟩, h, fun d G' v H' q s2 r2 p2 => kk _ _ _ _ q (s1.trans s2) r2 (.str _)⟩
      obtain ⟨e1, e2, q⟩ := q
      obtain ⟨ec, dd, v, ed, ev, pv⟩ := p2
      rw [e1] at ec
      rw [e2] at ev
      refine ⟨true, by rw [ec]; exact T.te, fun _ => ⟨ec, dd, v, ed, ev, kk _ _ _ _ q (s1.trans s2) r2 pv⟩, fun z => nomatch z⟩
end
end DL

end

section
set_option Elab.async false
set_option linter.all false
set_option maxRecDepth 100000
set_option maxHeartbeats 1000000
namespace DL
open PySem PySem.Spec PyProof.Rows L2

/-! ## short forms -/
/-- these are the built-in ones -/
structure Blt (mg : Str → Option Value) : Prop where
  len : mg "len" = none
  int : mg "int" = none
  bool : mg "bool" = none
  str : mg "str" = none
  tuple : mg "tuple" = none
  list : mg "list" = none
  dict : mg "dict" = none
  min : mg "min" = none
  isinstance : mg "isinstance" = none
  all : mg "all" = none
  any : mg "any" = none
  range : mg "range" = none
  zip : mg "zip" = none
  enumerate : mg "enumerate" = none
  sorted : mg "sorted" = none
def dF1 (f : D → GH → DK → Prop) (te : DE) : DE := fun ρ G Q => te ρ G fun d G1 => f d G1 Q
def dF2 (f : D → D → GH → DK → Prop) (ta tb : DE) : DE := fun ρ G Q => ta ρ G fun d G1 => tb ρ G1 fun e G2 => f d e G2 Q
def isa1 (b : String) : D → GH → DK → Prop := fun d G Q => isaF d (.ty b) G Q
theorem isa1_of {b a : String} {d : D} {G : GH} {Q : DK} (e : tyD G d = some a) (q : Q (.bl (isK a b)) G) (hb : b ∈ ["int", "bool", "str", "tuple", "list", "dict"] := by decide) : isa1 b d G Q := by
  unfold isa1 isaF
  simp only [e]
  exact ⟨hb, q⟩
section
variable {X : Cx} {c : DC} {e e2 tg : Expr} {te te2 : DE} {p p2 pos : Pos}
theorem f1_imp {f : D → GH → DK → Prop} (h : PE X e (lE X.K c (dCB (on1 f) (dCons te dNil)))) : PE X e (lE X.K c (dF1 f te)) := h
theorem dl_len (B : Blt X.mg) (he : PE X e (lE X.K c te)) (hg : Gl X "len" := by rfl) (hs : starEach [e] X.env = (false, eval e X.env) :: starEach [] X.env := by rfl) (hpl : (backTo pos (starEach [] X.env)).any (·.1) = false := by rfl) : PE X (.Call (.Name "len" p) [e] [] pos) (lE X.K c (dF1 lenF te)) :=
  d_callB cd_len hg B.len boot_len (da_cons he da_nil hs) (he := hs) (hpl := hpl)
theorem dl_all (B : Blt X.mg) (hc : X.calm = true) (he : PE X e (lE X.K c te)) (hg : Gl X "all" := by rfl) (hs : starEach [e] X.env = (false, eval e X.env) :: starEach [] X.env := by rfl) (hpl : (backTo pos (starEach [] X.env)).any (·.1) = false := by rfl) : PE X (.Call (.Name "all" p) [e] [] pos) (lE X.K c (dF1 allF te)) :=
  d_callB (cd_all hc) hg B.all (by decide +kernel) (da_cons he da_nil hs) (he := hs) (hpl := hpl)
theorem dl_any (B : Blt X.mg) (hc : X.calm = true) (he : PE X e (lE X.K c te)) (hg : Gl X "any" := by rfl) (hs : starEach [e] X.env = (false, eval e X.env) :: starEach [] X.env := by rfl) (hpl : (backTo pos (starEach [] X.env)).any (·.1) = false := by rfl) : PE X (.Call (.Name "any" p) [e] [] pos) (lE X.K c (dF1 anyF te)) :=
  d_callB (cd_any hc) hg B.any (by decide +kernel) (da_cons he da_nil hs) (he := hs) (hpl := hpl)
theorem dl_sorted (B : Blt X.mg) (hu : X.A.units + 64 < cLine) (he : PE X e (lE X.K c te)) (hg : Gl X "sorted" := by rfl) (hs : starEach [e] X.env = (false, eval e X.env) :: starEach [] X.env := by rfl) (hpl : (backTo pos (starEach [] X.env)).any (·.1) = false := by rfl) : PE X (.Call (.Name "sorted" p) [e] [] pos) (lE X.K c (dF1 (sortF false) te)) :=
  d_callB (cd_sorted hu) hg B.sorted boot_sorted (da_cons he da_nil hs) (he := hs) (hpl := hpl)
theorem dl_int (B : Blt X.mg) (he : PE X e (lE X.K c te)) (hg : Gl X "int" := by rfl) (hs : starEach [e] X.env = (false, eval e X.env) :: starEach [] X.env := by rfl) (hpl : (backTo pos (starEach [] X.env)).any (·.1) = false := by rfl) : PE X (.Call (.Name "int" p) [e] [] pos) (lE X.K c (dF1 intF te)) :=
  d_callTy cd_int hg B.int boot_int (da_cons he da_nil hs) (he := hs) (hpl := hpl)
theorem dl_list (B : Blt X.mg) (he : PE X e (lE X.K c te)) (hg : Gl X "list" := by rfl) (hs : starEach [e] X.env = (false, eval e X.env) :: starEach [] X.env := by rfl) (hpl : (backTo pos (starEach [] X.env)).any (·.1) = false := by rfl) : PE X (.Call (.Name "list" p) [e] [] pos) (lE X.K c (dF1 listF te)) :=
  d_callTy cd_list hg B.list boot_list (da_cons he da_nil hs) (he := hs) (hpl := hpl)
theorem dl_listM (B : Blt X.mg) (he : PE X e (lE X.K c te)) (hg : Gl X "list" := by rfl) (hs : starEach [e] X.env = (false, eval e X.env) :: starEach [] X.env := by rfl) (hpl : (backTo pos (starEach [] X.env)).any (·.1) = false := by rfl) : PE X (.Call (.Name "list" p) [e] [] pos) (lE X.K c (dF1 listMF te)) :=
  d_callTy cd_listM hg B.list boot_list (da_cons he da_nil hs) (he := hs) (hpl := hpl)
theorem dl_tuple (B : Blt X.mg) (he : PE X e (lE X.K c te)) (hg : Gl X "tuple" := by rfl) (hs : starEach [e] X.env = (false, eval e X.env) :: starEach [] X.env := by rfl) (hpl : (backTo pos (starEach [] X.env)).any (·.1) = false := by rfl) : PE X (.Call (.Name "tuple" p) [e] [] pos) (lE X.K c (dF1 tupF te)) :=
  d_callTy cd_tup hg B.tuple boot_tuple (da_cons he da_nil hs) (he := hs) (hpl := hpl)
theorem dl_min2 (B : Blt X.mg) (hc : X.calm = true) (he : PE X e (lE X.K c te)) (he2 : PE X e2 (lE X.K c te2)) (hg : Gl X "min" := by rfl) (hs : starEach [e, e2] X.env = (false, eval e X.env) :: starEach [e2] X.env := by rfl) (hs2 : starEach [e2] X.env = (false, eval e2 X.env) :: starEach [] X.env := by rfl) (hpl : (backTo pos (starEach [e2] X.env)).any (·.1) = false := by rfl) :
    PE X (.Call (.Name "min" p) [e, e2] [] pos) (lE X.K c (dF2 minF te te2)) :=
  d_callB (cd_min2 hc) hg B.min (by decide +kernel) (da_cons he (da_cons he2 da_nil hs2) hs) (he := hs) (hpl := hpl)
/-- isinstance(e, T), T a built-in class -/
theorem dl_isa {x : Str} {b : String} (B : Blt X.mg) (hx : X.mg x = none) (hb : bootBuiltins x = some (.type b)) (he : PE X e (lE X.K c te)) (hg : Gl X "isinstance" := by rfl) (hgx : Gl X x := by rfl) (hn : x ≠ "__name__" := by decide) (hd : (x == ("__debug__" : Str)) = false := by decide)
    (hs : starEach [e, .Name x p2] X.env = (false, eval e X.env) :: starEach [.Name x p2] X.env := by rfl) (hs2 : starEach [.Name x p2] X.env = (false, eval (.Name x p2) X.env) :: starEach [] X.env := by rfl) (hpl : (backTo pos (starEach [.Name x p2] X.env)).any (·.1) = false := by rfl) :
    PE X (.Call (.Name "isinstance" p) [e, .Name x p2] [] pos) (lE X.K c (dF1 (isa1 b) te)) :=
  d_callB cd_isa hg B.isinstance boot_isinstance (da_cons he (da_cons (d_gty hx hb hgx hn hd) da_nil hs2) hs) (he := hs) (hpl := hpl)
theorem d_int2 (B : Blt X.mg) (he : PE X e (lE X.K c te)) (hg : Gl X "isinstance" := by rfl) (hgx : Gl X "int" := by rfl) (hs : starEach [e, .Name "int" p2] X.env = (false, eval e X.env) :: starEach [.Name "int" p2] X.env := by rfl) (hs2 : starEach [.Name "int" p2] X.env = (false, eval (.Name "int" p2) X.env) :: starEach [] X.env := by rfl) (hpl : (backTo pos (starEach [.Name "int" p2] X.env)).any (·.1) = false := by rfl) :
    PE X (.Call (.Name "isinstance" p) [e, .Name "int" p2] [] pos) (lE X.K c (dF1 (isa1 "int") te)) := dl_isa B B.int boot_int he hg hgx (by decide) (by decide) hs hs2 hpl
theorem d_bool2 (B : Blt X.mg) (he : PE X e (lE X.K c te)) (hg : Gl X "isinstance" := by rfl) (hgx : Gl X "bool" := by rfl) (hs : starEach [e, .Name "bool" p2] X.env = (false, eval e X.env) :: starEach [.Name "bool" p2] X.env := by rfl) (hs2 : starEach [.Name "bool" p2] X.env = (false, eval (.Name "bool" p2) X.env) :: starEach [] X.env := by rfl) (hpl : (backTo pos (starEach [.Name "bool" p2] X.env)).any (·.1) = false := by rfl) :
    PE X (.Call (.Name "isinstance" p) [e, .Name "bool" p2] [] pos) (lE X.K c (dF1 (isa1 "bool") te)) := dl_isa B B.bool boot_bool he hg hgx (by decide) (by decide) hs hs2 hpl
theorem d_str2 (B : Blt X.mg) (he : PE X e (lE X.K c te)) (hg : Gl X "isinstance" := by rfl) (hgx : Gl X "str" := by rfl) (hs : starEach [e, .Name "str" p2] X.env = (false, eval e X.env) :: starEach [.Name "str" p2] X.env := by rfl) (hs2 : starEach [.Name "str" p2] X.env = (false, eval (.Name "str" p2) X.env) :: starEach [] X.env := by rfl) (hpl : (backTo pos (starEach [.Name "str" p2] X.env)).any (·.1) = false := by rfl) :
    PE X (.Call (.Name "isinstance" p) [e, .Name "str" p2] [] pos) (lE X.K c (dF1 (isa1 "str") te)) := dl_isa B B.str boot_str he hg hgx (by decide) (by decide) hs hs2 hpl
theorem d_tup2 (B : Blt X.mg) (he : PE X e (lE X.K c te)) (hg : Gl X "isinstance" := by rfl) (hgx : Gl X "tuple" := by rfl) (hs : starEach [e, .Name "tuple" p2] X.env = (false, eval e X.env) :: starEach [.Name "tuple" p2] X.env := by rfl) (hs2 : starEach [.Name "tuple" p2] X.env = (false, eval (.Name "tuple" p2) X.env) :: starEach [] X.env := by rfl) (hpl : (backTo pos (starEach [.Name "tuple" p2] X.env)).any (·.1) = false := by rfl) :
    PE X (.Call (.Name "isinstance" p) [e, .Name "tuple" p2] [] pos) (lE X.K c (dF1 (isa1 "tuple") te)) := dl_isa B B.tuple boot_tuple he hg hgx (by decide) (by decide) hs hs2 hpl
theorem d_list2 (B : Blt X.mg) (he : PE X e (lE X.K c te)) (hg : Gl X "isinstance" := by rfl) (hgx : Gl X "list" := by rfl) (hs : starEach [e, .Name "list" p2] X.env = (false, eval e X.env) :: starEach [.Name "list" p2] X.env := by rfl) (hs2 : starEach [.Name "list" p2] X.env = (false, eval (.Name "list" p2) X.env) :: starEach [] X.env := by rfl) (hpl : (backTo pos (starEach [.Name "list" p2] X.env)).any (·.1) = false := by rfl) :
    PE X (.Call (.Name "isinstance" p) [e, .Name "list" p2] [] pos) (lE X.K c (dF1 (isa1 "list") te)) := dl_isa B B.list boot_list he hg hgx (by decide) (by decide) hs hs2 hpl
/-! a def that promises nothing yet -/
def spNo : DSp := fun _ _ _ _ => False
theorem fnD_no {P : Program} {w : World} {K : PySem.W.Frag} {mg : Str → Option Value} {base : Heap} {x qual : Str} {params : Arguments} {body : List Stmt} {scope : Scope} {f : Addr} {fd : FuncData} {ps : List Str} {k : Nat}
    (F : FunD K x qual params body scope [] [] f fd) (hm : mg x = some (.ref f))
    (h : ∀ (kV doc pm : Value) (an : Option Addr) (cdv ct : Value) (us : List Value), us.length = ps.length → bindArgs (PySem.W.fnOf x qual params body scope .none kV doc pm an cdv ct) ⟨us, []⟩ = pure (ps.zip us))
    (h2 : ∀ (kV doc pm : Value) (an : Option Addr) (cdv ct : Value) (ws : List Value), ws.length = ps.length → bindArgs (PySem.W.fnOf x qual params body scope .none kV doc pm an cdv ct) ⟨[], ps.zip ws⟩ = pure (ps.zip ws)) : FnD P w K mg base x k ps spNo :=
  fnD_of F hm ⟨fun vs H Q E ⟨_, _, _, _, _, _, _, h, _⟩ => h.elim, fun A outer s H args us vs Q E _ _ _ _ ⟨_, _, _, _, _, _, _, h, _⟩ => h.elim⟩ h h2
end

/-! ## walking a list: what a pure proof asks -/
/-- each item by itself: f tells what is kept of it -/
theorem comp_pure {gd : GH → Prop} {tg : Tg} {tt : DT} {te : DE} {ρ : DSt} {Q : List D → GH → Prop} {G : GH} (f : D → Option D) (hgd : gd G) : ∀ (ds acc : List D), (∀ d ∈ ds, ∀ (k : DK) (k0 : GH → Prop), (match f d with | some y => k y G | none => k0 G) → setT tg d ρ fun ρ1 => tt ρ1 G fun b G1 => if b = true then te ρ1 G1 k else k0 G1) →
    acc.length + ds.length ≤ sizeLine → Q (acc ++ ds.filterMap f) G → compD gd tg tt te ρ Q ds acc G
  | [], acc, _, _, q => ⟨hgd, by simpa using q⟩
  | d :: ds, acc, h, hl, q => by
    refine ⟨hgd, ?_⟩
    rw [List.length_cons] at hl
    refine h d (by simp) _ _ ?_
    cases e : f d with
    | some y =>
      refine ⟨by omega, comp_pure f hgd ds (acc ++ [y]) (fun d hd => h d (by simp [hd])) (by rw [List.length_append, List.length_singleton]; omega) ?_⟩
      rw [List.filterMap_cons, e] at q
      simpa using q
    | none =>
      refine comp_pure f hgd ds acc (fun d hd => h d (by simp [hd])) (by omega) ?_
      rw [List.filterMap_cons, e] at q
      simpa using q
/-- no test -/
theorem comp_map {gd : GH → Prop} {tg : Tg} {te : DE} {ρ : DSt} {Q : List D → GH → Prop} {G : GH} (f : D → D) (hgd : gd G) (ds : List D) (h : ∀ d ∈ ds, ∀ k : DK, k (f d) G → setT tg d ρ fun ρ1 => te ρ1 G k) (hl : ds.length ≤ sizeLine) (q : Q (ds.map f) G) : compD gd tg dYes te ρ Q ds [] G := by
  refine comp_pure (fun d => some (f d)) hgd ds [] (fun d hd k k0 hk => ?_) (by simpa using hl) (by simpa using q)
  have := h d hd k hk
  simpa [dYes] using this
end DL

end

section
set_option Elab.async false
set_option linter.all false
set_option maxRecDepth 100000
set_option maxHeartbeats 1000000
namespace DL
open PySem PySem.Spec PyProof.Rows L2 HT
/-! ## x[::-1] of a list or a tuple -/
section
variable {prog : Program} {w : World} {A : Around} {E : Value → Shared → Prop} {s : Shared}
theorem fm_some {α β : Type} (f : α → Option β) (g : α → β) : ∀ l : List α, (∀ a ∈ l, f a = some (g a)) → l.filterMap f = l.map g
  | [], _ => rfl
  | a :: l, h => by rw [List.filterMap_cons, h a (by simp), List.map_cons, fm_some f g l fun b hb => h b (by simp [hb])]
theorem pick_back (xs : Array Value) : ((List.range xs.size).filterMap fun (m : Nat) => xs[((xs.size : Int) - 1 + (m : Int) * (-1)).toNat]?).toArray = xs.toList.reverse.toArray := by
  congr 1
  obtain ⟨l⟩ := xs
  show (List.range l.length).filterMap (fun (m : Nat) => l.toArray[((l.length : Int) - 1 + (m : Int) * (-1)).toNat]?) = l.reverse
  simp only [List.getElem?_toArray]
  apply List.ext_getElem?
  intro i
  have key : (List.range l.length).filterMap (fun (m : Nat) => l[((l.length : Int) - 1 + (m : Int) * (-1)).toNat]?) = (List.range l.length).map fun m => l.reverse.getD m (.none) := by
    refine fm_some _ _ _ fun m hm => ?_
    have hm : m < l.length := List.mem_range.mp hm
    have e : ((l.length : Int) - 1 + (m : Int) * (-1)).toNat = l.length - 1 - m := by omega
    rw [e, List.getD_eq_getElem?_getD, List.getElem?_reverse hm, List.getElem?_eq_getElem (by omega)]
    rfl
  rw [key, List.getElem?_map]
  by_cases hi : i < l.length
  · rw [List.getElem?_range hi, List.getElem?_eq_getElem (by simpa using hi)]
    simp [List.getD_eq_getElem?_getD, hi]
  · rw [List.getElem?_eq_none (by simpa using hi), List.getElem?_eq_none (by simpa using hi)]
    rfl
theorem applied_back {sl : Addr} {vk : Value} {n : Nat} {Q : Int × Int × Nat → Shared → Prop} (hs : s.heap.IsSliceOf sl .none .none vk) (pk : IsPart vk (some (-1)))
    (h : Q ((n : Int) - 1, -1, n) s) : wpAny (model prog w) A (Builtin.Slice.sliceApplied (.ref sl) (pure (n : Int))) Q E s := by
  obtain ⟨os, hos, hcs, hds⟩ := id hs
  unfold Builtin.Slice.sliceApplied Builtin.Slice.sliceFields
  refine wpAny_bind (wpAny_bind (wpAny_field hos hds (x := .none) rfl (wpAny_bind (wpAny_field hos hds (x := .none) rfl (wpAny_bind (wpAny_field hos hds (x := vk) rfl (wpAny_pure ?_)))))))
  refine wpAny_bind (slicePart_ pk ?_)
  show wpAny _ _ (if ((-1 : Int) == 0) = true then _ else _) _ _ s
  rw [if_neg (by decide)]
  refine wpAny_bind (slicePart_ .none (wpAny_bind (slicePart_ .none (wpAny_bind (wpAny_pure ?_)))))
  have e1 : Builtin.Slice.sliceAdjust none none (-1) (n : Int) = ((n : Int) - 1, -1) := by
    unfold Builtin.Slice.sliceAdjust
    rfl
  show wpAny _ _ (match Builtin.Slice.sliceAdjust none none (-1) (n : Int) with | (lo, hi) => pure (lo, (-1 : Int), Builtin.Slice.slicePlaces lo hi (-1))) _ _ s
  rw [e1]
  have e2 : Builtin.Slice.slicePlaces ((n : Int) - 1) (-1) (-1) = n := by
    unfold Builtin.Slice.slicePlaces
    have h1 : ¬ ((-1 : Int) > 0) := by omega
    simp only [h1, if_false]
    by_cases hn : n = 0
    · subst hn; rfl
    · have e : ((n : Int) - 1 - -1 - 1) / - -1 = (n : Int) - 1 := by
        rw [show (- -1 : Int) = 1 from rfl, Int.ediv_one]
        omega
      rw [e]
      split <;> omega
  show wpAny _ _ (pure ((n : Int) - 1, (-1 : Int), Builtin.Slice.slicePlaces ((n : Int) - 1) (-1) (-1))) _ _ s
  rw [e2]
  exact wpAny_pure h
theorem tuple_back {t sl : Addr} {items : Array Value} {vk : Value} {Q : Value → Shared → Prop} (ht : IsTup s.heap t items) (hs : s.heap.IsSliceOf sl .none .none vk) (pk : IsPart vk (some (-1)))
    (h : Q (.ref s.heap.objs.size) { s with heap := s.heap.push { cls := .type "tuple", data := .seq items.toList.reverse.toArray } })
    (hsz : items.size ≤ sizeLine) : wpAny (model prog w) A (getItem (.ref t) (.ref sl)) Q E s := by
  have htake : sizeOk (.seq items.toList.reverse.toArray) := by
    show items.toList.reverse.toArray.size ≤ sizeLine
    rw [List.size_toArray, List.length_reverse, Array.length_toList]
    exact hsz
  obtain ⟨os, hos, hcs, hds⟩ := id hs
  have hTs : s.TypeIs (.ref sl) "slice" := ⟨os, hos, hcs⟩
  unfold getItem
  try with_reducible refine wpAny_holding ?_
  first | refine wpAny_bind (wpAny_pure ?_) | skip
  refine wpAny_bind (wpAny_sequenceKey ht.typeIs (by decide) ?_)
  refine wpAny_bind (wpAny_callSpecial?_slot (name := Str.ofString "__getitem__") ht.typeIs PyProof.Rows.slot_tuple_getitem
    (wpAny_call_entry PyProof.Rows.slot_tuple_getitem ht.typeIs entry_tuple_getitem ?_ (args_tuple_getitem _ _)))
  show wpAny _ _ (Builtin.Tuple.tupleItemsOf (.ref t) >>= _) _ _ s
  refine wpAny_bind (tupleItemsOf_ ht ?_)
  refine wpAny_bind (wpAny_typeOf hTs ?_)
  rw [if_pos (by decide)]
  refine wpAny_bind (applied_back (n := items.size) hs pk ?_)
  have hno : ¬ ((((items.size : Int) - 1) == 0 && (-1 : Int) == 1 && items.size == items.size) = true) := by
    intro q
    rw [Bool.and_eq_true, Bool.and_eq_true] at q
    exact absurd q.1.2 (by decide)
  show wpAny _ _ (if (((items.size : Int) - 1) == 0 && (-1 : Int) == 1 && items.size == items.size) = true then _ else _) _ _ s
  rw [if_neg hno, pick_back]
  first
    | exact wpAny_bind (m := Builtin.Tuple.tupleExact _) (wpAny_newObj_type (wpAny_pure ⟨_, rfl, wpAny_pure h⟩) htake)
    | exact wpAny_bind (m := Builtin.Tuple.tupleExact _) (wpAny_newObj_type (wpAny_bind (wpAny_pure (wpAny_pure ⟨_, rfl, wpAny_pure h⟩))) htake)
    | exact wpAny_bind (wpAny_bind (m := Builtin.Tuple.tupleExact _) (wpAny_newObj_type (wpAny_pure (wpAny_pure ⟨_, rfl, wpAny_pure h⟩)) htake))
    | exact wpAny_bind (wpAny_bind (m := Builtin.Tuple.tupleExact _) (wpAny_newObj_type (wpAny_pure ⟨_, rfl, wpAny_pure h⟩) htake))
end
def revF : D → GH → DK → Prop := fun d G Q => match d with
  | .tup a => Q (.tup a.reverse) G
  | d => match asQ d G with
    | some a => Q (.lst a.reverse) G
    | none => False
def tRevA (K : PySem.W.Frag) (te : TE) : TE := fun σ H Q => te σ H fun x H1 => ∃ a xs, x = .ref a ∧ ((SqL K H1 a xs ∧ ∀ p, H1 p = none → Q (.ref p) (upd H1 p (.lst xs.reverse))) ∨ (SqT K H1 a xs ∧ ∀ p, H1 p = none → Q (.ref p) (upd H1 p (.tup xs.reverse))))
section
variable {X : Cx} {c : DC} {e : Expr} {te : DE} {k : Nat} {p1 p2 p3 pos : Pos}
theorem pe_revA {te : TE} (he : PE X e te) : PE X (.Subscript e (.Slice none none (some (.UnaryOp .USub (.Constant (.int 1) k p1) p2)) p3) pos) (tRevA X.K te) := by
  refine ⟨fun pins s σ H Q I h => Subscript_ (thn (he.run pins s σ H _ I h) fun v s1 ⟨x, H1, I1, r1, q1⟩ => ?_)⟩
  obtain ⟨a, xs, ex, q⟩ := q1
  subst ex
  cases r1
  have hst : PO X (some (.UnaryOp .USub (.Constant (.int 1) k p1) p2)) (tPart (tUn (rU fun i => .int (-i)) (tC (.int 1)))) := po_some (pe_un un_neg pe_int)
  rw [show (none : Option Expr) = none from rfl]
  refine wpAny_Slice ?_
  rw [evalPart_none]
  refine wpAny_pure (wpAny_pure ?_)
  refine thn (hst.run pins s1 σ H1 (fun o H4 => o = some (-1) ∧ H4 = H1) I1 ⟨1, rfl, -1, rfl, rfl, rfl⟩) fun vs s4 ⟨o, H4, I4, ps, eo, e4⟩ => ?_
  subst eo e4
  have I5 : Inv X pins σ H4 { s4 with heap := s4.heap.push { cls := .type "slice", data := .fields #[.none, .none, vs] } } := I4.kept (t' := s4.toks) fun b ob q => Heap.get?_push_of_some _ q
  show wpAny (model X.prog X.w) X.A (subscriptTail e (.Slice none none (some (.UnaryOp .USub (.Constant (.int 1) k p1) p2)) p3) (.ref a) (.ref s4.heap.objs.size)) (EP X pins σ Q) X.xe { s4 with heap := s4.heap.push { cls := .type "slice", data := .fields #[.none, .none, vs] } }
  rcases q with ⟨hx, q⟩ | ⟨hx, q⟩
  · obtain ⟨its, r, ht, hz⟩ := I5.list hx
    have hlen := r.length
    refine tail_any (ops := [.ref a, .ref s4.heap.objs.size]) ht.isList.typeIs (PySem.slot_list_getitem.lookup) ?_ (by with_unfolding_all rfl)
    refine wpAny_getItem_list_slice ht.isList (Heap.IsSliceOf.new _ .none .none vs) .none .none ps (by decide) ?_ (by rw [List.size_toArray]; omega)
    rw [PySem.W.krv_pick]
    refine ⟨.ref _, _, I5.laid (t' := s4.toks) (o := .lst xs.reverse) (fun b ob q => Heap.get?_push_of_some _ q) (Nat.le_refl _) ?_, rfl, q _ (I5.hok.fresh (Nat.le_refl _))⟩
    exact ⟨by rw [List.length_reverse]; exact hz, _, 0, r.reverse, Heap.get?_push_size _ rfl⟩
  · obtain ⟨its, r, ht, hz⟩ := I5.tuple hx
    have hlen := r.length
    refine tail_any (ops := [.ref a, .ref s4.heap.objs.size]) ht.typeIs (PyProof.Rows.slot_tuple_getitem.lookup) ?_ (by with_unfolding_all rfl)
    refine tuple_back ht (Heap.IsSliceOf.new _ .none .none vs) ps ?_ (by rw [List.size_toArray]; omega)
    refine ⟨.ref _, _, I5.laid (t' := s4.toks) (o := .tup xs.reverse) (fun b ob q => Heap.get?_push_of_some _ q) (Nat.le_refl _) ?_, rfl, q _ (I5.hok.fresh (Nat.le_refl _))⟩
    exact ⟨by rw [List.length_reverse]; exact hz, _, r.reverse, IsTup.new _ _⟩
theorem d_rev (he : PE X e (lE X.K c te)) : PE X (.Subscript e (.Slice none none (some (.UnaryOp .USub (.Constant (.int 1) k p1) p2)) p3) pos) (lE X.K c (dF1 revF te)) :=
  PE_imp (pe_revA he) fun σ H Q ⟨ρ, G, QD, u, h, kk⟩ => ⟨ρ, G, _, u, h, fun d G1 v H1 q s1 r1 p1 => by
    have lst : ∀ a, asQ d G1 = some a → (∀ b, d ≠ .tup b) → QD (.lst a.reverse) G1 → ∃ p xs, v = .ref p ∧ SqL X.K H1 p xs ∧ ∀ l, H1 l = none → Q (.ref l) (upd H1 l (.lst xs.reverse)) := fun a e n q => by
      obtain ⟨p, xs, rfl, h1, t⟩ := asQ_lst r1 p1 e n
      exact ⟨p, xs, rfl, h1, fun l hl => kk _ _ _ _ q (s1.trans (step_new hl)) (r1.new hl) (Rep.newL r1 hl t.reverse)⟩
    have key : (∃ b, d = .tup b) ∨ ∀ b, d ≠ .tup b := by
      cases d with
      | tup b => exact .inl ⟨b, rfl⟩
      | _ => exact .inr fun b z => nomatch z
    rcases key with ⟨b, rfl⟩ | n
    · cases p1 with
      | tup h1 t => exact ⟨_, _, rfl, .inr ⟨h1, fun l hl => kk _ _ _ _ q (s1.trans (step_new hl)) (r1.new hl) (Rep.newT r1 hl t.reverse)⟩⟩
    · have q : (match asQ d G1 with | some a => QD (.lst a.reverse) G1 | none => False) := by
        cases d with
        | tup b => exact absurd rfl (n b)
        | _ => exact q
      split at q
      · rename_i a e
        obtain ⟨p, xs, e1, h1, h2⟩ := lst a e n q
        exact ⟨p, xs, e1, .inl ⟨h1, h2⟩⟩
      · exact q.elim⟩
theorem hu65 {k : Nat} {A : Around} (r : Room k A) : A.units + 65 < cLine := by have := r.un; omega
/-- THE RULE for a def whose code object is to be known -/
theorem fn_okC {Pg : Program} {w : World} {K : PySem.W.Frag} {mg : Str → Option Value} {base : Heap} {x qual : Str} {params : Arguments} {body : List Stmt} {scope : Scope} {f : Addr} {fd : FuncData} {N ps : List Str} {k : Nat} {sp : DSp} {t : DXK → DS}
    (F : FunD K x qual params body scope [] [] f fd) (S : FnScope N ps scope) (len : ∀ ds G Q E, sp ds G Q E → ds.length = ps.length)
    (hbody : ∀ (cdv : Value) (A : Around) (outer : List Env) (s : Shared) (H : Hp) (E : XK) (c : DC) (Ex : DXK), fd.code = cdv → Room k (A.deeper (envOfC qual scope s.heap.objs.size f cdv)) → XOk (cxOf (L2.CX Pg w) Pg w K mg base N qual scope f cdv A outer s H E) c Ex →
      PSs (cxOf (L2.CX Pg w) Pg w K mg base N qual scope f cdv A outer s H E) body (lS K c (t Ex)))
    (pure : ∀ ds G Q E, sp ds G Q E → t E (fnEnds Q) (startD N ds) G) : FnOk Pg w K mg base (L2.CX Pg w) (k + 1) f fd ps (liftSp K sp) := by
  obtain ⟨oc, od, dV, kV, doc, pm, an, cdv, ct, osl, rfl, lk, hcd, _, _⟩ := F.ex
  refine fn_of lk hcd S (fun vs H Q E ⟨ds, P, G, QD, ED, h1, h2, h3, _⟩ => by rw [h1.length]; exact len _ _ _ _ h3) fun A outer s H vs Q E hr ⟨ds, P, G, QD, ED, h1, h2, h3, h4, h5⟩ => ?_
  have ok : XOk (cxOf (L2.CX Pg w) Pg w K mg base N qual scope f cdv A outer s H E) ⟨P, G, H⟩ ED := ⟨fun cls d _ H => E cls d H, takes_of rfl rfl rfl rfl, fun x G' H' cls d σ q s r p => h5 x G' cls d H' q s r p⟩
  refine ⟨_, hbody cdv A outer s H E ⟨P, G, H⟩ ED rfl hr ok, startD N ds, G, fnEnds QD, ⟨h2, Step.refl _ _, start_rep h1⟩, pure _ _ _ _ h3, ⟨?_, ?_, ?_, ?_⟩⟩
  · rintro ρ G2 σ H2 ⟨G', l, q⟩ s2 u2
    exact h4 _ _ _ _ q (fun a o e n g => let ⟨e1, e2⟩ := s2 a o e n g; ⟨e1, l.none e2⟩) (u2.rl.le l) .non
  · rintro d G2 v H2 ⟨d', G', l, z, q⟩ s2 r2 p2
    exact h4 _ _ _ _ q (fun a o e n g => let ⟨e1, e2⟩ := s2 a o e n g; ⟨e1, l.none e2⟩) (r2.le l) (z.rep r2 l p2)
  · intro ρ G2 σ H2 q
    exact q.elim
  · intro ρ G2 σ H2 q
    exact q.elim
end
end DL

end

section
set_option Elab.async false
set_option linter.all false
set_option maxRecDepth 100000
set_option maxHeartbeats 1000000
namespace DL
open PySem PySem.Spec PyProof.Rows L2
/-! ## pure: ends, classes, comparing -/
theorem fin_ret {Q : DK} {d : D} {G : GH} (q : Q d G) : (fnEnds Q).rt d G := ⟨d, G, Le.refl G, .same d, q⟩
theorem fin_nx {Q : DK} {ρ : DSt} {G : GH} (q : Q .non G) : (fnEnds Q).nx ρ G := ⟨G, Le.refl G, q⟩
/-- what was made is left behind -/
theorem fin_le {Q : DK} {d : D} {G G' : GH} (l : Le G' G) (q : Q d G') : (fnEnds Q).rt d G := ⟨d, G', l, .same d, q⟩
theorem isk_NoneType_int : isK "NoneType" "int" = false := by decide
theorem isk_NoneType_bool : isK "NoneType" "bool" = false := by decide
theorem isk_NoneType_str : isK "NoneType" "str" = false := by decide
theorem isk_NoneType_tuple : isK "NoneType" "tuple" = false := by decide
theorem isk_NoneType_list : isK "NoneType" "list" = false := by decide
theorem isk_NoneType_dict : isK "NoneType" "dict" = false := by decide
theorem isk_bool_int : isK "bool" "int" = true := by decide
theorem isk_bool_bool : isK "bool" "bool" = true := by decide
theorem isk_bool_str : isK "bool" "str" = false := by decide
theorem isk_bool_tuple : isK "bool" "tuple" = false := by decide
theorem isk_bool_list : isK "bool" "list" = false := by decide
theorem isk_bool_dict : isK "bool" "dict" = false := by decide
theorem isk_int_int : isK "int" "int" = true := by decide
theorem isk_int_bool : isK "int" "bool" = false := by decide
theorem isk_int_str : isK "int" "str" = false := by decide
theorem isk_int_tuple : isK "int" "tuple" = false := by decide
theorem isk_int_list : isK "int" "list" = false := by decide
theorem isk_int_dict : isK "int" "dict" = false := by decide
theorem isk_str_int : isK "str" "int" = false := by decide
theorem isk_str_bool : isK "str" "bool" = false := by decide
theorem isk_str_str : isK "str" "str" = true := by decide
theorem isk_str_tuple : isK "str" "tuple" = false := by decide
theorem isk_str_list : isK "str" "list" = false := by decide
theorem isk_str_dict : isK "str" "dict" = false := by decide
theorem isk_tuple_int : isK "tuple" "int" = false := by decide
theorem isk_tuple_bool : isK "tuple" "bool" = false := by decide
theorem isk_tuple_str : isK "tuple" "str" = false := by decide
theorem isk_tuple_tuple : isK "tuple" "tuple" = true := by decide
theorem isk_tuple_list : isK "tuple" "list" = false := by decide
theorem isk_tuple_dict : isK "tuple" "dict" = false := by decide
theorem isk_list_int : isK "list" "int" = false := by decide
theorem isk_list_bool : isK "list" "bool" = false := by decide
theorem isk_list_str : isK "list" "str" = false := by decide
theorem isk_list_tuple : isK "list" "tuple" = false := by decide
theorem isk_list_list : isK "list" "list" = true := by decide
theorem isk_list_dict : isK "list" "dict" = false := by decide

theorem isa_int {b : String} {i : Int} {G : GH} {Q : DK} (q : Q (.bl (isK "int" b)) G) (hb : b ∈ ["int", "bool", "str", "tuple", "list", "dict"] := by decide) : isa1 b (.int i) G Q := isa1_of (a := "int") rfl q hb
theorem isa_bl {b : String} {i : Bool} {G : GH} {Q : DK} (q : Q (.bl (isK "bool" b)) G) (hb : b ∈ ["int", "bool", "str", "tuple", "list", "dict"] := by decide) : isa1 b (.bl i) G Q := isa1_of (a := "bool") rfl q hb
theorem isa_str {b : String} {i : Str} {G : GH} {Q : DK} (q : Q (.bl (isK "str" b)) G) (hb : b ∈ ["int", "bool", "str", "tuple", "list", "dict"] := by decide) : isa1 b (.str i) G Q := isa1_of (a := "str") rfl q hb
theorem isa_non {b : String} {G : GH} {Q : DK} (q : Q (.bl (isK "NoneType" b)) G) (hb : b ∈ ["int", "bool", "str", "tuple", "list", "dict"] := by decide) : isa1 b .non G Q := isa1_of (a := "NoneType") rfl q hb
theorem isa_tup {b : String} {i : List D} {G : GH} {Q : DK} (q : Q (.bl (isK "tuple" b)) G) (hb : b ∈ ["int", "bool", "str", "tuple", "list", "dict"] := by decide) : isa1 b (.tup i) G Q := isa1_of (a := "tuple") rfl q hb
theorem isa_lst {b : String} {i : List D} {G : GH} {Q : DK} (q : Q (.bl (isK "list" b)) G) (hb : b ∈ ["int", "bool", "str", "tuple", "list", "dict"] := by decide) : isa1 b (.lst i) G Q := isa1_of (a := "list") rfl q hb
/-- isinstance(d, tuple): what it says -/
def isTup : D → Bool
  | .tup _ => true
  | _ => false
theorem isa_tuple {d : D} {G : GH} {Q : DK} (h : (tyD G d).isSome = true) (q : Q (.bl (isTup d)) G) : isa1 "tuple" d G Q := by
  cases d with
  | non => exact isa_non q
  | bl b => exact isa_bl q
  | int i => exact isa_int q
  | str x => exact isa_str q
  | tup a => exact isa_tup q
  | lst a => exact isa_lst q
  | scr a => exact isa1_of (a := "list") rfl q
  | ty n => cases h
  | ref p =>
    have h : (match G p with | some (.lst _) => some "list" | _ => none : Option String).isSome = true := h
    cases e : tyD G (.ref p) with
    | none =>
      have e : (match G p with | some (.lst _) => some "list" | _ => none : Option String) = none := e
      rw [e] at h; cases h
    | some a =>
      have ea : a = "list" := by
        have e : (match G p with | some (.lst _) => some "list" | _ => none : Option String) = some a := e
        split at e
        · cases e; rfl
        · cases e
      subst ea
      exact isa1_of e q
def isBlD : D → Bool
  | .bl _ => true
  | _ => false
theorem isa_bool {d : D} {G : GH} {Q : DK} (h : (tyD G d).isSome = true) (q : Q (.bl (isBlD d)) G) : isa1 "bool" d G Q := by
  cases d with
  | non => exact isa_non q
  | bl b => exact isa_bl q
  | int i => exact isa_int q
  | str x => exact isa_str q
  | tup a => exact isa_tup q
  | lst a => exact isa_lst q
  | scr a => exact isa1_of (a := "list") rfl q
  | ty n => cases h
  | ref p =>
    have h : (match G p with | some (.lst _) => some "list" | _ => none : Option String).isSome = true := h
    cases e : tyD G (.ref p) with
    | none =>
      have e : (match G p with | some (.lst _) => some "list" | _ => none : Option String) = none := e
      rw [e] at h; cases h
    | some a =>
      have ea : a = "list" := by
        have e : (match G p with | some (.lst _) => some "list" | _ => none : Option String) = some a := e
        split at e
        · cases e; rfl
        · cases e
      subst ea
      exact isa1_of e q
def isIntD : D → Bool
  | .bl _ => true
  | .int _ => true
  | _ => false
theorem isa_intD {d : D} {G : GH} {Q : DK} (h : (tyD G d).isSome = true) (q : Q (.bl (isIntD d)) G) : isa1 "int" d G Q := by
  cases d with
  | non => exact isa_non q
  | bl b => exact isa_bl q
  | int i => exact isa_int q
  | str x => exact isa_str q
  | tup a => exact isa_tup q
  | lst a => exact isa_lst q
  | scr a => exact isa1_of (a := "list") rfl q
  | ty n => cases h
  | ref p =>
    have h : (match G p with | some (.lst _) => some "list" | _ => none : Option String).isSome = true := h
    cases e : tyD G (.ref p) with
    | none =>
      have e : (match G p with | some (.lst _) => some "list" | _ => none : Option String) = none := e
      rw [e] at h; cases h
    | some a =>
      have ea : a = "list" := by
        have e : (match G p with | some (.lst _) => some "list" | _ => none : Option String) = some a := e
        split at e
        · cases e; rfl
        · cases e
      subst ea
      exact isa1_of e q
/-! ### data of a depth -/
theorem canAll (ds : List D) (h : ∀ d ∈ ds, d.py.canLay0 = true) : PyData.canLayAll0 (pyL ds) = true := by
  induction ds with
  | nil => simp [pyL, PyData.canLayAll0]
  | cons d ds ih => simp only [pyL, PyData.canLayAll0, Bool.and_eq_true]; exact ⟨h d (by simp), ih fun e he => h e (by simp [he])⟩
theorem depAll (n : Nat) (ds : List D) (h : ∀ d ∈ ds, d.py.depth ≤ n) : PyData.depthAll (pyL ds) ≤ n := by
  induction ds with
  | nil => simp [pyL, PyData.depthAll]
  | cons d ds ih =>
    simp only [pyL, PyData.depthAll]
    have h1 := h d (by simp)
    have h2 := ih fun e he => h e (by simp [he])
    omega
/-- scalars, tuples, lists, n deep -/
def dpt : Nat → D → Bool
  | _, .non => true
  | _, .bl _ => true
  | _, .int _ => true
  | _, .str x => PyData.strOk x
  | n + 1, .tup ds => ds.all (dpt n)
  | n + 1, .lst ds => ds.all (dpt n)
  | n + 1, .scr ds => ds.all (dpt n)
  | _, _ => false
theorem dpt_ok : ∀ (n : Nat) (d : D), dpt n d = true → d.py.canLay0 = true ∧ d.py.depth ≤ n
  | n, .non, _ => ⟨by simp [D.py, PyData.canLay0], by simp [D.py, PyData.depth]⟩
  | n, .bl _, _ => ⟨by simp [D.py, PyData.canLay0], by simp [D.py, PyData.depth]⟩
  | n, .int _, _ => ⟨by simp [D.py, PyData.canLay0], by simp [D.py, PyData.depth]⟩
  | n, .str x, h => ⟨by
      have h : PyData.strOk x = true := by cases n <;> exact h
      simp [D.py, PyData.canLay0, h], by simp [D.py, PyData.depth]⟩
  | n, .ty _, h => by cases n <;> cases h
  | n, .ref _, h => by cases n <;> cases h
  | 0, .tup _, h => by cases h
  | 0, .lst _, h => by cases h
  | 0, .scr _, h => by cases h
  | n + 1, .tup ds, h => by
    have h := List.all_eq_true.mp (show ds.all (dpt n) = true from h)
    refine ⟨by simp only [D.py, PyData.canLay0]; exact canAll ds fun d hd => (dpt_ok n d (h d hd)).1, ?_⟩
    simp only [D.py, PyData.depth]
    have := depAll n ds fun d hd => (dpt_ok n d (h d hd)).2
    omega
  | n + 1, .lst ds, h => by
    have h := List.all_eq_true.mp (show ds.all (dpt n) = true from h)
    refine ⟨by simp only [D.py, PyData.canLay0]; exact canAll ds fun d hd => (dpt_ok n d (h d hd)).1, ?_⟩
    simp only [D.py, PyData.depth]
    have := depAll n ds fun d hd => (dpt_ok n d (h d hd)).2
    omega
  | n + 1, .scr ds, h => by
    have h := List.all_eq_true.mp (show ds.all (dpt n) = true from h)
    refine ⟨by simp only [D.py, PyData.canLay0]; exact canAll ds fun d hd => (dpt_ok n d (h d hd)).1, ?_⟩
    simp only [D.py, PyData.depth]
    have := depAll n ds fun d hd => (dpt_ok n d (h d hd)).2
    omega
theorem shp {d : D} (n : Nat) (h : dpt n d = true) (hn : n ≤ 64 := by decide) : shapedD d = true := by
  obtain ⟨a, b⟩ := dpt_ok n d h
  unfold shapedD SeqAt.shaped
  rw [a, Bool.true_and, decide_eq_true_eq]
  omega
theorem shp_list (n : Nat) {ds : List D} (h : ∀ d ∈ ds, dpt n d = true) (hn : n + 1 ≤ 64 := by decide) : shapedD (.lst ds) = true := shp (n + 1) (List.all_eq_true.mpr h) hn
theorem shp_tup (n : Nat) {ds : List D} (h : ∀ d ∈ ds, dpt n d = true) (hn : n + 1 ≤ 64 := by decide) : shapedD (.tup ds) = true := shp (n + 1) (List.all_eq_true.mpr h) hn
/-- x == x -/
theorem eq_self {d : D} {G : GH} {Q : DK} (n : Nat) (h : dpt n (valD G d) = true) (q : Q (.bl true) G) (hn : n ≤ 64 := by decide) : eqD d d G Q := by
  have s := shp n h hn
  show eqQ false d d G Q
  unfold eqQ
  split
  · rename_i b e
    cases d <;> cases e <;> simpa using q
  · refine ⟨⟨s, s⟩, ?_⟩
    rw [SeqAt.eqv_refl _ (SeqAt.canLay_of_shaped s)]
    exact q
theorem pyL_ints (ns : List Int) : pyL (ns.map .int) = ns.map PyData.int := by
  induction ns with
  | nil => simp [pyL]
  | cons n ns ih => simp [pyL, ih, D.py]
theorem eqv_ints (ns ms : List Int) : PyData.eqv (D.lst (ns.map .int)).py (D.lst (ms.map .int)).py = decide (ns = ms) := by
  simp only [D.py, PyData.eqv, pyL_ints]
  exact PySem.W.ked_eqvAll ns ms
/-! ### single steps -/
section
variable {G : GH} {Q : DK} {i j : Int} {a : List D} {d : D} {p : Addr}
theorem eqI (q : Q (.bl (decide (i = j))) G) : eqD (.int i) (.int j) G Q := by
  show Q (.bl (decide (i = j) ^^ false)) G
  rw [Bool.xor_false]; exact q
theorem neI (q : Q (.bl (!decide (i = j))) G) : neD (.int i) (.int j) G Q := by
  show Q (.bl (decide (i = j) ^^ true)) G
  rw [Bool.xor_true]; exact q
theorem eqB {x y : Bool} (q : Q (.bl (decide (x = y))) G) : eqD (.bl x) (.bl y) G Q := by
  show Q (.bl (decide (x = y) ^^ false)) G
  rw [Bool.xor_false]; exact q
theorem eqX {x y : Str} (q : Q (.bl (decide (x = y))) G) : eqD (.str x) (.str y) G Q := by
  show Q (.bl (decide (x = y) ^^ false)) G
  rw [Bool.xor_false]; exact q
theorem neX {x y : Str} (q : Q (.bl (!decide (x = y))) G) : neD (.str x) (.str y) G Q := by
  show Q (.bl (decide (x = y) ^^ true)) G
  rw [Bool.xor_true]; exact q
theorem ixT (e : L2.atI a i = some d) (q : Q d G) : ixD (.tup a) (.int i) G Q := by
  show (match L2.atI a i with | some d => Q d G | none => False)
  rw [e]; exact q
theorem ixL (e : L2.atI a i = some d) (q : Q d G) : ixD (.lst a) (.int i) G Q := by
  show (match L2.atI a i with | some d => Q d G | none => False)
  rw [e]; exact q
theorem ixS (e : L2.atI a i = some d) (q : Q d G) : ixD (.scr a) (.int i) G Q := by
  show (match L2.atI a i with | some d => Q d G | none => False)
  rw [e]; exact q
theorem ixR (g : G p = some (.lst a)) (e : L2.atI a i = some d) (q : Q d G) : ixD (.ref p) (.int i) G Q := by
  show (match (match G p with | some (.lst a) => some a | _ => none) with | some ds => (match L2.atI ds i with | some d => Q d G | none => False) | none => False)
  rw [g]
  show (match L2.atI a i with | some d => Q d G | none => False)
  rw [e]; exact q
theorem lenT (q : Q (.int a.length) G) : lenF (.tup a) G Q := q
theorem lenL (q : Q (.int a.length) G) : lenF (.lst a) G Q := q
theorem lenS (q : Q (.int a.length) G) : lenF (.scr a) G Q := q
theorem lenR (g : G p = some (.lst a)) (q : Q (.int a.length) G) : lenF (.ref p) G Q := by
  show (match (match G p with | some (.lst a) => some a | _ => none) with | some a => Q (.int a.length) G | none => False)
  rw [g]; exact q
theorem atI_nat {α : Type} {xs : List α} {n : Nat} {x : α} (h : xs[n]? = some x) : L2.atI xs (n : Int) = some x := by
  have hn : n < xs.length := (List.getElem?_eq_some_iff.mp h).1
  unfold L2.atI
  have e : ixN xs.length (n : Int) = some n := by
    unfold ixN
    first
      | (simp; omega)
      | (split <;> simp <;> omega)
  rw [e]
  exact h
theorem getLR {k : List D → Prop} (g : G p = some (.lst a)) (q : k a) : getL G p k := by
  unfold getL
  rw [g]; exact q
theorem ownLR {k : Addr → Prop} (g : G p = some (.lst a)) (q : k p) : ownL (.ref p) G k := by
  show (match G p with | some (.lst _) => k p | _ => False)
  rw [g]; exact q
theorem tupR (g : G p = some (.lst a)) (q : Q (.tup a) G) : tupF (.ref p) G Q := by
  show (match (match G p with | some (.lst a) => some a | _ => none) with | some a => Q (.tup a) G | none => False)
  rw [g]; exact q
theorem setR {j : Nat} (g : G p = some (.lst a)) (e : ixN a.length i = some j) {Q : GH → Prop} (q : Q (updG G p (.lst (a.set j d)))) : setD (.ref p) (.int i) d G Q := by
  show (match G p with | some (.lst ds) => (match ixN ds.length i with | some j => Q (updG G p (.lst (ds.set j d))) | none => False) | _ => False)
  rw [g]
  show (match ixN a.length i with | some j => Q (updG G p (.lst (a.set j d))) | none => False)
  rw [e]; exact q
end
end DL

end

section
set_option Elab.async false
set_option linter.all false
set_option maxRecDepth 100000
set_option maxHeartbeats 2000000
namespace HX
open PySem PySem.Spec PyProof.Rows L2 He DX DL
/-! ## an own error's facts, by looking -/
/-- the function that stands inside a class's text -/
def clsFn (st : Stmt) : Stmt := match st with
  | .ClassDef _ _ _ body _ _ _ _ _ _ _ => body.getD 0 (.Pass ⟨0, 0, 0, 0⟩)
  | s => s
abbrev FnC : Type := Option (Str × Str × Arguments × FuncBody × Scope)
def fnC (K : PySem.W.Frag) (f : Addr) : FnC := match K.lookup f with
  | some ⟨_, _, .func fd, _⟩ => some (fd.name, fd.qualname, fd.params, fd.body, fd.scope)
  | _ => none
def ini (K : PySem.W.Frag) (cn : Str) : Addr := ma K (ga K cn) "__init__"
def cloOf (K : PySem.W.Frag) (f : Addr) : Addr := match K.lookup f with
  | some ⟨_, _, .func fd, _⟩ => (match fd.closure with
    | [(_, c)] => c
    | _ => 0)
  | _ => 0
def cdOf (K : PySem.W.Frag) (f : Addr) : Addr := match K.lookup f with
  | some ⟨_, _, .func fd, _⟩ => (match fd.code with
    | .ref c => c
    | _ => 0)
  | _ => 0
def clsB (K : PySem.W.Frag) (C : Addr) : Bool := match K.lookup C with
  | some ⟨.type "type", _, .cls cd, sl⟩ => (match cd.mro, sl.toList with
    | .ref C' :: bm, [_, _, _, _, some (.builtin n), _] => decide (C' = C) && (decide (n = "ValueError.__new__") && (!cd.hasDel && (cd.hasDict && (PySem.HandSPX.refsVE bm && eqO (PySem.W.alongIn K "__init__" bm) (some (some (.builtin "ValueError.__init__")))))))
    | _, _ => false)
  | _ => false
theorem clsB_ok {K : PySem.W.Frag} {C : Addr} (h : clsB K C = true) : ∃ nm q N bs bm sn sub ab col dd k0 k1 k2 k3 k5, K.lookup C = some (excClassObj nm q C N bs bm true sn sub ab col dd k0 k1 k2 k3 k5 "ValueError.__new__") ∧ PySem.HandSPX.refsVE bm = true ∧ PySem.W.alongIn K "__init__" bm = some (some (.builtin "ValueError.__init__")) := by
  unfold clsB at h
  split at h
  · rename_i dd cd sl ho
    split at h
    · rename_i C' bm k0 k1 k2 k3 n k5 hm hs
      obtain ⟨e1, h⟩ := ba h
      obtain ⟨e2, h⟩ := ba h
      obtain ⟨e3, h⟩ := ba h
      obtain ⟨e4, h⟩ := ba h
      obtain ⟨e5, e6⟩ := ba h
      have e1 := of_decide_eq_true e1
      have e2 := of_decide_eq_true e2
      obtain ⟨nm, bs, mro, ns, qn, hd, sn, sub, ab, col, del⟩ := cd
      dsimp only at hm e3 e4
      subst hm e1 e2 e4
      have e3 : del = false := by
        cases del
        · rfl
        · cases e3
      subst e3
      have hsl : sl = #[k0, k1, k2, k3, some (.builtin "ValueError.__new__"), k5] := by
        apply Array.toList_inj.mp
        exact hs
      subst hsl
      exact ⟨nm, qn, ns, bs, bm, sn, sub, ab, col, dd, k0, k1, k2, k3, k5, ho, e5, eqO_ok e6⟩
    · cases h
  · cases h
def fnB (K : PySem.W.Frag) (f : Addr) (qual : Str) : Bool := match K.lookup f with
  | some ⟨_, _, .func fd, _⟩ => decide (fd.globals = mainGlobals) && (decide (fd.builtins = builtinsNs) && (decide (fd.closure = [(("__class__" : Str), cloOf K f)]) && (decide (fd.defaults = .none) && (decide (fd.kwdefaults = .none) && (decide (fd.code = .ref (cdOf K f)) && PySem.W.codeIn K (.ref (cdOf K f)) qual)))))
  | _ => false
theorem fnB_ok {K : PySem.W.Frag} {f : Addr} {qual nm : Str} {A : Arguments} {B : List Stmt} {S : Scope} (e : fnC K f = (some (nm, qual, A, FuncBody.stmts B, S) : FnC)) (h : fnB K f qual = true) :
    ∃ (oc : Value) (od : Option Addr) (doc pm : Value) (an : Option Addr) (ct : Value) (osl : Array (Option Value)), K.lookup f = some ⟨oc, od, .func (PySem.W.ksFn nm qual A B S .none .none doc pm an (.ref (cdOf K f)) ct (cloOf K f)), osl⟩ ∧ PySem.W.codeIn K (.ref (cdOf K f)) qual = true := by
  unfold fnC at e
  unfold fnB at h
  cases q : K.lookup f with
  | none => rw [q] at h; cases h
  | some o =>
    obtain ⟨oc, od, dt, osl⟩ := o
    rw [q] at h e
    cases dt with
    | func fd =>
      obtain ⟨n1, n2, n3, n4, n5, n6, n7, n8, n9, n10, n11, n12, n13, n14, n15⟩ := fd
      have e2 : (some (n1, n2, n3, n4, n5) : FnC) = some (nm, qual, A, FuncBody.stmts B, S) := e
      simp only [Option.some.injEq, Prod.mk.injEq] at e2
      obtain ⟨h1, h2, h3, h4, h5⟩ := e2
      subst h1 h2 h3 h4 h5
      obtain ⟨c1, h⟩ := ba h
      obtain ⟨c2, h⟩ := ba h
      obtain ⟨c3, h⟩ := ba h
      obtain ⟨c4, h⟩ := ba h
      obtain ⟨c5, h⟩ := ba h
      obtain ⟨c6, c7⟩ := ba h
      have c1 := of_decide_eq_true c1
      have c2 := of_decide_eq_true c2
      have c3 := of_decide_eq_true c3
      have c4 := of_decide_eq_true c4
      have c5 := of_decide_eq_true c5
      have c6 := of_decide_eq_true c6
      dsimp only at c1 c2 c3 c4 c5 c6
      refine ⟨oc, od, n10, n11, n12, n14, osl, ?_, c7⟩
      rw [c1, c2, c3, c4, c5, c6]
    | _ => cases h
def codeB (P : Program) (K : PySem.W.Frag) (cda : Addr) : Bool := match K.lookup cda with
  | some ⟨_, _, .fields vs, _⟩ => (match (vs[2]? : Option Value) with
    | some (.str file _) => (P.main.file : Str) == file
    | _ => false)
  | _ => false
theorem codeB_ok {P : Program} {K : PySem.W.Frag} {cda : Addr} (h : codeB P K cda = true) : ∃ (ccl : Value) (cdd : Option Addr) (vs : Array Value) (ccs : Array (Option Value)) (file : Str) (tf : Tok), K.lookup cda = some ⟨ccl, cdd, .fields vs, ccs⟩ ∧ vs[2]? = some (.str file tf) ∧ ((P.main.file : Str) == file) = true := by
  unfold codeB at h
  split at h
  · rename_i oc od vs osl q
    split at h
    · rename_i file tf e
      exact ⟨oc, od, vs, osl, file, tf, q, e, h⟩
    · cases h
  · cases h
def cellB (K : PySem.W.Frag) (cc C : Addr) : Bool := match K.lookup cc with
  | some ⟨_, _, .cell (some (.ref D)), _⟩ => decide (D = C)
  | _ => false
theorem cellB_ok {K : PySem.W.Frag} {cc C : Addr} (h : cellB K cc C = true) : ∃ (cl : Value) (cld : Option Addr) (csl : Array (Option Value)), K.lookup cc = some ⟨cl, cld, .cell (some (.ref C)), csl⟩ := by
  unfold cellB at h
  split at h
  · rename_i oc od D osl q
    have e := of_decide_eq_true h
    subst e
    exact ⟨oc, od, osl, q⟩
  · cases h
def errB (P : Program) (cn f qual : Str) (K : PySem.W.Frag) : Bool :=
  clsB K (ga K cn) && (fnB K (ini K cn) qual && (codeB P K (cdOf K (ini K cn)) && (cellB K (cloOf K (ini K cn)) (ga K cn) &&
  (eqO (PySem.W.findIn K (.ref (ga K cn)) "__setattr__") (some (some (.builtin "object.__setattr__"))) && (eqO (PySem.W.findIn K (.ref (ga K cn)) "__getattribute__") (some (some (.builtin "BaseException.__getattribute__"))) &&
  (eqO (PySem.W.findIn K (.ref (ga K cn)) "__getattr__") (some none) && (eqO (PySem.W.findIn K (.ref (ga K cn)) f) (some none) && (eqO (PySem.W.findIn K (.ref (ga K cn)) "__init__") (some (some (.ref (ini K cn)))) &&
  (decide (PySem.W.typeIn K (.ref (ini K cn)) = some (.type "function")) && (PySem.W.keepIn K (.ref (ga K cn)) && (decide (PySem.W.subIn K (.ref (ga K cn)) (.type "BaseException") = some true) && (decide (PySem.W.subIn K (.ref (ga K cn)) (.type "ValueError") = some true) &&
  (decide (PySem.W.typeIn K (.ref (ga K cn)) = some (.type "type")) && (PySem.W.hasDictIn K (ga K cn) && (decide (PySem.W.exmOne K (.ref (ga K cn)) (.ref (ga K cn)) = some true) && eqO (PySem.W.nsIn K PySem.cStatics "thirdparty.any") (some none))))))))))))))))
theorem err_ok {P : Program} {K : PySem.W.Frag} {h : Heap} {mg : Str → Option Value} {cn f qual : Str} (X : K.In h) (G : h.Ns mainGlobals mg) (gC : (Fa.glo cn).ok K = true) (gS : (Fa.free "super").ok K = true) (top : (P.main.scope.names.lookup ("super" : Str)).isSome = false)
    {p1 p2 a1 a2 a3 a4 a5 a6 q1 q2 q3 q4 : Pos} (e : fnC K (ini K cn) = (some ((("__init__" : Str)), qual, eA f p1 p2, FuncBody.stmts (eB f a1 a2 a3 a4 a5 a6 q1 q2 q3 q4), eS f) : FnC)) (c : errB P cn f qual K = true)
    (ev : ∀ L fI cda cc : Addr, ∃ pl : Sem Bool, eval (.Call (.Attribute (.Call (.Name "super" a1) [] [] a2) "__init__" a3) [.Name f a4] [] a5) (PySem.W.ksEnv qual (eS f) L fI (.ref cda) cc) = (do
        let ov ← attributeBase (.Call (.Name "super" a1) [] [] a2) "__init__" (PySem.W.ksEnv qual (eS f) L fI (.ref cda) cc) (eval (.Call (.Name "super" a1) [] [] a2) (PySem.W.ksEnv qual (eS f) L fI (.ref cda) cc))
        standAt a3.atName
        let (fv, first) ← holding [ov] (getMethod ov "__init__" pl)
        callWith a5 fv first (backTo a5 (starEach [.Name f a4] (PySem.W.ksEnv qual (eS f) L fI (.ref cda) cc))) []))
    (sw1 : ∀ L fI cda cc : Addr, swapsWith (.Call (.Attribute (.Call (.Name "super" a1) [] [] a2) "__init__" a3) [.Name f a4] [] a5) none a6.line (PySem.W.ksEnv qual (eS f) L fI (.ref cda) cc) = pure false)
    (sw2 : ∀ L fI cda cc : Addr, swapsWith (.Name f q3) (some (.Attribute (.Name "self" q1) f q2)) q4.line (PySem.W.ksEnv qual (eS f) L fI (.ref cda) cc) = pure false) :
    ErrTxt P K mg cn f (ga K cn) (ini K cn) (cloOf K (ini K cn)) (cdOf K (ini K cn)) qual := by
  obtain ⟨c1, c⟩ := ba c
  obtain ⟨c2, c⟩ := ba c
  obtain ⟨c3, c⟩ := ba c
  obtain ⟨c4, c⟩ := ba c
  obtain ⟨c5, c⟩ := ba c
  obtain ⟨c6, c⟩ := ba c
  obtain ⟨c7, c⟩ := ba c
  obtain ⟨c8, c⟩ := ba c
  obtain ⟨c9, c⟩ := ba c
  obtain ⟨c10, c⟩ := ba c
  obtain ⟨c11, c⟩ := ba c
  obtain ⟨c12, c⟩ := ba c
  obtain ⟨c13, c⟩ := ba c
  obtain ⟨c14, c⟩ := ba c
  obtain ⟨c15, c⟩ := ba c
  obtain ⟨c16, c17⟩ := ba c
  obtain ⟨oc, od, doc, pm, an, ct, osl, lk, hcd⟩ := fnB_ok e c2
  exact {
    gC := glo_ok X G gC, noS := free_ok X G gS, cls := clsB_ok c1, sa := eqO_ok c5, ga := eqO_ok c6, gg := eqO_ok c7, noN := eqO_ok c8, iC := eqO_ok c9, tC := of_decide_eq_true c10, kC := c11,
    exC := of_decide_eq_true c12, veC := of_decide_eq_true c13, tyC := of_decide_eq_true c14, hdC := c15, te := of_decide_eq_true c16, nop := eqO_ok c17, top := top,
    fn := ⟨oc, od, doc, pm, an, ct, osl, p1, p2, a1, a2, a3, a4, a5, a6, q1, q2, q3, q4, lk, hcd, fun L => ev L _ _ _, fun L => sw1 L _ _ _, fun L => sw2 L _ _ _⟩,
    code := codeB_ok c3, cell := cellB_ok c4 }

/-! ## the Hook: He's, and the texts of the errors' __init__ -/
abbrev AlZ : Type := AlX × List FnC
/-- the addresses that are looked at: those grown from the globals, and the statics' -/
def frZ (g : Addr → Option Obj) (n : Nat) : PySem.W.Frag := frT g (PySem.cStatics :: asD g n)
def obsZ (n : Nat) (fa : List Fa) (fn : List DefD) (ts : List Tab) (tf : List Defn) (ex : PySem.W.Frag → Bool) (es : List Str) (g : Addr → Option Obj) : AlZ := ((obsT fa fn ts (frZ g n), ex (frZ g n) && tabsB g tf (frZ g n)), es.map fun cn => fnC (frZ g n) (ini (frZ g n) cn))
def valZ (fn : List DefD) (ts : List Tab) (vs : List FnC) (w : World) : AlZ := (valX fn ts w, vs)
theorem tabs_at {g : Addr → Option Obj} {tf : List Defn} {K : PySem.W.Frag} (h : tabsB g tf K = true) {p : Defn} (hp : p ∈ tf) : PySem.W.codeHdIn K (cT K p).1 (cT K p).2 = true ∧ ∃ o, g (cT K p).2 = some o ∧ emptyTab o = true := by
  unfold tabsB at h
  have u := List.all_eq_true.mp h p hp
  rw [Bool.and_eq_true] at u
  refine ⟨u.1, ?_⟩
  have u2 := u.2
  cases q : g (cT K p).2 with
  | none => rw [q] at u2; cases u2
  | some o => rw [q] at u2; exact ⟨o, rfl, u2⟩
theorem saysZ_of {n : Nat} {fa : List Fa} {fn : List DefD} {ts : List Tab} {tf : List Defn} {ex : PySem.W.Frag → Bool} {w : World} {h : Heap} (e : (obsT fa fn ts (frZ h.get? n), ex (frZ h.get? n) && tabsB h.get? tf (frZ h.get? n)) = valX fn ts w) : SaysX fa fn ts tf ex w h (frZ h.get? n) := by
  obtain ⟨z1, z2⟩ := Prod.mk.inj e
  rw [Bool.and_eq_true] at z2
  refine ⟨z1, z2.1, fun p hp => (tabs_at z2.2 hp).1, fun p hp => ?_, fun p hp => ?_⟩
  · obtain ⟨_, o, q, z⟩ := tabs_at z2.2 hp
    exact frT_none q z
  · obtain ⟨_, o, q, z⟩ := tabs_at z2.2 hp
    rw [emptyTab_eq z] at q
    exact q
structure SaysZ (fa : List Fa) (fn : List DefD) (ts : List Tab) (tf : List Defn) (ex : PySem.W.Frag → Bool) (es : List Str) (vs : List FnC) (w : World) (h : Heap) (K : PySem.W.Frag) : Prop where
  x : SaysX fa fn ts tf ex w h K
  e : es.map (fun cn => fnC K (ini K cn)) = vs
def hookZ (n : Nat) (fa : List Fa) (fn : List DefD) (ts : List Tab) (tf : List Defn) (ex : PySem.W.Frag → Bool) (es : List Str) (vs : List FnC) : PySem.W.Hook where
  α := AlZ
  obs := fun s => obsZ n fa fn ts tf ex es s.heap.get?
  val := fun w => valZ fn ts vs w
  says := fun w h => ∃ K : PySem.W.Frag, K.In h ∧ SaysZ fa fn ts tf ex es vs w h K
  of := fun w s e => ⟨frZ s.heap.get? n, frT_in, saysZ_of (congrArg (fun z : AlZ => z.1) e), congrArg (fun z : AlZ => z.2) e⟩
  keeps := fun _ _ _ ⟨K, hK, c⟩ k => ⟨K, PySem.W.Frag.In.keeps hK k, ⟨c.x.t, c.x.more, c.x.hd, c.x.out, fun p hp => k _ _ (c.x.empty p hp)⟩, c.e⟩
theorem obsZ_eq {n : Nat} {fa : List Fa} {fn : List DefD} {ts : List Tab} {tf : List Defn} {ex : PySem.W.Frag → Bool} {es : List Str} {vs : List FnC} {g : Addr → Option Obj} {s : Shared} (h : ∀ a, g a = s.heap.get? a) : obsZ n fa fn ts tf ex es g = (hookZ n fa fn ts tf ex es vs).obs s := by
  have e : g = s.heap.get? := funext h
  rw [e] <;> rfl
/-- a def's code -/
theorem code_of {K : PySem.W.Frag} {p : Defn} {x qual : Str} {params : Arguments} {body : List Stmt} {scope : Scope} {fd : FuncData} (F : FunD K x qual params body scope [] [] (fAd K p) fd) : fd.code = .ref (codeOf K p) := by
  obtain ⟨oc, od, dV, kV, doc, pm, an, cdv, ct, osl, rfl, lk, hcd, _, _⟩ := F.ex
  obtain ⟨c, rfl⟩ := codeIn_ref hcd
  show Value.ref c = _
  rw [codeOf_eq lk rfl]
/-- the script stands: frozen, or a list that nobody else tells -/
theorem script_sp {K : PySem.W.Frag} {H : Hp} {a Pt : Addr} {ns : List Int} {qn : Str} {sp : DSp} (hT : H Pt = some (.tbl #[])) (hS : SqL K H a (ns.map V.int))
    (h : ∀ (l : Bool) (G : GH), DL.OneTab Pt qn G → sp [if l = true then D.lst (ns.map .int) else .scr (ns.map .int)] G (fun d _ => d = .bl true) noX) : liftSp K sp [.ref a] H (fun v _ => v = .bl true) fun _ _ _ => False := by
  have rl : ∀ {K : PySem.W.Frag} {P : Addr → Prop} {G : GH} {H : Hp} (ns : List Int), RepL K P G H (ns.map V.int) (ns.map D.int) := by
    intro K P G H ns
    induction ns with
    | nil => exact .nil
    | cons n ns ih => exact .cons (.int n) ih
  have gg : ∀ b g, (if b = Pt then (some (.tab qn) : Option GO) else none) = some g → b = Pt ∧ g = .tab qn := by
    intro b g e
    by_cases z : b = Pt
    · rw [if_pos z] at e
      cases e
      exact ⟨z, rfl⟩
    · rw [if_neg z] at e
      cases e
  have ot : DL.OneTab Pt qn (fun b => if b = Pt then some (.tab qn) else none) := ⟨if_pos rfl, fun b q e => by
    obtain ⟨z, e⟩ := gg b _ e
    injection e with e
    exact ⟨z, e⟩⟩
  have r : Rl K (fun _ => False) (fun b => if b = Pt then some (.tab qn) else none) H := ⟨fun b g e => by
    obtain ⟨z, rfl⟩ := gg b _ e
    rw [z]
    exact LamX.TabS.nil hT, fun b z => z.elim⟩
  have fin : ∀ (l : Bool), Rep K (fun _ => False) (fun b => if b = Pt then some (.tab qn) else none) H (.ref a) (if l = true then D.lst (ns.map .int) else .scr (ns.map .int)) → liftSp K sp [.ref a] H (fun v _ => v = .bl true) fun _ _ _ => False := fun l hr =>
    ⟨_, fun _ => False, _, _, noX, .cons hr .nil, r, h l _ ot, fun d G' v H' q _ _ p => by
      subst q
      cases p
      rfl, fun x G' cls d H' q => q.elim⟩
  rcases hS with (hS | ⟨o, hS⟩) | hS
  · refine fin true (.lst hS (if_neg fun z => ?_) id (rl ns))
    rw [z, hT] at hS; cases hS
  · exact fin false (.frz (.inl ⟨o, hS⟩) (rl ns))
  · exact fin false (.frz (.inr hS) (rl ns))
theorem cx_out {P : Program} {w : World} {H : Hp} {s : Shared} {e : Value} {s' : Shared} (h : L2.CX P w [] H s (fun _ _ _ => False) e s') : False := by
  obtain ⟨_, _, _, _, _, _, _, _, _, _, _, _, z⟩ := h
  exact z
end HX

end

section
set_option Elab.async false
set_option linter.all false
set_option maxRecDepth 100000
set_option maxHeartbeats 1000000
namespace DL
open PySem PySem.Spec PyProof.Rows L2
/-! ## sep.join -/
theorem rep_strs {K : PySem.W.Frag} {P : Addr → Prop} {G : GH} {H : Hp} : ∀ {xs : List V} {ys : List Str}, RepL K P G H xs (ys.map .str) → xs = ys.map V.str
  | _, [], t => by cases t; rfl
  | _, b :: bs, t => by
    cases t with
    | cons h t =>
      cases h
      have e := rep_strs t
      rw [e, List.map_cons]
def joinF : Str → D → GH → DK → Prop := fun a y G Q => match asQ y G with
  | some ds => ∃ ys : List Str, ds = ys.map .str ∧ (ys.map (·.length)).sum + ys.length * a.length ≤ 16777216 ∧ Q (.str (Txt.join a ys)) G
  | none => False
def dJoin (to te : DE) : DE := fun ρ G Q => to ρ G fun d G1 => ∃ a, d = .str a ∧ te ρ G1 fun y G2 => joinF a y G2 Q
section
variable {X : Cx} {c : DC} {o e : Expr} {to te : DE} {apos pos : Pos}
theorem d_join (ho : PE X o (lE X.K c to)) (he : PE X e (lE X.K c te)) (hs : starEach [e] X.env = [(false, eval e X.env)] := by rfl) (hbase : attributeBase o "join" X.env (eval o X.env) = eval o X.env := by rfl) (hline : (apos.endLine == pos.line) = true := by rfl) :
    PE X (.Call (.Attribute o "join" apos) [e] [] pos) (lE X.K c (dJoin to te)) :=
  PE_imp (pe_join ho he hs hbase hline) fun σ H Q ⟨ρ, G, QD, u, h, k⟩ => ⟨ρ, G, _, u, h, fun d G1 v H1 q s1 r1 p1 => by
    obtain ⟨a, rfl, q⟩ := q
    cases p1
    refine ⟨⟨a, rfl⟩, ρ, G1, _, u.step s1 r1, q, fun y G2 w H2 q2 s2 r2 p2 => ?_⟩
    unfold joinF at q2
    split at q2
    · rename_i ds eds
      obtain ⟨ys, rfl, hz, q2⟩ := q2
      obtain ⟨p, xs, rfl, h1, t⟩ := asQ_rep r2 p2 eds
      exact ⟨a, p, ys, rfl, rfl, by rw [← rep_strs t]; exact h1, hz, k _ _ _ _ q2 (s1.trans s2) r2 (.str _)⟩
    · exact q2.elim⟩
/-- a < b < c, where a test stands -/
theorem dt_chain {op op' : CmpOp} {r r' : R2D} {a b e2 : Expr} {ta tb tc : DE} (ho : OpD X (compareOp op) r) (ho' : OpD X (compareOp op') r') (ha : PE X a (lE X.K c ta)) (hb : PE X b (lE X.K c tb)) (hc : PE X e2 (lE X.K c tc))
    (hm : lastMarks [op, op'] [b, e2] = false := by with_unfolding_all rfl) : PT X (.Compare a [op, op'] [b, e2] pos) (lT X.K c (dTst (dChain r r' ta tb tc))) :=
  PT_imp (pt_chain (ho c.P) (ho' c.P) ha hb hc hm) fun σ H Q ⟨ρ, G, QD, u, h, k⟩ => chain_imp (Q := fun x H' => ∃ k, x = .bl k ∧ Q k H') ⟨ρ, G, isB QD, u, h, fun d G' v H' q s r p => by
    cases p with
    | bl b => exact ⟨b, rfl, k _ _ _ q s r⟩
    | _ => exact (show False from q).elim⟩
end
end DL

end

section
set_option Elab.async false
set_option linter.all false
set_option maxRecDepth 100000
set_option maxHeartbeats 1000000
namespace DL
open PySem PySem.Spec PyProof.Rows L2 PySem.W
/-! ## sum of a list's or a tuple's ints -/
theorem cr_sumA {X : Cx} (hc : X.calm = true) : CallR X (.builtin "sum") (fun vs H Q => ∃ (a : Addr) (ns : List Int), vs = [V.ref a] ∧ (SqL X.K H a (ns.map V.int) ∨ SqT X.K H a (ns.map V.int)) ∧ Q (.int ns.sum) H) := by
  intro pins s σ H vs us Q I r h
  obtain ⟨a, ns, rfl, hs | hs, q⟩ := h
  · exact cr_sum hc pins s σ H _ us Q I r ⟨a, ns, rfl, hs, q⟩
  · obtain ⟨its, rv, hl, _⟩ := I.tuple hs
    rw [Vals.ref1 r]
    have hi := rv.ints
    obtain ⟨xs, hx⟩ := hi.allInts.items
    have hn : numsOf its.toArray.toList = ns := by rw [show its.toArray.toList = its from rfl, hi.numsOf]
    have hl2 : s.heap.IsTuple a its.toArray := hl
    rw [hx] at hl2 hn
    rw [nums_intItems] at hn
    refine ktm_sumG (I.ok.hd hc) hl2 fun h' tk t' hk => ?_
    rw [preSum_eq, List.take_of_length_le (by simp), hn]
    exact ⟨.int _, H, I.kept hk, ⟨_, rfl⟩, q⟩
theorem rep_ints {K : PySem.W.Frag} {P : Addr → Prop} {G : GH} {H : Hp} : ∀ {xs : List V} {ns : List Int}, RepL K P G H xs (ns.map .int) → xs = ns.map V.int
  | _, [], t => by cases t; rfl
  | _, b :: bs, t => by
    cases t with
    | cons h t =>
      cases h
      have e := rep_ints t
      rw [e, List.map_cons]
def sumF : D → GH → DK → Prop := fun d G Q => match asQ d G with
  | some ds => ∃ ns : List Int, ds = ns.map .int ∧ Q (.int ns.sum) G
  | none => False
theorem cd_sum {X : Cx} (hc : X.calm = true) : CallD X (.builtin "sum") (on1 sumF) := cd_one' (cr_sumA hc) fun P H v d G QD Q r h q k => by
  unfold sumF at q
  split at q
  · rename_i ds e
    obtain ⟨ns, rfl, q⟩ := q
    obtain ⟨p, xs, rfl, h1, t⟩ := asQ_rep r h e
    exact ⟨p, ns, rfl, by rw [← rep_ints t]; exact h1, here k r q (.int _)⟩
  · exact q.elim
theorem dl_sum {X : Cx} {c : DC} {e : Expr} {te : DE} {p pos : Pos} (hm : X.mg "sum" = none) (hc : X.calm = true) (he : PE X e (lE X.K c te)) (hg : Gl X "sum" := by rfl) (hs : starEach [e] X.env = (false, eval e X.env) :: starEach [] X.env := by rfl) (hpl : (backTo pos (starEach [] X.env)).any (·.1) = false := by rfl) : PE X (.Call (.Name "sum" p) [e] [] pos) (lE X.K c (dF1 sumF te)) :=
  d_callB (cd_sum hc) hg hm (by decide +kernel) (da_cons he da_nil hs) (he := hs) (hpl := hpl)
end DL

end

section
set_option Elab.async false
set_option linter.all false
set_option maxRecDepth 100000
set_option maxHeartbeats 1000000
namespace DL
open PySem PySem.Spec PyProof.Rows L2
/-! ## zip of a tuple with a list -/
abbrev mixH1 (h : Heap) (a : Addr) : Heap := h.push { cls := .type "tuple_iterator", data := .fields #[.ref a, .int 0 0] }
abbrev mixH2 (h : Heap) (a b : Addr) : Heap := (mixH1 h a).push { cls := .type "list_iterator", data := .fields #[.ref b, .int 0 0] }
abbrev mixH3 (h : Heap) (a b : Addr) : Heap := (mixH2 h a b).push { cls := .type "tuple", data := .seq #[.ref h.objs.size, .ref (mixH1 h a).objs.size] }
abbrev mixH4 (h : Heap) (a b : Addr) : Heap := (mixH3 h a b).push { cls := .type "tuple", data := .seq #[.none, .none] }
abbrev mixH5 (h : Heap) (a b : Addr) : Heap := (mixH4 h a b).push { cls := .type "zip", data := .fields #[.none, .bool false, .bool false, .ref (mixH2 h a b).objs.size, .ref (mixH3 h a b).objs.size] }
theorem meets_mix (a b : Addr) (xs ys : Array Value) :
    Meets (Builtin.«zip.__new__» ⟨[.type "zip", .ref a, .ref b], []⟩) (fun _ R s => s.heap.IsTuple a xs ∧ s.heap.IsList b ys ∧
      R (.ok (.ret (.ref (mixH4 s.heap a b).objs.size))) { s with heap := mixH5 s.heap a b }) :=
  .of_wp fun prog w A R s h => by
    obtain ⟨hp, gg, dr, tk, os⟩ := s
    obtain ⟨ha, hb, h⟩ := h
    have hsub := sub_zip
    have hA : Heap.IsTuple (Shared.heap ⟨hp, gg, dr, tk, os⟩) a xs := ha
    have hB : Heap.IsList (Shared.heap ⟨hp.push { cls := .type "tuple_iterator", data := .fields #[.ref a, .int 0 0] }, gg, dr, tk, os⟩) b ys := Heap.IsList.push hb _
    wp_walk using wpAny_pyIter_tuple hA, wpAny_pyIter_list hB
    exact ⟨_, rfl, h⟩
section
variable {prog : Program} {w : World} {A : Around} {E : Value → Shared → Prop} {s : Shared}
theorem call_mix {a b : Addr} {xs ys : Array Value} {Q : Value → Shared → Prop} (ha : s.heap.IsTuple a xs) (hb : s.heap.IsList b ys)
    (h : ∀ h', IsZip h' (s.heap.objs.size + 4) (s.heap.objs.size + 2) (s.heap.objs.size + 3) .none → IsPair h' (s.heap.objs.size + 2) (.ref s.heap.objs.size) (.ref (s.heap.objs.size + 1)) →
      IsPair h' (s.heap.objs.size + 3) .none .none → h'.IsTupleIter s.heap.objs.size a 0 → h'.IsListIter (s.heap.objs.size + 1) b 0 → (∀ c o, s.heap.get? c = some o → h'.get? c = some o) → Q (.ref (s.heap.objs.size + 4)) { s with heap := h' }) :
    wpAny (model prog w) A (call (.type "zip") [.ref a, .ref b]) Q E s := by
  refine callType_new F.called_zip (by decide) (F.typeCall_zip_2 _ _) (F.newCall_zip_2 _ _) (fun obj => F.args_object_init_3 obj _ _) F.entry_zip_new (meets_mix a b xs ys) ⟨ha, hb, ?_⟩
  have n1 : (mixH1 s.heap a).objs.size = s.heap.objs.size + 1 := Heap.size_push ..
  have n2 : (mixH2 s.heap a b).objs.size = s.heap.objs.size + 2 := by rw [Heap.size_push, n1]
  have n3 : (mixH3 s.heap a b).objs.size = s.heap.objs.size + 3 := by rw [Heap.size_push, n2]
  have n4 : (mixH4 s.heap a b).objs.size = s.heap.objs.size + 4 := by rw [Heap.size_push, n3]
  have e5 : (mixH5 s.heap a b).get? (mixH4 s.heap a b).objs.size = some _ := Heap.get?_push_size _ rfl
  have e4 : (mixH5 s.heap a b).get? (mixH3 s.heap a b).objs.size = some _ := Heap.get?_push_of_some _ (Heap.get?_push_size _ rfl)
  have e3 : (mixH5 s.heap a b).get? (mixH2 s.heap a b).objs.size = some _ := Heap.get?_push_of_some _ (Heap.get?_push_of_some _ (Heap.get?_push_size _ rfl))
  have e2 : (mixH5 s.heap a b).get? (mixH1 s.heap a).objs.size = some _ := Heap.get?_push_of_some _ (Heap.get?_push_of_some _ (Heap.get?_push_of_some _ (Heap.get?_push_size _ rfl)))
  have e1 : (mixH5 s.heap a b).get? s.heap.objs.size = some _ := Heap.get?_push_of_some _ (Heap.get?_push_of_some _ (Heap.get?_push_of_some _ (Heap.get?_push_of_some _ (Heap.get?_push_size _ rfl))))
  show _ ∧ _
  rw [n2, n3, n4] at e5
  rw [n1, n2] at e3
  rw [n3] at e4
  rw [n1] at e2
  rw [n4]
  exact ⟨⟨_, e5, rfl⟩, h _ e5 e3 e4 ⟨_, e1, rfl, rfl⟩ ⟨_, e2, rfl, rfl⟩ fun c o x =>
    Heap.get?_push_of_some _ (Heap.get?_push_of_some _ (Heap.get?_push_of_some _ (Heap.get?_push_of_some _ (Heap.get?_push_of_some _ x))))⟩
end
/-- a tuple at a and a list at b, as they stand at each turn -/
def ItM (K : PySem.W.Frag) (a b : Addr) : It :=
  ⟨fun i H => ∃ (xs ys : List V) (x y : V), SqT K H a xs ∧ SqL K H b ys ∧ xs[i]? = some x ∧ ys[i]? = some y,
    fun i H v H' => ∃ T x y, v = .ref T ∧ H T = none ∧ H' = upd H T (.tup [x, y]) ∧ (∀ xs, SqT K H a xs → xs[i]? = some x) ∧ ∀ ys, SqL K H b ys → ys[i]? = some y,
    fun i H => ∃ xs ys : List V, SqT K H a xs ∧ SqL K H b ys ∧ (xs.length ≤ i ∨ ys.length ≤ i)⟩
theorem mix_sep {z TI TO i1 i2 a b : Addr} (D : ZipApart z TI TO i1 i2 a b) : PySem.ZipSep2 z TI TO i1 i2 [i1, a] [i2, b] :=
  ⟨D.TIz, D.TOz, D.TITO, D.TIi1, by simp, by simp [D.i1z.symm, D.l1z.symm], by simp [D.TOi1, D.l1TO.symm], D.TIi2, by simp, by simp [D.i2z.symm, D.l2z.symm], by simp [D.TOi2, D.l2TO.symm], by simp [D.i12, D.l2i1.symm], by simp [D.i12.symm, D.l1i2.symm]⟩
/-- what is still to come from place k on -/
theorem rest_tup {prog : Program} {w : World} {A : Around} (hh : A.handled = none) (it t : Addr) (hne : t ≠ it) (xs : Array Value) (k : Nat) :
    Draws prog w A it [it, t] (xs.size - k) (fun j v => xs[k + j]? = some v) (fun j h => h.IsTupleIter it t (k + j) ∧ h.IsTuple t xs) where
  live := fun _ _ st => let ⟨o, ho, _⟩ := st.1; ⟨o, ho⟩
  frame := fun _ _ _ st hk => ⟨st.1.at fun o e => hk it (by simp) o e, st.2.at fun o e => hk t (by simp) o e⟩
  item := fun j s Q E hj st hQ => by
    have hx : xs[k + j]? = some (xs[k + j]'(by omega)) := by simp
    exact RZ.nextOf_tuple_item st.1 st.2 hx fun h' p q => hQ _ h' s.toks hx ⟨p, st.2.extBut q.extBut hne⟩ q
  done := fun s Q E st hE => RZ.nextOf_tuple_end hh st.1 st.2 (by simp; omega) hE
theorem rest_lst {prog : Program} {w : World} {A : Around} (hh : A.handled = none) (it t : Addr) (hne : t ≠ it) (xs : Array Value) (k : Nat) :
    Draws prog w A it [it, t] (xs.size - k) (fun j v => xs[k + j]? = some v) (fun j h => h.IsListIter it t (k + j) ∧ h.IsList t xs) where
  live := fun _ _ st => let ⟨o, ho, _⟩ := st.1; ⟨o, ho⟩
  frame := fun _ _ _ st hk => ⟨st.1.at fun o e => hk it (by simp) o e, st.2.at fun o e => hk t (by simp) o e⟩
  item := fun j s Q E hj st hQ => by
    have hx : xs[k + j]? = some (xs[k + j]'(by omega)) := by simp
    exact wpAny_nextOf_list_item st.1 st.2 hx fun h' p q => hQ _ h' s.toks hx ⟨p, st.2.extBut q.extBut hne⟩ q
  done := fun s Q E st hE => wpAny_nextOf_list_end hh st.1 st.2 (by simp; omega) hE
theorem turn_mix {P : Program} {w : World} {K : PySem.W.Frag} {elts : List Expr} {kk : Nat} {tpos : Pos} {a b z TI TO i1 i2 : Addr} (D : ZipApart z TI TO i1 i2 a b) :
    Turn P w K (.Tuple elts kk tpos) (ItM K a b) [z, TI, TO, i1, i2] z (fun i h => IsZip h z TI TO .none ∧ IsPair h TI (.ref i1) (.ref i2) ∧ (∃ x y, IsPair h TO x y) ∧ h.IsTupleIter i1 a i ∧ h.IsListIter i2 b i) where
  mem := by simp
  obj := fun i h ⟨hz, hTI, ⟨x, y, hTO⟩, ⟨o1, e1, _, d1⟩, ⟨o2, e2, _, d2⟩⟩ c hc => by
    simp only [List.mem_cons, List.not_mem_nil, or_false] at hc
    rcases hc with rfl | rfl | rfl | rfl | rfl
    · exact ⟨_, hz, fun v q => nomatch q⟩
    · exact ⟨_, hTI, fun v q => nomatch q⟩
    · exact ⟨_, hTO, fun v q => nomatch q⟩
    · exact ⟨o1, e1, fun v q => by rw [d1] at q; cases q⟩
    · exact ⟨o2, e2, fun v q => by rw [d2] at q; cases q⟩
  keep := fun i h h' ⟨hz, hTI, ⟨x, y, hTO⟩, h1, h2⟩ k =>
    ⟨k z (by simp) _ hz, k TI (by simp) _ hTI, ⟨x, y, k TO (by simp) _ hTO⟩, h1.at fun o q => k i1 (by simp) o q, h2.at fun o q => k i2 (by simp) o q⟩
  item := by
    rintro X rfl rfl rfl hc i pins s σ H E I hf ⟨hz, hTI, ⟨x0, y0, hTO⟩, h1, h2⟩ ⟨xs, ys, x, y, hqx, hqy, hx, hy⟩
    obtain ⟨its, rv, p, _⟩ := I.tuple hqx
    obtain ⟨its2, rv2, p2, _⟩ := I.list hqy
    obtain ⟨u, hu, ru⟩ := rv.get hx
    obtain ⟨u2, hu2, ru2⟩ := rv2.get hy
    have l1 : i < its.length := (List.getElem?_eq_some_iff.mp hu).1
    have l2 : i < its2.length := (List.getElem?_eq_some_iff.mp hu2).1
    have hzl : z < s.heap.objs.size := Heap.lt_size hz
    have t1 : s.heap.IsTuple a its.toArray := p
    refine PySem.wpAny_pyNext_zipD2_item (i := 0) (mix_sep D) (rest_tup (A := X.A.in1) (show X.A.in1.handled = none from I.ok.hd hc) i1 a D.l1i1 its.toArray i) (rest_lst (A := X.A.in1) (show X.A.in1.handled = none from I.ok.hd hc) i2 b D.l2i2 its2.toArray i) hz hTI hTO ⟨h1, t1⟩ ⟨h2, p2.isList⟩ (by simp; omega) (by simp; omega) fun x1 x2 h' tk e1 e2 z' TO' n1 n2 hT hsz hk => ?_
    have e1 : x1 = u := by
      have : its[i]? = some x1 := by simpa using e1
      rw [hu] at this
      exact (Option.some.inj this).symm
    have e2 : x2 = u2 := by
      have : its2[i]? = some x2 := by simpa using e2
      rw [hu2] at this
      exact (Option.some.inj this).symm
    subst e1 e2
    refine ⟨_, rfl, wpAny_letOwnedTupleGo_zip (s := { s with heap := h', toks := tk }) z' fun h'' z'' sb => ?_⟩
    have hT2 : h''.get? s.heap.objs.size = some { cls := .type "tuple", data := .seq #[x1, x2] } := (sb.2 _ (Nat.ne_of_gt hzl)).trans hT
    have new : ObjOk X.prog X.w (upd H s.heap.objs.size (.tup [x, y])) h'' s.heap.objs.size (.tup [x, y]) := ⟨by show 2 ≤ sizeLine; decide, [x1, x2], .cons ru (.cons ru2 .nil), ⟨_, hT2, rfl, _, rfl⟩⟩
    have I1 : Inv X pins σ (upd H s.heap.objs.size (.tup [x, y])) { s with heap := h'', toks := tk } :=
      I.turnedNew (t' := tk) (ch := [z, TI, TO, i1, i2]) (fun c o hb q => by
        simp only [List.mem_cons, List.not_mem_nil, or_false, not_or] at hb
        exact (sb.2 c hb.1).trans (hk c o hb.1 hb.2.2.1 hb.2.2.2.1 hb.2.2.2.2 q)) hf (Nat.le_refl _) new
    refine ⟨.ref s.heap.objs.size, _, I1, rfl, ⟨_, x, y, rfl, I.hok.fresh (Nat.le_refl _), rfl, fun l hl => by rw [I.tuple_inj hl hqx]; exact hx, fun l hl => by rw [I.list_inj hl hqy]; exact hy⟩, ⟨z'', ?_, ⟨x1, x2, ?_⟩, ?_, ?_⟩, fun c hcm => ?_⟩
    · exact (sb.2 _ D.TIz).trans (hk _ _ D.TIz D.TITO D.TIi1 D.TIi2 hTI)
    · exact (sb.2 _ D.TOz).trans TO'
    · exact n1.1.at fun o q => (sb.2 _ D.i1z).trans q
    · exact n2.1.at fun o q => (sb.2 _ D.i2z).trans q
    · have hlt : c < s.heap.objs.size := by
        simp only [List.mem_cons, List.not_mem_nil, or_false] at hcm
        rcases hcm with rfl | rfl | rfl | rfl | rfl
        · exact hzl
        · exact Heap.lt_size hTI
        · exact Heap.lt_size hTO
        · obtain ⟨_, e, _⟩ := h1; exact Heap.lt_size e
        · obtain ⟨_, e, _⟩ := h2; exact Heap.lt_size e
      rw [upd_ne (Nat.ne_of_lt hlt)]
      exact (hf c hcm).1
  done := by
    rintro X rfl rfl rfl hc i pins s σ H E I hf ⟨hz, hTI, ⟨x0, y0, hTO⟩, h1, h2⟩ ⟨xs, ys, hqx, hqy, hend⟩
    obtain ⟨its, rv, p, _⟩ := I.tuple hqx
    obtain ⟨its2, rv2, p2, _⟩ := I.list hqy
    have l1 := rv.length
    have l2 := rv2.length
    have t1 : s.heap.IsTuple a its.toArray := p
    refine PySem.wpAny_pyNext_zipD2_end (i := 0) (mix_sep D) (rest_tup (A := X.A.in1) (show X.A.in1.handled = none from I.ok.hd hc) i1 a D.l1i1 its.toArray i) (rest_lst (A := X.A.in1) (show X.A.in1.handled = none from I.ok.hd hc) i2 b D.l2i2 its2.toArray i) hz hTI hTO ⟨h1, t1⟩ ⟨h2, p2.isList⟩ (Nat.zero_le _) (Nat.zero_le _) (by simp; omega) fun h' tk hk => ⟨rfl, I.turnedL (t' := tk) (ch := [z, TI, TO, i1, i2]) (fun c o hb q => ?_) hf⟩
    simp only [List.mem_cons, List.not_mem_nil, or_false, not_or] at hb
    exact hk c o hb.1 hb.2.2.1 hb.2.2.2.1 hb.2.2.2.2 q
  self := fun A i s Q E st h => wpAny_pyIter_zip st.1 h
end DL

end

section
set_option Elab.async false
set_option linter.all false
set_option maxRecDepth 100000
set_option maxHeartbeats 1000000
namespace DL
open PySem PySem.Spec PyProof.Rows L2
/-! ## own instances -/
def putG (f : Str) (d : D) : List (Str × D) → List (Str × D)
  | [] => [(f, d)]
  | (g, x) :: r => if g = f then (g, d) :: r else (g, x) :: putG f d r
section
variable {K : PySem.W.Frag} {P : Addr → Prop} {G : GH} {H : Hp}
theorem RepF.put {f : Str} {v : V} {d : D} (h : Rep K P G H v d) : ∀ {gs : List (Str × V)} {fs : List (Str × D)}, RepF K P G H gs fs → RepF K P G H (putF f v gs) (putG f d fs)
  | _, _, .nil => .cons h .nil
  | _, _, .cons (f := g) q t => by
    unfold putF putG
    by_cases e : g = f
    · rw [if_pos e, if_pos e]
      exact .cons h t
    · rw [if_neg e, if_neg e]
      exact .cons q (RepF.put h t)
def insG (C : Addr) (d : D) (G : GH) (k : Addr → List (Str × D) → Prop) : Prop := match d with
  | .ref p => match G p with
    | some (.ins C' fs) => C' = C ∧ k p fs
    | _ => False
  | _ => False
theorem insG_rep {C : Addr} {v : V} {d : D} {k : Addr → List (Str × D) → Prop} (r : Rl K P G H) (h : Rep K P G H v d) (e : insG C d G k) : ∃ p dx gs fs, v = .ref p ∧ d = .ref p ∧ G p = some (.ins C fs) ∧ H p = some (.ins C dx gs) ∧ RepF K P G H gs fs ∧ k p fs := by
  cases h with
  | ref a =>
    have e1 : (match G a with | some (.ins C' fs) => C' = C ∧ k a fs | _ => False) := e
    split at e1
    · rename_i C' fs z
      obtain ⟨rfl, q⟩ := e1
      obtain ⟨dx, gs, h1, t⟩ := r.h a _ z
      exact ⟨a, dx, gs, fs, rfl, rfl, z, h1, t, q⟩
    · exact e1.elim
  | _ => exact (show False from e).elim
theorem Rl.putI {C dx p : Addr} {gs gs' : List (Str × V)} {fs fs' : List (Str × D)} (r : Rl K P G H) (h : G p = some (.ins C fs)) (hH : H p = some (.ins C dx gs)) (x : RepF K P G H gs' fs') : Rl K P (updG G p (.ins C fs')) (upd H p (.ins C dx gs')) where
  h := fun a g e => by
    by_cases q : a = p
    · subst q
      rw [updG_same] at e; cases e
      exact ⟨dx, gs', upd_same, x.mono r (step_put h)⟩
    · rw [updG_ne q] at e
      refine (r.h a g e).mono r (step_put h) (fun u z => by rw [upd_ne q]; exact z) fun b q z => ?_
      rw [upd_ne (fun w => by rw [w, hH] at z; cases z)]; exact z
  p := fun a z => by
    obtain ⟨g, xs, e⟩ := r.p a z
    have n : a ≠ p := fun w => by rw [w, h] at g; cases g
    exact ⟨by rw [updG_ne n]; exact g, xs, by rw [upd_ne n]; exact e⟩
theorem Rl.newI {C dx p : Addr} (r : Rl K P G H) (h : H p = none) : Rl K P (updG G p (.ins C [])) (upd H p (.ins C dx [])) where
  h := fun a g e => by
    by_cases q : a = p
    · subst q
      rw [updG_same] at e; cases e
      exact ⟨dx, [], upd_same, .nil⟩
    · rw [updG_ne q] at e
      exact (r.h a g e).mono r (step_newG h) (fun u q => by rw [upd_ne (ne_of_none q h)]; exact q) fun b q z => by rw [upd_ne (ne_of_none z h)]; exact z
  p := fun a z => by
    obtain ⟨g, xs, e⟩ := r.p a z
    have n := ne_of_none e h
    exact ⟨by rw [updG_ne n]; exact g, xs, by rw [upd_ne n]; exact e⟩
end
/-! ### fields -/
def dFld (C : Addr) (f : Str) (te : DE) : DE := fun ρ G Q => te ρ G fun d G1 => insG C d G1 fun _ fs => match fs.lookup f with
  | some e => Q e G1
  | none => False
def dSFld (C : Addr) (f : Str) (tv to : DE) : DS := fun D ρ G => tv ρ G fun e G1 => to ρ G1 fun d G2 => insG C d G2 fun p fs => fs.length < 1000 ∧ D.nx ρ (updG G2 p (.ins C (putG f e fs)))
def dFldAug (C : Addr) (f : Str) (r : R2D) (to tv : DE) : DS := fun D ρ G => to ρ G fun d G1 => insG C d G1 fun p fs => match fs.lookup f with
  | some x => tv ρ G1 fun y G2 => r x y G2 fun z G3 => insG C (.ref p) G3 fun _ fs' => fs'.length < 1000 ∧ D.nx ρ (updG G3 p (.ins C (putG f z fs')))
  | none => False
section
variable {X : Cx} {c : DC} {C : Addr} {f : Str} {e o value : Expr} {te tv to : DE} {pos pos' tpos : Pos}
theorem RepF.length' {K : PySem.W.Frag} {P : Addr → Prop} {G : GH} {H : Hp} {gs : List (Str × V)} {fs : List (Str × D)} (t : RepF K P G H gs fs) : gs.length = fs.length := RepF.length t
theorem d_fld (cl : Cls X.K C) (n : NoAttr X.K C f) (he : PE X e (lE X.K c te)) (hb : attributeBase e f X.env (eval e X.env) = eval e X.env := by rfl) : PE X (.Attribute e f pos) (lE X.K c (dFld C f te)) :=
  PE_imp (L2.pe_fld he hb) fun σ H Q ⟨ρ, G, QD, u, h, k⟩ => ⟨ρ, G, _, u, h, fun d G1 v H1 q s r p => by
    obtain ⟨a, dx, gs, fs, rfl, rfl, hG, hH, t, q⟩ := insG_rep r p q
    split at q
    · rename_i d' el
      obtain ⟨w, h1, h2⟩ := t.lookup el
      exact ⟨a, C, dx, gs, w, rfl, hH, cl, n, h1, k _ _ _ _ q s r h2⟩
    · exact q.elim⟩
theorem ds_fld (cl : Cls X.K C) (n : NoAttr X.K C f) (hv : PE X value (lE X.K c tv)) (ho : PE X o (lE X.K c to)) (hs : swapsWith value (some (.Attribute o f pos')) pos.line X.env = pure false := by rfl) : PS X (.Assign [.Attribute o f pos'] value pos) (lS X.K c (dSFld C f tv to)) :=
  PS_imp (ps_fld ho hv hs) fun E σ H ⟨ρ, G, D, u, h, k⟩ => ⟨ρ, G, _, u, h, fun d G1 v H1 q1 s1 r1 p1 => ⟨ρ, G1, _, u.step s1 r1, q1, fun d2 G2 v2 H2 q2 s2 r2 p2 => by
    obtain ⟨a, dx, gs, fs, rfl, rfl, hG, hH, t, hl, q⟩ := insG_rep r2 p2 q2
    have st := step_put (H := H2) (p := a) (o := .ins C dx (putF f v gs)) (go' := .ins C (putG f d fs)) hG
    have rl := r2.putI hG hH (RepF.put (f := f) (p1.mono r1 s2) t)
    exact ⟨a, C, dx, gs, rfl, hH, cl, n, by rw [t.length]; exact hl, k.nx _ _ _ _ q ((s1.trans s2).trans st) ((u.step (s1.trans s2) r2).step st rl)⟩⟩⟩
theorem ds_fldAug {op : Operator} {r : R2D} (cl : Cls X.K C) (n : NoAttr X.K C f) (hop : IpD X op r) (ho : PE X o (lE X.K c to)) (hv : PE X value (lE X.K c tv)) : PS X (.AugAssign (.Attribute o f tpos) op value pos) (lS X.K c (dFldAug C f r to tv)) :=
  PS_imp (ps_fldaug ho hv (hop c.P)) fun E σ H ⟨ρ, G, D, u, h, k⟩ => ⟨ρ, G, _, u, h, fun d G1 v H1 q1 s1 r1 p1 => by
    obtain ⟨a, dx, gs, fs, rfl, rfl, hG, hH, t, q⟩ := insG_rep r1 p1 q1
    split at q
    · rename_i x el
      obtain ⟨w, h1, h2⟩ := t.lookup el
      refine ⟨a, C, dx, gs, w, rfl, hH, cl, n, h1, ρ, G1, _, u.step s1 r1, q, fun y G2 v2 H2 q2 s2 r2 p2 => ⟨x, y, G2, _, r2, h2.mono r1 s2, p2, q2, fun z G3 v3 H3 q3 s3 r3 p3 => ?_⟩⟩
      obtain ⟨a', dx', gs', fs', ea, _, hG', hH', t', hl, q⟩ := insG_rep r3 (.ref a) q3
      cases ea
      have st := step_put (H := H3) (p := a) (o := .ins C dx' (putF f v3 gs')) (go' := .ins C (putG f z fs')) hG'
      have rl := r3.putI hG' hH' (RepF.put (f := f) p3 t')
      exact ⟨dx', gs', hH', by rw [t'.length]; exact hl, k.nx _ _ _ _ q ((s1.trans (s2.trans s3)).trans st) ((u.step (s1.trans (s2.trans s3)) r3).step st rl)⟩
    · exact q.elim⟩
end
/-! ### methods -/
structure MtD (P : Program) (w : World) (K : PySem.W.Frag) (mg : Str → Option Value) (base : Heap) (C : Addr) (m : Str) (k : Nat) (ps : List Str) (sp : DSp) : Prop where
  ex : ∃ f fd, Meth K C m f ∧ Binds K fd ps [] ∧ FnOk P w K mg base (L2.CX P w) k f fd ps (liftSp K sp)
theorem MtD.mono {P : Program} {w : World} {K : PySem.W.Frag} {mg : Str → Option Value} {base : Heap} {C : Addr} {m : Str} {j k : Nat} {ps : List Str} {sp : DSp} (F : MtD P w K mg base C m j ps sp) (h : j ≤ k) : MtD P w K mg base C m k ps sp := by
  obtain ⟨f, fd, a, b, g⟩ := F.ex
  exact ⟨f, fd, a, b, g.mono h⟩
theorem MtD.imp {P : Program} {w : World} {K : PySem.W.Frag} {mg : Str → Option Value} {base : Heap} {C : Addr} {m : Str} {k : Nat} {ps : List Str} {sp sp' : DSp} (F : MtD P w K mg base C m k ps sp) (h : ∀ ds G Q E, sp' ds G Q E → sp ds G Q E) : MtD P w K mg base C m k ps sp' := by
  obtain ⟨f, fd, a, b, g⟩ := F.ex
  exact ⟨f, fd, a, b, g.imp fun vs H Q E ⟨ds, P, G, QD, ED, h1, h2, h3, h4⟩ => ⟨ds, P, G, QD, ED, h1, h2, h _ _ _ _ h3, h4⟩⟩
structure MkD (P : Program) (w : World) (K : PySem.W.Frag) (mg : Str → Option Value) (base : Heap) (x : Str) (C : Addr) (k : Nat) (ps : List Str) (sp : DSp) : Prop where
  ex : ∃ f fd, mg x = some (.ref C) ∧ Mk K C f ∧ Binds K fd ps [] ∧ FnOk P w K mg base (L2.CX P w) k f fd ps (liftSp K sp)
def dMeth (C : Addr) (m : Str) (sp : DSp) (Ex : DXK) (to : DE) (ta : DA) : DE := fun ρ G Q => to ρ G fun d G1 => insG C d G1 fun _ fs => fs.lookup m = none ∧ ta ρ G1 fun ds G2 => sp (d :: ds) G2 Q Ex
def dMake (C : Addr) (sp : DSp) (Ex : DXK) (ta : DA) : DE := fun ρ G Q => ta ρ G fun ds G1 => ∀ p, G1 p = none → sp (.ref p :: ds) (updG G1 p (.ins C [])) (fun d G2 => d = .non ∧ Q (.ref p) G2) Ex
section
variable {X : Cx} {c : DC} {Ex : DXK} {k : Nat} {ps : List Str} {sp : DSp} {C : Addr} {m x : Str} {p pos apos : Pos} {o e : Expr} {es : List Expr} {to : DE} {ta : DA}
theorem meth_imp {σ : L2.St} {H : Hp} {Q : VK} (h : lE X.K c (dMeth C m sp Ex to ta) σ H Q) : tMeth C m (liftSp X.K sp) [] (exV X.K c Ex) (lE X.K c to) (lA X.K c ta) σ H Q := by
  obtain ⟨ρ, G, QD, u, h, kk⟩ := h
  refine ⟨ρ, G, _, u, h, fun d G1 v H1 q s1 r1 p1 => ?_⟩
  obtain ⟨a, dx, gs, fs, rfl, rfl, hG, hH, t, hn, q⟩ := insG_rep r1 p1 q
  refine ⟨a, dx, gs, rfl, hH, t.lookup_none hn, ρ, G1, _, u.step s1 r1, q, fun ds G2 vs H2 q2 s2 r2 p2 => ?_⟩
  show liftSp X.K sp (V.ref a :: (vs ++ [])) H2 Q (exV X.K c Ex)
  rw [List.append_nil]
  exact call_lift u kk q2 (s1.trans s2) r2 (.cons (.ref a) p2)
theorem d_meth (cl : Cls X.K C) (F : MtD X.prog X.w X.K X.mg X.base C m k ps sp) (hr : Room k X.A) (hx : XOk X c Ex) (ho : PE X o (lE X.K c to)) (ha : PA X (e :: es) (lA X.K c ta)) {pl : Sem Bool}
    (hst : starEach (e :: es) X.env = (false, eval e X.env) :: starEach es X.env := by rfl) (hpl : (backTo pos (starEach es X.env)).any (·.1) = false := by rfl)
    (ht : eval (.Call (.Attribute o m apos) (e :: es) [] pos) X.env = (do
      let ov ← eval o X.env
      standAt apos.atName
      let (f, first) ← holding [ov] (getMethod ov m pl)
      callWith pos f first (backTo pos (starEach (e :: es) X.env)) (backToKw pos (keywordEach [] X.env))) := by rfl) :
    PE X (.Call (.Attribute o m apos) (e :: es) [] pos) (lE X.K c (dMeth C m sp Ex to ta)) := by
  obtain ⟨f, fd, hm, hb, FF⟩ := F.ex
  exact PE_imp (pe_meth ho cl hm FF hr hb .nil hx.passes ha hst hpl ht) fun σ H Q h => meth_imp h
theorem d_meth0 (cl : Cls X.K C) (F : MtD X.prog X.w X.K X.mg X.base C m k ps sp) (hr : Room k X.A) (hx : XOk X c Ex) (ho : PE X o (lE X.K c to)) {pl : Sem Bool}
    (ht : eval (.Call (.Attribute o m apos) [] [] pos) X.env = (do
      let ov ← eval o X.env
      standAt apos.atName
      let (f, first) ← holding [ov] (getMethod ov m pl)
      callWith pos f first (backTo pos (starEach [] X.env)) (backToKw pos (keywordEach [] X.env))) := by rfl) :
    PE X (.Call (.Attribute o m apos) [] [] pos) (lE X.K c (dMeth C m sp Ex to dNil)) := by
  obtain ⟨f, fd, hm, hb, FF⟩ := F.ex
  refine PE_imp (pe_meth0 ho cl hm FF hr hb .nil hx.passes ht) fun σ H Q h => ?_
  obtain ⟨ρ, G, QD, u, h, kk⟩ := h
  refine ⟨ρ, G, _, u, h, fun d G1 v H1 q s1 r1 p1 => ?_⟩
  obtain ⟨a, dx, gs, fs, rfl, rfl, hG, hH, t, hn, q⟩ := insG_rep r1 p1 q
  refine ⟨a, dx, gs, rfl, hH, t.lookup_none hn, ?_⟩
  show liftSp X.K sp [.ref a] H1 Q (exV X.K c Ex)
  exact call_lift u kk q s1 r1 (.cons (.ref a) .nil)
theorem make_imp {σ : L2.St} {H : Hp} {Q : VK} (h : lE X.K c (dMake C sp Ex ta) σ H Q) : tMake C (liftSp X.K sp) [] (exV X.K c Ex) (lA X.K c ta) σ H Q := by
  obtain ⟨ρ, G, QD, u, h, kk⟩ := h
  refine ⟨ρ, G, _, u, h, fun ds G1 vs H1 q s1 r1 p1 => fun a dx ha hdx hne => ?_⟩
  show liftSp X.K sp (V.ref a :: (vs ++ [])) _ _ (exV X.K c Ex)
  rw [List.append_nil]
  have hd : upd H1 dx (.own a) a = none := by rw [upd_ne (fun z => hne z.symm)]; exact ha
  have st1 : Step G1 H1 G1 (upd H1 dx (.own a)) := step_new hdx
  have r2 := r1.new (o := .own a) hdx
  have st2 : Step G1 (upd H1 dx (.own a)) (updG G1 a (.ins C [])) (upd (upd H1 dx (.own a)) a (.ins C dx [])) := step_newG hd
  have r3 := r2.newI (C := C) (dx := dx) hd
  refine ⟨.ref a :: ds, c.P, _, _, Ex, .cons (.ref a) (p1.mono r1 (st1.trans st2)), r3, q a (r1.free ha), fun d G' v H' ⟨ed, q2⟩ s2 r2 p2 => ?_, fun x G' cls d H' q2 s2 r2 p2 => ⟨x, G', q2, (u.st.trans s1).trans ((st1.trans st2).trans s2), r2, p2⟩⟩
  subst ed
  cases p2
  exact ⟨rfl, kk _ _ _ _ q2 ((s1.trans (st1.trans st2)).trans s2) r2 (.ref a)⟩
theorem d_make (M : MkD X.prog X.w X.K X.mg X.base x C k ps sp) (hr : Room (k + 1) X.A) (hx : XOk X c Ex) (ha : PA X (e :: es) (lA X.K c ta)) (hg : Gl X x := by rfl) (hdb : (x == ("__debug__" : Str)) = false := by decide)
    (he : starEach (e :: es) X.env = (false, eval e X.env) :: starEach es X.env := by rfl) (hpl : (backTo pos (starEach es X.env)).any (·.1) = false := by rfl) : PE X (.Call (.Name x p) (e :: es) [] pos) (lE X.K c (dMake C sp Ex ta)) := by
  obtain ⟨f, fd, hm, M1, hb, FF⟩ := M.ex
  exact PE_imp (pe_make M1 FF hr hg hm hb .nil hx.passes ha hdb he hpl) fun σ H Q h => make_imp h
theorem d_make0 (M : MkD X.prog X.w X.K X.mg X.base x C k ps sp) (hr : Room (k + 1) X.A) (hx : XOk X c Ex) (hg : Gl X x := by rfl) (hdb : (x == ("__debug__" : Str)) = false := by decide) : PE X (.Call (.Name x p) [] [] pos) (lE X.K c (dMake C sp Ex dNil)) := by
  obtain ⟨f, fd, hm, M1, hb, FF⟩ := M.ex
  refine PE_imp (pe_make0 M1 FF hr hg hm hb .nil hx.passes hdb) fun σ H Q h => ?_
  have := make_imp h
  obtain ⟨ρ, G, QD, u, h, kk⟩ := h
  exact make_imp (X := X) (c := c) (ta := dNil) ⟨ρ, G, QD, u, h, kk⟩ |> fun z => by
    obtain ⟨ρ', G', _, u', q', k'⟩ := z
    exact k' _ _ _ _ q' (Step.refl _ _) u'.rl .nil
end
/-! ### a method's def -/
theorem mtD_of {P : Program} {w : World} {K : PySem.W.Frag} {mg : Str → Option Value} {base : Heap} {C : Addr} {m x qual : Str} {params : Arguments} {body : List Stmt} {scope : Scope} {f : Addr} {fd : FuncData} {ps : List Str} {k : Nat} {sp : DSp}
    (F : FunD K x qual params body scope [] [] f fd) (hm : Meth K C m f) (FF : FnOk P w K mg base (L2.CX P w) k f fd ps (liftSp K sp))
    (h : ∀ (kV doc pm : Value) (an : Option Addr) (cdv ct : Value) (us : List Value), us.length = ps.length → bindArgs (PySem.W.fnOf x qual params body scope .none kV doc pm an cdv ct) ⟨us, []⟩ = pure (ps.zip us)) : MtD P w K mg base C m k ps sp :=
  ⟨f, fd, hm, F.bindsN h, FF⟩
theorem mkD_of {P : Program} {w : World} {K : PySem.W.Frag} {mg : Str → Option Value} {base : Heap} {C : Addr} {cn x qual : Str} {params : Arguments} {body : List Stmt} {scope : Scope} {f : Addr} {fd : FuncData} {ps : List Str} {k : Nat} {sp : DSp}
    (F : FunD K x qual params body scope [] [] f fd) (hg : mg cn = some (.ref C)) (hm : Mk K C f) (FF : FnOk P w K mg base (L2.CX P w) k f fd ps (liftSp K sp))
    (h : ∀ (kV doc pm : Value) (an : Option Addr) (cdv ct : Value) (us : List Value), us.length = ps.length → bindArgs (PySem.W.fnOf x qual params body scope .none kV doc pm an cdv ct) ⟨us, []⟩ = pure (ps.zip us)) : MkD P w K mg base cn C k ps sp :=
  ⟨f, fd, hg, hm, F.bindsN h, FF⟩
theorem mtD_no {P : Program} {w : World} {K : PySem.W.Frag} {mg : Str → Option Value} {base : Heap} {C : Addr} {m x qual : Str} {params : Arguments} {body : List Stmt} {scope : Scope} {f : Addr} {fd : FuncData} {ps : List Str} {k : Nat}
    (F : FunD K x qual params body scope [] [] f fd) (hm : Meth K C m f)
    (h : ∀ (kV doc pm : Value) (an : Option Addr) (cdv ct : Value) (us : List Value), us.length = ps.length → bindArgs (PySem.W.fnOf x qual params body scope .none kV doc pm an cdv ct) ⟨us, []⟩ = pure (ps.zip us)) : MtD P w K mg base C m k ps spNo :=
  mtD_of F hm ⟨fun vs H Q E ⟨_, _, _, _, _, _, _, h, _⟩ => h.elim, fun A outer s H args us vs Q E _ _ _ _ ⟨_, _, _, _, _, _, _, h, _⟩ => h.elim⟩ h
end DL

end

section
set_option Elab.async false
set_option linter.all false
set_option maxRecDepth 100000
set_option maxHeartbeats 1000000
namespace DL
open PySem PySem.Spec PyProof.Rows L2
/-! ## more of texts -/
section
variable {X : Cx}
/-- a <= b of texts -/
def leSD : R2D := fun x y G Q => match x, y with
  | .str a, .str b => Q (.bl (!decide (b.cps.toList < a.cps.toList))) G
  | _, _ => False
theorem od_leS : OpD X (compareOp .LtE) leSD := by
  intro P pins s σ H x y v u Q I rx ry ⟨d, e, G, QD, r, hd, he, h, k⟩
  cases hd with
  | str a =>
    cases he with
    | str b => exact op_le_str pins s σ H _ _ v u Q I rx ry ⟨a, b, rfl, rfl, here k r h (.bl _)⟩
    | _ => exact (show False from h).elim
  | _ => cases he <;> exact (show False from h).elim
/-- a * n of a text -/
def mulSD : R2D := fun x y G Q => match x, y with
  | .str a, .int n => (a.length ≤ 4095 ∧ 0 ≤ n ∧ n ≤ 4095) ∧ Q (.str (Txt.mul a n)) G
  | _, _ => False
theorem op_mulS : OpR X (binaryOp .Mult) (fun x y H Q => ∃ a n, x = .str a ∧ y = .int n ∧ MulOk a n ∧ Q (.str (Txt.mul a n)) H) := by
  rintro pins s σ H x y v u Q I rx ry ⟨a, n, rfl, rfl, hk, q⟩
  obtain ⟨t, rfl⟩ := (show ∃ t, v = Value.str a t from rx)
  obtain ⟨t', rfl⟩ := (show ∃ t', u = Value.int n t' from ry)
  exact PySem.SB.mul hk fun t' k => ⟨.str (Txt.mul a n), H, I.tok k, ⟨t', rfl⟩, q⟩
theorem od_mulS : OpD X (binaryOp .Mult) mulSD := by
  intro P pins s σ H x y v u Q I rx ry ⟨d, e, G, QD, r, hd, he, h, k⟩
  cases hd with
  | str a =>
    cases he with
    | int n =>
      obtain ⟨⟨h1, h2, h3⟩, h⟩ := h
      exact op_mulS pins s σ H _ _ v u Q I rx ry ⟨a, n, rfl, rfl, mulOk_of 4095 4095 h1 (by omega) (by omega) (by decide) (by decide), here k r h (.str _)⟩
    | _ => exact (show False from h).elim
  | _ => cases he <;> exact (show False from h).elim
/-- int of a text -/
def intSF : D → GH → DK → Prop := fun d G Q => match d with
  | .str a => ∃ n, PySem.intText? a = some n ∧ a.length ≤ 640 ∧ Q (.int n) G
  | _ => False
theorem cd_intS : CallD X (.type "int") (on1 intSF) := cd_one' call_int_str fun P H v d G QD Q r h q k => by
  cases h with
  | str a =>
    obtain ⟨n, h1, h2, q⟩ := q
    exact ⟨a, n, rfl, h1, h2, here k r q (.int _)⟩
  | _ => exact (show False from q).elim
/-- min of a list -/
theorem rep_intsF {K : PySem.W.Frag} {P : Addr → Prop} {G : GH} {H : Hp} : ∀ {xs : List V} {ns : List Int}, RepL K P G H xs (ns.map .int) → xs = ns.map V.int
  | _, [], t => by cases t; rfl
  | _, b :: bs, t => by
    cases t with
    | cons h t =>
      cases h
      have e := rep_intsF t
      rw [e, List.map_cons]
def minLF : D → GH → DK → Prop := fun d G Q => match asL d G with
  | some a => ∃ ns : List Int, a = ns.map .int ∧ 0 < ns.length ∧ ∀ m ∈ ns, (∀ y ∈ ns, m ≤ y) → Q (.int m) G
  | none => False
theorem cd_minL (hc : X.calm = true) : CallD X (.builtin "min") (on1 minLF) := cd_one' (cr_min hc) fun P H v d G QD Q r h q k => by
  unfold minLF at q
  split at q
  · rename_i a e
    obtain ⟨ns, rfl, h0, q⟩ := q
    obtain ⟨p, xs, rfl, h1, t⟩ := asL_rep r h e
    exact ⟨p, ns, rfl, .of (by rw [← rep_intsF t]; exact h1), h0, fun m hm hle => here k r (q m hm hle) (.int _)⟩
  · exact q.elim
variable {c : DC} {e : Expr} {te : DE} {p pos : Pos}
theorem dl_intS (B : Blt X.mg) (he : PE X e (lE X.K c te)) (hg : Gl X "int" := by rfl) (hs : starEach [e] X.env = (false, eval e X.env) :: starEach [] X.env := by rfl) (hpl : (backTo pos (starEach [] X.env)).any (·.1) = false := by rfl) : PE X (.Call (.Name "int" p) [e] [] pos) (lE X.K c (dF1 intSF te)) :=
  d_callTy cd_intS hg B.int boot_int (da_cons he da_nil hs) (he := hs) (hpl := hpl)
theorem dl_minL (B : Blt X.mg) (hc : X.calm = true) (he : PE X e (lE X.K c te)) (hg : Gl X "min" := by rfl) (hs : starEach [e] X.env = (false, eval e X.env) :: starEach [] X.env := by rfl) (hpl : (backTo pos (starEach [] X.env)).any (·.1) = false := by rfl) : PE X (.Call (.Name "min" p) [e] [] pos) (lE X.K c (dF1 minLF te)) :=
  d_callB (cd_minL hc) hg B.min (by decide +kernel) (da_cons he da_nil hs) (he := hs) (hpl := hpl)
end
end DL

end

section
set_option Elab.async false
set_option linter.all false
set_option maxRecDepth 100000
set_option maxHeartbeats 1000000
namespace DL
open PySem PySem.Spec PyProof.Rows L2
/-! ## replace of written texts wants that one token is out: what is shown of a def that surely gives one out -/
section
variable {X : Cx}
def PSs1 (X : Cx) (st : List Stmt) (t : TS) : Prop := ∀ (pins : List (Addr × Obj)) (s : Shared) (σ : L2.St) (H : Hp) (D : Ends), Inv X pins σ H s → t D σ H → wpAny (model X.prog X.w) X.A (execs st X.env) (fun f s' => 1 ≤ s'.toks ∧ SP X pins D f s') X.xe s
def PS1 (X : Cx) (st : Stmt) (t : TS) : Prop := ∀ (pins : List (Addr × Obj)) (s : Shared) (σ : L2.St) (H : Hp) (D : Ends), Inv X pins σ H s → t D σ H → wpAny (model X.prog X.w) X.A (exec st X.env) (fun f s' => 1 ≤ s'.toks ∧ SP X pins D f s') X.xe s
def PE1 (X : Cx) (e : Expr) (t : TE) : Prop := ∀ (pins : List (Addr × Obj)) (s : Shared) (σ : L2.St) (H : Hp) (Q : VK), Inv X pins σ H s → t σ H Q → wpAny (model X.prog X.w) X.A (eval e X.env) (fun u s' => 1 ≤ s'.toks ∧ EP X pins σ Q u s') X.xe s
def PA1 (X : Cx) (es : List Expr) (t : TA) : Prop := ∀ (pos : Pos) (pins : List (Addr × Obj)) (s : Shared) (σ : L2.St) (H : Hp) (Q : List V → Hp → Prop), Inv X pins σ H s → t σ H Q → wpAny (model X.prog X.w) X.A (spliced (backTo pos (starEach es X.env))) (fun us s' => 1 ≤ s'.toks ∧ AP X pins σ Q us s') X.xe s
variable {st : Stmt} {rest : List Stmt} {t u : TS} {e : Expr} {te : TE} {x : Str} {pos p cpos : Pos} {j : Nat}
theorem pss1_here (h1 : PS1 X st t) (h2 : PSs X rest u) : PSs1 X (st :: rest) (tSeq t u) := by
  intro pins s σ H D I h
  refine wpAny_execs_cons (thn (h1 pins s σ H { D with nx := u D } I h) fun f s1 ⟨hk, q⟩ => ?_)
  cases f with
  | next =>
    obtain ⟨σ', H', I', q⟩ := q
    exact wpAny_mono (PySem.wpAny_toks_of hk (h2.run pins s1 σ' H' D I' q)) (fun _ _ z => z) fun _ _ z => z.2
  | ret v => exact ⟨hk, q⟩
  | brk => exact ⟨hk, q⟩
  | cont => exact ⟨hk, q⟩
theorem pss1_next {st : Stmt} {tg : TE → TS} {tf : TS} (h1 : PS X st tf) (hf : ∀ D σ H, tf D σ H → tf { nx := D.nx, rt := fun _ _ => False, bk := fun _ _ => False, ct := fun _ _ => False } σ H) (h2 : PSs1 X rest u) : PSs1 X (st :: rest) (tSeq tf u) := by
  intro pins s σ H D I h
  refine wpAny_execs_cons (thn (h1.run pins s σ H _ I (hf _ _ _ h)) fun f s1 q => ?_)
  cases f with
  | next =>
    obtain ⟨σ', H', I', q⟩ := q
    exact h2 pins s1 σ' H' D I' q
  | ret v => obtain ⟨_, _, _, _, _, q⟩ := q; exact q.elim
  | brk => obtain ⟨_, _, _, q⟩ := q; exact q.elim
  | cont => obtain ⟨_, _, _, q⟩ := q; exact q.elim
theorem ps1_expr (he : PE1 X e te) (hs : swapsWith e none pos.line X.env = pure false := by rfl) : PS1 X (.Expr e pos) (tDrop te) := by
  intro pins s σ H D I h
  exact wpAny_Expr_any (thn (he pins s σ H _ I h) fun v s1 ⟨hk, x, H1, I1, r1, q1⟩ => ⟨hk, σ, H1, I1, q1⟩) I.quiet hs
theorem pa1_last (ha : PE X e te) (hs : starEach [e, .Constant (.str x) j cpos] X.env = [(false, eval e X.env), (false, eval (.Constant (.str x) j cpos) X.env)] := by rfl) : PA1 X [e, .Constant (.str x) j cpos] (tCons te (tCons (tC (.str x)) tNil)) := by
  intro pos pins s σ H Q I h
  rw [hs]
  show wpAny _ _ (spliced ((false, eval e X.env) :: backTo pos [(false, eval (.Constant (.str x) j cpos) X.env)])) _ _ s
  refine Calls.spliced_cons (thn (ha.run pins s σ H _ I h) fun u s1 ⟨x', H1, I1, r1, q1⟩ => ?_)
  exact Calls.spliced_cons (Calls.Constant_str (pos := cpos) (k := j) (Calls.spliced_nil ⟨Nat.le_add_left _ _, [x', .str x], H1, I1.tok _, .cons r1 (.cons ⟨_, rfl⟩ .nil), q1⟩))
structure FnOk1 (P : Program) (w : World) (K : PySem.W.Frag) (mg : Str → Option Value) (base : Heap) (CX : CXT) (k : Nat) (f : Addr) (fd : FuncData) (ps : List Str) (sp : Sp) : Prop where
  len : ∀ vs H Q E, sp vs H Q E → vs.length = ps.length
  run : ∀ (A : Around) (outer : List Env) (s : Shared) (H : Hp) (args : Args) (us : List Value) (vs : List V) (Q : VK) (E : XK), Room k A → Env0 P w K mg base A outer s H → BindsTo s fd args (ps.zip us) → Vals vs us → sp vs H Q E →
    codeAny (model P w) A (.call (.ref f) args) (fun r s' => CR CX outer P w H s Q E r s' ∧ ∀ fl, r = .ok fl → 1 ≤ s'.toks) s
theorem fn_of1 {CX : CXT} {P : Program} {w : World} {K : PySem.W.Frag} {mg : Str → Option Value} {base : Heap} {k : Nat} {f : Addr} {name qual : Str} {params : Arguments} {body : List Stmt} {scope : Scope} {dV kV doc pm cdv ct oc : Value} {an od : Option Addr}
    {osl : Array (Option Value)} {N ps : List Str} {sp : Sp} (lk : K.lookup f = some ⟨oc, od, .func (PySem.W.fnOf name qual params body scope dV kV doc pm an cdv ct), osl⟩) (hcd : PySem.W.codeIn K cdv qual = true) (S : FnScope N ps scope)
    (len : ∀ vs H Q E, sp vs H Q E → vs.length = ps.length)
    (hbody : ∀ (A : Around) (outer : List Env) (s : Shared) (H : Hp) (vs : List V) (Q : VK) (E : XK), Room k (A.deeper (envOfC qual scope s.heap.objs.size f cdv)) → sp vs H Q E →
      ∃ t, PSs1 (cxOf CX P w K mg base N qual scope f cdv A outer s H E) body t ∧ t { nx := fun _ H' => Q .non H', rt := Q } (start N vs) H) :
    FnOk1 P w K mg base CX (k + 1) f (PySem.W.fnOf name qual params body scope dV kV doc pm an cdv ct) ps sp := by
  refine ⟨len, fun A outer s H args us vs Q E hr e0 hb r hsp => ?_⟩
  have hl := len _ _ _ _ hsp
  have KX : K.In s.heap := e0.mod.kin.keeps fun b o e => (e0.bs b o e).1
  have lim : s.heap.NoLimit := e0.mod.nolimit.keeps fun b o e => (e0.bs b o e).1
  have hkind : ∀ y ∈ ps.zip us, scope.names.lookup y.1 = some .local ∨ (scope.names.lookup y.1 = some .cell ∧ ((cellsFrom (s.heap.objs.size + 1) scope.names []).lookup y.1).isSome = true) := fun ⟨n, v⟩ hy => by
    rcases S.par n (List.of_mem_zip hy).1 with q | q
    · exact .inl q
    · exact .inr ⟨q, PySem.W.cellsFrom_some _ _ _ (.inl q)⟩
  refine codeAny_call_function hr.depth (KX _ _ lk) rfl S.co S.gen rfl (PySem.W.codeRec_of KX hcd) (hb _ _ _ _ ?_)
  refine wpAny_newFunctionEnv_cells S.kind hkind fun env he s1 x => ?_
  subst he
  refine ⟨lim.keeps x.toInCall.keep, codeAny_func ?_⟩
  obtain ⟨t, ht, hq⟩ := hbody A outer s H vs Q E (hr.deeper _) hsp
  have I : Inv (cxOf CX P w K mg base N qual scope f cdv A outer s H E) [] (start N vs) H s1 := inv_start S hr.hd e0 hl r x
  refine wpAny_mono (ht [] s1 (start N vs) H _ I hq) (fun fl s' hs => ?_) fun e s' hs => wpAny_mono hs (fun _ _ z => ⟨z, fun fl z => nomatch z⟩) (fun _ _ z => ⟨z, fun fl z => nomatch z⟩)
  obtain ⟨hk, hs⟩ := hs
  have fin : ∀ {σ' : L2.St} {H' : Hp} {v : V} {u : Value}, Inv (cxOf CX P w K mg base N qual scope f cdv A outer s H E) [] σ' H' s' → RelV v u → Q v H' → CE outer P w H s Q u s' :=
    fun {σ' H' v u} J rv q => ⟨v, H', J.os, J.bare, J.base, J.hok, rv, q⟩
  cases fl with
  | ret u =>
    obtain ⟨v, σ', H', J, rv, q⟩ := hs
    exact ⟨fin J rv q, fun _ _ => hk⟩
  | next =>
    obtain ⟨σ', H', J, q⟩ := hs
    exact ⟨fin (v := V.non) (u := Value.none) J rfl q, fun _ _ => hk⟩
  | brk =>
    obtain ⟨_, _, _, q⟩ := hs
    exact False.elim q
  | cont =>
    obtain ⟨_, _, _, q⟩ := hs
    exact False.elim q
/-- f(..) of such a def -/
theorem pe1_call {CX : CXT} {k : Nat} {f : Addr} {fd : FuncData} {ps : List Str} {sp : Sp} {E : XK} {es : List Expr} {ta : TA} (F : FnOk1 X.prog X.w X.K X.mg X.base CX k f fd ps sp) (hr : Room k X.A) (hg : Gl X x) (hm : X.mg x = some (.ref f)) (hk : PySem.W.keepIn X.K (.ref f) = true) (hb : Binds X.K fd ps []) (hx : Passes CX X E)
    (ha : PA X (e :: es) ta) (hdb : (x == ("__debug__" : Str)) = false := by decide) (he : starEach (e :: es) X.env = (false, eval e X.env) :: starEach es X.env := by rfl) (hpl : (backTo pos (starEach es X.env)).any (·.1) = false := by rfl) :
    PE1 X (.Call (.Name x p) (e :: es) [] pos) (tCall sp [] E ta) := by
  intro pins s σ H Q I h
  refine wpAny_Call_Name_kw (ld_glob I hg hm ?_ hdb)
  refine PySem.W.callWith_K (h₀ := X.base) I.ok.mod.kin hk (thn (ha.run pos pins s σ H _ I h) fun us s1 ⟨vs, H1, I1, r, q⟩ => ⟨I1.kIn, ?_⟩) he hpl
  have q : sp (vs ++ []) H1 Q E := q
  rw [List.append_nil] at q
  have hl : (us ++ []).length = ps.length := by rw [List.append_nil, ← r.length]; exact F.len _ _ _ _ q
  have hb' := hb s1 us I1.kIn hl
  rw [List.append_nil] at hb'
  refine wpAny_call (codeAny_mono (F.run X.A X.stack s1 H1 ⟨us, []⟩ us vs Q E hr I1.env0 hb' r q) fun r s' hq => ?_)
  cases r with
  | error e => exact hx pins σ H1 s1 e s' I1 hq.1
  | ok fl =>
    cases fl with
    | ret u => exact ⟨hq.2 _ rfl, I1.after hq.1⟩
    | next => exact False.elim hq.1
    | brk => exact False.elim hq.1
    | cont => exact False.elim hq.1
/-- f(e, 'x'): the written text gives one out -/
theorem pe1_lit {CX : CXT} {k : Nat} {f : Addr} {fd : FuncData} {ps : List Str} {sp : Sp} {E : XK} {es : List Expr} {ta : TA} (F : FnOk X.prog X.w X.K X.mg X.base CX k f fd ps sp) (hr : Room k X.A) (hg : Gl X x) (hm : X.mg x = some (.ref f)) (hk : PySem.W.keepIn X.K (.ref f) = true) (hb : Binds X.K fd ps []) (hx : Passes CX X E)
    (ha : PA1 X (e :: es) ta) (hdb : (x == ("__debug__" : Str)) = false := by decide) (he : starEach (e :: es) X.env = (false, eval e X.env) :: starEach es X.env := by rfl) (hpl : (backTo pos (starEach es X.env)).any (·.1) = false := by rfl) :
    PE1 X (.Call (.Name x p) (e :: es) [] pos) (tCall sp [] E ta) := by
  intro pins s σ H Q I h
  refine wpAny_Call_Name_kw (ld_glob I hg hm ?_ hdb)
  refine PySem.W.callWith_K (h₀ := X.base) I.ok.mod.kin hk (thn (ha pos pins s σ H _ I h) fun us s1 ⟨hk1, vs, H1, I1, r, q⟩ => ⟨I1.kIn, ?_⟩) he hpl
  exact wpAny_mono (PySem.wpAny_toks_of hk1 (run_fn F hr hb .nil hx I1 r q)) (fun _ _ z => z) fun _ _ z => z.2
end
/-! ### in data -/
theorem PE1_imp {X : Cx} {e : Expr} {t t' : TE} (h : PE1 X e t) (i : ∀ σ H Q, t' σ H Q → t σ H Q) : PE1 X e t' := fun pins s σ H Q I q => h pins s σ H Q I (i _ _ _ q)
theorem PS1_imp {X : Cx} {e : Stmt} {t t' : TS} (h : PS1 X e t) (i : ∀ E σ H, t' E σ H → t E σ H) : PS1 X e t' := fun pins s σ H D I q => h pins s σ H D I (i _ _ _ q)
theorem PSs1_imp {X : Cx} {e : List Stmt} {t t' : TS} (h : PSs1 X e t) (i : ∀ E σ H, t' E σ H → t E σ H) : PSs1 X e t' := fun pins s σ H D I q => h pins s σ H D I (i _ _ _ q)
/-- a def's promise, one token out behind it -/
structure FnD1 (P : Program) (w : World) (K : PySem.W.Frag) (mg : Str → Option Value) (base : Heap) (x : Str) (k : Nat) (ps : List Str) (sp : DSp) : Prop where
  ex : ∃ f fd, mg x = some (.ref f) ∧ PySem.W.keepIn K (.ref f) = true ∧ Binds K fd ps [] ∧ FnOk1 P w K mg base (L2.CX P w) k f fd ps (liftSp K sp)
section
variable {X : Cx} {c : DC} {Ex : DXK} {k : Nat} {ps : List Str} {sp : DSp} {x : Str} {p pos cpos : Pos} {e : Expr} {es : List Expr} {ta : DA} {te : DE} {j : Nat} {st : Stmt} {rest : List Stmt} {t u : DS}
theorem d1_call (F : FnD1 X.prog X.w X.K X.mg X.base x k ps sp) (hr : Room k X.A) (hx : XOk X c Ex) (ha : PA X (e :: es) (lA X.K c ta)) (hg : Gl X x := by rfl) (hdb : (x == ("__debug__" : Str)) = false := by decide)
    (he : starEach (e :: es) X.env = (false, eval e X.env) :: starEach es X.env := by rfl) (hpl : (backTo pos (starEach es X.env)).any (·.1) = false := by rfl) : PE1 X (.Call (.Name x p) (e :: es) [] pos) (lE X.K c (dCall sp Ex ta)) := by
  obtain ⟨f, fd, hm, hk, hb, FF⟩ := F.ex
  exact PE1_imp (pe1_call FF hr hg hm hk hb hx.passes ha hdb he hpl) fun σ H Q ⟨ρ, G, QD, u, h, kk⟩ => ⟨ρ, G, _, u, h, fun ds G1 vs H1 q s1 r1 p1 => by
    show liftSp X.K sp (vs ++ []) H1 Q (exV X.K c Ex)
    rw [List.append_nil]
    exact call_lift u kk q s1 r1 p1⟩
theorem d1_lit {z : Str} (F : FnD X.prog X.w X.K X.mg X.base x k ps sp) (hr : Room k X.A) (hx : XOk X c Ex) (ha : PE X e (lE X.K c te)) (hg : Gl X x := by rfl) (hdb : (x == ("__debug__" : Str)) = false := by decide)
    (hs : starEach [e, .Constant (.str z) j cpos] X.env = [(false, eval e X.env), (false, eval (.Constant (.str z) j cpos) X.env)] := by rfl) (he : starEach [e, .Constant (.str z) j cpos] X.env = (false, eval e X.env) :: starEach [.Constant (.str z) j cpos] X.env := by rfl) (hpl : (backTo pos (starEach [.Constant (.str z) j cpos] X.env)).any (·.1) = false := by rfl) :
    PE1 X (.Call (.Name x p) [e, .Constant (.str z) j cpos] [] pos) (lE X.K c (dCall sp Ex (dCons te (dCons (dC (.str z)) dNil)))) := by
  obtain ⟨f, fd, hm, hk, hb, _, FF⟩ := F.ex
  exact PE1_imp (pe1_lit FF hr hg hm hk hb hx.passes (pa1_last ha hs) hdb he hpl) fun σ H Q ⟨ρ, G, QD, u, h, kk⟩ => ⟨ρ, G, _, u, h, fun d G1 v H1 q s1 r1 p1 => by
    show liftSp X.K sp ([v, .str z] ++ []) H1 Q (exV X.K c Ex)
    rw [List.append_nil]
    exact call_lift u kk q s1 r1 (.cons p1 (.cons (.str z) .nil))⟩
theorem ds1_expr (he : PE1 X e (lE X.K c te)) (hs : swapsWith e none pos.line X.env = pure false := by rfl) : PS1 X (.Expr e pos) (lS X.K c (dDrop te)) :=
  PS1_imp (ps1_expr he hs) fun E σ H ⟨ρ, G, D, u, h, k⟩ => ⟨ρ, G, _, u, h, fun d G1 v H1 q s r p => k.nx _ _ _ _ q s (u.step s r)⟩
theorem dss1_here (h1 : PS1 X st (lS X.K c t)) (h2 : PSs X rest (lS X.K c u)) : PSs1 X (st :: rest) (lS X.K c (dSeq t u)) :=
  PSs1_imp (pss1_here h1 h2) fun E σ H ⟨ρ, G, D, w, h, k⟩ => ⟨ρ, G, _, w, h, ⟨fun ρ1 G1 σ1 H1 q s u1 => ⟨ρ1, G1, D, u1, q, k.later s⟩, k.rt, k.bk, k.ct⟩⟩
theorem dss1_asg {tg : Tg} {rst : TS} (h1 : PS X st (lS X.K c (dAsg te tg))) (h2 : PSs1 X rest (lS X.K c u)) : PSs1 X (st :: rest) (lS X.K c (dSeq (dAsg te tg) u)) := by
  refine PSs1_imp (pss1_next (tg := fun _ => lS X.K c u) (tf := fun E σ H => ∃ ρ G D, Cur X.K c σ H ρ G ∧ dAsg te tg D ρ G ∧ ∀ ρ' G' σ' H', D.nx ρ' G' → Step G H G' H' → Cur X.K c σ' H' ρ' G' → E.nx σ' H')
    (PS_imp h1 fun E σ H ⟨ρ, G, D, w, h, k⟩ => ⟨ρ, G, { nx := D.nx, rt := fun _ _ => False, bk := fun _ _ => False, ct := fun _ _ => False }, w, h, ⟨fun ρ' G' σ' H' q s u => k ρ' G' σ' H' q s u, fun _ _ _ _ q => q.elim, fun _ _ _ _ q => q.elim, fun _ _ _ _ q => q.elim⟩⟩)
    (fun D σ H q => q) h2) fun E σ H ⟨ρ, G, D, w, h, k⟩ => ⟨ρ, G, _, w, h, fun ρ1 G1 σ1 H1 q s u1 => ⟨ρ1, G1, D, u1, q, k.later s⟩⟩
/-- o.replace(y, z), y and z written -/
def dRepl (y z : Str) (to : DE) : DE := fun ρ G Q => to ρ G fun d G1 => ∃ x, d = .str x ∧ x.length + (x.length + 1) * z.length ≤ 16777216 ∧ Q (.str (Txt.replace x y z)) G1
theorem dss_repl {o : Expr} {to : DE} {y z : Str} {j k' : Nat} {c0 c1 apos pos pos' : Pos} (h1 : PS1 X st (lS X.K c t)) (ho : PE X o (lE X.K c to)) (hyz : (y == z) = false := by decide)
    (hst : starEach [.Constant (.str y) j c0, .Constant (.str z) k' c1] X.env = [(false, eval (.Constant (.str y) j c0) X.env), (false, eval (.Constant (.str z) k' c1) X.env)] := by rfl)
    (hbase : attributeBase o "replace" X.env (eval o X.env) = eval o X.env := by rfl) (hline : (apos.endLine == pos.line) = true := by rfl) :
    PSs X [st, .Return (some (.Call (.Attribute o "replace" apos) [.Constant (.str y) j c0, .Constant (.str z) k' c1] [] pos)) pos'] (lS X.K c (dSeq t (dRet (dRepl y z to)))) := by
  refine ⟨fun pins s σ H E I h => ?_⟩
  obtain ⟨ρ, G, D, w, h, k⟩ := h
  have hr : PSsT X [.Return (some (.Call (.Attribute o "replace" apos) [.Constant (.str y) j c0, .Constant (.str z) k' c1] [] pos)) pos'] (tSeq (tRet (CwR.tReplC (lE X.K c to) y z)) tNext) := CwR.psst_one (CwR.pst_ret (CwR.pet_replC ho hyz hst hbase hline)) |> fun q => by
    intro pins s σ H D h0 I h
    exact q pins s σ H D h0 I h
  refine wpAny_execs_cons (thn (h1 pins s σ H { E with nx := fun σ' H' => tSeq (tRet (CwR.tReplC (lE X.K c to) y z)) tNext E σ' H' } I ⟨ρ, G, _, w, h, ⟨fun ρ1 G1 σ1 H1 q s u1 => ?_, k.rt, k.bk, k.ct⟩⟩) fun f s1 ⟨hk, q⟩ => ?_)
  · show lE X.K c to σ1 H1 fun v H1 => ∃ x, v = .str x ∧ x.length + (x.length + 1) * z.length ≤ 16777216 ∧ E.rt (.str (Txt.replace x y z)) H1
    exact ⟨ρ1, G1, _, u1, q, fun d G2 v H2 ⟨x, ed, hl, q2⟩ s2 r2 p2 => by
      subst ed
      cases p2
      exact ⟨x, rfl, hl, k.rt _ _ _ _ q2 (s.trans s2) r2 (.str _)⟩⟩
  · cases f with
    | next =>
      obtain ⟨σ', H', I', q⟩ := q
      exact hr pins s1 σ' H' E hk I' q
    | ret v => exact q
    | brk => exact q
    | cont => exact q
end
/-- THE RULE for such a def -/
theorem fn_ok1 {Pg : Program} {w : World} {K : PySem.W.Frag} {mg : Str → Option Value} {base : Heap} {x qual : Str} {params : Arguments} {body : List Stmt} {scope : Scope} {f : Addr} {fd : FuncData} {N ps : List Str} {k : Nat} {sp : DSp} {t : DXK → DS}
    (F : FunD K x qual params body scope [] [] f fd) (S : FnScope N ps scope) (len : ∀ ds G Q E, sp ds G Q E → ds.length = ps.length)
    (hbody : ∀ (cdv : Value) (A : Around) (outer : List Env) (s : Shared) (H : Hp) (E : XK) (c : DC) (Ex : DXK), Room k (A.deeper (envOfC qual scope s.heap.objs.size f cdv)) → XOk (cxOf (L2.CX Pg w) Pg w K mg base N qual scope f cdv A outer s H E) c Ex →
      PSs1 (cxOf (L2.CX Pg w) Pg w K mg base N qual scope f cdv A outer s H E) body (lS K c (t Ex)))
    (pure : ∀ ds G Q E, sp ds G Q E → t E (fnEnds Q) (startD N ds) G) : FnOk1 Pg w K mg base (L2.CX Pg w) (k + 1) f fd ps (liftSp K sp) := by
  obtain ⟨oc, od, dV, kV, doc, pm, an, cdv, ct, osl, rfl, lk, hcd, _, _⟩ := F.ex
  refine fn_of1 lk hcd S (fun vs H Q E ⟨ds, P, G, QD, ED, h1, h2, h3, _⟩ => by rw [h1.length]; exact len _ _ _ _ h3) fun A outer s H vs Q E hr ⟨ds, P, G, QD, ED, h1, h2, h3, h4, h5⟩ => ?_
  have ok : XOk (cxOf (L2.CX Pg w) Pg w K mg base N qual scope f cdv A outer s H E) ⟨P, G, H⟩ ED := ⟨fun cls d _ H => E cls d H, takes_of rfl rfl rfl rfl, fun x G' H' cls d σ q s r p => h5 x G' cls d H' q s r p⟩
  refine ⟨_, hbody cdv A outer s H E ⟨P, G, H⟩ ED hr ok, startD N ds, G, fnEnds QD, ⟨h2, Step.refl _ _, start_rep h1⟩, pure _ _ _ _ h3, ⟨?_, ?_, ?_, ?_⟩⟩
  · rintro ρ G2 σ H2 ⟨G', l, q⟩ s2 u2
    exact h4 _ _ _ _ q (fun a o e n g => let ⟨e1, e2⟩ := s2 a o e n g; ⟨e1, l.none e2⟩) (u2.rl.le l) .non
  · rintro d G2 v H2 ⟨d', G', l, z, q⟩ s2 r2 p2
    exact h4 _ _ _ _ q (fun a o e n g => let ⟨e1, e2⟩ := s2 a o e n g; ⟨e1, l.none e2⟩) (r2.le l) (z.rep r2 l p2)
  · intro ρ G2 σ H2 q
    exact q.elim
  · intro ρ G2 σ H2 q
    exact q.elim
end DL

end

section
set_option Elab.async false
set_option linter.all false
set_option maxRecDepth 100000
set_option maxHeartbeats 2000000
namespace DL
open PySem PySem.Spec PyProof.Rows L2 LamX
/-! ## the same where an int is given back -/
def TTrefI (K : PySem.W.Frag) (C : Addr) (f : Str) (ret : Int) : (XK → Hp → VK → Prop) → Hp → VK → Prop := fun tl H Q =>
  tl (fun cls d H' => ∃ b, PySem.W.exmOne K cls (.ref C) = some b ∧ (b = true → cls = .ref C ∧ ∃ dd v, d = some dd ∧ H' dd = some (.xd [(f, v)]) ∧ Q v H') ∧ (b = false → False)) H (fun _ H' => Q (.int ret) H')
section
variable {X : Cx}
theorem ref_givesI {Ng : List Str} {ret : Int} {x a cn n f q qual : Str} {sg : Scope} {g C fI cc cda : Addr} {cdg : Value} {j : Nat} {p1 p2 p3 p4 p5 p6 p7 p8 p9 p10 p11 : Pos} (T : DX.ErrTxt X.prog X.K X.mg cn f C fI cc cda qual) (hge : sg.names.lookup cn = some .globalImplicit) (hde : (cn == ("__debug__" : Str)) = false) (h0 : ∀ f : Addr, (L2.start Ng [V.ref f])[0]? = some (some (V.ref f)))
    (hN : Ng.Nodup) (h1 : Ng[1]? = some n) (hl : sg.names.lookup n = some .local) (hlen : 1 < Ng.length) (hdn : (n == ("__debug__" : Str)) = false) (hcn : (n == ("__classdict__" : Str)) = false)
    (hsw : ∀ L : Addr, swapsWith (.Call (.Name a p1) [] [] p2) none p3.line (envOfC x sg L g cdg) = pure false)
    (hb : ∀ L : Addr, attributeBase (.Name n p6) f (envOfC x sg L g cdg) (eval (.Name n p6) (envOfC x sg L g cdg)) = eval (.Name n p6) (envOfC x sg L g cdg)) :
    GivesTo X Ng x sg g cdg [.Try [.Expr (.Call (.Name a p1) [] [] p2) p3] [.ExceptHandler (some (.Name cn p4)) (some n) [.Return (some (.Attribute (.Name n p6) f p7)) p5] p8] [] [] p9, .Return (some (.Constant (.int ret) j p10)) p11] a q (TTrefI X.K C f ret) := by
  intro fl c' s H Q tl act hc h
  have hgl : Gl (cxOf C8.CX0 X.prog X.w X.K X.mg X.base Ng x sg g cdg X.A X.stack s H C8.E0).nox cn := hge
  refine ⟨_, pss_cons (ps_try_as (X := (cxOf C8.CX0 X.prog X.w X.K X.mg X.base Ng x sg g cdg X.A X.stack s H C8.E0).nox) (c := .ref C) (i := 1) (n := n) (Wout := fun _ _ _ _ => False)
      (tb := fun W D σ H => ∃ Ech : XK, (∀ cls d σ' H', σ'.length = Ng.length → Ech cls d H' → W cls d σ' H') ∧ σ[0]? = some (some (.ref fl)) ∧ H c' = some (CodeO c' q) ∧ tl Ech H (fun _ H' => D.nx σ H'))
      (ts := fun a cls d => tRet (tFld C f a cls d (tVar 1)))
      rfl rfl hN h1 hl ⟨hgl, hde, .inl T.gC⟩ L2.takes0 (fun W pn xe tk _ => ?_) (fun a oe cls d pn hz hf => pss_one (ps_ret ?_))) (pss_one (ps_ret pe_int)), ?_⟩
  · refine ⟨fun pins s' σ H' D I h' => ?_⟩
    obtain ⟨Ech, hW, h1, h2, h3⟩ := h'
    exact (pss_one (ps_expr (pos := p3) (act _ pn xe Ech p1 p2 (takes_len tk) fun cls d σ' H' e hl => hW cls d σ' H' hl e) (hsw _))).run pins s' σ H' D I ⟨h1, h2, h3⟩
  · exact pe_fld (X := (cxOf C8.CX0 X.prog X.w X.K X.mg X.base Ng x sg g cdg X.A X.stack s H C8.E0).nox) T hz hf (pe_var h1 (.inl hl) hdn hcn) (hb _)
  · refine ⟨_, fun cls d σ' H' hl ⟨b, e1, e2, e3⟩ => ⟨b, e1, fun hb a ha => ?_, fun hb => e3 hb⟩, h0 fl, hc, h⟩
    obtain ⟨ec, dd, v, ed, ev, q⟩ := e2 hb
    exact ⟨.ref a, set_at (by rw [hl]; exact hlen), rfl, ec, dd, v, ed, ev, q⟩
/-! ## in data -/
def dRefI (Pt : Addr) (qn : Str) (C : Addr) (f : Str) (ret : Int) (t : DXK → DE) : DE := fun ρ G Q => OneTab Pt qn G ∧ t (fun x G' => x.cls = C ∧ x.fld = f ∧ Q x.val G') ρ G (fun _ G' => Q (.int ret) G')
variable {c : DC}
theorem d_refI {Pt C fI cc cda : Addr} {cn f qual : Str} {ret : Int} (T : DX.ErrTxt X.prog X.K X.mg cn f C fI cc cda qual) {x a : Str} {g ca : Addr} {k : Nat} {pg : Arguments} {bg : List Stmt} {sg : Scope} {dV kV doc pm cdv ct oc : Value} {an od : Option Addr} {osl : Array (Option Value)} {Ng : List Str}
    {params : Arguments} {body : Expr} {scope : Scope} {t : DXK → DE} {p lpos pos : Pos} (hg : Gl X x) (hm : X.mg x = some (.ref g)) (hk : PySem.W.keepIn X.K (.ref g) = true)
    (lk : X.K.lookup g = some ⟨oc, od, .func (PySem.W.fnOf x x pg bg sg dV kV doc pm an cdv ct), osl⟩) (hcg : PySem.W.codeIn X.K cdv x = true) (hb : L2.Binds X.K (PySem.W.fnOf x x pg bg sg dV kV doc pm an cdv ct) [a] []) (Sg : FnScope Ng [a] sg) (hNg : Ng[0]? = some a) (hva : Vis sg a)
    (hG : GivesTo X Ng x sg g cdv bg a (X.env.qual ++ "<lambda>") (TTrefI X.K C f ret))
    (TB : TabB X.base X.mg ca Pt) (hcode : X.env.code = .ref ca) (hr : Room (k + 2) X.A) (L : LamS X.env.scope scope) (hdef : defaultsOf params X.env = ([], []))
    (hbind : ∀ (q : Str) (cl : List (Str × Addr)) (pm cv ctv : Value), bindArgs (PySem.W.kla_fn "<lambda>" q params body scope cl pm cv ctv) ⟨[], []⟩ = pure [])
    (hbody : ∀ (A : Around) (outer : List Env) (s : Shared) (H : Hp) (E : XK) (f c' : Addr) (c : DC) (Ex : DXK), Room k (A.deeper (lamEnv X scope s.heap.objs.size f c')) → XOk (lamCx X A outer s H E scope f c') c Ex → PE (lamCx X A outer s H E scope f c') body (lE X.K c (t Ex)))
    (hdb : (x == ("__debug__" : Str)) = false := by decide) (hd : (a == ("__debug__" : Str)) = false := by decide) (hcd : (a == ("__classdict__" : Str)) = false := by decide) :
    PE X (.Call (.Name x p) [.Lambda params body scope lpos] [] pos) (lE X.K c (dRefI Pt (X.env.qual ++ "<lambda>") C f ret t)) := by
  refine PE_imp (pe_lamcall (T := [(Pt, X.env.qual ++ "<lambda>")]) (t := fun E σ H Q => ∃ (c : DC) (Ex : DXK), (∀ x G H cls d, Ex x G → Step c.G0 c.H0 G H → Rl X.K c.P G H → RelX X.K c.P G H cls d x → E cls d H) ∧ lE X.K c (t Ex) σ H Q) hg hm hk lk hcg hb Sg hNg hva hG TB hcode (by simp) (fun p hp _ => by
    simp only [List.mem_singleton] at hp
    rw [hp]) hr L hdef hbind (fun A outer s H E f c' hr2 => ?_) hdb hd hcd) ?_
  · refine ⟨fun pins s' σ H' Q I ⟨c, Ex, h1, h2⟩ => ?_⟩
    exact (hbody A outer s H E f c' c Ex hr2 ⟨fun cls d _ H => E cls d H, takes_of rfl rfl rfl rfl, fun x G H cls d σ q s r p => h1 x G H cls d q s r p⟩).run pins s' σ H' Q I h2
  · rintro σ H Q ⟨ρ, G, QD, u, ⟨o, h⟩, kk⟩
    refine ⟨fun p hp => ?_, fun H1 eN T1 => ?_⟩
    · simp only [List.mem_singleton] at hp
      rw [hp]
      exact u.rl.h Pt _ o.1
    · obtain ⟨s1, r1⟩ := tab_step u.rl o eN T1
      refine ⟨⟨c.P, G, H1⟩, _, fun x G' H' cls d q s2 r2 p2 => ?_, ρ, G, _, ⟨r1, Step.refl _ _, u.env.mono u.rl s1⟩, h, fun d G' v H' q s2 r2 p2 => kk _ _ _ _ q (s1.trans s2) r2 (.int _)⟩
      obtain ⟨e1, e2, q⟩ := q
      obtain ⟨ec, dd, v, ed, ev, pv⟩ := p2
      rw [e1] at ec
      rw [e2] at ev
      refine ⟨true, by rw [ec]; exact T.te, fun _ => ⟨ec, dd, v, ed, ev, kk _ _ _ _ q (s1.trans s2) r2 pv⟩, fun z => nomatch z⟩
end
end DL

end

section
set_option Elab.async false
set_option linter.all false
set_option maxRecDepth 100000
set_option maxHeartbeats 1000000
open PySem PySem.Spec PyProof.Rows L2 DL
namespace KL
/-! ## what the defs promise -/
def isNum (d : D) (a b : Int) : Bool := match d with
  | .int i => decide (a ≤ i) && decide (i ≤ b)
  | _ => false
/-- plain data, at most n deep, of a bounded size -/
def datL : Nat := 100000
def dat : Nat → D → Bool
  | _, .non => true
  | _, .bl _ => true
  | _, .int _ => true
  | _, .str _ => true
  | n + 1, .tup ds => decide (ds.length ≤ datL) && ds.all (dat n)
  | n + 1, .lst ds => decide (ds.length ≤ datL) && ds.all (dat n)
  | _, _ => false
def bad (C : Addr) (x : Str) : DX := ⟨C, "name", .str x⟩
def sp_need (C : Addr) : DSp := fun ds G Q E => ∃ b x, ds = [.bl b, .str x] ∧ (b = true → Q .non G) ∧ (b = false → E (bad C x) G)
def sp_is_number : DSp := fun ds G Q _ => ∃ d a b, ds = [d, .int a, .int b] ∧ (tyD G d).isSome = true ∧ Q (.bl (isNum d a b)) G
def rising : List Int → Bool
  | a :: b :: r => decide (a < b) && rising (b :: r)
  | _ => true
def intsD (ns : List Int) : List D := ns.map .int
def natsD (ns : List Nat) : List D := ns.map fun (n : Nat) => .int (n : Int)
def sp_is_rising : DSp := fun ds G Q _ => ∃ (d : D) (ns : List Int), ds = [d] ∧ (d = .tup (intsD ns) ∨ d = .lst (intsD ns)) ∧ ns.length ≤ datL ∧ Q (.bl (rising ns)) G
def getI : D → Int
  | .int i => i
  | _ => 0
/-! ## the law's words -/
/-- the law's row: the script, a place, two more ints -/
structure Scr where
  xs : List Int
  l : Bool
def Scr.length (s : Scr) : Nat := s.xs.length
def scrD (s : Scr) : D := if s.l = true then .lst (intsD s.xs) else .scr (intsD s.xs)
def rowG (xs : Scr) (at_ : Nat) (a b : Int) : GO := .lst [scrD xs, .int (at_ : Int), .int a, .int b]
def Row (xs : Scr) (G : GH) (p : Addr) : Prop := ∃ (at_ : Nat) (a b : Int), G p = some (rowG xs at_ a b)
def sp__law_taken : DSp := fun ds G Q _ => ∃ (p : Addr) (many : Nat) (xs : Scr), ds = [.ref p, .int (many : Int)] ∧ 1 ≤ many ∧ many ≤ 1000000000 ∧ xs.length ≤ datL ∧ Row xs G p ∧ ∀ (v at_ : Nat) (a b : Int), v < many → Q (.int (v : Int)) (updG G p (rowG xs at_ a b))
/-- one of a list's or a tuple's data, or one of a text's signs -/
def Among (some : D) (n : Nat) (ok : D → Prop) : Prop := ((∃ l, (some = .lst l ∨ some = .tup l) ∧ l.length = n ∧ ∀ d ∈ l, ok d) ∨ ∃ x : Str, some = .str x ∧ x.length = n ∧ ∀ c ∈ x.cps.toList, ok (.str ⟨#[c]⟩))
def sp__law_pick : DSp := fun ds G Q _ => ∃ (p : Addr) (some : D) (n : Nat) (ok : D → Prop) (xs : Scr), ds = [.ref p, some] ∧ (1 ≤ n ∧ n ≤ 1000) ∧ Among some n ok ∧ xs.length ≤ datL ∧ Row xs G p ∧ ∀ (d : D) (at_ : Nat) (a b : Int), ok d → Q d (updG G p (rowG xs at_ a b))
/-- data of which _law_alike holds with itself -/
def alk : Nat → D → Bool
  | _, .non => true
  | _, .bl _ => true
  | _, .int _ => true
  | _, .str _ => true
  | n + 1, .tup ds => decide (ds.length ≤ datL) && ds.all (alk n)
  | _, _ => false
def sp_alike (n : Nat) : DSp := fun ds G Q _ => ∃ d, ds = [d, d] ∧ alk n d = true ∧ Q (.bl true) G
abbrev sp__law_alike : DSp := sp_alike 4
theorem cut_tail (ds : List D) : DL.cutD ds (some 1) none = ds.drop 1 := by
  unfold DL.cutD
  have e : HT.sIx ds.length 0 (some 1) = min 1 ds.length := by
    have := HT.sIx_nat ds.length 0 1
    simpa using this
  rw [e, HT.sIx_none]
  cases ds with
  | nil => rfl
  | cons d ds =>
    have : min 1 (d :: ds).length = 1 := by simp
    rw [this]
    simp
theorem rising_all (ns : List Int) : ((ns.zip (ns.drop 1)).map fun z => decide (z.1 < z.2)).all id = rising ns := by
  induction ns with
  | nil => rfl
  | cons a ns ih =>
    cases ns with
    | nil => rfl
    | cons b r =>
      have ih : (((b :: r).zip r).map fun z => decide (z.1 < z.2)).all id = rising (b :: r) := ih
      show (decide (a < b) && (((b :: r).zip r).map fun z => decide (z.1 < z.2)).all id) = _
      rw [ih] <;> rfl
theorem zip_ints (ns ms : List Int) : zipL (intsD ns) (intsD ms) = (ns.zip ms).map fun z => .tup [.int z.1, .int z.2] := by
  unfold zipL intsD
  rw [List.zip_map, List.map_map]
  rfl
theorem sizeL : sizeLine = 16777216 := sizeLine_eq
theorem dat_ty {n : Nat} {d : D} {G : GH} (h : dat n d = true) : (tyD G d).isSome = true := by
  cases d with
  | ref p => cases n <;> cases h
  | ty x => cases n <;> cases h
  | _ => rfl
theorem dat_tup {n : Nat} {ds : List D} (h : dat n (.tup ds) = true) : ds.length ≤ datL ∧ ∃ m, n = m + 1 ∧ ∀ d ∈ ds, dat m d = true := by
  cases n with
  | zero => cases h
  | succ n =>
    have h : (decide (ds.length ≤ datL) && ds.all (dat n)) = true := h
    rw [Bool.and_eq_true, decide_eq_true_eq, List.all_eq_true] at h
    exact ⟨h.1, n, rfl, h.2⟩
theorem nums_ints {a b : Int} : ∀ {ages : List D}, ages.all (isNum · a b) = true → ages = intsD (ages.map getI)
  | [], _ => rfl
  | d :: ds, h => by
    rw [List.all_cons, Bool.and_eq_true] at h
    have ih := nums_ints h.2
    cases d with
    | int i =>
      show _ = D.int i :: intsD (ds.map getI)
      rw [← ih]
    | _ => cases h.1
theorem isTup_of {d : D} (h : isTup d = true) : ∃ a, d = .tup a := by
  cases d with
  | tup a => exact ⟨a, rfl⟩
  | _ => cases h
theorem enum_mem {n : Nat} {d : D} : ∀ {m : Nat} {rs : List D}, d ∈ enumL m rs → ∃ (i : Nat) (v : D), d = .tup [.int (i : Int), v] ∧ v ∈ rs
  | _, [], h => by cases h
  | m, v :: r, h => by
    rcases List.mem_cons.mp h with e | h
    · exact ⟨m, v, e, by simp⟩
    · obtain ⟨i, u, e, hu⟩ := enum_mem (n := n) h
      exact ⟨i, u, e, by simp [hu]⟩
theorem natsD_len (l : List Nat) : (natsD l).length = l.length := by unfold natsD; rw [List.length_map]
theorem natsD_app (a b : List Nat) : natsD (a ++ b) = natsD a ++ natsD b := by unfold natsD; rw [List.map_append]
theorem natsD_get {l : List Nat} {i : Nat} (h : i < l.length) : (natsD l)[i]? = some (.int ((l.getD i 0 : Nat) : Int)) := by
  unfold natsD
  rw [List.getElem?_map, List.getD_eq_getElem?_getD, List.getElem?_eq_getElem h] <;> rfl
theorem natsD_ints (l : List Nat) : natsD l = (l.map fun (n : Nat) => (n : Int)).map .int := by unfold natsD; rw [List.map_map] <;> rfl
theorem rgD_nats (n : Nat) : rgD 0 n = natsD (List.range n) := by
  unfold rgD natsD
  apply List.map_congr_left
  intro i _
  rw [Int.zero_add]
theorem nats_dpt (l : List Nat) : ∀ d ∈ natsD l, dpt 0 d = true := fun d hd => by
  obtain ⟨n, _, rfl⟩ := List.mem_map.mp hd
  rfl
theorem eqv_nats (l m : List Nat) : PyData.eqv (D.lst (natsD l)).py (D.lst (natsD m)).py = decide (l = m) := by
  rw [natsD_ints, natsD_ints, eqv_ints]
  congr 1
  apply propext
  constructor
  · intro h
    exact List.map_inj_right (f := fun n : Nat => (n : Int)) (fun a b e => by omega) |>.mp h
  · intro h; rw [h]
theorem val_ref {G : GH} {p : Addr} {ds : List D} (g : G p = some (.lst ds)) : valD G (.ref p) = .lst ds := by
  show (match G p with | some (.lst ds) => D.lst ds | _ => .ref p) = _
  rw [g]
theorem eqS_ref (p : Addr) (e : D) : eqS (.ref p) e = none := by cases e <;> rfl
theorem eqS_lst (l : List D) (e : D) : eqS (.lst l) e = none := by cases e <;> rfl
theorem isNum_nat {M a b : Nat} (h1 : a ≤ M) (h2 : M ≤ b) : isNum (.int (M : Int)) (a : Int) (b : Int) = true := by
  show (decide ((a : Int) ≤ (M : Int)) && decide ((M : Int) ≤ (b : Int))) = true
  rw [Bool.and_eq_true, decide_eq_true_eq, decide_eq_true_eq]
  omega
theorem isNum_int {d : D} {a b : Int} (h : isNum d a b = true) : ∃ i, d = .int i ∧ a ≤ i ∧ i ≤ b := by
  cases d with
  | int i =>
    have h : (decide (a ≤ i) && decide (i ≤ b)) = true := h
    rw [Bool.and_eq_true, decide_eq_true_eq, decide_eq_true_eq] at h
    exact ⟨i, rfl, h⟩
  | _ => cases h
theorem rising_nats : ∀ {l : List Nat}, l.Pairwise (· < ·) → rising ((natsD l).map getI) = true
  | [], _ => rfl
  | [_], _ => rfl
  | a :: b :: r, h => by
    show (decide ((a : Int) < (b : Int)) && rising ((natsD (b :: r)).map getI)) = true
    cases h with
    | cons h1 h2 =>
      rw [rising_nats h2, Bool.and_true, decide_eq_true_eq]
      have := h1 b (by simp)
      omega
theorem fmod_many {i : Int} {many : Nat} (h : 1 ≤ many) : ∃ v : Nat, v < many ∧ i.fmod (many : Int) = (v : Int) := by
  have h1 := Int.fmod_nonneg_of_pos i (show (0 : Int) < (many : Int) by omega)
  have h2 := Int.fmod_lt_of_pos i (show (0 : Int) < (many : Int) by omega)
  exact ⟨(i.fmod (many : Int)).toNat, by omega, by omega⟩
theorem row_self {G : GH} {p : Addr} {o : GO} (h : G p = some o) : updG G p o = G := by
  funext b
  unfold updG
  split
  · rename_i e; rw [e, h]
  · rfl
theorem lenScr {xs : Scr} {G : GH} {Q : DK} (q : Q (.int (xs.length : Int)) G) : lenF (scrD xs) G Q := by
  have hlx : (intsD xs.xs).length = xs.length := by unfold intsD; rw [List.length_map] <;> rfl
  unfold scrD
  split
  · exact lenL (by rw [hlx]; exact q)
  · exact lenS (by rw [hlx]; exact q)
theorem ixScr {xs : Scr} {i : Nat} {G : GH} {Q : DK} (h : i < xs.xs.length) (q : Q (.int xs.xs[i]) G) : ixD (scrD xs) (.int (i : Int)) G Q := by
  have hix : (intsD xs.xs)[i]? = some (.int xs.xs[i]) := by
    unfold intsD
    rw [List.getElem?_map, List.getElem?_eq_getElem h] <;> rfl
  unfold scrD
  split
  · exact ixL (L2.atI_nat hix) q
  · exact ixS (L2.atI_nat hix) q
theorem eqN {G : GH} {Q : DK} (q : Q (.bl true) G) : eqD .non .non G Q := q
theorem alk_ty {n : Nat} {d : D} {G : GH} (h : alk n d = true) : (tyD G d).isSome = true := by
  cases d with
  | ref p => cases n <;> cases h
  | ty x => cases n <;> cases h
  | lst x => cases n <;> cases h
  | scr x => cases n <;> cases h
  | _ => rfl
theorem asLR {G : GH} {p : Addr} {a : List D} (g : G p = some (.lst a)) : asL (.ref p) G = some a := by
  show (match G p with | some (.lst a) => some a | _ => none) = some a
  rw [g]
theorem alike_nats (l : List Nat) : PySem.W.AllAlike ((natsD l).map D.py) := by
  intro d hd d' hd'
  obtain ⟨x, hx, rfl⟩ := List.mem_map.mp hd
  obtain ⟨y, hy, rfl⟩ := List.mem_map.mp hd'
  obtain ⟨n, _, rfl⟩ := List.mem_map.mp hx
  obtain ⟨m, _, rfl⟩ := List.mem_map.mp hy
  simp [D.py, PySem.W.alike]
theorem srt_nats {l : List Nat} (h : l.length ≤ 100000) : SrtOk (natsD l) := by
  refine ⟨alike_nats l, .inr fun d hd => ?_, fun d hd => ?_, fun d hd => ?_, by rw [natsD_len, sizeL]; omega⟩
  · obtain ⟨x, hx, rfl⟩ := List.mem_map.mp hd
    obtain ⟨n, _, rfl⟩ := List.mem_map.mp hx
    exact ⟨by simp [D.py], fun xs => by simp [D.py]⟩
  · obtain ⟨n, _, rfl⟩ := List.mem_map.mp hd
    simp [D.py, PyData.canLay0]
  · obtain ⟨n, _, rfl⟩ := List.mem_map.mp hd
    simp [D.py, PyData.depth]
theorem ne_self {d : D} {G : GH} {Q : DK} (n : Nat) (hs : ∀ e, eqS d e = none) (h : dpt n (valD G d) = true) (q : Q (.bl false) G) (hn : n ≤ 64 := by decide) : neD d d G Q := by
  have s := shp n h hn
  show eqQ true d d G Q
  unfold eqQ
  rw [hs]
  refine ⟨⟨s, s⟩, ?_⟩
  rw [SeqAt.eqv_refl _ (SeqAt.canLay_of_shaped s)]
  exact q
theorem alk_nats {n : Nat} {l : List Nat} : ∀ d ∈ natsD l, alk n d = true := fun d hd => by
  obtain ⟨m, _, rfl⟩ := List.mem_map.mp hd
  cases n <;> rfl
theorem alk_tup {n : Nat} {ds : List D} (h : ds.length ≤ datL) (h2 : ∀ d ∈ ds, alk n d = true) : alk (n + 1) (.tup ds) = true := by
  show (decide (ds.length ≤ datL) && ds.all (alk n)) = true
  rw [Bool.and_eq_true, decide_eq_true_eq, List.all_eq_true]
  exact ⟨h, h2⟩
theorem dat_nats {n : Nat} {l : List Nat} : ∀ d ∈ natsD l, dat n d = true := fun d hd => by
  obtain ⟨m, _, rfl⟩ := List.mem_map.mp hd
  cases n <;> rfl
theorem dat_tupI {n : Nat} {ds : List D} (h : ds.length ≤ datL) (h2 : ∀ d ∈ ds, dat n d = true) : dat (n + 1) (.tup ds) = true := by
  show (decide (ds.length ≤ datL) && ds.all (dat n)) = true
  rw [Bool.and_eq_true, decide_eq_true_eq, List.all_eq_true]
  exact ⟨h, h2⟩
theorem row_put {xs : Scr} {G : GH} {p : Addr} {at_ : Nat} {a b : Int} : Row xs (updG G p (rowG xs at_ a b)) p := ⟨at_, a, b, updG_same⟩
theorem otab_row {xs : Scr} {G : GH} {p Pt : Addr} {qn : Str} (o : OneTab Pt qn G) (g : Row xs G p) {at_ : Nat} {a b : Int} : OneTab Pt qn (updG G p (rowG xs at_ a b)) := by
  obtain ⟨c, d, e, g⟩ := g
  exact OneTab.put o g
theorem sm10 {n : Nat} (h : n ≤ 100) : n ≤ sizeLine := by rw [sizeL]; omega
theorem eqS_tup (l : List D) (e : D) : eqS (.tup l) e = none := by cases e <;> rfl
/-! ### walking an encoded list -/
theorem comp_enc {α : Type} {gd : GH → Prop} {tg : Tg} {tt : DT} {te : DE} {ρ : DSt} {Q : List D → GH → Prop} {G : GH} (enc : α → D) (p : α → Bool) (g : α → D) (L : List α) (hgd : gd G)
    (h : ∀ a ∈ L, ∀ (k : DK) (k0 : GH → Prop), (p a = true → k (g a) G) → (p a = false → k0 G) → setT tg (enc a) ρ fun ρ1 => tt ρ1 G fun b G1 => if b = true then te ρ1 G1 k else k0 G1)
    (hl : L.length ≤ sizeLine) (q : Q ((L.filter p).map g) G) : compD gd tg tt te ρ Q (L.map enc) [] G := by
  have key : ∀ (L : List α) (acc : List D), (∀ a ∈ L, ∀ (k : DK) (k0 : GH → Prop), (p a = true → k (g a) G) → (p a = false → k0 G) → setT tg (enc a) ρ fun ρ1 => tt ρ1 G fun b G1 => if b = true then te ρ1 G1 k else k0 G1) →
      acc.length + L.length ≤ sizeLine → Q (acc ++ (L.filter p).map g) G → compD gd tg tt te ρ Q (L.map enc) acc G := by
    intro L
    induction L with
    | nil => intro acc _ _ q; exact ⟨hgd, by simpa using q⟩
    | cons a L ih =>
      intro acc h hl q
      rw [List.length_cons] at hl
      refine ⟨hgd, h a (by simp) _ _ (fun e => ⟨by omega, ih _ (fun b hb => h b (by simp [hb])) (by rw [List.length_append]; simp; omega) ?_⟩) fun e => ih _ (fun b hb => h b (by simp [hb])) (by omega) ?_⟩
      · rw [List.filter_cons, if_pos e, List.map_cons] at q
        simpa using q
      · rw [List.filter_cons, if_neg (by rw [e]; exact Bool.false_ne_true)] at q
        exact q
  exact key L [] h (by simpa using hl) (by simpa using q)
theorem comp_each {α : Type} {gd : GH → Prop} {tg : Tg} {te : DE} {ρ : DSt} {Q : List D → GH → Prop} {G : GH} (enc : α → D) (g : α → D) (L : List α) (hgd : gd G) (h : ∀ a ∈ L, ∀ k : DK, k (g a) G → setT tg (enc a) ρ fun ρ1 => te ρ1 G k) (hl : L.length ≤ sizeLine) (q : Q (L.map g) G) :
    compD gd tg dYes te ρ Q (L.map enc) [] G := by
  refine comp_enc enc (fun _ => true) g L hgd (fun a ha k k0 h1 _ => ?_) hl (by rw [List.filter_eq_self.mpr fun _ _ => rfl]; exact q)
  have := h a ha k (h1 rfl)
  simpa [dYes] using this
/-! ### members -/
theorem eqv_int (i j : Int) : PyData.eqv (D.int i).py (D.int j).py = decide (i = j) := by
  simp only [D.py, PyData.eqv]
  rfl
theorem any_nats (l : List Nat) (x : Nat) : ((natsD l).any fun z => PyData.eqv z.py (D.int (x : Int)).py) = decide (x ∈ l) := by
  induction l with
  | nil => rfl
  | cons a l ih =>
    show (PyData.eqv (D.int (a : Int)).py (D.int (x : Int)).py || (natsD l).any _) = _
    rw [ih, eqv_int]
    by_cases h : a = x
    · subst h; simp
    · have h2 : ¬((a : Int) = (x : Int)) := by omega
      have h3 : ¬(x = a) := fun e => h e.symm
      simp [h2, h3]
theorem inT {neg : Bool} {l : List Nat} {x : Nat} {G : GH} {Q : DK} (q : Q (.bl (decide (x ∈ l) ^^ neg)) G) : inQ neg (.int (x : Int)) (.tup (natsD l)) G Q := by
  refine ⟨⟨shp 0 rfl, shp_tup 0 (nats_dpt l)⟩, ?_⟩
  show Q (.bl (((natsD l).any fun z => PyData.eqv z.py (D.int (x : Int)).py) ^^ neg)) G
  rw [any_nats]
  exact q
theorem inL {neg : Bool} {l : List Nat} {x : Nat} {G : GH} {Q : DK} (q : Q (.bl (decide (x ∈ l) ^^ neg)) G) : inQ neg (.int (x : Int)) (.lst (natsD l)) G Q := by
  refine ⟨⟨shp 0 rfl, shp_list 0 (nats_dpt l)⟩, ?_⟩
  show Q (.bl (((natsD l).any fun z => PyData.eqv z.py (D.int (x : Int)).py) ^^ neg)) G
  rw [any_nats]
  exact q
end KL


end

section
set_option Elab.async false
set_option linter.all false
set_option maxRecDepth 100000
set_option maxHeartbeats 1000000
open PySem PySem.Spec PyProof.Rows L2 DL
namespace KL
def clsAt (st : Stmt) (j : Nat) : Stmt := match st with
  | .ClassDef _ _ _ body _ _ _ _ _ _ _ => body.getD j (.Pass ⟨0, 0, 0, 0⟩)
  | s => s
def top (i : Nat) : Stmt := PySem.Challenge.pw_channelshared_k16_whole_texts_of_program.main.body.getD i (.Pass ⟨0, 0, 0, 0⟩)
/-! ## programs: statements, blocks -/
mutual
inductive PS where
  | atom (w : Str) | rep (k : Str) (b : PB) | lop (n : Nat) (b : PB) | tst (m : Str) (a b : PB)
inductive PB where
  | nil | cons (s : PS) (r : PB)
end
mutual
def encPS : PS → D
  | .atom w => .tup [.str w]
  | .rep k b => .tup [.str "*", .str k, .tup (encPB b)]
  | .lop n b => .tup [.str "@", .int (n : Int), .tup (encPB b)]
  | .tst m a b => .tup [.str "?", .str m, .tup (encPB a), .tup (encPB b)]
def encPB : PB → List D
  | .nil => []
  | .cons s r => encPS s :: encPB r
end
def chS : Option Nat → Str
  | none => ""
  | some c => ⟨#[c]⟩
/-! ### reading a text -/
structure RS where
  pl : Nat
  ft : Option Nat
  lp : List (Nat × PB)
def skp (cs : List Nat) (n : Nat) : Nat := n + ((cs.drop n).takeWhile fun c => decide (c = 32)).length
def rTake (cs some : List Nat) (s : RS) : Option Nat × RS :=
  match cs[skp cs s.pl]? with
  | Option.some c => if c ∈ some then (Option.some c, { s with pl := skp cs s.pl + 1 }) else (none, { s with pl := skp cs s.pl, ft := s.ft <|> Option.some (skp cs s.pl) })
  | none => (none, { s with pl := skp cs s.pl, ft := s.ft <|> Option.some (skp cs s.pl) })
def rBlk (stm : RS → PS × RS) (cs ends : List Nat) : Nat → RS → PB × RS
  | 0, s => (.nil, s)
  | m + 1, s => if s.ft = none then
      (match cs[skp cs s.pl]? with
      | none => (.nil, { s with pl := skp cs s.pl })
      | some c => if c ∈ ends then (.nil, { s with pl := skp cs s.pl }) else
        (.cons (stm { s with pl := skp cs s.pl }).1 (rBlk stm cs ends m (stm { s with pl := skp cs s.pl }).2).1, (rBlk stm cs ends m (stm { s with pl := skp cs s.pl }).2).2))
    else (.nil, s)
def sg (x : Str) : List Nat := x.cps.toList
def rStm (cs : List Nat) : Nat → RS → PS × RS
  | 0, s => (.atom "", s)
  | n + 1, s =>
    let br : List Nat := if n = 0 then [] else sg "("
    let o := rTake cs (sg "swx?*@") s
    if o.1 = some 63 then
      let k := rTake cs (sg ".1#!") o.2
      let a := rBlk (rStm cs n) cs (sg "|)") (cs.length + 1) (rTake cs br k.2).2
      let b := rBlk (rStm cs n) cs (sg ")") (cs.length + 1) (rTake cs (sg "|") a.2).2
      (.tst (chS k.1) a.1 b.1, (rTake cs (sg ")") b.2).2)
    else if o.1 = some 42 then
      let k := rTake cs (sg "23456789") o.2
      let a := rBlk (rStm cs n) cs (sg ")") (cs.length + 1) (rTake cs br k.2).2
      (.rep (chS k.1) a.1, (rTake cs (sg ")") a.2).2)
    else if o.1 = some 64 then
      let a := rBlk (rStm cs n) cs (sg ")") (cs.length + 1) (rTake cs br o.2).2
      let z := (rTake cs (sg ")") a.2).2
      (.lop (z.lp.length + 1) a.1, { z with lp := z.lp ++ [(s.pl, a.1)] })
    else (.atom (chS o.1), o.2)
mutual
def cpS : PS → Bool
  | .atom w => !(decide (w = "s") || (decide (w = "w") || (decide (w = "x") || decide (w = "@"))))
  | .rep _ b => cpB b
  | .lop _ _ => false
  | .tst _ a b => cpB a || cpB b
def cpB : PB → Bool
  | .nil => true
  | .cons s r => cpS s && cpB r
end
def rAll (cs : List Nat) : PB × RS := rBlk (rStm cs 9) cs [] (cs.length + 1) ⟨0, none, []⟩
def minN : List Nat → Option Nat
  | [] => none
  | a :: r => some (r.foldl min a)
def idl (lp : List (Nat × PB)) : List Nat := (lp.filter fun z => cpB z.2).map (·.1)
/-- the flaw of a text -/
def flaw (cs : List Nat) : Option Nat := (rAll cs).2.ft <|> minN (idl (rAll cs).2.lp)
mutual
def wtS : PS → Nat
  | .rep k b => (match sg k with
    | [c] => c - 48
    | _ => 0) * wtB b
  | .tst _ a b => wtB a + wtB b
  | .lop _ b => wtB b
  | .atom _ => 1
def wtB : PB → Nat
  | .nil => 0
  | .cons s r => wtS s + wtB r
end
/-! ### where a reader stands -/
def optN : Option Nat → D
  | none => .non
  | some n => .int (n : Int)
def encLp (z : Nat × PB) : D := .tup [.int (z.1 : Int), .tup (encPB z.2)]
def rdG (R : Addr) (x : Str) (l : Addr) (s : RS) : GO := .ins R [("source", .str x), ("place", .int (s.pl : Int)), ("fault", optN s.ft), ("loops", .ref l)]
def lpG (s : RS) : GO := .lst (s.lp.map encLp)
def setRd (R : Addr) (x : Str) (p l : Addr) (s : RS) (G : GH) : GH := fun a => if a = p then some (rdG R x l s) else if a = l then some (lpG s) else G a
structure Rd (R : Addr) (x : Str) (p l : Addr) (s : RS) (G : GH) : Prop where
  ne : p ≠ l
  p : G p = some (rdG R x l s)
  l : G l = some (lpG s)
/-- what always holds of a reader -/
structure RI (x : Str) (s : RS) : Prop where
  sz : x.length ≤ 1000
  pl : s.pl ≤ x.length
  lp : s.lp.length ≤ s.pl
def sp_rd_init (R : Addr) : DSp := fun ds G Q _ => ∃ (p : Addr) (x : Str), ds = [.ref p, .str x] ∧ G p = some (.ins R []) ∧ ∀ l, l ≠ p → G l = none → Q .non (setRd R x p l ⟨0, none, []⟩ G)
def sp_rd_peek (R : Addr) : DSp := fun ds G Q _ => ∃ (p l : Addr) (x : Str) (s : RS), ds = [.ref p] ∧ Rd R x p l s G ∧ RI x s ∧ Q (.str (chS (sg x)[skp (sg x) s.pl]?)) (setRd R x p l { s with pl := skp (sg x) s.pl } G)
def sp_rd_take (R : Addr) : DSp := fun ds G Q _ => ∃ (p l : Addr) (x y : Str) (s : RS), ds = [.ref p, .str y] ∧ Rd R x p l s G ∧ RI x s ∧ Q (.str (chS (rTake (sg x) (sg y) s).1)) (setRd R x p l (rTake (sg x) (sg y) s).2 G)
def sp_rd_enter (R : Addr) : DSp := fun ds G Q _ => ∃ (p l : Addr) (x : Str) (k : Nat) (s : RS), ds = [.ref p, .int (k : Int)] ∧ Rd R x p l s G ∧ RI x s ∧ Q .non (setRd R x p l (rTake (sg x) (if k < 8 then sg "(" else []) s).2 G)
def sp_rd_block (R : Addr) (n : Nat) : DSp := fun ds G Q _ => ∃ (p l : Addr) (x y : Str) (k : Nat) (s : RS), ds = [.ref p, .int (k : Int), .str y] ∧ k + n = 9 ∧ (n = 0 → s.ft ≠ none) ∧ Rd R x p l s G ∧ RI x s ∧ Q (.tup (encPB (rBlk (rStm (sg x) n) (sg x) (sg y) ((sg x).length + 1) s).1)) (setRd R x p l (rBlk (rStm (sg x) n) (sg x) (sg y) ((sg x).length + 1) s).2 G)
def sp_rd_stm (R : Addr) (n : Nat) : DSp := fun ds G Q _ => ∃ (p l : Addr) (x : Str) (k : Nat) (s : RS), ds = [.ref p, .int (k : Int)] ∧ k + n = 9 ∧ 1 ≤ n ∧ s.ft = none ∧ Rd R x p l s G ∧ RI x s ∧ Q (encPS (rStm (sg x) n s).1) (setRd R x p l (rStm (sg x) n s).2 G)
/-- behind the question mark -/
def rTst (cs : List Nat) (n : Nat) (s : RS) : PS × RS :=
  let k := rTake cs (sg ".1#!") s
  let a := rBlk (rStm cs n) cs (sg "|)") (cs.length + 1) (rTake cs (if n = 0 then [] else sg "(") k.2).2
  let b := rBlk (rStm cs n) cs (sg ")") (cs.length + 1) (rTake cs (sg "|") a.2).2
  (.tst (chS k.1) a.1 b.1, (rTake cs (sg ")") b.2).2)
def sp_rd_test (R : Addr) (n : Nat) : DSp := fun ds G Q _ => ∃ (p l : Addr) (x : Str) (k : Nat) (s : RS), ds = [.ref p, .int (k : Int)] ∧ k + (n + 1) = 9 ∧ Rd R x p l s G ∧ RI x s ∧ Q (encPS (rTst (sg x) n s).1) (setRd R x p l (rTst (sg x) n s).2 G)
def sp_rd_all (R : Addr) : DSp := fun ds G Q _ => ∃ (p l : Addr) (x : Str), ds = [.ref p] ∧ Rd R x p l ⟨0, none, []⟩ G ∧ x.length ≤ 1000 ∧ Q (.tup (encPB (rAll (sg x)).1)) (setRd R x p l { (rAll (sg x)).2 with ft := flaw (sg x) } G)
mutual
def dpS : PS → Nat
  | .atom _ => 0
  | .rep _ b => dpB b + 1
  | .lop _ b => dpB b + 1
  | .tst _ a b => max (dpB a) (dpB b) + 1
def dpB : PB → Nat
  | .nil => 0
  | .cons s r => max (dpS s) (dpB r)
end
mutual
/-- single signs only -/
def atS : PS → Bool
  | .atom w => decide (w = "") || (decide (w = "s") || (decide (w = "w") || decide (w = "x")))
  | .rep _ b => atB b
  | .lop _ b => atB b
  | .tst _ a b => atB a && atB b
def atB : PB → Bool
  | .nil => true
  | .cons s r => atS s && atB r
end
mutual
/-- every repeat has its figure -/
def okS : PS → Bool
  | .atom _ => true
  | .rep k b => (match sg k with
    | [c] => decide (50 ≤ c) && decide (c ≤ 57)
    | _ => false) && okB b
  | .lop _ b => okB b
  | .tst _ a b => okB a && okB b
def okB : PB → Bool
  | .nil => true
  | .cons s r => okS s && okB r
end
def sp_can_pass (n : Nat) : DSp := fun ds G Q _ => ∃ b : PB, ds = [.tup (encPB b)] ∧ dpB b ≤ n ∧ atB b = true ∧ Q (.bl (cpB b)) G
def sp_weight_of (n : Nat) : DSp := fun ds G Q _ => ∃ b : PB, ds = [.tup (encPB b)] ∧ dpB b ≤ n ∧ atB b = true ∧ okB b = true ∧ Q (.int ((wtB b : Nat) : Int)) G
/-- a text of a program -/
def ptOk : D → Bool
  | .str x => decide (x.length ≤ 600) && (sg x).all fun c => decide (32 ≤ c) && decide (c ≤ 126)
  | _ => false
def sp_is_program_text : DSp := fun ds G Q _ => ∃ d n, ds = [d] ∧ dat n d = true ∧ (∀ x, d = .str x → x.length ≤ datL) ∧ Q (.bl (ptOk d)) G
def Txd (d : D) : Prop := (∃ n, dat n d = true) ∧ ∀ x, d = .str x → x.length ≤ datL
def sp_program_flaw (C : Addr) : DSp := fun ds G Q E => ∃ d, ds = [d] ∧ Txd d ∧ (ptOk d = false → E (bad C "text") G) ∧ (ptOk d = true → ∀ x, d = .str x → Q (optN (flaw (sg x))) G)
def sp_statements_of : DSp := fun ds G Q _ => ∃ d, ds = [d] ∧ Txd d ∧ (ptOk d = false → Q .non G) ∧ (ptOk d = true → ∀ x, d = .str x → Q (if flaw (sg x) = none then .tup (encPB (rAll (sg x)).1) else .non) G)
def valB : D → Bool
  | .str x => ptOk (.str x) && decide (flaw (sg x) = none)
  | _ => false
def sp_valid_statements (C : Addr) : DSp := fun ds G Q E => ∃ d, ds = [d] ∧ Txd d ∧ (valB d = false → E (bad C "text") G) ∧ (valB d = true → ∀ x, d = .str x → Q (.tup (encPB (rAll (sg x)).1)) G)
def sp_weight (C : Addr) : DSp := fun ds G Q E => ∃ d, ds = [d] ∧ Txd d ∧ (valB d = false → E (bad C "text") G) ∧ (valB d = true → ∀ x, d = .str x → Q (.int ((wtB (rAll (sg x)).1 : Nat) : Int)) G)
def nbl (l : List Nat) : List Nat := l.filter fun c => !decide (c = 32)
def ofL (l : List Nat) : Str := ⟨l.toArray⟩
def sp_plain_program (C : Addr) : DSp := fun ds G Q E => ∃ d, ds = [d] ∧ Txd d ∧ (valB d = false → E (bad C "text") G) ∧ (valB d = true → ∀ x, d = .str x → Q (.str (ofL (nbl (sg x)))) G)
theorem len_program_flaw {C : Addr} : ∀ ds G Q E, sp_program_flaw C ds G Q E → ds.length = (["text"] : List Str).length := fun _ _ _ _ ⟨_, e, _⟩ => by rw [e]; rfl
theorem len_plain_program {C : Addr} : ∀ ds G Q E, sp_plain_program C ds G Q E → ds.length = (["text"] : List Str).length := fun _ _ _ _ ⟨_, e, _⟩ => by rw [e]; rfl

/-! ## the law's own -/
mutual
def encLS : PS → D
  | .atom w => .tup [.str w]
  | .rep k b => .tup [.str "*", .str k, .tup (encLB b)]
  | .lop _ b => .tup [.str "@", .tup (encLB b)]
  | .tst m a b => .tup [.str "?", .str m, .tup (encLB a), .tup (encLB b)]
def encLB : PB → List D
  | .nil => []
  | .cons s r => encLS s :: encLB r
end
def lnB : PB → Nat
  | .nil => 0
  | .cons _ r => lnB r + 1
mutual
/-- as the law draws them -/
def gS : PS → Bool
  | .atom w => decide (w = "s") || (decide (w = "w") || decide (w = "x"))
  | .rep k b => (decide (k = "2") || (decide (k = "3") || (decide (k = "4") || decide (k = "5")))) && (gB b && decide (lnB b ≤ 4))
  | .lop n b => decide (n = 0) && (!cpB b && (gB b && decide (lnB b ≤ 4)))
  | .tst m a b => (decide (m = ".") || (decide (m = "1") || (decide (m = "#") || decide (m = "!")))) && ((gB a && decide (lnB a ≤ 4)) && (gB b && decide (lnB b ≤ 4)))
def gB : PB → Bool
  | .nil => true
  | .cons s r => gS s && gB r
end
structure Dr (n : Nat) (b : PB) : Prop where
  dp : dpB b ≤ n
  g : gB b = true
  ln : lnB b ≤ 4
def sp__law_prog (n : Nat) : DSp := fun ds G Q _ => ∃ (p : Addr) (k : Nat) (i : Bool) (xs : Scr), ds = [.ref p, .int (k : Int), .bl i] ∧ k ≤ n ∧ xs.length ≤ datL ∧ Row xs G p ∧ ∀ (b : PB) (at_ : Nat) (u v : Int), Dr k b → (i = false → cpB b = false) → Q (.tup (encLB b)) (updG G p (rowG xs at_ u v))
mutual
def wrS : PS → List Nat
  | .atom w => sg w
  | .rep k b => 42 :: (sg k ++ 40 :: (wrB b ++ [41]))
  | .lop _ b => 64 :: 40 :: (wrB b ++ [41])
  | .tst m a b => 63 :: (sg m ++ 40 :: (wrB a ++ 124 :: (wrB b ++ [41])))
def wrB : PB → List Nat
  | .nil => []
  | .cons s r => wrS s ++ wrB r
end
def sp__law_write (n : Nat) : DSp := fun ds G Q _ => ∃ (b : PB), ds = [.tup (encLB b)] ∧ n ≤ 4 ∧ Dr n b ∧ Q (.str (ofL (wrB b))) G
def sp__law_weigh (n : Nat) : DSp := fun ds G Q _ => ∃ (b : PB), ds = [.tup (encLB b)] ∧ Dr n b ∧ Q (.int ((wtB b : Nat) : Int)) G
/-! ### the law's own reading -/
structure LS where
  pl : Nat
  ft : Option Nat
  id : List Nat
def lG (q : Addr) (s : LS) : GO := .lst [.int (s.pl : Int), optN s.ft, .ref q]
def setL (p q : Addr) (s : LS) (G : GH) : GH := fun a => if a = p then some (lG q s) else if a = q then some (.lst (natsD s.id)) else G a
structure Ld (p q : Addr) (s : LS) (G : GH) : Prop where
  ne : p ≠ q
  p : G p = some (lG q s)
  q : G q = some (.lst (natsD s.id))
structure LI (x : Str) (s : LS) : Prop where
  sz : x.length ≤ 1000
  pl : s.pl ≤ x.length
  id : s.id.length ≤ s.pl
def lTake (cs some : List Nat) (s : LS) : LS :=
  let p := skp cs s.pl
  let ft := if s.ft = none ∧ (match cs[p]? with | none => true | Option.some c => !decide (c ∈ some)) = true then Option.some p else s.ft
  { s with pl := if ft = none then p + 1 else p, ft := ft }
def lBlk (stm : LS → Bool × LS) (cs ends : List Nat) : Nat → Bool → LS → Bool × LS
  | 0, i, s => (i, s)
  | m + 1, i, s =>
    let s1 : LS := { s with pl := skp cs s.pl }
    if s.ft ≠ none then (i, s1) else match cs[skp cs s.pl]? with
      | none => (i, s1)
      | some c => if c ∈ ends then (i, s1) else lBlk stm cs ends m (i && (stm s1).1) (stm s1).2
def lStm (cs : List Nat) : Nat → LS → Bool × LS
  | 0, s => (true, s)
  | n + 1, s =>
    let br : List Nat := if n = 0 then [] else sg "("
    let c := cs[s.pl]?
    let s0 := lTake cs (sg "swx?*@") s
    if c = some 63 then
      let a := lBlk (lStm cs n) cs (sg "|)") 601 true (lTake cs br (lTake cs (sg ".1#!") s0))
      let b := lBlk (lStm cs n) cs (sg ")") 601 true (lTake cs (sg "|") a.2)
      (a.1 || b.1, lTake cs (sg ")") b.2)
    else if c = some 42 then
      let a := lBlk (lStm cs n) cs (sg ")") 601 true (lTake cs br (lTake cs (sg "23456789") s0))
      (a.1, lTake cs (sg ")") a.2)
    else if c = some 64 then
      let a := lBlk (lStm cs n) cs (sg ")") 601 true (lTake cs br s0)
      let z := lTake cs (sg ")") a.2
      (false, if a.1 = true then { z with id := z.id ++ [s.pl] } else z)
    else (false, s0)
def lAll (cs : List Nat) : Bool × LS := lBlk (lStm cs 9) cs [] 601 true ⟨0, none, []⟩
def lFlaw (cs : List Nat) : Option Nat :=
  let s := (lAll cs).2
  if s.ft = none ∧ cs[skp cs s.pl]? ≠ none then some (skp cs s.pl) else s.ft <|> minN s.id
def sp__law_see : DSp := fun ds G Q _ => ∃ (p q : Addr) (x : Str) (s : LS), ds = [.str x, .ref p] ∧ Ld p q s G ∧ LI x s ∧ Q (.str (chS (sg x)[skp (sg x) s.pl]?)) (setL p q { s with pl := skp (sg x) s.pl } G)
def sp__law_take : DSp := fun ds G Q _ => ∃ (p q : Addr) (x y : Str) (s : LS), ds = [.str x, .ref p, .str y] ∧ Ld p q s G ∧ LI x s ∧ Q (.str (chS (sg x)[skp (sg x) s.pl]?)) (setL p q (lTake (sg x) (sg y) s) G)
def prn (x : Str) : Bool := (sg x).all fun c => decide (32 ≤ c) && decide (c ≤ 126)
def endsOf (d : D) (y : List Nat) : Prop := (∃ z : Str, d = .str z ∧ y = sg z) ∨ (d = .lst [] ∧ y = [])
def sp__law_read (n : Nat) : DSp := fun ds G Q _ => ∃ (p q : Addr) (x : Str) (k : Nat) (e : D) (y : List Nat) (s : LS), ds = [.str x, .ref p, .int (k : Int), e] ∧ k + n = 9 ∧ endsOf e y ∧ (n = 0 → s.ft ≠ none) ∧ x.length ≤ 600 ∧ prn x = true ∧ Ld p q s G ∧ LI x s ∧ Q (.bl (lBlk (lStm (sg x) n) (sg x) y 601 true s).1) (setL p q (lBlk (lStm (sg x) n) (sg x) y 601 true s).2 G)
def sp__law_flaw : DSp := fun ds G Q _ => ∃ x : Str, ds = [.str x] ∧ x.length ≤ 600 ∧ prn x = true ∧ Q (optN (lFlaw (sg x))) G
def sp__law_blanks : DSp := fun ds G Q _ => ∃ (p : Addr) (x : Str) (xs : Scr), ds = [.ref p, .str x] ∧ x.length ≤ 100000 ∧ xs.length ≤ datL ∧ Row xs G p ∧ ∀ (y : Str) (at_ : Nat) (u v : Int), nbl (sg y) = nbl (sg x) → y.length ≤ 2 * x.length → x.length ≤ y.length → Q (.str y) (updG G p (rowG xs at_ u v))
def sp__law_spoilt : DSp := fun ds G Q _ => ∃ (p : Addr) (x : Str) (xs : Scr), ds = [.ref p, .str x] ∧ x.length ≤ 1000 ∧ prn x = true ∧ xs.length ≤ datL ∧ Row xs G p ∧ ∀ (y : Str) (at_ : Nat) (u v : Int), prn y = true → y.length ≤ x.length + 1 → Q (.str y) (updG G p (rowG xs at_ u v))

abbrev s_need : Stmt := top 3
abbrev s_is_program_text : Stmt := top 14
abbrev s_can_pass : Stmt := top 16
abbrev s_weight_of : Stmt := top 17
abbrev s_program_flaw : Stmt := top 18
abbrev s_statements_of : Stmt := top 19
abbrev s_valid_statements : Stmt := top 20
abbrev s_weight : Stmt := top 21
abbrev s_plain_program : Stmt := top 22
abbrev s__law_taken : Stmt := top 24
abbrev s__law_pick : Stmt := top 25
abbrev s__law_refused : Stmt := top 26
abbrev s__law_alike : Stmt := top 27
abbrev s__law_prog : Stmt := top 28
abbrev s__law_write : Stmt := top 29
abbrev s__law_weigh : Stmt := top 30
abbrev s__law_see : Stmt := top 31
abbrev s__law_take : Stmt := top 32
abbrev s__law_read : Stmt := top 33
abbrev s__law_flaw : Stmt := top 34
abbrev s__law_blanks : Stmt := top 35
abbrev s__law_spoilt : Stmt := top 36
abbrev s_law : Stmt := top 37
abbrev s_ProgramReader___init__ : Stmt := clsAt (top 15) 0
abbrev s_ProgramReader_peek : Stmt := clsAt (top 15) 1
abbrev s_ProgramReader_take : Stmt := clsAt (top 15) 2
abbrev s_ProgramReader_enter : Stmt := clsAt (top 15) 3
abbrev s_ProgramReader_read_block : Stmt := clsAt (top 15) 4
abbrev s_ProgramReader_read_statement : Stmt := clsAt (top 15) 5
abbrev s_ProgramReader_read_test : Stmt := clsAt (top 15) 6
abbrev s_ProgramReader_read_all : Stmt := clsAt (top 15) 7
structure Cl_ProgramReader (K : PySem.W.Frag) (R : Addr) : Prop where
  cl : Cls K R
  f_source : NoAttr K R "source"
  f_place : NoAttr K R "place"
  f_fault : NoAttr K R "fault"
  f_loops : NoAttr K R "loops"

abbrev N_plain_program : List Str := ["text"]
theorem sc_plain_program : FnScope N_plain_program ["text"] (defScope s_plain_program) := ⟨rfl, rfl, rfl, by decide +kernel, rfl, by decide +kernel, by decide +kernel⟩
abbrev N__law_refused : List Str := ["call", "e"]
theorem sc__law_refused : FnScope N__law_refused ["call"] (defScope s__law_refused) := ⟨rfl, rfl, rfl, by decide +kernel, rfl, by decide +kernel, by decide +kernel⟩
/-! need: 0 is_valid, 1 name -/
abbrev N_need : List Str := ["is_valid", "name"]
theorem sc_need : FnScope N_need ["is_valid", "name"] (defScope s_need) := ⟨rfl, rfl, rfl, by decide +kernel, rfl, by decide +kernel, by decide +kernel⟩
def t_need (C : Addr) (Ex : DXK) : DS :=
  (dIfS (dNot (dTru (dVar 0))) (dRaise Ex (dMk C "name" (dCons (dVar 1) dNil))) dNext)
theorem b_need {P : Program} {w : World} {K : PySem.W.Frag} {mg : Str → Option Value} {base : Heap} {fA C : Addr}  (B : Blt mg) {fI cc cda : Addr}
    (T_BadArgument : DX.ErrTxt P K mg "BadArgument" "name" C fI cc cda "BadArgument.__init__")
    (cdv : Value) (A : Around) (outer : List Env) (s : Shared) (H : Hp) (E : XK) (c : DC) (Ex : DXK) (hr : Room 2 (A.deeper (envOfC "need" (defScope s_need) s.heap.objs.size fA cdv))) (ok : XOk (cxOf (L2.CX P w) P w K mg base N_need "need" (defScope s_need) fA cdv A outer s H E) c Ex) :
    PSs (cxOf (L2.CX P w) P w K mg base N_need "need" (defScope s_need) fA cdv A outer s H E) (defBody s_need) (lS K c (t_need C Ex)) :=
  (dss_one (ds_if (dt_not (dt_tru (d_var (i := 0)))) (dss_one (ds_raise rfl ok (dmk_of (pmk_err T_BadArgument DX.fld_name hr (da_cons (d_var (i := 1)) da_nil))))) dss_nil))
/-! is_program_text: 0 value, 1 own -/
abbrev N_is_program_text : List Str := ["value", "own"]
theorem sc_is_program_text : FnScope N_is_program_text ["value"] (defScope s_is_program_text) := ⟨rfl, rfl, rfl, by decide +kernel, rfl, by decide +kernel, by decide +kernel⟩
def t_is_program_text (C : Addr) (Ex : DXK) : DS :=
  (dRet (dAndV (dF1 (isa1 "str") (dVar 0)) (dAndV (dOp leD (dF1 lenF (dVar 0)) (dC (.int (600)))) (dF1 allF (dLc (dItr (dVar 0)) [1] (.name 1) dYes (dChain leSD leSD (dC (.str " ")) (dVar 1) (dC (.str "~"))))))))
theorem b_is_program_text {P : Program} {w : World} {K : PySem.W.Frag} {mg : Str → Option Value} {base : Heap} {fA C : Addr}  (B : Blt mg)
    {t_MOST_TEXT : Tok} (c_MOST_TEXT : mg "MOST_TEXT" = some (.int (600) t_MOST_TEXT))
    (cdv : Value) (A : Around) (outer : List Env) (s : Shared) (H : Hp) (E : XK) (c : DC) (Ex : DXK) (hr : Room 0 (A.deeper (envOfC "is_program_text" (defScope s_is_program_text) s.heap.objs.size fA cdv))) (ok : XOk (cxOf (L2.CX P w) P w K mg base N_is_program_text "is_program_text" (defScope s_is_program_text) fA cdv A outer s H E) c Ex) :
    PSs (cxOf (L2.CX P w) P w K mg base N_is_program_text "is_program_text" (defScope s_is_program_text) fA cdv A outer s H E) (defBody s_is_program_text) (lS K c (t_is_program_text C Ex)) :=
  (dss_one (ds_ret (d_and (d_str2 B (d_var (i := 0))) (d_and (d_cmp od_le (dl_len B (d_var (i := 0))) (d_gint c_MOST_TEXT) (nomark _)) (d_one (dl_all B rfl (d_lc (own := [("own", 1)]) rfl sc_is_program_text.nd (di_any (d_var (i := 0))) (blkOk_by (by first | rfl | decide +kernel)) (fun _ _ _ _ _ _ => (g_name (i := 1) sc_is_program_text.nd)) (fun _ _ _ _ _ _ => dts_nil) (fun _ _ _ _ _ _ => (d_chain od_leS od_leS d_str (d_var (i := 1)) d_str)))))))))
/-! can_pass: 0 block, 1 statement, 2 word -/
abbrev N_can_pass : List Str := ["block", "statement", "word"]
theorem sc_can_pass : FnScope N_can_pass ["block"] (defScope s_can_pass) := ⟨rfl, rfl, rfl, by decide +kernel, rfl, by decide +kernel, by decide +kernel⟩
def t_can_pass_1 (C : Addr) (sp : DSp) (Ex : DXK) : DS :=
  (dSeq (dAsg (dOp ixD (dVar 1) (dC (.int 0))) (.name 2)) (dSeq (dIfS (dTst (dOp inD (dVar 2) (dTup (dCons (dC (.str "s")) (dCons (dC (.str "w")) (dCons (dC (.str "x")) (dCons (dC (.str "@")) dNil))))))) (dRet (dC (.bl false))) dNext) (dSeq (dIfS (dAnd (dTst (dOp eqD (dVar 2) (dC (.str "*")))) (dNot (dTru (dCall sp noX (dCons (dOp ixD (dVar 1) (dC (.int 2))) dNil))))) (dRet (dC (.bl false))) dNext) (dIfS (dAnd (dTst (dOp eqD (dVar 2) (dC (.str "?")))) (dNot (dOr (dTru (dCall sp noX (dCons (dOp ixD (dVar 1) (dC (.int 2))) dNil))) (dTru (dCall sp noX (dCons (dOp ixD (dVar 1) (dC (.int 3))) dNil)))))) (dRet (dC (.bl false))) dNext))))
def t_can_pass (C : Addr) (sp : DSp) (Ex : DXK) : DS :=
  (dSeq (dFor (dItr (dVar 0)) (.name 1) (t_can_pass_1 C sp Ex)) (dRet (dC (.bl true))))
theorem b_can_pass {P : Program} {w : World} {K : PySem.W.Frag} {mg : Str → Option Value} {base : Heap} {fA C : Addr} {sp : DSp} {j : Nat} (B : Blt mg)
    (F_can_pass : FnD P w K mg base "can_pass" j ["block"] sp)
    {t_SEND : Tok} (c_SEND : mg "SEND" = some (.str "s" t_SEND))
    {t_WAIT : Tok} (c_WAIT : mg "WAIT" = some (.str "w" t_WAIT))
    {t_STOP : Tok} (c_STOP : mg "STOP" = some (.str "x" t_STOP))
    {t_FOREVER : Tok} (c_FOREVER : mg "FOREVER" = some (.str "@" t_FOREVER))
    {t_REPEAT : Tok} (c_REPEAT : mg "REPEAT" = some (.str "*" t_REPEAT))
    {t_TEST : Tok} (c_TEST : mg "TEST" = some (.str "?" t_TEST))
    (cdv : Value) (A : Around) (outer : List Env) (s : Shared) (H : Hp) (E : XK) (c : DC) (Ex : DXK) (hr : Room j (A.deeper (envOfC "can_pass" (defScope s_can_pass) s.heap.objs.size fA cdv))) (ok : XOk (cxOf (L2.CX P w) P w K mg base N_can_pass "can_pass" (defScope s_can_pass) fA cdv A outer s H E) c Ex) :
    PSs (cxOf (L2.CX P w) P w K mg base N_can_pass "can_pass" (defScope s_can_pass) fA cdv A outer s H E) (defBody s_can_pass) (lS K c (t_can_pass C sp Ex)) :=
  (dss_cons (ds_for (passes_of rfl) rfl (di_any (d_var (i := 0))) (g_name (i := 1) sc_can_pass.nd) (dss_cons (ds_set (i := 2) sc_can_pass.nd (d_ix ixd_seq (d_var (i := 1)) d_int))
    (dss_cons (ds_if (dt_cmp (od_in (hu65 hr)) (d_var (i := 2)) (d_tup (da_cons (d_gstr c_SEND) (da_cons (d_gstr c_WAIT) (da_cons (d_gstr c_STOP) (da_cons (d_gstr c_FOREVER) da_nil))))) (by rfl)) (dss_one (ds_ret d_bl)) dss_nil)
    (dss_cons (ds_if (PW.pt (dw_and (dt_cmp (od_eq hr.units) (d_var (i := 2)) (d_gstr c_REPEAT) (nomark _)) (dw_and1 (dt_not (dt_tru (d_call F_can_pass hr xok0 (da_cons (d_ix ixd_seq (d_var (i := 1)) d_int) da_nil))))))) (dss_one (ds_ret d_bl)) dss_nil)
    (dss_one (ds_if (PW.pt (dw_and (dt_cmp (od_eq hr.units) (d_var (i := 2)) (d_gstr c_TEST) (nomark _)) (dw_and1 (dt_not (PW.pt (dw_or (dt_tru (d_call F_can_pass hr xok0 (da_cons (d_ix ixd_seq (d_var (i := 1)) d_int) da_nil))) (dw_or1 (dt_tru (d_call F_can_pass hr xok0 (da_cons (d_ix ixd_seq (d_var (i := 1)) d_int) da_nil)))))))))) (dss_one (ds_ret d_bl)) dss_nil))))))
    (dss_one (ds_ret d_bl)))
/-! weight_of: 0 block, 1 found, 2 statement, 3 word -/
abbrev N_weight_of : List Str := ["block", "found", "statement", "word"]
theorem sc_weight_of : FnScope N_weight_of ["block"] (defScope s_weight_of) := ⟨rfl, rfl, rfl, by decide +kernel, rfl, by decide +kernel, by decide +kernel⟩
def t_weight_of_1 (C : Addr) (sp : DSp) (Ex : DXK) : DS :=
  (dSeq (dAsg (dOp ixD (dVar 2) (dC (.int 0))) (.name 3)) (dIfS (dTst (dOp eqD (dVar 3) (dC (.str "*")))) (dAug 1 plusF (dOp mulD (dF1 intSF (dOp ixD (dVar 2) (dC (.int 1)))) (dCall sp noX (dCons (dOp ixD (dVar 2) (dC (.int 2))) dNil)))) (dIfS (dTst (dOp eqD (dVar 3) (dC (.str "?")))) (dAug 1 plusF (dOp addD (dCall sp noX (dCons (dOp ixD (dVar 2) (dC (.int 2))) dNil)) (dCall sp noX (dCons (dOp ixD (dVar 2) (dC (.int 3))) dNil)))) (dAug 1 plusF (dIf (dTst (dOp eqD (dVar 3) (dC (.str "@")))) (dCall sp noX (dCons (dOp ixD (dVar 2) (dC (.int 2))) dNil)) (dC (.int 1)))))))
def t_weight_of (C : Addr) (sp : DSp) (Ex : DXK) : DS :=
  (dSeq (dAsg (dC (.int 0)) (.name 1)) (dSeq (dFor (dItr (dVar 0)) (.name 2) (t_weight_of_1 C sp Ex)) (dRet (dVar 1))))
theorem b_weight_of {P : Program} {w : World} {K : PySem.W.Frag} {mg : Str → Option Value} {base : Heap} {fA C : Addr} {sp : DSp} {j : Nat} (B : Blt mg)
    (F_weight_of : FnD P w K mg base "weight_of" j ["block"] sp)
    {t_REPEAT : Tok} (c_REPEAT : mg "REPEAT" = some (.str "*" t_REPEAT))
    {t_TEST : Tok} (c_TEST : mg "TEST" = some (.str "?" t_TEST))
    {t_FOREVER : Tok} (c_FOREVER : mg "FOREVER" = some (.str "@" t_FOREVER))
    (cdv : Value) (A : Around) (outer : List Env) (s : Shared) (H : Hp) (E : XK) (c : DC) (Ex : DXK) (hr : Room j (A.deeper (envOfC "weight_of" (defScope s_weight_of) s.heap.objs.size fA cdv))) (ok : XOk (cxOf (L2.CX P w) P w K mg base N_weight_of "weight_of" (defScope s_weight_of) fA cdv A outer s H E) c Ex) :
    PSs (cxOf (L2.CX P w) P w K mg base N_weight_of "weight_of" (defScope s_weight_of) fA cdv A outer s H E) (defBody s_weight_of) (lS K c (t_weight_of C sp Ex)) :=
  (dss_cons (ds_set (i := 1) sc_weight_of.nd d_int)
    (dss_cons (ds_for (passes_of rfl) rfl (di_any (d_var (i := 0))) (g_name (i := 2) sc_weight_of.nd) (dss_cons (ds_set (i := 3) sc_weight_of.nd (d_ix ixd_seq (d_var (i := 2)) d_int))
    (dss_one (ds_if (dt_cmp (od_eq hr.units) (d_var (i := 3)) (d_gstr c_REPEAT) (nomark _)) (dss_one (ds_aug (i := 1) sc_weight_of.nd ip_plus (d_op od_mul (dl_intS B (d_ix ixd_seq (d_var (i := 2)) d_int)) (d_call F_weight_of hr xok0 (da_cons (d_ix ixd_seq (d_var (i := 2)) d_int) da_nil))))) (dss_one (ds_if (dt_cmp (od_eq hr.units) (d_var (i := 3)) (d_gstr c_TEST) (nomark _)) (dss_one (ds_aug (i := 1) sc_weight_of.nd ip_plus (d_op od_add (d_call F_weight_of hr xok0 (da_cons (d_ix ixd_seq (d_var (i := 2)) d_int) da_nil)) (d_call F_weight_of hr xok0 (da_cons (d_ix ixd_seq (d_var (i := 2)) d_int) da_nil))))) (dss_one (ds_aug (i := 1) sc_weight_of.nd ip_plus (d_ifExp (dt_cmp (od_eq hr.units) (d_var (i := 3)) (d_gstr c_FOREVER) (nomark _)) (d_call F_weight_of hr xok0 (da_cons (d_ix ixd_seq (d_var (i := 2)) d_int) da_nil)) d_int)))))))))
    (dss_one (ds_ret (d_var (i := 1))))))
/-! program_flaw: 0 text, 1 reader -/
abbrev N_program_flaw : List Str := ["text", "reader"]
theorem sc_program_flaw : FnScope N_program_flaw ["text"] (defScope s_program_flaw) := ⟨rfl, rfl, rfl, by decide +kernel, rfl, by decide +kernel, by decide +kernel⟩
def t_program_flaw (C : Addr) (R : Addr) (Ex : DXK) : DS :=
  (dSeq (dDrop (dCall (sp_need C) Ex (dCons (dCall sp_is_program_text Ex (dCons (dVar 0) dNil)) (dCons (dC (.str "text")) dNil)))) (dSeq (dAsg (dMake R (sp_rd_init R) Ex (dCons (dVar 0) dNil)) (.name 1)) (dSeq (dDrop (dMeth R "read_all" (sp_rd_all R) Ex (dVar 1) dNil)) (dRet (dFld R "fault" (dVar 1))))))
theorem b_program_flaw {P : Program} {w : World} {K : PySem.W.Frag} {mg : Str → Option Value} {base : Heap} {fA C : Addr} {R : Addr} (B : Blt mg)
    (K_ProgramReader : Cl_ProgramReader K R)
    (M_ProgramReader_read_all : MtD P w K mg base R "read_all" 41 ["self"] (sp_rd_all R))
    (MK_ProgramReader : MkD P w K mg base "ProgramReader" R 1 ["self", "text"] (sp_rd_init R))
    (F_is_program_text : FnD P w K mg base "is_program_text" 1 ["value"] sp_is_program_text)
    (F_need : FnD P w K mg base "need" 3 ["is_valid", "name"] (sp_need C))
    (cdv : Value) (A : Around) (outer : List Env) (s : Shared) (H : Hp) (E : XK) (c : DC) (Ex : DXK) (hr : Room 41 (A.deeper (envOfC "program_flaw" (defScope s_program_flaw) s.heap.objs.size fA cdv))) (ok : XOk (cxOf (L2.CX P w) P w K mg base N_program_flaw "program_flaw" (defScope s_program_flaw) fA cdv A outer s H E) c Ex) :
    PSs (cxOf (L2.CX P w) P w K mg base N_program_flaw "program_flaw" (defScope s_program_flaw) fA cdv A outer s H E) (defBody s_program_flaw) (lS K c (t_program_flaw C R Ex)) :=
  (dss_cons (ds_expr (d_call F_need (hr.mono (by decide)) ok (da_cons (d_call F_is_program_text (hr.mono (by decide)) ok (da_cons (d_var (i := 0)) da_nil)) (da_cons d_str da_nil))))
    (dss_cons (ds_set (i := 1) sc_program_flaw.nd (d_make MK_ProgramReader (hr.mono (by decide)) ok (da_cons (d_var (i := 0)) da_nil)))
    (dss_cons (ds_expr (d_meth0 K_ProgramReader.cl M_ProgramReader_read_all (hr.mono (by decide)) ok (d_var (i := 1))))
    (dss_one (ds_ret (d_fld K_ProgramReader.cl K_ProgramReader.f_fault (d_var (i := 1))))))))
/-! statements_of: 0 text, 1 reader, 2 found -/
abbrev N_statements_of : List Str := ["text", "reader", "found"]
theorem sc_statements_of : FnScope N_statements_of ["text"] (defScope s_statements_of) := ⟨rfl, rfl, rfl, by decide +kernel, rfl, by decide +kernel, by decide +kernel⟩
def t_statements_of (C : Addr) (R : Addr) (Ex : DXK) : DS :=
  (dSeq (dIfS (dNot (dTru (dCall sp_is_program_text noX (dCons (dVar 0) dNil)))) (dRet (dC .non)) dNext) (dSeq (dAsg (dMake R (sp_rd_init R) noX (dCons (dVar 0) dNil)) (.name 1)) (dSeq (dAsg (dMeth R "read_all" (sp_rd_all R) noX (dVar 1) dNil) (.name 2)) (dRet (dIf (dTst (dOp isND (dFld R "fault" (dVar 1)) (dC .non))) (dVar 2) (dC .non))))))
theorem b_statements_of {P : Program} {w : World} {K : PySem.W.Frag} {mg : Str → Option Value} {base : Heap} {fA C : Addr} {R : Addr} (B : Blt mg)
    (K_ProgramReader : Cl_ProgramReader K R)
    (M_ProgramReader_read_all : MtD P w K mg base R "read_all" 41 ["self"] (sp_rd_all R))
    (MK_ProgramReader : MkD P w K mg base "ProgramReader" R 1 ["self", "text"] (sp_rd_init R))
    (F_is_program_text : FnD P w K mg base "is_program_text" 1 ["value"] sp_is_program_text)
    (cdv : Value) (A : Around) (outer : List Env) (s : Shared) (H : Hp) (E : XK) (c : DC) (Ex : DXK) (hr : Room 41 (A.deeper (envOfC "statements_of" (defScope s_statements_of) s.heap.objs.size fA cdv))) (ok : XOk (cxOf (L2.CX P w) P w K mg base N_statements_of "statements_of" (defScope s_statements_of) fA cdv A outer s H E) c Ex) :
    PSs (cxOf (L2.CX P w) P w K mg base N_statements_of "statements_of" (defScope s_statements_of) fA cdv A outer s H E) (defBody s_statements_of) (lS K c (t_statements_of C R Ex)) :=
  (dss_cons (ds_if (dt_not (dt_tru (d_call F_is_program_text (hr.mono (by decide)) xok0 (da_cons (d_var (i := 0)) da_nil)))) (dss_one (ds_ret d_non)) dss_nil)
    (dss_cons (ds_set (i := 1) sc_statements_of.nd (d_make MK_ProgramReader (hr.mono (by decide)) xok0 (da_cons (d_var (i := 0)) da_nil)))
    (dss_cons (ds_set (i := 2) sc_statements_of.nd (d_meth0 K_ProgramReader.cl M_ProgramReader_read_all (hr.mono (by decide)) xok0 (d_var (i := 1))))
    (dss_one (ds_ret (d_ifExp (dt_cmp od_isN (d_fld K_ProgramReader.cl K_ProgramReader.f_fault (d_var (i := 1))) d_non (nomark _)) (d_var (i := 2)) d_non))))))
/-! valid_statements: 0 text, 1 found -/
abbrev N_valid_statements : List Str := ["text", "found"]
theorem sc_valid_statements : FnScope N_valid_statements ["text"] (defScope s_valid_statements) := ⟨rfl, rfl, rfl, by decide +kernel, rfl, by decide +kernel, by decide +kernel⟩
def t_valid_statements (C : Addr) (Ex : DXK) : DS :=
  (dSeq (dAsg (dCall sp_statements_of Ex (dCons (dVar 0) dNil)) (.name 1)) (dSeq (dDrop (dCall (sp_need C) Ex (dCons (dOp notND (dVar 1) (dC .non)) (dCons (dC (.str "text")) dNil)))) (dRet (dVar 1))))
theorem b_valid_statements {P : Program} {w : World} {K : PySem.W.Frag} {mg : Str → Option Value} {base : Heap} {fA C : Addr}  (B : Blt mg)
    (F_need : FnD P w K mg base "need" 3 ["is_valid", "name"] (sp_need C))
    (F_statements_of : FnD P w K mg base "statements_of" 42 ["text"] sp_statements_of)
    (cdv : Value) (A : Around) (outer : List Env) (s : Shared) (H : Hp) (E : XK) (c : DC) (Ex : DXK) (hr : Room 42 (A.deeper (envOfC "valid_statements" (defScope s_valid_statements) s.heap.objs.size fA cdv))) (ok : XOk (cxOf (L2.CX P w) P w K mg base N_valid_statements "valid_statements" (defScope s_valid_statements) fA cdv A outer s H E) c Ex) :
    PSs (cxOf (L2.CX P w) P w K mg base N_valid_statements "valid_statements" (defScope s_valid_statements) fA cdv A outer s H E) (defBody s_valid_statements) (lS K c (t_valid_statements C Ex)) :=
  (dss_cons (ds_set (i := 1) sc_valid_statements.nd (d_call F_statements_of (hr.mono (by decide)) ok (da_cons (d_var (i := 0)) da_nil)))
    (dss_cons (ds_expr (d_call F_need (hr.mono (by decide)) ok (da_cons (d_cmp od_notN (d_var (i := 1)) d_non (nomark _)) (da_cons d_str da_nil))))
    (dss_one (ds_ret (d_var (i := 1))))))
/-! weight: 0 text -/
abbrev N_weight : List Str := ["text"]
theorem sc_weight : FnScope N_weight ["text"] (defScope s_weight) := ⟨rfl, rfl, rfl, by decide +kernel, rfl, by decide +kernel, by decide +kernel⟩
def t_weight (C : Addr) (Ex : DXK) : DS :=
  (dRet (dCall (sp_weight_of 20) Ex (dCons (dCall (sp_valid_statements C) Ex (dCons (dVar 0) dNil)) dNil)))
theorem b_weight {P : Program} {w : World} {K : PySem.W.Frag} {mg : Str → Option Value} {base : Heap} {fA C : Addr}  (B : Blt mg)
    (F_valid_statements : FnD P w K mg base "valid_statements" 43 ["text"] (sp_valid_statements C))
    (F_weight_of : FnD P w K mg base "weight_of" 21 ["block"] (sp_weight_of 20))
    (cdv : Value) (A : Around) (outer : List Env) (s : Shared) (H : Hp) (E : XK) (c : DC) (Ex : DXK) (hr : Room 43 (A.deeper (envOfC "weight" (defScope s_weight) s.heap.objs.size fA cdv))) (ok : XOk (cxOf (L2.CX P w) P w K mg base N_weight "weight" (defScope s_weight) fA cdv A outer s H E) c Ex) :
    PSs (cxOf (L2.CX P w) P w K mg base N_weight "weight" (defScope s_weight) fA cdv A outer s H E) (defBody s_weight) (lS K c (t_weight C Ex)) :=
  (dss_one (ds_ret (d_call F_weight_of (hr.mono (by decide)) ok (da_cons (d_call F_valid_statements (hr.mono (by decide)) ok (da_cons (d_var (i := 0)) da_nil)) da_nil))))
/-! _law_taken: 0 row, 1 many, 2 found, 3 cell -/
abbrev N__law_taken : List Str := ["row", "many", "found", "cell"]
theorem sc__law_taken : FnScope N__law_taken ["row", "many"] (defScope s__law_taken) := ⟨rfl, rfl, rfl, by decide +kernel, rfl, by decide +kernel, by decide +kernel⟩
def t__law_taken (C : Addr) (Ex : DXK) : DS :=
  (dSeq (dIfS (dTst (dOp gtD (dOp ixD (dVar 0) (dC (.int 3))) (dC (.int 0)))) (dSeq (dAsg (dOp modD (dF1 intF (dOp ixD (dVar 0) (dC (.int 3)))) (dVar 1)) (.name 2)) (dSeq (dPut setD (dOp fdivD (dOp ixD (dVar 0) (dC (.int 3))) (dVar 1)) (dVar 0) (dC (.int 3))) (dRet (dVar 2)))) dNext) (dSeq (dPut setD (dOp addD (dOp ixD (dVar 0) (dC (.int 1))) (dC (.int 1))) (dVar 0) (dC (.int 1))) (dSeq (dIfS (dTst (dOp gtD (dOp ixD (dVar 0) (dC (.int 1))) (dF1 lenF (dOp ixD (dVar 0) (dC (.int 0)))))) (dSeq (dPut setD (dOp modD (dF1 intF (dOp addD (dOp mulD (dOp ixD (dVar 0) (dC (.int 2))) (dC (.int 48271))) (dC (.int 11)))) (dC (.int 2147483647))) (dVar 0) (dC (.int 2))) (dRet (dOp modD (dF1 intF (dOp fdivD (dOp ixD (dVar 0) (dC (.int 2))) (dC (.int 7)))) (dVar 1)))) dNext) (dSeq (dAsg (dOp ixD (dOp ixD (dVar 0) (dC (.int 0))) (dOp subD (dOp ixD (dVar 0) (dC (.int 1))) (dC (.int 1)))) (.name 3)) (dSeq (dPut setD (dOp modD (dF1 intF (dOp addD (dOp addD (dOp mulD (dOp ixD (dVar 0) (dC (.int 2))) (dC (.int 48271))) (dF1 intF (dVar 3))) (dC (.int 11)))) (dC (.int 2147483647))) (dVar 0) (dC (.int 2))) (dSeq (dIfS (dTst (dOp geD (dVar 3) (dOp powD (dC (.int 10)) (dC (.int 18))))) (dPut setD (dOp fdivD (dF1 intF (dOp modD (dF1 intF (dVar 3)) (dOp powD (dC (.int 10)) (dC (.int 90))))) (dVar 1)) (dVar 0) (dC (.int 3))) dNext) (dRet (dOp modD (dF1 intF (dVar 3)) (dVar 1)))))))))
theorem b__law_taken {P : Program} {w : World} {K : PySem.W.Frag} {mg : Str → Option Value} {base : Heap} {fA C : Addr}  (B : Blt mg)
    (cdv : Value) (A : Around) (outer : List Env) (s : Shared) (H : Hp) (E : XK) (c : DC) (Ex : DXK) (hr : Room 0 (A.deeper (envOfC "_law_taken" (defScope s__law_taken) s.heap.objs.size fA cdv))) (ok : XOk (cxOf (L2.CX P w) P w K mg base N__law_taken "_law_taken" (defScope s__law_taken) fA cdv A outer s H E) c Ex) :
    PSs (cxOf (L2.CX P w) P w K mg base N__law_taken "_law_taken" (defScope s__law_taken) fA cdv A outer s H E) (defBody s__law_taken) (lS K c (t__law_taken C Ex)) :=
  (dss_cons (ds_if (dt_cmp od_gt (d_ix ixd_seq (d_var (i := 0)) d_int) d_int (nomark _)) (dss_cons (ds_set (i := 2) sc__law_taken.nd (d_op od_mod (dl_int B (d_ix ixd_seq (d_var (i := 0)) d_int)) (d_var (i := 1))))
    (dss_cons (ds_put setd_list (d_op od_fdiv (d_ix ixd_seq (d_var (i := 0)) d_int) (d_var (i := 1))) (d_var (i := 0)) d_int)
    (dss_one (ds_ret (d_var (i := 2)))))) dss_nil)
    (dss_cons (ds_put setd_list (d_op od_add (d_ix ixd_seq (d_var (i := 0)) d_int) d_int) (d_var (i := 0)) d_int)
    (dss_cons (ds_if (dt_cmp od_gt (d_ix ixd_seq (d_var (i := 0)) d_int) (dl_len B (d_ix ixd_seq (d_var (i := 0)) d_int)) (nomark _)) (dss_cons (ds_put setd_list (d_op od_mod (dl_int B (d_op od_add (d_op od_mul (d_ix ixd_seq (d_var (i := 0)) d_int) d_int) d_int)) d_int) (d_var (i := 0)) d_int)
    (dss_one (ds_ret (d_op od_mod (dl_int B (d_op od_fdiv (d_ix ixd_seq (d_var (i := 0)) d_int) d_int)) (d_var (i := 1)))))) dss_nil)
    (dss_cons (ds_set (i := 3) sc__law_taken.nd (d_ix ixd_seq (d_ix ixd_seq (d_var (i := 0)) d_int) (d_op od_sub (d_ix ixd_seq (d_var (i := 0)) d_int) d_int)))
    (dss_cons (ds_put setd_list (d_op od_mod (dl_int B (d_op od_add (d_op od_add (d_op od_mul (d_ix ixd_seq (d_var (i := 0)) d_int) d_int) (dl_int B (d_var (i := 3)))) d_int)) d_int) (d_var (i := 0)) d_int)
    (dss_cons (ds_if (dt_cmp od_ge (d_var (i := 3)) (d_op od_pow d_int d_int) (nomark _)) (dss_one (ds_put setd_list (d_op od_fdiv (dl_int B (d_op od_mod (dl_int B (d_var (i := 3))) (d_op od_pow d_int d_int))) (d_var (i := 1))) (d_var (i := 0)) d_int)) dss_nil)
    (dss_one (ds_ret (d_op od_mod (dl_int B (d_var (i := 3))) (d_var (i := 1)))))))))))
/-! _law_pick: 0 row, 1 some -/
abbrev N__law_pick : List Str := ["row", "some"]
theorem sc__law_pick : FnScope N__law_pick ["row", "some"] (defScope s__law_pick) := ⟨rfl, rfl, rfl, by decide +kernel, rfl, by decide +kernel, by decide +kernel⟩
def t__law_pick (C : Addr) (Ex : DXK) : DS :=
  (dRet (dOp ixD (dVar 1) (dCall sp__law_taken noX (dCons (dVar 0) (dCons (dF1 lenF (dVar 1)) dNil)))))
theorem b__law_pick {P : Program} {w : World} {K : PySem.W.Frag} {mg : Str → Option Value} {base : Heap} {fA C : Addr}  (B : Blt mg)
    (F__law_taken : FnD P w K mg base "_law_taken" 1 ["row", "many"] sp__law_taken)
    (cdv : Value) (A : Around) (outer : List Env) (s : Shared) (H : Hp) (E : XK) (c : DC) (Ex : DXK) (hr : Room 1 (A.deeper (envOfC "_law_pick" (defScope s__law_pick) s.heap.objs.size fA cdv))) (ok : XOk (cxOf (L2.CX P w) P w K mg base N__law_pick "_law_pick" (defScope s__law_pick) fA cdv A outer s H E) c Ex) :
    PSs (cxOf (L2.CX P w) P w K mg base N__law_pick "_law_pick" (defScope s__law_pick) fA cdv A outer s H E) (defBody s__law_pick) (lS K c (t__law_pick C Ex)) :=
  (dss_one (ds_ret (d_ix ixd_seq (d_var (i := 1)) (d_call F__law_taken (hr.mono (by decide)) xok0 (da_cons (d_var (i := 0)) (da_cons (dl_len B (d_var (i := 1))) da_nil))))))
/-! _law_alike: 0 found, 1 due, 2 at -/
abbrev N__law_alike : List Str := ["found", "due", "at"]
theorem sc__law_alike : FnScope N__law_alike ["found", "due"] (defScope s__law_alike) := ⟨rfl, rfl, rfl, by decide +kernel, rfl, by decide +kernel, by decide +kernel⟩
def t__law_alike (C : Addr) (sp : DSp) (Ex : DXK) : DS :=
  (dSeq (dIfS (dTru (dF1 (isa1 "tuple") (dVar 1))) (dSeq (dIfS (dOr (dNot (dTru (dF1 (isa1 "tuple") (dVar 0)))) (dTst (dOp neD (dF1 lenF (dVar 0)) (dF1 lenF (dVar 1))))) (dRet (dC (.bl false))) dNext) (dRet (dOp eqD (dLc (dRange1 (dCons (dF1 lenF (dVar 1)) dNil)) [2] (.name 2) (dNot (dTru (dCall sp noX (dCons (dOp ixD (dVar 0) (dVar 2)) (dCons (dOp ixD (dVar 1) (dVar 2)) dNil))))) (dVar 2)) (dLst dNil)))) dNext) (dSeq (dIfS (dOr (dTst (dOp isND (dVar 1) (dC .non))) (dTru (dF1 (isa1 "str") (dVar 1)))) (dRet (dAndV (dOp eqD (dVar 0) (dVar 1)) (dOp eqD (dF1 (isa1 "str") (dVar 0)) (dF1 (isa1 "str") (dVar 1))))) dNext) (dRet (dAndV (dF1 (isa1 "int") (dVar 0)) (dAndV (dOp eqD (dF1 (isa1 "bool") (dVar 0)) (dF1 (isa1 "bool") (dVar 1))) (dOp eqD (dVar 0) (dVar 1)))))))
theorem b__law_alike {P : Program} {w : World} {K : PySem.W.Frag} {mg : Str → Option Value} {base : Heap} {fA C : Addr} {sp : DSp} {j : Nat} (B : Blt mg)
    (F__law_alike : FnD P w K mg base "_law_alike" j ["found", "due"] sp)
    (cdv : Value) (A : Around) (outer : List Env) (s : Shared) (H : Hp) (E : XK) (c : DC) (Ex : DXK) (hr : Room j (A.deeper (envOfC "_law_alike" (defScope s__law_alike) s.heap.objs.size fA cdv))) (ok : XOk (cxOf (L2.CX P w) P w K mg base N__law_alike "_law_alike" (defScope s__law_alike) fA cdv A outer s H E) c Ex) :
    PSs (cxOf (L2.CX P w) P w K mg base N__law_alike "_law_alike" (defScope s__law_alike) fA cdv A outer s H E) (defBody s__law_alike) (lS K c (t__law_alike C sp Ex)) :=
  (dss_cons (ds_if (dt_tru (d_tup2 B (d_var (i := 1)))) (dss_cons (ds_if (PW.pt (dw_or (dt_not (dt_tru (d_tup2 B (d_var (i := 0))))) (dw_or1 (dt_cmp (od_ne hr.units) (dl_len B (d_var (i := 0))) (dl_len B (d_var (i := 1))) (nomark _))))) (dss_one (ds_ret d_bl)) dss_nil)
    (dss_one (ds_ret (d_cmp (od_eq hr.units) (d_lc (own := [("at", 2)]) rfl sc__law_alike.nd (di_range1 rfl B.range (da_cons (dl_len B (d_var (i := 1))) da_nil)) (blkOk_by (by first | rfl | decide +kernel)) (fun _ _ _ _ _ _ => (g_name (i := 2) sc__law_alike.nd)) (fun _ _ _ _ _ _ => (dts_one (dt_not (dt_tru (d_call F__law_alike hr xok0 (da_cons (d_ix ixd_seq (d_var (i := 0)) (d_var (i := 2))) (da_cons (d_ix ixd_seq (d_var (i := 1)) (d_var (i := 2))) da_nil))))))) (fun _ _ _ _ _ _ => (d_var (i := 2)))) (d_lst da_nil) (nomark _))))) dss_nil)
    (dss_cons (ds_if (PW.pt (dw_or (dt_cmp od_isN (d_var (i := 1)) d_non (nomark _)) (dw_or1 (dt_tru (d_str2 B (d_var (i := 1))))))) (dss_one (ds_ret (d_and (d_cmp (od_eq hr.units) (d_var (i := 0)) (d_var (i := 1)) (nomark _)) (d_one (d_cmp (od_eq hr.units) (d_str2 B (d_var (i := 0))) (d_str2 B (d_var (i := 1))) (nomark _)))))) dss_nil)
    (dss_one (ds_ret (d_and (d_int2 B (d_var (i := 0))) (d_and (d_cmp (od_eq hr.units) (d_bool2 B (d_var (i := 0))) (d_bool2 B (d_var (i := 1))) (nomark _)) (d_one (d_cmp (od_eq hr.units) (d_var (i := 0)) (d_var (i := 1)) (nomark _)))))))))
/-! _law_prog: 0 row, 1 deep, 2 idle, 3 found, 4 turn, 5 way -/
abbrev N__law_prog : List Str := ["row", "deep", "idle", "found", "turn", "way"]
theorem sc__law_prog : FnScope N__law_prog ["row", "deep", "idle"] (defScope s__law_prog) := ⟨rfl, rfl, rfl, by decide +kernel, rfl, by decide +kernel, by decide +kernel⟩
def t__law_prog_1 (C : Addr) (sp : DSp) (Ex : DXK) : DS :=
  (dRet (dIf (dTru (dVar 2)) (dF1 tupF (dVar 3)) (dF1 tupF (dOp addD (dVar 3) (dLst (dCons (dTup (dCons (dCall sp__law_pick noX (dCons (dVar 0) (dCons (dC (.str "sw")) dNil))) dNil)) dNil))))))
def t__law_prog_2 (C : Addr) (sp : DSp) (Ex : DXK) : DS :=
  (dIfS (dTst (dOp eqD (dVar 5) (dC (.str "?")))) (dDrop (dM1 appF (dVar 3) (dTup (dCons (dC (.str "?")) (dCons (dCall sp__law_pick noX (dCons (dVar 0) (dCons (dC (.str ".1#!")) dNil))) (dCons (dCall sp noX (dCons (dVar 0) (dCons (dOp subD (dVar 1) (dC (.int 1))) (dCons (dC (.bl true)) dNil)))) (dCons (dCall sp noX (dCons (dVar 0) (dCons (dOp subD (dVar 1) (dC (.int 1))) (dCons (dC (.bl true)) dNil)))) dNil))))))) (dIfS (dTst (dOp eqD (dVar 5) (dC (.str "*")))) (dDrop (dM1 appF (dVar 3) (dTup (dCons (dC (.str "*")) (dCons (dCall sp__law_pick noX (dCons (dVar 0) (dCons (dC (.str "2345")) dNil))) (dCons (dCall sp noX (dCons (dVar 0) (dCons (dOp subD (dVar 1) (dC (.int 1))) (dCons (dC (.bl true)) dNil)))) dNil)))))) (dIfS (dTst (dOp eqD (dVar 5) (dC (.str "@")))) (dDrop (dM1 appF (dVar 3) (dTup (dCons (dC (.str "@")) (dCons (dCall sp noX (dCons (dVar 0) (dCons (dOp subD (dVar 1) (dC (.int 1))) (dCons (dC (.bl false)) dNil)))) dNil))))) (dDrop (dM1 appF (dVar 3) (dTup (dCons (dVar 5) dNil)))))))
def t__law_prog_3 (C : Addr) (sp : DSp) (Ex : DXK) : DS :=
  (dAsg (dIf (dTst (dOp gtD (dVar 1) (dC (.int 0)))) (dCall sp__law_pick noX (dCons (dVar 0) (dCons (dC (.str "swswswx?*@")) dNil))) (dCall sp__law_pick noX (dCons (dVar 0) (dCons (dC (.str "swswsx")) dNil)))) (.name 5))
def t__law_prog_4 (C : Addr) (sp : DSp) (Ex : DXK) : DS :=
  (dSeq (t__law_prog_3 C sp Ex) (t__law_prog_2 C sp Ex))
def t__law_prog_5 (C : Addr) (sp : DSp) (Ex : DXK) : DS :=
  (dFor (dRange1 (dCons (dCall sp__law_pick noX (dCons (dVar 0) (dCons (dLst (dCons (dC (.int 0)) (dCons (dC (.int 1)) (dCons (dC (.int 1)) (dCons (dC (.int 2)) (dCons (dC (.int 2)) (dCons (dC (.int 3)) dNil))))))) dNil))) dNil)) (.name 4) (t__law_prog_4 C sp Ex))
def t__law_prog_6 (C : Addr) (sp : DSp) (Ex : DXK) : DS :=
  (dAsg (dLstM dNil) (.name 3))
def t__law_prog (C : Addr) (sp : DSp) (Ex : DXK) : DS :=
  (dSeq (t__law_prog_6 C sp Ex) (dSeq (t__law_prog_5 C sp Ex) (t__law_prog_1 C sp Ex)))
theorem b__law_prog {P : Program} {w : World} {K : PySem.W.Frag} {mg : Str → Option Value} {base : Heap} {fA C : Addr} {sp : DSp} {j : Nat} (B : Blt mg)
    (F__law_pick : FnD P w K mg base "_law_pick" j ["row", "some"] sp__law_pick)
    (F__law_prog : FnD P w K mg base "_law_prog" j ["row", "deep", "idle"] sp)
    (cdv : Value) (A : Around) (outer : List Env) (s : Shared) (H : Hp) (E : XK) (c : DC) (Ex : DXK) (hr : Room j (A.deeper (envOfC "_law_prog" (defScope s__law_prog) s.heap.objs.size fA cdv))) (ok : XOk (cxOf (L2.CX P w) P w K mg base N__law_prog "_law_prog" (defScope s__law_prog) fA cdv A outer s H E) c Ex) :
    PSs (cxOf (L2.CX P w) P w K mg base N__law_prog "_law_prog" (defScope s__law_prog) fA cdv A outer s H E) (defBody s__law_prog) (lS K c (t__law_prog C sp Ex)) :=
  (dss_cons (ds_set (i := 3) sc__law_prog.nd (d_lstM da_nil))
    (dss_cons (ds_for (passes_of rfl) rfl (di_range1 rfl B.range (da_cons (d_call F__law_pick hr xok0 (da_cons (d_var (i := 0)) (da_cons (d_lst (da_cons d_int (da_cons d_int (da_cons d_int (da_cons d_int (da_cons d_int (da_cons d_int da_nil))))))) da_nil))) da_nil)) (g_name (i := 4) sc__law_prog.nd) (dss_cons (ds_set (i := 5) sc__law_prog.nd (d_ifExp (dt_cmp od_gt (d_var (i := 1)) d_int (nomark _)) (d_call F__law_pick hr xok0 (da_cons (d_var (i := 0)) (da_cons d_str da_nil))) (d_call F__law_pick hr xok0 (da_cons (d_var (i := 0)) (da_cons d_str da_nil)))))
    (dss_one (ds_if (dt_cmp (od_eq hr.units) (d_var (i := 5)) d_str (nomark _)) (dss_one (ds_expr (d_append (d_var (i := 3)) (d_tup (da_cons d_str (da_cons (d_call F__law_pick hr xok0 (da_cons (d_var (i := 0)) (da_cons d_str da_nil))) (da_cons (d_call F__law_prog hr xok0 (da_cons (d_var (i := 0)) (da_cons (d_op od_sub (d_var (i := 1)) d_int) (da_cons d_bl da_nil)))) (da_cons (d_call F__law_prog hr xok0 (da_cons (d_var (i := 0)) (da_cons (d_op od_sub (d_var (i := 1)) d_int) (da_cons d_bl da_nil)))) da_nil)))))))) (dss_one (ds_if (dt_cmp (od_eq hr.units) (d_var (i := 5)) d_str (nomark _)) (dss_one (ds_expr (d_append (d_var (i := 3)) (d_tup (da_cons d_str (da_cons (d_call F__law_pick hr xok0 (da_cons (d_var (i := 0)) (da_cons d_str da_nil))) (da_cons (d_call F__law_prog hr xok0 (da_cons (d_var (i := 0)) (da_cons (d_op od_sub (d_var (i := 1)) d_int) (da_cons d_bl da_nil)))) da_nil))))))) (dss_one (ds_if (dt_cmp (od_eq hr.units) (d_var (i := 5)) d_str (nomark _)) (dss_one (ds_expr (d_append (d_var (i := 3)) (d_tup (da_cons d_str (da_cons (d_call F__law_prog hr xok0 (da_cons (d_var (i := 0)) (da_cons (d_op od_sub (d_var (i := 1)) d_int) (da_cons d_bl da_nil)))) da_nil)))))) (dss_one (ds_expr (d_append (d_var (i := 3)) (d_tup (da_cons (d_var (i := 5)) da_nil)))))))))))))
    (dss_one (ds_ret (d_ifExp (dt_tru (d_var (i := 2))) (dl_tuple B (d_var (i := 3))) (dl_tuple B (d_op od_add (d_var (i := 3)) (d_lst (da_cons (d_tup (da_cons (d_call F__law_pick hr xok0 (da_cons (d_var (i := 0)) (da_cons d_str da_nil))) da_nil)) da_nil)))))))))
/-! _law_write: 0 block, 1 found, 2 own -/
abbrev N__law_write : List Str := ["block", "found", "own"]
theorem sc__law_write : FnScope N__law_write ["block"] (defScope s__law_write) := ⟨rfl, rfl, rfl, by decide +kernel, rfl, by decide +kernel, by decide +kernel⟩
def t__law_write_1 (C : Addr) (sp : DSp) (Ex : DXK) : DS :=
  (dIfS (dTst (dOp eqD (dOp ixD (dVar 2) (dC (.int 0))) (dC (.str "?")))) (dAsg (dOp addD (dOp addD (dOp addD (dOp addD (dOp addD (dOp addD (dOp addD (dVar 1) (dC (.str "?"))) (dOp ixD (dVar 2) (dC (.int 1)))) (dC (.str "("))) (dCall sp noX (dCons (dOp ixD (dVar 2) (dC (.int 2))) dNil))) (dC (.str "|"))) (dCall sp noX (dCons (dOp ixD (dVar 2) (dC (.int 3))) dNil))) (dC (.str ")"))) (.name 1)) (dIfS (dTst (dOp eqD (dOp ixD (dVar 2) (dC (.int 0))) (dC (.str "*")))) (dAsg (dOp addD (dOp addD (dOp addD (dOp addD (dOp addD (dVar 1) (dC (.str "*"))) (dOp ixD (dVar 2) (dC (.int 1)))) (dC (.str "("))) (dCall sp noX (dCons (dOp ixD (dVar 2) (dC (.int 2))) dNil))) (dC (.str ")"))) (.name 1)) (dAsg (dOp addD (dVar 1) (dIf (dTst (dOp eqD (dF1 lenF (dVar 2)) (dC (.int 1)))) (dOp ixD (dVar 2) (dC (.int 0))) (dOp addD (dOp addD (dC (.str "@(")) (dCall sp noX (dCons (dOp ixD (dVar 2) (dC (.int 1))) dNil))) (dC (.str ")"))))) (.name 1))))
def t__law_write (C : Addr) (sp : DSp) (Ex : DXK) : DS :=
  (dSeq (dAsg (dC (.str "")) (.name 1)) (dSeq (dFor (dItr (dVar 0)) (.name 2) (t__law_write_1 C sp Ex)) (dRet (dVar 1))))
theorem b__law_write {P : Program} {w : World} {K : PySem.W.Frag} {mg : Str → Option Value} {base : Heap} {fA C : Addr} {sp : DSp} {j : Nat} (B : Blt mg)
    (F__law_write : FnD P w K mg base "_law_write" j ["block"] sp)
    (cdv : Value) (A : Around) (outer : List Env) (s : Shared) (H : Hp) (E : XK) (c : DC) (Ex : DXK) (hr : Room j (A.deeper (envOfC "_law_write" (defScope s__law_write) s.heap.objs.size fA cdv))) (ok : XOk (cxOf (L2.CX P w) P w K mg base N__law_write "_law_write" (defScope s__law_write) fA cdv A outer s H E) c Ex) :
    PSs (cxOf (L2.CX P w) P w K mg base N__law_write "_law_write" (defScope s__law_write) fA cdv A outer s H E) (defBody s__law_write) (lS K c (t__law_write C sp Ex)) :=
  (dss_cons (ds_set (i := 1) sc__law_write.nd d_str)
    (dss_cons (ds_for (passes_of rfl) rfl (di_any (d_var (i := 0))) (g_name (i := 2) sc__law_write.nd) (dss_one (ds_if (dt_cmp (od_eq hr.units) (d_ix ixd_seq (d_var (i := 2)) d_int) d_str (nomark _)) (dss_one (ds_set (i := 1) sc__law_write.nd (d_op od_add (d_op od_add (d_op od_add (d_op od_add (d_op od_add (d_op od_add (d_op od_add (d_var (i := 1)) d_str) (d_ix ixd_seq (d_var (i := 2)) d_int)) d_str) (d_call F__law_write hr xok0 (da_cons (d_ix ixd_seq (d_var (i := 2)) d_int) da_nil))) d_str) (d_call F__law_write hr xok0 (da_cons (d_ix ixd_seq (d_var (i := 2)) d_int) da_nil))) d_str))) (dss_one (ds_if (dt_cmp (od_eq hr.units) (d_ix ixd_seq (d_var (i := 2)) d_int) d_str (nomark _)) (dss_one (ds_set (i := 1) sc__law_write.nd (d_op od_add (d_op od_add (d_op od_add (d_op od_add (d_op od_add (d_var (i := 1)) d_str) (d_ix ixd_seq (d_var (i := 2)) d_int)) d_str) (d_call F__law_write hr xok0 (da_cons (d_ix ixd_seq (d_var (i := 2)) d_int) da_nil))) d_str))) (dss_one (ds_set (i := 1) sc__law_write.nd (d_op od_add (d_var (i := 1)) (d_ifExp (dt_cmp (od_eq hr.units) (dl_len B (d_var (i := 2))) d_int (nomark _)) (d_ix ixd_seq (d_var (i := 2)) d_int) (d_op od_add (d_op od_add d_str (d_call F__law_write hr xok0 (da_cons (d_ix ixd_seq (d_var (i := 2)) d_int) da_nil))) d_str))))))))))
    (dss_one (ds_ret (d_var (i := 1))))))
/-! _law_weigh: 0 block, 1 found, 2 own -/
abbrev N__law_weigh : List Str := ["block", "found", "own"]
theorem sc__law_weigh : FnScope N__law_weigh ["block"] (defScope s__law_weigh) := ⟨rfl, rfl, rfl, by decide +kernel, rfl, by decide +kernel, by decide +kernel⟩
def t__law_weigh_1 (C : Addr) (sp : DSp) (Ex : DXK) : DS :=
  (dIfS (dTst (dOp eqD (dOp ixD (dVar 2) (dC (.int 0))) (dC (.str "?")))) (dAsg (dOp addD (dOp addD (dVar 1) (dCall sp noX (dCons (dOp ixD (dVar 2) (dC (.int 2))) dNil))) (dCall sp noX (dCons (dOp ixD (dVar 2) (dC (.int 3))) dNil))) (.name 1)) (dIfS (dTst (dOp eqD (dOp ixD (dVar 2) (dC (.int 0))) (dC (.str "*")))) (dAsg (dOp addD (dVar 1) (dOp mulD (dF1 intSF (dOp ixD (dVar 2) (dC (.int 1)))) (dCall sp noX (dCons (dOp ixD (dVar 2) (dC (.int 2))) dNil)))) (.name 1)) (dAsg (dOp addD (dVar 1) (dIf (dTst (dOp eqD (dF1 lenF (dVar 2)) (dC (.int 1)))) (dC (.int 1)) (dCall sp noX (dCons (dOp ixD (dVar 2) (dC (.int 1))) dNil)))) (.name 1))))
def t__law_weigh (C : Addr) (sp : DSp) (Ex : DXK) : DS :=
  (dSeq (dAsg (dC (.int 0)) (.name 1)) (dSeq (dFor (dItr (dVar 0)) (.name 2) (t__law_weigh_1 C sp Ex)) (dRet (dVar 1))))
theorem b__law_weigh {P : Program} {w : World} {K : PySem.W.Frag} {mg : Str → Option Value} {base : Heap} {fA C : Addr} {sp : DSp} {j : Nat} (B : Blt mg)
    (F__law_weigh : FnD P w K mg base "_law_weigh" j ["block"] sp)
    (cdv : Value) (A : Around) (outer : List Env) (s : Shared) (H : Hp) (E : XK) (c : DC) (Ex : DXK) (hr : Room j (A.deeper (envOfC "_law_weigh" (defScope s__law_weigh) s.heap.objs.size fA cdv))) (ok : XOk (cxOf (L2.CX P w) P w K mg base N__law_weigh "_law_weigh" (defScope s__law_weigh) fA cdv A outer s H E) c Ex) :
    PSs (cxOf (L2.CX P w) P w K mg base N__law_weigh "_law_weigh" (defScope s__law_weigh) fA cdv A outer s H E) (defBody s__law_weigh) (lS K c (t__law_weigh C sp Ex)) :=
  (dss_cons (ds_set (i := 1) sc__law_weigh.nd d_int)
    (dss_cons (ds_for (passes_of rfl) rfl (di_any (d_var (i := 0))) (g_name (i := 2) sc__law_weigh.nd) (dss_one (ds_if (dt_cmp (od_eq hr.units) (d_ix ixd_seq (d_var (i := 2)) d_int) d_str (nomark _)) (dss_one (ds_set (i := 1) sc__law_weigh.nd (d_op od_add (d_op od_add (d_var (i := 1)) (d_call F__law_weigh hr xok0 (da_cons (d_ix ixd_seq (d_var (i := 2)) d_int) da_nil))) (d_call F__law_weigh hr xok0 (da_cons (d_ix ixd_seq (d_var (i := 2)) d_int) da_nil))))) (dss_one (ds_if (dt_cmp (od_eq hr.units) (d_ix ixd_seq (d_var (i := 2)) d_int) d_str (nomark _)) (dss_one (ds_set (i := 1) sc__law_weigh.nd (d_op od_add (d_var (i := 1)) (d_op od_mul (dl_intS B (d_ix ixd_seq (d_var (i := 2)) d_int)) (d_call F__law_weigh hr xok0 (da_cons (d_ix ixd_seq (d_var (i := 2)) d_int) da_nil)))))) (dss_one (ds_set (i := 1) sc__law_weigh.nd (d_op od_add (d_var (i := 1)) (d_ifExp (dt_cmp (od_eq hr.units) (dl_len B (d_var (i := 2))) d_int (nomark _)) d_int (d_call F__law_weigh hr xok0 (da_cons (d_ix ixd_seq (d_var (i := 2)) d_int) da_nil)))))))))))
    (dss_one (ds_ret (d_var (i := 1))))))
/-! _law_see: 0 text, 1 state -/
abbrev N__law_see : List Str := ["text", "state"]
theorem sc__law_see : FnScope N__law_see ["text", "state"] (defScope s__law_see) := ⟨rfl, rfl, rfl, by decide +kernel, rfl, by decide +kernel, by decide +kernel⟩
def t__law_see_1 (C : Addr) (Ex : DXK) : DS :=
  (dPut setD (dOp addD (dOp ixD (dVar 1) (dC (.int 0))) (dC (.int 1))) (dVar 1) (dC (.int 0)))
def t__law_see (C : Addr) (Ex : DXK) : DS :=
  (dSeq (dWhile (dAnd (dTst (dOp ltD (dOp ixD (dVar 1) (dC (.int 0))) (dF1 lenF (dVar 0)))) (dTst (dOp eqD (dOp ixD (dVar 0) (dOp ixD (dVar 1) (dC (.int 0)))) (dC (.str " "))))) (t__law_see_1 C Ex)) (dRet (dIf (dTst (dOp ltD (dOp ixD (dVar 1) (dC (.int 0))) (dF1 lenF (dVar 0)))) (dOp ixD (dVar 0) (dOp ixD (dVar 1) (dC (.int 0)))) (dC (.str "")))))
theorem b__law_see {P : Program} {w : World} {K : PySem.W.Frag} {mg : Str → Option Value} {base : Heap} {fA C : Addr}  (B : Blt mg)
    (cdv : Value) (A : Around) (outer : List Env) (s : Shared) (H : Hp) (E : XK) (c : DC) (Ex : DXK) (hr : Room 0 (A.deeper (envOfC "_law_see" (defScope s__law_see) s.heap.objs.size fA cdv))) (ok : XOk (cxOf (L2.CX P w) P w K mg base N__law_see "_law_see" (defScope s__law_see) fA cdv A outer s H E) c Ex) :
    PSs (cxOf (L2.CX P w) P w K mg base N__law_see "_law_see" (defScope s__law_see) fA cdv A outer s H E) (defBody s__law_see) (lS K c (t__law_see C Ex)) :=
  (dss_cons (ds_while (passes_of rfl) (PW.pt (dw_and (dt_cmp od_lt (d_ix ixd_seq (d_var (i := 1)) d_int) (dl_len B (d_var (i := 0))) (nomark _)) (dw_and1 (dt_cmp (od_eq hr.units) (d_ix ixd_seq (d_var (i := 0)) (d_ix ixd_seq (d_var (i := 1)) d_int)) d_str (nomark _))))) (dss_one (ds_put setd_list (d_op od_add (d_ix ixd_seq (d_var (i := 1)) d_int) d_int) (d_var (i := 1)) d_int)))
    (dss_one (ds_ret (d_ifExp (dt_cmp od_lt (d_ix ixd_seq (d_var (i := 1)) d_int) (dl_len B (d_var (i := 0))) (nomark _)) (d_ix ixd_seq (d_var (i := 0)) (d_ix ixd_seq (d_var (i := 1)) d_int)) d_str))))
/-! _law_take: 0 text, 1 state, 2 some, 3 own -/
abbrev N__law_take : List Str := ["text", "state", "some", "own"]
theorem sc__law_take : FnScope N__law_take ["text", "state", "some"] (defScope s__law_take) := ⟨rfl, rfl, rfl, by decide +kernel, rfl, by decide +kernel, by decide +kernel⟩
def t__law_take (C : Addr) (Ex : DXK) : DS :=
  (dSeq (dAsg (dCall sp__law_see noX (dCons (dVar 0) (dCons (dVar 1) dNil))) (.name 3)) (dSeq (dIfS (dAnd (dTst (dOp isND (dOp ixD (dVar 1) (dC (.int 1))) (dC .non))) (dOr (dTst (dOp eqD (dVar 3) (dC (.str "")))) (dTst (dOp ninD (dVar 3) (dVar 2))))) (dPut setD (dOp ixD (dVar 1) (dC (.int 0))) (dVar 1) (dC (.int 1))) dNext) (dSeq (dIfS (dTst (dOp isND (dOp ixD (dVar 1) (dC (.int 1))) (dC .non))) (dPut setD (dOp addD (dOp ixD (dVar 1) (dC (.int 0))) (dC (.int 1))) (dVar 1) (dC (.int 0))) dNext) (dRet (dVar 3)))))
theorem b__law_take {P : Program} {w : World} {K : PySem.W.Frag} {mg : Str → Option Value} {base : Heap} {fA C : Addr}  (B : Blt mg)
    (F__law_see : FnD P w K mg base "_law_see" 1 ["text", "state"] sp__law_see)
    (cdv : Value) (A : Around) (outer : List Env) (s : Shared) (H : Hp) (E : XK) (c : DC) (Ex : DXK) (hr : Room 1 (A.deeper (envOfC "_law_take" (defScope s__law_take) s.heap.objs.size fA cdv))) (ok : XOk (cxOf (L2.CX P w) P w K mg base N__law_take "_law_take" (defScope s__law_take) fA cdv A outer s H E) c Ex) :
    PSs (cxOf (L2.CX P w) P w K mg base N__law_take "_law_take" (defScope s__law_take) fA cdv A outer s H E) (defBody s__law_take) (lS K c (t__law_take C Ex)) :=
  (dss_cons (ds_set (i := 3) sc__law_take.nd (d_call F__law_see (hr.mono (by decide)) xok0 (da_cons (d_var (i := 0)) (da_cons (d_var (i := 1)) da_nil))))
    (dss_cons (ds_if (PW.pt (dw_and (dt_cmp od_isN (d_ix ixd_seq (d_var (i := 1)) d_int) d_non (nomark _)) (dw_and1 (PW.pt (dw_or (dt_cmp (od_eq hr.units) (d_var (i := 3)) d_str (nomark _)) (dw_or1 (dt_cmp (od_nin (hu65 hr)) (d_var (i := 3)) (d_var (i := 2)) (by rfl)))))))) (dss_one (ds_put setd_list (d_ix ixd_seq (d_var (i := 1)) d_int) (d_var (i := 1)) d_int)) dss_nil)
    (dss_cons (ds_if (dt_cmp od_isN (d_ix ixd_seq (d_var (i := 1)) d_int) d_non (nomark _)) (dss_one (ds_put setd_list (d_op od_add (d_ix ixd_seq (d_var (i := 1)) d_int) d_int) (d_var (i := 1)) d_int)) dss_nil)
    (dss_one (ds_ret (d_var (i := 3)))))))
/-! _law_read: 0 text, 1 state, 2 deep, 3 ends, 4 idle, 5 turn, 6 own, 7 place, 8 brackets, 9 one, 10 two -/
abbrev N__law_read : List Str := ["text", "state", "deep", "ends", "idle", "turn", "own", "place", "brackets", "one", "two"]
theorem sc__law_read : FnScope N__law_read ["text", "state", "deep", "ends"] (defScope s__law_read) := ⟨rfl, rfl, rfl, by decide +kernel, rfl, by decide +kernel, by decide +kernel⟩
def t__law_read_1 (C : Addr) (sp : DSp) (Ex : DXK) : DS :=
  (dAsg (dAndV (dVar 4) (dOrV (dVar 9) (dVar 10))) (.name 4))
def t__law_read_2 (C : Addr) (sp : DSp) (Ex : DXK) : DS :=
  (dDrop (dCall sp__law_take noX (dCons (dVar 0) (dCons (dVar 1) (dCons (dC (.str ")")) dNil)))))
def t__law_read_3 (C : Addr) (sp : DSp) (Ex : DXK) : DS :=
  (dAsg (dCall sp noX (dCons (dVar 0) (dCons (dVar 1) (dCons (dOp addD (dVar 2) (dC (.int 1))) (dCons (dC (.str ")")) dNil))))) (.name 10))
def t__law_read_4 (C : Addr) (sp : DSp) (Ex : DXK) : DS :=
  (dDrop (dCall sp__law_take noX (dCons (dVar 0) (dCons (dVar 1) (dCons (dC (.str "|")) dNil)))))
def t__law_read_5 (C : Addr) (sp : DSp) (Ex : DXK) : DS :=
  (dAsg (dCall sp noX (dCons (dVar 0) (dCons (dVar 1) (dCons (dOp addD (dVar 2) (dC (.int 1))) (dCons (dC (.str "|)")) dNil))))) (.name 9))
def t__law_read_6 (C : Addr) (sp : DSp) (Ex : DXK) : DS :=
  (dDrop (dCall sp__law_take noX (dCons (dVar 0) (dCons (dVar 1) (dCons (dVar 8) dNil)))))
def t__law_read_7 (C : Addr) (sp : DSp) (Ex : DXK) : DS :=
  (dDrop (dCall sp__law_take noX (dCons (dVar 0) (dCons (dVar 1) (dCons (dC (.str ".1#!")) dNil)))))
def t__law_read_8 (C : Addr) (sp : DSp) (Ex : DXK) : DS :=
  (dAsg (dAndV (dVar 4) (dAndV (dVar 9) (dOp eqD (dVar 6) (dC (.str "*"))))) (.name 4))
def t__law_read_9 (C : Addr) (sp : DSp) (Ex : DXK) : DS :=
  (dIfS (dAnd (dTst (dOp eqD (dVar 6) (dC (.str "@")))) (dTru (dVar 9))) (dDrop (dM1 appF (dOp ixD (dVar 1) (dC (.int 2))) (dVar 7))) dNext)
def t__law_read_10 (C : Addr) (sp : DSp) (Ex : DXK) : DS :=
  (dDrop (dCall sp__law_take noX (dCons (dVar 0) (dCons (dVar 1) (dCons (dC (.str ")")) dNil)))))
def t__law_read_11 (C : Addr) (sp : DSp) (Ex : DXK) : DS :=
  (dAsg (dCall sp noX (dCons (dVar 0) (dCons (dVar 1) (dCons (dOp addD (dVar 2) (dC (.int 1))) (dCons (dC (.str ")")) dNil))))) (.name 9))
def t__law_read_12 (C : Addr) (sp : DSp) (Ex : DXK) : DS :=
  (dDrop (dCall sp__law_take noX (dCons (dVar 0) (dCons (dVar 1) (dCons (dVar 8) dNil)))))
def t__law_read_13 (C : Addr) (sp : DSp) (Ex : DXK) : DS :=
  (dIfS (dTst (dOp eqD (dVar 6) (dC (.str "*")))) (dDrop (dCall sp__law_take noX (dCons (dVar 0) (dCons (dVar 1) (dCons (dC (.str "23456789")) dNil))))) dNext)
def t__law_read_14 (C : Addr) (sp : DSp) (Ex : DXK) : DS :=
  (dIfS (dTst (dOp eqD (dVar 6) (dC (.str "?")))) (dSeq (t__law_read_7 C sp Ex) (dSeq (t__law_read_6 C sp Ex) (dSeq (t__law_read_5 C sp Ex) (dSeq (t__law_read_4 C sp Ex) (dSeq (t__law_read_3 C sp Ex) (dSeq (t__law_read_2 C sp Ex) (t__law_read_1 C sp Ex))))))) (dIfS (dOr (dTst (dOp eqD (dVar 6) (dC (.str "*")))) (dTst (dOp eqD (dVar 6) (dC (.str "@"))))) (dSeq (t__law_read_13 C sp Ex) (dSeq (t__law_read_12 C sp Ex) (dSeq (t__law_read_11 C sp Ex) (dSeq (t__law_read_10 C sp Ex) (dSeq (t__law_read_9 C sp Ex) (t__law_read_8 C sp Ex)))))) (dAsg (dC (.bl false)) (.name 4))))
def t__law_read_15 (C : Addr) (sp : DSp) (Ex : DXK) : DS :=
  (dDrop (dCall sp__law_take noX (dCons (dVar 0) (dCons (dVar 1) (dCons (dC (.str "swx?*@")) dNil)))))
def t__law_read_16 (C : Addr) (sp : DSp) (Ex : DXK) : DS :=
  (dPar2 7 8 (dCons (dOp ixD (dVar 1) (dC (.int 0))) (dCons (dIf (dTst (dOp ltD (dVar 2) (dC (.int 8)))) (dC (.str "(")) (dC (.str ""))) dNil)))
def t__law_read_17 (C : Addr) (sp : DSp) (Ex : DXK) : DS :=
  (dIfS (dOr (dTst (dOp notND (dOp ixD (dVar 1) (dC (.int 1))) (dC .non))) (dOr (dTst (dOp eqD (dVar 6) (dC (.str "")))) (dTst (dOp inD (dVar 6) (dVar 3))))) (dRet (dVar 4)) dNext)
def t__law_read_18 (C : Addr) (sp : DSp) (Ex : DXK) : DS :=
  (dAsg (dCall sp__law_see noX (dCons (dVar 0) (dCons (dVar 1) dNil))) (.name 6))
def t__law_read_19 (C : Addr) (sp : DSp) (Ex : DXK) : DS :=
  (dSeq (t__law_read_18 C sp Ex) (dSeq (t__law_read_17 C sp Ex) (dSeq (t__law_read_16 C sp Ex) (dSeq (t__law_read_15 C sp Ex) (t__law_read_14 C sp Ex)))))
def t__law_read (C : Addr) (sp : DSp) (Ex : DXK) : DS :=
  (dSeq (dAsg (dC (.bl true)) (.name 4)) (dSeq (dFor (dRange1 (dCons (dC (.int 601)) dNil)) (.name 5) (t__law_read_19 C sp Ex)) (dRet (dVar 4))))
theorem b__law_read {P : Program} {w : World} {K : PySem.W.Frag} {mg : Str → Option Value} {base : Heap} {fA C : Addr} {sp : DSp} {j : Nat} (B : Blt mg)
    (F__law_take : FnD P w K mg base "_law_take" j ["text", "state", "some"] sp__law_take)
    (F__law_read : FnD P w K mg base "_law_read" j ["text", "state", "deep", "ends"] sp)
    (F__law_see : FnD P w K mg base "_law_see" j ["text", "state"] sp__law_see)
    (cdv : Value) (A : Around) (outer : List Env) (s : Shared) (H : Hp) (E : XK) (c : DC) (Ex : DXK) (hr : Room j (A.deeper (envOfC "_law_read" (defScope s__law_read) s.heap.objs.size fA cdv))) (ok : XOk (cxOf (L2.CX P w) P w K mg base N__law_read "_law_read" (defScope s__law_read) fA cdv A outer s H E) c Ex) :
    PSs (cxOf (L2.CX P w) P w K mg base N__law_read "_law_read" (defScope s__law_read) fA cdv A outer s H E) (defBody s__law_read) (lS K c (t__law_read C sp Ex)) :=
  (dss_cons (ds_set (i := 4) sc__law_read.nd d_bl)
    (dss_cons (ds_for (passes_of rfl) rfl (di_range1 rfl B.range (da_cons d_int da_nil)) (g_name (i := 5) sc__law_read.nd) (dss_cons (ds_set (i := 6) sc__law_read.nd (d_call F__law_see hr xok0 (da_cons (d_var (i := 0)) (da_cons (d_var (i := 1)) da_nil))))
    (dss_cons (ds_if (PW.pt (dw_or (dt_cmp od_notN (d_ix ixd_seq (d_var (i := 1)) d_int) d_non (nomark _)) (dw_or (dt_cmp (od_eq hr.units) (d_var (i := 6)) d_str (nomark _)) (dw_or1 (dt_cmp (od_in (hu65 hr)) (d_var (i := 6)) (d_var (i := 3)) (by rfl)))))) (dss_one (ds_ret (d_var (i := 4)))) dss_nil)
    (dss_cons (ds_par (i := 7) (j := 8) rfl sc__law_read.nd (da_cons (d_ix ixd_seq (d_var (i := 1)) d_int) (da_cons (d_ifExp (dt_cmp od_lt (d_var (i := 2)) d_int (nomark _)) d_str d_str) da_nil)))
    (dss_cons (ds_expr (d_call F__law_take hr xok0 (da_cons (d_var (i := 0)) (da_cons (d_var (i := 1)) (da_cons d_str da_nil)))))
    (dss_one (ds_if (dt_cmp (od_eq hr.units) (d_var (i := 6)) d_str (nomark _)) (dss_cons (ds_expr (d_call F__law_take hr xok0 (da_cons (d_var (i := 0)) (da_cons (d_var (i := 1)) (da_cons d_str da_nil)))))
    (dss_cons (ds_expr (d_call F__law_take hr xok0 (da_cons (d_var (i := 0)) (da_cons (d_var (i := 1)) (da_cons (d_var (i := 8)) da_nil)))))
    (dss_cons (ds_set (i := 9) sc__law_read.nd (d_call F__law_read hr xok0 (da_cons (d_var (i := 0)) (da_cons (d_var (i := 1)) (da_cons (d_op od_add (d_var (i := 2)) d_int) (da_cons d_str da_nil))))))
    (dss_cons (ds_expr (d_call F__law_take hr xok0 (da_cons (d_var (i := 0)) (da_cons (d_var (i := 1)) (da_cons d_str da_nil)))))
    (dss_cons (ds_set (i := 10) sc__law_read.nd (d_call F__law_read hr xok0 (da_cons (d_var (i := 0)) (da_cons (d_var (i := 1)) (da_cons (d_op od_add (d_var (i := 2)) d_int) (da_cons d_str da_nil))))))
    (dss_cons (ds_expr (d_call F__law_take hr xok0 (da_cons (d_var (i := 0)) (da_cons (d_var (i := 1)) (da_cons d_str da_nil)))))
    (dss_one (ds_set (i := 4) sc__law_read.nd (d_and (d_var (i := 4)) (d_one (d_or (d_var (i := 9)) (d_one (d_var (i := 10)))))))))))))) (dss_one (ds_if (PW.pt (dw_or (dt_cmp (od_eq hr.units) (d_var (i := 6)) d_str (nomark _)) (dw_or1 (dt_cmp (od_eq hr.units) (d_var (i := 6)) d_str (nomark _))))) (dss_cons (ds_if (dt_cmp (od_eq hr.units) (d_var (i := 6)) d_str (nomark _)) (dss_one (ds_expr (d_call F__law_take hr xok0 (da_cons (d_var (i := 0)) (da_cons (d_var (i := 1)) (da_cons d_str da_nil)))))) dss_nil)
    (dss_cons (ds_expr (d_call F__law_take hr xok0 (da_cons (d_var (i := 0)) (da_cons (d_var (i := 1)) (da_cons (d_var (i := 8)) da_nil)))))
    (dss_cons (ds_set (i := 9) sc__law_read.nd (d_call F__law_read hr xok0 (da_cons (d_var (i := 0)) (da_cons (d_var (i := 1)) (da_cons (d_op od_add (d_var (i := 2)) d_int) (da_cons d_str da_nil))))))
    (dss_cons (ds_expr (d_call F__law_take hr xok0 (da_cons (d_var (i := 0)) (da_cons (d_var (i := 1)) (da_cons d_str da_nil)))))
    (dss_cons (ds_if (PW.pt (dw_and (dt_cmp (od_eq hr.units) (d_var (i := 6)) d_str (nomark _)) (dw_and1 (dt_tru (d_var (i := 9)))))) (dss_one (ds_expr (d_append (d_ix ixd_seq (d_var (i := 1)) d_int) (d_var (i := 7))))) dss_nil)
    (dss_one (ds_set (i := 4) sc__law_read.nd (d_and (d_var (i := 4)) (d_and (d_var (i := 9)) (d_one (d_cmp (od_eq hr.units) (d_var (i := 6)) d_str (nomark _)))))))))))) (dss_one (ds_set (i := 4) sc__law_read.nd d_bl)))))))))))
    (dss_one (ds_ret (d_var (i := 4))))))
/-! _law_flaw: 0 text, 1 state -/
abbrev N__law_flaw : List Str := ["text", "state"]
theorem sc__law_flaw : FnScope N__law_flaw ["text"] (defScope s__law_flaw) := ⟨rfl, rfl, rfl, by decide +kernel, rfl, by decide +kernel, by decide +kernel⟩
def t__law_flaw_1 (C : Addr) (Ex : DXK) : DS :=
  (dRet (dIf (dTst (dOp notND (dOp ixD (dVar 1) (dC (.int 1))) (dC .non))) (dOp ixD (dVar 1) (dC (.int 1))) (dIf (dTst (dOp neD (dOp ixD (dVar 1) (dC (.int 2))) (dLst dNil))) (dF1 minLF (dOp ixD (dVar 1) (dC (.int 2)))) (dC .non))))
def t__law_flaw_2 (C : Addr) (Ex : DXK) : DS :=
  (dIfS (dAnd (dTst (dOp isND (dOp ixD (dVar 1) (dC (.int 1))) (dC .non))) (dTst (dOp neD (dCall sp__law_see noX (dCons (dVar 0) (dCons (dVar 1) dNil))) (dC (.str ""))))) (dRet (dOp ixD (dVar 1) (dC (.int 0)))) dNext)
def t__law_flaw_3 (C : Addr) (Ex : DXK) : DS :=
  (dDrop (dCall (sp__law_read 9) noX (dCons (dVar 0) (dCons (dVar 1) (dCons (dC (.int 0)) (dCons (dLst dNil) dNil))))))
def t__law_flaw_4 (C : Addr) (Ex : DXK) : DS :=
  (dAsg (dLstM (dCons (dC (.int 0)) (dCons (dC .non) (dCons (dLstM dNil) dNil)))) (.name 1))
def t__law_flaw (C : Addr) (Ex : DXK) : DS :=
  (dSeq (t__law_flaw_4 C Ex) (dSeq (t__law_flaw_3 C Ex) (dSeq (t__law_flaw_2 C Ex) (t__law_flaw_1 C Ex))))
theorem b__law_flaw {P : Program} {w : World} {K : PySem.W.Frag} {mg : Str → Option Value} {base : Heap} {fA C : Addr}  (B : Blt mg)
    (F__law_see : FnD P w K mg base "_law_see" 1 ["text", "state"] sp__law_see)
    (F__law_read : FnD P w K mg base "_law_read" 16 ["text", "state", "deep", "ends"] (sp__law_read 9))
    (cdv : Value) (A : Around) (outer : List Env) (s : Shared) (H : Hp) (E : XK) (c : DC) (Ex : DXK) (hr : Room 16 (A.deeper (envOfC "_law_flaw" (defScope s__law_flaw) s.heap.objs.size fA cdv))) (ok : XOk (cxOf (L2.CX P w) P w K mg base N__law_flaw "_law_flaw" (defScope s__law_flaw) fA cdv A outer s H E) c Ex) :
    PSs (cxOf (L2.CX P w) P w K mg base N__law_flaw "_law_flaw" (defScope s__law_flaw) fA cdv A outer s H E) (defBody s__law_flaw) (lS K c (t__law_flaw C Ex)) :=
  (dss_cons (ds_set (i := 1) sc__law_flaw.nd (d_lstM (da_cons d_int (da_cons d_non (da_cons (d_lstM da_nil) da_nil)))))
    (dss_cons (ds_expr (d_call F__law_read (hr.mono (by decide)) xok0 (da_cons (d_var (i := 0)) (da_cons (d_var (i := 1)) (da_cons d_int (da_cons (d_lst da_nil) da_nil))))))
    (dss_cons (ds_if (PW.pt (dw_and (dt_cmp od_isN (d_ix ixd_seq (d_var (i := 1)) d_int) d_non (nomark _)) (dw_and1 (dt_cmp (od_ne hr.units) (d_call F__law_see (hr.mono (by decide)) xok0 (da_cons (d_var (i := 0)) (da_cons (d_var (i := 1)) da_nil))) d_str (nomark _))))) (dss_one (ds_ret (d_ix ixd_seq (d_var (i := 1)) d_int))) dss_nil)
    (dss_one (ds_ret (d_ifExp (dt_cmp od_notN (d_ix ixd_seq (d_var (i := 1)) d_int) d_non (nomark _)) (d_ix ixd_seq (d_var (i := 1)) d_int) (d_ifExp (dt_cmp (od_ne hr.units) (d_ix ixd_seq (d_var (i := 1)) d_int) (d_lst da_nil) (nomark _)) (dl_minL B rfl (d_ix ixd_seq (d_var (i := 1)) d_int)) d_non)))))))
/-! _law_blanks: 0 row, 1 text, 2 found, 3 own -/
abbrev N__law_blanks : List Str := ["row", "text", "found", "own"]
theorem sc__law_blanks : FnScope N__law_blanks ["row", "text"] (defScope s__law_blanks) := ⟨rfl, rfl, rfl, by decide +kernel, rfl, by decide +kernel, by decide +kernel⟩
def t__law_blanks_1 (C : Addr) (Ex : DXK) : DS :=
  (dAsg (dOp addD (dOp addD (dVar 2) (dOp mulSD (dC (.str " ")) (dCall sp__law_pick noX (dCons (dVar 0) (dCons (dLst (dCons (dC (.int 0)) (dCons (dC (.int 0)) (dCons (dC (.int 0)) (dCons (dC (.int 0)) (dCons (dC (.int 1)) dNil)))))) dNil))))) (dVar 3)) (.name 2))
def t__law_blanks (C : Addr) (Ex : DXK) : DS :=
  (dSeq (dAsg (dC (.str "")) (.name 2)) (dSeq (dFor (dItr (dVar 1)) (.name 3) (t__law_blanks_1 C Ex)) (dRet (dVar 2))))
theorem b__law_blanks {P : Program} {w : World} {K : PySem.W.Frag} {mg : Str → Option Value} {base : Heap} {fA C : Addr}  (B : Blt mg)
    (F__law_pick : FnD P w K mg base "_law_pick" 2 ["row", "some"] sp__law_pick)
    (cdv : Value) (A : Around) (outer : List Env) (s : Shared) (H : Hp) (E : XK) (c : DC) (Ex : DXK) (hr : Room 2 (A.deeper (envOfC "_law_blanks" (defScope s__law_blanks) s.heap.objs.size fA cdv))) (ok : XOk (cxOf (L2.CX P w) P w K mg base N__law_blanks "_law_blanks" (defScope s__law_blanks) fA cdv A outer s H E) c Ex) :
    PSs (cxOf (L2.CX P w) P w K mg base N__law_blanks "_law_blanks" (defScope s__law_blanks) fA cdv A outer s H E) (defBody s__law_blanks) (lS K c (t__law_blanks C Ex)) :=
  (dss_cons (ds_set (i := 2) sc__law_blanks.nd d_str)
    (dss_cons (ds_for (passes_of rfl) rfl (di_any (d_var (i := 1))) (g_name (i := 3) sc__law_blanks.nd) (dss_one (ds_set (i := 2) sc__law_blanks.nd (d_op od_add (d_op od_add (d_var (i := 2)) (d_op od_mulS d_str (d_call F__law_pick (hr.mono (by decide)) xok0 (da_cons (d_var (i := 0)) (da_cons (d_lst (da_cons d_int (da_cons d_int (da_cons d_int (da_cons d_int (da_cons d_int da_nil)))))) da_nil))))) (d_var (i := 3))))))
    (dss_one (ds_ret (d_var (i := 2))))))
/-! _law_spoilt: 0 row, 1 text, 2 at, 3 sign, 4 way -/
abbrev N__law_spoilt : List Str := ["row", "text", "at", "sign", "way"]
theorem sc__law_spoilt : FnScope N__law_spoilt ["row", "text"] (defScope s__law_spoilt) := ⟨rfl, rfl, rfl, by decide +kernel, rfl, by decide +kernel, by decide +kernel⟩
def t__law_spoilt (C : Addr) (Ex : DXK) : DS :=
  (dSeq (dPar3 2 3 4 (dCons (dCall sp__law_taken noX (dCons (dVar 0) (dCons (dOp addD (dF1 lenF (dVar 1)) (dC (.int 1))) dNil))) (dCons (dCall sp__law_pick noX (dCons (dVar 0) (dCons (dC (.str "swx?*@()|.1#! 0123459a")) dNil))) (dCons (dCall sp__law_taken noX (dCons (dVar 0) (dCons (dC (.int 4)) dNil))) dNil)))) (dSeq (dIfS (dTst (dOp eqD (dVar 4) (dC (.int 0)))) (dRet (dOp addD (dOp addD (dSl slD (dVar 1) dNoPart (dPart (dVar 2))) (dVar 3)) (dSl slD (dVar 1) (dPart (dVar 2)) dNoPart))) dNext) (dRet (dIf (dTst (dOp eqD (dVar 4) (dC (.int 1)))) (dSl slD (dVar 1) dNoPart (dPart (dVar 2))) (dIf (dTst (dOp eqD (dVar 4) (dC (.int 2)))) (dOp addD (dOp addD (dSl slD (dVar 1) dNoPart (dPart (dVar 2))) (dVar 3)) (dSl slD (dVar 1) (dPart (dOp addD (dVar 2) (dC (.int 1)))) dNoPart)) (dOp addD (dSl slD (dVar 1) dNoPart (dPart (dVar 2))) (dSl slD (dVar 1) (dPart (dOp addD (dVar 2) (dC (.int 1)))) dNoPart)))))))
theorem b__law_spoilt {P : Program} {w : World} {K : PySem.W.Frag} {mg : Str → Option Value} {base : Heap} {fA C : Addr}  (B : Blt mg)
    (F__law_taken : FnD P w K mg base "_law_taken" 1 ["row", "many"] sp__law_taken)
    (F__law_pick : FnD P w K mg base "_law_pick" 2 ["row", "some"] sp__law_pick)
    (cdv : Value) (A : Around) (outer : List Env) (s : Shared) (H : Hp) (E : XK) (c : DC) (Ex : DXK) (hr : Room 2 (A.deeper (envOfC "_law_spoilt" (defScope s__law_spoilt) s.heap.objs.size fA cdv))) (ok : XOk (cxOf (L2.CX P w) P w K mg base N__law_spoilt "_law_spoilt" (defScope s__law_spoilt) fA cdv A outer s H E) c Ex) :
    PSs (cxOf (L2.CX P w) P w K mg base N__law_spoilt "_law_spoilt" (defScope s__law_spoilt) fA cdv A outer s H E) (defBody s__law_spoilt) (lS K c (t__law_spoilt C Ex)) :=
  (dss_cons (ds_par3 (i := 2) (j := 3) (l := 4) rfl sc__law_spoilt.nd (da_cons (d_call F__law_taken (hr.mono (by decide)) xok0 (da_cons (d_var (i := 0)) (da_cons (d_op od_add (dl_len B (d_var (i := 1))) d_int) da_nil))) (da_cons (d_call F__law_pick (hr.mono (by decide)) xok0 (da_cons (d_var (i := 0)) (da_cons d_str da_nil))) (da_cons (d_call F__law_taken (hr.mono (by decide)) xok0 (da_cons (d_var (i := 0)) (da_cons d_int da_nil))) da_nil))))
    (dss_cons (ds_if (dt_cmp (od_eq hr.units) (d_var (i := 4)) d_int (nomark _)) (dss_one (ds_ret (d_op od_add (d_op od_add (d_slice sld_seq (d_var (i := 1)) do_none (do_some (d_var (i := 2)))) (d_var (i := 3))) (d_slice sld_seq (d_var (i := 1)) (do_some (d_var (i := 2))) do_none)))) dss_nil)
    (dss_one (ds_ret (d_ifExp (dt_cmp (od_eq hr.units) (d_var (i := 4)) d_int (nomark _)) (d_slice sld_seq (d_var (i := 1)) do_none (do_some (d_var (i := 2)))) (d_ifExp (dt_cmp (od_eq hr.units) (d_var (i := 4)) d_int (nomark _)) (d_op od_add (d_op od_add (d_slice sld_seq (d_var (i := 1)) do_none (do_some (d_var (i := 2)))) (d_var (i := 3))) (d_slice sld_seq (d_var (i := 1)) (do_some (d_op od_add (d_var (i := 2)) d_int)) do_none)) (d_op od_add (d_slice sld_seq (d_var (i := 1)) do_none (do_some (d_var (i := 2)))) (d_slice sld_seq (d_var (i := 1)) (do_some (d_op od_add (d_var (i := 2)) d_int)) do_none))))))))
/-! law: 0 script, 1 row, 2 turn, 3 block, 4 due, 5 text, 6 again, 7 bad, 8 place, 9 told, 10 deep, 11 odd -/
abbrev qn_law : Str := ("law" : Str) ++ ".<locals>." ++ "<lambda>"
abbrev N_law : List Str := ["script", "row", "turn", "block", "due", "text", "again", "bad", "place", "told", "deep", "odd"]
theorem sc_law : FnScope N_law ["script"] (defScope s_law) := ⟨rfl, rfl, rfl, by decide +kernel, rfl, by decide +kernel, by decide +kernel⟩
def t_law_1 (C : Addr) (Pt : Addr) (Ex : DXK) : DS :=
  (dRet (dOp eqD (dLst (dCons (dRef Pt qn_law C "name" "" (fun Ex => (dCall (sp_program_flaw C) Ex (dCons (dVar 11) dNil)))) (dCons (dRef Pt qn_law C "name" "" (fun Ex => (dCall (sp_weight C) Ex (dCons (dVar 11) dNil)))) (dCons (dRef Pt qn_law C "name" "" (fun Ex => (dCall (sp_plain_program C) Ex (dCons (dVar 11) dNil)))) dNil)))) (dOp mulD (dLst (dCons (dC (.str "text")) dNil)) (dC (.int 3)))))
def t_law_2 (C : Addr) (Pt : Addr) (Ex : DXK) : DS :=
  (dAsg (dCall sp__law_pick noX (dCons (dVar 1) (dCons (dLst (dCons (dC .non) (dCons (dC (.int 5)) (dCons (dOp mulSD (dC (.str "s")) (dC (.int 601))) (dCons (dC (.str "s
")) (dCons (dTup (dCons (dC (.str "s")) dNil)) (dCons (dC (.bl true)) dNil))))))) dNil))) (.name 11))
def t_law_3 (C : Addr) (Pt : Addr) (Ex : DXK) : DS :=
  (dIfS (dOr (dTst (dOp neD (dCall (sp_program_flaw C) noX (dCons (dC (.str "s@(?1(s|))")) dNil)) (dC (.int 1)))) (dOr (dTst (dOp notND (dCall (sp_program_flaw C) noX (dCons (dC (.str "@(@(w)) s")) dNil)) (dC .non))) (dOr (dTst (dOp neD (dCall (sp_program_flaw C) noX (dCons (dC (.str "*1(s)")) dNil)) (dC (.int 1)))) (dOr (dTst (dOp neD (dCall (sp_program_flaw C) noX (dCons (dC (.str "s)")) dNil)) (dC (.int 1)))) (dTst (dOp neD (dCall (sp_program_flaw C) noX (dCons (dC (.str "@(")) dNil)) (dC (.int 2)))))))) (dRet (dC (.bl false))) dNext)
def t_law_4 (C : Addr) (Pt : Addr) (Ex : DXK) : DS :=
  (dIfS (dOr (dTst (dOp notND (dCall (sp_program_flaw C) noX (dCons (dVar 10) dNil)) (dC .non))) (dOr (dTst (dOp neD (dCall (sp_program_flaw C) noX (dCons (dOp addD (dOp addD (dC (.str "*2(")) (dVar 10)) (dC (.str ")"))) dNil)) (dC (.int 26)))) (dOr (dTst (dOp neD (dCall (sp_weight C) noX (dCons (dVar 10) dNil)) (dC (.int 256)))) (dTst (dOp neD (dCall (sp_weight C) noX (dCons (dC (.str "*9(*9(*9(*9(s)))) x")) dNil)) (dC (.int 6562))))))) (dRet (dC (.bl false))) dNext)
def t_law_5 (C : Addr) (Pt : Addr) (Ex : DXK) : DS :=
  (dAsg (dOp addD (dOp addD (dOp mulSD (dC (.str "*2(")) (dC (.int 8))) (dC (.str "s"))) (dOp mulSD (dC (.str ")")) (dC (.int 8)))) (.name 10))
def t_law_6 (C : Addr) (Pt : Addr) (Ex : DXK) : DS :=
  (dIfS (dTst (dOp neD (dVar 9) (dOp mulD (dLst (dCons (dIf (dTst (dOp notND (dVar 8) (dC .non))) (dC (.str "text")) (dC (.str ""))) dNil)) (dC (.int 2))))) (dRet (dC (.bl false))) dNext)
def t_law_7 (C : Addr) (Pt : Addr) (Ex : DXK) : DS :=
  (dAsg (dLst (dCons (dRef Pt qn_law C "name" "" (fun Ex => (dCall (sp_plain_program C) Ex (dCons (dVar 7) dNil)))) (dCons (dRef Pt qn_law C "name" "" (fun Ex => (dCall (sp_weight C) Ex (dCons (dVar 7) dNil)))) dNil))) (.name 9))
def t_law_8 (C : Addr) (Pt : Addr) (Ex : DXK) : DS :=
  (dIfS (dNot (dTru (dCall sp__law_alike noX (dCons (dCall (sp_program_flaw C) noX (dCons (dVar 7) dNil)) (dCons (dVar 8) dNil))))) (dRet (dC (.bl false))) dNext)
def t_law_9 (C : Addr) (Pt : Addr) (Ex : DXK) : DS :=
  (dAsg (dCall sp__law_flaw noX (dCons (dVar 7) dNil)) (.name 8))
def t_law_10 (C : Addr) (Pt : Addr) (Ex : DXK) : DS :=
  (dAsg (dCall sp__law_spoilt noX (dCons (dVar 1) (dCons (dCall sp__law_pick noX (dCons (dVar 1) (dCons (dLst (dCons (dVar 5) (dCons (dVar 4) dNil))) dNil))) dNil))) (.name 7))
def t_law_11 (C : Addr) (Pt : Addr) (Ex : DXK) : DS :=
  (dSeq (t_law_10 C Pt Ex) (dSeq (t_law_9 C Pt Ex) (dSeq (t_law_8 C Pt Ex) (dSeq (t_law_7 C Pt Ex) (t_law_6 C Pt Ex)))))
def t_law_12 (C : Addr) (Pt : Addr) (Ex : DXK) : DS :=
  (dFor (dRange1 (dCons (dC (.int 4)) dNil)) (.name 6) (t_law_11 C Pt Ex))
def t_law_13 (C : Addr) (Pt : Addr) (Ex : DXK) : DS :=
  (dIfS (dOr (dTst (dOp notND (dCall (sp_program_flaw C) noX (dCons (dVar 5) dNil)) (dC .non))) (dOr (dNot (dTru (dCall sp__law_alike noX (dCons (dCall (sp_plain_program C) noX (dCons (dVar 5) dNil)) (dCons (dVar 4) dNil))))) (dNot (dTru (dCall sp__law_alike noX (dCons (dCall (sp_weight C) noX (dCons (dVar 5) dNil)) (dCons (dCall (sp__law_weigh 4) noX (dCons (dVar 3) dNil)) dNil))))))) (dRet (dC (.bl false))) dNext)
def t_law_14 (C : Addr) (Pt : Addr) (Ex : DXK) : DS :=
  (dIfS (dTst (dOp gtD (dF1 lenF (dVar 5)) (dC (.int 598)))) dCont dNext)
def t_law_15 (C : Addr) (Pt : Addr) (Ex : DXK) : DS :=
  (dAsg (dCall sp__law_blanks noX (dCons (dVar 1) (dCons (dVar 4) dNil))) (.name 5))
def t_law_16 (C : Addr) (Pt : Addr) (Ex : DXK) : DS :=
  (dAsg (dCall (sp__law_write 4) noX (dCons (dVar 3) dNil)) (.name 4))
def t_law_17 (C : Addr) (Pt : Addr) (Ex : DXK) : DS :=
  (dAsg (dCall (sp__law_prog 4) noX (dCons (dVar 1) (dCons (dOp addD (dC (.int 1)) (dCall sp__law_taken noX (dCons (dVar 1) (dCons (dC (.int 4)) dNil)))) (dCons (dC (.bl true)) dNil)))) (.name 3))
def t_law_18 (C : Addr) (Pt : Addr) (Ex : DXK) : DS :=
  (dSeq (t_law_17 C Pt Ex) (dSeq (t_law_16 C Pt Ex) (dSeq (t_law_15 C Pt Ex) (dSeq (t_law_14 C Pt Ex) (dSeq (t_law_13 C Pt Ex) (t_law_12 C Pt Ex))))))
def t_law_19 (C : Addr) (Pt : Addr) (Ex : DXK) : DS :=
  (dFor (dRange1 (dCons (dC (.int 14)) dNil)) (.name 2) (t_law_18 C Pt Ex))
def t_law_20 (C : Addr) (Pt : Addr) (Ex : DXK) : DS :=
  (dAsg (dLstM (dCons (dVar 0) (dCons (dC (.int 0)) (dCons (dC (.int 126121)) (dCons (dC (.int 0)) dNil))))) (.name 1))
def t_law (C : Addr) (Pt : Addr) (Ex : DXK) : DS :=
  (dSeq (t_law_20 C Pt Ex) (dSeq (t_law_19 C Pt Ex) (dSeq (t_law_5 C Pt Ex) (dSeq (t_law_4 C Pt Ex) (dSeq (t_law_3 C Pt Ex) (dSeq (t_law_2 C Pt Ex) (t_law_1 C Pt Ex)))))))
theorem b_law {P : Program} {w : World} {K : PySem.W.Frag} {mg : Str → Option Value} {base : Heap} {fA C : Addr} {Pt : Addr} (B : Blt mg)
    (F_plain_program : FnD P w K mg base "plain_program" 44 ["text"] (sp_plain_program C))
    (F_weight : FnD P w K mg base "weight" 44 ["text"] (sp_weight C))
    (F_program_flaw : FnD P w K mg base "program_flaw" 42 ["text"] (sp_program_flaw C))
    (F__law_pick : FnD P w K mg base "_law_pick" 2 ["row", "some"] sp__law_pick)
    (F__law_alike : FnD P w K mg base "_law_alike" 8 ["found", "due"] sp__law_alike)
    (F__law_flaw : FnD P w K mg base "_law_flaw" 17 ["text"] sp__law_flaw)
    (F__law_spoilt : FnD P w K mg base "_law_spoilt" 3 ["row", "text"] sp__law_spoilt)
    (F__law_weigh : FnD P w K mg base "_law_weigh" 8 ["block"] (sp__law_weigh 4))
    (F__law_blanks : FnD P w K mg base "_law_blanks" 3 ["row", "text"] sp__law_blanks)
    (F__law_write : FnD P w K mg base "_law_write" 8 ["block"] (sp__law_write 4))
    (F__law_taken : FnD P w K mg base "_law_taken" 1 ["row", "many"] sp__law_taken)
    (F__law_prog : FnD P w K mg base "_law_prog" 8 ["row", "deep", "idle"] (sp__law_prog 4)) {fI cc cda ca gr : Addr}
    (T_BadArgument : DX.ErrTxt P K mg "BadArgument" "name" C fI cc cda "BadArgument.__init__")
    {oc_r dV_r kV_r doc_r pm_r cdv_r ct_r : Value} {an_r od_r : Option Addr} {osl_r : Array (Option Value)} (g__law_refused : mg "_law_refused" = some (.ref gr)) (kp__law_refused : PySem.W.keepIn K (.ref gr) = true)
    (lk__law_refused : K.lookup gr = some ⟨oc_r, od_r, .func (PySem.W.fnOf "_law_refused" "_law_refused" (defArgs s__law_refused) (defBody s__law_refused) (defScope s__law_refused) dV_r kV_r doc_r pm_r an_r cdv_r ct_r), osl_r⟩) (hcd__law_refused : PySem.W.codeIn K cdv_r "_law_refused" = true)
    (hb__law_refused : L2.Binds K (PySem.W.fnOf "_law_refused" "_law_refused" (defArgs s__law_refused) (defBody s__law_refused) (defScope s__law_refused) dV_r kV_r doc_r pm_r an_r cdv_r ct_r) ["call"] []) (TB : LamX.TabB base mg ca Pt)
    (cdv : Value) (A : Around) (outer : List Env) (s : Shared) (H : Hp) (E : XK) (c : DC) (Ex : DXK) (hcode : cdv = .ref ca) (hr : Room 49 (A.deeper (envOfC "law" (defScope s_law) s.heap.objs.size fA cdv))) (ok : XOk (cxOf (L2.CX P w) P w K mg base N_law "law" (defScope s_law) fA cdv A outer s H E) c Ex) :
    PSs (cxOf (L2.CX P w) P w K mg base N_law "law" (defScope s_law) fA cdv A outer s H E) (defBody s_law) (lS K c (t_law C Pt Ex)) :=
  (dss_cons (ds_set (i := 1) sc_law.nd (d_lstM (da_cons (d_var (i := 0)) (da_cons d_int (da_cons d_int (da_cons d_int da_nil))))))
    (dss_cons (ds_for (passes_of rfl) rfl (di_range1 rfl B.range (da_cons d_int da_nil)) (g_name (i := 2) sc_law.nd) (dss_cons (ds_set (i := 3) sc_law.nd (d_call F__law_prog (hr.mono (by decide)) xok0 (da_cons (d_var (i := 1)) (da_cons (d_op od_add d_int (d_call F__law_taken (hr.mono (by decide)) xok0 (da_cons (d_var (i := 1)) (da_cons d_int da_nil)))) (da_cons d_bl da_nil)))))
    (dss_cons (ds_set (i := 4) sc_law.nd (d_call F__law_write (hr.mono (by decide)) xok0 (da_cons (d_var (i := 3)) da_nil)))
    (dss_cons (ds_set (i := 5) sc_law.nd (d_call F__law_blanks (hr.mono (by decide)) xok0 (da_cons (d_var (i := 1)) (da_cons (d_var (i := 4)) da_nil))))
    (dss_cons (ds_if (dt_cmp od_gt (dl_len B (d_var (i := 5))) d_int (nomark _)) (dss_one ds_cont) dss_nil)
    (dss_cons (ds_if (PW.pt (dw_or (dt_cmp od_notN (d_call F_program_flaw (hr.mono (by decide)) xok0 (da_cons (d_var (i := 5)) da_nil)) d_non (nomark _)) (dw_or (dt_not (dt_tru (d_call F__law_alike (hr.mono (by decide)) xok0 (da_cons (d_callK F_plain_program (hr.mono (by decide)) xok0 (dk_cons (d_var (i := 5)) dk_nil) len_plain_program) (da_cons (d_var (i := 4)) da_nil))))) (dw_or1 (dt_not (dt_tru (d_call F__law_alike (hr.mono (by decide)) xok0 (da_cons (d_call F_weight (hr.mono (by decide)) xok0 (da_cons (d_var (i := 5)) da_nil)) (da_cons (d_call F__law_weigh (hr.mono (by decide)) xok0 (da_cons (d_var (i := 3)) da_nil)) da_nil))))))))) (dss_one (ds_ret d_bl)) dss_nil)
    (dss_one (ds_for (passes_of rfl) rfl (di_range1 rfl B.range (da_cons d_int da_nil)) (g_name (i := 6) sc_law.nd) (dss_cons (ds_set (i := 7) sc_law.nd (d_call F__law_spoilt (hr.mono (by decide)) xok0 (da_cons (d_var (i := 1)) (da_cons (d_call F__law_pick (hr.mono (by decide)) xok0 (da_cons (d_var (i := 1)) (da_cons (d_lst (da_cons (d_var (i := 5)) (da_cons (d_var (i := 4)) da_nil))) da_nil))) da_nil))))
    (dss_cons (ds_set (i := 8) sc_law.nd (d_call F__law_flaw (hr.mono (by decide)) xok0 (da_cons (d_var (i := 7)) da_nil)))
    (dss_cons (ds_if (dt_not (dt_tru (d_call F__law_alike (hr.mono (by decide)) xok0 (da_cons (d_callK F_program_flaw (hr.mono (by decide)) xok0 (dk_cons (d_var (i := 7)) dk_nil) len_program_flaw) (da_cons (d_var (i := 8)) da_nil))))) (dss_one (ds_ret d_bl)) dss_nil)
    (dss_cons (ds_set (i := 9) sc_law.nd (d_lst (da_cons (d_ref (k := 47) T_BadArgument rfl g__law_refused kp__law_refused lk__law_refused hcd__law_refused hb__law_refused sc__law_refused rfl (Or.inl rfl) (ref_gives T_BadArgument rfl (by decide) (fun _ => rfl) sc__law_refused.nd rfl rfl (by decide) (by decide) (by decide) (fun _ => rfl) (fun _ => rfl)) TB hcode (hr.mono (by decide)) (LamX.lamS_by (by first | rfl | decide +kernel)) rfl (fun _ _ _ _ _ => rfl) (fun _ _ _ _ _ _ _ _ _ hr ok => (d_call F_plain_program (hr.mono (by decide)) ok (da_cons (d_var (i := 7)) da_nil)))) (da_cons (d_ref (k := 47) T_BadArgument rfl g__law_refused kp__law_refused lk__law_refused hcd__law_refused hb__law_refused sc__law_refused rfl (Or.inl rfl) (ref_gives T_BadArgument rfl (by decide) (fun _ => rfl) sc__law_refused.nd rfl rfl (by decide) (by decide) (by decide) (fun _ => rfl) (fun _ => rfl)) TB hcode (hr.mono (by decide)) (LamX.lamS_by (by first | rfl | decide +kernel)) rfl (fun _ _ _ _ _ => rfl) (fun _ _ _ _ _ _ _ _ _ hr ok => (d_call F_weight (hr.mono (by decide)) ok (da_cons (d_var (i := 7)) da_nil)))) da_nil))))
    (dss_one (ds_if (dt_cmp (od_ne hr.units) (d_var (i := 9)) (d_op od_mul (d_lst (da_cons (d_ifExp (dt_cmp od_notN (d_var (i := 8)) d_non (nomark _)) d_str d_str) da_nil)) d_int) (nomark _)) (dss_one (ds_ret d_bl)) dss_nil))))))))))))))
    (dss_cons (ds_set (i := 10) sc_law.nd (d_op od_add (d_op od_add (d_op od_mulS d_str d_int) d_str) (d_op od_mulS d_str d_int)))
    (dss_cons (ds_if (PW.pt (dw_or (dt_cmp od_notN (d_call F_program_flaw (hr.mono (by decide)) xok0 (da_cons (d_var (i := 10)) da_nil)) d_non (nomark _)) (dw_or (dt_cmp (od_ne hr.units) (d_call F_program_flaw (hr.mono (by decide)) xok0 (da_cons (d_op od_add (d_op od_add d_str (d_var (i := 10))) d_str) da_nil)) d_int (nomark _)) (dw_or (dt_cmp (od_ne hr.units) (d_call F_weight (hr.mono (by decide)) xok0 (da_cons (d_var (i := 10)) da_nil)) d_int (nomark _)) (dw_or1 (dt_cmp (od_ne hr.units) (d_call F_weight (hr.mono (by decide)) xok0 (da_cons d_str da_nil)) d_int (nomark _))))))) (dss_one (ds_ret d_bl)) dss_nil)
    (dss_cons (ds_if (PW.pt (dw_or (dt_cmp (od_ne hr.units) (d_call F_program_flaw (hr.mono (by decide)) xok0 (da_cons d_str da_nil)) d_int (nomark _)) (dw_or (dt_cmp od_notN (d_call F_program_flaw (hr.mono (by decide)) xok0 (da_cons d_str da_nil)) d_non (nomark _)) (dw_or (dt_cmp (od_ne hr.units) (d_call F_program_flaw (hr.mono (by decide)) xok0 (da_cons d_str da_nil)) d_int (nomark _)) (dw_or (dt_cmp (od_ne hr.units) (d_call F_program_flaw (hr.mono (by decide)) xok0 (da_cons d_str da_nil)) d_int (nomark _)) (dw_or1 (dt_cmp (od_ne hr.units) (d_call F_program_flaw (hr.mono (by decide)) xok0 (da_cons d_str da_nil)) d_int (nomark _)))))))) (dss_one (ds_ret d_bl)) dss_nil)
    (dss_cons (ds_set (i := 11) sc_law.nd (d_call F__law_pick (hr.mono (by decide)) xok0 (da_cons (d_var (i := 1)) (da_cons (d_lst (da_cons d_non (da_cons d_int (da_cons (d_op od_mulS d_str d_int) (da_cons d_str (da_cons (d_tup (da_cons d_str da_nil)) (da_cons d_bl da_nil))))))) da_nil))))
    (dss_one (ds_ret (d_cmp (od_eq hr.units) (d_lst (da_cons (d_ref (k := 47) T_BadArgument rfl g__law_refused kp__law_refused lk__law_refused hcd__law_refused hb__law_refused sc__law_refused rfl (Or.inl rfl) (ref_gives T_BadArgument rfl (by decide) (fun _ => rfl) sc__law_refused.nd rfl rfl (by decide) (by decide) (by decide) (fun _ => rfl) (fun _ => rfl)) TB hcode (hr.mono (by decide)) (LamX.lamS_by (by first | rfl | decide +kernel)) rfl (fun _ _ _ _ _ => rfl) (fun _ _ _ _ _ _ _ _ _ hr ok => (d_call F_program_flaw (hr.mono (by decide)) ok (da_cons (d_var (i := 11)) da_nil)))) (da_cons (d_ref (k := 47) T_BadArgument rfl g__law_refused kp__law_refused lk__law_refused hcd__law_refused hb__law_refused sc__law_refused rfl (Or.inl rfl) (ref_gives T_BadArgument rfl (by decide) (fun _ => rfl) sc__law_refused.nd rfl rfl (by decide) (by decide) (by decide) (fun _ => rfl) (fun _ => rfl)) TB hcode (hr.mono (by decide)) (LamX.lamS_by (by first | rfl | decide +kernel)) rfl (fun _ _ _ _ _ => rfl) (fun _ _ _ _ _ _ _ _ _ hr ok => (d_call F_weight (hr.mono (by decide)) ok (da_cons (d_var (i := 11)) da_nil)))) (da_cons (d_ref (k := 47) T_BadArgument rfl g__law_refused kp__law_refused lk__law_refused hcd__law_refused hb__law_refused sc__law_refused rfl (Or.inl rfl) (ref_gives T_BadArgument rfl (by decide) (fun _ => rfl) sc__law_refused.nd rfl rfl (by decide) (by decide) (by decide) (fun _ => rfl) (fun _ => rfl)) TB hcode (hr.mono (by decide)) (LamX.lamS_by (by first | rfl | decide +kernel)) rfl (fun _ _ _ _ _ => rfl) (fun _ _ _ _ _ _ _ _ _ hr ok => (d_call F_plain_program (hr.mono (by decide)) ok (da_cons (d_var (i := 11)) da_nil)))) da_nil)))) (d_op od_mul (d_lst (da_cons d_str da_nil)) d_int) (nomark _))))))))))
/-! ProgramReader___init__: 0 self, 1 text -/
abbrev N_ProgramReader___init__ : List Str := ["self", "text"]
theorem sc_ProgramReader___init__ : FnScope N_ProgramReader___init__ ["self", "text"] (defScope s_ProgramReader___init__) := ⟨rfl, rfl, rfl, by decide +kernel, rfl, by decide +kernel, by decide +kernel⟩
def t_ProgramReader___init__ (C : Addr) (R : Addr) (Ex : DXK) : DS :=
  (dSeq (dSFld R "source" (dVar 1) (dVar 0)) (dSeq (dSFld R "place" (dC (.int 0)) (dVar 0)) (dSeq (dSFld R "fault" (dC .non) (dVar 0)) (dSFld R "loops" (dLstM dNil) (dVar 0)))))
theorem b_ProgramReader___init__ {P : Program} {w : World} {K : PySem.W.Frag} {mg : Str → Option Value} {base : Heap} {fA C : Addr} {R : Addr} (B : Blt mg)
    (K_ProgramReader : Cl_ProgramReader K R)
    (cdv : Value) (A : Around) (outer : List Env) (s : Shared) (H : Hp) (E : XK) (c : DC) (Ex : DXK) (hr : Room 0 (A.deeper (envOfC "ProgramReader.__init__" (defScope s_ProgramReader___init__) s.heap.objs.size fA cdv))) (ok : XOk (cxOf (L2.CX P w) P w K mg base N_ProgramReader___init__ "ProgramReader.__init__" (defScope s_ProgramReader___init__) fA cdv A outer s H E) c Ex) :
    PSs (cxOf (L2.CX P w) P w K mg base N_ProgramReader___init__ "ProgramReader.__init__" (defScope s_ProgramReader___init__) fA cdv A outer s H E) (defBody s_ProgramReader___init__) (lS K c (t_ProgramReader___init__ C R Ex)) :=
  (dss_cons (ds_fld K_ProgramReader.cl K_ProgramReader.f_source (d_var (i := 1)) (d_var (i := 0)))
    (dss_cons (ds_fld K_ProgramReader.cl K_ProgramReader.f_place d_int (d_var (i := 0)))
    (dss_cons (ds_fld K_ProgramReader.cl K_ProgramReader.f_fault d_non (d_var (i := 0)))
    (dss_one (ds_fld K_ProgramReader.cl K_ProgramReader.f_loops (d_lstM da_nil) (d_var (i := 0)))))))
/-! ProgramReader_peek: 0 self -/
abbrev N_ProgramReader_peek : List Str := ["self"]
theorem sc_ProgramReader_peek : FnScope N_ProgramReader_peek ["self"] (defScope s_ProgramReader_peek) := ⟨rfl, rfl, rfl, by decide +kernel, rfl, by decide +kernel, by decide +kernel⟩
def t_ProgramReader_peek_1 (C : Addr) (R : Addr) (Ex : DXK) : DS :=
  (dFldAug R "place" plusF (dVar 0) (dC (.int 1)))
def t_ProgramReader_peek (C : Addr) (R : Addr) (Ex : DXK) : DS :=
  (dSeq (dWhile (dAnd (dTst (dOp ltD (dFld R "place" (dVar 0)) (dF1 lenF (dFld R "source" (dVar 0))))) (dTst (dOp eqD (dOp ixD (dFld R "source" (dVar 0)) (dFld R "place" (dVar 0))) (dC (.str " "))))) (t_ProgramReader_peek_1 C R Ex)) (dRet (dIf (dTst (dOp ltD (dFld R "place" (dVar 0)) (dF1 lenF (dFld R "source" (dVar 0))))) (dOp ixD (dFld R "source" (dVar 0)) (dFld R "place" (dVar 0))) (dC (.str "")))))
theorem b_ProgramReader_peek {P : Program} {w : World} {K : PySem.W.Frag} {mg : Str → Option Value} {base : Heap} {fA C : Addr} {R : Addr} (B : Blt mg)
    (K_ProgramReader : Cl_ProgramReader K R)
    (cdv : Value) (A : Around) (outer : List Env) (s : Shared) (H : Hp) (E : XK) (c : DC) (Ex : DXK) (hr : Room 0 (A.deeper (envOfC "ProgramReader.peek" (defScope s_ProgramReader_peek) s.heap.objs.size fA cdv))) (ok : XOk (cxOf (L2.CX P w) P w K mg base N_ProgramReader_peek "ProgramReader.peek" (defScope s_ProgramReader_peek) fA cdv A outer s H E) c Ex) :
    PSs (cxOf (L2.CX P w) P w K mg base N_ProgramReader_peek "ProgramReader.peek" (defScope s_ProgramReader_peek) fA cdv A outer s H E) (defBody s_ProgramReader_peek) (lS K c (t_ProgramReader_peek C R Ex)) :=
  (dss_cons (ds_while (passes_of rfl) (PW.pt (dw_and (dt_cmp od_lt (d_fld K_ProgramReader.cl K_ProgramReader.f_place (d_var (i := 0))) (dl_len B (d_fld K_ProgramReader.cl K_ProgramReader.f_source (d_var (i := 0)))) (nomark _)) (dw_and1 (dt_cmp (od_eq hr.units) (d_ix ixd_seq (d_fld K_ProgramReader.cl K_ProgramReader.f_source (d_var (i := 0))) (d_fld K_ProgramReader.cl K_ProgramReader.f_place (d_var (i := 0)))) d_str (nomark _))))) (dss_one (ds_fldAug K_ProgramReader.cl K_ProgramReader.f_place ip_plus (d_var (i := 0)) d_int)))
    (dss_one (ds_ret (d_ifExp (dt_cmp od_lt (d_fld K_ProgramReader.cl K_ProgramReader.f_place (d_var (i := 0))) (dl_len B (d_fld K_ProgramReader.cl K_ProgramReader.f_source (d_var (i := 0)))) (nomark _)) (d_ix ixd_seq (d_fld K_ProgramReader.cl K_ProgramReader.f_source (d_var (i := 0))) (d_fld K_ProgramReader.cl K_ProgramReader.f_place (d_var (i := 0)))) d_str))))
/-! ProgramReader_take: 0 self, 1 some, 2 own -/
abbrev N_ProgramReader_take : List Str := ["self", "some", "own"]
theorem sc_ProgramReader_take : FnScope N_ProgramReader_take ["self", "some"] (defScope s_ProgramReader_take) := ⟨rfl, rfl, rfl, by decide +kernel, rfl, by decide +kernel, by decide +kernel⟩
def t_ProgramReader_take (C : Addr) (R : Addr) (Ex : DXK) : DS :=
  (dSeq (dAsg (dMeth R "peek" (sp_rd_peek R) noX (dVar 0) dNil) (.name 2)) (dSeq (dIfS (dOr (dTst (dOp eqD (dVar 2) (dC (.str "")))) (dTst (dOp ninD (dVar 2) (dVar 1)))) (dSeq (dIfS (dTst (dOp isND (dFld R "fault" (dVar 0)) (dC .non))) (dSFld R "fault" (dFld R "place" (dVar 0)) (dVar 0)) dNext) (dRet (dC (.str "")))) dNext) (dSeq (dFldAug R "place" plusF (dVar 0) (dC (.int 1))) (dRet (dVar 2)))))
theorem b_ProgramReader_take {P : Program} {w : World} {K : PySem.W.Frag} {mg : Str → Option Value} {base : Heap} {fA C : Addr} {R : Addr} (B : Blt mg)
    (K_ProgramReader : Cl_ProgramReader K R)
    (M_ProgramReader_peek : MtD P w K mg base R "peek" 1 ["self"] (sp_rd_peek R))
    (cdv : Value) (A : Around) (outer : List Env) (s : Shared) (H : Hp) (E : XK) (c : DC) (Ex : DXK) (hr : Room 1 (A.deeper (envOfC "ProgramReader.take" (defScope s_ProgramReader_take) s.heap.objs.size fA cdv))) (ok : XOk (cxOf (L2.CX P w) P w K mg base N_ProgramReader_take "ProgramReader.take" (defScope s_ProgramReader_take) fA cdv A outer s H E) c Ex) :
    PSs (cxOf (L2.CX P w) P w K mg base N_ProgramReader_take "ProgramReader.take" (defScope s_ProgramReader_take) fA cdv A outer s H E) (defBody s_ProgramReader_take) (lS K c (t_ProgramReader_take C R Ex)) :=
  (dss_cons (ds_set (i := 2) sc_ProgramReader_take.nd (d_meth0 K_ProgramReader.cl M_ProgramReader_peek (hr.mono (by decide)) xok0 (d_var (i := 0))))
    (dss_cons (ds_if (PW.pt (dw_or (dt_cmp (od_eq hr.units) (d_var (i := 2)) d_str (nomark _)) (dw_or1 (dt_cmp (od_nin (hu65 hr)) (d_var (i := 2)) (d_var (i := 1)) (by rfl))))) (dss_cons (ds_if (dt_cmp od_isN (d_fld K_ProgramReader.cl K_ProgramReader.f_fault (d_var (i := 0))) d_non (nomark _)) (dss_one (ds_fld K_ProgramReader.cl K_ProgramReader.f_fault (d_fld K_ProgramReader.cl K_ProgramReader.f_place (d_var (i := 0))) (d_var (i := 0)))) dss_nil)
    (dss_one (ds_ret d_str))) dss_nil)
    (dss_cons (ds_fldAug K_ProgramReader.cl K_ProgramReader.f_place ip_plus (d_var (i := 0)) d_int)
    (dss_one (ds_ret (d_var (i := 2)))))))
/-! ProgramReader_enter: 0 self, 1 deep -/
abbrev N_ProgramReader_enter : List Str := ["self", "deep"]
theorem sc_ProgramReader_enter : FnScope N_ProgramReader_enter ["self", "deep"] (defScope s_ProgramReader_enter) := ⟨rfl, rfl, rfl, by decide +kernel, rfl, by decide +kernel, by decide +kernel⟩
def t_ProgramReader_enter (C : Addr) (R : Addr) (Ex : DXK) : DS :=
  (dDrop (dMeth R "take" (sp_rd_take R) noX (dVar 0) (dCons (dIf (dTst (dOp ltD (dVar 1) (dC (.int (8))))) (dC (.str "(")) (dC (.str ""))) dNil)))
theorem b_ProgramReader_enter {P : Program} {w : World} {K : PySem.W.Frag} {mg : Str → Option Value} {base : Heap} {fA C : Addr} {R : Addr} (B : Blt mg)
    (K_ProgramReader : Cl_ProgramReader K R)
    (M_ProgramReader_take : MtD P w K mg base R "take" 2 ["self", "some"] (sp_rd_take R))
    {t_MOST_DEEP : Tok} (c_MOST_DEEP : mg "MOST_DEEP" = some (.int (8) t_MOST_DEEP))
    (cdv : Value) (A : Around) (outer : List Env) (s : Shared) (H : Hp) (E : XK) (c : DC) (Ex : DXK) (hr : Room 2 (A.deeper (envOfC "ProgramReader.enter" (defScope s_ProgramReader_enter) s.heap.objs.size fA cdv))) (ok : XOk (cxOf (L2.CX P w) P w K mg base N_ProgramReader_enter "ProgramReader.enter" (defScope s_ProgramReader_enter) fA cdv A outer s H E) c Ex) :
    PSs (cxOf (L2.CX P w) P w K mg base N_ProgramReader_enter "ProgramReader.enter" (defScope s_ProgramReader_enter) fA cdv A outer s H E) (defBody s_ProgramReader_enter) (lS K c (t_ProgramReader_enter C R Ex)) :=
  (dss_one (ds_expr (d_meth K_ProgramReader.cl M_ProgramReader_take (hr.mono (by decide)) xok0 (d_var (i := 0)) (da_cons (d_ifExp (dt_cmp od_lt (d_var (i := 1)) (d_gint c_MOST_DEEP) (nomark _)) d_str d_str) da_nil))))
/-! ProgramReader_read_block: 0 self, 1 deep, 2 ends, 3 found -/
abbrev N_ProgramReader_read_block : List Str := ["self", "deep", "ends", "found"]
theorem sc_ProgramReader_read_block : FnScope N_ProgramReader_read_block ["self", "deep", "ends"] (defScope s_ProgramReader_read_block) := ⟨rfl, rfl, rfl, by decide +kernel, rfl, by decide +kernel, by decide +kernel⟩
def t_ProgramReader_read_block_1 (C : Addr) (spS : DSp) (R : Addr) (Ex : DXK) : DS :=
  (dDrop (dM1 appF (dVar 3) (dMeth R "read_statement" spS noX (dVar 0) (dCons (dVar 1) dNil))))
def t_ProgramReader_read_block (C : Addr) (spS : DSp) (R : Addr) (Ex : DXK) : DS :=
  (dSeq (dAsg (dLstM dNil) (.name 3)) (dSeq (dWhile (dAnd (dTst (dOp isND (dFld R "fault" (dVar 0)) (dC .non))) (dAnd (dTst (dOp neD (dMeth R "peek" (sp_rd_peek R) noX (dVar 0) dNil) (dC (.str "")))) (dTst (dOp ninD (dMeth R "peek" (sp_rd_peek R) noX (dVar 0) dNil) (dVar 2))))) (t_ProgramReader_read_block_1 C spS R Ex)) (dRet (dF1 tupF (dVar 3)))))
theorem b_ProgramReader_read_block {P : Program} {w : World} {K : PySem.W.Frag} {mg : Str → Option Value} {base : Heap} {fA C : Addr} {spS : DSp} {R : Addr} {j : Nat} (B : Blt mg)
    (K_ProgramReader : Cl_ProgramReader K R)
    (M_ProgramReader_peek : MtD P w K mg base R "peek" j ["self"] (sp_rd_peek R))
    (M_ProgramReader_read_statement : MtD P w K mg base R "read_statement" j ["self", "deep"] spS)
    (cdv : Value) (A : Around) (outer : List Env) (s : Shared) (H : Hp) (E : XK) (c : DC) (Ex : DXK) (hr : Room j (A.deeper (envOfC "ProgramReader.read_block" (defScope s_ProgramReader_read_block) s.heap.objs.size fA cdv))) (ok : XOk (cxOf (L2.CX P w) P w K mg base N_ProgramReader_read_block "ProgramReader.read_block" (defScope s_ProgramReader_read_block) fA cdv A outer s H E) c Ex) :
    PSs (cxOf (L2.CX P w) P w K mg base N_ProgramReader_read_block "ProgramReader.read_block" (defScope s_ProgramReader_read_block) fA cdv A outer s H E) (defBody s_ProgramReader_read_block) (lS K c (t_ProgramReader_read_block C spS R Ex)) :=
  (dss_cons (ds_set (i := 3) sc_ProgramReader_read_block.nd (d_lstM da_nil))
    (dss_cons (ds_while (passes_of rfl) (PW.pt (dw_and (dt_cmp od_isN (d_fld K_ProgramReader.cl K_ProgramReader.f_fault (d_var (i := 0))) d_non (nomark _)) (dw_and (dt_cmp (od_ne hr.units) (d_meth0 K_ProgramReader.cl M_ProgramReader_peek hr xok0 (d_var (i := 0))) d_str (nomark _)) (dw_and1 (dt_cmp (od_nin (hu65 hr)) (d_meth0 K_ProgramReader.cl M_ProgramReader_peek hr xok0 (d_var (i := 0))) (d_var (i := 2)) (by rfl)))))) (dss_one (ds_expr (d_append (d_var (i := 3)) (d_meth K_ProgramReader.cl M_ProgramReader_read_statement hr xok0 (d_var (i := 0)) (da_cons (d_var (i := 1)) da_nil))))))
    (dss_one (ds_ret (dl_tuple B (d_var (i := 3)))))))
/-! ProgramReader_read_statement: 0 self, 1 deep, 2 start, 3 own, 4 times, 5 block -/
abbrev N_ProgramReader_read_statement : List Str := ["self", "deep", "start", "own", "times", "block"]
theorem sc_ProgramReader_read_statement : FnScope N_ProgramReader_read_statement ["self", "deep"] (defScope s_ProgramReader_read_statement) := ⟨rfl, rfl, rfl, by decide +kernel, rfl, by decide +kernel, by decide +kernel⟩
def t_ProgramReader_read_statement_1 (C : Addr) (spB : DSp) (spT : DSp) (R : Addr) (Ex : DXK) : DS :=
  (dRet (dTup (dCons (dVar 3) dNil)))
def t_ProgramReader_read_statement_2 (C : Addr) (spB : DSp) (spT : DSp) (R : Addr) (Ex : DXK) : DS :=
  (dRet (dTup (dCons (dC (.str "@")) (dCons (dF1 lenF (dFld R "loops" (dVar 0))) (dCons (dVar 5) dNil)))))
def t_ProgramReader_read_statement_3 (C : Addr) (spB : DSp) (spT : DSp) (R : Addr) (Ex : DXK) : DS :=
  (dDrop (dM1 appF (dFld R "loops" (dVar 0)) (dTup (dCons (dVar 2) (dCons (dVar 5) dNil)))))
def t_ProgramReader_read_statement_4 (C : Addr) (spB : DSp) (spT : DSp) (R : Addr) (Ex : DXK) : DS :=
  (dDrop (dMeth R "take" (sp_rd_take R) noX (dVar 0) (dCons (dC (.str ")")) dNil)))
def t_ProgramReader_read_statement_5 (C : Addr) (spB : DSp) (spT : DSp) (R : Addr) (Ex : DXK) : DS :=
  (dAsg (dMeth R "read_block" spB noX (dVar 0) (dCons (dOp addD (dVar 1) (dC (.int 1))) (dCons (dC (.str ")")) dNil))) (.name 5))
def t_ProgramReader_read_statement_6 (C : Addr) (spB : DSp) (spT : DSp) (R : Addr) (Ex : DXK) : DS :=
  (dDrop (dMeth R "enter" (sp_rd_enter R) noX (dVar 0) (dCons (dVar 1) dNil)))
def t_ProgramReader_read_statement_7 (C : Addr) (spB : DSp) (spT : DSp) (R : Addr) (Ex : DXK) : DS :=
  (dIfS (dTst (dOp eqD (dVar 3) (dC (.str "@")))) (dSeq (t_ProgramReader_read_statement_6 C spB spT R Ex) (dSeq (t_ProgramReader_read_statement_5 C spB spT R Ex) (dSeq (t_ProgramReader_read_statement_4 C spB spT R Ex) (dSeq (t_ProgramReader_read_statement_3 C spB spT R Ex) (t_ProgramReader_read_statement_2 C spB spT R Ex))))) dNext)
def t_ProgramReader_read_statement_8 (C : Addr) (spB : DSp) (spT : DSp) (R : Addr) (Ex : DXK) : DS :=
  (dRet (dTup (dCons (dC (.str "*")) (dCons (dVar 4) (dCons (dVar 5) dNil)))))
def t_ProgramReader_read_statement_9 (C : Addr) (spB : DSp) (spT : DSp) (R : Addr) (Ex : DXK) : DS :=
  (dDrop (dMeth R "take" (sp_rd_take R) noX (dVar 0) (dCons (dC (.str ")")) dNil)))
def t_ProgramReader_read_statement_10 (C : Addr) (spB : DSp) (spT : DSp) (R : Addr) (Ex : DXK) : DS :=
  (dAsg (dMeth R "read_block" spB noX (dVar 0) (dCons (dOp addD (dVar 1) (dC (.int 1))) (dCons (dC (.str ")")) dNil))) (.name 5))
def t_ProgramReader_read_statement_11 (C : Addr) (spB : DSp) (spT : DSp) (R : Addr) (Ex : DXK) : DS :=
  (dDrop (dMeth R "enter" (sp_rd_enter R) noX (dVar 0) (dCons (dVar 1) dNil)))
def t_ProgramReader_read_statement_12 (C : Addr) (spB : DSp) (spT : DSp) (R : Addr) (Ex : DXK) : DS :=
  (dAsg (dMeth R "take" (sp_rd_take R) noX (dVar 0) (dCons (dC (.str "23456789")) dNil)) (.name 4))
def t_ProgramReader_read_statement_13 (C : Addr) (spB : DSp) (spT : DSp) (R : Addr) (Ex : DXK) : DS :=
  (dIfS (dTst (dOp eqD (dVar 3) (dC (.str "*")))) (dSeq (t_ProgramReader_read_statement_12 C spB spT R Ex) (dSeq (t_ProgramReader_read_statement_11 C spB spT R Ex) (dSeq (t_ProgramReader_read_statement_10 C spB spT R Ex) (dSeq (t_ProgramReader_read_statement_9 C spB spT R Ex) (t_ProgramReader_read_statement_8 C spB spT R Ex))))) dNext)
def t_ProgramReader_read_statement_14 (C : Addr) (spB : DSp) (spT : DSp) (R : Addr) (Ex : DXK) : DS :=
  (dIfS (dTst (dOp eqD (dVar 3) (dC (.str "?")))) (dRet (dMeth R "read_test" spT noX (dVar 0) (dCons (dVar 1) dNil))) dNext)
def t_ProgramReader_read_statement_15 (C : Addr) (spB : DSp) (spT : DSp) (R : Addr) (Ex : DXK) : DS :=
  (dAsg (dMeth R "take" (sp_rd_take R) noX (dVar 0) (dCons (dC (.str "swx?*@")) dNil)) (.name 3))
def t_ProgramReader_read_statement_16 (C : Addr) (spB : DSp) (spT : DSp) (R : Addr) (Ex : DXK) : DS :=
  (dAsg (dFld R "place" (dVar 0)) (.name 2))
def t_ProgramReader_read_statement (C : Addr) (spB : DSp) (spT : DSp) (R : Addr) (Ex : DXK) : DS :=
  (dSeq (t_ProgramReader_read_statement_16 C spB spT R Ex) (dSeq (t_ProgramReader_read_statement_15 C spB spT R Ex) (dSeq (t_ProgramReader_read_statement_14 C spB spT R Ex) (dSeq (t_ProgramReader_read_statement_13 C spB spT R Ex) (dSeq (t_ProgramReader_read_statement_7 C spB spT R Ex) (t_ProgramReader_read_statement_1 C spB spT R Ex))))))
theorem b_ProgramReader_read_statement {P : Program} {w : World} {K : PySem.W.Frag} {mg : Str → Option Value} {base : Heap} {fA C : Addr} {spB : DSp} {spT : DSp} {R : Addr} {j : Nat} (B : Blt mg)
    (K_ProgramReader : Cl_ProgramReader K R)
    (M_ProgramReader_take : MtD P w K mg base R "take" j ["self", "some"] (sp_rd_take R))
    (M_ProgramReader_read_block : MtD P w K mg base R "read_block" j ["self", "deep", "ends"] spB)
    (M_ProgramReader_enter : MtD P w K mg base R "enter" j ["self", "deep"] (sp_rd_enter R))
    (M_ProgramReader_read_test : MtD P w K mg base R "read_test" j ["self", "deep"] spT)
    {t_TEST : Tok} (c_TEST : mg "TEST" = some (.str "?" t_TEST))
    {t_REPEAT : Tok} (c_REPEAT : mg "REPEAT" = some (.str "*" t_REPEAT))
    {t_FOREVER : Tok} (c_FOREVER : mg "FOREVER" = some (.str "@" t_FOREVER))
    (cdv : Value) (A : Around) (outer : List Env) (s : Shared) (H : Hp) (E : XK) (c : DC) (Ex : DXK) (hr : Room j (A.deeper (envOfC "ProgramReader.read_statement" (defScope s_ProgramReader_read_statement) s.heap.objs.size fA cdv))) (ok : XOk (cxOf (L2.CX P w) P w K mg base N_ProgramReader_read_statement "ProgramReader.read_statement" (defScope s_ProgramReader_read_statement) fA cdv A outer s H E) c Ex) :
    PSs (cxOf (L2.CX P w) P w K mg base N_ProgramReader_read_statement "ProgramReader.read_statement" (defScope s_ProgramReader_read_statement) fA cdv A outer s H E) (defBody s_ProgramReader_read_statement) (lS K c (t_ProgramReader_read_statement C spB spT R Ex)) :=
  (dss_cons (ds_set (i := 2) sc_ProgramReader_read_statement.nd (d_fld K_ProgramReader.cl K_ProgramReader.f_place (d_var (i := 0))))
    (dss_cons (ds_set (i := 3) sc_ProgramReader_read_statement.nd (d_meth K_ProgramReader.cl M_ProgramReader_take hr xok0 (d_var (i := 0)) (da_cons d_str da_nil)))
    (dss_cons (ds_if (dt_cmp (od_eq hr.units) (d_var (i := 3)) (d_gstr c_TEST) (nomark _)) (dss_one (ds_ret (d_meth K_ProgramReader.cl M_ProgramReader_read_test hr xok0 (d_var (i := 0)) (da_cons (d_var (i := 1)) da_nil)))) dss_nil)
    (dss_cons (ds_if (dt_cmp (od_eq hr.units) (d_var (i := 3)) (d_gstr c_REPEAT) (nomark _)) (dss_cons (ds_set (i := 4) sc_ProgramReader_read_statement.nd (d_meth K_ProgramReader.cl M_ProgramReader_take hr xok0 (d_var (i := 0)) (da_cons d_str da_nil)))
    (dss_cons (ds_expr (d_meth K_ProgramReader.cl M_ProgramReader_enter hr xok0 (d_var (i := 0)) (da_cons (d_var (i := 1)) da_nil)))
    (dss_cons (ds_set (i := 5) sc_ProgramReader_read_statement.nd (d_meth K_ProgramReader.cl M_ProgramReader_read_block hr xok0 (d_var (i := 0)) (da_cons (d_op od_add (d_var (i := 1)) d_int) (da_cons d_str da_nil))))
    (dss_cons (ds_expr (d_meth K_ProgramReader.cl M_ProgramReader_take hr xok0 (d_var (i := 0)) (da_cons d_str da_nil)))
    (dss_one (ds_ret (d_tup (da_cons (d_gstr c_REPEAT) (da_cons (d_var (i := 4)) (da_cons (d_var (i := 5)) da_nil)))))))))) dss_nil)
    (dss_cons (ds_if (dt_cmp (od_eq hr.units) (d_var (i := 3)) (d_gstr c_FOREVER) (nomark _)) (dss_cons (ds_expr (d_meth K_ProgramReader.cl M_ProgramReader_enter hr xok0 (d_var (i := 0)) (da_cons (d_var (i := 1)) da_nil)))
    (dss_cons (ds_set (i := 5) sc_ProgramReader_read_statement.nd (d_meth K_ProgramReader.cl M_ProgramReader_read_block hr xok0 (d_var (i := 0)) (da_cons (d_op od_add (d_var (i := 1)) d_int) (da_cons d_str da_nil))))
    (dss_cons (ds_expr (d_meth K_ProgramReader.cl M_ProgramReader_take hr xok0 (d_var (i := 0)) (da_cons d_str da_nil)))
    (dss_cons (ds_expr (d_append (d_fld K_ProgramReader.cl K_ProgramReader.f_loops (d_var (i := 0))) (d_tup (da_cons (d_var (i := 2)) (da_cons (d_var (i := 5)) da_nil)))))
    (dss_one (ds_ret (d_tup (da_cons (d_gstr c_FOREVER) (da_cons (dl_len B (d_fld K_ProgramReader.cl K_ProgramReader.f_loops (d_var (i := 0)))) (da_cons (d_var (i := 5)) da_nil)))))))))) dss_nil)
    (dss_one (ds_ret (d_tup (da_cons (d_var (i := 3)) da_nil)))))))))
/-! ProgramReader_read_test: 0 self, 1 deep, 2 mark, 3 first, 4 second -/
abbrev N_ProgramReader_read_test : List Str := ["self", "deep", "mark", "first", "second"]
theorem sc_ProgramReader_read_test : FnScope N_ProgramReader_read_test ["self", "deep"] (defScope s_ProgramReader_read_test) := ⟨rfl, rfl, rfl, by decide +kernel, rfl, by decide +kernel, by decide +kernel⟩
def t_ProgramReader_read_test_1 (C : Addr) (spB : DSp) (R : Addr) (Ex : DXK) : DS :=
  (dRet (dTup (dCons (dC (.str "?")) (dCons (dVar 2) (dCons (dVar 3) (dCons (dVar 4) dNil))))))
def t_ProgramReader_read_test_2 (C : Addr) (spB : DSp) (R : Addr) (Ex : DXK) : DS :=
  (dDrop (dMeth R "take" (sp_rd_take R) noX (dVar 0) (dCons (dC (.str ")")) dNil)))
def t_ProgramReader_read_test_3 (C : Addr) (spB : DSp) (R : Addr) (Ex : DXK) : DS :=
  (dAsg (dMeth R "read_block" spB noX (dVar 0) (dCons (dOp addD (dVar 1) (dC (.int 1))) (dCons (dC (.str ")")) dNil))) (.name 4))
def t_ProgramReader_read_test_4 (C : Addr) (spB : DSp) (R : Addr) (Ex : DXK) : DS :=
  (dDrop (dMeth R "take" (sp_rd_take R) noX (dVar 0) (dCons (dC (.str "|")) dNil)))
def t_ProgramReader_read_test_5 (C : Addr) (spB : DSp) (R : Addr) (Ex : DXK) : DS :=
  (dAsg (dMeth R "read_block" spB noX (dVar 0) (dCons (dOp addD (dVar 1) (dC (.int 1))) (dCons (dC (.str "|)")) dNil))) (.name 3))
def t_ProgramReader_read_test_6 (C : Addr) (spB : DSp) (R : Addr) (Ex : DXK) : DS :=
  (dDrop (dMeth R "enter" (sp_rd_enter R) noX (dVar 0) (dCons (dVar 1) dNil)))
def t_ProgramReader_read_test_7 (C : Addr) (spB : DSp) (R : Addr) (Ex : DXK) : DS :=
  (dAsg (dMeth R "take" (sp_rd_take R) noX (dVar 0) (dCons (dC (.str ".1#!")) dNil)) (.name 2))
def t_ProgramReader_read_test (C : Addr) (spB : DSp) (R : Addr) (Ex : DXK) : DS :=
  (dSeq (t_ProgramReader_read_test_7 C spB R Ex) (dSeq (t_ProgramReader_read_test_6 C spB R Ex) (dSeq (t_ProgramReader_read_test_5 C spB R Ex) (dSeq (t_ProgramReader_read_test_4 C spB R Ex) (dSeq (t_ProgramReader_read_test_3 C spB R Ex) (dSeq (t_ProgramReader_read_test_2 C spB R Ex) (t_ProgramReader_read_test_1 C spB R Ex)))))))
theorem b_ProgramReader_read_test {P : Program} {w : World} {K : PySem.W.Frag} {mg : Str → Option Value} {base : Heap} {fA C : Addr} {spB : DSp} {R : Addr} {j : Nat} (B : Blt mg)
    (K_ProgramReader : Cl_ProgramReader K R)
    (M_ProgramReader_take : MtD P w K mg base R "take" j ["self", "some"] (sp_rd_take R))
    (M_ProgramReader_read_block : MtD P w K mg base R "read_block" j ["self", "deep", "ends"] spB)
    (M_ProgramReader_enter : MtD P w K mg base R "enter" j ["self", "deep"] (sp_rd_enter R))
    {t_MARKS : Tok} (c_MARKS : mg "MARKS" = some (.str ".1#!" t_MARKS))
    {t_TEST : Tok} (c_TEST : mg "TEST" = some (.str "?" t_TEST))
    (cdv : Value) (A : Around) (outer : List Env) (s : Shared) (H : Hp) (E : XK) (c : DC) (Ex : DXK) (hr : Room j (A.deeper (envOfC "ProgramReader.read_test" (defScope s_ProgramReader_read_test) s.heap.objs.size fA cdv))) (ok : XOk (cxOf (L2.CX P w) P w K mg base N_ProgramReader_read_test "ProgramReader.read_test" (defScope s_ProgramReader_read_test) fA cdv A outer s H E) c Ex) :
    PSs (cxOf (L2.CX P w) P w K mg base N_ProgramReader_read_test "ProgramReader.read_test" (defScope s_ProgramReader_read_test) fA cdv A outer s H E) (defBody s_ProgramReader_read_test) (lS K c (t_ProgramReader_read_test C spB R Ex)) :=
  (dss_cons (ds_set (i := 2) sc_ProgramReader_read_test.nd (d_meth K_ProgramReader.cl M_ProgramReader_take hr xok0 (d_var (i := 0)) (da_cons (d_gstr c_MARKS) da_nil)))
    (dss_cons (ds_expr (d_meth K_ProgramReader.cl M_ProgramReader_enter hr xok0 (d_var (i := 0)) (da_cons (d_var (i := 1)) da_nil)))
    (dss_cons (ds_set (i := 3) sc_ProgramReader_read_test.nd (d_meth K_ProgramReader.cl M_ProgramReader_read_block hr xok0 (d_var (i := 0)) (da_cons (d_op od_add (d_var (i := 1)) d_int) (da_cons d_str da_nil))))
    (dss_cons (ds_expr (d_meth K_ProgramReader.cl M_ProgramReader_take hr xok0 (d_var (i := 0)) (da_cons d_str da_nil)))
    (dss_cons (ds_set (i := 4) sc_ProgramReader_read_test.nd (d_meth K_ProgramReader.cl M_ProgramReader_read_block hr xok0 (d_var (i := 0)) (da_cons (d_op od_add (d_var (i := 1)) d_int) (da_cons d_str da_nil))))
    (dss_cons (ds_expr (d_meth K_ProgramReader.cl M_ProgramReader_take hr xok0 (d_var (i := 0)) (da_cons d_str da_nil)))
    (dss_one (ds_ret (d_tup (da_cons (d_gstr c_TEST) (da_cons (d_var (i := 2)) (da_cons (d_var (i := 3)) (da_cons (d_var (i := 4)) da_nil)))))))))))))
/-! ProgramReader_read_all: 0 self, 1 found, 2 idle, 3 start, 4 block -/
abbrev N_ProgramReader_read_all : List Str := ["self", "found", "idle", "start", "block"]
theorem sc_ProgramReader_read_all : FnScope N_ProgramReader_read_all ["self"] (defScope s_ProgramReader_read_all) := ⟨rfl, rfl, rfl, by decide +kernel, rfl, by decide +kernel, by decide +kernel⟩
def t_ProgramReader_read_all (C : Addr) (R : Addr) (Ex : DXK) : DS :=
  (dSeq (dAsg (dMeth R "read_block" (sp_rd_block R 9) noX (dVar 0) (dCons (dC (.int 0)) (dCons (dC (.str "")) dNil))) (.name 1)) (dSeq (dAsg (dLc (dItr (dFld R "loops" (dVar 0))) [3, 4] (.tup [(.name 3), (.name 4)]) (dTru (dCall (sp_can_pass 20) noX (dCons (dVar 4) dNil))) (dVar 3)) (.name 2)) (dSeq (dIfS (dAnd (dTst (dOp isND (dFld R "fault" (dVar 0)) (dC .non))) (dTru (dVar 2))) (dSFld R "fault" (dF1 minLF (dVar 2)) (dVar 0)) dNext) (dRet (dVar 1)))))
theorem b_ProgramReader_read_all {P : Program} {w : World} {K : PySem.W.Frag} {mg : Str → Option Value} {base : Heap} {fA C : Addr} {R : Addr} (B : Blt mg)
    (K_ProgramReader : Cl_ProgramReader K R)
    (F_can_pass : FnD P w K mg base "can_pass" 21 ["block"] (sp_can_pass 20))
    (M_ProgramReader_read_block : MtD P w K mg base R "read_block" 40 ["self", "deep", "ends"] (sp_rd_block R 9))
    (cdv : Value) (A : Around) (outer : List Env) (s : Shared) (H : Hp) (E : XK) (c : DC) (Ex : DXK) (hr : Room 40 (A.deeper (envOfC "ProgramReader.read_all" (defScope s_ProgramReader_read_all) s.heap.objs.size fA cdv))) (ok : XOk (cxOf (L2.CX P w) P w K mg base N_ProgramReader_read_all "ProgramReader.read_all" (defScope s_ProgramReader_read_all) fA cdv A outer s H E) c Ex) :
    PSs (cxOf (L2.CX P w) P w K mg base N_ProgramReader_read_all "ProgramReader.read_all" (defScope s_ProgramReader_read_all) fA cdv A outer s H E) (defBody s_ProgramReader_read_all) (lS K c (t_ProgramReader_read_all C R Ex)) :=
  (dss_cons (ds_set (i := 1) sc_ProgramReader_read_all.nd (d_meth K_ProgramReader.cl M_ProgramReader_read_block (hr.mono (by decide)) xok0 (d_var (i := 0)) (da_cons d_int (da_cons d_str da_nil))))
    (dss_cons (ds_setLc (i := 2) (own := [("start", 3), ("block", 4)]) rfl sc_ProgramReader_read_all.nd (di_any (d_fld K_ProgramReader.cl K_ProgramReader.f_loops (d_var (i := 0)))) (blkOk_by (by first | rfl | decide +kernel)) (fun _ _ _ _ _ _ => (g_tup rfl (gs_cons (g_name (i := 3) sc_ProgramReader_read_all.nd) (gs_cons (g_name (i := 4) sc_ProgramReader_read_all.nd) gs_nil)))) (fun _ _ _ _ _ _ => (dts_one (dt_tru (d_call F_can_pass (hr.mono (by decide)) xok0 (da_cons (d_var (i := 4)) da_nil))))) (fun _ _ _ _ _ _ => (d_var (i := 3))) (by exact sw_true rfl rfl rfl rfl))
    (dss_cons (ds_if (PW.pt (dw_and (dt_cmp od_isN (d_fld K_ProgramReader.cl K_ProgramReader.f_fault (d_var (i := 0))) d_non (nomark _)) (dw_and1 (dt_tru (d_var (i := 2)))))) (dss_one (ds_fld K_ProgramReader.cl K_ProgramReader.f_fault (dl_minL B rfl (d_var (i := 2))) (d_var (i := 0)))) dss_nil)
    (dss_one (ds_ret (d_var (i := 1)))))))

end KL

end

section
set_option Elab.async false
set_option linter.all false
set_option maxRecDepth 100000
set_option maxHeartbeats 1000000
open PySem PySem.Spec PyProof.Rows L2 DL
namespace KL
def isStrD : D → Bool
  | .str _ => true
  | _ => false
theorem isa_strD {d : D} {n : Nat} {G : GH} {Q : DK} (h : dat n d = true) (q : Q (.bl (isStrD d)) G) : isa1 "str" d G Q := by
  cases d with
  | non => exact isa_non q
  | bl b => exact isa_bl q
  | int i => exact isa_int q
  | str x => exact isa_str q
  | tup a => exact isa_tup q
  | lst a => exact isa_lst q
  | scr a => cases n <;> cases h
  | ty a => cases n <;> cases h
  | ref a => cases n <;> cases h
theorem pure_need {C : Addr} (ds : List D) (G : GH) (Q : DK) (E : DXK) (h : sp_need C ds G Q E) : t_need C E (fnEnds Q) (startD N_need ds) G := by
  obtain ⟨b, x, rfl, h1, h2⟩ := h
  show t_need C E (fnEnds Q) [some (.bl b), some (.str x)] G
  unfold t_need
  cases b with
  | true =>
    simp only [dSeq, dIfS, dTst, dTru, dNot, dAnd, dOr, dAndV, dOrV, dNotV, dRet, dRetN, dDrop, dAsg, dNext, dBreak, dCont, dVar, getS, dC, dOp, dChain, dF1, dF2, dCall, dCons, dNil, dTup, dLst, dLstM, dIf, dNeg, uNeg, dLc, dLcM, dItr, dZip, dEnum, dRange1, dRange2, dFor, dPut, dAug, dPar2, dPar3, dSl, dPart, dNoPart, dM1, dM0, dCB, on1, isB, setT, setTs, dRaise, dMk, dYes, dLstRg, dRg1, wipeD, dFld, dSFld, dFldAug, dMeth, dMake, dWhile, dRepl, List.set, truD]
    exact fin_nx (h1 rfl)
  | false =>
    simp only [dSeq, dIfS, dTst, dTru, dNot, dAnd, dOr, dAndV, dOrV, dNotV, dRet, dRetN, dDrop, dAsg, dNext, dBreak, dCont, dVar, getS, dC, dOp, dChain, dF1, dF2, dCall, dCons, dNil, dTup, dLst, dLstM, dIf, dNeg, uNeg, dLc, dLcM, dItr, dZip, dEnum, dRange1, dRange2, dFor, dPut, dAug, dPar2, dPar3, dSl, dPart, dNoPart, dM1, dM0, dCB, on1, isB, setT, setTs, dRaise, dMk, dYes, dLstRg, dRg1, wipeD, dFld, dSFld, dFldAug, dMeth, dMake, dWhile, dRepl, List.set, truD]
    exact h2 rfl
theorem pure__law_taken {C : Addr} (ds : List D) (G : GH) (Q : DK) (E : DXK) (h : sp__law_taken ds G Q E) : t__law_taken C E (fnEnds Q) (startD N__law_taken ds) G := by
  obtain ⟨p, many, xs, rfl, h1, h2, hx, ⟨at_, a, b, g⟩, q⟩ := h
  show t__law_taken C E (fnEnds Q) [some (.ref p), some (.int (many : Int)), none, none] G
  unfold t__law_taken
  simp only [dSeq, dIfS, dTst, dTru, dNot, dAnd, dOr, dAndV, dOrV, dNotV, dRet, dRetN, dDrop, dAsg, dNext, dBreak, dCont, dVar, getS, dC, dOp, dChain, dF1, dF2, dCall, dCons, dNil, dTup, dLst, dLstM, dIf, dNeg, uNeg, dLc, dLcM, dItr, dZip, dEnum, dRange1, dRange2, dFor, dPut, dAug, dPar2, dPar3, dSl, dPart, dNoPart, dM1, dM0, dCB, on1, isB, setT, setTs, dRaise, dMk, dYes, dLstRg, dRg1, wipeD, dFld, dSFld, dFldAug, dMeth, dMake, dWhile, dRepl, List.set]
  have hm : (many : Int) ≠ 0 := by omega
  have hC : CDivN 0 (many : Int) := ⟨hm, by omega⟩
  refine ixR g (d := .int b) rfl ?_
  simp only [getS, List.set, truD, isB, i2, TT0, true_and, Bool.not_true, Bool.not_false, Bool.false_eq_true, if_false, if_true, dVar, dC, setT, setTs]
  by_cases hb : 0 < b
  · rw [decide_eq_true hb, if_pos rfl]
    refine ixR g (d := .int b) rfl ?_
    simp only [getS, List.set, truD, isB, i2, TT0, true_and, Bool.not_true, Bool.not_false, Bool.false_eq_true, if_false, if_true, dVar, dC, setT, setTs, intF]
    refine ⟨hm, ?_⟩
    refine ixR g (d := .int b) rfl ?_
    simp only [getS, List.set, truD, isB, i2, TT0, true_and, Bool.not_true, Bool.not_false, Bool.false_eq_true, if_false, if_true, dVar, dC, setT, setTs]
    refine ⟨hC, setR g (j := 3) rfl ?_⟩
    obtain ⟨v, hv, ev⟩ := fmod_many (i := b) h1
    rw [ev]
    exact fin_ret (q v at_ a (b.fdiv (many : Int)) hv)
  · rw [decide_eq_false hb, if_neg Bool.false_ne_true]
    refine ixR g (d := .int (at_ : Int)) rfl ?_
    simp only [addD]
    refine setR g (j := 1) rfl ?_
    have eat : ((at_ : Nat) : Int) + 1 = ((at_ + 1 : Nat) : Int) := by omega
    rw [eat]
    have g1 : (updG G p (rowG xs (at_ + 1) a b)) p = some (rowG xs (at_ + 1) a b) := updG_same
    have key : ∀ (v a1 : Nat) (a2 a3 : Int), v < many → Q (.int (v : Int)) (updG (updG G p (rowG xs (at_ + 1) a b)) p (rowG xs a1 a2 a3)) := fun v a1 a2 a3 hv => by
      rw [updG_updG]
      exact q v a1 a2 a3 hv
    refine ixR g1 (d := .int ((at_ + 1 : Nat) : Int)) rfl ?_
    refine ixR g1 (d := scrD xs) rfl ?_
    refine lenScr ?_
    simp only [getS, List.set, truD, isB, i2, TT0, true_and, Bool.not_true, Bool.not_false, Bool.false_eq_true, if_false, if_true, dVar, dC, setT, setTs]
    have hC48 : ∀ i : Int, CMul i 48271 := fun i => .inr ⟨by decide, by decide⟩
    by_cases hat : xs.length < at_ + 1
    · have e : decide ((xs.length : Int) < ((at_ + 1 : Nat) : Int)) = true := by rw [decide_eq_true_eq]; omega
      rw [e, if_pos rfl]
      refine ixR g1 (d := .int a) rfl ?_
      refine ⟨hC48 a, ?_⟩
      simp only [addD, intF]
      refine ⟨show (2147483647 : Int) ≠ 0 by decide, ?_⟩
      refine setR g1 (j := 2) rfl ?_
      refine ixR (a := [scrD xs, .int ((at_ + 1 : Nat) : Int), .int ((a * 48271 + 11).fmod 2147483647), .int b]) updG_same (d := .int ((a * 48271 + 11).fmod 2147483647)) rfl ?_
      refine ⟨⟨by decide, by decide⟩, ?_⟩
      simp only [intF, getS, List.set, truD, isB, i2, TT0, true_and, Bool.not_true, Bool.not_false, Bool.false_eq_true, if_false, if_true, dVar, dC, setT, setTs]
      refine ⟨hm, ?_⟩
      obtain ⟨v, hv, ev⟩ := fmod_many (i := ((a * 48271 + 11).fmod 2147483647).fdiv 7) h1
      rw [ev]
      exact fin_ret (key v (at_ + 1) ((a * 48271 + 11).fmod 2147483647) b hv)
    · have e : decide ((xs.length : Int) < ((at_ + 1 : Nat) : Int)) = false := by rw [decide_eq_false_iff_not]; omega
      rw [e, if_neg Bool.false_ne_true]
      refine ixR g1 (d := scrD xs) rfl ?_
      refine ixR g1 (d := .int ((at_ + 1 : Nat) : Int)) rfl ?_
      simp only [getS, List.set, truD, isB, i2, TT0, true_and, Bool.not_true, Bool.not_false, Bool.false_eq_true, if_false, if_true, dVar, dC, setT, setTs]
      have eix : ((at_ + 1 : Nat) : Int) - 1 = ((at_ : Nat) : Int) := by omega
      rw [eix]
      have hlt : at_ < xs.xs.length := by
        have e : xs.length = xs.xs.length := rfl
        omega
      refine ixScr hlt ?_
      generalize xs.xs[at_] = cell
      simp only [dSeq, dIfS, dTst, dTru, dNot, dAnd, dOr, dAndV, dOrV, dNotV, dRet, dRetN, dDrop, dAsg, dNext, dBreak, dCont, dVar, getS, dC, dOp, dChain, dF1, dF2, dCall, dCons, dNil, dTup, dLst, dLstM, dIf, dNeg, uNeg, dLc, dLcM, dItr, dZip, dEnum, dRange1, dRange2, dFor, dPut, dAug, dPar2, dPar3, dSl, dPart, dNoPart, dM1, dM0, dCB, on1, isB, setT, setTs, dRaise, dMk, dYes, dLstRg, dRg1, wipeD, dFld, dSFld, dFldAug, dMeth, dMake, dWhile, dRepl, List.set, getS, List.set, truD, isB, i2, TT0, true_and, Bool.not_true, Bool.not_false, Bool.false_eq_true, if_false, if_true, dVar, dC, setT, setTs]
      refine ixR g1 (d := .int a) rfl ?_
      refine ⟨hC48 a, ?_⟩
      simp only [addD, intF]
      refine ⟨show (2147483647 : Int) ≠ 0 by decide, ?_⟩
      refine setR g1 (j := 2) rfl ?_
      have g2 : (updG (updG G p (rowG xs (at_ + 1) a b)) p (.lst ([scrD xs, D.int ((at_ + 1 : Nat) : Int), D.int a, D.int b].set 2 (.int ((a * 48271 + cell + 11).fmod 2147483647))))) p = some (rowG xs (at_ + 1) ((a * 48271 + cell + 11).fmod 2147483647) b) := by rw [updG_same] <;> rfl
      have key2 : ∀ (v : Nat) at_' a' b', v < many → Q (.int (v : Int)) (updG (updG (updG G p (rowG xs (at_ + 1) a b)) p (.lst ([scrD xs, D.int ((at_ + 1 : Nat) : Int), D.int a, D.int b].set 2 (.int ((a * 48271 + cell + 11).fmod 2147483647))))) p (rowG xs at_' a' b')) := fun v a1 a2 a3 hv => by
        rw [updG_updG, updG_updG]
        exact q v a1 a2 a3 hv
      generalize updG (updG G p (rowG xs (at_ + 1) a b)) p (.lst ([scrD xs, D.int ((at_ + 1 : Nat) : Int), D.int a, D.int b].set 2 (.int ((a * 48271 + cell + 11).fmod 2147483647)))) = G2 at g2 key2 ⊢
      have hP : ∀ k : Int, 0 ≤ k → k ≤ 1000000 → CPow 10 k := fun k h1 h2 => ⟨h1, h2, by decide⟩
      refine ⟨hP 18 (by decide) (by decide), ?_⟩
      simp only [getS, List.set, truD, isB, i2, TT0, true_and, Bool.not_true, Bool.not_false, Bool.false_eq_true, if_false, if_true, dVar, dC, setT, setTs]
      obtain ⟨v, hv, ev⟩ := fmod_many (i := cell) h1
      by_cases hc : (10 : Int) ^ (18 : Int).toNat ≤ cell
      · rw [decide_eq_true hc, if_pos rfl]
        refine ⟨hP 90 (by decide) (by decide), ?_⟩
        refine ⟨by decide, ?_⟩
        try simp only [intF, getS, List.set, truD, isB, i2, TT0, true_and, Bool.not_true, Bool.not_false, Bool.false_eq_true, if_false, if_true, dVar, dC, setT, setTs]
        refine ⟨hC, ?_⟩
        refine setR g2 (j := 3) rfl ?_
        refine ⟨hm, ?_⟩
        rw [ev]
        exact fin_ret (key2 v (at_ + 1) _ _ hv)
      · rw [decide_eq_false hc, if_neg Bool.false_ne_true]
        try simp only [intF, getS, List.set, truD, isB, i2, TT0, true_and, Bool.not_true, Bool.not_false, Bool.false_eq_true, if_false, if_true, dVar, dC, setT, setTs]
        refine ⟨hm, ?_⟩
        rw [ev]
        have e : G2 = updG G2 p (rowG xs (at_ + 1) ((a * 48271 + cell + 11).fmod 2147483647) b) := (row_self g2).symm
        rw [e]
        exact fin_ret (key2 v (at_ + 1) _ _ hv)
theorem pure__law_pick {C : Addr} (ds : List D) (G : GH) (Q : DK) (E : DXK) (h : sp__law_pick ds G Q E) : t__law_pick C E (fnEnds Q) (startD N__law_pick ds) G := by
  obtain ⟨p, sm, n, ok, xs, rfl, ⟨h1, h2⟩, hs, hx, g, q⟩ := h
  show t__law_pick C E (fnEnds Q) [some (.ref p), some sm] G
  unfold t__law_pick
  simp only [dSeq, dIfS, dTst, dTru, dNot, dAnd, dOr, dAndV, dOrV, dNotV, dRet, dRetN, dDrop, dAsg, dNext, dBreak, dCont, dVar, getS, dC, dOp, dChain, dF1, dF2, dCall, dCons, dNil, dTup, dLst, dLstM, dIf, dNeg, uNeg, dLc, dLcM, dItr, dZip, dEnum, dRange1, dRange2, dFor, dPut, dAug, dPar2, dPar3, dSl, dPart, dNoPart, dM1, dM0, dCB, on1, isB, setT, setTs, dRaise, dMk, dYes, dLstRg, dRg1, wipeD, dFld, dSFld, dFldAug, dMeth, dMake, dWhile, dRepl, List.set]
  rcases hs with ⟨l, hl, el, hok⟩ | ⟨x, rfl, el, hok⟩
  · rcases hl with rfl | rfl
    · refine lenL ⟨p, n, xs, by rw [el], h1, Nat.le_trans h2 (by decide), hx, g, fun v at_ a b hv => ?_⟩
      have hv : v < l.length := by omega
      have e : l[v]? = some l[v] := List.getElem?_eq_getElem hv
      exact ixL (L2.atI_nat e) (fin_ret (q _ at_ a b (hok _ (List.getElem_mem hv))))
    · refine lenT ⟨p, n, xs, by rw [el], h1, Nat.le_trans h2 (by decide), hx, g, fun v at_ a b hv => ?_⟩
      have hv : v < l.length := by omega
      have e : l[v]? = some l[v] := List.getElem?_eq_getElem hv
      exact ixT (L2.atI_nat e) (fin_ret (q _ at_ a b (hok _ (List.getElem_mem hv))))
  · have e1 : x.cps.toList.length = x.length := by simp [Str.length]
    refine ⟨by rw [sizeL]; omega, ⟨p, n, xs, by rw [el], h1, Nat.le_trans h2 (by decide), hx, g, fun v at_ a b hv => ?_⟩⟩
    have hv : v < x.cps.toList.length := by omega
    have e : x.cps.toList[v]? = some x.cps.toList[v] := List.getElem?_eq_getElem hv
    refine ⟨by rw [sizeL]; omega, ?_⟩
    rw [L2.atI_nat e]
    exact fin_ret (q _ at_ a b (hok _ (List.getElem_mem hv)))
def spUnder : Nat → DSp
  | 0 => spNo
  | n + 1 => sp_alike n
theorem pure__law_alike {C : Addr} (n : Nat) (ds : List D) (G : GH) (Q : DK) (E : DXK) (h : sp_alike n ds G Q E) : t__law_alike C (spUnder n) E (fnEnds Q) (startD N__law_alike ds) G := by
  obtain ⟨d, rfl, hd, q⟩ := h
  show t__law_alike C (spUnder n) E (fnEnds Q) [some d, some d, none] G
  unfold t__law_alike
  simp only [dSeq, dIfS, dTst, dTru, dNot, dAnd, dOr, dAndV, dOrV, dNotV, dRet, dRetN, dDrop, dAsg, dNext, dBreak, dCont, dVar, getS, dC, dOp, dChain, dF1, dF2, dCall, dCons, dNil, dTup, dLst, dLstM, dIf, dNeg, uNeg, dLc, dLcM, dItr, dZip, dEnum, dRange1, dRange2, dFor, dPut, dAug, dPar2, dPar3, dSl, dPart, dNoPart, dM1, dM0, dCB, on1, isB, setT, setTs, dRaise, dMk, dYes, dLstRg, dRg1, wipeD, dFld, dSFld, dFldAug, dMeth, dMake, dWhile, dRepl, List.set]
  refine isa_tuple (alk_ty hd) ?_
  cases d with
  | tup a =>
    cases n with
    | zero => cases hd
    | succ n =>
      have hd : (decide (a.length ≤ datL) && a.all (alk n)) = true := hd
      rw [Bool.and_eq_true, decide_eq_true_eq, List.all_eq_true] at hd
      obtain ⟨hl, ha⟩ := hd
      unfold datL at hl
      simp only [isTup, getS, List.set, truD, isB, i2, TT0, true_and, Bool.not_true, Bool.not_false, Bool.false_eq_true, if_false, if_true, dVar, dC, setT, setTs]
      refine isa_tup ?_
      simp only [isk_tuple_tuple, getS, List.set, truD, isB, i2, TT0, true_and, Bool.not_true, Bool.not_false, Bool.false_eq_true, if_false, if_true, dVar, dC, setT, setTs]
      refine lenT (lenT (neI ?_))
      simp only [getS, List.set, truD, isB, i2, TT0, true_and, Bool.not_true, Bool.not_false, Bool.false_eq_true, if_false, if_true, dVar, dC, setT, setTs, decide_true]
      refine lenT ⟨⟨by omega, by omega⟩, ?_⟩
      refine comp_pure (fun _ => none) trivial _ [] (fun d hd k k0 hk => ?_) ?_ ?_
      · unfold rgD at hd
        obtain ⟨i, hi, rfl⟩ := List.mem_map.mp hd
        rw [Int.toNat_natCast, List.mem_range] at hi
        simp only [dSeq, dIfS, dTst, dTru, dNot, dAnd, dOr, dAndV, dOrV, dNotV, dRet, dRetN, dDrop, dAsg, dNext, dBreak, dCont, dVar, getS, dC, dOp, dChain, dF1, dF2, dCall, dCons, dNil, dTup, dLst, dLstM, dIf, dNeg, uNeg, dLc, dLcM, dItr, dZip, dEnum, dRange1, dRange2, dFor, dPut, dAug, dPar2, dPar3, dSl, dPart, dNoPart, dM1, dM0, dCB, on1, isB, setT, setTs, dRaise, dMk, dYes, dLstRg, dRg1, wipeD, dFld, dSFld, dFldAug, dMeth, dMake, dWhile, dRepl, List.set, getS, List.set, truD, isB, i2, TT0, true_and, Bool.not_true, Bool.not_false, Bool.false_eq_true, if_false, if_true, dVar, dC, setT, setTs, Int.zero_add]
        have e : a[i]? = some a[i] := List.getElem?_eq_getElem hi
        refine ixT (L2.atI_nat e) (ixT (L2.atI_nat e) ?_)
        exact ⟨a[i], rfl, ha _ (List.getElem_mem hi), hk⟩
      · unfold rgD
        rw [List.length_map, List.length_range, Int.toNat_natCast, sizeL, List.length_nil]
        omega
      · refine ⟨by rw [sizeL]; simp, ?_⟩
        have e : ([] ++ (rgD 0 (a.length : Int).toNat).filterMap fun _ => (none : Option D)) = ([] : List D) := by simp
        rw [e]
        exact eq_self 1 (by rfl) (fin_ret q)
  | non =>
    simp only [isTup, getS, List.set, truD, isB, i2, TT0, true_and, Bool.not_true, Bool.not_false, Bool.false_eq_true, if_false, if_true, dVar, dC, setT, setTs, isND, DL.isNon]
    refine eqN ?_
    simp only [getS, List.set, truD, isB, i2, TT0, true_and, Bool.not_true, Bool.not_false, Bool.false_eq_true, if_false, if_true, dVar, dC, setT, setTs]
    exact isa_non (isa_non (eqB (by rw [decide_eq_true rfl]; exact fin_ret q)))
  | str x =>
    simp only [isTup, getS, List.set, truD, isB, i2, TT0, true_and, Bool.not_true, Bool.not_false, Bool.false_eq_true, if_false, if_true, dVar, dC, setT, setTs, isND, DL.isNon]
    refine isa_str ?_
    simp only [isk_str_str, getS, List.set, truD, isB, i2, TT0, true_and, Bool.not_true, Bool.not_false, Bool.false_eq_true, if_false, if_true, dVar, dC, setT, setTs]
    refine eqX ?_
    rw [decide_eq_true rfl]
    simp only [getS, List.set, truD, isB, i2, TT0, true_and, Bool.not_true, Bool.not_false, Bool.false_eq_true, if_false, if_true, dVar, dC, setT, setTs]
    exact isa_str (isa_str (eqB (by rw [decide_eq_true rfl]; exact fin_ret q)))
  | int i =>
    simp only [isTup, getS, List.set, truD, isB, i2, TT0, true_and, Bool.not_true, Bool.not_false, Bool.false_eq_true, if_false, if_true, dVar, dC, setT, setTs, isND, DL.isNon]
    refine isa_int ?_
    simp only [isk_int_str, getS, List.set, truD, isB, i2, TT0, true_and, Bool.not_true, Bool.not_false, Bool.false_eq_true, if_false, if_true, dVar, dC, setT, setTs]
    refine isa_int ?_
    simp only [isk_int_int, getS, List.set, truD, isB, i2, TT0, true_and, Bool.not_true, Bool.not_false, Bool.false_eq_true, if_false, if_true, dVar, dC, setT, setTs]
    refine isa_int (isa_int (eqB ?_))
    rw [decide_eq_true rfl]
    simp only [getS, List.set, truD, isB, i2, TT0, true_and, Bool.not_true, Bool.not_false, Bool.false_eq_true, if_false, if_true, dVar, dC, setT, setTs]
    exact eqI (by rw [decide_eq_true rfl]; exact fin_ret q)
  | bl i =>
    simp only [isTup, getS, List.set, truD, isB, i2, TT0, true_and, Bool.not_true, Bool.not_false, Bool.false_eq_true, if_false, if_true, dVar, dC, setT, setTs, isND, DL.isNon]
    refine isa_bl ?_
    simp only [isk_bool_str, getS, List.set, truD, isB, i2, TT0, true_and, Bool.not_true, Bool.not_false, Bool.false_eq_true, if_false, if_true, dVar, dC, setT, setTs]
    refine isa_bl ?_
    simp only [isk_bool_int, getS, List.set, truD, isB, i2, TT0, true_and, Bool.not_true, Bool.not_false, Bool.false_eq_true, if_false, if_true, dVar, dC, setT, setTs]
    refine isa_bl (isa_bl (eqB ?_))
    rw [decide_eq_true rfl]
    simp only [getS, List.set, truD, isB, i2, TT0, true_and, Bool.not_true, Bool.not_false, Bool.false_eq_true, if_false, if_true, dVar, dC, setT, setTs]
    exact eqB (by rw [decide_eq_true rfl]; exact fin_ret q)
  | lst _ => cases n <;> cases hd
  | scr _ => cases n <;> cases hd
  | ref _ => cases n <;> cases hd
  | ty _ => cases n <;> cases hd
theorem sp_str : ("  " : Str).length = 2 := by decide +kernel
theorem lt_sign (a b : Nat) : decide (([a] : List Nat) < [b]) = decide (a < b) := by
  congr 1; apply propext
  constructor
  · intro h
    cases h with
    | rel h => exact h
    | cons h => cases h
  · intro h; exact .rel h
theorem sg_len (x : Str) : (sg x).length = x.length := by unfold sg; simp [Str.length]
theorem pure_is_program_text {C : Addr} (ds : List D) (G : GH) (Q : DK) (E : DXK) (h : sp_is_program_text ds G Q E) : t_is_program_text C E (fnEnds Q) (startD N_is_program_text ds) G := by
  obtain ⟨d, n, rfl, hd, hs, q⟩ := h
  show t_is_program_text C E (fnEnds Q) [some d, none] G
  unfold t_is_program_text
  simp only [dSeq, dIfS, dTst, dTru, dNot, dAnd, dOr, dAndV, dOrV, dNotV, dRet, dRetN, dDrop, dAsg, dNext, dBreak, dCont, dVar, getS, dC, dOp, dChain, dF1, dF2, dCall, dCons, dNil, dTup, dLst, dLstM, dIf, dNeg, uNeg, dLc, dLcM, dItr, dZip, dEnum, dRange1, dRange2, dFor, dPut, dAug, dPar2, dPar3, dSl, dPart, dNoPart, dM1, dM0, dCB, on1, isB, setT, setTs, dRaise, dMk, dYes, dLstRg, dRg1, wipeD, dFld, dSFld, dFldAug, dMeth, dMake, dWhile, dRepl, List.set]
  refine isa_strD hd ?_
  cases d with
  | str x =>
    simp only [isStrD, getS, List.set, truD, isB, i2, TT0, true_and, Bool.not_true, Bool.not_false, Bool.false_eq_true, if_false, if_true, dVar, dC, setT, setTs]
    have hl : x.length ≤ datL := hs x rfl
    unfold datL at hl
    refine ⟨by rw [sizeL]; omega, ?_⟩
    simp only [leD, getS, List.set, truD, isB, i2, TT0, true_and, Bool.not_true, Bool.not_false, Bool.false_eq_true, if_false, if_true, dVar, dC, setT, setTs]
    have q : (fnEnds Q).rt (.bl (decide (x.length ≤ 600) && (sg x).all fun c => decide (32 ≤ c) && decide (c ≤ 126))) G := fin_ret q
    by_cases h6 : x.length ≤ 600
    · rw [show decide ((x.length : Int) ≤ 600) = true by rw [decide_eq_true_eq]; omega]
      rw [decide_eq_true h6, Bool.true_and] at q
      simp only [getS, List.set, truD, isB, i2, TT0, true_and, Bool.not_true, Bool.not_false, Bool.false_eq_true, if_false, if_true, dVar, dC, setT, setTs]
      simp only [itD]
      refine comp_each (fun c : Nat => .str ⟨#[c]⟩) (fun c => .bl (decide (32 ≤ c) && decide (c ≤ 126))) (sg x) trivial (fun c _ k hk => ?_) ?_ ?_
      · simp only [dSeq, dIfS, dTst, dTru, dNot, dAnd, dOr, dAndV, dOrV, dNotV, dRet, dRetN, dDrop, dAsg, dNext, dBreak, dCont, dVar, getS, dC, dOp, dChain, dF1, dF2, dCall, dCons, dNil, dTup, dLst, dLstM, dIf, dNeg, uNeg, dLc, dLcM, dItr, dZip, dEnum, dRange1, dRange2, dFor, dPut, dAug, dPar2, dPar3, dSl, dPart, dNoPart, dM1, dM0, dCB, on1, isB, setT, setTs, dRaise, dMk, dYes, dLstRg, dRg1, wipeD, dFld, dSFld, dFldAug, dMeth, dMake, dWhile, dRepl, List.set, List.set, leSD]
        have e1 : decide ((⟨#[c]⟩ : Str).cps.toList < (" " : Str).cps.toList) = decide (c < 32) := lt_sign c 32
        have e2 : decide (("~" : Str).cps.toList < (⟨#[c]⟩ : Str).cps.toList) = decide (126 < c) := lt_sign 126 c
        rw [e1]
        by_cases h1 : 32 ≤ c
        · rw [decide_eq_false (show ¬ c < 32 by omega)]
          simp only [getS, List.set, truD, isB, i2, TT0, true_and, Bool.not_true, Bool.not_false, Bool.false_eq_true, if_false, if_true, dVar, dC, setT, setTs]
          rw [e2]
          rw [decide_eq_true h1, Bool.true_and] at hk
          have e3 : (!decide (126 < c)) = decide (c ≤ 126) := by
            by_cases h2 : c ≤ 126
            · rw [decide_eq_true h2, decide_eq_false (by omega)] <;> rfl
            · rw [decide_eq_false h2, decide_eq_true (by omega)] <;> rfl
          rw [e3]
          exact hk
        · rw [decide_eq_true (show c < 32 by omega)]
          rw [decide_eq_false h1, Bool.false_and] at hk
          simp only [getS, List.set, truD, isB, i2, TT0, true_and, Bool.not_true, Bool.not_false, Bool.false_eq_true, if_false, if_true, dVar, dC, setT, setTs]
          exact hk
      · rw [sg_len, sizeL]; omega
      · refine ⟨(sg x).map fun c => decide (32 ≤ c) && decide (c ≤ 126), by rw [List.map_map] <;> rfl, ?_⟩
        rw [List.all_map]
        exact q
    · rw [show decide ((x.length : Int) ≤ 600) = false by rw [decide_eq_false_iff_not]; omega]
      rw [decide_eq_false h6, Bool.false_and] at q
      simp only [getS, List.set, truD, isB, i2, TT0, true_and, Bool.not_true, Bool.not_false, Bool.false_eq_true, if_false, if_true, dVar, dC, setT, setTs]
      exact q
  | _ =>
    simp only [isStrD, getS, List.set, truD, isB, i2, TT0, true_and, Bool.not_true, Bool.not_false, Bool.false_eq_true, if_false, if_true, dVar, dC, setT, setTs]
    exact fin_ret q
/-! ### where a text's reading stands -/
theorem drop_at {cs : List Nat} {n c : Nat} (h : cs[n]? = some c) : cs.drop n = c :: cs.drop (n + 1) := by
  obtain ⟨h1, h2⟩ := List.getElem?_eq_some_iff.mp h
  rw [List.drop_eq_getElem_cons h1, h2]
theorem drop_out {cs : List Nat} {n : Nat} (h : cs[n]? = none) : cs.drop n = [] := List.drop_eq_nil_of_le (List.getElem?_eq_none_iff.mp h)
theorem skp_blank {cs : List Nat} {n : Nat} (h : cs[n]? = some 32) : skp cs n = skp cs (n + 1) := by
  unfold skp
  rw [drop_at h, List.takeWhile_cons]
  simp
  omega
theorem skp_here {cs : List Nat} {n : Nat} (h : cs[n]? ≠ some 32) : skp cs n = n := by
  unfold skp
  cases e : cs[n]? with
  | none => rw [drop_out e] <;> rfl
  | some c =>
    rw [drop_at e, List.takeWhile_cons]
    have : ¬ c = 32 := fun z => h (by rw [e, z])
    simp [this]
theorem skp_ge (cs : List Nat) (n : Nat) : n ≤ skp cs n := Nat.le_add_right _ _
theorem skp_le {cs : List Nat} {n : Nat} (h : n ≤ cs.length) : skp cs n ≤ cs.length := by
  unfold skp
  have := (List.takeWhile_sublist (p := fun c => decide (c = 32)) (l := cs.drop n)).length_le
  rw [List.length_drop] at this
  omega
theorem skp_non {cs : List Nat} : ∀ (m n : Nat), cs.length ≤ n + m → cs[skp cs n]? ≠ some 32 := fun m => by
  induction m with
  | zero =>
    intro n h
    have e : cs[n]? = none := List.getElem?_eq_none_iff.mpr (by omega)
    rw [skp_here (by rw [e]; simp), e]
    simp
  | succ m ih =>
    intro n h
    by_cases hn : cs[n]? = some 32
    · rw [skp_blank hn]
      exact ih (n + 1) (by omega)
    · rw [skp_here hn]
      exact hn
theorem skp_not (cs : List Nat) (n : Nat) : cs[skp cs n]? ≠ some 32 := skp_non cs.length n (by omega)
theorem skp_skp (cs : List Nat) (n : Nat) : skp cs (skp cs n) = skp cs n := skp_here (skp_not cs n)
end KL


end

section
set_option Elab.async false
set_option linter.all false
set_option maxRecDepth 100000
set_option maxHeartbeats 1000000
open PySem PySem.Spec PyProof.Rows L2 DL
namespace KL
/-! ### a reader's fields -/
section
variable {R p l : Addr} {x : Str} {s s' : RS} {G : GH}
theorem rd_set (h : p ≠ l) : Rd R x p l s (setRd R x p l s G) := ⟨h, if_pos rfl, by unfold setRd; rw [if_neg h.symm, if_pos rfl]⟩
theorem set_set : setRd R x p l s' (setRd R x p l s G) = setRd R x p l s' G := by
  funext a
  unfold setRd
  split
  · rfl
  · split <;> rfl
theorem set_self (h : Rd R x p l s G) : setRd R x p l s G = G := by
  funext a
  unfold setRd
  split
  · rename_i e; rw [e, h.p]
  · split
    · rename_i e; rw [e, h.l]
    · rfl
theorem upd_rd (h : Rd R x p l s G) (e : s'.lp = s.lp) : updG G p (rdG R x l s') = setRd R x p l s' G := by
  funext a
  unfold updG setRd
  split
  · rfl
  · split
    · rename_i ea; rw [ea, h.l]; unfold lpG; rw [e]
    · rfl
theorem upd_lp (h : Rd R x p l s G) {z : Nat × PB} : updG G l (.lst (s.lp.map encLp ++ [encLp z])) = setRd R x p l { s with lp := s.lp ++ [z] } G := by
  funext a
  unfold updG setRd
  split
  · rename_i e
    rw [if_neg (by rw [e]; exact h.ne.symm)]
    unfold lpG
    rw [List.map_append] <;> rfl
  · split
    · rename_i ea; rw [ea, h.p] <;> rfl
    · rfl
theorem insR {fs : List (Str × D)} {k : Addr → List (Str × D) → Prop} (h : G p = some (.ins R fs)) (q : k p fs) : insG R (.ref p) G k := by
  show (match G p with | some (.ins C' fs) => C' = R ∧ k p fs | _ => False)
  rw [h]
  exact ⟨rfl, q⟩
def fsR (x : Str) (l : Addr) (s : RS) : List (Str × D) := [("source", .str x), ("place", .int (s.pl : Int)), ("fault", optN s.ft), ("loops", .ref l)]
theorem lk_source : (fsR x l s).lookup ("source" : Str) = some (.str x) := rfl
theorem lk_place : (fsR x l s).lookup ("place" : Str) = some (.int (s.pl : Int)) := rfl
theorem lk_fault : (fsR x l s).lookup ("fault" : Str) = some (optN s.ft) := rfl
theorem lk_loops : (fsR x l s).lookup ("loops" : Str) = some (.ref l) := rfl
theorem pt_place {n : Nat} : putG "place" (.int (n : Int)) (fsR x l s) = fsR x l { s with pl := n } := rfl
theorem pt_fault {o : Option Nat} : putG "fault" (optN o) (fsR x l s) = fsR x l { s with ft := o } := rfl
abbrev getF (f : Str) (k : D → Prop) : Addr → List (Str × D) → Prop := fun _ fs => match fs.lookup f with
  | some e => k e
  | none => False
theorem f_source {k : D → Prop} (h : Rd R x p l s G) (q : k (.str x)) : insG R (.ref p) G (getF "source" k) := insR h.p (by show getF "source" k p (fsR x l s); unfold getF; rw [lk_source]; exact q)
theorem f_place {k : D → Prop} (h : Rd R x p l s G) (q : k (.int (s.pl : Int))) : insG R (.ref p) G (getF "place" k) := insR h.p (by show getF "place" k p (fsR x l s); unfold getF; rw [lk_place]; exact q)
theorem f_fault {k : D → Prop} (h : Rd R x p l s G) (q : k (optN s.ft)) : insG R (.ref p) G (getF "fault" k) := insR h.p (by show getF "fault" k p (fsR x l s); unfold getF; rw [lk_fault]; exact q)
theorem f_loops {k : D → Prop} (h : Rd R x p l s G) (q : k (.ref l)) : insG R (.ref p) G (getF "loops" k) := insR h.p (by show getF "loops" k p (fsR x l s); unfold getF; rw [lk_loops]; exact q)
theorem u_place (h : Rd R x p l s G) (n : Nat) : updG G p (.ins R (putG "place" (.int (n : Int)) [("source", .str x), ("place", .int (s.pl : Int)), ("fault", optN s.ft), ("loops", .ref l)])) = setRd R x p l { s with pl := n } G := upd_rd (s' := { s with pl := n }) h rfl
theorem u_fault (h : Rd R x p l s G) (o : Option Nat) : updG G p (.ins R (putG "fault" (optN o) [("source", .str x), ("place", .int (s.pl : Int)), ("fault", optN s.ft), ("loops", .ref l)])) = setRd R x p l { s with ft := o } G := upd_rd (s' := { s with ft := o }) h rfl
end
theorem isN_opt (o : Option Nat) : isNon (optN o) = decide (o = none) := by cases o <;> rfl
theorem str_at {x : Str} {n : Nat} {G : GH} {Q : DK} {c : Nat} (hx : x.length ≤ 1000) (h : (sg x)[n]? = some c) (q : Q (.str ⟨#[c]⟩) G) : ixD (.str x) (.int (n : Int)) G Q := by
  refine ⟨by rw [sizeL]; omega, ?_⟩
  rw [L2.atI_nat (show x.cps.toList[n]? = some c from h)]
  exact q
theorem sign_eq (a b : Nat) : decide ((⟨#[a]⟩ : Str) = ⟨#[b]⟩) = decide (a = b) := by
  congr 1; apply propext
  constructor
  · intro h; injection h with h; injection h with h; injection h
  · intro h; rw [h]
theorem inS {neg : Bool} {c : Nat} {y : Str} {G : GH} {Q : DK} (q : Q (.bl (decide (c ∈ sg y) ^^ neg)) G) : inQ neg (.str ⟨#[c]⟩) (.str y) G Q := q
/-! ### peek -/
theorem pure_ProgramReader_peek {C R : Addr} (ds : List D) (G : GH) (Q : DK) (E : DXK) (h : sp_rd_peek R ds G Q E) : t_ProgramReader_peek C R E (fnEnds Q) (startD N_ProgramReader_peek ds) G := by
  obtain ⟨p, l, x, s, rfl, h, hI, q⟩ := h
  show t_ProgramReader_peek C R E (fnEnds Q) [some (.ref p)] G
  unfold t_ProgramReader_peek t_ProgramReader_peek_1
  simp only [dSeq, dIfS, dTst, dTru, dNot, dAnd, dOr, dAndV, dOrV, dNotV, dRet, dRetN, dDrop, dAsg, dNext, dBreak, dCont, dVar, getS, dC, dOp, dChain, dF1, dF2, dCall, dCons, dNil, dTup, dLst, dLstM, dIf, dNeg, uNeg, dLc, dLcM, dItr, dZip, dEnum, dRange1, dRange2, dFor, dPut, dAug, dPar2, dPar3, dSl, dPart, dNoPart, dM1, dM0, dCB, on1, isB, setT, setTs, dRaise, dMk, dYes, dLstRg, dRg1, wipeD, dFld, dSFld, dFldAug, dMeth, dMake, dWhile, dRepl, List.set]
  have hsz := hI.sz
  refine ⟨fun m ρ G' => ∃ n, m = x.length - n ∧ n ≤ x.length ∧ skp (sg x) n = skp (sg x) s.pl ∧ ρ = [some (.ref p)] ∧ G' = setRd R x p l { s with pl := n } G, ⟨_, s.pl, rfl, hI.pl, rfl, rfl, ?_⟩, ?_⟩
  · exact (set_self h).symm
  · rintro m ρ G' ⟨n, rfl, hn, hk, rfl, rfl⟩
    have h' : Rd R x p l { s with pl := n } (setRd R x p l { s with pl := n } G) := rd_set h.ne
    simp only [dSeq, dIfS, dTst, dTru, dNot, dAnd, dOr, dAndV, dOrV, dNotV, dRet, dRetN, dDrop, dAsg, dNext, dBreak, dCont, dVar, getS, dC, dOp, dChain, dF1, dF2, dCall, dCons, dNil, dTup, dLst, dLstM, dIf, dNeg, uNeg, dLc, dLcM, dItr, dZip, dEnum, dRange1, dRange2, dFor, dPut, dAug, dPar2, dPar3, dSl, dPart, dNoPart, dM1, dM0, dCB, on1, isB, setT, setTs, dRaise, dMk, dYes, dLstRg, dRg1, wipeD, dFld, dSFld, dFldAug, dMeth, dMake, dWhile, dRepl, List.set]
    refine f_place h' ?_
    refine f_source h' ?_
    refine ⟨by rw [sizeL]; omega, ?_⟩
    simp only [ltD, getS, List.set, truD, isB, i2, TT0, true_and, Bool.not_true, Bool.not_false, Bool.false_eq_true, if_false, if_true, dVar, dC, setT, setTs]
    by_cases hlt : n < x.length
    · rw [show decide ((n : Int) < (x.length : Int)) = true by rw [decide_eq_true_eq]; omega]
      simp only [getS, List.set, truD, isB, i2, TT0, true_and, Bool.not_true, Bool.not_false, Bool.false_eq_true, if_false, if_true, dVar, dC, setT, setTs]
      have hc : ∃ c, (sg x)[n]? = some c := ⟨_, List.getElem?_eq_getElem (by rw [sg_len]; exact hlt)⟩
      obtain ⟨c, hc⟩ := hc
      refine f_source h' ?_
      refine f_place h' ?_
      refine str_at hsz hc ?_
      refine eqX ?_
      rw [show decide ((⟨#[c]⟩ : Str) = " ") = decide (c = 32) from sign_eq c 32]
      by_cases h32 : c = 32
      · rw [decide_eq_true h32]
        simp only [getS, List.set, truD, isB, i2, TT0, true_and, Bool.not_true, Bool.not_false, Bool.false_eq_true, if_false, if_true, dVar, dC, setT, setTs]
        refine f_place h' ?_
        simp only [plusF]
        refine insR h'.p ⟨show 4 < 1000 by decide, ?_⟩
        rw [show ((n : Nat) : Int) + 1 = ((n + 1 : Nat) : Int) by omega]
        rw [u_place h', set_set]
        refine ⟨x.length - (n + 1), by omega, n + 1, rfl, by omega, ?_, rfl⟩
        rw [← hk, skp_blank (n := n) (by rw [hc, h32])]
      · rw [decide_eq_false h32]
        simp only [getS, List.set, truD, isB, i2, TT0, true_and, Bool.not_true, Bool.not_false, Bool.false_eq_true, if_false, if_true, dVar, dC, setT, setTs]
        have hne : (sg x)[n]? ≠ some 32 := by rw [hc]; intro z; exact h32 (Option.some.inj z)
        rw [skp_here hne] at hk
        refine f_place h' ?_
        refine f_source h' ?_
        refine ⟨by rw [sizeL]; omega, ?_⟩
        simp only [ltD, getS, List.set, truD, isB, i2, TT0, true_and, Bool.not_true, Bool.not_false, Bool.false_eq_true, if_false, if_true, dVar, dC, setT, setTs]
        rw [show decide ((n : Int) < (x.length : Int)) = true by rw [decide_eq_true_eq]; omega]
        simp only [getS, List.set, truD, isB, i2, TT0, true_and, Bool.not_true, Bool.not_false, Bool.false_eq_true, if_false, if_true, dVar, dC, setT, setTs]
        refine f_source h' ?_
        refine f_place h' ?_
        refine str_at hsz hc ?_
        rw [← hk, hc] at q
        exact fin_ret q
    · rw [show decide ((n : Int) < (x.length : Int)) = false by rw [decide_eq_false_iff_not]; omega]
      simp only [getS, List.set, truD, isB, i2, TT0, true_and, Bool.not_true, Bool.not_false, Bool.false_eq_true, if_false, if_true, dVar, dC, setT, setTs]
      have hc : (sg x)[n]? = none := List.getElem?_eq_none_iff.mpr (by rw [sg_len]; omega)
      rw [skp_here (by rw [hc]; simp)] at hk
      refine f_place h' ?_
      refine f_source h' ?_
      refine ⟨by rw [sizeL]; omega, ?_⟩
      simp only [ltD, getS, List.set, truD, isB, i2, TT0, true_and, Bool.not_true, Bool.not_false, Bool.false_eq_true, if_false, if_true, dVar, dC, setT, setTs]
      rw [show decide ((n : Int) < (x.length : Int)) = false by rw [decide_eq_false_iff_not]; omega]
      simp only [getS, List.set, truD, isB, i2, TT0, true_and, Bool.not_true, Bool.not_false, Bool.false_eq_true, if_false, if_true, dVar, dC, setT, setTs]
      rw [← hk, hc] at q
      exact fin_ret q
/-! ### take, enter -/
theorem pure_ProgramReader_take {C R : Addr} (ds : List D) (G : GH) (Q : DK) (E : DXK) (h : sp_rd_take R ds G Q E) : t_ProgramReader_take C R E (fnEnds Q) (startD N_ProgramReader_take ds) G := by
  obtain ⟨p, l, x, y, s, rfl, h, hI, q⟩ := h
  show t_ProgramReader_take C R E (fnEnds Q) [some (.ref p), some (.str y), none] G
  unfold t_ProgramReader_take
  simp only [dSeq, dIfS, dTst, dTru, dNot, dAnd, dOr, dAndV, dOrV, dNotV, dRet, dRetN, dDrop, dAsg, dNext, dBreak, dCont, dVar, getS, dC, dOp, dChain, dF1, dF2, dCall, dCons, dNil, dTup, dLst, dLstM, dIf, dNeg, uNeg, dLc, dLcM, dItr, dZip, dEnum, dRange1, dRange2, dFor, dPut, dAug, dPar2, dPar3, dSl, dPart, dNoPart, dM1, dM0, dCB, on1, isB, setT, setTs, dRaise, dMk, dYes, dLstRg, dRg1, wipeD, dFld, dSFld, dFldAug, dMeth, dMake, dWhile, dRepl, List.set]
  have hsz := hI.sz
  refine insR h.p ⟨rfl, p, l, x, s, rfl, h, hI, ?_⟩
  have h' : Rd R x p l { s with pl := skp (sg x) s.pl } (setRd R x p l { s with pl := skp (sg x) s.pl } G) := rd_set h.ne
  have bad : ∀ Q' : GH → Prop, (Q' (setRd R x p l { s with pl := skp (sg x) s.pl, ft := s.ft <|> some (skp (sg x) s.pl) } G)) →
      (insG R (.ref p) (setRd R x p l { s with pl := skp (sg x) s.pl } G) (getF "fault" fun d => isND d .non (setRd R x p l { s with pl := skp (sg x) s.pl } G) (isB fun b G1 => if b = true then insG R (.ref p) G1 (getF "place" fun e => insG R (.ref p) G1 fun p fs => fs.length < 1000 ∧ Q' (updG G1 p (.ins R (putG "fault" e fs)))) else Q' G1))) := fun Q' q' => by
    refine f_fault h' ?_
    simp only [isND, isB]
    rw [isN_opt]
    cases hf : s.ft with
    | none =>
      rw [hf] at q' h'
      simp only [decide_true, if_true]
      refine f_place h' ?_
      refine insR h'.p ⟨show 4 < 1000 by decide, ?_⟩
      have e := u_fault h' (some (skp (sg x) s.pl))
      rw [show optN (some (skp (sg x) s.pl)) = .int ((skp (sg x) s.pl : Nat) : Int) from rfl] at e
      rw [e, set_set]
      exact q'
    | some o =>
      rw [hf] at q'
      simp only [reduceCtorEq, decide_false, Bool.false_eq_true, if_false]
      exact q'
  unfold rTake at q
  cases hc : (sg x)[skp (sg x) s.pl]? with
  | none =>
    rw [hc] at q
    refine eqX ?_
    rw [show decide (chS none = ("" : Str)) = true by decide +kernel]
    simp only [getS, List.set, truD, isB, i2, TT0, true_and, Bool.not_true, Bool.not_false, Bool.false_eq_true, if_false, if_true, dVar, dC, setT, setTs]
    exact bad _ (fin_ret q)
  | some c =>
    rw [hc] at q
    refine eqX ?_
    rw [show decide (chS (some c) = ("" : Str)) = false by rw [decide_eq_false_iff_not]; intro z; injection z with z; injection z with z; cases z]
    simp only [getS, List.set, truD, isB, i2, TT0, true_and, Bool.not_true, Bool.not_false, Bool.false_eq_true, if_false, if_true, dVar, dC, setT, setTs]
    refine inS (c := c) ?_
    simp only [isB]
    by_cases hm : c ∈ sg y
    · rw [decide_eq_true hm, Bool.xor_self]
      dsimp only at q
      rw [if_pos hm] at q
      simp only [getS, List.set, truD, isB, i2, TT0, true_and, Bool.not_true, Bool.not_false, Bool.false_eq_true, if_false, if_true, dVar, dC, setT, setTs]
      refine f_place h' ?_
      simp only [plusF]
      refine insR h'.p ⟨show 4 < 1000 by decide, ?_⟩
      rw [show ((skp (sg x) s.pl : Nat) : Int) + 1 = ((skp (sg x) s.pl + 1 : Nat) : Int) by omega]
      rw [u_place h', set_set]
      exact fin_ret q
    · rw [decide_eq_false hm]
      dsimp only at q
      rw [if_neg hm] at q
      simp only [getS, List.set, truD, isB, i2, TT0, true_and, Bool.not_true, Bool.not_false, Bool.false_eq_true, if_false, if_true, dVar, dC, setT, setTs, Bool.false_xor]
      exact bad _ (fin_ret q)
theorem pure_ProgramReader_enter {C R : Addr} (ds : List D) (G : GH) (Q : DK) (E : DXK) (h : sp_rd_enter R ds G Q E) : t_ProgramReader_enter C R E (fnEnds Q) (startD N_ProgramReader_enter ds) G := by
  obtain ⟨p, l, x, k, s, rfl, h, hI, q⟩ := h
  show t_ProgramReader_enter C R E (fnEnds Q) [some (.ref p), some (.int (k : Int))] G
  unfold t_ProgramReader_enter
  simp only [dSeq, dIfS, dTst, dTru, dNot, dAnd, dOr, dAndV, dOrV, dNotV, dRet, dRetN, dDrop, dAsg, dNext, dBreak, dCont, dVar, getS, dC, dOp, dChain, dF1, dF2, dCall, dCons, dNil, dTup, dLst, dLstM, dIf, dNeg, uNeg, dLc, dLcM, dItr, dZip, dEnum, dRange1, dRange2, dFor, dPut, dAug, dPar2, dPar3, dSl, dPart, dNoPart, dM1, dM0, dCB, on1, isB, setT, setTs, dRaise, dMk, dYes, dLstRg, dRg1, wipeD, dFld, dSFld, dFldAug, dMeth, dMake, dWhile, dRepl, List.set]
  refine insR h.p ⟨rfl, ?_⟩
  simp only [ltD, getS, List.set, truD, isB, i2, TT0, true_and, Bool.not_true, Bool.not_false, Bool.false_eq_true, if_false, if_true, dVar, dC, setT, setTs]
  by_cases h8 : k < 8
  · rw [show decide ((k : Int) < 8) = true by rw [decide_eq_true_eq]; omega]
    rw [if_pos h8] at q
    simp only [getS, List.set, truD, isB, i2, TT0, true_and, Bool.not_true, Bool.not_false, Bool.false_eq_true, if_false, if_true, dVar, dC, setT, setTs]
    exact ⟨p, l, x, "(", s, rfl, h, hI, fin_nx q⟩
  · rw [show decide ((k : Int) < 8) = false by rw [decide_eq_false_iff_not]; omega]
    rw [if_neg h8] at q
    simp only [getS, List.set, truD, isB, i2, TT0, true_and, Bool.not_true, Bool.not_false, Bool.false_eq_true, if_false, if_true, dVar, dC, setT, setTs]
    exact ⟨p, l, x, "", s, rfl, h, hI, fin_nx q⟩
theorem pure_ProgramReader___init__ {C R : Addr} (ds : List D) (G : GH) (Q : DK) (E : DXK) (h : sp_rd_init R ds G Q E) : t_ProgramReader___init__ C R E (fnEnds Q) (startD N_ProgramReader___init__ ds) G := by
  obtain ⟨p, x, rfl, h, q⟩ := h
  show t_ProgramReader___init__ C R E (fnEnds Q) [some (.ref p), some (.str x)] G
  unfold t_ProgramReader___init__
  simp only [dSeq, dIfS, dTst, dTru, dNot, dAnd, dOr, dAndV, dOrV, dNotV, dRet, dRetN, dDrop, dAsg, dNext, dBreak, dCont, dVar, getS, dC, dOp, dChain, dF1, dF2, dCall, dCons, dNil, dTup, dLst, dLstM, dIf, dNeg, uNeg, dLc, dLcM, dItr, dZip, dEnum, dRange1, dRange2, dFor, dPut, dAug, dPar2, dPar3, dSl, dPart, dNoPart, dM1, dM0, dCB, on1, isB, setT, setTs, dRaise, dMk, dYes, dLstRg, dRg1, wipeD, dFld, dSFld, dFldAug, dMeth, dMake, dWhile, dRepl, List.set]
  refine insR h ⟨show 0 < 1000 by decide, ?_⟩
  refine insR updG_same ⟨show 1 < 1000 by decide, ?_⟩
  refine insR updG_same ⟨show 2 < 1000 by decide, ?_⟩
  refine ⟨sm10 (by simp), fun l hl => ?_⟩
  rw [updG_updG, updG_updG] at hl
  have hne : l ≠ p := fun e => by rw [e, updG_same] at hl; cases hl
  rw [updG_ne hne] at hl
  rw [updG_updG, updG_updG]
  refine insR (fs := [("source", .str x), ("place", .int 0), ("fault", .non)]) (by rw [updG_ne hne.symm, updG_same] <;> rfl) ⟨show 3 < 1000 by decide, ?_⟩
  have e : updG (updG (updG G p (.ins R [("source", .str x), ("place", .int 0), ("fault", .non)])) l (.lst [])) p (.ins R (putG "loops" (.ref l) [("source", .str x), ("place", .int 0), ("fault", .non)])) = setRd R x p l ⟨0, none, []⟩ G := by
    funext a
    unfold updG setRd
    by_cases h1 : a = p
    · rw [if_pos h1, if_pos h1] <;> rfl
    · rw [if_neg h1, if_neg h1]
      by_cases h2 : a = l
      · subst h2
        rw [if_pos rfl, if_neg h1, if_pos rfl] <;> rfl
      · simp [h1, h2]
  have : (fnEnds Q).nx [some (.ref p), some (.str x)] (setRd R x p l ⟨0, none, []⟩ G) := fin_nx (q l hne hl)
  rw [← e] at this
  exact this
end KL


end

section
set_option Elab.async false
set_option linter.all false
set_option maxRecDepth 100000
set_option maxHeartbeats 1000000
open PySem PySem.Spec PyProof.Rows L2 DL
namespace KL
/-! ### what reading keeps -/
structure RG (cs : List Nat) (a : Nat) (s : RS) : Prop where
  pl : s.pl ≤ cs.length
  lp : s.lp.length + a ≤ s.pl
def Mono (cs : List Nat) (f : RS → RS) : Prop := ∀ a s, RG cs a s → RG cs a (f s) ∧ s.pl ≤ (f s).pl ∧ ∀ o, s.ft = some o → (f s).ft = some o
theorem Mono.comp {cs : List Nat} {f g : RS → RS} (hf : Mono cs f) (hg : Mono cs g) : Mono cs fun s => g (f s) := fun a s h => by
  obtain ⟨h1, h2, h3⟩ := hf a s h
  obtain ⟨g1, g2, g3⟩ := hg a _ h1
  exact ⟨g1, Nat.le_trans h2 g2, fun o e => g3 o (h3 o e)⟩
theorem take_cases (cs sm : List Nat) (s : RS) : (∃ c, c ∈ sm ∧ cs[skp cs s.pl]? = some c ∧ rTake cs sm s = (some c, { s with pl := skp cs s.pl + 1 })) ∨ rTake cs sm s = (none, { s with pl := skp cs s.pl, ft := s.ft <|> some (skp cs s.pl) }) := by
  unfold rTake
  cases h : cs[skp cs s.pl]? with
  | none => exact .inr rfl
  | some c =>
    by_cases hm : c ∈ sm
    · exact .inl ⟨c, hm, rfl, if_pos hm⟩
    · exact .inr (if_neg hm)
theorem mono_take (cs sm : List Nat) : Mono cs fun s => (rTake cs sm s).2 := fun a s h => by
  have hp := skp_ge cs s.pl
  have hl := skp_le h.pl
  have h2 := h.lp
  rcases take_cases cs sm s with ⟨c, _, hc, e⟩ | e
  · have hlt := (List.getElem?_eq_some_iff.mp hc).1
    dsimp only
    rw [e]
    exact ⟨⟨hlt, by show s.lp.length + a ≤ skp cs s.pl + 1; omega⟩, by show s.pl ≤ skp cs s.pl + 1; omega, fun o e => e⟩
  · dsimp only
    rw [e]
    exact ⟨⟨hl, by show s.lp.length + a ≤ skp cs s.pl; omega⟩, hp, fun o e => by show (s.ft <|> some (skp cs s.pl)) = some o; rw [e] <;> rfl⟩
theorem take_some {cs sm : List Nat} {s : RS} {a c : Nat} (h : RG cs a s) (e : (rTake cs sm s).1 = some c) : RG cs (a + 1) (rTake cs sm s).2 ∧ s.pl < (rTake cs sm s).2.pl ∧ c ∈ sm := by
  have hp := skp_ge cs s.pl
  have h2 := h.lp
  rcases take_cases cs sm s with ⟨c', hm, hc, e'⟩ | e'
  · have hlt := (List.getElem?_eq_some_iff.mp hc).1
    rw [e'] at e ⊢
    cases e
    exact ⟨⟨hlt, by show s.lp.length + (a + 1) ≤ skp cs s.pl + 1; omega⟩, by show s.pl < skp cs s.pl + 1; omega, hm⟩
  · rw [e'] at e
    cases e
theorem take_none {cs sm : List Nat} {s : RS} (e : (rTake cs sm s).1 = none) : (rTake cs sm s).2.ft ≠ none := by
  rcases take_cases cs sm s with ⟨c', hm, hc, e'⟩ | e'
  · rw [e'] at e; cases e
  · rw [e']
    show (s.ft <|> some (skp cs s.pl)) ≠ none
    cases s.ft <;> simp
theorem take_nil (cs : List Nat) (s : RS) : (rTake cs [] s).2.ft ≠ none := by
  rcases take_cases cs [] s with ⟨c', hm, _⟩ | e'
  · cases hm
  · rw [e']
    show (s.ft <|> some (skp cs s.pl)) ≠ none
    cases s.ft <;> simp
theorem take_lp (cs sm : List Nat) (s : RS) : (rTake cs sm s).2.lp = s.lp := by
  rcases take_cases cs sm s with ⟨c', hm, hc, e'⟩ | e' <;> rw [e']
theorem take_ft {cs sm : List Nat} {s : RS} (h : (rTake cs sm s).2.ft = none) : s.ft = none ∧ ∃ c, c ∈ sm ∧ cs[skp cs s.pl]? = some c ∧ rTake cs sm s = (some c, { s with pl := skp cs s.pl + 1 }) := by
  rcases take_cases cs sm s with ⟨c', hm, hc, e'⟩ | e'
  · rw [e'] at h
    exact ⟨h, c', hm, hc, e'⟩
  · rw [e'] at h
    have h : (s.ft <|> some (skp cs s.pl)) = none := h
    cases hf : s.ft with
    | none => rw [hf] at h; cases h
    | some o => rw [hf] at h; cases h
theorem mono_skp (cs : List Nat) : Mono cs fun s => { s with pl := skp cs s.pl } := fun a s h => by
  have hp := skp_ge cs s.pl
  have h2 := h.lp
  exact ⟨⟨skp_le h.pl, by show s.lp.length + a ≤ skp cs s.pl; omega⟩, hp, fun o e => e⟩
theorem blk_ft {stm : RS → PS × RS} {cs ends : List Nat} {m : Nat} {s : RS} (h : s.ft ≠ none) : rBlk stm cs ends m s = (.nil, s) := by
  cases m with
  | zero => rfl
  | succ m => show (if s.ft = none then _ else _) = _; rw [if_neg h]
theorem blk_end {stm : RS → PS × RS} {cs ends : List Nat} {m : Nat} {s : RS} (h : s.ft = none) (e : ∀ c, cs[skp cs s.pl]? = some c → c ∈ ends) : rBlk stm cs ends (m + 1) s = (.nil, { s with pl := skp cs s.pl }) := by
  show (if s.ft = none then _ else _) = _
  rw [if_pos h]
  cases hc : cs[skp cs s.pl]? with
  | none => rfl
  | some c => exact if_pos (e c hc)
theorem blk_go {stm : RS → PS × RS} {cs ends : List Nat} {m : Nat} {s : RS} {c : Nat} (h : s.ft = none) (hc : cs[skp cs s.pl]? = some c) (e : c ∉ ends) :
    rBlk stm cs ends (m + 1) s = (.cons (stm { s with pl := skp cs s.pl }).1 (rBlk stm cs ends m (stm { s with pl := skp cs s.pl }).2).1, (rBlk stm cs ends m (stm { s with pl := skp cs s.pl }).2).2) := by
  show (if s.ft = none then _ else _) = _
  rw [if_pos h, hc]
  exact if_neg e
theorem mono_blk {stm : RS → PS × RS} {cs ends : List Nat} (hs : Mono cs fun s => (stm s).2) : ∀ m, Mono cs fun s => (rBlk stm cs ends m s).2
  | 0, a, s, h => ⟨h, Nat.le_refl _, fun o e => e⟩
  | m + 1, a, s, h => by
    dsimp only
    by_cases hf : s.ft = none
    · cases hc : cs[skp cs s.pl]? with
      | none =>
        rw [blk_end hf (fun c z => by rw [hc] at z; cases z)]
        exact mono_skp cs a s h
      | some c =>
        by_cases he : c ∈ ends
        · rw [blk_end hf (fun c' z => by rw [hc] at z; cases z; exact he)]
          exact mono_skp cs a s h
        · rw [blk_go hf hc he]
          exact ((mono_skp cs).comp (hs.comp (mono_blk hs m))) a s h
    · rw [blk_ft hf]
      exact ⟨h, Nat.le_refl _, fun o e => e⟩
theorem stm_q {cs : List Nat} {n : Nat} {s : RS} (h : (rTake cs (sg "swx?*@") s).1 = some 63) : rStm cs (n + 1) s = rTst cs n (rTake cs (sg "swx?*@") s).2 := by
  show (if (rTake cs (sg "swx?*@") s).1 = some 63 then _ else _) = _
  rw [if_pos h] <;> rfl
abbrev brO (n : Nat) : List Nat := if n = 0 then [] else sg "("
theorem stm_r {cs : List Nat} {n : Nat} {s : RS} (h : (rTake cs (sg "swx?*@") s).1 = some 42) : rStm cs (n + 1) s =
    (.rep (chS (rTake cs (sg "23456789") (rTake cs (sg "swx?*@") s).2).1) (rBlk (rStm cs n) cs (sg ")") (cs.length + 1) (rTake cs (brO n) (rTake cs (sg "23456789") (rTake cs (sg "swx?*@") s).2).2).2).1,
      (rTake cs (sg ")") (rBlk (rStm cs n) cs (sg ")") (cs.length + 1) (rTake cs (brO n) (rTake cs (sg "23456789") (rTake cs (sg "swx?*@") s).2).2).2).2).2) := by
  show (if (rTake cs (sg "swx?*@") s).1 = some 63 then _ else if (rTake cs (sg "swx?*@") s).1 = some 42 then _ else _) = _
  rw [if_neg (by rw [h]; decide), if_pos h]
abbrev lopB (cs : List Nat) (n : Nat) (s : RS) : PB × RS := rBlk (rStm cs n) cs (sg ")") (cs.length + 1) (rTake cs (brO n) (rTake cs (sg "swx?*@") s).2).2
abbrev lopZ (cs : List Nat) (n : Nat) (s : RS) : RS := (rTake cs (sg ")") (lopB cs n s).2).2
theorem stm_l {cs : List Nat} {n : Nat} {s : RS} (h : (rTake cs (sg "swx?*@") s).1 = some 64) : rStm cs (n + 1) s =
    (.lop ((lopZ cs n s).lp.length + 1) (lopB cs n s).1, { lopZ cs n s with lp := (lopZ cs n s).lp ++ [(s.pl, (lopB cs n s).1)] }) := by
  show (if (rTake cs (sg "swx?*@") s).1 = some 63 then _ else if (rTake cs (sg "swx?*@") s).1 = some 42 then _ else if (rTake cs (sg "swx?*@") s).1 = some 64 then _ else _) = _
  rw [if_neg (by rw [h]; decide), if_neg (by rw [h]; decide), if_pos h]
theorem stm_a {cs : List Nat} {n : Nat} {s : RS} (h1 : (rTake cs (sg "swx?*@") s).1 ≠ some 63) (h2 : (rTake cs (sg "swx?*@") s).1 ≠ some 42) (h3 : (rTake cs (sg "swx?*@") s).1 ≠ some 64) : rStm cs (n + 1) s = (.atom (chS (rTake cs (sg "swx?*@") s).1), (rTake cs (sg "swx?*@") s).2) := by
  show (if (rTake cs (sg "swx?*@") s).1 = some 63 then _ else if (rTake cs (sg "swx?*@") s).1 = some 42 then _ else if (rTake cs (sg "swx?*@") s).1 = some 64 then _ else _) = _
  rw [if_neg h1, if_neg h2, if_neg h3]
theorem mono_tst {cs : List Nat} {n : Nat} (ih : Mono cs fun s => (rStm cs n s).2) : Mono cs fun s => (rTst cs n s).2 :=
  (mono_take cs (sg ".1#!")).comp ((mono_take cs (brO n)).comp ((mono_blk (ends := sg "|)") ih (cs.length + 1)).comp ((mono_take cs (sg "|")).comp ((mono_blk (ends := sg ")") ih (cs.length + 1)).comp (mono_take cs (sg ")"))))))
theorem mono_stm (cs : List Nat) : ∀ n, Mono cs fun s => (rStm cs n s).2
  | 0 => fun a s h => ⟨h, Nat.le_refl _, fun o e => e⟩
  | n + 1 => by
    have ih := mono_stm cs n
    intro a s h
    dsimp only
    by_cases h1 : (rTake cs (sg "swx?*@") s).1 = some 63
    · rw [stm_q h1]
      exact ((mono_take cs (sg "swx?*@")).comp (mono_tst ih)) a s h
    · by_cases h2 : (rTake cs (sg "swx?*@") s).1 = some 42
      · rw [stm_r h2]
        exact ((mono_take cs (sg "swx?*@")).comp ((mono_take cs (sg "23456789")).comp ((mono_take cs (brO n)).comp ((mono_blk (ends := sg ")") ih (cs.length + 1)).comp (mono_take cs (sg ")")))))) a s h
      · by_cases h3 : (rTake cs (sg "swx?*@") s).1 = some 64
        · rw [stm_l h3]
          obtain ⟨g1, g2, _⟩ := take_some h h3
          obtain ⟨k1, k2, k3⟩ := ((mono_take cs (brO n)).comp ((mono_blk (ends := sg ")") ih (cs.length + 1)).comp (mono_take cs (sg ")")))) (a + 1) _ g1
          obtain ⟨_, _, t3⟩ := (mono_take cs (sg "swx?*@")) a s h
          refine ⟨⟨k1.pl, ?_⟩, Nat.le_trans (Nat.le_of_lt g2) k2, fun o e => k3 o (t3 o e)⟩
          have := k1.lp
          show ((lopZ cs n s).lp ++ [_]).length + a ≤ (lopZ cs n s).pl
          rw [List.length_append]
          simp only [List.length_cons, List.length_nil]
          have : (lopZ cs n s).lp.length + (a + 1) ≤ (lopZ cs n s).pl := this
          omega
        · rw [stm_a h1 h2 h3]
          exact mono_take cs (sg "swx?*@") a s h
theorem stm_prog {cs : List Nat} {n : Nat} {s : RS} {a : Nat} (h : RG cs a s) (hf : s.ft = none) : (rStm cs (n + 1) s).2.ft ≠ none ∨ s.pl < (rStm cs (n + 1) s).2.pl := by
  have ih := mono_stm cs n
  cases hc : (rTake cs (sg "swx?*@") s).1 with
  | none =>
    rw [stm_a (by rw [hc]; decide) (by rw [hc]; decide) (by rw [hc]; decide)]
    exact .inl (take_none hc)
  | some c =>
    right
    obtain ⟨g1, g2, _⟩ := take_some h hc
    by_cases h1 : (rTake cs (sg "swx?*@") s).1 = some 63
    · rw [stm_q h1]
      exact Nat.lt_of_lt_of_le g2 (mono_tst ih _ _ g1).2.1
    · by_cases h2 : (rTake cs (sg "swx?*@") s).1 = some 42
      · rw [stm_r h2]
        exact Nat.lt_of_lt_of_le g2 (((mono_take cs (sg "23456789")).comp ((mono_take cs (brO n)).comp ((mono_blk (ends := sg ")") ih (cs.length + 1)).comp (mono_take cs (sg ")"))))) _ _ g1).2.1
      · by_cases h3 : (rTake cs (sg "swx?*@") s).1 = some 64
        · rw [stm_l h3]
          exact Nat.lt_of_lt_of_le g2 (((mono_take cs (brO n)).comp ((mono_blk (ends := sg ")") ih (cs.length + 1)).comp (mono_take cs (sg ")")))) _ _ g1).2.1
        · rw [stm_a h1 h2 h3]
          exact g2
theorem RI.g {x : Str} {s : RS} (h : RI x s) : RG (sg x) 0 s := ⟨by rw [sg_len]; exact h.pl, h.lp⟩
theorem RI.of {x : Str} {s : RS} (h : x.length ≤ 1000) (g : RG (sg x) 0 s) : RI x s := ⟨h, by have := g.pl; rwa [sg_len] at this, g.lp⟩
theorem RI.mono {x : Str} {s : RS} {f : RS → RS} (h : RI x s) (m : Mono (sg x) f) : RI x (f s) := .of h.sz (m 0 s h.g).1
/-! ### what stands while a block is read -/
theorem le_set {R p l : Addr} {x : Str} {s s' : RS} {G G1 : GH} (h : Le (setRd R x p l s G) G1) : Le (setRd R x p l s' G) (setRd R x p l s' G1) := fun a o e => by
  unfold setRd at e ⊢
  by_cases h1 : a = p
  · rw [if_pos h1] at e ⊢; exact e
  · rw [if_neg h1] at e ⊢
    by_cases h2 : a = l
    · rw [if_pos h2] at e ⊢; exact e
    · rw [if_neg h2] at e ⊢
      refine h a o ?_
      unfold setRd
      rw [if_neg h1, if_neg h2]
      exact e
theorem set_at {R p l a : Addr} {x : Str} {s : RS} {G : GH} (h1 : a ≠ p) (h2 : a ≠ l) : setRd R x p l s G a = G a := by
  unfold setRd
  rw [if_neg h1, if_neg h2]
theorem eqC (o : Option Nat) (c : Nat) : decide (chS o = (⟨#[c]⟩ : Str)) = decide (o = some c) := by
  cases o with
  | none =>
    have e1 : ¬ (chS none = (⟨#[c]⟩ : Str)) := by intro z; injection z with z; injection z with z; cases z
    rw [decide_eq_false e1]
    simp
  | some d =>
    rw [show chS (some d) = (⟨#[d]⟩ : Str) from rfl, sign_eq]
    congr 1; apply propext
    exact ⟨fun e => by rw [e], fun e => Option.some.inj e⟩
theorem pure_ProgramReader_read_block {C R : Addr} {spS : DSp} (n : Nat) (hS : n ≠ 0 → spS = sp_rd_stm R n) (ds : List D) (G : GH) (Q : DK) (E : DXK) (h : sp_rd_block R n ds G Q E) : t_ProgramReader_read_block C spS R E (fnEnds Q) (startD N_ProgramReader_read_block ds) G := by
  obtain ⟨p, l, x, y, k, s, rfl, hk, hn, h, hI, q⟩ := h
  show t_ProgramReader_read_block C spS R E (fnEnds Q) [some (.ref p), some (.int (k : Int)), some (.str y), none] G
  unfold t_ProgramReader_read_block t_ProgramReader_read_block_1
  simp only [dSeq, dIfS, dTst, dTru, dNot, dAnd, dOr, dAndV, dOrV, dNotV, dRet, dRetN, dDrop, dAsg, dNext, dBreak, dCont, dVar, getS, dC, dOp, dChain, dF1, dF2, dCall, dCons, dNil, dTup, dLst, dLstM, dIf, dNeg, uNeg, dLc, dLcM, dItr, dZip, dEnum, dRange1, dRange2, dFor, dPut, dAug, dPar2, dPar3, dSl, dPart, dNoPart, dM1, dM0, dCB, on1, isB, setT, setTs, dRaise, dMk, dYes, dLstRg, dRg1, wipeD, dFld, dSFld, dFldAug, dMeth, dMake, dWhile, dRepl, List.set]
  refine ⟨sm10 (by simp), fun f hf => ?_⟩
  have hfp : f ≠ p := fun e => by rw [e, h.p] at hf; cases hf
  have hfl : f ≠ l := fun e => by rw [e, h.l] at hf; cases hf
  have hsz := hI.sz
  have hst : Mono (sg x) fun s => (rStm (sg x) n s).2 := mono_stm (sg x) n
  refine ⟨fun m ρ G' => ∃ (s' : RS) (acc : List D), ρ = [some (.ref p), some (.int (k : Int)), some (.str y), some (.ref f)] ∧ Rd R x p l s' G' ∧ RI x s' ∧ G' f = some (.lst acc) ∧ Le (setRd R x p l s' G) G' ∧ acc.length + m ≤ x.length + 1 ∧
      (s'.ft = none → x.length + 1 ≤ s'.pl + m) ∧ (n = 0 → s'.ft ≠ none) ∧ encPB (rBlk (rStm (sg x) n) (sg x) (sg y) ((sg x).length + 1) s).1 = acc ++ encPB (rBlk (rStm (sg x) n) (sg x) (sg y) m s').1 ∧ (rBlk (rStm (sg x) n) (sg x) (sg y) ((sg x).length + 1) s).2 = (rBlk (rStm (sg x) n) (sg x) (sg y) m s').2,
    ⟨x.length + 1, s, [], rfl, ?_, hI, updG_same, ?_, by simp, fun _ => by omega, hn, by rw [sg_len]; rfl, by rw [sg_len]⟩, ?_⟩
  · exact ⟨h.ne, by rw [updG_ne hfp.symm]; exact h.p, by rw [updG_ne hfl.symm]; exact h.l⟩
  · rw [set_self h]
    exact (Le.refl G).new hf
  · rintro m ρ G' ⟨s', acc, rfl, h', hI', hf', hle, hal, hfu, hn', e1, e2⟩
    have hend : ∀ (s2 : RS) (G2 : GH), rBlk (rStm (sg x) n) (sg x) (sg y) m s' = (.nil, s2) → Le (setRd R x p l s2 G) G2 → G2 f = some (.lst acc) → (fnEnds Q).rt (.tup acc) G2 := fun s2 G2 eb hle2 _ => by
      rw [eb] at e1 e2
      rw [e1, e2] at q
      have e0 : acc ++ encPB .nil = acc := List.append_nil _
      rw [e0] at q
      exact fin_le hle2 q
    simp only [dSeq, dIfS, dTst, dTru, dNot, dAnd, dOr, dAndV, dOrV, dNotV, dRet, dRetN, dDrop, dAsg, dNext, dBreak, dCont, dVar, getS, dC, dOp, dChain, dF1, dF2, dCall, dCons, dNil, dTup, dLst, dLstM, dIf, dNeg, uNeg, dLc, dLcM, dItr, dZip, dEnum, dRange1, dRange2, dFor, dPut, dAug, dPar2, dPar3, dSl, dPart, dNoPart, dM1, dM0, dCB, on1, isB, setT, setTs, dRaise, dMk, dYes, dLstRg, dRg1, wipeD, dFld, dSFld, dFldAug, dMeth, dMake, dWhile, dRepl, List.set]
    refine f_fault h' ?_
    simp only [isND, isB]
    rw [isN_opt]
    by_cases hft : s'.ft = none
    · rw [decide_eq_true hft]
      simp only [if_true]
      obtain ⟨m, rfl⟩ : ∃ m', m = m' + 1 := ⟨m - 1, by have := hfu hft; have := hI'.pl; omega⟩
      have hI1 : RI x { s' with pl := skp (sg x) s'.pl } := hI'.mono (mono_skp (sg x))
      have h1 : Rd R x p l { s' with pl := skp (sg x) s'.pl } (setRd R x p l { s' with pl := skp (sg x) s'.pl } G') := rd_set h'.ne
      have hf1 : setRd R x p l { s' with pl := skp (sg x) s'.pl } G' f = some (.lst acc) := by rw [set_at hfp hfl]; exact hf'
      refine insR h'.p ⟨rfl, p, l, x, s', rfl, h', hI', ?_⟩
      refine neX ?_
      cases hc : (sg x)[skp (sg x) s'.pl]? with
      | none =>
        rw [show decide (chS none = ("" : Str)) = true by decide +kernel]
        simp only [getS, List.set, truD, isB, i2, TT0, true_and, Bool.not_true, Bool.not_false, Bool.false_eq_true, if_false, if_true, dVar, dC, setT, setTs]
        exact tupR hf1 (hend _ _ (blk_end hft fun c z => by rw [hc] at z; cases z) (le_set hle) hf1)
      | some c =>
        rw [show decide (chS (some c) = ("" : Str)) = false by rw [decide_eq_false_iff_not]; intro z; injection z with z; injection z with z; cases z]
        simp only [getS, List.set, truD, isB, i2, TT0, true_and, Bool.not_true, Bool.not_false, Bool.false_eq_true, if_false, if_true, dVar, dC, setT, setTs]
        refine insR h1.p ⟨rfl, p, l, x, _, rfl, h1, hI1, ?_⟩
        rw [set_set]
        have e3 : skp (sg x) (skp (sg x) s'.pl) = skp (sg x) s'.pl := skp_skp _ _
        simp only [e3, hc]
        refine inS (c := c) ?_
        simp only [isB]
        by_cases he : c ∈ sg y
        · rw [decide_eq_true he, Bool.xor_self]
          simp only [getS, List.set, truD, isB, i2, TT0, true_and, Bool.not_true, Bool.not_false, Bool.false_eq_true, if_false, if_true, dVar, dC, setT, setTs]
          exact tupR hf1 (hend _ _ (blk_end hft fun c' z => by rw [hc] at z; cases z; exact he) (le_set hle) hf1)
        · rw [decide_eq_false he]
          simp only [getS, List.set, truD, isB, i2, TT0, true_and, Bool.not_true, Bool.not_false, Bool.false_eq_true, if_false, if_true, dVar, dC, setT, setTs, Bool.false_xor]
          have hn0 : n ≠ 0 := fun e => hn' e hft
          rw [hS hn0]
          refine ownLR hf1 ?_
          refine insR h1.p ⟨rfl, p, l, x, k, { s' with pl := skp (sg x) s'.pl }, rfl, hk, by omega, hft, h1, hI1, ?_⟩
          rw [set_set]
          have hI2 : RI x (rStm (sg x) n { s' with pl := skp (sg x) s'.pl }).2 := hI1.mono hst
          have hf2 : setRd R x p l (rStm (sg x) n { s' with pl := skp (sg x) s'.pl }).2 G' f = some (.lst acc) := by rw [set_at hfp hfl]; exact hf'
          refine getLR hf2 ⟨by rw [sizeL]; omega, m, by omega, _, _, ?_, hI2, updG_same, ?_, by rw [List.length_append]; simp; omega, fun hz => ?_, fun e => absurd e hn0, ?_, ?_⟩
          · have h2 : Rd R x p l (rStm (sg x) n { s' with pl := skp (sg x) s'.pl }).2 (setRd R x p l (rStm (sg x) n { s' with pl := skp (sg x) s'.pl }).2 G') := rd_set h'.ne
            exact ⟨h2.ne, by rw [updG_ne hfp.symm]; exact h2.p, by rw [updG_ne hfl.symm]; exact h2.l⟩
          · exact (le_set hle).put (by rw [set_at hfp hfl]; exact hf)
          · obtain ⟨n', rfl⟩ : ∃ n', n = n' + 1 := ⟨n - 1, by omega⟩
            have := stm_prog (n := n') hI1.g (show ({ s' with pl := skp (sg x) s'.pl } : RS).ft = none from hft)
            rcases this with z | z
            · exact absurd hz z
            · have z : skp (sg x) s'.pl < _ := z
              have := skp_ge (sg x) s'.pl
              have := hfu hft
              omega
          · rw [e1, blk_go hft hc he]
            show acc ++ (encPS _ :: encPB _) = (acc ++ [encPS _]) ++ encPB _
            rw [List.append_assoc] <;> rfl
          · rw [e2, blk_go hft hc he]
    · rw [decide_eq_false hft]
      simp only [Bool.false_eq_true, if_false]
      exact tupR hf' (hend s' G' (blk_ft hft) hle hf')
end KL


end

section
set_option Elab.async false
set_option linter.all false
set_option maxRecDepth 100000
set_option maxHeartbeats 1000000
open PySem PySem.Spec PyProof.Rows L2 DL
namespace KL
theorem take_RI {x : Str} {s : RS} (h : RI x s) (sm : List Nat) : RI x (rTake (sg x) sm s).2 := h.mono (mono_take (sg x) sm)
theorem br_eq {k n : Nat} (h : k + (n + 1) = 9) : (if k < 8 then sg "(" else []) = brO n := by
  unfold brO
  by_cases hn : n = 0
  · rw [if_pos hn, if_neg (by omega)]
  · rw [if_neg hn, if_pos (by omega)]
theorem brO_ft (cs : List Nat) {n : Nat} (hn : n = 0) (s : RS) : (rTake cs (brO n) s).2.ft ≠ none := by
  unfold brO
  rw [if_pos hn]
  exact take_nil cs s
section
variable {R p l : Addr} {x : Str} {G : GH} {Q : DK} {C : Addr}
/-- a take, an enter, a block of a reader: what follows holds -/
theorem m_take {s : RS} {y : Str} {E : DXK} (h : Rd R x p l s G) (hI : RI x s) (q : Q (.str (chS (rTake (sg x) (sg y) s).1)) (setRd R x p l (rTake (sg x) (sg y) s).2 G)) : insG R (.ref p) G fun _ fs => fs.lookup ("take" : Str) = none ∧ sp_rd_take R [.ref p, .str y] G Q E :=
  insR h.p ⟨rfl, p, l, x, y, s, rfl, h, hI, q⟩
theorem m_enter {s : RS} {k n : Nat} {E : DXK} (h : Rd R x p l s G) (hI : RI x s) (hk : k + (n + 1) = 9) (q : Q .non (setRd R x p l (rTake (sg x) (brO n) s).2 G)) : insG R (.ref p) G fun _ fs => fs.lookup ("enter" : Str) = none ∧ sp_rd_enter R [.ref p, .int (k : Int)] G Q E :=
  insR h.p ⟨rfl, p, l, x, k, s, rfl, h, hI, by rw [br_eq hk]; exact q⟩
theorem m_block {s : RS} {k n : Nat} {y : Str} {E : DXK} (h : Rd R x p l s G) (hI : RI x s) (hk : k + (n + 1) = 9) (hn : n = 0 → s.ft ≠ none) (q : Q (.tup (encPB (rBlk (rStm (sg x) n) (sg x) (sg y) ((sg x).length + 1) s).1)) (setRd R x p l (rBlk (rStm (sg x) n) (sg x) (sg y) ((sg x).length + 1) s).2 G)) :
    insG R (.ref p) G fun _ fs => fs.lookup ("read_block" : Str) = none ∧ addD (.int (k : Int)) (.int 1) G fun d G2 => sp_rd_block R n [.ref p, d, .str y] G2 Q E :=
  insR h.p ⟨rfl, p, l, x, y, k + 1, s, rfl, by omega, hn, h, hI, q⟩
end
theorem blk_RI {x : Str} {s : RS} (h : RI x s) (n : Nat) (y : List Nat) (m : Nat) : RI x (rBlk (rStm (sg x) n) (sg x) y m s).2 := h.mono (mono_blk (mono_stm (sg x) n) m)
theorem pure_ProgramReader_read_test {C R : Addr} (n : Nat) (ds : List D) (G : GH) (Q : DK) (E : DXK) (h : sp_rd_test R n ds G Q E) : t_ProgramReader_read_test C (sp_rd_block R n) R E (fnEnds Q) (startD N_ProgramReader_read_test ds) G := by
  obtain ⟨p, l, x, k, s, rfl, hk, h, hI, q⟩ := h
  show t_ProgramReader_read_test C (sp_rd_block R n) R E (fnEnds Q) [some (.ref p), some (.int (k : Int)), none, none, none] G
  unfold t_ProgramReader_read_test t_ProgramReader_read_test_1 t_ProgramReader_read_test_2 t_ProgramReader_read_test_3 t_ProgramReader_read_test_4 t_ProgramReader_read_test_5 t_ProgramReader_read_test_6 t_ProgramReader_read_test_7
  simp only [dSeq, dIfS, dTst, dTru, dNot, dAnd, dOr, dAndV, dOrV, dNotV, dRet, dRetN, dDrop, dAsg, dNext, dBreak, dCont, dVar, getS, dC, dOp, dChain, dF1, dF2, dCall, dCons, dNil, dTup, dLst, dLstM, dIf, dNeg, uNeg, dLc, dLcM, dItr, dZip, dEnum, dRange1, dRange2, dFor, dPut, dAug, dPar2, dPar3, dSl, dPart, dNoPart, dM1, dM0, dCB, on1, isB, setT, setTs, dRaise, dMk, dYes, dLstRg, dRg1, wipeD, dFld, dSFld, dFldAug, dMeth, dMake, dWhile, dRepl, List.set]
  have i1 := take_RI hI (sg ".1#!")
  have i2 := take_RI i1 (brO n)
  have i3 := blk_RI i2 n (sg "|)") ((sg x).length + 1)
  have i4 := take_RI i3 (sg "|")
  have i5 := blk_RI i4 n (sg ")") ((sg x).length + 1)
  have m5 := mono_blk (ends := sg "|)") (mono_stm (sg x) n) ((sg x).length + 1)
  refine m_take h hI ?_
  refine m_enter (rd_set h.ne) i1 hk ?_
  rw [set_set]
  refine m_block (rd_set h.ne) i2 hk (fun e => brO_ft _ e _) ?_
  rw [set_set]
  refine m_take (rd_set h.ne) i3 ?_
  rw [set_set]
  refine m_block (rd_set h.ne) i4 hk (fun e => ?_) ?_
  · have hne := brO_ft (sg x) e (rTake (sg x) (sg ".1#!") s).2
    obtain ⟨o, ho⟩ := Option.ne_none_iff_exists'.mp hne
    have a1 := (m5 0 _ i2.g).2.2 o ho
    have a2 := (mono_take (sg x) (sg "|") 0 _ i3.g).2.2 o a1
    rw [a2]
    simp
  rw [set_set]
  refine m_take (rd_set h.ne) i5 ?_
  rw [set_set]
  exact ⟨sm10 (by simp), fin_ret q⟩
theorem pure_ProgramReader_read_statement {C R : Addr} (n : Nat) (ds : List D) (G : GH) (Q : DK) (E : DXK) (h : sp_rd_stm R (n + 1) ds G Q E) : t_ProgramReader_read_statement C (sp_rd_block R n) (sp_rd_test R n) R E (fnEnds Q) (startD N_ProgramReader_read_statement ds) G := by
  obtain ⟨p, l, x, k, s, rfl, hk, h1, hft, h, hI, q⟩ := h
  show t_ProgramReader_read_statement C (sp_rd_block R n) (sp_rd_test R n) R E (fnEnds Q) [some (.ref p), some (.int (k : Int)), none, none, none, none] G
  unfold t_ProgramReader_read_statement t_ProgramReader_read_statement_16 t_ProgramReader_read_statement_15 t_ProgramReader_read_statement_14 t_ProgramReader_read_statement_13 t_ProgramReader_read_statement_12 t_ProgramReader_read_statement_11 t_ProgramReader_read_statement_10 t_ProgramReader_read_statement_9 t_ProgramReader_read_statement_8 t_ProgramReader_read_statement_7 t_ProgramReader_read_statement_6 t_ProgramReader_read_statement_5 t_ProgramReader_read_statement_4 t_ProgramReader_read_statement_3 t_ProgramReader_read_statement_2 t_ProgramReader_read_statement_1
  simp only [dSeq, dIfS, dTst, dTru, dNot, dAnd, dOr, dAndV, dOrV, dNotV, dRet, dRetN, dDrop, dAsg, dNext, dBreak, dCont, dVar, getS, dC, dOp, dChain, dF1, dF2, dCall, dCons, dNil, dTup, dLst, dLstM, dIf, dNeg, uNeg, dLc, dLcM, dItr, dZip, dEnum, dRange1, dRange2, dFor, dPut, dAug, dPar2, dPar3, dSl, dPart, dNoPart, dM1, dM0, dCB, on1, isB, setT, setTs, dRaise, dMk, dYes, dLstRg, dRg1, wipeD, dFld, dSFld, dFldAug, dMeth, dMake, dWhile, dRepl, List.set]
  have i0 := take_RI hI (sg "swx?*@")
  refine f_place h ?_
  refine m_take h hI ?_
  refine eqX ?_
  rw [show decide (chS (rTake (sg x) (sg "swx?*@") s).1 = ("?" : Str)) = decide ((rTake (sg x) (sg "swx?*@") s).1 = some 63) from eqC _ 63]
  by_cases c1 : (rTake (sg x) (sg "swx?*@") s).1 = some 63
  · rw [decide_eq_true c1]
    rw [stm_q c1] at q
    simp only [getS, List.set, truD, isB, i2, TT0, true_and, Bool.not_true, Bool.not_false, Bool.false_eq_true, if_false, if_true, dVar, dC, setT, setTs]
    refine insR (rd_set h.ne).p ⟨rfl, p, l, x, k, _, rfl, hk, rd_set h.ne, i0, ?_⟩
    rw [set_set]
    exact fin_ret q
  · rw [decide_eq_false c1]
    simp only [getS, List.set, truD, isB, i2, TT0, true_and, Bool.not_true, Bool.not_false, Bool.false_eq_true, if_false, if_true, dVar, dC, setT, setTs]
    refine eqX ?_
    rw [show decide (chS (rTake (sg x) (sg "swx?*@") s).1 = ("*" : Str)) = decide ((rTake (sg x) (sg "swx?*@") s).1 = some 42) from eqC _ 42]
    by_cases c2 : (rTake (sg x) (sg "swx?*@") s).1 = some 42
    · rw [decide_eq_true c2]
      rw [stm_r c2] at q
      simp only [getS, List.set, truD, isB, i2, TT0, true_and, Bool.not_true, Bool.not_false, Bool.false_eq_true, if_false, if_true, dVar, dC, setT, setTs]
      have i1 := take_RI i0 (sg "23456789")
      have i2 := take_RI i1 (brO n)
      have i3 := blk_RI i2 n (sg ")") ((sg x).length + 1)
      refine m_take (rd_set h.ne) i0 ?_
      rw [set_set]
      refine m_enter (rd_set h.ne) i1 hk ?_
      rw [set_set]
      refine m_block (rd_set h.ne) i2 hk (fun e => brO_ft _ e _) ?_
      rw [set_set]
      refine m_take (rd_set h.ne) i3 ?_
      rw [set_set]
      exact ⟨sm10 (by simp), fin_ret q⟩
    · rw [decide_eq_false c2]
      simp only [getS, List.set, truD, isB, i2, TT0, true_and, Bool.not_true, Bool.not_false, Bool.false_eq_true, if_false, if_true, dVar, dC, setT, setTs]
      refine eqX ?_
      rw [show decide (chS (rTake (sg x) (sg "swx?*@") s).1 = ("@" : Str)) = decide ((rTake (sg x) (sg "swx?*@") s).1 = some 64) from eqC _ 64]
      by_cases c3 : (rTake (sg x) (sg "swx?*@") s).1 = some 64
      · rw [decide_eq_true c3]
        rw [stm_l c3] at q
        simp only [getS, List.set, truD, isB, i2, TT0, true_and, Bool.not_true, Bool.not_false, Bool.false_eq_true, if_false, if_true, dVar, dC, setT, setTs]
        have i2 := take_RI i0 (brO n)
        have i3 := blk_RI i2 n (sg ")") ((sg x).length + 1)
        have i4 : RI x (lopZ (sg x) n s) := take_RI i3 (sg ")")
        have hz : (lopZ (sg x) n s).lp.length ≤ 1000 := by have := i4.lp; have := i4.pl; have := i4.sz; omega
        refine m_enter (rd_set h.ne) i0 hk ?_
        rw [set_set]
        refine m_block (rd_set h.ne) i2 hk (fun e => brO_ft _ e _) ?_
        rw [set_set]
        refine m_take (rd_set h.ne) i3 ?_
        rw [set_set]
        have h4 : Rd R x p l (lopZ (sg x) n s) (setRd R x p l (lopZ (sg x) n s) G) := rd_set h.ne
        refine f_loops h4 ?_
        refine ownLR h4.l ⟨sm10 (by simp), ?_⟩
        refine getLR h4.l ⟨by rw [List.length_map, sizeL]; omega, ?_⟩
        have eu := upd_lp h4 (z := (s.pl, (lopB (sg x) n s).1))
        rw [set_set] at eu
        have eu' : updG (setRd R x p l (lopZ (sg x) n s) G) l (.lst ((lopZ (sg x) n s).lp.map encLp ++ [.tup [.int (s.pl : Int), .tup (encPB (lopB (sg x) n s).1)]])) = setRd R x p l { lopZ (sg x) n s with lp := (lopZ (sg x) n s).lp ++ [(s.pl, (lopB (sg x) n s).1)] } G := eu
        rw [eu']
        have h5 : Rd R x p l { lopZ (sg x) n s with lp := (lopZ (sg x) n s).lp ++ [(s.pl, (lopB (sg x) n s).1)] } (setRd R x p l { lopZ (sg x) n s with lp := (lopZ (sg x) n s).lp ++ [(s.pl, (lopB (sg x) n s).1)] } G) := rd_set h.ne
        refine f_loops h5 ?_
        refine lenR h5.l ?_
        have el : (((lopZ (sg x) n s).lp ++ [(s.pl, (lopB (sg x) n s).1)]).map encLp).length = (lopZ (sg x) n s).lp.length + 1 := by rw [List.length_map, List.length_append] <;> rfl
        refine ⟨sm10 (by simp), ?_⟩
        have q' := fin_ret q
        unfold encPS at q'
        rw [← el] at q'
        exact q'
      · rw [decide_eq_false c3]
        rw [stm_a c1 c2 c3] at q
        simp only [getS, List.set, truD, isB, i2, TT0, true_and, Bool.not_true, Bool.not_false, Bool.false_eq_true, if_false, if_true, dVar, dC, setT, setTs]
        exact ⟨sm10 (by simp), fin_ret q⟩
end KL


end

section
set_option Elab.async false
set_option linter.all false
set_option maxRecDepth 100000
set_option maxHeartbeats 1000000
open PySem PySem.Spec PyProof.Rows L2 DL
namespace KL
/-! ### what a reading makes -/
structure Sh (n : Nat) (b : PB) : Prop where
  dp : dpB b ≤ n
  at_ : atB b = true
def ShL (s : RS) : Prop := ∀ z ∈ s.lp, Sh 9 z.2
theorem take_shl {cs sm : List Nat} {s : RS} (h : ShL s) : ShL (rTake cs sm s).2 := by
  unfold ShL
  rw [take_lp]
  exact h
theorem blk_sh {stm : RS → PS × RS} {cs ends : List Nat} {n : Nat} (hs : ∀ s, ShL s → (dpS (stm s).1 ≤ n ∧ atS (stm s).1 = true) ∧ ShL (stm s).2) : ∀ m s, ShL s → Sh n (rBlk stm cs ends m s).1 ∧ ShL (rBlk stm cs ends m s).2
  | 0, s, h => ⟨⟨Nat.zero_le _, rfl⟩, h⟩
  | m + 1, s, h => by
    by_cases hf : s.ft = none
    · cases hc : cs[skp cs s.pl]? with
      | none =>
        rw [blk_end hf (fun c z => by rw [hc] at z; cases z)]
        exact ⟨⟨Nat.zero_le _, rfl⟩, h⟩
      | some c =>
        by_cases he : c ∈ ends
        · rw [blk_end hf (fun c' z => by rw [hc] at z; cases z; exact he)]
          exact ⟨⟨Nat.zero_le _, rfl⟩, h⟩
        · rw [blk_go hf hc he]
          obtain ⟨⟨a1, a2⟩, a3⟩ := hs { s with pl := skp cs s.pl } h
          obtain ⟨b1, b2⟩ := blk_sh (ends := ends) hs m _ a3
          refine ⟨⟨Nat.max_le.mpr ⟨a1, b1.dp⟩, ?_⟩, b2⟩
          show (atS _ && atB _) = true
          rw [a2, b1.at_] <;> rfl
    · rw [blk_ft hf]
      exact ⟨⟨Nat.zero_le _, rfl⟩, h⟩
theorem atom_ok {o : Option Nat} {cs : List Nat} {s : RS} (h1 : (rTake cs (sg "swx?*@") s).1 ≠ some 63) (h2 : (rTake cs (sg "swx?*@") s).1 ≠ some 42) (h3 : (rTake cs (sg "swx?*@") s).1 ≠ some 64) : atS (.atom (chS (rTake cs (sg "swx?*@") s).1)) = true := by
  rcases take_cases cs (sg "swx?*@") s with ⟨c, hm, _, e⟩ | e
  · rw [e] at h1 h2 h3 ⊢
    have hm : c ∈ ([115, 119, 120, 63, 42, 64] : List Nat) := hm
    simp only [List.mem_cons, List.not_mem_nil, or_false] at hm
    rcases hm with rfl | rfl | rfl | rfl | rfl | rfl
    · exact show atS (.atom (chS (some 115))) = true by decide +kernel
    · exact show atS (.atom (chS (some 119))) = true by decide +kernel
    · exact show atS (.atom (chS (some 120))) = true by decide +kernel
    · exact absurd rfl h1
    · exact absurd rfl h2
    · exact absurd rfl h3
  · rw [e]
    exact show atS (.atom (chS none)) = true by decide +kernel
theorem stm_sh (cs : List Nat) : ∀ n, n ≤ 9 → ∀ s, ShL s → (dpS (rStm cs n s).1 ≤ n ∧ atS (rStm cs n s).1 = true) ∧ ShL (rStm cs n s).2
  | 0, _, s, h => ⟨⟨Nat.zero_le _, show atS (.atom "") = true by decide +kernel⟩, h⟩
  | n + 1, hn, s, h => by
    have ih := stm_sh cs n (by omega)
    have bl : ∀ (ends : List Nat) (s : RS), ShL s → Sh n (rBlk (rStm cs n) cs ends (cs.length + 1) s).1 ∧ ShL (rBlk (rStm cs n) cs ends (cs.length + 1) s).2 := fun ends s h => blk_sh ih _ s h
    by_cases h1 : (rTake cs (sg "swx?*@") s).1 = some 63
    · rw [stm_q h1]
      obtain ⟨a1, a2⟩ := bl (sg "|)") _ (take_shl (sm := brO n) (take_shl (sm := sg ".1#!") (take_shl (sm := sg "swx?*@") (cs := cs) h)))
      obtain ⟨b1, b2⟩ := bl (sg ")") _ (take_shl (cs := cs) (sm := sg "|") a2)
      refine ⟨⟨?_, ?_⟩, take_shl b2⟩
      · exact Nat.succ_le_succ (Nat.max_le.mpr ⟨a1.dp, b1.dp⟩)
      · show (atB _ && atB _) = true
        exact Bool.and_eq_true_iff.mpr ⟨a1.at_, b1.at_⟩
    · by_cases h2 : (rTake cs (sg "swx?*@") s).1 = some 42
      · rw [stm_r h2]
        obtain ⟨a1, a2⟩ := bl (sg ")") _ (take_shl (sm := brO n) (take_shl (sm := sg "23456789") (take_shl (sm := sg "swx?*@") (cs := cs) h)))
        exact ⟨⟨Nat.succ_le_succ a1.dp, a1.at_⟩, take_shl a2⟩
      · by_cases h3 : (rTake cs (sg "swx?*@") s).1 = some 64
        · rw [stm_l h3]
          obtain ⟨a1, a2⟩ := bl (sg ")") _ (take_shl (sm := brO n) (take_shl (sm := sg "swx?*@") (cs := cs) h))
          refine ⟨⟨Nat.succ_le_succ a1.dp, a1.at_⟩, fun z hz => ?_⟩
          rcases List.mem_append.mp hz with hz | hz
          · exact take_shl (sm := sg ")") a2 z hz
          · rw [List.mem_singleton.mp hz]
            exact ⟨by have e : dpB (lopB cs n s).1 ≤ n := a1.dp; show dpB (lopB cs n s).1 ≤ 9; omega, a1.at_⟩
        · rw [stm_a h1 h2 h3]
          exact ⟨⟨Nat.zero_le _, atom_ok (o := none) h1 h2 h3⟩, take_shl h⟩
/-! without a fault every figure stands -/
theorem back_ft {cs : List Nat} {f : RS → RS} (hm : Mono cs f) {a : Nat} {s : RS} (h : RG cs a s) (e : (f s).ft = none) : s.ft = none := by
  cases hs : s.ft with
  | none => rfl
  | some o => rw [(hm a s h).2.2 o hs] at e; cases e
theorem blk_ok {stm : RS → PS × RS} {cs ends : List Nat} (hm : Mono cs fun s => (stm s).2) (hs : ∀ a s, RG cs a s → (stm s).2.ft = none → okS (stm s).1 = true) : ∀ m a s, RG cs a s → (rBlk stm cs ends m s).2.ft = none → okB (rBlk stm cs ends m s).1 = true
  | 0, a, s, _, _ => rfl
  | m + 1, a, s, h, e => by
    by_cases hf : s.ft = none
    · cases hc : cs[skp cs s.pl]? with
      | none =>
        rw [blk_end hf (fun c z => by rw [hc] at z; cases z)]
        rfl
      | some c =>
        by_cases he : c ∈ ends
        · rw [blk_end hf (fun c' z => by rw [hc] at z; cases z; exact he)]
          rfl
        · rw [blk_go hf hc he] at e ⊢
          have h1 := (mono_skp cs a s h).1
          have h2 := (hm a _ h1).1
          have e2 := back_ft (mono_blk (ends := ends) hm m) h2 e
          show (okS _ && okB _) = true
          exact Bool.and_eq_true_iff.mpr ⟨hs a _ h1 e2, blk_ok hm hs m a _ h2 e⟩
    · rw [blk_ft hf]
      rfl
theorem fig_ok {cs : List Nat} {s : RS} (h : (rTake cs (sg "23456789") s).2.ft = none) : ∃ c, 50 ≤ c ∧ c ≤ 57 ∧ (rTake cs (sg "23456789") s).1 = some c := by
  obtain ⟨_, c, hm, _, e⟩ := take_ft h
  refine ⟨c, ?_, ?_, by rw [e]⟩
  all_goals
    have : c ∈ ([50, 51, 52, 53, 54, 55, 56, 57] : List Nat) := hm
    simp at this
    omega
theorem stm_ok (cs : List Nat) : ∀ n a s, RG cs a s → (rStm cs n s).2.ft = none → okS (rStm cs n s).1 = true
  | 0, a, s, _, _ => rfl
  | n + 1, a, s, h, e => by
    have ms := mono_stm cs n
    have ih := stm_ok cs n
    have bl : ∀ (ends : List Nat) a s, RG cs a s → (rBlk (rStm cs n) cs ends (cs.length + 1) s).2.ft = none → okB (rBlk (rStm cs n) cs ends (cs.length + 1) s).1 = true := fun ends a s h e => blk_ok ms ih _ a s h e
    have mb : ∀ (ends : List Nat), Mono cs fun s => (rBlk (rStm cs n) cs ends (cs.length + 1) s).2 := fun ends => mono_blk ms _
    have g0 := (mono_take cs (sg "swx?*@") a s h).1
    by_cases h1 : (rTake cs (sg "swx?*@") s).1 = some 63
    · rw [stm_q h1] at e ⊢
      have g1 := (mono_take cs (sg ".1#!") a _ g0).1
      have g2 := (mono_take cs (brO n) a _ g1).1
      have g3 := (mb (sg "|)") a _ g2).1
      have g4 := (mono_take cs (sg "|") a _ g3).1
      have g5 := (mb (sg ")") a _ g4).1
      have e5 := back_ft (mono_take cs (sg ")")) g5 e
      have e3 := back_ft (mono_take cs (sg "|")) g3 (back_ft (mb (sg ")")) g4 e5)
      show (okB _ && okB _) = true
      exact Bool.and_eq_true_iff.mpr ⟨bl _ a _ g2 e3, bl _ a _ g4 e5⟩
    · by_cases h2 : (rTake cs (sg "swx?*@") s).1 = some 42
      · rw [stm_r h2] at e ⊢
        have g1 := (mono_take cs (sg "23456789") a _ g0).1
        have g2 := (mono_take cs (brO n) a _ g1).1
        have g3 := (mb (sg ")") a _ g2).1
        have e3 := back_ft (mono_take cs (sg ")")) g3 e
        have e1 := back_ft (mono_take cs (brO n)) g1 (back_ft (mb (sg ")")) g2 e3)
        obtain ⟨c, c1, c2, ec⟩ := fig_ok e1
        show ((match sg (chS _) with | [c] => decide (50 ≤ c) && decide (c ≤ 57) | _ => false) && okB _) = true
        rw [ec]
        show ((decide (50 ≤ c) && decide (c ≤ 57)) && okB _) = true
        rw [decide_eq_true c1, decide_eq_true c2, bl _ a _ g2 e3] <;> rfl
      · by_cases h3 : (rTake cs (sg "swx?*@") s).1 = some 64
        · rw [stm_l h3] at e ⊢
          have g2 := (mono_take cs (brO n) a _ g0).1
          have g3 := (mb (sg ")") a _ g2).1
          have e3 := back_ft (mono_take cs (sg ")")) g3 e
          exact bl _ a _ g2 e3
        · rw [stm_a h1 h2 h3]
          rfl
theorem rg0 (cs : List Nat) : RG cs 0 ⟨0, none, []⟩ := ⟨Nat.zero_le _, Nat.le_refl _⟩
theorem rAll_sh (cs : List Nat) : Sh 9 (rAll cs).1 ∧ ShL (rAll cs).2 := blk_sh (stm_sh cs 9 (by decide)) _ _ fun z hz => by cases hz
theorem rAll_ok {cs : List Nat} (h : (rAll cs).2.ft = none) : okB (rAll cs).1 = true := blk_ok (mono_stm cs 9) (stm_ok cs 9) _ 0 _ (rg0 cs) h
theorem rAll_RI {x : Str} (h : x.length ≤ 1000) : RI x (rAll (sg x)).2 := .of h ((mono_blk (mono_stm (sg x) 9) _) 0 _ (rg0 _)).1
/-! ### read_all -/
theorem min_fold : ∀ (l : List Nat) (a : Nat), l.foldl min a ∈ a :: l ∧ ∀ y ∈ a :: l, l.foldl min a ≤ y
  | [], a => ⟨by simp, by simp⟩
  | b :: l, a => by
    obtain ⟨h1, h2⟩ := min_fold l (min a b)
    rw [List.foldl_cons]
    have h3 := h2 (min a b) (by simp)
    refine ⟨?_, fun y hy => ?_⟩
    · rcases List.mem_cons.mp h1 with e | h1
      · rw [e]
        rcases Nat.le_total a b with h | h
        · rw [Nat.min_eq_left h]; simp
        · rw [Nat.min_eq_right h]; simp
      · simp [h1]
    · rcases List.mem_cons.mp hy with e | hy
      · rw [e]; omega
      · rcases List.mem_cons.mp hy with e | hy
        · rw [e]; omega
        · exact h2 y (by simp [hy])
/-- min of a list of numbers -/
theorem minL_nats {l : List Nat} {m : Nat} {d : D} {G : GH} {Q : DK} (hd : asL d G = some (natsD l)) (hm : minN l = some m) (q : Q (.int (m : Int)) G) : minLF d G Q := by
  unfold minLF
  rw [hd]
  refine ⟨l.map fun (n : Nat) => (n : Int), natsD_ints l, ?_, fun z hz hle => ?_⟩
  · cases l with
    | nil => cases hm
    | cons a l => simp
  · cases l with
    | nil => cases hm
    | cons a l =>
      have hm : l.foldl min a = m := Option.some.inj hm
      obtain ⟨h1, h2⟩ := min_fold l a
      obtain ⟨b, hb, rfl⟩ := List.mem_map.mp hz
      have e1 := h2 b hb
      have e2 := hle ((l.foldl min a : Nat) : Int) (List.mem_map.mpr ⟨_, h1, rfl⟩)
      have e2 : (b : Int) ≤ ((l.foldl min a : Nat) : Int) := e2
      have : b = m := by omega
      rw [this]
      exact q
theorem pure_ProgramReader_read_all {C R : Addr} (ds : List D) (G : GH) (Q : DK) (E : DXK) (h : sp_rd_all R ds G Q E) : t_ProgramReader_read_all C R E (fnEnds Q) (startD N_ProgramReader_read_all ds) G := by
  obtain ⟨p, l, x, rfl, h, hx, q⟩ := h
  show t_ProgramReader_read_all C R E (fnEnds Q) [some (.ref p), none, none, none, none] G
  unfold t_ProgramReader_read_all
  simp only [dSeq, dIfS, dTst, dTru, dNot, dAnd, dOr, dAndV, dOrV, dNotV, dRet, dRetN, dDrop, dAsg, dNext, dBreak, dCont, dVar, getS, dC, dOp, dChain, dF1, dF2, dCall, dCons, dNil, dTup, dLst, dLstM, dIf, dNeg, uNeg, dLc, dLcM, dItr, dZip, dEnum, dRange1, dRange2, dFor, dPut, dAug, dPar2, dPar3, dSl, dPart, dNoPart, dM1, dM0, dCB, on1, isB, setT, setTs, dRaise, dMk, dYes, dLstRg, dRg1, wipeD, dFld, dSFld, dFldAug, dMeth, dMake, dWhile, dRepl, List.set]
  have hI : RI x ⟨0, none, []⟩ := .of hx (rg0 _)
  have hI' := rAll_RI hx
  refine insR h.p ⟨rfl, p, l, x, "", 0, _, rfl, rfl, (by decide), h, hI, ?_⟩
  have es : sg ("" : Str) = [] := by decide +kernel
  rw [es]
  rw [show rBlk (rStm (sg x) 9) (sg x) [] ((sg x).length + 1) ⟨0, none, []⟩ = rAll (sg x) from rfl]
  have h1 : Rd R x p l (rAll (sg x)).2 (setRd R x p l (rAll (sg x)).2 G) := rd_set h.ne
  refine f_loops h1 ?_
  simp only [itD]
  rw [h1.l]
  have hl : (rAll (sg x)).2.lp.length ≤ 1000 := by have := hI'.lp; have := hI'.pl; omega
  refine comp_enc encLp (fun z => cpB z.2) (fun z => .int (z.1 : Int)) (rAll (sg x)).2.lp h1.l (fun z hz k k0 g1 g2 => ?_) (by rw [sizeL]; omega) ?_
  · have hs := (rAll_sh (sg x)).2 z hz
    show setT _ (.tup [.int (z.1 : Int), .tup (encPB z.2)]) _ _
    simp only [dSeq, dIfS, dTst, dTru, dNot, dAnd, dOr, dAndV, dOrV, dNotV, dRet, dRetN, dDrop, dAsg, dNext, dBreak, dCont, dVar, getS, dC, dOp, dChain, dF1, dF2, dCall, dCons, dNil, dTup, dLst, dLstM, dIf, dNeg, uNeg, dLc, dLcM, dItr, dZip, dEnum, dRange1, dRange2, dFor, dPut, dAug, dPar2, dPar3, dSl, dPart, dNoPart, dM1, dM0, dCB, on1, isB, setT, setTs, dRaise, dMk, dYes, dLstRg, dRg1, wipeD, dFld, dSFld, dFldAug, dMeth, dMake, dWhile, dRepl, List.set, List.set]
    refine ⟨z.2, rfl, Nat.le_trans hs.dp (by decide), hs.at_, ?_⟩
    cases hd : cpB z.2 with
    | true => simp only [getS, List.set, truD, isB, i2, TT0, true_and, Bool.not_true, Bool.not_false, Bool.false_eq_true, if_false, if_true, dVar, dC, setT, setTs]; exact g1 hd
    | false => simp only [getS, List.set, truD, isB, i2, TT0, true_and, Bool.not_true, Bool.not_false, Bool.false_eq_true, if_false, if_true, dVar, dC, setT, setTs]; exact g2 hd
  · have e : ((rAll (sg x)).2.lp.filter fun z => cpB z.2).map (fun z => D.int (z.1 : Int)) = natsD (idl (rAll (sg x)).2.lp) := by unfold natsD idl; rw [List.map_map] <;> rfl
    rw [e]
    refine f_fault h1 ?_
    simp only [isND, isB]
    rw [isN_opt]
    have q := fin_ret q
    cases hf : (rAll (sg x)).2.ft with
    | some o =>
      have ef : flaw (sg x) = some o := by unfold flaw; rw [hf] <;> rfl
      rw [ef] at q
      have eq : ({ (rAll (sg x)).2 with ft := some o } : RS) = (rAll (sg x)).2 := by rw [← hf]
      rw [eq] at q
      simp only [reduceCtorEq, decide_false, Bool.false_eq_true, if_false]
      exact q
    | none =>
      simp only [decide_true, if_true]
      have ef : flaw (sg x) = minN (idl (rAll (sg x)).2.lp) := by unfold flaw; rw [hf] <;> rfl
      rw [ef] at q
      cases hi : idl (rAll (sg x)).2.lp with
      | nil =>
        rw [hi] at q
        have eq : ({ (rAll (sg x)).2 with ft := minN [] } : RS) = (rAll (sg x)).2 := by rw [show minN [] = (none : Option Nat) from rfl, ← hf]
        rw [eq] at q
        exact q
      | cons a r =>
        rw [hi] at q
        simp only [truD]
        rw [show (!(natsD (a :: r)).isEmpty) = true from rfl]
        simp only [if_true]
        refine minL_nats (l := a :: r) (m := r.foldl min a) rfl rfl ?_
        refine insR h1.p ⟨show 4 < 1000 by decide, ?_⟩
        have e := u_fault h1 (some (r.foldl min a))
        rw [show optN (some (r.foldl min a)) = .int ((r.foldl min a : Nat) : Int) from rfl] at e
        rw [e, set_set]
        exact q
/-! ### can_pass, weight_of -/
theorem eqv_str (a b : Str) : PyData.eqv (D.str a).py (D.str b).py = decide (a = b) := by
  simp only [D.py, PyData.eqv]
  first
    | rfl
    | (by_cases h : a = b
       · subst h; simp
       · simp [h])
theorem dpt_str {x : Str} (h : PyData.strOk x = true) (n : Nat) : dpt n (.str x) = true := by cases n <;> exact h
theorem inStrs {neg : Bool} {w : Str} {l : List Str} {G : GH} {Q : DK} (hw : PyData.strOk w = true) (hl : ∀ z ∈ l, PyData.strOk z = true) (q : Q (.bl (l.any (fun z => decide (z = w)) ^^ neg)) G) : inQ neg (.str w) (.tup (l.map .str)) G Q := by
  have hd : ∀ d ∈ l.map D.str, dpt 0 d = true := fun d hd => by
    obtain ⟨n, hn, rfl⟩ := List.mem_map.mp hd
    exact dpt_str (hl n hn) 0
  refine ⟨⟨shp 0 (dpt_str hw 0), shp_tup 0 hd⟩, ?_⟩
  show Q (.bl (((l.map D.str).any fun z => PyData.eqv z.py (D.str w).py) ^^ neg)) G
  rw [List.any_map]
  have e : ((fun z => PyData.eqv (D.py z) (D.str w).py) ∘ D.str) = fun z => decide (z = w) := by
    funext z
    exact eqv_str z w
  rw [e]
  exact q
theorem acts_ok : ∀ z ∈ (["s", "w", "x", "@"] : List Str), PyData.strOk z = true := by decide +kernel
theorem cp_loop {C : Addr} {Ex : DXK} (E : DEnds) {sp : DSp} {n : Nat} (hsp : n ≠ 0 → sp = sp_can_pass (n - 1)) (G : GH) (v0 : Option D) : ∀ (b : PB) (v1 v2 : Option D), dpB b ≤ n → atB b = true → (cpB b = false → E.rt (.bl false) G) → (cpB b = true → ∀ v1 v2, E.nx [v0, v1, v2] G) →
    loopD yes0 (.name 1) (t_can_pass_1 C sp Ex) E (encPB b) [v0, v1, v2] G
  | .nil, v1, v2, _, _, _, h2 => ⟨trivial, h2 rfl _ _⟩
  | .cons s r, v1, v2, hd, ha, h1, h2 => by
    obtain ⟨d1, d2⟩ := Nat.max_le.mp (show max (dpS s) (dpB r) ≤ n from hd)
    obtain ⟨a1, a2⟩ := Bool.and_eq_true_iff.mp (show (atS s && atB r) = true from ha)
    have ec : cpB (.cons s r) = (cpS s && cpB r) := rfl
    rw [ec] at h1 h2
    have go : cpS s = true → ∀ v1 v2, loopD yes0 (.name 1) (t_can_pass_1 C sp Ex) E (encPB r) [v0, v1, v2] G := fun e v1 v2 => by
      rw [e, Bool.true_and] at h1 h2
      exact cp_loop E hsp G v0 r v1 v2 d2 a2 h1 h2
    have no : cpS s = false → E.rt (.bl false) G := fun e => h1 (by rw [e] <;> rfl)
    have sub : ∀ (b : PB), dpB b + 1 ≤ n → atB b = true → ∀ (k : DK), k (.bl (cpB b)) G → sp [.tup (encPB b)] G k noX := fun b hb hab k hk => by
      rw [hsp (by omega)]
      exact ⟨b, rfl, by omega, hab, hk⟩
    refine ⟨trivial, ?_⟩
    cases s with
    | atom w =>
      show setT _ (.tup [.str w]) _ _
      unfold t_can_pass_1
      simp only [dSeq, dIfS, dTst, dTru, dNot, dAnd, dOr, dAndV, dOrV, dNotV, dRet, dRetN, dDrop, dAsg, dNext, dBreak, dCont, dVar, getS, dC, dOp, dChain, dF1, dF2, dCall, dCons, dNil, dTup, dLst, dLstM, dIf, dNeg, uNeg, dLc, dLcM, dItr, dZip, dEnum, dRange1, dRange2, dFor, dPut, dAug, dPar2, dPar3, dSl, dPart, dNoPart, dM1, dM0, dCB, on1, isB, setT, setTs, dRaise, dMk, dYes, dLstRg, dRg1, wipeD, dFld, dSFld, dFldAug, dMeth, dMake, dWhile, dRepl, List.set, List.set]
      refine ixT (i := 0) (d := .str w) rfl ?_
      refine ⟨sm10 (by simp), ?_⟩
      have ew : w = "" ∨ w = "s" ∨ w = "w" ∨ w = "x" := by
        have a1 : (decide (w = "") || (decide (w = "s") || (decide (w = "w") || decide (w = "x")))) = true := a1
        simpa using a1
      have hw : PyData.strOk w = true := by rcases ew with rfl | rfl | rfl | rfl <;> decide +kernel
      refine inStrs (neg := false) (l := ["s", "w", "x", "@"]) hw acts_ok ?_
      have e : ((["s", "w", "x", "@"] : List Str).any fun z => decide (z = w)) = !cpS (.atom w) := by rcases ew with rfl | rfl | rfl | rfl <;> decide +kernel
      rw [e, Bool.xor_false]
      cases hc : cpS (.atom w) with
      | false =>
        simp only [getS, List.set, truD, isB, i2, TT0, true_and, Bool.not_true, Bool.not_false, Bool.false_eq_true, if_false, if_true, dVar, dC, setT, setTs]
        exact no hc
      | true =>
        simp only [getS, List.set, truD, isB, i2, TT0, true_and, Bool.not_true, Bool.not_false, Bool.false_eq_true, if_false, if_true, dVar, dC, setT, setTs]
        refine eqX ?_
        rw [show decide (w = "*") = false by rcases ew with rfl | rfl | rfl | rfl <;> decide +kernel]
        simp only [getS, List.set, truD, isB, i2, TT0, true_and, Bool.not_true, Bool.not_false, Bool.false_eq_true, if_false, if_true, dVar, dC, setT, setTs]
        refine eqX ?_
        rw [show decide (w = "?") = false by rcases ew with rfl | rfl | rfl | rfl <;> decide +kernel]
        simp only [getS, List.set, truD, isB, i2, TT0, true_and, Bool.not_true, Bool.not_false, Bool.false_eq_true, if_false, if_true, dVar, dC, setT, setTs]
        exact go hc _ _
    | rep k b =>
      show setT _ (.tup [.str "*", .str k, .tup (encPB b)]) _ _
      unfold t_can_pass_1
      simp only [dSeq, dIfS, dTst, dTru, dNot, dAnd, dOr, dAndV, dOrV, dNotV, dRet, dRetN, dDrop, dAsg, dNext, dBreak, dCont, dVar, getS, dC, dOp, dChain, dF1, dF2, dCall, dCons, dNil, dTup, dLst, dLstM, dIf, dNeg, uNeg, dLc, dLcM, dItr, dZip, dEnum, dRange1, dRange2, dFor, dPut, dAug, dPar2, dPar3, dSl, dPart, dNoPart, dM1, dM0, dCB, on1, isB, setT, setTs, dRaise, dMk, dYes, dLstRg, dRg1, wipeD, dFld, dSFld, dFldAug, dMeth, dMake, dWhile, dRepl, List.set, List.set]
      refine ixT (i := 0) (d := .str "*") rfl ?_
      refine ⟨sm10 (by simp), ?_⟩
      refine inStrs (neg := false) (l := ["s", "w", "x", "@"]) (by decide +kernel) acts_ok ?_
      rw [show ((["s", "w", "x", "@"] : List Str).any fun z => decide (z = "*")) = false by decide +kernel]
      simp only [getS, List.set, truD, isB, i2, TT0, true_and, Bool.not_true, Bool.not_false, Bool.false_eq_true, if_false, if_true, dVar, dC, setT, setTs, Bool.xor_self]
      refine eqX ?_
      simp only [decide_true, getS, List.set, truD, isB, i2, TT0, true_and, Bool.not_true, Bool.not_false, Bool.false_eq_true, if_false, if_true, dVar, dC, setT, setTs]
      refine ixT (i := 2) (d := .tup (encPB b)) rfl ?_
      refine sub b d1 a1 _ ?_
      simp only [getS, List.set, truD, isB, i2, TT0, true_and, Bool.not_true, Bool.not_false, Bool.false_eq_true, if_false, if_true, dVar, dC, setT, setTs]
      cases hc : cpB b with
      | false =>
        simp only [getS, List.set, truD, isB, i2, TT0, true_and, Bool.not_true, Bool.not_false, Bool.false_eq_true, if_false, if_true, dVar, dC, setT, setTs]
        exact no hc
      | true =>
        simp only [getS, List.set, truD, isB, i2, TT0, true_and, Bool.not_true, Bool.not_false, Bool.false_eq_true, if_false, if_true, dVar, dC, setT, setTs]
        refine eqX ?_
        rw [show decide (("*" : Str) = "?") = false by decide +kernel]
        simp only [getS, List.set, truD, isB, i2, TT0, true_and, Bool.not_true, Bool.not_false, Bool.false_eq_true, if_false, if_true, dVar, dC, setT, setTs]
        exact go hc _ _
    | lop m b =>
      show setT _ (.tup [.str "@", .int (m : Int), .tup (encPB b)]) _ _
      unfold t_can_pass_1
      simp only [dSeq, dIfS, dTst, dTru, dNot, dAnd, dOr, dAndV, dOrV, dNotV, dRet, dRetN, dDrop, dAsg, dNext, dBreak, dCont, dVar, getS, dC, dOp, dChain, dF1, dF2, dCall, dCons, dNil, dTup, dLst, dLstM, dIf, dNeg, uNeg, dLc, dLcM, dItr, dZip, dEnum, dRange1, dRange2, dFor, dPut, dAug, dPar2, dPar3, dSl, dPart, dNoPart, dM1, dM0, dCB, on1, isB, setT, setTs, dRaise, dMk, dYes, dLstRg, dRg1, wipeD, dFld, dSFld, dFldAug, dMeth, dMake, dWhile, dRepl, List.set, List.set]
      refine ixT (i := 0) (d := .str "@") rfl ?_
      refine ⟨sm10 (by simp), ?_⟩
      refine inStrs (neg := false) (l := ["s", "w", "x", "@"]) (by decide +kernel) acts_ok ?_
      rw [show ((["s", "w", "x", "@"] : List Str).any fun z => decide (z = "@")) = true by decide +kernel]
      simp only [getS, List.set, truD, isB, i2, TT0, true_and, Bool.not_true, Bool.not_false, Bool.false_eq_true, if_false, if_true, dVar, dC, setT, setTs, Bool.xor_false]
      exact no rfl
    | tst m a b =>
      obtain ⟨d3, d4⟩ := Nat.max_le.mp (show max (dpB a) (dpB b) ≤ n - 1 by have : max (dpB a) (dpB b) + 1 ≤ n := d1; omega)
      have hn : 1 ≤ n := by have : max (dpB a) (dpB b) + 1 ≤ n := d1; omega
      obtain ⟨a3, a4⟩ := Bool.and_eq_true_iff.mp (show (atB a && atB b) = true from a1)
      have ecs : cpS (.tst m a b) = (cpB a || cpB b) := rfl
      rw [ecs] at no go
      show setT _ (.tup [.str "?", .str m, .tup (encPB a), .tup (encPB b)]) _ _
      unfold t_can_pass_1
      simp only [dSeq, dIfS, dTst, dTru, dNot, dAnd, dOr, dAndV, dOrV, dNotV, dRet, dRetN, dDrop, dAsg, dNext, dBreak, dCont, dVar, getS, dC, dOp, dChain, dF1, dF2, dCall, dCons, dNil, dTup, dLst, dLstM, dIf, dNeg, uNeg, dLc, dLcM, dItr, dZip, dEnum, dRange1, dRange2, dFor, dPut, dAug, dPar2, dPar3, dSl, dPart, dNoPart, dM1, dM0, dCB, on1, isB, setT, setTs, dRaise, dMk, dYes, dLstRg, dRg1, wipeD, dFld, dSFld, dFldAug, dMeth, dMake, dWhile, dRepl, List.set, List.set]
      refine ixT (i := 0) (d := .str "?") rfl ?_
      refine ⟨sm10 (by simp), ?_⟩
      refine inStrs (neg := false) (l := ["s", "w", "x", "@"]) (by decide +kernel) acts_ok ?_
      rw [show ((["s", "w", "x", "@"] : List Str).any fun z => decide (z = "?")) = false by decide +kernel]
      simp only [getS, List.set, truD, isB, i2, TT0, true_and, Bool.not_true, Bool.not_false, Bool.false_eq_true, if_false, if_true, dVar, dC, setT, setTs, Bool.xor_self]
      refine eqX ?_
      rw [show decide (("?" : Str) = "*") = false by decide +kernel]
      simp only [getS, List.set, truD, isB, i2, TT0, true_and, Bool.not_true, Bool.not_false, Bool.false_eq_true, if_false, if_true, dVar, dC, setT, setTs]
      refine eqX ?_
      simp only [decide_true, getS, List.set, truD, isB, i2, TT0, true_and, Bool.not_true, Bool.not_false, Bool.false_eq_true, if_false, if_true, dVar, dC, setT, setTs]
      refine ixT (i := 2) (d := .tup (encPB a)) rfl ?_
      refine sub a (by omega) a3 _ ?_
      simp only [getS, List.set, truD, isB, i2, TT0, true_and, Bool.not_true, Bool.not_false, Bool.false_eq_true, if_false, if_true, dVar, dC, setT, setTs]
      cases hc : cpB a with
      | true =>
        simp only [getS, List.set, truD, isB, i2, TT0, true_and, Bool.not_true, Bool.not_false, Bool.false_eq_true, if_false, if_true, dVar, dC, setT, setTs]
        exact go (by rw [hc] <;> rfl) _ _
      | false =>
        rw [hc, Bool.false_or] at no go
        simp only [getS, List.set, truD, isB, i2, TT0, true_and, Bool.not_true, Bool.not_false, Bool.false_eq_true, if_false, if_true, dVar, dC, setT, setTs]
        refine ixT (i := 3) (d := .tup (encPB b)) rfl ?_
        refine sub b (by omega) a4 _ ?_
        simp only [getS, List.set, truD, isB, i2, TT0, true_and, Bool.not_true, Bool.not_false, Bool.false_eq_true, if_false, if_true, dVar, dC, setT, setTs]
        cases hc2 : cpB b with
        | true =>
          simp only [getS, List.set, truD, isB, i2, TT0, true_and, Bool.not_true, Bool.not_false, Bool.false_eq_true, if_false, if_true, dVar, dC, setT, setTs]
          exact go hc2 _ _
        | false =>
          simp only [getS, List.set, truD, isB, i2, TT0, true_and, Bool.not_true, Bool.not_false, Bool.false_eq_true, if_false, if_true, dVar, dC, setT, setTs]
          exact no hc2
theorem pure_can_pass {C : Addr} {sp : DSp} (n : Nat) (hsp : n ≠ 0 → sp = sp_can_pass (n - 1)) (ds : List D) (G : GH) (Q : DK) (E : DXK) (h : sp_can_pass n ds G Q E) : t_can_pass C sp E (fnEnds Q) (startD N_can_pass ds) G := by
  obtain ⟨b, rfl, hd, ha, q⟩ := h
  show t_can_pass C sp E (fnEnds Q) [some (.tup (encPB b)), none, none] G
  unfold t_can_pass
  simp only [dSeq, dIfS, dTst, dTru, dNot, dAnd, dOr, dAndV, dOrV, dNotV, dRet, dRetN, dDrop, dAsg, dNext, dBreak, dCont, dVar, getS, dC, dOp, dChain, dF1, dF2, dCall, dCons, dNil, dTup, dLst, dLstM, dIf, dNeg, uNeg, dLc, dLcM, dItr, dZip, dEnum, dRange1, dRange2, dFor, dPut, dAug, dPar2, dPar3, dSl, dPart, dNoPart, dM1, dM0, dCB, on1, isB, setT, setTs, dRaise, dMk, dYes, dLstRg, dRg1, wipeD, dFld, dSFld, dFldAug, dMeth, dMake, dWhile, dRepl, List.set]
  simp only [itD]
  refine cp_loop _ hsp G _ b _ _ hd ha (fun e => ?_) fun e v1 v2 => ?_
  · rw [e] at q
    exact fin_ret q
  · simp only [dSeq, dIfS, dTst, dTru, dNot, dAnd, dOr, dAndV, dOrV, dNotV, dRet, dRetN, dDrop, dAsg, dNext, dBreak, dCont, dVar, getS, dC, dOp, dChain, dF1, dF2, dCall, dCons, dNil, dTup, dLst, dLstM, dIf, dNeg, uNeg, dLc, dLcM, dItr, dZip, dEnum, dRange1, dRange2, dFor, dPut, dAug, dPar2, dPar3, dSl, dPart, dNoPart, dM1, dM0, dCB, on1, isB, setT, setTs, dRaise, dMk, dYes, dLstRg, dRg1, wipeD, dFld, dSFld, dFldAug, dMeth, dMake, dWhile, dRepl, List.set]
    rw [e] at q
    exact fin_ret q
theorem int_fig {c : Nat} (h1 : 50 ≤ c) (h2 : c ≤ 57) : PySem.intText? (⟨#[c]⟩ : Str) = some (((c - 48 : Nat)) : Int) := by
  have : c = 50 ∨ c = 51 ∨ c = 52 ∨ c = 53 ∨ c = 54 ∨ c = 55 ∨ c = 56 ∨ c = 57 := by omega
  rcases this with rfl | rfl | rfl | rfl | rfl | rfl | rfl | rfl <;> decide +kernel
theorem one_sg {k : Str} {c : Nat} (h : sg k = [c]) : k = ⟨#[c]⟩ := by
  obtain ⟨a⟩ := k
  have : a.toList = [c] := h
  have : a = #[c] := by apply Array.toList_inj.mp; rw [this]
  rw [this]
theorem wt_loop {C : Addr} {Ex : DXK} (E : DEnds) {sp : DSp} {n : Nat} (hsp : n ≠ 0 → sp = sp_weight_of (n - 1)) (G : GH) (v0 : Option D) : ∀ (b : PB) (f : Nat) (v2 v3 : Option D), dpB b ≤ n → atB b = true → okB b = true → (∀ v2 v3, E.nx [v0, some (.int ((f + wtB b : Nat) : Int)), v2, v3] G) →
    loopD yes0 (.name 2) (t_weight_of_1 C sp Ex) E (encPB b) [v0, some (.int (f : Int)), v2, v3] G
  | .nil, f, v2, v3, _, _, _, h2 => ⟨trivial, h2 _ _⟩
  | .cons s r, f, v2, v3, hd, ha, ho, h2 => by
    obtain ⟨d1, d2⟩ := Nat.max_le.mp (show max (dpS s) (dpB r) ≤ n from hd)
    obtain ⟨a1, a2⟩ := Bool.and_eq_true_iff.mp (show (atS s && atB r) = true from ha)
    obtain ⟨o1, o2⟩ := Bool.and_eq_true_iff.mp (show (okS s && okB r) = true from ho)
    have ec : wtB (.cons s r) = wtS s + wtB r := rfl
    rw [ec] at h2
    have go : ∀ (i : Int) v2 v3, i = ((wtS s : Nat) : Int) → loopD yes0 (.name 2) (t_weight_of_1 C sp Ex) E (encPB r) [v0, some (.int ((f : Int) + i)), v2, v3] G := fun i v2 v3 e => by
      have ei : (f : Int) + i = ((f + wtS s : Nat) : Int) := by rw [e]; omega
      rw [ei]
      exact wt_loop E hsp G v0 r (f + wtS s) v2 v3 d2 a2 o2 fun v2 v3 => by rw [Nat.add_assoc]; exact h2 v2 v3
    have sub : ∀ (b : PB), dpB b + 1 ≤ n → atB b = true → okB b = true → ∀ (k : DK), k (.int ((wtB b : Nat) : Int)) G → sp [.tup (encPB b)] G k noX := fun b hb hab hob k hk => by
      rw [hsp (by omega)]
      exact ⟨b, rfl, by omega, hab, hob, hk⟩
    refine ⟨trivial, ?_⟩
    cases s with
    | atom w =>
      have ew : w = "" ∨ w = "s" ∨ w = "w" ∨ w = "x" := by
        have a1 : (decide (w = "") || (decide (w = "s") || (decide (w = "w") || decide (w = "x")))) = true := a1
        simpa using a1
      show setT _ (.tup [.str w]) _ _
      unfold t_weight_of_1
      simp only [dSeq, dIfS, dTst, dTru, dNot, dAnd, dOr, dAndV, dOrV, dNotV, dRet, dRetN, dDrop, dAsg, dNext, dBreak, dCont, dVar, getS, dC, dOp, dChain, dF1, dF2, dCall, dCons, dNil, dTup, dLst, dLstM, dIf, dNeg, uNeg, dLc, dLcM, dItr, dZip, dEnum, dRange1, dRange2, dFor, dPut, dAug, dPar2, dPar3, dSl, dPart, dNoPart, dM1, dM0, dCB, on1, isB, setT, setTs, dRaise, dMk, dYes, dLstRg, dRg1, wipeD, dFld, dSFld, dFldAug, dMeth, dMake, dWhile, dRepl, List.set, List.set, dAug]
      refine ixT (i := 0) (d := .str w) rfl ?_
      refine eqX ?_
      rw [show decide (w = "*") = false by rcases ew with rfl | rfl | rfl | rfl <;> decide +kernel]
      simp only [getS, List.set, truD, isB, i2, TT0, true_and, Bool.not_true, Bool.not_false, Bool.false_eq_true, if_false, if_true, dVar, dC, setT, setTs]
      refine eqX ?_
      rw [show decide (w = "?") = false by rcases ew with rfl | rfl | rfl | rfl <;> decide +kernel]
      simp only [getS, List.set, truD, isB, i2, TT0, true_and, Bool.not_true, Bool.not_false, Bool.false_eq_true, if_false, if_true, dVar, dC, setT, setTs]
      refine eqX ?_
      rw [show decide (w = "@") = false by rcases ew with rfl | rfl | rfl | rfl <;> decide +kernel]
      simp only [getS, List.set, truD, isB, i2, TT0, true_and, Bool.not_true, Bool.not_false, Bool.false_eq_true, if_false, if_true, dVar, dC, setT, setTs]
      exact go 1 _ _ rfl
    | rep k b =>
      have o1' : ((match sg k with | [c] => decide (50 ≤ c) && decide (c ≤ 57) | _ => false) && okB b) = true := o1
      rw [Bool.and_eq_true] at o1'
      obtain ⟨o3, o4⟩ := o1'
      obtain ⟨c, ek, c1, c2⟩ : ∃ c, sg k = [c] ∧ 50 ≤ c ∧ c ≤ 57 := by
        split at o3
        · rename_i c e
          rw [Bool.and_eq_true, decide_eq_true_eq, decide_eq_true_eq] at o3
          exact ⟨c, e, o3.1, o3.2⟩
        · cases o3
      have ew : wtS (.rep k b) = (c - 48) * wtB b := by
        show (match sg k with | [c] => c - 48 | _ => 0) * wtB b = _
        rw [ek]
      show setT _ (.tup [.str "*", .str k, .tup (encPB b)]) _ _
      unfold t_weight_of_1
      simp only [dSeq, dIfS, dTst, dTru, dNot, dAnd, dOr, dAndV, dOrV, dNotV, dRet, dRetN, dDrop, dAsg, dNext, dBreak, dCont, dVar, getS, dC, dOp, dChain, dF1, dF2, dCall, dCons, dNil, dTup, dLst, dLstM, dIf, dNeg, uNeg, dLc, dLcM, dItr, dZip, dEnum, dRange1, dRange2, dFor, dPut, dAug, dPar2, dPar3, dSl, dPart, dNoPart, dM1, dM0, dCB, on1, isB, setT, setTs, dRaise, dMk, dYes, dLstRg, dRg1, wipeD, dFld, dSFld, dFldAug, dMeth, dMake, dWhile, dRepl, List.set, List.set, dAug]
      refine ixT (i := 0) (d := .str "*") rfl ?_
      refine eqX ?_
      simp only [decide_true, getS, List.set, truD, isB, i2, TT0, true_and, Bool.not_true, Bool.not_false, Bool.false_eq_true, if_false, if_true, dVar, dC, setT, setTs]
      refine ixT (i := 1) (d := .str k) rfl ?_
      refine ⟨((c - 48 : Nat) : Int), by rw [one_sg ek]; exact int_fig c1 c2, ?_, ?_⟩
      · have : (sg k).length = 1 := by rw [ek] <;> rfl
        rw [sg_len] at this
        omega
      refine ixT (i := 2) (d := .tup (encPB b)) rfl ?_
      refine sub b d1 a1 o4 _ ?_
      refine ⟨.inl ⟨by omega, by omega⟩, ?_⟩
      exact go _ _ _ (by rw [ew, Int.natCast_mul])
    | lop m b =>
      show setT _ (.tup [.str "@", .int (m : Int), .tup (encPB b)]) _ _
      unfold t_weight_of_1
      simp only [dSeq, dIfS, dTst, dTru, dNot, dAnd, dOr, dAndV, dOrV, dNotV, dRet, dRetN, dDrop, dAsg, dNext, dBreak, dCont, dVar, getS, dC, dOp, dChain, dF1, dF2, dCall, dCons, dNil, dTup, dLst, dLstM, dIf, dNeg, uNeg, dLc, dLcM, dItr, dZip, dEnum, dRange1, dRange2, dFor, dPut, dAug, dPar2, dPar3, dSl, dPart, dNoPart, dM1, dM0, dCB, on1, isB, setT, setTs, dRaise, dMk, dYes, dLstRg, dRg1, wipeD, dFld, dSFld, dFldAug, dMeth, dMake, dWhile, dRepl, List.set, List.set, dAug]
      refine ixT (i := 0) (d := .str "@") rfl ?_
      refine eqX ?_
      rw [show decide (("@" : Str) = "*") = false by decide +kernel]
      simp only [getS, List.set, truD, isB, i2, TT0, true_and, Bool.not_true, Bool.not_false, Bool.false_eq_true, if_false, if_true, dVar, dC, setT, setTs]
      refine eqX ?_
      rw [show decide (("@" : Str) = "?") = false by decide +kernel]
      simp only [getS, List.set, truD, isB, i2, TT0, true_and, Bool.not_true, Bool.not_false, Bool.false_eq_true, if_false, if_true, dVar, dC, setT, setTs]
      refine eqX ?_
      simp only [decide_true, getS, List.set, truD, isB, i2, TT0, true_and, Bool.not_true, Bool.not_false, Bool.false_eq_true, if_false, if_true, dVar, dC, setT, setTs]
      refine ixT (i := 2) (d := .tup (encPB b)) rfl ?_
      refine sub b d1 a1 o1 _ ?_
      exact go _ _ _ rfl
    | tst m a b =>
      have hn : 1 ≤ n := by have : max (dpB a) (dpB b) + 1 ≤ n := d1; omega
      obtain ⟨d3, d4⟩ := Nat.max_le.mp (show max (dpB a) (dpB b) ≤ n - 1 by have : max (dpB a) (dpB b) + 1 ≤ n := d1; omega)
      obtain ⟨a3, a4⟩ := Bool.and_eq_true_iff.mp (show (atB a && atB b) = true from a1)
      obtain ⟨o3, o4⟩ := Bool.and_eq_true_iff.mp (show (okB a && okB b) = true from o1)
      show setT _ (.tup [.str "?", .str m, .tup (encPB a), .tup (encPB b)]) _ _
      unfold t_weight_of_1
      simp only [dSeq, dIfS, dTst, dTru, dNot, dAnd, dOr, dAndV, dOrV, dNotV, dRet, dRetN, dDrop, dAsg, dNext, dBreak, dCont, dVar, getS, dC, dOp, dChain, dF1, dF2, dCall, dCons, dNil, dTup, dLst, dLstM, dIf, dNeg, uNeg, dLc, dLcM, dItr, dZip, dEnum, dRange1, dRange2, dFor, dPut, dAug, dPar2, dPar3, dSl, dPart, dNoPart, dM1, dM0, dCB, on1, isB, setT, setTs, dRaise, dMk, dYes, dLstRg, dRg1, wipeD, dFld, dSFld, dFldAug, dMeth, dMake, dWhile, dRepl, List.set, List.set, dAug]
      refine ixT (i := 0) (d := .str "?") rfl ?_
      refine eqX ?_
      rw [show decide (("?" : Str) = "*") = false by decide +kernel]
      simp only [getS, List.set, truD, isB, i2, TT0, true_and, Bool.not_true, Bool.not_false, Bool.false_eq_true, if_false, if_true, dVar, dC, setT, setTs]
      refine eqX ?_
      simp only [decide_true, getS, List.set, truD, isB, i2, TT0, true_and, Bool.not_true, Bool.not_false, Bool.false_eq_true, if_false, if_true, dVar, dC, setT, setTs]
      refine ixT (i := 2) (d := .tup (encPB a)) rfl ?_
      refine sub a (by omega) a3 o3 _ ?_
      refine ixT (i := 3) (d := .tup (encPB b)) rfl ?_
      refine sub b (by omega) a4 o4 _ ?_
      exact go (((wtB a : Nat) : Int) + ((wtB b : Nat) : Int)) _ _ (by show _ = ((wtB a + wtB b : Nat) : Int); omega)
theorem pure_weight_of {C : Addr} {sp : DSp} (n : Nat) (hsp : n ≠ 0 → sp = sp_weight_of (n - 1)) (ds : List D) (G : GH) (Q : DK) (E : DXK) (h : sp_weight_of n ds G Q E) : t_weight_of C sp E (fnEnds Q) (startD N_weight_of ds) G := by
  obtain ⟨b, rfl, hd, ha, ho, q⟩ := h
  show t_weight_of C sp E (fnEnds Q) [some (.tup (encPB b)), none, none, none] G
  unfold t_weight_of
  simp only [dSeq, dIfS, dTst, dTru, dNot, dAnd, dOr, dAndV, dOrV, dNotV, dRet, dRetN, dDrop, dAsg, dNext, dBreak, dCont, dVar, getS, dC, dOp, dChain, dF1, dF2, dCall, dCons, dNil, dTup, dLst, dLstM, dIf, dNeg, uNeg, dLc, dLcM, dItr, dZip, dEnum, dRange1, dRange2, dFor, dPut, dAug, dPar2, dPar3, dSl, dPart, dNoPart, dM1, dM0, dCB, on1, isB, setT, setTs, dRaise, dMk, dYes, dLstRg, dRg1, wipeD, dFld, dSFld, dFldAug, dMeth, dMake, dWhile, dRepl, List.set]
  simp only [itD]
  refine wt_loop _ hsp G _ b 0 _ _ hd ha ho fun v2 v3 => ?_
  simp only [dSeq, dIfS, dTst, dTru, dNot, dAnd, dOr, dAndV, dOrV, dNotV, dRet, dRetN, dDrop, dAsg, dNext, dBreak, dCont, dVar, getS, dC, dOp, dChain, dF1, dF2, dCall, dCons, dNil, dTup, dLst, dLstM, dIf, dNeg, uNeg, dLc, dLcM, dItr, dZip, dEnum, dRange1, dRange2, dFor, dPut, dAug, dPar2, dPar3, dSl, dPart, dNoPart, dM1, dM0, dCB, on1, isB, setT, setTs, dRaise, dMk, dYes, dLstRg, dRg1, wipeD, dFld, dSFld, dFldAug, dMeth, dMake, dWhile, dRepl, List.set]
  rw [Nat.zero_add]
  exact fin_ret q
end KL


end

section
set_option Elab.async false
set_option linter.all false
set_option maxRecDepth 100000
set_option maxHeartbeats 1000000
open PySem PySem.Spec PyProof.Rows L2 DL
namespace KL
theorem le_rd {R p l : Addr} {x : Str} {s : RS} {o : GO} {G : GH} (hp : G p = none) (hl : G l = none) : Le G (setRd R x p l s (updG G p o)) := fun a g e => by
  have h1 : a ≠ p := fun z => by rw [z, hp] at e; cases e
  have h2 : a ≠ l := fun z => by rw [z, hl] at e; cases e
  rw [set_at h1 h2, updG_ne h1]
  exact e
theorem pt_str {d : D} (h : ptOk d = true) : ∃ x : Str, d = .str x ∧ x.length ≤ 600 := by
  cases d with
  | str x =>
    have h : (decide (x.length ≤ 600) && _) = true := h
    rw [Bool.and_eq_true, decide_eq_true_eq] at h
    exact ⟨x, rfl, h.1⟩
  | _ => cases h
theorem pure_program_flaw {C R : Addr} (ds : List D) (G : GH) (Q : DK) (E : DXK) (h : sp_program_flaw C ds G Q E) : t_program_flaw C R E (fnEnds Q) (startD N_program_flaw ds) G := by
  obtain ⟨d, rfl, ⟨⟨n, hd⟩, hs⟩, q1, q2⟩ := h
  show t_program_flaw C R E (fnEnds Q) [some d, none] G
  unfold t_program_flaw
  simp only [dSeq, dIfS, dTst, dTru, dNot, dAnd, dOr, dAndV, dOrV, dNotV, dRet, dRetN, dDrop, dAsg, dNext, dBreak, dCont, dVar, getS, dC, dOp, dChain, dF1, dF2, dCall, dCons, dNil, dTup, dLst, dLstM, dIf, dNeg, uNeg, dLc, dLcM, dItr, dZip, dEnum, dRange1, dRange2, dFor, dPut, dAug, dPar2, dPar3, dSl, dPart, dNoPart, dM1, dM0, dCB, on1, isB, setT, setTs, dRaise, dMk, dYes, dLstRg, dRg1, wipeD, dFld, dSFld, dFldAug, dMeth, dMake, dWhile, dRepl, List.set]
  refine ⟨d, n, rfl, hd, hs, ?_⟩
  refine ⟨ptOk d, "text", rfl, (fun hp => ?_), q1⟩
  obtain ⟨x, rfl, hx⟩ := pt_str hp
  have q := q2 hp x rfl
  refine fun p hp => ⟨p, x, rfl, updG_same, fun l hl hGl => ⟨rfl, ?_⟩⟩
  rw [updG_ne hl] at hGl
  have h1 : Rd R x p l ⟨0, none, []⟩ (setRd R x p l ⟨0, none, []⟩ (updG G p (.ins R []))) := rd_set hl.symm
  refine insR h1.p ⟨rfl, p, l, x, rfl, h1, by omega, ?_⟩
  rw [set_set]
  have h2 : Rd R x p l { (rAll (sg x)).2 with ft := flaw (sg x) } (setRd R x p l { (rAll (sg x)).2 with ft := flaw (sg x) } (updG G p (.ins R []))) := rd_set hl.symm
  refine f_fault h2 ?_
  exact fin_le (le_rd hp hGl) q
theorem pure_statements_of {C R : Addr} (ds : List D) (G : GH) (Q : DK) (E : DXK) (h : sp_statements_of ds G Q E) : t_statements_of C R E (fnEnds Q) (startD N_statements_of ds) G := by
  obtain ⟨d, rfl, ⟨⟨n, hd⟩, hs⟩, q1, q2⟩ := h
  show t_statements_of C R E (fnEnds Q) [some d, none, none] G
  unfold t_statements_of
  simp only [dSeq, dIfS, dTst, dTru, dNot, dAnd, dOr, dAndV, dOrV, dNotV, dRet, dRetN, dDrop, dAsg, dNext, dBreak, dCont, dVar, getS, dC, dOp, dChain, dF1, dF2, dCall, dCons, dNil, dTup, dLst, dLstM, dIf, dNeg, uNeg, dLc, dLcM, dItr, dZip, dEnum, dRange1, dRange2, dFor, dPut, dAug, dPar2, dPar3, dSl, dPart, dNoPart, dM1, dM0, dCB, on1, isB, setT, setTs, dRaise, dMk, dYes, dLstRg, dRg1, wipeD, dFld, dSFld, dFldAug, dMeth, dMake, dWhile, dRepl, List.set]
  refine ⟨d, n, rfl, hd, hs, ?_⟩
  cases hp : ptOk d with
  | false =>
    simp only [getS, List.set, truD, isB, i2, TT0, true_and, Bool.not_true, Bool.not_false, Bool.false_eq_true, if_false, if_true, dVar, dC, setT, setTs]
    exact fin_ret (q1 hp)
  | true =>
    obtain ⟨x, rfl, hx⟩ := pt_str hp
    have q := q2 hp x rfl
    simp only [getS, List.set, truD, isB, i2, TT0, true_and, Bool.not_true, Bool.not_false, Bool.false_eq_true, if_false, if_true, dVar, dC, setT, setTs]
    refine fun p hp => ⟨p, x, rfl, updG_same, fun l hl hGl => ⟨rfl, ?_⟩⟩
    rw [updG_ne hl] at hGl
    have h1 : Rd R x p l ⟨0, none, []⟩ (setRd R x p l ⟨0, none, []⟩ (updG G p (.ins R []))) := rd_set hl.symm
    refine insR h1.p ⟨rfl, p, l, x, rfl, h1, by omega, ?_⟩
    rw [set_set]
    have h2 : Rd R x p l { (rAll (sg x)).2 with ft := flaw (sg x) } (setRd R x p l { (rAll (sg x)).2 with ft := flaw (sg x) } (updG G p (.ins R []))) := rd_set hl.symm
    refine f_fault h2 ?_
    simp only [isND, isB]
    rw [isN_opt]
    show if decide (flaw (sg x) = none) = true then _ else _
    by_cases hf : flaw (sg x) = none
    · rw [if_pos hf] at q
      rw [decide_eq_true hf]
      simp only [if_true]
      exact fin_le (le_rd hp hGl) q
    · rw [if_neg hf] at q
      rw [decide_eq_false hf]
      simp only [Bool.false_eq_true, if_false]
      exact fin_le (le_rd hp hGl) q
theorem valB_pt {d : D} (h : valB d = true) : ptOk d = true ∧ ∃ x, d = .str x ∧ flaw (sg x) = none := by
  cases d with
  | str x =>
    have h : (ptOk (.str x) && decide (flaw (sg x) = none)) = true := h
    rw [Bool.and_eq_true, decide_eq_true_eq] at h
    exact ⟨h.1, x, rfl, h.2⟩
  | _ => cases h
theorem pure_valid_statements {C : Addr} (ds : List D) (G : GH) (Q : DK) (E : DXK) (h : sp_valid_statements C ds G Q E) : t_valid_statements C E (fnEnds Q) (startD N_valid_statements ds) G := by
  obtain ⟨d, rfl, hT, q1, q2⟩ := h
  show t_valid_statements C E (fnEnds Q) [some d, none] G
  unfold t_valid_statements
  simp only [dSeq, dIfS, dTst, dTru, dNot, dAnd, dOr, dAndV, dOrV, dNotV, dRet, dRetN, dDrop, dAsg, dNext, dBreak, dCont, dVar, getS, dC, dOp, dChain, dF1, dF2, dCall, dCons, dNil, dTup, dLst, dLstM, dIf, dNeg, uNeg, dLc, dLcM, dItr, dZip, dEnum, dRange1, dRange2, dFor, dPut, dAug, dPar2, dPar3, dSl, dPart, dNoPart, dM1, dM0, dCB, on1, isB, setT, setTs, dRaise, dMk, dYes, dLstRg, dRg1, wipeD, dFld, dSFld, dFldAug, dMeth, dMake, dWhile, dRepl, List.set]
  refine ⟨d, rfl, hT, fun hp => ?_, fun hp x e => ?_⟩
  · refine ⟨false, "text", rfl, (fun z => absurd z (by decide)), fun _ => q1 ?_⟩
    cases hv : valB d with
    | false => rfl
    | true => rw [(valB_pt hv).1] at hp; cases hp
  · subst e
    by_cases hf : flaw (sg x) = none
    · rw [if_pos hf]
      refine ⟨true, "text", rfl, (fun _ => ?_), (fun z => absurd z (by decide))⟩
      exact fin_ret (q2 (by show (ptOk (.str x) && decide (flaw (sg x) = none)) = true; rw [hp, decide_eq_true hf] <;> rfl) x rfl)
    · rw [if_neg hf]
      refine ⟨false, "text", rfl, (fun z => absurd z (by decide)), fun _ => q1 ?_⟩
      show (ptOk (.str x) && decide (flaw (sg x) = none)) = false
      rw [decide_eq_false hf, Bool.and_false]
theorem flaw_ft {cs : List Nat} (h : flaw cs = none) : (rAll cs).2.ft = none := by
  unfold flaw at h
  cases e : (rAll cs).2.ft with
  | none => rfl
  | some o => rw [e] at h; cases h
theorem pure_weight {C : Addr} (ds : List D) (G : GH) (Q : DK) (E : DXK) (h : sp_weight C ds G Q E) : t_weight C E (fnEnds Q) (startD N_weight ds) G := by
  obtain ⟨d, rfl, hT, q1, q2⟩ := h
  show t_weight C E (fnEnds Q) [some d] G
  unfold t_weight
  simp only [dSeq, dIfS, dTst, dTru, dNot, dAnd, dOr, dAndV, dOrV, dNotV, dRet, dRetN, dDrop, dAsg, dNext, dBreak, dCont, dVar, getS, dC, dOp, dChain, dF1, dF2, dCall, dCons, dNil, dTup, dLst, dLstM, dIf, dNeg, uNeg, dLc, dLcM, dItr, dZip, dEnum, dRange1, dRange2, dFor, dPut, dAug, dPar2, dPar3, dSl, dPart, dNoPart, dM1, dM0, dCB, on1, isB, setT, setTs, dRaise, dMk, dYes, dLstRg, dRg1, wipeD, dFld, dSFld, dFldAug, dMeth, dMake, dWhile, dRepl, List.set]
  refine ⟨d, rfl, hT, q1, fun hv x e => ?_⟩
  subst e
  obtain ⟨_, y, ey, hf⟩ := valB_pt hv
  cases ey
  have hs := (rAll_sh (sg x)).1
  exact ⟨_, rfl, Nat.le_trans hs.dp (by decide), hs.at_, rAll_ok (flaw_ft hf), fin_ret (q2 hv x rfl)⟩
/-! ### plain_program: by hand (its replace wants a token) -/
theorem b1_valid_statements {P : Program} {w : World} {K : PySem.W.Frag} {mg : Str → Option Value} {base : Heap} {fA C : Addr} (B : Blt mg)
    (F_need : FnD P w K mg base "need" 3 ["is_valid", "name"] (sp_need C))
    (F_statements_of : FnD P w K mg base "statements_of" 42 ["text"] sp_statements_of)
    (cdv : Value) (A : Around) (outer : List Env) (s : Shared) (H : Hp) (E : XK) (c : DC) (Ex : DXK) (hr : Room 42 (A.deeper (envOfC "valid_statements" (defScope s_valid_statements) s.heap.objs.size fA cdv))) (ok : XOk (cxOf (L2.CX P w) P w K mg base N_valid_statements "valid_statements" (defScope s_valid_statements) fA cdv A outer s H E) c Ex) :
    PSs1 (cxOf (L2.CX P w) P w K mg base N_valid_statements "valid_statements" (defScope s_valid_statements) fA cdv A outer s H E) (defBody s_valid_statements) (lS K c (t_valid_statements C Ex)) :=
  dss1_asg (rst := fun _ _ _ => True) (ds_set (i := 1) sc_valid_statements.nd (d_call F_statements_of (hr.mono (by decide)) ok (da_cons (d_var (i := 0)) da_nil)))
    (dss1_here (ds1_expr (d1_lit F_need (hr.mono (by decide)) ok (d_cmp od_notN (d_var (i := 1)) d_non (nomark _)))) (dss_one (ds_ret (d_var (i := 1)))))
def t_plain_program (C : Addr) (Ex : DXK) : DS := dSeq (dDrop (dCall (sp_valid_statements C) Ex (dCons (dVar 0) dNil))) (dRet (dRepl " " "" (dVar 0)))
theorem b_plain_program {P : Program} {w : World} {K : PySem.W.Frag} {mg : Str → Option Value} {base : Heap} {fA C : Addr} (B : Blt mg)
    (F1_valid_statements : FnD1 P w K mg base "valid_statements" 43 ["text"] (sp_valid_statements C))
    (cdv : Value) (A : Around) (outer : List Env) (s : Shared) (H : Hp) (E : XK) (c : DC) (Ex : DXK) (hr : Room 43 (A.deeper (envOfC "plain_program" (defScope s_plain_program) s.heap.objs.size fA cdv))) (ok : XOk (cxOf (L2.CX P w) P w K mg base N_plain_program "plain_program" (defScope s_plain_program) fA cdv A outer s H E) c Ex) :
    PSs (cxOf (L2.CX P w) P w K mg base N_plain_program "plain_program" (defScope s_plain_program) fA cdv A outer s H E) (defBody s_plain_program) (lS K c (t_plain_program C Ex)) :=
  dss_repl (ds1_expr (d1_call F1_valid_statements hr ok (da_cons (d_var (i := 0)) da_nil))) (d_var (i := 0)) (by decide +kernel)
theorem repl_eq (x : Str) : Txt.replace x " " "" = ofL (nbl (sg x)) := by
  have h := replace_strikes x 32
  have e : Txt.replace x " " "" = ⟨(Txt.replace x " " "").cps⟩ := rfl
  have e2 : (Txt.replace x " " "").cps.toList = nbl (sg x) := by
    rw [show Txt.replace x " " "" = Txt.replace x ⟨#[32]⟩ ⟨#[]⟩ from rfl, h]
    unfold nbl sg
    apply List.filter_congr
    intro c _
    by_cases hc : c = 32
    · subst hc; rfl
    · simp [hc]
  rw [e]
  unfold ofL
  rw [← e2]
theorem pure_plain_program {C : Addr} (ds : List D) (G : GH) (Q : DK) (E : DXK) (h : sp_plain_program C ds G Q E) : t_plain_program C E (fnEnds Q) (startD N_plain_program ds) G := by
  obtain ⟨d, rfl, hT, q1, q2⟩ := h
  show t_plain_program C E (fnEnds Q) [some d] G
  unfold t_plain_program
  simp only [dSeq, dIfS, dTst, dTru, dNot, dAnd, dOr, dAndV, dOrV, dNotV, dRet, dRetN, dDrop, dAsg, dNext, dBreak, dCont, dVar, getS, dC, dOp, dChain, dF1, dF2, dCall, dCons, dNil, dTup, dLst, dLstM, dIf, dNeg, uNeg, dLc, dLcM, dItr, dZip, dEnum, dRange1, dRange2, dFor, dPut, dAug, dPar2, dPar3, dSl, dPart, dNoPart, dM1, dM0, dCB, on1, isB, setT, setTs, dRaise, dMk, dYes, dLstRg, dRg1, wipeD, dFld, dSFld, dFldAug, dMeth, dMake, dWhile, dRepl, List.set]
  refine ⟨d, rfl, hT, q1, fun hv x e => ?_⟩
  subst e
  obtain ⟨x', ex, hx⟩ := pt_str (valB_pt hv).1
  cases ex
  refine ⟨x, rfl, by rw [show ("" : Str).length = 0 by decide +kernel]; omega, ?_⟩
  rw [repl_eq]
  exact fin_ret (q2 hv x rfl)
end KL


end

section
set_option Elab.async false
set_option linter.all false
set_option maxRecDepth 100000
set_option maxHeartbeats 1000000
open PySem PySem.Spec PyProof.Rows L2 DL
namespace KL
theorem le_upd {A B : GH} (l : Le A B) {p : Addr} {o : GO} : Le (updG A p o) (updG B p o) := fun a u e => by
  by_cases h : a = p
  · subst h
    rw [updG_same] at e ⊢
    exact e
  · rw [updG_ne h] at e ⊢
    exact l a u e
def On (G : GH) (p : Addr) (xs : Scr) (G1 : GH) : Prop := ∃ at_ a b, Le (updG G p (rowG xs at_ a b)) G1
theorem On.row {G G1 : GH} {p : Addr} {xs : Scr} (h : On G p xs G1) : Row xs G1 p := by
  obtain ⟨at_, a, b, l⟩ := h
  exact ⟨at_, a, b, l p _ updG_same⟩
theorem On.start {G : GH} {p : Addr} {xs : Scr} (h : Row xs G p) : On G p xs G := by
  obtain ⟨at_, a, b, g⟩ := h
  exact ⟨at_, a, b, by rw [row_self g]; exact Le.refl G⟩
theorem On.put {G G1 : GH} {p : Addr} {xs : Scr} (h : On G p xs G1) {at_ : Nat} {a b : Int} : On G p xs (updG G1 p (rowG xs at_ a b)) := by
  obtain ⟨at0, a0, b0, l⟩ := h
  refine ⟨at_, a, b, ?_⟩
  have := le_upd l (p := p) (o := rowG xs at_ a b)
  rw [updG_updG] at this
  exact this
theorem On.none {G G1 : GH} {p f : Addr} {xs : Scr} (h : On G p xs G1) (hf : G1 f = Option.none) : f ≠ p ∧ ∀ at_ a b, (updG G p (rowG xs at_ a b)) f = Option.none := by
  obtain ⟨at0, a0, b0, l⟩ := h
  have n := l.none hf
  have hne : f ≠ p := fun e => by rw [e, updG_same] at n; cases n
  refine ⟨hne, fun at_ a b => ?_⟩
  rw [updG_ne hne] at n ⊢
  exact n
theorem On.new {G G1 : GH} {p f : Addr} {xs : Scr} {o : GO} (h : On G p xs G1) (hf : G1 f = Option.none) : On G p xs (updG G1 f o) := by
  obtain ⟨at0, a0, b0, l⟩ := h
  exact ⟨at0, a0, b0, l.new hf⟩
theorem On.set {G G1 : GH} {p f : Addr} {xs : Scr} {o : GO} (h : On G p xs G1) (hne : f ≠ p) (hf : G f = Option.none) : On G p xs (updG G1 f o) := by
  obtain ⟨at0, a0, b0, l⟩ := h
  exact ⟨at0, a0, b0, l.put (by rw [updG_ne hne]; exact hf)⟩
theorem On.fin {G G1 : GH} {p : Addr} {xs : Scr} {d : D} {Q : DK} (h : On G p xs G1) (q : ∀ at_ a b, Q d (updG G p (rowG xs at_ a b))) : (fnEnds Q).rt d G1 := by
  obtain ⟨at_, a, b, l⟩ := h
  exact fin_le l (q at_ a b)
theorem subI {i j : Int} {G : GH} {Q : DK} (q : Q (.int (i - j)) G) : subD (.int i) (.int j) G Q := ⟨trivial, q⟩
theorem gtI {i j : Int} {G : GH} {Q : DK} (q : Q (.bl (decide (j < i))) G) : gtD (.int i) (.int j) G Q := ⟨trivial, q⟩
theorem pick_str {xs : Scr} {p : Addr} {G0 G : GH} {Q : DK} {E : DXK} (hx : xs.length ≤ datL) (hO : On G0 p xs G) (y : Str) (hl : 1 ≤ y.length ∧ y.length ≤ 1000) (k : ∀ c a u v, c ∈ sg y → On G0 p xs (updG G p (rowG xs a u v)) → Q (.str ⟨#[c]⟩) (updG G p (rowG xs a u v))) : sp__law_pick [.ref p, .str y] G Q E :=
  ⟨p, .str y, y.length, (fun d => ∃ c ∈ sg y, d = .str ⟨#[c]⟩), xs, rfl, hl, .inr ⟨y, rfl, rfl, fun c hc => ⟨c, hc, rfl⟩⟩, hx, hO.row, fun d a u v ⟨c, hc, e⟩ => by subst e; exact k c a u v hc hO.put⟩
def mkB : List PS → PB
  | [] => .nil
  | s :: l => .cons s (mkB l)
theorem enc_mk : ∀ l : List PS, encLB (mkB l) = l.map encLS
  | [] => rfl
  | s :: l => by show encLS s :: encLB (mkB l) = _; rw [enc_mk l] <;> rfl
theorem ln_mk : ∀ l : List PS, lnB (mkB l) = l.length
  | [] => rfl
  | s :: l => by show lnB (mkB l) + 1 = _; rw [ln_mk l] <;> rfl
theorem g_mk : ∀ l : List PS, (∀ s ∈ l, gS s = true) → gB (mkB l) = true
  | [], _ => rfl
  | s :: l, h => by show (gS s && gB (mkB l)) = true; rw [h s (by simp), g_mk l fun z hz => h z (by simp [hz])] <;> rfl
theorem dp_mk {k : Nat} : ∀ l : List PS, (∀ s ∈ l, dpS s ≤ k) → dpB (mkB l) ≤ k
  | [], _ => Nat.zero_le _
  | s :: l, h => Nat.max_le.mpr ⟨h s (by simp), dp_mk l fun z hz => h z (by simp [hz])⟩
theorem cp_mk : ∀ l : List PS, cpB (mkB l) = l.all cpS
  | [] => rfl
  | s :: l => by show (cpS s && cpB (mkB l)) = _; rw [cp_mk l] <;> rfl
/-- as the law draws, k deep -/
structure DrS (k : Nat) (s : PS) : Prop where
  g : gS s = true
  dp : dpS s ≤ k
theorem dr_mk {k : Nat} {l : List PS} (h : ∀ s ∈ l, DrS k s) (hl : l.length ≤ 4) : Dr k (mkB l) := ⟨dp_mk l fun s hs => (h s hs).dp, g_mk l fun s hs => (h s hs).g, by rw [ln_mk]; exact hl⟩
theorem prog_loop {C : Addr} {Ex : DXK} (E : DEnds) {xs : Scr} (hx : xs.length ≤ datL) {sp : DSp} {n : Nat} (hsp : n ≠ 0 → sp = sp__law_prog (n - 1)) (p f : Addr) (hne : f ≠ p) (G0 : GH) (n0 : G0 f = none) (k : Nat) (hk : k ≤ n) (v2 : Option D) :
    ∀ (ds : List D) (acc : List PS) (v4 v5 : Option D) (G : GH), acc.length + ds.length ≤ 3 → (∀ s ∈ acc, DrS k s) → On G0 p xs G → G f = some (.lst (acc.map encLS)) →
    (∀ (acc : List PS) (v4 v5 : Option D) (G' : GH), acc.length ≤ 3 → (∀ s ∈ acc, DrS k s) → On G0 p xs G' → G' f = some (.lst (acc.map encLS)) → E.nx [some (.ref p), some (.int (k : Int)), v2, some (.ref f), v4, v5] G') →
    loopD yes0 (.name 4) (t__law_prog_4 C sp Ex) E ds [some (.ref p), some (.int (k : Int)), v2, some (.ref f), v4, v5] G
  | [], acc, v4, v5, G, hl, hA, hO, hf, kk => ⟨trivial, kk acc v4 v5 G (by simpa using hl) hA hO hf⟩
  | d :: ds, acc, v4, v5, G, hl, hA, hO, hf, kk => by
    rw [List.length_cons] at hl
    have next : ∀ (s : PS) (G1 : GH) (v4 v5 : Option D), DrS k s → On G0 p xs G1 → G1 f = some (.lst (acc.map encLS)) → appF f (encLS s) G1 fun _ G2 => loopD yes0 (.name 4) (t__law_prog_4 C sp Ex) E ds [some (.ref p), some (.int (k : Int)), v2, some (.ref f), v4, v5] G2 := fun s G1 v4 v5 hs hO1 hf1 => by
      refine getLR hf1 ⟨by rw [List.length_map, sizeL]; omega, ?_⟩
      have e : acc.map encLS ++ [encLS s] = (acc ++ [s]).map encLS := by rw [List.map_append] <;> rfl
      rw [e]
      refine prog_loop E hx hsp p f hne G0 n0 k hk v2 ds (acc ++ [s]) _ _ _ (by rw [List.length_append]; simp; omega) (fun z hz => ?_) (hO1.set hne n0) updG_same kk
      rcases List.mem_append.mp hz with hz | hz
      · exact hA z hz
      · rw [List.mem_singleton.mp hz]; exact hs
    have put : ∀ (G1 : GH) a u v, G1 f = some (.lst (acc.map encLS)) → (updG G1 p (rowG xs a u v)) f = some (.lst (acc.map encLS)) := fun G1 a u v h => by rw [updG_ne hne]; exact h
    have sub : ∀ (G1 : GH) (i : Bool) (Q : DK), On G0 p xs G1 → 1 ≤ k → (∀ b a u v, Dr (k - 1) b → (i = false → cpB b = false) → On G0 p xs (updG G1 p (rowG xs a u v)) → Q (.tup (encLB b)) (updG G1 p (rowG xs a u v))) → sp [.ref p, .int ((k : Int) - 1), .bl i] G1 Q noX := fun G1 i Q hO1 hk1 q => by
      rw [hsp (by omega), show (k : Int) - 1 = ((k - 1 : Nat) : Int) by omega]
      exact ⟨p, k - 1, i, xs, rfl, by omega, hx, hO1.row, fun b a u v h1 h2 => q b a u v h1 h2 hO1.put⟩
    refine ⟨trivial, ?_⟩
    unfold t__law_prog_4 t__law_prog_3 t__law_prog_2
    simp only [dSeq, dIfS, dTst, dTru, dNot, dAnd, dOr, dAndV, dOrV, dNotV, dRet, dRetN, dDrop, dAsg, dNext, dBreak, dCont, dVar, getS, dC, dOp, dChain, dF1, dF2, dCall, dCons, dNil, dTup, dLst, dLstM, dIf, dNeg, uNeg, dLc, dLcM, dItr, dZip, dEnum, dRange1, dRange2, dFor, dPut, dAug, dPar2, dPar3, dSl, dPart, dNoPart, dM1, dM0, dCB, on1, isB, setT, setTs, dRaise, dMk, dYes, dLstRg, dRg1, wipeD, dFld, dSFld, dFldAug, dMeth, dMake, dWhile, dRepl, List.set, List.set]
    have way : ∀ (c : Nat) (G1 : GH), On G0 p xs G1 → G1 f = some (.lst (acc.map encLS)) → (c = 115 ∨ c = 119 ∨ c = 120 ∨ (1 ≤ k ∧ (c = 63 ∨ c = 42 ∨ c = 64))) →
        dIfS (dTst (dOp eqD (dVar 5) (dC (.str "?")))) (dDrop (dM1 appF (dVar 3) (dTup (dCons (dC (.str "?")) (dCons (dCall sp__law_pick noX (dCons (dVar 0) (dCons (dC (.str ".1#!")) dNil))) (dCons (dCall sp noX (dCons (dVar 0) (dCons (dOp subD (dVar 1) (dC (.int 1))) (dCons (dC (.bl true)) dNil)))) (dCons (dCall sp noX (dCons (dVar 0) (dCons (dOp subD (dVar 1) (dC (.int 1))) (dCons (dC (.bl true)) dNil)))) dNil))))))) (dIfS (dTst (dOp eqD (dVar 5) (dC (.str "*")))) (dDrop (dM1 appF (dVar 3) (dTup (dCons (dC (.str "*")) (dCons (dCall sp__law_pick noX (dCons (dVar 0) (dCons (dC (.str "2345")) dNil))) (dCons (dCall sp noX (dCons (dVar 0) (dCons (dOp subD (dVar 1) (dC (.int 1))) (dCons (dC (.bl true)) dNil)))) dNil)))))) (dIfS (dTst (dOp eqD (dVar 5) (dC (.str "@")))) (dDrop (dM1 appF (dVar 3) (dTup (dCons (dC (.str "@")) (dCons (dCall sp noX (dCons (dVar 0) (dCons (dOp subD (dVar 1) (dC (.int 1))) (dCons (dC (.bl false)) dNil)))) dNil))))) (dDrop (dM1 appF (dVar 3) (dTup (dCons (dVar 5) dNil))))))
          { nx := loopD yes0 (.name 4) (t__law_prog_4 C sp Ex) E ds, rt := E.rt, bk := E.nx, ct := loopD yes0 (.name 4) (t__law_prog_4 C sp Ex) E ds } [some (.ref p), some (.int (k : Int)), v2, some (.ref f), some d, some (.str ⟨#[c]⟩)] G1 := fun c G1 hO1 hf1 hc => by
      simp only [dSeq, dIfS, dTst, dTru, dNot, dAnd, dOr, dAndV, dOrV, dNotV, dRet, dRetN, dDrop, dAsg, dNext, dBreak, dCont, dVar, getS, dC, dOp, dChain, dF1, dF2, dCall, dCons, dNil, dTup, dLst, dLstM, dIf, dNeg, uNeg, dLc, dLcM, dItr, dZip, dEnum, dRange1, dRange2, dFor, dPut, dAug, dPar2, dPar3, dSl, dPart, dNoPart, dM1, dM0, dCB, on1, isB, setT, setTs, dRaise, dMk, dYes, dLstRg, dRg1, wipeD, dFld, dSFld, dFldAug, dMeth, dMake, dWhile, dRepl, List.set, List.set]
      have t63 : decide ((⟨#[c]⟩ : Str) = "?") = decide (c = 63) := sign_eq c 63
      have t42 : decide ((⟨#[c]⟩ : Str) = "*") = decide (c = 42) := sign_eq c 42
      have t64 : decide ((⟨#[c]⟩ : Str) = "@") = decide (c = 64) := sign_eq c 64
      refine eqX ?_
      rw [t63]
      by_cases h63 : c = 63
      · have hk1 : 1 ≤ k := by omega
        rw [decide_eq_true h63]
        simp only [getS, List.set, truD, isB, i2, TT0, true_and, Bool.not_true, Bool.not_false, Bool.false_eq_true, if_false, if_true, dVar, dC, setT, setTs]
        refine ownLR hf1 ?_
        refine pick_str hx hO1 ".1#!" (by decide +kernel) fun m a u v hm hO2 => ?_
        refine sub _ _ _ hO2 hk1 fun b1 a1 u1 w1 hb1 _ hO3 => ?_
        refine sub _ _ _ hO3 hk1 fun b2 a2 u2 w2 hb2 _ hO4 => ?_
        refine ⟨sm10 (by simp), ?_⟩
        refine next (.tst ⟨#[m]⟩ b1 b2) _ _ _ ⟨?_, ?_⟩ hO4 (put _ _ _ _ (put _ _ _ _ (put _ _ _ _ hf1)))
        · have hm : m ∈ ([46, 49, 35, 33] : List Nat) := hm
          have e : (decide ((⟨#[m]⟩ : Str) = ".") || (decide ((⟨#[m]⟩ : Str) = "1") || (decide ((⟨#[m]⟩ : Str) = "#") || decide ((⟨#[m]⟩ : Str) = "!")))) = true := by
            simp only [List.mem_cons, List.not_mem_nil, or_false] at hm
            rcases hm with rfl | rfl | rfl | rfl <;> decide +kernel
          show (_ && ((gB b1 && decide (lnB b1 ≤ 4)) && (gB b2 && decide (lnB b2 ≤ 4)))) = true
          rw [e, hb1.g, hb2.g, decide_eq_true hb1.ln, decide_eq_true hb2.ln] <;> rfl
        · have := hb1.dp; have := hb2.dp
          show max (dpB b1) (dpB b2) + 1 ≤ k
          omega
      · rw [decide_eq_false h63]
        simp only [getS, List.set, truD, isB, i2, TT0, true_and, Bool.not_true, Bool.not_false, Bool.false_eq_true, if_false, if_true, dVar, dC, setT, setTs]
        refine eqX ?_
        rw [t42]
        by_cases h42 : c = 42
        · have hk1 : 1 ≤ k := by omega
          rw [decide_eq_true h42]
          simp only [getS, List.set, truD, isB, i2, TT0, true_and, Bool.not_true, Bool.not_false, Bool.false_eq_true, if_false, if_true, dVar, dC, setT, setTs]
          refine ownLR hf1 ?_
          refine pick_str hx hO1 "2345" (by decide +kernel) fun m a u v hm hO2 => ?_
          refine sub _ _ _ hO2 hk1 fun b1 a1 u1 w1 hb1 _ hO3 => ?_
          refine ⟨sm10 (by simp), ?_⟩
          refine next (.rep ⟨#[m]⟩ b1) _ _ _ ⟨?_, ?_⟩ hO3 (put _ _ _ _ (put _ _ _ _ hf1))
          · have hm : m ∈ ([50, 51, 52, 53] : List Nat) := hm
            have e : (decide ((⟨#[m]⟩ : Str) = "2") || (decide ((⟨#[m]⟩ : Str) = "3") || (decide ((⟨#[m]⟩ : Str) = "4") || decide ((⟨#[m]⟩ : Str) = "5")))) = true := by
              simp only [List.mem_cons, List.not_mem_nil, or_false] at hm
              rcases hm with rfl | rfl | rfl | rfl <;> decide +kernel
            show (_ && (gB b1 && decide (lnB b1 ≤ 4))) = true
            rw [e, hb1.g, decide_eq_true hb1.ln] <;> rfl
          · have := hb1.dp
            show dpB b1 + 1 ≤ k
            omega
        · rw [decide_eq_false h42]
          simp only [getS, List.set, truD, isB, i2, TT0, true_and, Bool.not_true, Bool.not_false, Bool.false_eq_true, if_false, if_true, dVar, dC, setT, setTs]
          refine eqX ?_
          rw [t64]
          by_cases h64 : c = 64
          · have hk1 : 1 ≤ k := by omega
            rw [decide_eq_true h64]
            simp only [getS, List.set, truD, isB, i2, TT0, true_and, Bool.not_true, Bool.not_false, Bool.false_eq_true, if_false, if_true, dVar, dC, setT, setTs]
            refine ownLR hf1 ?_
            refine sub _ _ _ hO1 hk1 fun b1 a1 u1 w1 hb1 hcp hO3 => ?_
            refine ⟨sm10 (by simp), ?_⟩
            refine next (.lop 0 b1) _ _ _ ⟨?_, ?_⟩ hO3 (put _ _ _ _ hf1)
            · show (decide (0 = 0) && (!cpB b1 && (gB b1 && decide (lnB b1 ≤ 4)))) = true
              rw [hcp rfl, hb1.g, decide_eq_true hb1.ln] <;> rfl
            · have := hb1.dp
              show dpB b1 + 1 ≤ k
              omega
          · rw [decide_eq_false h64]
            simp only [getS, List.set, truD, isB, i2, TT0, true_and, Bool.not_true, Bool.not_false, Bool.false_eq_true, if_false, if_true, dVar, dC, setT, setTs]
            refine ownLR hf1 ⟨sm10 (by simp), ?_⟩
            refine next (.atom ⟨#[c]⟩) _ _ _ ⟨?_, Nat.zero_le _⟩ hO1 hf1
            show (decide ((⟨#[c]⟩ : Str) = "s") || (decide ((⟨#[c]⟩ : Str) = "w") || decide ((⟨#[c]⟩ : Str) = "x"))) = true
            have hc : c = 115 ∨ c = 119 ∨ c = 120 := by omega
            rcases hc with rfl | rfl | rfl <;> decide +kernel
    refine gtI ?_
    simp only [isB]
    by_cases h0 : 0 < k
    · rw [show decide ((0 : Int) < (k : Int)) = true by rw [decide_eq_true_eq]; omega]
      simp only [if_true, Bool.false_eq_true, if_false]
      refine pick_str hx hO "swswswx?*@" (by decide +kernel) fun c a u v hc hO2 => ?_
      refine way c _ hO2 (put _ _ _ _ hf) ?_
      have hc : c ∈ ([115, 119, 115, 119, 115, 119, 120, 63, 42, 64] : List Nat) := hc
      simp only [List.mem_cons, List.not_mem_nil, or_false] at hc
      omega
    · rw [show decide ((0 : Int) < (k : Int)) = false by rw [decide_eq_false_iff_not]; omega]
      simp only [if_true, Bool.false_eq_true, if_false]
      refine pick_str hx hO "swswsx" (by decide +kernel) fun c a u v hc hO2 => ?_
      refine way c _ hO2 (put _ _ _ _ hf) ?_
      have hc : c ∈ ([115, 119, 115, 119, 115, 120] : List Nat) := hc
      simp only [List.mem_cons, List.not_mem_nil, or_false] at hc
      omega
theorem pure__law_prog {C : Addr} {sp : DSp} (n : Nat) (hsp : n ≠ 0 → sp = sp__law_prog (n - 1)) (ds : List D) (G : GH) (Q : DK) (E : DXK) (h : sp__law_prog n ds G Q E) : t__law_prog C sp E (fnEnds Q) (startD N__law_prog ds) G := by
  obtain ⟨p, k, i, xs, rfl, hk, hx, hr, q⟩ := h
  show t__law_prog C sp E (fnEnds Q) [some (.ref p), some (.int (k : Int)), some (.bl i), none, none, none] G
  unfold t__law_prog t__law_prog_6 t__law_prog_5 t__law_prog_1
  simp only [dSeq, dIfS, dTst, dTru, dNot, dAnd, dOr, dAndV, dOrV, dNotV, dRet, dRetN, dDrop, dAsg, dNext, dBreak, dCont, dVar, getS, dC, dOp, dChain, dF1, dF2, dCall, dCons, dNil, dTup, dLst, dLstM, dIf, dNeg, uNeg, dLc, dLcM, dItr, dZip, dEnum, dRange1, dRange2, dFor, dPut, dAug, dPar2, dPar3, dSl, dPart, dNoPart, dM1, dM0, dCB, on1, isB, setT, setTs, dRaise, dMk, dYes, dLstRg, dRg1, wipeD, dFld, dSFld, dFldAug, dMeth, dMake, dWhile, dRepl, List.set]
  have hO : On G p xs G := On.start hr
  refine ⟨sm10 (by simp), fun f hf => ?_⟩
  have hne := (hO.none hf).1
  refine ⟨sm10 (by simp), p, .lst [.int 0, .int 1, .int 1, .int 2, .int 2, .int 3], 6, (fun d => ∃ n : Nat, d = .int (n : Int) ∧ n ≤ 3), xs, rfl, by decide, .inl ⟨_, .inl rfl, rfl, fun d hd => ?_⟩, hx, (hO.new hf).row, fun d a u v hd => ?_⟩
  · simp only [List.mem_cons, List.not_mem_nil, or_false] at hd
    rcases hd with rfl | rfl | rfl | rfl | rfl | rfl
    · exact ⟨0, rfl, by decide⟩
    · exact ⟨1, rfl, by decide⟩
    · exact ⟨1, rfl, by decide⟩
    · exact ⟨2, rfl, by decide⟩
    · exact ⟨2, rfl, by decide⟩
    · exact ⟨3, rfl, by decide⟩
  obtain ⟨m, rfl, hm⟩ := hd
  refine ⟨⟨by omega, by omega⟩, ?_⟩
  have hrl : (rgD 0 ((m : Nat) : Int).toNat).length = m := by rw [rgD_nats, natsD_len, List.length_range, Int.toNat_natCast]
  refine prog_loop _ hx hsp p f hne G hf k hk _ _ [] _ _ _ (by rw [hrl]; simpa using hm) (by simp) ((hO.new hf).put) (by rw [updG_ne hne, updG_same] <;> rfl) fun acc v4 v5 G1 hl hA hO1 hf1 => ?_
  simp only [dSeq, dIfS, dTst, dTru, dNot, dAnd, dOr, dAndV, dOrV, dNotV, dRet, dRetN, dDrop, dAsg, dNext, dBreak, dCont, dVar, getS, dC, dOp, dChain, dF1, dF2, dCall, dCons, dNil, dTup, dLst, dLstM, dIf, dNeg, uNeg, dLc, dLcM, dItr, dZip, dEnum, dRange1, dRange2, dFor, dPut, dAug, dPar2, dPar3, dSl, dPart, dNoPart, dM1, dM0, dCB, on1, isB, setT, setTs, dRaise, dMk, dYes, dLstRg, dRg1, wipeD, dFld, dSFld, dFldAug, dMeth, dMake, dWhile, dRepl, List.set]
  cases i with
  | true =>
    simp only [getS, List.set, truD, isB, i2, TT0, true_and, Bool.not_true, Bool.not_false, Bool.false_eq_true, if_false, if_true, dVar, dC, setT, setTs]
    refine tupR hf1 ?_
    rw [← enc_mk]
    exact hO1.fin fun a u v => q (mkB acc) a u v (dr_mk hA (by omega)) (fun z => nomatch z)
  | false =>
    simp only [getS, List.set, truD, isB, i2, TT0, true_and, Bool.not_true, Bool.not_false, Bool.false_eq_true, if_false, if_true, dVar, dC, setT, setTs]
    refine pick_str hx hO1 "sw" (by decide +kernel) fun c a u v hc hO2 => ?_
    have hf2 : (updG G1 p (rowG xs a u v)) f = some (.lst (acc.map encLS)) := by rw [updG_ne hne]; exact hf1
    refine ⟨sm10 (by simp), sm10 (by simp), ?_⟩
    simp only [addD, catD]
    rw [asLR hf2]
    refine ⟨by rw [List.length_map, sizeL]; simp; omega, ?_⟩
    simp only [tupF, asQ]
    have e : acc.map encLS ++ [.tup [.str ⟨#[c]⟩]] = encLB (mkB (acc ++ [.atom ⟨#[c]⟩])) := by rw [enc_mk, List.map_append] <;> rfl
    rw [e]
    have hc : c = 115 ∨ c = 119 := by
      have hc : c ∈ ([115, 119] : List Nat) := hc
      simpa using hc
    refine hO2.fin fun a u v => q _ a u v (dr_mk (fun s hs => ?_) (by rw [List.length_append]; simp; omega)) fun _ => ?_
    · rcases List.mem_append.mp hs with hs | hs
      · exact hA s hs
      · rw [List.mem_singleton.mp hs]
        refine ⟨?_, Nat.zero_le _⟩
        rcases hc with rfl | rfl <;> decide +kernel
    · rw [cp_mk, List.all_append]
      have : cpS (.atom ⟨#[c]⟩) = false := by rcases hc with rfl | rfl <;> decide +kernel
      simp [this]
end KL


end

section
set_option Elab.async false
set_option linter.all false
set_option maxRecDepth 100000
set_option maxHeartbeats 1000000
open PySem PySem.Spec PyProof.Rows L2 DL
namespace KL
theorem ofL_app (a b : List Nat) : ofL a ++ ofL b = ofL (a ++ b) := by
  show (⟨a.toArray ++ b.toArray⟩ : Str) = ⟨(a ++ b).toArray⟩
  simp
theorem ofL_len (a : List Nat) : (ofL a).length = a.length := by show a.toArray.size = _; simp
theorem sg_ofL (a : List Nat) : sg (ofL a) = a := by show a.toArray.toList = a; simp
theorem ofL_sg (x : Str) : ofL (sg x) = x := by
  obtain ⟨a⟩ := x
  show (⟨a.toList.toArray⟩ : Str) = ⟨a⟩
  simp
theorem addS {a b : List Nat} {G : GH} {Q : DK} (h : a.length + b.length ≤ 1000000) (q : Q (.str (ofL (a ++ b))) G) : addD (.str (ofL a)) (.str (ofL b)) G Q := by
  refine ⟨by rw [ofL_len, ofL_len, sizeL]; omega, ?_⟩
  rw [ofL_app]
  exact q
theorem lit1 (c : Nat) : (⟨#[c]⟩ : Str) = ofL [c] := rfl
def Wn : Nat → Nat
  | 0 => 1
  | n + 1 => 5 + 8 * Wn n
theorem Wn_pos : ∀ n, 1 ≤ Wn n
  | 0 => Nat.le_refl _
  | n + 1 => by show 1 ≤ 5 + 8 * Wn n; omega
theorem rep_k {k : Str} {b : PB} (h : gS (.rep k b) = true) : (∃ c, sg k = [c] ∧ 50 ≤ c ∧ c ≤ 53) ∧ gB b = true ∧ lnB b ≤ 4 := by
  have h : ((decide (k = "2") || (decide (k = "3") || (decide (k = "4") || decide (k = "5")))) && (gB b && decide (lnB b ≤ 4))) = true := h
  rw [Bool.and_eq_true, Bool.and_eq_true, decide_eq_true_eq] at h
  refine ⟨?_, h.2⟩
  have h1 := h.1
  simp only [Bool.or_eq_true, decide_eq_true_eq] at h1
  rcases h1 with rfl | rfl | rfl | rfl
  · exact ⟨50, by decide +kernel, by decide, by decide⟩
  · exact ⟨51, by decide +kernel, by decide, by decide⟩
  · exact ⟨52, by decide +kernel, by decide, by decide⟩
  · exact ⟨53, by decide +kernel, by decide, by decide⟩
theorem tst_m {m : Str} {a b : PB} (h : gS (.tst m a b) = true) : (∃ c, sg m = [c] ∧ (c = 46 ∨ c = 49 ∨ c = 35 ∨ c = 33)) ∧ (gB a = true ∧ lnB a ≤ 4) ∧ (gB b = true ∧ lnB b ≤ 4) := by
  have h : ((decide (m = ".") || (decide (m = "1") || (decide (m = "#") || decide (m = "!")))) && ((gB a && decide (lnB a ≤ 4)) && (gB b && decide (lnB b ≤ 4)))) = true := h
  rw [Bool.and_eq_true, Bool.and_eq_true, Bool.and_eq_true, Bool.and_eq_true, decide_eq_true_eq, decide_eq_true_eq] at h
  refine ⟨?_, h.2⟩
  have h1 := h.1
  simp only [Bool.or_eq_true, decide_eq_true_eq] at h1
  rcases h1 with rfl | rfl | rfl | rfl
  · exact ⟨46, by decide +kernel, by decide⟩
  · exact ⟨49, by decide +kernel, by decide⟩
  · exact ⟨35, by decide +kernel, by decide⟩
  · exact ⟨33, by decide +kernel, by decide⟩
theorem lop_b {n : Nat} {b : PB} (h : gS (.lop n b) = true) : n = 0 ∧ cpB b = false ∧ gB b = true ∧ lnB b ≤ 4 := by
  have h : (decide (n = 0) && (!cpB b && (gB b && decide (lnB b ≤ 4)))) = true := h
  rw [Bool.and_eq_true, Bool.and_eq_true, Bool.and_eq_true, decide_eq_true_eq, decide_eq_true_eq, Bool.not_eq_true'] at h
  exact h
theorem atom_w {w : Str} (h : gS (.atom w) = true) : ∃ c, w = ofL [c] ∧ (c = 115 ∨ c = 119 ∨ c = 120) := by
  have h : (decide (w = "s") || (decide (w = "w") || decide (w = "x"))) = true := h
  simp only [Bool.or_eq_true, decide_eq_true_eq] at h
  rcases h with rfl | rfl | rfl
  · exact ⟨115, by decide +kernel, by decide⟩
  · exact ⟨119, by decide +kernel, by decide⟩
  · exact ⟨120, by decide +kernel, by decide⟩
mutual
theorem wrS_len : ∀ (s : PS) (n : Nat), gS s = true → dpS s ≤ n → (wrS s).length ≤ Wn n
  | .atom w, n, h, _ => by
    obtain ⟨c, rfl, _⟩ := atom_w h
    show (sg (ofL [c])).length ≤ _
    rw [sg_ofL]
    exact Wn_pos n
  | .rep k b, n, h, hd => by
    obtain ⟨⟨c, ek, _⟩, h1, h2⟩ := rep_k h
    obtain ⟨m, rfl⟩ : ∃ m, n = m + 1 := ⟨n - 1, by have : dpB b + 1 ≤ n := hd; omega⟩
    have h3 := wrB_len b m h1 (by have : dpB b + 1 ≤ m + 1 := hd; omega)
    have h4 : lnB b * Wn m ≤ 4 * Wn m := Nat.mul_le_mul_right _ h2
    show (42 :: (sg k ++ 40 :: (wrB b ++ [41]))).length ≤ 5 + 8 * Wn m
    rw [ek]
    simp only [List.length_cons, List.length_append, List.length_nil]
    omega
  | .lop i b, n, h, hd => by
    obtain ⟨_, _, h1, h2⟩ := lop_b h
    obtain ⟨m, rfl⟩ : ∃ m, n = m + 1 := ⟨n - 1, by have : dpB b + 1 ≤ n := hd; omega⟩
    have h3 := wrB_len b m h1 (by have : dpB b + 1 ≤ m + 1 := hd; omega)
    have h4 : lnB b * Wn m ≤ 4 * Wn m := Nat.mul_le_mul_right _ h2
    show (64 :: 40 :: (wrB b ++ [41])).length ≤ 5 + 8 * Wn m
    simp only [List.length_cons, List.length_append, List.length_nil]
    omega
  | .tst k a b, n, h, hd => by
    obtain ⟨⟨c, ek, _⟩, ⟨h1, h2⟩, h5, h6⟩ := tst_m h
    obtain ⟨m, rfl⟩ : ∃ m, n = m + 1 := ⟨n - 1, by have : max (dpB a) (dpB b) + 1 ≤ n := hd; omega⟩
    have hd : max (dpB a) (dpB b) + 1 ≤ m + 1 := hd
    have h3 := wrB_len a m h1 (by omega)
    have h4 : lnB a * Wn m ≤ 4 * Wn m := Nat.mul_le_mul_right _ h2
    have h7 := wrB_len b m h5 (by omega)
    have h8 : lnB b * Wn m ≤ 4 * Wn m := Nat.mul_le_mul_right _ h6
    show (63 :: (sg k ++ 40 :: (wrB a ++ 124 :: (wrB b ++ [41])))).length ≤ 5 + 8 * Wn m
    rw [ek]
    simp only [List.length_cons, List.length_append, List.length_nil]
    omega
theorem wrB_len : ∀ (b : PB) (n : Nat), gB b = true → dpB b ≤ n → (wrB b).length ≤ lnB b * Wn n
  | .nil, n, _, _ => Nat.zero_le _
  | .cons s r, n, h, hd => by
    obtain ⟨h1, h2⟩ := Bool.and_eq_true_iff.mp (show (gS s && gB r) = true from h)
    obtain ⟨d1, d2⟩ := Nat.max_le.mp (show max (dpS s) (dpB r) ≤ n from hd)
    have a := wrS_len s n h1 d1
    have b := wrB_len r n h2 d2
    show (wrS s ++ wrB r).length ≤ (lnB r + 1) * Wn n
    rw [List.length_append, Nat.add_mul]
    omega
end
theorem Wn_mono {n m : Nat} (h : n ≤ m) : Wn n ≤ Wn m := by
  induction h with
  | refl => exact Nat.le_refl _
  | step h ih => rename_i m; show Wn n ≤ 5 + 8 * Wn m; omega
theorem wr_len {n : Nat} {b : PB} (h : Dr n b) (hn : n ≤ 4) : (wrB b).length ≤ 28084 := by
  have h1 := wrB_len b n h.g h.dp
  have h2 : lnB b * Wn n ≤ 4 * Wn n := Nat.mul_le_mul_right _ h.ln
  have h3 : Wn n ≤ Wn 4 := Wn_mono hn
  have h4 : Wn 4 = 7021 := by decide
  omega
theorem write_loop {C : Addr} {Ex : DXK} (E : DEnds) {sp : DSp} {n : Nat} (hn : n ≤ 4) (hsp : n ≠ 0 → sp = sp__law_write (n - 1)) (G : GH) (v0 : Option D) : ∀ (b : PB) (acc : List Nat) (v2 : Option D), gB b = true → dpB b ≤ n → acc.length + (wrB b).length ≤ 30000 → (∀ v2, E.nx [v0, some (.str (ofL (acc ++ wrB b))), v2] G) →
    loopD yes0 (.name 2) (t__law_write_1 C sp Ex) E (encLB b) [v0, some (.str (ofL acc)), v2] G
  | .nil, acc, v2, _, _, _, k => ⟨trivial, by simpa [wrB] using k v2⟩
  | .cons s r, acc, v2, hg, hd, hl, k => by
    obtain ⟨g1, g2⟩ := Bool.and_eq_true_iff.mp (show (gS s && gB r) = true from hg)
    obtain ⟨d1, d2⟩ := Nat.max_le.mp (show max (dpS s) (dpB r) ≤ n from hd)
    have ew : wrB (.cons s r) = wrS s ++ wrB r := rfl
    rw [ew, List.length_append] at hl
    rw [ew] at k
    have go : ∀ (z : List Nat) v2, z = acc ++ wrS s → loopD yes0 (.name 2) (t__law_write_1 C sp Ex) E (encLB r) [v0, some (.str (ofL z)), v2] G := fun z v2 e => by
      subst e
      exact write_loop E hn hsp G v0 r (acc ++ wrS s) v2 g2 d2 (by rw [List.length_append]; omega) fun v2 => by rw [List.append_assoc]; exact k v2
    have sub : ∀ (b : PB), dpB b + 1 ≤ n → gB b = true → lnB b ≤ 4 → ∀ (Q : DK), Q (.str (ofL (wrB b))) G → sp [.tup (encLB b)] G Q noX := fun b hb hab hob Q hk => by
      rw [hsp (by omega)]
      exact ⟨b, rfl, by omega, ⟨by omega, hab, hob⟩, hk⟩
    refine ⟨trivial, ?_⟩
    cases s with
    | atom w =>
      obtain ⟨c, rfl, hc⟩ := atom_w g1
      have es : wrS (.atom (ofL [c])) = [c] := sg_ofL _
      rw [es] at hl go
      have hl : acc.length + (1 + (wrB r).length) ≤ 30000 := hl
      show setT _ (.tup [.str (ofL [c])]) _ _
      unfold t__law_write_1
      simp only [dSeq, dIfS, dTst, dTru, dNot, dAnd, dOr, dAndV, dOrV, dNotV, dRet, dRetN, dDrop, dAsg, dNext, dBreak, dCont, dVar, getS, dC, dOp, dChain, dF1, dF2, dCall, dCons, dNil, dTup, dLst, dLstM, dIf, dNeg, uNeg, dLc, dLcM, dItr, dZip, dEnum, dRange1, dRange2, dFor, dPut, dAug, dPar2, dPar3, dSl, dPart, dNoPart, dM1, dM0, dCB, on1, isB, setT, setTs, dRaise, dMk, dYes, dLstRg, dRg1, wipeD, dFld, dSFld, dFldAug, dMeth, dMake, dWhile, dRepl, List.set, List.set]
      refine ixT (i := 0) (d := .str (ofL [c])) rfl ?_
      refine eqX ?_
      rw [show decide (ofL [c] = ("?" : Str)) = decide (c = 63) from sign_eq c 63, decide_eq_false (by omega)]
      simp only [getS, List.set, truD, isB, i2, TT0, true_and, Bool.not_true, Bool.not_false, Bool.false_eq_true, if_false, if_true, dVar, dC, setT, setTs]
      refine ixT (i := 0) (d := .str (ofL [c])) rfl ?_
      refine eqX ?_
      rw [show decide (ofL [c] = ("*" : Str)) = decide (c = 42) from sign_eq c 42, decide_eq_false (by omega)]
      simp only [getS, List.set, truD, isB, i2, TT0, true_and, Bool.not_true, Bool.not_false, Bool.false_eq_true, if_false, if_true, dVar, dC, setT, setTs]
      refine lenT (eqI ?_)
      simp only [List.length_cons, List.length_nil, Nat.zero_add, Int.natCast_one, decide_true, getS, List.set, truD, isB, i2, TT0, true_and, Bool.not_true, Bool.not_false, Bool.false_eq_true, if_false, if_true, dVar, dC, setT, setTs]
      refine ixT (i := 0) (d := .str (ofL [c])) rfl ?_
      refine addS (by simp; omega) ?_
      exact go _ _ rfl
    | rep f b =>
      obtain ⟨⟨c, ek, _⟩, h1, h2⟩ := rep_k g1
      have es : wrS (.rep f b) = 42 :: ([c] ++ 40 :: (wrB b ++ [41])) := by show 42 :: (sg f ++ 40 :: (wrB b ++ [41])) = _; rw [ek]
      rw [es] at hl go
      simp only [List.length_cons, List.length_append, List.length_nil] at hl
      have ef : f = ofL [c] := by rw [← ek, ofL_sg]
      subst ef
      show setT _ (.tup [.str "*", .str (ofL [c]), .tup (encLB b)]) _ _
      unfold t__law_write_1
      simp only [dSeq, dIfS, dTst, dTru, dNot, dAnd, dOr, dAndV, dOrV, dNotV, dRet, dRetN, dDrop, dAsg, dNext, dBreak, dCont, dVar, getS, dC, dOp, dChain, dF1, dF2, dCall, dCons, dNil, dTup, dLst, dLstM, dIf, dNeg, uNeg, dLc, dLcM, dItr, dZip, dEnum, dRange1, dRange2, dFor, dPut, dAug, dPar2, dPar3, dSl, dPart, dNoPart, dM1, dM0, dCB, on1, isB, setT, setTs, dRaise, dMk, dYes, dLstRg, dRg1, wipeD, dFld, dSFld, dFldAug, dMeth, dMake, dWhile, dRepl, List.set, List.set]
      refine ixT (i := 0) (d := .str "*") rfl ?_
      refine eqX ?_
      rw [show decide (("*" : Str) = "?") = false by decide +kernel]
      simp only [getS, List.set, truD, isB, i2, TT0, true_and, Bool.not_true, Bool.not_false, Bool.false_eq_true, if_false, if_true, dVar, dC, setT, setTs]
      refine ixT (i := 0) (d := .str "*") rfl ?_
      refine eqX ?_
      simp only [decide_true, getS, List.set, truD, isB, i2, TT0, true_and, Bool.not_true, Bool.not_false, Bool.false_eq_true, if_false, if_true, dVar, dC, setT, setTs]
      refine addS (b := [42]) (by simp; omega) ?_
      refine ixT (i := 1) (d := .str (ofL [c])) rfl ?_
      refine addS (by simp; omega) ?_
      refine addS (b := [40]) (by simp; omega) ?_
      refine ixT (i := 2) (d := .tup (encLB b)) rfl ?_
      refine sub b d1 h1 h2 _ ?_
      refine addS (by simp; omega) ?_
      refine addS (b := [41]) (by simp; omega) ?_
      exact go _ _ (by simp)
    | lop i b =>
      obtain ⟨_, _, h1, h2⟩ := lop_b g1
      have es : wrS (.lop i b) = 64 :: 40 :: (wrB b ++ [41]) := rfl
      rw [es] at hl go
      simp only [List.length_cons, List.length_append, List.length_nil] at hl
      show setT _ (.tup [.str "@", .tup (encLB b)]) _ _
      unfold t__law_write_1
      simp only [dSeq, dIfS, dTst, dTru, dNot, dAnd, dOr, dAndV, dOrV, dNotV, dRet, dRetN, dDrop, dAsg, dNext, dBreak, dCont, dVar, getS, dC, dOp, dChain, dF1, dF2, dCall, dCons, dNil, dTup, dLst, dLstM, dIf, dNeg, uNeg, dLc, dLcM, dItr, dZip, dEnum, dRange1, dRange2, dFor, dPut, dAug, dPar2, dPar3, dSl, dPart, dNoPart, dM1, dM0, dCB, on1, isB, setT, setTs, dRaise, dMk, dYes, dLstRg, dRg1, wipeD, dFld, dSFld, dFldAug, dMeth, dMake, dWhile, dRepl, List.set, List.set]
      refine ixT (i := 0) (d := .str "@") rfl ?_
      refine eqX ?_
      rw [show decide (("@" : Str) = "?") = false by decide +kernel]
      simp only [getS, List.set, truD, isB, i2, TT0, true_and, Bool.not_true, Bool.not_false, Bool.false_eq_true, if_false, if_true, dVar, dC, setT, setTs]
      refine ixT (i := 0) (d := .str "@") rfl ?_
      refine eqX ?_
      rw [show decide (("@" : Str) = "*") = false by decide +kernel]
      simp only [getS, List.set, truD, isB, i2, TT0, true_and, Bool.not_true, Bool.not_false, Bool.false_eq_true, if_false, if_true, dVar, dC, setT, setTs]
      refine lenT (eqI ?_)
      rw [show decide ((([D.str "@", .tup (encLB b)] : List D).length : Int) = 1) = false by rw [decide_eq_false_iff_not]; simp]
      simp only [getS, List.set, truD, isB, i2, TT0, true_and, Bool.not_true, Bool.not_false, Bool.false_eq_true, if_false, if_true, dVar, dC, setT, setTs]
      refine ixT (i := 1) (d := .tup (encLB b)) rfl ?_
      refine sub b d1 h1 h2 _ ?_
      refine addS (a := [64, 40]) (by simp; omega) ?_
      refine addS (b := [41]) (by simp; omega) ?_
      refine addS (by simp; omega) ?_
      exact go _ _ (by simp)
    | tst f a b =>
      obtain ⟨⟨c, ek, _⟩, ⟨h1, h2⟩, h5, h6⟩ := tst_m g1
      have hd' : max (dpB a) (dpB b) + 1 ≤ n := d1
      have es : wrS (.tst f a b) = 63 :: ([c] ++ 40 :: (wrB a ++ 124 :: (wrB b ++ [41]))) := by show 63 :: (sg f ++ 40 :: (wrB a ++ 124 :: (wrB b ++ [41]))) = _; rw [ek]
      rw [es] at hl go
      simp only [List.length_cons, List.length_append, List.length_nil] at hl
      have ef : f = ofL [c] := by rw [← ek, ofL_sg]
      subst ef
      show setT _ (.tup [.str "?", .str (ofL [c]), .tup (encLB a), .tup (encLB b)]) _ _
      unfold t__law_write_1
      simp only [dSeq, dIfS, dTst, dTru, dNot, dAnd, dOr, dAndV, dOrV, dNotV, dRet, dRetN, dDrop, dAsg, dNext, dBreak, dCont, dVar, getS, dC, dOp, dChain, dF1, dF2, dCall, dCons, dNil, dTup, dLst, dLstM, dIf, dNeg, uNeg, dLc, dLcM, dItr, dZip, dEnum, dRange1, dRange2, dFor, dPut, dAug, dPar2, dPar3, dSl, dPart, dNoPart, dM1, dM0, dCB, on1, isB, setT, setTs, dRaise, dMk, dYes, dLstRg, dRg1, wipeD, dFld, dSFld, dFldAug, dMeth, dMake, dWhile, dRepl, List.set, List.set]
      refine ixT (i := 0) (d := .str "?") rfl ?_
      refine eqX ?_
      simp only [decide_true, getS, List.set, truD, isB, i2, TT0, true_and, Bool.not_true, Bool.not_false, Bool.false_eq_true, if_false, if_true, dVar, dC, setT, setTs]
      refine addS (b := [63]) (by simp; omega) ?_
      refine ixT (i := 1) (d := .str (ofL [c])) rfl ?_
      refine addS (by simp; omega) ?_
      refine addS (b := [40]) (by simp; omega) ?_
      refine ixT (i := 2) (d := .tup (encLB a)) rfl ?_
      refine sub a (by omega) h1 h2 _ ?_
      refine addS (by simp; omega) ?_
      refine addS (b := [124]) (by simp; omega) ?_
      refine ixT (i := 3) (d := .tup (encLB b)) rfl ?_
      refine sub b (by omega) h5 h6 _ ?_
      refine addS (by simp; omega) ?_
      refine addS (b := [41]) (by simp; omega) ?_
      exact go _ _ (by simp)
theorem pure__law_write {C : Addr} {sp : DSp} (n : Nat) (hsp : n ≠ 0 → sp = sp__law_write (n - 1)) (ds : List D) (G : GH) (Q : DK) (E : DXK) (h : sp__law_write n ds G Q E) : t__law_write C sp E (fnEnds Q) (startD N__law_write ds) G := by
  obtain ⟨b, rfl, hn, hD, q⟩ := h
  show t__law_write C sp E (fnEnds Q) [some (.tup (encLB b)), none, none] G
  unfold t__law_write
  simp only [dSeq, dIfS, dTst, dTru, dNot, dAnd, dOr, dAndV, dOrV, dNotV, dRet, dRetN, dDrop, dAsg, dNext, dBreak, dCont, dVar, getS, dC, dOp, dChain, dF1, dF2, dCall, dCons, dNil, dTup, dLst, dLstM, dIf, dNeg, uNeg, dLc, dLcM, dItr, dZip, dEnum, dRange1, dRange2, dFor, dPut, dAug, dPar2, dPar3, dSl, dPart, dNoPart, dM1, dM0, dCB, on1, isB, setT, setTs, dRaise, dMk, dYes, dLstRg, dRg1, wipeD, dFld, dSFld, dFldAug, dMeth, dMake, dWhile, dRepl, List.set]
  simp only [itD]
  have := wr_len hD hn
  refine write_loop _ hn hsp G _ b [] _ hD.g hD.dp (by simp; omega) fun v2 => ?_
  simp only [dSeq, dIfS, dTst, dTru, dNot, dAnd, dOr, dAndV, dOrV, dNotV, dRet, dRetN, dDrop, dAsg, dNext, dBreak, dCont, dVar, getS, dC, dOp, dChain, dF1, dF2, dCall, dCons, dNil, dTup, dLst, dLstM, dIf, dNeg, uNeg, dLc, dLcM, dItr, dZip, dEnum, dRange1, dRange2, dFor, dPut, dAug, dPar2, dPar3, dSl, dPart, dNoPart, dM1, dM0, dCB, on1, isB, setT, setTs, dRaise, dMk, dYes, dLstRg, dRg1, wipeD, dFld, dSFld, dFldAug, dMeth, dMake, dWhile, dRepl, List.set]
  exact fin_ret q
theorem weigh_loop {C : Addr} {Ex : DXK} (E : DEnds) {sp : DSp} {n : Nat} (hsp : n ≠ 0 → sp = sp__law_weigh (n - 1)) (G : GH) (v0 : Option D) : ∀ (b : PB) (f : Nat) (v2 : Option D), gB b = true → dpB b ≤ n → (∀ v2, E.nx [v0, some (.int ((f + wtB b : Nat) : Int)), v2] G) →
    loopD yes0 (.name 2) (t__law_weigh_1 C sp Ex) E (encLB b) [v0, some (.int (f : Int)), v2] G
  | .nil, f, v2, _, _, k => ⟨trivial, k v2⟩
  | .cons s r, f, v2, hg, hd, k => by
    obtain ⟨g1, g2⟩ := Bool.and_eq_true_iff.mp (show (gS s && gB r) = true from hg)
    obtain ⟨d1, d2⟩ := Nat.max_le.mp (show max (dpS s) (dpB r) ≤ n from hd)
    have ew : wtB (.cons s r) = wtS s + wtB r := rfl
    rw [ew] at k
    have go : ∀ (i : Int) v2, i = ((f + wtS s : Nat) : Int) → loopD yes0 (.name 2) (t__law_weigh_1 C sp Ex) E (encLB r) [v0, some (.int i), v2] G := fun i v2 e => by
      rw [e]
      exact weigh_loop E hsp G v0 r (f + wtS s) v2 g2 d2 fun v2 => by rw [Nat.add_assoc]; exact k v2
    have sub : ∀ (b : PB), dpB b + 1 ≤ n → gB b = true → lnB b ≤ 4 → ∀ (Q : DK), Q (.int ((wtB b : Nat) : Int)) G → sp [.tup (encLB b)] G Q noX := fun b hb hab hob Q hk => by
      rw [hsp (by omega)]
      exact ⟨b, rfl, ⟨by omega, hab, hob⟩, hk⟩
    refine ⟨trivial, ?_⟩
    cases s with
    | atom w =>
      obtain ⟨c, rfl, hc⟩ := atom_w g1
      show setT _ (.tup [.str (ofL [c])]) _ _
      unfold t__law_weigh_1
      simp only [dSeq, dIfS, dTst, dTru, dNot, dAnd, dOr, dAndV, dOrV, dNotV, dRet, dRetN, dDrop, dAsg, dNext, dBreak, dCont, dVar, getS, dC, dOp, dChain, dF1, dF2, dCall, dCons, dNil, dTup, dLst, dLstM, dIf, dNeg, uNeg, dLc, dLcM, dItr, dZip, dEnum, dRange1, dRange2, dFor, dPut, dAug, dPar2, dPar3, dSl, dPart, dNoPart, dM1, dM0, dCB, on1, isB, setT, setTs, dRaise, dMk, dYes, dLstRg, dRg1, wipeD, dFld, dSFld, dFldAug, dMeth, dMake, dWhile, dRepl, List.set, List.set]
      refine ixT (i := 0) (d := .str (ofL [c])) rfl ?_
      refine eqX ?_
      rw [show decide (ofL [c] = ("?" : Str)) = decide (c = 63) from sign_eq c 63, decide_eq_false (by omega)]
      simp only [getS, List.set, truD, isB, i2, TT0, true_and, Bool.not_true, Bool.not_false, Bool.false_eq_true, if_false, if_true, dVar, dC, setT, setTs]
      refine ixT (i := 0) (d := .str (ofL [c])) rfl ?_
      refine eqX ?_
      rw [show decide (ofL [c] = ("*" : Str)) = decide (c = 42) from sign_eq c 42, decide_eq_false (by omega)]
      simp only [getS, List.set, truD, isB, i2, TT0, true_and, Bool.not_true, Bool.not_false, Bool.false_eq_true, if_false, if_true, dVar, dC, setT, setTs]
      refine lenT (eqI ?_)
      simp only [List.length_cons, List.length_nil, Nat.zero_add, Int.natCast_one, decide_true, getS, List.set, truD, isB, i2, TT0, true_and, Bool.not_true, Bool.not_false, Bool.false_eq_true, if_false, if_true, dVar, dC, setT, setTs]
      exact go _ _ (by show (f : Int) + 1 = ((f + 1 : Nat) : Int); omega)
    | rep x b =>
      obtain ⟨⟨c, ek, c1, c2⟩, h1, h2⟩ := rep_k g1
      have ewt : wtS (.rep x b) = (c - 48) * wtB b := by
        show (match sg x with | [c] => c - 48 | _ => 0) * wtB b = _
        rw [ek]
      show setT _ (.tup [.str "*", .str x, .tup (encLB b)]) _ _
      unfold t__law_weigh_1
      simp only [dSeq, dIfS, dTst, dTru, dNot, dAnd, dOr, dAndV, dOrV, dNotV, dRet, dRetN, dDrop, dAsg, dNext, dBreak, dCont, dVar, getS, dC, dOp, dChain, dF1, dF2, dCall, dCons, dNil, dTup, dLst, dLstM, dIf, dNeg, uNeg, dLc, dLcM, dItr, dZip, dEnum, dRange1, dRange2, dFor, dPut, dAug, dPar2, dPar3, dSl, dPart, dNoPart, dM1, dM0, dCB, on1, isB, setT, setTs, dRaise, dMk, dYes, dLstRg, dRg1, wipeD, dFld, dSFld, dFldAug, dMeth, dMake, dWhile, dRepl, List.set, List.set]
      refine ixT (i := 0) (d := .str "*") rfl ?_
      refine eqX ?_
      rw [show decide (("*" : Str) = "?") = false by decide +kernel]
      simp only [getS, List.set, truD, isB, i2, TT0, true_and, Bool.not_true, Bool.not_false, Bool.false_eq_true, if_false, if_true, dVar, dC, setT, setTs]
      refine ixT (i := 0) (d := .str "*") rfl ?_
      refine eqX ?_
      simp only [decide_true, getS, List.set, truD, isB, i2, TT0, true_and, Bool.not_true, Bool.not_false, Bool.false_eq_true, if_false, if_true, dVar, dC, setT, setTs]
      refine ixT (i := 1) (d := .str x) rfl ?_
      refine ⟨((c - 48 : Nat) : Int), by rw [one_sg ek]; exact int_fig c1 (by omega), ?_, ?_⟩
      · have : (sg x).length = 1 := by rw [ek] <;> rfl
        rw [sg_len] at this
        omega
      refine ixT (i := 2) (d := .tup (encLB b)) rfl ?_
      refine sub b d1 h1 h2 _ ?_
      refine ⟨.inl ⟨by omega, by omega⟩, ?_⟩
      exact go _ _ (by rw [ewt, Int.natCast_add, Int.natCast_mul])
    | lop i b =>
      obtain ⟨_, _, h1, h2⟩ := lop_b g1
      show setT _ (.tup [.str "@", .tup (encLB b)]) _ _
      unfold t__law_weigh_1
      simp only [dSeq, dIfS, dTst, dTru, dNot, dAnd, dOr, dAndV, dOrV, dNotV, dRet, dRetN, dDrop, dAsg, dNext, dBreak, dCont, dVar, getS, dC, dOp, dChain, dF1, dF2, dCall, dCons, dNil, dTup, dLst, dLstM, dIf, dNeg, uNeg, dLc, dLcM, dItr, dZip, dEnum, dRange1, dRange2, dFor, dPut, dAug, dPar2, dPar3, dSl, dPart, dNoPart, dM1, dM0, dCB, on1, isB, setT, setTs, dRaise, dMk, dYes, dLstRg, dRg1, wipeD, dFld, dSFld, dFldAug, dMeth, dMake, dWhile, dRepl, List.set, List.set]
      refine ixT (i := 0) (d := .str "@") rfl ?_
      refine eqX ?_
      rw [show decide (("@" : Str) = "?") = false by decide +kernel]
      simp only [getS, List.set, truD, isB, i2, TT0, true_and, Bool.not_true, Bool.not_false, Bool.false_eq_true, if_false, if_true, dVar, dC, setT, setTs]
      refine ixT (i := 0) (d := .str "@") rfl ?_
      refine eqX ?_
      rw [show decide (("@" : Str) = "*") = false by decide +kernel]
      simp only [getS, List.set, truD, isB, i2, TT0, true_and, Bool.not_true, Bool.not_false, Bool.false_eq_true, if_false, if_true, dVar, dC, setT, setTs]
      refine lenT (eqI ?_)
      rw [show decide ((([D.str "@", .tup (encLB b)] : List D).length : Int) = 1) = false by rw [decide_eq_false_iff_not]; simp]
      simp only [getS, List.set, truD, isB, i2, TT0, true_and, Bool.not_true, Bool.not_false, Bool.false_eq_true, if_false, if_true, dVar, dC, setT, setTs]
      refine ixT (i := 1) (d := .tup (encLB b)) rfl ?_
      refine sub b d1 h1 h2 _ ?_
      exact go _ _ (by show (f : Int) + ((wtB b : Nat) : Int) = ((f + wtB b : Nat) : Int); omega)
    | tst x a b =>
      obtain ⟨⟨c, ek, _⟩, ⟨h1, h2⟩, h5, h6⟩ := tst_m g1
      have hd' : max (dpB a) (dpB b) + 1 ≤ n := d1
      show setT _ (.tup [.str "?", .str x, .tup (encLB a), .tup (encLB b)]) _ _
      unfold t__law_weigh_1
      simp only [dSeq, dIfS, dTst, dTru, dNot, dAnd, dOr, dAndV, dOrV, dNotV, dRet, dRetN, dDrop, dAsg, dNext, dBreak, dCont, dVar, getS, dC, dOp, dChain, dF1, dF2, dCall, dCons, dNil, dTup, dLst, dLstM, dIf, dNeg, uNeg, dLc, dLcM, dItr, dZip, dEnum, dRange1, dRange2, dFor, dPut, dAug, dPar2, dPar3, dSl, dPart, dNoPart, dM1, dM0, dCB, on1, isB, setT, setTs, dRaise, dMk, dYes, dLstRg, dRg1, wipeD, dFld, dSFld, dFldAug, dMeth, dMake, dWhile, dRepl, List.set, List.set]
      refine ixT (i := 0) (d := .str "?") rfl ?_
      refine eqX ?_
      simp only [decide_true, getS, List.set, truD, isB, i2, TT0, true_and, Bool.not_true, Bool.not_false, Bool.false_eq_true, if_false, if_true, dVar, dC, setT, setTs]
      refine ixT (i := 2) (d := .tup (encLB a)) rfl ?_
      refine sub a (by omega) h1 h2 _ ?_
      simp only [addD]
      refine ixT (a := [.str "?", .str x, .tup (encLB a), .tup (encLB b)]) (i := 3) (d := .tup (encLB b)) rfl ?_
      refine sub b (by omega) h5 h6 _ ?_
      exact go _ _ (by show (f : Int) + ((wtB a : Nat) : Int) + ((wtB b : Nat) : Int) = ((f + (wtB a + wtB b) : Nat) : Int); omega)
theorem pure__law_weigh {C : Addr} {sp : DSp} (n : Nat) (hsp : n ≠ 0 → sp = sp__law_weigh (n - 1)) (ds : List D) (G : GH) (Q : DK) (E : DXK) (h : sp__law_weigh n ds G Q E) : t__law_weigh C sp E (fnEnds Q) (startD N__law_weigh ds) G := by
  obtain ⟨b, rfl, hD, q⟩ := h
  show t__law_weigh C sp E (fnEnds Q) [some (.tup (encLB b)), none, none] G
  unfold t__law_weigh
  simp only [dSeq, dIfS, dTst, dTru, dNot, dAnd, dOr, dAndV, dOrV, dNotV, dRet, dRetN, dDrop, dAsg, dNext, dBreak, dCont, dVar, getS, dC, dOp, dChain, dF1, dF2, dCall, dCons, dNil, dTup, dLst, dLstM, dIf, dNeg, uNeg, dLc, dLcM, dItr, dZip, dEnum, dRange1, dRange2, dFor, dPut, dAug, dPar2, dPar3, dSl, dPart, dNoPart, dM1, dM0, dCB, on1, isB, setT, setTs, dRaise, dMk, dYes, dLstRg, dRg1, wipeD, dFld, dSFld, dFldAug, dMeth, dMake, dWhile, dRepl, List.set]
  simp only [itD]
  refine weigh_loop _ hsp G _ b 0 _ hD.g hD.dp fun v2 => ?_
  simp only [dSeq, dIfS, dTst, dTru, dNot, dAnd, dOr, dAndV, dOrV, dNotV, dRet, dRetN, dDrop, dAsg, dNext, dBreak, dCont, dVar, getS, dC, dOp, dChain, dF1, dF2, dCall, dCons, dNil, dTup, dLst, dLstM, dIf, dNeg, uNeg, dLc, dLcM, dItr, dZip, dEnum, dRange1, dRange2, dFor, dPut, dAug, dPar2, dPar3, dSl, dPart, dNoPart, dM1, dM0, dCB, on1, isB, setT, setTs, dRaise, dMk, dYes, dLstRg, dRg1, wipeD, dFld, dSFld, dFldAug, dMeth, dMake, dWhile, dRepl, List.set]
  rw [Nat.zero_add]
  exact fin_ret q
end KL


end

section
set_option Elab.async false
set_option linter.all false
set_option maxRecDepth 100000
set_option maxHeartbeats 1000000
open PySem PySem.Spec PyProof.Rows L2 DL
namespace KL
section
variable {p q : Addr} {s s' : LS} {G : GH}
theorem ld_set (h : p ≠ q) : Ld p q s (setL p q s G) := ⟨h, if_pos rfl, by unfold setL; rw [if_neg h.symm, if_pos rfl]⟩
theorem setL_setL : setL p q s' (setL p q s G) = setL p q s' G := by
  funext a
  unfold setL
  split
  · rfl
  · split <;> rfl
theorem setL_self (h : Ld p q s G) : setL p q s G = G := by
  funext a
  unfold setL
  split
  · rename_i e; rw [e, h.p]
  · split
    · rename_i e; rw [e, h.q]
    · rfl
theorem updL (h : Ld p q s G) (e : s'.id = s.id) : updG G p (lG q s') = setL p q s' G := by
  funext a
  unfold updG setL
  split
  · rfl
  · split
    · rename_i ea; rw [ea, h.q, e]
    · rfl
theorem setL_at {a : Addr} (h1 : a ≠ p) (h2 : a ≠ q) : setL p q s G a = G a := by
  unfold setL
  rw [if_neg h1, if_neg h2]
theorem leL (h : Le (setL p q s G) G') : Le (setL p q s' G) (setL p q s' G') := fun a o e => by
  unfold setL at e ⊢
  by_cases h1 : a = p
  · rw [if_pos h1] at e ⊢; exact e
  · rw [if_neg h1] at e ⊢
    by_cases h2 : a = q
    · rw [if_pos h2] at e ⊢; exact e
    · rw [if_neg h2] at e ⊢
      refine h a o ?_
      unfold setL
      rw [if_neg h1, if_neg h2]
      exact e
variable {Q : DK} {k : GH → Prop}
theorem l0 (h : Ld p q s G) (z : Q (.int (s.pl : Int)) G) : ixD (.ref p) (.int 0) G Q := ixR (i := 0) h.p rfl z
theorem l1 (h : Ld p q s G) (z : Q (optN s.ft) G) : ixD (.ref p) (.int 1) G Q := ixR (i := 1) h.p rfl z
theorem l2 (h : Ld p q s G) (z : Q (.ref q) G) : ixD (.ref p) (.int 2) G Q := ixR (i := 2) h.p rfl z
theorem p0 (h : Ld p q s G) {n : Nat} {i : Int} (hi : i = (n : Int)) (z : k (setL p q { s with pl := n } G)) : setD (.ref p) (.int 0) (.int i) G k := by
  subst hi
  refine setR (i := 0) (j := 0) h.p rfl ?_
  have := updL (s' := { s with pl := n }) h rfl
  unfold lG at this
  exact this ▸ z
theorem p1 (h : Ld p q s G) {n : Nat} (z : k (setL p q { s with ft := some n } G)) : setD (.ref p) (.int 1) (.int (n : Int)) G k := by
  refine setR (i := 1) (j := 1) h.p rfl ?_
  have := updL (s' := { s with ft := some n }) h rfl
  unfold lG at this
  exact this ▸ z
end
/-! ### see, take -/
theorem pure__law_see {C : Addr} (ds : List D) (G : GH) (Q : DK) (E : DXK) (h : sp__law_see ds G Q E) : t__law_see C E (fnEnds Q) (startD N__law_see ds) G := by
  obtain ⟨p, r, x, s, rfl, h, hI, q⟩ := h
  show t__law_see C E (fnEnds Q) [some (.str x), some (.ref p)] G
  unfold t__law_see t__law_see_1
  simp only [dSeq, dIfS, dTst, dTru, dNot, dAnd, dOr, dAndV, dOrV, dNotV, dRet, dRetN, dDrop, dAsg, dNext, dBreak, dCont, dVar, getS, dC, dOp, dChain, dF1, dF2, dCall, dCons, dNil, dTup, dLst, dLstM, dIf, dNeg, uNeg, dLc, dLcM, dItr, dZip, dEnum, dRange1, dRange2, dFor, dPut, dAug, dPar2, dPar3, dSl, dPart, dNoPart, dM1, dM0, dCB, on1, isB, setT, setTs, dRaise, dMk, dYes, dLstRg, dRg1, wipeD, dFld, dSFld, dFldAug, dMeth, dMake, dWhile, dRepl, List.set]
  have hsz := hI.sz
  refine ⟨fun m ρ G' => ∃ n, m = x.length - n ∧ n ≤ x.length ∧ skp (sg x) n = skp (sg x) s.pl ∧ ρ = [some (.str x), some (.ref p)] ∧ G' = setL p r { s with pl := n } G, ⟨_, s.pl, rfl, hI.pl, rfl, rfl, ?_⟩, ?_⟩
  · exact (setL_self h).symm
  · rintro m ρ G' ⟨n, rfl, hn, hk, rfl, rfl⟩
    have h' : Ld p r { s with pl := n } (setL p r { s with pl := n } G) := ld_set h.ne
    simp only [dSeq, dIfS, dTst, dTru, dNot, dAnd, dOr, dAndV, dOrV, dNotV, dRet, dRetN, dDrop, dAsg, dNext, dBreak, dCont, dVar, getS, dC, dOp, dChain, dF1, dF2, dCall, dCons, dNil, dTup, dLst, dLstM, dIf, dNeg, uNeg, dLc, dLcM, dItr, dZip, dEnum, dRange1, dRange2, dFor, dPut, dAug, dPar2, dPar3, dSl, dPart, dNoPart, dM1, dM0, dCB, on1, isB, setT, setTs, dRaise, dMk, dYes, dLstRg, dRg1, wipeD, dFld, dSFld, dFldAug, dMeth, dMake, dWhile, dRepl, List.set]
    refine l0 h' ?_
    refine ⟨by rw [sizeL]; omega, ?_⟩
    simp only [ltD, getS, List.set, truD, isB, i2, TT0, true_and, Bool.not_true, Bool.not_false, Bool.false_eq_true, if_false, if_true, dVar, dC, setT, setTs]
    by_cases hlt : n < x.length
    · rw [show decide ((n : Int) < (x.length : Int)) = true by rw [decide_eq_true_eq]; omega]
      simp only [getS, List.set, truD, isB, i2, TT0, true_and, Bool.not_true, Bool.not_false, Bool.false_eq_true, if_false, if_true, dVar, dC, setT, setTs]
      have hc : ∃ c, (sg x)[n]? = some c := ⟨_, List.getElem?_eq_getElem (by rw [sg_len]; exact hlt)⟩
      obtain ⟨c, hc⟩ := hc
      refine l0 h' ?_
      refine str_at hsz hc ?_
      refine eqX ?_
      rw [show decide ((⟨#[c]⟩ : Str) = " ") = decide (c = 32) from sign_eq c 32]
      by_cases h32 : c = 32
      · rw [decide_eq_true h32]
        simp only [getS, List.set, truD, isB, i2, TT0, true_and, Bool.not_true, Bool.not_false, Bool.false_eq_true, if_false, if_true, dVar, dC, setT, setTs]
        refine l0 h' ?_
        simp only [addD]
        refine p0 (n := n + 1) h' (by omega) ?_
        rw [setL_setL]
        refine ⟨x.length - (n + 1), by omega, n + 1, rfl, by omega, ?_, rfl⟩
        rw [← hk, skp_blank (n := n) (by rw [hc, h32])]
      · rw [decide_eq_false h32]
        simp only [getS, List.set, truD, isB, i2, TT0, true_and, Bool.not_true, Bool.not_false, Bool.false_eq_true, if_false, if_true, dVar, dC, setT, setTs]
        have hne : (sg x)[n]? ≠ some 32 := by rw [hc]; intro z; exact h32 (Option.some.inj z)
        rw [skp_here hne] at hk
        refine l0 h' ?_
        refine ⟨by rw [sizeL]; omega, ?_⟩
        simp only [ltD, getS, List.set, truD, isB, i2, TT0, true_and, Bool.not_true, Bool.not_false, Bool.false_eq_true, if_false, if_true, dVar, dC, setT, setTs]
        rw [show decide ((n : Int) < (x.length : Int)) = true by rw [decide_eq_true_eq]; omega]
        simp only [getS, List.set, truD, isB, i2, TT0, true_and, Bool.not_true, Bool.not_false, Bool.false_eq_true, if_false, if_true, dVar, dC, setT, setTs]
        refine l0 h' ?_
        refine str_at hsz hc ?_
        rw [← hk, hc] at q
        exact fin_ret q
    · rw [show decide ((n : Int) < (x.length : Int)) = false by rw [decide_eq_false_iff_not]; omega]
      simp only [getS, List.set, truD, isB, i2, TT0, true_and, Bool.not_true, Bool.not_false, Bool.false_eq_true, if_false, if_true, dVar, dC, setT, setTs]
      have hc : (sg x)[n]? = none := List.getElem?_eq_none_iff.mpr (by rw [sg_len]; omega)
      rw [skp_here (by rw [hc]; simp)] at hk
      refine l0 h' ?_
      refine ⟨by rw [sizeL]; omega, ?_⟩
      simp only [ltD, getS, List.set, truD, isB, i2, TT0, true_and, Bool.not_true, Bool.not_false, Bool.false_eq_true, if_false, if_true, dVar, dC, setT, setTs]
      rw [show decide ((n : Int) < (x.length : Int)) = false by rw [decide_eq_false_iff_not]; omega]
      simp only [getS, List.set, truD, isB, i2, TT0, true_and, Bool.not_true, Bool.not_false, Bool.false_eq_true, if_false, if_true, dVar, dC, setT, setTs]
      rw [← hk, hc] at q
      exact fin_ret q
/-- what a take says of the fault -/
def badT (cs sm : List Nat) (n : Nat) : Bool := match cs[n]? with
  | none => true
  | some c => !decide (c ∈ sm)
theorem lTake_eq (cs sm : List Nat) (s : LS) : lTake cs sm s = (if s.ft = none then (if badT cs sm (skp cs s.pl) = true then { s with pl := skp cs s.pl, ft := some (skp cs s.pl) } else { s with pl := skp cs s.pl + 1 }) else { s with pl := skp cs s.pl }) := by
  unfold lTake badT
  cases hf : s.ft with
  | some o => simp
  | none =>
    cases hc : cs[skp cs s.pl]? with
    | none => simp [hc]
    | some c => by_cases hm : c ∈ sm <;> simp [hc, hm]
theorem pure__law_take {C : Addr} (ds : List D) (G : GH) (Q : DK) (E : DXK) (h : sp__law_take ds G Q E) : t__law_take C E (fnEnds Q) (startD N__law_take ds) G := by
  obtain ⟨p, r, x, y, s, rfl, h, hI, q⟩ := h
  show t__law_take C E (fnEnds Q) [some (.str x), some (.ref p), some (.str y), none] G
  unfold t__law_take
  simp only [dSeq, dIfS, dTst, dTru, dNot, dAnd, dOr, dAndV, dOrV, dNotV, dRet, dRetN, dDrop, dAsg, dNext, dBreak, dCont, dVar, getS, dC, dOp, dChain, dF1, dF2, dCall, dCons, dNil, dTup, dLst, dLstM, dIf, dNeg, uNeg, dLc, dLcM, dItr, dZip, dEnum, dRange1, dRange2, dFor, dPut, dAug, dPar2, dPar3, dSl, dPart, dNoPart, dM1, dM0, dCB, on1, isB, setT, setTs, dRaise, dMk, dYes, dLstRg, dRg1, wipeD, dFld, dSFld, dFldAug, dMeth, dMake, dWhile, dRepl, List.set]
  refine ⟨p, r, x, s, rfl, h, hI, ?_⟩
  have h' : Ld p r { s with pl := skp (sg x) s.pl } (setL p r { s with pl := skp (sg x) s.pl } G) := ld_set h.ne
  rw [lTake_eq] at q
  refine l1 h' ?_
  simp only [isND, isB]
  rw [isN_opt]
  by_cases hf : s.ft = none
  · rw [if_pos hf] at q
    rw [show decide (({ s with pl := skp (sg x) s.pl } : LS).ft = none) = true from decide_eq_true hf]
    simp only [if_true]
    have good : badT (sg x) (sg y) (skp (sg x) s.pl) = false → ixD (.ref p) (.int 1) (setL p r { s with pl := skp (sg x) s.pl } G) fun x_1 G1 => isND x_1 .non G1 (isB fun c G1 => if c = true then ixD (.ref p) (.int 0) G1 fun x_2 G1 => addD x_2 (.int 1) G1 fun e G1 => setD (.ref p) (.int 0) e G1 fun G4 => (fnEnds Q).rt (.str (chS (sg x)[skp (sg x) s.pl]?)) G4 else (fnEnds Q).rt (.str (chS (sg x)[skp (sg x) s.pl]?)) G1) := fun hb => by
      rw [hb] at q
      rw [if_neg Bool.false_ne_true] at q
      refine l1 h' ?_
      simp only [isND, isB]
      rw [isN_opt, show decide (({ s with pl := skp (sg x) s.pl } : LS).ft = none) = true from decide_eq_true hf]
      simp only [if_true]
      refine l0 h' ?_
      simp only [addD]
      refine p0 (n := skp (sg x) s.pl + 1) h' (by show ((skp (sg x) s.pl : Nat) : Int) + 1 = _; omega) ?_
      rw [setL_setL]
      exact fin_ret q
    have evil : badT (sg x) (sg y) (skp (sg x) s.pl) = true → ixD (.ref p) (.int 0) (setL p r { s with pl := skp (sg x) s.pl } G) fun e G1 => setD (.ref p) (.int 1) e G1 fun G4 => ixD (.ref p) (.int 1) G4 fun x_1 G1 => isND x_1 .non G1 (isB fun c G1 => if c = true then ixD (.ref p) (.int 0) G1 fun x_2 G1 => addD x_2 (.int 1) G1 fun e G1 => setD (.ref p) (.int 0) e G1 fun G4 => (fnEnds Q).rt (.str (chS (sg x)[skp (sg x) s.pl]?)) G4 else (fnEnds Q).rt (.str (chS (sg x)[skp (sg x) s.pl]?)) G1) := fun hb => by
      rw [if_pos hb] at q
      refine l0 h' ?_
      refine p1 h' ?_
      rw [setL_setL]
      have h2 : Ld p r { s with pl := skp (sg x) s.pl, ft := some (skp (sg x) s.pl) } (setL p r { s with pl := skp (sg x) s.pl, ft := some (skp (sg x) s.pl) } G) := ld_set h.ne
      refine l1 h2 ?_
      simp only [isND, isB]
      rw [isN_opt]
      simp only [reduceCtorEq, decide_false, Bool.false_eq_true, if_false]
      exact fin_ret q
    refine eqX ?_
    cases hc : (sg x)[skp (sg x) s.pl]? with
    | none =>
      rw [show decide (chS none = ("" : Str)) = true by decide +kernel]
      rw [hc] at evil
      exact evil (by unfold badT; rw [hc])
    | some c =>
      rw [show decide (chS (some c) = ("" : Str)) = false by rw [decide_eq_false_iff_not]; intro z; injection z with z; injection z with z; cases z]
      simp only [isB, Bool.false_eq_true, if_false]
      refine inS (c := c) ?_
      simp only [isB]
      by_cases hm : c ∈ sg y
      · rw [decide_eq_true hm, Bool.xor_self]
        simp only [Bool.false_eq_true, if_false]
        rw [hc] at good
        exact good (by unfold badT; rw [hc]; show (!decide (c ∈ sg y)) = false; rw [decide_eq_true hm] <;> rfl)
      · rw [decide_eq_false hm, Bool.false_xor]
        simp only [if_true]
        rw [hc] at evil
        exact evil (by unfold badT; rw [hc]; show (!decide (c ∈ sg y)) = true; rw [decide_eq_false hm] <;> rfl)
  · rw [if_neg hf] at q
    rw [show decide (({ s with pl := skp (sg x) s.pl } : LS).ft = none) = false from decide_eq_false hf]
    simp only [Bool.false_eq_true, if_false]
    refine l1 h' ?_
    simp only [isND, isB]
    rw [isN_opt, show decide (({ s with pl := skp (sg x) s.pl } : LS).ft = none) = false from decide_eq_false hf]
    simp only [Bool.false_eq_true, if_false]
    exact fin_ret q
end KL


end

section
set_option Elab.async false
set_option linter.all false
set_option maxRecDepth 100000
set_option maxHeartbeats 1000000
open PySem PySem.Spec PyProof.Rows L2 DL
namespace KL
/-! ### what the law's reading keeps -/
structure LGd (cs : List Nat) (a : Nat) (s : LS) : Prop where
  pl : s.pl ≤ cs.length
  id : s.id.length + a ≤ s.pl
def LMono (cs : List Nat) (f : LS → LS) : Prop := ∀ a s, LGd cs a s → LGd cs a (f s) ∧ s.pl ≤ (f s).pl ∧ ∀ o, s.ft = some o → (f s).ft = some o
theorem LMono.comp {cs : List Nat} {f g : LS → LS} (hf : LMono cs f) (hg : LMono cs g) : LMono cs fun s => g (f s) := fun a s h => by
  obtain ⟨h1, h2, h3⟩ := hf a s h
  obtain ⟨g1, g2, g3⟩ := hg a _ h1
  exact ⟨g1, Nat.le_trans h2 g2, fun o e => g3 o (h3 o e)⟩
theorem badT_at {cs sm : List Nat} {n : Nat} (h : badT cs sm n = false) : ∃ c, cs[n]? = some c ∧ c ∈ sm := by
  unfold badT at h
  cases hc : cs[n]? with
  | none => rw [hc] at h; cases h
  | some c =>
    rw [hc] at h
    have h : (!decide (c ∈ sm)) = false := h
    rw [Bool.not_eq_false', decide_eq_true_eq] at h
    exact ⟨c, rfl, h⟩
theorem lmono_take (cs sm : List Nat) : LMono cs (lTake cs sm) := fun a s h => by
  have hp := skp_ge cs s.pl
  have hl := skp_le h.pl
  have h2 := h.id
  rw [lTake_eq]
  by_cases hf : s.ft = none
  · rw [if_pos hf]
    cases hb : badT cs sm (skp cs s.pl) with
    | true =>
      rw [if_pos rfl]
      exact ⟨⟨hl, by show s.id.length + a ≤ skp cs s.pl; omega⟩, hp, fun o e => by rw [hf] at e; cases e⟩
    | false =>
      rw [if_neg Bool.false_ne_true]
      obtain ⟨c, hc, _⟩ := badT_at hb
      have hlt := (List.getElem?_eq_some_iff.mp hc).1
      exact ⟨⟨hlt, by show s.id.length + a ≤ skp cs s.pl + 1; omega⟩, by show s.pl ≤ skp cs s.pl + 1; omega, fun o e => e⟩
  · rw [if_neg hf]
    exact ⟨⟨hl, by show s.id.length + a ≤ skp cs s.pl; omega⟩, hp, fun o e => e⟩
theorem ltake_nil (cs : List Nat) (s : LS) : (lTake cs [] s).ft ≠ none := by
  rw [lTake_eq]
  by_cases hf : s.ft = none
  · rw [if_pos hf]
    have hb : badT cs [] (skp cs s.pl) = true := by
      unfold badT
      cases cs[skp cs s.pl]? <;> simp
    rw [if_pos hb]
    simp
  · rw [if_neg hf]
    exact hf
theorem ltake_id (cs sm : List Nat) (s : LS) : (lTake cs sm s).id = s.id := rfl
theorem lmono_skp (cs : List Nat) : LMono cs fun s => { s with pl := skp cs s.pl } := fun a s h => by
  have hp := skp_ge cs s.pl
  have h2 := h.id
  exact ⟨⟨skp_le h.pl, by show s.id.length + a ≤ skp cs s.pl; omega⟩, hp, fun o e => e⟩
theorem lblk_ft {stm : LS → Bool × LS} {cs ends : List Nat} {m : Nat} {i : Bool} {s : LS} (h : s.ft ≠ none) : lBlk stm cs ends (m + 1) i s = (i, { s with pl := skp cs s.pl }) := by
  show (if s.ft ≠ none then _ else _) = _
  rw [if_pos h]
theorem lblk_end {stm : LS → Bool × LS} {cs ends : List Nat} {m : Nat} {i : Bool} {s : LS} (e : ∀ c, cs[skp cs s.pl]? = some c → c ∈ ends) : lBlk stm cs ends (m + 1) i s = (i, { s with pl := skp cs s.pl }) := by
  show (if s.ft ≠ none then _ else _) = _
  by_cases h : s.ft = none
  · rw [if_neg (fun z => z h)]
    cases hc : cs[skp cs s.pl]? with
    | none => rfl
    | some c => exact if_pos (e c hc)
  · rw [if_pos h]
theorem lblk_go {stm : LS → Bool × LS} {cs ends : List Nat} {m : Nat} {i : Bool} {s : LS} {c : Nat} (h : s.ft = none) (hc : cs[skp cs s.pl]? = some c) (e : c ∉ ends) :
    lBlk stm cs ends (m + 1) i s = lBlk stm cs ends m (i && (stm { s with pl := skp cs s.pl }).1) (stm { s with pl := skp cs s.pl }).2 := by
  show (if s.ft ≠ none then _ else _) = _
  rw [if_neg (fun z => z h), hc]
  exact if_neg e
def SMono (cs : List Nat) (stm : LS → Bool × LS) : Prop := ∀ a s, LGd cs a s → s.ft = none → LGd cs a (stm s).2 ∧ s.pl ≤ (stm s).2.pl
theorem lmono_blk {stm : LS → Bool × LS} {cs ends : List Nat} (hs : SMono cs stm) : ∀ m i, LMono cs fun s => (lBlk stm cs ends m i s).2
  | 0, i, a, s, h => ⟨h, Nat.le_refl _, fun o e => e⟩
  | m + 1, i, a, s, h => by
    dsimp only
    by_cases hf : s.ft = none
    · cases hc : cs[skp cs s.pl]? with
      | none =>
        rw [lblk_end (fun c z => by rw [hc] at z; cases z)]
        exact lmono_skp cs a s h
      | some c =>
        by_cases he : c ∈ ends
        · rw [lblk_end (fun c' z => by rw [hc] at z; cases z; exact he)]
          exact lmono_skp cs a s h
        · rw [lblk_go hf hc he]
          obtain ⟨k1, k2, _⟩ := lmono_skp cs a s h
          obtain ⟨k3, k4⟩ := hs a _ k1 hf
          obtain ⟨k5, k6, _⟩ := lmono_blk (ends := ends) hs m (i && (stm { s with pl := skp cs s.pl }).1) a _ k3
          exact ⟨k5, Nat.le_trans k2 (Nat.le_trans k4 k6), fun o e => by rw [hf] at e; cases e⟩
    · rw [lblk_ft hf]
      exact lmono_skp cs a s h
abbrev lTst (cs : List Nat) (n : Nat) (s0 : LS) : Bool × LS :=
  let a := lBlk (lStm cs n) cs (sg "|)") 601 true (lTake cs (brO n) (lTake cs (sg ".1#!") s0))
  let b := lBlk (lStm cs n) cs (sg ")") 601 true (lTake cs (sg "|") a.2)
  (a.1 || b.1, lTake cs (sg ")") b.2)
theorem lstm_q {cs : List Nat} {n : Nat} {s : LS} (h : cs[s.pl]? = some 63) : lStm cs (n + 1) s = lTst cs n (lTake cs (sg "swx?*@") s) := by
  show (if cs[s.pl]? = some 63 then _ else _) = _
  rw [if_pos h]
abbrev lRep (cs : List Nat) (n : Nat) (s : LS) : Bool × LS := lBlk (lStm cs n) cs (sg ")") 601 true (lTake cs (brO n) (lTake cs (sg "23456789") (lTake cs (sg "swx?*@") s)))
theorem lstm_r {cs : List Nat} {n : Nat} {s : LS} (h : cs[s.pl]? = some 42) : lStm cs (n + 1) s = ((lRep cs n s).1, lTake cs (sg ")") (lRep cs n s).2) := by
  show (if cs[s.pl]? = some 63 then _ else if cs[s.pl]? = some 42 then _ else _) = _
  rw [if_neg (by rw [h]; decide), if_pos h]
abbrev lLop (cs : List Nat) (n : Nat) (s : LS) : Bool × LS := lBlk (lStm cs n) cs (sg ")") 601 true (lTake cs (brO n) (lTake cs (sg "swx?*@") s))
abbrev lLopZ (cs : List Nat) (n : Nat) (s : LS) : LS := lTake cs (sg ")") (lLop cs n s).2
theorem lstm_l {cs : List Nat} {n : Nat} {s : LS} (h : cs[s.pl]? = some 64) : lStm cs (n + 1) s = (false, if (lLop cs n s).1 = true then { lLopZ cs n s with id := (lLopZ cs n s).id ++ [s.pl] } else lLopZ cs n s) := by
  show (if cs[s.pl]? = some 63 then _ else if cs[s.pl]? = some 42 then _ else if cs[s.pl]? = some 64 then _ else _) = _
  rw [if_neg (by rw [h]; decide), if_neg (by rw [h]; decide), if_pos h]
theorem lstm_a {cs : List Nat} {n : Nat} {s : LS} (h1 : cs[s.pl]? ≠ some 63) (h2 : cs[s.pl]? ≠ some 42) (h3 : cs[s.pl]? ≠ some 64) : lStm cs (n + 1) s = (false, lTake cs (sg "swx?*@") s) := by
  show (if cs[s.pl]? = some 63 then _ else if cs[s.pl]? = some 42 then _ else if cs[s.pl]? = some 64 then _ else _) = _
  rw [if_neg h1, if_neg h2, if_neg h3]
theorem lmono_tst {cs : List Nat} {n : Nat} (ih : SMono cs (lStm cs n)) : LMono cs fun s => (lTst cs n s).2 :=
  (lmono_take cs (sg ".1#!")).comp ((lmono_take cs (brO n)).comp ((lmono_blk (ends := sg "|)") ih 601 true).comp ((lmono_take cs (sg "|")).comp ((lmono_blk (ends := sg ")") ih 601 true).comp (lmono_take cs (sg ")"))))))
theorem ltake_some {cs : List Nat} {s : LS} {a c : Nat} (h : LGd cs a s) (hf : s.ft = none) (hc : cs[s.pl]? = some c) (hm : c ∈ sg "swx?*@") : LGd cs (a + 1) (lTake cs (sg "swx?*@") s) ∧ s.pl < (lTake cs (sg "swx?*@") s).pl := by
  have h32 : cs[s.pl]? ≠ some 32 := by
    rw [hc]
    intro z
    have : c = 32 := Option.some.inj z
    subst this
    exact absurd hm (by decide +kernel)
  have hk : skp cs s.pl = s.pl := skp_here h32
  have h2 := h.id
  have hlt := (List.getElem?_eq_some_iff.mp hc).1
  have hb : badT cs (sg "swx?*@") s.pl = false := by
    unfold badT
    rw [hc]
    show (!decide _) = false
    rw [decide_eq_true hm] <;> rfl
  rw [lTake_eq, if_pos hf, hk, hb, if_neg Bool.false_ne_true]
  exact ⟨⟨hlt, by show s.id.length + (a + 1) ≤ s.pl + 1; omega⟩, Nat.lt_succ_self _⟩
theorem smono_stm (cs : List Nat) : ∀ n, SMono cs (lStm cs n)
  | 0 => fun a s h _ => ⟨h, Nat.le_refl _⟩
  | n + 1 => by
    have ih := smono_stm cs n
    intro a s h hf
    by_cases h1 : cs[s.pl]? = some 63
    · rw [lstm_q h1]
      have := ((lmono_take cs (sg "swx?*@")).comp (lmono_tst ih)) a s h
      exact ⟨this.1, this.2.1⟩
    · by_cases h2 : cs[s.pl]? = some 42
      · rw [lstm_r h2]
        have := ((lmono_take cs (sg "swx?*@")).comp ((lmono_take cs (sg "23456789")).comp ((lmono_take cs (brO n)).comp ((lmono_blk (ends := sg ")") ih 601 true).comp (lmono_take cs (sg ")")))))) a s h
        exact ⟨this.1, this.2.1⟩
      · by_cases h3 : cs[s.pl]? = some 64
        · rw [lstm_l h3]
          have m1 := (lmono_take cs (brO n)).comp ((lmono_blk (ends := sg ")") ih 601 true).comp (lmono_take cs (sg ")")))
          have z1 : LGd cs a (lLopZ cs n s) ∧ s.pl ≤ (lLopZ cs n s).pl ∧ ∀ o, s.ft = some o → (lLopZ cs n s).ft = some o := ((lmono_take cs (sg "swx?*@")).comp m1) a s h
          by_cases hi : (lLop cs n s).1 = true
          · dsimp only
            rw [if_pos hi]
            refine ⟨⟨z1.1.pl, ?_⟩, z1.2.1⟩
            show ((lLopZ cs n s).id ++ [s.pl]).length + a ≤ (lLopZ cs n s).pl
            rw [List.length_append]
            simp only [List.length_cons, List.length_nil]
            obtain ⟨g1, g2⟩ := ltake_some h hf h3 (by decide +kernel)
            have : (lLopZ cs n s).id.length + (a + 1) ≤ (lLopZ cs n s).pl := (m1 (a + 1) _ g1).1.id
            omega
          · dsimp only
            rw [if_neg hi]
            exact ⟨z1.1, z1.2.1⟩
        · rw [lstm_a h1 h2 h3]
          have := lmono_take cs (sg "swx?*@") a s h
          exact ⟨this.1, this.2.1⟩
theorem LI.g {x : Str} {s : LS} (h : LI x s) : LGd (sg x) 0 s := ⟨by rw [sg_len]; exact h.pl, h.id⟩
theorem LI.of {x : Str} {s : LS} (h : x.length ≤ 1000) (g : LGd (sg x) 0 s) : LI x s := ⟨h, by have := g.pl; rwa [sg_len] at this, g.id⟩
theorem LI.mono {x : Str} {s : LS} {f : LS → LS} (h : LI x s) (m : LMono (sg x) f) : LI x (f s) := .of h.sz (m 0 s h.g).1
theorem lt_LI {x : Str} {s : LS} (h : LI x s) (sm : List Nat) : LI x (lTake (sg x) sm s) := h.mono (lmono_take (sg x) sm)
theorem lb_LI {x : Str} {s : LS} (h : LI x s) (n : Nat) (y : List Nat) : LI x (lBlk (lStm (sg x) n) (sg x) y 601 true s).2 := h.mono (lmono_blk (smono_stm (sg x) n) 601 true)
theorem lbr_ft (cs : List Nat) {n : Nat} (hn : n = 0) (s : LS) : (lTake cs (brO n) s).ft ≠ none := by
  unfold brO
  rw [if_pos hn]
  exact ltake_nil cs s
theorem brS {k n : Nat} (h : k + (n + 1) = 9) : sg (if k < 8 then "(" else "") = brO n := by
  unfold brO
  by_cases hn : n = 0
  · rw [if_pos hn, if_neg (by omega)]
    decide +kernel
  · rw [if_neg hn, if_pos (by omega)]
section
variable {p q : Addr} {x : Str} {G : GH} {Q : DK}
theorem c_take {s : LS} {y : Str} {E : DXK} (h : Ld p q s G) (hI : LI x s) (z : Q (.str (chS (sg x)[skp (sg x) s.pl]?)) (setL p q (lTake (sg x) (sg y) s) G)) : sp__law_take [.str x, .ref p, .str y] G Q E := ⟨p, q, x, y, s, rfl, h, hI, z⟩
theorem c_read {sp : DSp} {s : LS} {k n : Nat} {y : Str} {E : DXK} (hsp : sp = sp__law_read n) (hx : x.length ≤ 600) (hpr : prn x = true) (h : Ld p q s G) (hI : LI x s) (hk : k + (n + 1) = 9) (hn : n = 0 → s.ft ≠ none) (z : Q (.bl (lBlk (lStm (sg x) n) (sg x) (sg y) 601 true s).1) (setL p q (lBlk (lStm (sg x) n) (sg x) (sg y) 601 true s).2 G)) :
    addD (.int (k : Int)) (.int 1) G fun d G2 => sp [.str x, .ref p, d, .str y] G2 Q E := by
  subst hsp
  exact ⟨p, q, x, k + 1, .str y, sg y, s, rfl, by omega, .inl ⟨y, rfl, rfl⟩, hn, hx, hpr, h, hI, z⟩
end
theorem in_ends {neg : Bool} {c : Nat} {e : D} {y : List Nat} {G : GH} {Q : DK} (h : endsOf e y) (hc : PyData.strOk (⟨#[c]⟩ : Str) = true) (q : Q (.bl (decide (c ∈ y) ^^ neg)) G) : inQ neg (.str ⟨#[c]⟩) e G Q := by
  rcases h with ⟨z, rfl, rfl⟩ | ⟨rfl, rfl⟩
  · exact inS q
  · refine ⟨⟨shp 0 (dpt_str hc 0), shp_list 0 (by simp)⟩, ?_⟩
    simpa [asQ] using q
end KL


end

section
set_option Elab.async false
set_option linter.all false
set_option maxRecDepth 100000
set_option maxHeartbeats 2000000
open PySem PySem.Spec PyProof.Rows L2 DL
namespace KL
theorem bl_and3 (i a b : Bool) {G : GH} {k : D → GH → Prop} (z : k (.bl (i && (a || b))) G) : truD (.bl i) G fun x => if x = true then truD (.bl a) G fun y => if y = true then k (.bl a) G else k (.bl b) G else k (.bl i) G := by
  cases i <;> cases a <;> exact z
theorem prn_ok {x : Str} (h : prn x = true) {n c : Nat} (hc : (sg x)[n]? = some c) : PyData.strOk (⟨#[c]⟩ : Str) = true := by
  have h1 := List.all_eq_true.mp h c (List.mem_of_getElem? hc)
  rw [Bool.and_eq_true, decide_eq_true_eq, decide_eq_true_eq] at h1
  have : PyData.strOk (⟨#[c]⟩ : Str) = (decide (c < 1114112) && true) := by unfold PyData.strOk; simp
  rw [this, decide_eq_true (by omega)] <;> rfl
theorem updQ {p q : Addr} {s : LS} {G : GH} (h : Ld p q s G) (n : Nat) : updG G q (.lst (natsD s.id ++ [.int (n : Int)])) = setL p q { s with id := s.id ++ [n] } G := by
  funext a
  unfold updG setL
  split
  · rename_i e
    rw [if_neg (by rw [e]; exact h.ne.symm), natsD_app] <;> rfl
  · split
    · rename_i ea; rw [ea, h.p] <;> rfl
    · rfl
theorem read_loop {C : Addr} {Ex : DXK} (E : DEnds) {sp : DSp} {n k : Nat} (hsp : n ≠ 0 → sp = sp__law_read (n - 1)) (hk : k + n = 9) (p q : Addr) {x : Str} (hx : x.length ≤ 600) (hpr : prn x = true) {e : D} {y : List Nat} (he : endsOf e y) (G : GH) :
    ∀ (ds : List D) (i : Bool) (s : LS) (v5 v6 v7 v8 v9 v10 : Option D) (G' : GH), Ld p q s G' → LI x s → (n = 0 → s.ft ≠ none) → Le (setL p q s G) G' →
    (∀ (v5 v6 v7 v8 v9 v10 : Option D) (G' : GH), Le (setL p q (lBlk (lStm (sg x) n) (sg x) y ds.length i s).2 G) G' → E.nx [some (.str x), some (.ref p), some (.int (k : Int)), some e, some (.bl (lBlk (lStm (sg x) n) (sg x) y ds.length i s).1), v5, v6, v7, v8, v9, v10] G') →
    (∀ (G' : GH), Le (setL p q (lBlk (lStm (sg x) n) (sg x) y ds.length i s).2 G) G' → E.rt (.bl (lBlk (lStm (sg x) n) (sg x) y ds.length i s).1) G') →
    loopD yes0 (.name 5) (t__law_read_19 C sp Ex) E ds [some (.str x), some (.ref p), some (.int (k : Int)), some e, some (.bl i), v5, v6, v7, v8, v9, v10] G'
  | [], i, s, v5, v6, v7, v8, v9, v10, G', h, hI, hn, hle, k1, k2 => ⟨trivial, k1 _ _ _ _ _ _ G' hle⟩
  | d :: ds, i, s, v5, v6, v7, v8, v9, v10, G', h, hI, hn, hle, k1, k2 => by
    refine ⟨trivial, ?_⟩
    unfold t__law_read_19 t__law_read_18 t__law_read_17 t__law_read_16 t__law_read_15
    simp only [dSeq, dIfS, dTst, dTru, dNot, dAnd, dOr, dAndV, dOrV, dNotV, dRet, dRetN, dDrop, dAsg, dNext, dBreak, dCont, dVar, getS, dC, dOp, dChain, dF1, dF2, dCall, dCons, dNil, dTup, dLst, dLstM, dIf, dNeg, uNeg, dLc, dLcM, dItr, dZip, dEnum, dRange1, dRange2, dFor, dPut, dAug, dPar2, dPar3, dSl, dPart, dNoPart, dM1, dM0, dCB, on1, isB, setT, setTs, dRaise, dMk, dYes, dLstRg, dRg1, wipeD, dFld, dSFld, dFldAug, dMeth, dMake, dWhile, dRepl, List.set, List.set]
    have hI1 : LI x { s with pl := skp (sg x) s.pl } := hI.mono (lmono_skp (sg x))
    have h1 : Ld p q { s with pl := skp (sg x) s.pl } (setL p q { s with pl := skp (sg x) s.pl } G') := ld_set h.ne
    have hl1 : Le (setL p q { s with pl := skp (sg x) s.pl } G) (setL p q { s with pl := skp (sg x) s.pl } G') := leL hle
    have stop : lBlk (lStm (sg x) n) (sg x) y (d :: ds).length i s = (i, { s with pl := skp (sg x) s.pl }) → E.rt (.bl i) (setL p q { s with pl := skp (sg x) s.pl } G') := fun eb => by
      have := k2 _ (by rw [eb]; exact hl1)
      rw [eb] at this
      exact this
    refine ⟨p, q, x, s, rfl, h, hI, ?_⟩
    refine l1 h1 ?_
    simp only [notND, isB]
    rw [isN_opt]
    by_cases hf : s.ft = none
    · rw [show decide (({ s with pl := skp (sg x) s.pl } : LS).ft = none) = true from decide_eq_true hf]
      simp only [Bool.not_true, Bool.false_eq_true, if_false]
      refine eqX ?_
      cases hc : (sg x)[skp (sg x) s.pl]? with
      | none =>
        rw [show decide (chS none = ("" : Str)) = true by decide +kernel]
        simp only [isB, if_true]
        exact stop (lblk_end fun c z => by rw [hc] at z; cases z)
      | some c =>
        rw [show decide (chS (some c) = ("" : Str)) = false by rw [decide_eq_false_iff_not]; intro z; injection z with z; injection z with z; cases z]
        simp only [isB, Bool.false_eq_true, if_false]
        refine in_ends (c := c) he (prn_ok hpr hc) ?_
        simp only [isB, Bool.xor_false]
        by_cases hm : c ∈ y
        · rw [decide_eq_true hm]
          simp only [if_true]
          exact stop (lblk_end fun c' z => by rw [hc] at z; cases z; exact hm)
        · rw [decide_eq_false hm]
          simp only [Bool.false_eq_true, if_false]
          obtain ⟨n, rfl⟩ : ∃ n', n = n' + 1 := ⟨n - 1, by have : n ≠ 0 := fun e => hn e hf; omega⟩
          have hsp : sp = sp__law_read n := hsp (by omega)
          have c0 : (sg x)[({ s with pl := skp (sg x) s.pl } : LS).pl]? = some c := hc
          have k1 : ∀ (v5 v6 v7 v8 v9 v10 : Option D) (s2 : LS) (i2 : Bool) (G2 : GH), lStm (sg x) (n + 1) { s with pl := skp (sg x) s.pl } = (i2, s2) → Ld p q s2 G2 → LI x s2 → Le (setL p q s2 G) G2 → loopD yes0 (.name 5) (t__law_read_19 C sp Ex) E ds [some (.str x), some (.ref p), some (.int (k : Int)), some e, some (.bl (i && i2)), v5, v6, v7, v8, v9, v10] G2 := fun v5 v6 v7 v8 v9 v10 s2 i2 G2 es hd2 hI2 hl2 => by
            have eb : lBlk (lStm (sg x) (n + 1)) (sg x) y (d :: ds).length i s = lBlk (lStm (sg x) (n + 1)) (sg x) y ds.length (i && i2) s2 := by
              rw [List.length_cons, lblk_go hf hc hm, es]
            rw [eb] at k1 k2
            exact read_loop E (fun _ => hsp) hk p q hx hpr he G ds (i && i2) s2 _ _ _ _ _ _ G2 hd2 hI2 (fun z => absurd z (by omega)) hl2 k1 k2
          refine l0 h1 ?_
          simp only [ltD, i2, TT0, true_and]
          have eb8 : (if (decide ((k : Int) < 8)) = true then D.str "(" else .str "") = .str (if k < 8 then "(" else "") := by
            by_cases h8 : k < 8
            · rw [show decide ((k : Int) < 8) = true by rw [decide_eq_true_eq]; omega, if_pos rfl, if_pos h8]
            · rw [show decide ((k : Int) < 8) = false by rw [decide_eq_false_iff_not]; omega, if_neg Bool.false_ne_true, if_neg h8]
          have i0 := lt_LI hI1 (sg "swx?*@")
          have brk : ∀ (kk : D → GH → Prop) (G2 : GH), kk (.str (if k < 8 then "(" else "")) G2 → if decide ((k : Int) < 8) = true then kk (.str "(") G2 else kk (.str "") G2 := fun kk G2 z => by
            rw [← eb8] at z
            by_cases h8 : decide ((k : Int) < 8) = true
            · rw [if_pos h8] at z ⊢; exact z
            · rw [if_neg h8] at z ⊢; exact z
          refine brk (fun d1 G2 => sp__law_take [.str x, .ref p, .str "swx?*@"] G2 (fun _ G3 => t__law_read_14 C sp Ex { nx := loopD yes0 (.name 5) (t__law_read_19 C sp Ex) E ds, rt := E.rt, bk := E.nx, ct := loopD yes0 (.name 5) (t__law_read_19 C sp Ex) E ds } [some (.str x), some (.ref p), some (.int (k : Int)), some e, some (.bl i), some d, some (.str (chS (some c))), some (.int ((skp (sg x) s.pl : Nat) : Int)), some d1, v9, v10] G3) noX) _ ?_
          refine c_take h1 hI1 ?_
          rw [setL_setL]
          unfold t__law_read_14
          simp only [dSeq, dIfS, dTst, dTru, dNot, dAnd, dOr, dAndV, dOrV, dNotV, dRet, dRetN, dDrop, dAsg, dNext, dBreak, dCont, dVar, getS, dC, dOp, dChain, dF1, dF2, dCall, dCons, dNil, dTup, dLst, dLstM, dIf, dNeg, uNeg, dLc, dLcM, dItr, dZip, dEnum, dRange1, dRange2, dFor, dPut, dAug, dPar2, dPar3, dSl, dPart, dNoPart, dM1, dM0, dCB, on1, isB, setT, setTs, dRaise, dMk, dYes, dLstRg, dRg1, wipeD, dFld, dSFld, dFldAug, dMeth, dMake, dWhile, dRepl, List.set, List.set]
          have hd0 : ∀ s2 : LS, Ld p q s2 (setL p q s2 G') := fun s2 => ld_set h.ne
          refine eqX ?_
          rw [show decide (chS (some c) = ("?" : Str)) = decide (c = 63) from sign_eq c 63]
          by_cases c1 : c = 63
          · subst c1
            rw [decide_eq_true rfl]
            simp only [isB, ↓reduceIte]
            unfold t__law_read_7 t__law_read_6 t__law_read_5 t__law_read_4 t__law_read_3 t__law_read_2 t__law_read_1
            simp only [dSeq, dIfS, dTst, dTru, dNot, dAnd, dOr, dAndV, dOrV, dNotV, dRet, dRetN, dDrop, dAsg, dNext, dBreak, dCont, dVar, getS, dC, dOp, dChain, dF1, dF2, dCall, dCons, dNil, dTup, dLst, dLstM, dIf, dNeg, uNeg, dLc, dLcM, dItr, dZip, dEnum, dRange1, dRange2, dFor, dPut, dAug, dPar2, dPar3, dSl, dPart, dNoPart, dM1, dM0, dCB, on1, isB, setT, setTs, dRaise, dMk, dYes, dLstRg, dRg1, wipeD, dFld, dSFld, dFldAug, dMeth, dMake, dWhile, dRepl, List.set, List.set]
            have j1 := lt_LI i0 (sg ".1#!")
            have j2 := lt_LI j1 (brO n)
            have j3 := lb_LI j2 n (sg "|)")
            have j4 := lt_LI j3 (sg "|")
            have j5 := lb_LI j4 n (sg ")")
            have j6 := lt_LI j5 (sg ")")
            refine c_take (hd0 _) i0 ?_
            rw [setL_setL]
            refine c_take (hd0 _) j1 ?_
            rw [setL_setL, brS hk]
            refine c_read hsp hx hpr (hd0 _) j2 hk (fun z => lbr_ft _ z _) ?_
            rw [setL_setL]
            refine c_take (hd0 _) j3 ?_
            rw [setL_setL]
            refine c_read hsp hx hpr (hd0 _) j4 hk (fun z => ?_) ?_
            · have hne := lbr_ft (sg x) z (lTake (sg x) (sg ".1#!") (lTake (sg x) (sg "swx?*@") { s with pl := skp (sg x) s.pl }))
              obtain ⟨o, ho⟩ := Option.ne_none_iff_exists'.mp hne
              have a1 := (lmono_blk (ends := sg "|)") (smono_stm (sg x) n) 601 true 0 _ j2.g).2.2 o ho
              have a2 := (lmono_take (sg x) (sg "|") 0 _ j3.g).2.2 o a1
              rw [a2]
              simp
            rw [setL_setL]
            refine c_take (hd0 _) j5 ?_
            rw [setL_setL]
            refine bl_and3 (k := fun z G1 => loopD yes0 (.name 5) (t__law_read_19 C sp Ex) E ds [some (.str x), some (.ref p), some (.int (k : Int)), some e, some z, _, _, _, _, _, _] G1) i _ _ ?_
            exact k1 _ _ _ _ _ _ _ _ _ (lstm_q c0) (hd0 _) j6 (leL hle)
          · rw [decide_eq_false c1]
            simp only [isB, Bool.false_eq_true, ↓reduceIte]
            refine eqX ?_
            rw [show decide (chS (some c) = ("*" : Str)) = decide (c = 42) from sign_eq c 42]
            by_cases c2 : c = 42
            · subst c2
              rw [decide_eq_true rfl]
              simp only [isB, ↓reduceIte]
              unfold t__law_read_13 t__law_read_12 t__law_read_11 t__law_read_10 t__law_read_9 t__law_read_8
              simp only [dSeq, dIfS, dTst, dTru, dNot, dAnd, dOr, dAndV, dOrV, dNotV, dRet, dRetN, dDrop, dAsg, dNext, dBreak, dCont, dVar, getS, dC, dOp, dChain, dF1, dF2, dCall, dCons, dNil, dTup, dLst, dLstM, dIf, dNeg, uNeg, dLc, dLcM, dItr, dZip, dEnum, dRange1, dRange2, dFor, dPut, dAug, dPar2, dPar3, dSl, dPart, dNoPart, dM1, dM0, dCB, on1, isB, setT, setTs, dRaise, dMk, dYes, dLstRg, dRg1, wipeD, dFld, dSFld, dFldAug, dMeth, dMake, dWhile, dRepl, List.set, List.set]
              have j1 := lt_LI i0 (sg "23456789")
              have j2 := lt_LI j1 (brO n)
              have j3 := lb_LI j2 n (sg ")")
              have j4 := lt_LI j3 (sg ")")
              refine eqX ?_
              rw [show decide (chS (some 42) = ("*" : Str)) = true by decide +kernel]
              simp only [isB, ↓reduceIte]
              refine c_take (hd0 _) i0 ?_
              rw [setL_setL]
              refine c_take (hd0 _) j1 ?_
              rw [setL_setL, brS hk]
              refine c_read hsp hx hpr (hd0 _) j2 hk (fun z => lbr_ft _ z _) ?_
              rw [setL_setL]
              refine c_take (hd0 _) j3 ?_
              rw [setL_setL]
              refine eqX ?_
              rw [show decide (chS (some 42) = ("@" : Str)) = false by decide +kernel]
              simp only [isB, Bool.false_eq_true, ↓reduceIte]
              have fin := k1 (some d) (some (.str (chS (some 42)))) (some (.int ((skp (sg x) s.pl : Nat) : Int))) (some (.str (if k < 8 then "(" else ""))) (some (.bl (lRep (sg x) n { s with pl := skp (sg x) s.pl }).1)) v10 _ _ _ (lstm_r c0) (hd0 _) j4 (leL hle)
              revert fin
              show loopD _ _ _ _ _ [_, _, _, _, some (.bl (i && (lRep (sg x) n { s with pl := skp (sg x) s.pl }).1)), _, _, _, _, _, _] _ → _
              generalize (lRep (sg x) n { s with pl := skp (sg x) s.pl }).1 = b
              intro fin
              cases i with
              | false => exact fin
              | true =>
                cases b with
                | false => exact fin
                | true =>
                  simp only [truD, if_true]
                  refine eqX ?_
                  rw [show decide (chS (some 42) = ("*" : Str)) = true by decide +kernel]
                  exact fin
            · rw [decide_eq_false c2]
              simp only [isB, Bool.false_eq_true, ↓reduceIte]
              refine eqX ?_
              rw [show decide (chS (some c) = ("@" : Str)) = decide (c = 64) from sign_eq c 64]
              by_cases c3 : c = 64
              · subst c3
                rw [decide_eq_true rfl]
                simp only [isB, ↓reduceIte]
                unfold t__law_read_13 t__law_read_12 t__law_read_11 t__law_read_10 t__law_read_9 t__law_read_8
                simp only [dSeq, dIfS, dTst, dTru, dNot, dAnd, dOr, dAndV, dOrV, dNotV, dRet, dRetN, dDrop, dAsg, dNext, dBreak, dCont, dVar, getS, dC, dOp, dChain, dF1, dF2, dCall, dCons, dNil, dTup, dLst, dLstM, dIf, dNeg, uNeg, dLc, dLcM, dItr, dZip, dEnum, dRange1, dRange2, dFor, dPut, dAug, dPar2, dPar3, dSl, dPart, dNoPart, dM1, dM0, dCB, on1, isB, setT, setTs, dRaise, dMk, dYes, dLstRg, dRg1, wipeD, dFld, dSFld, dFldAug, dMeth, dMake, dWhile, dRepl, List.set, List.set]
                have j2 := lt_LI i0 (brO n)
                have j3 := lb_LI j2 n (sg ")")
                have j4 : LI x (lLopZ (sg x) n { s with pl := skp (sg x) s.pl }) := lt_LI j3 (sg ")")
                refine eqX ?_
                rw [show decide (chS (some 64) = ("*" : Str)) = false by decide +kernel]
                simp only [isB, Bool.false_eq_true, ↓reduceIte]
                refine c_take (hd0 _) i0 ?_
                rw [setL_setL, brS hk]
                refine c_read hsp hx hpr (hd0 _) j2 hk (fun z => lbr_ft _ z _) ?_
                rw [setL_setL]
                refine c_take (hd0 _) j3 ?_
                rw [setL_setL]
                refine eqX ?_
                rw [show decide (chS (some 64) = ("@" : Str)) = true by decide +kernel]
                simp only [isB, ↓reduceIte]
                have hI5 := (smono_stm (sg x) (n + 1) 0 _ hI1.g hf).1
                rw [lstm_l c0] at hI5
                have hI5 : LI x (if (lLop (sg x) n { s with pl := skp (sg x) s.pl }).1 = true then { lLopZ (sg x) n { s with pl := skp (sg x) s.pl } with id := (lLopZ (sg x) n { s with pl := skp (sg x) s.pl }).id ++ [skp (sg x) s.pl] } else lLopZ (sg x) n { s with pl := skp (sg x) s.pl }) := .of (by omega) hI5
                by_cases hb : (lLop (sg x) n { s with pl := skp (sg x) s.pl }).1 = true
                · rw [if_pos hb] at hI5
                  have es := lstm_l (cs := sg x) (n := n) c0
                  rw [if_pos hb] at es
                  show truD (.bl (lLop (sg x) n { s with pl := skp (sg x) s.pl }).1) _ _
                  rw [hb]
                  simp only [truD, if_true]
                  refine l2 (hd0 _) ?_
                  refine ownLR (hd0 _).q ?_
                  refine getLR (hd0 _).q ⟨by rw [natsD_len, sizeL]; have := j4.id; have := j4.pl; show (lLopZ (sg x) n { s with pl := skp (sg x) s.pl }).id.length < 16777216; omega, ?_⟩
                  rw [updQ (hd0 (lLopZ (sg x) n { s with pl := skp (sg x) s.pl })), setL_setL]
                  have fin := k1 (some d) (some (.str (chS (some 64)))) (some (.int ((skp (sg x) s.pl : Nat) : Int))) (some (.str (if k < 8 then "(" else ""))) (some (.bl true)) v10 _ _ _ es (hd0 _) hI5 (leL hle)
                  dsimp only
                  cases i with
                  | false => exact fin
                  | true =>
                    rw [if_pos rfl]
                    refine eqX ?_
                    rw [show decide (chS (some 64) = ("*" : Str)) = false by decide +kernel]
                    exact fin
                · rw [if_neg hb] at hI5
                  have es := lstm_l (cs := sg x) (n := n) c0
                  rw [if_neg hb] at es
                  show truD (.bl (lLop (sg x) n { s with pl := skp (sg x) s.pl }).1) _ _
                  rw [Bool.not_eq_true] at hb
                  rw [hb]
                  simp only [truD, Bool.false_eq_true, if_false]
                  have fin := k1 (some d) (some (.str (chS (some 64)))) (some (.int ((skp (sg x) s.pl : Nat) : Int))) (some (.str (if k < 8 then "(" else ""))) (some (.bl false)) v10 _ _ _ es (hd0 _) hI5 (leL hle)
                  cases i with
                  | false => exact fin
                  | true => exact fin
              · rw [decide_eq_false c3]
                simp only [isB, Bool.false_eq_true, ↓reduceIte]
                have es := lstm_a (cs := sg x) (n := n) (s := { s with pl := skp (sg x) s.pl }) (by rw [c0]; intro z; exact c1 (Option.some.inj z)) (by rw [c0]; intro z; exact c2 (Option.some.inj z)) (by rw [c0]; intro z; exact c3 (Option.some.inj z))
                have fin := k1 (some d) (some (.str (chS (some c)))) (some (.int ((skp (sg x) s.pl : Nat) : Int))) (some (.str (if k < 8 then "(" else ""))) v9 v10 _ _ _ es (hd0 _) i0 (leL hle)
                rw [Bool.and_false] at fin
                exact fin
    · rw [show decide (({ s with pl := skp (sg x) s.pl } : LS).ft = none) = false from decide_eq_false hf]
      simp only [Bool.not_false, if_true]
      exact stop (lblk_ft hf)
theorem pure__law_read {C : Addr} {sp : DSp} (n : Nat) (hsp : n ≠ 0 → sp = sp__law_read (n - 1)) (ds : List D) (G : GH) (Q : DK) (E : DXK) (h : sp__law_read n ds G Q E) : t__law_read C sp E (fnEnds Q) (startD N__law_read ds) G := by
  obtain ⟨p, r, x, k, e, y, s, rfl, hk, he, hn, hx, hpr, h, hI, q⟩ := h
  show t__law_read C sp E (fnEnds Q) [some (.str x), some (.ref p), some (.int (k : Int)), some e, none, none, none, none, none, none, none] G
  unfold t__law_read
  simp only [dSeq, dIfS, dTst, dTru, dNot, dAnd, dOr, dAndV, dOrV, dNotV, dRet, dRetN, dDrop, dAsg, dNext, dBreak, dCont, dVar, getS, dC, dOp, dChain, dF1, dF2, dCall, dCons, dNil, dTup, dLst, dLstM, dIf, dNeg, uNeg, dLc, dLcM, dItr, dZip, dEnum, dRange1, dRange2, dFor, dPut, dAug, dPar2, dPar3, dSl, dPart, dNoPart, dM1, dM0, dCB, on1, isB, setT, setTs, dRaise, dMk, dYes, dLstRg, dRg1, wipeD, dFld, dSFld, dFldAug, dMeth, dMake, dWhile, dRepl, List.set]
  refine ⟨⟨by decide, by decide⟩, ?_⟩
  have hl : (rgD 0 (601 : Int).toNat).length = 601 := by rw [rgD_nats, natsD_len, List.length_range] <;> rfl
  refine read_loop _ hsp hk p r hx hpr he G _ true s _ _ _ _ _ _ G h hI hn (by rw [setL_self h]; exact Le.refl G) (fun v5 v6 v7 v8 v9 v10 G' hle => ?_) fun G' hle => ?_
  · rw [hl] at hle ⊢
    simp only [dSeq, dIfS, dTst, dTru, dNot, dAnd, dOr, dAndV, dOrV, dNotV, dRet, dRetN, dDrop, dAsg, dNext, dBreak, dCont, dVar, getS, dC, dOp, dChain, dF1, dF2, dCall, dCons, dNil, dTup, dLst, dLstM, dIf, dNeg, uNeg, dLc, dLcM, dItr, dZip, dEnum, dRange1, dRange2, dFor, dPut, dAug, dPar2, dPar3, dSl, dPart, dNoPart, dM1, dM0, dCB, on1, isB, setT, setTs, dRaise, dMk, dYes, dLstRg, dRg1, wipeD, dFld, dSFld, dFldAug, dMeth, dMake, dWhile, dRepl, List.set]
    exact fin_le hle q
  · rw [hl] at hle ⊢
    exact fin_le hle q
end KL


end

section
set_option Elab.async false
set_option linter.all false
set_option maxRecDepth 100000
set_option maxHeartbeats 2000000
open PySem PySem.Spec PyProof.Rows L2 DL
namespace KL
theorem eqEmpty {neg : Bool} {L : List D} {G : GH} {Q : DK} (n : Nat) (hd : ∀ d ∈ L, dpt n d = true) (q : Q (.bl (L.isEmpty ^^ neg)) G) (hn : n + 1 ≤ 64 := by decide) : eqQ neg (.lst L) (.lst []) G Q := by
  unfold eqQ
  rw [eqS_lst]
  refine ⟨⟨shp_list n hd hn, shp_list 0 (by simp)⟩, ?_⟩
  have e : PyData.eqv (valD G (.lst L)).py (valD G (.lst [])).py = L.isEmpty := by
    cases L with
    | nil => simp [valD, D.py, pyL, PyData.eqv, PyData.eqvAll]
    | cons a r => simp [valD, D.py, pyL, PyData.eqv, PyData.eqvAll]
  rw [e]
  exact q
theorem nE (l : List Nat) : (natsD l).isEmpty = l.isEmpty := by cases l <;> rfl
theorem eqEmptyR {neg : Bool} {q : Addr} {l : List Nat} {G : GH} {Q : DK} (g : G q = some (.lst (natsD l))) (z : Q (.bl (l.isEmpty ^^ neg)) G) : eqQ neg (.ref q) (.lst []) G Q := by
  unfold eqQ
  rw [eqS_ref, val_ref g]
  refine ⟨⟨shp_list 0 (nats_dpt l), shp_list 0 (by simp)⟩, ?_⟩
  have e : PyData.eqv (D.lst (natsD l)).py (valD G (.lst [])).py = l.isEmpty := by
    cases l with
    | nil => simp [natsD, valD, D.py, pyL, PyData.eqv, PyData.eqvAll]
    | cons a r => simp [natsD, valD, D.py, pyL, PyData.eqv, PyData.eqvAll]
  rw [e]
  exact z
theorem pure__law_flaw {C : Addr} (ds : List D) (G : GH) (Q : DK) (E : DXK) (h : sp__law_flaw ds G Q E) : t__law_flaw C E (fnEnds Q) (startD N__law_flaw ds) G := by
  obtain ⟨x, rfl, hx, hpr, z⟩ := h
  show t__law_flaw C E (fnEnds Q) [some (.str x), none] G
  unfold t__law_flaw t__law_flaw_4 t__law_flaw_3 t__law_flaw_2 t__law_flaw_1
  simp only [dSeq, dIfS, dTst, dTru, dNot, dAnd, dOr, dAndV, dOrV, dNotV, dRet, dRetN, dDrop, dAsg, dNext, dBreak, dCont, dVar, getS, dC, dOp, dChain, dF1, dF2, dCall, dCons, dNil, dTup, dLst, dLstM, dIf, dNeg, uNeg, dLc, dLcM, dItr, dZip, dEnum, dRange1, dRange2, dFor, dPut, dAug, dPar2, dPar3, dSl, dPart, dNoPart, dM1, dM0, dCB, on1, isB, setT, setTs, dRaise, dMk, dYes, dLstRg, dRg1, wipeD, dFld, dSFld, dFldAug, dMeth, dMake, dWhile, dRepl, List.set]
  refine ⟨sm10 (by simp), fun q hq => ⟨sm10 (by simp), fun p hp => ⟨sm10 (by simp), ?_⟩⟩⟩
  have hne : p ≠ q := fun e => by rw [e, updG_same] at hp; cases hp
  rw [updG_ne hne] at hp
  have e0 : updG (updG G q (.lst [])) p (.lst [.int 0, .non, .ref q]) = setL p q ⟨0, none, []⟩ G := by
    funext a
    unfold updG setL
    by_cases h1 : a = p
    · rw [if_pos h1, if_pos h1] <;> rfl
    · rw [if_neg h1, if_neg h1] <;> rfl
  rw [e0]
  have le0 : ∀ s, Le G (setL p q s G) := fun s a o e => by
    have h1 : a ≠ p := fun w => by rw [w, hp] at e; cases e
    have h2 : a ≠ q := fun w => by rw [w, hq] at e; cases e
    rw [setL_at h1 h2]
    exact e
  have hI : LI x ⟨0, none, []⟩ := ⟨by omega, Nat.zero_le _, Nat.le_refl _⟩
  refine ⟨p, q, x, 0, .lst [], [], _, rfl, rfl, .inr ⟨rfl, rfl⟩, (by decide), hx, hpr, ld_set hne, hI, ?_⟩
  rw [setL_setL]
  have hI1 : LI x (lAll (sg x)).2 := lb_LI hI 9 []
  have h1 : Ld p q (lAll (sg x)).2 (setL p q (lAll (sg x)).2 G) := ld_set hne
  rw [show lBlk (lStm (sg x) 9) (sg x) [] 601 true ⟨0, none, []⟩ = lAll (sg x) from rfl]
  refine l1 h1 ?_
  simp only [isND, isB]
  rw [isN_opt]
  unfold lFlaw at z
  dsimp only at z
  have tail : ∀ s2 : LS, s2.ft = none → s2.id = (lAll (sg x)).2.id → Q (optN (minN (lAll (sg x)).2.id)) G → ixD (.ref p) (.int 1) (setL p q s2 G) fun x_1 G1 => notND x_1 .non G1 (isB fun c G1 => if c = true then ixD (.ref p) (.int 1) G1 (fnEnds Q).rt else ixD (.ref p) (.int 2) G1 fun x_2 G1 => ([] : List D).length ≤ sizeLine ∧ neD x_2 (.lst []) G1 (isB fun c G1 => if c = true then ixD (.ref p) (.int 2) G1 fun d G1 => minLF d G1 (fnEnds Q).rt else (fnEnds Q).rt .non G1)) := fun s2 hf hid w => by
    have h2 : Ld p q s2 (setL p q s2 G) := ld_set hne
    refine l1 h2 ?_
    simp only [notND, isB]
    rw [isN_opt, decide_eq_true hf]
    simp only [Bool.not_true, Bool.false_eq_true, if_false]
    refine l2 h2 ⟨sm10 (by simp), ?_⟩
    refine eqEmptyR (neg := true) h2.q ?_
    rw [hid]
    cases hi : (lAll (sg x)).2.id with
    | nil =>
      rw [hi] at w
      simp only [List.isEmpty_nil, Bool.xor_self, isB, Bool.false_eq_true, if_false]
      exact fin_le (le0 s2) w
    | cons a r =>
      rw [hi] at w
      simp only [List.isEmpty_cons, Bool.false_xor, isB, if_true]
      have h3 : Ld p q s2 (setL p q s2 G) := ld_set hne
      refine l2 h3 ?_
      refine minL_nats (l := a :: r) (m := r.foldl min a) ?_ rfl (fin_le (le0 s2) w)
      rw [asLR h3.q, hid, hi]
  cases hf : (lAll (sg x)).2.ft with
  | some o =>
    rw [hf] at z
    simp only [reduceCtorEq, false_and, if_false] at z
    simp only [reduceCtorEq, decide_false, Bool.false_eq_true, if_false]
    refine l1 h1 ?_
    simp only [notND, isB]
    rw [isN_opt, hf]
    simp only [reduceCtorEq, decide_false, Bool.not_false, if_true]
    refine l1 h1 ?_
    rw [hf]
    exact fin_le (le0 _) z
  | none =>
    rw [hf] at z
    simp only [decide_true, if_true]
    refine ⟨p, q, x, _, rfl, h1, hI1, ?_⟩
    rw [setL_setL]
    refine neX ?_
    cases hc : (sg x)[skp (sg x) (lAll (sg x)).2.pl]? with
    | none =>
      rw [hc] at z
      simp only [ne_eq, not_true_eq_false, and_false, if_false] at z
      rw [show decide (chS none = ("" : Str)) = true by decide +kernel]
      simp only [Bool.not_true, isB, Bool.false_eq_true, if_false]
      exact tail { (lAll (sg x)).2 with pl := skp (sg x) (lAll (sg x)).2.pl } hf rfl z
    | some c =>
      rw [hc] at z
      simp only [ne_eq, reduceCtorEq, not_false_eq_true, and_self, if_true] at z
      rw [show decide (chS (some c) = ("" : Str)) = false by rw [decide_eq_false_iff_not]; intro z; injection z with z; injection z with z; cases z]
      simp only [Bool.not_false, isB, if_true]
      have h2 : Ld p q { (lAll (sg x)).2 with pl := skp (sg x) (lAll (sg x)).2.pl } (setL p q { (lAll (sg x)).2 with pl := skp (sg x) (lAll (sg x)).2.pl } G) := ld_set hne
      refine l0 h2 ?_
      exact fin_le (le0 _) z
/-! ### blanks, a text spoilt -/
theorem nbl_app (a b : List Nat) : nbl (a ++ b) = nbl a ++ nbl b := by unfold nbl; rw [List.filter_append]
theorem blanks_loop {C : Addr} {Ex : DXK} (E : DEnds) {xs : Scr} (hx : xs.length ≤ datL) (p : Addr) (G0 : GH) (v1 : Option D) : ∀ (cs acc : List Nat) (v3 : Option D) (G : GH), acc.length + 2 * cs.length ≤ 250000 → On G0 p xs G →
    (∀ (y : List Nat) (v3 : Option D) (G' : GH), nbl y = nbl acc ++ nbl cs → acc.length + cs.length ≤ y.length → y.length ≤ acc.length + 2 * cs.length → On G0 p xs G' → E.nx [some (.ref p), v1, some (.str (ofL y)), v3] G') →
    loopD yes0 (.name 3) (t__law_blanks_1 C Ex) E (cs.map fun c => .str ⟨#[c]⟩) [some (.ref p), v1, some (.str (ofL acc)), v3] G
  | [], acc, v3, G, hl, hO, k => ⟨trivial, k acc v3 G (by simp [nbl]) (by simp) (by simp) hO⟩
  | c :: cs, acc, v3, G, hl, hO, k => by
    rw [List.length_cons] at hl
    refine ⟨trivial, ?_⟩
    show setT _ (.str (ofL [c])) _ _
    unfold t__law_blanks_1
    simp only [dSeq, dIfS, dTst, dTru, dNot, dAnd, dOr, dAndV, dOrV, dNotV, dRet, dRetN, dDrop, dAsg, dNext, dBreak, dCont, dVar, getS, dC, dOp, dChain, dF1, dF2, dCall, dCons, dNil, dTup, dLst, dLstM, dIf, dNeg, uNeg, dLc, dLcM, dItr, dZip, dEnum, dRange1, dRange2, dFor, dPut, dAug, dPar2, dPar3, dSl, dPart, dNoPart, dM1, dM0, dCB, on1, isB, setT, setTs, dRaise, dMk, dYes, dLstRg, dRg1, wipeD, dFld, dSFld, dFldAug, dMeth, dMake, dWhile, dRepl, List.set, List.set]
    refine ⟨sm10 (by simp), p, .lst [.int 0, .int 0, .int 0, .int 0, .int 1], 5, (fun d => d = .int 0 ∨ d = .int 1), xs, rfl, by decide, .inl ⟨_, .inl rfl, rfl, fun d hd => ?_⟩, hx, hO.row, fun d a u v hd => ?_⟩
    · simp only [List.mem_cons, List.not_mem_nil, or_false] at hd
      rcases hd with rfl | rfl | rfl | rfl | rfl <;> simp
    · have step : ∀ bl : List Nat, nbl bl = [] → bl.length ≤ 1 → addD (.str (ofL acc)) (.str (ofL bl)) (updG G p (rowG xs a u v)) fun x_1 G1 => addD x_1 (.str (ofL [c])) G1 fun d G1 => loopD yes0 (.name 3) (t__law_blanks_1 C Ex) E (cs.map fun c => .str ⟨#[c]⟩) [some (.ref p), v1, some d, some (.str (ofL [c]))] G1 := fun bl h1 h2 => by
        refine addS (by omega) ?_
        refine addS (by simp; omega) ?_
        refine blanks_loop E hx p G0 v1 cs (acc ++ bl ++ [c]) _ _ (by simp; omega) hO.put fun y v3 G' e1 e2 e3 hO' => k y v3 G' ?_ ?_ ?_ hO'
        · rw [e1, nbl_app, nbl_app, h1, List.append_nil, List.append_assoc]
          show _ = nbl acc ++ nbl ([c] ++ cs)
          rw [nbl_app]
        · simp at e2 ⊢; omega
        · simp at e3 ⊢; omega
      rcases hd with rfl | rfl
      · refine ⟨⟨by decide +kernel, by decide, by decide⟩, ?_⟩
        rw [show Txt.mul " " 0 = ofL [] by decide +kernel]
        exact step [] rfl (by simp)
      · refine ⟨⟨by decide +kernel, by decide, by decide⟩, ?_⟩
        rw [show Txt.mul " " 1 = ofL [32] by decide +kernel]
        exact step [32] rfl (by simp)
theorem pure__law_blanks {C : Addr} (ds : List D) (G : GH) (Q : DK) (E : DXK) (h : sp__law_blanks ds G Q E) : t__law_blanks C E (fnEnds Q) (startD N__law_blanks ds) G := by
  obtain ⟨p, x, xs, rfl, hl, hx, hr, q⟩ := h
  show t__law_blanks C E (fnEnds Q) [some (.ref p), some (.str x), none, none] G
  unfold t__law_blanks
  simp only [dSeq, dIfS, dTst, dTru, dNot, dAnd, dOr, dAndV, dOrV, dNotV, dRet, dRetN, dDrop, dAsg, dNext, dBreak, dCont, dVar, getS, dC, dOp, dChain, dF1, dF2, dCall, dCons, dNil, dTup, dLst, dLstM, dIf, dNeg, uNeg, dLc, dLcM, dItr, dZip, dEnum, dRange1, dRange2, dFor, dPut, dAug, dPar2, dPar3, dSl, dPart, dNoPart, dM1, dM0, dCB, on1, isB, setT, setTs, dRaise, dMk, dYes, dLstRg, dRg1, wipeD, dFld, dSFld, dFldAug, dMeth, dMake, dWhile, dRepl, List.set]
  simp only [itD]
  refine blanks_loop _ hx p G _ (sg x) [] _ G (by rw [sg_len]; simp; omega) (On.start hr) fun y v3 G' e1 e2 e3 hO => ?_
  simp only [dSeq, dIfS, dTst, dTru, dNot, dAnd, dOr, dAndV, dOrV, dNotV, dRet, dRetN, dDrop, dAsg, dNext, dBreak, dCont, dVar, getS, dC, dOp, dChain, dF1, dF2, dCall, dCons, dNil, dTup, dLst, dLstM, dIf, dNeg, uNeg, dLc, dLcM, dItr, dZip, dEnum, dRange1, dRange2, dFor, dPut, dAug, dPar2, dPar3, dSl, dPart, dNoPart, dM1, dM0, dCB, on1, isB, setT, setTs, dRaise, dMk, dYes, dLstRg, dRg1, wipeD, dFld, dSFld, dFldAug, dMeth, dMake, dWhile, dRepl, List.set]
  rw [sg_len] at e2 e3
  simp only [List.length_nil, Nat.zero_add] at e2 e3
  exact hO.fin fun a u v => q (ofL y) a u v (by rw [sg_ofL, e1] <;> rfl) (by rw [ofL_len]; exact e3) (by rw [ofL_len]; exact e2)
theorem addI {i j : Int} {G : GH} {Q : DK} (q : Q (.int (i + j)) G) : addD (.int i) (.int j) G Q := q
theorem cut_lo (z : Str) (n : Nat) : cutS z none (some (n : Int)) = ofL ((sg z).take (min n z.length)) := by
  unfold cutS
  rw [HT.sIx_none, HT.sIx_nat]
  rfl
theorem cut_hi (z : Str) (n : Nat) : cutS z (some (n : Int)) none = ofL (((sg z).drop (min n z.length)).take (z.length - min n z.length)) := by
  unfold cutS
  rw [HT.sIx_none, HT.sIx_nat]
  rfl
def prL (l : List Nat) : Bool := l.all fun c => decide (32 ≤ c) && decide (c ≤ 126)
theorem prL_sub {l m : List Nat} (h : prL l = true) (hs : ∀ c ∈ m, c ∈ l) : prL m = true := List.all_eq_true.mpr fun c hc => List.all_eq_true.mp h c (hs c hc)
theorem prL_app {l m : List Nat} (h : prL l = true) (h2 : prL m = true) : prL (l ++ m) = true := by unfold prL at *; rw [List.all_append, h, h2] <;> rfl
theorem pure__law_spoilt {C : Addr} (ds : List D) (G : GH) (Q : DK) (E : DXK) (h : sp__law_spoilt ds G Q E) : t__law_spoilt C E (fnEnds Q) (startD N__law_spoilt ds) G := by
  obtain ⟨p, x, xs, rfl, hl, hpr, hx, hr, q⟩ := h
  show t__law_spoilt C E (fnEnds Q) [some (.ref p), some (.str x), none, none, none] G
  unfold t__law_spoilt
  simp only [dSeq, dIfS, dTst, dTru, dNot, dAnd, dOr, dAndV, dOrV, dNotV, dRet, dRetN, dDrop, dAsg, dNext, dBreak, dCont, dVar, getS, dC, dOp, dChain, dF1, dF2, dCall, dCons, dNil, dTup, dLst, dLstM, dIf, dNeg, uNeg, dLc, dLcM, dItr, dZip, dEnum, dRange1, dRange2, dFor, dPut, dAug, dPar2, dPar3, dSl, dPart, dNoPart, dM1, dM0, dCB, on1, isB, setT, setTs, dRaise, dMk, dYes, dLstRg, dRg1, wipeD, dFld, dSFld, dFldAug, dMeth, dMake, dWhile, dRepl, List.set]
  have hO : On G p xs G := On.start hr
  have hp : prL (sg x) = true := hpr
  refine ⟨by rw [sizeL]; omega, ?_⟩
  refine addI ?_
  rw [show (x.length : Int) + 1 = ((x.length + 1 : Nat) : Int) by omega]
  refine ⟨p, x.length + 1, xs, rfl, by omega, by omega, hx, hr, fun n a u v hn => ?_⟩
  refine pick_str hx hO.put "swx?*@()|.1#! 0123459a" (by decide +kernel) fun c a u v hc hO => ?_
  have hpc : prL [c] = true := by
    have : prL (sg "swx?*@()|.1#! 0123459a") = true := by decide +kernel
    exact prL_sub this fun d hd => by rw [List.mem_singleton.mp hd]; exact hc
  refine ⟨p, 4, xs, rfl, by decide, by decide, hx, hO.row, fun w a u v hw => ?_⟩
  have hO := hO.put (at_ := a) (a := u) (b := v)
  have fin : ∀ l : List Nat, prL l = true → l.length ≤ x.length + 1 → (fnEnds Q).rt (.str (ofL l)) _ := fun l h1 h2 => hO.fin fun a u v => q (ofL l) a u v (by unfold prn; rw [sg_ofL]; exact h1) (by rw [ofL_len]; exact h2)
  have tk : ∀ m, prL ((sg x).take m) = true := fun m => prL_sub hp fun d hd => List.mem_of_mem_take hd
  have dr : ∀ m k, prL (((sg x).drop m).take k) = true := fun m k => prL_sub hp fun d hd => List.mem_of_mem_drop (List.mem_of_mem_take hd)
  have l1 : ((sg x).take (min n x.length)).length = n := by rw [List.length_take, sg_len]; omega
  have l2 : (((sg x).drop (min n x.length)).take (x.length - min n x.length)).length = x.length - n := by rw [List.length_take, List.length_drop, sg_len]; omega
  have l3 : (((sg x).drop (min (n + 1) x.length)).take (x.length - min (n + 1) x.length)).length = x.length - min (n + 1) x.length := by rw [List.length_take, List.length_drop, sg_len]; omega
  have en : (n : Int) + 1 = ((n + 1 : Nat) : Int) := by omega
  have sz : x.length ≤ sizeLine := by rw [sizeL]; omega
  have c1 := lit1 c
  refine eqI ?_
  by_cases w0 : w = 0
  · rw [show decide ((w : Int) = 0) = true by rw [decide_eq_true_eq]; omega]
    simp only [getS, List.set, truD, isB, i2, TT0, true_and, Bool.not_true, Bool.not_false, Bool.false_eq_true, if_false, if_true, dVar, dC, setT, setTs]
    refine ⟨sz, ?_⟩
    rw [cut_lo, c1]
    refine addS (b := [c]) (by rw [l1]; show n + 1 ≤ _; omega) ?_
    refine ⟨sz, ?_⟩
    rw [cut_hi]
    refine addS (by rw [List.length_append, l1, l2]; show n + 1 + _ ≤ _; omega) ?_
    exact fin _ (prL_app (prL_app (tk _) hpc) (dr _ _)) (by rw [List.length_append, List.length_append, l1, l2]; show n + 1 + (x.length - n) ≤ _; omega)
  · rw [show decide ((w : Int) = 0) = false by rw [decide_eq_false_iff_not]; omega]
    simp only [getS, List.set, truD, isB, i2, TT0, true_and, Bool.not_true, Bool.not_false, Bool.false_eq_true, if_false, if_true, dVar, dC, setT, setTs]
    refine eqI ?_
    by_cases w1 : w = 1
    · rw [show decide ((w : Int) = 1) = true by rw [decide_eq_true_eq]; omega]
      simp only [getS, List.set, truD, isB, i2, TT0, true_and, Bool.not_true, Bool.not_false, Bool.false_eq_true, if_false, if_true, dVar, dC, setT, setTs]
      refine ⟨sz, ?_⟩
      rw [cut_lo]
      exact fin _ (tk _) (by rw [l1]; omega)
    · rw [show decide ((w : Int) = 1) = false by rw [decide_eq_false_iff_not]; omega]
      simp only [getS, List.set, truD, isB, i2, TT0, true_and, Bool.not_true, Bool.not_false, Bool.false_eq_true, if_false, if_true, dVar, dC, setT, setTs]
      refine eqI ?_
      by_cases w2 : w = 2
      · rw [show decide ((w : Int) = 2) = true by rw [decide_eq_true_eq]; omega]
        simp only [getS, List.set, truD, isB, i2, TT0, true_and, Bool.not_true, Bool.not_false, Bool.false_eq_true, if_false, if_true, dVar, dC, setT, setTs]
        refine ⟨sz, ?_⟩
        rw [cut_lo, c1]
        refine addS (b := [c]) (by rw [l1]; show n + 1 ≤ _; omega) ?_
        refine addI ?_
        rw [en]
        refine ⟨sz, ?_⟩
        rw [cut_hi]
        refine addS (by rw [List.length_append, l1, l3]; show n + 1 + _ ≤ _; omega) ?_
        exact fin _ (prL_app (prL_app (tk _) hpc) (dr _ _)) (by rw [List.length_append, List.length_append, l1, l3]; show n + 1 + (x.length - min (n + 1) x.length) ≤ _; omega)
      · rw [show decide ((w : Int) = 2) = false by rw [decide_eq_false_iff_not]; omega]
        simp only [getS, List.set, truD, isB, i2, TT0, true_and, Bool.not_true, Bool.not_false, Bool.false_eq_true, if_false, if_true, dVar, dC, setT, setTs]
        refine ⟨sz, ?_⟩
        rw [cut_lo]
        refine addI ?_
        rw [en]
        refine ⟨sz, ?_⟩
        rw [cut_hi]
        refine addS (by rw [l1, l3]; omega) ?_
        exact fin _ (prL_app (tk _) (dr _ _)) (by rw [List.length_append, l1, l3]; omega)
end KL


end

section
set_option Elab.async false
set_option linter.all false
set_option maxRecDepth 100000
set_option maxHeartbeats 2000000
open PySem PySem.Spec PyProof.Rows L2 DL
namespace KL
/-! ### the program's reading and the law's -/
structure EQ (r : RS) (l : LS) : Prop where
  ft : r.ft = l.ft
  pl : r.ft = none → r.pl = l.pl
  id : r.ft = none → l.id = idl r.lp
theorem take_E {cs sm : List Nat} {r : RS} {l : LS} (h : EQ r l) : EQ (rTake cs sm r).2 (lTake cs sm l) := by
  rw [lTake_eq]
  by_cases hf : r.ft = none
  · have hl : l.ft = none := h.ft ▸ hf
    have hp := h.pl hf
    have hi := h.id hf
    rw [if_pos hl, ← hp]
    unfold rTake badT
    cases hc : cs[skp cs r.pl]? with
    | none =>
      dsimp only
      rw [if_pos rfl, hf]
      exact ⟨rfl, (fun z => nomatch z), fun z => nomatch z⟩
    | some c =>
      by_cases hm : c ∈ sm
      · dsimp only
        rw [if_pos hm, if_neg (by simp [hm])]
        exact ⟨h.ft, fun _ => rfl, fun _ => hi⟩
      · dsimp only
        rw [if_neg hm, if_pos (by simp [hm]), hf]
        exact ⟨rfl, (fun z => nomatch z), fun z => nomatch z⟩
  · have hl : l.ft ≠ none := fun z => hf (h.ft.trans z)
    rw [if_neg hl]
    obtain ⟨o, ho⟩ := Option.ne_none_iff_exists'.mp hf
    have h2 : (rTake cs sm r).2.ft = some o := by
      rcases take_cases cs sm r with ⟨c, _, _, e⟩ | e
      · rw [e]; exact ho
      · rw [e]; show (r.ft <|> _) = _; rw [ho] <;> rfl
    refine ⟨?_, fun z => ?_, fun z => ?_⟩
    · rw [h2]; exact ho.symm.trans h.ft
    · rw [h2] at z; cases z
    · rw [h2] at z; cases z
theorem skp_E (cs : List Nat) {r : RS} {l : LS} (h : EQ r l) : EQ { r with pl := skp cs r.pl } { l with pl := skp cs l.pl } := ⟨h.ft, fun z => by show skp cs r.pl = skp cs l.pl; rw [h.pl z], h.id⟩
def StmE (cs : List Nat) (n : Nat) : Prop := ∀ (r : RS) (l : LS) (c : Nat), EQ r l → RG cs 0 r → r.ft = none → cs[r.pl]? = some c → c ≠ 32 → EQ (rStm cs n r).2 (lStm cs n l).2 ∧ ((rStm cs n r).2.ft = none → (lStm cs n l).1 = cpS (rStm cs n r).1)
theorem blk_E {cs ends : List Nat} {n : Nat} (hs : n ≠ 0 → StmE cs n) : ∀ (m m' : Nat) (r : RS) (l : LS) (i : Bool), EQ r l → RG cs 0 r → (n = 0 → r.ft ≠ none) → (r.ft = none → cs.length + 1 ≤ r.pl + m) → (r.ft = none → cs.length + 1 ≤ r.pl + m') →
    EQ (rBlk (rStm cs n) cs ends m r).2 (lBlk (lStm cs n) cs ends m' i l).2 ∧ ((rBlk (rStm cs n) cs ends m r).2.ft = none → (lBlk (lStm cs n) cs ends m' i l).1 = (i && cpB (rBlk (rStm cs n) cs ends m r).1)) := fun m => by
  induction m with
  | zero =>
    intro m' r l i h g hn hm hm'
    have hf : r.ft ≠ none := fun z => by have := hm z; have := g.pl; omega
    refine ⟨?_, fun z => absurd z hf⟩
    cases m' with
    | zero => exact h
    | succ m' =>
      rw [lblk_ft (fun z => hf (h.ft.trans z))]
      exact ⟨h.ft, fun z => absurd z hf, h.id⟩
  | succ m ih =>
    intro m' r l i h g hn hm hm'
    by_cases hf : r.ft = none
    · have hl : l.ft = none := h.ft ▸ hf
      have hp := h.pl hf
      obtain ⟨m', rfl⟩ : ∃ z, m' = z + 1 := ⟨m' - 1, by have := hm' hf; have := g.pl; omega⟩
      have stop : (∀ c, cs[skp cs r.pl]? = some c → c ∈ ends) → EQ (rBlk (rStm cs n) cs ends (m + 1) r).2 (lBlk (lStm cs n) cs ends (m' + 1) i l).2 ∧ ((rBlk (rStm cs n) cs ends (m + 1) r).2.ft = none → (lBlk (lStm cs n) cs ends (m' + 1) i l).1 = (i && cpB (rBlk (rStm cs n) cs ends (m + 1) r).1)) := fun z => by
        rw [blk_end hf z, lblk_end (fun c w => z c (by rw [hp]; exact w))]
        exact ⟨skp_E cs h, fun _ => (Bool.and_true i).symm⟩
      cases hc : cs[skp cs r.pl]? with
      | none => exact stop fun c z => by rw [hc] at z; cases z
      | some c =>
        by_cases he : c ∈ ends
        · exact stop fun c' z => by rw [hc] at z; cases z; exact he
        · rw [blk_go hf hc he, lblk_go hl (by rw [← hp]; exact hc) he]
          have g1 : RG cs 0 { r with pl := skp cs r.pl } := (mono_skp cs 0 r g).1
          have hn0 : n ≠ 0 := fun z => hn z hf
          obtain ⟨n, rfl⟩ : ∃ z, n = z + 1 := ⟨n - 1, by omega⟩
          obtain ⟨e1, e2⟩ := hs (by omega) { r with pl := skp cs r.pl } { l with pl := skp cs l.pl } c (skp_E cs h) g1 hf hc (fun z => skp_not cs r.pl (by rw [hc, z]))
          have g2 := (mono_stm cs (n + 1) 0 _ g1).1
          have pr := stm_prog (n := n) g1 (show ({ r with pl := skp cs r.pl } : RS).ft = none from hf)
          have pge := skp_ge cs r.pl
          have pg : (rStm cs (n + 1) { r with pl := skp cs r.pl }).2.ft = none → r.pl < (rStm cs (n + 1) { r with pl := skp cs r.pl }).2.pl := fun z => by
            rcases pr with w | w
            · exact absurd z w
            · have w : skp cs r.pl < _ := w
              omega
          obtain ⟨k1, k2⟩ := ih m' _ _ (i && (lStm cs (n + 1) { l with pl := skp cs l.pl }).1) e1 g2 (fun z => absurd z (by omega)) (fun z => by have := pg z; have := hm hf; omega) (fun z => by have := pg z; have := hm' hf; omega)
          refine ⟨k1, fun z => ?_⟩
          have z2 := back_ft (mono_blk (ends := ends) (mono_stm cs (n + 1)) m) g2 z
          rw [k2 z, e2 z2, Bool.and_assoc]
          rfl
    · refine ⟨?_, fun z => ?_⟩
      · rw [blk_ft hf]
        cases m' with
        | zero => exact h
        | succ m' =>
          rw [lblk_ft (fun z => hf (h.ft.trans z))]
          exact ⟨h.ft, fun z => absurd z hf, h.id⟩
      · rw [blk_ft hf] at z
        exact absurd z hf
theorem idl_app (a : List (Nat × PB)) (z : Nat × PB) : idl (a ++ [z]) = idl a ++ (if cpB z.2 = true then [z.1] else []) := by
  unfold idl
  rw [List.filter_append, List.map_append]
  congr 1
  by_cases h : cpB z.2 = true
  · rw [if_pos h, List.filter_cons, if_pos h] <;> rfl
  · rw [if_neg h, List.filter_cons, if_neg h] <;> rfl
theorem stm_E {cs : List Nat} (h6 : cs.length ≤ 600) : ∀ n, StmE cs (n + 1) := fun n => by
  induction n using Nat.strongRecOn with
  | ind n ihn =>
    intro r l c h g hf hc h32
    have ih : n ≠ 0 → StmE cs n := fun hn => by
      obtain ⟨z, rfl⟩ : ∃ z, n = z + 1 := ⟨n - 1, by omega⟩
      exact ihn z (by omega)
    have hp := h.pl hf
    have hsk : skp cs r.pl = r.pl := skp_here (by rw [hc]; intro z; exact h32 (Option.some.inj z))
    have hcl : cs[l.pl]? = some c := by rw [← hp]; exact hc
    have ms := mono_stm cs n
    have mb : ∀ (ends : List Nat), Mono cs fun s => (rBlk (rStm cs n) cs ends (cs.length + 1) s).2 := fun ends => mono_blk ms _
    have bl : ∀ (ends : List Nat) (r : RS) (l : LS), EQ r l → RG cs 0 r → (n = 0 → r.ft ≠ none) → EQ (rBlk (rStm cs n) cs ends (cs.length + 1) r).2 (lBlk (lStm cs n) cs ends 601 true l).2 ∧ ((rBlk (rStm cs n) cs ends (cs.length + 1) r).2.ft = none → (lBlk (lStm cs n) cs ends 601 true l).1 = cpB (rBlk (rStm cs n) cs ends (cs.length + 1) r).1) := fun ends r l h g hn => by
      have := blk_E (ends := ends) ih (cs.length + 1) 601 r l true h g hn (fun _ => by omega) (fun _ => by omega)
      rw [Bool.true_and] at this
      exact this
    have t0 := take_E (cs := cs) (sm := sg "swx?*@") h
    have g0 := (mono_take cs (sg "swx?*@") 0 r g).1
    have own : c ∈ sg "swx?*@" → (rTake cs (sg "swx?*@") r).1 = some c := fun hm => by
      unfold rTake
      rw [hsk, hc]
      dsimp only
      rw [if_pos hm]
    by_cases c1 : c = 63
    · subst c1
      rw [stm_q (own (by decide +kernel)), lstm_q hcl]
      have t1 := take_E (cs := cs) (sm := sg ".1#!") t0
      have t2 := take_E (cs := cs) (sm := brO n) t1
      have g1 := (mono_take cs (sg ".1#!") 0 _ g0).1
      have g2 := (mono_take cs (brO n) 0 _ g1).1
      obtain ⟨t3, v3⟩ := bl (sg "|)") _ _ t2 g2 (fun e => brO_ft cs e _)
      have g3 := (mb (sg "|)") 0 _ g2).1
      have t4 := take_E (cs := cs) (sm := sg "|") t3
      have g4 := (mono_take cs (sg "|") 0 _ g3).1
      obtain ⟨t5, v5⟩ := bl (sg ")") _ _ t4 g4 (fun e => by
        obtain ⟨o, ho⟩ := Option.ne_none_iff_exists'.mp (brO_ft cs e (rTake cs (sg ".1#!") (rTake cs (sg "swx?*@") r).2).2)
        have a1 := (mb (sg "|)") 0 _ g2).2.2 o ho
        have a2 := (mono_take cs (sg "|") 0 _ g3).2.2 o a1
        rw [a2]; simp)
      have g5 := (mb (sg ")") 0 _ g4).1
      have t6 := take_E (cs := cs) (sm := sg ")") t5
      refine ⟨t6, fun z => ?_⟩
      have z5 := back_ft (mono_take cs (sg ")")) g5 z
      have z3 := back_ft (mono_take cs (sg "|")) g3 (back_ft (mb (sg ")")) g4 z5)
      show (_ || _) = (cpB _ || cpB _)
      rw [v3 z3, v5 z5]
    · by_cases c2 : c = 42
      · subst c2
        rw [stm_r (own (by decide +kernel)), lstm_r hcl]
        have t1 := take_E (cs := cs) (sm := sg "23456789") t0
        have t2 := take_E (cs := cs) (sm := brO n) t1
        have g1 := (mono_take cs (sg "23456789") 0 _ g0).1
        have g2 := (mono_take cs (brO n) 0 _ g1).1
        obtain ⟨t3, v3⟩ := bl (sg ")") _ _ t2 g2 (fun e => brO_ft cs e _)
        have g3 := (mb (sg ")") 0 _ g2).1
        have t4 := take_E (cs := cs) (sm := sg ")") t3
        exact ⟨t4, fun z => v3 (back_ft (mono_take cs (sg ")")) g3 z)⟩
      · by_cases c3 : c = 64
        · subst c3
          rw [stm_l (own (by decide +kernel)), lstm_l hcl]
          have t2 := take_E (cs := cs) (sm := brO n) t0
          have g2 := (mono_take cs (brO n) 0 _ g0).1
          obtain ⟨t3, v3⟩ := bl (sg ")") _ _ t2 g2 (fun e => brO_ft cs e _)
          have g3 := (mb (sg ")") 0 _ g2).1
          have t4 : EQ (lopZ cs n r) (lLopZ cs n l) := take_E (cs := cs) (sm := sg ")") t3
          refine ⟨⟨?_, fun z => ?_, fun z => ?_⟩, fun _ => rfl⟩
          · dsimp only
            by_cases hi : (lLop cs n l).1 = true
            · rw [if_pos hi]; exact t4.ft
            · rw [if_neg hi]; exact t4.ft
          · dsimp only
            by_cases hi : (lLop cs n l).1 = true
            · rw [if_pos hi]; exact t4.pl z
            · rw [if_neg hi]; exact t4.pl z
          · dsimp only at z ⊢
            have z3 : (lopB cs n r).2.ft = none := back_ft (mono_take cs (sg ")")) g3 z
            have ev : (lLop cs n l).1 = cpB (lopB cs n r).1 := v3 z3
            rw [idl_app, ev]
            by_cases hi : cpB (lopB cs n r).1 = true
            · rw [if_pos hi, if_pos hi]
              show (lLopZ cs n l).id ++ [l.pl] = _
              rw [t4.id z, hp]
            · rw [if_neg hi, if_neg hi, List.append_nil]
              exact t4.id z
        · rw [lstm_a (by rw [hcl]; intro z; exact c1 (Option.some.inj z)) (by rw [hcl]; intro z; exact c2 (Option.some.inj z)) (by rw [hcl]; intro z; exact c3 (Option.some.inj z))]
          have ne : ∀ k, c ≠ k → (rTake cs (sg "swx?*@") r).1 ≠ some k := fun k hk => by
            unfold rTake
            rw [hsk, hc]
            dsimp only
            by_cases hm : c ∈ sg "swx?*@"
            · rw [if_pos hm]; intro z; exact hk (Option.some.inj z)
            · rw [if_neg hm]; intro z; cases z
          rw [stm_a (ne 63 c1) (ne 42 c2) (ne 64 c3)]
          refine ⟨t0, fun z => ?_⟩
          obtain ⟨_, c', hm, hc', e⟩ := take_ft z
          rw [hsk, hc] at hc'
          cases hc'
          rw [e]
          have hm : c ∈ ([115, 119, 120, 63, 42, 64] : List Nat) := hm
          simp only [List.mem_cons, List.not_mem_nil, or_false] at hm
          have hm : c = 115 ∨ c = 119 ∨ c = 120 := by omega
          show false = cpS (.atom (chS (some c)))
          rcases hm with rfl | rfl | rfl <;> decide +kernel
theorem blk_stop {cs : List Nat} {n : Nat} : ∀ (m : Nat) (r : RS), RG cs 0 r → (r.ft = none → cs.length + 1 ≤ r.pl + m) → (rBlk (rStm cs (n + 1)) cs [] m r).2.ft = none → cs[(rBlk (rStm cs (n + 1)) cs [] m r).2.pl]? = none := fun m => by
  induction m with
  | zero =>
    intro r g hm z
    have := hm z
    have := g.pl
    omega
  | succ m ih =>
    intro r g hm z
    by_cases hf : r.ft = none
    · cases hc : cs[skp cs r.pl]? with
      | none =>
        rw [blk_end hf (fun c z => by rw [hc] at z; cases z)]
        exact hc
      | some c =>
        rw [blk_go hf hc (by simp)] at z ⊢
        have g1 : RG cs 0 { r with pl := skp cs r.pl } := (mono_skp cs 0 r g).1
        have g2 := (mono_stm cs (n + 1) 0 _ g1).1
        refine ih _ g2 (fun w => ?_) z
        have pge := skp_ge cs r.pl
        rcases stm_prog (n := n) g1 (show ({ r with pl := skp cs r.pl } : RS).ft = none from hf) with y | y
        · exact absurd w y
        · have y : skp cs r.pl < _ := y
          have := hm hf
          omega
    · rw [blk_ft hf] at z
      exact absurd z hf
/-- the law's flaw is the program's -/
theorem lFlaw_eq {cs : List Nat} (h6 : cs.length ≤ 600) : lFlaw cs = flaw cs := by
  have h0 : EQ ⟨0, none, []⟩ ⟨0, none, []⟩ := ⟨rfl, fun _ => rfl, fun _ => rfl⟩
  have hb := (blk_E (n := 9) (ends := []) (fun _ => stm_E h6 8) (cs.length + 1) 601 _ _ true h0 (rg0 cs) (fun z => absurd z (by decide)) (fun _ => by show cs.length + 1 ≤ 0 + (cs.length + 1); omega) (fun _ => by show cs.length + 1 ≤ 0 + 601; omega)).1
  have hb : EQ (rAll cs).2 (lAll cs).2 := hb
  unfold lFlaw flaw
  dsimp only
  cases hf : (rAll cs).2.ft with
  | some o =>
    have hl : (lAll cs).2.ft = some o := hb.ft ▸ hf
    rw [hl]
    simp
  | none =>
    have hl : (lAll cs).2.ft = none := hb.ft ▸ hf
    have hs := blk_stop (n := 8) (cs.length + 1) ⟨0, none, []⟩ (rg0 cs) (fun _ => by show cs.length + 1 ≤ 0 + (cs.length + 1); omega) hf
    have hs : cs[(rAll cs).2.pl]? = none := hs
    rw [hb.pl hf] at hs
    rw [hl, skp_here (by rw [hs]; simp), hs, hb.id hf]
    simp
/-! ### writing and reading -/
def NB (cs : List Nat) (n : Nat) : List Nat := nbl (cs.drop n)
theorem nb_skp (cs : List Nat) : ∀ (m n : Nat), cs.length ≤ n + m → NB cs (skp cs n) = NB cs n := fun m => by
  induction m with
  | zero =>
    intro n h
    have e : cs[n]? = none := List.getElem?_eq_none_iff.mpr (by omega)
    rw [skp_here (by rw [e]; simp)]
  | succ m ih =>
    intro n h
    by_cases hn : cs[n]? = some 32
    · rw [skp_blank hn, ih (n + 1) (by omega)]
      unfold NB
      rw [drop_at hn]
      unfold nbl
      rw [List.filter_cons]
      simp
    · rw [skp_here hn]
theorem nb_head {cs : List Nat} {n c : Nat} {t : List Nat} (h : NB cs n = c :: t) : cs[skp cs n]? = some c ∧ NB cs (skp cs n + 1) = t := by
  have h1 := nb_skp cs cs.length n (by omega)
  have h2 := skp_not cs n
  rw [h] at h1
  cases hc : cs[skp cs n]? with
  | none =>
    unfold NB at h1
    rw [drop_out hc] at h1
    cases h1
  | some d =>
    rw [hc] at h2
    unfold NB at h1
    rw [drop_at hc] at h1
    unfold nbl at h1
    have hd : d ≠ 32 := fun z => h2 (by rw [z])
    rw [List.filter_cons, if_pos (by simp [hd])] at h1
    injection h1 with a b
    exact ⟨by rw [a], b⟩
theorem nb_nil {cs : List Nat} {n : Nat} (h : NB cs n = []) : cs[skp cs n]? = none := by
  have h1 := nb_skp cs cs.length n (by omega)
  have h2 := skp_not cs n
  rw [h] at h1
  cases hc : cs[skp cs n]? with
  | none => rfl
  | some d =>
    rw [hc] at h2
    unfold NB at h1
    rw [drop_at hc] at h1
    unfold nbl at h1
    have hd : d ≠ 32 := fun z => h2 (by rw [z])
    rw [List.filter_cons, if_pos (by simp [hd])] at h1
    cases h1
theorem take_nb {cs sm : List Nat} {n c : Nat} {t : List Nat} {lp : List (Nat × PB)} (h : NB cs n = c :: t) (hm : c ∈ sm) : rTake cs sm ⟨n, none, lp⟩ = (some c, ⟨skp cs n + 1, none, lp⟩) := by
  unfold rTake
  rw [(nb_head h).1]
  dsimp only
  rw [if_pos hm]
/-- what behind a block ends it -/
def Stop (t ends : List Nat) : Prop := match t with
  | [] => True
  | c :: _ => c ∈ ends
def Brk (ends : List Nat) : Prop := ∀ c ∈ ends, c ∉ sg "swx?*@"
theorem wr_ln : ∀ b : PB, gB b = true → lnB b ≤ (wrB b).length
  | .nil, _ => Nat.le_refl _
  | .cons s r, h => by
    obtain ⟨h1, h2⟩ := Bool.and_eq_true_iff.mp (show (gS s && gB r) = true from h)
    have ih := wr_ln r h2
    have : 1 ≤ (wrS s).length := by
      cases s with
      | atom w =>
        obtain ⟨c, rfl, _⟩ := atom_w h1
        show 1 ≤ (sg (ofL [c])).length
        rw [sg_ofL]
        exact Nat.le_refl _
      | rep k b => show 1 ≤ (42 :: _).length; simp
      | lop k b => show 1 ≤ (64 :: _).length; simp
      | tst k a b => show 1 ≤ (63 :: _).length; simp
    show lnB r + 1 ≤ (wrS s ++ wrB r).length
    rw [List.length_append]
    omega
theorem nb_le (cs : List Nat) (n : Nat) : (NB cs n).length ≤ cs.length := by
  unfold NB nbl
  exact Nat.le_trans (List.length_filter_le _ _) (by rw [List.length_drop]; omega)
structure Rt (cs : List Nat) (t : List Nat) (lp : List (Nat × PB)) (r : RS) : Prop where
  ft : r.ft = none
  nb : NB cs r.pl = t
  id : idl r.lp = idl lp
theorem wr_hd (s : PS) (h : gS s = true) : ∃ c u, wrS s = c :: u ∧ c ∈ sg "swx?*@" := by
  cases s with
  | atom w =>
    obtain ⟨c, rfl, hc⟩ := atom_w h
    refine ⟨c, [], sg_ofL _, ?_⟩
    rcases hc with rfl | rfl | rfl <;> decide +kernel
  | rep k b => exact ⟨42, _, rfl, by decide +kernel⟩
  | lop k b => exact ⟨64, _, rfl, by decide +kernel⟩
  | tst k a b => exact ⟨63, _, rfl, by decide +kernel⟩
theorem br_paren {n : Nat} (h : 1 ≤ n) : 40 ∈ brO n := by
  unfold brO
  rw [if_neg (by omega)]
  decide +kernel
mutual
theorem rtS {cs : List Nat} : ∀ (s : PS) (n pl : Nat) (lp : List (Nat × PB)) (t : List Nat), gS s = true → dpS s ≤ n → NB cs pl = wrS s ++ t → Rt cs t lp (rStm cs (n + 1) ⟨pl, none, lp⟩).2 ∧ wtS (rStm cs (n + 1) ⟨pl, none, lp⟩).1 = wtS s ∧ cpS (rStm cs (n + 1) ⟨pl, none, lp⟩).1 = cpS s
  | .atom w, n, pl, lp, t, h, _, hw => by
    obtain ⟨c, rfl, hc⟩ := atom_w h
    have e : wrS (.atom (ofL [c])) = [c] := sg_ofL _
    rw [e] at hw
    have tk := take_nb (sm := sg "swx?*@") (lp := lp) hw (by rcases hc with rfl | rfl | rfl <;> decide +kernel)
    have nb := (nb_head hw).2
    rw [stm_a (by rw [tk]; intro z; have := Option.some.inj z; omega) (by rw [tk]; intro z; have := Option.some.inj z; omega) (by rw [tk]; intro z; have := Option.some.inj z; omega), tk]
    exact ⟨⟨rfl, nb, rfl⟩, rfl, rfl⟩
  | .rep k b, n, pl, lp, t, h, hd, hw => by
    obtain ⟨⟨c, ek, k1, k2⟩, h1, h2⟩ := rep_k h
    have hd : dpB b + 1 ≤ n := hd
    have e : wrS (.rep k b) ++ t = 42 :: c :: 40 :: (wrB b ++ 41 :: t) := by show (42 :: (sg k ++ 40 :: (wrB b ++ [41]))) ++ t = _; rw [ek]; simp
    rw [e] at hw
    have t0 := take_nb (sm := sg "swx?*@") (lp := lp) hw (by decide +kernel)
    have n0 := (nb_head hw).2
    have t1 := take_nb (sm := sg "23456789") (lp := lp) n0 (by rcases (show c = 50 ∨ c = 51 ∨ c = 52 ∨ c = 53 by omega) with rfl | rfl | rfl | rfl <;> decide +kernel)
    have n1 := (nb_head n0).2
    have t2 := take_nb (sm := brO n) (lp := lp) n1 (br_paren (by omega))
    have n2 := (nb_head n1).2
    obtain ⟨m, rfl⟩ : ∃ m, n = m + 1 := ⟨n - 1, by omega⟩
    have hb := rtB b m _ lp (41 :: t) (sg ")") (cs.length + 1) h1 (by omega) n2 (by show 41 ∈ sg ")"; decide +kernel) (by unfold Brk; decide +kernel) (by have a := wr_ln b h1; have b' := nb_le cs (skp cs (skp cs (skp cs pl + 1) + 1) + 1); rw [n2, List.length_append] at b'; omega)
    obtain ⟨r3, w3, c3⟩ := hb
    rw [stm_r (by rw [t0]), t0, t1, t2]
    dsimp only
    generalize rBlk (rStm cs (m + 1)) cs (sg ")") (cs.length + 1) ⟨skp cs (skp cs (skp cs pl + 1) + 1) + 1, none, lp⟩ = R at r3 w3 c3 ⊢
    obtain ⟨B, ⟨pl3, ft3, lp3⟩⟩ := R
    obtain ⟨f3, nb3, id3⟩ := r3
    dsimp only at f3 nb3 id3 w3 c3
    subst f3
    have t4 := take_nb (sm := sg ")") (lp := lp3) nb3 (by decide +kernel)
    have n4 := (nb_head nb3).2
    dsimp only
    rw [t4]
    refine ⟨⟨rfl, n4, id3⟩, ?_, c3⟩
    show (match sg (chS (some c)) with | [c] => c - 48 | _ => 0) * wtB B = (match sg k with | [c] => c - 48 | _ => 0) * wtB b
    rw [ek, w3]
    rfl
  | .lop i b, n, pl, lp, t, h, hd, hw => by
    obtain ⟨_, hcp, h1, h2⟩ := lop_b h
    have hd : dpB b + 1 ≤ n := hd
    have e : wrS (.lop i b) ++ t = 64 :: 40 :: (wrB b ++ 41 :: t) := by show (64 :: 40 :: (wrB b ++ [41])) ++ t = _; simp
    rw [e] at hw
    have t0 := take_nb (sm := sg "swx?*@") (lp := lp) hw (by decide +kernel)
    have n0 := (nb_head hw).2
    have t2 := take_nb (sm := brO n) (lp := lp) n0 (br_paren (by omega))
    have n2 := (nb_head n0).2
    obtain ⟨m, rfl⟩ : ∃ m, n = m + 1 := ⟨n - 1, by omega⟩
    have hb := rtB b m _ lp (41 :: t) (sg ")") (cs.length + 1) h1 (by omega) n2 (by show 41 ∈ sg ")"; decide +kernel) (by unfold Brk; decide +kernel) (by have a := wr_ln b h1; have b' := nb_le cs (skp cs (skp cs pl + 1) + 1); rw [n2, List.length_append] at b'; omega)
    obtain ⟨r3, w3, c3⟩ := hb
    rw [stm_l (by rw [t0])]
    unfold lopZ lopB
    rw [t0, t2]
    dsimp only
    generalize rBlk (rStm cs (m + 1)) cs (sg ")") (cs.length + 1) ⟨skp cs (skp cs pl + 1) + 1, none, lp⟩ = R at r3 w3 c3 ⊢
    obtain ⟨B, ⟨pl3, ft3, lp3⟩⟩ := R
    obtain ⟨f3, nb3, id3⟩ := r3
    dsimp only at f3 nb3 id3 w3 c3
    subst f3
    have t4 := take_nb (sm := sg ")") (lp := lp3) nb3 (by decide +kernel)
    have n4 := (nb_head nb3).2
    dsimp only
    rw [t4]
    refine ⟨⟨rfl, n4, ?_⟩, w3, rfl⟩
    dsimp only
    rw [idl_app, c3, hcp, if_neg Bool.false_ne_true, List.append_nil]
    exact id3
  | .tst k a b, n, pl, lp, t, h, hd, hw => by
    obtain ⟨⟨c, ek, kc⟩, ⟨h1, h2⟩, h5, h6⟩ := tst_m h
    have hd : max (dpB a) (dpB b) + 1 ≤ n := hd
    have e : wrS (.tst k a b) ++ t = 63 :: c :: 40 :: (wrB a ++ 124 :: (wrB b ++ 41 :: t)) := by show (63 :: (sg k ++ 40 :: (wrB a ++ 124 :: (wrB b ++ [41])))) ++ t = _; rw [ek]; simp
    rw [e] at hw
    have t0 := take_nb (sm := sg "swx?*@") (lp := lp) hw (by decide +kernel)
    have n0 := (nb_head hw).2
    have t1 := take_nb (sm := sg ".1#!") (lp := lp) n0 (by rcases kc with rfl | rfl | rfl | rfl <;> decide +kernel)
    have n1 := (nb_head n0).2
    have t2 := take_nb (sm := brO n) (lp := lp) n1 (br_paren (by omega))
    have n2 := (nb_head n1).2
    obtain ⟨m, rfl⟩ : ∃ m, n = m + 1 := ⟨n - 1, by omega⟩
    have ha := rtB a m _ lp (124 :: (wrB b ++ 41 :: t)) (sg "|)") (cs.length + 1) h1 (by omega) n2 (by show 124 ∈ sg "|)"; decide +kernel) (by unfold Brk; decide +kernel) (by have a' := wr_ln a h1; have b' := nb_le cs (skp cs (skp cs (skp cs pl + 1) + 1) + 1); rw [n2, List.length_append] at b'; omega)
    obtain ⟨r3, w3, c3⟩ := ha
    rw [stm_q (by rw [t0]), t0]
    unfold rTst
    dsimp only
    rw [t1]
    dsimp only
    rw [show (if m + 1 = 0 then ([] : List Nat) else sg "(") = brO (m + 1) from rfl, t2]
    dsimp only
    generalize rBlk (rStm cs (m + 1)) cs (sg "|)") (cs.length + 1) ⟨skp cs (skp cs (skp cs pl + 1) + 1) + 1, none, lp⟩ = R at r3 w3 c3 ⊢
    obtain ⟨A, ⟨pl3, ft3, lp3⟩⟩ := R
    obtain ⟨f3, nb3, id3⟩ := r3
    dsimp only at f3 nb3 id3 w3 c3
    subst f3
    have t4 := take_nb (sm := sg "|") (lp := lp3) nb3 (by decide +kernel)
    have n4 := (nb_head nb3).2
    have hb := rtB b m _ lp3 (41 :: t) (sg ")") (cs.length + 1) h5 (by omega) n4 (by show 41 ∈ sg ")"; decide +kernel) (by unfold Brk; decide +kernel) (by have a' := wr_ln b h5; have b' := nb_le cs (skp cs pl3 + 1); rw [n4, List.length_append] at b'; omega)
    obtain ⟨r5, w5, c5⟩ := hb
    dsimp only
    rw [t4]
    dsimp only
    generalize rBlk (rStm cs (m + 1)) cs (sg ")") (cs.length + 1) ⟨skp cs pl3 + 1, none, lp3⟩ = R5 at r5 w5 c5 ⊢
    obtain ⟨B, ⟨pl5, ft5, lp5⟩⟩ := R5
    obtain ⟨f5, nb5, id5⟩ := r5
    dsimp only at f5 nb5 id5 w5 c5
    subst f5
    have t6 := take_nb (sm := sg ")") (lp := lp5) nb5 (by decide +kernel)
    have n6 := (nb_head nb5).2
    dsimp only
    rw [t6]
    refine ⟨⟨rfl, n6, id5.trans id3⟩, ?_, ?_⟩
    · show wtB A + wtB B = wtB a + wtB b
      rw [w3, w5]
    · show (cpB A || cpB B) = (cpB a || cpB b)
      rw [c3, c5]
theorem rtB {cs : List Nat} : ∀ (b : PB) (n pl : Nat) (lp : List (Nat × PB)) (t ends : List Nat) (m : Nat), gB b = true → dpB b ≤ n → NB cs pl = wrB b ++ t → Stop t ends → Brk ends → lnB b + 1 ≤ m →
    Rt cs t lp (rBlk (rStm cs (n + 1)) cs ends m ⟨pl, none, lp⟩).2 ∧ wtB (rBlk (rStm cs (n + 1)) cs ends m ⟨pl, none, lp⟩).1 = wtB b ∧ cpB (rBlk (rStm cs (n + 1)) cs ends m ⟨pl, none, lp⟩).1 = cpB b
  | .nil, n, pl, lp, t, ends, m, _, _, hw, hs, _, hm => by
    obtain ⟨m, rfl⟩ : ∃ z, m = z + 1 := ⟨m - 1, by omega⟩
    have hw : NB cs pl = t := hw
    have hk := nb_skp cs cs.length pl (by omega)
    rw [blk_end rfl (fun c hc => ?_)]
    · exact ⟨⟨rfl, hk.trans hw, rfl⟩, rfl, rfl⟩
    · cases t with
      | nil => rw [nb_nil hw] at hc; cases hc
      | cons d t => rw [(nb_head hw).1] at hc; cases hc; exact hs
  | .cons s r, n, pl, lp, t, ends, m, h, hd, hw, hs, hb, hm => by
    obtain ⟨m, rfl⟩ : ∃ z, m = z + 1 := ⟨m - 1, by omega⟩
    have hm : lnB r + 1 + 1 ≤ m + 1 := hm
    obtain ⟨h1, h2⟩ := Bool.and_eq_true_iff.mp (show (gS s && gB r) = true from h)
    obtain ⟨d1, d2⟩ := Nat.max_le.mp (show max (dpS s) (dpB r) ≤ n from hd)
    have e : wrB (.cons s r) ++ t = wrS s ++ (wrB r ++ t) := by show (wrS s ++ wrB r) ++ t = _; rw [List.append_assoc]
    rw [e] at hw
    obtain ⟨c, u, ew, hc⟩ := wr_hd s h1
    have hh := hw
    rw [ew] at hh
    have hat := (nb_head hh).1
    rw [blk_go rfl hat (fun z => hb c z hc)]
    have hk := nb_skp cs cs.length pl (by omega)
    obtain ⟨r1, w1, c1⟩ := rtS s n (skp cs pl) lp (wrB r ++ t) h1 d1 (hk.trans hw)
    dsimp only
    generalize rStm cs (n + 1) ⟨skp cs pl, none, lp⟩ = R at r1 w1 c1 ⊢
    obtain ⟨S, ⟨pl1, ft1, lp1⟩⟩ := R
    obtain ⟨f1, nb1, id1⟩ := r1
    dsimp only at f1 nb1 id1 w1 c1
    subst f1
    obtain ⟨r2, w2, c2⟩ := rtB r n pl1 lp1 t ends m h2 d2 nb1 hs hb (by omega)
    refine ⟨⟨r2.ft, r2.nb, r2.id.trans id1⟩, ?_, ?_⟩
    · show wtS S + wtB _ = wtS s + wtB r
      rw [w1, w2]
    · show (cpS S && cpB _) = (cpS s && cpB r)
      rw [c1, c2]
end
theorem round {cs : List Nat} {n : Nat} {b : PB} (hD : Dr n b) (hn : n ≤ 8) (h : nbl cs = wrB b) : flaw cs = none ∧ wtB (rAll cs).1 = wtB b := by
  have hw : NB cs 0 = wrB b ++ [] := by unfold NB; rw [List.drop_zero, List.append_nil]; exact h
  have hl : lnB b + 1 ≤ cs.length + 1 := by
    have := wr_ln b hD.g
    have h2 := nb_le cs 0
    rw [hw, List.append_nil] at h2
    omega
  obtain ⟨r, w, _⟩ := rtB b 8 0 [] [] [] (cs.length + 1) hD.g (Nat.le_trans hD.dp hn) hw trivial (fun c hc => by cases hc) hl
  refine ⟨?_, w⟩
  unfold flaw
  have e1 : (rAll cs).2.ft = none := r.ft
  have e2 : idl (rAll cs).2.lp = idl [] := r.id
  rw [e1, e2]
  rfl
end KL


end

section
set_option Elab.async false
set_option linter.all false
set_option maxRecDepth 100000
set_option maxHeartbeats 4000000
open PySem PySem.Spec PyProof.Rows L2 DL
namespace KL
structure Std (xs : Scr) (p Pt : Addr) (G : GH) : Prop where
  g : Row xs G p
  o : OneTab Pt qn_law G
theorem Std.put {xs : Scr} {G : GH} {p Pt : Addr} (h : Std xs p Pt G) {at_ : Nat} {a b : Int} : Std xs p Pt (updG G p (rowG xs at_ a b)) := ⟨row_put, otab_row h.o h.g⟩
theorem Std.ne {xs : Scr} {G : GH} {p Pt f : Addr} (h : Std xs p Pt G) (hf : G f = none) : f ≠ p := fun e => by
  obtain ⟨a, b, c, g⟩ := h.g
  rw [e, g] at hf; cases hf
theorem Std.new {xs : Scr} {G : GH} {p Pt f : Addr} {L : List D} (h : Std xs p Pt G) (hf : G f = none) : Std xs p Pt (updG G f (.lst L)) := by
  obtain ⟨a, b, c, g⟩ := h.g
  exact ⟨⟨a, b, c, by rw [updG_ne (h.ne hf).symm]; exact g⟩, OneTab.new h.o hf⟩
theorem Std.set {xs : Scr} {G : GH} {p Pt f : Addr} {L L' : List D} (h : Std xs p Pt G) (hne : f ≠ p) (hf : G f = some (.lst L)) : Std xs p Pt (updG G f (.lst L')) := by
  obtain ⟨a, b, c, g⟩ := h.g
  exact ⟨⟨a, b, c, by rw [updG_ne hne.symm]; exact g⟩, OneTab.put h.o hf⟩
def sp_law (Pt : Addr) : DSp := fun ds G Q _ => ∃ xs : Scr, ds = [scrD xs] ∧ xs.length ≤ datL ∧ OneTab Pt qn_law G ∧ ∀ G', Q (.bl true) G'
/-! ### signs -/
theorem noB_wr : ∀ c ∈ sg "swx?*@()|.1#! 0123459a", c ≠ 32 → True := fun _ _ _ => trivial
mutual
theorem wrS_pr : ∀ s : PS, gS s = true → ∀ c ∈ wrS s, 33 ≤ c ∧ c ≤ 126
  | .atom w, h, c, hc => by
    obtain ⟨k, rfl, hk⟩ := atom_w h
    have e : wrS (.atom (ofL [k])) = [k] := sg_ofL _
    rw [e, List.mem_singleton] at hc
    omega
  | .rep k b, h, c, hc => by
    obtain ⟨⟨z, ek, k1, k2⟩, h1, h2⟩ := rep_k h
    have hc : c ∈ 42 :: (sg k ++ 40 :: (wrB b ++ [41])) := hc
    rw [ek] at hc
    simp only [List.mem_cons, List.mem_append, List.not_mem_nil, or_false] at hc
    rcases hc with rfl | rfl | rfl | hc | rfl
    · decide
    · omega
    · decide
    · exact wrB_pr b h1 c hc
    · decide
  | .lop i b, h, c, hc => by
    obtain ⟨_, _, h1, h2⟩ := lop_b h
    have hc : c ∈ 64 :: 40 :: (wrB b ++ [41]) := hc
    simp only [List.mem_cons, List.mem_append, List.not_mem_nil, or_false] at hc
    rcases hc with rfl | rfl | hc | rfl
    · decide
    · decide
    · exact wrB_pr b h1 c hc
    · decide
  | .tst k a b, h, c, hc => by
    obtain ⟨⟨z, ek, kc⟩, ⟨h1, h2⟩, h5, h6⟩ := tst_m h
    have hc : c ∈ 63 :: (sg k ++ 40 :: (wrB a ++ 124 :: (wrB b ++ [41]))) := hc
    rw [ek] at hc
    simp only [List.mem_cons, List.mem_append, List.not_mem_nil, or_false] at hc
    rcases hc with rfl | rfl | rfl | hc | rfl | hc | rfl
    · decide
    · omega
    · decide
    · exact wrB_pr a h1 c hc
    · decide
    · exact wrB_pr b h5 c hc
    · decide
theorem wrB_pr : ∀ b : PB, gB b = true → ∀ c ∈ wrB b, 33 ≤ c ∧ c ≤ 126
  | .nil, _, c, hc => by cases hc
  | .cons s r, h, c, hc => by
    obtain ⟨h1, h2⟩ := Bool.and_eq_true_iff.mp (show (gS s && gB r) = true from h)
    rcases List.mem_append.mp (show c ∈ wrS s ++ wrB r from hc) with hc | hc
    · exact wrS_pr s h1 c hc
    · exact wrB_pr r h2 c hc
end
theorem nbl_wr {b : PB} (h : gB b = true) : nbl (wrB b) = wrB b := by
  unfold nbl
  rw [List.filter_eq_self]
  intro c hc
  have := wrB_pr b h c hc
  have h2 : c ≠ 32 := by omega
  simp [h2]
/-- a text with blanks between the signs of a drawn program -/
structure Txt6 (b : PB) (y : Str) : Prop where
  dr : Dr 4 b
  nb : nbl (sg y) = wrB b
  ln : y.length ≤ 598
  ge : (wrB b).length ≤ y.length
theorem prn_pt {y : Str} (h : prn y = true) (hl : y.length ≤ 600) : ptOk (.str y) = true := by
  show (decide (y.length ≤ 600) && (sg y).all fun c => decide (32 ≤ c) && decide (c ≤ 126)) = true
  rw [decide_eq_true hl, Bool.true_and]
  exact h
theorem Txt6.prn {b : PB} {y : Str} (h : Txt6 b y) : prn y = true := by
  unfold KL.prn
  rw [List.all_eq_true]
  intro c hc
  rw [Bool.and_eq_true, decide_eq_true_eq, decide_eq_true_eq]
  by_cases h3 : c = 32
  · omega
  · have : c ∈ nbl (sg y) := List.mem_filter.mpr ⟨hc, by simp [h3]⟩
    rw [h.nb] at this
    have := wrB_pr b h.dr.g c this
    omega
theorem Txt6.rd {b : PB} {y : Str} (h : Txt6 b y) : flaw (sg y) = none ∧ wtB (rAll (sg y)).1 = wtB b := round h.dr (by decide) h.nb
theorem valB_of {y : Str} (h : ptOk (.str y) = true) (hf : flaw (sg y) = none) : valB (.str y) = true := by
  show (ptOk (.str y) && decide (flaw (sg y) = none)) = true
  rw [h, decide_eq_true hf] <;> rfl
theorem valB_no {y : Str} (hf : flaw (sg y) ≠ none) : valB (.str y) = false := by
  show (ptOk (.str y) && decide (flaw (sg y) = none)) = false
  rw [decide_eq_false hf, Bool.and_false]
theorem Txt6.val {b : PB} {y : Str} (h : Txt6 b y) : valB (.str y) = true := valB_of (prn_pt h.prn (by have := h.ln; omega)) h.rd.1
theorem Txt6.due {b : PB} {y : Str} (h : Txt6 b y) : KL.prn (ofL (wrB b)) = true ∧ (ofL (wrB b)).length ≤ 598 := by
  refine ⟨?_, by rw [ofL_len]; have := h.ge; have := h.ln; omega⟩
  unfold KL.prn
  rw [sg_ofL, List.all_eq_true]
  intro c hc
  have := wrB_pr b h.dr.g c hc
  rw [Bool.and_eq_true, decide_eq_true_eq, decide_eq_true_eq]
  omega
theorem txd_str {y : Str} (h : y.length ≤ 100000) : Txd (.str y) := ⟨⟨0, rfl⟩, fun x e => by cases e; unfold datL; omega⟩
section
variable {C : Addr} {G : GH} {Q : DK} {E : DXK} {y : Str}
theorem flawT (h : ptOk (.str y) = true) (q : Q (optN (flaw (sg y))) G) : sp_program_flaw C [.str y] G Q E := by
  have hl : y.length ≤ 600 := by
    have h : (decide (y.length ≤ 600) && _) = true := h
    rw [Bool.and_eq_true, decide_eq_true_eq] at h
    exact h.1
  exact ⟨.str y, rfl, txd_str (by omega), fun z => (by rw [h] at z; cases z), fun _ x e => by cases e; exact q⟩
theorem val_ln (h : valB (.str y) = true) : y.length ≤ 600 := by
  have h : (ptOk (.str y) && _) = true := h
  rw [Bool.and_eq_true] at h
  have h : (decide (y.length ≤ 600) && _) = true := h.1
  rw [Bool.and_eq_true, decide_eq_true_eq] at h
  exact h.1
theorem weightT (h : valB (.str y) = true) (q : Q (.int ((wtB (rAll (sg y)).1 : Nat) : Int)) G) : sp_weight C [.str y] G Q E :=
  ⟨.str y, rfl, txd_str (by have := val_ln h; omega), fun z => (by rw [h] at z; cases z), fun _ x e => by cases e; exact q⟩
theorem plainT (h : valB (.str y) = true) (q : Q (.str (ofL (nbl (sg y)))) G) : sp_plain_program C [.str y] G Q E :=
  ⟨.str y, rfl, txd_str (by have := val_ln h; omega), fun z => (by rw [h] at z; cases z), fun _ x e => by cases e; exact q⟩
end
theorem alk_optN (o : Option Nat) : alk 4 (optN o) = true := by cases o <;> rfl
section
variable {C Pt p : Addr} {Ex : DXK} {E : DEnds} {xs : Scr} {v0 v1 v2 v3 v4 v5 v6 v7 v8 v9 v10 v11 : Option D} {G : GH}
theorem law17 (hx : xs.length ≤ datL) (h : Std xs p Pt G) (k : ∀ (b : PB) (G' : GH), Dr 4 b → Std xs p Pt G' → E.nx [v0, some (.ref p), v2, some (.tup (encLB b)), v4, v5, v6, v7, v8, v9, v10, v11] G') :
    t_law_17 C Pt Ex E [v0, some (.ref p), v2, v3, v4, v5, v6, v7, v8, v9, v10, v11] G := by
  unfold t_law_17
  simp only [dSeq, dIfS, dTst, dTru, dNot, dAnd, dOr, dAndV, dOrV, dNotV, dRet, dRetN, dDrop, dAsg, dNext, dBreak, dCont, dVar, getS, dC, dOp, dChain, dF1, dF2, dCall, dCons, dNil, dTup, dLst, dLstM, dIf, dNeg, uNeg, dLc, dLcM, dItr, dZip, dEnum, dRange1, dRange2, dFor, dPut, dAug, dPar2, dPar3, dSl, dPart, dNoPart, dM1, dM0, dCB, on1, isB, setT, setTs, dRaise, dMk, dYes, dLstRg, dRg1, wipeD, dFld, dSFld, dFldAug, dMeth, dMake, dWhile, dRepl, List.set]
  refine ⟨p, 4, xs, rfl, by decide, by decide, hx, h.g, fun v a u w hv => ?_⟩
  refine addI ?_
  rw [show (1 : Int) + (v : Int) = ((1 + v : Nat) : Int) by omega]
  refine ⟨p, 1 + v, true, xs, rfl, by omega, hx, h.put.g, fun b a2 u2 w2 hD _ => ?_⟩
  exact k b _ ⟨Nat.le_trans hD.dp (by omega), hD.g, hD.ln⟩ h.put.put
theorem law16 {b : PB} (hD : Dr 4 b) (k : E.nx [v0, v1, v2, some (.tup (encLB b)), some (.str (ofL (wrB b))), v5, v6, v7, v8, v9, v10, v11] G) :
    t_law_16 C Pt Ex E [v0, v1, v2, some (.tup (encLB b)), v4, v5, v6, v7, v8, v9, v10, v11] G := by
  unfold t_law_16
  simp only [dSeq, dIfS, dTst, dTru, dNot, dAnd, dOr, dAndV, dOrV, dNotV, dRet, dRetN, dDrop, dAsg, dNext, dBreak, dCont, dVar, getS, dC, dOp, dChain, dF1, dF2, dCall, dCons, dNil, dTup, dLst, dLstM, dIf, dNeg, uNeg, dLc, dLcM, dItr, dZip, dEnum, dRange1, dRange2, dFor, dPut, dAug, dPar2, dPar3, dSl, dPart, dNoPart, dM1, dM0, dCB, on1, isB, setT, setTs, dRaise, dMk, dYes, dLstRg, dRg1, wipeD, dFld, dSFld, dFldAug, dMeth, dMake, dWhile, dRepl, List.set]
  exact ⟨b, rfl, by decide, hD, k⟩
theorem law15 (hx : xs.length ≤ datL) (h : Std xs p Pt G) {b : PB} (hD : Dr 4 b) (k : ∀ (y : Str) (G' : GH), nbl (sg y) = wrB b → (wrB b).length ≤ y.length → y.length ≤ 100000 → Std xs p Pt G' → E.nx [v0, some (.ref p), v2, v3, some (.str (ofL (wrB b))), some (.str y), v6, v7, v8, v9, v10, v11] G') :
    t_law_15 C Pt Ex E [v0, some (.ref p), v2, v3, some (.str (ofL (wrB b))), v5, v6, v7, v8, v9, v10, v11] G := by
  have hw := wr_len hD (by decide)
  unfold t_law_15
  simp only [dSeq, dIfS, dTst, dTru, dNot, dAnd, dOr, dAndV, dOrV, dNotV, dRet, dRetN, dDrop, dAsg, dNext, dBreak, dCont, dVar, getS, dC, dOp, dChain, dF1, dF2, dCall, dCons, dNil, dTup, dLst, dLstM, dIf, dNeg, uNeg, dLc, dLcM, dItr, dZip, dEnum, dRange1, dRange2, dFor, dPut, dAug, dPar2, dPar3, dSl, dPart, dNoPart, dM1, dM0, dCB, on1, isB, setT, setTs, dRaise, dMk, dYes, dLstRg, dRg1, wipeD, dFld, dSFld, dFldAug, dMeth, dMake, dWhile, dRepl, List.set]
  refine ⟨p, ofL (wrB b), xs, rfl, by rw [ofL_len]; omega, hx, h.g, fun y a u v h1 h2 h3 => ?_⟩
  rw [ofL_len] at h2 h3
  rw [sg_ofL, nbl_wr hD.g] at h1
  exact k y _ h1 h3 (by omega) h.put
theorem law14 {y : Str} (hl : y.length ≤ 100000) (k : y.length ≤ 598 → E.nx [v0, v1, v2, v3, v4, some (.str y), v6, v7, v8, v9, v10, v11] G) (kc : E.ct [v0, v1, v2, v3, v4, some (.str y), v6, v7, v8, v9, v10, v11] G) :
    t_law_14 C Pt Ex E [v0, v1, v2, v3, v4, some (.str y), v6, v7, v8, v9, v10, v11] G := by
  unfold t_law_14
  simp only [dSeq, dIfS, dTst, dTru, dNot, dAnd, dOr, dAndV, dOrV, dNotV, dRet, dRetN, dDrop, dAsg, dNext, dBreak, dCont, dVar, getS, dC, dOp, dChain, dF1, dF2, dCall, dCons, dNil, dTup, dLst, dLstM, dIf, dNeg, uNeg, dLc, dLcM, dItr, dZip, dEnum, dRange1, dRange2, dFor, dPut, dAug, dPar2, dPar3, dSl, dPart, dNoPart, dM1, dM0, dCB, on1, isB, setT, setTs, dRaise, dMk, dYes, dLstRg, dRg1, wipeD, dFld, dSFld, dFldAug, dMeth, dMake, dWhile, dRepl, List.set]
  refine ⟨by rw [sizeL]; omega, trivial, ?_⟩
  show isB _ (.bl (decide ((598 : Int) < (y.length : Int)))) G
  by_cases h : y.length ≤ 598
  · rw [show decide ((598 : Int) < (y.length : Int)) = false by rw [decide_eq_false_iff_not]; omega]
    simp only [getS, List.set, truD, isB, i2, TT0, true_and, Bool.not_true, Bool.not_false, Bool.false_eq_true, if_false, if_true, dVar, dC, setT, setTs]
    exact k h
  · rw [show decide ((598 : Int) < (y.length : Int)) = true by rw [decide_eq_true_eq]; omega]
    simp only [getS, List.set, truD, isB, i2, TT0, true_and, Bool.not_true, Bool.not_false, Bool.false_eq_true, if_false, if_true, dVar, dC, setT, setTs]
    exact kc
theorem law13 {b : PB} {y : Str} (h : Txt6 b y) (k : E.nx [v0, v1, v2, some (.tup (encLB b)), some (.str (ofL (wrB b))), some (.str y), v6, v7, v8, v9, v10, v11] G) :
    t_law_13 C Pt Ex E [v0, v1, v2, some (.tup (encLB b)), some (.str (ofL (wrB b))), some (.str y), v6, v7, v8, v9, v10, v11] G := by
  unfold t_law_13
  simp only [dSeq, dIfS, dTst, dTru, dNot, dAnd, dOr, dAndV, dOrV, dNotV, dRet, dRetN, dDrop, dAsg, dNext, dBreak, dCont, dVar, getS, dC, dOp, dChain, dF1, dF2, dCall, dCons, dNil, dTup, dLst, dLstM, dIf, dNeg, uNeg, dLc, dLcM, dItr, dZip, dEnum, dRange1, dRange2, dFor, dPut, dAug, dPar2, dPar3, dSl, dPart, dNoPart, dM1, dM0, dCB, on1, isB, setT, setTs, dRaise, dMk, dYes, dLstRg, dRg1, wipeD, dFld, dSFld, dFldAug, dMeth, dMake, dWhile, dRepl, List.set]
  refine flawT (prn_pt h.prn (by have := h.ln; omega)) ?_
  rw [h.rd.1]
  simp only [optN, notND, DL.isNon, getS, List.set, truD, isB, i2, TT0, true_and, Bool.not_true, Bool.not_false, Bool.false_eq_true, if_false, if_true, dVar, dC, setT, setTs]
  refine plainT h.val ?_
  rw [h.nb]
  refine ⟨_, rfl, rfl, ?_⟩
  simp only [getS, List.set, truD, isB, i2, TT0, true_and, Bool.not_true, Bool.not_false, Bool.false_eq_true, if_false, if_true, dVar, dC, setT, setTs]
  refine weightT h.val ?_
  rw [h.rd.2]
  refine ⟨b, rfl, h.dr, ⟨_, rfl, rfl, ?_⟩⟩
  simp only [getS, List.set, truD, isB, i2, TT0, true_and, Bool.not_true, Bool.not_false, Bool.false_eq_true, if_false, if_true, dVar, dC, setT, setTs]
  exact k
theorem law10 (hx : xs.length ≤ datL) (h : Std xs p Pt G) {b : PB} {y : Str} (hy : Txt6 b y) (k : ∀ (z : Str) (G' : GH), KL.prn z = true → z.length ≤ 599 → Std xs p Pt G' → E.nx [v0, some (.ref p), v2, v3, some (.str (ofL (wrB b))), some (.str y), v6, some (.str z), v8, v9, v10, v11] G') :
    t_law_10 C Pt Ex E [v0, some (.ref p), v2, v3, some (.str (ofL (wrB b))), some (.str y), v6, v7, v8, v9, v10, v11] G := by
  have hl := hy.ln
  have hd := hy.due
  unfold t_law_10
  simp only [dSeq, dIfS, dTst, dTru, dNot, dAnd, dOr, dAndV, dOrV, dNotV, dRet, dRetN, dDrop, dAsg, dNext, dBreak, dCont, dVar, getS, dC, dOp, dChain, dF1, dF2, dCall, dCons, dNil, dTup, dLst, dLstM, dIf, dNeg, uNeg, dLc, dLcM, dItr, dZip, dEnum, dRange1, dRange2, dFor, dPut, dAug, dPar2, dPar3, dSl, dPart, dNoPart, dM1, dM0, dCB, on1, isB, setT, setTs, dRaise, dMk, dYes, dLstRg, dRg1, wipeD, dFld, dSFld, dFldAug, dMeth, dMake, dWhile, dRepl, List.set]
  refine ⟨sm10 (by simp), ?_⟩
  refine ⟨p, .lst [.str y, .str (ofL (wrB b))], 2, (fun d => ∃ z : Str, d = .str z ∧ KL.prn z = true ∧ z.length ≤ 598), xs, rfl, by decide, .inl ⟨_, .inl rfl, rfl, fun d hd' => ?_⟩, hx, h.g, fun d a u v hd' => ?_⟩
  · simp only [List.mem_cons, List.not_mem_nil, or_false] at hd'
    rcases hd' with rfl | rfl
    · exact ⟨y, rfl, hy.prn, hl⟩
    · exact ⟨_, rfl, hd.1, hd.2⟩
  · obtain ⟨z, rfl, z1, z2⟩ := hd'
    exact ⟨p, z, xs, rfl, by omega, z1, hx, h.put.g, fun w a2 u2 v2 w1 w2 => k w _ w1 (by omega) h.put.put⟩
theorem law9 {z : Str} (h1 : KL.prn z = true) (h2 : z.length ≤ 599) (k : E.nx [v0, v1, v2, v3, v4, v5, v6, some (.str z), some (optN (flaw (sg z))), v9, v10, v11] G) :
    t_law_9 C Pt Ex E [v0, v1, v2, v3, v4, v5, v6, some (.str z), v8, v9, v10, v11] G := by
  unfold t_law_9
  simp only [dSeq, dIfS, dTst, dTru, dNot, dAnd, dOr, dAndV, dOrV, dNotV, dRet, dRetN, dDrop, dAsg, dNext, dBreak, dCont, dVar, getS, dC, dOp, dChain, dF1, dF2, dCall, dCons, dNil, dTup, dLst, dLstM, dIf, dNeg, uNeg, dLc, dLcM, dItr, dZip, dEnum, dRange1, dRange2, dFor, dPut, dAug, dPar2, dPar3, dSl, dPart, dNoPart, dM1, dM0, dCB, on1, isB, setT, setTs, dRaise, dMk, dYes, dLstRg, dRg1, wipeD, dFld, dSFld, dFldAug, dMeth, dMake, dWhile, dRepl, List.set]
  refine ⟨z, rfl, by omega, h1, ?_⟩
  rw [lFlaw_eq (by rw [sg_len]; omega)]
  exact k
theorem law8 {z : Str} (h1 : KL.prn z = true) (h2 : z.length ≤ 599) (k : E.nx [v0, v1, v2, v3, v4, v5, v6, some (.str z), some (optN (flaw (sg z))), v9, v10, v11] G) :
    t_law_8 C Pt Ex E [v0, v1, v2, v3, v4, v5, v6, some (.str z), some (optN (flaw (sg z))), v9, v10, v11] G := by
  unfold t_law_8
  simp only [dSeq, dIfS, dTst, dTru, dNot, dAnd, dOr, dAndV, dOrV, dNotV, dRet, dRetN, dDrop, dAsg, dNext, dBreak, dCont, dVar, getS, dC, dOp, dChain, dF1, dF2, dCall, dCons, dNil, dTup, dLst, dLstM, dIf, dNeg, uNeg, dLc, dLcM, dItr, dZip, dEnum, dRange1, dRange2, dFor, dPut, dAug, dPar2, dPar3, dSl, dPart, dNoPart, dM1, dM0, dCB, on1, isB, setT, setTs, dRaise, dMk, dYes, dLstRg, dRg1, wipeD, dFld, dSFld, dFldAug, dMeth, dMake, dWhile, dRepl, List.set]
  refine flawT (prn_pt h1 (by omega)) ⟨_, rfl, alk_optN _, ?_⟩
  simp only [getS, List.set, truD, isB, i2, TT0, true_and, Bool.not_true, Bool.not_false, Bool.false_eq_true, if_false, if_true, dVar, dC, setT, setTs]
  exact k
theorem law76 (h : Std xs p Pt G) {z : Str} (h1 : KL.prn z = true) (h2 : z.length ≤ 599) (k : ∀ v9, E.nx [v0, v1, v2, v3, v4, v5, v6, some (.str z), some (optN (flaw (sg z))), v9, v10, v11] G) :
    dSeq (t_law_7 C Pt Ex) (t_law_6 C Pt Ex) E [v0, v1, v2, v3, v4, v5, v6, some (.str z), some (optN (flaw (sg z))), v9, v10, v11] G := by
  unfold t_law_7 t_law_6
  simp only [dSeq, dIfS, dTst, dTru, dNot, dAnd, dOr, dAndV, dOrV, dNotV, dRet, dRetN, dDrop, dAsg, dNext, dBreak, dCont, dVar, getS, dC, dOp, dChain, dF1, dF2, dCall, dCons, dNil, dTup, dLst, dLstM, dIf, dNeg, uNeg, dLc, dLcM, dItr, dZip, dEnum, dRange1, dRange2, dFor, dPut, dAug, dPar2, dPar3, dSl, dPart, dNoPart, dM1, dM0, dCB, on1, isB, setT, setTs, dRaise, dMk, dYes, dLstRg, dRg1, wipeD, dFld, dSFld, dFldAug, dMeth, dMake, dWhile, dRepl, List.set]
  have hp := prn_pt h1 (show z.length ≤ 600 by omega)
  have tx := txd_str (show z.length ≤ 100000 by omega)
  have fin : ∀ w : Str, PyData.strOk w = true → ∀ Q : DK, Q (.bl false) G → neD (.lst [.str w, .str w]) (.lst [.str w, .str w]) G Q := fun w hw Q q => by
    refine ne_self (d := .lst [.str w, .str w]) 1 (eqS_lst _) (show dpt 1 (.lst [.str w, .str w]) = true by show (PyData.strOk w && (PyData.strOk w && true)) = true; rw [hw] <;> rfl) q
  cases hf : flaw (sg z) with
  | none =>
    have hv := valB_of hp hf
    refine ⟨h.o, ?_⟩
    rw [hf] at k
    simp only [dSeq, dIfS, dTst, dTru, dNot, dAnd, dOr, dAndV, dOrV, dNotV, dRet, dRetN, dDrop, dAsg, dNext, dBreak, dCont, dVar, getS, dC, dOp, dChain, dF1, dF2, dCall, dCons, dNil, dTup, dLst, dLstM, dIf, dNeg, uNeg, dLc, dLcM, dItr, dZip, dEnum, dRange1, dRange2, dFor, dPut, dAug, dPar2, dPar3, dSl, dPart, dNoPart, dM1, dM0, dCB, on1, isB, setT, setTs, dRaise, dMk, dYes, dLstRg, dRg1, wipeD, dFld, dSFld, dFldAug, dMeth, dMake, dWhile, dRepl, List.set]
    refine plainT hv ?_
    refine ⟨h.o, ?_⟩
    simp only [dSeq, dIfS, dTst, dTru, dNot, dAnd, dOr, dAndV, dOrV, dNotV, dRet, dRetN, dDrop, dAsg, dNext, dBreak, dCont, dVar, getS, dC, dOp, dChain, dF1, dF2, dCall, dCons, dNil, dTup, dLst, dLstM, dIf, dNeg, uNeg, dLc, dLcM, dItr, dZip, dEnum, dRange1, dRange2, dFor, dPut, dAug, dPar2, dPar3, dSl, dPart, dNoPart, dM1, dM0, dCB, on1, isB, setT, setTs, dRaise, dMk, dYes, dLstRg, dRg1, wipeD, dFld, dSFld, dFldAug, dMeth, dMake, dWhile, dRepl, List.set]
    refine weightT hv ?_
    simp only [optN, notND, DL.isNon, getS, List.set, truD, isB, i2, TT0, true_and, Bool.not_true, Bool.not_false, Bool.false_eq_true, if_false, if_true, dVar, dC, setT, setTs]
    refine ⟨sm10 (by simp), sm10 (by simp), ?_⟩
    refine ⟨⟨by decide, by decide, by rw [sizeL]; decide⟩, ?_⟩
    refine fin "" (by decide +kernel) _ ?_
    simp only [getS, List.set, truD, isB, i2, TT0, true_and, Bool.not_true, Bool.not_false, Bool.false_eq_true, if_false, if_true, dVar, dC, setT, setTs]
    exact k _
  | some o =>
    have hv := valB_no (y := z) (by rw [hf]; simp)
    rw [hf] at k
    refine ⟨h.o, ?_⟩
    refine ⟨_, rfl, tx, fun _ => ⟨rfl, rfl, ?_⟩, fun w => (by rw [hv] at w; cases w)⟩
    refine ⟨h.o, ?_⟩
    refine ⟨_, rfl, tx, fun _ => ⟨rfl, rfl, ?_⟩, fun w => (by rw [hv] at w; cases w)⟩
    simp only [optN, notND, DL.isNon, getS, List.set, truD, isB, i2, TT0, true_and, Bool.not_true, Bool.not_false, Bool.false_eq_true, if_false, if_true, dVar, dC, setT, setTs]
    refine ⟨sm10 (by simp), sm10 (by simp), ?_⟩
    refine ⟨⟨by decide, by decide, by rw [sizeL]; decide⟩, ?_⟩
    refine fin "text" (by decide +kernel) _ ?_
    simp only [getS, List.set, truD, isB, i2, TT0, true_and, Bool.not_true, Bool.not_false, Bool.false_eq_true, if_false, if_true, dVar, dC, setT, setTs]
    exact k _
theorem law12_loop (hx : xs.length ≤ datL) {b : PB} {y : Str} (hy : Txt6 b y) (k : ∀ (v6 v7 v8 v9 : Option D) (G' : GH), Std xs p Pt G' → E.nx [v0, some (.ref p), v2, v3, some (.str (ofL (wrB b))), some (.str y), v6, v7, v8, v9, v10, v11] G') : ∀ (ds : List D) (v6 v7 v8 v9 : Option D) (G : GH), Std xs p Pt G →
    loopD yes0 (.name 6) (t_law_11 C Pt Ex) E ds [v0, some (.ref p), v2, v3, some (.str (ofL (wrB b))), some (.str y), v6, v7, v8, v9, v10, v11] G
  | [], v6, v7, v8, v9, G, h => ⟨trivial, k _ _ _ _ G h⟩
  | d :: ds, v6, v7, v8, v9, G, h => by
    refine ⟨trivial, ?_⟩
    simp only [setT, List.set]
    unfold t_law_11
    refine law10 (C := C) (Pt := Pt) (Ex := Ex) hx h hy fun z G' z1 z2 h' => ?_
    refine law9 (C := C) (Pt := Pt) (Ex := Ex) z1 z2 ?_
    refine law8 (C := C) (Pt := Pt) (Ex := Ex) z1 z2 ?_
    exact law76 (C := C) (Pt := Pt) (Ex := Ex) h' z1 z2 fun v9 => law12_loop hx hy k ds _ _ _ _ G' h'
theorem law18 (hx : xs.length ≤ datL) (h : Std xs p Pt G) (k : ∀ (v3 v4 v5 v6 v7 v8 v9 : Option D) (G' : GH), Std xs p Pt G' → E.nx [v0, some (.ref p), v2, v3, v4, v5, v6, v7, v8, v9, v10, v11] G') (kc : ∀ (v3 v4 v5 v6 v7 v8 v9 : Option D) (G' : GH), Std xs p Pt G' → E.ct [v0, some (.ref p), v2, v3, v4, v5, v6, v7, v8, v9, v10, v11] G') :
    t_law_18 C Pt Ex E [v0, some (.ref p), v2, v3, v4, v5, v6, v7, v8, v9, v10, v11] G := by
  unfold t_law_18
  simp only [dSeq]
  refine law17 (C := C) (Pt := Pt) (Ex := Ex) hx h fun b G1 hD h1 => ?_
  refine law16 (C := C) (Pt := Pt) (Ex := Ex) hD ?_
  refine law15 (C := C) (Pt := Pt) (Ex := Ex) hx h1 hD fun y G2 y1 y2 y3 h2 => ?_
  refine law14 (C := C) (Pt := Pt) (Ex := Ex) y3 (fun y4 => ?_) (kc _ _ _ _ _ _ _ _ h2)
  have hy : Txt6 b y := ⟨hD, y1, y4, y2⟩
  refine law13 (C := C) (Pt := Pt) (Ex := Ex) hy ?_
  unfold t_law_12
  simp only [dSeq, dIfS, dTst, dTru, dNot, dAnd, dOr, dAndV, dOrV, dNotV, dRet, dRetN, dDrop, dAsg, dNext, dBreak, dCont, dVar, getS, dC, dOp, dChain, dF1, dF2, dCall, dCons, dNil, dTup, dLst, dLstM, dIf, dNeg, uNeg, dLc, dLcM, dItr, dZip, dEnum, dRange1, dRange2, dFor, dPut, dAug, dPar2, dPar3, dSl, dPart, dNoPart, dM1, dM0, dCB, on1, isB, setT, setTs, dRaise, dMk, dYes, dLstRg, dRg1, wipeD, dFld, dSFld, dFldAug, dMeth, dMake, dWhile, dRepl, List.set]
  refine ⟨⟨by decide, by decide⟩, ?_⟩
  exact law12_loop (C := C) (Pt := Pt) (Ex := Ex) hx hy (fun v6 v7 v8 v9 G' h' => k _ _ _ _ _ _ _ G' h') _ _ _ _ _ G2 h2
theorem law_loop (hx : xs.length ≤ datL) (k : ∀ (v2 v3 v4 v5 v6 v7 v8 v9 : Option D) (G' : GH), Std xs p Pt G' → E.nx [v0, some (.ref p), v2, v3, v4, v5, v6, v7, v8, v9, v10, v11] G') : ∀ (ds : List D) (v2 v3 v4 v5 v6 v7 v8 v9 : Option D) (G : GH), Std xs p Pt G →
    loopD yes0 (.name 2) (t_law_18 C Pt Ex) E ds [v0, some (.ref p), v2, v3, v4, v5, v6, v7, v8, v9, v10, v11] G
  | [], v2, v3, v4, v5, v6, v7, v8, v9, G, h => ⟨trivial, k _ _ _ _ _ _ _ _ G h⟩
  | d :: ds, v2, v3, v4, v5, v6, v7, v8, v9, G, h => by
    refine ⟨trivial, ?_⟩
    simp only [setT, List.set]
    exact law18 (C := C) (Pt := Pt) (Ex := Ex) hx h (fun v3 v4 v5 v6 v7 v8 v9 G' h' => law_loop hx k ds _ _ _ _ _ _ _ _ G' h') (fun v3 v4 v5 v6 v7 v8 v9 G' h' => law_loop hx k ds _ _ _ _ _ _ _ _ G' h')
end
/-! ### the law's own texts -/
def deepT : Str := Txt.mul "*2(" 8 ++ "s" ++ Txt.mul ")" 8
theorem rd_none {y : Str} (h : ptOk (.str y) = true) (hf : flaw (sg y) = none) : valB (.str y) = true := valB_of h hf

theorem deep_ok : valB (.str deepT) = true ∧ flaw (sg deepT) = none ∧ wtB (rAll (sg deepT)).1 = 256 := by decide +kernel
theorem deep2_ok : ptOk (.str ("*2(" ++ deepT ++ ")")) = true ∧ flaw (sg ("*2(" ++ deepT ++ ")")) = some 26 := by decide +kernel
abbrev t9 : Str := "*9(*9(*9(*9(s)))) x"
theorem t9_ok : valB (.str t9) = true ∧ wtB (rAll (sg t9)).1 = 6562 := by decide +kernel
theorem f1_ok : ptOk (.str "s@(?1(s|))") = true ∧ flaw (sg "s@(?1(s|))") = some 1 := by decide +kernel
theorem f2_ok : ptOk (.str "@(@(w)) s") = true ∧ flaw (sg "@(@(w)) s") = none := by decide +kernel
theorem f3_ok : ptOk (.str "*1(s)") = true ∧ flaw (sg "*1(s)") = some 1 := by decide +kernel
theorem f4_ok : ptOk (.str "s)") = true ∧ flaw (sg "s)") = some 1 := by decide +kernel
theorem f5_ok : ptOk (.str "@(") = true ∧ flaw (sg "@(") = some 2 := by decide +kernel
def oddL : List D := [.non, .int 5, .str (Txt.mul "s" 601), .str "s\n", .tup [.str "s"], .bl true]
structure OddT (d : D) : Prop where
  tx : Txd d
  pt : ptOk d = false
  vl : valB d = false
theorem valB_pf {y : Str} (h : ptOk (.str y) = false) : valB (.str y) = false := by
  cases hv : valB (.str y) with
  | false => rfl
  | true => rw [(valB_pt hv).1] at h; cases h
theorem neS {i j : Int} {G : GH} {Q : DK} (h : i = j) (q : Q (.bl false) G) : neD (.int i) (.int j) G Q := neI (by rw [decide_eq_true h]; exact q)
theorem odd_ok {d : D} (h : d ∈ oddL) : OddT d := by
  simp only [oddL, List.mem_cons, List.not_mem_nil, or_false] at h
  rcases h with rfl | rfl | rfl | rfl | rfl | rfl
  · exact ⟨⟨⟨0, rfl⟩, fun x e => by cases e⟩, rfl, rfl⟩
  · exact ⟨⟨⟨0, rfl⟩, fun x e => by cases e⟩, rfl, rfl⟩
  · have hp : ptOk (.str (Txt.mul "s" 601)) = false := by decide +kernel
    exact ⟨⟨⟨0, rfl⟩, fun x e => by cases e; decide +kernel⟩, hp, valB_pf hp⟩
  · have hp : ptOk (.str "s\n") = false := by decide +kernel
    exact ⟨⟨⟨0, rfl⟩, fun x e => by cases e; decide +kernel⟩, hp, valB_pf hp⟩
  · exact ⟨⟨⟨1, by decide +kernel⟩, fun x e => by cases e⟩, rfl, rfl⟩
  · exact ⟨⟨⟨0, rfl⟩, fun x e => by cases e⟩, rfl, rfl⟩
theorem tail_law {C Pt p : Addr} {Ex : DXK} {Q : DK} {xs : Scr} {v0 v1 v2 v3 v4 v5 v6 v7 v8 v9 v10 v11 : Option D} {G : GH} (hx : xs.length ≤ datL) (h : Std xs p Pt G) (q : ∀ G', Q (.bl true) G') :
    dSeq (t_law_5 C Pt Ex) (dSeq (t_law_4 C Pt Ex) (dSeq (t_law_3 C Pt Ex) (dSeq (t_law_2 C Pt Ex) (t_law_1 C Pt Ex)))) (fnEnds Q) [v0, some (.ref p), v2, v3, v4, v5, v6, v7, v8, v9, v10, v11] G := by
  unfold t_law_5 t_law_4
  simp only [dSeq, dIfS, dTst, dTru, dNot, dAnd, dOr, dAndV, dOrV, dNotV, dRet, dRetN, dDrop, dAsg, dNext, dBreak, dCont, dVar, getS, dC, dOp, dChain, dF1, dF2, dCall, dCons, dNil, dTup, dLst, dLstM, dIf, dNeg, uNeg, dLc, dLcM, dItr, dZip, dEnum, dRange1, dRange2, dFor, dPut, dAug, dPar2, dPar3, dSl, dPart, dNoPart, dM1, dM0, dCB, on1, isB, setT, setTs, dRaise, dMk, dYes, dLstRg, dRg1, wipeD, dFld, dSFld, dFldAug, dMeth, dMake, dWhile, dRepl, List.set]
  refine ⟨⟨by decide, by decide, by decide⟩, ⟨by rw [sizeL]; decide +kernel, ⟨by decide, by decide, by decide⟩, ⟨by rw [sizeL]; decide +kernel, ?_⟩⟩⟩
  obtain ⟨d1, d2, d3⟩ := deep_ok
  have dp : ptOk (.str deepT) = true := (valB_pt d1).1
  generalize hd : Txt.mul "*2(" 8 ++ "s" ++ Txt.mul ")" 8 = dt
  have hd : dt = deepT := hd.symm
  subst hd
  refine flawT dp ?_
  rw [d2]
  simp only [optN, notND, DL.isNon, getS, List.set, truD, isB, i2, TT0, true_and, Bool.not_true, Bool.not_false, Bool.false_eq_true, if_false, if_true, dVar, dC, setT, setTs]
  refine ⟨by rw [sizeL]; decide +kernel, ⟨by rw [sizeL]; decide +kernel, ?_⟩⟩
  refine flawT deep2_ok.1 ?_
  rw [deep2_ok.2]
  refine neS (by decide) ?_
  simp only [getS, List.set, truD, isB, i2, TT0, true_and, Bool.not_true, Bool.not_false, Bool.false_eq_true, if_false, if_true, dVar, dC, setT, setTs]
  refine weightT d1 ?_
  rw [d3]
  refine neS (by decide) ?_
  simp only [getS, List.set, truD, isB, i2, TT0, true_and, Bool.not_true, Bool.not_false, Bool.false_eq_true, if_false, if_true, dVar, dC, setT, setTs]
  refine weightT t9_ok.1 ?_
  rw [show wtB (rAll (sg "*9(*9(*9(*9(s)))) x")).1 = 6562 from t9_ok.2]
  refine neS (by decide) ?_
  simp only [getS, List.set, truD, isB, i2, TT0, true_and, Bool.not_true, Bool.not_false, Bool.false_eq_true, if_false, if_true, dVar, dC, setT, setTs]
  clear d1 d2 d3 dp
  generalize deepT = dt
  unfold t_law_3 t_law_2 t_law_1
  simp only [dSeq, dIfS, dTst, dTru, dNot, dAnd, dOr, dAndV, dOrV, dNotV, dRet, dRetN, dDrop, dAsg, dNext, dBreak, dCont, dVar, getS, dC, dOp, dChain, dF1, dF2, dCall, dCons, dNil, dTup, dLst, dLstM, dIf, dNeg, uNeg, dLc, dLcM, dItr, dZip, dEnum, dRange1, dRange2, dFor, dPut, dAug, dPar2, dPar3, dSl, dPart, dNoPart, dM1, dM0, dCB, on1, isB, setT, setTs, dRaise, dMk, dYes, dLstRg, dRg1, wipeD, dFld, dSFld, dFldAug, dMeth, dMake, dWhile, dRepl, List.set]
  refine flawT f1_ok.1 ?_
  rw [f1_ok.2]
  refine neS (by decide) ?_
  simp only [getS, List.set, truD, isB, i2, TT0, true_and, Bool.not_true, Bool.not_false, Bool.false_eq_true, if_false, if_true, dVar, dC, setT, setTs]
  refine flawT f2_ok.1 ?_
  rw [f2_ok.2]
  simp only [optN, notND, DL.isNon, getS, List.set, truD, isB, i2, TT0, true_and, Bool.not_true, Bool.not_false, Bool.false_eq_true, if_false, if_true, dVar, dC, setT, setTs]
  refine flawT f3_ok.1 ?_
  rw [f3_ok.2]
  refine neS (by decide) ?_
  simp only [getS, List.set, truD, isB, i2, TT0, true_and, Bool.not_true, Bool.not_false, Bool.false_eq_true, if_false, if_true, dVar, dC, setT, setTs]
  refine flawT f4_ok.1 ?_
  rw [f4_ok.2]
  refine neS (by decide) ?_
  simp only [getS, List.set, truD, isB, i2, TT0, true_and, Bool.not_true, Bool.not_false, Bool.false_eq_true, if_false, if_true, dVar, dC, setT, setTs]
  refine flawT f5_ok.1 ?_
  rw [f5_ok.2]
  refine neS (by decide) ?_
  simp only [getS, List.set, truD, isB, i2, TT0, true_and, Bool.not_true, Bool.not_false, Bool.false_eq_true, if_false, if_true, dVar, dC, setT, setTs]
  refine ⟨⟨by decide, by decide, by decide⟩, sm10 (by simp), sm10 (by simp), ?_⟩
  refine ⟨p, .lst oddL, 6, (fun d => d ∈ oddL), xs, rfl, by decide, .inl ⟨oddL, .inl rfl, rfl, fun d hd => hd⟩, hx, h.g, fun d a u v hd => ?_⟩
  have hd := odd_ok hd
  have h2 := h.put (at_ := a) (a := u) (b := v)
  refine ⟨h2.o, ⟨d, rfl, hd.tx, fun _ => ⟨rfl, rfl, ?_⟩, fun w => (by rw [hd.pt] at w; cases w)⟩⟩
  refine ⟨h2.o, ⟨d, rfl, hd.tx, fun _ => ⟨rfl, rfl, ?_⟩, fun w => (by rw [hd.vl] at w; cases w)⟩⟩
  refine ⟨h2.o, ⟨d, rfl, hd.tx, fun _ => ⟨rfl, rfl, ?_⟩, fun w => (by rw [hd.vl] at w; cases w)⟩⟩
  refine ⟨sm10 (by simp), sm10 (by simp), ?_⟩
  refine ⟨⟨by decide, by decide, by rw [sizeL]; decide⟩, ?_⟩
  refine eq_self (d := .lst [.str "text", .str "text", .str "text"]) 1 (show dpt 1 (.lst [.str "text", .str "text", .str "text"]) = true by decide +kernel) ?_
  exact fin_ret (q _)
theorem pure_law {C Pt : Addr} (ds : List D) (G : GH) (Q : DK) (E : DXK) (h : sp_law Pt ds G Q E) : t_law C Pt E (fnEnds Q) (startD N_law ds) G := by
  obtain ⟨xs, rfl, hx, o, q⟩ := h
  show t_law C Pt E (fnEnds Q) [some (scrD xs), none, none, none, none, none, none, none, none, none, none, none] G
  unfold t_law
  rw [show dSeq (t_law_20 C Pt E) (dSeq (t_law_19 C Pt E) (dSeq (t_law_5 C Pt E) (dSeq (t_law_4 C Pt E) (dSeq (t_law_3 C Pt E) (dSeq (t_law_2 C Pt E) (t_law_1 C Pt E)))))) = dSeq (t_law_20 C Pt E) (dSeq (t_law_19 C Pt E) (dSeq (t_law_5 C Pt E) (dSeq (t_law_4 C Pt E) (dSeq (t_law_3 C Pt E) (dSeq (t_law_2 C Pt E) (t_law_1 C Pt E)))))) from rfl]
  generalize ht : dSeq (t_law_5 C Pt E) (dSeq (t_law_4 C Pt E) (dSeq (t_law_3 C Pt E) (dSeq (t_law_2 C Pt E) (t_law_1 C Pt E)))) = tl
  unfold t_law_20 t_law_19
  simp only [dSeq, dIfS, dTst, dTru, dNot, dAnd, dOr, dAndV, dOrV, dNotV, dRet, dRetN, dDrop, dAsg, dNext, dBreak, dCont, dVar, getS, dC, dOp, dChain, dF1, dF2, dCall, dCons, dNil, dTup, dLst, dLstM, dIf, dNeg, uNeg, dLc, dLcM, dItr, dZip, dEnum, dRange1, dRange2, dFor, dPut, dAug, dPar2, dPar3, dSl, dPart, dNoPart, dM1, dM0, dCB, on1, isB, setT, setTs, dRaise, dMk, dYes, dLstRg, dRg1, wipeD, dFld, dSFld, dFldAug, dMeth, dMake, dWhile, dRepl, List.set]
  refine ⟨sm10 (by simp), fun p hp => ⟨⟨by decide, by decide⟩, ?_⟩⟩
  refine law_loop (C := C) (Pt := Pt) (Ex := E) hx (fun v2 v3 v4 v5 v6 v7 v8 v9 G' h => ?_) _ _ _ _ _ _ _ _ _ _ ⟨⟨0, 126121, 0, updG_same⟩, OneTab.new o hp⟩
  rw [← ht]
  exact tail_law (C := C) (Pt := Pt) (Ex := E) (v1 := none) hx h q
end KL


end

section
set_option Elab.async false
set_option linter.all false
set_option maxRecDepth 100000
set_option maxHeartbeats 4000000
open PySem PySem.Spec PyProof.Rows L2 DL
namespace KL
theorem len_need {C : Addr} : ∀ ds G Q E, (sp_need C) ds G Q E → ds.length = (["is_valid", "name"] : List Str).length := fun _ _ _ _ ⟨_, _, e, _⟩ => by rw [e]; rfl
theorem len_is_program_text  : ∀ ds G Q E, sp_is_program_text ds G Q E → ds.length = (["value"] : List Str).length := fun _ _ _ _ ⟨_, _, e, _⟩ => by rw [e]; rfl
theorem len_can_pass {n : Nat} : ∀ ds G Q E, (sp_can_pass n) ds G Q E → ds.length = (["block"] : List Str).length := fun _ _ _ _ ⟨_, e, _⟩ => by rw [e]; rfl
theorem len_weight_of {n : Nat} : ∀ ds G Q E, (sp_weight_of n) ds G Q E → ds.length = (["block"] : List Str).length := fun _ _ _ _ ⟨_, e, _⟩ => by rw [e]; rfl
theorem len_statements_of  : ∀ ds G Q E, sp_statements_of ds G Q E → ds.length = (["text"] : List Str).length := fun _ _ _ _ ⟨_, e, _⟩ => by rw [e]; rfl
theorem len_valid_statements {C : Addr} : ∀ ds G Q E, (sp_valid_statements C) ds G Q E → ds.length = (["text"] : List Str).length := fun _ _ _ _ ⟨_, e, _⟩ => by rw [e]; rfl
theorem len_weight {C : Addr} : ∀ ds G Q E, (sp_weight C) ds G Q E → ds.length = (["text"] : List Str).length := fun _ _ _ _ ⟨_, e, _⟩ => by rw [e]; rfl
theorem len__law_taken  : ∀ ds G Q E, sp__law_taken ds G Q E → ds.length = (["row", "many"] : List Str).length := fun _ _ _ _ ⟨_, _, _, e, _⟩ => by rw [e]; rfl
theorem len__law_pick  : ∀ ds G Q E, sp__law_pick ds G Q E → ds.length = (["row", "some"] : List Str).length := fun _ _ _ _ ⟨_, _, _, _, _, e, _⟩ => by rw [e]; rfl
theorem len__law_alike {n : Nat} : ∀ ds G Q E, (sp_alike n) ds G Q E → ds.length = (["found", "due"] : List Str).length := fun _ _ _ _ ⟨_, e, _⟩ => by rw [e]; rfl
theorem len__law_prog {n : Nat} : ∀ ds G Q E, (sp__law_prog n) ds G Q E → ds.length = (["row", "deep", "idle"] : List Str).length := fun _ _ _ _ ⟨_, _, _, _, e, _⟩ => by rw [e]; rfl
theorem len__law_write {n : Nat} : ∀ ds G Q E, (sp__law_write n) ds G Q E → ds.length = (["block"] : List Str).length := fun _ _ _ _ ⟨_, e, _⟩ => by rw [e]; rfl
theorem len__law_weigh {n : Nat} : ∀ ds G Q E, (sp__law_weigh n) ds G Q E → ds.length = (["block"] : List Str).length := fun _ _ _ _ ⟨_, e, _⟩ => by rw [e]; rfl
theorem len__law_see  : ∀ ds G Q E, sp__law_see ds G Q E → ds.length = (["text", "state"] : List Str).length := fun _ _ _ _ ⟨_, _, _, _, e, _⟩ => by rw [e]; rfl
theorem len__law_take  : ∀ ds G Q E, sp__law_take ds G Q E → ds.length = (["text", "state", "some"] : List Str).length := fun _ _ _ _ ⟨_, _, _, _, _, e, _⟩ => by rw [e]; rfl
theorem len__law_read {n : Nat} : ∀ ds G Q E, (sp__law_read n) ds G Q E → ds.length = (["text", "state", "deep", "ends"] : List Str).length := fun _ _ _ _ ⟨_, _, _, _, _, _, _, e, _⟩ => by rw [e]; rfl
theorem len__law_flaw  : ∀ ds G Q E, sp__law_flaw ds G Q E → ds.length = (["text"] : List Str).length := fun _ _ _ _ ⟨_, e, _⟩ => by rw [e]; rfl
theorem len__law_blanks  : ∀ ds G Q E, sp__law_blanks ds G Q E → ds.length = (["row", "text"] : List Str).length := fun _ _ _ _ ⟨_, _, _, e, _⟩ => by rw [e]; rfl
theorem len__law_spoilt  : ∀ ds G Q E, sp__law_spoilt ds G Q E → ds.length = (["row", "text"] : List Str).length := fun _ _ _ _ ⟨_, _, _, e, _⟩ => by rw [e]; rfl
theorem len_law {Pt : Addr} : ∀ ds G Q E, (sp_law Pt) ds G Q E → ds.length = (["script"] : List Str).length := fun _ _ _ _ ⟨_, e, _⟩ => by rw [e]; rfl

theorem mk_need {P : Program} {w : World} {K : PySem.W.Frag} {mg : Str → Option Value} {base : Heap} {fA C : Addr}  (B : Blt mg) {fI cc cda : Addr}
    (T_BadArgument : DX.ErrTxt P K mg "BadArgument" "name" C fI cc cda "BadArgument.__init__") {fd : FuncData} (F : FunD K "need" "need" (defArgs s_need) (defBody s_need) (defScope s_need) [] [] fA fd) (g : mg "need" = some (.ref fA)) : FnD P w K mg base "need" 3 ["is_valid", "name"] (sp_need C) :=
  fnD_of F g (fn_ok F sc_need len_need (fun cdv A outer s H E c Ex hr ok => b_need (C := C) B T_BadArgument cdv A outer s H E c Ex hr ok) (pure_need (C := C))) (fun _ _ _ _ _ _ us hl => match us, hl with | [_, _], _ => rfl) (fun _ _ _ _ _ _ us hl => match us, hl with | [_, _], _ => rfl)
theorem mk_is_program_text {P : Program} {w : World} {K : PySem.W.Frag} {mg : Str → Option Value} {base : Heap} {fA C : Addr}  (B : Blt mg)
    {t_MOST_TEXT : Tok} (c_MOST_TEXT : mg "MOST_TEXT" = some (.int (600) t_MOST_TEXT)) {fd : FuncData} (F : FunD K "is_program_text" "is_program_text" (defArgs s_is_program_text) (defBody s_is_program_text) (defScope s_is_program_text) [] [] fA fd) (g : mg "is_program_text" = some (.ref fA)) : FnD P w K mg base "is_program_text" 1 ["value"] sp_is_program_text :=
  fnD_of F g (fn_ok F sc_is_program_text len_is_program_text (fun cdv A outer s H E c Ex hr ok => b_is_program_text (C := C) B c_MOST_TEXT cdv A outer s H E c Ex hr ok) (pure_is_program_text (C := C))) (fun _ _ _ _ _ _ us hl => match us, hl with | [_], _ => rfl) (fun _ _ _ _ _ _ us hl => match us, hl with | [_], _ => rfl)
theorem mk_can_pass {P : Program} {w : World} {K : PySem.W.Frag} {mg : Str → Option Value} {base : Heap} {fA : Addr} (B : Blt mg)
    {t_SEND : Tok} (c_SEND : mg "SEND" = some (.str "s" t_SEND))
    {t_WAIT : Tok} (c_WAIT : mg "WAIT" = some (.str "w" t_WAIT))
    {t_STOP : Tok} (c_STOP : mg "STOP" = some (.str "x" t_STOP))
    {t_FOREVER : Tok} (c_FOREVER : mg "FOREVER" = some (.str "@" t_FOREVER))
    {t_REPEAT : Tok} (c_REPEAT : mg "REPEAT" = some (.str "*" t_REPEAT))
    {t_TEST : Tok} (c_TEST : mg "TEST" = some (.str "?" t_TEST)) {fd : FuncData} (F : FunD K "can_pass" "can_pass" (defArgs s_can_pass) (defBody s_can_pass) (defScope s_can_pass) [] [] fA fd) (g : mg "can_pass" = some (.ref fA)) : ∀ n, FnD P w K mg base "can_pass" (n + 1) ["block"] (sp_can_pass n)
  | 0 => fnD_of F g (fn_ok (k := 0) F sc_can_pass len_can_pass (fun cdv A outer s H E c Ex hr ok => b_can_pass (C := 0) B (fnD_no (k := 0) F g (fun _ _ _ _ _ _ us hl => match us, hl with | [_], _ => rfl) (fun _ _ _ _ _ _ us hl => match us, hl with | [_], _ => rfl)) c_SEND c_WAIT c_STOP c_FOREVER c_REPEAT c_TEST cdv A outer s H E c Ex hr ok) (pure_can_pass (C := 0) 0 (fun h => absurd rfl h))) (fun _ _ _ _ _ _ us hl => match us, hl with | [_], _ => rfl) (fun _ _ _ _ _ _ us hl => match us, hl with | [_], _ => rfl)
  | n + 1 => fnD_of F g (fn_ok (k := n + 1) F sc_can_pass len_can_pass (fun cdv A outer s H E c Ex hr ok => b_can_pass (C := 0) B (mk_can_pass B c_SEND c_WAIT c_STOP c_FOREVER c_REPEAT c_TEST F g n) c_SEND c_WAIT c_STOP c_FOREVER c_REPEAT c_TEST cdv A outer s H E c Ex hr ok) (pure_can_pass (C := 0) (n + 1) (fun _ => rfl))) (fun _ _ _ _ _ _ us hl => match us, hl with | [_], _ => rfl) (fun _ _ _ _ _ _ us hl => match us, hl with | [_], _ => rfl)
theorem mk_weight_of {P : Program} {w : World} {K : PySem.W.Frag} {mg : Str → Option Value} {base : Heap} {fA : Addr} (B : Blt mg)
    {t_REPEAT : Tok} (c_REPEAT : mg "REPEAT" = some (.str "*" t_REPEAT))
    {t_TEST : Tok} (c_TEST : mg "TEST" = some (.str "?" t_TEST))
    {t_FOREVER : Tok} (c_FOREVER : mg "FOREVER" = some (.str "@" t_FOREVER)) {fd : FuncData} (F : FunD K "weight_of" "weight_of" (defArgs s_weight_of) (defBody s_weight_of) (defScope s_weight_of) [] [] fA fd) (g : mg "weight_of" = some (.ref fA)) : ∀ n, FnD P w K mg base "weight_of" (n + 1) ["block"] (sp_weight_of n)
  | 0 => fnD_of F g (fn_ok (k := 0) F sc_weight_of len_weight_of (fun cdv A outer s H E c Ex hr ok => b_weight_of (C := 0) B (fnD_no (k := 0) F g (fun _ _ _ _ _ _ us hl => match us, hl with | [_], _ => rfl) (fun _ _ _ _ _ _ us hl => match us, hl with | [_], _ => rfl)) c_REPEAT c_TEST c_FOREVER cdv A outer s H E c Ex hr ok) (pure_weight_of (C := 0) 0 (fun h => absurd rfl h))) (fun _ _ _ _ _ _ us hl => match us, hl with | [_], _ => rfl) (fun _ _ _ _ _ _ us hl => match us, hl with | [_], _ => rfl)
  | n + 1 => fnD_of F g (fn_ok (k := n + 1) F sc_weight_of len_weight_of (fun cdv A outer s H E c Ex hr ok => b_weight_of (C := 0) B (mk_weight_of B c_REPEAT c_TEST c_FOREVER F g n) c_REPEAT c_TEST c_FOREVER cdv A outer s H E c Ex hr ok) (pure_weight_of (C := 0) (n + 1) (fun _ => rfl))) (fun _ _ _ _ _ _ us hl => match us, hl with | [_], _ => rfl) (fun _ _ _ _ _ _ us hl => match us, hl with | [_], _ => rfl)
theorem mk_program_flaw {P : Program} {w : World} {K : PySem.W.Frag} {mg : Str → Option Value} {base : Heap} {fA C : Addr} {R : Addr} (B : Blt mg)
    (K_ProgramReader : Cl_ProgramReader K R)
    (M_ProgramReader_read_all : MtD P w K mg base R "read_all" 41 ["self"] (sp_rd_all R))
    (MK_ProgramReader : MkD P w K mg base "ProgramReader" R 1 ["self", "text"] (sp_rd_init R))
    (F_is_program_text : FnD P w K mg base "is_program_text" 1 ["value"] sp_is_program_text)
    (F_need : FnD P w K mg base "need" 3 ["is_valid", "name"] (sp_need C)) {fd : FuncData} (F : FunD K "program_flaw" "program_flaw" (defArgs s_program_flaw) (defBody s_program_flaw) (defScope s_program_flaw) [] [] fA fd) (g : mg "program_flaw" = some (.ref fA)) : FnD P w K mg base "program_flaw" 42 ["text"] (sp_program_flaw C) :=
  fnD_of F g (fn_ok F sc_program_flaw len_program_flaw (fun cdv A outer s H E c Ex hr ok => b_program_flaw (C := C) B K_ProgramReader M_ProgramReader_read_all MK_ProgramReader F_is_program_text F_need cdv A outer s H E c Ex hr ok) (pure_program_flaw (C := C))) (fun _ _ _ _ _ _ us hl => match us, hl with | [_], _ => rfl) (fun _ _ _ _ _ _ us hl => match us, hl with | [_], _ => rfl)
theorem mk_statements_of {P : Program} {w : World} {K : PySem.W.Frag} {mg : Str → Option Value} {base : Heap} {fA C : Addr} {R : Addr} (B : Blt mg)
    (K_ProgramReader : Cl_ProgramReader K R)
    (M_ProgramReader_read_all : MtD P w K mg base R "read_all" 41 ["self"] (sp_rd_all R))
    (MK_ProgramReader : MkD P w K mg base "ProgramReader" R 1 ["self", "text"] (sp_rd_init R))
    (F_is_program_text : FnD P w K mg base "is_program_text" 1 ["value"] sp_is_program_text) {fd : FuncData} (F : FunD K "statements_of" "statements_of" (defArgs s_statements_of) (defBody s_statements_of) (defScope s_statements_of) [] [] fA fd) (g : mg "statements_of" = some (.ref fA)) : FnD P w K mg base "statements_of" 42 ["text"] sp_statements_of :=
  fnD_of F g (fn_ok F sc_statements_of len_statements_of (fun cdv A outer s H E c Ex hr ok => b_statements_of (C := C) B K_ProgramReader M_ProgramReader_read_all MK_ProgramReader F_is_program_text cdv A outer s H E c Ex hr ok) (pure_statements_of (C := C))) (fun _ _ _ _ _ _ us hl => match us, hl with | [_], _ => rfl) (fun _ _ _ _ _ _ us hl => match us, hl with | [_], _ => rfl)
theorem mk_valid_statements {P : Program} {w : World} {K : PySem.W.Frag} {mg : Str → Option Value} {base : Heap} {fA C : Addr}  (B : Blt mg)
    (F_need : FnD P w K mg base "need" 3 ["is_valid", "name"] (sp_need C))
    (F_statements_of : FnD P w K mg base "statements_of" 42 ["text"] sp_statements_of) {fd : FuncData} (F : FunD K "valid_statements" "valid_statements" (defArgs s_valid_statements) (defBody s_valid_statements) (defScope s_valid_statements) [] [] fA fd) (g : mg "valid_statements" = some (.ref fA)) : FnD P w K mg base "valid_statements" 43 ["text"] (sp_valid_statements C) :=
  fnD_of F g (fn_ok F sc_valid_statements len_valid_statements (fun cdv A outer s H E c Ex hr ok => b_valid_statements (C := C) B F_need F_statements_of cdv A outer s H E c Ex hr ok) (pure_valid_statements (C := C))) (fun _ _ _ _ _ _ us hl => match us, hl with | [_], _ => rfl) (fun _ _ _ _ _ _ us hl => match us, hl with | [_], _ => rfl)
theorem mk_weight {P : Program} {w : World} {K : PySem.W.Frag} {mg : Str → Option Value} {base : Heap} {fA C : Addr}  (B : Blt mg)
    (F_valid_statements : FnD P w K mg base "valid_statements" 43 ["text"] (sp_valid_statements C))
    (F_weight_of : FnD P w K mg base "weight_of" 21 ["block"] (sp_weight_of 20)) {fd : FuncData} (F : FunD K "weight" "weight" (defArgs s_weight) (defBody s_weight) (defScope s_weight) [] [] fA fd) (g : mg "weight" = some (.ref fA)) : FnD P w K mg base "weight" 44 ["text"] (sp_weight C) :=
  fnD_of F g (fn_ok F sc_weight len_weight (fun cdv A outer s H E c Ex hr ok => b_weight (C := C) B F_valid_statements F_weight_of cdv A outer s H E c Ex hr ok) (pure_weight (C := C))) (fun _ _ _ _ _ _ us hl => match us, hl with | [_], _ => rfl) (fun _ _ _ _ _ _ us hl => match us, hl with | [_], _ => rfl)
theorem mk__law_taken {P : Program} {w : World} {K : PySem.W.Frag} {mg : Str → Option Value} {base : Heap} {fA C : Addr}  (B : Blt mg) {fd : FuncData} (F : FunD K "_law_taken" "_law_taken" (defArgs s__law_taken) (defBody s__law_taken) (defScope s__law_taken) [] [] fA fd) (g : mg "_law_taken" = some (.ref fA)) : FnD P w K mg base "_law_taken" 1 ["row", "many"] sp__law_taken :=
  fnD_of F g (fn_ok F sc__law_taken len__law_taken (fun cdv A outer s H E c Ex hr ok => b__law_taken (C := C) B cdv A outer s H E c Ex hr ok) (pure__law_taken (C := C))) (fun _ _ _ _ _ _ us hl => match us, hl with | [_, _], _ => rfl) (fun _ _ _ _ _ _ us hl => match us, hl with | [_, _], _ => rfl)
theorem mk__law_pick {P : Program} {w : World} {K : PySem.W.Frag} {mg : Str → Option Value} {base : Heap} {fA C : Addr}  (B : Blt mg)
    (F__law_taken : FnD P w K mg base "_law_taken" 1 ["row", "many"] sp__law_taken) {fd : FuncData} (F : FunD K "_law_pick" "_law_pick" (defArgs s__law_pick) (defBody s__law_pick) (defScope s__law_pick) [] [] fA fd) (g : mg "_law_pick" = some (.ref fA)) : FnD P w K mg base "_law_pick" 2 ["row", "some"] sp__law_pick :=
  fnD_of F g (fn_ok F sc__law_pick len__law_pick (fun cdv A outer s H E c Ex hr ok => b__law_pick (C := C) B F__law_taken cdv A outer s H E c Ex hr ok) (pure__law_pick (C := C))) (fun _ _ _ _ _ _ us hl => match us, hl with | [_, _], _ => rfl) (fun _ _ _ _ _ _ us hl => match us, hl with | [_, _], _ => rfl)
theorem mk__law_prog {P : Program} {w : World} {K : PySem.W.Frag} {mg : Str → Option Value} {base : Heap} {fA : Addr} (B : Blt mg)
    (F__law_pick : FnD P w K mg base "_law_pick" 2 ["row", "some"] sp__law_pick) {fd : FuncData} (F : FunD K "_law_prog" "_law_prog" (defArgs s__law_prog) (defBody s__law_prog) (defScope s__law_prog) [] [] fA fd) (g : mg "_law_prog" = some (.ref fA)) : ∀ n, FnD P w K mg base "_law_prog" (n + 3) ["row", "deep", "idle"] (sp__law_prog n)
  | 0 => fnD_of F g (fn_ok (k := 2) F sc__law_prog len__law_prog (fun cdv A outer s H E c Ex hr ok => b__law_prog (C := 0) B F__law_pick (fnD_no (k := 2) F g (fun _ _ _ _ _ _ us hl => match us, hl with | [_, _, _], _ => rfl) (fun _ _ _ _ _ _ us hl => match us, hl with | [_, _, _], _ => rfl)) cdv A outer s H E c Ex hr ok) (pure__law_prog (C := 0) 0 (fun h => absurd rfl h))) (fun _ _ _ _ _ _ us hl => match us, hl with | [_, _, _], _ => rfl) (fun _ _ _ _ _ _ us hl => match us, hl with | [_, _, _], _ => rfl)
  | n + 1 => fnD_of F g (fn_ok (k := n + 3) F sc__law_prog len__law_prog (fun cdv A outer s H E c Ex hr ok => b__law_prog (C := 0) B (F__law_pick.mono (by omega)) (mk__law_prog B F__law_pick F g n) cdv A outer s H E c Ex hr ok) (pure__law_prog (C := 0) (n + 1) (fun _ => rfl))) (fun _ _ _ _ _ _ us hl => match us, hl with | [_, _, _], _ => rfl) (fun _ _ _ _ _ _ us hl => match us, hl with | [_, _, _], _ => rfl)
theorem mk__law_write {P : Program} {w : World} {K : PySem.W.Frag} {mg : Str → Option Value} {base : Heap} {fA : Addr} (B : Blt mg) {fd : FuncData} (F : FunD K "_law_write" "_law_write" (defArgs s__law_write) (defBody s__law_write) (defScope s__law_write) [] [] fA fd) (g : mg "_law_write" = some (.ref fA)) : ∀ n, FnD P w K mg base "_law_write" (n + 1) ["block"] (sp__law_write n)
  | 0 => fnD_of F g (fn_ok (k := 0) F sc__law_write len__law_write (fun cdv A outer s H E c Ex hr ok => b__law_write (C := 0) B (fnD_no (k := 0) F g (fun _ _ _ _ _ _ us hl => match us, hl with | [_], _ => rfl) (fun _ _ _ _ _ _ us hl => match us, hl with | [_], _ => rfl)) cdv A outer s H E c Ex hr ok) (pure__law_write (C := 0) 0 (fun h => absurd rfl h))) (fun _ _ _ _ _ _ us hl => match us, hl with | [_], _ => rfl) (fun _ _ _ _ _ _ us hl => match us, hl with | [_], _ => rfl)
  | n + 1 => fnD_of F g (fn_ok (k := n + 1) F sc__law_write len__law_write (fun cdv A outer s H E c Ex hr ok => b__law_write (C := 0) B (mk__law_write B F g n) cdv A outer s H E c Ex hr ok) (pure__law_write (C := 0) (n + 1) (fun _ => rfl))) (fun _ _ _ _ _ _ us hl => match us, hl with | [_], _ => rfl) (fun _ _ _ _ _ _ us hl => match us, hl with | [_], _ => rfl)
theorem mk__law_weigh {P : Program} {w : World} {K : PySem.W.Frag} {mg : Str → Option Value} {base : Heap} {fA : Addr} (B : Blt mg) {fd : FuncData} (F : FunD K "_law_weigh" "_law_weigh" (defArgs s__law_weigh) (defBody s__law_weigh) (defScope s__law_weigh) [] [] fA fd) (g : mg "_law_weigh" = some (.ref fA)) : ∀ n, FnD P w K mg base "_law_weigh" (n + 1) ["block"] (sp__law_weigh n)
  | 0 => fnD_of F g (fn_ok (k := 0) F sc__law_weigh len__law_weigh (fun cdv A outer s H E c Ex hr ok => b__law_weigh (C := 0) B (fnD_no (k := 0) F g (fun _ _ _ _ _ _ us hl => match us, hl with | [_], _ => rfl) (fun _ _ _ _ _ _ us hl => match us, hl with | [_], _ => rfl)) cdv A outer s H E c Ex hr ok) (pure__law_weigh (C := 0) 0 (fun h => absurd rfl h))) (fun _ _ _ _ _ _ us hl => match us, hl with | [_], _ => rfl) (fun _ _ _ _ _ _ us hl => match us, hl with | [_], _ => rfl)
  | n + 1 => fnD_of F g (fn_ok (k := n + 1) F sc__law_weigh len__law_weigh (fun cdv A outer s H E c Ex hr ok => b__law_weigh (C := 0) B (mk__law_weigh B F g n) cdv A outer s H E c Ex hr ok) (pure__law_weigh (C := 0) (n + 1) (fun _ => rfl))) (fun _ _ _ _ _ _ us hl => match us, hl with | [_], _ => rfl) (fun _ _ _ _ _ _ us hl => match us, hl with | [_], _ => rfl)
theorem mk__law_see {P : Program} {w : World} {K : PySem.W.Frag} {mg : Str → Option Value} {base : Heap} {fA C : Addr}  (B : Blt mg) {fd : FuncData} (F : FunD K "_law_see" "_law_see" (defArgs s__law_see) (defBody s__law_see) (defScope s__law_see) [] [] fA fd) (g : mg "_law_see" = some (.ref fA)) : FnD P w K mg base "_law_see" 1 ["text", "state"] sp__law_see :=
  fnD_of F g (fn_ok F sc__law_see len__law_see (fun cdv A outer s H E c Ex hr ok => b__law_see (C := C) B cdv A outer s H E c Ex hr ok) (pure__law_see (C := C))) (fun _ _ _ _ _ _ us hl => match us, hl with | [_, _], _ => rfl) (fun _ _ _ _ _ _ us hl => match us, hl with | [_, _], _ => rfl)
theorem mk__law_take {P : Program} {w : World} {K : PySem.W.Frag} {mg : Str → Option Value} {base : Heap} {fA C : Addr}  (B : Blt mg)
    (F__law_see : FnD P w K mg base "_law_see" 1 ["text", "state"] sp__law_see) {fd : FuncData} (F : FunD K "_law_take" "_law_take" (defArgs s__law_take) (defBody s__law_take) (defScope s__law_take) [] [] fA fd) (g : mg "_law_take" = some (.ref fA)) : FnD P w K mg base "_law_take" 2 ["text", "state", "some"] sp__law_take :=
  fnD_of F g (fn_ok F sc__law_take len__law_take (fun cdv A outer s H E c Ex hr ok => b__law_take (C := C) B F__law_see cdv A outer s H E c Ex hr ok) (pure__law_take (C := C))) (fun _ _ _ _ _ _ us hl => match us, hl with | [_, _, _], _ => rfl) (fun _ _ _ _ _ _ us hl => match us, hl with | [_, _, _], _ => rfl)
theorem mk__law_read {P : Program} {w : World} {K : PySem.W.Frag} {mg : Str → Option Value} {base : Heap} {fA : Addr} (B : Blt mg)
    (F__law_take : FnD P w K mg base "_law_take" 2 ["text", "state", "some"] sp__law_take)
    (F__law_see : FnD P w K mg base "_law_see" 2 ["text", "state"] sp__law_see) {fd : FuncData} (F : FunD K "_law_read" "_law_read" (defArgs s__law_read) (defBody s__law_read) (defScope s__law_read) [] [] fA fd) (g : mg "_law_read" = some (.ref fA)) : ∀ n, FnD P w K mg base "_law_read" (n + 3) ["text", "state", "deep", "ends"] (sp__law_read n)
  | 0 => fnD_of F g (fn_ok (k := 2) F sc__law_read len__law_read (fun cdv A outer s H E c Ex hr ok => b__law_read (C := 0) B F__law_take (fnD_no (k := 2) F g (fun _ _ _ _ _ _ us hl => match us, hl with | [_, _, _, _], _ => rfl) (fun _ _ _ _ _ _ us hl => match us, hl with | [_, _, _, _], _ => rfl)) F__law_see cdv A outer s H E c Ex hr ok) (pure__law_read (C := 0) 0 (fun h => absurd rfl h))) (fun _ _ _ _ _ _ us hl => match us, hl with | [_, _, _, _], _ => rfl) (fun _ _ _ _ _ _ us hl => match us, hl with | [_, _, _, _], _ => rfl)
  | n + 1 => fnD_of F g (fn_ok (k := n + 3) F sc__law_read len__law_read (fun cdv A outer s H E c Ex hr ok => b__law_read (C := 0) B (F__law_take.mono (by omega)) (mk__law_read B F__law_take F__law_see F g n) (F__law_see.mono (by omega)) cdv A outer s H E c Ex hr ok) (pure__law_read (C := 0) (n + 1) (fun _ => rfl))) (fun _ _ _ _ _ _ us hl => match us, hl with | [_, _, _, _], _ => rfl) (fun _ _ _ _ _ _ us hl => match us, hl with | [_, _, _, _], _ => rfl)
theorem mk__law_flaw {P : Program} {w : World} {K : PySem.W.Frag} {mg : Str → Option Value} {base : Heap} {fA C : Addr}  (B : Blt mg)
    (F__law_see : FnD P w K mg base "_law_see" 1 ["text", "state"] sp__law_see)
    (F__law_read : FnD P w K mg base "_law_read" 16 ["text", "state", "deep", "ends"] (sp__law_read 9)) {fd : FuncData} (F : FunD K "_law_flaw" "_law_flaw" (defArgs s__law_flaw) (defBody s__law_flaw) (defScope s__law_flaw) [] [] fA fd) (g : mg "_law_flaw" = some (.ref fA)) : FnD P w K mg base "_law_flaw" 17 ["text"] sp__law_flaw :=
  fnD_of F g (fn_ok F sc__law_flaw len__law_flaw (fun cdv A outer s H E c Ex hr ok => b__law_flaw (C := C) B F__law_see F__law_read cdv A outer s H E c Ex hr ok) (pure__law_flaw (C := C))) (fun _ _ _ _ _ _ us hl => match us, hl with | [_], _ => rfl) (fun _ _ _ _ _ _ us hl => match us, hl with | [_], _ => rfl)
theorem mk__law_blanks {P : Program} {w : World} {K : PySem.W.Frag} {mg : Str → Option Value} {base : Heap} {fA C : Addr}  (B : Blt mg)
    (F__law_pick : FnD P w K mg base "_law_pick" 2 ["row", "some"] sp__law_pick) {fd : FuncData} (F : FunD K "_law_blanks" "_law_blanks" (defArgs s__law_blanks) (defBody s__law_blanks) (defScope s__law_blanks) [] [] fA fd) (g : mg "_law_blanks" = some (.ref fA)) : FnD P w K mg base "_law_blanks" 3 ["row", "text"] sp__law_blanks :=
  fnD_of F g (fn_ok F sc__law_blanks len__law_blanks (fun cdv A outer s H E c Ex hr ok => b__law_blanks (C := C) B F__law_pick cdv A outer s H E c Ex hr ok) (pure__law_blanks (C := C))) (fun _ _ _ _ _ _ us hl => match us, hl with | [_, _], _ => rfl) (fun _ _ _ _ _ _ us hl => match us, hl with | [_, _], _ => rfl)
theorem mk__law_spoilt {P : Program} {w : World} {K : PySem.W.Frag} {mg : Str → Option Value} {base : Heap} {fA C : Addr}  (B : Blt mg)
    (F__law_taken : FnD P w K mg base "_law_taken" 1 ["row", "many"] sp__law_taken)
    (F__law_pick : FnD P w K mg base "_law_pick" 2 ["row", "some"] sp__law_pick) {fd : FuncData} (F : FunD K "_law_spoilt" "_law_spoilt" (defArgs s__law_spoilt) (defBody s__law_spoilt) (defScope s__law_spoilt) [] [] fA fd) (g : mg "_law_spoilt" = some (.ref fA)) : FnD P w K mg base "_law_spoilt" 3 ["row", "text"] sp__law_spoilt :=
  fnD_of F g (fn_ok F sc__law_spoilt len__law_spoilt (fun cdv A outer s H E c Ex hr ok => b__law_spoilt (C := C) B F__law_taken F__law_pick cdv A outer s H E c Ex hr ok) (pure__law_spoilt (C := C))) (fun _ _ _ _ _ _ us hl => match us, hl with | [_, _], _ => rfl) (fun _ _ _ _ _ _ us hl => match us, hl with | [_, _], _ => rfl)
/-! ### the reader's methods -/
theorem len_rd_init {R : Addr} : ∀ ds G Q E, sp_rd_init R ds G Q E → ds.length = (["self", "text"] : List Str).length := fun _ _ _ _ ⟨_, _, e, _⟩ => by rw [e]; rfl
theorem len_rd_peek {R : Addr} : ∀ ds G Q E, sp_rd_peek R ds G Q E → ds.length = (["self"] : List Str).length := fun _ _ _ _ ⟨_, _, _, _, e, _⟩ => by rw [e]; rfl
theorem len_rd_take {R : Addr} : ∀ ds G Q E, sp_rd_take R ds G Q E → ds.length = (["self", "some"] : List Str).length := fun _ _ _ _ ⟨_, _, _, _, _, e, _⟩ => by rw [e]; rfl
theorem len_rd_enter {R : Addr} : ∀ ds G Q E, sp_rd_enter R ds G Q E → ds.length = (["self", "deep"] : List Str).length := fun _ _ _ _ ⟨_, _, _, _, _, e, _⟩ => by rw [e]; rfl
theorem len_rd_block {R : Addr} {n : Nat} : ∀ ds G Q E, sp_rd_block R n ds G Q E → ds.length = (["self", "deep", "ends"] : List Str).length := fun _ _ _ _ ⟨_, _, _, _, _, _, e, _⟩ => by rw [e]; rfl
theorem len_rd_stm {R : Addr} {n : Nat} : ∀ ds G Q E, sp_rd_stm R n ds G Q E → ds.length = (["self", "deep"] : List Str).length := fun _ _ _ _ ⟨_, _, _, _, _, e, _⟩ => by rw [e]; rfl
theorem len_rd_test {R : Addr} {n : Nat} : ∀ ds G Q E, sp_rd_test R n ds G Q E → ds.length = (["self", "deep"] : List Str).length := fun _ _ _ _ ⟨_, _, _, _, _, e, _⟩ => by rw [e]; rfl
theorem len_rd_all {R : Addr} : ∀ ds G Q E, sp_rd_all R ds G Q E → ds.length = (["self"] : List Str).length := fun _ _ _ _ ⟨_, _, _, e, _⟩ => by rw [e]; rfl
theorem mr_init {P : Program} {w : World} {K : PySem.W.Frag} {mg : Str → Option Value} {base : Heap} {R f : Addr} {fd : FuncData} (B : Blt mg)
    (K_ : Cl_ProgramReader K R)
    (F : FunD K "__init__" "ProgramReader.__init__" (defArgs s_ProgramReader___init__) (defBody s_ProgramReader___init__) (defScope s_ProgramReader___init__) [] [] f fd) (hg : mg "ProgramReader" = some (.ref R)) (hm : Mk K R f) : MkD P w K mg base "ProgramReader" R 1 ["self", "text"] (sp_rd_init R) :=
  mkD_of F hg hm (fn_ok F sc_ProgramReader___init__ len_rd_init (fun cdv A outer s H E c Ex hr ok => b_ProgramReader___init__ (C := 0) B K_ cdv A outer s H E c Ex hr ok) (pure_ProgramReader___init__ (C := 0))) (fun _ _ _ _ _ _ us hl => match us, hl with | [_, _], _ => rfl)
theorem mr_peek {P : Program} {w : World} {K : PySem.W.Frag} {mg : Str → Option Value} {base : Heap} {R f : Addr} {fd : FuncData} (B : Blt mg)
    (K_ : Cl_ProgramReader K R)
    (F : FunD K "peek" "ProgramReader.peek" (defArgs s_ProgramReader_peek) (defBody s_ProgramReader_peek) (defScope s_ProgramReader_peek) [] [] f fd) (hm : Meth K R "peek" f) : MtD P w K mg base R "peek" 1 ["self"] (sp_rd_peek R) :=
  mtD_of F hm (fn_ok F sc_ProgramReader_peek len_rd_peek (fun cdv A outer s H E c Ex hr ok => b_ProgramReader_peek (C := 0) B K_  cdv A outer s H E c Ex hr ok) (pure_ProgramReader_peek (C := 0))) (fun _ _ _ _ _ _ us hl => match us, hl with | [_], _ => rfl)
theorem mr_take {P : Program} {w : World} {K : PySem.W.Frag} {mg : Str → Option Value} {base : Heap} {R f : Addr} {fd : FuncData} (B : Blt mg)
    (K_ : Cl_ProgramReader K R) (M_peek : MtD P w K mg base R "peek" 1 ["self"] (sp_rd_peek R))
    (F : FunD K "take" "ProgramReader.take" (defArgs s_ProgramReader_take) (defBody s_ProgramReader_take) (defScope s_ProgramReader_take) [] [] f fd) (hm : Meth K R "take" f) : MtD P w K mg base R "take" 2 ["self", "some"] (sp_rd_take R) :=
  mtD_of F hm (fn_ok F sc_ProgramReader_take len_rd_take (fun cdv A outer s H E c Ex hr ok => b_ProgramReader_take (C := 0) B K_ M_peek cdv A outer s H E c Ex hr ok) (pure_ProgramReader_take (C := 0))) (fun _ _ _ _ _ _ us hl => match us, hl with | [_, _], _ => rfl)
theorem mr_enter {P : Program} {w : World} {K : PySem.W.Frag} {mg : Str → Option Value} {base : Heap} {R f : Addr} {fd : FuncData} (B : Blt mg)
    (K_ : Cl_ProgramReader K R) (M_take : MtD P w K mg base R "take" 2 ["self", "some"] (sp_rd_take R)) {t_MOST_DEEP : Tok} (c_MOST_DEEP : mg "MOST_DEEP" = some (.int (8) t_MOST_DEEP))
    (F : FunD K "enter" "ProgramReader.enter" (defArgs s_ProgramReader_enter) (defBody s_ProgramReader_enter) (defScope s_ProgramReader_enter) [] [] f fd) (hm : Meth K R "enter" f) : MtD P w K mg base R "enter" 3 ["self", "deep"] (sp_rd_enter R) :=
  mtD_of F hm (fn_ok F sc_ProgramReader_enter len_rd_enter (fun cdv A outer s H E c Ex hr ok => b_ProgramReader_enter (C := 0) B K_ M_take c_MOST_DEEP cdv A outer s H E c Ex hr ok) (pure_ProgramReader_enter (C := 0))) (fun _ _ _ _ _ _ us hl => match us, hl with | [_, _], _ => rfl)
theorem mr_read_all {P : Program} {w : World} {K : PySem.W.Frag} {mg : Str → Option Value} {base : Heap} {R f : Addr} {fd : FuncData} (B : Blt mg)
    (K_ : Cl_ProgramReader K R) (F_can_pass : FnD P w K mg base "can_pass" 21 ["block"] (sp_can_pass 20)) (M_block : MtD P w K mg base R "read_block" 40 ["self", "deep", "ends"] (sp_rd_block R 9))
    (F : FunD K "read_all" "ProgramReader.read_all" (defArgs s_ProgramReader_read_all) (defBody s_ProgramReader_read_all) (defScope s_ProgramReader_read_all) [] [] f fd) (hm : Meth K R "read_all" f) : MtD P w K mg base R "read_all" 41 ["self"] (sp_rd_all R) :=
  mtD_of F hm (fn_ok F sc_ProgramReader_read_all len_rd_all (fun cdv A outer s H E c Ex hr ok => b_ProgramReader_read_all (C := 0) B K_ F_can_pass M_block cdv A outer s H E c Ex hr ok) (pure_ProgramReader_read_all (C := 0))) (fun _ _ _ _ _ _ us hl => match us, hl with | [_], _ => rfl)
theorem mr_block {P : Program} {w : World} {K : PySem.W.Frag} {mg : Str → Option Value} {base : Heap} {R f : Addr} {fd : FuncData} (B : Blt mg)
    (K_ : Cl_ProgramReader K R)
    (F : FunD K "read_block" "ProgramReader.read_block" (defArgs s_ProgramReader_read_block) (defBody s_ProgramReader_read_block) (defScope s_ProgramReader_read_block) [] [] f fd) (hm : Meth K R "read_block" f) {n : Nat} {spS : DSp} (M_peek : MtD P w K mg base R "peek" 1 ["self"] (sp_rd_peek R)) (hS : n ≠ 0 → spS = sp_rd_stm R n) (M_stm : MtD P w K mg base R "read_statement" (3 * n + 3) ["self", "deep"] spS) : MtD P w K mg base R "read_block" (3 * n + 4) ["self", "deep", "ends"] (sp_rd_block R n) :=
  mtD_of F hm (fn_ok (k := 3 * n + 3) F sc_ProgramReader_read_block len_rd_block (fun cdv A outer s H E c Ex hr ok => b_ProgramReader_read_block (C := 0) B K_ (M_peek.mono (by omega)) M_stm cdv A outer s H E c Ex hr ok) (pure_ProgramReader_read_block (C := 0) n hS)) (fun _ _ _ _ _ _ us hl => match us, hl with | [_, _, _], _ => rfl)
theorem mr_test {P : Program} {w : World} {K : PySem.W.Frag} {mg : Str → Option Value} {base : Heap} {R f : Addr} {fd : FuncData} (B : Blt mg)
    (K_ : Cl_ProgramReader K R)
    (F : FunD K "read_test" "ProgramReader.read_test" (defArgs s_ProgramReader_read_test) (defBody s_ProgramReader_read_test) (defScope s_ProgramReader_read_test) [] [] f fd) (hm : Meth K R "read_test" f) {n : Nat} (M_take : MtD P w K mg base R "take" 2 ["self", "some"] (sp_rd_take R)) (M_enter : MtD P w K mg base R "enter" 3 ["self", "deep"] (sp_rd_enter R)) {t_MARKS : Tok} (c_MARKS : mg "MARKS" = some (.str ".1#!" t_MARKS)) {t_TEST : Tok} (c_TEST : mg "TEST" = some (.str "?" t_TEST))
    (M_block : MtD P w K mg base R "read_block" (3 * n + 4) ["self", "deep", "ends"] (sp_rd_block R n)) : MtD P w K mg base R "read_test" (3 * n + 5) ["self", "deep"] (sp_rd_test R n) :=
  mtD_of F hm (fn_ok (k := 3 * n + 4) F sc_ProgramReader_read_test len_rd_test (fun cdv A outer s H E c Ex hr ok => b_ProgramReader_read_test (C := 0) B K_ (M_take.mono (by omega)) M_block (M_enter.mono (by omega)) c_MARKS c_TEST cdv A outer s H E c Ex hr ok) (pure_ProgramReader_read_test (C := 0) n)) (fun _ _ _ _ _ _ us hl => match us, hl with | [_, _], _ => rfl)
theorem mr_stm {P : Program} {w : World} {K : PySem.W.Frag} {mg : Str → Option Value} {base : Heap} {R f : Addr} {fd : FuncData} (B : Blt mg)
    (K_ : Cl_ProgramReader K R)
    (F : FunD K "read_statement" "ProgramReader.read_statement" (defArgs s_ProgramReader_read_statement) (defBody s_ProgramReader_read_statement) (defScope s_ProgramReader_read_statement) [] [] f fd) (hm : Meth K R "read_statement" f) {n : Nat} (M_take : MtD P w K mg base R "take" 2 ["self", "some"] (sp_rd_take R)) (M_enter : MtD P w K mg base R "enter" 3 ["self", "deep"] (sp_rd_enter R)) {t_TEST : Tok} (c_TEST : mg "TEST" = some (.str "?" t_TEST)) {t_REPEAT : Tok} (c_REPEAT : mg "REPEAT" = some (.str "*" t_REPEAT)) {t_FOREVER : Tok} (c_FOREVER : mg "FOREVER" = some (.str "@" t_FOREVER))
    (M_block : MtD P w K mg base R "read_block" (3 * n + 4) ["self", "deep", "ends"] (sp_rd_block R n)) (M_test : MtD P w K mg base R "read_test" (3 * n + 5) ["self", "deep"] (sp_rd_test R n)) : MtD P w K mg base R "read_statement" (3 * n + 6) ["self", "deep"] (sp_rd_stm R (n + 1)) :=
  mtD_of F hm (fn_ok (k := 3 * n + 5) F sc_ProgramReader_read_statement len_rd_stm (fun cdv A outer s H E c Ex hr ok => b_ProgramReader_read_statement (C := 0) B K_ (M_take.mono (by omega)) (M_block.mono (by omega)) (M_enter.mono (by omega)) M_test c_TEST c_REPEAT c_FOREVER cdv A outer s H E c Ex hr ok) (pure_ProgramReader_read_statement (C := 0) n)) (fun _ _ _ _ _ _ us hl => match us, hl with | [_, _], _ => rfl)
theorem mr_blocks {P : Program} {w : World} {K : PySem.W.Frag} {mg : Str → Option Value} {base : Heap} {R fb fs ft : Addr} {db ds dt : FuncData} (B : Blt mg)
    (K_ : Cl_ProgramReader K R)
    (Fb : FunD K "read_block" "ProgramReader.read_block" (defArgs s_ProgramReader_read_block) (defBody s_ProgramReader_read_block) (defScope s_ProgramReader_read_block) [] [] fb db) (hb : Meth K R "read_block" fb)
    (Fs : FunD K "read_statement" "ProgramReader.read_statement" (defArgs s_ProgramReader_read_statement) (defBody s_ProgramReader_read_statement) (defScope s_ProgramReader_read_statement) [] [] fs ds) (hs : Meth K R "read_statement" fs)
    (Ft : FunD K "read_test" "ProgramReader.read_test" (defArgs s_ProgramReader_read_test) (defBody s_ProgramReader_read_test) (defScope s_ProgramReader_read_test) [] [] ft dt) (ht : Meth K R "read_test" ft)
    (M_peek : MtD P w K mg base R "peek" 1 ["self"] (sp_rd_peek R)) (M_take : MtD P w K mg base R "take" 2 ["self", "some"] (sp_rd_take R)) (M_enter : MtD P w K mg base R "enter" 3 ["self", "deep"] (sp_rd_enter R)) {t_MARKS : Tok} (c_MARKS : mg "MARKS" = some (.str ".1#!" t_MARKS)) {t_TEST : Tok} (c_TEST : mg "TEST" = some (.str "?" t_TEST)) {t_REPEAT : Tok} (c_REPEAT : mg "REPEAT" = some (.str "*" t_REPEAT)) {t_FOREVER : Tok} (c_FOREVER : mg "FOREVER" = some (.str "@" t_FOREVER)) :
    ∀ n, MtD P w K mg base R "read_block" (3 * n + 4) ["self", "deep", "ends"] (sp_rd_block R n)
  | 0 => mr_block B K_ Fb hb (n := 0) M_peek (fun h => absurd rfl h) (mtD_no (k := 3) Fs hs (fun _ _ _ _ _ _ us hl => match us, hl with | [_, _], _ => rfl))
  | n + 1 => by
    have ih := mr_blocks B K_ Fb hb Fs hs Ft ht M_peek M_take M_enter c_MARKS c_TEST c_REPEAT c_FOREVER n
    have tt := mr_test B K_ Ft ht M_take M_enter c_MARKS c_TEST ih
    have st := mr_stm B K_ Fs hs M_take M_enter c_TEST c_REPEAT c_FOREVER ih tt
    exact mr_block B K_ Fb hb (n := n + 1) M_peek (fun _ => rfl) st
theorem mk_plain_program {P : Program} {w : World} {K : PySem.W.Frag} {mg : Str → Option Value} {base : Heap} {fA fV C : Addr} (B : Blt mg) {fd fd2 : FuncData}
    (F_need : FnD P w K mg base "need" 3 ["is_valid", "name"] (sp_need C))
    (F_statements_of : FnD P w K mg base "statements_of" 42 ["text"] sp_statements_of)
    (FV : FunD K "valid_statements" "valid_statements" (defArgs s_valid_statements) (defBody s_valid_statements) (defScope s_valid_statements) [] [] fV fd2) (gV : mg "valid_statements" = some (.ref fV))
    (F : FunD K "plain_program" "plain_program" (defArgs s_plain_program) (defBody s_plain_program) (defScope s_plain_program) [] [] fA fd) (g : mg "plain_program" = some (.ref fA)) : FnD P w K mg base "plain_program" 44 ["text"] (sp_plain_program C) := by
  have F1 : FnD1 P w K mg base "valid_statements" 43 ["text"] (sp_valid_statements C) := ⟨fV, fd2, gV, FV.kp, FV.bindsN (fun _ _ _ _ _ _ us hl => match us, hl with | [_], _ => rfl), fn_ok1 FV sc_valid_statements len_valid_statements (fun cdv A outer s H E c Ex hr ok => b1_valid_statements (C := C) B F_need F_statements_of cdv A outer s H E c Ex hr ok) (pure_valid_statements (C := C))⟩
  exact fnD_of F g (fn_ok F sc_plain_program len_plain_program (fun cdv A outer s H E c Ex hr ok => b_plain_program (C := C) B F1 cdv A outer s H E c Ex hr ok) (pure_plain_program (C := C))) (fun _ _ _ _ _ _ us hl => match us, hl with | [_], _ => rfl) (fun _ _ _ _ _ _ us hl => match us, hl with | [_], _ => rfl)
theorem mk__law_alike {P : Program} {w : World} {K : PySem.W.Frag} {mg : Str → Option Value} {base : Heap} {fA : Addr} (B : Blt mg) {fd : FuncData} (F : FunD K "_law_alike" "_law_alike" (defArgs s__law_alike) (defBody s__law_alike) (defScope s__law_alike) [] [] fA fd) (g : mg "_law_alike" = some (.ref fA)) : ∀ n, FnD P w K mg base "_law_alike" (n + 1) ["found", "due"] (sp_alike n)
  | 0 => fnD_of F g (fn_ok F sc__law_alike len__law_alike (fun cdv A outer s H E c Ex hr ok => b__law_alike (C := 0) B (fnD_no (k := 0) F g (fun _ _ _ _ _ _ us hl => match us, hl with | [_, _], _ => rfl) (fun _ _ _ _ _ _ us hl => match us, hl with | [_, _], _ => rfl)) cdv A outer s H E c Ex hr ok) (pure__law_alike (C := 0) 0)) (fun _ _ _ _ _ _ us hl => match us, hl with | [_, _], _ => rfl) (fun _ _ _ _ _ _ us hl => match us, hl with | [_, _], _ => rfl)
  | n + 1 => fnD_of F g (fn_ok F sc__law_alike len__law_alike (fun cdv A outer s H E c Ex hr ok => b__law_alike (C := 0) B (mk__law_alike B F g n) cdv A outer s H E c Ex hr ok) (pure__law_alike (C := 0) (n + 1))) (fun _ _ _ _ _ _ us hl => match us, hl with | [_, _], _ => rfl) (fun _ _ _ _ _ _ us hl => match us, hl with | [_, _], _ => rfl)
def dd (i : Nat) (x : Str) : He.DefD := ⟨(x, none), x, x, defArgs (top i), defBody (top i), defScope (top i), [], []⟩
def fn : List He.DefD := [dd 3 "need", dd 14 "is_program_text", dd 16 "can_pass", dd 17 "weight_of", dd 18 "program_flaw", dd 19 "statements_of", dd 20 "valid_statements", dd 21 "weight", dd 22 "plain_program", dd 24 "_law_taken", dd 25 "_law_pick", dd 26 "_law_refused", dd 27 "_law_alike", dd 28 "_law_prog", dd 29 "_law_write", dd 30 "_law_weigh", dd 31 "_law_see", dd 32 "_law_take", dd 33 "_law_read", dd 34 "_law_flaw", dd 35 "_law_blanks", dd 36 "_law_spoilt", dd 37 "law", ⟨("ProgramReader", some "__init__"), "__init__", "ProgramReader.__init__", defArgs s_ProgramReader___init__, defBody s_ProgramReader___init__, defScope s_ProgramReader___init__, [], []⟩, ⟨("ProgramReader", some "peek"), "peek", "ProgramReader.peek", defArgs s_ProgramReader_peek, defBody s_ProgramReader_peek, defScope s_ProgramReader_peek, [], []⟩, ⟨("ProgramReader", some "take"), "take", "ProgramReader.take", defArgs s_ProgramReader_take, defBody s_ProgramReader_take, defScope s_ProgramReader_take, [], []⟩, ⟨("ProgramReader", some "enter"), "enter", "ProgramReader.enter", defArgs s_ProgramReader_enter, defBody s_ProgramReader_enter, defScope s_ProgramReader_enter, [], []⟩, ⟨("ProgramReader", some "read_block"), "read_block", "ProgramReader.read_block", defArgs s_ProgramReader_read_block, defBody s_ProgramReader_read_block, defScope s_ProgramReader_read_block, [], []⟩, ⟨("ProgramReader", some "read_statement"), "read_statement", "ProgramReader.read_statement", defArgs s_ProgramReader_read_statement, defBody s_ProgramReader_read_statement, defScope s_ProgramReader_read_statement, [], []⟩, ⟨("ProgramReader", some "read_test"), "read_test", "ProgramReader.read_test", defArgs s_ProgramReader_read_test, defBody s_ProgramReader_read_test, defScope s_ProgramReader_read_test, [], []⟩, ⟨("ProgramReader", some "read_all"), "read_all", "ProgramReader.read_all", defArgs s_ProgramReader_read_all, defBody s_ProgramReader_read_all, defScope s_ProgramReader_read_all, [], []⟩]
def fa : List He.Fa := [.glo "need", .glo "is_program_text", .glo "can_pass", .glo "weight_of", .glo "program_flaw", .glo "statements_of", .glo "valid_statements", .glo "weight", .glo "plain_program", .glo "_law_taken", .glo "_law_pick", .glo "_law_refused", .glo "_law_alike", .glo "_law_prog", .glo "_law_write", .glo "_law_weigh", .glo "_law_see", .glo "_law_take", .glo "_law_read", .glo "_law_flaw", .glo "_law_blanks", .glo "_law_spoilt", .glo "law", .glo "BadArgument", .free "len", .free "int", .free "bool", .free "str", .free "tuple", .free "list", .free "dict", .free "min", .free "isinstance", .free "all", .free "any", .free "range", .free "zip", .free "enumerate", .free "sorted", .free "super", .int "MOST_TEXT" (600), .int "MOST_DEEP" (8), .str "MARKS" ".1#!", .str "SEND" "s", .str "WAIT" "w", .str "STOP" "x", .str "TEST" "?", .str "REPEAT" "*", .str "FOREVER" "@", .glo "ProgramReader", .cls "ProgramReader", .noat "ProgramReader" "source", .noat "ProgramReader" "place", .noat "ProgramReader" "fault", .noat "ProgramReader" "loops", .meth "ProgramReader" "peek", .meth "ProgramReader" "take", .meth "ProgramReader" "enter", .meth "ProgramReader" "read_block", .meth "ProgramReader" "read_statement", .meth "ProgramReader" "read_test", .meth "ProgramReader" "read_all", .mkr "ProgramReader"]
abbrev prog : Program := PySem.Challenge.pw_channelshared_k16_whole_texts_of_program
abbrev tf : List He.Defn := [("law", none)]
def ex (K : PySem.W.Frag) : Bool := HX.errB prog "BadArgument" "name" "BadArgument.__init__" K
def es : List Str := ["BadArgument"]
def vs : List HX.FnC := [some ("__init__", "BadArgument.__init__", defArgs (HX.clsFn (top 2)), .stmts (defBody (HX.clsFn (top 2))), defScope (HX.clsFn (top 2)))]
abbrev R : PySem.W.OpenRow := PySem.W.OpenLaw.row PySem.Challenge.rw_channelshared_k16_whole_texts_of_program
abbrev hk : PySem.W.Hook := HX.hookZ 5 fa fn [] tf ex es vs
def ob (s : PySem.W.SharedT) : HX.AlZ := HX.obsZ 5 fa fn [] tf ex es (HandSHeadRun.getT s)
theorem ob_eq (s : PySem.W.SharedT) : ob s = hk.obs s.abs := HX.obsZ_eq (HandSHeadRun.getT_eq s)
theorem run (w : World) : HandSHeadRun.RunEq R (PySem.W.view R.prog [37]) hk ob 4000 [("ChannelError" : PySem.Str), ("BadArgument" : PySem.Str), ("need" : PySem.Str), ("MOST_TEXT" : PySem.Str), ("MOST_DEEP" : PySem.Str), ("MARKS" : PySem.Str), ("SEND" : PySem.Str), ("WAIT" : PySem.Str), ("STOP" : PySem.Str), ("TEST" : PySem.Str), ("REPEAT" : PySem.Str), ("FOREVER" : PySem.Str), ("is_program_text" : PySem.Str), ("ProgramReader" : PySem.Str), ("can_pass" : PySem.Str), ("weight_of" : PySem.Str), ("program_flaw" : PySem.Str), ("statements_of" : PySem.Str), ("valid_statements" : PySem.Str), ("weight" : PySem.Str), ("plain_program" : PySem.Str), ("_law_taken" : PySem.Str), ("_law_pick" : PySem.Str), ("_law_refused" : PySem.Str), ("_law_alike" : PySem.Str), ("_law_prog" : PySem.Str), ("_law_write" : PySem.Str), ("_law_weigh" : PySem.Str), ("_law_see" : PySem.Str), ("_law_take" : PySem.Str), ("_law_read" : PySem.Str), ("_law_flaw" : PySem.Str), ("_law_blanks" : PySem.Str), ("_law_spoilt" : PySem.Str)] w := by
  intro os
  kernel_rfl
section
variable {P : Program} {w : World} {K : PySem.W.Frag} {h : Heap} {mg : Str → Option Value} {f : Addr} (X : K.In h) (G : h.Ns mainGlobals mg) (c : HX.SaysZ fa fn [] tf ex es vs w h K)
include X G c
theorem blt : Blt mg := ⟨He.free_ok X G (c.x.t.d.fact 24 (f := .free "len") rfl), He.free_ok X G (c.x.t.d.fact 25 (f := .free "int") rfl), He.free_ok X G (c.x.t.d.fact 26 (f := .free "bool") rfl), He.free_ok X G (c.x.t.d.fact 27 (f := .free "str") rfl), He.free_ok X G (c.x.t.d.fact 28 (f := .free "tuple") rfl), He.free_ok X G (c.x.t.d.fact 29 (f := .free "list") rfl), He.free_ok X G (c.x.t.d.fact 30 (f := .free "dict") rfl), He.free_ok X G (c.x.t.d.fact 31 (f := .free "min") rfl), He.free_ok X G (c.x.t.d.fact 32 (f := .free "isinstance") rfl), He.free_ok X G (c.x.t.d.fact 33 (f := .free "all") rfl), He.free_ok X G (c.x.t.d.fact 34 (f := .free "any") rfl), He.free_ok X G (c.x.t.d.fact 35 (f := .free "range") rfl), He.free_ok X G (c.x.t.d.fact 36 (f := .free "zip") rfl), He.free_ok X G (c.x.t.d.fact 37 (f := .free "enumerate") rfl), He.free_ok X G (c.x.t.d.fact 38 (f := .free "sorted") rfl)⟩
theorem err_BadArgument : DX.ErrTxt prog K mg "BadArgument" "name" (He.ga K "BadArgument") (HX.ini K "BadArgument") (HX.cloOf K (HX.ini K "BadArgument")) (HX.cdOf K (HX.ini K "BadArgument")) "BadArgument.__init__" :=
  HX.err_ok X G (c.x.t.d.fact 23 (f := .glo "BadArgument") rfl) (c.x.t.d.fact 39 (f := .free "super") rfl) (by kernel_rfl) (List.cons.inj c.e).1 c.x.more (fun _ _ _ _ => ⟨_, rfl⟩) (fun _ _ _ _ => rfl) (fun _ _ _ _ => rfl)
theorem facts (hfa : mg ("law" : Str) = some (.ref f)) :
    ∃ fd : FuncData, (∀ (s : Shared) (v : Value), BindsTo s fd ⟨[v], []⟩ [("script", v)]) ∧ ∀ base : Heap, K.In base → base.Ns mainGlobals mg → LamX.TabB base mg (He.cT K ("law", none)).1 (He.cT K ("law", none)).2 → FnOk prog w K mg base (L2.CX prog w) 50 f fd ["script"] (liftSp K (sp_law (He.cT K ("law", none)).2)) := by
  have B := blt X G c
  have T_BadArgument := err_BadArgument X G c
  obtain ⟨fd_need, D_need⟩ := c.x.t.d.def_ 0 (d := dd 3 "need") rfl
  have G_need := He.glo_ok X G (c.x.t.d.fact 0 (f := .glo "need") rfl)
  obtain ⟨fd_is_program_text, D_is_program_text⟩ := c.x.t.d.def_ 1 (d := dd 14 "is_program_text") rfl
  have G_is_program_text := He.glo_ok X G (c.x.t.d.fact 1 (f := .glo "is_program_text") rfl)
  obtain ⟨fd_can_pass, D_can_pass⟩ := c.x.t.d.def_ 2 (d := dd 16 "can_pass") rfl
  have G_can_pass := He.glo_ok X G (c.x.t.d.fact 2 (f := .glo "can_pass") rfl)
  obtain ⟨fd_weight_of, D_weight_of⟩ := c.x.t.d.def_ 3 (d := dd 17 "weight_of") rfl
  have G_weight_of := He.glo_ok X G (c.x.t.d.fact 3 (f := .glo "weight_of") rfl)
  obtain ⟨fd_program_flaw, D_program_flaw⟩ := c.x.t.d.def_ 4 (d := dd 18 "program_flaw") rfl
  have G_program_flaw := He.glo_ok X G (c.x.t.d.fact 4 (f := .glo "program_flaw") rfl)
  obtain ⟨fd_statements_of, D_statements_of⟩ := c.x.t.d.def_ 5 (d := dd 19 "statements_of") rfl
  have G_statements_of := He.glo_ok X G (c.x.t.d.fact 5 (f := .glo "statements_of") rfl)
  obtain ⟨fd_valid_statements, D_valid_statements⟩ := c.x.t.d.def_ 6 (d := dd 20 "valid_statements") rfl
  have G_valid_statements := He.glo_ok X G (c.x.t.d.fact 6 (f := .glo "valid_statements") rfl)
  obtain ⟨fd_weight, D_weight⟩ := c.x.t.d.def_ 7 (d := dd 21 "weight") rfl
  have G_weight := He.glo_ok X G (c.x.t.d.fact 7 (f := .glo "weight") rfl)
  obtain ⟨fd_plain_program, D_plain_program⟩ := c.x.t.d.def_ 8 (d := dd 22 "plain_program") rfl
  have G_plain_program := He.glo_ok X G (c.x.t.d.fact 8 (f := .glo "plain_program") rfl)
  obtain ⟨fd__law_taken, D__law_taken⟩ := c.x.t.d.def_ 9 (d := dd 24 "_law_taken") rfl
  have G__law_taken := He.glo_ok X G (c.x.t.d.fact 9 (f := .glo "_law_taken") rfl)
  obtain ⟨fd__law_pick, D__law_pick⟩ := c.x.t.d.def_ 10 (d := dd 25 "_law_pick") rfl
  have G__law_pick := He.glo_ok X G (c.x.t.d.fact 10 (f := .glo "_law_pick") rfl)
  obtain ⟨fd__law_refused, D__law_refused⟩ := c.x.t.d.def_ 11 (d := dd 26 "_law_refused") rfl
  have G__law_refused := He.glo_ok X G (c.x.t.d.fact 11 (f := .glo "_law_refused") rfl)
  obtain ⟨fd__law_alike, D__law_alike⟩ := c.x.t.d.def_ 12 (d := dd 27 "_law_alike") rfl
  have G__law_alike := He.glo_ok X G (c.x.t.d.fact 12 (f := .glo "_law_alike") rfl)
  obtain ⟨fd__law_prog, D__law_prog⟩ := c.x.t.d.def_ 13 (d := dd 28 "_law_prog") rfl
  have G__law_prog := He.glo_ok X G (c.x.t.d.fact 13 (f := .glo "_law_prog") rfl)
  obtain ⟨fd__law_write, D__law_write⟩ := c.x.t.d.def_ 14 (d := dd 29 "_law_write") rfl
  have G__law_write := He.glo_ok X G (c.x.t.d.fact 14 (f := .glo "_law_write") rfl)
  obtain ⟨fd__law_weigh, D__law_weigh⟩ := c.x.t.d.def_ 15 (d := dd 30 "_law_weigh") rfl
  have G__law_weigh := He.glo_ok X G (c.x.t.d.fact 15 (f := .glo "_law_weigh") rfl)
  obtain ⟨fd__law_see, D__law_see⟩ := c.x.t.d.def_ 16 (d := dd 31 "_law_see") rfl
  have G__law_see := He.glo_ok X G (c.x.t.d.fact 16 (f := .glo "_law_see") rfl)
  obtain ⟨fd__law_take, D__law_take⟩ := c.x.t.d.def_ 17 (d := dd 32 "_law_take") rfl
  have G__law_take := He.glo_ok X G (c.x.t.d.fact 17 (f := .glo "_law_take") rfl)
  obtain ⟨fd__law_read, D__law_read⟩ := c.x.t.d.def_ 18 (d := dd 33 "_law_read") rfl
  have G__law_read := He.glo_ok X G (c.x.t.d.fact 18 (f := .glo "_law_read") rfl)
  obtain ⟨fd__law_flaw, D__law_flaw⟩ := c.x.t.d.def_ 19 (d := dd 34 "_law_flaw") rfl
  have G__law_flaw := He.glo_ok X G (c.x.t.d.fact 19 (f := .glo "_law_flaw") rfl)
  obtain ⟨fd__law_blanks, D__law_blanks⟩ := c.x.t.d.def_ 20 (d := dd 35 "_law_blanks") rfl
  have G__law_blanks := He.glo_ok X G (c.x.t.d.fact 20 (f := .glo "_law_blanks") rfl)
  obtain ⟨fd__law_spoilt, D__law_spoilt⟩ := c.x.t.d.def_ 21 (d := dd 36 "_law_spoilt") rfl
  have G__law_spoilt := He.glo_ok X G (c.x.t.d.fact 21 (f := .glo "_law_spoilt") rfl)
  obtain ⟨fd_law, D_law⟩ := c.x.t.d.def_ 22 (d := dd 37 "law") rfl
  have G_law := He.glo_ok X G (c.x.t.d.fact 22 (f := .glo "law") rfl)
  obtain ⟨t_MOST_TEXT, c_MOST_TEXT⟩ := He.int_ok X G (c.x.t.d.fact 40 (f := .int "MOST_TEXT" (600)) rfl)
  obtain ⟨t_MOST_DEEP, c_MOST_DEEP⟩ := He.int_ok X G (c.x.t.d.fact 41 (f := .int "MOST_DEEP" (8)) rfl)
  obtain ⟨t_MARKS, c_MARKS⟩ := He.str_ok X G (c.x.t.d.fact 42 (f := .str "MARKS" ".1#!") rfl)
  obtain ⟨t_SEND, c_SEND⟩ := He.str_ok X G (c.x.t.d.fact 43 (f := .str "SEND" "s") rfl)
  obtain ⟨t_WAIT, c_WAIT⟩ := He.str_ok X G (c.x.t.d.fact 44 (f := .str "WAIT" "w") rfl)
  obtain ⟨t_STOP, c_STOP⟩ := He.str_ok X G (c.x.t.d.fact 45 (f := .str "STOP" "x") rfl)
  obtain ⟨t_TEST, c_TEST⟩ := He.str_ok X G (c.x.t.d.fact 46 (f := .str "TEST" "?") rfl)
  obtain ⟨t_REPEAT, c_REPEAT⟩ := He.str_ok X G (c.x.t.d.fact 47 (f := .str "REPEAT" "*") rfl)
  obtain ⟨t_FOREVER, c_FOREVER⟩ := He.str_ok X G (c.x.t.d.fact 48 (f := .str "FOREVER" "@") rfl)
  have e := hfa.symm.trans G_law
  cases e
  have bl := FunD.bindsA (ps := ["script"]) D_law fun _ _ _ _ _ _ us hl => match us, hl with | [_], _ => rfl
  have hcode := HX.code_of D_law
  refine ⟨fd_law, fun s v => bl s [v] rfl, fun base Kb Gb TB => ?_⟩
  have K_ProgramReader : Cl_ProgramReader K (He.ga K "ProgramReader") := ⟨He.cls_ok (c.x.t.d.fact 50 (f := .cls "ProgramReader") rfl), He.noat_ok (c.x.t.d.fact 51 (f := .noat "ProgramReader" "source") rfl), He.noat_ok (c.x.t.d.fact 52 (f := .noat "ProgramReader" "place") rfl), He.noat_ok (c.x.t.d.fact 53 (f := .noat "ProgramReader" "fault") rfl), He.noat_ok (c.x.t.d.fact 54 (f := .noat "ProgramReader" "loops") rfl)⟩
  have G_ProgramReader := He.glo_ok X G (c.x.t.d.fact 49 (f := .glo "ProgramReader") rfl)
  obtain ⟨fd_ProgramReader___init__, D_ProgramReader___init__⟩ := c.x.t.d.def_ 23 (d := ⟨("ProgramReader", some "__init__"), "__init__", "ProgramReader.__init__", defArgs s_ProgramReader___init__, defBody s_ProgramReader___init__, defScope s_ProgramReader___init__, [], []⟩) rfl
  have R_ProgramReader___init__ := He.mkr_ok (c.x.t.d.fact 62 (f := .mkr "ProgramReader") rfl)
  obtain ⟨fd_ProgramReader_peek, D_ProgramReader_peek⟩ := c.x.t.d.def_ 24 (d := ⟨("ProgramReader", some "peek"), "peek", "ProgramReader.peek", defArgs s_ProgramReader_peek, defBody s_ProgramReader_peek, defScope s_ProgramReader_peek, [], []⟩) rfl
  have R_ProgramReader_peek := He.meth_ok (c.x.t.d.fact 55 (f := .meth "ProgramReader" "peek") rfl)
  obtain ⟨fd_ProgramReader_take, D_ProgramReader_take⟩ := c.x.t.d.def_ 25 (d := ⟨("ProgramReader", some "take"), "take", "ProgramReader.take", defArgs s_ProgramReader_take, defBody s_ProgramReader_take, defScope s_ProgramReader_take, [], []⟩) rfl
  have R_ProgramReader_take := He.meth_ok (c.x.t.d.fact 56 (f := .meth "ProgramReader" "take") rfl)
  obtain ⟨fd_ProgramReader_enter, D_ProgramReader_enter⟩ := c.x.t.d.def_ 26 (d := ⟨("ProgramReader", some "enter"), "enter", "ProgramReader.enter", defArgs s_ProgramReader_enter, defBody s_ProgramReader_enter, defScope s_ProgramReader_enter, [], []⟩) rfl
  have R_ProgramReader_enter := He.meth_ok (c.x.t.d.fact 57 (f := .meth "ProgramReader" "enter") rfl)
  obtain ⟨fd_ProgramReader_read_block, D_ProgramReader_read_block⟩ := c.x.t.d.def_ 27 (d := ⟨("ProgramReader", some "read_block"), "read_block", "ProgramReader.read_block", defArgs s_ProgramReader_read_block, defBody s_ProgramReader_read_block, defScope s_ProgramReader_read_block, [], []⟩) rfl
  have R_ProgramReader_read_block := He.meth_ok (c.x.t.d.fact 58 (f := .meth "ProgramReader" "read_block") rfl)
  obtain ⟨fd_ProgramReader_read_statement, D_ProgramReader_read_statement⟩ := c.x.t.d.def_ 28 (d := ⟨("ProgramReader", some "read_statement"), "read_statement", "ProgramReader.read_statement", defArgs s_ProgramReader_read_statement, defBody s_ProgramReader_read_statement, defScope s_ProgramReader_read_statement, [], []⟩) rfl
  have R_ProgramReader_read_statement := He.meth_ok (c.x.t.d.fact 59 (f := .meth "ProgramReader" "read_statement") rfl)
  obtain ⟨fd_ProgramReader_read_test, D_ProgramReader_read_test⟩ := c.x.t.d.def_ 29 (d := ⟨("ProgramReader", some "read_test"), "read_test", "ProgramReader.read_test", defArgs s_ProgramReader_read_test, defBody s_ProgramReader_read_test, defScope s_ProgramReader_read_test, [], []⟩) rfl
  have R_ProgramReader_read_test := He.meth_ok (c.x.t.d.fact 60 (f := .meth "ProgramReader" "read_test") rfl)
  obtain ⟨fd_ProgramReader_read_all, D_ProgramReader_read_all⟩ := c.x.t.d.def_ 30 (d := ⟨("ProgramReader", some "read_all"), "read_all", "ProgramReader.read_all", defArgs s_ProgramReader_read_all, defBody s_ProgramReader_read_all, defScope s_ProgramReader_read_all, [], []⟩) rfl
  have R_ProgramReader_read_all := He.meth_ok (c.x.t.d.fact 61 (f := .meth "ProgramReader" "read_all") rfl)
  have F_need := mk_need (P := prog) (w := w) (base := base) (C := He.ga K "BadArgument") B T_BadArgument D_need G_need
  have F_is_program_text := mk_is_program_text (P := prog) (w := w) (base := base) (C := He.ga K "BadArgument") B c_MOST_TEXT D_is_program_text G_is_program_text
  have F_can_pass := (mk_can_pass (P := prog) (w := w) (base := base) B c_SEND c_WAIT c_STOP c_FOREVER c_REPEAT c_TEST D_can_pass G_can_pass 20).mono (show 21 ≤ 21 by decide)
  have F_weight_of := (mk_weight_of (P := prog) (w := w) (base := base) B c_REPEAT c_TEST c_FOREVER D_weight_of G_weight_of 20).mono (show 21 ≤ 21 by decide)
  have F__law_taken := mk__law_taken (P := prog) (w := w) (base := base) (C := He.ga K "BadArgument") B D__law_taken G__law_taken
  have F__law_pick := mk__law_pick (P := prog) (w := w) (base := base) (C := He.ga K "BadArgument") B F__law_taken D__law_pick G__law_pick
  have F__law_alike := (mk__law_alike (P := prog) (w := w) (base := base) B D__law_alike G__law_alike 4).mono (show 5 ≤ 8 by decide)
  have F__law_prog := (mk__law_prog (P := prog) (w := w) (base := base) B (F__law_pick.mono (by decide)) D__law_prog G__law_prog 4).mono (show 7 ≤ 8 by decide)
  have F__law_write := (mk__law_write (P := prog) (w := w) (base := base) B D__law_write G__law_write 4).mono (show 5 ≤ 8 by decide)
  have F__law_weigh := (mk__law_weigh (P := prog) (w := w) (base := base) B D__law_weigh G__law_weigh 4).mono (show 5 ≤ 8 by decide)
  have F__law_see := mk__law_see (P := prog) (w := w) (base := base) (C := He.ga K "BadArgument") B D__law_see G__law_see
  have F__law_take := mk__law_take (P := prog) (w := w) (base := base) (C := He.ga K "BadArgument") B F__law_see D__law_take G__law_take
  have F__law_read := (mk__law_read (P := prog) (w := w) (base := base) B (F__law_take.mono (by decide)) (F__law_see.mono (by decide)) D__law_read G__law_read 9).mono (show 12 ≤ 16 by decide)
  have F__law_flaw := mk__law_flaw (P := prog) (w := w) (base := base) (C := He.ga K "BadArgument") B F__law_see F__law_read D__law_flaw G__law_flaw
  have F__law_blanks := mk__law_blanks (P := prog) (w := w) (base := base) (C := He.ga K "BadArgument") B F__law_pick D__law_blanks G__law_blanks
  have F__law_spoilt := mk__law_spoilt (P := prog) (w := w) (base := base) (C := He.ga K "BadArgument") B F__law_taken F__law_pick D__law_spoilt G__law_spoilt
  have MK_ProgramReader := mr_init (P := prog) (w := w) (base := base) B K_ProgramReader D_ProgramReader___init__ G_ProgramReader R_ProgramReader___init__
  have M_ProgramReader_peek := mr_peek (P := prog) (w := w) (base := base) B K_ProgramReader D_ProgramReader_peek R_ProgramReader_peek
  have M_ProgramReader_take := mr_take B K_ProgramReader M_ProgramReader_peek D_ProgramReader_take R_ProgramReader_take
  have M_ProgramReader_enter := mr_enter B K_ProgramReader M_ProgramReader_take c_MOST_DEEP D_ProgramReader_enter R_ProgramReader_enter
  have M_ProgramReader_read_block := (mr_blocks B K_ProgramReader D_ProgramReader_read_block R_ProgramReader_read_block D_ProgramReader_read_statement R_ProgramReader_read_statement D_ProgramReader_read_test R_ProgramReader_read_test M_ProgramReader_peek M_ProgramReader_take M_ProgramReader_enter c_MARKS c_TEST c_REPEAT c_FOREVER 9).mono (show 3 * 9 + 4 ≤ 40 by decide)
  have M_ProgramReader_read_all := mr_read_all B K_ProgramReader F_can_pass M_ProgramReader_read_block D_ProgramReader_read_all R_ProgramReader_read_all
  have F_program_flaw := mk_program_flaw (P := prog) (w := w) (base := base) (C := He.ga K "BadArgument") B K_ProgramReader M_ProgramReader_read_all MK_ProgramReader F_is_program_text F_need D_program_flaw G_program_flaw
  have F_statements_of := mk_statements_of (P := prog) (w := w) (base := base) (C := He.ga K "BadArgument") B K_ProgramReader M_ProgramReader_read_all MK_ProgramReader F_is_program_text D_statements_of G_statements_of
  have F_valid_statements := mk_valid_statements (P := prog) (w := w) (base := base) (C := He.ga K "BadArgument") B F_need F_statements_of D_valid_statements G_valid_statements
  have F_weight := mk_weight (P := prog) (w := w) (base := base) (C := He.ga K "BadArgument") B F_valid_statements F_weight_of D_weight G_weight
  have F_plain_program := mk_plain_program (C := He.ga K "BadArgument") B F_need F_statements_of D_valid_statements G_valid_statements D_plain_program G_plain_program
  have hb := D__law_refused.bindsN (ps := ["call"]) fun _ _ _ _ _ _ us hl => match us, hl with | [_], _ => rfl
  have kp := D__law_refused.kp
  obtain ⟨oc, od, dV, kV, doc, pm, an, cdv0, ct, osl, rfl, lk, hcd, _, _⟩ := D__law_refused.ex
  exact fn_okC D_law sc_law len_law (fun cdv A outer s H E c Ex hc hr ok => b_law (C := He.ga K "BadArgument") B F_plain_program F_weight F_program_flaw F__law_pick F__law_alike F__law_flaw F__law_spoilt F__law_weigh F__law_blanks F__law_write F__law_taken F__law_prog T_BadArgument G__law_refused kp lk hcd hb TB cdv A outer s H E c Ex (hc.symm.trans hcode) hr ok) (pure_law (C := He.ga K "BadArgument"))
end
end KL
open PySem PySem.W PySem.Calls PyProof.Rows
theorem PySem.Challenge.cw_channelshared_k16_whole_texts_of_program_holds : PySem.Challenge.rw_channelshared_k16_whole_texts_of_program.Holds := by
  w_on; o_law
  refine HandSHeadRun.head_any (r := OpenLaw.row PySem.Challenge.rw_channelshared_k16_whole_texts_of_program) (q := view (OpenLaw.row PySem.Challenge.rw_channelshared_k16_whole_texts_of_program).prog [37]) (H := KL.hk) (ob := KL.ob) (M := 4000) (loose := [("ChannelError" : PySem.Str), ("BadArgument" : PySem.Str), ("need" : PySem.Str), ("MOST_TEXT" : PySem.Str), ("MOST_DEEP" : PySem.Str), ("MARKS" : PySem.Str), ("SEND" : PySem.Str), ("WAIT" : PySem.Str), ("STOP" : PySem.Str), ("TEST" : PySem.Str), ("REPEAT" : PySem.Str), ("FOREVER" : PySem.Str), ("is_program_text" : PySem.Str), ("ProgramReader" : PySem.Str), ("can_pass" : PySem.Str), ("weight_of" : PySem.Str), ("program_flaw" : PySem.Str), ("statements_of" : PySem.Str), ("valid_statements" : PySem.Str), ("weight" : PySem.Str), ("plain_program" : PySem.Str), ("_law_taken" : PySem.Str), ("_law_pick" : PySem.Str), ("_law_refused" : PySem.Str), ("_law_alike" : PySem.Str), ("_law_prog" : PySem.Str), ("_law_write" : PySem.Str), ("_law_weigh" : PySem.Str), ("_law_see" : PySem.Str), ("_law_take" : PySem.Str), ("_law_read" : PySem.Str), ("_law_flaw" : PySem.Str), ("_law_blanks" : PySem.Str), ("_law_spoilt" : PySem.Str)]) (d := HandSHeadRun.topDef (OpenLaw.row PySem.Challenge.rw_channelshared_k16_whole_texts_of_program).prog 37) (kwd := []) KL.ob_eq
    (by kernel_rfl) (fun s => by kernel_rfl) KL.run (by kernel_rfl) (by kernel_rfl) (by kernel_rfl) (by rfl) (by first | assumption | decide +kernel) (by decide +kernel) ⟨rfl, rfl, rfl, rfl, rfl, by decide +kernel⟩ ?hw ?hc
  case hw => w_witness2
  case hc =>
    refine LamX.walk_ofTsE (l := PySem.Challenge.rw_channelshared_k16_whole_texts_of_program) (n := 63) (k := 50) (x := "script") (CX := fun w => L2.CX KL.prog w) rfl (by decide) (by kernel_rfl) ⟨rfl, by decide, by decide⟩ ?F (fun w H s e s' => HX.cx_out)
    intro w mg fa h Y G hmg0
    obtain ⟨K, KX, c⟩ := Y
    have hmg : mg ("law" : PySem.Str) = some (.ref fa) := by
      have e : (HandSHeadRun.topDef (OpenLaw.row PySem.Challenge.rw_channelshared_k16_whole_texts_of_program).prog 37).name = ("law" : PySem.Str) := by kernel_rfl
      rw [← e]
      exact hmg0
    obtain ⟨fd, hb, hF⟩ := KL.facts KX G c hmg
    refine ⟨K, KX, fd, [He.cT K ("law", none)], _, fun p hp => ?_, fun p hp => ?_, fun p hp => ?_, hb, fun H a ns hn _ hH hS => ?_, fun base Kb Gb TB => hF base Kb Gb (TB _ (List.mem_singleton.mpr rfl))⟩
    · exact c.x.empty ("law", none) (List.mem_singleton.mpr rfl) |> fun e => by rw [List.mem_singleton.mp hp]; exact e
    · exact c.x.out ("law", none) (List.mem_singleton.mpr rfl) |> fun e => by rw [List.mem_singleton.mp hp]; exact e
    · have e := codeHd_of_K KX (c.x.hd ("law", none) (List.mem_singleton.mpr rfl))
      rw [List.mem_singleton.mp hp]
      exact e
    · exact HX.script_sp (hH _ (List.mem_singleton.mpr rfl)) hS fun l GG ot => ⟨⟨ns, l⟩, rfl, Nat.le_trans hn (by decide), ot, fun _ => rfl⟩

end

