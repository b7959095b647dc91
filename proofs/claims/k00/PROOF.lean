import PyProof.Rows.All
import Wide.All
import OpenK.AllK
import Wide.FinOn
import HandS.ForMost
import KE.DataEq
import HandS.TupAny
import HandS.Defaults
import HandS.HeadHook2
import HandS.SortInts
import HandS.DictComp
import KE.KDictCopyH
import HandS.TupSets
import HandS.DictTup
import KE.KDictList
import PyProof.TupleOfGen
import PyProof.EnumMake
import HandS.FStr
import HandS.IsInst
import HandS.Codes
import KE.KFmtOwn
import HandS.OwnIter
import HandS.IterVal
import HandS.ClsMeth
import HandS.Property
import HandS.HeadNt
import HandS.ForExc
import HandS.ExcInit
import HandS.ExcField
import HandS.ExcIs
import KE.KExcInit
import KE.KStateDown
import HandS.Head0
import HandS.Head1
import HandS.Head2
import HandS.HeadEnd
import HandS.HeadHook1
import Lean
import PySem.Challenge.RW_smallclash_k00_book_texts_there_and_back
set_option Elab.async false
set_option linter.all false
set_option maxRecDepth 100000
set_option maxHeartbeats 2000000
/-! Fz: frozen heaps. G says what is known for good of the objects that nobody changes any more (a list or tuple that is finished; a thing with caches by what stays true of it). -/
namespace Fz
open PySem PySem.Spec PyProof.Rows L2

/-! ### frozen heaps and growth -/
abbrev GH := Addr → Option (HO → Prop)
def isO (o : HO) : HO → Prop := fun x => x = o
def updG (G : GH) (a : Addr) (φ : HO → Prop) : GH := fun b => if b = a then some φ else G b
theorem updG_same {G : GH} {a : Addr} {φ : HO → Prop} : updG G a φ a = some φ := by unfold updG; rw [if_pos rfl]
theorem updG_ne {G : GH} {a b : Addr} {φ : HO → Prop} (h : b ≠ a) : updG G a φ b = G b := by unfold updG; rw [if_neg h]
def Sub (G G' : GH) : Prop := ∀ a φ, G a = some φ → G' a = some φ
theorem Sub.refl (G : GH) : Sub G G := fun _ _ h => h
theorem Sub.trans {G G1 G2 : GH} (a : Sub G G1) (b : Sub G1 G2) : Sub G G2 := fun x φ h => b x φ (a x φ h)
theorem Sub.upd {G : GH} {a : Addr} {φ : HO → Prop} (h : G a = none) : Sub G (updG G a φ) := fun b ψ e => by
  by_cases hb : b = a
  · rw [hb, h] at e; cases e
  · rw [updG_ne hb]; exact e
/-- no tuple -/
def NT (o : HO) : Prop := ∀ xs, o ≠ .tup xs
/-- what G says is so; of a tuple it says all -/
def Fit (G : GH) (H : Hp) : Prop := ∀ a φ, G a = some φ → ∃ o, H a = some o ∧ φ o ∧ ∀ xs, o = .tup xs → φ = isO o
theorem Fit.at' {G : GH} {H : Hp} {a : Addr} {o : HO} (f : Fit G H) (h : G a = some (isO o)) : H a = some o := by
  obtain ⟨u, e, p, _⟩ := f a _ h
  rw [e, show u = o from p]
theorem Fit.none {G : GH} {H : Hp} {a : Addr} (f : Fit G H) (h : H a = Option.none) : G a = Option.none := by
  cases e : G a with
  | none => rfl
  | some φ => obtain ⟨o, q, _⟩ := f a φ e; rw [h] at q; cases q
/-- from (G, H) to (G', H'): what was frozen stays so, what was not is not frozen now (but for tuples), and is as it was but at mx; tuples stay -/
structure Gr (mx : List Addr) (G : GH) (H : Hp) (G' : GH) (H' : Hp) : Prop where
  sub : Sub G G'
  fit : Fit G' H'
  own : ∀ a o, G a = none → H a = some o → NT o → G' a = none ∧ (∃ o', H' a = some o' ∧ NT o') ∧ (a ∉ mx → H' a = some o)
  tup : ∀ a xs, H a = some (.tup xs) → H' a = some (.tup xs)
section
variable {mx mx' mx2 : List Addr} {G G1 G2 G' : GH} {H H1 H2 H' : Hp} {a b p : Addr} {o u : HO} {φ : HO → Prop}
theorem Gr.refl (f : Fit G H) : Gr mx G H G H := ⟨Sub.refl G, f, fun _ _ n h nt => ⟨n, ⟨_, h, nt⟩, fun _ => h⟩, fun _ _ h => h⟩
theorem Gr.trans' (x : Gr mx G H G1 H1) (y : Gr mx' G1 H1 G2 H2) (hm : ∀ a ∈ mx', a ∈ mx ∨ H a = none) : Gr mx G H G2 H2 :=
  ⟨x.sub.trans y.sub, y.fit, (fun a o n h nt => by
    obtain ⟨n1, ⟨o1, h1, nt1⟩, k1⟩ := x.own a o n h nt
    obtain ⟨n2, e2, k2⟩ := y.own a o1 n1 h1 nt1
    refine ⟨n2, e2, fun hm1 => ?_⟩
    have e1 := k1 hm1
    rw [h1] at e1
    cases e1
    exact k2 fun z => (hm a z).elim hm1 fun q => by rw [h] at q; cases q), fun a xs h => y.tup a xs (x.tup a xs h)⟩
theorem Gr.trans (x : Gr mx G H G1 H1) (y : Gr mx G1 H1 G2 H2) : Gr mx G H G2 H2 := x.trans' y fun _ h => .inl h
theorem Gr.trans0 (x : Gr mx G H G1 H1) (y : Gr [] G1 H1 G2 H2) : Gr mx G H G2 H2 := x.trans' y fun _ h => nomatch h
theorem Gr.trans1 (x : Gr [] G H G1 H1) (y : Gr mx G1 H1 G2 H2) : Gr mx G H G2 H2 :=
  ⟨x.sub.trans y.sub, y.fit, fun a o n h nt => by
    obtain ⟨n1, _, k1⟩ := x.own a o n h nt
    obtain ⟨n2, e2, k2⟩ := y.own a o n1 (k1 (by simp)) nt
    exact ⟨n2, e2, k2⟩, fun a xs h => y.tup a xs (x.tup a xs h)⟩
theorem Gr.mono (x : Gr mx G H G1 H1) (h : ∀ a ∈ mx, a ∈ mx') : Gr mx' G H G1 H1 := ⟨x.sub, x.fit, fun a o n e nt => let ⟨n1, e1, k1⟩ := x.own a o n e nt; ⟨n1, e1, fun z => k1 fun q => z (h a q)⟩, x.tup⟩
theorem Gr.any (x : Gr [] G H G1 H1) : Gr mx G H G1 H1 := x.mono fun _ h => nomatch h
theorem nt_or (o : HO) : NT o ∨ ∃ xs, o = .tup xs := by
  cases o with
  | tup xs => exact .inr ⟨xs, rfl⟩
  | _ => exact .inl (fun _ h => nomatch h)
theorem Gr.free (x : Gr mx G H G1 H1) (f : Fit G H) (h : H1 a = none) : H a = none := by
  cases e : H a with
  | none => rfl
  | some o =>
    rcases nt_or o with nt | ⟨xs, rfl⟩
    · cases q : G a with
      | none => obtain ⟨_, ⟨o', e', _⟩, _⟩ := x.own a o q e nt; rw [h] at e'; cases e'
      | some φ => obtain ⟨o', e', _⟩ := x.fit a φ (x.sub a φ q); rw [h] at e'; cases e'
    · have e' := x.tup a xs e; rw [h] at e'; cases e'
/-- an owned object that the step leaves -/
theorem Gr.at_ (x : Gr mx G H G1 H1) (n : G a = none) (h : H a = some o) (hm : a ∉ mx := by simp) (nt : NT o := by intro _ h; cases h) : H1 a = some o := (x.own a o n h nt).2.2 hm
theorem Gr.at0 (x : Gr [] G H G1 H1) (n : G a = none) (h : H a = some o) (nt : NT o := by intro _ h; cases h) : H1 a = some o := (x.own a o n h nt).2.2 (by simp)
theorem Gr.un (x : Gr mx G H G1 H1) (n : G a = none) (h : H a = some o) (nt : NT o := by intro _ h; cases h) : G1 a = none := (x.own a o n h nt).1
/-- a new object -/
theorem Gr.new (f : Fit G H) (h : H a = none) : Gr mx G H G (upd H a o) := ⟨Sub.refl G, fun b φ e => by
    obtain ⟨u, q, p⟩ := f b φ e
    exact ⟨u, by rw [upd_ne (ne_of_none q h)]; exact q, p⟩, fun b u n e nt => by
    have q : upd H a o b = some u := by rw [upd_ne (ne_of_none e h)]; exact e
    exact ⟨n, ⟨u, q, nt⟩, fun _ => q⟩, fun b xs e => by rw [upd_ne (ne_of_none e h)]; exact e⟩
/-- an owned object is changed -/
theorem Gr.put (f : Fit G H) (n : G a = none) (hm : a ∈ mx) (ht : ∀ xs, H a ≠ some (.tup xs)) (nto : NT o := by intro _ h; cases h) : Gr mx G H G (upd H a o) := ⟨Sub.refl G, fun b φ e => by
    obtain ⟨u, q, p⟩ := f b φ e
    exact ⟨u, by rw [upd_ne (fun z => by rw [z, n] at e; cases e)]; exact q, p⟩, fun b u nb e nt => by
    by_cases hb : b = a
    · exact ⟨nb, ⟨o, by rw [hb, upd_same], nto⟩, fun z => absurd (by rw [hb]; exact hm) z⟩
    · have q : upd H a o b = some u := by rw [upd_ne hb]; exact e
      exact ⟨nb, ⟨u, q, nt⟩, fun _ => q⟩, fun b xs e => by
    have hb : b ≠ a := fun z => ht xs (z ▸ e)
    rw [upd_ne hb]; exact e⟩
theorem Fit.freeze (f : Fit G H) (n : G a = Option.none) (h : H a = some o) (hp : φ o) (ht : ∀ xs, o = .tup xs → φ = isO o := by first | (intro _ h; cases h) | (intro _ _; rfl)) : Fit (updG G a φ) H := fun b ψ e => by
  by_cases hb : b = a
  · subst hb; rw [updG_same] at e; cases e; exact ⟨o, h, hp, ht⟩
  · rw [updG_ne hb] at e; exact f b ψ e
/-- an object that was new since (G, H) is finished -/
theorem Gr.freeze (x : Gr mx G H G1 H1) (hn : H a = none) (n : G1 a = none) (h : H1 a = some o) (hp : φ o) (ht : ∀ xs, o = .tup xs → φ = isO o := by first | (intro _ h; cases h) | (intro _ _; rfl)) : Gr mx G H (updG G1 a φ) H1 :=
  ⟨x.sub.trans (Sub.upd n), x.fit.freeze n h hp ht, fun b u nb e nt => by
    obtain ⟨n1, e1, k1⟩ := x.own b u nb e nt
    have hb : b ≠ a := ne_of_none e hn
    exact ⟨by rw [updG_ne hb]; exact n1, e1, k1⟩, x.tup⟩
/-- a tuple is known for good -/
theorem Gr.tupF {xs : List V} (f : Fit G H) (n : G a = none) (h : H a = some (.tup xs)) : Gr mx G H (updG G a (isO (.tup xs))) H :=
  ⟨Sub.upd n, f.freeze n h rfl (fun _ _ => rfl), fun b u nb e nt => by
    have hb : b ≠ a := fun z => by rw [z, h] at e; exact nt xs (Option.some.inj e).symm
    exact ⟨by rw [updG_ne hb]; exact nb, ⟨u, e, nt⟩, fun _ => e⟩, fun _ _ e => e⟩
theorem tup_fz {xs : List V} (f : Fit G H) (h : H a = some (.tup xs)) : ∃ G', Gr mx G H G' H ∧ G' a = some (isO (.tup xs)) := by
  cases q : G a with
  | none => exact ⟨_, Gr.tupF f q h, updG_same⟩
  | some φ =>
    obtain ⟨o, e, p, k⟩ := f a φ q
    rw [h] at e
    cases e
    exact ⟨G, Gr.refl f, by rw [q, k xs rfl]⟩
/-- a new object, finished at once -/
theorem Gr.make (f : Fit G H) (h : H a = none) : Gr mx G H (updG G a (isO o)) (upd H a o) :=
  Gr.freeze (Gr.new f h) h (f.none h) upd_same rfl (fun _ _ => rfl)
end

/-! ### what stands for what -/
def FzL (K : PySem.W.Frag) (G : GH) (a : Addr) (xs : List V) : Prop := xs.length ≤ sizeLine ∧ G a = some (isO (.lst xs))
def FzT (K : PySem.W.Frag) (G : GH) (a : Addr) (xs : List V) : Prop := xs.length ≤ sizeLine ∧ G a = some (isO (.tup xs))
section
variable {K : PySem.W.Frag} {G G' : GH} {H : Hp} {a : Addr} {xs : List V} {v : V} {d : PyData}
theorem FzL.mono (s : Sub G G') (h : FzL K G a xs) : FzL K G' a xs := ⟨h.1, s _ _ h.2⟩
theorem FzT.mono (s : Sub G G') (h : FzT K G a xs) : FzT K G' a xs := ⟨h.1, s _ _ h.2⟩
theorem FzT.at' (f : Fit G H) (h : FzT K G a xs) : H a = some (.tup xs) := f.at' h.2
theorem FzL.at' (f : Fit G H) (h : FzL K G a xs) : H a = some (.lst xs) := f.at' h.2
theorem FzL.sq (f : Fit G H) (h : FzL K G a xs) : SqL K H a xs := SqL.of (h.at' f)
theorem FzT.sq (f : Fit G H) (h : FzT K G a xs) : SqT K H a xs := SqT.of (h.at' f)
mutual
inductive Dg (K : PySem.W.Frag) (G : GH) : V → PyData → Prop
  | non : Dg K G .non .none
  | bl (b : Bool) : Dg K G (.bl b) (.bool b)
  | int (i : Int) : Dg K G (.int i) (.int i)
  | str (x : Str) (h : x.length ≤ sizeLine) : Dg K G (.str x) (.str x)
  | lst {a : Addr} {xs : List V} {ds : List PyData} : FzL K G a xs → DgAll K G xs ds → Dg K G (.ref a) (.list ds)
  | tup {a : Addr} {xs : List V} {ds : List PyData} : FzT K G a xs → DgAll K G xs ds → Dg K G (.ref a) (.tuple ds)
inductive DgAll (K : PySem.W.Frag) (G : GH) : List V → List PyData → Prop
  | nil : DgAll K G [] []
  | cons {v : V} {vs : List V} {d : PyData} {ds : List PyData} : Dg K G v d → DgAll K G vs ds → DgAll K G (v :: vs) (d :: ds)
end
mutual
theorem Dg.mono (s : Sub G G') : ∀ {v : V} {d : PyData}, Dg K G v d → Dg K G' v d
  | _, _, .non => .non
  | _, _, .bl b => .bl b
  | _, _, .int i => .int i
  | _, _, .str x h => .str x h
  | _, _, .lst h r => .lst (h.mono s) (DgAll.mono s r)
  | _, _, .tup h r => .tup (h.mono s) (DgAll.mono s r)
theorem DgAll.mono (s : Sub G G') : ∀ {vs : List V} {ds : List PyData}, DgAll K G vs ds → DgAll K G' vs ds
  | _, _, .nil => .nil
  | _, _, .cons h r => .cons (Dg.mono s h) (DgAll.mono s r)
end
mutual
theorem Dg.dp (f : Fit G H) : ∀ {v : V} {d : PyData}, Dg K G v d → Dp K H v d
  | _, _, .non => .non
  | _, _, .bl b => .bl b
  | _, _, .int i => .int i
  | _, _, .str x _ => .str x
  | _, _, .lst h r => .lst (h.sq f) (DgAll.dp f r)
  | _, _, .tup h r => .tup (h.sq f) (DgAll.dp f r)
theorem DgAll.dp (f : Fit G H) : ∀ {vs : List V} {ds : List PyData}, DgAll K G vs ds → DpAll K H vs ds
  | _, _, .nil => .nil
  | _, _, .cons h r => .cons (Dg.dp f h) (DgAll.dp f r)
end
theorem DgAll.length : ∀ {vs : List V} {ds : List PyData}, DgAll K G vs ds → vs.length = ds.length
  | _, _, .nil => rfl
  | _, _, .cons _ r => by rw [List.length_cons, List.length_cons, DgAll.length r]
theorem DgAll.get : ∀ {vs : List V} {ds : List PyData} {i : Nat} {d : PyData}, DgAll K G vs ds → ds[i]? = some d → ∃ v, vs[i]? = some v ∧ Dg K G v d
  | _, _, i, d, .nil, e => by simp at e
  | _, _, 0, d, .cons h _, e => by simp at e; subst e; exact ⟨_, rfl, h⟩
  | _, _, i + 1, d, .cons _ r, e => by
    obtain ⟨v, q, h⟩ := DgAll.get (i := i) r (by simpa using e)
    exact ⟨v, by simpa using q, h⟩
theorem DgAll.getV : ∀ {vs : List V} {ds : List PyData} {i : Nat} {v : V}, DgAll K G vs ds → vs[i]? = some v → ∃ d, ds[i]? = some d ∧ Dg K G v d
  | _, _, i, d, .nil, e => by simp at e
  | _, _, 0, d, .cons h _, e => by simp at e; subst e; exact ⟨_, rfl, h⟩
  | _, _, i + 1, d, .cons _ r, e => by
    obtain ⟨v, q, h⟩ := DgAll.getV (i := i) r (by simpa using e)
    exact ⟨v, by simpa using q, h⟩
theorem DgAll.append : ∀ {vs us : List V} {ds es : List PyData}, DgAll K G vs ds → DgAll K G us es → DgAll K G (vs ++ us) (ds ++ es)
  | _, _, _, _, .nil, r => r
  | _, _, _, _, .cons h r, q => .cons h (DgAll.append r q)
theorem DgAll.take : ∀ {vs : List V} {ds : List PyData} (n : Nat), DgAll K G vs ds → DgAll K G (vs.take n) (ds.take n)
  | _, _, 0, _ => .nil
  | _, _, _ + 1, .nil => .nil
  | _, _, n + 1, .cons h r => .cons h (DgAll.take n r)
theorem DgAll.drop : ∀ {vs : List V} {ds : List PyData} (n : Nat), DgAll K G vs ds → DgAll K G (vs.drop n) (ds.drop n)
  | _, _, 0, r => r
  | _, _, _ + 1, .nil => .nil
  | _, _, n + 1, .cons _ r => DgAll.drop n r
theorem DgAll.erase : ∀ {vs : List V} {ds : List PyData} (n : Nat), DgAll K G vs ds → DgAll K G (vs.eraseIdx n) (ds.eraseIdx n)
  | _, _, _, .nil => .nil
  | _, _, 0, .cons _ r => r
  | _, _, n + 1, .cons h r => .cons h (DgAll.erase n r)
theorem DgAll.dropLast {vs : List V} {ds : List PyData} (h : DgAll K G vs ds) : DgAll K G vs.dropLast ds.dropLast := by
  rw [List.dropLast_eq_take, List.dropLast_eq_take, h.length]
  exact h.take _
theorem Dg.int_inv {i : Int} (h : Dg K G v (.int i)) : v = .int i := by cases h; rfl
theorem Dg.bool_inv {b : Bool} (h : Dg K G v (.bool b)) : v = .bl b := by cases h; rfl
theorem Dg.str_inv {x : Str} (h : Dg K G v (.str x)) : v = .str x := by cases h; rfl
theorem Dg.str_len {x : Str} (h : Dg K G v (.str x)) : x.length ≤ sizeLine := by cases h; assumption
theorem Dg.none_inv (h : Dg K G v .none) : v = .non := by cases h; rfl
theorem Dg.list_inv {ds : List PyData} (h : Dg K G v (.list ds)) : ∃ a xs, v = .ref a ∧ FzL K G a xs ∧ DgAll K G xs ds := by
  cases h with | lst h r => exact ⟨_, _, rfl, h, r⟩
theorem Dg.tuple_inv {ds : List PyData} (h : Dg K G v (.tuple ds)) : ∃ a xs, v = .ref a ∧ FzT K G a xs ∧ DgAll K G xs ds := by
  cases h with | tup h r => exact ⟨_, _, rfl, h, r⟩
end

/-! ### what a value stands for, in general -/
structure RP where
  r : GH → V → Prop
  mono : ∀ {G G' : GH} {v : V}, Sub G G' → r G v → r G' v
def D (K : PySem.W.Frag) (d : PyData) : RP := ⟨fun G v => Dg K G v d, fun s h => Dg.mono s h⟩
/-- just this value -/
def isV (v : V) : RP := ⟨fun _ u => u = v, fun _ h => h⟩
inductive RAll (G : GH) : List V → List RP → Prop
  | nil : RAll G [] []
  | cons {v : V} {vs : List V} {R : RP} {Rs : List RP} : R.r G v → RAll G vs Rs → RAll G (v :: vs) (R :: Rs)
theorem RAll.mono {G G' : GH} (s : Sub G G') : ∀ {vs : List V} {Rs : List RP}, RAll G vs Rs → RAll G' vs Rs
  | _, _, .nil => .nil
  | _, _, @RAll.cons _ _ _ R _ h r => .cons (R.mono s h) (RAll.mono s r)
theorem RAll.length {G : GH} : ∀ {vs : List V} {Rs : List RP}, RAll G vs Rs → vs.length = Rs.length
  | _, _, .nil => rfl
  | _, _, .cons _ r => by rw [List.length_cons, List.length_cons, RAll.length r]
theorem RAll.get {G : GH} : ∀ {vs : List V} {Rs : List RP} {i : Nat} {R : RP}, RAll G vs Rs → Rs[i]? = some R → ∃ v, vs[i]? = some v ∧ R.r G v
  | _, _, i, R, .nil, e => by simp at e
  | _, _, 0, R, .cons h _, e => by simp at e; subst e; exact ⟨_, rfl, h⟩
  | _, _, i + 1, R, .cons _ r, e => by
    obtain ⟨v, q, h⟩ := RAll.get (i := i) r (by simpa using e)
    exact ⟨v, by simpa using q, h⟩
/-- what is true of an owned object -/
structure OP where
  r : GH → HO → Prop
  nt : ∀ {G : GH} {o : HO}, r G o → NT o
  mono : ∀ {G G' : GH} {o : HO}, Sub G G' → r G o → r G' o
def ownL (K : PySem.W.Frag) (ds : List PyData) : OP := ⟨fun G o => ∃ vs, o = .lst vs ∧ vs.length ≤ sizeLine ∧ DgAll K G vs ds, fun ⟨_, e, _⟩ => (by rw [e]; intro _ h; cases h), fun s ⟨vs, e, z, h⟩ => ⟨vs, e, z, DgAll.mono s h⟩⟩

/-! ### evaluation of what makes new things alone -/
def EV (te : TE) (σ : L2.St) (G : GH) (H : Hp) (R : RP) : Prop := ∀ G1 H1, Gr [] G H G1 H1 → ∀ Q : VK, (∀ v G2 H2, Gr [] G1 H1 G2 H2 → R.r G2 v → Q v H2) → te σ H1 Q
def ET (tt : TT) (σ : L2.St) (G : GH) (H : Hp) (b : Bool) : Prop := ∀ G1 H1, Gr [] G H G1 H1 → ∀ Q : Bool → Hp → Prop, (∀ G2 H2, Gr [] G1 H1 G2 H2 → Q b H2) → tt σ H1 Q
def EA (ta : TA) (σ : L2.St) (G : GH) (H : Hp) (Rs : List RP) : Prop := ∀ G1 H1, Gr [] G H G1 H1 → ∀ Q : List V → Hp → Prop, (∀ vs G2 H2, Gr [] G1 H1 G2 H2 → RAll G2 vs Rs → Q vs H2) → ta σ H1 Q
section
variable {K : PySem.W.Frag} {σ : L2.St} {G G1 G2 G' : GH} {H H1 H2 H' : Hp} {ta tb tc te : TE} {tt tu : TT} {R R' S : RP} {Rs : List RP} {b c : Bool}
theorem EV.mono (h : EV te σ G H R) (g : Gr [] G H G1 H1) : EV te σ G1 H1 R := fun G2 H2 g2 Q q => h G2 H2 (g.trans g2) Q q
theorem ET.mono (h : ET tt σ G H b) (g : Gr [] G H G1 H1) : ET tt σ G1 H1 b := fun G2 H2 g2 Q q => h G2 H2 (g.trans g2) Q q
theorem EA.mono {ta : TA} (h : EA ta σ G H Rs) (g : Gr [] G H G1 H1) : EA ta σ G1 H1 Rs := fun G2 H2 g2 Q q => h G2 H2 (g.trans g2) Q q
theorem EV.go {Q : VK} (h : EV te σ G H R) (f : Fit G H) (q : ∀ v G2 H2, Gr [] G H G2 H2 → R.r G2 v → Q v H2) : te σ H Q := h G H (Gr.refl f) Q q
theorem ET.go {Q : Bool → Hp → Prop} (h : ET tt σ G H b) (f : Fit G H) (q : ∀ G2 H2, Gr [] G H G2 H2 → Q b H2) : tt σ H Q := h G H (Gr.refl f) Q q
theorem EA.go {ta : TA} {Q : List V → Hp → Prop} (h : EA ta σ G H Rs) (f : Fit G H) (q : ∀ vs G2 H2, Gr [] G H G2 H2 → RAll G2 vs Rs → Q vs H2) : ta σ H Q := h G H (Gr.refl f) Q q
theorem ev_val {v : V} (hf : ∀ G1 H1, Gr [] G H G1 H1 → ∀ Q : VK, Q v H1 → te σ H1 Q) (h : ∀ G1, Sub G G1 → R.r G1 v) : EV te σ G H R := fun G1 H1 g Q q => hf G1 H1 g Q (q v G1 H1 (Gr.refl g.fit) (h G1 g.sub))
theorem ev_var {i : Nat} {v : V} (hs : σ[i]? = some (some v)) (h : R.r G v) : EV (tVar i) σ G H R := ev_val (fun _ _ _ _ q => ⟨v, hs, q⟩) fun _ s => R.mono s h
theorem ev_c {v : V} (h : R.r G v) : EV (tC v) σ G H R := ev_val (fun _ _ _ _ q => q) fun _ s => R.mono s h
theorem ev_int {i : Int} : EV (tC (.int i)) σ G H (D K (.int i)) := ev_val (fun _ _ _ _ q => q) fun _ _ => Dg.int i
theorem ev_str {x : Str} (h : x.length ≤ sizeLine := by decide) : EV (tC (.str x)) σ G H (D K (.str x)) := ev_val (fun _ _ _ _ q => q) fun _ _ => Dg.str x h
theorem ev_bl {x : Bool} : EV (tC (.bl x)) σ G H (D K (.bool x)) := ev_val (fun _ _ _ _ q => q) fun _ _ => Dg.bl x
theorem ev_non : EV (tC .non) σ G H (D K .none) := ev_val (fun _ _ _ _ q => q) fun _ _ => Dg.non
theorem ev_op {r : R2} (ha : EV ta σ G H R) (hb : EV tb σ G H R')
    (hr : ∀ G1 H1 x y, Gr [] G H G1 H1 → R.r G1 x → R'.r G1 y → ∀ Q : VK, (∀ v G2 H2, Gr [] G1 H1 G2 H2 → S.r G2 v → Q v H2) → r x y H1 Q) : EV (tOp r ta tb) σ G H S := fun G1 H1 g Q q =>
  ha G1 H1 g _ fun x G2 H2 g2 rx => hb G2 H2 (g.trans g2) _ fun y G3 H3 g3 ry => hr G3 H3 x y ((g.trans g2).trans g3) (R.mono g3.sub rx) ry Q fun v G4 H4 g4 rv => q v G4 H4 ((g2.trans g3).trans g4) rv
/-- an operation that makes nothing: its answer is v for the values x, y -/
theorem ev_op0 {r : R2} {d e z : PyData} (ha : EV ta σ G H (D K d)) (hb : EV tb σ G H (D K e))
    (hr : ∀ G1 H1 x y, Fit G1 H1 → Dg K G1 x d → Dg K G1 y e → ∃ v, Dg K G1 v z ∧ ∀ Q : VK, Q v H1 → r x y H1 Q) : EV (tOp r ta tb) σ G H (D K z) :=
  ev_op ha hb fun G1 H1 x y g rx ry Q q => let ⟨v, rv, k⟩ := hr G1 H1 x y g.fit rx ry; k Q (q v G1 H1 (Gr.refl g.fit) rv)
theorem ev_un {r : V → Hp → VK → Prop} (ha : EV ta σ G H R)
    (hr : ∀ G1 H1 x, Gr [] G H G1 H1 → R.r G1 x → ∀ Q : VK, (∀ v G2 H2, Gr [] G1 H1 G2 H2 → S.r G2 v → Q v H2) → r x H1 Q) : EV (tUn r ta) σ G H S := fun G1 H1 g Q q =>
  ha G1 H1 g _ fun x G2 H2 g2 rx => hr G2 H2 x (g.trans g2) rx Q fun v G4 H4 g4 rv => q v G4 H4 (g2.trans g4) rv
theorem ea_nil : EA tNil σ G H [] := fun G1 H1 g Q q => q [] G1 H1 (Gr.refl g.fit) .nil
theorem ea_cons {tr : TA} (h : EV te σ G H R) (hr : EA tr σ G H Rs) : EA (tCons te tr) σ G H (R :: Rs) := fun G1 H1 g Q q =>
  h G1 H1 g _ fun x G2 H2 g2 rx => hr G2 H2 (g.trans g2) _ fun xs G3 H3 g3 rs => q (x :: xs) G3 H3 (g2.trans g3) (.cons (R.mono g3.sub rx) rs)
theorem RAll.one {v : List V} (h : RAll G v [R]) : ∃ x, v = [x] ∧ R.r G x := by
  cases h with | cons r rr => cases rr; exact ⟨_, rfl, r⟩
theorem RAll.two {v : List V} (h : RAll G v [R, R']) : ∃ x y, v = [x, y] ∧ R.r G x ∧ R'.r G y := by
  cases h with | cons r rr => obtain ⟨y, rfl, q⟩ := rr.one; exact ⟨_, _, rfl, r, q⟩
theorem RAll.three {v : List V} (h : RAll G v [R, R', S]) : ∃ x y z, v = [x, y, z] ∧ R.r G x ∧ R'.r G y ∧ S.r G z := by
  cases h with | cons r rr => obtain ⟨y, z, rfl, q, q'⟩ := rr.two; exact ⟨_, _, _, rfl, r, q, q'⟩

/-! tests -/
theorem et_test (h : EV te σ G H (D K (.bool b))) : ET (tTest te) σ G H b := fun G1 H1 g Q q => h G1 H1 g _ fun v G2 H2 g2 rv => ⟨b, Dg.bool_inv rv, q G2 H2 g2⟩
theorem et_B (h : EV te σ G H (D K (.bool b))) : ET (tB te) σ G H b := fun G1 H1 g Q q => h G1 H1 g _ fun v G2 H2 g2 rv => ⟨b, Dg.bool_inv rv, q G2 H2 g2⟩
theorem et_and {a : Bool} (h1 : ET tt σ G H a) (h2 : a = true → ET tu σ G H b) (h0 : a = false → b = false) : ET (tAnd tt tu) σ G H b := fun G1 H1 g Q q => h1 G1 H1 g _ fun G2 H2 g2 => by
  cases a with
  | true =>
    show tu σ H2 Q
    exact h2 rfl G2 H2 (g.trans g2) Q fun G3 H3 g3 => q G3 H3 (g2.trans g3)
  | false =>
    show Q false H2
    rw [← h0 rfl]
    exact q G2 H2 g2
theorem et_and2 {a : Bool} (h1 : ET tt σ G H a) (h2 : a = true → ET tu σ G H b) : ET (tAnd tt tu) σ G H (a && b) := et_and h1 (fun h => by rw [h]; exact h2 h) (fun h => by rw [h]; rfl)
theorem et_yes : ET tYes σ G H true := fun G1 H1 g Q q => q G1 H1 (Gr.refl g.fit)
theorem et_or {a : Bool} (h1 : ET tt σ G H a) (h2 : a = false → ET tu σ G H b) (h0 : a = true → b = true) : ET (tOr tt tu) σ G H b := fun G1 H1 g Q q => h1 G1 H1 g _ fun G2 H2 g2 => by
  cases a with
  | true =>
    show Q true H2
    rw [← h0 rfl]
    exact q G2 H2 g2
  | false =>
    show tu σ H2 Q
    exact h2 rfl G2 H2 (g.trans g2) Q fun G3 H3 g3 => q G3 H3 (g2.trans g3)
theorem et_or2 {a : Bool} (h1 : ET tt σ G H a) (h2 : a = false → ET tu σ G H b) : ET (tOr tt tu) σ G H (a || b) := et_or h1 (fun h => by rw [h]; exact h2 h) (fun h => by rw [h]; rfl)
theorem et_not (h : ET tt σ G H b) : ET (tNot tt) σ G H (!b) := fun G1 H1 g Q q => h G1 H1 g _ fun G2 H2 g2 => q G2 H2 g2
theorem ET.to (h : ET tt σ G H b) (e : b = c) : ET tt σ G H c := e ▸ h
theorem EV.to {d e : PyData} (h : EV te σ G H (D K d)) (q : d = e) : EV te σ G H (D K e) := q ▸ h
theorem ev_andV {a : Bool} (h1 : EV ta σ G H (D K (.bool a))) (h2 : a = true → EV tb σ G H (D K (.bool b))) (h0 : a = false → b = false) : EV (tAndV ta tb) σ G H (D K (.bool b)) := fun G1 H1 g Q q => h1 G1 H1 g _ fun v G2 H2 g2 rv => ⟨a, Dg.bool_inv rv, by
  cases a with
  | true =>
    show tb σ H2 Q
    exact h2 rfl G2 H2 (g.trans g2) Q fun v G3 H3 g3 r => q v G3 H3 (g2.trans g3) r
  | false =>
    show Q (.bl false) H2
    have e := h0 rfl
    subst e
    exact q _ G2 H2 g2 (Dg.bl false)⟩
theorem ev_orV {a : Bool} (h1 : EV ta σ G H (D K (.bool a))) (h2 : a = false → EV tb σ G H (D K (.bool b))) (h0 : a = true → b = true) : EV (tOrV ta tb) σ G H (D K (.bool b)) := fun G1 H1 g Q q => h1 G1 H1 g _ fun v G2 H2 g2 rv => ⟨a, Dg.bool_inv rv, by
  cases a with
  | true =>
    show Q (.bl true) H2
    have e := h0 rfl
    subst e
    exact q _ G2 H2 g2 (Dg.bl true)
  | false =>
    show tb σ H2 Q
    exact h2 rfl G2 H2 (g.trans g2) Q fun v G3 H3 g3 r => q v G3 H3 (g2.trans g3) r⟩
theorem ev_andV2 {a : Bool} (h1 : EV ta σ G H (D K (.bool a))) (h2 : a = true → EV tb σ G H (D K (.bool b))) : EV (tAndV ta tb) σ G H (D K (.bool (a && b))) := ev_andV h1 (fun h => by rw [h]; exact h2 h) (fun h => by rw [h]; rfl)
theorem ev_orV2 {a : Bool} (h1 : EV ta σ G H (D K (.bool a))) (h2 : a = false → EV tb σ G H (D K (.bool b))) : EV (tOrV ta tb) σ G H (D K (.bool (a || b))) := ev_orV h1 (fun h => by rw [h]; exact h2 h) (fun h => by rw [h]; rfl)
theorem ev_notV (h : EV ta σ G H (D K (.bool b))) : EV (tNotV ta) σ G H (D K (.bool (!b))) := fun G1 H1 g Q q => h G1 H1 g _ fun v G2 H2 g2 rv => ⟨b, Dg.bool_inv rv, q _ G2 H2 g2 (Dg.bl _)⟩
theorem ev_if (h : ET tt σ G H b) (h1 : b = true → EV ta σ G H R) (h2 : b = false → EV tb σ G H R) : EV (tIf tt ta tb) σ G H R := fun G1 H1 g Q q => h G1 H1 g _ fun G2 H2 g2 => by
  cases b with
  | true =>
    show ta σ H2 Q
    exact h1 rfl G2 H2 (g.trans g2) Q fun v G3 H3 g3 r => q v G3 H3 (g2.trans g3) r
  | false =>
    show tb σ H2 Q
    exact h2 rfl G2 H2 (g.trans g2) Q fun v G3 H3 g3 r => q v G3 H3 (g2.trans g3) r
end

/-! ### the state of a def that runs -/
def Env (G : GH) (σ : L2.St) (Γ : List (Option RP)) : Prop := σ.length = Γ.length ∧ ∀ (i : Nat) (R : RP), Γ[i]? = some (some R) → ∃ v, σ[i]? = some (some v) ∧ R.r G v
theorem Env.mono {G G' : GH} {σ : L2.St} {Γ : List (Option RP)} (h : Env G σ Γ) (s : Sub G G') : Env G' σ Γ := ⟨h.1, fun i R e => let ⟨v, q, r⟩ := h.2 i R e; ⟨v, q, R.mono s r⟩⟩
theorem Env.set {G : GH} {σ : L2.St} {Γ : List (Option RP)} {i : Nat} {v : V} {R : RP} (h : Env G σ Γ) (r : R.r G v) : Env G (σ.set i (some v)) (Γ.set i (some R)) := by
  refine ⟨by rw [List.length_set, List.length_set]; exact h.1, fun j S e => ?_⟩
  by_cases hj : i = j
  · subst hj
    by_cases hi : i < Γ.length
    · rw [List.getElem?_set_self hi] at e
      cases e
      exact ⟨v, List.getElem?_set_self (by rw [h.1]; exact hi), r⟩
    · rw [List.getElem?_eq_none (by rw [List.length_set]; omega)] at e
      cases e
  · rw [List.getElem?_set_ne hj] at e ⊢
    exact h.2 j S e
/-- a slot is forgotten -/
theorem Env.drop {G : GH} {σ : L2.St} {Γ Γ' : List (Option RP)} (h : Env G σ Γ) (hl : Γ'.length = Γ.length) (hs : ∀ (i : Nat) (R : RP), Γ'[i]? = some (some R) → Γ[i]? = some (some R)) : Env G σ Γ' := ⟨h.1.trans hl.symm, fun i R e => h.2 i R (hs i R e)⟩
theorem env_start {G : GH} {N : List Str} {vs : List V} {Rs : List RP} (h : RAll G vs Rs) : Env G (L2.start N vs) (Rs.map some ++ List.replicate (N.length - Rs.length) none) := by
  have hl := h.length
  refine ⟨by unfold L2.start; simp [hl], fun i R e => ?_⟩
  by_cases hi : i < Rs.length
  · rw [List.getElem?_append_left (by rw [List.length_map]; exact hi), List.getElem?_map] at e
    cases q : Rs[i]? with
    | none => rw [q] at e; cases e
    | some S =>
      rw [q] at e
      cases (Option.some.inj (Option.some.inj e) : S = R)
      obtain ⟨v, ev, r⟩ := h.get q
      refine ⟨v, ?_, r⟩
      unfold L2.start
      rw [List.getElem?_append_left (by rw [List.length_map, hl]; exact hi), List.getElem?_map, ev]
      rfl
  · rw [List.getElem?_append_right (by rw [List.length_map]; omega)] at e
    have := List.mem_of_getElem? e
    rw [List.mem_replicate] at this
    cases this.2
structure SA (mx : List Addr) (G0 : GH) (H0 : Hp) (Γ : List (Option RP)) (Os : List (Addr × OP)) (Ts : List (V × RP)) (σ : L2.St) (G : GH) (H : Hp) : Prop where
  f0 : Fit G0 H0
  g : Gr mx G0 H0 G H
  env : Env G σ Γ
  own : ∀ p ∈ Os, G p.1 = none ∧ (∃ o, H p.1 = some o ∧ p.2.r G o) ∧ (p.1 ∈ mx ∨ H0 p.1 = none)
  nd : (Os.map (·.1)).Nodup
  tmp : ∀ t ∈ Ts, t.2.r G t.1
section
variable {K : PySem.W.Frag} {mx : List Addr} {G0 G G1 : GH} {H0 H H1 : Hp} {Γ Γ' : List (Option RP)} {Os Os' : List (Addr × OP)} {Ts Ts' : List (V × RP)} {σ : L2.St} {te : TE} {R S : RP} {i j : Nat} {v : V} {p : Addr} {o : HO} {P P' : OP}
theorem SA.fit (s : SA mx G0 H0 Γ Os Ts σ G H) : Fit G H := s.g.fit
theorem SA.start (f : Fit G H) (e : Env G σ Γ) (ho : ∀ p ∈ Os, G p.1 = none ∧ (∃ o, H p.1 = some o ∧ p.2.r G o) ∧ (p.1 ∈ mx ∨ H p.1 = none)) (nd : (Os.map (·.1)).Nodup) : SA mx G H Γ Os [] σ G H := ⟨f, Gr.refl f, e, ho, nd, fun _ h => nomatch h⟩
theorem SA.step (s : SA mx G0 H0 Γ Os Ts σ G H) (g : Gr [] G H G1 H1) : SA mx G0 H0 Γ Os Ts σ G1 H1 :=
  ⟨s.f0, s.g.trans0 g, s.env.mono g.sub, fun p hp => let ⟨n, ⟨o, e, r⟩, f⟩ := s.own p hp; ⟨g.un n e (p.2.nt r), ⟨o, g.at0 n e (p.2.nt r), p.2.mono g.sub r⟩, f⟩, s.nd, fun t h => t.2.mono g.sub (s.tmp t h)⟩
theorem SA.var (s : SA mx G0 H0 Γ Os Ts σ G H) (i : Nat) (e : Γ[i]? = some (some R) := by rfl) : EV (tVar i) σ G H R := let ⟨_, q, r⟩ := s.env.2 i R e; ev_var q r
theorem SA.set (s : SA mx G0 H0 Γ Os Ts σ G H) (i : Nat) (r : R.r G v) : SA mx G0 H0 (Γ.set i (some R)) Os Ts (σ.set i (some v)) G H := ⟨s.f0, s.g, s.env.set r, s.own, s.nd, s.tmp⟩
theorem SA.push (s : SA mx G0 H0 Γ Os Ts σ G H) (r : R.r G v) : SA mx G0 H0 Γ Os ((v, R) :: Ts) σ G H := ⟨s.f0, s.g, s.env, s.own, s.nd, fun t h => by
  rcases List.mem_cons.mp h with rfl | h
  · exact r
  · exact s.tmp t h⟩
theorem SA.pop {t : V × RP} (s : SA mx G0 H0 Γ Os (t :: Ts) σ G H) : SA mx G0 H0 Γ Os Ts σ G H ∧ t.2.r G t.1 := ⟨⟨s.f0, s.g, s.env, s.own, s.nd, fun t h => s.tmp t (List.mem_cons_of_mem _ h)⟩, s.tmp _ (List.mem_cons_self ..)⟩
theorem SA.forget (s : SA mx G0 H0 Γ Os Ts σ G H) (hl : Γ'.length = Γ.length := by rfl) (hs : ∀ (i : Nat) (R : RP), Γ'[i]? = some (some R) → Γ[i]? = some (some R)) : SA mx G0 H0 Γ' Os Ts σ G H := ⟨s.f0, s.g, s.env.drop hl hs, s.own, s.nd, s.tmp⟩
/-- an owned object by its place in the list -/
theorem SA.at_ (s : SA mx G0 H0 Γ Os Ts σ G H) (j : Nat) (e : Os[j]? = some (p, P) := by rfl) : G p = none ∧ (∃ o, H p = some o ∧ P.r G o) ∧ (p ∈ mx ∨ H0 p = none) := s.own (p, P) (List.mem_of_getElem? e)
theorem nd_set : ∀ {l : List (Addr × OP)} {j : Nat} {p : Addr} {P P' : OP}, l[j]? = some (p, P) → (l.set j (p, P')).map (·.1) = l.map (·.1)
  | [], j, p, P, P', e => by simp at e
  | q :: l, 0, p, P, P', e => by
    simp at e
    subst e
    rfl
  | q :: l, j + 1, p, P, P', e => by
    have ih := nd_set (l := l) (j := j) (p := p) (P := P) (P' := P') (by simpa using e)
    show q.1 :: (l.set j (p, P')).map (·.1) = q.1 :: l.map (·.1)
    rw [ih]
theorem mem_set_ne : ∀ {l : List (Addr × OP)} {j : Nat} {p : Addr} {P P' : OP} {q : Addr × OP}, (l.map (·.1)).Nodup → l[j]? = some (p, P) → q ∈ l.set j (p, P') → q = (p, P') ∨ (q ∈ l ∧ q.1 ≠ p)
  | [], j, p, P, P', q, _, e, h => by simp at e
  | x :: l, 0, p, P, P', q, nd, e, h => by
    simp at e
    subst e
    rcases List.mem_cons.mp h with h | h
    · exact .inl h
    · refine .inr ⟨List.mem_cons_of_mem _ h, fun z => ?_⟩
      have nd' : (p :: l.map (·.1)).Nodup := nd
      exact (List.nodup_cons.mp nd').1 (z ▸ List.mem_map_of_mem h)
  | x :: l, j + 1, p, P, P', q, nd, e, h => by
    have nd' : (x.1 :: l.map (·.1)).Nodup := nd
    have e' : l[j]? = some (p, P) := by simpa using e
    rcases List.mem_cons.mp h with h | h
    · refine .inr ⟨by rw [h]; exact List.mem_cons_self .., fun z => ?_⟩
      rw [h] at z
      exact (List.nodup_cons.mp nd').1 (z ▸ List.mem_map_of_mem (List.mem_of_getElem? e'))
    · rcases mem_set_ne (List.nodup_cons.mp nd').2 e' h with h | ⟨h, n⟩
      · exact .inl h
      · exact .inr ⟨List.mem_cons_of_mem _ h, n⟩
/-- the j-th owned object is changed -/
theorem SA.put (s : SA mx G0 H0 Γ Os Ts σ G H) (j : Nat) (e : Os[j]? = some (p, P)) (r : P'.r G o) : SA mx G0 H0 Γ (Os.set j (p, P')) Ts σ G (upd H p o) := by
  obtain ⟨n, ⟨u, hu, ru⟩, hm⟩ := s.at_ j e
  have g2 : Gr [p] G H G (upd H p o) := Gr.put (mx := [p]) s.fit n (by simp) (fun xs z => by rw [hu] at z; exact P.nt ru xs (Option.some.inj z)) (P'.nt r)
  have f2 : Fit G (upd H p o) := g2.fit
  refine ⟨s.f0, ⟨s.g.sub, f2, fun a w na ha nt => ?_, fun a xs h => g2.tup a xs (s.g.tup a xs h)⟩, s.env, fun q hq => ?_, by rw [nd_set e]; exact s.nd, s.tmp⟩
  · obtain ⟨n1, ⟨w', e1, nt1⟩, k1⟩ := s.g.own a w na ha nt
    by_cases hap : a = p
    · refine ⟨n1, ⟨o, by rw [hap, upd_same], P'.nt r⟩, fun hx => ?_⟩
      rcases hm with hm | hm
      · exact absurd (hap ▸ hm) hx
      · rw [hap, hm] at ha; cases ha
    · exact ⟨n1, ⟨w', by rw [upd_ne hap]; exact e1, nt1⟩, fun hx => by rw [upd_ne hap]; exact k1 hx⟩
  · rcases mem_set_ne s.nd e hq with rfl | ⟨hq, ne⟩
    · exact ⟨n, ⟨o, upd_same, r⟩, hm⟩
    · obtain ⟨n2, ⟨u2, e2, r2⟩, h2⟩ := s.own q hq
      exact ⟨n2, ⟨u2, by rw [upd_ne ne]; exact e2, r2⟩, h2⟩
/-- behind a call that changes the j-th owned object alone -/
theorem SA.stepM (s : SA mx G0 H0 Γ Os Ts σ G H) (j : Nat) (e : Os[j]? = some (p, P)) (g : Gr [p] G H G1 H1) (ho : H1 p = some o) (r : P'.r G1 o) : SA mx G0 H0 Γ (Os.set j (p, P')) Ts σ G1 H1 := by
  obtain ⟨n, ⟨u, hu, ru⟩, hm⟩ := s.at_ j e
  refine ⟨s.f0, s.g.trans' g fun a ha => ?_, s.env.mono g.sub, fun q hq => ?_, by rw [nd_set e]; exact s.nd, fun t h => t.2.mono g.sub (s.tmp t h)⟩
  · rw [List.mem_singleton.mp ha]; exact hm
  · rcases mem_set_ne s.nd e hq with rfl | ⟨hq, ne⟩
    · exact ⟨g.un n hu (P.nt ru), ⟨o, ho, r⟩, hm⟩
    · obtain ⟨n2, ⟨u2, e2, r2⟩, h2⟩ := s.own q hq
      exact ⟨g.un n2 e2 (q.2.nt r2), ⟨u2, g.at_ n2 e2 (by simpa using ne) (q.2.nt r2), q.2.mono g.sub r2⟩, h2⟩
/-- a new owned object -/
theorem SA.made (s : SA mx G0 H0 Γ Os Ts σ G H) (hp : H p = none) (r : P.r G o) : SA mx G0 H0 Γ ((p, P) :: Os) Ts σ G (upd H p o) := by
  have g : Gr [] G H G (upd H p o) := Gr.new s.fit hp
  have s' := s.step g
  refine ⟨s.f0, s'.g, s'.env, fun q hq => ?_, List.nodup_cons.mpr ⟨fun z => ?_, s.nd⟩, s'.tmp⟩
  · rcases List.mem_cons.mp hq with rfl | hq
    · exact ⟨s.fit.none hp, ⟨o, upd_same, r⟩, .inr (s.g.free s.f0 hp)⟩
    · exact s'.own q hq
  · obtain ⟨q, hq, e⟩ := List.mem_map.mp z
    obtain ⟨_, ⟨u, e2, _⟩, _⟩ := s.own q hq
    rw [e, hp] at e2; cases e2
end
end Fz
set_option Elab.async false
set_option linter.all false
set_option maxRecDepth 100000
set_option maxHeartbeats 2000000
/-! Fz: data in Lean's own types, operations that may fail (Option), and the rules of the pure operations. -/
namespace Fz
open PySem PySem.Spec PyProof.Rows L2

/-! ### data in Lean's own types -/
abbrev Tx := List Nat
abbrev mkS (l : Tx) : Str := ⟨l.toArray⟩
abbrev eI (i : Int) : PyData := .int i
abbrev eB (b : Bool) : PyData := .bool b
abbrev eS (l : Tx) : PyData := .str (mkS l)
abbrev eN (_ : Unit) : PyData := .none
def eO {α : Type} (e : α → PyData) : Option α → PyData
  | none => .none
  | some a => e a
def eL {α : Type} (e : α → PyData) (xs : List α) : PyData := .list (xs.map e)
def eT {α : Type} (e : α → PyData) (xs : List α) : PyData := .tuple (xs.map e)
def eP2 {α β : Type} (e : α → PyData) (f : β → PyData) (p : α × β) : PyData := .tuple [e p.1, f p.2]
def eP3 {α β γ : Type} (e : α → PyData) (f : β → PyData) (g : γ → PyData) (p : α × β × γ) : PyData := .tuple [e p.1, f p.2.1, g p.2.2]
def eP4 {α β γ δ : Type} (e : α → PyData) (f : β → PyData) (g : γ → PyData) (h : δ → PyData) (p : α × β × γ × δ) : PyData := .tuple [e p.1, f p.2.1, g p.2.2.1, h p.2.2.2]
def eH2 {α β : Type} (e : α → PyData) (f : β → PyData) (p : α × β) : PyData := .list [e p.1, f p.2]
def eH3 {α β γ : Type} (e : α → PyData) (f : β → PyData) (g : γ → PyData) (p : α × β × γ) : PyData := .list [e p.1, f p.2.1, g p.2.2]
theorem mkS_len (l : Tx) : (mkS l).length = l.length := by show l.toArray.size = l.length; simp
theorem mkS_list (l : Tx) : (mkS l).cps.toList = l := by show l.toArray.toList = l; simp
theorem mkS_app (a b : Tx) : mkS a ++ mkS b = mkS (a ++ b) := by show (⟨a.toArray ++ b.toArray⟩ : Str) = ⟨(a ++ b).toArray⟩; simp
theorem mkS_inj {a b : Tx} (h : mkS a = mkS b) : a = b := by
  have := congrArg (fun s : Str => s.cps.toList) h
  simpa [mkS_list] using this

/-- an encoding that == sees through: no dict within, a depth, injective for == -/
class Lw {α : Type} (e : α → PyData) : Prop where
  plain : ∀ a, (e a).plain = true
  depth : ∀ a, (e a).depth ≤ 8
  eqv : ∀ a b, PyData.eqv (e a) (e b) = true ↔ a = b

/-! ### operations that may fail -/
namespace Fm
def mul (x y : Int) : Option Int := if (-(2 ^ 64) < x ∧ x < 2 ^ 64) ∨ (-(2 ^ 64) < y ∧ y < 2 ^ 64) then some (x * y) else none
def fdiv (x y : Int) : Option Int := if 0 < y ∧ y < 1073741824 then some (x / y) else none
def mod (x y : Int) : Option Int := if 0 < y then some (x % y) else none
def pow (x y : Int) : Option Int := if 0 ≤ y ∧ y ≤ 1000000 ∧ x.natAbs < 2 ^ 64 then some (x ^ y.toNat) else none
def ix {α : Type} (xs : List α) (i : Int) : Option α := L2.atI xs i
def ixS (l : Tx) (i : Int) : Option Tx := (L2.atI l i).map fun c => [c]
def catS (a b : Tx) : Option Tx := if a.length + b.length ≤ sizeLine then some (a ++ b) else none
def catL {α : Type} (a b : List α) : Option (List α) := if a.length + b.length ≤ sizeLine then some (a ++ b) else none
def app {α : Type} (a : List α) (x : α) : Option (List α) := if a.length < sizeLine then some (a ++ [x]) else none
def cut {α : Type} (xs : List α) (lo hi : Option Int) : List α := (xs.drop (HT.sIx xs.length 0 lo)).take (HT.sIx xs.length xs.length hi - HT.sIx xs.length 0 lo)
def range (n : Int) : Option (List Int) := if -(2 ^ 62) ≤ n ∧ n ≤ 16777216 then some ((List.range n.toNat).map fun (k : Nat) => (k : Int)) else none
def popAt {α : Type} (xs : List α) (i : Int) : Option (α × List α) := if -(2 ^ 63) ≤ i ∧ i < 2 ^ 63 then (match seqIndex? i xs.length with
  | some k => (xs[k]?).map fun x => (x, xs.eraseIdx k)
  | none => none) else none
def pop {α : Type} (xs : List α) : Option (α × List α) := (xs.getLast?).map fun x => (x, xs.dropLast)
def join (s : Tx) (xs : List Tx) : Option Tx := if (xs.map List.length).sum + xs.length * s.length ≤ 16777216 then some (TL.joinL s xs) else none
/-- one sign in a text -/
def inS (a b : Tx) : Option Bool := match a with
  | [k] => some (decide (k ∈ b))
  | _ => none
end Fm
theorem inS_some {a b : Tx} {c : Bool} (h : Fm.inS a b = some c) : ∃ k, a = [k] ∧ decide (k ∈ b) = c := by
  match a, h with
  | [k], h => exact ⟨k, rfl, Option.some.inj h⟩
theorem if_some {α : Type} {c : Prop} [Decidable c] {x y : α} (h : (if c then some x else none) = some y) : c ∧ x = y := by
  split at h
  · exact ⟨‹c›, Option.some.inj h⟩
  · cases h
theorem oif_t {α : Type} {a : Bool} {x y z : α} (h : (if a = true then x else y) = z) (ha : a = true) : x = z := by rw [if_pos ha] at h; exact h
theorem oif_f {α : Type} {a : Bool} {x y z : α} (h : (if a = true then x else y) = z) (ha : a = false) : y = z := by rw [if_neg (by rw [ha]; exact Bool.false_ne_true)] at h; exact h
theorem bnd {α β : Type} {m : Option α} {f : α → Option β} {b : β} (h : (m >>= f) = some b) : ∃ a, m = some a ∧ f a = some b := by
  cases m with
  | none => cases h
  | some a => exact ⟨a, rfl, h⟩
theorem bnd' {α β : Type} {m : Option α} {f : α → Option β} {b : β} (h : m.bind f = some b) : ∃ a, m = some a ∧ f a = some b := by
  cases m with
  | none => cases h
  | some a => exact ⟨a, rfl, h⟩

/-! ### lists -/
section
variable {K : PySem.W.Frag} {σ : L2.St} {G G1 G2 G' : GH} {H H1 H2 H' : Hp} {ta tb tc te : TE} {tt tu : TT} {R R' S : RP} {Rs : List RP} {b c : Bool} {v : V}
/-- a list that is read: finished, or owned -/
def Lv (K : PySem.W.Frag) (G : GH) (H : Hp) (v : V) (ds : List PyData) : Prop := ∃ p vs, v = .ref p ∧ vs.length ≤ sizeLine ∧ (G p = some (isO (.lst vs)) ∨ (G p = none ∧ H p = some (.lst vs))) ∧ DgAll K G vs ds
theorem Lv.step {ds : List PyData} (h : Lv K G H v ds) (g : Gr [] G H G1 H1) : Lv K G1 H1 v ds := by
  obtain ⟨p, vs, e, z, h, r⟩ := h
  refine ⟨p, vs, e, z, ?_, r.mono g.sub⟩
  rcases h with h | ⟨n, h⟩
  · exact .inl (g.sub _ _ h)
  · exact .inr ⟨g.un n h, g.at0 n h⟩
theorem Lv.at' {ds : List PyData} (h : Lv K G H v ds) (f : Fit G H) : ∃ p vs, v = .ref p ∧ vs.length ≤ sizeLine ∧ H p = some (.lst vs) ∧ DgAll K G vs ds := by
  obtain ⟨p, vs, e, z, h, r⟩ := h
  refine ⟨p, vs, e, z, ?_, r⟩
  rcases h with h | ⟨n, h⟩
  · exact f.at' h
  · exact h
theorem Lv.sq {ds : List PyData} (h : Lv K G H v ds) (f : Fit G H) : ∃ p vs, v = .ref p ∧ SqL K H p vs ∧ DgAll K G vs ds := let ⟨p, vs, e, _, h, r⟩ := h.at' f; ⟨p, vs, e, SqL.of h, r⟩
theorem Lv.dp {ds : List PyData} (h : Lv K G H v ds) (f : Fit G H) : Dp K H v (.list ds) := by
  obtain ⟨p, vs, rfl, h, r⟩ := h.sq f
  exact .lst h (r.dp f)
def EL (K : PySem.W.Frag) (te : TE) (σ : L2.St) (G : GH) (H : Hp) (ds : List PyData) : Prop := ∀ G1 H1, Gr [] G H G1 H1 → ∀ Q : VK, (∀ v G2 H2, Gr [] G1 H1 G2 H2 → Lv K G2 H2 v ds → Q v H2) → te σ H1 Q
theorem lv_of {ds : List PyData} (r : Dg K G v (.list ds)) : Lv K G H v ds := let ⟨p, vs, e, hf, hr⟩ := Dg.list_inv r; ⟨p, vs, e, hf.1, .inl hf.2, hr⟩
theorem EV.lv {ds : List PyData} (h : EV te σ G H (D K (.list ds))) : EL K te σ G H ds := fun G1 H1 g Q q => h G1 H1 g Q fun v G2 H2 g2 r => q v G2 H2 g2 (lv_of r)
theorem EL.mono {ds : List PyData} (h : EL K te σ G H ds) (g : Gr [] G H G1 H1) : EL K te σ G1 H1 ds := fun G2 H2 g2 Q q => h G2 H2 (g.trans g2) Q q
theorem SA.ownL {mx : List Addr} {G0 : GH} {H0 : Hp} {Γ : List (Option RP)} {Os : List (Addr × OP)} {Ts : List (V × RP)} {ds : List PyData} {p : Addr} (s : SA mx G0 H0 Γ Os Ts σ G H) (i j : Nat) (e : Γ[i]? = some (some (isV (.ref p))) := by rfl) (o : Os[j]? = some (p, Fz.ownL K ds) := by rfl) : EL K (tVar i) σ G H ds := by
  obtain ⟨v, q, r⟩ := s.env.2 i _ e
  obtain ⟨n, ⟨u, hu, vs, eu, z, hr⟩, _⟩ := s.at_ j o
  have ev : v = .ref p := r
  subst ev eu
  exact fun G1 H1 g Q k => ⟨_, q, k _ G1 H1 (Gr.refl g.fit) ⟨p, vs, rfl, z, .inr ⟨g.un n hu, g.at0 n hu⟩, hr.mono g.sub⟩⟩
theorem atI_map {α β : Type} (f : α → β) (xs : List α) (i : Int) : atI (xs.map f) i = (atI xs i).map f := by
  unfold atI
  rw [List.length_map]
  cases ixN xs.length i with
  | none => rfl
  | some j => show (xs.map f)[j]? = (xs[j]?).map f; rw [List.getElem?_map]
theorem DgAll.atI {vs : List V} {ds : List PyData} {i : Int} {d : PyData} (h : DgAll K G vs ds) (e : L2.atI ds i = some d) : ∃ v, L2.atI vs i = some v ∧ Dg K G v d := by
  unfold L2.atI at e ⊢
  rw [h.length]
  cases q : ixN ds.length i with
  | none => rw [q] at e; cases e
  | some j => rw [q] at e; exact h.get e
theorem cutV_eq (vs : List V) (lo hi : Option Int) : cutV vs lo hi = Fm.cut vs lo hi := rfl
theorem DgAll.cut {vs : List V} {ds : List PyData} (h : DgAll K G vs ds) (lo hi : Option Int) : DgAll K G (Fm.cut vs lo hi) (Fm.cut ds lo hi) := by
  unfold Fm.cut
  rw [h.length]
  exact (h.drop _).take _
theorem cut_map {α β : Type} (f : α → β) (xs : List α) (lo hi : Option Int) : Fm.cut (xs.map f) lo hi = (Fm.cut xs lo hi).map f := by
  unfold Fm.cut
  rw [List.length_map, List.map_take, List.map_drop]

/-! ### ints -/
variable {x y z : Int} {g : Int → Int → Int} {pr : Int → Int → Bool}
theorem ev_ii (ha : EV ta σ G H (D K (eI x))) (hb : EV tb σ G H (D K (eI y))) : EV (tOp (rI0 fun i j => .int (g i j)) ta tb) σ G H (D K (eI (g x y))) :=
  ev_op0 ha hb fun G1 H1 u v _ ru rv => ⟨.int (g x y), .int _, fun Q q => ⟨x, y, ru.int_inv, rv.int_inv, q⟩⟩
theorem ev_iic {C : Int → Int → Prop} (ha : EV ta σ G H (D K (eI x))) (hb : EV tb σ G H (D K (eI y))) (hc : C x y) : EV (tOp (rI C fun i j => .int (g i j)) ta tb) σ G H (D K (eI (g x y))) :=
  ev_op0 ha hb fun G1 H1 u v _ ru rv => ⟨.int (g x y), .int _, fun Q q => ⟨x, y, ru.int_inv, rv.int_inv, hc, q⟩⟩
theorem ev_ib (ha : EV ta σ G H (D K (eI x))) (hb : EV tb σ G H (D K (eI y))) : EV (tOp (rI0 fun i j => .bl (pr i j)) ta tb) σ G H (D K (eB (pr x y))) :=
  ev_op0 ha hb fun G1 H1 u v _ ru rv => ⟨.bl (pr x y), .bl _, fun Q q => ⟨x, y, ru.int_inv, rv.int_inv, q⟩⟩
theorem ev_add (ha : EV ta σ G H (D K (eI x))) (hb : EV tb σ G H (D K (eI y))) : EV (tOp (rI0 fun i j => .int (i + j)) ta tb) σ G H (D K (eI (x + y))) := ev_ii (g := fun i j => i + j) ha hb
theorem ev_sub (ha : EV ta σ G H (D K (eI x))) (hb : EV tb σ G H (D K (eI y))) : EV (tOp (rI0 fun i j => .int (i - j)) ta tb) σ G H (D K (eI (x - y))) := ev_ii (g := fun i j => i - j) ha hb
theorem ev_mul (ha : EV ta σ G H (D K (eI x))) (hb : EV tb σ G H (D K (eI y))) (h : Fm.mul x y = some z) : EV (tOp (rI CMul fun i j => .int (i * j)) ta tb) σ G H (D K (eI z)) := by
  obtain ⟨c, rfl⟩ := if_some h
  exact ev_iic (g := fun i j => i * j) ha hb c
theorem ev_fdiv (ha : EV ta σ G H (D K (eI x))) (hb : EV tb σ G H (D K (eI y))) (h : Fm.fdiv x y = some z) : EV (tOp (rI CDiv fun i j => .int (i / j)) ta tb) σ G H (D K (eI z)) := by
  obtain ⟨c, rfl⟩ := if_some h
  exact ev_iic (g := fun i j => i / j) ha hb c
theorem ev_mod (ha : EV ta σ G H (D K (eI x))) (hb : EV tb σ G H (D K (eI y))) (h : Fm.mod x y = some z) : EV (tOp (rI (fun _ j => 0 < j) fun i j => .int (i % j)) ta tb) σ G H (D K (eI z)) := by
  obtain ⟨c, rfl⟩ := if_some h
  exact ev_iic (C := fun _ j => 0 < j) (g := fun i j => i % j) ha hb c
theorem ev_pow (ha : EV ta σ G H (D K (eI x))) (hb : EV tb σ G H (D K (eI y))) (h : Fm.pow x y = some z) : EV (tOp (rI CPow fun i j => .int (i ^ j.toNat)) ta tb) σ G H (D K (eI z)) := by
  obtain ⟨c, rfl⟩ := if_some h
  exact ev_iic (g := fun i j => i ^ j.toNat) ha hb c
theorem ev_lt (ha : EV ta σ G H (D K (eI x))) (hb : EV tb σ G H (D K (eI y))) : EV (tOp (rI0 fun i j => .bl (decide (i < j))) ta tb) σ G H (D K (eB (decide (x < y)))) := ev_ib (pr := fun i j => decide (i < j)) ha hb
theorem ev_le (ha : EV ta σ G H (D K (eI x))) (hb : EV tb σ G H (D K (eI y))) : EV (tOp (rI0 fun i j => .bl (decide (i ≤ j))) ta tb) σ G H (D K (eB (decide (x ≤ y)))) := ev_ib (pr := fun i j => decide (i ≤ j)) ha hb
theorem ev_gt (ha : EV ta σ G H (D K (eI x))) (hb : EV tb σ G H (D K (eI y))) : EV (tOp (rI0 fun i j => .bl (decide (j < i))) ta tb) σ G H (D K (eB (decide (y < x)))) := ev_ib (pr := fun i j => decide (j < i)) ha hb
theorem ev_ge (ha : EV ta σ G H (D K (eI x))) (hb : EV tb σ G H (D K (eI y))) : EV (tOp (rI0 fun i j => .bl (decide (j ≤ i))) ta tb) σ G H (D K (eB (decide (y ≤ x)))) := ev_ib (pr := fun i j => decide (j ≤ i)) ha hb
theorem ev_neg (ha : EV ta σ G H (D K (eI x))) : EV (tUn (rU fun i => .int (-i)) ta) σ G H (D K (eI (-x))) := ev_un ha fun G1 H1 u g ru Q q => ⟨x, Dg.int_inv ru, q _ G1 H1 (Gr.refl g.fit) (.int _)⟩
/-- == of ints | texts | bools -/
theorem ev_eqI (ha : EV ta σ G H (D K (eI x))) (hb : EV tb σ G H (D K (eI y))) : EV (tOp rEq ta tb) σ G H (D K (eB (decide (x = y)))) :=
  ev_op0 ha hb fun G1 H1 u v _ ru rv => ⟨.bl (decide (x = y)), .bl _, fun Q q => by
    rw [ru.int_inv, rv.int_inv]
    refine ⟨rfl, ?_⟩
    have e : decide (V.int x = V.int y) = decide (x = y) := by rw [decide_eq_decide]; exact ⟨fun h => by injection h, fun h => by rw [h]⟩
    rw [e]; exact q⟩
theorem ev_neI (ha : EV ta σ G H (D K (eI x))) (hb : EV tb σ G H (D K (eI y))) : EV (tOp rNe ta tb) σ G H (D K (eB (!decide (x = y)))) :=
  ev_op0 ha hb fun G1 H1 u v _ ru rv => ⟨.bl (!decide (x = y)), .bl _, fun Q q => by
    rw [ru.int_inv, rv.int_inv]
    refine ⟨rfl, ?_⟩
    have e : decide (V.int x = V.int y) = decide (x = y) := by rw [decide_eq_decide]; exact ⟨fun h => by injection h, fun h => by rw [h]⟩
    rw [e]; exact q⟩
theorem decS (a b : Tx) : decide (V.str (mkS a) = V.str (mkS b)) = decide (a = b) := by
  rw [decide_eq_decide]
  exact ⟨fun h => mkS_inj (by injection h), fun h => by rw [h]⟩
variable {s t r : Tx}
theorem ev_eqS (ha : EV ta σ G H (D K (eS s))) (hb : EV tb σ G H (D K (eS t))) : EV (tOp rEq ta tb) σ G H (D K (eB (decide (s = t)))) :=
  ev_op0 ha hb fun G1 H1 u v _ ru rv => ⟨.bl (decide (s = t)), .bl _, fun Q q => by
    rw [ru.str_inv, rv.str_inv]
    refine ⟨rfl, ?_⟩
    rw [decS]; exact q⟩
theorem ev_neS (ha : EV ta σ G H (D K (eS s))) (hb : EV tb σ G H (D K (eS t))) : EV (tOp rNe ta tb) σ G H (D K (eB (!decide (s = t)))) :=
  ev_op0 ha hb fun G1 H1 u v _ ru rv => ⟨.bl (!decide (s = t)), .bl _, fun Q q => by
    rw [ru.str_inv, rv.str_inv]
    refine ⟨rfl, ?_⟩
    rw [decS]; exact q⟩
theorem ev_eqB (ha : EV ta σ G H (D K (eB b))) (hb : EV tb σ G H (D K (eB c))) : EV (tOp rEq ta tb) σ G H (D K (eB (decide (b = c)))) :=
  ev_op0 ha hb fun G1 H1 u v _ ru rv => ⟨.bl (decide (b = c)), .bl _, fun Q q => by
    rw [ru.bool_inv, rv.bool_inv]
    refine ⟨rfl, ?_⟩
    have e : decide (V.bl b = V.bl c) = decide (b = c) := by rw [decide_eq_decide]; exact ⟨fun h => by injection h, fun h => by rw [h]⟩
    rw [e]; exact q⟩
theorem ev_neB (ha : EV ta σ G H (D K (eB b))) (hb : EV tb σ G H (D K (eB c))) : EV (tOp rNe ta tb) σ G H (D K (eB (!decide (b = c)))) :=
  ev_op0 ha hb fun G1 H1 u v _ ru rv => ⟨.bl (!decide (b = c)), .bl _, fun Q q => by
    rw [ru.bool_inv, rv.bool_inv]
    refine ⟨rfl, ?_⟩
    have e : decide (V.bl b = V.bl c) = decide (b = c) := by rw [decide_eq_decide]; exact ⟨fun h => by injection h, fun h => by rw [h]⟩
    rw [e]; exact q⟩
/-- chained comparisons of ints -/
theorem ev_chain {p1 p2 : Int → Int → Bool} (ha : EV ta σ G H (D K (eI x))) (hb : EV tb σ G H (D K (eI y))) (hc : EV tc σ G H (D K (eI z))) : EV (tChain (rI0 fun i j => .bl (p1 i j)) (rI0 fun i j => .bl (p2 i j)) ta tb tc) σ G H (D K (eB (p1 x y && p2 y z))) := fun G1 H1 g Q q =>
  ha G1 H1 g _ fun u G2 H2 g2 ru => hb G2 H2 (g.trans g2) _ fun v G3 H3 g3 rv => ⟨x, y, Dg.int_inv ru, Dg.int_inv rv, p1 x y, rfl, by
    cases h : p1 x y with
    | false =>
      rw [h] at q
      exact q _ G3 H3 (g2.trans g3) (.bl _)
    | true =>
      rw [h] at q
      exact hc G3 H3 ((g.trans g2).trans g3) _ fun w G4 H4 g4 rw' => ⟨y, z, Dg.int_inv rv, Dg.int_inv rw', q _ G4 H4 ((g2.trans g3).trans g4) (.bl _)⟩⟩

/-! ### texts -/
theorem ev_catS (ha : EV ta σ G H (D K (eS s))) (hb : EV tb σ G H (D K (eS t))) (h : Fm.catS s t = some r) : EV (tOp (fun x y H Q => ∃ i j, x = .str i ∧ y = .str j ∧ i.length + j.length ≤ sizeLine ∧ Q (.str (i ++ j)) H) ta tb) σ G H (D K (eS r)) := by
  obtain ⟨c, rfl⟩ := if_some h
  exact ev_op0 ha hb fun G1 H1 u v _ ru rv => ⟨.str (mkS (s ++ t)), .str _ (by rw [mkS_len, List.length_append]; exact c), fun Q q => ⟨mkS s, mkS t, ru.str_inv, rv.str_inv, by rw [mkS_len, mkS_len]; exact c, by rw [mkS_app]; exact q⟩⟩
theorem one_sz : (1 : Nat) ≤ sizeLine := by decide
theorem ev_ixS (ha : EV ta σ G H (D K (eS s))) (hb : EV tb σ G H (D K (eI x))) (h : Fm.ixS s x = some r) : EV (tOp rIxS ta tb) σ G H (D K (eS r)) := by
  unfold Fm.ixS at h
  cases e : atI s x with
  | none => rw [e] at h; cases h
  | some c =>
    rw [e] at h
    cases h
    exact ev_op0 ha hb fun G1 H1 u v _ ru rv => ⟨.str (mkS [c]), .str _ (by rw [mkS_len]; exact one_sz), fun Q q => ⟨mkS s, x, c, ru.str_inv, rv.int_inv, ru.str_len, by rw [mkS_list]; exact e, q⟩⟩
/-- one sign in a text -/
theorem ev_inSign {c : Bool} (ha : EV ta σ G H (D K (eS s))) (hb : EV tb σ G H (D K (eS t))) (h : Fm.inS s t = some c) : EV (tOp (fun x y H Q => ∃ (c : Nat) (z : Str), x = .str ⟨#[c]⟩ ∧ y = .str z ∧ Q (.bl (decide (c ∈ z.cps.toList))) H) ta tb) σ G H (D K (eB c)) := by
  obtain ⟨k, rfl, rfl⟩ := inS_some h
  exact ev_op0 ha hb fun G1 H1 u v _ ru rv => ⟨.bl (decide (k ∈ t)), .bl _, fun Q q => ⟨k, mkS t, ru.str_inv, rv.str_inv, by rw [mkS_list]; exact q⟩⟩
theorem ev_niSign {c : Bool} (ha : EV ta σ G H (D K (eS s))) (hb : EV tb σ G H (D K (eS t))) (h : Fm.inS s t = some c) : EV (tOp (fun x y H Q => ∃ (c : Nat) (z : Str), x = .str ⟨#[c]⟩ ∧ y = .str z ∧ Q (.bl (!decide (c ∈ z.cps.toList))) H) ta tb) σ G H (D K (eB (!c))) := by
  obtain ⟨k, rfl, rfl⟩ := inS_some h
  exact ev_op0 ha hb fun G1 H1 u v _ ru rv => ⟨.bl (!decide (k ∈ t)), .bl _, fun Q q => ⟨k, mkS t, ru.str_inv, rv.str_inv, by rw [mkS_list]; exact q⟩⟩

/-! ### lists, tuples -/
variable {α β : Type} {e : α → PyData} {xs ys : List α} {a : α}
theorem ev_ixL (ha : EL K ta σ G H (xs.map e)) (hb : EV tb σ G H (D K (eI x))) (h : Fm.ix xs x = some a) : EV (tOp (rIxL K) ta tb) σ G H (D K (e a)) := fun G1 H1 g Q q =>
  ha G1 H1 g _ fun u G2 H2 g2 ru => hb G2 H2 (g.trans g2) _ fun v G3 H3 g3 rv => by
    obtain ⟨p, vs, rfl, hq, hr⟩ := (ru.step g3).sq g3.fit
    obtain ⟨w, hw, rw'⟩ := hr.atI (i := x) (d := e a) (by rw [atI_map, show atI xs x = some a from h]; rfl)
    exact ⟨p, vs, x, w, rfl, Dg.int_inv rv, hq, hw, q w G3 H3 (g2.trans g3) rw'⟩
theorem ev_ixT (ha : EV ta σ G H (D K (eT e xs))) (hb : EV tb σ G H (D K (eI x))) (h : Fm.ix xs x = some a) : EV (tOp (rIxT K) ta tb) σ G H (D K (e a)) :=
  ev_op ha hb fun G1 H1 u v g ru rv Q q => by
    obtain ⟨p, vs, rfl, hq, hr⟩ := Dg.tuple_inv ru
    obtain ⟨w, hw, rw'⟩ := hr.atI (i := x) (d := e a) (by rw [atI_map, show atI xs x = some a from h]; rfl)
    exact ⟨p, vs, x, w, rfl, Dg.int_inv rv, hq.sq g.fit, hw, q w G1 H1 (Gr.refl g.fit) rw'⟩
/-- a part of a tuple | list of written length, by its written place -/
theorem ev_ixTc {ds : List PyData} {d : PyData} (ha : EV ta σ G H (D K (.tuple ds))) (hb : EV tb σ G H (D K (eI x))) (h : atI ds x = some d) : EV (tOp (rIxT K) ta tb) σ G H (D K d) :=
  ev_op ha hb fun G1 H1 u v g ru rv Q q => by
    obtain ⟨p, vs, rfl, hq, hr⟩ := Dg.tuple_inv ru
    obtain ⟨w, hw, rw'⟩ := hr.atI h
    exact ⟨p, vs, x, w, rfl, Dg.int_inv rv, hq.sq g.fit, hw, q w G1 H1 (Gr.refl g.fit) rw'⟩
theorem ev_ixLc {ds : List PyData} {d : PyData} (ha : EV ta σ G H (D K (.list ds))) (hb : EV tb σ G H (D K (eI x))) (h : atI ds x = some d) : EV (tOp (rIxL K) ta tb) σ G H (D K d) :=
  ev_op ha hb fun G1 H1 u v g ru rv Q q => by
    obtain ⟨p, vs, rfl, hq, hr⟩ := Dg.list_inv ru
    obtain ⟨w, hw, rw'⟩ := hr.atI h
    exact ⟨p, vs, x, w, rfl, Dg.int_inv rv, hq.sq g.fit, hw, q w G1 H1 (Gr.refl g.fit) rw'⟩
/-- a display -/
theorem ralls {ds : List PyData} : ∀ {vs : List V} {ds : List PyData}, RAll G vs (ds.map (D K)) → DgAll K G vs ds
  | _, [], h => by cases h; exact .nil
  | _, d :: ds, h => by cases h with | cons h r => exact .cons h (ralls (ds := []) r)
theorem ev_lst {ta : TA} {ds : List PyData} (h : EA ta σ G H (ds.map (D K))) (hl : ds.length ≤ sizeLine := by exact Nat.le_of_ble_eq_true rfl) : EV (tLst ta) σ G H (D K (.list ds)) := fun G1 H1 g Q q =>
  h G1 H1 g _ fun vs G2 H2 g2 rs => by
    have hz : vs.length ≤ sizeLine := by have := rs.length; rw [List.length_map] at this; omega
    refine ⟨hz, fun p hp => ?_⟩
    have g3 : Gr [] G2 H2 (updG G2 p (isO (.lst vs))) (upd H2 p (.lst vs)) := Gr.make g2.fit hp
    exact q _ _ _ (g2.trans g3) (.lst ⟨hz, updG_same⟩ ((ralls (ds := ds) rs).mono g3.sub))
theorem ev_tup {ta : TA} {ds : List PyData} (h : EA ta σ G H (ds.map (D K))) (hl : ds.length ≤ sizeLine := by exact Nat.le_of_ble_eq_true rfl) : EV (tTup ta) σ G H (D K (.tuple ds)) := fun G1 H1 g Q q =>
  h G1 H1 g _ fun vs G2 H2 g2 rs => by
    have hz : vs.length ≤ sizeLine := by have := rs.length; rw [List.length_map] at this; omega
    refine ⟨hz, fun p hp => ?_⟩
    have g3 : Gr [] G2 H2 (updG G2 p (isO (.tup vs))) (upd H2 p (.tup vs)) := Gr.make g2.fit hp
    exact q _ _ _ (g2.trans g3) (.tup ⟨hz, updG_same⟩ ((ralls (ds := ds) rs).mono g3.sub))
/-- xs[a:b], a new list -/
def EO (K : PySem.W.Frag) (to : TO) (σ : L2.St) (G : GH) (H : Hp) (o : Option Int) : Prop := ∀ G1 H1, Gr [] G H G1 H1 → ∀ Q : Option Int → Hp → Prop, (∀ G2 H2, Gr [] G1 H1 G2 H2 → Q o H2) → to σ H1 Q
theorem eo_none : EO K tNoPart σ G H none := fun G1 H1 g Q q => q G1 H1 (Gr.refl g.fit)
theorem eo_some (h : EV te σ G H (D K (eI x))) : EO K (tPart te) σ G H (some x) := fun G1 H1 g Q q => h G1 H1 g _ fun v G2 H2 g2 r => ⟨x, Dg.int_inv r, q G2 H2 g2⟩
theorem cut_len {α : Type} (xs : List α) (lo hi : Option Int) : (Fm.cut xs lo hi).length ≤ xs.length := by
  unfold Fm.cut
  rw [List.length_take, List.length_drop]
  omega
theorem ev_slL {tl th : TO} {lo hi : Option Int} (ha : EL K te σ G H (xs.map e)) (h1 : EO K tl σ G H lo) (h2 : EO K th σ G H hi) : EV (tSl (rSlL K) te tl th) σ G H (D K (eL e (Fm.cut xs lo hi))) := fun G1 H1 g Q q =>
  ha G1 H1 g _ fun u G2 H2 g2 ru => h1 G2 H2 (g.trans g2) _ fun G3 H3 g3 => h2 G3 H3 ((g.trans g2).trans g3) _ fun G4 H4 g4 => by
    obtain ⟨p, vs, rfl, hz, hq, hr⟩ := ((ru.step g3).step g4).at' g4.fit
    refine ⟨p, vs, rfl, SqL.of hq, fun b hb => ?_⟩
    have g5 : Gr [] G4 H4 (updG G4 b (isO (.lst (cutV vs lo hi)))) (upd H4 b (.lst (cutV vs lo hi))) := Gr.make g4.fit hb
    refine q _ _ _ (((g2.trans g3).trans g4).trans g5) (.lst ⟨Nat.le_trans (cut_len vs lo hi) hz, updG_same⟩ ?_)
    rw [cutV_eq, ← cut_map]
    exact (hr.cut lo hi).mono g5.sub
/-- a new list -/
theorem lst_new {vs : List V} {ds : List PyData} {p : Addr} {Q : VK} (f : Fit G H) (hp : H p = none) (hz : vs.length ≤ sizeLine) (hr : DgAll K G vs ds) (q : ∀ v G2 H2, Gr [] G H G2 H2 → Dg K G2 v (.list ds) → Q v H2) : Q (.ref p) (upd H p (.lst vs)) := by
  have g5 : Gr [] G H (updG G p (isO (.lst vs))) (upd H p (.lst vs)) := Gr.make f hp
  exact q _ _ _ g5 (.lst ⟨hz, updG_same⟩ (hr.mono g5.sub))
theorem tup_new {vs : List V} {ds : List PyData} {p : Addr} {Q : VK} (f : Fit G H) (hp : H p = none) (hz : vs.length ≤ sizeLine) (hr : DgAll K G vs ds) (q : ∀ v G2 H2, Gr [] G H G2 H2 → Dg K G2 v (.tuple ds) → Q v H2) : Q (.ref p) (upd H p (.tup vs)) := by
  have g5 : Gr [] G H (updG G p (isO (.tup vs))) (upd H p (.tup vs)) := Gr.make f hp
  exact q _ _ _ g5 (.tup ⟨hz, updG_same⟩ (hr.mono g5.sub))
/-- xs + ys: new -/
theorem ev_catL {zs : List α} (ha : EL K ta σ G H (xs.map e)) (hb : EL K tb σ G H (ys.map e)) (h : Fm.catL xs ys = some zs) : EV (tOp rCat ta tb) σ G H (D K (eL e zs)) := by
  obtain ⟨c, rfl⟩ := if_some h
  exact fun G1 H1 g Q q => ha G1 H1 g _ fun u G2 H2 g2 ru => hb G2 H2 (g.trans g2) _ fun v G3 H3 g3 rv => by
    obtain ⟨p, vs, rfl, hz, hq, hr⟩ := (ru.step g3).at' g3.fit
    obtain ⟨p', vs', rfl, hz', hq', hr'⟩ := rv.at' g3.fit
    have e1 := hr.length
    have e2 := hr'.length
    rw [List.length_map] at e1 e2
    refine ⟨p, p', vs, vs', rfl, rfl, hq, hq', by omega, fun b hb => lst_new g3.fit hb (by rw [List.length_append]; omega) (hr.append hr') fun v G4 H4 g4 r4 => q v G4 H4 ((g2.trans g3).trans g4) ?_⟩
    rw [← List.map_append] at r4
    exact r4
/-- t + u -/
theorem ev_catT {zs : List α} (ha : EV ta σ G H (D K (eT e xs))) (hb : EV tb σ G H (D K (eT e ys))) (h : Fm.catL xs ys = some zs) : EV (tOp (rCatA K) ta tb) σ G H (D K (eT e zs)) := by
  obtain ⟨c, rfl⟩ := if_some h
  refine ev_op ha hb fun G1 H1 u v g ru rv Q q => ?_
  obtain ⟨p, vs, rfl, hq, hr⟩ := Dg.tuple_inv ru
  obtain ⟨p', vs', rfl, hq', hr'⟩ := Dg.tuple_inv rv
  have e1 := hr.length
  have e2 := hr'.length
  rw [List.length_map] at e1 e2
  refine ⟨p, p', vs, vs', rfl, rfl, hq.sq g.fit, hq'.sq g.fit, by omega, fun z => ?_, fun _ z => ?_, fun _ _ b hb => ?_⟩
  · have e0 : xs = [] := List.eq_nil_of_length_eq_zero (by rw [← e1, z]; rfl)
    subst e0
    exact q _ G1 H1 (Gr.refl g.fit) rv
  · have e0 : ys = [] := List.eq_nil_of_length_eq_zero (by rw [← e2, z]; rfl)
    subst e0
    rw [List.append_nil] at q
    exact q _ G1 H1 (Gr.refl g.fit) ru
  · refine tup_new g.fit hb (by rw [List.length_append]; omega) (hr.append hr') fun v G4 H4 g4 r4 => q v G4 H4 g4 ?_
    rw [← List.map_append] at r4
    exact r4
/-! len, list(..), tuple(..) -/
theorem ev_lenL {ds : List PyData} (ha : EL K ta σ G H ds) : EV (tCB (fun xs H Q => ∃ p ys, xs = [.ref p] ∧ (SqL K H p ys ∨ SqT K H p ys) ∧ Q (.int ys.length) H) (tCons ta tNil)) σ G H (D K (eI ds.length)) := fun G1 H1 g Q q =>
  ha G1 H1 g _ fun u G2 H2 g2 ru => by
    obtain ⟨p, vs, rfl, hq, hr⟩ := ru.sq g2.fit
    exact ⟨p, vs, rfl, .inl hq, q _ G2 H2 g2 (by rw [hr.length]; exact .int _)⟩
theorem ev_lenLm (ha : EL K ta σ G H (xs.map e)) : EV (tCB (fun xs H Q => ∃ p ys, xs = [.ref p] ∧ (SqL K H p ys ∨ SqT K H p ys) ∧ Q (.int ys.length) H) (tCons ta tNil)) σ G H (D K (eI xs.length)) := by
  have h := ev_lenL ha
  rw [List.length_map] at h
  exact h
theorem ev_lenT (ha : EV ta σ G H (D K (eT e xs))) : EV (tCB (fun xs H Q => ∃ p ys, xs = [.ref p] ∧ (SqL K H p ys ∨ SqT K H p ys) ∧ Q (.int ys.length) H) (tCons ta tNil)) σ G H (D K (eI xs.length)) := fun G1 H1 g Q q =>
  ha G1 H1 g _ fun u G2 H2 g2 ru => by
    obtain ⟨p, vs, rfl, hq, hr⟩ := Dg.tuple_inv ru
    have e1 := hr.length
    rw [List.length_map] at e1
    exact ⟨p, vs, rfl, .inr (hq.sq g2.fit), q _ G2 H2 g2 (by rw [e1]; exact .int _)⟩
theorem ev_lenTc {ds : List PyData} (ha : EV ta σ G H (D K (.tuple ds))) : EV (tCB (fun xs H Q => ∃ p ys, xs = [.ref p] ∧ (SqL K H p ys ∨ SqT K H p ys) ∧ Q (.int ys.length) H) (tCons ta tNil)) σ G H (D K (eI ds.length)) := fun G1 H1 g Q q =>
  ha G1 H1 g _ fun u G2 H2 g2 ru => by
    obtain ⟨p, vs, rfl, hq, hr⟩ := Dg.tuple_inv ru
    exact ⟨p, vs, rfl, .inr (hq.sq g2.fit), q _ G2 H2 g2 (by rw [hr.length]; exact .int _)⟩
theorem ev_lenS (ha : EV ta σ G H (D K (eS s))) : EV (tCB (fun xs H Q => ∃ z, xs = [.str z] ∧ z.length ≤ sizeLine ∧ Q (.int z.length) H) (tCons ta tNil)) σ G H (D K (eI s.length)) := fun G1 H1 g Q q =>
  ha G1 H1 g _ fun u G2 H2 g2 ru => ⟨mkS s, by rw [Dg.str_inv ru], Dg.str_len ru, q _ G2 H2 g2 (by rw [mkS_len]; exact .int _)⟩
theorem ev_listL {ds : List PyData} (ha : EL K ta σ G H ds) : EV (tCB (fun xs H Q => ∃ p ys, xs = [.ref p] ∧ (SqL K H p ys ∨ SqT K H p ys) ∧ ∀ l, H l = none → Q (.ref l) (upd H l (.lst ys))) (tCons ta tNil)) σ G H (D K (.list ds)) := fun G1 H1 g Q q =>
  ha G1 H1 g _ fun u G2 H2 g2 ru => by
    obtain ⟨p, vs, rfl, hz, hq, hr⟩ := ru.at' g2.fit
    exact ⟨p, vs, rfl, .inl (SqL.of hq), fun l hl => lst_new g2.fit hl hz hr fun v G4 H4 g4 r4 => q v G4 H4 (g2.trans g4) r4⟩
theorem ev_listT {ds : List PyData} (ha : EV ta σ G H (D K (.tuple ds))) : EV (tCB (fun xs H Q => ∃ p ys, xs = [.ref p] ∧ (SqL K H p ys ∨ SqT K H p ys) ∧ ∀ l, H l = none → Q (.ref l) (upd H l (.lst ys))) (tCons ta tNil)) σ G H (D K (.list ds)) := fun G1 H1 g Q q =>
  ha G1 H1 g _ fun u G2 H2 g2 ru => by
    obtain ⟨p, vs, rfl, hq, hr⟩ := Dg.tuple_inv ru
    exact ⟨p, vs, rfl, .inr (hq.sq g2.fit), fun l hl => lst_new g2.fit hl hq.1 hr fun v G4 H4 g4 r4 => q v G4 H4 (g2.trans g4) r4⟩
theorem ev_tupleL {ds : List PyData} (ha : EL K ta σ G H ds) : EV (tCB (fun xs H Q => ∃ p ys, xs = [.ref p] ∧ ((SqL K H p ys ∧ ∀ l, H l = none → Q (.ref l) (upd H l (.tup ys))) ∨ (SqT K H p ys ∧ Q (.ref p) H))) (tCons ta tNil)) σ G H (D K (.tuple ds)) := fun G1 H1 g Q q =>
  ha G1 H1 g _ fun u G2 H2 g2 ru => by
    obtain ⟨p, vs, rfl, hz, hq, hr⟩ := ru.at' g2.fit
    exact ⟨p, vs, rfl, .inl ⟨SqL.of hq, fun l hl => tup_new g2.fit hl hz hr fun v G4 H4 g4 r4 => q v G4 H4 (g2.trans g4) r4⟩⟩
theorem ev_tupleT {ds : List PyData} (ha : EV ta σ G H (D K (.tuple ds))) : EV (tCB (fun xs H Q => ∃ p ys, xs = [.ref p] ∧ ((SqL K H p ys ∧ ∀ l, H l = none → Q (.ref l) (upd H l (.tup ys))) ∨ (SqT K H p ys ∧ Q (.ref p) H))) (tCons ta tNil)) σ G H (D K (.tuple ds)) := fun G1 H1 g Q q =>
  ha G1 H1 g _ fun u G2 H2 g2 ru => by
    obtain ⟨p, vs, rfl, hq, hr⟩ := Dg.tuple_inv ru
    exact ⟨p, vs, rfl, .inr ⟨hq.sq g2.fit, q _ G2 H2 g2 ru⟩⟩
end
end Fz
set_option Elab.async false
set_option linter.all false
set_option maxRecDepth 100000
set_option maxHeartbeats 2000000
/-! Fz: == and in of data, built-ins, texts' methods, calls. -/
namespace Fz
open PySem PySem.Spec PyProof.Rows L2

/-! ### machine rules: == and in of data of any depth up to 64 -/
section
variable {X : Cx}
def rEqP (K : PySem.W.Frag) : R2 := fun x y H Q => ∃ d e, Dp K H x d ∧ Dp K H y e ∧ d.plain = true ∧ e.plain = true ∧ d.depth ≤ 8 ∧ Q (.bl (PyData.eqv d e)) H
def rNeP (K : PySem.W.Frag) : R2 := fun x y H Q => ∃ d e, Dp K H x d ∧ Dp K H y e ∧ d.plain = true ∧ e.plain = true ∧ d.depth ≤ 8 ∧ Q (.bl (!PyData.eqv d e)) H
theorem op_eqP (hu : X.A.units + 64 < cLine) : OpR X (compareOp .Eq) (rEqP X.K) := by
  intro pins s σ H x y v u Q I rx ry h
  obtain ⟨d, e, hd, he, sd, se, sz, q⟩ := h
  obtain ⟨as, r1⟩ := Dp.reads I d x v hd rx
  obtain ⟨bs, r2⟩ := Dp.reads I e y u he ry
  exact SeqAt.eq_plain r1 r2 sd se (by omega) ⟨.bl _, H, I, rfl, q⟩
theorem op_neP (hu : X.A.units + 64 < cLine) : OpR X (compareOp .NotEq) (rNeP X.K) := by
  intro pins s σ H x y v u Q I rx ry h
  obtain ⟨d, e, hd, he, sd, se, sz, q⟩ := h
  obtain ⟨as, r1⟩ := Dp.reads I d x v hd rx
  obtain ⟨bs, r2⟩ := Dp.reads I e y u he ry
  exact SeqAt.ne_plain r1 r2 sd se (by omega) ⟨.bl _, H, I, rfl, q⟩
def rInP (K : PySem.W.Frag) : R2 := fun x y H Q => ∃ d ds, Dp K H x d ∧ (Dp K H y (.list ds) ∨ Dp K H y (.tuple ds)) ∧ d.plain = true ∧ PyData.plainAll ds = true ∧ d.depth ≤ 8 ∧ Q (.bl (ds.any fun y => PyData.eqv y d)) H
def rNiP (K : PySem.W.Frag) : R2 := fun x y H Q => ∃ d ds, Dp K H x d ∧ (Dp K H y (.list ds) ∨ Dp K H y (.tuple ds)) ∧ d.plain = true ∧ PyData.plainAll ds = true ∧ d.depth ≤ 8 ∧ Q (.bl (!ds.any fun y => PyData.eqv y d)) H
theorem op_inP (hu : X.A.units + 64 < cLine) : OpR X (compareOp .In) (rInP X.K) := by
  intro pins s σ H x y v u Q I rx ry h
  obtain ⟨d, ds, hd, he, sd, se, sz, q⟩ := h
  obtain ⟨as, r1⟩ := Dp.reads I d x v hd rx
  rcases he with he | he
  · obtain ⟨bs, r2⟩ := Dp.reads I _ y u he ry
    exact SeqAt.in_list_data r2 r1 se sd (by omega) ⟨.bl _, H, I, rfl, q⟩
  · obtain ⟨bs, r2⟩ := Dp.reads I _ y u he ry
    exact SeqAt.in_tuple_data r2 r1 se sd (by omega) ⟨.bl _, H, I, rfl, q⟩
theorem op_niP (hu : X.A.units + 64 < cLine) : OpR X (compareOp .NotIn) (rNiP X.K) := by
  intro pins s σ H x y v u Q I rx ry h
  obtain ⟨d, ds, hd, he, sd, se, sz, q⟩ := h
  obtain ⟨as, r1⟩ := Dp.reads I d x v hd rx
  rcases he with he | he
  · obtain ⟨bs, r2⟩ := Dp.reads I _ y u he ry
    exact SeqAt.notIn_list_data r2 r1 se sd (by omega) ⟨.bl _, H, I, rfl, q⟩
  · obtain ⟨bs, r2⟩ := Dp.reads I _ y u he ry
    exact SeqAt.notIn_tuple_data r2 r1 se sd (by omega) ⟨.bl _, H, I, rfl, q⟩
end

/-! ### encodings that == sees through -/
/-- the depth n is counted in the class so that nesting adds one -/
class Enc {α : Type} (e : α → PyData) (n : outParam Nat) : Prop where
  plain : ∀ a, (e a).plain = true
  depth : ∀ a, (e a).depth ≤ n
  eqv : ∀ a b, PyData.eqv (e a) (e b) = true ↔ a = b
instance : Enc eI 0 := ⟨fun _ => rfl, fun _ => Nat.le_refl _, fun a b => by simp [PyData.eqv]⟩
instance : Enc eB 0 := ⟨fun _ => rfl, fun _ => Nat.le_refl _, fun a b => by simp [PyData.eqv]⟩
instance : Enc eS 0 := ⟨fun _ => rfl, fun _ => Nat.le_refl _, fun a b => by
  show (PyData.eqv (.str (mkS a)) (.str (mkS b)) = true) ↔ _
  rw [PyData.eqv, beq_iff_eq]
  exact ⟨mkS_inj, fun h => by rw [h]⟩⟩
section
variable {α β γ : Type} {e : α → PyData} {f : β → PyData} {g : γ → PyData} {n m k : Nat}
theorem plainAll_map [Enc e n] : ∀ xs : List α, PyData.plainAll (xs.map e) = true
  | [] => rfl
  | x :: xs => by
    show (PyData.plain (e x) && PyData.plainAll (xs.map e)) = true
    rw [Enc.plain (n := n) x, plainAll_map xs]; rfl
theorem depthAll_map [Enc e n] : ∀ xs : List α, PyData.depthAll (xs.map e) ≤ n
  | [] => Nat.zero_le _
  | x :: xs => by
    show max (e x).depth (PyData.depthAll (xs.map e)) ≤ n
    exact Nat.max_le.mpr ⟨Enc.depth x, depthAll_map xs⟩
theorem eqvAll_map [Enc e n] : ∀ xs ys : List α, PyData.eqvAll (xs.map e) (ys.map e) = true ↔ xs = ys
  | [], [] => by simp [PyData.eqvAll]
  | [], y :: ys => by simp [PyData.eqvAll]
  | x :: xs, [] => by simp [PyData.eqvAll]
  | x :: xs, y :: ys => by
    show (PyData.eqv (e x) (e y) && PyData.eqvAll (xs.map e) (ys.map e)) = true ↔ _
    rw [Bool.and_eq_true, Enc.eqv (n := n), eqvAll_map xs ys, List.cons.injEq]
instance [Enc e n] : Enc (eL e) (n + 1) := ⟨fun a => by show PyData.plainAll (a.map e) = true; exact plainAll_map (n := n) a, fun a => by show PyData.depthAll (a.map e) + 1 ≤ n + 1; exact Nat.succ_le_succ (depthAll_map a), fun a b => by
  show (PyData.eqv (.list (a.map e)) (.list (b.map e)) = true) ↔ _
  rw [PyData.eqv]; exact eqvAll_map (n := n) a b⟩
instance [Enc e n] : Enc (eT e) (n + 1) := ⟨fun a => by show PyData.plainAll (a.map e) = true; exact plainAll_map (n := n) a, fun a => by show PyData.depthAll (a.map e) + 1 ≤ n + 1; exact Nat.succ_le_succ (depthAll_map a), fun a b => by
  show (PyData.eqv (.tuple (a.map e)) (.tuple (b.map e)) = true) ↔ _
  rw [PyData.eqv]; exact eqvAll_map (n := n) a b⟩
theorem eqv2 [Enc e n] [Enc f m] (p q : α × β) : PyData.eqvAll [e p.1, f p.2] [e q.1, f q.2] = true ↔ p = q := by
  simp only [PyData.eqvAll, Bool.and_eq_true, Enc.eqv (n := n) (e := e), Enc.eqv (n := m) (e := f), and_true]
  exact ⟨fun h => Prod.ext h.1 h.2, fun h => by rw [h]; exact ⟨rfl, rfl⟩⟩
theorem eqv3 [Enc e n] [Enc f m] [Enc g k] (p q : α × β × γ) : PyData.eqvAll [e p.1, f p.2.1, g p.2.2] [e q.1, f q.2.1, g q.2.2] = true ↔ p = q := by
  simp only [PyData.eqvAll, Bool.and_eq_true, Enc.eqv (n := n) (e := e), Enc.eqv (n := m) (e := f), Enc.eqv (n := k) (e := g), and_true]
  exact ⟨fun h => Prod.ext h.1 (Prod.ext h.2.1 h.2.2), fun h => by rw [h]; exact ⟨rfl, rfl, rfl⟩⟩
instance [Enc e n] [Enc f m] : Enc (eP2 e f) (max n m + 1) := ⟨fun a => by show (PyData.plain (e a.1) && (PyData.plain (f a.2) && true)) = true; rw [Enc.plain (n := n), Enc.plain (n := m)]; rfl,
  fun a => by show max (e a.1).depth (max (f a.2).depth 0) + 1 ≤ _; have := Enc.depth (e := e) a.1; have := Enc.depth (e := f) a.2; omega, fun a b => by show (PyData.eqv (.tuple _) (.tuple _) = true) ↔ _; rw [PyData.eqv]; exact eqv2 (n := n) (m := m) a b⟩
instance [Enc e n] [Enc f m] [Enc g k] : Enc (eP3 e f g) (max n (max m k) + 1) := ⟨fun a => by show (PyData.plain (e a.1) && (PyData.plain (f a.2.1) && (PyData.plain (g a.2.2) && true))) = true; rw [Enc.plain (n := n), Enc.plain (n := m), Enc.plain (n := k)]; rfl,
  fun a => by show max (e a.1).depth (max (f a.2.1).depth (max (g a.2.2).depth 0)) + 1 ≤ _; have := Enc.depth (e := e) a.1; have := Enc.depth (e := f) a.2.1; have := Enc.depth (e := g) a.2.2; omega, fun a b => by show (PyData.eqv (.tuple _) (.tuple _) = true) ↔ _; rw [PyData.eqv]; exact eqv3 (n := n) (m := m) (k := k) a b⟩
instance [Enc e n] [Enc f m] : Enc (eH2 e f) (max n m + 1) := ⟨fun a => by show (PyData.plain (e a.1) && (PyData.plain (f a.2) && true)) = true; rw [Enc.plain (n := n), Enc.plain (n := m)]; rfl,
  fun a => by show max (e a.1).depth (max (f a.2).depth 0) + 1 ≤ _; have := Enc.depth (e := e) a.1; have := Enc.depth (e := f) a.2; omega, fun a b => by show (PyData.eqv (.list _) (.list _) = true) ↔ _; rw [PyData.eqv]; exact eqv2 (n := n) (m := m) a b⟩
theorem eqv_dec [Enc e n] [DecidableEq α] (a b : α) : PyData.eqv (e a) (e b) = decide (a = b) := by
  rw [Bool.eq_iff_iff, Enc.eqv (n := n), decide_eq_true_iff]
/-- a is one of xs -/
def mem [DecidableEq α] (a : α) (xs : List α) : Bool := xs.any fun y => decide (y = a)
theorem mem_iff [DecidableEq α] {a : α} {xs : List α} : mem a xs = true ↔ a ∈ xs := by
  unfold mem
  rw [List.any_eq_true]
  exact ⟨fun ⟨y, h, e⟩ => by rw [← of_decide_eq_true e]; exact h, fun h => ⟨a, h, decide_eq_true rfl⟩⟩
theorem any_dec [Enc e n] [DecidableEq α] (a : α) (xs : List α) : ((xs.map e).any fun y => PyData.eqv y (e a)) = mem a xs := by
  unfold mem
  induction xs with
  | nil => rfl
  | cons x xs ih => rw [List.map_cons, List.any_cons, List.any_cons, eqv_dec (n := n), ih]
end

section
variable {K : PySem.W.Frag} {σ : L2.St} {G G1 G2 G' : GH} {H H1 H2 H' : Hp} {ta tb tc te : TE} {tt tu : TT} {R R' S : RP} {Rs : List RP} {b c : Bool} {v : V} {x y z : Int} {s t r : Tx}
variable {α β γ : Type} {e : α → PyData} {f : β → PyData} {n m : Nat} {xs ys : List α} {a a' : α}
/-- == of data: the left, the right frozen -/
theorem ev_eqD [DecidableEq α] [Enc e n] (ha : EV ta σ G H (D K (e a))) (hb : EV tb σ G H (D K (e a'))) (hn : n ≤ 8 := by decide) : EV (tOp (rEqP K) ta tb) σ G H (D K (eB (decide (a = a')))) :=
  ev_op ha hb fun G1 H1 u v g ru rv Q q => ⟨e a, e a', Dg.dp g.fit ru, Dg.dp g.fit rv, Enc.plain (n := n) a, Enc.plain (n := n) a', Nat.le_trans (Enc.depth a) hn, by rw [eqv_dec (n := n)]; exact q _ G1 H1 (Gr.refl g.fit) (.bl _)⟩
theorem ev_neD [DecidableEq α] [Enc e n] (ha : EV ta σ G H (D K (e a))) (hb : EV tb σ G H (D K (e a'))) (hn : n ≤ 8 := by decide) : EV (tOp (rNeP K) ta tb) σ G H (D K (eB (!decide (a = a')))) :=
  ev_op ha hb fun G1 H1 u v g ru rv Q q => ⟨e a, e a', Dg.dp g.fit ru, Dg.dp g.fit rv, Enc.plain (n := n) a, Enc.plain (n := n) a', Nat.le_trans (Enc.depth a) hn, by rw [eqv_dec (n := n)]; exact q _ G1 H1 (Gr.refl g.fit) (.bl _)⟩
/-- == of lists, either may be owned -/
theorem ev_eqL [DecidableEq α] [Enc e n] (ha : EL K ta σ G H (xs.map e)) (hb : EL K tb σ G H (ys.map e)) (hn : n ≤ 7 := by decide) : EV (tOp (rEqP K) ta tb) σ G H (D K (eB (decide (xs = ys)))) := fun G1 H1 g Q q =>
  ha G1 H1 g _ fun u G2 H2 g2 ru => hb G2 H2 (g.trans g2) _ fun w G3 H3 g3 rv => ⟨eL e xs, eL e ys, (ru.step g3).dp g3.fit, rv.dp g3.fit, Enc.plain (n := n + 1) xs, Enc.plain (n := n + 1) ys, Nat.le_trans (Enc.depth (e := eL e) xs) (by omega), by
    rw [eqv_dec (e := eL e) (n := n + 1)]; exact q _ G3 H3 (g2.trans g3) (.bl _)⟩
theorem ev_neL [DecidableEq α] [Enc e n] (ha : EL K ta σ G H (xs.map e)) (hb : EL K tb σ G H (ys.map e)) (hn : n ≤ 7 := by decide) : EV (tOp (rNeP K) ta tb) σ G H (D K (eB (!decide (xs = ys)))) := fun G1 H1 g Q q =>
  ha G1 H1 g _ fun u G2 H2 g2 ru => hb G2 H2 (g.trans g2) _ fun w G3 H3 g3 rv => ⟨eL e xs, eL e ys, (ru.step g3).dp g3.fit, rv.dp g3.fit, Enc.plain (n := n + 1) xs, Enc.plain (n := n + 1) ys, Nat.le_trans (Enc.depth (e := eL e) xs) (by omega), by
    rw [eqv_dec (e := eL e) (n := n + 1)]; exact q _ G3 H3 (g2.trans g3) (.bl _)⟩
theorem ev_inL [DecidableEq α] [Enc e n] (ha : EV ta σ G H (D K (e a))) (hb : EL K tb σ G H (xs.map e)) (hn : n ≤ 8 := by decide) : EV (tOp (rInP K) ta tb) σ G H (D K (eB (mem a xs))) := fun G1 H1 g Q q =>
  ha G1 H1 g _ fun u G2 H2 g2 ru => hb G2 H2 (g.trans g2) _ fun w G3 H3 g3 rv => ⟨e a, xs.map e, Dg.dp g3.fit ((D K (e a)).mono g3.sub ru), .inl (rv.dp g3.fit), Enc.plain (n := n) a, plainAll_map (n := n) xs, Nat.le_trans (Enc.depth a) hn, by
    rw [any_dec (n := n)]; exact q _ G3 H3 (g2.trans g3) (.bl _)⟩
theorem ev_niL [DecidableEq α] [Enc e n] (ha : EV ta σ G H (D K (e a))) (hb : EL K tb σ G H (xs.map e)) (hn : n ≤ 8 := by decide) : EV (tOp (rNiP K) ta tb) σ G H (D K (eB (!mem a xs))) := fun G1 H1 g Q q =>
  ha G1 H1 g _ fun u G2 H2 g2 ru => hb G2 H2 (g.trans g2) _ fun w G3 H3 g3 rv => ⟨e a, xs.map e, Dg.dp g3.fit ((D K (e a)).mono g3.sub ru), .inl (rv.dp g3.fit), Enc.plain (n := n) a, plainAll_map (n := n) xs, Nat.le_trans (Enc.depth a) hn, by
    rw [any_dec (n := n)]; exact q _ G3 H3 (g2.trans g3) (.bl _)⟩
theorem ev_inT [DecidableEq α] [Enc e n] (ha : EV ta σ G H (D K (e a))) (hb : EV tb σ G H (D K (eT e xs))) (hn : n ≤ 8 := by decide) : EV (tOp (rInP K) ta tb) σ G H (D K (eB (mem a xs))) :=
  ev_op ha hb fun G1 H1 u v g ru rv Q q => ⟨e a, xs.map e, Dg.dp g.fit ru, .inr (Dg.dp g.fit rv), Enc.plain (n := n) a, plainAll_map (n := n) xs, Nat.le_trans (Enc.depth a) hn, by rw [any_dec (n := n)]; exact q _ G1 H1 (Gr.refl g.fit) (.bl _)⟩
theorem ev_niT [DecidableEq α] [Enc e n] (ha : EV ta σ G H (D K (e a))) (hb : EV tb σ G H (D K (eT e xs))) (hn : n ≤ 8 := by decide) : EV (tOp (rNiP K) ta tb) σ G H (D K (eB (!mem a xs))) :=
  ev_op ha hb fun G1 H1 u v g ru rv Q q => ⟨e a, xs.map e, Dg.dp g.fit ru, .inr (Dg.dp g.fit rv), Enc.plain (n := n) a, plainAll_map (n := n) xs, Nat.le_trans (Enc.depth a) hn, by rw [any_dec (n := n)]; exact q _ G1 H1 (Gr.refl g.fit) (.bl _)⟩
def isN : PyData → Bool | .none => true | _ => false
/-- x is None, x is not None -/
theorem ev_isN {d : PyData} (ha : EV ta σ G H (D K d)) : EV (tOp (fun x y H Q => y = .non ∧ Q (.bl (decide (x = .non))) H) ta (tC .non)) σ G H (D K (eB (isN d))) :=
  ev_op (R' := isV .non) ha (ev_c rfl) fun G1 H1 u v g ru rv Q q => ⟨rv, q _ G1 H1 (Gr.refl g.fit) (by
    have ru : Dg K G1 u d := ru
    cases ru <;> first | exact .bl true | exact .bl false)⟩
theorem ev_notN {d : PyData} (ha : EV ta σ G H (D K d)) : EV (tOp (fun x y H Q => y = .non ∧ Q (.bl (!decide (x = .non))) H) ta (tC .non)) σ G H (D K (eB (!isN d))) :=
  ev_op (R' := isV .non) ha (ev_c rfl) fun G1 H1 u v g ru rv Q q => ⟨rv, q _ G1 H1 (Gr.refl g.fit) (by
    have ru : Dg K G1 u d := ru
    cases ru <;> first | exact .bl true | exact .bl false)⟩

/-! ### built-ins -/
theorem ev_cb1 {rd : List V → Hp → VK → Prop} (ha : EV ta σ G H R) (hr : ∀ G1 H1 u, Gr [] G H G1 H1 → R.r G1 u → ∀ Q : VK, (∀ v G2 H2, Gr [] G1 H1 G2 H2 → S.r G2 v → Q v H2) → rd [u] H1 Q) : EV (tCB rd (tCons ta tNil)) σ G H S := fun G1 H1 g Q q =>
  ha G1 H1 g _ fun u G2 H2 g2 ru => hr G2 H2 u (g.trans g2) ru Q fun v G3 H3 g3 rv => q v G3 H3 (g2.trans g3) rv
theorem ev_cb2 {rd : List V → Hp → VK → Prop} (ha : EV ta σ G H R) (hb : EV tb σ G H R') (hr : ∀ G1 H1 u w, Gr [] G H G1 H1 → R.r G1 u → R'.r G1 w → ∀ Q : VK, (∀ v G2 H2, Gr [] G1 H1 G2 H2 → S.r G2 v → Q v H2) → rd [u, w] H1 Q) : EV (tCB rd (tCons ta (tCons tb tNil))) σ G H S := fun G1 H1 g Q q =>
  ha G1 H1 g _ fun u G2 H2 g2 ru => hb G2 H2 (g.trans g2) _ fun w G3 H3 g3 rw' => hr G3 H3 u w ((g.trans g2).trans g3) (R.mono g3.sub ru) rw' Q fun v G4 H4 g4 rv => q v G4 H4 ((g2.trans g3).trans g4) rv
theorem ev_abs (ha : EV ta σ G H (D K (eI x))) : EV (tCB (fun xs H Q => ∃ i, xs = [.int i] ∧ Q (.int (if i < 0 then -i else i)) H) (tCons ta tNil)) σ G H (D K (eI (if x < 0 then -x else x))) :=
  ev_cb1 ha fun G1 H1 u g ru Q q => ⟨x, by rw [Dg.int_inv ru], q _ G1 H1 (Gr.refl g.fit) (.int _)⟩
theorem ev_max2 (ha : EV ta σ G H (D K (eI x))) (hb : EV tb σ G H (D K (eI y))) : EV (tCB (fun xs H Q => ∃ i j, xs = [.int i, .int j] ∧ Q (.int (if j > i then j else i)) H) (tCons ta (tCons tb tNil))) σ G H (D K (eI (if y > x then y else x))) :=
  ev_cb2 ha hb fun G1 H1 u w g ru rw' Q q => ⟨x, y, by rw [Dg.int_inv ru, Dg.int_inv rw'], q _ G1 H1 (Gr.refl g.fit) (.int _)⟩
theorem ev_min2 (ha : EV ta σ G H (D K (eI x))) (hb : EV tb σ G H (D K (eI y))) : EV (tCB (fun xs H Q => ∃ i j, xs = [.int i, .int j] ∧ Q (.int (if j < i then j else i)) H) (tCons ta (tCons tb tNil))) σ G H (D K (eI (if y < x then y else x))) :=
  ev_cb2 ha hb fun G1 H1 u w g ru rw' Q q => ⟨x, y, by rw [Dg.int_inv ru, Dg.int_inv rw'], q _ G1 H1 (Gr.refl g.fit) (.int _)⟩
theorem ev_intI (ha : EV ta σ G H (D K (eI x))) : EV (tCB (fun xs H Q => (∃ i, xs = [.int i] ∧ Q (.int i) H) ∨ ∃ k, xs = [.bl k] ∧ Q (.int (if k then 1 else 0)) H) (tCons ta tNil)) σ G H (D K (eI x)) :=
  ev_cb1 ha fun G1 H1 u g ru Q q => .inl ⟨x, by rw [Dg.int_inv ru], q _ G1 H1 (Gr.refl g.fit) (.int _)⟩
def strI (i : Int) : Tx := (toString i).toList.map Char.toNat
namespace Fm
def strI (i : Int) : Option Tx := if i.natAbs.log2 < 1920 ∧ (Fz.strI i).length ≤ sizeLine then some (Fz.strI i) else none
end Fm
theorem strI_str (i : Int) : (Str.ofString (toString i) : Str) = mkS (strI i) := by
  refine TL.ext_tl ?_
  rw [TL.tl_ofString]
  show _ = (mkS (strI i)).cps.toList
  rw [mkS_list]; rfl
theorem ev_strI (ha : EV ta σ G H (D K (eI x))) (h : Fm.strI x = some s) : EV (tCB (fun xs H Q => ∃ i, xs = [.int i] ∧ i.natAbs.log2 < 1920 ∧ Q (.str (toString i)) H) (tCons ta tNil)) σ G H (D K (eS s)) := by
  obtain ⟨⟨c, c2⟩, rfl⟩ := if_some h
  exact ev_cb1 ha fun G1 H1 u g ru Q q => ⟨x, by rw [Dg.int_inv ru], c, q _ G1 H1 (Gr.refl g.fit) (by
    show Dg K G1 (.str (Str.ofString (toString x))) (.str (mkS (strI x)))
    rw [strI_str]
    exact .str _ (by rw [mkS_len]; exact c2))⟩
/-- all([..]) of a list of truths -/
theorem bools_of : ∀ {bs : List Bool} {vs : List V}, DgAll K G vs (bs.map eB) → vs = bs.map V.bl
  | [], _, h => by cases h; rfl
  | b :: bs, _, h => by
    cases h with
    | cons h r => rw [Dg.bool_inv h, bools_of r]; rfl
theorem ev_all {bs : List Bool} (ha : EL K ta σ G H (bs.map eB)) : EV (tCB (rAll K) (tCons ta tNil)) σ G H (D K (eB (bs.all id))) := fun G1 H1 g Q q =>
  ha G1 H1 g _ fun u G2 H2 g2 ru => by
    obtain ⟨p, vs, rfl, hq, hr⟩ := ru.sq g2.fit
    have ev := bools_of hr
    subst ev
    exact ⟨p, bs, rfl, hq, q _ G2 H2 g2 (.bl _)⟩
theorem ev_any {bs : List Bool} (ha : EL K ta σ G H (bs.map eB)) : EV (tCB (rAny K) (tCons ta tNil)) σ G H (D K (eB (bs.any id))) := fun G1 H1 g Q q =>
  ha G1 H1 g _ fun u G2 H2 g2 ru => by
    obtain ⟨p, vs, rfl, hq, hr⟩ := ru.sq g2.fit
    have ev := bools_of hr
    subst ev
    exact ⟨p, bs, rfl, hq, q _ G2 H2 g2 (.bl _)⟩
theorem ints_of : ∀ {ns : List Int} {vs : List V}, DgAll K G vs (ns.map eI) → vs = ns.map V.int
  | [], _, h => by cases h; rfl
  | b :: bs, _, h => by
    cases h with
    | cons h r => rw [Dg.int_inv h, ints_of r]; rfl
theorem of_ints : ∀ {ns : List Int}, DgAll K G (ns.map V.int) (ns.map eI)
  | [] => .nil
  | _ :: _ => .cons (.int _) of_ints
theorem strs_of : ∀ {ns : List Tx} {vs : List V}, DgAll K G vs (ns.map eS) → vs = (ns.map mkS).map V.str
  | [], _, h => by cases h; rfl
  | b :: bs, _, h => by
    cases h with
    | cons h r => rw [Dg.str_inv h, strs_of r]; rfl
theorem of_strs : ∀ {ns : List Tx}, (∀ l ∈ ns, l.length ≤ sizeLine) → DgAll K G ((ns.map mkS).map V.str) (ns.map eS)
  | [], _ => .nil
  | _ :: _, h => .cons (.str _ (by rw [mkS_len]; exact h _ (List.mem_cons_self ..))) (of_strs fun l hl => h l (List.mem_cons_of_mem _ hl))
/-! ### texts' methods -/
theorem ev_joinL {a : Tx} {xs : List Tx} (ha : EV ta σ G H (D K (eS a))) (hb : EL K tb σ G H (xs.map eS)) (h : Fm.join a xs = some r) : EV (tM1 (fun x xs H Q => ∃ a p, ∃ ys : List Str, x = .str a ∧ xs = [.ref p] ∧ (SqL K H p (ys.map V.str) ∨ SqT K H p (ys.map V.str)) ∧
    (ys.map (·.length)).sum + ys.length * a.length ≤ 16777216 ∧ Q (.str (Txt.join a ys)) H) ta tb) σ G H (D K (eS r)) := by
  obtain ⟨c, rfl⟩ := if_some h
  refine fun G1 H1 g Q q => ha G1 H1 g _ fun u G2 H2 g2 ru => ⟨⟨_, Dg.str_inv ru⟩, hb G2 H2 (g.trans g2) _ fun w G3 H3 g3 rw' => ?_⟩
  obtain ⟨p, vs, rfl, hq, hr⟩ := rw'.sq g3.fit
  have ev := strs_of hr
  subst ev
  have el : ((xs.map mkS).map fun (z : Str) => z.length) = xs.map List.length := by
    rw [List.map_map]
    exact List.map_congr_left fun l _ => mkS_len l
  refine ⟨mkS a, p, xs.map mkS, Dg.str_inv ru, rfl, .inl hq, by rw [el, List.length_map, mkS_len]; exact c, ?_⟩
  have ej : Txt.join (mkS a) (xs.map mkS) = mkS (TL.joinL a xs) := by
    refine TL.ext_tl ?_
    rw [TL.join_eq, TL.tl_join, List.map_map]
    have e2 : xs.map (TL.tl ∘ mkS) = xs := by
      have : xs.map (TL.tl ∘ mkS) = xs.map id := List.map_congr_left fun l _ => mkS_list l
      rw [this, List.map_id]
    rw [e2, show TL.tl (mkS a) = a from mkS_list a]
  rw [ej]
  exact q _ G3 H3 (g2.trans g3) (.str _ (by
    rw [mkS_len]
    have hj : ∀ l : List Tx, (TL.joinL a l).length ≤ (l.map List.length).sum + l.length * a.length := by
      intro l
      induction l with
      | nil => exact Nat.zero_le _
      | cons x l ih =>
        cases l with
        | nil => show x.length ≤ _; simp only [List.map_cons, List.map_nil, List.sum_cons, List.sum_nil]; omega
        | cons y l =>
          show (x ++ (a ++ TL.joinL a (y :: l))).length ≤ _
          rw [List.length_append, List.length_append, List.map_cons, List.sum_cons, List.length_cons, Nat.succ_mul]
          omega
    have h1 := hj xs
    rw [sizeLine_eq]
    omega))
end
end Fz
set_option Elab.async false
set_option linter.all false
set_option maxRecDepth 100000
set_option maxHeartbeats 2000000
/-! Fz: statements, loops, calls. -/
namespace Fz
open PySem PySem.Spec PyProof.Rows L2

/-- what is new since (G0, H0) is changed -/
theorem Gr.putNew {mx : List Addr} {G0 G : GH} {H0 H : Hp} {D : Addr} {o o' : HO} (x : Gr mx G0 H0 G H) (nD : H0 D = none) (n : G D = none) (hD : H D = some o) (nt : NT o := by intro _ h; cases h) (nt' : NT o' := by intro _ h; cases h) : Gr mx G0 H0 G (upd H D o') :=
  ⟨x.sub, (Gr.put (mx := [D]) x.fit n (by simp) (fun xs z => by rw [hD] at z; exact nt xs (Option.some.inj z)) nt').fit, (fun a u na ha nta => by
    obtain ⟨n1, ⟨w1, e1, m1⟩, k1⟩ := x.own a u na ha nta
    have hne : a ≠ D := fun z => by rw [z, nD] at ha; cases ha
    exact ⟨n1, ⟨w1, by rw [upd_ne hne]; exact e1, m1⟩, fun hx => by rw [upd_ne hne]; exact k1 hx⟩), fun a xs ha => by
    have hne : a ≠ D := fun z => by rw [z, nD] at ha; cases ha
    rw [upd_ne hne]; exact x.tup a xs ha⟩
theorem SA.putNew {mx : List Addr} {G0 G : GH} {H0 H : Hp} {Γ : List (Option RP)} {Os : List (Addr × OP)} {Ts : List (V × RP)} {σ : L2.St} {D : Addr} {o o' : HO} (s : SA mx G0 H0 Γ Os Ts σ G H) (nD : H0 D = none) (n : G D = none) (hD : H D = some o) (hO : ∀ q ∈ Os, q.1 ≠ D) (nt : NT o := by intro _ h; cases h) (nt' : NT o' := by intro _ h; cases h) : SA mx G0 H0 Γ Os Ts σ G (upd H D o') :=
  ⟨s.f0, s.g.putNew nD n hD nt nt', s.env, fun q hq => by
    obtain ⟨n5, ⟨u5, e5, r5⟩, h5⟩ := s.own q hq
    exact ⟨n5, ⟨u5, by rw [upd_ne (hO q hq)]; exact e5, r5⟩, h5⟩, s.nd, s.tmp⟩
/-! ### new lists -/
/-- te makes a new list of ds -/
def EN (K : PySem.W.Frag) (te : TE) (σ : L2.St) (G : GH) (H : Hp) (ds : List PyData) : Prop := ∀ G1 H1, Gr [] G H G1 H1 → ∀ Q : VK, (∀ p vs G2 H2, Gr [] G1 H1 G2 H2 → G2 p = none → H1 p = none → H2 p = some (.lst vs) → vs.length ≤ sizeLine → DgAll K G2 vs ds → Q (.ref p) H2) → te σ H1 Q
inductive FLe : List (Option RP) → List (Option RP) → Prop
  | nil : FLe [] []
  | skip {a b : List (Option RP)} {x : Option RP} : FLe a b → FLe (none :: a) (x :: b)
  | keep {a b : List (Option RP)} {x : Option RP} : FLe a b → FLe (x :: a) (x :: b)
theorem FLe.length : ∀ {a b : List (Option RP)}, FLe a b → a.length = b.length
  | _, _, .nil => rfl
  | _, _, .skip h => by rw [List.length_cons, List.length_cons, h.length]
  | _, _, .keep h => by rw [List.length_cons, List.length_cons, h.length]
theorem FLe.at_ : ∀ {a b : List (Option RP)}, FLe a b → ∀ (i : Nat) (R : RP), a[i]? = some (some R) → b[i]? = some (some R)
  | _, _, .nil, i, R, e => by simp at e
  | _, _, .skip h, 0, R, e => by simp at e
  | _, _, .skip h, i + 1, R, e => by simpa using h.at_ i R (by simpa using e)
  | _, _, .keep h, 0, R, e => by simpa using e
  | _, _, .keep h, i + 1, R, e => by simpa using h.at_ i R (by simpa using e)
theorem FLe.refl : ∀ a : List (Option RP), FLe a a
  | [] => .nil
  | _ :: a => .keep (FLe.refl a)

inductive Ct (S ρ : Type) where
  | go (s : S) | brk (s : S) | ret (r : ρ)
def loop {S ρ α : Type} (f : S → α → Option (Ct S ρ)) : S → List α → Option (Ct S ρ)
  | s, [] => some (.go s)
  | s, x :: xs => match f s x with
    | none => none
    | some (.go s') => loop f s' xs
    | some (.brk s') => some (.brk s')
    | some (.ret r) => some (.ret r)
theorem loop_go {S ρ α : Type} {f : S → α → Option (Ct S ρ)} {s s' : S} {x : α} {xs : List α} (h : f s x = some (.go s')) : loop f s (x :: xs) = loop f s' xs := by simp only [loop, h]
theorem loop_brk {S ρ α : Type} {f : S → α → Option (Ct S ρ)} {s s' : S} {x : α} {xs : List α} (h : f s x = some (.brk s')) : loop f s (x :: xs) = some (.brk s') := by simp only [loop, h]
theorem loop_ret {S ρ α : Type} {f : S → α → Option (Ct S ρ)} {s : S} {r : ρ} {x : α} {xs : List α} (h : f s x = some (.ret r)) : loop f s (x :: xs) = some (.ret r) := by simp only [loop, h]
/-- a loop that goes through -/
def fold {S α : Type} (f : S → α → Option S) : S → List α → Option S
  | s, [] => some s
  | s, x :: xs => match f s x with
    | none => none
    | some s' => fold f s' xs
def lift {S α : Type} (f : S → α → Option S) : S → α → Option (Ct S Empty) := fun s x => (f s x).map .go
theorem loop_lift {S α : Type} {f : S → α → Option S} : ∀ {s : S} {xs : List α}, loop (lift f) s xs = (fold f s xs).map .go
  | s, [] => rfl
  | s, x :: xs => by
    unfold loop fold
    cases h : f s x with
    | none => simp [lift, h]
    | some s' => simp only [lift, h, Option.map_some]; exact loop_lift

theorem wipe_set {σ : L2.St} {i : Nat} {x : Option V} : ∀ {vs : List Nat}, i ∈ vs → wipe (σ.set i x) vs = wipe σ vs
  | [], h => by cases h
  | v :: vs, h => by
    show (wipe (σ.set i x) vs).set v none = (wipe σ vs).set v none
    by_cases hi : i ∈ vs
    · rw [wipe_set hi]
    · have e : i = v := by
        rcases List.mem_cons.mp h with h | h
        · exact h
        · exact absurd h hi
      subst e
      have comm : ∀ ws : List Nat, i ∉ ws → wipe (σ.set i x) ws = (wipe σ ws).set i x := by
        intro ws
        induction ws with
        | nil => intro _; rfl
        | cons w ws ih =>
          intro hw
          have h1 : i ≠ w := fun z => hw (by rw [z]; exact List.mem_cons_self ..)
          have h2 : i ∉ ws := fun z => hw (List.mem_cons_of_mem _ z)
          show (wipe (σ.set i x) ws).set w none = ((wipe σ ws).set w none).set i x
          rw [ih h2, List.set_comm _ _ h1]
      rw [comm vs hi, List.set_set]
section
variable {K : PySem.W.Frag} {mx : List Addr} {G0 G G1 : GH} {H0 H H1 : Hp} {Γ Γ' : List (Option RP)} {Os Os' : List (Addr × OP)} {Ts Ts' : List (V × RP)} {σ : L2.St} {te tl ta tb : TE} {tc : TT} {R S : RP} {i j : Nat} {v : V} {p : Addr} {o : HO} {P P' : OP} {De : Ends} {t u : TS} {b : Bool}
theorem SA.fle (s : SA mx G0 H0 Γ Os Ts σ G H) (h : FLe Γ' Γ) : SA mx G0 H0 Γ' Os Ts σ G H := s.forget h.length h.at_
theorem SA.fleT {t : V × RP} (s : SA mx G0 H0 Γ Os (t :: Ts) σ G H) : SA mx G0 H0 Γ Os Ts σ G H := s.pop.1
theorem SA.tv (s : SA mx G0 H0 Γ Os Ts σ G H) (j : Nat) (e : Ts[j]? = some (v, R) := by rfl) : EV (tC v) σ G H R := ev_c (s.tmp (v, R) (List.mem_of_getElem? e))
theorem SA.to (s : SA mx G0 H0 Γ Os Ts σ G H) (h1 : Γ = Γ') (h2 : Os = Os') : SA mx G0 H0 Γ' Os' Ts σ G H := by subst h1 h2; exact s
theorem SA.dropO (s : SA mx G0 H0 Γ Os Ts σ G H) (j : Nat) : SA mx G0 H0 Γ (Os.eraseIdx j) Ts σ G H :=
  ⟨s.f0, s.g, s.env, fun q hq => s.own q ((List.eraseIdx_sublist Os j).mem hq), ((List.eraseIdx_sublist Os j).map _).nodup s.nd, s.tmp⟩
/-- the j-th owned list is finished: slot i holds it -/
theorem SA.freeze {ds : List PyData} (s : SA mx G0 H0 Γ Os Ts σ G H) (i j : Nat) (hm : p ∉ mx) (e : Γ[i]? = some (some (isV (.ref p))) := by rfl) (eo : Os[j]? = some (p, Fz.ownL K ds) := by rfl) :
    ∃ G1, Gr [] G1 H G1 H ∧ Sub G G1 ∧ SA mx G0 H0 (Γ.set i (some (D K (.list ds)))) (Os.eraseIdx j) Ts σ G1 H := by
  obtain ⟨n, ⟨u, hu, vs, eu, z, hr⟩, hf⟩ := s.at_ j eo
  subst eu
  have sub : Sub G (updG G p (isO (.lst vs))) := Sub.upd n
  have g : Gr mx G0 H0 (updG G p (isO (.lst vs))) H := s.g.freeze (hf.elim (fun h => absurd h hm) id) n hu rfl
  refine ⟨_, Gr.refl g.fit, sub, s.f0, g, ⟨by rw [List.length_set]; exact s.env.1, fun k R' ek => ?_⟩, fun q hq => ?_, ((List.eraseIdx_sublist Os j).map _).nodup s.nd, fun t ht => t.2.mono sub (s.tmp t ht)⟩
  · by_cases hk : i = k
    · subst hk
      have hl : i < Γ.length := by
        cases hh : decide (i < Γ.length) with
        | true => exact of_decide_eq_true hh
        | false => rw [List.getElem?_eq_none (by have := of_decide_eq_false hh; omega)] at e; cases e
      rw [List.getElem?_set_self hl] at ek
      cases ek
      obtain ⟨w, hw, rw'⟩ := s.env.2 i _ e
      have ew : w = .ref p := rw'
      subst ew
      exact ⟨_, hw, .lst ⟨z, updG_same⟩ (hr.mono sub)⟩
    · rw [List.getElem?_set_ne hk] at ek
      obtain ⟨w, hw, rw'⟩ := s.env.2 k _ ek
      exact ⟨w, hw, R'.mono sub rw'⟩
  · obtain ⟨n2, ⟨u2, e2, r2⟩, h2⟩ := s.own q ((List.eraseIdx_sublist Os j).mem hq)
    have ne : q.1 ≠ p := by
      intro eq
      obtain ⟨k, hk, hkq⟩ := List.mem_eraseIdx_iff_getElem?.mp hq
      have a1 : (Os.map (·.1))[k]? = some p := by rw [List.getElem?_map, hkq]; show some q.1 = _; rw [eq]
      have a2 : (Os.map (·.1))[j]? = some p := by rw [List.getElem?_map, eo]; rfl
      exact hk (nd_ix s.nd a1 a2)
    exact ⟨by rw [updG_ne ne]; exact n2, ⟨u2, e2, q.2.mono sub r2⟩, h2⟩

/-! statements -/
theorem st_set (s : SA mx G0 H0 Γ Os Ts σ G H) (h : EV te σ G H R) (k : ∀ σ' G1 H1, SA mx G0 H0 (Γ.set i (some R)) Os Ts σ' G1 H1 → De.nx σ' H1) : tAsg te (gName i) De σ H :=
  h.go s.fit fun v G2 H2 g r => k _ G2 H2 ((s.step g).set i r)
theorem st_drop (s : SA mx G0 H0 Γ Os Ts σ G H) (h : EV te σ G H R) (k : ∀ G1 H1, SA mx G0 H0 Γ Os Ts σ G1 H1 → De.nx σ H1) : tDrop te De σ H :=
  h.go s.fit fun v G2 H2 g r => k G2 H2 (s.step g)
theorem st_ret (s : SA mx G0 H0 Γ Os Ts σ G H) (h : EV te σ G H R) (k : ∀ v G1 H1, SA mx G0 H0 Γ Os Ts σ G1 H1 → R.r G1 v → De.rt v H1) : tRet te De σ H :=
  h.go s.fit fun v G2 H2 g r => k v G2 H2 (s.step g) r
theorem st_if (s : SA mx G0 H0 Γ Os Ts σ G H) (h : ET tc σ G H b) (k1 : b = true → ∀ G1 H1, SA mx G0 H0 Γ Os Ts σ G1 H1 → t De σ H1) (k0 : b = false → ∀ G1 H1, SA mx G0 H0 Γ Os Ts σ G1 H1 → u De σ H1) : tIfS tc t u De σ H :=
  h.go s.fit fun G2 H2 g => by
    cases b with
    | true => show t De σ H2; exact k1 rfl G2 H2 (s.step g)
    | false => show u De σ H2; exact k0 rfl G2 H2 (s.step g)
/-- x = a new list, owned -/
theorem st_own {ds : List PyData} (s : SA mx G0 H0 Γ Os Ts σ G H) (h : EN K te σ G H ds) (k : ∀ p σ' G1 H1, p ∉ mx → SA mx G0 H0 (Γ.set i (some (isV (.ref p)))) ((p, Fz.ownL K ds) :: Os) Ts σ' G1 H1 → De.nx σ' H1) (hmx : ∀ a ∈ mx, H a ≠ none := by intro a h; cases h) : tAsg te (gName i) De σ H :=
  h G H (Gr.refl s.fit) _ fun p vs G2 H2 g n hn hp hz hr => by
    have s2 := s.step g
    have s3 : SA mx G0 H0 Γ ((p, Fz.ownL K ds) :: Os) Ts σ G2 H2 := by
      refine ⟨s2.f0, s2.g, s2.env, fun q hq => ?_, List.nodup_cons.mpr ⟨fun z => ?_, s2.nd⟩, s2.tmp⟩
      · rcases List.mem_cons.mp hq with rfl | hq
        · exact ⟨n, ⟨_, hp, vs, rfl, hz, hr⟩, .inr (s.g.free s.f0 hn)⟩
        · exact s2.own q hq
      · obtain ⟨q, hq, e⟩ := List.mem_map.mp z
        obtain ⟨_, ⟨u, e2, _⟩, _⟩ := s.own q hq
        rw [e, hn] at e2; cases e2
    exact k p _ G2 H2 (fun hm => hmx p hm hn) (s3.set (R := isV (.ref p)) i rfl)
/-- x.append(e), x owned -/
theorem st_append {ds : List PyData} {d : PyData} (s : SA mx G0 H0 Γ Os Ts σ G H) (i j : Nat) (h : EV te σ G H (D K d)) (hz : ds.length < sizeLine) (k : ∀ G1 H1, SA mx G0 H0 Γ (Os.set j (p, Fz.ownL K (ds ++ [d]))) Ts σ G1 H1 → De.nx σ H1)
    (e : Γ[i]? = some (some (isV (.ref p))) := by rfl) (eo : Os[j]? = some (p, Fz.ownL K ds) := by rfl) : tDrop (tBM K "list" rAppend (tVar i) (tCons te tNil)) De σ H := by
  obtain ⟨w, hw, rw'⟩ := s.env.2 i _ e
  have ew : w = .ref p := rw'
  subst ew
  obtain ⟨n, ⟨u, hu, vs, eu, z, hr⟩, hf⟩ := s.at_ j eo
  subst eu
  refine ⟨_, hw, .inl ⟨rfl, _, SqL.of hu⟩, h.go s.fit fun v G2 H2 g r => ?_⟩
  have s2 := s.step g
  obtain ⟨n2, ⟨u2, hu2, vs2, eu2, z2, hr2⟩, _⟩ := s2.at_ j eo
  subst eu2
  refine ⟨p, vs2, v, rfl, rfl, hu2, by rw [hr2.length]; exact hz, k G2 _ (s2.put (P' := Fz.ownL K (ds ++ [d])) j eo ⟨_, rfl, ?_, hr2.append (.cons r .nil)⟩)⟩
  rw [List.length_append, hr2.length]
  exact hz
/-- x.append(e), x owned, typed -/
theorem st_appendT {α : Type} {e : α → PyData} {xs ys : List α} {x : α} (s : SA mx G0 H0 Γ Os Ts σ G H) (i j : Nat) (h : EV te σ G H (D K (e x))) (hm : Fm.app xs x = some ys) (k : ∀ G1 H1, SA mx G0 H0 Γ (Os.set j (p, Fz.ownL K (ys.map e))) Ts σ G1 H1 → De.nx σ H1)
    (e1 : Γ[i]? = some (some (isV (.ref p))) := by rfl) (eo : Os[j]? = some (p, Fz.ownL K (xs.map e)) := by rfl) : tDrop (tBM K "list" rAppend (tVar i) (tCons te tNil)) De σ H := by
  obtain ⟨c, rfl⟩ := if_some hm
  refine st_append s i j h (by rw [List.length_map]; exact c) (fun G1 H1 s1 => k G1 H1 (s1.to rfl (by rw [List.map_append]; rfl))) e1 eo
/-- a temporary goes to a slot -/
theorem st_bind (s : SA mx G0 H0 Γ Os ((v, R) :: Ts) σ G H) {Q : L2.St → Hp → Prop} (k : ∀ σ', (∀ vs, i ∈ vs → wipe σ' vs = wipe σ vs) → SA mx G0 H0 (Γ.set i (some R)) Os Ts σ' G H → Q σ' H) : gName i v σ H Q := k _ (fun _ h => wipe_set h) (s.pop.1.set i s.pop.2)
theorem st_bind2 {i1 i2 : Nat} {d1 d2 : PyData} (s : SA mx G0 H0 Γ Os ((v, D K (.tuple [d1, d2])) :: Ts) σ G H) {Q : L2.St → Hp → Prop} (k : ∀ σ', (∀ vs, i1 ∈ vs → i2 ∈ vs → wipe σ' vs = wipe σ vs) → SA mx G0 H0 ((Γ.set i1 (some (D K d1))).set i2 (some (D K d2))) Os Ts σ' G H → Q σ' H) : gTup K 2 (gCons (gName i1) (gCons (gName i2) gNil)) v σ H Q := by
  obtain ⟨p, vs, rfl, hf, hr⟩ := Dg.tuple_inv s.pop.2
  cases hr with
  | cons r1 hr =>
    cases hr with
    | cons r2 hr =>
      cases hr
      exact ⟨p, _, rfl, hf.sq s.fit, rfl, _, _, rfl, _, _, rfl, rfl, k _ (fun _ h1 h2 => by rw [wipe_set h2, wipe_set h1]) ((s.pop.1.set i1 (R := D K d1) r1).set i2 (R := D K d2) r2)⟩
theorem st_bind3 {i1 i2 i3 : Nat} {d1 d2 d3 : PyData} (s : SA mx G0 H0 Γ Os ((v, D K (.tuple [d1, d2, d3])) :: Ts) σ G H) {Q : L2.St → Hp → Prop} (k : ∀ σ', (∀ vs, i1 ∈ vs → i2 ∈ vs → i3 ∈ vs → wipe σ' vs = wipe σ vs) → SA mx G0 H0 (((Γ.set i1 (some (D K d1))).set i2 (some (D K d2))).set i3 (some (D K d3))) Os Ts σ' G H → Q σ' H) : gTup K 3 (gCons (gName i1) (gCons (gName i2) (gCons (gName i3) gNil))) v σ H Q := by
  obtain ⟨p, vs, rfl, hf, hr⟩ := Dg.tuple_inv s.pop.2
  cases hr with
  | cons r1 hr =>
    cases hr with
    | cons r2 hr =>
      cases hr with
      | cons r3 hr =>
        cases hr
        exact ⟨p, _, rfl, hf.sq s.fit, rfl, _, _, rfl, _, _, rfl, _, _, rfl, rfl, k _ (fun _ h1 h2 h3 => by rw [wipe_set h3, wipe_set h2, wipe_set h1]) (((s.pop.1.set i1 (R := D K d1) r1).set i2 (R := D K d2) r2).set i3 (R := D K d3) r3)⟩
end
/-! globals of the module -/
section
variable {X : Cx} {x : Str} {pos : Pos} {t : Tok}
theorem pe_globI {i : Int} (hm : ∃ t, X.mg x = some (.int i t)) (hg : Gl X x := by rfl) (hd : (x == ("__debug__" : Str)) = false := by decide) : PE X (.Name x pos) (tC (.int i)) := let ⟨t, h⟩ := hm; pe_glob hg h ⟨t, rfl⟩ hd
theorem pe_globS {z : Str} (hm : ∃ t, X.mg x = some (.str z t)) (hg : Gl X x := by rfl) (hd : (x == ("__debug__" : Str)) = false := by decide) : PE X (.Name x pos) (tC (.str z)) := let ⟨t, h⟩ := hm; pe_glob hg h ⟨t, rfl⟩ hd
theorem pe_globR {a : Addr} (hm : X.mg x = some (.ref a)) (hg : Gl X x := by rfl) (hd : (x == ("__debug__" : Str)) = false := by decide) : PE X (.Name x pos) (tC (.ref a)) := pe_glob hg hm rfl hd
end
end Fz
set_option Elab.async false
set_option linter.all false
set_option maxRecDepth 100000
set_option maxHeartbeats 2000000
/-! Fz: loops. -/
namespace Fz
open PySem PySem.Spec PyProof.Rows L2

theorem loop_step {S ρ α : Type} {f : S → α → Option (Ct S ρ)} {s : S} {x : α} {r : List α} {c : Ct S ρ} (h : loop f s (x :: r) = some c) :
    ∃ c', f s x = some c' ∧ (∀ s', c' = .go s' → loop f s' r = some c) ∧ (∀ s', c' = .brk s' → c = .brk s') ∧ (∀ q, c' = .ret q → c = .ret q) := by
  cases e : f s x with
  | none => simp only [loop, e] at h; cases h
  | some c' =>
    refine ⟨c', rfl, ?_⟩
    cases c' with
    | go s' => rw [loop_go e] at h; exact ⟨fun _ q => by cases q; exact h, fun _ q => (nomatch q), fun _ q => (nomatch q)⟩
    | brk s' => rw [loop_brk e] at h; cases h; exact ⟨fun _ q => (nomatch q), fun _ q => by cases q; rfl, fun _ q => (nomatch q)⟩
    | ret s' => rw [loop_ret e] at h; cases h; exact ⟨fun _ q => (nomatch q), fun _ q => (nomatch q), fun _ q => by cases q; rfl⟩
theorem drop_at {α : Type} {xs : List α} {i : Nat} {x : α} (h : xs[i]? = some x) : xs.drop i = x :: xs.drop (i + 1) := by
  obtain ⟨hi, rfl⟩ := List.getElem?_eq_some_iff.mp h
  exact List.drop_eq_getElem_cons hi

section
variable {K : PySem.W.Frag} {mx : List Addr} {G0 G : GH} {H0 H : Hp} {Ts : List (V × RP)} {σ : L2.St} {tl : TE} {De : Ends} {g : TG} {tb : TS}
variable {α S ρ : Type} {e : α → PyData} {xs : List α} {f : S → α → Option (Ct S ρ)} {f1 : S → α → Option S} {s0 s1 : S} {c : Ct S ρ}
/-- what a turn owes -/
def Trn (mx : List Addr) (G0 : GH) (H0 : Hp) (Γs : S → List (Option RP)) (Oss : S → List (Addr × OP)) (Ts : List (V × RP)) (De : Ends) (g : TG) (tb : TS) (e : α → RP) (xs : List α) (f : S → α → Option (Ct S ρ)) (c : Ct S ρ) : Prop :=
  ∀ sv x c' v σ1 G1 H1, x ∈ xs → f sv x = some c' → SA mx G0 H0 (Γs sv) (Oss sv) ((v, e x) :: Ts) σ1 G1 H1 → ∀ N : L2.St → Hp → Prop,
    (∀ s' σ' G' H', c' = .go s' → SA mx G0 H0 (Γs s') (Oss s') Ts σ' G' H' → N σ' H') →
    (∀ s' σ' G' H', c' = .brk s' → SA mx G0 H0 (Γs s') (Oss s') Ts σ' G' H' → De.nx σ' H') →
    (∀ r, c' = .ret r → c = .ret r) → g v σ1 H1 (fun σ2 H2 => tb { De with nx := N, ct := N, bk := De.nx } σ2 H2)
/-! ### what is walked -/
/-- the walk J yields the xs, as long as v0 stands for R0 -/
structure Srcs {α : Type} (J : It) (R0 : RP) (v0 : V) (R : α → RP) (xs : List α) : Prop where
  turn : ∀ (G : GH) (H : Hp) (i : Nat) (x : α), Fit G H → R0.r G v0 → xs[i]? = some x → J.go i H ∧ ∀ v H', J.yld i H v H' → ∃ G', Gr [] G H G' H' ∧ (R x).r G' v
  stop : ∀ (G : GH) (H : Hp), Fit G H → R0.r G v0 → J.stop xs.length H
  len : xs.length ≤ sizeLine
def ES {α : Type} (wi : TI) (σ : L2.St) (G : GH) (H : Hp) (R : α → RP) (xs : List α) : Prop := ∀ G1 H1, Gr [] G H G1 H1 → ∀ Q : It → Hp → Prop, (∀ J v0 R0 G2 H2, Gr [] G1 H1 G2 H2 → R0.r G2 v0 → Srcs J R0 v0 R xs → Q J H2) → wi σ H1 Q
theorem es_list (h : EV tl σ G H (D K (eL e xs))) : ES (iList K tl) σ G H (fun x => D K (e x)) xs := fun G1 H1 g Q q => h G1 H1 g _ fun src G2 H2 g2 rs => by
  obtain ⟨p, vs, rfl, hf, hr⟩ := Dg.list_inv rs
  refine ⟨p, rfl, ⟨vs, hf.sq g2.fit⟩, q _ (.ref p) (D K (eL e xs)) G2 H2 g2 rs ⟨fun G H i x f r0 hx => ?_, fun G H f r0 => ?_, ?_⟩⟩
  · obtain ⟨q', us, eq, hf', hr'⟩ := Dg.list_inv r0
    cases eq
    obtain ⟨y, hy, ry⟩ := hr'.get (i := i) (d := e x) (by rw [List.getElem?_map, hx]; rfl)
    refine ⟨⟨us, y, hf'.sq f, hy⟩, fun v H' hv => ?_⟩
    obtain ⟨rfl, hv⟩ := hv
    have ev : v = y := Option.some.inj ((hv us (hf'.sq f)).symm.trans hy)
    subst ev
    exact ⟨G, Gr.refl f, ry⟩
  · obtain ⟨q', us, eq, hf', hr'⟩ := Dg.list_inv r0
    cases eq
    have hlen := hr'.length
    rw [List.length_map] at hlen
    exact ⟨us, hf'.sq f, by omega⟩
  · have hlen := hr.length
    rw [List.length_map] at hlen
    rw [← hlen]; exact hf.1
theorem es_tup (h : EV tl σ G H (D K (eT e xs))) : ES (iTup K tl) σ G H (fun x => D K (e x)) xs := fun G1 H1 g Q q => h G1 H1 g _ fun src G2 H2 g2 rs => by
  obtain ⟨p, vs, rfl, hf, hr⟩ := Dg.tuple_inv rs
  refine ⟨p, rfl, ⟨vs, hf.sq g2.fit⟩, q _ (.ref p) (D K (eT e xs)) G2 H2 g2 rs ⟨fun G H i x f r0 hx => ?_, fun G H f r0 => ?_, ?_⟩⟩
  · obtain ⟨q', us, eq, hf', hr'⟩ := Dg.tuple_inv r0
    cases eq
    obtain ⟨y, hy, ry⟩ := hr'.get (i := i) (d := e x) (by rw [List.getElem?_map, hx]; rfl)
    refine ⟨⟨us, y, hf'.sq f, hy⟩, fun v H' hv => ?_⟩
    obtain ⟨rfl, hv⟩ := hv
    have ev : v = y := Option.some.inj ((hv us (hf'.sq f)).symm.trans hy)
    subst ev
    exact ⟨G, Gr.refl f, ry⟩
  · obtain ⟨q', us, eq, hf', hr'⟩ := Dg.tuple_inv r0
    cases eq
    have hlen := hr'.length
    rw [List.length_map] at hlen
    exact ⟨us, hf'.sq f, by omega⟩
  · have hlen := hr.length
    rw [List.length_map] at hlen
    rw [← hlen]; exact hf.1
theorem range_at {n : Int} {ns : List Int} (h : Fm.range n = some ns) : (∀ (i : Nat) (x : Int), ns[i]? = some x → x = (i : Int) ∧ i < n.toNat) ∧ ns.length = n.toNat ∧ -(2 ^ 62) ≤ n ∧ n ≤ 16777216 := by
  obtain ⟨⟨h1, h2⟩, rfl⟩ := if_some h
  refine ⟨fun i x hx => ?_, by simp, h1, h2⟩
  rw [List.getElem?_map] at hx
  cases hr : (List.range n.toNat)[i]? with
  | none => rw [hr] at hx; cases hx
  | some k =>
    rw [hr] at hx
    cases hx
    obtain ⟨hi, he⟩ := List.getElem?_eq_some_iff.mp hr
    rw [List.length_range] at hi
    rw [List.getElem_range] at he
    subst he
    exact ⟨rfl, hi⟩
theorem es_range {n : Int} {ns : List Int} (h : EV tl σ G H (D K (eI n))) (hn : Fm.range n = some ns) : ES (iRng1 (tCons tl tNil)) σ G H (fun x => D K (eI x)) ns := fun G1 H1 g Q q => h G1 H1 g _ fun src G2 H2 g2 rs => by
  obtain ⟨h0, hlen, h1, h2⟩ := range_at hn
  refine ⟨n, by rw [Dg.int_inv rs], h1, by omega, q _ .non (isV .non) G2 H2 g2 rfl ⟨fun G H i x f _ hx => ?_, fun G H f _ => ?_, ?_⟩⟩
  · obtain ⟨rfl, hi⟩ := h0 i x hx
    refine ⟨hi, fun v H' hv => ?_⟩
    obtain ⟨rfl, rfl⟩ := hv
    refine ⟨G, Gr.refl f, ?_⟩
    rw [Int.zero_add]
    exact .int _
  · show n.toNat ≤ _; omega
  · rw [sizeLine_eq]; omega
theorem es_str {t : Tx} (h : EV tl σ G H (D K (eS t))) : ES (iStr tl) σ G H (fun x => D K (eS x)) (t.map fun c => [c]) := fun G1 H1 g Q q => h G1 H1 g _ fun src G2 H2 g2 rs => by
  have hsz : (mkS t).cps.size = t.length := mkS_len t
  refine ⟨mkS t, Dg.str_inv rs, q _ .non (isV .non) G2 H2 g2 rfl ⟨fun G H i x f _ hx => ?_, fun G H f _ => ?_, ?_⟩⟩
  · rw [List.getElem?_map] at hx
    cases ht : t[i]? with
    | none => rw [ht] at hx; cases hx
    | some c =>
      rw [ht] at hx
      cases hx
      obtain ⟨hi, _⟩ := List.getElem?_eq_some_iff.mp ht
      refine ⟨(by rw [hsz]; exact hi : i < (mkS t).cps.size), fun v H' hv => ?_⟩
      obtain ⟨rfl, c1, hc1, rfl⟩ := hv
      have h1 : t.toArray[i]? = some c1 := hc1
      rw [List.getElem?_toArray, ht] at h1
      cases h1
      exact ⟨G, Gr.refl f, .str _ one_sz⟩
  · show (mkS t).cps.size ≤ _; rw [List.length_map]; omega
  · rw [List.length_map, ← mkS_len]; exact Dg.str_len rs
def enumL {α : Type} (xs : List α) : List (Int × α) := (List.range xs.length).zip xs |>.map fun p => ((p.1 : Int), p.2)
theorem enumL_at {α : Type} (xs : List α) {i : Nat} {z : Int × α} (h : (enumL xs)[i]? = some z) : ∃ x, xs[i]? = some x ∧ z = ((i : Int), x) := by
  unfold enumL at h
  rw [List.getElem?_map] at h
  cases hr : ((List.range xs.length).zip xs)[i]? with
  | none => rw [hr] at h; cases h
  | some p =>
    rw [hr] at h
    cases h
    obtain ⟨h1, h2⟩ := List.getElem?_zip_eq_some.mp hr
    obtain ⟨hi, he⟩ := List.getElem?_eq_some_iff.mp h1
    rw [List.getElem_range] at he
    exact ⟨p.2, h2, by show (((p.1 : Nat) : Int), p.2) = _; rw [← he]⟩
theorem enumL_len {α : Type} (xs : List α) : (enumL xs).length = xs.length := by unfold enumL; simp
/-- enumerate(a finished list) -/
theorem es_enum (h : EV tl σ G H (D K (eL e xs))) : ES (iEnum K (tCons tl tNil)) σ G H (fun x => D K (eP2 eI e x)) (enumL xs) := fun G1 H1 g Q q => h G1 H1 g _ fun src G2 H2 g2 rs => by
  obtain ⟨p, vs, rfl, hf, hr⟩ := Dg.list_inv rs
  refine ⟨p, vs, rfl, hf.sq g2.fit, q _ (.ref p) (D K (eL e xs)) G2 H2 g2 rs ⟨fun G H i z f r0 hz => ?_, fun G H f r0 => ?_, ?_⟩⟩
  · obtain ⟨x, hx, rfl⟩ := enumL_at xs hz
    obtain ⟨q', us, eq, hf', hr'⟩ := Dg.list_inv r0
    cases eq
    obtain ⟨y, hy, ry⟩ := hr'.get (i := i) (d := e x) (by rw [List.getElem?_map, hx]; rfl)
    refine ⟨⟨us, y, hf'.sq f, hy⟩, fun v H' hv => ?_⟩
    obtain ⟨T, x1, rfl, nT, rfl, hv⟩ := hv
    have ev : x1 = y := Option.some.inj ((hv us (hf'.sq f)).symm.trans hy)
    subst ev
    have gT : Gr [] G H (updG G T (isO (.tup [.int (i : Nat), x1]))) (upd H T (.tup [.int (i : Nat), x1])) := Gr.make f nT
    exact ⟨_, gT, .tup ⟨by show 2 ≤ sizeLine; decide, updG_same⟩ (.cons (.int _) (.cons (Dg.mono gT.sub ry) .nil))⟩
  · obtain ⟨q', us, eq, hf', hr'⟩ := Dg.list_inv r0
    cases eq
    have hlen := hr'.length
    rw [List.length_map] at hlen
    exact ⟨us, hf'.sq f, by rw [enumL_len]; omega⟩
  · have hlen := hr.length
    rw [List.length_map] at hlen
    rw [enumL_len, ← hlen]; exact hf.1
/-! ### for -/
theorem st_for {R : α → RP} {wi : TI} (Γs : S → List (Option RP)) (Oss : S → List (Addr × OP)) (s : SA mx G0 H0 (Γs s0) (Oss s0) Ts σ G H) (h : ES wi σ G H R xs) (hl : loop f s0 xs = some c)
    (body : ∀ src, Trn mx G0 H0 Γs Oss (src :: Ts) De g tb R xs f c)
    (done : ∀ s' σ' G' H', (c = .go s' ∨ c = .brk s') → SA mx G0 H0 (Γs s') (Oss s') Ts σ' G' H' → De.nx σ' H') : tFor wi g tb De σ H := by
  refine h G H (Gr.refl s.fit) _ fun J v0 R0 G2 H2 g2 r0 hs => ?_
  have s2 := (s.step g2).push r0
  refine ⟨fun i m σ' H' => m = xs.length - i ∧ i ≤ xs.length ∧ ∃ sv G', SA mx G0 H0 (Γs sv) (Oss sv) ((v0, R0) :: Ts) σ' G' H' ∧ loop f sv (xs.drop i) = some c,
    ⟨_, rfl, Nat.zero_le _, s0, G2, s2, hl⟩, ?_⟩
  rintro i m σ' H' ⟨rfl, hi, sv, G', s', hl'⟩
  by_cases hlt : i < xs.length
  · have ex : xs[i]? = some xs[i] := List.getElem?_eq_getElem hlt
    obtain ⟨hgo, hy⟩ := hs.turn G' H' i _ s'.fit s'.pop.2 ex
    rw [drop_at ex] at hl'
    obtain ⟨c', hc', k1, k2, k3⟩ := loop_step hl'
    refine .inr ⟨hgo, fun σ' H' => ∃ s'' G'', c' = .go s'' ∧ SA mx G0 H0 (Γs s'') (Oss s'') ((v0, R0) :: Ts) σ' G'' H', fun σ'' H'' ⟨s'', G'', ec, s3⟩ => ⟨_, by omega, rfl, by omega, s'', G'', s3, k1 _ ec⟩, fun x H'' hyx => ?_⟩
    obtain ⟨G3, g3, r3⟩ := hy x H'' hyx
    exact body (v0, R0) sv _ c' x σ' G3 H'' (List.mem_of_getElem? ex) hc' ((s'.step g3).push r3) _ (fun s'' σ'' G'' H'' ec s3 => ⟨s'', G'', ec, s3⟩) (fun s'' σ'' G'' H'' ec s3 => done s'' σ'' G'' H'' (.inr (k2 _ ec)) s3.fleT) k3
  · have e0 : i = xs.length := by omega
    subst e0
    rw [List.drop_length] at hl'
    cases hl'
    exact .inl ⟨hs.stop G' H' s'.fit s'.pop.2, done sv σ' G' H' (.inl rfl) s'.fleT⟩
end

theorem nx_go {f bk ct : L2.St → Hp → Prop} {rt : VK} {σ : L2.St} {H : Hp} (h : f σ H) : Ends.nx { nx := f, rt := rt, bk := bk, ct := ct } σ H := h
/-! ### loops that go through: fold -/
section
variable {K : PySem.W.Frag} {mx : List Addr} {G0 G : GH} {H0 H : Hp} {Ts : List (V × RP)} {De : Ends} {g : TG} {tb : TS} {α S : Type} {f : S → α → Option S} {s0 s1 : S} {xs : List α} {R : α → RP}
theorem loop_of_fold (h : fold f s0 xs = some s1) : loop (lift f) s0 xs = some (.go s1) := by rw [loop_lift, h]; rfl
/-- a turn that goes through -/
theorem trn_fold (Γs : S → List (Option RP)) (Oss : S → List (Addr × OP)) {c : Ct S Empty}
    (body : ∀ sv x s' v σ1 G1 H1, x ∈ xs → f sv x = some s' → SA mx G0 H0 (Γs sv) (Oss sv) ((v, R x) :: Ts) σ1 G1 H1 → ∀ N : L2.St → Hp → Prop, (∀ σ' G' H', SA mx G0 H0 (Γs s') (Oss s') Ts σ' G' H' → N σ' H') → g v σ1 H1 (fun σ2 H2 => tb { De with nx := N, ct := N, bk := De.nx } σ2 H2)) :
    Trn mx G0 H0 Γs Oss Ts De g tb R xs (lift f) c := fun sv x c' v σ1 G1 H1 hx hc s N hN _ _ => by
  unfold lift at hc
  cases e : f sv x with
  | none => rw [e] at hc; cases hc
  | some s' =>
    rw [e] at hc
    cases hc
    exact body sv x s' v σ1 G1 H1 hx e s N fun σ' G' H' s3 => hN s' σ' G' H' rfl s3
theorem go_eq {s' : S} (h : (Ct.go s1 : Ct S Empty) = .go s' ∨ (Ct.go s1 : Ct S Empty) = .brk s') : s' = s1 := by
  rcases h with h | h
  · cases h; rfl
  · cases h
end
end Fz
set_option Elab.async false
set_option linter.all false
set_option maxRecDepth 100000
set_option maxHeartbeats 2000000
/-! Fz: promises and calls, comprehensions, dicts. -/
namespace Fz
open PySem PySem.Spec PyProof.Rows L2

/-! ### promises -/
/-- a def that changes nothing: from data x to m x -/
def spF {X R : Type} (enc : X → List RP) (m : X → Option R) (er : R → RP) : Sp := fun vs H Q E => ∃ G x r, Fit G H ∧ RAll G vs (enc x) ∧ m x = some r ∧ ∀ v G' H', Gr [] G H G' H' → (er r).r G' v → Q v H'
/-- .. that hands back a new list -/
def spN {X : Type} (K : PySem.W.Frag) (enc : X → List RP) (m : X → Option (List PyData)) : Sp := fun vs H Q E => ∃ G x ds, Fit G H ∧ RAll G vs (enc x) ∧ m x = some ds ∧
  ∀ p us G' H', Gr [] G H G' H' → G' p = none → H p = none → H' p = some (.lst us) → us.length ≤ sizeLine → DgAll K G' us ds → Q (.ref p) H'
/-- a def whose first argument is an object at b in the state x0 and is changed by it alone -/
def spM {X Y R : Type} (ow : Y → OP) (enc : X → List RP) (m : X → Y → Option (R × Y)) (er : R → RP) : Sp := fun vs H Q E => ∃ G b y x us r y', vs = .ref b :: us ∧ Fit G H ∧ G b = none ∧ (∃ o, H b = some o ∧ (ow y).r G o) ∧ RAll G us (enc x) ∧ m x y = some (r, y') ∧
  ∀ v G' H', Gr [b] G H G' H' → (∃ o, H' b = some o ∧ (ow y').r G' o) → (er r).r G' v → Q v H'
section
variable {K : PySem.W.Frag} {mx : List Addr} {G0 G G1 : GH} {H0 H H1 : Hp} {Γ Γ' : List (Option RP)} {Os Os' : List (Addr × OP)} {Ts Ts' : List (V × RP)} {σ : L2.St} {te tl ta tb : TE} {tc : TT} {R' S : RP} {i j : Nat} {v : V} {p : Addr} {o : HO} {P P' : OP} {De : Ends} {t u : TS} {b : Bool}
variable {X Y R : Type} {enc : X → List RP} {m : X → Option R} {er : R → RP} {x : X} {r : R} {y y' : Y} {ow : Y → OP} {mm : X → Y → Option (R × Y)} {E : XK} {tr : TA}
theorem ev_call (ha : EA tr σ G H (enc x)) (hm : m x = some r) : EV (tCall (spF enc m er) [] E tr) σ G H (er r) := fun G1 H1 g Q q =>
  ha G1 H1 g _ fun vs G2 H2 g2 rs => ⟨G2, x, r, g2.fit, by rw [List.append_nil]; exact rs, hm, fun v G3 H3 g3 rv => q v G3 H3 (g2.trans g3) rv⟩
/-- a call without arguments -/
theorem ev_call0 {sp : Sp} (h : ∀ G1 H1, Gr [] G H G1 H1 → ∀ Q : VK, (∀ v G2 H2, Gr [] G1 H1 G2 H2 → S.r G2 v → Q v H2) → sp [] H1 Q E) : EV (fun σ H Q => sp [] H Q E) σ G H S := h
theorem en_call {mn : X → Option (List PyData)} {ds : List PyData} (ha : EA tr σ G H (enc x)) (hm : mn x = some ds) : EN K (tCall (spN K enc mn) [] E tr) σ G H ds := fun G1 H1 g Q q =>
  ha G1 H1 g _ fun vs G2 H2 g2 rs => ⟨G2, x, ds, g2.fit, by rw [List.append_nil]; exact rs, hm, fun p us G3 H3 g3 n hn hp hz hr => q p us G3 H3 (g2.trans g3) n (g2.free g.fit hn) hp hz hr⟩
theorem EN.ev {ds : List PyData} (h : EN K te σ G H ds) : EV te σ G H (D K (.list ds)) := fun G1 H1 g Q q => h G1 H1 g Q fun p vs G2 H2 g2 n hn hp hz hr =>
  q (.ref p) (updG G2 p (isO (.lst vs))) H2 (g2.freeze hn n hp rfl) (.lst ⟨hz, updG_same⟩ (hr.mono (Sub.upd n)))
/-- a call that changes the j-th owned object, which slot i holds -/
theorem sa_callM (s : SA mx G0 H0 Γ Os Ts σ G H) (i j : Nat) (hr : EA tr σ G H (enc x)) (hm : mm x y = some (r, y')) {Q : VK} (k : ∀ v G1 H1, SA mx G0 H0 Γ (Os.set j (p, ow y')) ((v, er r) :: Ts) σ G1 H1 → Q v H1)
    (e : Γ[i]? = some (some (isV (.ref p))) := by rfl) (eo : Os[j]? = some (p, ow y) := by rfl) : tCall (spM ow enc mm er) [] E (tCons (tVar i) tr) σ H Q := by
  obtain ⟨w, hw, rw'⟩ := s.env.2 i _ e
  have ew : w = .ref p := rw'
  subst ew
  refine ⟨_, hw, hr.go s.fit fun us G2 H2 g2 rs => ?_⟩
  have s2 := s.step g2
  obtain ⟨n, ho, _⟩ := s2.at_ j eo
  refine ⟨G2, p, y, x, us, r, y', by rw [List.append_nil], g2.fit, n, ho, rs, hm, fun v G3 H3 g3 ⟨o3, h3, r3⟩ rv => k v G3 H3 ((s2.stepM j eo g3 h3 r3).push rv)⟩
/-- the entry of a def that changes nothing -/
theorem spF_go {vs : List V} {Q : VK} {N : List Str} (h : spF enc m er vs H Q E) (k : ∀ G x r, m x = some r → SA [] G H ((enc x).map some ++ List.replicate (N.length - (enc x).length) none) [] [] (L2.start N vs) G H → (∀ v G' H' Ts' σ' Γ' Os', SA [] G H Γ' Os' Ts' σ' G' H' → (er r).r G' v → Q v H') → t De (L2.start N vs) H) : t De (L2.start N vs) H := by
  obtain ⟨G, x, r, f, rs, hm, q⟩ := h
  exact k G x r hm (SA.start f (env_start rs) (fun _ h => nomatch h) List.nodup_nil) fun v G' H' _ _ _ _ s rv => q v G' H' s.g rv
theorem spM_go {vs : List V} {Q : VK} {N : List Str} (h : spM ow enc mm er vs H Q E) (k : ∀ b G x y r y', mm x y = some (r, y') → SA [b] G H ((isV (.ref b) :: enc x).map some ++ List.replicate (N.length - (isV (.ref b) :: enc x).length) none) [(b, ow y)] [] (L2.start N vs) G H → (∀ v G' H' Ts' σ' Γ' Os', SA [b] G H Γ' Os' Ts' σ' G' H' → (b, ow y') ∈ Os' → (er r).r G' v → Q v H') → t De (L2.start N vs) H) : t De (L2.start N vs) H := by
  obtain ⟨G, b, y, x, us, r, y', rfl, f, n, ho, rs, hm, q⟩ := h
  refine k b G x y r y' hm (SA.start f (env_start (.cons rfl rs)) (fun p hp => ?_) (List.nodup_cons.mpr ⟨by simp, List.nodup_nil⟩)) fun v G' H' _ _ _ _ s hm rv => q v G' H' s.g (s.own _ hm).2.1 rv
  rw [List.mem_singleton.mp hp]
  exact ⟨n, ho, .inl (List.mem_singleton.mpr rfl)⟩
theorem spF_len {vs : List V} {Q : VK} {k : Nat} (h : spF enc m er vs H Q E) (hk : ∀ x, (enc x).length = k := by intro _; rfl) : vs.length = k := by
  obtain ⟨G, x, r, f, rs, hm, q⟩ := h
  rw [rs.length, hk]
theorem spM_len {vs : List V} {Q : VK} {k : Nat} (h : spM ow enc mm er vs H Q E) (hk : ∀ x, (enc x).length + 1 = k := by intro _; rfl) : vs.length = k := by
  obtain ⟨G, b, y, x, us, r, y', rfl, f, n, ho, rs, hm, q⟩ := h
  rw [List.length_cons, rs.length, hk]
end

/-! ### comprehensions -/
theorem wipe_wipe {σ : L2.St} {us : List Nat} : ∀ {vs : List Nat}, (∀ v ∈ us, v ∈ vs) → wipe (wipe σ us) vs = wipe σ vs := by
  intro vs h
  induction us with
  | nil => rfl
  | cons u us ih =>
    show wipe ((wipe σ us).set u none) vs = wipe σ vs
    rw [wipe_set (h u (List.mem_cons_self ..)), ih fun v hv => h v (List.mem_cons_of_mem _ hv)]
def wipeG (Γ : List (Option RP)) : List Nat → List (Option RP)
  | [] => Γ
  | v :: vs => (wipeG Γ vs).set v none
/-- the filter and the map of a comprehension -/
def comp {α β : Type} (f : α → Option (Option β)) : List α → Option (List β)
  | [] => some []
  | x :: xs => match f x with
    | none => none
    | some none => comp f xs
    | some (some y) => (comp f xs).map (y :: ·)
section
variable {K : PySem.W.Frag} {mx : List Addr} {G0 G G1 : GH} {H0 H H1 : Hp} {Γ Γ' : List (Option RP)} {Os Os' : List (Addr × OP)} {Ts Ts' : List (V × RP)} {σ : L2.St} {te tl ta tb : TE} {tc tt : TT} {R' S : RP} {i j : Nat} {v : V} {p : Addr} {g : TG} {vs : List Nat}
theorem SA.wipe (s : SA mx G0 H0 Γ Os Ts σ G H) (vs : List Nat) : SA mx G0 H0 (wipeG Γ vs) Os Ts (wipe σ vs) G H := by
  induction vs with
  | nil => exact s
  | cons w ws ih =>
    refine ⟨ih.f0, ih.g, ⟨?_, fun k R ek => ?_⟩, ih.own, ih.nd, ih.tmp⟩
    · show ((L2.wipe σ ws).set w none).length = ((wipeG Γ ws).set w none).length
      rw [List.length_set, List.length_set]; exact ih.env.1
    · have ek : ((wipeG Γ ws).set w none)[k]? = some (some R) := ek
      by_cases hk : w = k
      · subst hk
        by_cases hl : w < (wipeG Γ ws).length
        · rw [List.getElem?_set_self hl] at ek; cases ek
        · rw [List.getElem?_eq_none (by rw [List.length_set]; omega)] at ek; cases ek
      · rw [List.getElem?_set_ne hk] at ek
        obtain ⟨v, hv, r⟩ := ih.env.2 k R ek
        refine ⟨v, ?_, r⟩
        show ((L2.wipe σ ws).set w none)[k]? = _
        rw [List.getElem?_set_ne hk]; exact hv
variable {α β : Type} {e : α → PyData} {e' : β → PyData} {xs : List α} {f : α → Option (Option β)} {ys : List β}
theorem comp_cons {x : α} {xs : List α} {ys : List β} (h : comp f (x :: xs) = some ys) : ∃ o, f x = some o ∧ ∃ zs, comp f xs = some zs ∧ ys = o.toList ++ zs := by
  cases ef : f x with
  | none => simp only [comp, ef] at h; cases h
  | some o =>
    cases o with
    | none => simp only [comp, ef] at h; exact ⟨none, rfl, ys, h, rfl⟩
    | some y =>
      simp only [comp, ef] at h
      cases ec : comp f xs with
      | none => rw [ec] at h; cases h
      | some zs => rw [ec] at h; cases h; exact ⟨some y, rfl, zs, rfl, rfl⟩
theorem comp_len : ∀ {xs : List α} {ys : List β}, comp f xs = some ys → ys.length ≤ xs.length
  | [], ys, h => by cases h; exact Nat.le_refl _
  | x :: xs, ys, h => by
    obtain ⟨o, _, zs, hz, rfl⟩ := comp_cons h
    have ih := comp_len hz
    rw [List.length_append, List.length_cons]
    cases o with
    | none => show 0 + _ ≤ _; omega
    | some y => show 1 + _ ≤ _; omega
/-- what a comprehension walks: as long as only new things are made -/
structure SrcsO {α : Type} (J : It) (G2 : GH) (H2 : Hp) (R : α → RP) (xs : List α) : Prop where
  turn : ∀ (G : GH) (H : Hp) (i : Nat) (x : α), Gr [] G2 H2 G H → xs[i]? = some x → J.go i H ∧ ∀ v H', J.yld i H v H' → ∃ G', Gr [] G H G' H' ∧ (R x).r G' v
  stop : ∀ (G : GH) (H : Hp), Gr [] G2 H2 G H → J.stop xs.length H
  len : xs.length ≤ sizeLine
def ESO {α : Type} (wi : TI) (σ : L2.St) (G : GH) (H : Hp) (R : α → RP) (xs : List α) : Prop := ∀ G1 H1, Gr [] G H G1 H1 → ∀ Q : It → Hp → Prop, (∀ J G2 H2, Gr [] G1 H1 G2 H2 → SrcsO J G2 H2 R xs → Q J H2) → wi σ H1 Q
theorem ES.o {α : Type} {R : α → RP} {xs : List α} {wi : TI} (h : ES wi σ G H R xs) : ESO wi σ G H R xs := fun G1 H1 g Q q => h G1 H1 g Q fun J v0 R0 G2 H2 g2 r0 hs => q J G2 H2 g2 ⟨fun G H i x g3 hx => hs.turn G H i x g3.fit (R0.mono g3.sub r0) hx, fun G H g3 => hs.stop G H g3.fit (R0.mono g3.sub r0), hs.len⟩
theorem eso_list {α : Type} {e : α → PyData} {xs : List α} (h : EL K tl σ G H (xs.map e)) : ESO (iList K tl) σ G H (fun x => D K (e x)) xs := fun G1 H1 g Q q => h G1 H1 g _ fun src G2 H2 g2 rs => by
  obtain ⟨p, vs, rfl, hz, hf, hr⟩ := rs.at' g2.fit
  refine ⟨p, rfl, ⟨vs, SqL.of hf⟩, q _ G2 H2 g2 ⟨fun G H i x f hx => ?_, fun G H f => ?_, ?_⟩⟩
  · obtain ⟨q', us, eq, hz', hf', hr'⟩ := (rs.step f).at' f.fit
    cases eq
    obtain ⟨y, hy, ry⟩ := hr'.get (i := i) (d := e x) (by rw [List.getElem?_map, hx]; rfl)
    refine ⟨⟨us, y, SqL.of hf', hy⟩, fun v H' hv => ?_⟩
    obtain ⟨rfl, hv⟩ := hv
    have ev : v = y := Option.some.inj ((hv us (SqL.of hf')).symm.trans hy)
    subst ev
    exact ⟨G, Gr.refl f.fit, ry⟩
  · obtain ⟨q', us, eq, hz', hf', hr'⟩ := (rs.step f).at' f.fit
    cases eq
    have hlen := hr'.length
    rw [List.length_map] at hlen
    exact ⟨us, SqL.of hf', by omega⟩
  · have hlen := hr.length
    rw [List.length_map] at hlen
    rw [← hlen]; exact hz
/-- what one turn of a comprehension owes: the target set, the tests, the element -/
def LcTurn (K : PySem.W.Frag) (mx : List Addr) (G0 : GH) (H0 : Hp) (Γ : List (Option RP)) (Os : List (Addr × OP)) (Ts : List (V × RP)) (vs : List Nat) (g : TG) (tt : TT) (te : TE) (R : α → RP) (f : α → Option (Option β)) (e' : β → PyData) (x : α) (o : Option β) : Prop :=
  ∀ v σ1 G1 H1, SA mx G0 H0 Γ Os ((v, R x) :: Ts) σ1 G1 H1 → ∀ Q : L2.St → Hp → Prop,
    (∀ σ2, wipe σ2 vs = wipe σ1 vs → ET tt σ2 G1 H1 o.isSome → (∀ y, o = some y → EV te σ2 G1 H1 (D K (e' y))) → Q σ2 H1) → g v σ1 H1 Q
theorem en_lc {Rx : α → RP} {wi : TI} (s : SA mx G0 H0 Γ Os Ts σ G H) (h : ESO wi σ G H Rx xs) (hm : comp f xs = some ys)
    (turn : ∀ src x o, x ∈ xs → f x = some o → LcTurn K mx G0 H0 (wipeG Γ vs) Os (src :: Ts) vs g tt te Rx f e' x o) : EN K (tLc wi g tt te vs) σ G H (ys.map e') := by
  intro G1 H1 g1 Q q
  refine h G1 H1 g1 _ fun J G2 H2 g2 hs => ?_
  have s2 := ((s.step g1).step g2).push (v := V.non) (R := isV .non) rfl
  have hxs := hs.len
  refine fun D0 nD => ?_
  refine ⟨fun i m H' => m = xs.length - i ∧ i ≤ xs.length ∧ ∃ G' acc ws zs, Gr [] G2 H2 G' H' ∧ SA mx G0 H0 Γ Os ((V.non, isV .non) :: Ts) σ G' H' ∧ G' D0 = none ∧ H' D0 = some (.lst acc) ∧ DgAll K G' acc (ws.map e') ∧ comp f (xs.drop i) = some zs ∧ ys = ws ++ zs ∧ ws.length ≤ i,
    ⟨_, rfl, Nat.zero_le _, G2, [], [], ys, (Gr.new g2.fit nD), s2.step (Gr.new g2.fit nD), g2.fit.none nD, upd_same, .nil, hm, rfl, Nat.le_refl _⟩, ?_⟩
  rintro i m H' ⟨rfl, hi, G', acc, ws, zs, gg, s', nG, hD, hacc, hz, hys, hwl⟩
  by_cases hlt : i < xs.length
  · have ex : xs[i]? = some xs[i] := List.getElem?_eq_getElem hlt
    obtain ⟨hgo, hy⟩ := hs.turn G' H' i _ gg ex
    rw [drop_at ex] at hz
    obtain ⟨o, ho, zs', hz', rfl⟩ := comp_cons hz
    refine .inr ⟨hgo, fun H' => ∃ G' acc ws, Gr [] G2 H2 G' H' ∧ SA mx G0 H0 Γ Os ((V.non, isV .non) :: Ts) σ G' H' ∧ G' D0 = none ∧ H' D0 = some (.lst acc) ∧ DgAll K G' acc (ws.map e') ∧ ys = ws ++ zs' ∧ ws.length ≤ i + 1, fun H'' ⟨G'', acc', ws', a1, a2, a3, a4, a5, a6, a7⟩ => ⟨_, by omega, rfl, by omega, G'', acc', ws', zs', a1, a2, a3, a4, a5, hz', a6, a7⟩, fun x H'' hyx => ?_⟩
    obtain ⟨Gy, gy, ry⟩ := hy x H'' hyx
    refine turn _ _ o (List.mem_of_getElem? ex) ho x _ Gy _ (((s'.step gy).wipe vs).push ry) _ fun σ2 hw ht hv => ⟨by rw [hw, wipe_wipe fun _ h => h], ?_⟩
    refine ht.go gy.fit fun G3 H3 g30 => ?_
    have g3 := gy.trans g30
    cases o with
    | none =>
      show ∃ G' acc ws, _
      exact ⟨G3, acc, ws, gg.trans g3, s'.step g3, g3.un nG hD, g3.at0 nG hD, hacc.mono g3.sub, hys, by omega⟩
    | some w =>
      show te σ2 H3 _
      refine ((hv w rfl).mono g30).go g3.fit fun z G4 H4 g4 rz => ?_
      have hD4 := g4.at0 (g3.un nG hD) (g3.at0 nG hD)
      have nG4 := g4.un (g3.un nG hD) (g3.at0 nG hD)
      have hacc4 := (hacc.mono g3.sub).mono g4.sub
      have hl4 := hacc4.length
      rw [List.length_map] at hl4
      refine ⟨acc, hD4, by omega, G4, acc ++ [z], ws ++ [w], ?_, ?_, nG4, upd_same, ?_, by rw [hys, List.append_assoc]; rfl, by rw [List.length_append]; show ws.length + 1 ≤ _; omega⟩
      · exact Gr.putNew ((gg.trans g3).trans g4) nD nG4 hD4
      · refine SA.putNew ((s'.step g3).step g4) ((s2.g).free s2.f0 nD) nG4 hD4 fun qq hqq z => ?_
        obtain ⟨_, ⟨u6, e6, _⟩, _⟩ := s2.own qq hqq
        rw [z, nD] at e6; cases e6
      · rw [List.map_append]
        exact hacc4.append (.cons rz .nil)
  · have e0 : i = xs.length := by omega
    subst e0
    rw [List.drop_length] at hz
    cases hz
    rw [List.append_nil] at hys
    subst hys
    have hl := hacc.length
    rw [List.length_map] at hl
    exact   .inl ⟨hs.stop G' H' gg, q D0 acc G' H' (g2.trans gg) nG (g2.free g1.fit nD) hD (by omega) hacc⟩
end
end Fz
set_option Elab.async false
set_option linter.all false
set_option maxRecDepth 100000
set_option maxHeartbeats 2000000
/-! Fz: the text's defs, joins, strings, the bag of draws. -/
namespace Fz
open PySem PySem.Spec PyProof.Rows L2

/-! ### a def of the module by its name -/
structure Fok (P : Program) (w : World) (K : PySem.W.Frag) (mg : Str → Option Value) (base : Heap) (k : Nat) (x : Str) (ps : List Str) (sp : Sp) : Prop where
  g : mg x = some (.ref (He.ga K x))
  kp : PySem.W.keepIn K (.ref (He.ga K x)) = true
  ok : ∃ fd, Binds K fd ps [] ∧ FnOk P w K mg base CX0 k (He.ga K x) fd ps sp
theorem Fok.mono {P : Program} {w : World} {K : PySem.W.Frag} {mg : Str → Option Value} {base : Heap} {j k : Nat} {x : Str} {ps : List Str} {sp : Sp} (h : Fok P w K mg base j x ps sp) (l : j ≤ k) : Fok P w K mg base k x ps sp := ⟨h.g, h.kp, let ⟨fd, b, f⟩ := h.ok; ⟨fd, b, f.mono l⟩⟩
abbrev FnD (K : PySem.W.Frag) (x qual : Str) (st : Stmt) (f : Addr) : Prop := ∃ fd, FunD K x qual (defArgs st) (defBody st) (defScope st) [] [] f fd
theorem Fok.mk' {P : Program} {w : World} {K : PySem.W.Frag} {mg : Str → Option Value} {base : Heap} {k : Nat} {x : Str} {st : Stmt} {N ps : List Str} {sp : Sp} (g : mg x = some (.ref (He.ga K x))) (d : FnD K x x st (He.ga K x))
    (hb : ∀ (kV doc pm : Value) (an : Option Addr) (cdv ct : Value) (us : List Value), us.length = ps.length → bindArgs (PySem.W.fnOf x x (defArgs st) (defBody st) (defScope st) .none kV doc pm an cdv ct) ⟨us, []⟩ = pure (ps.zip us))
    (S : FnScope N ps (defScope st)) (len : ∀ vs H Q E, sp vs H Q E → vs.length = ps.length)
    (hbody : ∀ (cdv : Value) (A : Around) (outer : List PySem.Env) (s : Shared) (H : Hp) (vs : List V) (Q : VK) (E : XK), Room k (A.deeper (envOfC x (defScope st) s.heap.objs.size (He.ga K x) cdv)) → sp vs H Q E →
      ∃ t, PSs (cxOf CX0 P w K mg base N x (defScope st) (He.ga K x) cdv A outer s H E).nox (defBody st) t ∧ t { nx := fun _ H' => Q .non H', rt := Q } (L2.start N vs) H) : Fok P w K mg base (k + 1) x ps sp := by
  obtain ⟨fd, F⟩ := d
  refine ⟨g, F.kp, fd, F.bindsN hb, F.ok S len fun cdv A outer s H vs Q E hr hsp => ?_⟩
  obtain ⟨t, h, q⟩ := hbody cdv A outer s H vs Q E hr hsp
  exact ⟨t, h.nox, q⟩
section
variable {X : Cx} {x : Str} {k : Nat} {ps : List Str} {sp : Sp} {e : Expr} {es : List Expr} {t : TA} {p pos : Pos} {E : XK}
theorem pe_callF (h : Fok X.prog X.w X.K X.mg X.base k x ps sp) (hr : Room k X.A) (ha : PA X (e :: es) t) (hg : Gl X x := by rfl) (hd : (x == ("__debug__" : Str)) = false := by decide)
    (he : starEach (e :: es) X.env = (false, eval e X.env) :: starEach es X.env := by rfl) (hpl : (backTo pos (starEach es X.env)).any (·.1) = false := by rfl) : PE X (.Call (.Name x p) (e :: es) [] pos) (tCall sp [] E0 t) := by
  obtain ⟨fd, b, f⟩ := h.ok
  exact pe_call f hr hg h.g h.kp b .nil pass0 ha hd he hpl
theorem pe_callF0 (h : Fok X.prog X.w X.K X.mg X.base k x ps sp) (hr : Room k X.A) (hg : Gl X x := by rfl) (hd : (x == ("__debug__" : Str)) = false := by decide) : PE X (.Call (.Name x p) [] [] pos) (tCall sp [] E0 tNil) := by
  obtain ⟨fd, b, f⟩ := h.ok
  exact pe_call0 f hr hg h.g h.kp b .nil pass0 hd
end

section
variable {K : PySem.W.Frag} {mx : List Addr} {G0 G G1 : GH} {H0 H H1 : Hp} {Γ Γ' Γj : List (Option RP)} {Os Os' Osj : List (Addr × OP)} {Ts Ts' : List (V × RP)} {σ : L2.St} {te tl ta tb : TE} {tc : TT} {R S : RP} {i j : Nat} {v : V} {p : Addr} {o : HO} {P P' : OP} {De : Ends} {t u : TS} {b : Bool}
theorem st_nil (h : De.nx σ H) : tNext De σ H := h
/-- an if behind which both ways go on -/
theorem st_ifJ (Γj : List (Option RP)) (Osj : List (Addr × OP)) (s : SA mx G0 H0 Γ Os Ts σ G H) (h : ET tc σ G H b)
    (k1 : b = true → ∀ G1 H1, SA mx G0 H0 Γ Os Ts σ G1 H1 → ∀ N : L2.St → Hp → Prop, (∀ σ' G' H', SA mx G0 H0 Γj Osj Ts σ' G' H' → N σ' H') → t { De with nx := N } σ H1)
    (k0 : b = false → ∀ G1 H1, SA mx G0 H0 Γ Os Ts σ G1 H1 → ∀ N : L2.St → Hp → Prop, (∀ σ' G' H', SA mx G0 H0 Γj Osj Ts σ' G' H' → N σ' H') → u { De with nx := N } σ H1)
    (rest : ∀ σ' G' H', SA mx G0 H0 Γj Osj Ts σ' G' H' → De.nx σ' H') : tIfS tc t u De σ H :=
  h.go s.fit fun G2 H2 g => by
    cases b with
    | true => show t De σ H2; exact k1 rfl G2 H2 (s.step g) De.nx rest
    | false => show u De σ H2; exact k0 rfl G2 H2 (s.step g) De.nx rest
/-- a text as it is written -/
theorem ev_strC {z : Str} (l : Tx) (h : z = mkS l := by rfl) (hl : l.length ≤ sizeLine := by decide) : EV (tC (.str z)) σ G H (D K (eS l)) := by
  subst h
  exact ev_str (by rw [mkS_len]; exact hl)
/-- a written tuple of texts of the module -/
structure TupC (K : PySem.W.Frag) (mg : Str → Option Value) (x : Str) (ls : List Tx) : Prop where
  g : mg x = some (.ref (He.ga K x))
  at_ : ∀ H, SqT K H (He.ga K x) ((ls.map mkS).map V.str)
theorem dp_strs {H : Hp} : ∀ ls : List Tx, DpAll K H ((ls.map mkS).map V.str) (ls.map eS)
  | [] => .nil
  | _ :: ls => .cons (.str _) (dp_strs ls)
theorem ev_inC {mg : Str → Option Value} {x : Str} {ls : List Tx} {a : Tx} (hc : TupC K mg x ls) (ha : EV ta σ G H (D K (eS a))) : EV (tOp (rInP K) ta (tC (.ref (He.ga K x)))) σ G H (D K (eB (mem a ls))) :=
  ev_op (R' := isV (.ref (He.ga K x))) ha (ev_c rfl) fun G1 H1 u w g ru rv Q q => by
    have ew : w = .ref (He.ga K x) := rv
    subst ew
    exact ⟨eS a, ls.map eS, Dg.dp g.fit ru, .inr (.tup (hc.at_ H1) (dp_strs ls)), rfl, plainAll_map (n := 0) ls, Nat.zero_le _, by rw [any_dec (n := 0)]; exact q _ G1 H1 (Gr.refl g.fit) (.bl _)⟩
theorem ev_niC {mg : Str → Option Value} {x : Str} {ls : List Tx} {a : Tx} (hc : TupC K mg x ls) (ha : EV ta σ G H (D K (eS a))) : EV (tOp (rNiP K) ta (tC (.ref (He.ga K x)))) σ G H (D K (eB (!mem a ls))) :=
  ev_op (R' := isV (.ref (He.ga K x))) ha (ev_c rfl) fun G1 H1 u w g ru rv Q q => by
    have ew : w = .ref (He.ga K x) := rv
    subst ew
    exact ⟨eS a, ls.map eS, Dg.dp g.fit ru, .inr (.tup (hc.at_ H1) (dp_strs ls)), rfl, plainAll_map (n := 0) ls, Nat.zero_le _, by rw [any_dec (n := 0)]; exact q _ G1 H1 (Gr.refl g.fit) (.bl _)⟩
/-- truth of a text -/
theorem et_truS {s : Tx} (h : EV te σ G H (D K (eS s))) : ET (fun σ H Q => te σ H fun x H' => ∃ k, TruV K x H' k ∧ Q k H') σ G H (!s.isEmpty) := fun G1 H1 g Q q => h G1 H1 g _ fun v G2 H2 g2 rv => by
  have ev := Dg.str_inv rv
  subst ev
  refine ⟨!s.isEmpty, ⟨Dg.str_len rv, ?_⟩, q G2 H2 g2⟩
  rw [mkS_len]
  cases s with
  | nil => rfl
  | cons a r => rfl
end

/-! ### the bag of draws -/
structure Bag where
  cv : V
  cells : List Int
  pos : Int
  cur : Int
  mix : Int
  cnt : Int
def ownBag (K : PySem.W.Frag) (b : Bag) : OP := ⟨fun G o => o = .lst [b.cv, .int b.pos, .int b.cur, .int b.mix, .int b.cnt] ∧ Dg K G b.cv (eL eI b.cells), fun ⟨e, _⟩ => (by rw [e]; intro _ h; cases h), fun s ⟨e, h⟩ => ⟨e, Dg.mono s h⟩⟩
end Fz
set_option Elab.async false
set_option linter.all false
set_option maxRecDepth 100000
set_option maxHeartbeats 2000000
/-! Fz: more rules for what the printer prints. -/
namespace Fz
open PySem PySem.Spec PyProof.Rows L2

namespace Fm
/-- t.split(b), b one sign -/
def split (t b : Tx) : Option (List Tx) := match b with
  | [k] => if k < 256 ∧ t.length + 2 ≤ sizeLine then some (TL.spl [k] 0 [] t) else none
  | _ => none
end Fm
theorem split_some {t b : Tx} {ts : List Tx} (h : Fm.split t b = some ts) : ∃ k, b = [k] ∧ k < 256 ∧ t.length + 2 ≤ sizeLine ∧ ts = TL.spl [k] 0 [] t := by
  match b, h with
  | [k], h => obtain ⟨⟨c, c2⟩, e⟩ := if_some h; exact ⟨k, rfl, c, c2, e.symm⟩
theorem spl_len (S : List Nat) : ∀ (t : List Nat) (k : Nat) (acc : List Nat), ∀ l ∈ TL.spl S k acc t, l.length ≤ acc.length + t.length
  | [], k, acc, l, h => by rw [TL.spl_nil, List.mem_singleton] at h; rw [h]; exact Nat.le_add_right _ _
  | c :: t, k + 1, acc, l, h => by
    have := spl_len S t k acc l h
    rw [List.length_cons]; omega
  | c :: t, 0, acc, l, h => by
    cases hp : TL.pre S (c :: t) with
    | true =>
      rw [TL.spl_hit hp] at h
      rcases List.mem_cons.mp h with rfl | h
      · exact Nat.le_add_right _ _
      · have := spl_len S t _ [] l h
        rw [List.length_cons]; simp only [List.length_nil] at this; omega
    | false =>
      rw [TL.spl_miss hp] at h
      have := spl_len S t _ _ l h
      rw [List.length_append] at this
      rw [List.length_cons]; simp only [List.length_cons, List.length_nil] at this; omega
theorem mk_cps (z : Str) : mkS z.cps.toList = z := by show (⟨z.cps.toList.toArray⟩ : Str) = z; rw [Array.toArray_toList]
section
variable {K : PySem.W.Frag} {mx : List Addr} {G0 G G1 : GH} {H0 H H1 : Hp} {Γ Γ' : List (Option RP)} {Os Os' : List (Addr × OP)} {Ts Ts' : List (V × RP)} {σ : L2.St} {te tl ta tb : TE} {tc : TT} {R S : RP} {i j : Nat} {v : V} {p : Addr} {o : HO} {P P' : OP} {De : Ends} {t u : TS} {b : Bool}
variable {α β : Type} {e : α → PyData} {xs ys : List α} {a c : α} {s r : Tx}
/-- x = a new list, owned, typed -/
theorem st_ownT (sa : SA mx G0 H0 Γ Os Ts σ G H) (h : EN K te σ G H (xs.map e)) (k : ∀ p σ' G1 H1, p ∉ mx → SA mx G0 H0 (Γ.set i (some (isV (.ref p)))) ((p, Fz.ownL K (xs.map e)) :: Os) Ts σ' G1 H1 → De.nx σ' H1) (hmx : ∀ a ∈ mx, H a ≠ none := by intro a h; cases h) : tAsg te (gName i) De σ H := st_own sa h k hmx
theorem en_lst {ta : TA} {ds : List PyData} (h : EA ta σ G H (ds.map (D K))) (hl : ds.length ≤ sizeLine := by exact Nat.le_of_ble_eq_true rfl) : EN K (tLst ta) σ G H ds := fun G1 H1 g Q q =>
  h G1 H1 g _ fun vs G2 H2 g2 rs => by
    have hz : vs.length ≤ sizeLine := by have := rs.length; rw [List.length_map] at this; omega
    exact ⟨hz, fun p hp => q p vs G2 _ (g2.trans (Gr.new g2.fit hp)) (g2.fit.none hp) (g2.free g.fit hp) upd_same hz (ralls (ds := ds) rs)⟩
theorem en_new {vs : List V} {ds : List PyData} {Q : VK} (g0 : Fit G H) (g : Gr [] G H G1 H1) (hp : H1 p = none) (hz : vs.length ≤ sizeLine) (hr : DgAll K G1 vs ds)
    (q : ∀ p vs G2 H2, Gr [] G H G2 H2 → G2 p = none → H p = none → H2 p = some (.lst vs) → vs.length ≤ sizeLine → DgAll K G2 vs ds → Q (.ref p) H2) : Q (.ref p) (upd H1 p (.lst vs)) :=
  q p vs G1 _ (g.trans (Gr.new g.fit hp)) (g.fit.none hp) (g.free g0 hp) upd_same hz hr
theorem en_listL {ds : List PyData} (ha : EL K ta σ G H ds) : EN K (tCB (fun xs H Q => ∃ p ys, xs = [.ref p] ∧ (SqL K H p ys ∨ SqT K H p ys) ∧ ∀ l, H l = none → Q (.ref l) (upd H l (.lst ys))) (tCons ta tNil)) σ G H ds := fun G1 H1 g Q q =>
  ha G1 H1 g _ fun u G2 H2 g2 ru => by
    obtain ⟨p, vs, rfl, hz, hq, hr⟩ := ru.at' g2.fit
    exact ⟨p, vs, rfl, .inl (SqL.of hq), fun l hl => en_new g.fit g2 hl hz hr q⟩
theorem en_listT {ds : List PyData} (ha : EV ta σ G H (D K (.tuple ds))) : EN K (tCB (fun xs H Q => ∃ p ys, xs = [.ref p] ∧ (SqL K H p ys ∨ SqT K H p ys) ∧ ∀ l, H l = none → Q (.ref l) (upd H l (.lst ys))) (tCons ta tNil)) σ G H ds := fun G1 H1 g Q q =>
  ha G1 H1 g _ fun u G2 H2 g2 ru => by
    obtain ⟨p, vs, rfl, hq, hr⟩ := Dg.tuple_inv ru
    exact ⟨p, vs, rfl, .inr (hq.sq g2.fit), fun l hl => en_new g.fit g2 hl hq.1 hr q⟩
theorem en_slL {tl th : TO} {lo hi : Option Int} (ha : EL K te σ G H (xs.map e)) (h1 : EO K tl σ G H lo) (h2 : EO K th σ G H hi) : EN K (tSl (rSlL K) te tl th) σ G H ((Fm.cut xs lo hi).map e) := fun G1 H1 g Q q =>
  ha G1 H1 g _ fun u G2 H2 g2 ru => h1 G2 H2 (g.trans g2) _ fun G3 H3 g3 => h2 G3 H3 ((g.trans g2).trans g3) _ fun G4 H4 g4 => by
    obtain ⟨p, vs, rfl, hz, hq, hr⟩ := ((ru.step g3).step g4).at' g4.fit
    refine ⟨p, vs, rfl, SqL.of hq, fun b hb => en_new g.fit ((g2.trans g3).trans g4) hb (Nat.le_trans (cut_len vs lo hi) hz) ?_ q⟩
    rw [cutV_eq, ← cut_map]
    exact hr.cut lo hi
/-- xs + ys, owned -/
theorem en_catL {zs : List α} (ha : EL K ta σ G H (xs.map e)) (hb : EL K tb σ G H (ys.map e)) (h : Fm.catL xs ys = some zs) : EN K (tOp rCat ta tb) σ G H (zs.map e) := by
  obtain ⟨c, rfl⟩ := if_some h
  exact fun G1 H1 g Q q => ha G1 H1 g _ fun u G2 H2 g2 ru => hb G2 H2 (g.trans g2) _ fun v G3 H3 g3 rv => by
    obtain ⟨p, vs, rfl, hz, hq, hr⟩ := (ru.step g3).at' g3.fit
    obtain ⟨p', vs', rfl, hz', hq', hr'⟩ := rv.at' g3.fit
    have e1 := hr.length
    have e2 := hr'.length
    rw [List.length_map] at e1 e2
    refine ⟨p, p', vs, vs', rfl, rfl, hq, hq', by omega, fun b hb => en_new g.fit (g2.trans g3) hb (by rw [List.length_append]; omega) ?_ q⟩
    rw [List.map_append]
    exact hr.append hr'
theorem en_split {ts : List Tx} (ha : EV ta σ G H (D K (eS s))) (hb : EV tb σ G H (D K (eS r))) (h : Fm.split s r = some ts) : EN K (tM1 (fun x xs H Q => ∃ a b, x = .str a ∧ xs = [.str b] ∧ (b.length == 0) = false ∧ a.length + 2 ≤ sizeLine ∧ rNewStrs (Txt.split a b) H Q) ta tb) σ G H (ts.map eS) := by
  obtain ⟨k, rfl, c, c2, rfl⟩ := split_some h
  refine fun G1 H1 g Q q => ha G1 H1 g _ fun u G2 H2 g2 ru => ⟨⟨_, Dg.str_inv ru⟩, hb G2 H2 (g.trans g2) _ fun w G3 H3 g3 rw' => ?_⟩
  have hl : (Txt.split (mkS s) (mkS [k])).length ≤ sizeLine := Nat.le_trans (PyProof.Rows.split_le _ _) (by rw [mkS_len]; exact c2)
  refine ⟨mkS s, mkS [k], Dg.str_inv ru, by rw [Dg.str_inv rw'], rfl, by rw [mkS_len]; exact c2, fun p hp => en_new g.fit (g2.trans g3) hp (by rw [List.length_map]; exact hl) ?_ q⟩
  have e1 : (Txt.split (mkS s) (mkS [k])).map TL.tl = TL.spl [k] 0 [] s := by
    have h1 := TL.split_spl (mkS s) (mkS [k]) (by show [k] ≠ []; simp) (TL.kind_ok (by show Array.all #[k] (· < 256) = true; simp; exact c))
    exact h1
  have e2 : Txt.split (mkS s) (mkS [k]) = (TL.spl [k] 0 [] s).map mkS := by
    rw [← e1, List.map_map]
    have : (Txt.split (mkS s) (mkS [k])).map (mkS ∘ TL.tl) = (Txt.split (mkS s) (mkS [k])).map id := List.map_congr_left fun z _ => mk_cps z
    rw [this, List.map_id]
  rw [e2]
  exact of_strs (K := K) (G := G3) (ns := TL.spl [k] 0 [] s) fun l hl => by
    have := spl_len [k] s 0 [] l hl
    simp only [List.length_nil] at this
    omega
theorem join_facts (a : Tx) (xs : List Tx) : ((xs.map mkS).map fun (z : Str) => z.length) = xs.map List.length ∧ Txt.join (mkS a) (xs.map mkS) = mkS (TL.joinL a xs) ∧ (TL.joinL a xs).length ≤ (xs.map List.length).sum + xs.length * a.length := by
  refine ⟨?_, ?_, ?_⟩
  · rw [List.map_map]
    exact List.map_congr_left fun l _ => mkS_len l
  · refine TL.ext_tl ?_
    rw [TL.join_eq, TL.tl_join, List.map_map]
    have e2 : xs.map (TL.tl ∘ mkS) = xs := by
      have : xs.map (TL.tl ∘ mkS) = xs.map id := List.map_congr_left fun l _ => mkS_list l
      rw [this, List.map_id]
    rw [e2, show TL.tl (mkS a) = a from mkS_list a]
  · induction xs with
    | nil => exact Nat.zero_le _
    | cons x l ih =>
      cases l with
      | nil => show x.length ≤ _; simp only [List.map_cons, List.map_nil, List.sum_cons, List.sum_nil]; omega
      | cons y l =>
        show (x ++ (a ++ TL.joinL a (y :: l))).length ≤ _
        rw [List.length_append, List.length_append, List.map_cons, List.sum_cons, List.length_cons, Nat.succ_mul]
        omega
theorem ev_isO {x : Option α} (hn : ∀ a, e a ≠ .none := by intro a h; cases h) (ha : EV ta σ G H (D K (eO e x))) : EV (tOp (fun x y H Q => y = .non ∧ Q (.bl (decide (x = .non))) H) ta (tC .non)) σ G H (D K (eB x.isNone)) := by
  refine EV.to (ev_isN ha) (congrArg eB ?_)
  cases x with
  | none => rfl
  | some a =>
    show isN (e a) = false
    have := hn a
    generalize e a = d at this
    cases d <;> first | rfl | exact absurd rfl this
theorem ev_notO {x : Option α} (hn : ∀ a, e a ≠ .none := by intro a h; cases h) (ha : EV ta σ G H (D K (eO e x))) : EV (tOp (fun x y H Q => y = .non ∧ Q (.bl (!decide (x = .non))) H) ta (tC .non)) σ G H (D K (eB (!x.isNone))) := by
  refine EV.to (ev_notN ha) (congrArg eB ?_)
  cases x with
  | none => rfl
  | some a =>
    show (!isN (e a)) = true
    have := hn a
    generalize e a = d at this
    cases d <;> first | rfl | exact absurd rfl this
theorem ev_some {a : α} (ha : EV ta σ G H (D K (e a))) : EV ta σ G H (D K (eO e (some a))) := ha
theorem ev_none (ha : EV ta σ G H (D K .none) := by exact ev_non) : EV ta σ G H (D K (eO e none)) := ha
theorem ev_ifD (h : ET tc σ G H b) (h1 : b = true → EV ta σ G H (D K (e a))) (h2 : b = false → EV tb σ G H (D K (e c))) : EV (tIf tc ta tb) σ G H (D K (e (if b = true then a else c))) := ev_if h (fun q => by rw [if_pos q]; exact h1 q) (fun q => by rw [if_neg (by rw [q]; exact Bool.false_ne_true)]; exact h2 q)
theorem ev_joinT {xs : List Tx} (ha : EV ta σ G H (D K (eS s))) (hb : EV tb σ G H (D K (eT eS xs))) (h : Fm.join s xs = some r) : EV (tM1 (fun x xs H Q => ∃ a p, ∃ ys : List Str, x = .str a ∧ xs = [.ref p] ∧ (SqL K H p (ys.map V.str) ∨ SqT K H p (ys.map V.str)) ∧
    (ys.map (·.length)).sum + ys.length * a.length ≤ 16777216 ∧ Q (.str (Txt.join a ys)) H) ta tb) σ G H (D K (eS r)) := by
  obtain ⟨c, rfl⟩ := if_some h
  refine fun G1 H1 g Q q => ha G1 H1 g _ fun u G2 H2 g2 ru => ⟨⟨_, Dg.str_inv ru⟩, hb G2 H2 (g.trans g2) _ fun w G3 H3 g3 rw' => ?_⟩
  obtain ⟨p, vs, rfl, hq, hr⟩ := Dg.tuple_inv rw'
  have ev := strs_of hr
  subst ev
  obtain ⟨e1, e2, e3⟩ := join_facts s xs
  exact ⟨mkS s, p, xs.map mkS, Dg.str_inv ru, rfl, .inr (hq.sq g3.fit), by rw [e1, List.length_map, mkS_len]; exact c, by rw [e2]; exact q _ G3 H3 (g2.trans g3) (.str _ (by rw [mkS_len, sizeLine_eq]; omega))⟩
end
end Fz
set_option Elab.async false
set_option linter.all false
set_option maxRecDepth 100000
set_option maxHeartbeats 2000000
/-! Fz: what is not known ahead (draws): a mirror says what must hold of every answer. -/
namespace Fz
open PySem PySem.Spec PyProof.Rows L2

abbrev W (α : Type) := (α → Prop) → Prop
def wret {α : Type} (a : α) : W α := fun p => p a
def wopt {α : Type} (o : Option α) : W α := fun p => ∃ a, o = some a ∧ p a
def wbind {α β : Type} (m : W α) (f : α → W β) : W β := fun p => m fun a => f a p
def wbind2 {α β γ : Type} (m : W α) (n : W β) (f : α → β → W γ) : W γ := fun p => m fun a => n fun b => f a b p
def wpair {α β : Type} (m : W α) (n : W β) : W (α × β) := fun p => m fun a => n fun b => p (a, b)
def wmap {α β : Type} (f : α → β) (m : W α) : W β := fun p => m fun a => p (f a)
def wif (b : Bool) (A B : Prop) : Prop := (b = true → A) ∧ (b = false → B)
def wand (m n : W Bool) : W Bool := fun p => m fun a => wif a (n p) (p false)
def wor (m n : W Bool) : W Bool := fun p => m fun a => wif a (p true) (n p)
def wnot (m : W Bool) : W Bool := fun p => m fun a => p (!a)
def wcond {α : Type} (c : W Bool) (m n : W α) : W α := fun p => c fun b => wif b (m p) (n p)
def wjoin {S : Type} (F : (S → Prop) → Prop) (k : S → Prop) : Prop := F k
/-- a loop: f state item next break -/
def wfor {S α : Type} (f : S → α → (S → Prop) → (S → Prop) → Prop) : S → List α → (S → Prop) → Prop
  | s, [], k => k s
  | s, x :: xs, k => f s x (fun s' => wfor f s' xs k) k
def wcomp {α β : Type} (f : α → W (Option β)) : List α → W (List β)
  | [] => wret []
  | x :: xs => fun p => f x fun o => wcomp f xs fun ys => p (o.toList ++ ys)

/-- a def whose answer is any r that m lets -/
def spW {X R : Type} (enc : X → List RP) (m : X → W R) (er : R → RP) : Sp := fun vs H Q E => ∃ G x post, Fit G H ∧ RAll G vs (enc x) ∧ m x post ∧ ∀ v G' H' r, Gr [] G H G' H' → post r → (er r).r G' v → Q v H'
def spWL {X β : Type} (K : PySem.W.Frag) (enc : X → List RP) (m : X → W (List β)) (e : β → PyData) : Sp := fun vs H Q E => ∃ G x post, Fit G H ∧ RAll G vs (enc x) ∧ m x post ∧
  ∀ p us G' H' ys, post ys → Gr [] G H G' H' → G' p = none → H p = none → H' p = some (.lst us) → us.length ≤ sizeLine → DgAll K G' us (ys.map e) → Q (.ref p) H'

/-- te answers as w lets; an answer a stands as e a -/
def EM {α : Type} (te : TE) (σ : L2.St) (G : GH) (H : Hp) (w : W α) (e : α → RP) : Prop := ∀ G1 H1, Gr [] G H G1 H1 → ∀ (post : α → Prop) (Q : VK), w post → (∀ a v G2 H2, Gr [] G1 H1 G2 H2 → post a → (e a).r G2 v → Q v H2) → te σ H1 Q
def EMT (tt : TT) (σ : L2.St) (G : GH) (H : Hp) (w : W Bool) : Prop := ∀ G1 H1, Gr [] G H G1 H1 → ∀ (post : Bool → Prop) (Q : Bool → Hp → Prop), w post → (∀ b G2 H2, Gr [] G1 H1 G2 H2 → post b → Q b H2) → tt σ H1 Q
def EMA {α : Type} (ta : TA) (σ : L2.St) (G : GH) (H : Hp) (w : W α) (e : α → List RP) : Prop := ∀ G1 H1, Gr [] G H G1 H1 → ∀ (post : α → Prop) (Q : List V → Hp → Prop), w post → (∀ a vs G2 H2, Gr [] G1 H1 G2 H2 → post a → RAll G2 vs (e a) → Q vs H2) → ta σ H1 Q
/-- a new list as w lets -/
def EMN (K : PySem.W.Frag) {α : Type} (te : TE) (σ : L2.St) (G : GH) (H : Hp) (w : W α) (ds : α → List PyData) : Prop := ∀ G1 H1, Gr [] G H G1 H1 → ∀ (post : α → Prop) (Q : VK), w post → (∀ a p vs G2 H2, Gr [] G1 H1 G2 H2 → post a → G2 p = none → H1 p = none → H2 p = some (.lst vs) → vs.length ≤ sizeLine → DgAll K G2 vs (ds a) → Q (.ref p) H2) → te σ H1 Q
section
variable {K : PySem.W.Frag} {mx : List Addr} {G0 G G1 : GH} {H0 H H1 : Hp} {Γ Γ' Γj : List (Option RP)} {Os Os' Osj : List (Addr × OP)} {Ts Ts' : List (V × RP)} {σ : L2.St} {te tl ta tb tc : TE} {tt tu : TT} {R R' S : RP} {i j : Nat} {v : V} {p : Addr} {o : HO} {P P' : OP} {De : Ends} {t u : TS} {b : Bool}
variable {α β γ : Type} {e ea : α → RP} {eb : β → RP} {ec : γ → RP} {w wa : W α} {wb : W β} {a c : α}
theorem EM.mono (h : EM te σ G H w e) (g : Gr [] G H G1 H1) : EM te σ G1 H1 w e := fun G2 H2 g2 => h G2 H2 (g.trans g2)
theorem em_ev (h : EV te σ G H (e a)) : EM te σ G H (wret a) e := fun G1 H1 g post Q hp q => h G1 H1 g Q fun v G2 H2 g2 r => q a v G2 H2 g2 hp r
theorem em_opt {o : Option α} (h : ∀ a, o = some a → EV te σ G H (e a)) : EM te σ G H (wopt o) e := fun G1 H1 g post Q ⟨a, ho, hp⟩ q => h a ho G1 H1 g Q fun v G2 H2 g2 r => q a v G2 H2 g2 hp r
theorem em_bnd {o : Option β} {f : β → W α} (h : ∀ z, o = some z → EM te σ G H (f z) e) : EM te σ G H (wbind (wopt o) f) e := fun G1 H1 g post Q ⟨z, ho, hp⟩ q => h z ho G1 H1 g post Q hp q
theorem em_op {r : R2} {f : α → β → W γ} (ha : EM ta σ G H wa ea) (hb : EM tb σ G H wb eb) (hf : ∀ a b x y G1 H1, Gr [] G H G1 H1 → (ea a).r G1 x → (eb b).r G1 y → EM (tOp r (tC x) (tC y)) σ G1 H1 (f a b) ec) : EM (tOp r ta tb) σ G H (wbind2 wa wb f) ec := fun G1 H1 g post Q hp q =>
  ha G1 H1 g _ _ hp fun a x G2 H2 g2 hp2 rx => hb G2 H2 (g.trans g2) _ _ hp2 fun b y G3 H3 g3 hp3 ry => hf a b x y G3 H3 ((g.trans g2).trans g3) ((ea a).mono g3.sub rx) ry G3 H3 (Gr.refl g3.fit) post Q hp3 fun c z G4 H4 g4 => q c z G4 H4 ((g2.trans g3).trans g4)
theorem em_un {r : V → Hp → VK → Prop} {f : α → W γ} (ha : EM ta σ G H wa ea) (hf : ∀ a x G1 H1, Gr [] G H G1 H1 → (ea a).r G1 x → EM (tUn r (tC x)) σ G1 H1 (f a) ec) : EM (tUn r ta) σ G H (wbind wa f) ec := fun G1 H1 g post Q hp q =>
  ha G1 H1 g _ _ hp fun a x G2 H2 g2 hp2 rx => hf a x G2 H2 (g.trans g2) rx G2 H2 (Gr.refl g2.fit) post Q hp2 fun c z G4 H4 g4 => q c z G4 H4 (g2.trans g4)
theorem em_cb1 {rd : List V → Hp → VK → Prop} {f : α → W γ} (ha : EM ta σ G H wa ea) (hf : ∀ a x G1 H1, Gr [] G H G1 H1 → (ea a).r G1 x → EM (tCB rd (tCons (tC x) tNil)) σ G1 H1 (f a) ec) : EM (tCB rd (tCons ta tNil)) σ G H (wbind wa f) ec := fun G1 H1 g post Q hp q =>
  ha G1 H1 g _ _ hp fun a x G2 H2 g2 hp2 rx => hf a x G2 H2 (g.trans g2) rx G2 H2 (Gr.refl g2.fit) post Q hp2 fun c z G4 H4 g4 => q c z G4 H4 (g2.trans g4)
theorem em_sl {r : V → Option Int → Option Int → Hp → VK → Prop} {tl th : TO} {f : α → W γ} (ha : EM ta σ G H wa ea) (hf : ∀ a x G1 H1, Gr [] G H G1 H1 → (ea a).r G1 x → EM (tSl r (tC x) tl th) σ G1 H1 (f a) ec) : EM (tSl r ta tl th) σ G H (wbind wa f) ec := fun G1 H1 g post Q hp q =>
  ha G1 H1 g _ _ hp fun a x G2 H2 g2 hp2 rx => hf a x G2 H2 (g.trans g2) rx G2 H2 (Gr.refl g2.fit) post Q hp2 fun c z G4 H4 g4 => q c z G4 H4 (g2.trans g4)
/-- xs[draw:] : the part's begin is not known ahead -/
theorem em_slLo {r : V → Option Int → Option Int → Hp → VK → Prop} {th : TO} {f : α → β → W γ} (ha : EM ta σ G H wa ea) (hb : EM tb σ G H wb eb) (hf : ∀ a b x y G1 H1, Gr [] G H G1 H1 → (ea a).r G1 x → (eb b).r G1 y → EM (tSl r (tC x) (tPart (tC y)) th) σ G1 H1 (f a b) ec) : EM (tSl r ta (tPart tb) th) σ G H (wbind2 wa wb f) ec := fun G1 H1 g post Q hp q =>
  ha G1 H1 g _ _ hp fun a x G2 H2 g2 hp2 rx => hb G2 H2 (g.trans g2) _ _ hp2 fun b y G3 H3 g3 hp3 ry => hf a b x y G3 H3 ((g.trans g2).trans g3) ((ea a).mono g3.sub rx) ry G3 H3 (Gr.refl g3.fit) post Q hp3 fun c z G4 H4 g4 => q c z G4 H4 ((g2.trans g3).trans g4)
theorem em_if {wt : W Bool} {wa wb : W α} (h : EMT tt σ G H wt) (h1 : EM ta σ G H wa e) (h2 : EM tb σ G H wb e) : EM (tIf tt ta tb) σ G H (wcond wt wa wb) e := fun G1 H1 g post Q hp q => h G1 H1 g _ _ hp fun b G2 H2 g2 hp2 => by
  cases b with
  | true => show ta σ H2 Q; exact h1 G2 H2 (g.trans g2) post Q (hp2.1 rfl) fun a v G3 H3 g3 => q a v G3 H3 (g2.trans g3)
  | false => show tb σ H2 Q; exact h2 G2 H2 (g.trans g2) post Q (hp2.2 rfl) fun a v G3 H3 g3 => q a v G3 H3 (g2.trans g3)
/-! tests -/
theorem emt_et (h : ET tt σ G H b) : EMT tt σ G H (wret b) := fun G1 H1 g post Q hp q => h G1 H1 g Q fun G2 H2 g2 => q b G2 H2 g2 hp
theorem emt_bnd {o : Option β} {f : β → W Bool} (h : ∀ z, o = some z → EMT tt σ G H (f z)) : EMT tt σ G H (wbind (wopt o) f) := fun G1 H1 g post Q ⟨z, ho, hp⟩ q => h z ho G1 H1 g post Q hp q
theorem emt_test {w : W Bool} (h : EM te σ G H w (fun b => D K (eB b))) : EMT (tTest te) σ G H w := fun G1 H1 g post Q hp q => h G1 H1 g _ _ hp fun b v G2 H2 g2 hp2 r => ⟨b, Dg.bool_inv r, q b G2 H2 g2 hp2⟩
theorem emt_B {w : W Bool} (h : EM te σ G H w (fun b => D K (eB b))) : EMT (tB te) σ G H w := fun G1 H1 g post Q hp q => h G1 H1 g _ _ hp fun b v G2 H2 g2 hp2 r => ⟨b, Dg.bool_inv r, q b G2 H2 g2 hp2⟩
theorem emt_not {w : W Bool} (h : EMT tt σ G H w) : EMT (tNot tt) σ G H (wnot w) := fun G1 H1 g post Q hp q => h G1 H1 g _ _ hp fun b G2 H2 g2 hp2 => q (!b) G2 H2 g2 hp2
theorem emt_and {w1 w2 : W Bool} (h1 : EMT tt σ G H w1) (h2 : EMT tu σ G H w2) : EMT (tAnd tt tu) σ G H (wand w1 w2) := fun G1 H1 g post Q hp q => h1 G1 H1 g _ _ hp fun b G2 H2 g2 hp2 => by
  cases b with
  | true => show tu σ H2 Q; exact h2 G2 H2 (g.trans g2) post Q (hp2.1 rfl) fun b G3 H3 g3 => q b G3 H3 (g2.trans g3)
  | false => show Q false H2; exact q false G2 H2 g2 (hp2.2 rfl)
theorem emt_or {w1 w2 : W Bool} (h1 : EMT tt σ G H w1) (h2 : EMT tu σ G H w2) : EMT (tOr tt tu) σ G H (wor w1 w2) := fun G1 H1 g post Q hp q => h1 G1 H1 g _ _ hp fun b G2 H2 g2 hp2 => by
  cases b with
  | true => show Q true H2; exact q true G2 H2 g2 (hp2.1 rfl)
  | false => show tu σ H2 Q; exact h2 G2 H2 (g.trans g2) post Q (hp2.2 rfl) fun b G3 H3 g3 => q b G3 H3 (g2.trans g3)
/-! arguments, displays, calls -/
theorem ema_nil : EMA tNil σ G H (wret ()) (fun _ => []) := fun G1 H1 g post Q hp q => q () [] G1 H1 (Gr.refl g.fit) hp .nil
theorem ema_one (h : EM te σ G H w e) : EMA (tCons te tNil) σ G H w (fun a => [e a]) := fun G1 H1 g post Q hp q => h G1 H1 g _ _ hp fun a v G2 H2 g2 hp2 r => q a [v] G2 H2 g2 hp2 (.cons r .nil)
theorem ema_cons {tr : TA} {er : β → List RP} (h : EM te σ G H w e) (hr : EMA tr σ G H wb er) : EMA (tCons te tr) σ G H (wpair w wb) (fun x => e x.1 :: er x.2) := fun G1 H1 g post Q hp q =>
  h G1 H1 g _ _ hp fun a v G2 H2 g2 hp2 r => hr G2 H2 (g.trans g2) _ _ hp2 fun b vs G3 H3 g3 hp3 rs => q (a, b) (v :: vs) G3 H3 (g2.trans g3) hp3 (.cons ((e a).mono g3.sub r) rs)
theorem em_tup {ta : TA} {ds : α → List PyData} (h : EMA ta σ G H w (fun a => (ds a).map (D K))) (hl : ∀ a, (ds a).length ≤ sizeLine := by intro _; exact Nat.le_of_ble_eq_true rfl) : EM (tTup ta) σ G H w (fun a => D K (.tuple (ds a))) := fun G1 H1 g post Q hp q =>
  h G1 H1 g _ _ hp fun a vs G2 H2 g2 hp2 rs => by
    have hz : vs.length ≤ sizeLine := by have := rs.length; rw [List.length_map] at this; have := hl a; omega
    refine ⟨hz, fun p hp => ?_⟩
    have g3 : Gr [] G2 H2 (updG G2 p (isO (.tup vs))) (upd H2 p (.tup vs)) := Gr.make g2.fit hp
    exact q a _ _ _ (g2.trans g3) hp2 (.tup ⟨hz, updG_same⟩ ((ralls (ds := ds a) rs).mono g3.sub))
theorem em_lst {ta : TA} {ds : α → List PyData} (h : EMA ta σ G H w (fun a => (ds a).map (D K))) (hl : ∀ a, (ds a).length ≤ sizeLine := by intro _; exact Nat.le_of_ble_eq_true rfl) : EM (tLst ta) σ G H w (fun a => D K (.list (ds a))) := fun G1 H1 g post Q hp q =>
  h G1 H1 g _ _ hp fun a vs G2 H2 g2 hp2 rs => by
    have hz : vs.length ≤ sizeLine := by have := rs.length; rw [List.length_map] at this; have := hl a; omega
    refine ⟨hz, fun p hp => ?_⟩
    have g3 : Gr [] G2 H2 (updG G2 p (isO (.lst vs))) (upd H2 p (.lst vs)) := Gr.make g2.fit hp
    exact q a _ _ _ (g2.trans g3) hp2 (.lst ⟨hz, updG_same⟩ ((ralls (ds := ds a) rs).mono g3.sub))
theorem em_call {X : Type} {enc : X → List RP} {m : X → W α} {x : X} {E : XK} {tr : TA} (ha : EA tr σ G H (enc x)) : EM (tCall (spW enc m e) [] E tr) σ G H (m x) e := fun G1 H1 g post Q hp q =>
  ha G1 H1 g _ fun vs G2 H2 g2 rs => ⟨G2, x, post, g2.fit, by rw [List.append_nil]; exact rs, hp, fun v G3 H3 r g3 hr rv => q r v G3 H3 (g2.trans g3) hr rv⟩
theorem em_callE {X : Type} {enc : X → List RP} {m : X → W α} {wx : W X} {E : XK} {tr : TA} (ha : EMA tr σ G H wx enc) : EM (tCall (spW enc m e) [] E tr) σ G H (wbind wx m) e := fun G1 H1 g post Q hp q =>
  ha G1 H1 g _ _ hp fun x vs G2 H2 g2 hp2 rs => ⟨G2, x, post, g2.fit, by rw [List.append_nil]; exact rs, hp2, fun v G3 H3 r g3 hr rv => q r v G3 H3 (g2.trans g3) hr rv⟩
/-- a call of what changes nothing, its arguments not known ahead -/
theorem em_callF {X : Type} {enc : X → List RP} {m : X → Option α} {wx : W X} {E : XK} {tr : TA} (ha : EMA tr σ G H wx enc) : EM (tCall (spF enc m e) [] E tr) σ G H (wbind wx fun x => wopt (m x)) e := fun G1 H1 g post Q hp q =>
  ha G1 H1 g _ _ hp fun x vs G2 H2 g2 hp2 rs => let ⟨r, hm, hr⟩ := hp2; ⟨G2, x, r, g2.fit, by rw [List.append_nil]; exact rs, hm, fun v G3 H3 g3 rv => q r v G3 H3 (g2.trans g3) hr rv⟩
theorem EMN.em {ds : α → List PyData} (h : EMN K te σ G H w ds) : EM te σ G H w (fun a => D K (.list (ds a))) := fun G1 H1 g post Q hp q => h G1 H1 g _ _ hp fun a p vs G2 H2 g2 hp2 n hn hh hz hr =>
  q a (.ref p) (updG G2 p (isO (.lst vs))) H2 (g2.freeze hn n hh rfl) hp2 (.lst ⟨hz, updG_same⟩ (hr.mono (Sub.upd n)))
theorem em_callN {X : Type} {enc : X → List RP} {m : X → W (List β)} {en : β → PyData} {x : X} {E : XK} {tr : TA} (ha : EA tr σ G H (enc x)) : EMN K (tCall (spWL K enc m en) [] E tr) σ G H (m x) (fun ys => ys.map en) := fun G1 H1 g post Q hp q =>
  ha G1 H1 g _ fun vs G2 H2 g2 rs => ⟨G2, x, post, g2.fit, by rw [List.append_nil]; exact rs, hp, fun p us G3 H3 ds hpd g3 n hn hh hz hr => q ds p us G3 H3 (g2.trans g3) hpd n (g2.free g.fit hn) hh hz hr⟩
theorem em_callNE {X : Type} {enc : X → List RP} {m : X → W (List β)} {en : β → PyData} {wx : W X} {E : XK} {tr : TA} (ha : EMA tr σ G H wx enc) : EMN K (tCall (spWL K enc m en) [] E tr) σ G H (wbind wx m) (fun ys => ys.map en) := fun G1 H1 g post Q hp q =>
  ha G1 H1 g _ _ hp fun x vs G2 H2 g2 hp2 rs => ⟨G2, x, post, g2.fit, by rw [List.append_nil]; exact rs, hp2, fun p us G3 H3 ds hpd g3 n hn hh hz hr => q ds p us G3 H3 (g2.trans g3) hpd n (g2.free g.fit hn) hh hz hr⟩
theorem ema_bag {tr : TA} {er : β → List RP} (h : EV te σ G H R) (hr : EMA tr σ G H wb er) : EMA (tCons te tr) σ G H wb (fun x => R :: er x) := fun G1 H1 g post Q hp q =>
  h G1 H1 g _ fun v G2 H2 g2 r => hr G2 H2 (g.trans g2) _ _ hp fun b vs G3 H3 g3 hp3 rs => q b (v :: vs) G3 H3 (g2.trans g3) hp3 (.cons (R.mono g3.sub r) rs)
/-! statements -/
theorem st_setW {k0 : α → Prop} (s : SA mx G0 H0 Γ Os Ts σ G H) (h : EM te σ G H w e) (hm : w k0) (k : ∀ a σ' G1 H1, k0 a → SA mx G0 H0 (Γ.set i (some (e a))) Os Ts σ' G1 H1 → De.nx σ' H1) : tAsg te (gName i) De σ H :=
  h G H (Gr.refl s.fit) _ _ hm fun a v G2 H2 g hp r => k a _ G2 H2 hp ((s.step g).set i r)
theorem st_retW {k0 : α → Prop} (s : SA mx G0 H0 Γ Os Ts σ G H) (h : EM te σ G H w e) (hm : w k0) (k : ∀ a v G1 H1, k0 a → SA mx G0 H0 Γ Os Ts σ G1 H1 → (e a).r G1 v → De.rt v H1) : tRet te De σ H :=
  h G H (Gr.refl s.fit) _ _ hm fun a v G2 H2 g hp r => k a v G2 H2 hp (s.step g) r
theorem st_dropW {k0 : α → Prop} (s : SA mx G0 H0 Γ Os Ts σ G H) (h : EM te σ G H w e) (hm : w k0) (k : ∀ a G1 H1, k0 a → SA mx G0 H0 Γ Os Ts σ G1 H1 → De.nx σ H1) : tDrop te De σ H :=
  h G H (Gr.refl s.fit) _ _ hm fun a v G2 H2 g hp r => k a G2 H2 hp (s.step g)
theorem st_ifE {w : W Bool} {k0 : Bool → Prop} (s : SA mx G0 H0 Γ Os Ts σ G H) (h : EMT tt σ G H w) (hm : w k0) (k1 : k0 true → ∀ G1 H1, SA mx G0 H0 Γ Os Ts σ G1 H1 → t De σ H1) (k2 : k0 false → ∀ G1 H1, SA mx G0 H0 Γ Os Ts σ G1 H1 → u De σ H1) : tIfS tt t u De σ H :=
  h G H (Gr.refl s.fit) _ _ hm fun b G2 H2 g hp => by
    cases b with
    | true => show t De σ H2; exact k1 hp G2 H2 (s.step g)
    | false => show u De σ H2; exact k2 hp G2 H2 (s.step g)
theorem wif_t {b : Bool} {A B : Prop} (h : wif b A B) (hb : b = true) : A := h.1 hb
theorem wif_f {b : Bool} {A B : Prop} (h : wif b A B) (hb : b = false) : B := h.2 hb
theorem wopt_out {o : Option α} {k : α → Prop} (h : wopt o k) : ∃ a, o = some a ∧ k a := h
theorem st_ifWJ {S : Type} {F : (S → Prop) → Prop} {kj : S → Prop} (Γj : S → List (Option RP)) (Osj : S → List (Addr × OP)) (hm : wjoin F kj) (s : SA mx G0 H0 Γ Os Ts σ G H) (h : ET tt σ G H b)
    (k1 : F kj → b = true → ∀ G1 H1, SA mx G0 H0 Γ Os Ts σ G1 H1 → ∀ N : L2.St → Hp → Prop, (∀ x σ' G' H', kj x → SA mx G0 H0 (Γj x) (Osj x) Ts σ' G' H' → N σ' H') → t { De with nx := N } σ H1)
    (k2 : F kj → b = false → ∀ G1 H1, SA mx G0 H0 Γ Os Ts σ G1 H1 → ∀ N : L2.St → Hp → Prop, (∀ x σ' G' H', kj x → SA mx G0 H0 (Γj x) (Osj x) Ts σ' G' H' → N σ' H') → u { De with nx := N } σ H1)
    (rest : ∀ x σ' G' H', kj x → SA mx G0 H0 (Γj x) (Osj x) Ts σ' G' H' → De.nx σ' H') : tIfS tt t u De σ H :=
  h.go s.fit fun G2 H2 g => by
    cases b with
    | true => show t De σ H2; exact k1 hm rfl G2 H2 (s.step g) De.nx rest
    | false => show u De σ H2; exact k2 hm rfl G2 H2 (s.step g) De.nx rest
/-- what is said at a join goes through another joining -/
theorem st_ifEJ {w : W Bool} {k0 : Bool → Prop} {S : Type} {F : (S → Prop) → Prop} {kj : S → Prop} (Γj : S → List (Option RP)) (Osj : S → List (Addr × OP)) (hm' : wjoin F kj) (s : SA mx G0 H0 Γ Os Ts σ G H) (h : EMT tt σ G H w) (hF : F kj → w k0)
    (k1 : k0 true → ∀ G1 H1, SA mx G0 H0 Γ Os Ts σ G1 H1 → ∀ N : L2.St → Hp → Prop, (∀ x σ' G' H', kj x → SA mx G0 H0 (Γj x) (Osj x) Ts σ' G' H' → N σ' H') → t { De with nx := N } σ H1)
    (k2 : k0 false → ∀ G1 H1, SA mx G0 H0 Γ Os Ts σ G1 H1 → ∀ N : L2.St → Hp → Prop, (∀ x σ' G' H', kj x → SA mx G0 H0 (Γj x) (Osj x) Ts σ' G' H' → N σ' H') → u { De with nx := N } σ H1)
    (rest : ∀ x σ' G' H', kj x → SA mx G0 H0 (Γj x) (Osj x) Ts σ' G' H' → De.nx σ' H') : tIfS tt t u De σ H :=
  h G H (Gr.refl s.fit) _ _ (hF hm') fun b G2 H2 g hp => by
    cases b with
    | true => show t De σ H2; exact k1 hp G2 H2 (s.step g) De.nx rest
    | false => show u De σ H2; exact k2 hp G2 H2 (s.step g) De.nx rest
/-- x = a new list as w lets, owned -/
theorem st_ownW {ds : α → List PyData} {k0 : α → Prop} (s : SA mx G0 H0 Γ Os Ts σ G H) (h : EMN K te σ G H w ds) (hm : w k0) (k : ∀ a p σ' G1 H1, k0 a → p ∉ mx → SA mx G0 H0 (Γ.set i (some (isV (.ref p)))) ((p, Fz.ownL K (ds a)) :: Os) Ts σ' G1 H1 → De.nx σ' H1) (hmx : ∀ a ∈ mx, H a ≠ none := by intro a h; cases h) : tAsg te (gName i) De σ H :=
  h G H (Gr.refl s.fit) _ _ hm fun a p vs G2 H2 g hp2 n hn hp hz hr => by
    have s2 := s.step g
    have s3 : SA mx G0 H0 Γ ((p, Fz.ownL K (ds a)) :: Os) Ts σ G2 H2 := by
      refine ⟨s2.f0, s2.g, s2.env, fun q hq => ?_, List.nodup_cons.mpr ⟨fun z => ?_, s2.nd⟩, s2.tmp⟩
      · rcases List.mem_cons.mp hq with rfl | hq
        · exact ⟨n, ⟨_, hp, vs, rfl, hz, hr⟩, .inr (s.g.free s.f0 hn)⟩
        · exact s2.own q hq
      · obtain ⟨q, hq, e⟩ := List.mem_map.mp z
        obtain ⟨_, ⟨u, e2, _⟩, _⟩ := s.own q hq
        rw [e, hn] at e2; cases e2
    exact k a p _ G2 H2 hp2 (fun hm => hmx p hm hn) (s3.set (R := isV (.ref p)) i rfl)
/-- x.append(e), x owned -/
theorem st_appendW {dd : α → PyData} {ds : List PyData} {k0 : α → Prop} (s : SA mx G0 H0 Γ Os Ts σ G H) (i j : Nat) (h : EM te σ G H w (fun a => D K (dd a))) (hm : w k0) (hz : ∀ a, k0 a → ds.length < sizeLine) (k : ∀ a G1 H1, k0 a → SA mx G0 H0 Γ (Os.set j (p, Fz.ownL K (ds ++ [dd a]))) Ts σ G1 H1 → De.nx σ H1)
    (e1 : Γ[i]? = some (some (isV (.ref p))) := by rfl) (eo : Os[j]? = some (p, Fz.ownL K ds) := by rfl) : tDrop (tBM K "list" rAppend (tVar i) (tCons te tNil)) De σ H := by
  obtain ⟨w', hw, rw'⟩ := s.env.2 i _ e1
  have ew : w' = .ref p := rw'
  subst ew
  obtain ⟨n, ⟨u, hu, vs, eu, z, hr⟩, hf⟩ := s.at_ j eo
  subst eu
  refine ⟨_, hw, .inl ⟨rfl, _, SqL.of hu⟩, h G H (Gr.refl s.fit) _ _ hm fun a v G2 H2 g hp r => ?_⟩
  have s2 := s.step g
  obtain ⟨n2, ⟨u2, hu2, vs2, eu2, z2, hr2⟩, _⟩ := s2.at_ j eo
  subst eu2
  refine ⟨p, vs2, v, rfl, rfl, hu2, by rw [hr2.length]; exact hz a hp, k a G2 _ hp (s2.put (P' := Fz.ownL K (ds ++ [dd a])) j eo ⟨_, rfl, ?_, hr2.append (.cons r .nil)⟩)⟩
  rw [List.length_append, hr2.length]
  exact hz a hp
theorem st_appendWT {en : β → PyData} {xs : List β} {k1 : List β → Prop} (s : SA mx G0 H0 Γ Os Ts σ G H) (i j : Nat) (h : EM te σ G H wb (fun a => D K (en a))) (hm : wb fun a => wopt (Fm.app xs a) k1) (k : ∀ ys G1 H1, k1 ys → SA mx G0 H0 Γ (Os.set j (p, Fz.ownL K (ys.map en))) Ts σ G1 H1 → De.nx σ H1)
    (e1 : Γ[i]? = some (some (isV (.ref p))) := by rfl) (eo : Os[j]? = some (p, Fz.ownL K (xs.map en)) := by rfl) : tDrop (tBM K "list" rAppend (tVar i) (tCons te tNil)) De σ H := by
  refine st_appendW s i j h hm (fun a ⟨ys, hy, _⟩ => by rw [List.length_map]; exact (if_some hy).1) (fun a G1 H1 ⟨ys, hy, hk⟩ s1 => ?_) e1 eo
  obtain ⟨c, rfl⟩ := if_some hy
  exact k _ G1 H1 hk (s1.to rfl (by rw [List.map_append]; rfl))
end
end Fz
set_option Elab.async false
set_option linter.all false
set_option maxRecDepth 100000
set_option maxHeartbeats 2000000
/-! Fz: loops and comprehensions of what is not known ahead; the bag. -/
namespace Fz
open PySem PySem.Spec PyProof.Rows L2
section
variable {K : PySem.W.Frag} {mx : List Addr} {G0 G : GH} {H0 H : Hp} {Γ : List (Option RP)} {Os : List (Addr × OP)} {Ts : List (V × RP)} {σ : L2.St} {tl te : TE} {tt : TT} {De : Ends} {g : TG} {tb : TS} {E : XK}
variable {α β S : Type} {xs : List α} {s0 : S} {R : α → RP} {wi : TI}
theorem st_forW (Γs : S → List (Option RP)) (Oss : S → List (Addr × OP)) {f : S → α → (S → Prop) → (S → Prop) → Prop} {kk : S → Prop} (hm : wfor f s0 xs kk) (s : SA mx G0 H0 (Γs s0) (Oss s0) Ts σ G H) (h : ES wi σ G H R xs)
    (body : ∀ src sv x k v σ1 G1 H1, x ∈ xs → f sv x k kk → SA mx G0 H0 (Γs sv) (Oss sv) ((v, R x) :: src :: Ts) σ1 G1 H1 → ∀ N : L2.St → Hp → Prop,
      (∀ s' σ' G' H', k s' → SA mx G0 H0 (Γs s') (Oss s') (src :: Ts) σ' G' H' → N σ' H') → (∀ s' σ' G' H', kk s' → SA mx G0 H0 (Γs s') (Oss s') (src :: Ts) σ' G' H' → De.nx σ' H') → g v σ1 H1 (fun σ2 H2 => tb { De with nx := N, ct := N, bk := De.nx } σ2 H2))
    (done : ∀ s' σ' G' H', kk s' → SA mx G0 H0 (Γs s') (Oss s') Ts σ' G' H' → De.nx σ' H') : tFor wi g tb De σ H := by
  refine h G H (Gr.refl s.fit) _ fun J v0 R0 G2 H2 g2 r0 hs => ?_
  have s2 := (s.step g2).push r0
  refine ⟨fun i m σ' H' => m = xs.length - i ∧ i ≤ xs.length ∧ ∃ sv G', SA mx G0 H0 (Γs sv) (Oss sv) ((v0, R0) :: Ts) σ' G' H' ∧ wfor f sv (xs.drop i) kk,
    ⟨_, rfl, Nat.zero_le _, s0, G2, s2, hm⟩, ?_⟩
  rintro i m σ' H' ⟨rfl, hi, sv, G', s', hl'⟩
  by_cases hlt : i < xs.length
  · have ex : xs[i]? = some xs[i] := List.getElem?_eq_getElem hlt
    obtain ⟨hgo, hy⟩ := hs.turn G' H' i _ s'.fit s'.pop.2 ex
    rw [drop_at ex] at hl'
    refine .inr ⟨hgo, fun σ' H' => ∃ s'' G'', wfor f s'' (xs.drop (i + 1)) kk ∧ SA mx G0 H0 (Γs s'') (Oss s'') ((v0, R0) :: Ts) σ' G'' H', fun σ'' H'' ⟨s'', G'', ec, s3⟩ => ⟨_, by omega, rfl, by omega, s'', G'', s3, ec⟩, fun x H'' hyx => ?_⟩
    obtain ⟨G3, g3, r3⟩ := hy x H'' hyx
    exact body (v0, R0) sv _ _ x σ' G3 H'' (List.mem_of_getElem? ex) hl' ((s'.step g3).push r3) _ (fun s'' σ'' G'' H'' ec s3 => ⟨s'', G'', ec, s3⟩) (fun s'' σ'' G'' H'' ec s3 => done s'' σ'' G'' H'' ec s3.fleT)
  · have e0 : i = xs.length := by omega
    subst e0
    rw [List.drop_length] at hl'
    exact .inl ⟨hs.stop G' H' s'.fit s'.pop.2, done sv σ' G' H' hl' s'.fleT⟩
/-- a comprehension without tests, the element as w lets -/
theorem em_lc {vs : List Nat} {e' : β → PyData} (f : α → W β) (s : SA mx G0 H0 Γ Os Ts σ G H) (h : ESO wi σ G H R xs)
    (turn : ∀ src x, x ∈ xs → ∀ v σ1 G1 H1, SA mx G0 H0 (wipeG Γ vs) Os ((v, R x) :: src :: Ts) σ1 G1 H1 → ∀ Q : L2.St → Hp → Prop, (∀ σ2, wipe σ2 vs = wipe σ1 vs → EM te σ2 G1 H1 (f x) (fun y => D K (e' y)) → Q σ2 H1) → g v σ1 H1 Q) :
    EMN K (tLc wi g tYes te vs) σ G H (wcomp (fun x => wmap some (f x)) xs) (fun ys => ys.map e') := by
  intro G1 H1 g1 post Q hp q
  refine h G1 H1 g1 _ fun J G2 H2 g2 hs => ?_
  have s2 := ((s.step g1).step g2).push (v := V.non) (R := isV .non) rfl
  have hxs := hs.len
  refine fun D0 nD => ?_
  refine ⟨fun i m H' => m = xs.length - i ∧ i ≤ xs.length ∧ ∃ G' acc ws, Gr [] G2 H2 G' H' ∧ SA mx G0 H0 Γ Os ((V.non, isV .non) :: Ts) σ G' H' ∧ G' D0 = none ∧ H' D0 = some (.lst acc) ∧ DgAll K G' acc (ws.map e') ∧ wcomp (fun x => wmap some (f x)) (xs.drop i) (fun zs => post (ws ++ zs)) ∧ ws.length ≤ i,
    ⟨_, rfl, Nat.zero_le _, G2, [], [], (Gr.new g2.fit nD), s2.step (Gr.new g2.fit nD), g2.fit.none nD, upd_same, .nil, hp, Nat.le_refl _⟩, ?_⟩
  rintro i m H' ⟨rfl, hi, G', acc, ws, gg, s', nG, hD, hacc, hz, hwl⟩
  by_cases hlt : i < xs.length
  · have ex : xs[i]? = some xs[i] := List.getElem?_eq_getElem hlt
    obtain ⟨hgo, hy⟩ := hs.turn G' H' i _ gg ex
    rw [drop_at ex] at hz
    have hz : f xs[i] fun o => wcomp (fun x => wmap some (f x)) (xs.drop (i + 1)) fun ys => post (ws ++ (o :: ys)) := hz
    refine .inr ⟨hgo, fun H' => ∃ G' acc ws, Gr [] G2 H2 G' H' ∧ SA mx G0 H0 Γ Os ((V.non, isV .non) :: Ts) σ G' H' ∧ G' D0 = none ∧ H' D0 = some (.lst acc) ∧ DgAll K G' acc (ws.map e') ∧ wcomp (fun x => wmap some (f x)) (xs.drop (i + 1)) (fun zs => post (ws ++ zs)) ∧ ws.length ≤ i + 1, fun H'' ⟨G'', acc', ws', a1, a2, a3, a4, a5, a6, a7⟩ => ⟨_, by omega, rfl, by omega, G'', acc', ws', a1, a2, a3, a4, a5, a6, a7⟩, fun x H'' hyx => ?_⟩
    obtain ⟨Gy, gy, ry⟩ := hy x H'' hyx
    refine turn _ _ (List.mem_of_getElem? ex) x _ Gy _ (((s'.step gy).wipe vs).push ry) _ fun σ2 hw hv => ⟨by rw [hw, wipe_wipe fun _ h => h], ?_⟩
    refine hv Gy H'' (Gr.refl gy.fit) _ _ hz fun w z G4 H4 g40 hpw rz => ?_
    have g4 := gy.trans g40
    have hD4 := g4.at0 nG hD
    have nG4 := g4.un nG hD
    have hacc4 := hacc.mono g4.sub
    have hl4 := hacc4.length
    rw [List.length_map] at hl4
    refine ⟨acc, hD4, by omega, G4, acc ++ [z], ws ++ [w], ?_, ?_, nG4, upd_same, ?_, by rw [show (fun zs => post (ws ++ [w] ++ zs)) = fun ys => post (ws ++ (w :: ys)) from funext fun ys => by rw [List.append_assoc]; rfl]; exact hpw, by rw [List.length_append]; show ws.length + 1 ≤ _; omega⟩
    · exact Gr.putNew (gg.trans g4) nD nG4 hD4
    · refine SA.putNew (s'.step g4) ((s2.g).free s2.f0 nD) nG4 hD4 fun qq hqq z => ?_
      obtain ⟨_, ⟨u6, e6, _⟩, _⟩ := s2.own qq hqq
      rw [z, nD] at e6; cases e6
    · rw [List.map_append]
      exact hacc4.append (.cons rz .nil)
  · have e0 : i = xs.length := by omega
    subst e0
    rw [List.drop_length] at hz
    have hz : post (ws ++ []) := hz
    rw [List.append_nil] at hz
    have hl := hacc.length
    rw [List.length_map] at hl
    exact .inl ⟨hs.stop G' H' gg, q ws D0 acc G' H' (g2.trans gg) hz nG (g2.free g1.fit nD) hD (by omega) hacc⟩
/-- the entry of a def -/
theorem spW_go {X R : Type} {enc : X → List RP} {m : X → W R} {er : R → RP} {t : TS} {vs : List V} {Q : VK} {N : List Str} (h : spW enc m er vs H Q E) (k : ∀ G x post, m x post → SA [] G H ((enc x).map some ++ List.replicate (N.length - (enc x).length) none) [] [] (L2.start N vs) G H → (∀ r v G' H' Ts' σ' Γ' Os', post r → SA [] G H Γ' Os' Ts' σ' G' H' → (er r).r G' v → Q v H') → t De (L2.start N vs) H) : t De (L2.start N vs) H := by
  obtain ⟨G, x, post, f, rs, hm, q⟩ := h
  exact k G x post hm (SA.start f (env_start rs) (fun _ h => nomatch h) List.nodup_nil) fun r v G' H' _ _ _ _ hp s rv => q v G' H' r s.g hp rv
theorem spW_len {X R : Type} {enc : X → List RP} {m : X → W R} {er : R → RP} {vs : List V} {Q : VK} {k : Nat} (h : spW enc m er vs H Q E) (hk : ∀ x, (enc x).length = k := by intro _; rfl) : vs.length = k := by
  obtain ⟨G, x, post, f, rs, hm, q⟩ := h
  rw [rs.length, hk]
theorem spWL_go {X β : Type} {enc : X → List RP} {m : X → W (List β)} {e' : β → PyData} {t : TS} {vs : List V} {Q : VK} {N : List Str} (h : spWL K enc m e' vs H Q E) (k : ∀ G x post, m x post → SA [] G H ((enc x).map some ++ List.replicate (N.length - (enc x).length) none) [] [] (L2.start N vs) G H → (∀ ys p us G' H', post ys → Gr [] G H G' H' → G' p = none → H p = none → H' p = some (.lst us) → us.length ≤ sizeLine → DgAll K G' us (ys.map e') → Q (.ref p) H') → t De (L2.start N vs) H) : t De (L2.start N vs) H := by
  obtain ⟨G, x, post, f, rs, hm, q⟩ := h
  exact k G x post hm (SA.start f (env_start rs) (fun _ h => nomatch h) List.nodup_nil) fun ys p us G' H' hp => q p us G' H' ys hp
theorem spWL_len {X β : Type} {enc : X → List RP} {m : X → W (List β)} {e' : β → PyData} {vs : List V} {Q : VK} {k : Nat} (h : spWL K enc m e' vs H Q E) (hk : ∀ x, (enc x).length = k := by intro _; rfl) : vs.length = k := by
  obtain ⟨G, x, post, f, rs, hm, q⟩ := h
  rw [rs.length, hk]
/-- return x, x owned -/
theorem st_retO {p : Addr} {ds : List PyData} (s : SA [] G0 H0 Γ Os Ts σ G H) (i j : Nat) (k : ∀ us, Gr [] G0 H0 G H → G p = none → H0 p = none → H p = some (.lst us) → us.length ≤ sizeLine → DgAll K G us ds → De.rt (.ref p) H)
    (e : Γ[i]? = some (some (isV (.ref p))) := by rfl) (eo : Os[j]? = some (p, Fz.ownL K ds) := by rfl) : tRet (tVar i) De σ H := by
  obtain ⟨w, hw, rw'⟩ := s.env.2 i _ e
  have ew : w = .ref p := rw'
  subst ew
  obtain ⟨n, ⟨u, hu, vs, eu, z, hr⟩, hf⟩ := s.at_ j eo
  subst eu
  exact ⟨_, hw, k vs s.g n (hf.elim (fun h => nomatch h) id) hu z hr⟩
end
namespace Fm
def setI {α : Type} (xs : List α) (i : Int) (a : α) : Option (List α) := (ixN xs.length i).map fun j => xs.set j a
end Fm
/-- the ints in order -/
def sortI (ns : List Int) : List Int := ns.mergeSort fun a b => decide (a ≤ b)
theorem sortI_eq {ns ns' : List Int} (h : ns'.Perm ns) (hp : ns'.Pairwise (· ≤ ·)) : ns' = sortI ns := by
  refine List.Perm.eq_of_pairwise (le := fun a b => a ≤ b) (fun a b _ _ h1 h2 => Int.le_antisymm h1 h2) hp ?_ (h.trans (List.mergeSort_perm ns _).symm)
  have := List.pairwise_mergeSort (le := fun (a b : Int) => decide (a ≤ b)) (fun a b c h1 h2 => by simp only [decide_eq_true_eq] at *; omega) (fun a b => by simp only [Bool.or_eq_true, decide_eq_true_eq]; omega) ns
  exact this.imp fun {a b} h => of_decide_eq_true h
section
variable {K : PySem.W.Frag} {mx : List Addr} {G0 G : GH} {H0 H : Hp} {Γ : List (Option RP)} {Os : List (Addr × OP)} {Ts : List (V × RP)} {σ : L2.St} {tl te ti ta : TE} {tt : TT} {De : Ends} {g : TG} {tb : TS} {E : XK} {p : Addr}
variable {α β S : Type} {e : α → PyData} {xs ys : List α} {a : α} {x : Int}
/-- x[i] = e, x owned -/
theorem st_setI (s : SA mx G0 H0 Γ Os Ts σ G H) (i j : Nat) (h : EV te σ G H (D K (e a))) (hi : EV ti σ G H (D K (eI x))) (hm : Fm.setI xs x a = some ys) (k : ∀ G1 H1, SA mx G0 H0 Γ (Os.set j (p, Fz.ownL K (ys.map e))) Ts σ G1 H1 → De.nx σ H1)
    (e1 : Γ[i]? = some (some (isV (.ref p))) := by rfl) (eo : Os[j]? = some (p, Fz.ownL K (xs.map e)) := by rfl) : tAsg te (gSub (tVar i) ti rSetL) De σ H := by
  obtain ⟨w', hw, rw'⟩ := s.env.2 i _ e1
  have ew : w' = .ref p := rw'
  subst ew
  unfold Fm.setI at hm
  cases hx : ixN xs.length x with
  | none => rw [hx] at hm; cases hm
  | some n0 =>
    rw [hx] at hm
    cases hm
    refine h.go s.fit fun v G2 H2 g r => ⟨_, hw, ?_⟩
    have s2 := s.step g
    refine (hi.mono g).go g.fit fun u G3 H3 g3 ru => ?_
    have s3 := s2.step g3
    obtain ⟨n, ⟨o, ho, vs, eo', z, hr⟩, hf⟩ := s3.at_ j eo
    subst eo'
    have hl := hr.length
    rw [List.length_map] at hl
    refine ⟨p, vs, x, n0, rfl, Dg.int_inv ru, ho, by rw [hl]; exact hx, k G3 _ (s3.put (P' := Fz.ownL K ((xs.set n0 a).map e)) j eo ⟨_, rfl, by rw [List.length_set]; exact z, ?_⟩)⟩
    have hset : ∀ {vs : List V} {ds : List PyData} {v : V} {d : PyData} (n : Nat), DgAll K G3 vs ds → Dg K G3 v d → DgAll K G3 (vs.set n v) (ds.set n d) := by
      intro vs
      induction vs with
      | nil => intro ds v d n h _; cases h; exact .nil
      | cons w ws ih =>
        intro ds v d n h hd
        cases h with
        | cons h1 h2 =>
          cases n with
          | zero => exact .cons hd h2
          | succ n => exact .cons h1 (ih n h2 hd)
    rw [List.map_set]
    exact hset n0 hr ((D K (e a)).mono g3.sub r)
theorem ev_sortI {ns : List Int} (ha : EL K ta σ G H (ns.map eI)) : EV (tCB (rSortedI K) (tCons ta tNil)) σ G H (D K (eL eI (sortI ns))) := fun G1 H1 g Q q =>
  ha G1 H1 g _ fun u G2 H2 g2 ru => by
    obtain ⟨p, vs, rfl, hz, hq, hr⟩ := ru.at' g2.fit
    have ev := ints_of hr
    subst ev
    refine ⟨p, ns, rfl, SqL.of hq, fun ns' p' hp hs hn => ?_⟩
    rw [sortI_eq hp hs]
    have hl := (List.mergeSort_perm ns fun a b => decide (a ≤ b)).length_eq
    rw [List.length_map] at hz
    exact lst_new g2.fit hn (by rw [List.length_map]; unfold sortI; omega) of_ints fun v G4 H4 g4 r4 => q v G4 H4 (g2.trans g4) r4
/-- for i in range(what is not known ahead) -/
theorem st_forRW {w : W Int} {s0 : S} (Γs : S → List (Option RP)) (Oss : S → List (Addr × OP)) {f : S → Int → (S → Prop) → (S → Prop) → Prop} {kk : S → Prop} (hm : w fun n => wopt (Fm.range n) fun ns => wfor f s0 ns kk) (s : SA mx G0 H0 (Γs s0) (Oss s0) Ts σ G H) (h : EM tl σ G H w (fun n => D K (eI n)))
    (body : ∀ (xs : List Int) src sv x k v σ1 G1 H1, x ∈ xs → f sv x k kk → SA mx G0 H0 (Γs sv) (Oss sv) ((v, D K (eI x)) :: src :: Ts) σ1 G1 H1 → ∀ N : L2.St → Hp → Prop,
      (∀ s' σ' G' H', k s' → SA mx G0 H0 (Γs s') (Oss s') (src :: Ts) σ' G' H' → N σ' H') → (∀ s' σ' G' H', kk s' → SA mx G0 H0 (Γs s') (Oss s') (src :: Ts) σ' G' H' → De.nx σ' H') → g v σ1 H1 (fun σ2 H2 => tb { De with nx := N, ct := N, bk := De.nx } σ2 H2))
    (done : ∀ s' σ' G' H', kk s' → SA mx G0 H0 (Γs s') (Oss s') Ts σ' G' H' → De.nx σ' H') : tFor (iRng1 (tCons tl tNil)) g tb De σ H := by
  refine h G H (Gr.refl s.fit) _ _ hm fun n v G2 H2 g2 hp r => ?_
  obtain ⟨ns, hn, hp⟩ := hp
  have hh := st_forW (De := De) (g := g) (tb := tb) Γs Oss hp (s.step g2) (es_range (ev_c (R := D K (eI n)) r) hn) (body ns) done
  exact hh
end
/-! ### the bag -/
structure Bg where
  pos : Int
  cur : Int
  mix : Int
  cnt : Int
/-- what stays true of the bag -/
def BgOk (b : Bg) : Prop := 0 ≤ b.pos ∧ 0 ≤ b.cur ∧ 0 ≤ b.mix ∧ b.mix < 2147483647 ∧ 0 ≤ b.cnt
def bagφ (c : Addr) : HO → Prop := fun o => ∃ b : Bg, BgOk b ∧ o = .lst [.ref c, .int b.pos, .int b.cur, .int b.mix, .int b.cnt]
def isBag (K : PySem.W.Frag) : RP := ⟨fun G v => ∃ b c vs, v = .ref b ∧ G b = some (bagφ c) ∧ FzL K G c vs ∧ ∃ ns : List Int, vs = ns.map V.int ∧ ∀ n ∈ ns, 0 ≤ n, fun s ⟨b, c, vs, e, h, f, n⟩ => ⟨b, c, vs, e, s _ _ h, f.mono s, n⟩⟩
/-- a draw -/
def wdraw (many : Int) : W Int := fun p => (0 < many ∧ many < 1073741824) ∧ ∀ k, 0 ≤ k → k < many → p k
end Fz
set_option Elab.async false
set_option linter.all false
set_option maxRecDepth 100000
set_option maxHeartbeats 2000000
/-! Fz: the machine's rules with the tables' name said (within a comprehension the context is another). -/
namespace Fz
open PySem PySem.Spec PyProof.Rows L2
section
variable {X : Cx} {K : PySem.W.Frag} {e l o : Expr} {es : List Expr} {tl te to : TE} {t : TA} {tg : Expr} {pos tpos p apos : Pos}
theorem ix_tupK (h : X.K = K := by rfl) : IxR X (rIxT K) := by subst h; exact ix_tup
theorem ix_listK (h : X.K = K := by rfl) : IxR X (rIxL K) := by subst h; exact ix_list
theorem sl_listK (h : X.K = K := by rfl) : SlR X (rSlL K) := by subst h; exact sl_list
theorem op_catAK (h : X.K = K := by rfl) : OpR X (binaryOp .Add) (rCatA K) := by subst h; exact op_catA
theorem op_eqPK (hu : X.A.units + 64 < cLine) (h : X.K = K := by rfl) : OpR X (compareOp .Eq) (rEqP K) := by subst h; exact op_eqP hu
theorem op_nePK (hu : X.A.units + 64 < cLine) (h : X.K = K := by rfl) : OpR X (compareOp .NotEq) (rNeP K) := by subst h; exact op_neP hu
theorem op_inPK (hu : X.A.units + 64 < cLine) (h : X.K = K := by rfl) : OpR X (compareOp .In) (rInP K) := by subst h; exact op_inP hu
theorem op_niPK (hu : X.A.units + 64 < cLine) (h : X.K = K := by rfl) : OpR X (compareOp .NotIn) (rNiP K) := by subst h; exact op_niP hu
theorem call_len_seqK (h : X.K = K := by rfl) : CallR X (.builtin "len") (fun xs H Q => ∃ p ys, xs = [.ref p] ∧ (SqL K H p ys ∨ SqT K H p ys) ∧ Q (.int ys.length) H) := by subst h; exact call_len_seq
theorem call_list_ofK (h : X.K = K := by rfl) : CallR X (.type "list") (fun xs H Q => ∃ p ys, xs = [.ref p] ∧ (SqL K H p ys ∨ SqT K H p ys) ∧ ∀ l, H l = none → Q (.ref l) (upd H l (.lst ys))) := by subst h; exact call_list_of
theorem call_tuple_ofK (h : X.K = K := by rfl) : CallR X (.type "tuple") (fun xs H Q => ∃ p ys, xs = [.ref p] ∧ ((SqL K H p ys ∧ ∀ l, H l = none → Q (.ref l) (upd H l (.tup ys))) ∨ (SqT K H p ys ∧ Q (.ref p) H))) := by subst h; exact call_tuple_of
theorem cr_allK (hc : X.calm = true) (h : X.K = K := by rfl) : CallR X (.builtin "all") (rAll K) := by subst h; exact cr_all hc
theorem cr_anyK (hc : X.calm = true) (h : X.K = K := by rfl) : CallR X (.builtin "any") (rAny K) := by subst h; exact cr_any hc
theorem cr_sortedIK (h : X.K = K := by rfl) : CallR X (.builtin "sorted") (rSortedI K) := by subst h; exact cr_sortedI
theorem pi_listK (hl : PE X l tl) (h : X.K = K := by rfl) : PI X tg l (iList K tl) := by subst h; exact pi_list hl
theorem pi_tupK (hl : PE X l tl) (h : X.K = K := by rfl) : PI X tg l (iTup K tl) := by subst h; exact pi_tup hl
theorem pi_enumK {elts : List Expr} {kk : Nat} (hg : Gl X "enumerate") (hm : X.mg "enumerate" = none) (ha : PA X [e] t) (hs : starEach [e] X.env = [(false, eval e X.env)] := by rfl) (h : X.K = K := by rfl) : PI X (.Tuple elts kk tpos) (.Call (.Name "enumerate" p) [e] [] pos) (iEnum K t) := by subst h; exact pi_enum hg hm ha hs
theorem pg_tupK {es : List Expr} {k : Nat} {t : TGs} {n : Nat} (hc : X.calm = true) (hp : PGs X es t)
    (hn : (assignEach es X.env).length = n := by rfl) (hst : (assignEach es X.env).findIdx? (·.1) = none := by rfl) (h : X.K = K := by rfl) : PG X (.Tuple es k pos) (gTup K n t) := by subst h; exact pg_tup hc hp hn hst
theorem pe_joinK (ho : PE X o to) (he : PE X e te) (hs : starEach [e] X.env = [(false, eval e X.env)] := by rfl) (hbase : attributeBase o "join" X.env (eval o X.env) = eval o X.env := by rfl) (hline : (apos.endLine == pos.line) = true := by rfl) (h : X.K = K := by rfl) :
    PE X (.Call (.Attribute o "join" apos) [e] [] pos) (tM1 (fun x xs H Q => ∃ a p, ∃ ys : List Str, x = .str a ∧ xs = [.ref p] ∧ (SqL K H p (ys.map V.str) ∨ SqT K H p (ys.map V.str)) ∧
      (ys.map (·.length)).sum + ys.length * a.length ≤ 16777216 ∧ Q (.str (Txt.join a ys)) H) to te) := by subst h; exact pe_join ho he hs hbase hline
end
end Fz
set_option Elab.async false
set_option linter.all false
set_option maxRecDepth 100000
set_option maxHeartbeats 2000000
/-! Fz: the bag of draws, held for one def. -/
namespace Fz
open PySem PySem.Spec PyProof.Rows L2
section
variable {K : PySem.W.Frag} {mx : List Addr} {G0 G G1 : GH} {H0 H H1 : Hp} {Γ : List (Option RP)} {Os : List (Addr × OP)} {Ts : List (V × RP)} {σ : L2.St} {te : TE} {De : Ends} {p b : Addr} {B B' : Bag} {n : Int} {φ : HO → Prop} {o : HO}
def Bag.at (B : Bag) : Nat → Int
  | 1 => B.pos
  | 2 => B.cur
  | 3 => B.mix
  | _ => B.cnt
def Bag.put (B : Bag) (k : Nat) (n : Int) : Bag := match k with
  | 1 => { B with pos := n }
  | 2 => { B with cur := n }
  | 3 => { B with mix := n }
  | _ => { B with cnt := n }
theorem SA.bagAt (s : SA mx G0 H0 Γ Os Ts σ G H) (i j : Nat) (e : Γ[i]? = some (some (isV (.ref p))) := by rfl) (eo : Os[j]? = some (p, ownBag K B) := by rfl) : σ[i]? = some (some (.ref p)) ∧ Dg K G B.cv (eL eI B.cells) ∧ ∀ G1 H1, Gr [] G H G1 H1 → H1 p = some (.lst [B.cv, .int B.pos, .int B.cur, .int B.mix, .int B.cnt]) := by
  obtain ⟨w, hw, rw'⟩ := s.env.2 i _ e
  have ew : w = .ref p := rw'
  subst ew
  obtain ⟨n, ⟨u, hu, eu, hc⟩, _⟩ := s.at_ j eo
  subst eu
  exact ⟨hw, hc, fun G1 H1 g => g.at0 n hu⟩
theorem SA.bagI (s : SA mx G0 H0 Γ Os Ts σ G H) (i j k : Nat) (hk : k = 1 ∨ k = 2 ∨ k = 3 ∨ k = 4 := by decide) (e : Γ[i]? = some (some (isV (.ref p))) := by rfl) (eo : Os[j]? = some (p, ownBag K B) := by rfl) : EV (tOp (rIxL K) (tVar i) (tC (.int k))) σ G H (D K (eI (B.at k))) := by
  obtain ⟨hw, hc, hh⟩ := s.bagAt i j e eo
  refine fun G1 H1 g Q q => ⟨_, hw, ⟨p, _, _, _, rfl, rfl, SqL.of (hh G1 H1 g), ?_, q (.int (B.at k)) G1 H1 (Gr.refl g.fit) (.int _)⟩⟩
  rcases hk with rfl | rfl | rfl | rfl <;> rfl
theorem SA.bag0 (s : SA mx G0 H0 Γ Os Ts σ G H) (i j : Nat) (e : Γ[i]? = some (some (isV (.ref p))) := by rfl) (eo : Os[j]? = some (p, ownBag K B) := by rfl) : EV (tOp (rIxL K) (tVar i) (tC (.int 0))) σ G H (D K (eL eI B.cells)) := by
  obtain ⟨hw, hc, hh⟩ := s.bagAt i j e eo
  exact fun G1 H1 g Q q => ⟨_, hw, ⟨p, _, _, B.cv, rfl, rfl, SqL.of (hh G1 H1 g), rfl, q B.cv G1 H1 (Gr.refl g.fit) (Dg.mono g.sub hc)⟩⟩
theorem st_bagset (s : SA mx G0 H0 Γ Os Ts σ G H) (i j k : Nat) (h : EV te σ G H (D K (eI n))) (kk : ∀ G1 H1, SA mx G0 H0 Γ (Os.set j (p, ownBag K (B.put k n))) Ts σ G1 H1 → De.nx σ H1) (hk : k = 1 ∨ k = 2 ∨ k = 3 ∨ k = 4 := by decide)
    (e : Γ[i]? = some (some (isV (.ref p))) := by rfl) (eo : Os[j]? = some (p, ownBag K B) := by rfl) : tAsg te (gSub (tVar i) (tC (.int k)) rSetL) De σ H := by
  obtain ⟨hw, hc, hh⟩ := s.bagAt i j e eo
  refine h.go s.fit fun v G2 H2 g r => ⟨_, hw, ?_⟩
  refine ⟨p, _, k, k, rfl, rfl, hh G2 H2 g, ?_, kk G2 _ ((s.step g).put (P' := ownBag K (B.put k n)) j eo ⟨?_, ?_⟩)⟩
  · rcases hk with rfl | rfl | rfl | rfl <;> rfl
  · have ev2 := Dg.int_inv r
    subst ev2
    rcases hk with rfl | rfl | rfl | rfl <;> rfl
  · have ec : (B.put k n).cells = B.cells := by rcases hk with rfl | rfl | rfl | rfl <;> rfl
    have ev : (B.put k n).cv = B.cv := by rcases hk with rfl | rfl | rfl | rfl <;> rfl
    rw [ec, ev]
    exact Dg.mono g.sub hc
/-- a thing that is known by what stays true of it is held for a while -/
def less (G : GH) (b : Addr) : GH := fun a => if a = b then none else G a
theorem less_same : less G b b = none := by unfold less; rw [if_pos rfl]
theorem less_ne {a : Addr} (h : a ≠ b) : less G b a = G a := by unfold less; rw [if_neg h]
theorem Fit.less (f : Fit G H) : Fit (less G b) H := fun a φ h => by
  by_cases e : a = b
  · subst e; rw [less_same] at h; cases h
  · rw [less_ne e] at h; exact f a φ h
theorem Gr.back (hG : G b = some φ) (g : Gr [b] (less G b) H G1 H1) {o0 : HO} (h0 : H b = some o0) (ho : H1 b = some o) (hp : φ o) (nt0 : NT o0 := by intro _ h; cases h) (nt1 : NT o := by intro _ h; cases h) : Gr [] G H (updG G1 b φ) H1 := by
  obtain ⟨n1, _, _⟩ := g.own b o0 less_same h0 nt0
  refine ⟨fun a ψ h => ?_, g.fit.freeze n1 ho hp (fun xs e => absurd e (nt1 xs)), fun a u n h nt => ?_, g.tup⟩
  · by_cases e : a = b
    · subst e; rw [hG] at h; cases h; exact updG_same
    · rw [updG_ne e]; exact g.sub a ψ (by rw [less_ne e]; exact h)
  · have e : a ≠ b := fun z => by rw [z, hG] at n; cases n
    obtain ⟨m1, e1, k1⟩ := g.own a u (by rw [less_ne e]; exact n) h nt
    exact ⟨by rw [updG_ne e]; exact m1, e1, fun _ => k1 (by simpa using e)⟩
/-- from the exact walk of the bag to the walk that lets every number -/
theorem bag_open {v : V} (f : Fit G H) (h : (isBag K).r G v) : ∃ b c ns bg, v = .ref b ∧ G b = some (bagφ c) ∧ BgOk bg ∧ (∀ n ∈ ns, 0 ≤ n) ∧ Fit (less G b) H ∧ less G b b = none ∧ (∃ o, H b = some o ∧ (ownBag K ⟨.ref c, ns, bg.pos, bg.cur, bg.mix, bg.cnt⟩).r (less G b) o) ∧ H b = some (.lst [.ref c, .int bg.pos, .int bg.cur, .int bg.mix, .int bg.cnt]) ∧ FzL K G c (ns.map V.int) := by
  obtain ⟨b, c, vs, rfl, hb, hc, ns, rfl, hn⟩ := h
  obtain ⟨o, ho, ⟨bg, hok, rfl⟩, _⟩ := f b _ hb
  have hcb : c ≠ b := fun z => by
    have h1 := hc.at' f
    rw [z, ho] at h1
    cases ns with
    | nil => cases h1
    | cons n ns => cases h1
  refine ⟨b, c, ns, bg, rfl, hb, hok, hn, f.less, less_same, ⟨_, ho, rfl, .lst ⟨hc.1, ?_⟩ of_ints⟩, ho, hc⟩
  rw [less_ne hcb]
  exact hc.2
end
end Fz
set_option Elab.async false
set_option linter.all false
set_option maxRecDepth 100000
set_option maxHeartbeats 2000000
namespace Fz
open PySem PySem.Spec PyProof.Rows L2
def wpop {α : Type} (o : Option (α × List α)) (k : α → List α → Prop) : Prop := ∃ a us, o = some (a, us) ∧ k a us
theorem map_er {α β : Type} (f : α → β) : ∀ (l : List α) (k : Nat), (l.eraseIdx k).map f = (l.map f).eraseIdx k
  | [], k => rfl
  | a :: l, 0 => rfl
  | a :: l, k + 1 => congrArg (f a :: ·) (map_er f l k)
section
variable {K : PySem.W.Frag} {mx : List Addr} {G0 G G1 : GH} {H0 H H1 : Hp} {Γ : List (Option RP)} {Os : List (Addr × OP)} {Ts : List (V × RP)} {σ : L2.St} {te : TE} {De : Ends} {p q : Addr} {α : Type} {e : α → PyData} {xs ys : List α} {w : W Int}
/-- x.append(y.pop(e)), both owned -/
theorem st_appPop {kk : List α → List α → Prop} (s : SA mx G0 H0 Γ Os Ts σ G H) (i1 j1 i2 j2 : Nat) (h : EM te σ G H w (fun n => D K (eI n))) (hm : w fun n => wpop (Fm.popAt ys n) fun a us => wopt (Fm.app xs a) fun zs => kk zs us)
    (k : ∀ zs us G1 H1, kk zs us → SA mx G0 H0 Γ ((Os.set j2 (q, Fz.ownL K (us.map e))).set j1 (p, Fz.ownL K (zs.map e))) Ts σ G1 H1 → De.nx σ H1)
    (e1 : Γ[i1]? = some (some (isV (.ref p))) := by rfl) (o1 : Os[j1]? = some (p, Fz.ownL K (xs.map e)) := by rfl)
    (e2 : Γ[i2]? = some (some (isV (.ref q))) := by rfl) (o2 : Os[j2]? = some (q, Fz.ownL K (ys.map e)) := by rfl) (hj : j1 ≠ j2 := by decide) : tDrop (tBM K "list" rAppend (tVar i1) (tCons (tBM K "list" rPopAt (tVar i2) (tCons te tNil)) tNil)) De σ H := by
  obtain ⟨w1, hw1, rw1⟩ := s.env.2 i1 _ e1
  have ew : w1 = .ref p := rw1
  subst ew
  obtain ⟨w2, hw2, rw2⟩ := s.env.2 i2 _ e2
  have ew : w2 = .ref q := rw2
  subst ew
  obtain ⟨n1, ⟨u1, hu1, vs1, eu1, z1, hr1⟩, hf1⟩ := s.at_ j1 o1
  subst eu1
  obtain ⟨n2, ⟨u2, hu2, vs2, eu2, z2, hr2⟩, hf2⟩ := s.at_ j2 o2
  subst eu2
  have hpq : p ≠ q := fun z => by
    have a1 : (Os.map (·.1))[j1]? = some p := by rw [List.getElem?_map, o1]; rfl
    have a2 : (Os.map (·.1))[j2]? = some p := by rw [List.getElem?_map, o2, z]; rfl
    exact hj (nd_ix s.nd a1 a2)
  refine ⟨_, hw1, .inl ⟨rfl, _, SqL.of hu1⟩, ?_⟩
  refine ⟨_, hw2, .inl ⟨rfl, _, SqL.of hu2⟩, h G H (Gr.refl s.fit) _ _ hm fun n v G2 H2 g hp r => ?_⟩
  obtain ⟨y, us, hpop, zs, happ, hkk⟩ := hp
  have s2 := s.step g
  obtain ⟨m2, ⟨v2, hv2, ws2, ev2, y2, hs2⟩, _⟩ := s2.at_ j2 o2
  subst ev2
  have ev := Dg.int_inv r
  subst ev
  unfold Fm.popAt at hpop
  split at hpop
  · rename_i hrange
    split at hpop
    · rename_i k0 hk0
      cases hy : ys[k0]? with
      | none => rw [hy] at hpop; cases hpop
      | some y0 =>
        rw [hy] at hpop
        cases hpop
        obtain ⟨vy, hvy, rvy⟩ := hs2.get (i := k0) (d := e y) (by rw [List.getElem?_map, hy]; rfl)
        have hl := hs2.length
        rw [List.length_map] at hl
        refine ⟨q, ws2, n, k0, vy, rfl, rfl, hv2, hrange.1, hrange.2, by rw [hl]; exact hk0, hvy, ?_⟩
        have s3 := s2.put (P' := Fz.ownL K ((ys.eraseIdx k0).map e)) (o := .lst (ws2.eraseIdx k0)) j2 o2 ⟨_, rfl, Nat.le_trans (List.length_eraseIdx_le _ _) y2, by rw [map_er]; exact hs2.erase k0⟩
        have o1' : (Os.set j2 (q, Fz.ownL K ((ys.eraseIdx k0).map e)))[j1]? = some (p, Fz.ownL K (xs.map e)) := by rw [List.getElem?_set_ne (Ne.symm hj)]; exact o1
        obtain ⟨m1, ⟨v1, hv1, ws1, ev1, y1, hs1⟩, _⟩ := s3.at_ j1 o1'
        subst ev1
        obtain ⟨c, rfl⟩ := if_some happ
        have hl1 := hs1.length
        rw [List.length_map] at hl1
        refine ⟨p, ws1, vy, rfl, rfl, hv1, by omega, k _ _ G2 _ hkk (s3.put (P' := Fz.ownL K ((xs ++ [y]).map e)) j1 o1' ⟨_, rfl, by rw [List.length_append]; show ws1.length + 1 ≤ _; omega, by rw [List.map_append]; exact hs1.append (.cons rvy .nil)⟩)⟩
    · cases hpop
  · cases hpop
end
end Fz
set_option Elab.async false
set_option linter.all false
set_option maxRecDepth 100000
set_option maxHeartbeats 4000000
/-! Machine rules that the layer lacks: a dict comprehension whose keys are tuples (HandS.DictComp turned to keys that are tuples). -/
namespace Fz
open PySem PySem.Spec PyProof.Rows L2
theorem d_dictSetT {X : Cx} {pins : List (Addr × Obj)} {σ : L2.St} {H : Hp} {s : Shared} {E : Value → Shared → Prop} {D b : Addr} {kvs : List (List Key × V)} {k : List Key} {v : V} {u r : Value} {Q : Unit → Shared → Prop} (hu : X.A.units + 1 < cLine) (I : Inv X pins σ H s) (hD : H D = some (.dT kvs)) (hz : kvs.length < sizeLine)
    (ry : RelV (.ref b) u) (eb : H b = some (.tup (k.map kV))) (rv : RelV v r) (h : ∀ s', Inv X pins σ (upd H D (.dT (putK kvs k v))) s' → Q () s') : wpAny (model X.prog X.w) X.A (dictSet D u r) Q E s := by
  cases (show u = Value.ref b from ry)
  obtain ⟨z, hd, xs, rel, dd⟩ := dt_of I.hok hD
  have hzv : xs.length ≤ sizeLine := by rw [← Paired.length rel]; exact z
  have hl : (putK kvs k v).length ≤ sizeLine := by have := length_putK kvs k v; omega
  refine wpAny_dictSet_heap (hsz := hzv) (show X.A.units < cLine from Nat.lt_of_le_of_lt (Nat.le_succ _) hu) (key_of I.hok eb) dd fun h' dd' hs => h _ ?_
  obtain ⟨q, es, ep, hq, h2, h3, h4, _, h5⟩ := dd'
  refine d_write I (by rw [hD]; exact True.intro) hs ⟨q, hq⟩ ⟨hl, hd, _, (rel.put k eb rv).keeps fun c ys ec => ?_, q, es, ep, hq, h2, h3, h4, h5⟩
  rw [upd_ne (ne_of ec hD (fun z => nomatch z))]
  exact ec
section
variable {X : Cx}
/-- {k: v for target in iter if ..}, keys tuples of ints and texts: D the new dict -/
def tDcT (wi : TI) (g : TG) (tt : TT) (tk tv : TE) (vs : List Nat) : TE := fun σ H Q => wi σ H fun J H1 => ∀ D, H1 D = none → ∃ W : Nat → Nat → Hp → Prop, (∃ m, W 0 m (upd H1 D (.dT []))) ∧ ∀ i m H, W i m H →
  (J.stop i H ∧ Q (.ref D) H) ∨ (J.go i H ∧ ∃ Nx : Hp → Prop, (∀ H', Nx H' → ∃ m', m' < m ∧ W (i + 1) m' H') ∧ ∀ x H', J.yld i H x H' → g x (wipe σ vs) H' fun σ2 H2 => wipe σ2 vs = wipe σ vs ∧ tt σ2 H2 fun b H3 =>
    if b = true then tk σ2 H3 fun y H4 => tv σ2 H4 fun z H5 => ∃ kvs k kb, y = .ref kb ∧ H5 kb = some (.tup (k.map kV)) ∧ H5 D = some (.dT kvs) ∧ kvs.length < sizeLine ∧ Nx (upd H5 D (.dT (putK kvs k z))) else Nx H3)
theorem dcT_core {pins : List (Addr × Obj)} {s : Shared} {σ : L2.St} {H : Hp} {Q : VK} {kx vx tg iter : Expr} {ifs : List Expr} {scope : Scope} {own : List (Str × Nat)} {pos pos' : Pos} {wi : TI} {g : TG} {tt : TT} {tk tv : TE} {use : Option (Value → Sem Unit)} {Qf : Value → Shared → Prop}
    (hu : X.A.units + 1 < cLine) (hc : X.calm = true) (hN : X.N.Nodup) (I : Inv X pins σ H s) (hi : PI X tg iter wi) (ok : BlkOk X.N X.env.scope scope own)
    (hg : ∀ (s : Shared) (H : Hp) (C : Addr) (cl : List (Str × Addr)) (fp : List Addr), PG (X.blk s H scope (compEnvC scope cl C X.env) fp) tg g) (ht : ∀ (s : Shared) (H : Hp) (C : Addr) (cl : List (Str × Addr)) (fp : List Addr), PTs (X.blk s H scope (compEnvC scope cl C X.env) fp) ifs tt)
    (hk : ∀ (s : Shared) (H : Hp) (C : Addr) (cl : List (Str × Addr)) (fp : List Addr), PE (X.blk s H scope (compEnvC scope cl C X.env) fp) kx tk)
    (he : ∀ (s : Shared) (H : Hp) (C : Addr) (cl : List (Str × Addr)) (fp : List Addr), PE (X.blk s H scope (compEnvC scope cl C X.env) fp) vx tv) (hs : ∀ x, foldedSetIterable iter X.env x = pure x)
    (h : tDcT wi g tt tk tv (own.map (·.2)) σ H Q)
    (hRR : ∀ D C s' m H', Inv X pins σ H' s' → Q (.ref D) H' → s'.heap.Ns C m → FpOk X pins H' C → compPost (model X.prog X.w) X.A X.xe use Qf (.ref D) C (.ok .next) s') :
    wpAny (model X.prog X.w) X.A (comprehension (.DictComp kx vx [⟨tg, iter, ifs, 0⟩] scope pos) scope X.env pos' newDict false (eval iter X.env) use) Qf X.xe s := by
  have hfree : ∀ y ∈ scope.names, y.2 = .free → ∃ c, X.env.cells.lookup y.1 = some c := fun y hy e => by
    rcases ok.free y hy e with k | k
    · exact I.ok.has _ (.inl k)
    · exact I.ok.has _ (.inr k)
  refine wpAny_comprehension_free (use := use) rfl hs (closure_ok hfree) ok.kind (fun y hy e => by rw [ok.uniq y hy, e])
    (thn (hi.run pins s σ H _ I h) fun xv s1 hx => thn hx fun itv s2 h2 => ?_)
  obtain ⟨it, fp, tn, J, H2, e, I2, T, st2, f2, q⟩ := h2
  subst e
  refine wpAny_newObj_type (newEnv_comp ?_)
  generalize hD : s2.heap.objs.size = D
  have hDn : H2 D = none := I2.hok.fresh (Nat.le_of_eq hD)
  obtain ⟨W, ⟨m0, w0⟩, turn⟩ := q D hDn
  -- the new list
  generalize hs3 : ({ s2 with heap := s2.heap.push { cls := .type "dict", data := .dict #[] } } : Shared) = s3
  have I3 : Inv X pins σ (upd H2 D (.dT [])) s3 := by
    rw [← hs3]
    refine I2.laid (t' := s2.toks) (fun b o e => Heap.get?_push_of_some _ e) (Nat.le_of_eq hD) ?_
    rw [← hD]
    exact dt_empty s2.heap I2.big
  have h3 : s3.heap = s2.heap.push { cls := .type "dict", data := .dict #[] } := by rw [← hs3]
  have sz : ∀ b ∈ fp, b < s2.heap.objs.size := fun b hb => by
    obtain ⟨o, e, _⟩ := T.obj _ _ st2 b hb
    exact Heap.lt_size e
  have f3 : ∀ b ∈ fp, FpOk X pins (upd H2 D (.dT [])) b ∧ b < s3.heap.objs.size := fun b hb => by
    have hlt := sz b hb
    refine ⟨⟨?_, (f2 b hb).2⟩, by rw [h3, Heap.size_push]; exact Nat.lt_succ_of_lt hlt⟩
    rw [upd_ne (by rw [← hD]; exact Nat.ne_of_lt hlt)]
    exact (f2 b hb).1
  have st3 : tn 0 s3.heap := T.keep _ _ _ st2 fun b _ o e => by rw [h3]; exact Heap.get?_push_of_some _ e
  have I4 := block_start I3 ok hN f3
  have pg := hg s3 (upd H2 D (.dT [])) s3.heap.objs.size (cellsFrom (s3.heap.objs.size + 1) scope.names (cloFrom X.env.cells scope.names [])) fp
  have pt := ht s3 (upd H2 D (.dT [])) s3.heap.objs.size (cellsFrom (s3.heap.objs.size + 1) scope.names (cloFrom X.env.cells scope.names [])) fp
  have pk := hk s3 (upd H2 D (.dT [])) s3.heap.objs.size (cellsFrom (s3.heap.objs.size + 1) scope.names (cloFrom X.env.cells scope.names [])) fp
  have pe := he s3 (upd H2 D (.dT [])) s3.heap.objs.size (cellsFrom (s3.heap.objs.size + 1) scope.names (cloFrom X.env.cells scope.names [])) fp
  show codeAny _ _ (.compStart (.DictComp kx vx [⟨tg, iter, ifs, 0⟩] scope pos) 0 (.ref it) (.ref D) (compEnvC scope (cellsFrom (s3.heap.objs.size + 1) scope.names (cloFrom X.env.cells scope.names [])) s3.heap.objs.size X.env)) (compPost (model X.prog X.w) X.A X.xe use Qf (.ref D) s3.heap.objs.size) { s3 with heap := pushCells (s3.heap.push { cls := .type "dict", data := .dict #[] }) scope.names }
  have nfp : ∀ b ∈ fp, (upd H2 D (.dT [])) b = none := fun b hb => (f3 b hb).1.1
  generalize hce : compEnvC scope (cellsFrom (s3.heap.objs.size + 1) scope.names (cloFrom X.env.cells scope.names [])) s3.heap.objs.size X.env = ce at I4 pg pt pk pe ⊢
  have cL : ce.locals = s3.heap.objs.size := by subst hce; rfl
  generalize hH3 : upd H2 D (.dT []) = H3 at I3 I4 pg pt pk pe w0 nfp f3
  generalize hs4 : ({ s3 with heap := pushCells (s3.heap.push { cls := .type "dict", data := .dict #[] }) scope.names } : Shared) = s4 at I4 ⊢
  have st4 : tn 0 s4.heap := T.keep _ _ _ st3 fun b _ o e => by rw [← hs4]; exact pushCells_keeps _ _ _ _ (Heap.get?_push_of_some _ e)
  have stat : ∀ {σ' : L2.St} {H' : Hp} {s' : Shared}, Inv (X.blk s3 H3 scope ce fp) [] σ' H' s' → (∀ b ∈ fp, H' b = none) → ∀ b ∈ fp, FpOk (X.blk s3 H3 scope ce fp) [] H' b := fun {σ' H' s'} I' hn b hb =>
    ⟨hn b hb, (I'.ok.exf b hb).1, I'.ok.exfs b hb, .inl hb, fun x c e => (I'.ok.exf b hb).2 x c e, fun p hp => absurd (show p ∈ ([] : List (Addr × Obj)) ++ [] from hp) (by simp)⟩
  have loop : codeAny (model X.prog X.w) X.A (.compLoop (.DictComp kx vx [⟨tg, iter, ifs, 0⟩] scope pos) 0 (.ref it) (.ref D) ce) (compPost (model X.prog X.w) X.A X.xe use Qf (.ref D) s3.heap.objs.size) s4 := by
    refine compLoop_anyD (fun n s' => ∃ i H', Inv (X.blk s3 H3 scope ce fp) [] (wipe σ (own.map (·.2))) H' s' ∧ tn i s'.heap ∧ (∀ b ∈ fp, H' b = none) ∧ W i n H') ?_ m0 ⟨0, H3, I4, st4, nfp, w0⟩
    rintro n s5 ⟨i, H5, I5, st5, n5, w5⟩
    rcases turn i n H5 w5 with ⟨stop, qq⟩ | ⟨go, Nx, hNx, step⟩
    · have td := T.done (X.blk s3 H3 scope ce fp) rfl rfl rfl hc i [] s5 _ H5 (fun _ _ => False) I5 (stat I5 n5) st5 stop
      refine thnF td fun r s6 ⟨hr, I6⟩ => ?_
      subst hr
      -- back in the def's context
      have I7 : Inv X pins σ H5 s6 := I3.call' (ch := fp) I6.os I6.base I6.hok I6.bare fun b hb => ⟨(f3 b hb).1.2.2.2.1, (f3 b hb).1.2.1, (f3 b hb).1.2.2.2.2.1, (f3 b hb).1.2.2.2.2.2⟩
      have nC : H5 s3.heap.objs.size = none := by
        have z : H5 ce.locals = none := I6.free
        rw [cL] at z
        exact z
      obtain ⟨m, hn, _⟩ := I6.loc
      have hn : s6.heap.Ns ce.locals m := hn
      rw [cL] at hn
      exact hRR D s3.heap.objs.size s6 m H5 I7 qq hn (I3.fpOk (Nat.le_refl _) nC)
    · have ti := T.item (X.blk s3 H3 scope ce fp) rfl rfl rfl hc i [] s5 _ H5 (fun _ _ => False) I5 (stat I5 n5) st5 go
      refine thnF ti fun r s6 ⟨u, hr, h6⟩ => ?_
      subst hr
      refine thnF h6 fun _ s7 ⟨x, H7, I7, r7, y7, st7, n7⟩ => ?_
      have I7' := I7.pinned (stat I7 n7) (T.obj _ _ st7)
      refine thnF (pg.run _ s7 _ H7 x u _ I7' r7 (step x H7 y7)) fun _ s8 ⟨σ8, H8, I8, hw8, q8⟩ => ?_
      refine thnF (pt.run _ s8 σ8 H8 _ I8 q8) fun b s9 ⟨H9, I9, q9⟩ => ?_
      -- the turn's end
      have fin : ∀ {s' : Shared} {H' : Hp}, Inv (X.blk s3 H3 scope ce fp) ([] ++ pinsAt fp s7.heap) σ8 H' s' → Nx H' → ∃ m, m < n ∧ ∃ i H', Inv (X.blk s3 H3 scope ce fp) [] (wipe σ (own.map (·.2))) H' s' ∧ tn i s'.heap ∧ (∀ b ∈ fp, H' b = none) ∧ W i m H' := fun {s' H'} I' nx => by
        obtain ⟨m', hm, w'⟩ := hNx H' nx
        have pin' : ∀ b ∈ fp, ∀ o, s7.heap.get? b = some o → s'.heap.get? b = some o ∧ H' b = none := fun b hb o e =>
          let z := I'.pin (b, o) (List.mem_append_right _ (List.mem_append_right _ (mem_pinsAt hb e)))
          ⟨z.1, z.2.1⟩
        have hl : (wipe σ (own.map (·.2))).length = σ8.length := by rw [← hw8, wipe_length]
        refine ⟨m', hm, i + 1, H', (I'.unpinned (pins := [])).weak hl (fun j v e => ?_), T.keep _ _ _ st7 fun b hb o e => (pin' b hb o e).1, fun b hb => ?_, w'⟩
        · rw [← hw8] at e
          exact (wipe_some e).1
        · obtain ⟨o, e, _⟩ := T.obj _ _ st7 b hb
          exact (pin' b hb o e).2
      cases b with
      | false =>
        simp only [Bool.false_eq_true, if_false] at q9 ⊢
        exact fin I9 q9
      | true =>
        simp only [if_true] at q9 ⊢
        refine thnF (pk.run _ s9 σ8 H9 _ I9 q9) fun z s10 ⟨yk, H10, I10, r10, q10⟩ => ?_
        refine thnF (pe.run _ s10 σ8 H10 _ I10 q10) fun z2 s11 ⟨yv, H11, I11, r11, kvs, k, kb, ek, hkb, hD11, hz11, nx⟩ => ?_
        subst ek
        exact d_dictSetT (X := X.blk s3 H3 scope ce fp) hu I11 hD11 hz11 r10 hkb r11 fun s12 I12 => fin I12 nx
  exact codeAny_compStart_dict loop (T.self X.A 0 _ _ _ st4 loop)
/-- as a value -/
theorem pe_dcT {kx vx tg iter : Expr} {ifs : List Expr} {scope : Scope} {own : List (Str × Nat)} {pos : Pos} {wi : TI} {g : TG} {tt : TT} {tk tv : TE} (hu : X.A.units + 1 < cLine) (hc : X.calm = true) (hN : X.N.Nodup) (hi : PI X tg iter wi) (ok : BlkOk X.N X.env.scope scope own)
    (hg : ∀ (s : Shared) (H : Hp) (C : Addr) (cl : List (Str × Addr)) (fp : List Addr), PG (X.blk s H scope (compEnvC scope cl C X.env) fp) tg g) (ht : ∀ (s : Shared) (H : Hp) (C : Addr) (cl : List (Str × Addr)) (fp : List Addr), PTs (X.blk s H scope (compEnvC scope cl C X.env) fp) ifs tt)
    (hk : ∀ (s : Shared) (H : Hp) (C : Addr) (cl : List (Str × Addr)) (fp : List Addr), PE (X.blk s H scope (compEnvC scope cl C X.env) fp) kx tk)
    (he : ∀ (s : Shared) (H : Hp) (C : Addr) (cl : List (Str × Addr)) (fp : List Addr), PE (X.blk s H scope (compEnvC scope cl C X.env) fp) vx tv) (hs : ∀ x, foldedSetIterable iter X.env x = pure x := by intro _; rfl) :
    PE X (.DictComp kx vx [⟨tg, iter, ifs, 0⟩] scope pos) (tDcT wi g tt tk tv (own.map (·.2))) := by
  refine ⟨fun pins s σ H Q I h => ?_⟩
  rw [arm_eval_DictComp]
  refine dcT_core hu hc hN I hi ok hg ht hk he hs h fun D C s' m H' I' q hn f => ⟨m, hn, fun h'' sb => ?_⟩
  obtain ⟨f0, f1, f2, f3, f4, f5⟩ := f
  exact ⟨.ref D, H', I'.turned (t' := s'.toks) (fun b o hb e => (sb.2 b hb).trans e) f0 f1 f3 f4 f5, rfl, q⟩
end
end Fz
set_option Elab.async false
set_option linter.all false
set_option maxRecDepth 100000
set_option maxHeartbeats 4000000
/-! Machine rules that the layer lacks: sorted(d), d a dict whose keys are tuples of ints. -/
namespace Fz
open PySem PySem.Spec PyProof.Rows L2
open PySem.W (KdlSrc kdl_extend)
section
variable {prog : Program} {w : World} {A : Around} {E : Value → Shared → Prop} {s : Shared} {T : String} {r d : Addr} {n : Nat} {P : Nat → Value → Prop} {OK : Heap → Prop}
theorem collectK {R : List Value → Shared → Prop} (K : KdlSrc prog w T r d n P OK) (hh : A.handled = none) (hok : OK s.heap) (hn : n ≤ sizeLine)
    (h : ∀ (h' : Heap) (tk : Nat) (vs : List Value), (∀ b o, s.heap.get? b = some o → h'.get? b = some o) → s.heap.objs.size < h'.objs.size → vs.length = n → (∀ i v, vs[i]? = some v → P i v) → R vs { s with heap := h', toks := tk }) :
    wpAny (model prog w) A (collect (.ref r)) R E s := by
  obtain ⟨hr, hd⟩ := K.there _ hok
  unfold collect
  refine wpAny_bind (wpAny_runValue (codeAny_builtin F.entry_proto_collect ?_))
  rw [Around.under_plainId F.plain_proto_collect _]
  show wpAny _ A.in1 (newList [] >>= fun l => again (.builtin "list.__iadd__" ⟨[l, .ref r], []⟩)) _ _ s
  refine wpAny_bind (wpAny_newObj_type ?_)
  refine wpAny_pure ⟨plainId_quiet F.plain_list_iadd _, codeAny_builtin F.entry_list_iadd ?_⟩
  rw [Around.under_plainId F.plain_list_iadd _]
  have hS₁ : (s.heap.push { cls := .type "list", data := .seq ([] : List Value).toArray }).get? s.heap.objs.size = some { cls := .type "list", data := .seq #[] } := Heap.get?_push_size _ rfl
  show wpAny _ A.in1 (Builtin.List.listExtendWith (.ref s.heap.objs.size) (.ref r) (.ref s.heap.objs.size)) _ _ _
  have key := kdl_extend (A := A) (s := { s with heap := s.heap.push { cls := .type "list", data := .seq ([] : List Value).toArray } })
    (R := fun (q : Result) (s' : Shared) => ∃ (h' : Heap) (tk : Nat) (acc' : Array Value) (c' : Nat), q = .ok (.ret (.ref s.heap.objs.size)) ∧ s' = { s with heap := h', toks := tk } ∧
      (∀ b o, s.heap.get? b = some o → h'.get? b = some o) ∧ h'.get? s.heap.objs.size = some { cls := .type "list", dict := none, data := .seq acc' c', slots := #[] } ∧ ItemsOf P acc' n)
    K hh (K.keep _ _ hok fun b _ o e => Heap.get?_push_of_some _ e) s.heap.objs.size (Nat.ne_of_gt hr) (Nat.ne_of_gt hd) (.ref s.heap.objs.size) 0 hS₁
    (fun h' tk acc' c' hk hS' hacc => ⟨h', tk, acc', c', rfl, rfl, fun b o e => hk b o (Nat.ne_of_lt (Heap.lt_size e)) (Heap.get?_push_of_some _ e), hS', hacc⟩) hn
  refine wpAny_mono key (fun fin s' x => ?_) fun e s' x => ?_
  · have go : ∀ (f : Flow) (s' : Shared), (∃ (h' : Heap) (tk : Nat) (acc' : Array Value) (c' : Nat), (Except.ok f : Result) = .ok (.ret (.ref s.heap.objs.size)) ∧ s' = { s with heap := h', toks := tk } ∧
      (∀ b o, s.heap.get? b = some o → h'.get? b = some o) ∧ h'.get? s.heap.objs.size = some { cls := .type "list", dict := none, data := .seq acc' c', slots := #[] } ∧ ItemsOf P acc' n) → True := fun _ _ _ => trivial
    cases fin with
    | done f =>
      obtain ⟨h', tk, acc', c', e, rfl, hk, hS', hacc⟩ := x
      cases e
      show wpAny _ A (load s.heap.objs.size >>= _) _ _ _
      refine wpAny_bind (wpAny_load hS' ?_)
      refine wpAny_pure ?_
      exact h h' tk acc'.toList hk (Heap.lt_size hS') (by rw [Array.length_toList]; exact hacc.1) fun i v e => hacc.2 i v (by rw [← Array.getElem?_toList]; exact e)
    | again c₁ =>
      refine ⟨x.1, codeAny_mono x.2 fun q s₂ y => ?_⟩
      obtain ⟨h', tk, acc', c', rfl, rfl, hk, hS', hacc⟩ := y
      show wpAny _ A (load s.heap.objs.size >>= _) _ _ _
      refine wpAny_bind (wpAny_load hS' ?_)
      refine wpAny_pure ?_
      exact h h' tk acc'.toList hk (Heap.lt_size hS') (by rw [Array.length_toList]; exact hacc.1) fun i v e => hacc.2 i v (by rw [← Array.getElem?_toList]; exact e)
  · obtain ⟨_, _, _, _, e', _⟩ := x
    cases e'
end
/-- sorted(d): d's keys tuples of d ints in [0, B), fewer than 64 -/
def rSortedD : List V → Hp → VK → Prop := fun vs H Q => ∃ (a : Addr) (kvs : List (List Int × V)) (d : Nat) (B : Int), vs = [.ref a] ∧ Rd H a (.dT (kvs.map fun kv => (kv.1.map Sum.inl, kv.2))) ∧ kvs.length < 64 ∧ 1 ≤ d ∧ (∀ kv ∈ kvs, kv.1.length = d ∧ TS.Bd B kv.1) ∧
  ∀ (ks : List (List Int × Addr)) (p : Addr), (ks.map (·.1)).Perm (kvs.map (·.1)) → ks.Pairwise (fun q r => TS.code B q.1 ≤ TS.code B r.1) → (∀ q ∈ ks, H q.2 = some (.tup (q.1.map V.int))) → H p = none → Q (.ref p) (upd H p (.lst (ks.map fun q => V.ref q.2)))
theorem kV_map (k : List Int) : (k.map (Sum.inl : Int → Key)).map kV = k.map V.int := by rw [List.map_map]; rfl
theorem vals_refs : ∀ (ks : List (List Int × Addr)), Vals (ks.map fun q => V.ref q.2) (ks.map fun q => Value.ref q.2)
  | [] => .nil
  | p :: ks => .cons rfl (vals_refs ks)
section
variable {X : Cx}
theorem cr_sortedD (hc : X.calm = true) : CallR X (.builtin "sorted") rSortedD := by
  intro pins s σ H vs us Q I r h
  obtain ⟨a, kvs, d, B, rfl, ha, h64, hd1, hB, q⟩ := h
  rw [Vals.ref1 r]
  obtain ⟨z, hd, xs, rel, o, es, ep, ho, hx, hdat, hes, his, hn⟩ := dt_rd I.hok ha
  have hh : X.A.handled = none := I.ok.hd hc
  have l1 : kvs.length = xs.length := by have := Paired.length rel; rw [List.length_map] at this; exact this
  have l2 : es.size = xs.length := size_of_entries hes
  -- the key at each place
  have keyAt : ∀ (i : Nat) (hi : i < es.size), ∃ kv b, kvs[i]? = some kv ∧ es[i].key = .ref b ∧ H b = some (.tup (kv.1.map V.int)) := by
    intro i hi
    have e1 := entry_at hes i
    rw [Array.getElem?_eq_getElem hi] at e1
    cases hxj : xs[i]? with
    | none => rw [hxj] at e1; cases e1
    | some x =>
      rw [hxj] at e1
      have e2 : es[i] = entryOfKey (tupleKind (mixKind X.prog X.w)) x := Option.some.inj e1
      obtain ⟨y, hy, f1, f2, f3⟩ := L2.DX.pget rel hxj
      rw [List.getElem?_map] at hy
      cases hk : kvs[i]? with
      | none => rw [hk] at hy; cases hy
      | some kv =>
        rw [hk] at hy
        cases hy
        exact ⟨kv, x.2.1, rfl, by rw [e2]; rfl, by rw [← kV_map]; exact f2⟩
  refine Calls.call_function_entry kind_sorted plain_sorted entry_sorted (args_sorted1 _) ?_
  unfold Builtin.«sorted»
  refine wpAny_bind (m := checkCount "sorted" 1 1 _) (wpAny_pure ?_)
  refine wpAny_bind (collectK (A := X.A.in1) (KdlSrc.rawDict (es := es) (ep := ep) hd) hh ⟨o, ho, hx, hdat⟩ (by rw [sizeLine_eq]; omega) fun h' tk vs hk hlt hl hP => ?_)
  -- the keys as they stand
  obtain ⟨L, hL, hLk, hLH⟩ : ∃ L : List (List Int × Addr), vs = L.map (fun q => Value.ref q.2) ∧ L.map (·.1) = kvs.map (·.1) ∧ ∀ q ∈ L, H q.2 = some (.tup (q.1.map V.int)) := by
    have key : ∀ (m : Nat) (us : List Value) (ws : List (List Int × V)), us.length = m → ws.length = m → (∀ (i : Nat) (v : Value) (kv : List Int × V), us[i]? = some v → ws[i]? = some kv → ∃ b, v = .ref b ∧ H b = some (.tup (kv.1.map V.int))) →
        ∃ L : List (List Int × Addr), us = L.map (fun q => Value.ref q.2) ∧ L.map (·.1) = ws.map (·.1) ∧ ∀ q ∈ L, H q.2 = some (.tup (q.1.map V.int)) := by
      intro m
      induction m with
      | zero => intro us ws hu hw _; exact ⟨[], by rw [List.eq_nil_of_length_eq_zero hu]; rfl, by rw [List.eq_nil_of_length_eq_zero hw]; rfl, fun _ h => nomatch h⟩
      | succ m ih =>
        intro us ws hu hw hall
        cases us with
        | nil => simp at hu
        | cons u us =>
          cases ws with
          | nil => simp at hw
          | cons kv ws =>
            obtain ⟨b, rfl, hb⟩ := hall 0 u kv rfl rfl
            obtain ⟨L, e1, e2, e3⟩ := ih us ws (by simpa using hu) (by simpa using hw) fun i v kv' h1 h2 => hall (i + 1) v kv' (by simpa using h1) (by simpa using h2)
            refine ⟨(kv.1, b) :: L, by rw [List.map_cons, ← e1], by rw [List.map_cons, List.map_cons, e2], fun q hq => ?_⟩
            rcases List.mem_cons.mp hq with rfl | hq
            · exact hb
            · exact e3 q hq
    refine key es.size vs kvs hl (by omega) fun i v kv hv hkv => ?_
    obtain ⟨hi, ev⟩ := hP i v hv
    obtain ⟨kv', b, e1, e2, e3⟩ := keyAt i hi
    rw [hkv] at e1
    cases e1
    exact ⟨b, ev.trans e2, e3⟩
  have hvl : vs.length < 64 := by rw [hl, l2, ← l1]; exact h64
  refine wpAny_bind (wpAny_newList ?_ (by rw [sizeLine_eq]; omega))
  have hoL : (h'.push (seqObj "list" vs.toArray 0)).get? h'.objs.size = some (seqObj "list" vs.toArray 0) := Heap.get?_push_size _ rfl
  have kb : ∀ b o, s.heap.get? b = some o → (h'.push (seqObj "list" vs.toArray 0)).get? b = some o := fun b o e => Heap.get?_push_of_some _ (hk b o e)
  have tkey : ∀ q ∈ L, TS.TupInts (h'.push (seqObj "list" vs.toArray 0)) (.ref q.2) q.1 := fun q hq => by
    obtain ⟨_, its, rv, ot, hot, hct, nt, hdt⟩ := (show ObjOk X.prog X.w H s.heap q.2 (.tup (q.1.map V.int)) from I.hok q.2 _ (hLH q hq))
    exact ⟨q.2, its.toArray, rfl, ⟨ot, kb _ _ hot, hct, nt, hdt⟩, by simpa using rv.ints⟩
  have x : TS.TupsOk (h'.push (seqObj "list" vs.toArray 0)) d B vs := fun v hv => by
    rw [hL] at hv
    obtain ⟨q, hq, rfl⟩ := List.mem_map.mp hv
    have hqk : q.1 ∈ kvs.map (·.1) := by rw [← hLk]; exact List.mem_map_of_mem hq
    obtain ⟨kv, hkv, e⟩ := List.mem_map.mp hqk
    exact ⟨q.1, tkey q hq, by rw [← e]; exact (hB kv hkv).1, by rw [← e]; exact (hB kv hkv).2⟩
  refine wpAny_bind (wpAny_holding (TS.call_sort_tups (s := { s with heap := h'.push (seqObj "list" vs.toArray 0), toks := tk }) hoL hvl hd1 x fun out a1 a2 => ?_))
  obtain ⟨c, hcc⟩ := sortedHeap_at (vs := vs) (out := out) hoL
  -- the sorted ones
  have ord : ∀ us : List Value, (∀ v ∈ us, ∃ q ∈ L, v = Value.ref q.2) → ∃ L1 : List (List Int × Addr), us = L1.map (fun q => Value.ref q.2) ∧ ∀ q ∈ L1, q ∈ L := by
    intro us
    induction us with
    | nil => intro _; exact ⟨[], rfl, fun q hq => nomatch hq⟩
    | cons v us ih =>
      intro hv
      obtain ⟨q, hq, e⟩ := hv v List.mem_cons_self
      obtain ⟨L1, e1, hs⟩ := ih fun u hu => hv u (List.mem_cons_of_mem _ hu)
      refine ⟨q :: L1, by rw [List.map_cons, e, e1], fun r hr => ?_⟩
      rcases List.mem_cons.mp hr with z | z
      · rw [z]; exact hq
      · exact hs r z
  obtain ⟨L', e', hs'⟩ := ord out.toList fun v hv => by
    rw [hL] at a1
    obtain ⟨q, hq, e⟩ := List.mem_map.mp (a1.mem_iff.mp hv)
    exact ⟨q, hq, e.symm⟩
  -- an address has one key
  have keyOf : ∀ q ∈ L, ∀ r ∈ L, q.2 = r.2 → q.1 = r.1 := fun q hq r hr e => by
    have h1 := hLH q hq
    have h2 := hLH r hr
    rw [e, h2] at h1
    have h3 : r.1.map V.int = q.1.map V.int := by injection (Option.some.inj h1)
    have inj : ∀ l m : List Int, l.map V.int = m.map V.int → l = m := by
      intro l
      induction l with
      | nil => intro m h; cases m with | nil => rfl | cons b m => simp at h
      | cons a l ih => intro m h; cases m with | nil => simp at h | cons b m => simp only [List.map_cons, List.cons.injEq] at h; rw [ih m h.2]; have := h.1; injection this with this; rw [this]
    exact (inj _ _ h3).symm
  have pL : (L'.map (·.1)).Perm (kvs.map (·.1)) := by
    rw [← hLk]
    have pv : (L'.map fun q => Value.ref q.2).Perm (L.map fun q => Value.ref q.2) := by rw [← e', ← hL]; exact a1
    -- read the keys off the addresses
    let rd : Value → List Int := fun v => TS.intsOf (h'.push (seqObj "list" vs.toArray 0)) v
    have p2 := pv.map rd
    rw [List.map_map, List.map_map] at p2
    have f1 : L'.map (rd ∘ fun q => Value.ref q.2) = L'.map (·.1) := List.map_congr_left fun q hq => (tkey q (hs' q hq)).ints
    have f2 : L.map (rd ∘ fun q => Value.ref q.2) = L.map (·.1) := List.map_congr_left fun q hq => (tkey q hq).ints
    rw [f1, f2] at p2
    exact p2
  have pw : L'.Pairwise (fun q r => TS.code B q.1 ≤ TS.code B r.1) := by
    rw [e'] at a2
    refine List.Pairwise.imp_of_mem (fun {q r} hq hr hle => ?_) (List.pairwise_map.mp a2)
    have f1 : TS.intsOf (h'.push (seqObj "list" vs.toArray 0)) (.ref q.2) = q.1 := (tkey q (hs' q hq)).ints
    have f2 : TS.intsOf (h'.push (seqObj "list" vs.toArray 0)) (.ref r.2) = r.1 := (tkey r (hs' r hr)).ints
    rw [← f1, ← f2]
    exact hle
  have hp : s.heap.objs.size ≤ h'.objs.size := Nat.le_of_lt hlt
  have hnone : H h'.objs.size = none := I.hok.fresh hp
  have hkeep : ∀ b u, s.heap.get? b = some u → (sortedHeap (h'.push (seqObj "list" vs.toArray 0)) h'.objs.size vs out).get? b = some u := fun b u e => by
    have q := hk b u e
    have hlt := Heap.lt_size q
    rw [sortedHeap_old (Nat.ne_of_lt hlt) (by rw [size_push']; exact Nat.lt_succ_of_lt hlt)]
    exact Heap.get?_push_of_some _ q
  have hlen : (L'.map fun q => V.ref q.2).length ≤ sizeLine := by
    have := pL.length_eq
    rw [List.length_map, List.length_map] at this
    rw [List.length_map, sizeLine_eq]; omega
  have hv : Vals (L'.map fun q => V.ref q.2) out.toList := by rw [e']; exact vals_refs L'
  have J : Inv X pins σ (upd H h'.objs.size (.lst (L'.map fun q => V.ref q.2))) { s with heap := sortedHeap (h'.push (seqObj "list" vs.toArray 0)) h'.objs.size vs out, toks := tk } :=
    I.call (g' := s.gens) (d' := s.drawn) (ch := []) (Un.laid hkeep hp hnone) (I.hok.laid hkeep hp ⟨hlen, out.toList, c, hv, hcc⟩) I.bare (fun _ z => nomatch z)
  exact wpAny_pure ⟨_, rfl, .ref h'.objs.size, _, J, rfl, q L' _ pL pw (fun q hq => hLH q (hs' q hq)) hnone⟩
end
end Fz
set_option Elab.async false
set_option linter.all false
set_option maxRecDepth 100000
set_option maxHeartbeats 4000000
/-! Machine rules that the layer lacks: tuple(d), d a dict whose keys are ints and texts; enumerate(t), t a tuple. -/
namespace Fz
open PySem PySem.Spec PyProof.Rows L2
open PySem.W (KdlSrc kdl_extend)
open Sem (wp)
open AutoSeq1 (wpAny_loadPart')
section
variable {prog : Program} {w : World} {A : Around} {E : Value → Shared → Prop} {s : Shared} {T : String} {r d : Addr} {n : Nat} {P : Nat → Value → Prop} {OK : Heap → Prop}
theorem code_tuple_new_kdl {Q₁ : Value → Shared → Prop} (K : KdlSrc prog w "dict" r d n P OK) (hh : A.handled = none) (hok : OK s.heap) (hn : n ≤ sizeLine)
    (h : ∀ (h' : Heap) (tk : Nat) (vs : List Value), (∀ b o, s.heap.get? b = some o → h'.get? b = some o) → vs.length = n → (∀ i v, vs[i]? = some v → P i v) → Q₁ (.ref h'.objs.size) { s with heap := h'.push { cls := .type "tuple", data := .seq vs.toArray }, toks := tk }) :
    codeAny (model prog w) A (.call (.builtin "tuple.__new__") ⟨[.type "tuple", .ref r], []⟩) (wants Q₁ E) s := by
  refine codeAny_of_tree ?_
  show wpAny _ A.in1 (do checkBuiltinCall "tuple.__new__" ⟨[.type "tuple", .ref r], []⟩; again (.builtin "tuple.__new__" ⟨[.type "tuple", .ref r], []⟩)) _ _ s
  refine wpAny_bind (wpAny_of_eq (F.newCall_tuple_1 _) (wpAny_pure ⟨plainId_quiet F.plain_tuple_new _, codeAny_builtin F.entry_tuple_new ?_⟩))
  rw [Around.under_plainId F.plain_tuple_new _]
  have hsub := sub_tuple_self
  have hinit := init_tuple_lookup
  have hmh := madeHere_tuple
  have hTI := K.type s hok
  have hh1 : A.in1.handled = none := hh
  have hTn := K.notTuple
  wp_walk using wpAny_typeOf hTI, collectK K hh1 hok hn
  intro h' tk vs hk hlt hl hP
  show wpAny _ _ (Builtin.Tuple.tupleExact vs.toArray >>= fun v => ret v) _ _ _
  unfold Builtin.Tuple.tupleExact
  refine wpAny_bind (wpAny_newObj_type ?_ (by show vs.toArray.size ≤ sizeLine; simp only [List.size_toArray]; omega))
  refine wpAny_pure ?_
  exact h h' tk vs hk hl hP
theorem call_tuple_kdl {Q : Value → Shared → Prop} (K : KdlSrc prog w "dict" r d n P OK) (hh : A.handled = none) (hok : OK s.heap) (hn : n ≤ sizeLine)
    (hQ : ∀ (h' : Heap) (tk : Nat) (vs : List Value), (∀ b o, s.heap.get? b = some o → h'.get? b = some o) → vs.length = n → (∀ i v, vs[i]? = some v → P i v) → Q (.ref h'.objs.size) { s with heap := h'.push { cls := .type "tuple", data := .seq vs.toArray }, toks := tk }) :
    wpAny (model prog w) A (call (.type "tuple") [.ref r]) Q E s := by
  refine callType_codes (Q₁ := fun obj s₁ => s₁.TypeIs obj "tuple" ∧ Q obj s₁) F.called_tuple (F.typeCall_tuple_1 _) F.entry_object_init
    (code_tuple_new_kdl K hh hok hn fun h' tk vs hk hl hP => ⟨⟨_, Heap.get?_push_size _ rfl, rfl⟩, hQ h' tk vs hk hl hP⟩) fun obj s₁ h₁ => ?_
  exact ⟨h₁.1, F.args_object_init_2 obj _, object_init_meets F.called_tuple.init.lookup F.called_tuple.made (by decide) prog w A.in1 _ s₁ ⟨h₁.1, rfl, h₁.2⟩⟩
end
section
variable {X : Cx}
/-- tuple(d): its keys -/
def rTupleD : List V → Hp → VK → Prop := fun xs H Q => ∃ (a : Addr) (kvs : List (Key × V)), xs = [.ref a] ∧ Rd H a (.dK kvs) ∧ ∀ p, H p = none → Q (.ref p) (upd H p (.tup (kvs.map fun kv => kV kv.1)))
theorem call_tupleD (hcalm : X.calm = true) : CallR X (.type "tuple") rTupleD := by
  intro pins s σ H xs us Q I r q
  obtain ⟨a, kvs, ex, hd, q⟩ := q
  subst ex
  obtain ⟨u, eu, rx⟩ := vals1 r
  subst eu
  cases rx
  obtain ⟨z, lo, vs, rel, dd⟩ := dk_rd I.hok hd
  obtain ⟨ep, hat⟩ := dd.dictAt
  have ek : (kvs.map fun kv => kV kv.1) = vs.map fun p => kV p.1 := by
    have e := congrArg (List.map kV) rel.keys
    rw [List.map_map, List.map_map] at e
    exact e
  refine call_tuple_kdl (PySem.W.kdl_dict (knd := mixKind X.prog X.w) (kvs := vs) (ep := ep) lo) (I.ok.hd hcalm) hat (by rw [← rel.length]; exact z) fun h' tk ws hk hl hP => ?_
  have hv : Vals (vs.map fun p => kV p.1) ws := keys_at hl fun j v e => hP j v e
  have I1 : Inv X pins σ H { s with heap := h', toks := tk } := I.kept (t' := tk) hk
  have I2 : Inv X pins σ (upd H h'.objs.size (.tup (kvs.map fun kv => kV kv.1))) { s with heap := h'.push { cls := .type "tuple", data := .seq ws.toArray }, toks := tk } :=
    I1.laid (t' := tk) (fun b o e => Heap.get?_push_of_some _ e) (Nat.le_refl _) (show ObjOk X.prog X.w _ _ _ (.tup _) from ⟨by rw [List.length_map]; exact z, ws, by rw [ek]; exact hv, IsTup.new _ _⟩)
  exact ⟨.ref h'.objs.size, _, I2, rfl, q _ (I1.hok.fresh (Nat.le_refl _))⟩
end
end Fz
set_option Elab.async false
set_option linter.all false
set_option maxRecDepth 100000
set_option maxHeartbeats 4000000
/-! Machine rules that the layer lacks: enumerate(t), t a tuple (the library's rows on enumerate of a list, turned to tuples). -/
namespace Fz
open PySem
open Sem (wp)
open AutoSeq1 (wpAny_loadPart')
theorem tupIter_at {h h' : Heap} {a t : Addr} {i : Nat} (x : h.IsTupleIter a t i) (k : ∀ o, h.get? a = some o → h'.get? a = some o) : h'.IsTupleIter a t i := let ⟨o, ho, r⟩ := x; ⟨o, k o ho, r⟩
theorem meets_enumerate_newT (l : Addr) (items : Array Value) (n : Nat) (dct : Option Addr) (sl : Array (Option Value)) :
    Meets (Builtin.«enumerate.__new__» ⟨[.type "enumerate", .ref l], []⟩) (fun _ R s => s.heap.get? l = some { cls := .type "tuple", dict := dct, data := .seq items n, slots := sl } ∧
      R (.ok (.ret (.ref (s.heap.push { cls := .type "tuple_iterator", data := .fields #[.ref l, .int 0 0] }).objs.size)))
        { s with heap := (s.heap.push { cls := .type "tuple_iterator", data := .fields #[.ref l, .int 0 0] }).push { cls := .type "enumerate", data := .fields #[.none, .bool false, .ref s.heap.objs.size, rawInt 0, .none, .none] } }) :=
  .of_wp fun prog w A R s h => by
    obtain ⟨hp, g, d, tk, os⟩ := s; obtain ⟨hl, h⟩ := h
    have hsub := sub_enumerate
    have hL : Heap.IsTuple (Shared.heap ⟨hp, g, d, tk, os⟩) l items := ⟨_, hl, rfl, n, rfl⟩
    wp_walk using wpAny_loadPart' hl
    refine wpAny_stack_any fun st => wpAny_pure ?_
    split
    · rename_i c _ _ _ _ _
      cases (c == Value.type "enumerate")
      · wp_walk using wpAny_loadPart' hl, wpAny_pyIter_tuple hL
        exact ⟨_, rfl, h⟩
      · wp_walk using wpAny_loadPart' hl, wpAny_pyIter_tuple hL
        exact ⟨_, rfl, h⟩
    · wp_walk using wpAny_loadPart' hl, wpAny_pyIter_tuple hL
      exact ⟨_, rfl, h⟩

section
variable {prog : Program} {w : World} {A : Around} {E : Value → Shared → Prop} {s : Shared}
theorem wpAny_nextOf_tuple_item {it l : Addr} {i : Nat} {items} {x : Value} {Q : Value → Shared → Prop} (hit : s.heap.IsTupleIter it l i)
    (hl : s.heap.IsTuple l items) (hx : items[i]? = some x)
    (hQ : ∀ h', h'.IsTupleIter it l (i + 1) → Heap.SameBut it s.heap h' → Q x { s with heap := h' }) :
    wpAny (model prog w) A (Builtin.SmallTypes.nextOf (.ref it)) Q E s := by
  obtain ⟨o, ho, hc, hd⟩ := id hit
  obtain ⟨ol, hol, _, nl, hdl⟩ := hl
  unfold Builtin.SmallTypes.nextOf
  refine wpAny_bind (wpAny_callSpecial?_slot (name := Str.ofString "__next__") hit.typeIs F.slot_tuple_iterator_next
    (wpAny_call_entry F.slot_tuple_iterator_next hit.typeIs F.entry_tuple_iterator_next ?_ (F.args_tuple_iterator_next_1 _)))
  show wpAny _ _ (field (.ref it) 0 >>= _) _ _ s
  refine wpAny_bind (wpAny_field ho hd (x := .ref l) rfl ?_)
  show wpAny _ _ (if (Value.ref l == Value.none) = true then _ else _) _ _ s
  rw [if_neg (show ¬ ((Value.ref l == Value.none) = true) from Bool.false_ne_true)]
  show wpAny _ _ (field (.ref it) 1 >>= _) _ _ s
  refine wpAny_bind (wpAny_field ho hd (x := .int i 0) rfl ?_)
  show wpAny _ _ (seqItems? (.ref l) >>= _) _ _ s
  refine wpAny_bind (wpAny_seqItems hol hdl ?_)
  simp only [Int.toNat_natCast, hx]
  refine wpAny_bind (wpAny_setField ho hd (by simp) (wpAny_pure ⟨x, rfl, wpAny_pure (hQ _ ?_ (Heap.SameBut.update ..))⟩))
  exact ⟨_, Heap.get?_update_self _ ho (Obj.isFreed_of_fields (Obj.data_mapFields hd _)), (Obj.cls_mapFields ..).trans hc, by
    rw [Obj.data_mapFields hd]; simp [rawInt]⟩

theorem wpAny_nextOf_tuple_end {it l : Addr} {i : Nat} {items} {Q : Value → Shared → Prop} (hh : A.handled = none)
    (hit : s.heap.IsTupleIter it l i) (hl : s.heap.IsTuple l items) (hx : items[i]? = none)
    (hE : ∀ h' e, Heap.ExtBut it s.heap h' → (∃ o, h'.get? e = some o ∧ o.cls = .type "StopIteration") → E (.ref e) { s with heap := h' }) :
    wpAny (model prog w) A (Builtin.SmallTypes.nextOf (.ref it)) Q E s := by
  obtain ⟨o, ho, hc, hd⟩ := id hit
  obtain ⟨ol, hol, _, nl, hdl⟩ := hl
  unfold Builtin.SmallTypes.nextOf
  refine wpAny_bind (wpAny_callSpecial?_slot (name := Str.ofString "__next__") hit.typeIs F.slot_tuple_iterator_next
    (wpAny_call_entry F.slot_tuple_iterator_next hit.typeIs F.entry_tuple_iterator_next ?_ (F.args_tuple_iterator_next_1 _)))
  show wpAny _ _ (field (.ref it) 0 >>= _) _ _ s
  refine wpAny_bind (wpAny_field ho hd (x := .ref l) rfl ?_)
  show wpAny _ _ (if (Value.ref l == Value.none) = true then _ else _) _ _ s
  rw [if_neg (show ¬ ((Value.ref l == Value.none) = true) from Bool.false_ne_true)]
  show wpAny _ _ (field (.ref it) 1 >>= _) _ _ s
  refine wpAny_bind (wpAny_field ho hd (x := .int i 0) rfl ?_)
  show wpAny _ _ (seqItems? (.ref l) >>= _) _ _ s
  refine wpAny_bind (wpAny_seqItems hol hdl ?_)
  simp only [Int.toNat_natCast, hx]
  refine wpAny_bind (wpAny_rule (wpAny_bind (wpAny_setField ho hd (by simp) ?_)))
  show wpAny _ _ (newExc (.type "StopIteration") [] >>= _) _ _ _
  refine wpAny_bind ?_
  simp only [newExc, newTuple]
  refine wpAny_bind (wpAny_newObj_type ?_ (by size_fits))
  refine wpAny_bind (m := firstArgMember _ _) (wpAny_of_eq (a := Value.none) (by first | rfl | (simp only [firstArgMember]; rfl)) ?_)
  refine wpAny_newObj_type ?_ (by size_fits)
  simp only [raiseNew]
  refine wpAny_bind (wpAny_handled ?_)
  first | rw [show A.in1.handled = none from hh] | rw [hh]
  refine wpAny_bind (wpAny_pure (wpAny_throw ?_))
  exact hE _ _ (((Heap.SameBut.update ..).extBut.push _).push _) ⟨_, Heap.get?_push_size _ rfl, rfl⟩

theorem enumerate_next_itemT {e it l : Addr} {i : Nat} {items : Array Value} {x old : Value} {Q : Value → Shared → Prop}
    (he : IsEnum s.heap e it i old) (hit : s.heap.IsTupleIter it l i) (hl : s.heap.IsTuple l items) (hx : items[i]? = some x) (hne : e ≠ it)
    (hQ : ∀ h', IsEnumOut h' e it ((i : Int) + 1) x s.heap.objs.size → h'.IsTupleIter it l (i + 1) →
      h'.get? s.heap.objs.size = some { cls := .type "tuple", data := .seq #[.int i s.toks, x] } → h'.objs.size = s.heap.objs.size + 1 →
      (∀ b o, b ≠ e → b ≠ it → s.heap.get? b = some o → h'.get? b = some o) → Q (.ref s.heap.objs.size) { s with heap := h', toks := s.toks + 1 }) :
    wpAny (model prog w) A (Builtin.«enumerate.__next__» ⟨[.ref e], []⟩) (fun fin s' => ∃ v, fin = .done (.ret v) ∧ Q v s') E s := by
  obtain ⟨hp, g, d, tk, os⟩ := s
  show wpAny _ _ (field (.ref e) 2 >>= _) _ _ _
  refine wpAny_bind (wpAny_field he rfl (x := .ref it) rfl ?_)
  refine wpAny_bind (wpAny_nextOf_tuple_item hit hl hx fun h₁ hit₁ hs₁ => ?_)
  replace hs₁ : Heap.SameBut it hp h₁ := hs₁
  have he₁ : IsEnum h₁ e it i old := (hs₁.2 e hne).trans he
  show wpAny _ _ (field (.ref e) 3 >>= _) _ _ ⟨h₁, g, d, tk, os⟩
  refine wpAny_bind (wpAny_field he₁ rfl (x := rawInt i) rfl ?_)
  show wpAny _ _ (field (.ref e) 4 >>= _) _ _ ⟨h₁, g, d, tk, os⟩
  refine wpAny_bind (wpAny_field he₁ rfl (x := .none) rfl ?_)
  show wpAny _ _ (mkInt i >>= _) _ _ ⟨h₁, g, d, tk, os⟩
  refine wpAny_bind (wpAny_mkInt ?_)
  show wpAny _ _ (setField (.ref e) 3 (rawInt ((i : Int) + 1)) >>= _) _ _ ⟨h₁, g, d, tk + 1, os⟩
  refine wpAny_bind (wpAny_setField_rec he₁ (by simp) fun h₂ he₂ hs₂ => ?_)
  replace hs₂ : Heap.SameBut e h₁ h₂ := hs₂
  replace he₂ : IsEnum h₂ e it ((i : Int) + 1) old := he₂
  show wpAny _ _ (setField (.ref e) 4 .none >>= _) _ _ ⟨h₂, g, d, tk + 1, os⟩
  refine wpAny_bind (wpAny_setField_rec he₂ (by simp) fun h₃ he₃ hs₃ => ?_)
  replace hs₃ : Heap.SameBut e h₂ h₃ := hs₃
  replace he₃ : IsEnum h₃ e it ((i : Int) + 1) old := he₃
  show wpAny _ _ (newTuple [.int i tk, x] >>= _) _ _ ⟨h₃, g, d, tk + 1, os⟩
  refine wpAny_bind (wpAny_newTuple ?_)
  have he₄ : IsEnum (h₃.push { cls := .type "tuple", data := .seq #[.int i tk, x] }) e it ((i : Int) + 1) old := Heap.get?_push_of_some _ he₃
  generalize hh₄ : h₃.push { cls := .type "tuple", data := .seq #[.int i tk, x] } = h₄ at he₄
  have hsz : h₃.objs.size = hp.objs.size := by rw [hs₃.1, hs₂.1, hs₁.1]
  have hel : e < hp.objs.size := Heap.lt_size he
  have ht₄ : h₄.get? hp.objs.size = some { cls := .type "tuple", data := .seq #[.int i tk, x] } := by rw [← hh₄, ← hsz]; exact Heap.get?_push_size _ rfl
  have hz₄ : h₄.objs.size = hp.objs.size + 1 := by rw [← hh₄, Heap.size_push, hsz]
  have hk₄ : ∀ b o, b ≠ e → b ≠ it → hp.get? b = some o → h₄.get? b = some o := fun b o hbe hbi hb => by
    rw [← hh₄]; exact Heap.get?_push_of_some _ (hs₃.extBut b o hbe (hs₂.extBut b o hbe (hs₁.extBut b o hbi hb)))
  have hit₄ : h₄.IsTupleIter it l (i + 1) := by
    rw [← hh₄]; obtain ⟨o, ho, r⟩ := (hit₁.extBut hs₂.extBut (Ne.symm hne)).extBut hs₃.extBut (Ne.symm hne); exact ⟨o, Heap.get?_push_of_some _ ho, r⟩
  show wpAny _ _ (Builtin.SmallTypes.ownedTupleIsFree (.ref e) >>= _) _ _ ⟨h₄, g, d, tk + 1, os⟩
  rw [hsz]
  clear hh₄ he₃ hs₃ he₂ hs₂ he₁ hs₁ hit₁ hsz h₃ h₂ h₁
  refine wpAny_bind ?_
  · unfold Builtin.SmallTypes.ownedTupleIsFree
    refine wpAny_bind (wpAny_field he₄ rfl (x := .none) rfl (wpAny_pure ?_))
    simp only [if_true]
    refine wpAny_bind (wpAny_rule ?_)
    refine wpAny_bind (wpAny_field he₄ rfl (x := old) rfl ?_)
    refine wpAny_bind (wpAny_setField_rec he₄ (by simp) fun h₅ he₅ hs₅ => ?_)
    replace hs₅ : Heap.SameBut e h₄ h₅ := hs₅
    replace he₅ : IsEnum h₅ e it ((i : Int) + 1) x := he₅
    show wpAny _ _ (Builtin.SmallTypes.ownedTupleHandOut (.ref e) (.ref hp.objs.size) >>= _) _ _ ⟨h₅, g, d, tk + 1, os⟩
    refine wpAny_bind ?_
    · unfold Builtin.SmallTypes.ownedTupleHandOut
      refine wpAny_bind (wpAny_setField_rec he₅ (by simp) fun h₆ he₆ hs₆ => ?_)
      replace hs₆ : Heap.SameBut e h₅ h₆ := hs₆
      replace he₆ : IsEnumOut h₆ e it ((i : Int) + 1) x hp.objs.size := he₆
      refine wpAny_setField_rec he₆ (by simp) fun h₇ he₇ hs₇ => ?_
      replace hs₇ : Heap.SameBut e h₆ h₇ := hs₇
      replace he₇ : IsEnumOut h₇ e it ((i : Int) + 1) x hp.objs.size := he₇
      refine wpAny_bind (wpAny_letGo (wpAny_pure ⟨_, rfl, hQ h₇ he₇ ?_ ?_ ?_ ?_⟩))
      · exact ((hit₄.extBut hs₅.extBut (Ne.symm hne)).extBut hs₆.extBut (Ne.symm hne)).extBut hs₇.extBut (Ne.symm hne)
      · exact hs₇.extBut _ _ (Nat.ne_of_gt hel) (hs₆.extBut _ _ (Nat.ne_of_gt hel) (hs₅.extBut _ _ (Nat.ne_of_gt hel) ht₄))
      · rw [hs₇.1, hs₆.1, hs₅.1, hz₄]
      · exact fun b o hbe hbi hb => hs₇.extBut b o hbe (hs₆.extBut b o hbe (hs₅.extBut b o hbe (hk₄ b o hbe hbi hb)))

theorem wpAny_pyNext_enum_itemT {e it l : Addr} {i : Nat} {items : Array Value} {x old : Value} {Q : Option Value → Shared → Prop}
    (he : IsEnum s.heap e it i old) (hit : s.heap.IsTupleIter it l i) (hl : s.heap.IsTuple l items) (hx : items[i]? = some x) (hne : e ≠ it)
    (hQ : ∀ h', IsEnumOut h' e it ((i : Int) + 1) x s.heap.objs.size → h'.IsTupleIter it l (i + 1) →
      h'.get? s.heap.objs.size = some { cls := .type "tuple", data := .seq #[.int i s.toks, x] } → h'.objs.size = s.heap.objs.size + 1 →
      (∀ b o, b ≠ e → b ≠ it → s.heap.get? b = some o → h'.get? b = some o) → Q (some (.ref s.heap.objs.size)) { s with heap := h', toks := s.toks + 1 }) :
    wpAny (model prog w) A (pyNext (.ref e)) Q E s := by
  have hT : s.TypeIs (.ref e) "enumerate" := ⟨_, he, rfl⟩
  unfold pyNext
  exact wpAny_bind (wpAny_attempt (wpAny_callSpecial?_slot (name := Str.ofString "__next__") hT F.slot_enumerate_next
    (wpAny_call_entry F.slot_enumerate_next hT F.entry_enumerate_next
      (enumerate_next_itemT he hit hl hx hne fun h' a b c d k => wpAny_pure (hQ h' a b c d k)) (F.args_enumerate_next_1 _))))

theorem wpAny_pyNext_enum_endT {e it l : Addr} {i : Nat} {items : Array Value} {old : Value} {Q : Option Value → Shared → Prop} (hh : A.handled = none)
    (he : IsEnum s.heap e it i old) (hit : s.heap.IsTupleIter it l i) (hl : s.heap.IsTuple l items) (hx : items[i]? = none)
    (hQ : ∀ h', Heap.ExtBut it s.heap h' → Q none { s with heap := h' }) : wpAny (model prog w) A (pyNext (.ref e)) Q E s := by
  have hT : s.TypeIs (.ref e) "enumerate" := ⟨_, he, rfl⟩
  unfold pyNext
  refine wpAny_bind (wpAny_attempt (wpAny_callSpecial?_slot (name := Str.ofString "__next__") hT F.slot_enumerate_next
    (wpAny_call_entry F.slot_enumerate_next hT F.entry_enumerate_next ?_ (F.args_enumerate_next_1 _))))
  show wpAny _ _ (field (.ref e) 2 >>= _) _ _ _
  refine wpAny_bind (wpAny_field he rfl (x := .ref it) rfl ?_)
  refine wpAny_bind (wpAny_nextOf_tuple_end hh hit hl hx fun h' x he' hx' => ?_)
  obtain ⟨o, ho, hc⟩ := hx'
  refine wpAny_bind (wpAny_isInstance (T := "StopIteration") (b := true) ⟨o, ho, hc⟩ isSubtype_stop ?_)
  exact wpAny_pure (hQ _ he')
theorem call_enumerate_tuple {l : Addr} {items : Array Value} {Q : Value → Shared → Prop} (hL : s.heap.IsTuple l items)
    (h : ∀ h', IsEnum h' (s.heap.objs.size + 1) s.heap.objs.size 0 .none → h'.IsTupleIter s.heap.objs.size l 0 → h'.objs.size = s.heap.objs.size + 2 →
      (∀ b o, s.heap.get? b = some o → h'.get? b = some o) → Q (.ref (s.heap.objs.size + 1)) { s with heap := h' }) :
    wpAny (model prog w) A (call (.type "enumerate") [.ref l]) Q E s := by
  obtain ⟨⟨c, dct, dt, sl⟩, hl, hc, n, hd⟩ := hL
  replace hc : c = .type "tuple" := hc
  replace hd : dt = .seq items n := hd
  subst hc hd
  refine callType_new F.called_enumerate (by decide) (F.typeCall_enumerate_1 _) (F.newCall_enumerate_1 _) (fun obj => F.args_object_init_2 obj _) F.entry_enumerate_new
    (meets_enumerate_newT l items n dct sl) ⟨hl, ?_⟩
  have hz : (s.heap.push { cls := .type "tuple_iterator", data := .fields #[.ref l, .int 0 0] }).objs.size = s.heap.objs.size + 1 := Heap.size_push ..
  show _ ∧ _
  rw [hz]
  have he : IsEnum ((s.heap.push { cls := .type "tuple_iterator", data := .fields #[.ref l, .int 0 0] }).push
      { cls := .type "enumerate", data := .fields #[.none, .bool false, .ref s.heap.objs.size, rawInt 0, .none, .none] }) (s.heap.objs.size + 1) s.heap.objs.size 0 .none := by
    have := Heap.get?_push_size (s.heap.push { cls := .type "tuple_iterator", data := .fields #[.ref l, .int 0 0] })
      (o := { cls := .type "enumerate", data := .fields #[.none, .bool false, .ref s.heap.objs.size, rawInt 0, .none, .none] }) rfl
    rw [hz] at this; exact this
  refine ⟨⟨_, he, rfl⟩, h _ he ⟨_, Heap.get?_push_of_some _ (Heap.get?_push_size _ rfl), rfl, rfl⟩ (by rw [Heap.size_push, hz]) fun b o x => Heap.get?_push_of_some _ (Heap.get?_push_of_some _ x)⟩

end
open PySem.Spec PyProof.Rows L2
def IteT (K : PySem.W.Frag) (a : Addr) : It :=
  ⟨fun i H => ∃ (xs : List V) (x : V), SqT K H a xs ∧ xs[i]? = some x, fun i H v H' => ∃ T x, v = .ref T ∧ H T = none ∧ H' = upd H T (.tup [.int (i : Nat), x]) ∧ ∀ xs, SqT K H a xs → xs[i]? = some x, fun i H => ∃ xs : List V, SqT K H a xs ∧ xs.length ≤ i⟩
theorem turn_enumT {P : Program} {w : World} {K : PySem.W.Frag} {elts : List Expr} {kk : Nat} {tpos : Pos} (a e it : Addr) :
    Turn P w K (.Tuple elts kk tpos) (IteT K a) [e, it] e (fun i h => (∃ old, IsEnum h e it ((i : Nat) : Int) old) ∧ h.IsTupleIter it a i ∧ e ≠ it) where
  mem := by simp
  obj := fun i h st b hb => by
    obtain ⟨⟨old, he⟩, ⟨o, ho, hc, hd⟩, _⟩ := st
    have e' : b = e ∨ b = it := by simpa using hb
    rcases e' with z | z
    · rw [z]; exact ⟨_, he, fun v q => nomatch q⟩
    · rw [z]; exact ⟨o, ho, fun v q => by rw [hd] at q; cases q⟩
  keep := fun i h h' st k => let ⟨⟨old, he⟩, hi, hne⟩ := st; ⟨⟨old, k e (by simp) _ he⟩, hi.at fun o q => k it (by simp) o q, hne⟩
  item := by
    intro X hP hw hK hc i pins s σ H E I hf st hg
    subst hP hw hK
    obtain ⟨⟨old, he⟩, hit, hne⟩ := st
    obtain ⟨xs, x, hq, hx⟩ := hg
    obtain ⟨its, rv, p, hz⟩ := I.tuple hq
    obtain ⟨u, hu, ru⟩ := rv.get hx
    have hel : e < s.heap.objs.size := Heap.lt_size he
    have hil : it < s.heap.objs.size := by obtain ⟨_, q, _⟩ := hit; exact Heap.lt_size q
    refine wpAny_pyNext_enum_itemT he hit p (x := u) (by simpa using hu) hne fun h' ho hit' hT hsz hk => ?_
    refine ⟨_, rfl, wpAny_letOwnedTupleGo_enum (s := { s with heap := h', toks := s.toks + 1 }) ho fun h'' he' sb => ?_⟩
    have hT2 : h''.get? s.heap.objs.size = some { cls := .type "tuple", data := .seq #[.int i s.toks, u] } := (sb.2 _ (Nat.ne_of_gt hel)).trans hT
    have new : ObjOk X.prog X.w (upd H s.heap.objs.size (.tup [.int (i : Nat), x])) h'' s.heap.objs.size (.tup [.int (i : Nat), x]) :=
      ⟨by show 2 ≤ sizeLine; decide, [.int i s.toks, u], .cons ⟨_, rfl⟩ (.cons ru .nil), ⟨_, hT2, rfl, _, rfl⟩⟩
    have I1 : Inv X pins σ (upd H s.heap.objs.size (.tup [.int (i : Nat), x])) { s with heap := h'', toks := s.toks + 1 } :=
      I.turnedNew (ch := [e, it]) (fun b ob hb q => (sb.2 b (fun z => hb (by simp [z]))).trans (hk b ob (fun z => hb (by simp [z])) (fun z => hb (by simp [z])) q)) hf (Nat.le_refl _) new
    refine ⟨.ref s.heap.objs.size, _, I1, rfl, ⟨_, x, rfl, I.hok.fresh (Nat.le_refl _), rfl, fun ys hy => by rw [I.tuple_inj hy hq]; exact hx⟩, ⟨⟨u, ?_⟩, hit'.at fun o q => (sb.2 it (Ne.symm hne)).trans q, hne⟩, fun b hb => ?_⟩
    · have e1 : ((i + 1 : Nat) : Int) = (i : Int) + 1 := by omega
      rw [e1]; exact he'
    · have hb' : b < s.heap.objs.size := by
        have e' : b = e ∨ b = it := by simpa using hb
        rcases e' with z | z
        · rw [z]; exact hel
        · rw [z]; exact hil
      rw [upd_ne (Nat.ne_of_lt hb')]
      exact (hf b hb).1
  done := by
    intro X hP hw hK hc i pins s σ H E I hf st hg
    subst hP hw hK
    obtain ⟨⟨old, he⟩, hit, hne⟩ := st
    obtain ⟨xs, hq, hx⟩ := hg
    obtain ⟨its, rv, p, hz⟩ := I.tuple hq
    obtain ⟨f0, f1, f2, f3, f4, f5⟩ := hf it (by simp)
    have hl := rv.length
    exact wpAny_pyNext_enum_endT (I.ok.hd hc) he hit p (by simp; omega) fun h' eb => ⟨rfl, I.turned (t' := s.toks) (fun b o hb q => eb b o hb q) f0 f1 f3 f4 f5⟩
  self := fun A i s Q E st h => let ⟨⟨_, he⟩, _⟩ := st; wpAny_pyIter_enum he h
def iEnumT (K : PySem.W.Frag) (ta : TA) : TI := fun σ H R => ta σ H fun vs H1 => ∃ a xs, vs = [.ref a] ∧ SqT K H1 a xs ∧ R (IteT K a) H1
theorem pi_enumT {X : Cx} {e : Expr} {ta : TA} {p pos tpos : Pos} {elts : List Expr} {kk : Nat} (hg : Gl X "enumerate") (hm : X.mg "enumerate" = none) (ha : PA X [e] ta) (hs : starEach [e] X.env = [(false, eval e X.env)] := by rfl) :
    PI X (.Tuple elts kk tpos) (.Call (.Name "enumerate" p) [e] [] pos) (iEnumT X.K ta) := by
  refine ⟨fun pins s σ H R I h => ?_⟩
  refine Call_ (ld_blt I hg hm boot_enumerate (PyProof.Rows.callWith_type1 (thn (ha.run pos pins s σ H _ I h) fun us s1 ⟨vs, H1, I1, r1, q1⟩ => ?_) hs rfl))
  obtain ⟨a, xs, ex, hq, q⟩ := q1
  subst ex
  cases r1 with
  | cons r rr =>
    cases rr
    cases r
    obtain ⟨its, rv, p', hz⟩ := I1.tuple hq
    refine call_enumerate_tuple p' fun h' he hit hsz hk => wpAny_pyIter_enum he ?_
    have I2 : Inv X pins σ H1 { s1 with heap := h' } := I1.kept (t' := s1.toks) hk
    refine ⟨s1.heap.objs.size + 1, [s1.heap.objs.size + 1, s1.heap.objs.size], _, _, H1, rfl, I2, turn_enumT a (s1.heap.objs.size + 1) s1.heap.objs.size, ⟨⟨.none, he⟩, hit, Nat.succ_ne_self _⟩, fun b hb => ?_, q⟩
    have e' : b = s1.heap.objs.size + 1 ∨ b = s1.heap.objs.size := by simpa using hb
    have hle : s1.heap.objs.size ≤ b := by
      rcases e' with z | z
      · rw [z]; exact Nat.le_add_right _ _
      · rw [z]; exact Nat.le_refl _
    exact I1.fpOk hle (I1.hok.fresh hle)
end Fz
set_option Elab.async false
set_option linter.all false
set_option maxRecDepth 100000
set_option maxHeartbeats 2000000
/-! Fz: dicts. -/
namespace Fz
open PySem PySem.Spec PyProof.Rows L2

/-! ### tables -/
section
variable {κ κ' α β : Type} [DecidableEq κ] [DecidableEq κ']
def look (kvs : List (κ × α)) (k : κ) : Option α := (kvs.find? fun kv => decide (kv.1 = k)).map (·.2)
def putA (kvs : List (κ × α)) (k : κ) (v : α) : List (κ × α) := if (kvs.any fun kv => decide (kv.1 = k)) = true then kvs.map (fun kv => if kv.1 = k then (kv.1, v) else kv) else kvs ++ [(k, v)]
theorem look_nil {k : κ} : look ([] : List (κ × α)) k = none := rfl
theorem look_cons (p : κ × α) (r : List (κ × α)) (k : κ) : look (p :: r) k = if p.1 = k then some p.2 else look r k := by
  unfold look
  rw [List.find?_cons]
  by_cases h : p.1 = k
  · simp [h]
  · simp [h]
theorem look_map (e : α → β) (kvs : List (κ × α)) (k : κ) : look (kvs.map fun p => (p.1, e p.2)) k = (look kvs k).map e := by
  induction kvs with
  | nil => rfl
  | cons p r ih =>
    rw [List.map_cons, look_cons, look_cons]
    by_cases h : p.1 = k
    · rw [if_pos h, if_pos h]; rfl
    · rw [if_neg h, if_neg h, ih]
theorem any_look (kvs : List (κ × α)) (k : κ) : (kvs.any fun kv => decide (kv.1 = k)) = (look kvs k).isSome := by
  induction kvs with
  | nil => rfl
  | cons p r ih =>
    rw [List.any_cons, look_cons, ih]
    by_cases h : p.1 = k
    · simp [h]
    · simp [h]
theorem putA_map (e : α → β) (kvs : List (κ × α)) (k : κ) (a : α) : (putA kvs k a).map (fun p => (p.1, e p.2)) = putA (kvs.map fun p => (p.1, e p.2)) k (e a) := by
  have ha : ((kvs.map fun p => (p.1, e p.2)).any fun kv => decide (kv.1 = k)) = (kvs.any fun kv => decide (kv.1 = k)) := by rw [List.any_map]; rfl
  unfold putA
  rw [ha]
  split
  · rw [List.map_map, List.map_map]
    refine List.map_congr_left fun p _ => ?_
    show (fun p : κ × α => (p.1, e p.2)) (if p.1 = k then (p.1, a) else p) = (if p.1 = k then (p.1, e a) else (p.1, e p.2))
    by_cases h : p.1 = k
    · rw [if_pos h, if_pos h]
    · rw [if_neg h, if_neg h]
  · rw [List.map_append]; rfl
theorem putA_new {kvs : List (κ × α)} {k : κ} (a : α) (h : look kvs k = none) : putA kvs k a = kvs ++ [(k, a)] := by
  unfold putA
  rw [any_look, h]
  exact if_neg Bool.false_ne_true
theorem putA_len (kvs : List (κ × α)) (k : κ) (a : α) : (putA kvs k a).length ≤ kvs.length + 1 := by
  unfold putA
  split
  · rw [List.length_map]; omega
  · rw [List.length_append]; exact Nat.le_refl _
end
abbrev keyS (k : Tx) : Key := Sum.inr (mkS k)
abbrev keyT (k : List Tx) : List Key := k.map keyS
abbrev keyI (k : List Int) : List Key := k.map Sum.inl
theorem keyS_inj {a b : Tx} (h : keyS a = keyS b) : a = b := mkS_inj (by injection h)
theorem map_inj {α β : Type} {f : α → β} (hf : ∀ a b, f a = f b → a = b) : ∀ {l m : List α}, l.map f = m.map f → l = m
  | [], [], _ => rfl
  | [], _ :: _, h => by simp at h
  | _ :: _, [], h => by simp at h
  | a :: l, b :: m, h => by
    simp only [List.map_cons, List.cons.injEq] at h
    rw [hf a b h.1, map_inj hf h.2]
theorem keyT_inj {a b : List Tx} (h : keyT a = keyT b) : a = b := map_inj (fun _ _ => keyS_inj) h
theorem keyI_inj {a b : List Int} (h : keyI a = keyI b) : a = b := map_inj (fun _ _ h => by injection h) h

/-! ### dicts of the heap -/
inductive DvA (K : PySem.W.Frag) (G : GH) {κ κ' : Type} (f : κ → κ') : List (κ' × V) → List (κ × RP) → Prop
  | nil : DvA K G f [] []
  | cons {k : κ} {v : V} {d : RP} {us : List (κ' × V)} {kvs : List (κ × RP)} : d.r G v → DvA K G f us kvs → DvA K G f ((f k, v) :: us) ((k, d) :: kvs)
section
variable {K : PySem.W.Frag} {G G' : GH} {κ κ' : Type} {f : κ → κ'}
theorem DvA.mono (s : Sub G G') {us : List (κ' × V)} {kvs : List (κ × RP)} (h : DvA K G f us kvs) : DvA K G' f us kvs := by
  induction h with
  | nil => exact .nil
  | @cons k v d us kvs h _ ih => exact .cons (d.mono s h) ih
theorem DvA.length {us : List (κ' × V)} {kvs : List (κ × RP)} (h : DvA K G f us kvs) : us.length = kvs.length := by
  induction h with
  | nil => rfl
  | cons h _ ih => rw [List.length_cons, List.length_cons, ih]
theorem DvA.keys {us : List (κ' × V)} {kvs : List (κ × RP)} (h : DvA K G f us kvs) : us.map (·.1) = kvs.map fun p => f p.1 := by
  induction h with
  | nil => rfl
  | cons h _ ih => rw [List.map_cons, List.map_cons, ih]
theorem DvA.append {us us' : List (κ' × V)} {kvs kvs' : List (κ × RP)} (h : DvA K G f us kvs) (h' : DvA K G f us' kvs') : DvA K G f (us ++ us') (kvs ++ kvs') := by
  induction h with
  | nil => exact h'
  | cons h _ ih => exact .cons h ih
variable [DecidableEq κ] [DecidableEq κ']
theorem DvA.val (hf : ∀ a b, f a = f b → a = b) {us : List (κ' × V)} {kvs : List (κ × RP)} (h : DvA K G f us kvs) (k : κ) : (look kvs k = none → valV us (f k) = none) ∧ ∀ d, look kvs k = some d → ∃ v, valV us (f k) = some v ∧ d.r G v := by
  induction h with
  | nil => exact ⟨fun _ => rfl, fun d h => by cases h⟩
  | @cons k0 v d us kvs h _ ih =>
    rw [look_cons]
    by_cases hk : k0 = k
    · rw [if_pos hk, valV_pos (p := (f k0, v)) (r := us) (show f k0 = f k by rw [hk])]
      refine ⟨fun h => (nomatch h), fun d' h' => ?_⟩
      cases h'
      exact ⟨v, rfl, h⟩
    · rw [if_neg hk, valV_neg (p := (f k0, v)) (r := us) (fun z => hk (hf _ _ z))]
      exact ih
theorem DvA.put (hf : ∀ a b, f a = f b → a = b) {us : List (κ' × V)} {kvs : List (κ × RP)} (h : DvA K G f us kvs) (k : κ) {v : V} {d : RP} (hd : d.r G v) : DvA K G f (putK us (f k) v) (putA kvs k d) := by
  have hany : (us.any fun kv => decide (kv.1 = f k)) = (kvs.any fun kv => decide (kv.1 = k)) := by
    induction h with
    | nil => rfl
    | @cons k0 v0 d0 us kvs h _ ih =>
      rw [List.any_cons, List.any_cons, ih]
      have e : decide ((f k0, v0).1 = f k) = decide ((k0, d0).1 = k) := by
        rw [decide_eq_decide]
        exact ⟨hf _ _, fun z => congrArg f z⟩
      rw [e]
  unfold putK putA
  rw [hany]
  split
  · have key : ∀ {us : List (κ' × V)} {kvs : List (κ × RP)}, DvA K G f us kvs → DvA K G f (us.map fun kv => if kv.1 = f k then (kv.1, v) else kv) (kvs.map fun kv => if kv.1 = k then (kv.1, d) else kv) := by
      intro us kvs h
      induction h with
      | nil => exact .nil
      | @cons k0 v0 d0 us kvs h h2 ih =>
        rw [List.map_cons, List.map_cons]
        by_cases hk : k0 = k
        · show DvA K G f ((if f k0 = f k then (f k0, v) else (f k0, v0)) :: _) ((if k0 = k then (k0, d) else (k0, d0)) :: _)
          rw [if_pos hk, if_pos (by rw [hk])]
          exact .cons hd ih
        · show DvA K G f ((if f k0 = f k then (f k0, v) else (f k0, v0)) :: _) ((if k0 = k then (k0, d) else (k0, d0)) :: _)
          rw [if_neg hk, if_neg (fun z => hk (hf _ _ z))]
          exact .cons h ih
    exact key h
  · exact h.append (.cons hd .nil)
end
/-- a dict that is read -/
def Dv (K : PySem.W.Frag) {κ κ' : Type} (mk : List (κ' × V) → HO) (f : κ → κ') (G : GH) (H : Hp) (v : V) (kvs : List (κ × RP)) : Prop := ∃ p us, v = .ref p ∧ us.length ≤ sizeLine ∧ (G p = some (isO (mk us)) ∨ (G p = none ∧ H p = some (mk us))) ∧ DvA K G f us kvs
def EDv (K : PySem.W.Frag) {κ κ' : Type} (mk : List (κ' × V) → HO) (f : κ → κ') (te : TE) (σ : L2.St) (G : GH) (H : Hp) (kvs : List (κ × RP)) : Prop := ∀ G1 H1, Gr [] G H G1 H1 → ∀ Q : VK, (∀ v G2 H2, Gr [] G1 H1 G2 H2 → Dv K mk f G2 H2 v kvs → Q v H2) → te σ H1 Q
class NTm {κ' : Type} (mk : List (κ' × V) → HO) : Prop where
  nt : ∀ us, NT (mk us)
instance : NTm HO.dK := ⟨fun _ _ h => nomatch h⟩
instance : NTm HO.dT := ⟨fun _ _ h => nomatch h⟩
def ownD (K : PySem.W.Frag) {κ κ' : Type} (mk : List (κ' × V) → HO) [NTm mk] (f : κ → κ') (kvs : List (κ × RP)) : OP := ⟨fun G o => ∃ us, o = mk us ∧ us.length ≤ sizeLine ∧ DvA K G f us kvs, fun ⟨us, e, _⟩ => (by rw [e]; exact NTm.nt us), fun s ⟨us, e, z, h⟩ => ⟨us, e, z, h.mono s⟩⟩
/-- a dict that is finished -/
def fzD (K : PySem.W.Frag) {κ κ' : Type} (mk : List (κ' × V) → HO) (f : κ → κ') (kvs : List (κ × RP)) : RP := ⟨fun G v => ∃ p us, v = .ref p ∧ us.length ≤ sizeLine ∧ G p = some (isO (mk us)) ∧ DvA K G f us kvs, fun s ⟨p, us, e, z, h, r⟩ => ⟨p, us, e, z, s _ _ h, r.mono s⟩⟩
section
variable {K : PySem.W.Frag} {mx : List Addr} {G0 G G1 : GH} {H0 H H1 : Hp} {Γ : List (Option RP)} {Os : List (Addr × OP)} {Ts : List (V × RP)} {σ : L2.St} {te ta tb td ty tv : TE} {De : Ends} {p : Addr} {v y : V}
variable {κ κ' α : Type} [DecidableEq κ] [DecidableEq κ'] {mk : List (κ' × V) → HO} [NTm mk] {f : κ → κ'} {kvs : List (κ × RP)} {k : κ}
theorem Dv.step (h : Dv K mk f G H v kvs) (g : Gr [] G H G1 H1) : Dv K mk f G1 H1 v kvs := by
  obtain ⟨p, us, e, z, h, r⟩ := h
  refine ⟨p, us, e, z, ?_, r.mono g.sub⟩
  rcases h with h | ⟨n, h⟩
  · exact .inl (g.sub _ _ h)
  · exact .inr ⟨g.un n h (NTm.nt us), g.at0 n h (NTm.nt us)⟩
theorem Dv.at' (h : Dv K mk f G H v kvs) (ft : Fit G H) : ∃ p us, v = .ref p ∧ us.length ≤ sizeLine ∧ H p = some (mk us) ∧ DvA K G f us kvs := by
  obtain ⟨p, us, e, z, h, r⟩ := h
  refine ⟨p, us, e, z, ?_, r⟩
  rcases h with h | ⟨n, h⟩
  · exact ft.at' h
  · exact h
theorem SA.fzD (s : SA mx G0 H0 Γ Os Ts σ G H) (i : Nat) (e : Γ[i]? = some (some (Fz.fzD K mk f kvs)) := by rfl) : EDv K mk f (tVar i) σ G H kvs := by
  obtain ⟨v, q, p, us, rfl, z, h, r⟩ := s.env.2 i _ e
  exact fun G1 H1 g Q k => ⟨_, q, k _ G1 H1 (Gr.refl g.fit) ⟨p, us, rfl, z, .inl (g.sub _ _ h), r.mono g.sub⟩⟩
theorem SA.ownD (s : SA mx G0 H0 Γ Os Ts σ G H) (i j : Nat) (e : Γ[i]? = some (some (isV (.ref p))) := by rfl) (o : Os[j]? = some (p, Fz.ownD K mk f kvs) := by rfl) : EDv K mk f (tVar i) σ G H kvs := by
  obtain ⟨v, q, r⟩ := s.env.2 i _ e
  obtain ⟨n, ⟨u, hu, us, eu, z, hr⟩, _⟩ := s.at_ j o
  have ev : v = .ref p := r
  subst ev eu
  exact fun G1 H1 g Q k => ⟨_, q, k _ G1 H1 (Gr.refl g.fit) ⟨p, us, rfl, z, .inr ⟨g.un n hu (NTm.nt us), g.at0 n hu (NTm.nt us)⟩, hr.mono g.sub⟩⟩
/-- what a key is, and how a dict answers: for keys that are texts | tuples -/
structure KeyM (K : PySem.W.Frag) {κ κ' : Type} [DecidableEq κ'] (mk : List (κ' × V) → HO) (f : κ → κ') (ek : κ → PyData) : Prop where
  inj : ∀ a b, f a = f b → a = b
  get : ∀ {G : GH} {H : Hp} {p : Addr} {us : List (κ' × V)} {y : V} {k : κ}, Fit G H → Dg K G y (ek k) → H p = some (mk us) → DGet H p y (valV us (f k))
  put : ∀ {G : GH} {H : Hp} {p : Addr} {us : List (κ' × V)} {y w : V} {k : κ}, Fit G H → Dg K G y (ek k) → H p = some (mk us) → us.length < sizeLine → DPut H p y w (upd H p (mk (putK us (f k) w)))
theorem keyM_S : KeyM K HO.dK keyS eS := ⟨fun _ _ => keyS_inj, fun {G H p us y k} ft hy hp => .inl ⟨us, keyS k, .inl hp, Dg.str_inv hy, rfl⟩, fun {G H p us y w k} ft hy hp hl => .inl ⟨us, keyS k, hp, Dg.str_inv hy, hl, rfl⟩⟩
theorem keyT_map (l : List Tx) : (keyT l).map kV = (l.map mkS).map V.str := by rw [List.map_map, List.map_map]; rfl
theorem keyM_T : KeyM K HO.dT keyT (eT eS) := by
  have key : ∀ {G : GH} {H : Hp} {y : V} {k : List Tx}, Fit G H → Dg K G y (eT eS k) → ∃ b, y = .ref b ∧ H b = some (.tup ((keyT k).map kV)) := by
    intro G H y k ft hy
    obtain ⟨b, vs, rfl, hb, hr⟩ := Dg.tuple_inv hy
    have ev := strs_of hr
    subst ev
    exact ⟨b, rfl, by rw [keyT_map]; exact hb.at' ft⟩
  exact ⟨fun _ _ => keyT_inj, fun {G H p us y k} ft hy hp => let ⟨b, ey, hb⟩ := key ft hy; .inr ⟨us, keyT k, b, .inl hp, ey, hb, rfl⟩, fun {G H p us y w k} ft hy hp hl => let ⟨b, ey, hb⟩ := key ft hy; .inr ⟨us, keyT k, b, hp, ey, hb, hl, rfl⟩⟩
theorem keyM_I : KeyM K HO.dT keyI (eT eI) := by
  have key : ∀ {G : GH} {H : Hp} {y : V} {k : List Int}, Fit G H → Dg K G y (eT eI k) → ∃ b, y = .ref b ∧ H b = some (.tup ((keyI k).map kV)) := by
    intro G H y k ft hy
    obtain ⟨b, vs, rfl, hb, hr⟩ := Dg.tuple_inv hy
    have ev := ints_of hr
    subst ev
    exact ⟨b, rfl, by rw [kV_map]; exact hb.at' ft⟩
  exact ⟨fun _ _ => keyI_inj, fun {G H p us y k} ft hy hp => let ⟨b, ey, hb⟩ := key ft hy; .inr ⟨us, keyI k, b, .inl hp, ey, hb, rfl⟩, fun {G H p us y w k} ft hy hp hl => let ⟨b, ey, hb⟩ := key ft hy; .inr ⟨us, keyI k, b, hp, ey, hb, hl, rfl⟩⟩
variable {ek : κ → PyData}
theorem Dv.get (M : KeyM K mk f ek) (h : Dv K mk f G H v kvs) (ft : Fit G H) (hy : Dg K G y (ek k)) : ∃ p o, v = .ref p ∧ DGet H p y o ∧ o.isSome = (look kvs k).isSome ∧ ∀ d, look kvs k = some d → ∃ w, o = some w ∧ d.r G w := by
  obtain ⟨p, us, rfl, z, hp, r⟩ := h.at' ft
  have hv := r.val M.inj k
  refine ⟨p, _, rfl, M.get ft hy hp, ?_, hv.2⟩
  cases hl : look kvs k with
  | none => rw [hv.1 hl]; rfl
  | some d => obtain ⟨w, e, _⟩ := hv.2 d hl; rw [e]; rfl
theorem ev_din (M : KeyM K mk f ek) (hy : EV ty σ G H (D K (ek k))) (hd : EDv K mk f td σ G H kvs) : EV (tDIn ty td) σ G H (D K (eB (look kvs k).isSome)) := fun G1 H1 g Q q =>
  hy G1 H1 g _ fun y G2 H2 g2 ry => hd G2 H2 (g.trans g2) _ fun v G3 H3 g3 rv => by
    obtain ⟨p, o, rfl, hg, ho, _⟩ := rv.get M g3.fit ((D K (ek k)).mono g3.sub ry)
    exact ⟨p, o, rfl, hg, by rw [ho]; exact q _ G3 H3 (g2.trans g3) (.bl _)⟩
theorem ev_dni (M : KeyM K mk f ek) (hy : EV ty σ G H (D K (ek k))) (hd : EDv K mk f td σ G H kvs) : EV (tDNotIn ty td) σ G H (D K (eB (!(look kvs k).isSome))) := fun G1 H1 g Q q =>
  hy G1 H1 g _ fun y G2 H2 g2 ry => hd G2 H2 (g.trans g2) _ fun v G3 H3 g3 rv => by
    obtain ⟨p, o, rfl, hg, ho, _⟩ := rv.get M g3.fit ((D K (ek k)).mono g3.sub ry)
    exact ⟨p, o, rfl, hg, by rw [ho]; exact q _ G3 H3 (g2.trans g3) (.bl _)⟩
theorem ev_dget {d : RP} (M : KeyM K mk f ek) (hd : EDv K mk f td σ G H kvs) (hy : EV ty σ G H (D K (ek k))) (hl : look kvs k = some d) : EV (tDGet td ty) σ G H d := fun G1 H1 g Q q =>
  hd G1 H1 g _ fun v G2 H2 g2 rv => hy G2 H2 (g.trans g2) _ fun y G3 H3 g3 ry => by
    obtain ⟨p, o, rfl, hg, ho, hh⟩ := (rv.step g3).get M g3.fit ry
    obtain ⟨w, rfl, rw'⟩ := hh d hl
    exact ⟨p, w, rfl, hg, q w G3 H3 (g2.trans g3) rw'⟩
theorem ev_dgetT {kvs : List (κ × α)} {e : α → PyData} {a : α} (M : KeyM K mk f ek) (hd : EDv K mk f td σ G H (kvs.map fun p => (p.1, D K (e p.2)))) (hy : EV ty σ G H (D K (ek k))) (hl : look kvs k = some a) : EV (tDGet td ty) σ G H (D K (e a)) :=
  ev_dget M hd hy (by rw [look_map (fun a => D K (e a)), hl]; rfl)
theorem look_mapS {kvs : List (κ × α)} {e : α → PyData} : (look (kvs.map fun p => (p.1, D K (e p.2))) k).isSome = (look kvs k).isSome := by rw [look_map (fun a => D K (e a)), Option.isSome_map]
theorem ev_dinT {kvs : List (κ × α)} {e : α → PyData} (M : KeyM K mk f ek) (hy : EV ty σ G H (D K (ek k))) (hd : EDv K mk f td σ G H (kvs.map fun p => (p.1, D K (e p.2)))) : EV (tDIn ty td) σ G H (D K (eB (look kvs k).isSome)) := (ev_din M hy hd).to (by rw [look_mapS])
theorem ev_dniT {kvs : List (κ × α)} {e : α → PyData} (M : KeyM K mk f ek) (hy : EV ty σ G H (D K (ek k))) (hd : EDv K mk f td σ G H (kvs.map fun p => (p.1, D K (e p.2)))) : EV (tDNotIn ty td) σ G H (D K (eB (!(look kvs k).isSome))) := (ev_dni M hy hd).to (by rw [look_mapS])
/-- x = {} -/
theorem st_dnew {i : Nat} (s : SA mx G0 H0 Γ Os Ts σ G H) (k : ∀ p σ' G1 H1, p ∉ mx → SA mx G0 H0 (Γ.set i (some (isV (.ref p)))) ((p, Fz.ownD K mk f []) :: Os) Ts σ' G1 H1 → De.nx σ' H1) (hmk : ∀ Q, te σ H Q ↔ ∀ p, H p = none → Q (.ref p) (upd H p (mk [])) := by intro _; exact Iff.rfl) (hmx : ∀ a ∈ mx, H a ≠ none := by intro a h; cases h) : tAsg te (gName i) De σ H := by
  refine (hmk _).mpr fun p hp => ?_
  exact k p _ G _ (fun h => hmx p h hp) ((s.made (P := Fz.ownD K mk f []) hp ⟨[], rfl, Nat.zero_le _, .nil⟩).set (R := isV (.ref p)) i rfl)
/-- x[k] = v, x owned -/
theorem st_dput {d : RP} (M : KeyM K mk f ek) (s : SA mx G0 H0 Γ Os Ts σ G H) (i j : Nat) (hv : EV tv σ G H d) (hy : EV ty σ G H (D K (ek k))) (hl : kvs.length < sizeLine) (kk : ∀ G1 H1, SA mx G0 H0 Γ (Os.set j (p, Fz.ownD K mk f (putA kvs k d))) Ts σ G1 H1 → De.nx σ H1)
    (e : Γ[i]? = some (some (isV (.ref p))) := by rfl) (eo : Os[j]? = some (p, Fz.ownD K mk f kvs) := by rfl) : sDPut (tVar i) ty tv De σ H := by
  refine hv.go s.fit fun v G2 H2 g2 rv => ?_
  have s2 := s.step g2
  obtain ⟨w, hw, rw'⟩ := s2.env.2 i _ e
  have ew : w = .ref p := rw'
  subst ew
  refine ⟨_, hw, (hy.mono g2).go s2.fit fun y G3 H3 g3 ry => ?_⟩
  have s3 := s2.step g3
  obtain ⟨n, ⟨o, ho, us, eu, z, hr⟩, hf⟩ := s3.at_ j eo
  subst eu
  have hl2 := hr.length
  refine ⟨p, _, rfl, M.put g3.fit ry ho (by omega), kk G3 _ (s3.put (P' := Fz.ownD K mk f (putA kvs k d)) j eo ⟨_, rfl, ?_, hr.put M.inj k (d.mono g3.sub rv)⟩)⟩
  have := length_putK us (f k) v
  omega
/-- the j-th owned dict is finished: slot i holds it -/
theorem SA.freezeD (s : SA mx G0 H0 Γ Os Ts σ G H) (i j : Nat) (hm : p ∉ mx) (e : Γ[i]? = some (some (isV (.ref p))) := by rfl) (eo : Os[j]? = some (p, Fz.ownD K mk f kvs) := by rfl) :
    ∃ G1, Gr [] G1 H G1 H ∧ Sub G G1 ∧ SA mx G0 H0 (Γ.set i (some (Fz.fzD K mk f kvs))) (Os.eraseIdx j) Ts σ G1 H := by
  obtain ⟨n, ⟨u, hu, vs, eu, z, hr⟩, hf⟩ := s.at_ j eo
  subst eu
  have sub : Sub G (updG G p (isO (mk vs))) := Sub.upd n
  have g : Gr mx G0 H0 (updG G p (isO (mk vs))) H := s.g.freeze (hf.elim (fun h => absurd h hm) id) n hu rfl (fun _ _ => rfl)
  refine ⟨_, Gr.refl g.fit, sub, s.f0, g, ⟨by rw [List.length_set]; exact s.env.1, fun k R' ek => ?_⟩, fun q hq => ?_, ((List.eraseIdx_sublist Os j).map _).nodup s.nd, fun t ht => t.2.mono sub (s.tmp t ht)⟩
  · by_cases hk : i = k
    · subst hk
      have hl : i < Γ.length := by
        cases hh : decide (i < Γ.length) with
        | true => exact of_decide_eq_true hh
        | false => rw [List.getElem?_eq_none (by have := of_decide_eq_false hh; omega)] at e; cases e
      rw [List.getElem?_set_self hl] at ek
      cases ek
      obtain ⟨w, hw, rw'⟩ := s.env.2 i _ e
      have ew : w = .ref p := rw'
      subst ew
      exact ⟨_, hw, p, vs, rfl, z, updG_same, hr.mono sub⟩
    · rw [List.getElem?_set_ne hk] at ek
      obtain ⟨w, hw, rw'⟩ := s.env.2 k _ ek
      exact ⟨w, hw, R'.mono sub rw'⟩
  · obtain ⟨n2, ⟨u2, e2, r2⟩, h2⟩ := s.own q ((List.eraseIdx_sublist Os j).mem hq)
    have ne : q.1 ≠ p := by
      intro eq
      obtain ⟨k, hk, hkq⟩ := List.mem_eraseIdx_iff_getElem?.mp hq
      have a1 : (Os.map (·.1))[k]? = some p := by rw [List.getElem?_map, hkq]; show some q.1 = _; rw [eq]
      have a2 : (Os.map (·.1))[j]? = some p := by rw [List.getElem?_map, eo]; rfl
      exact hk (nd_ix s.nd a1 a2)
    exact ⟨by rw [updG_ne ne]; exact n2, ⟨u2, e2, q.2.mono sub r2⟩, h2⟩
namespace Fm
def dput (kvs : List (κ × α)) (k : κ) (a : α) : Option (List (κ × α)) := if kvs.length < sizeLine then some (putA kvs k a) else none
end Fm
theorem st_dputT {kvs kvs' : List (κ × α)} {e : α → PyData} {a : α} (M : KeyM K mk f ek) (s : SA mx G0 H0 Γ Os Ts σ G H) (i j : Nat) (hv : EV tv σ G H (D K (e a))) (hy : EV ty σ G H (D K (ek k))) (hm : Fm.dput kvs k a = some kvs') (kk : ∀ G1 H1, SA mx G0 H0 Γ (Os.set j (p, Fz.ownD K mk f (kvs'.map fun p => (p.1, D K (e p.2))))) Ts σ G1 H1 → De.nx σ H1)
    (e1 : Γ[i]? = some (some (isV (.ref p))) := by rfl) (eo : Os[j]? = some (p, Fz.ownD K mk f (kvs.map fun p => (p.1, D K (e p.2)))) := by rfl) : sDPut (tVar i) ty tv De σ H := by
  obtain ⟨c, rfl⟩ := if_some hm
  refine st_dput M s i j hv hy (by rw [List.length_map]; exact c) (fun G1 H1 s1 => kk G1 H1 (s1.to rfl (by rw [putA_map (fun a => D K (e a))]))) e1 eo
end
end Fz
set_option Elab.async false
set_option linter.all false
set_option maxRecDepth 100000
set_option maxHeartbeats 2000000
/-! Fz: dict comprehensions; tuple(d), sorted(d). -/
namespace Fz
open PySem PySem.Spec PyProof.Rows L2
/-- te makes a new dict -/
def EDN (K : PySem.W.Frag) {κ κ' : Type} (mk : List (κ' × V) → HO) (f : κ → κ') (te : TE) (σ : L2.St) (G : GH) (H : Hp) (kvs : List (κ × RP)) : Prop := ∀ G1 H1, Gr [] G H G1 H1 → ∀ Q : VK, (∀ p us G2 H2, Gr [] G1 H1 G2 H2 → G2 p = none → H1 p = none → H2 p = some (mk us) → us.length ≤ sizeLine → DvA K G2 f us kvs → Q (.ref p) H2) → te σ H1 Q
def dstep {α κ β : Type} [DecidableEq κ] (f : α → Option (κ × β)) : List (κ × β) → α → Option (List (κ × β)) := fun acc x => (f x).bind fun p => Fm.dput acc p.1 p.2
def tDcG (mk0 : HO) (stp : V → V → Addr → Hp → (Hp → Prop) → Prop) (wi : TI) (g : TG) (tt : TT) (tk tv : TE) (vs : List Nat) : TE := fun σ H Q => wi σ H fun J H1 => ∀ D, H1 D = none → ∃ W : Nat → Nat → Hp → Prop, (∃ m, W 0 m (upd H1 D mk0)) ∧ ∀ i m H, W i m H →
  (J.stop i H ∧ Q (.ref D) H) ∨ (J.go i H ∧ ∃ Nx : Hp → Prop, (∀ H', Nx H' → ∃ m', m' < m ∧ W (i + 1) m' H') ∧ ∀ x H', J.yld i H x H' → g x (wipe σ vs) H' fun σ2 H2 => wipe σ2 vs = wipe σ vs ∧ tt σ2 H2 fun b H3 =>
    if b = true then tk σ2 H3 fun y H4 => tv σ2 H4 fun z H5 => stp y z D H5 Nx else Nx H3)
def stpK (y z : V) (D : Addr) (H : Hp) (N : Hp → Prop) : Prop := ∃ kvs k, y = kV k ∧ H D = some (.dK kvs) ∧ kvs.length < sizeLine ∧ N (upd H D (.dK (putK kvs k z)))
def stpT (y z : V) (D : Addr) (H : Hp) (N : Hp → Prop) : Prop := ∃ kvs k kb, y = .ref kb ∧ H kb = some (.tup (k.map kV)) ∧ H D = some (.dT kvs) ∧ kvs.length < sizeLine ∧ N (upd H D (.dT (putK kvs k z)))
section
variable {K : PySem.W.Frag} {mx : List Addr} {G0 G G1 : GH} {H0 H H1 : Hp} {Γ : List (Option RP)} {Os : List (Addr × OP)} {Ts : List (V × RP)} {σ : L2.St} {te ta tb td ty tv tk : TE} {De : Ends} {p : Addr} {v y : V} {wi : TI} {g : TG} {tt : TT}
variable {κ κ' α β : Type} [DecidableEq κ] [DecidableEq κ'] {mk : List (κ' × V) → HO} [NTm mk] {f : κ → κ'} {k : κ} {R : α → RP} {xs : List α} {ek : κ → PyData} {stp : V → V → Addr → Hp → (Hp → Prop) → Prop}
/-- the step of a kind of dict -/
def StpOk (K : PySem.W.Frag) (mk : List (κ' × V) → HO) (f : κ → κ') (ek : κ → PyData) (stp : V → V → Addr → Hp → (Hp → Prop) → Prop) : Prop := ∀ (G : GH) (H : Hp) (y z : V) (k : κ) (us : List (κ' × V)) (D : Addr) (N : Hp → Prop), Fit G H → Dg K G y (ek k) → H D = some (mk us) → us.length < sizeLine → N (upd H D (mk (putK us (f k) z))) → stp y z D H N
theorem stpOk_S : StpOk K HO.dK keyS eS stpK := fun G H y z k us D N ft hy hD hl n => ⟨us, keyS k, Dg.str_inv hy, hD, hl, n⟩
theorem stpOk_T : StpOk K HO.dT keyT (eT eS) stpT := fun G H y z k us D N ft hy hD hl n => by
  obtain ⟨b, vs, rfl, hb, hr⟩ := Dg.tuple_inv hy
  have ev := strs_of hr
  subst ev
  exact ⟨us, keyT k, b, rfl, by rw [keyT_map]; exact hb.at' ft, hD, hl, n⟩
theorem stpOk_I : StpOk K HO.dT keyI (eT eI) stpT := fun G H y z k us D N ft hy hD hl n => by
  obtain ⟨b, vs, rfl, hb, hr⟩ := Dg.tuple_inv hy
  have ev := ints_of hr
  subst ev
  exact ⟨us, keyI k, b, rfl, by rw [kV_map]; exact hb.at' ft, hD, hl, n⟩
theorem edn_dc {vs : List Nat} {e : β → RP} {fm : α → Option (κ × β)} {kvs : List (κ × β)} (M : KeyM K mk f ek) (S : StpOk K mk f ek stp) (s : SA mx G0 H0 Γ Os Ts σ G H) (h : ESO wi σ G H R xs) (hm : fold (dstep fm) [] xs = some kvs)
    (turn : ∀ src x p, x ∈ xs → fm x = some p → ∀ v σ1 G1 H1, SA mx G0 H0 (wipeG Γ vs) Os ((v, R x) :: src :: Ts) σ1 G1 H1 → ∀ Q : L2.St → Hp → Prop, (∀ σ2, wipe σ2 vs = wipe σ1 vs → EV tk σ2 G1 H1 (D K (ek p.1)) → EV tv σ2 G1 H1 (e p.2) → Q σ2 H1) → g v σ1 H1 Q) :
    EDN K mk f (tDcG (mk []) stp wi g tYes tk tv vs) σ G H (kvs.map fun p => (p.1, e p.2)) := by
  intro G1 H1 g1 Q q
  refine h G1 H1 g1 _ fun J G2 H2 g2 hs => ?_
  have s2 := ((s.step g1).step g2).push (v := V.non) (R := isV .non) rfl
  have hxs := hs.len
  refine fun D0 nD => ?_
  refine ⟨fun i m H' => m = xs.length - i ∧ i ≤ xs.length ∧ ∃ G' acc ws, Gr [] G2 H2 G' H' ∧ SA mx G0 H0 Γ Os ((V.non, isV .non) :: Ts) σ G' H' ∧ G' D0 = none ∧ H' D0 = some (mk acc) ∧ DvA K G' f acc (ws.map fun p => (p.1, e p.2)) ∧ fold (dstep fm) ws (xs.drop i) = some kvs ∧ ws.length ≤ i,
    ⟨_, rfl, Nat.zero_le _, G2, [], [], (Gr.new g2.fit nD), s2.step (Gr.new g2.fit nD), g2.fit.none nD, upd_same, .nil, hm, Nat.le_refl _⟩, ?_⟩
  rintro i m H' ⟨rfl, hi, G', acc, ws, gg, s', nG, hD, hacc, hz, hwl⟩
  by_cases hlt : i < xs.length
  · have ex : xs[i]? = some xs[i] := List.getElem?_eq_getElem hlt
    obtain ⟨hgo, hy⟩ := hs.turn G' H' i _ gg ex
    rw [drop_at ex] at hz
    unfold fold at hz
    cases hd : dstep fm ws xs[i] with
    | none => rw [hd] at hz; cases hz
    | some ws' =>
      rw [hd] at hz
      have hz : fold (dstep fm) ws' (xs.drop (i + 1)) = some kvs := hz
      obtain ⟨pr, hpr, hput⟩ := bnd' hd
      obtain ⟨hwz, rfl⟩ := if_some hput
      refine .inr ⟨hgo, fun H' => ∃ G' acc, Gr [] G2 H2 G' H' ∧ SA mx G0 H0 Γ Os ((V.non, isV .non) :: Ts) σ G' H' ∧ G' D0 = none ∧ H' D0 = some (mk acc) ∧ DvA K G' f acc ((putA ws pr.1 pr.2).map fun p => (p.1, e p.2)), fun H'' ⟨G'', acc', a1, a2, a3, a4, a5⟩ => ⟨_, by omega, rfl, by omega, G'', acc', _, a1, a2, a3, a4, a5, hz, Nat.le_trans (putA_len ws pr.1 pr.2) (by omega)⟩, fun x H'' hyx => ?_⟩
      obtain ⟨Gy, gy, ry⟩ := hy x H'' hyx
      refine turn _ _ pr (List.mem_of_getElem? ex) hpr x _ Gy _ (((s'.step gy).wipe vs).push ry) _ fun σ2 hw hkk hvv => ⟨by rw [hw, wipe_wipe fun _ h => h], ?_⟩
      show tk σ2 H'' _
      refine hkk Gy H'' (Gr.refl gy.fit) _ fun yk G3 H3 g3 rk => hvv G3 H3 g3 _ fun z G4 H4 g4 rz => ?_
      have gt := (gy.trans g3).trans g4
      have hD4 := gt.at0 nG hD (NTm.nt _)
      have nG4 := gt.un nG hD (NTm.nt _)
      have hacc4 := hacc.mono gt.sub
      have hl4 := hacc4.length
      rw [List.length_map] at hl4
      refine S G4 H4 yk z pr.1 acc D0 _ g4.fit ((D K (ek pr.1)).mono g4.sub rk) hD4 (by omega) ⟨G4, _, ?_, ?_, nG4, upd_same, ?_⟩
      · exact Gr.putNew (gg.trans gt) nD nG4 hD4 (NTm.nt _) (NTm.nt _)
      · refine SA.putNew (s'.step gt) ((s2.g).free s2.f0 nD) nG4 hD4 (fun qq hqq z => ?_) (NTm.nt _) (NTm.nt _)
        obtain ⟨_, ⟨u6, e6, _⟩, _⟩ := s2.own qq hqq
        rw [z, nD] at e6; cases e6
      · rw [putA_map e]
        exact hacc4.put M.inj pr.1 rz
  · have e0 : i = xs.length := by omega
    subst e0
    rw [List.drop_length] at hz
    cases hz
    have hl := hacc.length
    rw [List.length_map] at hl
    exact .inl ⟨hs.stop G' H' gg, q D0 acc G' H' (g2.trans gg) nG (g2.free g1.fit nD) hD (by omega) hacc⟩
theorem tDc_eq {vs : List Nat} : tDc wi g tt tk tv vs = tDcG (.dK []) stpK wi g tt tk tv vs := rfl
theorem tDcT_eq {vs : List Nat} : tDcT wi g tt tk tv vs = tDcG (.dT []) stpT wi g tt tk tv vs := rfl
/-- x = a new dict, owned -/
theorem st_ownDN {i : Nat} {kvs : List (κ × RP)} (s : SA mx G0 H0 Γ Os Ts σ G H) (h : EDN K mk f te σ G H kvs) (k : ∀ p σ' G1 H1, p ∉ mx → SA mx G0 H0 (Γ.set i (some (isV (.ref p)))) ((p, Fz.ownD K mk f kvs) :: Os) Ts σ' G1 H1 → De.nx σ' H1) (hmx : ∀ a ∈ mx, H a ≠ none := by intro a h; cases h) : tAsg te (gName i) De σ H :=
  h G H (Gr.refl s.fit) _ fun p vs G2 H2 g n hn hp hz hr => by
    have s2 := s.step g
    have s3 : SA mx G0 H0 Γ ((p, Fz.ownD K mk f kvs) :: Os) Ts σ G2 H2 := by
      refine ⟨s2.f0, s2.g, s2.env, fun q hq => ?_, List.nodup_cons.mpr ⟨fun z => ?_, s2.nd⟩, s2.tmp⟩
      · rcases List.mem_cons.mp hq with rfl | hq
        · exact ⟨n, ⟨_, hp, vs, rfl, hz, hr⟩, .inr (s.g.free s.f0 hn)⟩
        · exact s2.own q hq
      · obtain ⟨q, hq, e⟩ := List.mem_map.mp z
        obtain ⟨_, ⟨u, e2, _⟩, _⟩ := s.own q hq
        rw [e, hn] at e2; cases e2
    exact k p _ G2 H2 (fun hm => hmx p hm hn) (s3.set (R := isV (.ref p)) i rfl)
/-- a new dict, finished at once -/
theorem EDN.ev {kvs : List (κ × RP)} (h : EDN K mk f te σ G H kvs) : EV te σ G H (Fz.fzD K mk f kvs) := fun G1 H1 g Q q => h G1 H1 g Q fun p vs G2 H2 g2 n hn hp hz hr =>
  q (.ref p) (updG G2 p (isO (mk vs))) H2 (g2.freeze hn n hp rfl (fun _ _ => rfl)) ⟨p, vs, rfl, hz, updG_same, hr.mono (Sub.upd n)⟩
/-- tuple(d), keys texts -/
theorem ev_tupleD {kvs : List (Tx × RP)} (hd : EDv K HO.dK keyS td σ G H kvs) (hk : ∀ kv ∈ kvs, kv.1.length ≤ sizeLine) : EV (tCB rTupleD (tCons td tNil)) σ G H (D K (eT eS (kvs.map (·.1)))) := fun G1 H1 g Q q =>
  hd G1 H1 g _ fun v G2 H2 g2 rv => by
    obtain ⟨p, us, rfl, z, hp, r⟩ := rv.at' g2.fit
    refine ⟨p, us, rfl, .inl hp, fun b hb => ?_⟩
    have e : us.map (fun kv => kV kv.1) = ((kvs.map (·.1)).map mkS).map V.str := by
      have := congrArg (List.map kV) r.keys
      rw [List.map_map, List.map_map] at this
      rw [List.map_map, List.map_map]
      exact this
    rw [e]
    have hl := r.length
    refine tup_new g2.fit hb (by rw [List.length_map, List.length_map, List.length_map]; omega) (of_strs fun l hl => ?_) fun v G4 H4 g4 r4 => q v G4 H4 (g2.trans g4) r4
    obtain ⟨kv, hkv, rfl⟩ := List.mem_map.mp hl
    exact hk kv hkv
end
/-! ### sorted(d), keys tuples of ints of one length -/
theorem code_bd {B : Int} (hB : 0 < B) : ∀ {l : List Int}, TS.Bd B l → 0 ≤ TS.code B l ∧ TS.code B l < B ^ l.length
  | [], _ => ⟨Int.le_refl _, by show (0 : Int) < B ^ 0; rw [Int.pow_zero]; decide⟩
  | x :: l, h => by
    have ih := code_bd hB (l := l) h.tail
    have hx := h.head
    have h1 := TS.num1 ih.1 ih.2 hx.1 hx.2
    show 0 ≤ x * B ^ l.length + TS.code B l ∧ x * B ^ l.length + TS.code B l < B ^ (l.length + 1)
    rw [Int.pow_succ]
    exact h1
theorem code_inj {B : Int} (hB : 0 < B) : ∀ {l m : List Int}, TS.Bd B l → TS.Bd B m → l.length = m.length → TS.code B l = TS.code B m → l = m
  | [], [], _, _, _, _ => rfl
  | [], _ :: _, _, _, h, _ => by simp at h
  | _ :: _, [], _, _, h, _ => by simp at h
  | x :: l, y :: m, h1, h2, hl, he => by
    have hl' : l.length = m.length := by simpa using hl
    have c1 := code_bd hB h1.tail
    have c2 := code_bd hB h2.tail
    have he : x * B ^ l.length + TS.code B l = y * B ^ m.length + TS.code B m := he
    rw [← hl'] at he c2
    have hp : 0 < B ^ l.length := Int.lt_of_le_of_lt c1.1 c1.2
    have hxy : x = y := by
      rcases Int.lt_trichotomy x y with h | h | h
      · have : (x + 1) * B ^ l.length ≤ y * B ^ l.length := Int.mul_le_mul_of_nonneg_right (by omega) (by omega)
        rw [Int.add_mul, Int.one_mul] at this
        omega
      · exact h
      · have : (y + 1) * B ^ l.length ≤ x * B ^ l.length := Int.mul_le_mul_of_nonneg_right (by omega) (by omega)
        rw [Int.add_mul, Int.one_mul] at this
        omega
    subst hxy
    rw [code_inj hB h1.tail h2.tail hl' (by omega)]
def okM (ks : List (List Int)) : Bool := decide (ks.length < 64) && ks.all fun k => decide (1 ≤ k.length) && decide (k.length = (ks.headD []).length) && k.all fun m => decide (0 ≤ m) && decide (m < 64)
def sortM (ks : List (List Int)) : List (List Int) := ks.mergeSort fun a b => decide (TS.code 64 a ≤ TS.code 64 b)
namespace Fm
def sortM (ks : List (List Int)) : Option (List (List Int)) := if okM ks = true then some (Fz.sortM ks) else none
end Fm
theorem okM_iff {ks : List (List Int)} (h : okM ks = true) : ks.length < 64 ∧ ∀ k ∈ ks, 1 ≤ k.length ∧ k.length = (ks.headD []).length ∧ TS.Bd 64 k := by
  unfold okM at h
  rw [Bool.and_eq_true, decide_eq_true_eq, List.all_eq_true] at h
  refine ⟨h.1, fun k hk => ?_⟩
  have := h.2 k hk
  rw [Bool.and_eq_true, Bool.and_eq_true, decide_eq_true_eq, decide_eq_true_eq, List.all_eq_true] at this
  refine ⟨this.1.1, this.1.2, fun m hm => ?_⟩
  have := this.2 m hm
  rw [Bool.and_eq_true, decide_eq_true_eq, decide_eq_true_eq] at this
  exact this
theorem sortM_eq {ks ks' : List (List Int)} (hk : okM ks = true) (h : ks'.Perm ks) (hp : ks'.Pairwise fun a b => TS.code 64 a ≤ TS.code 64 b) : ks' = sortM ks := by
  obtain ⟨_, hb⟩ := okM_iff hk
  have hm := List.mergeSort_perm ks fun a b => decide (TS.code 64 a ≤ TS.code 64 b)
  refine List.Perm.eq_of_pairwise (le := fun a b => TS.code 64 a ≤ TS.code 64 b) (fun a b ha hb' h1 h2 => ?_) hp ?_ (h.trans hm.symm)
  · have ka := hb a (h.mem_iff.mp ha)
    have kb := hb b (hm.mem_iff.mp hb')
    exact code_inj (by decide) ka.2.2 kb.2.2 (ka.2.1.trans kb.2.1.symm) (Int.le_antisymm h1 h2)
  · have := List.pairwise_mergeSort (le := fun (a b : List Int) => decide (TS.code 64 a ≤ TS.code 64 b)) (fun a b c h1 h2 => by simp only [decide_eq_true_eq] at *; omega) (fun a b => by simp only [Bool.or_eq_true, decide_eq_true_eq]; omega) ks
    exact this.imp fun {a b} h => of_decide_eq_true h
theorem dvI {K : PySem.W.Frag} {G : GH} {us : List (List Key × V)} {kvs : List (List Int × RP)} (h : DvA K G keyI us kvs) : ∃ ws : List (List Int × V), us = ws.map (fun kv => (kv.1.map Sum.inl, kv.2)) ∧ ws.map (·.1) = kvs.map (·.1) := by
  induction h with
  | nil => exact ⟨[], rfl, rfl⟩
  | @cons k v d us kvs h _ ih =>
    obtain ⟨ws, rfl, e⟩ := ih
    exact ⟨(k, v) :: ws, rfl, by rw [List.map_cons, List.map_cons, e]⟩
namespace Fm
/-- the values in the order of their keys -/
def sortV {α : Type} (kvs : List (List Int × α)) : Option (List α) := if okM (kvs.map (·.1)) = true ∧ ((kvs.map (·.1)).Nodup) then some ((Fz.sortM (kvs.map (·.1))).filterMap (look kvs)) else none
end Fm
theorem look_mem {κ α : Type} [DecidableEq κ] {kvs : List (κ × α)} {k : κ} (h : k ∈ kvs.map (·.1)) : ∃ a, look kvs k = some a := by
  cases hl : look kvs k with
  | some a => exact ⟨a, rfl⟩
  | none =>
    have h1 := any_look kvs k
    rw [hl] at h1
    obtain ⟨kv, hkv, e⟩ := List.mem_map.mp h
    have h2 : (kvs.any fun kv => decide (kv.1 = k)) = true := List.any_eq_true.mpr ⟨kv, hkv, decide_eq_true e⟩
    rw [h1] at h2
    cases h2
theorem fm_drop {α β : Type} {f : α → Option β} {l : List α} (h : ∀ x ∈ l, ∃ y, f x = some y) : ∀ {i : Nat} {x : α}, l[i]? = some x → ∃ y, f x = some y ∧ (l.filterMap f)[i]? = some y := by
  induction l with
  | nil => intro i x hx; simp at hx
  | cons a l ih =>
    intro i x hx
    obtain ⟨b, hb⟩ := h a List.mem_cons_self
    rw [List.filterMap_cons_some hb]
    cases i with
    | zero => simp at hx; subst hx; exact ⟨b, hb, rfl⟩
    | succ i =>
      obtain ⟨y, h1, h2⟩ := ih (fun x hx => h x (List.mem_cons_of_mem _ hx)) (i := i) (x := x) (by simpa using hx)
      exact ⟨y, h1, by simpa using h2⟩
theorem fm_len {α β : Type} {f : α → Option β} {l : List α} (h : ∀ x ∈ l, ∃ y, f x = some y) : (l.filterMap f).length = l.length := by
  induction l with
  | nil => rfl
  | cons a l ih =>
    obtain ⟨b, hb⟩ := h a List.mem_cons_self
    rw [List.filterMap_cons_some hb, List.length_cons, List.length_cons, ih fun x hx => h x (List.mem_cons_of_mem _ hx)]
/-- [d[k] for k in sorted(d)] -/
theorem en_sorted {K : PySem.W.Frag} {mx : List Addr} {G0 G : GH} {H0 H : Hp} {Γ : List (Option RP)} {Os : List (Addr × OP)} {Ts : List (V × RP)} {σ : L2.St} {p : Addr} {α : Type} {kvs : List (List Int × α)} {e : α → PyData} {ys : List α} (s : SA mx G0 H0 Γ Os Ts σ G H) (i o j : Nat) (hm : Fm.sortV kvs = some ys) (hj : i ≠ j := by decide) (hjl : j < Γ.length := by exact Nat.le_of_ble_eq_true rfl)
    (ei : Γ[i]? = some (some (isV (.ref p))) := by rfl) (eo : Os[o]? = some (p, Fz.ownD K HO.dT keyI (kvs.map fun q => (q.1, D K (e q.2)))) := by rfl) :
    EN K (tLc (iList K (tCB rSortedD (tCons (tVar i) tNil))) (gName j) tYes (tDGet (tVar i) (tVar j)) [j]) σ G H (ys.map e) := by
  obtain ⟨⟨hok, hnd⟩, rfl⟩ := if_some hm
  obtain ⟨h64, hall⟩ := okM_iff hok
  intro G1 H1 g1 Q q
  obtain ⟨w, hw, rw'⟩ := s.env.2 i _ ei
  have ew : w = .ref p := rw'
  subst ew
  have s1 := s.step g1
  obtain ⟨n, ⟨u, hu, us, eu, z, r⟩, _⟩ := s1.at_ o eo
  subst eu
  obtain ⟨ws, rfl, ew⟩ := dvI r
  have ew' : ws.map (·.1) = kvs.map (·.1) := by rw [ew, List.map_map]; rfl
  have hl : ws.length = kvs.length := by have := congrArg List.length ew'; rw [List.length_map, List.length_map] at this; exact this
  rw [List.length_map] at h64
  have mem : ∀ kv ∈ ws, kv.1 ∈ kvs.map (·.1) := fun kv hkv => by rw [← ew']; exact List.mem_map_of_mem hkv
  have hd1 : ws = [] ∨ 1 ≤ ((kvs.map (·.1)).headD []).length := by
    cases ws with
    | nil => exact .inl rfl
    | cons kv ws => have := hall kv.1 (mem kv List.mem_cons_self); exact .inr (by omega)
  -- sorted
  show (tCB rSortedD (tCons (tVar i) tNil)) σ H1 _
  refine ⟨_, hw, p, ws, max 1 ((kvs.map (·.1)).headD []).length, 64, rfl, .inl hu, by omega, by omega, fun kv hkv => ?_, fun ks b hperm hpw hH hb => ?_⟩
  · have := hall kv.1 (mem kv hkv)
    exact ⟨by omega, this.2.2⟩
  have e1 : ks.map (·.1) = sortM (kvs.map (·.1)) := sortM_eq hok (by rw [← ew']; exact hperm) (List.pairwise_map.mpr hpw)
  have hlen : ks.length = kvs.length := by have := hperm.length_eq; rw [List.length_map, List.length_map] at this; omega
  have hks : (ks.map fun q => V.ref q.2).length ≤ sizeLine := by rw [List.length_map, sizeLine_eq]; omega
  generalize hH2 : upd H1 b (.lst (ks.map fun q => V.ref q.2)) = H2
  have hb2 : H2 b = some (.lst (ks.map fun q => V.ref q.2)) := by rw [← hH2]; exact upd_same
  have keep : ∀ a x, H1 a = some x → H2 a = some x := fun a x ha => by rw [← hH2, upd_ne (ne_of_none ha hb)]; exact ha
  refine ⟨b, rfl, ⟨_, SqL.of hb2⟩, fun D0 nD => ?_⟩
  have hne : b ≠ D0 := fun z => by rw [z, nD] at hb2; cases hb2
  have memS : ∀ k ∈ sortM (kvs.map (·.1)), ∃ a, look kvs k = some a := fun k hk => look_mem ((List.mergeSort_perm _ _).mem_iff.mp hk)
  refine ⟨fun k m H' => m = ks.length - k ∧ k ≤ ks.length ∧ ∃ acc, H' = upd H2 D0 (.lst acc) ∧ DgAll K G1 acc ((((sortM (kvs.map (·.1))).filterMap (look kvs)).take k).map e) ∧ acc.length = k,
    ⟨_, rfl, Nat.zero_le _, [], rfl, .nil, rfl⟩, ?_⟩
  rintro k m H' ⟨rfl, hk, acc, rfl, hacc, hal⟩
  have hbk : upd H2 D0 (.lst acc) b = some (.lst (ks.map fun q => V.ref q.2)) := by rw [upd_ne hne]; exact hb2
  by_cases hlt : k < ks.length
  · have hx : (ks.map fun q => V.ref q.2)[k]? = some (.ref ks[k].2) := by rw [List.getElem?_map, List.getElem?_eq_getElem hlt]; rfl
    refine .inr ⟨⟨_, _, SqL.of hbk, hx⟩, fun H' => ∃ acc', H' = upd H2 D0 (.lst acc') ∧ DgAll K G1 acc' ((((sortM (kvs.map (·.1))).filterMap (look kvs)).take (k + 1)).map e) ∧ acc'.length = k + 1, fun H' ⟨acc', a1, a2, a3⟩ => ⟨ks.length - (k + 1), by omega, rfl, hlt, acc', a1, a2, a3⟩, fun x H'' hyx => ?_⟩
    obtain ⟨rfl, hyx⟩ := hyx
    have ex : x = .ref ks[k].2 := Option.some.inj ((hyx _ (SqL.of hbk)).symm.trans hx)
    subst ex
    have hsj : (sortM (kvs.map (·.1)))[k]? = some ks[k].1 := by rw [← e1, List.getElem?_map, List.getElem?_eq_getElem hlt]; rfl
    obtain ⟨a, hla, hfa⟩ := fm_drop memS hsj
    obtain ⟨v, hv, rv⟩ := (r.val (fun _ _ => keyI_inj) ks[k].1).2 (D K (e a)) (by rw [look_map (fun a => D K (e a)), hla]; rfl)
    have hσi : ((wipe σ [j]).set j (some (V.ref ks[k].2)))[i]? = some (some (.ref p)) := by
      rw [List.getElem?_set_ne (Ne.symm hj)]
      show (σ.set j none)[i]? = _
      rw [List.getElem?_set_ne (Ne.symm hj)]; exact hw
    have hlj : j < σ.length := by rw [s.env.1]; exact hjl
    refine ⟨wipe_set (by simp) |>.trans (wipe_wipe fun _ h => h), ?_⟩
    show tDGet (tVar i) (tVar j) _ _ _
    have hDk : upd H2 D0 (.lst acc) ks[k].2 = some (.tup (ks[k].1.map V.int)) := by
      have h1 := keep _ _ (hH ks[k] (List.getElem_mem hlt))
      rw [upd_ne (ne_of_none h1 nD)]; exact h1
    have hpk : upd H2 D0 (.lst acc) p = some (.dT (ws.map fun kv => (kv.1.map Sum.inl, kv.2))) := by
      have h1 := keep _ _ hu
      rw [upd_ne (ne_of_none h1 nD)]; exact h1
    refine ⟨_, hσi, _, by rw [List.getElem?_set_self (by show j < (σ.set j none).length; rw [List.length_set]; exact hlj)], p, v, rfl, .inr ⟨_, keyI ks[k].1, ks[k].2, .inl hpk, rfl, by rw [kV_map]; exact hDk, hv.symm⟩, acc, upd_same, by rw [hal, sizeLine_eq]; omega, acc ++ [v], upd_upd, ?_, by rw [List.length_append, hal]; rfl⟩
    have e3 : ((sortM (kvs.map (·.1))).filterMap (look kvs)).take (k + 1) = ((sortM (kvs.map (·.1))).filterMap (look kvs)).take k ++ [a] := by rw [List.take_succ, hfa]; rfl
    rw [e3, List.map_append]
    exact hacc.append (.cons rv .nil)
  · have ek : k = ks.length := by omega
    refine .inl ⟨⟨_, SqL.of hbk, by rw [List.length_map]; omega⟩, ?_⟩
    have hfl : ((sortM (kvs.map (·.1))).filterMap (look kvs)).length = ks.length := by rw [fm_len memS, ← e1, List.length_map]
    rw [List.take_of_length_le (by omega)] at hacc
    have gA : Gr [] G1 H1 G1 H2 := by rw [← hH2]; exact Gr.new g1.fit hb
    have gB : Gr [] G1 H2 G1 (upd H2 D0 (.lst acc)) := Gr.new gA.fit nD
    exact q D0 acc G1 _ (gA.trans gB) (gA.fit.none nD) (gA.free g1.fit nD) upd_same (by rw [hal, sizeLine_eq]; omega) hacc
end Fz
set_option Elab.async false
set_option linter.all false
set_option maxRecDepth 100000
set_option maxHeartbeats 2000000
/-! Fz: rows that are lists or tuples; dicts of which the keys alone are known. -/
namespace Fz
open PySem PySem.Spec PyProof.Rows L2
/-- a row of texts, a list (true) or a tuple -/
def eU (x : Bool × List Tx) : PyData := if x.1 = true then eL eS x.2 else eT eS x.2
/-- a dict, its keys -/
def fzK (K : PySem.W.Frag) (ks : List Tx) : RP := ⟨fun G v => ∃ kvs : List (Tx × RP), kvs.map (·.1) = ks ∧ (fzD K HO.dK keyS kvs).r G v, fun s ⟨kvs, e, h⟩ => ⟨kvs, e, (fzD K HO.dK keyS kvs).mono s h⟩⟩
def iOr (a b : TI) : TI := fun σ H R => a σ H R ∨ b σ H R
theorem pi_or {X : Cx} {tg l : Expr} {a b : TI} (h1 : PI X tg l a) (h2 : PI X tg l b) : PI X tg l (iOr a b) := ⟨fun pins s σ H R I h => h.elim (h1.run pins s σ H R I) (h2.run pins s σ H R I)⟩
section
variable {K : PySem.W.Frag} {mx : List Addr} {G0 G G1 : GH} {H0 H H1 : Hp} {Γ : List (Option RP)} {Os : List (Addr × OP)} {Ts : List (V × RP)} {σ : L2.St} {te ta tb td ty tv tl : TE} {x : Bool × List Tx} {ks : List Tx} {k : Tx}
theorem ev_lenU (ha : EV ta σ G H (D K (eU x))) : EV (tCB (fun xs H Q => ∃ p ys, xs = [.ref p] ∧ (SqL K H p ys ∨ SqT K H p ys) ∧ Q (.int ys.length) H) (tCons ta tNil)) σ G H (D K (eI x.2.length)) := by
  obtain ⟨b, x⟩ := x
  cases b with
  | true => exact ev_lenLm (e := eS) (EV.lv ha)
  | false => exact ev_lenT (e := eS) ha
theorem ev_tupleU (ha : EV ta σ G H (D K (eU x))) : EV (tCB (fun xs H Q => ∃ p ys, xs = [.ref p] ∧ ((SqL K H p ys ∧ ∀ l, H l = none → Q (.ref l) (upd H l (.tup ys))) ∨ (SqT K H p ys ∧ Q (.ref p) H))) (tCons ta tNil)) σ G H (D K (eT eS x.2)) := by
  obtain ⟨b, x⟩ := x
  cases b with
  | true => exact ev_tupleL (ds := x.map eS) (EV.lv ha)
  | false => exact ev_tupleT (ds := x.map eS) ha
theorem es_U (h : EV tl σ G H (D K (eU x))) : ES (iOr (iList K tl) (iTup K tl)) σ G H (fun x => D K (eS x)) x.2 := by
  obtain ⟨b, x⟩ := x
  cases b with
  | true => exact fun G1 H1 g Q q => .inl (es_list (e := eS) h G1 H1 g Q q)
  | false => exact fun G1 H1 g Q q => .inr (es_tup (e := eS) h G1 H1 g Q q)
theorem ev_ofL {l : List Tx} (h : EV te σ G H (D K (eL eS l))) : EV te σ G H (D K (eU (true, l))) := h
theorem ev_ofT {l : List Tx} (h : EV te σ G H (D K (eT eS l))) : EV te σ G H (D K (eU (false, l))) := h
theorem fzD_K {α : Type} {e : α → PyData} {kvs : List (Tx × α)} {v : V} (h : (fzD K HO.dK keyS (kvs.map fun p => (p.1, D K (e p.2)))).r G v) : (fzK K (kvs.map (·.1))).r G v := ⟨_, by rw [List.map_map]; rfl, h⟩
theorem ev_fzK {α : Type} {e : α → PyData} {kvs : List (Tx × α)} (h : EV te σ G H (fzD K HO.dK keyS (kvs.map fun p => (p.1, D K (e p.2))))) : EV te σ G H (fzK K (kvs.map (·.1))) := fun G1 H1 g Q q => h G1 H1 g Q fun v G2 H2 g2 r => q v G2 H2 g2 (fzD_K r)
theorem look_keys {α : Type} {kvs : List (Tx × α)} : (look kvs k).isSome = mem k (kvs.map (·.1)) := by
  rw [← any_look]
  unfold mem
  rw [List.any_map]
  rfl
theorem ev_dinK (hy : EV ty σ G H (D K (eS k))) (hd : EV td σ G H (fzK K ks)) : EV (tDIn ty td) σ G H (D K (eB (mem k ks))) := fun G1 H1 g Q q =>
  hy G1 H1 g _ fun y G2 H2 g2 ry => hd G2 H2 (g.trans g2) _ fun v G3 H3 g3 hr => by
    obtain ⟨kvs, hk, p, us, rfl, z, h, r⟩ := hr
    have hv : Dv K HO.dK keyS G3 H3 (.ref p) kvs := ⟨p, us, rfl, z, .inl h, r⟩
    obtain ⟨p', o, e, hg, ho, _⟩ := hv.get keyM_S g3.fit ((D K (eS k)).mono g3.sub ry)
    cases e
    refine ⟨p, o, rfl, hg, ?_⟩
    rw [ho, look_keys, hk]
    exact q _ G3 H3 (g2.trans g3) (.bl _)
theorem ev_dniK (hy : EV ty σ G H (D K (eS k))) (hd : EV td σ G H (fzK K ks)) : EV (tDNotIn ty td) σ G H (D K (eB (!mem k ks))) := fun G1 H1 g Q q =>
  hy G1 H1 g _ fun y G2 H2 g2 ry => hd G2 H2 (g.trans g2) _ fun v G3 H3 g3 hr => by
    obtain ⟨kvs, hk, p, us, rfl, z, h, r⟩ := hr
    have hv : Dv K HO.dK keyS G3 H3 (.ref p) kvs := ⟨p, us, rfl, z, .inl h, r⟩
    obtain ⟨p', o, e, hg, ho, _⟩ := hv.get keyM_S g3.fit ((D K (eS k)).mono g3.sub ry)
    cases e
    refine ⟨p, o, rfl, hg, ?_⟩
    rw [ho, look_keys, hk]
    exact q _ G3 H3 (g2.trans g3) (.bl _)
end
end Fz
set_option Elab.async false
set_option linter.all false
set_option maxRecDepth 100000
set_option maxHeartbeats 4000000
/-! Machine rules that the layer lacks: a name = a dict comprehension (HandS.Comp's row on a list comprehension turned). -/
namespace Fz
open PySem PySem.Spec PyProof.Rows L2
section
variable {X : Cx}
theorem ps_setDc {i : Nat} {y : Str} {py : Pos} {kx vx tg iter : Expr} {ifs : List Expr} {scope : Scope} {own : List (Str × Nat)} {pos spos : Pos} {wi : TI} {g : TG} {tt : TT} {tk tv : TE} (hc : X.calm = true) (hN : X.N.Nodup) (hy : X.N[i]? = some y) (hyl : X.env.scope.names.lookup y = some .local)
    (hsw : swapsWith (.DictComp kx vx [⟨tg, iter, ifs, 0⟩] scope pos) (some (.Name y py)) spos.line X.env = pure true) (hi : PI X tg iter wi) (ok : BlkOk X.N X.env.scope scope own)
    (hg : ∀ (s : Shared) (H : Hp) (C : Addr) (cl : List (Str × Addr)) (fp : List Addr), PG (X.blk s H scope (compEnvC scope cl C X.env) fp) tg g) (ht : ∀ (s : Shared) (H : Hp) (C : Addr) (cl : List (Str × Addr)) (fp : List Addr), PTs (X.blk s H scope (compEnvC scope cl C X.env) fp) ifs tt)
    (hk : ∀ (s : Shared) (H : Hp) (C : Addr) (cl : List (Str × Addr)) (fp : List Addr), PE (X.blk s H scope (compEnvC scope cl C X.env) fp) kx tk)
    (he : ∀ (s : Shared) (H : Hp) (C : Addr) (cl : List (Str × Addr)) (fp : List Addr), PE (X.blk s H scope (compEnvC scope cl C X.env) fp) vx tv) (hs : ∀ x, foldedSetIterable iter X.env x = pure x := by intro _; rfl) :
    PS X (.Assign [.Name y py] (.DictComp kx vx [⟨tg, iter, ifs, 0⟩] scope pos) spos) (tAsg (tDc wi g tt tk tv (own.map (·.2))) (gName i)) := by
  refine ⟨fun pins s σ H D I h => ?_⟩
  rw [exec_Assign_Name_used _ _ _ _ hsw]
  refine wpAny_bind (wpAny_standAt (wpAny_bind ?_))
  show wpAny _ X.A (do let _ ← comprehension (.DictComp kx vx [⟨tg, iter, ifs, 0⟩] scope pos) scope X.env (firstIterPos [⟨tg, iter, ifs, 0⟩] pos) newDict false (eval iter X.env) (some (assign (.Name y py) X.env))) _ _ s
  have h : tDc wi g tt tk tv (own.map (·.2)) σ H (fun x H1 => gName i x σ H1 D.nx) := h
  refine wpAny_bind (thn (dc_core (Qf := fun _ s' => SP X pins D .next s') hc hN I hi ok hg ht hk he hs h fun L C s' m H' I' q hn f => ?_) fun _ s' hq => wpAny_pure (wpAny_pure hq))
  show wpAny _ _ (assign (.Name y py) X.env (.ref L)) _ _ _
  refine wpAny_assign_Name (store_ok2 (v := V.ref L) I' hN hy (.inl hyl) rfl (fun s2 I2 ⟨a, sb, ha⟩ => ?_) (.inr hyl))
  obtain ⟨f0, f1, f2, f3, f4, f5⟩ := f
  have haC : C ≠ a := by
    rcases ha with z | z
    · rw [z]; exact f1
    · exact fun e => f4 y a z e.symm
  refine ⟨m, hn.sameBut sb haC, fun h3 sb3 => ?_⟩
  exact ⟨_, H', I2.turned (t' := s2.toks) (fun b o hb e => (sb3.2 b hb).trans e) f0 f1 f3 f4 f5, q⟩
theorem sw_trueD {kx vx : Expr} {gs : List Comprehension} {scope : Scope} {pos py : Pos} {y : Str} {l : Nat} {env : PySem.Env} (hk : env.scope.kind = .function) (hy : env.scope.names.lookup y = some .local) (hl : (py.line == pos.line) = true)
    (ha : (scope.names.any fun (n, k) => n == y && (k == .local || k == .cell)) = false) : swapsWith (.DictComp kx vx gs scope pos) (some (.Name y py)) l env = pure true := by
  have ky : env.kindOf y = some .local := hy
  have hb : env.blockKind = .function := by unfold PySem.Env.blockKind; rw [hk]; rfl
  unfold swapsWith
  simp only [hb, ky, ha, Expr.pos, hl]
  rfl
end
end Fz
set_option Elab.async false
set_option linter.all false
set_option maxRecDepth 100000
set_option maxHeartbeats 2000000
/-! Fz: objects of the program's classes. -/
namespace Fz
open PySem PySem.Spec PyProof.Rows L2
inductive FsR (G : GH) : List (Str × V) → List (Str × RP) → Prop
  | nil : FsR G [] []
  | cons {f : Str} {v : V} {R : RP} {fs : List (Str × V)} {rs : List (Str × RP)} : R.r G v → FsR G fs rs → FsR G ((f, v) :: fs) ((f, R) :: rs)
theorem FsR.mono {G G' : GH} (s : Sub G G') {fs : List (Str × V)} {rs : List (Str × RP)} (h : FsR G fs rs) : FsR G' fs rs := by
  induction h with
  | nil => exact .nil
  | @cons f v R fs rs h _ ih => exact .cons (R.mono s h) ih
theorem FsR.get {G : GH} {fs : List (Str × V)} {rs : List (Str × RP)} (h : FsR G fs rs) {f : Str} {R : RP} (hl : rs.lookup f = some R) : ∃ v, fs.lookup f = some v ∧ R.r G v := by
  induction h with
  | nil => cases hl
  | @cons f0 v R0 fs rs h _ ih =>
    rw [List.lookup_cons] at hl ⊢
    cases e : f == f0 with
    | true => rw [e] at hl; cases hl; exact ⟨v, rfl, h⟩
    | false => rw [e] at hl; exact ih hl
theorem FsR.length {G : GH} {fs : List (Str × V)} {rs : List (Str × RP)} (h : FsR G fs rs) : fs.length = rs.length := by
  induction h with
  | nil => rfl
  | cons _ _ ih => rw [List.length_cons, List.length_cons, ih]
/-- a field stored: in its place, or behind -/
def putR : Str → RP → List (Str × RP) → List (Str × RP)
  | f, R, [] => [(f, R)]
  | f, R, (g, S) :: r => if g = f then (g, R) :: r else (g, S) :: putR f R r
theorem FsR.put {G : GH} {fs : List (Str × V)} {rs : List (Str × RP)} (h : FsR G fs rs) {f : Str} {v : V} {R : RP} (hv : R.r G v) : FsR G (putF f v fs) (putR f R rs) := by
  induction h with
  | nil => exact .cons hv .nil
  | @cons g w S fs rs hw h2 ih =>
    unfold putF putR
    by_cases e : g = f
    · rw [if_pos e, if_pos e]; exact .cons hv h2
    · rw [if_neg e, if_neg e]; exact .cons hw ih
/-- an instance that is held -/
def ownI (C : Addr) (rs : List (Str × RP)) : OP := ⟨fun G o => ∃ dx fs, o = .ins C dx fs ∧ FsR G fs rs, fun ⟨_, _, e, _⟩ => (by rw [e]; intro _ h; cases h), fun s ⟨dx, fs, e, h⟩ => ⟨dx, fs, e, h.mono s⟩⟩
/-- an instance that nobody changes any more -/
def fzI (C : Addr) (rs : List (Str × RP)) : RP := ⟨fun G v => ∃ x dx fs, v = .ref x ∧ G x = some (isO (.ins C dx fs)) ∧ FsR G fs rs, fun s ⟨x, dx, fs, e, h, r⟩ => ⟨x, dx, fs, e, s _ _ h, r.mono s⟩⟩
section
variable {K : PySem.W.Frag} {mx : List Addr} {G0 G G1 : GH} {H0 H H1 : Hp} {Γ : List (Option RP)} {Os : List (Addr × OP)} {Ts : List (V × RP)} {σ : L2.St} {te ta tb td ty tv : TE} {De : Ends} {p C : Addr} {v y : V} {R : RP} {rs : List (Str × RP)} {f : Str}
theorem ev_fld (c : Cls K C) (n : NoAttr K C f) (h : EV ta σ G H (fzI C rs)) (hl : rs.lookup f = some R := by rfl) : EV (tFld K ta f) σ G H R := fun G1 H1 g Q q =>
  h G1 H1 g _ fun v G2 H2 g2 rv => by
    obtain ⟨x, dx, fs, rfl, hx, hr⟩ := rv
    obtain ⟨w, hw, rw'⟩ := hr.get hl
    exact ⟨x, C, dx, fs, w, rfl, g2.fit.at' hx, c, n, hw, q w G2 H2 g2 rw'⟩
/-- a field of an instance that is held in slot i -/
theorem SA.fld (s : SA mx G0 H0 Γ Os Ts σ G H) (i j : Nat) (c : Cls K C) (n : NoAttr K C f) (hl : rs.lookup f = some R := by rfl) (e : Γ[i]? = some (some (isV (.ref p))) := by rfl) (eo : Os[j]? = some (p, ownI C rs) := by rfl) : EV (tFld K (tVar i) f) σ G H R := by
  obtain ⟨w, hw, rw'⟩ := s.env.2 i _ e
  have ew : w = .ref p := rw'
  subst ew
  obtain ⟨n', ⟨u, hu, dx, fs, eu, hr⟩, _⟩ := s.at_ j eo
  subst eu
  exact fun G1 H1 g Q q => ⟨_, hw, by
    obtain ⟨z, hz, rz⟩ := (hr.mono g.sub).get hl
    exact ⟨p, C, dx, fs, z, rfl, g.at0 n' hu, c, n, hz, q z G1 H1 (Gr.refl g.fit) rz⟩⟩
/-- x.f = e, x held -/
theorem st_fld (s : SA mx G0 H0 Γ Os Ts σ G H) (i j : Nat) (c : Cls K C) (n : NoAttr K C f) (h : EV tv σ G H R) (k : ∀ G1 H1, SA mx G0 H0 Γ (Os.set j (p, ownI C (putR f R rs))) Ts σ G1 H1 → De.nx σ H1) (hl : rs.length < 1000 := by exact Nat.le_of_ble_eq_true rfl)
    (e : Γ[i]? = some (some (isV (.ref p))) := by rfl) (eo : Os[j]? = some (p, ownI C rs) := by rfl) : sFld K (tVar i) tv f De σ H := by
  refine h.go s.fit fun v G2 H2 g rv => ?_
  have s2 := s.step g
  obtain ⟨w, hw, rw'⟩ := s2.env.2 i _ e
  have ew : w = .ref p := rw'
  subst ew
  obtain ⟨n', ⟨u, hu, dx, fs, eu, hr⟩, _⟩ := s2.at_ j eo
  subst eu
  exact ⟨_, hw, p, C, dx, fs, rfl, hu, c, n, by rw [hr.length]; exact hl, k G2 _ (s2.put (P' := ownI C (putR f R rs)) j eo ⟨dx, _, rfl, hr.put rv⟩)⟩
/-- what an __init__ promises: from a bare instance to one with these fields -/
def spInit {X Y : Type} (C : Addr) (enc : X → List RP) (m : X → Option Y) (fsr : Y → List (Str × RP)) : Sp := fun vs H Q E => ∃ G b x y us, vs = .ref b :: us ∧ Fit G H ∧ G b = none ∧ (∃ dx, H b = some (.ins C dx [])) ∧ RAll G us (enc x) ∧ m x = some y ∧
  ∀ G' H', Gr [b] G H G' H' → (∃ dx fs, H' b = some (.ins C dx fs) ∧ FsR G' fs (fsr y)) → Q .non H'
theorem spInit_len {X Y : Type} {enc : X → List RP} {m : X → Option Y} {fsr : Y → List (Str × RP)} {vs : List V} {Q : VK} {E : XK} {k : Nat} (h : spInit C enc m fsr vs H Q E) (hk : ∀ x, (enc x).length + 1 = k := by intro _; rfl) : vs.length = k := by
  obtain ⟨G, b, x, y, us, rfl, f, n, ho, rs, hm, q⟩ := h
  rw [List.length_cons, rs.length, hk]
theorem spInit_go {X Y : Type} {enc : X → List RP} {m : X → Option Y} {fsr : Y → List (Str × RP)} {vs : List V} {Q : VK} {E : XK} {N : List Str} {t : TS} (h : spInit C enc m fsr vs H Q E) (k : ∀ b G x y, m x = some y → SA [b] G H ((isV (.ref b) :: enc x).map some ++ List.replicate (N.length - (isV (.ref b) :: enc x).length) none) [(b, ownI C [])] [] (L2.start N vs) G H → (∀ G' H' Ts' σ' Γ' Os', SA [b] G H Γ' Os' Ts' σ' G' H' → (b, ownI C (fsr y)) ∈ Os' → Q .non H') → t De (L2.start N vs) H) : t De (L2.start N vs) H := by
  obtain ⟨G, b, x, y, us, rfl, f, n, ⟨dx, ho⟩, rs, hm, q⟩ := h
  refine k b G x y hm (SA.start f (env_start (.cons rfl rs)) (fun p hp => ?_) (List.nodup_cons.mpr ⟨by simp, List.nodup_nil⟩)) fun G' H' _ _ _ _ s hm => q G' H' s.g ?_
  · rw [List.mem_singleton.mp hp]
    exact ⟨n, ⟨_, ho, dx, [], rfl, .nil⟩, .inl (List.mem_singleton.mpr rfl)⟩
  · obtain ⟨_, ⟨o, ho', dx', fs, eo, hr⟩, _⟩ := s.own _ hm
    subst eo
    exact ⟨dx', fs, ho', hr⟩
/-- C(..): the instance is new, the frozen stays; k says how it is held on -/
theorem make_go {X Y : Type} {enc : X → List RP} {m : X → Option Y} {fsr : Y → List (Str × RP)} {x : X} {yy : Y} {t : TA} {E : XK} {Q : VK} (ha : EA t σ G H (enc x)) (hm : m x = some yy) (f0 : Fit G H)
    (k : ∀ b dx fs G' H', Gr [] G H G' H' → G' b = none → H b = none → H' b = some (.ins C dx fs) → FsR G' fs (fsr yy) → Q (.ref b) H') : tMake C (spInit C enc m fsr) [] E t σ H Q := by
  refine ha.go f0 fun vs G2 H2 g2 rs => fun b dx hb hdx hne => ?_
  have g3 : Gr [] G2 H2 G2 (upd H2 dx (.own b)) := Gr.new g2.fit hdx
  have hb3 : upd H2 dx (.own b) b = none := by rw [upd_ne (Ne.symm hne)]; exact hb
  have g4 : Gr [] G2 (upd H2 dx (.own b)) G2 (upd (upd H2 dx (.own b)) b (.ins C dx [])) := Gr.new g3.fit hb3
  refine ⟨G2, b, x, yy, vs, by rw [List.append_nil], g4.fit, g2.fit.none hb, ⟨dx, upd_same⟩, rs, hm, fun G' H' g5 ⟨dx', fs, hh, hr⟩ => ⟨rfl, ?_⟩⟩
  have gt : Gr [] G H G' H' := ((g2.trans g3).trans g4).trans' g5 fun a ha => by
    rw [List.mem_singleton.mp ha]; exact .inr (g2.free f0 hb)
  have nb : G' b = none := g5.un (g2.fit.none hb) upd_same
  exact k b dx' fs G' H' gt nb (g2.free f0 hb) hh hr
theorem ev_make {X Y : Type} {enc : X → List RP} {m : X → Option Y} {fsr : Y → List (Str × RP)} {x : X} {yy : Y} {t : TA} {E : XK} (ha : EA t σ G H (enc x)) (hm : m x = some yy) : EV (tMake C (spInit C enc m fsr) [] E t) σ G H (fzI C (fsr yy)) := fun G1 H1 g Q q =>
  make_go (ha.mono g) hm g.fit fun b dx fs G' H' g2 nb hb hh hr => q (.ref b) (updG G' b (isO (.ins C dx fs))) H' (g2.freeze hb nb hh rfl) ⟨b, dx, fs, rfl, updG_same, hr.mono (Sub.upd nb)⟩
end
end Fz
set_option Elab.async false
set_option linter.all false
set_option maxRecDepth 100000
set_option maxHeartbeats 2000000
/-! Fz: defs of classes. -/
namespace Fz
open PySem PySem.Spec PyProof.Rows L2
theorem lookup_at {rs : List (Str × RP)} {f : Str} {R : RP} (ns : List Str) (n : Nat) (hns : rs.map (·.1) = ns := by rfl) (hn : rs[n]? = some (f, R) := by rfl) (h : ((ns.take n).all fun g => decide (g ≠ f)) = true := by decide +kernel) : rs.lookup f = some R := by
  subst hns
  induction rs generalizing n with
  | nil => simp at hn
  | cons p rs ih =>
    obtain ⟨g, S⟩ := p
    cases n with
    | zero =>
      simp at hn
      obtain ⟨rfl, rfl⟩ := hn
      rw [List.lookup_cons]
      simp
    | succ n =>
      rw [List.map_cons, List.take_succ_cons, List.all_cons, Bool.and_eq_true] at h
      have hne : (f == g) = false := by
        have := of_decide_eq_true h.1
        exact beq_eq_false_iff_ne.mpr (Ne.symm this)
      rw [List.lookup_cons, hne]
      exact ih n (by simpa using hn) h.2
theorem putR_new {rs : List (Str × RP)} {f : Str} {R : RP} (ns : List Str) (hns : rs.map (·.1) = ns := by rfl) (h : (ns.all fun g => decide (g ≠ f)) = true := by decide +kernel) : putR f R rs = rs ++ [(f, R)] := by
  subst hns
  induction rs with
  | nil => rfl
  | cons p rs ih =>
    obtain ⟨g, S⟩ := p
    rw [List.map_cons, List.all_cons, Bool.and_eq_true] at h
    unfold putR
    rw [if_neg (of_decide_eq_true h.1), ih h.2]
    rfl
section
variable {K : PySem.W.Frag} {mx : List Addr} {G0 G G1 : GH} {H0 H H1 : Hp} {Γ : List (Option RP)} {Os : List (Addr × OP)} {Ts : List (V × RP)} {σ : L2.St} {te ta tb td ty tv : TE} {De : Ends} {p C : Addr} {v y : V} {R : RP} {rs : List (Str × RP)} {f : Str}
/-- x.f = e, x held, f a new field -/
theorem st_fldN (s : SA mx G0 H0 Γ Os Ts σ G H) (i j : Nat) (ns : List Str) (c : Cls K C) (n : NoAttr K C f) (h : EV tv σ G H R) (k : ∀ G1 H1, SA mx G0 H0 Γ (Os.set j (p, ownI C (rs ++ [(f, R)]))) Ts σ G1 H1 → De.nx σ H1)
    (e : Γ[i]? = some (some (isV (.ref p))) := by rfl) (eo : Os[j]? = some (p, ownI C rs) := by rfl) (hns : rs.map (·.1) = ns := by rfl) (hl : ns.length < 1000 := by decide +kernel) (hn : (ns.all fun g => decide (g ≠ f)) = true := by decide +kernel) : sFld K (tVar i) tv f De σ H :=
  st_fld s i j c n h (fun G1 H1 s1 => k G1 H1 (s1.to rfl (by rw [putR_new ns hns hn]))) (by rw [← List.length_map (f := (·.1)) (as := rs), hns]; exact hl) e eo
end
abbrev MtD (K : PySem.W.Frag) (C m qual : Str) (st : Stmt) : Prop := ∃ fd, FunD K m qual (defArgs st) (defBody st) (defScope st) [] [] (He.ma K (He.ga K C) m) fd
structure Mok (P : Program) (w : World) (K : PySem.W.Frag) (mg : Str → Option Value) (base : Heap) (k : Nat) (C m : Str) (ps : List Str) (sp : Sp) : Prop where
  ok : ∃ fd, Binds K fd ps [] ∧ FnOk P w K mg base CX0 k (He.ma K (He.ga K C) m) fd ps sp
section
variable {P : Program} {w : World} {K : PySem.W.Frag} {mg : Str → Option Value} {base : Heap} {k : Nat} {C m qual : Str} {st : Stmt} {N ps : List Str} {sp : Sp}
theorem Mok.mono {j : Nat} (h : Mok P w K mg base j C m ps sp) (l : j ≤ k) : Mok P w K mg base k C m ps sp := ⟨let ⟨fd, b, f⟩ := h.ok; ⟨fd, b, f.mono l⟩⟩
theorem Mok.mk' (d : MtD K C m qual st)
    (hb : ∀ (kV doc pm : Value) (an : Option Addr) (cdv ct : Value) (us : List Value), us.length = ps.length → bindArgs (PySem.W.fnOf m qual (defArgs st) (defBody st) (defScope st) .none kV doc pm an cdv ct) ⟨us, []⟩ = pure (ps.zip us))
    (S : FnScope N ps (defScope st)) (len : ∀ vs H Q E, sp vs H Q E → vs.length = ps.length)
    (hbody : ∀ (cdv : Value) (A : Around) (outer : List PySem.Env) (s : Shared) (H : Hp) (vs : List V) (Q : VK) (E : XK), Room k (A.deeper (envOfC qual (defScope st) s.heap.objs.size (He.ma K (He.ga K C) m) cdv)) → sp vs H Q E →
      ∃ t, PSs (cxOf CX0 P w K mg base N qual (defScope st) (He.ma K (He.ga K C) m) cdv A outer s H E).nox (defBody st) t ∧ t { nx := fun _ H' => Q .non H', rt := Q } (L2.start N vs) H) : Mok P w K mg base (k + 1) C m ps sp := by
  obtain ⟨fd, F⟩ := d
  refine ⟨fd, F.bindsN hb, F.ok S len fun cdv A outer s H vs Q E hr hsp => ?_⟩
  obtain ⟨t, h, q⟩ := hbody cdv A outer s H vs Q E hr hsp
  exact ⟨t, h.nox, q⟩
end
section
variable {X : Cx} {C : Str} {k : Nat} {ps : List Str} {sp : Sp} {e : Expr} {es : List Expr} {t : TA} {p pos : Pos}
theorem pe_makeF (M : Mk X.K (He.ga X.K C) (He.ma X.K (He.ga X.K C) "__init__")) (h : Mok X.prog X.w X.K X.mg X.base k C "__init__" ps sp) (hr : Room (k + 1) X.A) (g : X.mg C = some (.ref (He.ga X.K C))) (ha : PA X (e :: es) t) (hg : Gl X C := by rfl) (hd : (C == ("__debug__" : Str)) = false := by decide)
    (he : starEach (e :: es) X.env = (false, eval e X.env) :: starEach es X.env := by rfl) (hpl : (backTo pos (starEach es X.env)).any (·.1) = false := by rfl) : PE X (.Call (.Name C p) (e :: es) [] pos) (tMake (He.ga X.K C) sp [] E0 t) := by
  obtain ⟨fd, b, f⟩ := h.ok
  exact pe_make M f hr hg g b .nil pass0 ha hd he hpl
end
end Fz
set_option Elab.async false
set_option linter.all false
set_option maxRecDepth 100000
set_option maxHeartbeats 2000000
/-! Fz: f-strings. -/
namespace Fz
open PySem PySem.Spec PyProof.Rows L2
namespace Fm
def cats (xs : List Tx) : Option Tx := if (xs.map List.length).sum ≤ sizeLine then some xs.flatten else none
end Fm
section
variable {K : PySem.W.Frag} {σ : L2.St} {G : GH} {H : Hp} {te : TE} {s : Tx} {i : Int}
theorem ev_fmtS (h : EV te σ G H (D K (eS s))) : EV (tFmt te) σ G H (D K (eS s)) := fun G1 H1 g Q q => h G1 H1 g _ fun v G2 H2 g2 r => .inl ⟨mkS s, Dg.str_inv r, Dg.str_len r, q _ G2 H2 g2 (.str _ (Dg.str_len r))⟩
theorem ev_fmtI (h : EV te σ G H (D K (eI i))) (hm : Fm.strI i = some s) : EV (tFmt te) σ G H (D K (eS s)) := fun G1 H1 g Q q => h G1 H1 g _ fun v G2 H2 g2 r => by
  obtain ⟨⟨c, c2⟩, rfl⟩ := if_some hm
  refine .inr ⟨i, Dg.int_inv r, c, q _ G2 H2 g2 ?_⟩
  show Dg K G2 (.str (Str.ofString (toString i))) (.str (mkS (strI i)))
  rw [strI_str]
  exact .str _ (by rw [mkS_len]; exact c2)
inductive EJ (K : PySem.W.Frag) (σ : L2.St) (G : GH) (H : Hp) : List TE → List Tx → Prop
  | nil : EJ K σ G H [] []
  | cons {t : TE} {ts : List TE} {x : Tx} {xs : List Tx} : EV t σ G H (D K (eS x)) → EJ K σ G H ts xs → EJ K σ G H (t :: ts) (x :: xs)
theorem ej_run {ts : List TE} {xs : List Tx} (h : EJ K σ G H ts xs) : ∀ (acc : Tx) (G1 : GH) (H1 : Hp), Gr [] G H G1 H1 → acc.length + (xs.map List.length).sum ≤ sizeLine → ∀ Q : Str → Hp → Prop, (∀ G2 H2, Gr [] G1 H1 G2 H2 → Q (mkS (acc ++ xs.flatten)) H2) → tJs ts (mkS acc) σ H1 Q := by
  induction h with
  | nil =>
    intro acc G1 H1 g hl Q q
    have := q G1 H1 (Gr.refl g.fit)
    rw [List.flatten_nil, List.append_nil] at this
    exact this
  | @cons t ts x xs hx hr ih =>
    intro acc G1 H1 g hl Q q
    rw [List.map_cons, List.sum_cons] at hl
    refine hx G1 H1 g _ fun v G2 H2 g2 r => ⟨mkS x, Dg.str_inv r, ?_, ?_⟩
    · rw [mkS_app, mkS_len, List.length_append]; omega
    · rw [mkS_app]
      refine ih (acc ++ x) G2 H2 (g.trans g2) (by rw [List.length_append]; omega) Q fun G3 H3 g3 => ?_
      have := q G3 H3 (g2.trans g3)
      rw [List.flatten_cons, ← List.append_assoc] at this
      exact this
theorem ev_joined {ts : List TE} {xs : List Tx} {out : Tx} (h : EJ K σ G H ts xs) (hm : Fm.cats xs = some out) : EV (fun σ H Q => tJs ts Str.empty σ H fun out H1 => Q (.str out) H1) σ G H (D K (eS out)) := fun G1 H1 g Q q => by
  obtain ⟨c, rfl⟩ := if_some hm
  refine ej_run h [] G1 H1 g (by simpa using c) _ fun G2 H2 g2 => ?_
  exact q _ G2 H2 g2 (.str _ (by rw [mkS_len]; rw [List.nil_append, List.length_flatten]; exact c))
end
end Fz
set_option Elab.async false
set_option linter.all false
set_option maxRecDepth 100000
set_option maxHeartbeats 2000000
/-! Fz: isinstance of data. -/
namespace Fz
open PySem PySem.Spec PyProof.Rows L2
def tyD : PyData → String
  | .none => "NoneType"
  | .bool _ => "bool"
  | .int _ => "int"
  | .str _ => "str"
  | .list _ => "list"
  | .tuple _ => "tuple"
  | _ => ""
theorem Dg.tyX {K : PySem.W.Frag} {G : GH} {H : Hp} {v : V} {d : PyData} (f : Fit G H) (h : Dg K G v d) : TyX K H v (.type (tyD d)) := by
  cases h with
  | non => exact .base .non
  | bl b => exact .base (.bl b)
  | int i => exact .base (.int i)
  | str x _ => exact .base (.str x)
  | lst h r => exact .base (.lst (h.at' f))
  | tup h r => exact .base (.tup (h.at' f))
theorem ev_isi {K : PySem.W.Frag} {σ : L2.St} {G : GH} {H : Hp} {ta : TE} {d : PyData} {b : String} {r : Bool} (a : String) (ha : EV ta σ G H (D K d)) (hk : kitB a b = some r := by decide +kernel) (hd : tyD d = a := by rfl) : EV (tCB (rIsi K) (tCons ta (tCons (tC (.ty b)) tNil))) σ G H (D K (eB r)) := fun G1 H1 g Q q =>
  ha G1 H1 g _ fun v G2 H2 g2 rv => ⟨v, .ty b, .type (tyD d), .type b, r, rfl, .ty b, Dg.tyX g2.fit rv, by rw [hd]; exact kit_ty hk, q _ G2 H2 g2 (.bl r)⟩
/-- .. of a list that may be held -/
theorem ev_isiL {K : PySem.W.Frag} {σ : L2.St} {G : GH} {H : Hp} {ta : TE} {ds : List PyData} {b : String} {r : Bool} (ha : EL K ta σ G H ds) (hk : kitB "list" b = some r := by decide +kernel) : EV (tCB (rIsi K) (tCons ta (tCons (tC (.ty b)) tNil))) σ G H (D K (eB r)) := fun G1 H1 g Q q =>
  ha G1 H1 g _ fun v G2 H2 g2 rv => by
    obtain ⟨p, vs, rfl, _, hp, _⟩ := rv.at' g2.fit
    exact ⟨.ref p, .ty b, .type "list", .type b, r, rfl, .ty b, .base (.lst hp), kit_ty hk, q _ G2 H2 g2 (.bl r)⟩
theorem call_isiKK {X : Cx} {K : PySem.W.Frag} (h : X.K = K := by rfl) : CallR X (.builtin "isinstance") (rIsi K) := by subst h; exact call_isi
end Fz
set_option Elab.async false
set_option linter.all false
set_option maxRecDepth 100000
set_option maxHeartbeats 2000000
/-! Fz: objects with one field that changes (a cache). -/
namespace Fz
open PySem PySem.Spec PyProof.Rows L2
/-- an object that is known by what stays true of it is changed, and that stays true -/
theorem Gr.phi {mx : List Addr} {G : GH} {H : Hp} {x : Addr} {φ : HO → Prop} {o : HO} (f : Fit G H) (hx : G x = some φ) (hp : φ o) (nt : NT o := by intro _ h; cases h) : Gr mx G H G (upd H x o) := ⟨Sub.refl G, (fun b ψ e => by
    by_cases hb : b = x
    · subst hb; rw [hx] at e; cases e; exact ⟨o, upd_same, hp, fun xs z => absurd z (nt xs)⟩
    · obtain ⟨u, q, p⟩ := f b ψ e; exact ⟨u, by rw [upd_ne hb]; exact q, p⟩), (fun b u n e ntu => by
    have hb : b ≠ x := fun z => by rw [z, hx] at n; cases n
    have q : upd H x o b = some u := by rw [upd_ne hb]; exact e
    exact ⟨n, ⟨u, q, ntu⟩, fun _ => q⟩), fun b xs e => by
    by_cases hb : b = x
    · subst hb
      obtain ⟨u, q, p, k⟩ := f b φ hx
      rw [e] at q
      cases q
      have hk := k xs rfl
      rw [hk] at hp
      exact absurd hp (nt xs)
    · rw [upd_ne hb]; exact e⟩
def varφ (C dx : Addr) (a b : List (Str × V)) (g : Str) (A : V → Prop) : HO → Prop := fun o => ∃ t, A t ∧ o = .ins C dx (a ++ (g, t) :: b)
/-- an instance whose field g holds some t with A t, the other fields for good -/
def fzV (C : Addr) (ra : List (Str × RP)) (g : Str) (A : V → Prop) (rb : List (Str × RP)) : RP := ⟨fun G v => ∃ x dx a b, v = .ref x ∧ G x = some (varφ C dx a b g A) ∧ FsR G a ra ∧ FsR G b rb, fun s ⟨x, dx, a, b, e, h, ha, hb⟩ => ⟨x, dx, a, b, e, s _ _ h, ha.mono s, hb.mono s⟩⟩
theorem FsR.append {G : GH} {a b : List (Str × V)} {ra rb : List (Str × RP)} (h : FsR G a ra) (h' : FsR G b rb) : FsR G (a ++ b) (ra ++ rb) := by
  induction h with
  | nil => exact h'
  | cons h _ ih => exact .cons h ih
theorem lookup_skip {f g : Str} {t : V} (hne : (f == g) = false) : ∀ (a b : List (Str × V)), (a ++ (g, t) :: b).lookup f = (a ++ b).lookup f
  | [], b => by rw [List.nil_append, List.nil_append, List.lookup_cons, hne]
  | (k, v) :: a, b => by
    rw [List.cons_append, List.cons_append, List.lookup_cons, List.lookup_cons, lookup_skip hne a b]
theorem FsR.none {G : GH} {fs : List (Str × V)} {rs : List (Str × RP)} (h : FsR G fs rs) {g : Str} (hn : ((rs.map (·.1)).all fun k => decide (k ≠ g)) = true) : (∀ t b, (fs ++ (g, t) :: b).lookup g = some t) ∧ ∀ t u b, putF g u (fs ++ (g, t) :: b) = fs ++ (g, u) :: b := by
  induction h with
  | nil =>
    refine ⟨fun t b => ?_, fun t u b => ?_⟩
    · rw [List.nil_append, List.lookup_cons]; simp
    · show putF g u ((g, t) :: b) = (g, u) :: b
      unfold putF
      rw [if_pos rfl]
  | @cons k v R fs rs h _ ih =>
    rw [List.map_cons, List.all_cons, Bool.and_eq_true] at hn
    have hk : k ≠ g := of_decide_eq_true hn.1
    obtain ⟨i1, i2⟩ := ih hn.2
    refine ⟨fun t b => ?_, fun t u b => ?_⟩
    · rw [List.cons_append, List.lookup_cons, beq_eq_false_iff_ne.mpr (Ne.symm hk)]
      exact i1 t b
    · rw [List.cons_append, List.cons_append]
      unfold putF
      rw [if_neg hk, i2 t u b]
section
variable {K : PySem.W.Frag} {mx : List Addr} {G0 G G1 : GH} {H0 H H1 : Hp} {Γ : List (Option RP)} {Os : List (Addr × OP)} {Ts : List (V × RP)} {σ : L2.St} {te ta tb td ty tv : TE} {De : Ends} {p C : Addr} {v y : V} {R : RP} {ra rb : List (Str × RP)} {f g : Str} {A : V → Prop}
theorem ev_fldV (c : Cls K C) (n : NoAttr K C f) (h : EV ta σ G H (fzV C ra g A rb)) (hl : (ra ++ rb).lookup f = some R) (hne : (f == g) = false := by decide +kernel) : EV (tFld K ta f) σ G H R := fun G1 H1 gg Q q =>
  h G1 H1 gg _ fun v G2 H2 g2 rv => by
    obtain ⟨x, dx, a, b, rfl, hx, ha, hb⟩ := rv
    obtain ⟨o, ho, ⟨t, _, rfl⟩, _⟩ := g2.fit x _ hx
    obtain ⟨w, hw, rw'⟩ := (ha.append hb).get hl
    exact ⟨x, C, dx, _, w, rfl, ho, c, n, by rw [lookup_skip hne]; exact hw, q w G2 H2 g2 rw'⟩
/-- the field that changes: some value with A -/
theorem ev_fldA (c : Cls K C) (n : NoAttr K C g) (h : EV ta σ G H (fzV C ra g A rb)) (hn : ((ra.map (·.1)).all fun k => decide (k ≠ g)) = true) : EV (tFld K ta g) σ G H ⟨fun _ v => A v, fun _ h => h⟩ := fun G1 H1 gg Q q =>
  h G1 H1 gg _ fun v G2 H2 g2 rv => by
    obtain ⟨x, dx, a, b, rfl, hx, ha, hb⟩ := rv
    obtain ⟨o, ho, ⟨t, ht, rfl⟩, _⟩ := g2.fit x _ hx
    exact ⟨x, C, dx, _, t, rfl, ho, c, n, (ha.none hn).1 t b, q t G2 H2 g2 ht⟩
/-- .. stored -/
theorem st_fldA (s : SA mx G0 H0 Γ Os Ts σ G H) (c : Cls K C) (n : NoAttr K C g) (h : EV ta σ G H (fzV C ra g A rb)) (hv : EV tv σ G H R) (hA : ∀ G v, R.r G v → A v) (hn : ((ra.map (·.1)).all fun k => decide (k ≠ g)) = true) (hl : ra.length + rb.length < 999) (k : ∀ G1 H1, SA mx G0 H0 Γ Os Ts σ G1 H1 → De.nx σ H1) : sFld K ta tv g De σ H := by
  refine hv.go s.fit fun w G2 H2 g2 rw' => (h.mono g2).go g2.fit fun v G3 H3 g3 rv => ?_
  have s3 := (s.step g2).step g3
  obtain ⟨x, dx, a, b, rfl, hx, ha, hb⟩ := rv
  obtain ⟨o, ho, ⟨t, ht, rfl⟩, _⟩ := g3.fit x _ hx
  refine ⟨x, C, dx, _, rfl, ho, c, n, ?_, ?_⟩
  · rw [List.length_append, List.length_cons, ha.length, hb.length]; omega
  · rw [(ha.none hn).2 t w b]
    exact k G3 _ (s3.step (Gr.phi g3.fit hx ⟨w, hA G2 w rw', rfl⟩))
end
end Fz
set_option Elab.async false
set_option linter.all false
set_option maxRecDepth 100000
set_option maxHeartbeats 2000000
/-! Fz: the script that is read; a bag is made. -/
namespace Fz
open PySem PySem.Spec PyProof.Rows L2
theorem Fit.sub {G G' : GH} {H : Hp} (s : Sub G G') (f : Fit G' H) : Fit G H := fun a φ h => f a φ (s a φ h)
/-- a list of ints that is read alone -/
def isScr (K : PySem.W.Frag) (ns : List Int) : RP := ⟨fun G v => ∃ a, v = .ref a ∧ ∀ H, Fit G H → SqL K H a (ns.map V.int), fun s ⟨a, e, h⟩ => ⟨a, e, fun H f => h H (f.sub s)⟩⟩
namespace Fm
def cutL {α : Type} (xs : List α) (lo hi : Option Int) : Option (List α) := if (Fm.cut xs lo hi).length ≤ sizeLine then some (Fm.cut xs lo hi) else none
def bagOk (cells : List Int) (mix : Int) : Option Unit := if (cells.all fun n => decide (0 ≤ n)) = true ∧ 0 ≤ mix ∧ mix < 2147483647 then some () else none
end Fm
section
variable {K : PySem.W.Frag} {σ : L2.St} {G : GH} {H : Hp} {te tc tm : TE} {ns zs : List Int} {tl th : TO} {lo hi : Option Int}
theorem ev_slScr (ha : EV te σ G H (isScr K ns)) (h1 : EO K tl σ G H lo) (h2 : EO K th σ G H hi) (hm : Fm.cutL ns lo hi = some zs) : EV (tSl (rSlL K) te tl th) σ G H (D K (eL eI zs)) := fun G1 H1 g Q q =>
  ha G1 H1 g _ fun u G2 H2 g2 ru => h1 G2 H2 (g.trans g2) _ fun G3 H3 g3 => h2 G3 H3 ((g.trans g2).trans g3) _ fun G4 H4 g4 => by
    obtain ⟨c, rfl⟩ := if_some hm
    obtain ⟨a, rfl, hs⟩ := ru
    have f4 : Fit G2 H4 := g4.fit.sub (g3.sub.trans g4.sub)
    refine ⟨a, ns.map V.int, rfl, hs H4 f4, fun b hb => ?_⟩
    refine lst_new g4.fit hb (by rw [cutV_eq, cut_map, List.length_map]; exact c) ?_ fun v G5 H5 g5 r5 => q v G5 H5 (((g2.trans g3).trans g4).trans g5) r5
    rw [cutV_eq, cut_map]
    exact of_ints
/-- [cells, 0, 0, mix, 0] -/
theorem ev_bag {cells : List Int} {mix : Int} (hc : EV tc σ G H (D K (eL eI cells))) (hx : EV tm σ G H (D K (eI mix))) (hm : Fm.bagOk cells mix = some ()) : EV (tLst (tCons tc (tCons (tC (.int 0)) (tCons (tC (.int 0)) (tCons tm (tCons (tC (.int 0)) tNil)))))) σ G H (isBag K) := fun G1 H1 g Q q =>
  hc G1 H1 g _ fun vc G2 H2 g2 rc => hx G2 H2 (g.trans g2) _ fun vm G3 H3 g3 rm => by
    obtain ⟨⟨c1, c2, c3⟩, _⟩ := if_some hm
    have em := Dg.int_inv rm
    subst em
    obtain ⟨c, vs, rfl, hf, hr⟩ := Dg.list_inv rc
    have ev := ints_of hr
    subst ev
    refine ⟨by show 5 ≤ sizeLine; decide, fun p hp => ?_⟩
    have g4 : Gr [] G3 H3 (updG G3 p (bagφ c)) (upd H3 p (.lst [.ref c, .int 0, .int 0, .int mix, .int 0])) :=
      Gr.freeze (Gr.new g3.fit hp) hp (g3.fit.none hp) upd_same ⟨⟨0, 0, mix, 0⟩, ⟨Int.le_refl _, Int.le_refl _, c2, c3, Int.le_refl _⟩, rfl⟩
    refine q (.ref p) _ _ ((g2.trans g3).trans g4) ⟨p, c, cells.map V.int, rfl, updG_same, (hf.mono g3.sub).mono g4.sub, cells, rfl, fun n hn => ?_⟩
    have := List.all_eq_true.mp c1 n hn
    rw [decide_eq_true_eq] at this
    exact this
end
end Fz
set_option Elab.async false
set_option linter.all false
set_option maxRecDepth 100000
set_option maxHeartbeats 2000000
/-! Fz: a dict with tuple keys is walked (it is locked while that lasts). -/
namespace Fz
open PySem PySem.Spec PyProof.Rows L2
section
variable {K : PySem.W.Frag} {mx : List Addr} {G0 G G1 G2 : GH} {H0 H H1 H2 : Hp} {Γ : List (Option RP)} {Os : List (Addr × OP)} {Ts : List (V × RP)} {σ : L2.St} {te td tl : TE} {d p : Addr} {o o' : HO}
/-- an unfrozen object is another for a while -/
theorem Gr.swap (g : Gr [] G H G1 H1) (n : G d = none) (h : H d = some o) (nt : NT o := by intro _ h; cases h) (nt' : NT o' := by intro _ h; cases h) : Gr [] G (upd H d o') G1 (upd H1 d o') := by
  have n1 := g.un n h nt
  have h1 := g.at0 n h nt
  have ht : ∀ xs, H1 d ≠ some (.tup xs) := fun xs z => by rw [h1] at z; exact nt xs (Option.some.inj z)
  refine ⟨g.sub, (Gr.put (mx := [d]) g.fit n1 (by simp) ht nt').fit, fun a u na ha nta => ?_, fun a xs ha => ?_⟩
  · by_cases e : a = d
    · subst e
      rw [upd_same] at ha
      cases ha
      exact ⟨n1, ⟨o', upd_same, nt'⟩, fun _ => upd_same⟩
    · rw [upd_ne e] at ha
      obtain ⟨m1, ⟨w, e1, ntw⟩, k1⟩ := g.own a u na ha nta
      exact ⟨m1, ⟨w, by rw [upd_ne e]; exact e1, ntw⟩, fun hx => by rw [upd_ne e]; exact k1 hx⟩
  · by_cases e : a = d
    · subst e; rw [upd_same] at ha; exact absurd (Option.some.inj ha) (nt' xs)
    · rw [upd_ne e] at ha ⊢; exact g.tup a xs ha
theorem upd_back (h : H d = some o) : upd (upd H d o') d o = H := by
  funext b
  by_cases e : b = d
  · subst e; rw [upd_same, h]
  · rw [upd_ne e, upd_ne e]
/-- the dict at d locked: what makes a new dict meanwhile -/
theorem edn_lock {κ κ' : Type} {mk : List (κ' × V) → HO} {f : κ → κ'} {kvs : List (κ × RP)} {us : List (List Key × V)} (n : G d = none) (hd : H d = some (.dT us)) (f0 : Fit G H)
    (h : ∀ od, EDN K mk f te σ G (upd H d (.frz od (.dT us))) kvs) : EDN K mk f (tLockE te) σ G H kvs := fun G1 H1 g Q q => by
  have h1 := g.at0 n hd
  have n1 := g.un n hd
  refine ⟨d, .dT us, h1, trivial, fun od => ?_⟩
  refine h od G1 _ (g.swap n hd) _ fun p ws G2 H2 g2 np hp hh hz hr => ?_
  have hfr : H2 d = some (.frz od (.dT us)) := g2.at0 n1 upd_same
  have hpd : p ≠ d := fun z => by rw [z, upd_same] at hp; cases hp
  rw [upd_ne hpd] at hp
  refine ⟨hfr, ?_⟩
  have gb := g2.swap (o' := .dT us) n1 upd_same
  rw [upd_back h1] at gb
  exact q p ws G2 _ gb np hp (by rw [upd_ne hpd]; exact hh) hz hr
/-- the keys of the locked dict, tuples of texts -/
theorem eso_keysT {us : List (List Key × V)} {od : Obj} {kvs : List (List Tx × RP)} (n : G d = none) (hd : H d = some (.frz od (.dT us))) (hr : DvA K G keyT us kvs) (hz : us.length ≤ sizeLine) (hk : ∀ kv ∈ kvs, kv.1.length ≤ sizeLine ∧ ∀ l ∈ kv.1, l.length ≤ sizeLine)
    (hv : ∀ G1 H1, Gr [] G H G1 H1 → ∀ Q : VK, Q (.ref d) H1 → td σ H1 Q) : ESO (iKeys td) σ G H (fun x => D K (eT eS x)) (kvs.map (·.1)) := fun G1 H1 g Q q => hv G1 H1 g _ (by
  have h1 := g.at0 n hd
  have n1 := g.un n hd
  refine ⟨d, od, rfl, .inr ⟨us, h1, q _ G1 H1 (Gr.refl g.fit) ⟨fun G2 H2 i x g2 hx => ?_, fun G2 H2 g2 => ?_, ?_⟩⟩⟩
  · have h2 := g2.at0 n1 h1
    have hi : i < us.length := by
      obtain ⟨hi, _⟩ := List.getElem?_eq_some_iff.mp hx
      rw [List.length_map, ← hr.length] at hi
      exact hi
    refine ⟨⟨h2, hi⟩, fun v H' hy => ?_⟩
    obtain ⟨rfl, k, w, q', hkv, rfl, hq⟩ := hy
    have hkeys := congrArg (fun l => l[i]?) hr.keys
    simp only [List.getElem?_map] at hkeys
    rw [List.getElem?_map] at hx
    cases hkk : kvs[i]? with
    | none => rw [hkk] at hx; cases hx
    | some kv =>
      rw [hkk] at hx hkeys
      rw [hkv] at hkeys
      have ek : k = keyT kv.1 := Option.some.inj hkeys
      have ex : kv.1 = x := Option.some.inj hx
      subst ex ek
      obtain ⟨G', g', hG'⟩ := tup_fz (mx := []) g2.fit hq
      have hb := hk kv (List.mem_of_getElem? hkk)
      refine ⟨G', g', .tup (xs := (kv.1.map mkS).map V.str) ⟨by rw [List.length_map, List.length_map]; exact hb.1, ?_⟩ (of_strs hb.2)⟩
      rw [hG', keyT_map]
  · exact ⟨g2.at0 n1 h1, by rw [List.length_map, hr.length]; exact Nat.le_refl _⟩
  · rw [List.length_map, ← hr.length]; exact hz)
end
end Fz
set_option Elab.async false
set_option linter.all false
set_option maxRecDepth 100000
set_option maxHeartbeats 2000000
/-! Fz: a call that changes several held objects. -/
namespace Fz
open PySem PySem.Spec PyProof.Rows L2
section
variable {K : PySem.W.Frag} {mx : List Addr} {G0 G G1 : GH} {H0 H H1 : Hp} {Γ : List (Option RP)} {A A' B : List (Addr × OP)} {Ts : List (V × RP)} {σ : L2.St}
/-- what is held -/
def Held (G : GH) (H : Hp) (A : List (Addr × OP)) : Prop := ∀ p ∈ A, G p.1 = none ∧ ∃ o, H p.1 = some o ∧ p.2.r G o
theorem SA.held {Os : List (Addr × OP)} (s : SA mx G0 H0 Γ Os Ts σ G H) : Held G H Os := fun p hp => let ⟨n, h, _⟩ := s.own p hp; ⟨n, h⟩
theorem SA.stepA (s : SA mx G0 H0 Γ (A ++ B) Ts σ G H) (g : Gr (A.map (·.1)) G H G1 H1) (ha : Held G1 H1 A') (hn : ∀ p ∈ A', p.1 ∈ A.map (·.1) ∨ H p.1 = none) (nd : (A'.map (·.1)).Nodup) : SA mx G0 H0 Γ (A' ++ B) Ts σ G1 H1 := by
  have ndA := s.nd
  rw [List.map_append] at ndA
  obtain ⟨nA, nB, dis⟩ := List.nodup_append.mp ndA
  have inA : ∀ a ∈ A.map (·.1), a ∈ mx ∨ H0 a = none := fun a h => by
    obtain ⟨p, hp, rfl⟩ := List.mem_map.mp h
    exact (s.own p (List.mem_append_left _ hp)).2.2
  refine ⟨s.f0, s.g.trans' g inA, s.env.mono g.sub, fun p hp => ?_, ?_, fun t h => t.2.mono g.sub (s.tmp t h)⟩
  · rcases List.mem_append.mp hp with hp | hp
    · obtain ⟨n, h⟩ := ha p hp
      refine ⟨n, h, ?_⟩
      rcases hn p hp with h1 | h1
      · exact inA _ h1
      · exact .inr (s.g.free s.f0 h1)
    · obtain ⟨n, ⟨o, e, r⟩, h⟩ := s.own p (List.mem_append_right _ hp)
      have hne : p.1 ∉ A.map (·.1) := fun z => dis _ z _ (List.mem_map_of_mem hp) rfl
      exact ⟨g.un n e (p.2.nt r), ⟨o, g.at_ n e hne (p.2.nt r), p.2.mono g.sub r⟩, h⟩
  · rw [List.map_append]
    refine List.nodup_append.mpr ⟨nd, nB, fun a h1 b h2 e => ?_⟩
    subst e
    obtain ⟨p, hp, rfl⟩ := List.mem_map.mp h1
    rcases hn p hp with h3 | h3
    · exact dis _ h3 _ h2 rfl
    · obtain ⟨q, hq, e⟩ := List.mem_map.mp h2
      obtain ⟨_, ⟨o, eo, _⟩, _⟩ := s.own q (List.mem_append_right _ hq)
      rw [e, h3] at eo
      cases eo
/-- the start of a def that holds several objects -/
theorem SA.startA {Os : List (Addr × OP)} (f : Fit G H) (e : Env G σ Γ) (ho : Held G H Os) (nd : (Os.map (·.1)).Nodup) : SA (Os.map (·.1)) G H Γ Os [] σ G H := SA.start f e (fun p hp => let ⟨n, h⟩ := ho p hp; ⟨n, h, .inl (List.mem_map_of_mem hp)⟩) nd
/-- a tuple of values of any kind -/
def tupR (K : PySem.W.Frag) (Rs : List RP) : RP := ⟨fun G v => ∃ t vs, v = .ref t ∧ FzT K G t vs ∧ RAll G vs Rs, fun s ⟨t, vs, e, h, r⟩ => ⟨t, vs, e, h.mono s, r.mono s⟩⟩
/-- a list of values of any kind, held -/
def ownR (Rs : List RP) : OP := ⟨fun G o => ∃ vs, o = .lst vs ∧ vs.length ≤ sizeLine ∧ RAll G vs Rs, fun ⟨_, e, _⟩ => (by rw [e]; intro _ h; cases h), fun s ⟨vs, e, z, h⟩ => ⟨vs, e, z, h.mono s⟩⟩
end
end Fz
set_option Elab.async false
set_option linter.all false
set_option maxRecDepth 100000
set_option maxHeartbeats 2000000
/-! Fz: new held objects in fields. -/
namespace Fz
open PySem PySem.Spec PyProof.Rows L2
/-- te makes a new object of which P is true -/
def EOb (te : TE) (σ : L2.St) (G : GH) (H : Hp) (P : OP) : Prop := ∀ G1 H1, Gr [] G H G1 H1 → ∀ Q : VK, (∀ p o G2 H2, Gr [] G1 H1 G2 H2 → G2 p = none → H1 p = none → H2 p = some o → P.r G2 o → Q (.ref p) H2) → te σ H1 Q
section
variable {K : PySem.W.Frag} {mx : List Addr} {G0 G G1 : GH} {H0 H H1 : Hp} {Γ : List (Option RP)} {Os : List (Addr × OP)} {Ts : List (V × RP)} {σ : L2.St} {te tv : TE} {De : Ends} {p C : Addr} {rs : List (Str × RP)} {f : Str} {P : OP}
theorem eob_dK {κ : Type} {g : κ → Key} : EOb tDNewK σ G H (ownD K HO.dK g []) := fun G1 H1 gg Q q p hp => q p _ G1 _ (Gr.new gg.fit hp) (gg.fit.none hp) hp upd_same ⟨[], rfl, Nat.zero_le _, .nil⟩
theorem eob_dT {κ : Type} {g : κ → List Key} : EOb tDNewT σ G H (ownD K HO.dT g []) := fun G1 H1 gg Q q p hp => q p _ G1 _ (Gr.new gg.fit hp) (gg.fit.none hp) hp upd_same ⟨[], rfl, Nat.zero_le _, .nil⟩
theorem eob_nil : EOb (tLst tNil) σ G H (ownR []) := fun G1 H1 gg Q q => ⟨Nat.zero_le _, fun p hp => q p _ G1 _ (Gr.new gg.fit hp) (gg.fit.none hp) hp upd_same ⟨[], rfl, Nat.zero_le _, .nil⟩⟩
theorem ev_dnewK {κ : Type} {g : κ → Key} : EV tDNewK σ G H (fzD K HO.dK g []) := fun G1 H1 gg Q q p hp => q (.ref p) _ _ (Gr.make gg.fit hp) ⟨p, [], rfl, Nat.zero_le _, updG_same, .nil⟩
/-- x.f = a new object, x held, f a new field -/
theorem st_fldOb (s : SA mx G0 H0 Γ Os Ts σ G H) (i j : Nat) (ns : List Str) (c : Cls K C) (n : NoAttr K C f) (h : EOb tv σ G H P) (k : ∀ q G1 H1, SA mx G0 H0 Γ ((q, P) :: Os.set j (p, ownI C (rs ++ [(f, isV (.ref q))]))) Ts σ G1 H1 → De.nx σ H1)
    (e : Γ[i]? = some (some (isV (.ref p))) := by rfl) (eo : Os[j]? = some (p, ownI C rs) := by rfl) (hns : rs.map (·.1) = ns := by rfl) (hl : ns.length < 1000 := by decide +kernel) (hn : (ns.all fun g => decide (g ≠ f)) = true := by decide +kernel) : sFld K (tVar i) tv f De σ H := by
  refine h G H (Gr.refl s.fit) _ fun q o G2 H2 g nq hq hh hP => ?_
  have s2 := s.step g
  have s3 : SA mx G0 H0 Γ ((q, P) :: Os) Ts σ G2 H2 := by
    refine ⟨s2.f0, s2.g, s2.env, fun r hr => ?_, List.nodup_cons.mpr ⟨fun z => ?_, s2.nd⟩, s2.tmp⟩
    · rcases List.mem_cons.mp hr with rfl | hr
      · exact ⟨nq, ⟨o, hh, hP⟩, .inr (s.g.free s.f0 hq)⟩
      · exact s2.own r hr
    · obtain ⟨r, hr, e'⟩ := List.mem_map.mp z
      obtain ⟨_, ⟨u, e2, _⟩, _⟩ := s.own r hr
      rw [e', hq] at e2; cases e2
  obtain ⟨w, hw, rw'⟩ := s3.env.2 i _ e
  have ew : w = .ref p := rw'
  subst ew
  have eo' : ((q, P) :: Os)[j + 1]? = some (p, ownI C rs) := by simpa using eo
  obtain ⟨n', ⟨u, hu, dx, fs, eu, hr⟩, _⟩ := s3.at_ (j + 1) eo'
  subst eu
  refine ⟨_, hw, p, C, dx, fs, rfl, hu, c, n, ?_, ?_⟩
  · rw [hr.length, ← List.length_map (f := (·.1)) (as := rs), hns]; exact hl
  · have s4 := s3.put (P' := ownI C (putR f (isV (.ref q)) rs)) (j + 1) eo' ⟨dx, _, rfl, hr.put (f := f) (v := .ref q) (R := isV (.ref q)) rfl⟩
    rw [putR_new ns hns hn] at s4
    exact k q G2 _ s4
end
end Fz
set_option Elab.async false
set_option linter.all false
set_option maxRecDepth 100000
set_option maxHeartbeats 2000000
/-! Fz: held dicts and lists reached through a field. -/
namespace Fz
open PySem PySem.Spec PyProof.Rows L2
section
variable {K : PySem.W.Frag} {mx : List Addr} {G0 G G1 : GH} {H0 H H1 : Hp} {Γ : List (Option RP)} {Os : List (Addr × OP)} {Ts : List (V × RP)} {σ : L2.St} {te td ty tv : TE} {De : Ends} {p C : Addr} {Rs : List RP} {R : RP}
variable {κ κ' α : Type} [DecidableEq κ] [DecidableEq κ'] {mk : List (κ' × V) → HO} [NTm mk] {f : κ → κ'} {kvs : List (κ × RP)} {k : κ} {ek : κ → PyData} {d : RP}
theorem SA.heldD (s : SA mx G0 H0 Γ Os Ts σ G H) (j : Nat) (h : EV td σ G H (isV (.ref p))) (eo : Os[j]? = some (p, Fz.ownD K mk f kvs) := by rfl) : EDv K mk f td σ G H kvs := by
  obtain ⟨n, ⟨u, hu, us, eu, z, hr⟩, _⟩ := s.at_ j eo
  subst eu
  exact fun G1 H1 g Q q => h G1 H1 g _ fun v G2 H2 g2 rv => by
    have ev : v = .ref p := rv
    subst ev
    have gt := g.trans g2
    exact q _ G2 H2 g2 ⟨p, us, rfl, z, .inr ⟨gt.un n hu (NTm.nt us), gt.at0 n hu (NTm.nt us)⟩, hr.mono gt.sub⟩
/-- e.d[k] = v, the dict held -/
theorem st_dputE (M : KeyM K mk f ek) (s : SA mx G0 H0 Γ Os Ts σ G H) (j : Nat) (hd : EV td σ G H (isV (.ref p))) (hv : EV tv σ G H d) (hy : EV ty σ G H (D K (ek k))) (hl : kvs.length < sizeLine) (kk : ∀ G1 H1, SA mx G0 H0 Γ (Os.set j (p, Fz.ownD K mk f (putA kvs k d))) Ts σ G1 H1 → De.nx σ H1)
    (eo : Os[j]? = some (p, Fz.ownD K mk f kvs) := by rfl) : sDPut td ty tv De σ H := by
  refine hv.go s.fit fun v G2 H2 g2 rv => (hd.mono g2).go g2.fit fun w Gw Hw gw rw' => ?_
  have ew : w = .ref p := rw'
  subst ew
  have s2 := (s.step g2).step gw
  refine (hy.mono (g2.trans gw)).go s2.fit fun y G3 H3 g3 ry => ?_
  have s3 := s2.step g3
  obtain ⟨n, ⟨o, ho, us, eu, z, hr⟩, hf⟩ := s3.at_ j eo
  subst eu
  have hl2 := hr.length
  refine ⟨p, _, rfl, M.put g3.fit ry ho (by omega), kk G3 _ (s3.put (P' := Fz.ownD K mk f (putA kvs k d)) j eo ⟨_, rfl, ?_, hr.put M.inj k (d.mono g3.sub (d.mono gw.sub rv))⟩)⟩
  have := length_putK us (f k) v
  omega
theorem RAll.app {G : GH} {vs us : List V} {Rs Ss : List RP} (h : RAll G vs Rs) (h' : RAll G us Ss) : RAll G (vs ++ us) (Rs ++ Ss) := by
  induction h with
  | nil => exact h'
  | cons h _ ih => exact .cons h ih
/-- what makes a value and may make new held objects meanwhile -/
def ENw (te : TE) (mx : List Addr) (G0 : GH) (H0 : Hp) (Γ : List (Option RP)) (Os : List (Addr × OP)) (Ts : List (V × RP)) (σ : L2.St) (H : Hp) (New : List (Addr × OP) → RP → Prop) : Prop := ∀ Q : VK, (∀ v A R G2 H2, New A R → SA mx G0 H0 Γ (A ++ Os) Ts σ G2 H2 → R.r G2 v → Q v H2) → te σ H Q
/-- e.f.append(x), the list held, x may bring new held objects -/
theorem st_appendE (s : SA mx G0 H0 Γ Os Ts σ G H) (j : Nat) (hd : EV td σ G H (isV (.ref p))) (hz : Rs.length < sizeLine) {New : List (Addr × OP) → RP → Prop}
    (h : ∀ G1 H1, SA mx G0 H0 Γ Os Ts σ G1 H1 → ENw te mx G0 H0 Γ Os Ts σ H1 New)
    (k : ∀ A R G1 H1, New A R → SA mx G0 H0 Γ (A ++ Os.set j (p, ownR (Rs ++ [R]))) Ts σ G1 H1 → De.nx σ H1) (eo : Os[j]? = some (p, ownR Rs) := by rfl) : tDrop (tBM K "list" rAppend td (tCons te tNil)) De σ H := by
  refine hd.go s.fit fun w G1 H1 g1 rw' => ?_
  have ew : w = .ref p := rw'
  subst ew
  have s1 := s.step g1
  obtain ⟨n, ⟨u, hu, vs, eu, z, hr⟩, hf⟩ := s1.at_ j eo
  subst eu
  refine ⟨.inl ⟨rfl, _, SqL.of hu⟩, h G1 H1 s1 _ fun v A R G2 H2 hN s2 rv => ?_⟩
  have eo2 : (A ++ Os)[A.length + j]? = some (p, ownR Rs) := by rw [List.getElem?_append_right (by omega), Nat.add_sub_cancel_left]; exact eo
  obtain ⟨n2, ⟨u2, hu2, vs2, eu2, z2, hr2⟩, _⟩ := s2.at_ _ eo2
  subst eu2
  have hl := hr2.length
  refine ⟨p, vs2, v, rfl, rfl, hu2, by omega, k A R G2 _ hN ?_⟩
  have s3 := s2.put (P' := ownR (Rs ++ [R])) _ eo2 ⟨vs2 ++ [v], rfl, by rw [List.length_append]; show vs2.length + 1 ≤ _; omega, hr2.app (.cons rv .nil)⟩
  rw [List.set_append_right _ _ (by omega), Nat.add_sub_cancel_left] at s3
  exact s3
end
end Fz
set_option Elab.async false
set_option linter.all false
set_option maxRecDepth 100000
set_option maxHeartbeats 2000000
/-! Fz: int(text); new held things within a tuple. -/
namespace Fz
open PySem PySem.Spec PyProof.Rows L2
namespace Fm
def intT (t : Tx) : Option Int := if t.length ≤ 640 then PySem.intText? (mkS t) else none
end Fm
theorem ev_intT {K : PySem.W.Frag} {σ : L2.St} {G : GH} {H : Hp} {ta : TE} {t : Tx} {n : Int} (ha : EV ta σ G H (D K (eS t))) (hm : Fm.intT t = some n) : EV (tCB (fun xs H Q => ∃ a n, xs = [.str a] ∧ PySem.intText? a = some n ∧ a.length ≤ 640 ∧ Q (.int n) H) (tCons ta tNil)) σ G H (D K (eI n)) := fun G1 H1 g Q q =>
  ha G1 H1 g _ fun v G2 H2 g2 r => by
    unfold Fm.intT at hm
    split at hm
    · rename_i hz
      exact ⟨mkS t, n, by rw [Dg.str_inv r], hm, by rw [mkS_len]; exact hz, q _ G2 H2 g2 (.int n)⟩
    · cases hm
theorem SA.perm {mx : List Addr} {G0 G : GH} {H0 H : Hp} {Γ : List (Option RP)} {Os Os' : List (Addr × OP)} {Ts : List (V × RP)} {σ : L2.St} (s : SA mx G0 H0 Γ Os Ts σ G H) (h : Os.Perm Os') : SA mx G0 H0 Γ Os' Ts σ G H := ⟨s.f0, s.g, s.env, fun p hp => s.own p (h.mem_iff.mpr hp), (h.map (·.1)).nodup_iff.mp s.nd, s.tmp⟩
/-- (a, b, {}) : the dict is new and held -/
theorem enw_tup3 {K : PySem.W.Frag} {mx : List Addr} {G0 G : GH} {H0 H : Hp} {Γ : List (Option RP)} {Os : List (Addr × OP)} {Ts : List (V × RP)} {σ : L2.St} {ta tb : TE} {Ra Rb : RP} (s : SA mx G0 H0 Γ Os Ts σ G H) (ha : EV ta σ G H Ra) (hb : EV tb σ G H Rb) :
    ENw (tTup (tCons ta (tCons tb (tCons tDNewT tNil)))) mx G0 H0 Γ Os Ts σ H (fun A R => ∃ d, A = [(d, Fz.ownD K HO.dT keyT [])] ∧ R = tupR K [Ra, Rb, isV (.ref d)]) := fun Q q => by
  refine ha.go s.fit fun va G1 H1 g1 ra => (hb.mono g1).go g1.fit fun vb G2 H2 g2 rb => ?_
  show tDNewT σ H2 _
  intro d hd
  have s2 := (s.step g1).step g2
  have s3 := s2.made (P := Fz.ownD K HO.dT keyT []) (o := .dT []) hd ⟨[], rfl, Nat.zero_le _, .nil⟩
  refine ⟨by show 3 ≤ sizeLine; decide, fun t ht => ?_⟩
  have g4 : Gr [] G2 (upd H2 d (.dT [])) (updG G2 t (isO (.tup [va, vb, .ref d]))) (upd (upd H2 d (.dT [])) t (.tup [va, vb, .ref d])) := Gr.make s3.fit ht
  refine q (.ref t) [(d, Fz.ownD K HO.dT keyT [])] _ _ _ ⟨d, rfl, rfl⟩ (s3.step g4) ⟨t, _, rfl, ⟨by show 3 ≤ sizeLine; decide, updG_same⟩, .cons (Ra.mono g4.sub (Ra.mono g2.sub ra)) (.cons (Rb.mono g4.sub rb) (.cons rfl .nil))⟩
end Fz
set_option Elab.async false
set_option linter.all false
set_option maxRecDepth 100000
set_option maxHeartbeats 2000000
/-! Fz: held lists of values of any kind: read, walked; tuples of any kind unpacked. -/
namespace Fz
open PySem PySem.Spec PyProof.Rows L2
section
variable {K : PySem.W.Frag} {mx : List Addr} {G0 G G1 : GH} {H0 H H1 : Hp} {Γ : List (Option RP)} {Os : List (Addr × OP)} {Ts : List (V × RP)} {σ : L2.St} {te ti tl : TE} {De : Ends} {p : Addr} {Rs : List RP} {R : RP} {x : Int} {v : V}
theorem RAll.atI {vs : List V} (h : RAll G vs Rs) (e : L2.atI Rs x = some R) : ∃ v, L2.atI vs x = some v ∧ R.r G v := by
  unfold L2.atI at e ⊢
  rw [h.length]
  cases hn : L2.ixN Rs.length x with
  | none => rw [hn] at e; cases e
  | some j => rw [hn] at e; exact h.get e
/-- e[i], the list held -/
theorem ev_ixR (s : SA mx G0 H0 Γ Os Ts σ G H) (j : Nat) (h : EV te σ G H (isV (.ref p))) (hi : EV ti σ G H (D K (eI x))) (hx : L2.atI Rs x = some R) (eo : Os[j]? = some (p, ownR Rs) := by rfl) : EV (tOp (rIxL K) te ti) σ G H R := by
  obtain ⟨n, ⟨u, hu, vs, eu, z, hr⟩, _⟩ := s.at_ j eo
  subst eu
  exact fun G1 H1 g Q q => h G1 H1 g _ fun w G2 H2 g2 rw' => hi G2 H2 (g.trans g2) _ fun i G3 H3 g3 ri => by
    have ew : w = .ref p := rw'
    subst ew
    have gt := (g.trans g2).trans g3
    obtain ⟨y, hy, ry⟩ := (hr.mono gt.sub).atI hx
    exact ⟨p, vs, x, y, rfl, Dg.int_inv ri, SqL.of (gt.at0 n hu), hy, q y G3 H3 (g2.trans g3) ry⟩
theorem et_truR (s : SA mx G0 H0 Γ Os Ts σ G H) (j : Nat) (h : EV te σ G H (isV (.ref p))) (eo : Os[j]? = some (p, ownR Rs) := by rfl) : ET (fun σ H Q => te σ H fun x H' => ∃ k, TruV K x H' k ∧ Q k H') σ G H (!Rs.isEmpty) := by
  obtain ⟨n, ⟨u, hu, vs, eu, z, hr⟩, _⟩ := s.at_ j eo
  subst eu
  exact fun G1 H1 g Q q => h G1 H1 g _ fun w G2 H2 g2 rw' => by
    have ew : w = .ref p := rw'
    subst ew
    have gt := g.trans g2
    refine ⟨_, .inl ⟨vs, SqL.of (gt.at0 n hu), rfl⟩, ?_⟩
    have e : (!vs.isEmpty) = (!Rs.isEmpty) := by cases hr <;> rfl
    rw [e]
    exact q G2 H2 g2
/-- e[i] of a tuple of any kind -/
theorem ev_ixTR (h : EV te σ G H (tupR K Rs)) (hi : EV ti σ G H (D K (eI x))) (hx : L2.atI Rs x = some R) : EV (tOp (rIxT K) te ti) σ G H R :=
  ev_op h hi fun G1 H1 u w g ru rw' Q q => by
    obtain ⟨t, vs, rfl, hq, hr⟩ := ru
    obtain ⟨y, hy, ry⟩ := hr.atI hx
    exact ⟨t, vs, x, y, rfl, Dg.int_inv rw', hq.sq g.fit, hy, q y G1 H1 (Gr.refl g.fit) ry⟩
/-- a held list walked -/
theorem eso_R {α : Type} {e : α → RP} {xs : List α} (s : SA mx G0 H0 Γ Os Ts σ G H) (j : Nat) (h : EV tl σ G H (isV (.ref p))) (eo : Os[j]? = some (p, ownR (xs.map e)) := by rfl) : ESO (iList K tl) σ G H e xs := by
  obtain ⟨n, ⟨u, hu, vs, eu, z, hr⟩, _⟩ := s.at_ j eo
  subst eu
  exact fun G1 H1 g Q q => h G1 H1 g _ fun w G2 H2 g2 rw' => by
    have ew : w = .ref p := rw'
    subst ew
    have gt := g.trans g2
    have h2 := gt.at0 n hu
    have n2 := gt.un n hu
    have hl : vs.length = xs.length := by rw [hr.length, List.length_map]
    refine ⟨p, rfl, ⟨vs, SqL.of h2⟩, q _ G2 H2 g2 ⟨fun G H i x f hx => ?_, fun G H f => ?_, by rw [← hl]; exact z⟩⟩
    · obtain ⟨y, hy, ry⟩ := ((hr.mono gt.sub).mono f.sub).get (i := i) (R := e x) (by rw [List.getElem?_map, hx]; rfl)
      have hf' := f.at0 n2 h2
      refine ⟨⟨vs, y, SqL.of hf', hy⟩, fun v H' hv => ?_⟩
      obtain ⟨rfl, hv⟩ := hv
      have ev : v = y := Option.some.inj ((hv vs (SqL.of hf')).symm.trans hy)
      subst ev
      exact ⟨G, Gr.refl f.fit, ry⟩
    · exact ⟨vs, SqL.of (f.at0 n2 h2), by rw [hl]; exact Nat.le_refl _⟩
theorem st_bind3R {i1 i2 i3 : Nat} {d1 d2 d3 : RP} (s : SA mx G0 H0 Γ Os ((v, tupR K [d1, d2, d3]) :: Ts) σ G H) {Q : L2.St → Hp → Prop} (k : ∀ σ', (∀ vs, i1 ∈ vs → i2 ∈ vs → i3 ∈ vs → wipe σ' vs = wipe σ vs) → SA mx G0 H0 (((Γ.set i1 (some d1)).set i2 (some d2)).set i3 (some d3)) Os Ts σ' G H → Q σ' H) : gTup K 3 (gCons (gName i1) (gCons (gName i2) (gCons (gName i3) gNil))) v σ H Q := by
  obtain ⟨p, vs, rfl, hf, hr⟩ := s.pop.2
  cases hr with
  | cons r1 hr =>
    cases hr with
    | cons r2 hr =>
      cases hr with
      | cons r3 hr =>
        cases hr
        exact ⟨p, _, rfl, hf.sq s.fit, rfl, _, _, rfl, _, _, rfl, _, _, rfl, rfl, k _ (fun _ h1 h2 h3 => by rw [wipe_set h3, wipe_set h2, wipe_set h1]) (((s.pop.1.set i1 (R := d1) r1).set i2 (R := d2) r2).set i3 (R := d3) r3)⟩
end
end Fz
set_option Elab.async false
set_option linter.all false
set_option maxRecDepth 100000
set_option maxHeartbeats 2000000
/-! Fz: methods called. -/
namespace Fz
open PySem PySem.Spec PyProof.Rows L2
theorem FsR.lookN {G : GH} {fs : List (Str × V)} {rs : List (Str × RP)} (h : FsR G fs rs) {f : Str} (hn : ((rs.map (·.1)).all fun g => decide (g ≠ f)) = true) : fs.lookup f = Option.none := by
  induction h with
  | nil => rfl
  | @cons k v R fs rs h _ ih =>
    rw [List.map_cons, List.all_cons, Bool.and_eq_true] at hn
    have hk : k ≠ f := of_decide_eq_true hn.1
    rw [List.lookup_cons, beq_eq_false_iff_ne.mpr (Ne.symm hk)]
    exact ih hn.2
section
variable {X : Cx} {C m : Str} {k : Nat} {ps : List Str} {sp : Sp} {o e : Expr} {es : List Expr} {ta : TE} {t : TA} {p pos apos : Pos}
theorem pe_makeF0 (M : Mk X.K (He.ga X.K C) (He.ma X.K (He.ga X.K C) "__init__")) (h : Mok X.prog X.w X.K X.mg X.base k C "__init__" ps sp) (hr : Room (k + 1) X.A) (g : X.mg C = some (.ref (He.ga X.K C))) (hg : Gl X C := by rfl) (hd : (C == ("__debug__" : Str)) = false := by decide) :
    PE X (.Call (.Name C p) [] [] pos) (tMake (He.ga X.K C) sp [] E0 tNil) := by
  obtain ⟨fd, b, f⟩ := h.ok
  exact pe_make0 M f hr hg g b .nil pass0 hd
theorem pe_methF {pl : Sem Bool} (h : Mok X.prog X.w X.K X.mg X.base k C m ps sp) (c : Cls X.K (He.ga X.K C)) (hm : Meth X.K (He.ga X.K C) m (He.ma X.K (He.ga X.K C) m)) (hr : Room k X.A) (he : PE X o ta) (ha : PA X (e :: es) t)
    (hst : starEach (e :: es) X.env = (false, eval e X.env) :: starEach es X.env := by rfl) (hpl : (backTo pos (starEach es X.env)).any (·.1) = false := by rfl)
    (ht : eval (.Call (.Attribute o m apos) (e :: es) [] pos) X.env = (do
      let ov ← eval o X.env
      standAt apos.atName
      let (f, first) ← holding [ov] (getMethod ov m pl)
      callWith pos f first (backTo pos (starEach (e :: es) X.env)) (backToKw pos (keywordEach [] X.env))) := by rfl) :
    PE X (.Call (.Attribute o m apos) (e :: es) [] pos) (tMeth (He.ga X.K C) m sp [] E0 ta t) := by
  obtain ⟨fd, b, f⟩ := h.ok
  exact pe_meth he c hm f hr b .nil pass0 ha hst hpl ht
theorem pe_methF0 {pl : Sem Bool} (h : Mok X.prog X.w X.K X.mg X.base k C m ps sp) (c : Cls X.K (He.ga X.K C)) (hm : Meth X.K (He.ga X.K C) m (He.ma X.K (He.ga X.K C) m)) (hr : Room k X.A) (he : PE X o ta)
    (ht : eval (.Call (.Attribute o m apos) [] [] pos) X.env = (do
      let ov ← eval o X.env
      standAt apos.atName
      let (f, first) ← holding [ov] (getMethod ov m pl)
      callWith pos f first (backTo pos (starEach [] X.env)) (backToKw pos (keywordEach [] X.env))) := by rfl) :
    PE X (.Call (.Attribute o m apos) [] [] pos) (tMeth (He.ga X.K C) m sp [] E0 ta tNil) := by
  obtain ⟨fd, b, f⟩ := h.ok
  exact pe_meth0 he c hm f hr b .nil pass0 ht
theorem pe_fldK {K : PySem.W.Frag} {f : Str} (he : PE X e ta) (hb : attributeBase e f X.env (eval e X.env) = eval e X.env) (h : X.K = K := by rfl) : PE X (.Attribute e f pos) (tFld K ta f) := by subst h; exact pe_fld he hb
end
end Fz
set_option Elab.async false
set_option linter.all false
set_option maxRecDepth 100000
set_option maxHeartbeats 2000000
/-! Fz: a for whose held objects are not told by the state; x.pop(). -/
namespace Fz
open PySem PySem.Spec PyProof.Rows L2
section
variable {K : PySem.W.Frag} {mx : List Addr} {G0 G : GH} {H0 H : Hp} {Γ : List (Option RP)} {Os : List (Addr × OP)} {Ts : List (V × RP)} {σ : L2.St} {De : Ends} {g : TG} {tb : TS} {α S θ : Type} {f : S → α → Option S} {s0 s1 : S} {xs : List α} {R : α → RP} {wi : TI}
theorem st_forX (Γs : S → List (Option RP)) (Oss : S → θ → List (Addr × OP)) (P : S → θ → Prop) (th0 : θ) (s : SA mx G0 H0 (Γs s0) (Oss s0 th0) Ts σ G H) (p0 : P s0 th0) (h : ES wi σ G H R xs) (hl : fold f s0 xs = some s1)
    (body : ∀ src sv th x s' v σ1 G1 H1, x ∈ xs → f sv x = some s' → P sv th → SA mx G0 H0 (Γs sv) (Oss sv th) ((v, R x) :: src :: Ts) σ1 G1 H1 → ∀ N : L2.St → Hp → Prop, (∀ th' σ' G' H', P s' th' → SA mx G0 H0 (Γs s') (Oss s' th') (src :: Ts) σ' G' H' → N σ' H') → g v σ1 H1 (fun σ2 H2 => tb { De with nx := N, ct := N, bk := De.nx } σ2 H2))
    (done : ∀ th σ' G' H', P s1 th → SA mx G0 H0 (Γs s1) (Oss s1 th) Ts σ' G' H' → De.nx σ' H') : tFor wi g tb De σ H := by
  refine h G H (Gr.refl s.fit) _ fun J v0 R0 G2 H2 g2 r0 hs => ?_
  have s2 := (s.step g2).push r0
  refine ⟨fun i m σ' H' => m = xs.length - i ∧ i ≤ xs.length ∧ ∃ sv th G', P sv th ∧ SA mx G0 H0 (Γs sv) (Oss sv th) ((v0, R0) :: Ts) σ' G' H' ∧ fold f sv (xs.drop i) = some s1,
    ⟨_, rfl, Nat.zero_le _, s0, th0, G2, p0, s2, hl⟩, ?_⟩
  rintro i m σ' H' ⟨rfl, hi, sv, th, G', pv, s', hl'⟩
  by_cases hlt : i < xs.length
  · have ex : xs[i]? = some xs[i] := List.getElem?_eq_getElem hlt
    obtain ⟨hgo, hy⟩ := hs.turn G' H' i _ s'.fit s'.pop.2 ex
    rw [drop_at ex] at hl'
    cases hf : f sv xs[i] with
    | none => unfold fold at hl'; simp [hf] at hl'
    | some sn =>
      have hl2 : fold f sn (xs.drop (i + 1)) = some s1 := by unfold fold at hl'; simpa [hf] using hl'
      refine .inr ⟨hgo, fun σ' H' => ∃ th'' G'', P sn th'' ∧ SA mx G0 H0 (Γs sn) (Oss sn th'') ((v0, R0) :: Ts) σ' G'' H', fun σ'' H'' ⟨th'', G'', p3, s3⟩ => ⟨_, by omega, rfl, by omega, sn, th'', G'', p3, s3, hl2⟩, fun x H'' hyx => ?_⟩
      obtain ⟨G3, g3, r3⟩ := hy x H'' hyx
      exact body (v0, R0) sv th _ sn x σ' G3 H'' (List.mem_of_getElem? ex) hf pv ((s'.step g3).push r3) _ (fun th'' σ'' G'' H'' p3 s3 => ⟨th'', G'', p3, s3⟩)
  · have e0 : i = xs.length := by omega
    subst e0
    rw [List.drop_length] at hl'
    cases hl'
    exact .inl ⟨hs.stop G' H' s'.fit s'.pop.2, done th σ' G' H' pv s'.fleT⟩
/-- x = y.pop(), y held -/
theorem st_setPop {p : Addr} {xs : List α} {a : α} {e : α → PyData} {i : Nat} (s : SA mx G0 H0 Γ Os Ts σ G H) (i0 j : Nat) (hx : xs.getLast? = some a) (k : ∀ σ' G1 H1, SA mx G0 H0 (Γ.set i (some (D K (e a)))) (Os.set j (p, Fz.ownL K (xs.dropLast.map e))) Ts σ' G1 H1 → De.nx σ' H1)
    (e0 : Γ[i0]? = some (some (isV (.ref p))) := by rfl) (eo : Os[j]? = some (p, Fz.ownL K (xs.map e)) := by rfl) : tAsg (tBM0 K "list" rPop (tVar i0)) (gName i) De σ H := by
  obtain ⟨w, hw, rw'⟩ := s.env.2 i0 _ e0
  have ew : w = .ref p := rw'
  subst ew
  obtain ⟨n, ⟨u, hu, vs, eu, z, hr⟩, _⟩ := s.at_ j eo
  subst eu
  obtain ⟨ys, rfl⟩ := List.getLast?_eq_some_iff.mp hx
  have hl : vs.length = ys.length + 1 := by rw [hr.length, List.length_map, List.length_append]; rfl
  obtain ⟨v, hv, rv⟩ := hr.get (i := vs.length - 1) (d := e a) (by rw [hl, Nat.add_sub_cancel, List.map_append, List.getElem?_append_right (by rw [List.length_map]; omega), List.length_map, Nat.sub_self]; rfl)
  refine ⟨_, hw, .inl ⟨rfl, _, SqL.of hu⟩, p, vs, v, rfl, rfl, hu, hv, ?_⟩
  have hd : ((ys ++ [a]).dropLast).map e = ((ys ++ [a]).map e).dropLast := by rw [List.dropLast_concat, List.map_append]; exact (List.dropLast_concat (l₁ := ys.map e) (b := e a)).symm
  have s2 := s.put (P' := Fz.ownL K ((ys ++ [a]).dropLast.map e)) j eo ⟨vs.dropLast, rfl, by rw [List.length_dropLast]; omega, by rw [hd]; exact hr.dropLast⟩
  exact k _ G _ (s2.set i (R := D K (e a)) rv)
end
end Fz
set_option Elab.async false
set_option linter.all false
set_option maxRecDepth 100000
set_option maxHeartbeats 2000000
/-! Fz: a list comprehension with two fors. -/
namespace Fz
open PySem PySem.Spec PyProof.Rows L2
section
variable {K : PySem.W.Frag} {mx : List Addr} {G0 G : GH} {H0 H : Hp} {Γ : List (Option RP)} {Os : List (Addr × OP)} {Ts : List (V × RP)} {σ : L2.St} {te : TE} {tt tt1 : TT} {g g1 : TG} {wi wi1 : TI} {α β γ : Type} {xs : List α} {vs vs1 : List Nat} {e' : β → PyData}
theorem en_lc2 {inner : α → List γ} {hh : α → γ → β} {Rx : α → RP} {R1 : α → γ → RP} (s : SA mx G0 H0 Γ Os Ts σ G H) (h : ESO wi σ G H Rx xs) (hl : (xs.flatMap fun x => (inner x).map (hh x)).length ≤ sizeLine)
    (turn : ∀ src x, x ∈ xs → ∀ v σ1 G1 H1, SA mx G0 H0 (wipeG Γ vs) Os ((v, Rx x) :: src :: Ts) σ1 G1 H1 → ∀ Q : L2.St → Hp → Prop,
      (∀ σ2 Γ2, wipe σ2 vs = wipe σ1 vs → SA mx G0 H0 Γ2 Os (src :: Ts) σ2 G1 H1 → ET tt σ2 G1 H1 true → ES wi1 σ2 G1 H1 (R1 x) (inner x) →
        (∀ y, y ∈ inner x → LcTurn K mx G0 H0 (wipeG Γ2 vs1) Os (src :: Ts) vs1 g1 tt1 te (R1 x) (fun y => some (some (hh x y))) e' y (some (hh x y))) → Q σ2 H1) → g v σ1 H1 Q) :
    EN K (tLc2 wi g tt wi1 g1 tt1 te vs vs1) σ G H ((xs.flatMap fun x => (inner x).map (hh x)).map e') := by
  intro G1 H1 g1' Q q
  refine h G1 H1 g1' _ fun J G2 H2 g2 hs => ?_
  have s2 := ((s.step g1').step g2).push (v := V.non) (R := isV .non) rfl
  refine fun D0 nD => ?_
  have hne : ∀ qq ∈ Os, qq.1 ≠ D0 := fun qq hqq z => by
    obtain ⟨_, ⟨u6, e6, _⟩, _⟩ := s2.own qq hqq
    rw [z, nD] at e6; cases e6
  refine ⟨fun i m H' => m = xs.length - i ∧ i ≤ xs.length ∧ ∃ G' acc, Gr [] G2 H2 G' H' ∧ SA mx G0 H0 Γ Os ((V.non, isV .non) :: Ts) σ G' H' ∧ G' D0 = none ∧ H' D0 = some (.lst acc) ∧ DgAll K G' acc (((xs.take i).flatMap fun x => (inner x).map (hh x)).map e'),
    ⟨_, rfl, Nat.zero_le _, G2, [], (Gr.new g2.fit nD), s2.step (Gr.new g2.fit nD), g2.fit.none nD, upd_same, .nil⟩, ?_⟩
  rintro i m H' ⟨rfl, hi, G', acc, gg, s', nG, hD, hacc⟩
  by_cases hlt : i < xs.length
  · have ex : xs[i]? = some xs[i] := List.getElem?_eq_getElem hlt
    obtain ⟨hgo, hy⟩ := hs.turn G' H' i _ gg ex
    refine .inr ⟨hgo, fun H' => ∃ G' acc, Gr [] G2 H2 G' H' ∧ SA mx G0 H0 Γ Os ((V.non, isV .non) :: Ts) σ G' H' ∧ G' D0 = none ∧ H' D0 = some (.lst acc) ∧ DgAll K G' acc (((xs.take (i + 1)).flatMap fun x => (inner x).map (hh x)).map e'), fun H'' ⟨G'', acc', a1, a2, a3, a4, a5⟩ => ⟨_, by omega, rfl, by omega, G'', acc', a1, a2, a3, a4, a5⟩, fun x H'' hyx => ?_⟩
    obtain ⟨Gy, gy, ry⟩ := hy x H'' hyx
    have etake : ((xs.take (i + 1)).flatMap fun x => (inner x).map (hh x)) = ((xs.take i).flatMap fun x => (inner x).map (hh x)) ++ (inner xs[i]).map (hh xs[i]) := by
      rw [List.take_succ_eq_append_getElem hlt, List.flatMap_append]
      simp
    have hbound : ((xs.take i).flatMap fun x => (inner x).map (hh x)).length + (inner xs[i]).length ≤ sizeLine := by
      have e1 : (xs.flatMap fun x => (inner x).map (hh x)) = ((xs.take (i + 1)).flatMap fun x => (inner x).map (hh x)) ++ ((xs.drop (i + 1)).flatMap fun x => (inner x).map (hh x)) := by
        rw [← List.flatMap_append, List.take_append_drop]
      rw [e1, etake, List.length_append, List.length_append, List.length_map] at hl
      omega
    refine turn (V.non, isV .non) _ (List.mem_of_getElem? ex) x _ Gy _ (((s'.step gy).wipe vs).push ry) _ fun σ2 Γ2 hw sI ht hsrc hin => ⟨by rw [hw, wipe_wipe fun _ h => h], ?_⟩
    refine ht.go gy.fit fun G3 H3 g30 => ?_
    show wi1 σ2 H3 _
    refine hsrc G3 H3 g30 _ fun J1 v1 R0 G4 H4 g4 r1 hs1 => ?_
    have gt := (gy.trans g30).trans g4
    refine ⟨fun j k H' => k = (inner xs[i]).length - j ∧ j ≤ (inner xs[i]).length ∧ ∃ G' acc, Gr [] G2 H2 G' H' ∧ SA mx G0 H0 Γ Os ((V.non, isV .non) :: Ts) σ G' H' ∧ SA mx G0 H0 Γ2 Os ((V.non, isV .non) :: Ts) σ2 G' H' ∧ R0.r G' v1 ∧ G' D0 = none ∧ H' D0 = some (.lst acc) ∧ DgAll K G' acc ((((xs.take i).flatMap fun x => (inner x).map (hh x)) ++ ((inner xs[i]).take j).map (hh xs[i])).map e'),
      ⟨_, rfl, Nat.zero_le _, G4, acc, gg.trans gt, s'.step gt, (sI.step g30).step g4, r1, gt.un nG hD, gt.at0 nG hD, by rw [List.take_zero, List.map_nil, List.append_nil]; exact hacc.mono gt.sub⟩, ?_⟩
    rintro j k H5 ⟨rfl, hj, G5, acc5, gg5, s5, sI5, r5, nG5, hD5, hacc5⟩
    have hl5 := hacc5.length
    rw [List.length_map, List.length_append, List.length_map, List.length_take] at hl5
    by_cases hjt : j < (inner xs[i]).length
    · have ey : (inner xs[i])[j]? = some (inner xs[i])[j] := List.getElem?_eq_getElem hjt
      obtain ⟨hgo1, hy1⟩ := hs1.turn G5 H5 j _ s5.fit r5 ey
      refine .inr ⟨hgo1, fun H' => ∃ G' acc, Gr [] G2 H2 G' H' ∧ SA mx G0 H0 Γ Os ((V.non, isV .non) :: Ts) σ G' H' ∧ SA mx G0 H0 Γ2 Os ((V.non, isV .non) :: Ts) σ2 G' H' ∧ R0.r G' v1 ∧ G' D0 = none ∧ H' D0 = some (.lst acc) ∧ DgAll K G' acc ((((xs.take i).flatMap fun x => (inner x).map (hh x)) ++ ((inner xs[i]).take (j + 1)).map (hh xs[i])).map e'), fun H'' ⟨G'', acc', a1, a2, a3, a4, a5, a6, a7⟩ => ⟨_, by omega, rfl, by omega, G'', acc', a1, a2, a3, a4, a5, a6, a7⟩, fun z H6 hyz => ?_⟩
      obtain ⟨G6, g6, ry6⟩ := hy1 z H6 hyz
      refine hin _ (List.mem_of_getElem? ey) z _ G6 _ (((sI5.step g6).wipe vs1).push ry6) _ fun σ3 hw3 ht3 hv3 => ⟨by rw [hw3, wipe_wipe fun _ h => h], ?_⟩
      refine ht3.go g6.fit fun G7 H7 g70 => ?_
      show te σ3 H7 _
      refine ((hv3 _ rfl).mono g70).go g70.fit fun z2 G8 H8 g8 rz => ?_
      have gq := (g6.trans g70).trans g8
      have hD8 := gq.at0 nG5 hD5
      have nG8 := gq.un nG5 hD5
      refine ⟨acc5, hD8, by omega, G8, acc5 ++ [z2], Gr.putNew (gg5.trans gq) nD nG8 hD8, ?_, ?_, R0.mono gq.sub r5, nG8, upd_same, ?_⟩
      · exact SA.putNew (s5.step gq) ((s2.g).free s2.f0 nD) nG8 hD8 hne
      · exact SA.putNew (sI5.step gq) ((s2.g).free s2.f0 nD) nG8 hD8 hne
      · rw [List.take_succ_eq_append_getElem hjt, List.map_append (f := hh xs[i]), ← List.append_assoc, List.map_append (f := e')]
        exact (hacc5.mono gq.sub).append (.cons rz .nil)
    · have e0 : j = (inner xs[i]).length := by omega
      subst e0
      rw [List.take_length] at hacc5
      exact .inl ⟨hs1.stop G5 H5 s5.fit r5, G5, acc5, gg5, s5, nG5, hD5, by rw [etake]; exact hacc5⟩
  · have e0 : i = xs.length := by omega
    subst e0
    rw [List.take_length] at hacc
    have hl' := hacc.length
    rw [List.length_map] at hl'
    exact .inl ⟨hs.stop G' H' gg, q D0 acc G' H' (g2.trans gg) nG (g2.free g1'.fit nD) hD (by omega) hacc⟩
end
end Fz
set_option Elab.async false
set_option linter.all false
set_option maxRecDepth 100000
set_option maxHeartbeats 2000000
/-! Fz: isinstance of own classes; objects with a cache made. -/
namespace Fz
open PySem PySem.Spec PyProof.Rows L2
section
variable {K : PySem.W.Frag} {σ : L2.St} {G : GH} {H : Hp} {ta : TE} {d : PyData} {C : Addr} {r : Bool} {rs ra rb : List (Str × RP)} {g : Str} {A : V → Prop} {R : RP} {t : TA} {E : XK}
theorem ev_isiC (ha : EV ta σ G H (D K d)) (hk : PySem.W.kitOne K (.type (tyD d)) (.ref C) = some r) : EV (tCB (rIsi K) (tCons ta (tCons (tC (.ref C)) tNil))) σ G H (D K (eB r)) := fun G1 H1 g Q q =>
  ha G1 H1 g _ fun v G2 H2 g2 rv => ⟨v, .ref C, .type (tyD d), .ref C, r, rfl, .own C, Dg.tyX g2.fit rv, hk, q _ G2 H2 g2 (.bl r)⟩
theorem ev_isiI (c : C8.InsC K C) (ha : EV ta σ G H (fzI C rs)) : EV (tCB (rIsi K) (tCons ta (tCons (tC (.ref C)) tNil))) σ G H (D K (eB true)) := fun G1 H1 g Q q =>
  ha G1 H1 g _ fun v G2 H2 g2 ⟨x, dx, fs, ev, hx, hr⟩ => by
    subst ev
    exact ⟨.ref x, .ref C, .ref C, .ref C, true, rfl, .own C, .base (.ins (g2.fit.at' hx) c.cl c.ha c.hn c.htk c.hm), c.me, q _ G2 H2 g2 (.bl true)⟩
theorem ev_isiV (c : C8.InsC K C) (ha : EV ta σ G H (fzV C ra g A rb)) : EV (tCB (rIsi K) (tCons ta (tCons (tC (.ref C)) tNil))) σ G H (D K (eB true)) := fun G1 H1 gg Q q =>
  ha G1 H1 gg _ fun v G2 H2 g2 ⟨x, dx, a, b, ev, hx, h1, h2⟩ => by
    subst ev
    obtain ⟨o, ho, ⟨t, _, eo⟩, _⟩ := g2.fit x _ hx
    subst eo
    exact ⟨.ref x, .ref C, .ref C, .ref C, true, rfl, .own C, .base (.ins ho c.cl c.ha c.hn c.htk c.hm), c.me, q _ G2 H2 g2 (.bl true)⟩
theorem FsR.split : ∀ {ra : List (Str × RP)} {fs : List (Str × V)}, FsR G fs (ra ++ (g, R) :: rb) → ∃ a t b, fs = a ++ (g, t) :: b ∧ FsR G a ra ∧ R.r G t ∧ FsR G b rb
  | [], _, .cons h k => ⟨[], _, _, rfl, .nil, h, k⟩
  | (f, S) :: ra, _, .cons h k => by
    obtain ⟨a, t, b, e, h1, h2, h3⟩ := FsR.split (ra := ra) k
    exact ⟨(f, _) :: a, t, b, by rw [e]; rfl, .cons h h1, h2, h3⟩
theorem ev_makeV {X Y : Type} {enc : X → List RP} {m : X → Option Y} {fsr : Y → List (Str × RP)} {x : X} {yy : Y} (ha : EA t σ G H (enc x)) (hm : m x = some yy) (he : fsr yy = ra ++ (g, R) :: rb) (hA : ∀ G v, R.r G v → A v) : EV (tMake C (spInit C enc m fsr) [] E t) σ G H (fzV C ra g A rb) := fun G1 H1 gg Q q =>
  make_go (ha.mono gg) hm gg.fit fun b dx fs G' H' g2 nb hb hh hr => by
    rw [he] at hr
    obtain ⟨a, t, b', rfl, h1, h2, h3⟩ := hr.split
    exact q (.ref b) (updG G' b (varφ C dx a b' g A)) H' (g2.freeze hb nb hh ⟨t, hA _ _ h2, rfl⟩) ⟨b, dx, a, b', rfl, updG_same, h1.mono (Sub.upd nb), h3.mono (Sub.upd nb)⟩
/-- data at an address of which N is true -/
def dfR (K : PySem.W.Frag) (N : Addr → Prop) (d : PyData) : RP := ⟨fun G v => Dg K G v d ∧ ∃ l, v = .ref l ∧ N l, fun s ⟨h, l, e, n⟩ => ⟨Dg.mono s h, l, e, n⟩⟩
theorem ev_df {te : TE} {N : Addr → Prop} (h : EV te σ G H (dfR K N d)) : EV te σ G H (D K d) := fun G1 H1 g Q q => h G1 H1 g Q fun v G2 H2 g2 rv => q v G2 H2 g2 rv.1
theorem EN.evN {te : TE} {N : Addr → Prop} {ds : List PyData} (h : EN K te σ G H ds) (hN : ∀ G1 H1 l, Gr [] G H G1 H1 → H1 l = none → N l) : EV te σ G H (dfR K N (.list ds)) := fun G1 H1 g Q q => h G1 H1 g Q fun p vs G2 H2 g2 n hn hp hz hr =>
  q (.ref p) (updG G2 p (isO (.lst vs))) H2 (Gr.freeze g2 hn n hp rfl) ⟨.lst ⟨hz, updG_same⟩ (hr.mono (Sub.upd n)), p, rfl, hN G1 H1 p g hn⟩
/-- an __init__ whose fields are told with the heap at its call -/
def spInitH {X Y : Type} (C : Addr) (enc : X → List RP) (m : X → Option Y) (fsr : Hp → Y → List (Str × RP)) : Sp := fun vs H Q E => ∃ G b x y us, vs = .ref b :: us ∧ Fit G H ∧ G b = none ∧ (∃ dx, H b = some (.ins C dx [])) ∧ RAll G us (enc x) ∧ m x = some y ∧
  ∀ G' H', Gr [b] G H G' H' → (∃ dx fs, H' b = some (.ins C dx fs) ∧ FsR G' fs (fsr H y)) → Q .non H'
theorem spInitH_len {X Y : Type} {enc : X → List RP} {m : X → Option Y} {fsr : Hp → Y → List (Str × RP)} {vs : List V} {Q : VK} {k : Nat} (h : spInitH C enc m fsr vs H Q E) (hk : ∀ x, (enc x).length + 1 = k := by intro _; rfl) : vs.length = k := by
  obtain ⟨G, b, x, y, us, rfl, f, n, ho, rs, _⟩ := h
  rw [List.length_cons, rs.length, hk]
theorem spInitH_go {X Y : Type} {enc : X → List RP} {m : X → Option Y} {fsr : Hp → Y → List (Str × RP)} {vs : List V} {Q : VK} {Nn : List Str} {De : Ends} {tt : TS} (h : spInitH C enc m fsr vs H Q E) (k : ∀ b G x y, m x = some y → SA [b] G H ((isV (.ref b) :: enc x).map some ++ List.replicate (Nn.length - (isV (.ref b) :: enc x).length) none) [(b, ownI C [])] [] (L2.start Nn vs) G H →
    (∀ G' H' Ts' σ' Γ' Os', SA [b] G H Γ' Os' Ts' σ' G' H' → (b, ownI C (fsr H y)) ∈ Os' → Q .non H') → tt De (L2.start Nn vs) H) : tt De (L2.start Nn vs) H := by
  obtain ⟨G, b, x, y, us, rfl, f, n, ⟨dx, ho⟩, rs, hm, q⟩ := h
  refine k b G x y hm (SA.startA (Os := [(b, ownI C [])]) f (env_start (.cons rfl rs)) (fun p hp => by rw [List.mem_singleton.mp hp]; exact ⟨n, _, ho, dx, [], rfl, .nil⟩) (List.nodup_cons.mpr ⟨by simp, List.nodup_nil⟩)) fun G' H' _ _ _ _ s hmem => ?_
  obtain ⟨_, ⟨o, e, dx', fs, eo, hr⟩, _⟩ := s.own _ hmem
  subst eo
  exact q G' H' s.g ⟨dx', fs, e, hr⟩
theorem make_goH {X Y : Type} {enc : X → List RP} {m : X → Option Y} {fsr : Hp → Y → List (Str × RP)} {x : X} {yy : Y} {Q : VK} (ha : EA t σ G H (enc x)) (hm : m x = some yy) (f0 : Fit G H)
    (k : ∀ b dx fs Hx G' H', (∀ l, Hx l = none → H l = none) → Gr [] G H G' H' → G' b = none → H b = none → H' b = some (.ins C dx fs) → FsR G' fs (fsr Hx yy) → Q (.ref b) H') : tMake C (spInitH C enc m fsr) [] E t σ H Q := by
  refine ha.go f0 fun vs G2 H2 g2 rs => fun b dx hb hdx hne => ?_
  have g3 : Gr [] G2 H2 G2 (upd H2 dx (.own b)) := Gr.new g2.fit hdx
  have hb3 : upd H2 dx (.own b) b = none := by rw [upd_ne (Ne.symm hne)]; exact hb
  have g4 : Gr [] G2 (upd H2 dx (.own b)) G2 (upd (upd H2 dx (.own b)) b (.ins C dx [])) := Gr.new g3.fit hb3
  refine ⟨G2, b, x, yy, vs, by rw [List.append_nil], g4.fit, g2.fit.none hb, ⟨dx, upd_same⟩, rs, hm, fun G' H' g5 ⟨dx', fs, hh, hr⟩ => ⟨rfl, ?_⟩⟩
  have gx := (g2.trans g3).trans g4
  have gt : Gr [] G H G' H' := gx.trans' g5 fun a ha => by
    rw [List.mem_singleton.mp ha]; exact .inr (g2.free f0 hb)
  have nb : G' b = none := g5.un (g2.fit.none hb) upd_same
  exact k b dx' fs _ G' H' (fun l hl => gx.free f0 hl) gt nb (g2.free f0 hb) hh hr
theorem ev_makeVH {X Y : Type} {enc : X → List RP} {m : X → Option Y} {rsA : (Addr → Prop) → Y → List (Str × RP)} {rbY : Y → List (Str × RP)} {x : X} {yy : Y} (ha : EA t σ G H (enc x)) (hm : m x = some yy) (wk : ∀ (N N' : Addr → Prop) (y : Y) (G : GH) fs, (∀ l, N l → N' l) → FsR G fs (rsA N y) → FsR G fs (rsA N' y)) (hA : ∀ G v, R.r G v → A v) (f : Fit G H) :
    EV (tMake C (spInitH C enc m (fun Hx y => rsA (fun l => Hx l = none) y ++ (g, R) :: rbY y)) [] E t) σ G H (fzV C (rsA (fun l => H l = none) yy) g A (rbY yy)) := fun G1 H1 gg Q q =>
  make_goH (ha.mono gg) hm gg.fit fun b dx fs Hx G' H' hx g2 nb hb hh hr => by
    obtain ⟨a, t, b', rfl, h1, h2, h3⟩ := hr.split
    exact q (.ref b) (updG G' b (varφ C dx a b' g A)) H' (g2.freeze hb nb hh ⟨t, hA _ _ h2, rfl⟩) ⟨b, dx, a, b', rfl, updG_same, (wk _ _ _ _ _ (fun l hl => gg.free f (hx l hl)) h1).mono (Sub.upd nb), h3.mono (Sub.upd nb)⟩
/-- a def whose answer is told with the heap at its call -/
def spFH {X Rr : Type} (enc : X → List RP) (m : X → Option Rr) (er : Hp → Rr → RP) : Sp := fun vs H Q E => ∃ G x r, Fit G H ∧ RAll G vs (enc x) ∧ m x = some r ∧ ∀ v G' H', Gr [] G H G' H' → (er H r).r G' v → Q v H'
end
end Fz
set_option Elab.async false
set_option linter.all false
set_option maxRecDepth 100000
set_option maxHeartbeats 2000000
/-! Fz: len, repr, ==, in of objects of an own class. -/
namespace Fz
open PySem PySem.Spec PyProof.Rows L2
section
variable {X : Cx} {C m : Str} {k : Nat} {ps : List Str} {sp : Sp} {pins : List (Addr × Obj)} {σ : L2.St} {H : Hp} {s : Shared} {us : List Value} {vs : List V} {Q : VK}
/-- a method run as it is called by the machine -/
theorem run_mok (h : Mok X.prog X.w X.K X.mg X.base k C m ps sp) {E' : Value → Shared → Prop} {A : Around} (hA : Room k A) (he : Env0 X.prog X.w X.K X.mg X.base A X.stack s H) (I : Inv X pins σ H s) (r : Vals vs us) (q : sp vs H Q E0) :
    wpAny (model X.prog X.w) A (call (.ref (He.ma X.K (He.ga X.K C) m)) us) (EP X pins σ Q) E' s := by
  obtain ⟨fd, b, F⟩ := h.ok
  have hl : us.length = ps.length := by rw [← r.length]; exact F.len _ _ _ _ q
  have hb := b s us I.kIn (by simpa using hl)
  rw [List.append_nil] at hb
  refine wpAny_call (codeAny_mono (F.run A X.stack s H ⟨us, []⟩ us vs Q E0 hA he hb r q) fun r s' hq => ?_)
  cases r with
  | error er => exact False.elim hq
  | ok fl =>
    cases fl with
    | ret u => exact I.after hq
    | next => exact False.elim hq
    | brk => exact False.elim hq
    | cont => exact False.elim hq
theorem run_mok0 (h : Mok X.prog X.w X.K X.mg X.base k C m ps sp) {E' : Value → Shared → Prop} (hr : Room k X.A) (I : Inv X pins σ H s) (r : Vals vs us) (q : sp vs H Q E0) :
    wpAny (model X.prog X.w) X.A (call (.ref (He.ma X.K (He.ga X.K C) m)) us) (EP X pins σ Q) E' s := run_mok h hr I.env0 I r q
theorem run_mok1 (h : Mok X.prog X.w X.K X.mg X.base k C m ps sp) {E' : Value → Shared → Prop} (hr : Room (k + 1) X.A) (I : Inv X pins σ H s) (r : Vals vs us) (q : sp vs H Q E0) :
    wpAny (model X.prog X.w) X.A.in1 (call (.ref (He.ma X.K (He.ga X.K C) m)) us) (EP X pins σ Q) E' s := run_mok h hr.in1 I.env0.in1 I r q
end
def rLenO (C : Addr) (sp : Sp) : List V → Hp → VK → Prop := fun xs H Q => ∃ a dx fs, xs = [.ref a] ∧ H a = some (.ins C dx fs) ∧ sp [.ref a] H (fun v H' => ∃ n : Int, v = .int n ∧ 0 ≤ n ∧ n < 2 ^ 63 ∧ Q (.int n) H') E0
def rReprO (C : Addr) (sp : Sp) : List V → Hp → VK → Prop := fun xs H Q => ∃ a dx fs, xs = [.ref a] ∧ H a = some (.ins C dx fs) ∧ sp [.ref a] H (fun v H' => ∃ x : Str, v = .str x ∧ Q (.str x) H') E0
def rInO (C : Addr) (sp : Sp) : R2 := fun x y H Q => ∃ a dx fs, y = .ref a ∧ H a = some (.ins C dx fs) ∧ sp [.ref a, x] H (fun v H' => ∃ b : Bool, v = .bl b ∧ Q (.bl b) H') E0
def rEqO (K : PySem.W.Frag) (C : Addr) (sp : Sp) : R2 := fun x y H Q => ∃ a dx fs t, x = .ref a ∧ H a = some (.ins C dx fs) ∧ TyOf K H y t ∧ (t = .ref C ∨ PySem.W.subIn K t (.ref C) = some false) ∧ sp [.ref a, y] H (fun v H' => ∃ b : Bool, v = .bl b ∧ Q (.bl b) H') E0
section
variable {X : Cx} {C : Str} {k : Nat} {ps : List Str} {sp : Sp}
theorem call_lenOwn (h : Mok X.prog X.w X.K X.mg X.base k C "__len__" ps sp) (hm : Meth X.K (He.ga X.K C) "__len__" (He.ma X.K (He.ga X.K C) "__len__")) (hr : Room (k + 1) X.A) : CallR X (.builtin "len") (rLenO (He.ga X.K C) sp) := by
  intro pins s σ H xs us Q I r hq
  obtain ⟨a, dx, fs, rfl, ha, q⟩ := hq
  cases r with
  | cons r1 rt =>
    cases rt
    cases r1
    obtain ⟨mA, O, _⟩ := ins_get I.hok ha
    obtain ⟨od, J, _⟩ := O.look
    obtain ⟨mm, hF⟩ := I.fr
    refine PySem.W.len_K hF I.ok.mod.kin J hm.at_ hm.fn (wpAny_mono (run_mok1 h hr I (.cons (show RelV (V.ref a) (Value.ref a) from rfl) .nil) q) (fun v s' z => ?_) fun _ _ y => y)
    obtain ⟨x, H', I', rx, n, rfl, h0, h1, q'⟩ := z
    obtain ⟨t, rfl⟩ : ∃ t, v = Value.int n t := rx
    exact ⟨⟨h0, h1⟩, .int n, H', I'.tok _, ⟨_, rfl⟩, q'⟩
theorem call_reprOwn (h : Mok X.prog X.w X.K X.mg X.base k C "__repr__" ps sp) (hm : Meth X.K (He.ga X.K C) "__repr__" (He.ma X.K (He.ga X.K C) "__repr__")) (hr : Room (k + 1) X.A) : CallR X (.builtin "repr") (rReprO (He.ga X.K C) sp) := by
  intro pins s σ H xs us Q I r hq
  obtain ⟨a, dx, fs, rfl, ha, q⟩ := hq
  cases r with
  | cons r1 rt =>
    cases rt
    cases r1
    obtain ⟨mA, O, _⟩ := ins_get I.hok ha
    obtain ⟨od, J, _⟩ := O.look
    obtain ⟨mm, hF⟩ := I.fr
    refine PySem.W.repr_K hr.in1.units0 hF I.ok.mod.kin J hm.at_ hm.fn (wpAny_mono (run_mok1 h hr I (.cons (show RelV (V.ref a) (Value.ref a) from rfl) .nil) q) (fun v s' z => ?_) fun _ _ y => y)
    obtain ⟨x, H', I', rx, n, rfl, q'⟩ := z
    obtain ⟨t, rfl⟩ : ∃ t, v = Value.str n t := rx
    exact ⟨.str n, H', I', ⟨_, rfl⟩, q'⟩
theorem op_inOwn (h : Mok X.prog X.w X.K X.mg X.base k C "__contains__" ps sp) (hm : Meth X.K (He.ga X.K C) "__contains__" (He.ma X.K (He.ga X.K C) "__contains__")) (hr : Room k X.A) : OpR X (compareOp .In) (rInO (He.ga X.K C) sp) := by
  intro pins s σ H x y v u Q I rx ry hq
  obtain ⟨a, dx, fs, rfl, ha, q⟩ := hq
  cases ry
  obtain ⟨mA, O, _⟩ := ins_get I.hok ha
  obtain ⟨od, J, _⟩ := O.look
  obtain ⟨mm, hF⟩ := I.fr
  refine PySem.W.in_K hF I.ok.mod.kin J hm.at_ hm.fn (wpAny_mono (run_mok0 h hr I (.cons (show RelV (V.ref a) (Value.ref a) from rfl) (.cons rx .nil)) q) (fun v s' z => ?_) fun _ _ y => y)
  obtain ⟨x, H', I', rx, b, rfl, q'⟩ := z
  cases (show v = Value.bool b from rx)
  exact wpAny_truthy_bool ⟨.bl b, H', I', rfl, q'⟩
theorem type_atV {M : Model} {h : Heap} {y : Addr} {o : Obj} {t : Value} (ho : h.get? y = some o) (hc : o.cls = t) : PySem.W.Looks M h (typeOf (.ref y)) t := (PySem.W.Looks.ld ho).andThen (by rw [hc]; exact .now)
theorem looks_ty {y : V} {u t : Value} {H : Hp} {s : Shared} {pins : List (Addr × Obj)} {σ : L2.St} (I : Inv X pins σ H s) (ry : RelV y u) (ty : TyOf X.K H y t) : PySem.W.Looks (model X.prog X.w) s.heap (typeOf u) t := by
  cases ty with
  | non => cases (show u = Value.none from ry); exact .now
  | bl y => cases (show u = Value.bool y from ry); exact .now
  | int i => obtain ⟨t, q⟩ := (show ∃ t, u = Value.int i t from ry); cases q; exact .now
  | str y => obtain ⟨t, q⟩ := (show ∃ t, u = Value.str y t from ry); cases q; exact .now
  | flt y => obtain ⟨t, q⟩ := (show ∃ t, u = Value.float y t from ry); cases q; exact .now
  | @lst a xs ea =>
    cases (show u = Value.ref a from ry)
    obtain ⟨_, _, n, _, h1⟩ := (show ObjOk X.prog X.w H s.heap a (.lst xs) from I.hok a _ ea)
    exact type_atV h1 rfl
  | @frz a ob xs ea =>
    cases (show u = Value.ref a from ry)
    obtain ⟨_, _, _, n, _, h1⟩ := (show ObjOk X.prog X.w H s.heap a (.frz ob (.lst xs)) from I.hok a _ ea)
    exact type_atV h1 rfl
  | @tup a xs ea =>
    cases (show u = Value.ref a from ry)
    obtain ⟨_, _, _, p⟩ := (show ObjOk X.prog X.w H s.heap a (.tup xs) from I.hok a _ ea)
    obtain ⟨o, h1, h2, _⟩ := p
    exact type_atV h1 h2
  | @dK a kvs ea =>
    cases (show u = Value.ref a from ry)
    obtain ⟨_, _, vs, _, p⟩ := (show ObjOk X.prog X.w H s.heap a (.dK kvs) from I.hok a _ ea)
    obtain ⟨o, es, ep, h1, h2, _⟩ := p
    exact type_atV h1 h2.1
  | @dT a kvs ea =>
    cases (show u = Value.ref a from ry)
    obtain ⟨_, _, xs, _, o, es, ep, h1, h2, _⟩ := (show ObjOk X.prog X.w H s.heap a (.dT kvs) from I.hok a _ ea)
    exact type_atV h1 h2.1
  | @ins a C dx fs ea cl ha hn htk hm =>
    cases (show u = Value.ref a from ry)
    obtain ⟨mA, O, _⟩ := ins_get I.hok ea
    obtain ⟨od, J, _⟩ := O.look
    exact J.type
theorem op_eqOwn (h : Mok X.prog X.w X.K X.mg X.base k C "__eq__" ps sp) (hm : Meth X.K (He.ga X.K C) "__eq__" (He.ma X.K (He.ga X.K C) "__eq__")) (hr : Room k X.A) : OpR X (compareOp .Eq) (rEqO X.K (He.ga X.K C) sp) := by
  intro pins s σ H x y v u Q I rx ry hq
  obtain ⟨a, dx, fs, t, rfl, ha, ty, ht, q⟩ := hq
  cases rx
  obtain ⟨mA, O, _⟩ := ins_get I.hok ha
  obtain ⟨od, J, _⟩ := O.look
  obtain ⟨mm, hF⟩ := I.fr
  refine PySem.W.cmp_K (op := .Eq) hr.units0 hF I.ok.mod.kin J (looks_ty I ry ty) ?_ hm.at_ hm.fn (wpAny_mono (run_mok0 h hr I (.cons (show RelV (V.ref a) (Value.ref a) from rfl) (.cons ry .nil)) q) (fun v s' z => ?_) fun _ _ y => y)
  · rcases ht with rfl | e
    · simp [PySem.W.notFirst]
    · simp [PySem.W.notFirst, e]
  obtain ⟨x, H', I', rx, b, rfl, q'⟩ := z
  cases (show v = Value.bool b from rx)
  exact ⟨.bl b, H', I', rfl, q'⟩
end
end Fz
set_option Elab.async false
set_option linter.all false
set_option maxRecDepth 100000
set_option maxHeartbeats 2000000
/-! Fz: != of objects of an own class that has __eq__ alone. -/
namespace Fz
open PySem PySem.Spec PyProof.Rows L2
theorem ifBound_B {K : PySem.W.Frag} {M : Model} {A : Around} {E : Value → Shared → Prop} {s : Shared} {x C : Addr} {ox : Obj} {od : Option Obj} {name : Str} {id : String} {args : List Value} {Q : Option Value → Shared → Prop} (X : K.In s.heap) (I : PySem.W.InstAt s.heap x ox C od) (hs : PySem.W.findIn K (.ref C) name = some (some (.builtin id)))
    (hb : ∀ self, bindSpecial (.builtin id) self = pure (.builtin id, [self])) (h : wpAny M A (call (.builtin id) (.ref x :: args)) (fun v => Q (some v)) E s) : wpAny M A (callSpecialIfBound? (.ref x) name args) Q E s := by
  simp only [callSpecialIfBound?, bindSpecialIfBound?]
  refine wpAny_holding (wpAny_bind (wpAny_bind (wpAny_bind (I.type.here ((PySem.W.looks_findIn X hs).here ?_)))))
  refine wpAny_bind (wpAny_askSetting (wpAny_ite ?_))
  have fin : wpAny M A (call (.builtin id) ([.ref x] ++ args) >>= fun v => pure (some v)) Q E s := wpAny_bind (wpAny_mono h (fun v s' h' => wpAny_pure h') fun _ _ h' => h')
  split
  · exact wpAny_bind ((PySem.W.Looks.of_pure (hb _)).here (wpAny_pure (by exact fin)))
  · exact wpAny_tryCatch (wpAny_bind ((PySem.W.Looks.of_pure (hb _)).here (wpAny_pure (by exact fin))))
def rNeO (K : PySem.W.Frag) (C : Addr) (sp : Sp) : R2 := fun x y H Q => ∃ a dx fs t, x = .ref a ∧ H a = some (.ins C dx fs) ∧ TyOf K H y t ∧ (t = .ref C ∨ PySem.W.subIn K t (.ref C) = some false) ∧ sp [.ref a, y] H (fun v H' => ∃ b : Bool, v = .bl b ∧ Q (.bl (!b)) H') E0
section
variable {X : Cx} {C : Str} {k : Nat} {ps : List Str} {sp : Sp}
open Builtin in
theorem op_neOwn (h : Mok X.prog X.w X.K X.mg X.base k C "__eq__" ps sp) (hm : Meth X.K (He.ga X.K C) "__eq__" (He.ma X.K (He.ga X.K C) "__eq__")) (hne : PySem.W.findIn X.K (.ref (He.ga X.K C)) "__ne__" = some (some (.builtin "object.__ne__"))) (ho : PySem.W.mroIn X.K (He.ga X.K C) (.type "object") = some true) (hr : Room (k + 1) X.A) : OpR X (compareOp .NotEq) (rNeO X.K (He.ga X.K C) sp) := by
  intro pins s σ H x y v u Q I rx ry hq
  obtain ⟨a, dx, fs, t, rfl, ha, ty, ht, q⟩ := hq
  cases rx
  obtain ⟨mA, O, _⟩ := ins_get I.hok ha
  obtain ⟨od, J, _⟩ := O.look
  have hb := looks_ty I ry ty
  have XK := I.kIn
  have one : wpAny (model X.prog X.w) X.A (tryCompare (.ref a) (cmpInfo .NotEq).2.1 u) (fun r s' => ∃ v, r = some v ∧ EP X pins σ Q v s') X.xe s := by
    unfold tryCompare
    refine wpAny_bind (ifBound_B XK J hne (PySem.F.slot_object_ne.bind) ?_)
    refine wpAny_call (codeAny_call_builtin PySem.F.slot_object_ne.plain PySem.F.entry_object_ne (PySem.W.check_slot (i := "object.__ne__") (owner := "object") (n := "__ne__") (by decide +kernel) (by decide +kernel) (J.type.andThen (PySem.W.looks_mroIn XK ho)) (PySem.F.args_object_ne_2 _ _) ?_))
    unfold Builtin.«object.__ne__»
    refine wpAny_bind (m := slotArgs "__ne__" 1 _) (wpAny_pure ?_)
    refine wpAny_bind (m := cRoomFor _ _) (wpAny_cRoomFor hr.in1.units0 ?_)
    refine wpAny_bind (m := callSpecialIfBound? (.ref a) (Str.ofString "__eq__") _) (PySem.W.ifBound_K XK J hm.at_ hm.fn (wpAny_mono (run_mok1 h hr I (.cons (show RelV (V.ref a) (Value.ref a) from rfl) (.cons ry .nil)) q) (fun r s' z => ?_) fun _ _ y => y))
    obtain ⟨x, H', I', rx, b, rfl, q'⟩ := z
    cases (show r = Value.bool b from rx)
    refine wpAny_bind (wpAny_truthy_bool ?_)
    refine wpAny_pure ?_
    exact wpAny_pure (a := some (Value.bool !b)) ⟨_, rfl, .bl (!b), H', I', rfl, q'⟩
  show wpAny (model X.prog X.w) X.A (richCompare .NotEq (.ref a) u) (EP X pins σ Q) X.xe s
  unfold richCompare
  simp only [oneThing_ref]
  refine wpAny_holding (wpAny_bind (wpAny_cRoomFor hr.units0 ?_))
  refine wpAny_bind (J.type.here (wpAny_bind (hb.here ?_)))
  split
  · rename_i q0
    have e : PySem.W.subIn X.K t (.ref (He.ga X.K C)) = some false := by
      rcases ht with e | e
      · rw [e] at q0; simp at q0
      · exact e
    refine wpAny_bind ((PySem.W.looks_subIn XK e).here ?_)
    simp only [Bool.false_eq_true, if_false]
    refine wpAny_bind (wpAny_mono one (fun r s' z => ?_) fun _ _ e => e)
    obtain ⟨v, rfl, hq⟩ := z
    exact wpAny_pure hq
  · refine wpAny_bind (wpAny_pure ?_)
    simp only [Bool.false_eq_true, if_false]
    refine wpAny_bind (wpAny_mono one (fun r s' z => ?_) fun _ _ e => e)
    obtain ⟨v, rfl, hq⟩ := z
    exact wpAny_pure hq
end
end Fz
set_option Elab.async false
set_option linter.all false
set_option maxRecDepth 100000
set_option maxHeartbeats 2000000
/-! Fz: list(o), o of an own class with __len__ whose __iter__ hands out the iterator of a list. -/
namespace Fz
open PySem PySem.Spec PyProof.Rows L2
section
variable {prog : Program} {w : World} {A : Around} {E : Value → Shared → Prop} {s : Shared} {it l : Addr} {i : Nat} {items : Array Value}
theorem hT_it (ho : s.heap.get? it = some (GNX.itObj l i)) : s.TypeIs (.ref it) "list_iterator" := ⟨_, ho, rfl⟩
theorem pyNext_it {x : Value} {Q : Option Value → Shared → Prop} (ho : s.heap.get? it = some (GNX.itObj l i)) (hl : s.heap.IsList l items) (hx : items[i]? = some x)
    (hQ : ∀ h', h'.get? it = some (GNX.itObj l (i + 1)) → Heap.SameBut it s.heap h' → Q (some x) { s with heap := h' }) : wpAny (model prog w) A (pyNext (.ref it)) Q E s := by
  unfold pyNext
  refine wpAny_bind (wpAny_attempt (wpAny_callSpecial?_slot (hT_it ho) slot_listiter_next (wpAny_call_entry slot_listiter_next (hT_it ho) entry_listiter_next ?_ (args_listiter_next _))))
  exact wpAny_mono (GNX.next_item (Q := fun v s' => Q (some v) s') ho hl hx hQ) (fun fin s' ⟨v, e, q⟩ => ⟨v, e, wpAny_pure q⟩) fun _ _ z => z
theorem pyNext_itE {Q : Option Value → Shared → Prop} (hh : A.handled = none) (ho : s.heap.get? it = some (GNX.itObj l i)) (hl : s.heap.IsList l items) (hx : items[i]? = none)
    (hQ : ∀ h1 h', h1.get? it = some (GNX.itEnd i) → Heap.SameBut it s.heap h1 → (∀ b o, h1.get? b = some o → h'.get? b = some o) → Q none { s with heap := h' }) : wpAny (model prog w) A (pyNext (.ref it)) Q E s := by
  unfold pyNext
  refine wpAny_bind (wpAny_attempt (wpAny_callSpecial?_slot (hT_it ho) slot_listiter_next (wpAny_call_entry slot_listiter_next (hT_it ho) entry_listiter_next ?_ (args_listiter_next _))))
  refine wpAny_mono (GNX.next_end (A := A) (Q := fun _ _ => False) (E := fun e s' => wpAny (model prog w) A (isInstance e (.type "StopIteration") >>= fun b => if b = true then pure none else throw e) Q E s') hh ho hl hx fun h1 h' e vs e1 sb k ne he hv => ?_) (fun fin s' ⟨v, e, q⟩ => q.elim) fun _ _ z => z
  refine wpAny_bind (wpAny_isInstance (T := "StopIteration") (b := true) ⟨_, he, rfl⟩ (by rw [isSubtype_type]; kernel_rfl) ?_)
  exact wpAny_pure (hQ h1 h' e1 sb k)
end
section
variable {X : Cx} {C : Str} {k : Nat} {psI psL : List Str} {spI spL : Sp} {pins : List (Addr × Obj)} {σ : L2.St} {H : Hp} {s : Shared} {A1 : Around} {it l q a : Addr} {zs : List V}
/-- the walk -/
theorem it_loop {Rs : Result → Shared → Prop} (hh : A1.in1.handled = none) (hnq : it ≠ q) (hlq : l ≠ q) (hli : l ≠ it) (hz : zs.length ≤ sizeLine)
    (hdone : ∀ s, Inv X pins σ (upd (upd H q (.lst zs)) it (ItE it zs.length)) s → Rs (.ok (.ret .none)) s) :
    ∀ (m i : Nat) (s : Shared), m + i = zs.length → H l = some (.lst zs) → Inv X pins σ (upd (upd H q (.lst (zs.take i))) it (ItO l it i)) s → codeAny (model X.prog X.w) A1 (.builtin "list.extend.loop" ⟨[.ref q, .ref it, .none], []⟩) Rs s := by
  intro m
  induction m with
  | zero =>
    intro i s hm hl I
    have ei : i = zs.length := by omega
    subst ei
    refine codeAny_builtin PySem.F.entry_extend_loop ?_
    rw [Around.under_plainId PySem.F.plain_extend_loop _]
    have hL : (upd (upd H q (.lst (zs.take zs.length))) it (ItO l it zs.length)) l = some (.lst zs) := by rw [upd_ne hli, upd_ne hlq]; exact hl
    obtain ⟨its, rv, pl, _⟩ := I.list (SqL.of hL)
    have hi := itO_get I upd_same
    have mu : Mut ((upd (upd H q (.lst (zs.take zs.length))) it (ItO l it zs.length)) it) := by rw [upd_same]; exact True.intro
    refine wpAny_bind (pyNext_itE hh hi pl.isList (by rw [List.getElem?_toArray]; exact rv.none_of (by simp)) fun h1 h' e1 sb kk => ?_)
    have I2 : Inv X pins σ _ { s with heap := h1 } := I.write (x := it) (e := it) (t' := s.toks) mu (.inl rfl) (fun b o nb z => (sb.2 b nb).trans z) ⟨_, e1⟩ (itE_ok e1)
    rw [upd_upd, List.take_length] at I2
    exact wpAny_pure (hdone _ (I2.kept (t' := s.toks) kk))
  | succ m ih =>
    intro i s hm hl I
    have hlt : i < zs.length := by omega
    refine codeAny_builtin PySem.F.entry_extend_loop ?_
    rw [Around.under_plainId PySem.F.plain_extend_loop _]
    have hL : (upd (upd H q (.lst (zs.take i))) it (ItO l it i)) l = some (.lst zs) := by rw [upd_ne hli, upd_ne hlq]; exact hl
    obtain ⟨its, rv, pl, _⟩ := I.list (SqL.of hL)
    have hi := itO_get I upd_same
    have mu : Mut ((upd (upd H q (.lst (zs.take i))) it (ItO l it i)) it) := by rw [upd_same]; exact True.intro
    obtain ⟨u, hu, ru⟩ := rv.get (List.getElem?_eq_getElem hlt)
    refine wpAny_bind (pyNext_it hi pl.isList (by rw [List.getElem?_toArray]; exact hu) fun h' e' sb => ?_)
    have I2 : Inv X pins σ _ { s with heap := h' } := I.write (x := it) (e := it) (t' := s.toks) mu (.inl rfl) (fun b o nb z => (sb.2 b nb).trans z) ⟨_, e'⟩ (itO_ok e')
    rw [upd_upd] at I2
    have hq2 : (upd (upd H q (.lst (zs.take i))) it (ItO l it (i + 1))) q = some (.lst (zs.take i)) := by rw [upd_ne (Ne.symm hnq), upd_same]
    obtain ⟨z, its2, k2, r2, hl2, e2⟩ := I2.lstM hq2
    have hz2 : its2.length ≤ zs.length := by have := r2.length; rw [List.length_take] at this; omega
    refine wpAny_bind (wpAny_updateSeq (f := (·.push u)) e2 rfl (wpAny_pure ⟨plainId_quiet PySem.F.plain_extend_loop _, ?_⟩) (by rw [List.size_toArray]; omega) (by rw [Array.size_push, List.size_toArray]; omega))
    have I3 := I2.lset (f := (·.push u)) (its' := its2 ++ [u]) (ys := zs.take i ++ [zs[i]]) (t' := s.toks) hq2 e2 (by simp) (r2.append (.cons ru .nil)) (by rw [List.length_append, List.length_take, List.length_singleton]; omega)
    rw [← List.take_succ_eq_append_getElem hlt] at I3
    refine ih (i + 1) _ (by omega) hl ?_
    have eH : upd (upd (upd H q (.lst (zs.take i))) it (ItO l it (i + 1))) q (.lst (zs.take (i + 1))) = upd (upd H q (.lst (zs.take (i + 1)))) it (ItO l it (i + 1)) := by
      funext b
      by_cases hb : b = q
      · rw [hb, upd_same, upd_ne (Ne.symm hnq), upd_same]
      · by_cases hb2 : b = it
        · rw [hb2, upd_ne hnq, upd_same, upd_same]
        · rw [upd_ne hb, upd_ne hb2, upd_ne hb, upd_ne hb2, upd_ne hb]
    rw [eH] at I3
    exact I3
end
end Fz
set_option Elab.async false
set_option linter.all false
set_option maxRecDepth 100000
set_option maxHeartbeats 2000000
/-! Fz: list(o), the rule. -/
namespace Fz
open PySem PySem.Spec PyProof.Rows L2
def rListO (C : Addr) (spI spL : Sp) : List V → Hp → VK → Prop := fun xs H Q => ∃ a dx fs, xs = [.ref a] ∧ H a = some (.ins C dx fs) ∧ ∀ q, H q = none →
  spI [.ref a] (upd H q (.lst [])) (fun v H1 => ∃ it l zs dx1 fs1, v = .ref it ∧ it ≠ q ∧ l ≠ q ∧ l ≠ it ∧ zs.length ≤ sizeLine ∧ H1 it = some (ItO l it 0) ∧ H1 l = some (.lst zs) ∧ H1 q = some (.lst []) ∧ H1 a = some (.ins C dx1 fs1) ∧
    spL [.ref a] H1 (fun v2 H2 => ∃ n : Int, v2 = .int n ∧ 0 ≤ n ∧ n ≤ sizeLine ∧ H2 it = some (ItO l it 0) ∧ H2 l = some (.lst zs) ∧ H2 q = some (.lst []) ∧ Q (.ref q) (upd (upd H2 q (.lst zs)) it (ItE it zs.length))) E0) E0
section
variable {X : Cx} {C : Str} {k : Nat} {psI psL : List Str} {spI spL : Sp} {pins : List (Addr × Obj)} {σ : L2.St} {H : Hp} {s : Shared} {A : Around} {a : Addr} {dx : Addr} {fs : List (Str × V)}
theorem env_at {n : Nat} (sb : L2.Sub X n A) (I : Inv X pins σ H s) : Env0 X.prog X.w X.K X.mg X.base A X.stack s H := by
  have e := I.env0
  exact ⟨by rw [sb.fr]; exact e.frames, e.mod, e.bs, e.bsz, e.funs, e.frf, e.hok, e.bare⟩
theorem len_at (h : Mok X.prog X.w X.K X.mg X.base k C "__len__" psL spL) (hm : Meth X.K (He.ga X.K C) "__len__" (He.ma X.K (He.ga X.K C) "__len__")) (sb : L2.Sub X (k + 1) A) {E' : Value → Shared → Prop} {Q : Value → Shared → Prop} (I : Inv X pins σ H s) (ha : H a = some (.ins (He.ga X.K C) dx fs))
    {P : Int → Hp → Prop} (q : spL [.ref a] H (fun v H' => ∃ n : Int, v = .int n ∧ 0 ≤ n ∧ n < 2 ^ 63 ∧ P n H') E0) (hQ : ∀ n H' t s', Inv X pins σ H' s' → P n H' → 0 ≤ n → Q (.int n t) s') : wpAny (model X.prog X.w) A (call (.builtin "len") [.ref a]) Q E' s := by
  obtain ⟨mA, O, _⟩ := ins_get I.hok ha
  obtain ⟨od, J, _⟩ := O.look
  obtain ⟨mm, hF⟩ := I.fr
  refine PySem.W.len_K hF I.ok.mod.kin J hm.at_ hm.fn (wpAny_mono (run_mok h sb.in1.room (env_at sb.in1 I) I (.cons (show RelV (V.ref a) (Value.ref a) from rfl) .nil) q) (fun v s' z => ?_) fun _ _ y => y)
  obtain ⟨x, H', I', rx, n, rfl, h0, h1, q'⟩ := z
  obtain ⟨t, rfl⟩ : ∃ t, v = Value.int n t := rx
  exact ⟨⟨h0, h1⟩, hQ n H' _ _ (I'.tok _) q' h0⟩
theorem call_listIt (hI : Mok X.prog X.w X.K X.mg X.base k C "__iter__" psI spI) (mI : Meth X.K (He.ga X.K C) "__iter__" (He.ma X.K (He.ga X.K C) "__iter__")) (hL : Mok X.prog X.w X.K X.mg X.base k C "__len__" psL spL) (mL : Meth X.K (He.ga X.K C) "__len__" (He.ma X.K (He.ga X.K C) "__len__")) (hr : Room (k + 3) X.A) (hmon : ∀ vs H Q Q' E, (∀ v H', Q v H' → Q' v H') → spL vs H Q E → spL vs H Q' E) :
    CallR X (.type "list") (rListO (He.ga X.K C) spI spL) := by
  intro pins s σ H xs us Q I rv h
  obtain ⟨a, dx, fs, rfl, ha, hq⟩ := h
  obtain ⟨u, rfl, ru⟩ := rv.one
  cases ru
  have sb : L2.Sub X (k + 1) X.A.in1.in1 := (L2.Sub.in1 (L2.Sub.in1 (⟨hr, rfl⟩ : L2.Sub X (k + 3) X.A)))
  refine callType_codes (Q₁ := fun obj s₁ => obj = .ref s.heap.objs.size ∧ s₁ = { s with heap := s.heap.push { cls := .type "list", data := .seq #[] } }) PySem.F.called_list (PySem.F.typeCall_list_1 _) PySem.F.entry_list_init (code_list_new _ ⟨rfl, rfl⟩) fun obj s₁ h₁ => ?_
  obtain ⟨rfl, rfl⟩ := h₁
  generalize hqq : s.heap.objs.size = q
  have hS : (s.heap.push { cls := .type "list", data := .seq #[] }).get? q = some { cls := .type "list", data := .seq #[] } := by rw [← hqq]; exact Heap.get?_push_size _ rfl
  refine ⟨⟨_, hS, rfl⟩, PySem.F.args_list_init_2 _ _, ?_⟩
  have fr : H q = none := by rw [← hqq]; exact I.hok.fresh (Nat.le_refl _)
  have hsp := hq _ fr
  have I1 : Inv X pins σ (upd H q (.lst [])) { s with heap := s.heap.push { cls := .type "list", data := .seq #[] } } := by rw [← hqq]; exact I.lnew (its := []) (t' := s.toks) .nil (Nat.zero_le _)
  show wpAny _ _ (do let old ← Builtin.List.listItems (.ref q); Builtin.List.listUpdate (.ref q) (fun _ => #[]); letGo old.toList.reverse; Builtin.List.listExtendWith (.ref q) (.ref a) .none) _ _ _
  refine wpAny_bind ?_
  unfold Builtin.List.listItems
  refine wpAny_bind (wpAny_seqItems hS rfl (wpAny_pure ?_))
  show wpAny _ _ (updateSeq q (fun _ => #[]) >>= fun _ => letGo (#[] : Array Value).toList.reverse >>= fun _ => Builtin.List.listExtendWith (.ref q) (.ref a) .none) _ _ _
  refine wpAny_bind (wpAny_updateSeq hS rfl ?_)
  have I2 := I1.lset (f := fun _ => #[]) (its := []) (its' := []) (ys := []) (t' := s.toks) upd_same hS rfl .nil (Nat.zero_le _)
  rw [upd_upd] at I2
  refine wpAny_bind (wpAny_letGo ?_)
  have ha2 : upd H q (.lst []) a = some (.ins (He.ga X.K C) dx fs) := by rw [upd_ne (ne_of_none ha fr)]; exact ha
  have hne : q ≠ a := ne_of upd_same ha2 (fun z => nomatch z)
  obtain ⟨mA, J, _⟩ := ins_get I2.hok ha2
  obtain ⟨od, J, _⟩ := J.look
  obtain ⟨m0, hF⟩ := I2.fr
  unfold Builtin.List.listExtendWith
  refine wpAny_bind (J.type.here ?_)
  have h1 : Builtin.List.listSameRef (.ref q) (.ref a) = false := by simp [Builtin.List.listSameRef, hne]
  have h2 : (Value.ref (He.ga X.K C) == Value.type "list") = false := rfl
  have h3 : (Value.ref (He.ga X.K C) == Value.type "tuple") = false := rfl
  simp only [h1, h2, h3, Bool.or_false, Bool.false_eq_true, if_false]
  refine wpAny_bind (PySem.W.owit_iter hF I2.ok.mod.kin J mI.at_ mI.fn (wpAny_mono (run_mok hI (sb.mono (by omega)).room (env_at sb I2) I2 (.cons (show RelV (V.ref a) (Value.ref a) from rfl) .nil) hsp) (fun v s1 z => ?_) fun _ _ y => y))
  obtain ⟨x, H1, J1, rx, it, l, zs, dx1, fs1, rfl, nq, nlq, nli, hz, hit, hl, hq1, ha1, hsL⟩ := z
  cases rx
  have hTi : s1.TypeIs (.ref it) "list_iterator" := hT_it (itO_get J1 hit)
  refine wpAny_specialOf (name := Str.ofString "__next__") hTi slot_listiter_next.lookup ?_
  refine wpAny_bind (wpAny_holding ?_)
  obtain ⟨mA1, O1, _⟩ := ins_get J1.hok ha1
  obtain ⟨od1, O1, _⟩ := O1.look
  unfold Builtin.List.listLengthHint
  refine wpAny_bind (wpAny_bind (O1.type.here ((PySem.W.looks_findIn J1.kIn mL.at_).here ?_)))
  refine PySem.W.KFB.if_not rfl ?_
  refine PySem.W.KFB.if_so rfl ?_
  refine wpAny_bind (wpAny_rule ?_)
  refine wpAny_bind (wpAny_attempt ?_)
  refine len_at hL mL sb J1 ha1 (P := fun n H2 => n ≤ sizeLine ∧ H2 it = some (ItO l it 0) ∧ H2 l = some (.lst zs) ∧ H2 q = some (.lst []) ∧ Q (.ref q) (upd (upd H2 q (.lst zs)) it (ItE it zs.length))) (hmon _ _ _ _ _ (fun v H' ⟨n, e, h0, h1, r⟩ => ⟨n, e, h0, by have := sizeLine_eq; omega, h1, r⟩) hsL) (fun n H2 t s2 J2 hP h0 => ?_)
  obtain ⟨hn, hit2, hl2, hq2, hQ⟩ := hP
  show wpAny _ _ (asInt? (.int n t) >>= _) _ _ _
  refine wpAny_bind (wpAny_pure ?_)
  refine PySem.W.KFB.if_not (by show decide (n.toNat > sizeLine) = false; exact decide_eq_false (by omega)) ?_
  refine wpAny_pure ?_
  have eH : upd (upd H2 q (.lst (zs.take 0))) it (ItO l it 0) = H2 := by
    funext b
    by_cases hb : b = it
    · rw [hb, upd_same, hit2]
    · rw [upd_ne hb]
      by_cases hb2 : b = q
      · rw [hb2, upd_same, hq2, List.take_zero]
      · rw [upd_ne hb2]
  have go : ∀ s3, Inv X pins σ H2 s3 → codeAny (model X.prog X.w) X.A.in1 (.builtin "list.extend.loop" ⟨[.ref q, .ref it, .none], []⟩) (wants (fun r s₂ => r = .none ∧ EP X pins σ Q (.ref q) s₂) X.xe) s3 := fun s3 J3 =>
    it_loop (H := H2) (Rs := wants (fun r s₂ => r = .none ∧ EP X pins σ Q (.ref q) s₂) X.xe) sb.room.hd nq nlq nli hz (fun s4 J4 => ⟨rfl, .ref q, _, J4, rfl, hQ⟩) zs.length 0 s3 (by omega) hl2 (by rw [eH]; exact J3)
  obtain ⟨z, its, kk, r3, hl3, e3⟩ := J2.lstM hq2
  cases r3
  refine wpAny_ite_split (fun _ => ?_) (fun _ => wpAny_pure ⟨plainId_quiet PySem.F.plain_extend_loop _, go s2 J2⟩)
  refine wpAny_bind (wpAny_rule ?_)
  refine wpAny_bind ?_
  show wpAny _ _ (updateSeq q (·.push .none) >>= fun _ => updateSeq q (·.pop)) _ _ _
  refine wpAny_bind (wpAny_updateSeq e3 rfl ?_)
  have I4 := J2.lset (f := (·.push Value.none)) (its' := [Value.none]) (ys := [.non]) (t' := s2.toks) hq2 e3 (by simp) (.cons rfl .nil) (by rw [List.length_singleton, sizeLine_eq]; decide)
  obtain ⟨z4, its4, k4, r4, hl4, e4⟩ := I4.lstM upd_same
  obtain ⟨u4, rfl, ru4⟩ := r4.one
  refine wpAny_updateSeq e4 rfl ?_ (by show 1 ≤ sizeLine; rw [sizeLine_eq]; decide) (by show 0 ≤ sizeLine + 1; exact Nat.zero_le _)
  refine wpAny_pure ⟨plainId_quiet PySem.F.plain_extend_loop _, go _ ?_⟩
  have I5 := I4.lset (f := (·.pop)) (its := [u4]) (its' := []) (ys := []) (t' := s2.toks) upd_same e4 (by rfl) .nil (Nat.zero_le _)
  rw [upd_upd] at I5
  have hH : upd H2 q (.lst []) = H2 := by
    funext b
    by_cases hb : b = q
    · rw [hb, upd_same, hq2]
    · rw [upd_ne hb]
  rw [hH] at I5
  exact I5
end
end Fz
set_option Elab.async false
set_option linter.all false
set_option maxRecDepth 100000
set_option maxHeartbeats 2000000
/-! Fz: static methods, properties. -/
namespace Fz
open PySem PySem.Spec PyProof.Rows L2
/-- C.m is a static method -/
structure SMet (K : PySem.W.Frag) (C : Addr) (m : Str) (g : Addr) : Prop where
  rd : ClX.CRead K C (.type "type")
  at_ : ∃ p, PySem.W.findCls K (.ref C) (.type "type") m = some (.get (.builtin "staticmethod.__get__") (.ref p) .none (.ref C)) ∧ ∃ rest, PySem.W.recIn K p "staticmethod" = some (.ref g :: rest)
  kp : PySem.W.keepIn K (.ref g) = true
/-- a def kept at an address: by position, and by two keywords -/
structure Gok (P : Program) (w : World) (K : PySem.W.Frag) (mg : Str → Option Value) (base : Heap) (k : Nat) (g : Addr) (ps : List Str) (sp : Sp) : Prop where
  ok : ∃ fd, Binds K fd ps [] ∧ FnOk P w K mg base CX0 k g fd ps sp
structure GokK (P : Program) (w : World) (K : PySem.W.Frag) (mg : Str → Option Value) (base : Heap) (k : Nat) (g : Addr) (a b : Str) (sp : Sp) : Prop where
  ok : ∃ fd, Binds K fd [a, b] [] ∧ (∀ (s : Shared) (u1 u2 : Value), BindsTo s fd ⟨[], [(b, u1), (a, u2)]⟩ [(a, u2), (b, u1)]) ∧ FnOk P w K mg base CX0 k g fd [a, b] sp
def tSMeth (C : Addr) (sp : Sp) (ta : TE) (t : TA) : TE := fun σ H Q => ta σ H fun x H1 => x = .ref C ∧ t σ H1 fun vs H2 => sp vs H2 Q E0
def tSMethK (C : Addr) (sp : Sp) (ta : TE) (tk : TA) : TE := fun σ H Q => ta σ H fun x H1 => x = .ref C ∧ tk σ H1 fun zs H2 => ∃ z1 z2, zs = [z1, z2] ∧ sp [z2, z1] H2 Q E0
section
variable {X : Cx} {k : Nat} {C g : Addr} {sp : Sp} {o e : Expr} {es : List Expr} {m : Str} {pos apos : Pos} {ta : TE} {t tk : TA} {pl : Sem Bool} {ps : List Str} {pins : List (Addr × Obj)} {σ : L2.St} {H : Hp} {s : Shared}
theorem getmethsm_ok {A : Around} {E : Value → Shared → Prop} {Q : Value × List Value → Shared → Prop} (I : Inv X pins σ H s) (c : SMet X.K C m g) (h : ∀ s', Inv X pins σ H s' → Q (.ref g, []) s') : wpAny (model X.prog X.w) A (getMethod (.ref C) m pl) Q E s := by
  obtain ⟨p, h1, rest, hp⟩ := c.at_
  refine PySem.W.method_cls I.kIn c.rd.ga (PySem.W.cls_bind I.kIn c.rd.rd h1 ?_)
  exact wpAny_call (PySem.W.sm_get (s := { s with toks := s.toks + 1 }) I.kIn hp (PySem.W.handed_on rfl (h _ (I.tok _))))
theorem pe_smeth (he : PE X o ta) (c : SMet X.K C m g) (F : Gok X.prog X.w X.K X.mg X.base k g ps sp) (hr : Room k X.A) (ha : PA X (e :: es) t)
    (hst : starEach (e :: es) X.env = (false, eval e X.env) :: starEach es X.env := by rfl) (hpl : (backTo pos (starEach es X.env)).any (·.1) = false := by rfl)
    (ht : eval (.Call (.Attribute o m apos) (e :: es) [] pos) X.env = (do
      let ov ← eval o X.env
      standAt apos.atName
      let (f, first) ← holding [ov] (getMethod ov m pl)
      callWith pos f first (backTo pos (starEach (e :: es) X.env)) (backToKw pos (keywordEach [] X.env))) := by rfl) :
    PE X (.Call (.Attribute o m apos) (e :: es) [] pos) (tSMeth C sp ta t) := by
  obtain ⟨fd, b, F⟩ := F.ok
  refine ⟨fun pins s σ H Q I h => ?_⟩
  refine PySem.W.methodCall_KW (pl := pl) (thn (he.run pins s σ H _ I h) fun u s1 ⟨x, H1, I1, rx, ex, q⟩ => ?_) ht
  subst ex
  obtain rfl : u = Value.ref C := rx
  refine getmethsm_ok I1 c fun s2 I2 => ?_
  refine PySem.W.callWith_K (first := []) (h₀ := X.base) I2.ok.mod.kin c.kp (thn (ha.run pos pins s2 σ H1 _ I2 q) fun us s3 ⟨vs, H2, I3, r, q2⟩ => ⟨I3.kIn, ?_⟩) hst hpl
  exact run_fn F hr b .nil pass0 I3 r (by rw [List.append_nil]; exact q2)
theorem pe_smethK {a b : Str} {kws : List Keyword} (he : PE X o ta) (c : SMet X.K C m g) (F : GokK X.prog X.w X.K X.mg X.base k g a b sp) (hr : Room k X.A) (hkw : PK X kws tk)
    (hall : (backToKw pos (keywordEach kws X.env)).all (·.1.isSome) = true := by rfl) (hks : (backToKw pos (keywordEach kws X.env)).filterMap (·.1) = [b, a] := by rfl)
    (hpl : ((backTo pos (starEach [] X.env)).any (·.1) || (backToKw pos (keywordEach kws X.env)).any (·.1.isNone)) = false := by rfl)
    (ht : eval (.Call (.Attribute o m apos) [] kws pos) X.env = (do
      let ov ← eval o X.env
      standAt apos.atName
      let (f, first) ← holding [ov] (getMethod ov m pl)
      callWith pos f first (backTo pos (starEach [] X.env)) (backToKw pos (keywordEach kws X.env))) := by rfl) :
    PE X (.Call (.Attribute o m apos) [] kws pos) (tSMethK C sp ta tk) := by
  obtain ⟨fd, _, bk, F⟩ := F.ok
  refine ⟨fun pins s σ H Q I h => ?_⟩
  refine PySem.W.methodCall_KW (pl := pl) (thn (he.run pins s σ H _ I h) fun u s1 ⟨x, H1, I1, rx, ex, q⟩ => ?_) ht
  subst ex
  obtain rfl : u = Value.ref C := rx
  refine getmethsm_ok I1 c fun s2 I2 => ?_
  refine PySem.W.callWith_KW0 (first := []) (h₀ := X.base) I2.ok.mod.kin c.kp hall ?_ hpl
  refine thn (hkw.run pos pins s2 σ H1 _ I2 q) fun ws s3 ⟨zs, H2, I3, rz, z1, z2, ez, q2⟩ => ⟨I3.kIn, ?_⟩
  rw [hks]
  subst ez
  cases rz with
  | @cons _ u1 _ _ r1 rz =>
    cases rz with
    | @cons _ u2 _ _ r2 rz =>
      cases rz
      refine wpAny_call (codeAny_mono (F.run X.A X.stack s3 H2 ⟨[], [(b, u1), (a, u2)]⟩ [u2, u1] [z2, z1] Q E0 hr I3.env0 (bk s3 u1 u2) (.cons r2 (.cons r1 .nil)) q2) fun r s' hq => ?_)
      cases r with
      | error er => exact False.elim hq
      | ok fl =>
        cases fl with
        | ret u => exact I3.after hq
        | next => exact False.elim hq
        | brk => exact False.elim hq
        | cont => exact False.elim hq
theorem pe_propF {f : Str} {p : Addr} (he : PE X e ta) (c : Cls X.K C) (hp : PropOf X.K C f p g) (F : Gok X.prog X.w X.K X.mg X.base k g ps sp) (hr : Room (k + 1) X.A) (hab : attributeBase e f X.env (eval e X.env) = eval e X.env) : PE X (.Attribute e f pos) (tProp C sp [] E0 ta) := by
  obtain ⟨fd, b, F⟩ := F.ok
  exact pe_prop he c hp F hr b .nil pass0 hab
end
end Fz
set_option Elab.async false
set_option linter.all false
set_option maxRecDepth 100000
set_option maxHeartbeats 2000000
/-! Fz: enumerate(tuple) walked. -/
namespace Fz
open PySem PySem.Spec PyProof.Rows L2
theorem es_enumT {K : PySem.W.Frag} {σ : L2.St} {G : GH} {H : Hp} {tl : TE} {α : Type} {e : α → PyData} {xs : List α} (h : EV tl σ G H (D K (eT e xs))) : ES (iEnumT K (tCons tl tNil)) σ G H (fun x => D K (eP2 eI e x)) (enumL xs) := fun G1 H1 g Q q => h G1 H1 g _ fun src G2 H2 g2 rs => by
  obtain ⟨p, vs, rfl, hf, hr⟩ := Dg.tuple_inv rs
  have hlen := hr.length
  rw [List.length_map] at hlen
  refine ⟨p, vs, rfl, hf.sq g2.fit, q _ (.ref p) (D K (eT e xs)) G2 H2 g2 rs ⟨fun G H i z f r0 hz => ?_, fun G H f r0 => ?_, by rw [enumL_len, ← hlen]; exact hf.1⟩⟩
  · obtain ⟨x, hx, rfl⟩ := enumL_at xs hz
    obtain ⟨q', us, eq, hf', hr'⟩ := Dg.tuple_inv r0
    cases eq
    obtain ⟨y, hy, ry⟩ := hr'.get (i := i) (d := e x) (by rw [List.getElem?_map, hx]; rfl)
    refine ⟨⟨us, y, hf'.sq f, hy⟩, fun v H' ⟨T, x1, ev, nT, eH, hv⟩ => ?_⟩
    subst ev eH
    obtain rfl : x1 = y := Option.some.inj ((hv us (hf'.sq f)).symm.trans hy)
    have gT : Gr [] G H (updG G T (isO (.tup [.int (i : Nat), x1]))) (upd H T (.tup [.int (i : Nat), x1])) := Gr.make f nT
    exact ⟨_, gT, .tup ⟨by show 2 ≤ sizeLine; decide, updG_same⟩ (.cons (.int _) (.cons (Dg.mono gT.sub ry) .nil))⟩
  · obtain ⟨q', us, eq, hf', hr'⟩ := Dg.tuple_inv r0
    cases eq
    have hl' := hr'.length
    rw [List.length_map] at hl'
    exact ⟨us, hf'.sq f, by rw [enumL_len]; omega⟩
end Fz
set_option Elab.async false
set_option linter.all false
set_option maxRecDepth 100000
set_option maxHeartbeats 2000000
/-! Fz: objects with a cache: properties, methods, len, in, ==, repr, list. -/
namespace Fz
open PySem PySem.Spec PyProof.Rows L2
section
variable {K : PySem.W.Frag} {σ : L2.St} {G : GH} {H : Hp} {ta tb : TE} {t : TA} {C : Addr} {ra rb : List (Str × RP)} {g m : Str} {A : V → Prop} {E : XK} {X R : Type} {enc : X → List RP} {mm : X → Option R} {er : R → RP} {x : X} {r : R} {Rs : List RP}
/-- such an object in the heap -/
theorem fzV_at {v : V} (h : (fzV C ra g A rb).r G v) (f : Fit G H) : ∃ a dx a1 tt b1, v = .ref a ∧ H a = some (.ins C dx (a1 ++ (g, tt) :: b1)) ∧ FsR G a1 ra ∧ FsR G b1 rb := by
  obtain ⟨a, dx, a1, b1, rfl, hx, h1, h2⟩ := h
  obtain ⟨o, ho, ⟨tt, _, eo⟩, _⟩ := f a _ hx
  subst eo
  exact ⟨a, dx, a1, tt, b1, rfl, ho, h1, h2⟩
theorem ev_propV (h : EV ta σ G H (fzV C ra g A rb)) (hx : enc x = [fzV C ra g A rb]) (hm : mm x = some r) : EV (tProp C (spF enc mm er) [] E ta) σ G H (er r) := fun G1 H1 gg Q q => h G1 H1 gg _ fun v G2 H2 g2 rv => by
  obtain ⟨a, dx, a1, tt, b1, ev, ho, h1, h2⟩ := fzV_at rv g2.fit
  subst ev
  exact ⟨a, dx, _, rfl, ho, G2, x, r, g2.fit, by rw [hx]; exact .cons rv .nil, hm, fun v G3 H3 g3 r3 => q v G3 H3 (g2.trans g3) r3⟩
theorem look_noV {a1 b1 : List (Str × V)} {tt : V} (h1 : FsR G a1 ra) (h2 : FsR G b1 rb) (hn : (((ra ++ rb).map (·.1)).all fun k => decide (k ≠ m)) = true) (hne : (m == g) = false) : (a1 ++ (g, tt) :: b1).lookup m = Option.none := by
  rw [lookup_skip hne]
  exact (h1.append h2).lookN hn
theorem ev_methV (h : EV ta σ G H (fzV C ra g A rb)) (ha : EA t σ G H Rs) (hx : enc x = fzV C ra g A rb :: Rs) (hm : mm x = some r) (hn : (((ra ++ rb).map (·.1)).all fun k => decide (k ≠ m)) = true) (hne : (m == g) = false := by decide +kernel) : EV (tMeth C m (spF enc mm er) [] E ta t) σ G H (er r) := fun G1 H1 gg Q q => h G1 H1 gg _ fun v G2 H2 g2 rv => by
  obtain ⟨a, dx, a1, tt, b1, ev, ho, h1, h2⟩ := fzV_at rv g2.fit
  subst ev
  refine ⟨a, dx, _, rfl, ho, look_noV h1 h2 hn hne, ha G2 H2 (gg.trans g2) _ fun us G3 H3 g3 rs => ?_⟩
  rw [List.append_nil]
  exact ⟨G3, x, r, g3.fit, by rw [hx]; exact .cons ((fzV C ra g A rb).mono g3.sub rv) rs, hm, fun v G4 H4 g4 r4 => q v G4 H4 ((g2.trans g3).trans g4) r4⟩
theorem en_methV {mn : X → Option (List PyData)} {ds : List PyData} (h : EV ta σ G H (fzV C ra g A rb)) (ha : EA t σ G H Rs) (hx : enc x = fzV C ra g A rb :: Rs) (hm : mn x = some ds) (hn : (((ra ++ rb).map (·.1)).all fun k => decide (k ≠ m)) = true) (hne : (m == g) = false := by decide +kernel) : EN K (tMeth C m (spN K enc mn) [] E ta t) σ G H ds := fun G1 H1 gg Q q => h G1 H1 gg _ fun v G2 H2 g2 rv => by
  obtain ⟨a, dx, a1, tt, b1, ev, ho, h1, h2⟩ := fzV_at rv g2.fit
  subst ev
  refine ⟨a, dx, _, rfl, ho, look_noV h1 h2 hn hne, ha G2 H2 (gg.trans g2) _ fun us G3 H3 g3 rs => ?_⟩
  rw [List.append_nil]
  exact ⟨G3, x, ds, g3.fit, by rw [hx]; exact .cons ((fzV C ra g A rb).mono g3.sub rv) rs, hm, fun p us G4 H4 g4 n4 e4 p4 z4 r4 => q p us G4 H4 ((g2.trans g3).trans g4) n4 (g2.free gg.fit (g3.free g2.fit e4)) p4 z4 r4⟩
theorem ev_lenO {n : Int} (h : EV ta σ G H (fzV C ra g A rb)) (hx : enc x = [fzV C ra g A rb]) (hm : mm x = some r) (her : ∀ G v, (er r).r G v → v = .int n) (h0 : 0 ≤ n) (h1 : n < 2 ^ 63) : EV (tCB (rLenO C (spF enc mm er)) (tCons ta tNil)) σ G H (D K (eI n)) := fun G1 H1 gg Q q => h G1 H1 gg _ fun v G2 H2 g2 rv => by
  obtain ⟨a, dx, a1, tt, b1, ev, ho, k1, k2⟩ := fzV_at rv g2.fit
  subst ev
  exact ⟨a, dx, _, rfl, ho, G2, x, r, g2.fit, by rw [hx]; exact .cons rv .nil, hm, fun v G3 H3 g3 r3 => ⟨n, her _ _ r3, h0, h1, q _ G3 H3 (g2.trans g3) (.int n)⟩⟩
theorem ev_reprO {z : Tx} (h : EV ta σ G H (fzV C ra g A rb)) (hx : enc x = [fzV C ra g A rb]) (hm : mm x = some r) (her : ∀ G v, (er r).r G v → (D K (eS z)).r G v) : EV (tCB (rReprO C (spF enc mm er)) (tCons ta tNil)) σ G H (D K (eS z)) := fun G1 H1 gg Q q => h G1 H1 gg _ fun v G2 H2 g2 rv => by
  obtain ⟨a, dx, a1, tt, b1, ev, ho, k1, k2⟩ := fzV_at rv g2.fit
  subst ev
  exact ⟨a, dx, _, rfl, ho, G2, x, r, g2.fit, by rw [hx]; exact .cons rv .nil, hm, fun v G3 H3 g3 r3 => ⟨mkS z, Dg.str_inv (her _ _ r3), q _ G3 H3 (g2.trans g3) (.str _ (Dg.str_len (her _ _ r3)))⟩⟩
theorem ev_inO {R1 : RP} {b : Bool} (h1 : EV ta σ G H R1) (h : EV tb σ G H (fzV C ra g A rb)) (hx : enc x = [fzV C ra g A rb, R1]) (hm : mm x = some r) (her : ∀ G v, (er r).r G v → v = .bl b) : EV (tOp (rInO C (spF enc mm er)) ta tb) σ G H (D K (eB b)) := fun G1 H1 gg Q q => h1 G1 H1 gg _ fun u G2 H2 g2 ru => h G2 H2 (gg.trans g2) _ fun v G3 H3 g3 rv => by
  obtain ⟨a, dx, a1, tt, b1, ev, ho, k1, k2⟩ := fzV_at rv g3.fit
  subst ev
  exact ⟨a, dx, _, rfl, ho, G3, x, r, g3.fit, by rw [hx]; exact .cons rv (.cons (R1.mono g3.sub ru) .nil), hm, fun v G4 H4 g4 r4 => ⟨b, her _ _ r4, q _ G4 H4 ((g2.trans g3).trans g4) (.bl b)⟩⟩
/-- the other side of == : its class -/
def SideOk (K : PySem.W.Frag) (C : Addr) (R1 : RP) : Prop := ∀ (G : GH) (H : Hp) (v : V), Fit G H → R1.r G v → ∃ t, TyOf K H v t ∧ (t = .ref C ∨ PySem.W.subIn K t (.ref C) = some false)
theorem side_V (c : C8.InsC K C) : SideOk K C (fzV C ra g A rb) := fun G H v f rv => by
  obtain ⟨a, dx, a1, tt, b1, ev, ho, k1, k2⟩ := fzV_at rv f
  subst ev
  exact ⟨_, .ins ho c.cl c.ha c.hn c.htk c.hm, .inl rfl⟩
theorem side_S {s : Tx} (h : PySem.W.subIn K (.type "str") (.ref C) = some false) : SideOk K C (D K (eS s)) := fun G H v f rv => ⟨.type "str", by rw [Dg.str_inv rv]; exact .str _, .inr h⟩
theorem side_I {i : Int} (h : PySem.W.subIn K (.type "int") (.ref C) = some false) : SideOk K C (D K (eI i)) := fun G H v f rv => ⟨.type "int", by rw [Dg.int_inv rv]; exact .int _, .inr h⟩
theorem side_L {ds : List PyData} (h : PySem.W.subIn K (.type "list") (.ref C) = some false) : SideOk K C (D K (.list ds)) := fun G H v f rv => by
  obtain ⟨a, xs, ev, hf, _⟩ := Dg.list_inv rv
  subst ev
  exact ⟨.type "list", .lst (hf.at' f), .inr h⟩
theorem ev_eqO {R1 : RP} {b : Bool} (hs : SideOk K C R1) (h : EV ta σ G H (fzV C ra g A rb)) (h1 : EV tb σ G H R1) (hx : enc x = [fzV C ra g A rb, R1]) (hm : mm x = some r) (her : ∀ G v, (er r).r G v → v = .bl b) : EV (tOp (rEqO K C (spF enc mm er)) ta tb) σ G H (D K (eB b)) := fun G1 H1 gg Q q => h G1 H1 gg _ fun u G2 H2 g2 ru => h1 G2 H2 (gg.trans g2) _ fun v G3 H3 g3 rv => by
  obtain ⟨a, dx, a1, tt, b1, ev, ho, k1, k2⟩ := fzV_at ((fzV C ra g A rb).mono g3.sub ru) g3.fit
  subst ev
  obtain ⟨ty, h1, h2⟩ := hs G3 H3 v g3.fit rv
  exact ⟨a, dx, _, ty, rfl, ho, h1, h2, G3, x, r, g3.fit, by rw [hx]; exact .cons ((fzV C ra g A rb).mono g3.sub ru) (.cons rv .nil), hm, fun v G4 H4 g4 r4 => ⟨b, her _ _ r4, q _ G4 H4 ((g2.trans g3).trans g4) (.bl b)⟩⟩
theorem ev_neO {R1 : RP} {b : Bool} (hs : SideOk K C R1) (h : EV ta σ G H (fzV C ra g A rb)) (h1 : EV tb σ G H R1) (hx : enc x = [fzV C ra g A rb, R1]) (hm : mm x = some r) (her : ∀ G v, (er r).r G v → v = .bl b) : EV (tOp (rNeO K C (spF enc mm er)) ta tb) σ G H (D K (eB (!b))) := fun G1 H1 gg Q q => h G1 H1 gg _ fun u G2 H2 g2 ru => h1 G2 H2 (gg.trans g2) _ fun v G3 H3 g3 rv => by
  obtain ⟨a, dx, a1, tt, b1, ev, ho, k1, k2⟩ := fzV_at ((fzV C ra g A rb).mono g3.sub ru) g3.fit
  subst ev
  obtain ⟨ty, h1, h2⟩ := hs G3 H3 v g3.fit rv
  exact ⟨a, dx, _, ty, rfl, ho, h1, h2, G3, x, r, g3.fit, by rw [hx]; exact .cons ((fzV C ra g A rb).mono g3.sub ru) (.cons rv .nil), hm, fun v G4 H4 g4 r4 => ⟨b, her _ _ r4, q _ G4 H4 ((g2.trans g3).trans g4) (.bl (!b))⟩⟩
/-- hands out the iterator of a list -/
def spIter {X : Type} (K : PySem.W.Frag) (enc : X → List RP) (mi : X → Option (List PyData)) : Sp := fun vs H Q E => ∃ G x ds, Fit G H ∧ RAll G vs (enc x) ∧ mi x = some ds ∧
  ∀ it l zs G' H', Gr [] G H G' (upd H' it (ItO l it 0)) → Gr [] G H G' H' → H' it = none → G' l = some (isO (.lst zs)) → zs.length ≤ sizeLine → DgAll K G' zs ds → Q (.ref it) (upd H' it (ItO l it 0))
theorem en_listO {mi : X → Option (List PyData)} {ds : List PyData} {n : Int} (h : EV ta σ G H (fzV C ra g A rb)) (hx : enc x = [fzV C ra g A rb]) (hmi : mi x = some ds) (hm : mm x = some r) (her : ∀ G v, (er r).r G v → v = .int n) (h0 : 0 ≤ n) (h1 : n ≤ sizeLine) :
    EN K (tCB (rListO C (spIter K enc mi) (spF enc mm er)) (tCons ta tNil)) σ G H ds := fun G1 H1 gg Q q => h G1 H1 gg _ fun v G2 H2 g2 rv => by
  obtain ⟨a, dx, a1, tt, b1, ev, ho, k1, k2⟩ := fzV_at rv g2.fit
  subst ev
  refine ⟨a, dx, _, rfl, ho, fun p hp => ?_⟩
  have gq : Gr [] G2 H2 G2 (upd H2 p (.lst [])) := Gr.new g2.fit hp
  have np : G2 p = none := g2.fit.none hp
  refine ⟨G2, x, ds, gq.fit, by rw [hx]; exact .cons rv .nil, hmi, fun it l zs G3 H3 g3 g3' hit hl hz hd => ?_⟩
  have hp3 : H3 p = some (.lst []) := g3'.at0 np upd_same
  have np3 : G3 p = none := g3'.un np upd_same
  have hipn : it ≠ p := fun z => by rw [z, hp3] at hit; cases hit
  have hlp : l ≠ p := fun z => by rw [z, np3] at hl; cases hl
  have hl3 : H3 l = some (.lst zs) := g3'.fit.at' hl
  have hli : l ≠ it := fun z => by rw [z, hit] at hl3; cases hl3
  obtain ⟨a', dx', a1', tt', b1', ea', ho', _, _⟩ := fzV_at (H := upd H3 it (ItO l it 0)) ((fzV C ra g A rb).mono (gq.trans g3).sub rv) g3.fit
  cases ea'
  refine ⟨it, l, zs, dx', _, rfl, hipn, hlp, hli, hz, upd_same, by rw [upd_ne hli]; exact hl3, by rw [upd_ne (Ne.symm hipn)]; exact hp3, ho', ?_⟩
  refine ⟨G3, x, r, g3.fit, by rw [hx]; exact .cons ((fzV C ra g A rb).mono (gq.trans g3).sub rv) .nil, hm, fun v2 G4 H4 g4 r4 => ⟨n, her _ _ r4, h0, h1, ?_⟩⟩
  have nit : G3 it = none := g3'.fit.none hit
  have hit4 : H4 it = some (ItO l it 0) := g4.at0 nit upd_same (by intro _ z; cases z)
  have nit4 : G4 it = none := g4.un nit upd_same (by intro _ z; cases z)
  have hp3b : (upd H3 it (ItO l it 0)) p = some (.lst []) := by rw [upd_ne (Ne.symm hipn)]; exact hp3
  have hp4 : H4 p = some (.lst []) := g4.at0 np3 hp3b
  have np4 : G4 p = none := g4.un np3 hp3b
  have hl4 : H4 l = some (.lst zs) := g4.fit.at' (g4.sub _ _ hl)
  refine ⟨hit4, hl4, hp4, ?_⟩
  have gA : Gr [] G1 H1 G2 (upd H2 p (.lst [])) := g2.trans gq
  have fp1 : H1 p = none := g2.free gg.fit hp
  have fit1 : H1 it = none := gA.free gg.fit (g3'.free gq.fit hit)
  have gB : Gr [] G1 H1 G4 H4 := (gA.trans g3).trans g4
  have g5 : Gr [] G1 H1 G4 (upd H4 p (.lst zs)) := Gr.putNew gB fp1 np4 hp4
  have g6 : Gr [] G1 H1 G4 (upd (upd H4 p (.lst zs)) it (ItE it zs.length)) := Gr.putNew g5 fit1 nit4 (by rw [upd_ne hipn]; exact hit4) (by intro _ z; cases z) (by intro _ z; cases z)
  exact q p zs G4 _ g6 np4 fp1 (by rw [upd_ne (Ne.symm hipn), upd_same]) hz (hd.mono g4.sub)
end
end Fz
set_option Elab.async false
set_option linter.all false
set_option maxRecDepth 100000
set_option maxHeartbeats 2000000
/-! Fz: an own error over a built-in one, whose __init__ keeps one field "name". -/
namespace PySem
namespace NmX
open PySem.W PySem.Calls PyProof.Rows PySem.HandSPX
def iA (p1 p2 : Pos) : Arguments := { posonlyargs := [], args := [{ arg := "self", annotation := none, pos := p1 }, { arg := "name", annotation := none, pos := p2 }], vararg := none, kwonlyargs := [], kw_defaults := [], kwarg := none, defaults := [] }
def iB (q1 q2 q3 q4 : Pos) : List Stmt := [.Assign [.Attribute (.Name "self" q1) "name" q2] (.Name "name" q3) q4]
def iS : Scope := { kind := .function, names := [(PySem.Str.ofString "self", .local), (PySem.Str.ofString "name", .local)], isGenerator := false, isCoroutine := false, more := [] }
/-- what the class C and its __init__ at fI say -/
structure NmC (K : Frag) (C fI : Addr) (qual : Str) (bmB : List Value) (newId : String) : Prop where
  ini : findIn K (.ref C) "__init__" = some (some (.ref fI))
  made : excInitIn K C bmB newId = true
  over : excOver K C bmB = true
  tk : takerIn K C "name" = some none
  sa : findIn K (.ref C) "__setattr__" = some (some (.builtin "object.__setattr__"))
  ga : findIn K (.ref C) "__getattribute__" = some (some (.builtin "BaseException.__getattribute__"))
  gg : findIn K (.ref C) "__getattr__" = some none
  no : findIn K (.ref C) "name" = some none
  tI : typeIn K (.ref fI) = some (.type "function")
  kC : keepIn K (.ref C) = true
  exC : subIn K (.ref C) (.type "BaseException") = some true
  tyC : typeIn K (.ref C) = some (.type "type")
  hdC : hasDictIn K C = true
  te : exmOne K (.ref C) (.ref C) = some true
  fn : ∃ (fd : FuncData) (p1 p2 q1 q2 q3 q4 : Pos), L2.FunD K "__init__" qual (iA p1 p2) (iB q1 q2 q3 q4) iS [] [] fI fd
theorem one_size (v : Value) : [v].length ≤ sizeLine := by rw [sizeLine_eq]; exact (by decide : 1 ≤ 16777216)
theorem ldC {M : Model} {s : Shared} {name : Str} {scope : Scope} {L a : Addr} {cd : Value} {m : Str → Option Value} {x : Str} {pos : Pos} {v : Value} {Q : Value → Shared → Prop} {A : Around} {E : Value → Shared → Prop} (hn : s.heap.Ns L m) (hv : m x = some v) (h : Q v s)
    (hk : scope.kind = .function := by rfl) (hl : (envOfC name scope L a cd).kindOf x = some .local := by rfl) (hd : (x == ("__debug__" : Str)) = false := by decide) :
    wpAny M A (eval (.Name x pos) (envOfC name scope L a cd)) Q E s := wpAny_Name (wpAny_loadName_local hk hl hn hv h) hd
/-- what __init__ leaves of a fresh exception at x -/
structure InitEnd (h h' : Heap) (x C dx t1 : Addr) (v : Value) : Prop where
  keep : ∀ b o, b ≠ x → h.get? b = some o → h'.get? b = some o
  obj : h'.get? x = some { cls := .ref C, dict := some dx, data := .fields #[.ref t1, .none, .none, .none, .bool false, .none] }
  dbig : h.objs.size ≤ dx
  dne : dx ≠ x
  ns : h'.Ns1 dx (fun y => if y = "name" then some v else none)
structure OwnMade (h h' : Heap) (e C d : Addr) (v : Value) : Prop where
  keep : ∀ b o, h.get? b = some o → h'.get? b = some o
  new : h.objs.size ≤ e
  obj : ∃ oe vs, h'.get? e = some oe ∧ oe.cls = .ref C ∧ oe.dict = some d ∧ oe.data = .fields vs ∧ vs[1]? = some .none
  dbig : h.objs.size ≤ d
  dne : d ≠ e
  ns : h'.Ns1 d (fun y => if y = "name" then some v else none)
section
variable {prog : Program} {w : World} {A : Around} {E : Value → Shared → Prop} {R : Result → Shared → Prop} {s : Shared} {K : Frag} {C fI : Addr} {qual : Str} {bmB : List Value} {newId initId B : String}
/-- self.name = v on an error without a dict as yet -/
theorem nm_store (SF : StoreFacts B bmB "object.__setattr__" "object") (T : NmC K C fI qual bmB newId) {x t0 : Addr} {tk : Tok} {v : Value} (X : K.In s.heap) (hx : s.heap.get? x = some (excO C t0))
    (hq : ∀ h' tk' dx, InitEnd s.heap h' x C dx t0 v → R (.ok (.ret .none)) { s with heap := h', toks := tk' }) : codeAny (model prog w) A (.call (.builtin "object.__setattr__") ⟨[.ref x, .str "name" tk, v], []⟩) R s := by
  refine osa_openX (od := none) SF X ⟨hx, rfl, rfl, trivial⟩ T.over T.tk fun b => ?_
  obtain ⟨cd, hc, hd'⟩ := any_some T.hdC
  have hxs : x ≠ s.heap.objs.size := Nat.ne_of_lt (Heap.lt_size hx)
  obtain ⟨hp, g, d, t, os⟩ := s
  refine wpAny_bind (wpAny_pure (wpAny_bind (instanceDict_exc hx (looks_clsIn X hc) hd' ?_)))
  refine store_in_new ⟨_, #[], _, (Heap.get?_update_ne _ _ _ _ hxs.symm).trans (Heap.get?_push_at rfl rfl), rfl, fun e he => absurd he (by simp), fun _ => rfl⟩ fun h' tk' hn' hs => ?_
  have hx₁ : (hp.push { cls := .type "dict", data := .dict #[] }).get? x = some (excO C t0) := Heap.get?_push_of_some _ hx
  refine hq h' tk' hp.objs.size ⟨fun b o hb ho => ?_, ?_, Nat.le_refl _, hxs.symm, hn'⟩
  · exact (hs.2 b (Nat.ne_of_lt (Heap.lt_size ho))).trans ((Heap.get?_update_ne _ _ _ _ hb).trans (Heap.get?_push_of_some _ ho))
  · exact (hs.2 x hxs).trans (Heap.get?_update_self _ hx₁ rfl)
theorem nm_init (SF : StoreFacts B bmB "object.__setattr__" "object") (T : NmC K C fI qual bmB newId) {x t0 : Addr} {v : Value} (X : K.In s.heap) (hlim : s.heap.NoLimit) (hx : s.heap.get? x = some (excO C t0)) (hroom : A.depth < recursionLimit)
    (hq : ∀ h' tk dx, InitEnd s.heap h' x C dx t0 v → R (.ok (.ret .none)) { s with heap := h', toks := tk }) : codeAny (model prog w) A (.call (.ref fI) ⟨[.ref x, v], []⟩) R s := by
  obtain ⟨fd, p1, p2, q1, q2, q3, q4, FD⟩ := T.fn
  obtain ⟨oc, od, dV, kV, doc, pm, an, cdv, ct, osl, rfl, ho, hcd, hD, _⟩ := FD.ex
  have edV : dV = .none := by
    rcases hD with ⟨_, e⟩ | ⟨e, _⟩
    · exact e
    · exact absurd rfl e
  subst edV
  refine Att.call_fn (binds := [("self", .ref x), ("name", v)]) X hlim ho hcd hroom (BindsTo.of_eq (by first | rfl | with_unfolding_all rfl)) (by first | rfl | decide | with_unfolding_all rfl) (fun s₁ IC => ?_) rfl rfl rfl
  obtain ⟨h₁, tk₁, rfl⟩ := IC.toInCall.same
  have k : ∀ b o, s.heap.get? b = some o → h₁.get? b = some o := IC.toInCall.keep
  have hn := IC.toInCall.ns
  have X₁ : K.In h₁ := X.keeps k
  have hx₁ := k _ _ hx
  show wpAny _ _ (execs _ _) _ _ _
  refine wpAny_execs_cons (plainObj_wpAny_Assign_Attribute ?_)
  refine ldC (v := v) hn (by first | rfl | with_unfolding_all rfl | kernel_rfl) (ldC (v := .ref x) hn (by first | rfl | with_unfolding_all rfl | kernel_rfl) ?_)
  refine set_plain X₁ (ox := excO C t0) (od := none) ⟨hx₁, rfl, rfl, trivial⟩ T.sa (nm_store SF T X₁ hx₁ fun h₃ tk₃ dx M => ?_)
  show wpAny _ _ (execs _ _) _ _ _
  have z : s.heap.objs.size < h₁.objs.size := hn.lt
  exact wpAny_execs_nil (hq h₃ tk₃ dx ⟨fun b o hb e => M.keep b o hb (k b o e), M.obj, Nat.le_of_lt (Nat.lt_of_lt_of_le z M.dbig), M.dne, M.ns⟩)
theorem nm_made (SF : StoreFacts B bmB "object.__setattr__" "object") (FB : ExcBaseFacts B newId initId bmB) (T : NmC K C fI qual bmB newId) {v : Value} (X : K.In s.heap) (hlim : s.heap.NoLimit) (hroom : A.depth + 1 < recursionLimit)
    (hq : ∀ h' tk e d, OwnMade s.heap h' e C d v → R (.ok (.ret (.ref e))) { s with heap := h', toks := tk }) : codeAny (model prog w) A (.call (.ref C) ⟨[v], []⟩) R s := by
  obtain ⟨nm, N, q, bs, bm, hdct, sn, sub, ab, col, dd, k0, k1, k2, k3, k5, hC, hT⟩ := excInit_of X T.made
  obtain ⟨hp, g, dr, tk, os⟩ := s
  have k : ∀ b o, hp.get? b = some o → ((hp.push (kdv_tup [v])).push (excO C hp.objs.size)).get? b = some o := fun b o e => Heap.get?_push_of_some _ (Heap.get?_push_of_some _ e)
  have hget : ((hp.push (kdv_tup [v])).push (excO C hp.objs.size)).get? (hp.objs.size + 1) = some (excO C hp.objs.size) := by heap_get
  refine call_own FB hT hC (looks_findIn X T.ini) (fun self => bind_fn X self T.tI) (one_size v) ?_
  refine nm_init SF (s := ⟨(hp.push (kdv_tup [v])).push (excO C hp.objs.size), g, dr, tk, os⟩) T (X.keeps k) (hlim.keeps k) hget hroom fun h' tk' dx ⟨k', hx, dn, dne, hns⟩ => ?_
  have old : ∀ b o, hp.get? b = some o → h'.get? b = some o := fun b o e => k' b o (Nat.ne_of_lt (Nat.lt_succ_of_lt (Heap.lt_size e))) (k b o e)
  have z : hp.objs.size + 1 + 1 ≤ dx := by
    have q := dn
    rw [Heap.size_push, Heap.size_push] at q
    exact q
  exact ⟨rfl, hq h' tk' (hp.objs.size + 1) dx ⟨old, Nat.le_succ _, ⟨_, _, hx, rfl, rfl, rfl, rfl⟩, Nat.le_trans (Nat.le_trans (Nat.le_succ _) (Nat.le_succ _)) z, dne, hns⟩⟩
end
end NmX
end PySem
set_option Elab.async false
set_option linter.all false
set_option maxRecDepth 100000
set_option maxHeartbeats 2000000
/-! Fz: such an error raised, caught, asked. -/
namespace PySem.W
open PySem PySem.Spec PySem.Calls PyProof.Rows
section
variable {prog : Program} {w : World} {A : Around} {E : Value → Shared → Prop} {s : Shared} {K : Frag} {x D : Addr} {ox od : Obj}
theorem nm_class {Q : Option Value → Shared → Prop} (T : L2.ExcC K D) (X : K.In s.heap) (I : InstAt s.heap x ox D (some od)) (h : Q (some (.ref D)) { s with toks := s.toks + 1 }) : wpAny (model prog w) A (getAttr? (.ref x) "__class__") Q E s := by
  have hf : findObj K D (some od) "__class__" = some (.bind (.builtin "getset_descriptor.__get__") (.builtin "object.__class__")) := findObj_data (by obtain ⟨cd, hc, _⟩ := any_some T.hd; rw [hc]; rfl) T.ha T.hn T.ht
  obtain ⟨hp, g, d, t, os⟩ := s
  have m0 := I.type (M := model prog w)
  have m1 := looks_findIn (M := model prog w) X T.hg
  have m2 := looks_findIn (M := model prog w) X T.hk
  have m3 := looks_find (M := model prog w) X I hf
  have below : Looks (model prog w) hp (isInstance (.ref x) (.type "BaseException")) true := m0.andThen (looks_subIn X T.hs)
  have e0 : (false && onTheHeap (Value.builtin "BaseException.__getattribute__")) = false := rfl
  have e2 : (Value.builtin "BaseException.__getattribute__" == Value.builtin "object.__getattribute__") = false := by decide +kernel
  have e1 : (onTheHeap (Value.ref D) && Value.builtin "BaseException.__getattribute__" == Value.builtin "object.__getattribute__") = false := by rw [e2]; rfl
  unfold getAttr? getAttrBy? getAttrBy
  refine wpAny_bind (wpAny_mkText (wpAny_bind (wpAny_attempt (wpAny_holding (wpAny_bind (m0.at (wpAny_bind (m1.at ?_))))))))
  show wpAny _ _ (if (onTheHeap (Value.ref D) && Value.builtin "BaseException.__getattribute__" == Value.builtin "object.__getattribute__") = true then _ else _) _ _ _
  rw [e1, if_neg Bool.false_ne_true]
  unfold getAttrByItsOwn hookBefore
  refine wpAny_bind ?_
  rw [if_pos (show onTheHeap (Value.ref D) = true from rfl)]
  refine m2.at ?_
  refine wpAny_bind (wpAny_attempt (wpAny_holding ?_))
  unfold callGetattribute
  rw [e0, if_neg Bool.false_ne_true]
  unfold boundAndCalled
  rw [PySem.F.excAttr_ValueError.ga.bind (.ref x)]
  refine wpAny_bind (wpAny_pure ?_)
  show wpAny _ _ (call (.builtin "BaseException.__getattribute__") [.ref x, .str "__class__" t]) _ _ _
  refine wpAny_call (codeAny_call_builtin PySem.F.excAttr_ValueError.ga.plain PySem.F.entry_bexc_ga ?_)
  refine @check_slot (model prog w) _ _ ⟨hp, g, d, t + 1, os⟩ "BaseException.__getattribute__" "BaseException" "__getattribute__" (.ref x) [.str "__class__" t] [] _ (by decide +kernel) (by decide +kernel) below (PySem.F.args_bexc_ga (.ref x) (.str "__class__" t)) ?_
  unfold Builtin.«object.__getattribute__»
  refine wpAny_bind (wpAny_of_eq (a := ((Value.ref x : Value), [Value.str "__class__" t])) (by first | rfl | (simp only [slotArgs]; rfl)) ?_)
  refine wpAny_bind (wpAny_pure (wpAny_bind (m0.at (wpAny_bind (m3.at ?_)))))
  show wpAny _ _ (holding [Value.builtin "object.__class__"] (call (.builtin "getset_descriptor.__get__") [.builtin "object.__class__", .ref x, .ref D]) >>= ret) _ _ _
  refine wpAny_bind (wpAny_holding (wpAny_call (class_get (s := ⟨hp, g, d, t + 1, os⟩) (ox := ox) (od := some od) X I T.hm ?_)))
  refine wpAny_pure ?_
  show wpAny _ _ (handedOut (.ref D)) _ _ _
  rw [handedOut_of (v := .ref D) rfl]
  first
    | exact wpAny_pure (wpAny_pure h)
    | exact wpAny_pure h
    | exact wpAny_pure (wpAny_bind (wpAny_pure (wpAny_pure h)))
theorem nm_kitx (T : L2.ExcC K D) : KitX K (.ref x) (.ref D) (fun h => InstAt h x ox D (some od)) := by
  have base := handS_kitx_exc (x := x) (ox := ox) T.hg T.hk T.hs T.hd T.ha T.hn T.ht T.hm
  refine ⟨fun M h X I => I.type, fun M h X I => ?_, base.ne, fun X I k => nm_class T X I k⟩
  obtain ⟨cdD, hcD, _⟩ := any_some T.hd
  unfold clsIn at hcD
  split at hcD
  · rename_i c' d' cd' sl' ho
    intro A' Q' E' s' k q
    unfold isType loadHead
    exact wpAny_bind (wpAny_loadPart (k _ _ (X _ _ ho)) (wpAny_pure q))
  · cases hcD
end
end PySem.W
namespace Fz
open PySem PySem.Spec PyProof.Rows L2
theorem relO_nm {v : V} {v' : Value} (r : RelV v v') (f : Str) : RelO (List.lookup f [(("name" : Str), v)]) (if f = "name" then some v' else none) := by
  by_cases hw : f = "name"
  · subst hw
    rw [if_pos rfl]
    have q : List.lookup ("name" : Str) [(("name" : Str), v)] = some v := by simp [List.lookup]
    rw [q]
    exact r
  · rw [if_neg hw]
    have qw : (f == ("name" : Str)) = false := by simpa using hw
    have q2 : List.lookup f [(("name" : Str), v)] = none := by simp [List.lookup, qw]
    rw [q2]
    trivial
section
variable {X : Cx} {C fI : Addr} {x qual : Str} {bmB : List Value} {newId initId B : String}
def tMkNm (C : Addr) (ta : TA) : L2.St → Hp → XK → Prop := fun σ H Q => ta σ H fun vs H1 => ∃ v, vs = [v] ∧ ∀ d, H1 d = none → Q (.ref C) (some d) (upd H1 d (.xd [(("name" : Str), v)]))
theorem pmk_nm {a : Expr} {ta : TA} {p pos : Pos} {k : Nat} (SF : StoreFacts B bmB "object.__setattr__" "object") (FB : ExcBaseFacts B newId initId bmB) (T : NmX.NmC X.K C fI qual bmB newId) (gC : X.mg x = some (.ref C)) (hr : Room k X.A) (ha : PA X [a] ta) (hg : Gl X x := by rfl) (hdb : (x == ("__debug__" : Str)) = false := by decide)
    (he : starEach (a :: []) X.env = (false, eval a X.env) :: starEach [] X.env := by rfl) (hpl : (backTo pos (starEach [] X.env)).any (·.1) = false := by rfl) :
    PMk X (.Call (.Name x p) [a] [] pos) (tMkNm C ta) := by
  intro pins s σ H Q I h
  refine wpAny_Call_Name_kw (ld_glob I hg gC ?_ hdb)
  refine PySem.W.callWith_K (h₀ := X.base) I.ok.mod.kin T.kC (thn (ha.run pos pins s σ H _ I h) fun us s1 hh => ?_) he hpl
  obtain ⟨vs, H1, I1, r1, v, ev, q1⟩ := hh
  subst ev
  refine ⟨I1.kIn, ?_⟩
  cases r1 with
  | cons rv rn =>
    rename_i v' us'
    cases rn
    show wpAny _ _ (call (.ref C) [v']) _ _ _
    have hlim := I1.nolimit
    obtain ⟨hp, g, dr, tk, os⟩ := s1
    refine wpAny_call (NmX.nm_made SF FB T I1.kIn hlim (by have := hr.dp; omega) fun h' tk' e d M => ?_)
    show MkP X pins σ Q (.ref e) ⟨h', g, dr, tk', os⟩
    obtain ⟨oe, fv, hoe, hc, hd, hdat, h1⟩ := M.obj
    have hns := M.ns
    obtain ⟨G', g1, g2⟩ := restrict h' fun b => decide (b ≠ e)
    have gk : ∀ b, b ≠ e → G'.get? b = h'.get? b := fun b hb => g1 b (decide_eq_true hb)
    have ge : G'.get? e = none := g2 e (by simp)
    have old : ∀ b o, hp.get? b = some o → G'.get? b = some o := fun b o q => (gk b (Nat.ne_of_lt (Nat.lt_of_lt_of_le (Heap.lt_size q) M.new))).trans (M.keep b o q)
    have ob : ObjOk X.prog X.w (upd H1 d (.xd [(("name" : Str), v)])) G' d (.xd [(("name" : Str), v)]) := ⟨_, hns.at (fun o q => (gk d M.dne).trans q), fun f => relO_nm rv f⟩
    have J : Inv X pins σ (upd H1 d (.xd [(("name" : Str), v)])) ⟨G', g, dr, tk', os⟩ := I1.laid (t' := tk') old M.dbig ob
    refine ⟨e, oe, fv, ⟨G', g, dr, tk', os⟩, _, .ref C, some d, rfl, J, fun b o q => ?_, ge, hoe, ⟨hc, hd⟩, hdat, h1, ?_, rfl, I1.bare, raises_own T.exC T.tyC, q1 d (I1.hok.fresh M.dbig)⟩
    · by_cases hb : b = e
      · have q' : G'.get? b = some o := q
        rw [hb, ge] at q'; cases q'
      · exact (gk b hb).symm.trans q
    · rw [upd_ne (Ne.symm M.dne)]
      exact I1.hok.fresh M.new
/-- raise C(e) -/
def tRaiseNm (C : Addr) (W : WX) (ta : TA) : TS := fun _ σ H => tMkNm C ta σ H fun cls d H' => W cls d σ H'
theorem ps_raiseNm {a : Expr} {ta : TA} {W : WX} {p pos pos2 : Pos} {k : Nat} (hc : X.calm = true) (SF : StoreFacts B bmB "object.__setattr__" "object") (FB : ExcBaseFacts B newId initId bmB) (T : NmX.NmC X.K C fI qual bmB newId) (gC : X.mg x = some (.ref C)) (hr : Room k X.A) (tk : Takes X W) (ha : PA X [a] ta) (hg : Gl X x := by rfl) (hdb : (x == ("__debug__" : Str)) = false := by decide)
    (he : starEach (a :: []) X.env = (false, eval a X.env) :: starEach [] X.env := by rfl) (hpl : (backTo pos (starEach [] X.env)).any (·.1) = false := by rfl) :
    PS X (.Raise (some (.Call (.Name x p) [a] [] pos)) none pos2) (tRaiseNm C W ta) := ps_raise hc tk (pmk_nm SF FB T gC hr ha hg hdb he hpl)
/-- e.name, e the error that the suite holds -/
def tNmF (C : Addr) (a : Addr) (cls : Value) (d : Option Addr) (te : TE) : TE := fun σ H Q => te σ H fun x H1 => x = .ref a ∧ cls = .ref C ∧ ∃ (dd : Addr) (v : V), d = some dd ∧ H1 dd = some (.xd [(("name" : Str), v)]) ∧ Q v H1
theorem pe_nmF {a : Addr} {oe : Obj} {cls : Value} {d : Option Addr} {pn : List (Addr × Obj)} {e : Expr} {te : TE} {pos : Pos} (T : NmX.NmC X.K C fI qual bmB newId) (hz : Zc cls d oe) (hf : ∃ vs, oe.data = .fields vs) (he : PE (X.suite a ((a, oe) :: pn)) e te)
    (hb : attributeBase e "name" X.env (eval e X.env) = eval e X.env := by rfl) : PE (X.suite a ((a, oe) :: pn)) (.Attribute e "name" pos) (tNmF C a cls d te) := by
  refine ⟨fun pins s σ H Q I h => ?_⟩
  refine attr_of hb (thn (he.run pins s σ H _ I h) fun u s1 hh => ?_)
  obtain ⟨x, H1, I1, rx, ex, ec, dd, v, ed, ea, q⟩ := hh
  subst ex
  obtain rfl : u = Value.ref a := rx
  subst ec
  subst ed
  obtain ⟨ha, _⟩ := I1.pin (a, oe) (List.mem_append_left _ List.mem_cons_self)
  obtain ⟨vs, hd⟩ := hf
  have hx : ObjOk X.prog X.w H1 s1.heap dd (.xd [(("name" : Str), v)]) := I1.hok dd _ ea
  obtain ⟨mA, hns, hr⟩ := hx
  obtain ⟨od, ho, hl⟩ := lookIn_ns hns
  have l : List.lookup ("name" : Str) [(("name" : Str), v)] = some v := by simp [List.lookup]
  obtain ⟨u, hu, ru⟩ := RelO.some_of (v := v) (o := mA "name") (by rw [← l]; exact hr "name")
  have J : PySem.W.InstAt s1.heap a oe C (some od) := ⟨ha, hz.1, by unfold PySem.W.notCls; rw [hd] <;> rfl, by rw [hz.2]; exact ho⟩
  exact HandSPX.exc_get I1.kIn J T.ga T.gg T.exC (PySem.W.findObj_own T.hdC T.no rfl (by rw [hl, hu])) (handed_of ru) ⟨v, H1, I1.tok _, ru, q⟩
/-- isinstance(e, c), e the error that the suite holds, with a dict of its own -/
def rIsNm (K : PySem.W.Frag) (D a : Addr) (cls : Value) (d : Option Addr) : List V → Hp → VK → Prop := fun xs H Q => ∃ (c : V) (cv : Value) (b : Bool) (dd : Addr) (fs : List (Str × V)), cls = .ref D ∧ d = some dd ∧ xs = [.ref a, c] ∧ (∀ u, RelV c u → u = cv) ∧ H dd = some (.xd fs) ∧ PySem.W.kitOne K (.ref D) cv = some b ∧ Q (.bl b) H
theorem call_isNm {a D : Addr} {cls : Value} {d : Option Addr} {oe : Obj} {pn : List (Addr × Obj)} (T : ExcC X.K D) (hz : Zc cls d oe) (hf : ∃ vs, oe.data = .fields vs) : CallR (X.suite a ((a, oe) :: pn)) (.builtin "isinstance") (rIsNm X.K D a cls d) := by
  intro pins s σ H xs us Q I r h
  obtain ⟨c, cv, b, dd, fs, rfl, rfl, rfl, hcv, ed, e, q⟩ := h
  cases r with
  | cons rx rr =>
    cases rr with
    | cons rt rr =>
      cases rr
      cases rx
      have ec := hcv _ rt
      subst ec
      obtain ⟨hget, _⟩ := I.pin (a, oe) (List.mem_append.mpr (.inl List.mem_cons_self))
      obtain ⟨vs, hv⟩ := hf
      have hx : ObjOk X.prog X.w H s.heap dd (.xd fs) := I.hok dd _ ed
      obtain ⟨mA, hns, hr⟩ := hx
      obtain ⟨od, ho, hl⟩ := lookIn_ns hns
      have J : PySem.W.InstAt s.heap a oe D (some od) := ⟨hget, hz.1, by unfold PySem.W.notCls; rw [hv] <;> rfl, by rw [hz.2]; exact ho⟩
      exact PySem.W.kia_one (PySem.W.nm_kitx T) I.kIn J e (fun z => nomatch z) fun tk => ⟨.bl b, H, I.kept (t' := tk) fun _ _ z => z, rfl, q⟩
section
variable {K : PySem.W.Frag} {σ : L2.St} {G : GH} {H : Hp} {te : TE} {a dd D0 : Addr} {wd : Tx}
theorem ev_nmF (h : EV te σ G H (isV (.ref a))) (nd : G dd = none) (hd : H dd = some (.xd [(("name" : Str), .str (mkS wd))])) (hz : wd.length ≤ sizeLine) : EV (tNmF C a (.ref C) (some dd) te) σ G H (D K (eS wd)) := fun G1 H1 g Q q => h G1 H1 g _ fun v G2 H2 g2 rv => by
  have ev : v = .ref a := rv
  subst ev
  exact ⟨rfl, rfl, dd, _, rfl, (g.trans g2).at0 nd hd, q _ G2 H2 g2 (.str _ (by rw [mkS_len]; exact hz))⟩
theorem ev_isNm {b : String} {r : Bool} {fs : List (Str × V)} (h : EV te σ G H (isV (.ref a))) (nd : G dd = none) (hd : H dd = some (.xd fs)) (hk : PySem.W.kitOne K (.ref D0) (.type b) = some r) : EV (tCB (rIsNm K D0 a (.ref D0) (some dd)) (tCons te (tCons (tC (.ty b)) tNil))) σ G H (D K (eB r)) := fun G1 H1 g Q q => h G1 H1 g _ fun v G2 H2 g2 rv => by
  have ev : v = .ref a := rv
  subst ev
  exact ⟨.ty b, .type b, r, dd, fs, rfl, rfl, rfl, fun u hu => (ClsV.ty b).eq hu, (g.trans g2).at0 nd hd, hk, q _ G2 H2 g2 (.bl r)⟩
end
/-- o.m(e, ..) that may raise -/
def tMethX (C : Addr) (m : Str) (sp : Sp) (E : L2.St → XK) (ta : TE) (t : TA) : TE := fun σ H Q => ta σ H fun x H1 => ∃ a dx fs, x = .ref a ∧ H1 a = some (.ins C dx fs) ∧ fs.lookup m = none ∧ t σ H1 fun vs H2 => sp (x :: vs) H2 Q (E σ)
theorem pe_methX {CX : CXT} {k : Nat} {f : Addr} {fd : FuncData} {m : Str} {ps : List Str} {sp : Sp} {E : L2.St → XK} {o e : Expr} {es : List Expr} {ta : TE} {t : TA} {pos apos : Pos} {pl : Sem Bool} (he : PE X o ta) (c : Cls X.K C) (hm : Meth X.K C m f) (F : FnOk X.prog X.w X.K X.mg X.base CX k f fd ps sp) (hr : Room k X.A) (hb : Binds X.K fd ps []) (hx : ∀ σ, PassesAt CX X σ (E σ)) (ha : PA X (e :: es) t)
    (hst : starEach (e :: es) X.env = (false, eval e X.env) :: starEach es X.env := by rfl) (hpl : (backTo pos (starEach es X.env)).any (·.1) = false := by rfl)
    (ht : eval (.Call (.Attribute o m apos) (e :: es) [] pos) X.env = (do
      let ov ← eval o X.env
      standAt apos.atName
      let (f, first) ← holding [ov] (getMethod ov m pl)
      callWith pos f first (backTo pos (starEach (e :: es) X.env)) (backToKw pos (keywordEach [] X.env))) := by rfl) :
    PE X (.Call (.Attribute o m apos) (e :: es) [] pos) (tMethX C m sp E ta t) := by
  refine ⟨fun pins s σ H Q I h => ?_⟩
  refine PySem.W.methodCall_KW (pl := pl) (thn (he.run pins s σ H _ I h) fun u s1 ⟨x, H1, I1, rx, a, dx, fs, ex, ea, l, q⟩ => ?_) ht
  subst ex
  obtain rfl : u = Value.ref a := rx
  refine getmeth_ok I1 ea c hm l ?_
  refine PySem.W.callWith_K (first := [.ref a]) (h₀ := X.base) I.ok.mod.kin hm.kp (thn (ha.run pos pins s1 σ H1 _ I1 q) fun us s2 ⟨vs, H2, I2, r, q2⟩ => ⟨I2.kIn, ?_⟩) hst hpl
  exact run_fnS (us := .ref a :: us) (vs := .ref a :: vs) F hr hb (hx σ) I2 (.cons (show RelV (V.ref a) (Value.ref a) from rfl) r) q2
end
end Fz
set_option Elab.async false
set_option linter.all false
set_option maxRecDepth 100000
set_option maxHeartbeats 2000000
/-! Fz: a held list lent to a call that answers True or False. -/
namespace Fz
open PySem PySem.Spec PyProof.Rows L2
section
variable {K : PySem.W.Frag} {mx : List Addr} {G0 G G1 G2 : GH} {H0 H H1 H2 : Hp} {Γ : List (Option RP)} {Os : List (Addr × OP)} {Ts : List (V × RP)} {σ : L2.St} {te : TE} {p : Addr} {o : HO} {ds : List PyData} {b : Bool} {i j : Nat}
theorem Gr.lend (g : Gr [] G H G1 H1) (n : G p = none) (h : H p = some o) (nt : NT o := by intro _ h; cases h) : Gr [] (updG G p (isO o)) H (updG G1 p (isO o)) H1 := by
  have n1 := g.un n h nt
  have h1 := g.at0 n h nt
  refine ⟨fun a ψ e => ?_, g.fit.freeze n1 h1 rfl (fun xs e => absurd e (nt xs)), fun a u na ha nta => ?_, g.tup⟩
  · by_cases ea : a = p
    · subst ea; rw [updG_same] at e ⊢; exact e
    · rw [updG_ne ea] at e ⊢; exact g.sub a ψ e
  · have ea : a ≠ p := fun z => by rw [z, updG_same] at na; cases na
    rw [updG_ne ea] at na ⊢
    exact g.own a u na ha nta
theorem Gr.lent (g : Gr [] (updG G p (isO o)) H G1 H1) (n : G p = none) (h : H p = some o) (nt : NT o := by intro _ h; cases h) : Gr [] G H (less G1 p) H1 := by
  have h1 : H1 p = some o := g.fit.at' (g.sub _ _ updG_same)
  refine ⟨fun a ψ e => ?_, g.fit.less, fun a u na ha nta => ?_, g.tup⟩
  · have ea : a ≠ p := fun z => by rw [z, n] at e; cases e
    rw [less_ne ea]
    exact g.sub a ψ (by rw [updG_ne ea]; exact e)
  · by_cases ea : a = p
    · subst ea
      rw [h] at ha
      cases ha
      exact ⟨less_same, ⟨_, h1, nt⟩, fun _ => h1⟩
    · rw [less_ne ea]
      exact g.own a u (by rw [updG_ne ea]; exact na) ha nta
theorem SA.lend (s : SA mx G0 H0 Γ Os Ts σ G H) (i j : Nat) (hm : p ∉ mx) (e : Γ[i]? = some (some (isV (.ref p))) := by rfl) (eo : Os[j]? = some (p, Fz.ownL K ds) := by rfl) :
    ∃ vs, G p = none ∧ H p = some (.lst vs) ∧ SA mx G0 H0 (Γ.set i (some (D K (.list ds)))) [] Ts σ (updG G p (isO (.lst vs))) H := by
  obtain ⟨n, ⟨u, hu, vs, eu, z, hr⟩, hf⟩ := s.at_ j eo
  subst eu
  have sub : Sub G (updG G p (isO (.lst vs))) := Sub.upd n
  refine ⟨vs, n, hu, s.f0, s.g.freeze (hf.elim (fun h => absurd h hm) id) n hu rfl, ⟨by rw [List.length_set]; exact s.env.1, fun k R' ek => ?_⟩, (fun q hq => nomatch hq), List.nodup_nil, fun t ht => t.2.mono sub (s.tmp t ht)⟩
  by_cases hk : i = k
  · subst hk
    have hl : i < Γ.length := (List.getElem?_eq_some_iff.mp e).1
    rw [List.getElem?_set_self hl] at ek
    cases ek
    obtain ⟨w, hw, rw'⟩ := s.env.2 i _ e
    have ew : w = .ref p := rw'
    subst ew
    exact ⟨_, hw, .lst ⟨z, updG_same⟩ (hr.mono sub)⟩
  · rw [List.getElem?_set_ne hk] at ek
    obtain ⟨w, hw, rw'⟩ := s.env.2 k _ ek
    exact ⟨w, hw, R'.mono sub rw'⟩
theorem ev_lend (s : SA mx G0 H0 Γ Os Ts σ G H) (i j : Nat) (hm : p ∉ mx) (h : ∀ G1, SA mx G0 H0 (Γ.set i (some (D K (.list ds)))) [] Ts σ G1 H → EV te σ G1 H (D K (eB b))) (e : Γ[i]? = some (some (isV (.ref p))) := by rfl) (eo : Os[j]? = some (p, Fz.ownL K ds) := by rfl) : EV te σ G H (D K (eB b)) := by
  obtain ⟨vs, n, hp, s1⟩ := s.lend i j hm e eo
  refine fun G1 H1 g Q q => h _ s1 _ H1 (g.lend n hp) Q fun v G2 H2 g2 rv => ?_
  have ev := Dg.bool_inv rv
  subst ev
  exact q _ (less G2 p) H2 (g2.lent (g.un n hp) (g.at0 n hp)) (.bl b)
end
end Fz
set_option Elab.async false
set_option linter.all false
set_option maxRecDepth 100000
set_option maxHeartbeats 2000000
/-! Fz: wrappers. -/
namespace Fz
open PySem PySem.Spec PyProof.Rows L2
theorem spF_mono {X R : Type} {enc : X → List RP} {m : X → Option R} {er : R → RP} {vs : List V} {H : Hp} {Q Q' : VK} {E E' : XK} (hq : ∀ v H', Q v H' → Q' v H') (h : spF enc m er vs H Q E) : spF enc m er vs H Q' E' := by
  obtain ⟨G, x, r, f, rs, hm, q⟩ := h
  exact ⟨G, x, r, f, rs, hm, fun v G' H' g rv => hq _ _ (q v G' H' g rv)⟩
theorem op_inOwnK {X : Cx} {K : PySem.W.Frag} {C : Str} {k : Nat} {ps : List Str} {sp : Sp} (h : Mok X.prog X.w X.K X.mg X.base k C "__contains__" ps sp) (hm : Meth X.K (He.ga X.K C) "__contains__" (He.ma X.K (He.ga X.K C) "__contains__")) (hr : Room k X.A) (e : X.K = K := by rfl) : OpR X (compareOp .In) (rInO (He.ga K C) sp) := by
  subst e
  exact op_inOwn h hm hr
/-- a comprehension without tests all of whose elements are told -/
theorem comp_map {α β : Type} {f : α → Option (Option β)} {g : α → β} : ∀ {xs : List α}, (∀ x ∈ xs, f x = some (some (g x))) → comp f xs = some (xs.map g)
  | [], _ => rfl
  | x :: xs, h => by
    have e := h x (List.mem_cons_self)
    have ih := comp_map (f := f) (g := g) (xs := xs) fun z hz => h z (List.mem_cons_of_mem _ hz)
    unfold comp
    rw [e]
    show (comp f xs).map (g x :: ·) = _
    rw [ih]
    rfl
end Fz
set_option Elab.async false
set_option linter.all false
set_option maxRecDepth 100000
set_option maxHeartbeats 2000000
/-! Fz: lists of values of any kind at fresh addresses. -/
namespace Fz
open PySem PySem.Spec PyProof.Rows L2
/-- a finished list at an address of which N is true -/
def lstN (N : Addr → Prop) (Rs : List RP) : RP := ⟨fun G v => ∃ p us, v = .ref p ∧ N p ∧ us.length ≤ sizeLine ∧ G p = some (isO (.lst us)) ∧ RAll G us Rs, fun s ⟨p, us, e, n, z, h, r⟩ => ⟨p, us, e, n, z, s _ _ h, r.mono s⟩⟩
def ENR (te : TE) (σ : L2.St) (G : GH) (H : Hp) (Rs : List RP) : Prop := ∀ G1 H1, Gr [] G H G1 H1 → ∀ Q : VK, (∀ p us G2 H2, Gr [] G1 H1 G2 H2 → G2 p = none → H1 p = none → H2 p = some (.lst us) → us.length ≤ sizeLine → RAll G2 us Rs → Q (.ref p) H2) → te σ H1 Q
theorem rall_D {K : PySem.W.Frag} {G : GH} : ∀ {us : List V} {ds : List PyData}, RAll G us (ds.map (D K)) → DgAll K G us ds
  | [], [], _ => .nil
  | _, [], h => by cases h; exact .nil
  | _, _ :: _, .cons h r => .cons h (rall_D r)
theorem rall_of {K : PySem.W.Frag} {G : GH} : ∀ {us : List V} {ds : List PyData}, DgAll K G us ds → RAll G us (ds.map (D K))
  | _, _, .nil => .nil
  | _, _, .cons h r => .cons h (rall_of r)
theorem rall_imp {α : Type} {G : GH} {e e' : α → RP} (h : ∀ a v, (e a).r G v → (e' a).r G v) : ∀ {xs : List α} {us : List V}, RAll G us (xs.map e) → RAll G us (xs.map e')
  | [], _, h1 => by cases h1; exact .nil
  | _ :: _, _, .cons h1 r => .cons (h _ _ h1) (rall_imp h r)
section
variable {K : PySem.W.Frag} {mx : List Addr} {G0 G G1 : GH} {H0 H H1 : Hp} {Γ : List (Option RP)} {Os : List (Addr × OP)} {Ts : List (V × RP)} {σ : L2.St} {te tl : TE} {ta : TA} {tt : TT} {De : Ends} {p : Addr} {N : Addr → Prop} {Rs : List RP} {R R' : RP} {wi : TI} {g : TG} {α β : Type} {xs : List α} {ys : List β} {i j : Nat}
theorem ENR.ev (h : ENR te σ G H Rs) (hN : ∀ G1 H1 l, Gr [] G H G1 H1 → H1 l = none → N l) : EV te σ G H (lstN N Rs) := fun G1 H1 g Q q => h G1 H1 g Q fun p vs G2 H2 g2 n hn hp hz hr =>
  q (.ref p) (updG G2 p (isO (.lst vs))) H2 (Gr.freeze g2 hn n hp rfl) ⟨p, vs, rfl, hN G1 H1 p g hn, hz, updG_same, hr.mono (Sub.upd n)⟩
theorem ev_tupR (h : EA ta σ G H Rs) (hl : Rs.length ≤ sizeLine := by exact Nat.le_of_ble_eq_true rfl) : EV (tTup ta) σ G H (tupR K Rs) := fun G1 H1 g Q q => h G1 H1 g _ fun vs G2 H2 g2 rs => by
  have hz : vs.length ≤ sizeLine := by rw [rs.length]; exact hl
  refine ⟨hz, fun t ht => ?_⟩
  have g4 : Gr [] G2 H2 (updG G2 t (isO (.tup vs))) (upd H2 t (.tup vs)) := Gr.make g2.fit ht
  exact q (.ref t) _ _ (g2.trans g4) ⟨t, vs, rfl, ⟨hz, updG_same⟩, rs.mono g4.sub⟩
theorem SA.wk (s : SA mx G0 H0 Γ Os Ts σ G H) (i : Nat) (e : Γ[i]? = some (some R)) (h : ∀ v, R.r G v → R'.r G v) : SA mx G0 H0 (Γ.set i (some R')) Os Ts σ G H := by
  refine ⟨s.f0, s.g, ⟨by rw [List.length_set]; exact s.env.1, fun k R2 ek => ?_⟩, s.own, s.nd, s.tmp⟩
  by_cases hk : i = k
  · subst hk
    have hl := (List.getElem?_eq_some_iff.mp e).1
    rw [List.getElem?_set_self hl] at ek
    cases ek
    obtain ⟨v, hv, rv⟩ := s.env.2 i _ e
    exact ⟨v, hv, h v rv⟩
  · rw [List.getElem?_set_ne hk] at ek
    exact s.env.2 k _ ek
/-- the held list at slot i is finished -/
theorem SA.freezeR (s : SA [] G0 H0 Γ Os Ts σ G H) (i j : Nat) (hN : ∀ l, H0 l = none → N l) (e : Γ[i]? = some (some (isV (.ref p))) := by rfl) (eo : Os[j]? = some (p, ownR Rs) := by rfl) : ∃ G1, SA [] G0 H0 (Γ.set i (some (lstN N Rs))) (Os.eraseIdx j) Ts σ G1 H := by
  obtain ⟨n, ⟨u, hu, vs, eu, z, hr⟩, hf⟩ := s.at_ j eo
  subst eu
  have h0 : H0 p = none := hf.elim (fun h => by cases h) id
  have sub : Sub G (updG G p (isO (.lst vs))) := Sub.upd n
  have g : Gr [] G0 H0 (updG G p (isO (.lst vs))) H := s.g.freeze h0 n hu rfl
  refine ⟨_, s.f0, g, ⟨by rw [List.length_set]; exact s.env.1, fun k R' ek => ?_⟩, fun q hq => ?_, ((List.eraseIdx_sublist Os j).map _).nodup s.nd, fun t ht => t.2.mono sub (s.tmp t ht)⟩
  · by_cases hk : i = k
    · subst hk
      have hl := (List.getElem?_eq_some_iff.mp e).1
      rw [List.getElem?_set_self hl] at ek
      cases ek
      obtain ⟨w, hw, rw'⟩ := s.env.2 i _ e
      have ew : w = .ref p := rw'
      subst ew
      exact ⟨_, hw, p, vs, rfl, hN p h0, z, updG_same, hr.mono sub⟩
    · rw [List.getElem?_set_ne hk] at ek
      obtain ⟨w, hw, rw'⟩ := s.env.2 k _ ek
      exact ⟨w, hw, R'.mono sub rw'⟩
  · obtain ⟨n2, ⟨u2, e2, r2⟩, h2⟩ := s.own q ((List.eraseIdx_sublist Os j).mem hq)
    have ne : q.1 ≠ p := by
      intro eq
      obtain ⟨k, hk, hkq⟩ := List.mem_eraseIdx_iff_getElem?.mp hq
      have a1 : (Os.map (·.1))[k]? = some p := by rw [List.getElem?_map, hkq]; show some q.1 = _; rw [eq]
      have a2 : (Os.map (·.1))[j]? = some p := by rw [List.getElem?_map, eo]; rfl
      exact hk (nd_ix s.nd a1 a2)
    exact ⟨by rw [updG_ne ne]; exact n2, ⟨u2, e2, q.2.mono sub r2⟩, h2⟩
theorem st_ownRN (s : SA mx G0 H0 Γ Os Ts σ G H) (h : ENR te σ G H Rs) (k : ∀ p σ' G1 H1, SA mx G0 H0 (Γ.set i (some (isV (.ref p)))) ((p, ownR Rs) :: Os) Ts σ' G1 H1 → De.nx σ' H1) : tAsg te (gName i) De σ H :=
  h G H (Gr.refl s.fit) _ fun p vs G2 H2 g n hn hp hz hr => by
    have s2 := s.step g
    have s3 : SA mx G0 H0 Γ ((p, ownR Rs) :: Os) Ts σ G2 H2 := by
      refine ⟨s2.f0, s2.g, s2.env, fun q hq => ?_, List.nodup_cons.mpr ⟨fun z => ?_, s2.nd⟩, s2.tmp⟩
      · rcases List.mem_cons.mp hq with rfl | hq
        · exact ⟨n, ⟨_, hp, vs, rfl, hz, hr⟩, .inr (s.g.free s.f0 hn)⟩
        · exact s2.own q hq
      · obtain ⟨q, hq, e⟩ := List.mem_map.mp z
        obtain ⟨_, ⟨u, e2, _⟩, _⟩ := s.own q hq
        rw [e, hn] at e2; cases e2
    exact k p _ G2 H2 (s3.set (R := isV (.ref p)) i rfl)
theorem st_appendR (s : SA mx G0 H0 Γ Os Ts σ G H) (i j : Nat) (h : EV te σ G H R) (hz : Rs.length < sizeLine) (k : ∀ G1 H1, SA mx G0 H0 Γ (Os.set j (p, ownR (Rs ++ [R]))) Ts σ G1 H1 → De.nx σ H1)
    (e : Γ[i]? = some (some (isV (.ref p))) := by rfl) (eo : Os[j]? = some (p, ownR Rs) := by rfl) : tDrop (tBM K "list" rAppend (tVar i) (tCons te tNil)) De σ H := by
  obtain ⟨w, hw, rw'⟩ := s.env.2 i _ e
  have ew : w = .ref p := rw'
  subst ew
  obtain ⟨n, ⟨u, hu, vs, eu, z, hr⟩, hf⟩ := s.at_ j eo
  subst eu
  refine ⟨_, hw, .inl ⟨rfl, _, SqL.of hu⟩, h.go s.fit fun v G2 H2 g r => ?_⟩
  have s2 := s.step g
  have hl := hr.length
  have h2 := g.at0 n hu
  refine ⟨p, vs, v, rfl, rfl, h2, by omega, k G2 _ (s2.put (P' := ownR (Rs ++ [R])) j eo ⟨vs ++ [v], rfl, by rw [List.length_append]; show vs.length + 1 ≤ _; omega, (hr.mono g.sub).app (.cons r .nil)⟩)⟩
end
end Fz
set_option Elab.async false
set_option linter.all false
set_option maxRecDepth 100000
set_option maxHeartbeats 2000000
/-! Fz: a list comprehension whose elements are of any kind. -/
namespace Fz
open PySem PySem.Spec PyProof.Rows L2
section
variable {K : PySem.W.Frag} {mx : List Addr} {G0 G G1 : GH} {H0 H H1 : Hp} {Γ : List (Option RP)} {Os : List (Addr × OP)} {Ts : List (V × RP)} {σ : L2.St} {te tl : TE} {tt : TT} {N : Addr → Prop} {wi : TI} {g : TG} {α β : Type} {xs : List α} {ys : List β} {vs : List Nat} {f : α → Option (Option β)} {e' : β → RP} {e : α → RP}
theorem eso_lst (h : EV tl σ G H (lstN N (xs.map e))) : ESO (iList K tl) σ G H e xs := fun G1 H1 gg Q q => h G1 H1 gg _ fun src G2 H2 g2 rs => by
  obtain ⟨p, us, rfl, _, hz, hf, hr⟩ := rs
  have hl := hr.length
  rw [List.length_map] at hl
  refine ⟨p, rfl, ⟨us, SqL.of (g2.fit.at' hf)⟩, q _ G2 H2 g2 ⟨fun G H i x f hx => ?_, fun G H f => ?_, by omega⟩⟩
  · obtain ⟨y, hy, ry⟩ := (hr.mono f.sub).get (i := i) (R := e x) (by rw [List.getElem?_map, hx]; rfl)
    have hf' := f.fit.at' (f.sub _ _ hf)
    refine ⟨⟨us, y, SqL.of hf', hy⟩, fun v H' hv => ?_⟩
    obtain ⟨eH, hv⟩ := hv
    subst eH
    obtain rfl : v = y := Option.some.inj ((hv us (SqL.of hf')).symm.trans hy)
    exact ⟨G, Gr.refl f.fit, ry⟩
  · exact ⟨us, SqL.of (f.fit.at' (f.sub _ _ hf)), by omega⟩
theorem en_lcR {Rx : α → RP} (s : SA mx G0 H0 Γ Os Ts σ G H) (h : ESO wi σ G H Rx xs) (hm : comp f xs = some ys)
    (turn : ∀ src x o, x ∈ xs → f x = some o → ∀ v σ1 G1 H1, SA mx G0 H0 (wipeG Γ vs) Os ((v, Rx x) :: src :: Ts) σ1 G1 H1 → ∀ Q : L2.St → Hp → Prop,
      (∀ σ2, wipe σ2 vs = wipe σ1 vs → ET tt σ2 G1 H1 o.isSome → (∀ y, o = some y → EV te σ2 G1 H1 (e' y)) → Q σ2 H1) → g v σ1 H1 Q) : ENR (tLc wi g tt te vs) σ G H (ys.map e') := by
  intro G1 H1 g1 Q q
  refine h G1 H1 g1 _ fun J G2 H2 g2 hs => ?_
  have s2 := ((s.step g1).step g2).push (v := V.non) (R := isV .non) rfl
  have hxs := hs.len
  refine fun D0 nD => ?_
  have hne : ∀ qq ∈ Os, qq.1 ≠ D0 := fun qq hqq z => by
    obtain ⟨_, ⟨u6, e6, _⟩, _⟩ := s2.own qq hqq
    rw [z, nD] at e6; cases e6
  refine ⟨fun i m H' => m = xs.length - i ∧ i ≤ xs.length ∧ ∃ G' acc ws zs, Gr [] G2 H2 G' H' ∧ SA mx G0 H0 Γ Os ((V.non, isV .non) :: Ts) σ G' H' ∧ G' D0 = none ∧ H' D0 = some (.lst acc) ∧ RAll G' acc (ws.map e') ∧ comp f (xs.drop i) = some zs ∧ ys = ws ++ zs ∧ ws.length ≤ i,
    ⟨_, rfl, Nat.zero_le _, G2, [], [], ys, (Gr.new g2.fit nD), s2.step (Gr.new g2.fit nD), g2.fit.none nD, upd_same, .nil, hm, rfl, Nat.le_refl _⟩, ?_⟩
  rintro i m H' ⟨rfl, hi, G', acc, ws, zs, gg, s', nG, hD, hacc, hz, hys, hwl⟩
  by_cases hlt : i < xs.length
  · have ex : xs[i]? = some xs[i] := List.getElem?_eq_getElem hlt
    obtain ⟨hgo, hy⟩ := hs.turn G' H' i _ gg ex
    rw [drop_at ex] at hz
    obtain ⟨o, ho, zs', hz', rfl⟩ := comp_cons hz
    refine .inr ⟨hgo, fun H' => ∃ G' acc ws, Gr [] G2 H2 G' H' ∧ SA mx G0 H0 Γ Os ((V.non, isV .non) :: Ts) σ G' H' ∧ G' D0 = none ∧ H' D0 = some (.lst acc) ∧ RAll G' acc (ws.map e') ∧ ys = ws ++ zs' ∧ ws.length ≤ i + 1, fun H'' ⟨G'', acc', ws', a1, a2, a3, a4, a5, a6, a7⟩ => ⟨_, by omega, rfl, by omega, G'', acc', ws', zs', a1, a2, a3, a4, a5, hz', a6, a7⟩, fun x H'' hyx => ?_⟩
    obtain ⟨Gy, gy, ry⟩ := hy x H'' hyx
    refine turn _ _ o (List.mem_of_getElem? ex) ho x _ Gy _ (((s'.step gy).wipe vs).push ry) _ fun σ2 hw ht hv => ⟨by rw [hw, wipe_wipe fun _ h => h], ?_⟩
    refine ht.go gy.fit fun G3 H3 g30 => ?_
    have g3 := gy.trans g30
    cases o with
    | none =>
      show ∃ G' acc ws, _
      exact ⟨G3, acc, ws, gg.trans g3, s'.step g3, g3.un nG hD, g3.at0 nG hD, hacc.mono g3.sub, hys, by omega⟩
    | some w =>
      show te σ2 H3 _
      refine ((hv w rfl).mono g30).go g3.fit fun z G4 H4 g4 rz => ?_
      have hD4 := g4.at0 (g3.un nG hD) (g3.at0 nG hD)
      have nG4 := g4.un (g3.un nG hD) (g3.at0 nG hD)
      have hacc4 := (hacc.mono g3.sub).mono g4.sub
      have hl4 := hacc4.length
      rw [List.length_map] at hl4
      refine ⟨acc, hD4, by omega, G4, acc ++ [z], ws ++ [w], Gr.putNew ((gg.trans g3).trans g4) nD nG4 hD4, SA.putNew ((s'.step g3).step g4) ((s2.g).free s2.f0 nD) nG4 hD4 hne, nG4, upd_same, ?_, by rw [hys, List.append_assoc]; rfl, by rw [List.length_append]; show ws.length + 1 ≤ _; omega⟩
      rw [List.map_append]
      exact hacc4.app (.cons rz .nil)
  · have e0 : i = xs.length := by omega
    subst e0
    rw [List.drop_length] at hz
    cases hz
    rw [List.append_nil] at hys
    subst hys
    have hl := hacc.length
    rw [List.length_map] at hl
    exact .inl ⟨hs.stop G' H' gg, q D0 acc G' H' (g2.trans gg) nG (g2.free g1.fit nD) hD (by omega) hacc⟩
end
end Fz
set_option Elab.async false
set_option linter.all false
set_option maxRecDepth 100000
set_option maxHeartbeats 4000000
namespace K0
open PySem PySem.Spec PyProof.Rows L2 Fz

def topS (i : Nat) : Stmt := PySem.Challenge.pw_smallclash_k00_book_texts_there_and_back.main.body.getD i (.Pass ⟨0, 0, 0, 0⟩)
def c_SMALL : Tx := [97, 98, 99, 100, 101, 102, 103, 104, 105, 106, 107, 108, 109, 110, 111, 112, 113, 114, 115, 116, 117, 118, 119, 120, 121, 122]
def c_DIGITS : Tx := [48, 49, 50, 51, 52, 53, 54, 55, 56, 57]
def c_BARRED : List Tx := [[98, 111, 111, 107], [98, 111, 97, 114, 100], [107, 105, 110, 100, 115], [114, 117, 108, 101], [112, 108, 97, 99, 101, 115], [100, 101, 109, 97, 110, 100], [119, 105, 115, 104], [100, 111, 110, 101], [115, 116, 114, 105, 107, 101], [115, 116, 114, 105, 107, 101, 115], [99, 104, 97, 110, 103, 101], [99, 104, 97, 110, 103, 101, 115], [109, 105, 120], [103, 105, 118, 101, 115], [108, 101, 97, 100, 115], [116, 114, 101, 101], [97, 115], [110, 111, 110, 101]]
def c_WIDTHS : List Tx := [[49], [50], [51], [52]]
abbrev s_written_by : Stmt := topS 10
abbrev s_plain_name : Stmt := topS 11
abbrev s_first_double : Stmt := topS 12
abbrev s_first_wrong : Stmt := topS 13
abbrev s_ordered_rows : Stmt := topS 23
abbrev s_read_book : Stmt := topS 24
abbrev s_wrong_kinds : Stmt := topS 25
abbrev s_wrong_row : Stmt := topS 26
abbrev s_wrong_rows : Stmt := topS 27
abbrev s_wrong_rules : Stmt := topS 28
abbrev s_listed_book : Stmt := topS 29
abbrev s_check_limits : Stmt := topS 30
abbrev s_write_book : Stmt := topS 31
abbrev s_law_bag : Stmt := topS 35
abbrev s_law_draw : Stmt := topS 36
abbrev s_law_pick : Stmt := topS 37
abbrev s_law_shuffle : Stmt := topS 38
abbrev s_law_name : Stmt := topS 39
abbrev s_law_names : Stmt := topS 40
abbrev s_law_rows : Stmt := topS 41
abbrev s_law_book_text : Stmt := topS 42
abbrev s_law_words : Stmt := topS 43
abbrev s_law_number : Stmt := topS 44
abbrev s_law_wide : Stmt := topS 45
abbrev s_law_other : Stmt := topS 46
abbrev s_law_lost : Stmt := topS 47
abbrev s_law_row_list : Stmt := topS 48
abbrev s_law_norm_told : Stmt := topS 49
abbrev s_law_told : Stmt := topS 50
abbrev s_BookParts_init : Stmt := inClass (topS 21) 0
abbrev s_BookReader_init : Stmt := inClass (topS 22) 0
abbrev s_BookReader_take : Stmt := inClass (topS 22) 1
abbrev s_BookReader_take_kinds : Stmt := inClass (topS 22) 2
abbrev s_BookReader_take_rule : Stmt := inClass (topS 22) 3
abbrev s_BookReader_take_row : Stmt := inClass (topS 22) 4
abbrev s_BookReader_whole : Stmt := inClass (topS 22) 5
abbrev s_Book_init : Stmt := inClass (topS 33) 0
abbrev s_Book_of : Stmt := inClass (topS 33) 1
abbrev s_Book_kinds : Stmt := inClass (topS 33) 2
abbrev s_Book_rules : Stmt := inClass (topS 33) 3
abbrev s_Book_text : Stmt := inClass (topS 33) 4
abbrev s_Book_width : Stmt := inClass (topS 33) 10
abbrev s_Book_rows : Stmt := inClass (topS 33) 11
abbrev s_Book_len : Stmt := inClass (topS 33) 14
abbrev s_Book_contains : Stmt := inClass (topS 33) 15
abbrev s_Book_iter : Stmt := inClass (topS 33) 16
abbrev s_Book_eq : Stmt := inClass (topS 33) 17
abbrev s_Book_repr : Stmt := inClass (topS 33) 18
structure Txt (K : PySem.W.Frag) (mg : Str → Option Value) : Prop where
  n_len : mg "len" = none
  n_range : mg "range" = none
  n_list : mg "list" = none
  n_int : mg "int" = none
  n_str : mg "str" = none
  n_tuple : mg "tuple" = none
  n_abs : mg "abs" = none
  n_min : mg "min" = none
  n_max : mg "max" = none
  n_sorted : mg "sorted" = none
  n_all : mg "all" = none
  n_any : mg "any" = none
  n_bool : mg "bool" = none
  n_enumerate : mg "enumerate" = none
  n_isinstance : mg "isinstance" = none
  n_repr : mg "repr" = none
  n_iter : mg "iter" = none
  n_ValueError : mg "ValueError" = none
  n_LookupError : mg "LookupError" = none
  c_SMALL : ∃ t, mg "SMALL" = some (.str "abcdefghijklmnopqrstuvwxyz" t)
  c_DIGITS : ∃ t, mg "DIGITS" = some (.str "0123456789" t)
  c_LONGEST : ∃ t, mg "LONGEST" = some (.int 8 t)
  c_BARRED : TupC K mg "BARRED" c_BARRED
  c_LEAST_KINDS : ∃ t, mg "LEAST_KINDS" = some (.int 2 t)
  c_MOST_KINDS : ∃ t, mg "MOST_KINDS" = some (.int 6 t)
  c_MOST_RULES : ∃ t, mg "MOST_RULES" = some (.int 8 t)
  c_MOST_ROWS : ∃ t, mg "MOST_ROWS" = some (.int 120 t)
  c_WIDEST : ∃ t, mg "WIDEST" = some (.int 4 t)
  c_WIDTHS : TupC K mg "WIDTHS" c_WIDTHS
  g_written_by : mg "written_by" = some (.ref (He.ga K "written_by"))
  d_written_by : FnD K "written_by" "written_by" s_written_by (He.ga K "written_by")
  g_plain_name : mg "plain_name" = some (.ref (He.ga K "plain_name"))
  d_plain_name : FnD K "plain_name" "plain_name" s_plain_name (He.ga K "plain_name")
  g_first_double : mg "first_double" = some (.ref (He.ga K "first_double"))
  d_first_double : FnD K "first_double" "first_double" s_first_double (He.ga K "first_double")
  g_first_wrong : mg "first_wrong" = some (.ref (He.ga K "first_wrong"))
  d_first_wrong : FnD K "first_wrong" "first_wrong" s_first_wrong (He.ga K "first_wrong")
  g_ordered_rows : mg "ordered_rows" = some (.ref (He.ga K "ordered_rows"))
  d_ordered_rows : FnD K "ordered_rows" "ordered_rows" s_ordered_rows (He.ga K "ordered_rows")
  g_read_book : mg "read_book" = some (.ref (He.ga K "read_book"))
  d_read_book : FnD K "read_book" "read_book" s_read_book (He.ga K "read_book")
  g_wrong_kinds : mg "wrong_kinds" = some (.ref (He.ga K "wrong_kinds"))
  d_wrong_kinds : FnD K "wrong_kinds" "wrong_kinds" s_wrong_kinds (He.ga K "wrong_kinds")
  g_wrong_row : mg "wrong_row" = some (.ref (He.ga K "wrong_row"))
  d_wrong_row : FnD K "wrong_row" "wrong_row" s_wrong_row (He.ga K "wrong_row")
  g_wrong_rows : mg "wrong_rows" = some (.ref (He.ga K "wrong_rows"))
  d_wrong_rows : FnD K "wrong_rows" "wrong_rows" s_wrong_rows (He.ga K "wrong_rows")
  g_wrong_rules : mg "wrong_rules" = some (.ref (He.ga K "wrong_rules"))
  d_wrong_rules : FnD K "wrong_rules" "wrong_rules" s_wrong_rules (He.ga K "wrong_rules")
  g_listed_book : mg "listed_book" = some (.ref (He.ga K "listed_book"))
  d_listed_book : FnD K "listed_book" "listed_book" s_listed_book (He.ga K "listed_book")
  g_check_limits : mg "check_limits" = some (.ref (He.ga K "check_limits"))
  d_check_limits : FnD K "check_limits" "check_limits" s_check_limits (He.ga K "check_limits")
  g_write_book : mg "write_book" = some (.ref (He.ga K "write_book"))
  d_write_book : FnD K "write_book" "write_book" s_write_book (He.ga K "write_book")
  g_law_bag : mg "_law_bag" = some (.ref (He.ga K "_law_bag"))
  d_law_bag : FnD K "_law_bag" "_law_bag" s_law_bag (He.ga K "_law_bag")
  g_law_draw : mg "_law_draw" = some (.ref (He.ga K "_law_draw"))
  d_law_draw : FnD K "_law_draw" "_law_draw" s_law_draw (He.ga K "_law_draw")
  g_law_pick : mg "_law_pick" = some (.ref (He.ga K "_law_pick"))
  d_law_pick : FnD K "_law_pick" "_law_pick" s_law_pick (He.ga K "_law_pick")
  g_law_shuffle : mg "_law_shuffle" = some (.ref (He.ga K "_law_shuffle"))
  d_law_shuffle : FnD K "_law_shuffle" "_law_shuffle" s_law_shuffle (He.ga K "_law_shuffle")
  g_law_name : mg "_law_name" = some (.ref (He.ga K "_law_name"))
  d_law_name : FnD K "_law_name" "_law_name" s_law_name (He.ga K "_law_name")
  g_law_names : mg "_law_names" = some (.ref (He.ga K "_law_names"))
  d_law_names : FnD K "_law_names" "_law_names" s_law_names (He.ga K "_law_names")
  g_law_rows : mg "_law_rows" = some (.ref (He.ga K "_law_rows"))
  d_law_rows : FnD K "_law_rows" "_law_rows" s_law_rows (He.ga K "_law_rows")
  g_law_book_text : mg "_law_book_text" = some (.ref (He.ga K "_law_book_text"))
  d_law_book_text : FnD K "_law_book_text" "_law_book_text" s_law_book_text (He.ga K "_law_book_text")
  g_law_words : mg "_law_words" = some (.ref (He.ga K "_law_words"))
  d_law_words : FnD K "_law_words" "_law_words" s_law_words (He.ga K "_law_words")
  g_law_number : mg "_law_number" = some (.ref (He.ga K "_law_number"))
  d_law_number : FnD K "_law_number" "_law_number" s_law_number (He.ga K "_law_number")
  g_law_wide : mg "_law_wide" = some (.ref (He.ga K "_law_wide"))
  d_law_wide : FnD K "_law_wide" "_law_wide" s_law_wide (He.ga K "_law_wide")
  g_law_other : mg "_law_other" = some (.ref (He.ga K "_law_other"))
  d_law_other : FnD K "_law_other" "_law_other" s_law_other (He.ga K "_law_other")
  g_law_lost : mg "_law_lost" = some (.ref (He.ga K "_law_lost"))
  d_law_lost : FnD K "_law_lost" "_law_lost" s_law_lost (He.ga K "_law_lost")
  g_law_row_list : mg "_law_row_list" = some (.ref (He.ga K "_law_row_list"))
  d_law_row_list : FnD K "_law_row_list" "_law_row_list" s_law_row_list (He.ga K "_law_row_list")
  g_law_norm_told : mg "_law_norm_told" = some (.ref (He.ga K "_law_norm_told"))
  d_law_norm_told : FnD K "_law_norm_told" "_law_norm_told" s_law_norm_told (He.ga K "_law_norm_told")
  g_law_told : mg "_law_told" = some (.ref (He.ga K "_law_told"))
  d_law_told : FnD K "_law_told" "_law_told" s_law_told (He.ga K "_law_told")
  g_BookParts : mg "BookParts" = some (.ref (He.ga K "BookParts"))
  cl_BookParts : Cls K (He.ga K "BookParts")
  mk_BookParts : Mk K (He.ga K "BookParts") (He.ma K (He.ga K "BookParts") "__init__")
  na_BookParts_kind_row : NoAttr K (He.ga K "BookParts") "kind_row"
  na_BookParts_rule_row : NoAttr K (He.ga K "BookParts") "rule_row"
  me_BookParts_init : Meth K (He.ga K "BookParts") "__init__" (He.ma K (He.ga K "BookParts") "__init__")
  d_BookParts_init : MtD K "BookParts" "__init__" "BookParts.__init__" s_BookParts_init
  g_BookReader : mg "BookReader" = some (.ref (He.ga K "BookReader"))
  cl_BookReader : Cls K (He.ga K "BookReader")
  mk_BookReader : Mk K (He.ga K "BookReader") (He.ma K (He.ga K "BookReader") "__init__")
  na_BookReader_stage : NoAttr K (He.ga K "BookReader") "stage"
  na_BookReader_known : NoAttr K (He.ga K "BookReader") "known"
  na_BookReader_rule_names : NoAttr K (He.ga K "BookReader") "rule_names"
  na_BookReader_found : NoAttr K (He.ga K "BookReader") "found"
  me_BookReader_init : Meth K (He.ga K "BookReader") "__init__" (He.ma K (He.ga K "BookReader") "__init__")
  d_BookReader_init : MtD K "BookReader" "__init__" "BookReader.__init__" s_BookReader_init
  me_BookReader_take : Meth K (He.ga K "BookReader") "take" (He.ma K (He.ga K "BookReader") "take")
  d_BookReader_take : MtD K "BookReader" "take" "BookReader.take" s_BookReader_take
  me_BookReader_take_kinds : Meth K (He.ga K "BookReader") "_take_kinds" (He.ma K (He.ga K "BookReader") "_take_kinds")
  d_BookReader_take_kinds : MtD K "BookReader" "_take_kinds" "BookReader._take_kinds" s_BookReader_take_kinds
  me_BookReader_take_rule : Meth K (He.ga K "BookReader") "_take_rule" (He.ma K (He.ga K "BookReader") "_take_rule")
  d_BookReader_take_rule : MtD K "BookReader" "_take_rule" "BookReader._take_rule" s_BookReader_take_rule
  me_BookReader_take_row : Meth K (He.ga K "BookReader") "_take_row" (He.ma K (He.ga K "BookReader") "_take_row")
  d_BookReader_take_row : MtD K "BookReader" "_take_row" "BookReader._take_row" s_BookReader_take_row
  me_BookReader_whole : Meth K (He.ga K "BookReader") "whole" (He.ma K (He.ga K "BookReader") "whole")
  d_BookReader_whole : MtD K "BookReader" "whole" "BookReader.whole" s_BookReader_whole
  g_Book : mg "Book" = some (.ref (He.ga K "Book"))
  cl_Book : Cls K (He.ga K "Book")
  mk_Book : Mk K (He.ga K "Book") (He.ma K (He.ga K "Book") "__init__")
  na_Book__kinds : NoAttr K (He.ga K "Book") "_kinds"
  na_Book__rules : NoAttr K (He.ga K "Book") "_rules"
  na_Book__known : NoAttr K (He.ga K "Book") "_known"
  na_Book__widths : NoAttr K (He.ga K "Book") "_widths"
  na_Book__row_lists : NoAttr K (He.ga K "Book") "_row_lists"
  na_Book__row_marks : NoAttr K (He.ga K "Book") "_row_marks"
  na_Book__listed : NoAttr K (He.ga K "Book") "_listed"
  na_Book__book_text : NoAttr K (He.ga K "Book") "_book_text"
  na_Book__rule_tables : NoAttr K (He.ga K "Book") "_rule_tables"
  na_Book__strike_table : NoAttr K (He.ga K "Book") "_strike_table"
  na_Book__round_table : NoAttr K (He.ga K "Book") "_round_table"
  na_Book__home_table : NoAttr K (He.ga K "Book") "_home_table"
  na_Book__step_table : NoAttr K (He.ga K "Book") "_step_table"
  me_Book_init : Meth K (He.ga K "Book") "__init__" (He.ma K (He.ga K "Book") "__init__")
  d_Book_init : MtD K "Book" "__init__" "Book.__init__" s_Book_init
  me_Book_width : Meth K (He.ga K "Book") "width" (He.ma K (He.ga K "Book") "width")
  d_Book_width : MtD K "Book" "width" "Book.width" s_Book_width
  me_Book_rows : Meth K (He.ga K "Book") "rows" (He.ma K (He.ga K "Book") "rows")
  d_Book_rows : MtD K "Book" "rows" "Book.rows" s_Book_rows
  me_Book_len : Meth K (He.ga K "Book") "__len__" (He.ma K (He.ga K "Book") "__len__")
  d_Book_len : MtD K "Book" "__len__" "Book.__len__" s_Book_len
  me_Book_contains : Meth K (He.ga K "Book") "__contains__" (He.ma K (He.ga K "Book") "__contains__")
  d_Book_contains : MtD K "Book" "__contains__" "Book.__contains__" s_Book_contains
  me_Book_iter : Meth K (He.ga K "Book") "__iter__" (He.ma K (He.ga K "Book") "__iter__")
  d_Book_iter : MtD K "Book" "__iter__" "Book.__iter__" s_Book_iter
  me_Book_eq : Meth K (He.ga K "Book") "__eq__" (He.ma K (He.ga K "Book") "__eq__")
  d_Book_eq : MtD K "Book" "__eq__" "Book.__eq__" s_Book_eq
  me_Book_repr : Meth K (He.ga K "Book") "__repr__" (He.ma K (He.ga K "Book") "__repr__")
  d_Book_repr : MtD K "Book" "__repr__" "Book.__repr__" s_Book_repr
end K0
set_option Elab.async false
set_option linter.all false
set_option maxRecDepth 100000
set_option maxHeartbeats 4000000
namespace K0
open PySem PySem.Spec PyProof.Rows L2 Fz

def m_written_by (v_word : Tx) (v_letters : Tx) : Option Bool :=
  (Option.bind ((if (!((decide ((1 : Int) ≤ ((v_word).length : Int))) && (decide (((v_word).length : Int) ≤ (8 : Int))))) = true then some true else (Option.bind (Fm.ixS v_word (0 : Int)) fun t1 => Option.bind (Fm.inS t1 v_letters) fun t3 => some (!t3)))) fun t5 => (if t5 = true then (some false) else Option.bind (loop (ρ := Bool) (fun (st12 : Unit) (x13 : Tx) => (Option.bind (Fm.inS x13 v_letters) fun t23 => Option.bind ((if (!t23) = true then (Option.bind (Fm.inS x13 c_DIGITS) fun t25 => some (!t25)) else some false)) fun t27 => (if t27 = true then (some (.ret false)) else some (.go ())))) () (v_word.map fun c => [c])) fun c14 => (match c14 with | .ret r => some r | .go st36 => (some true) | .brk _ => none)))
abbrev sm_written_by (x : Tx × Tx) : Option Bool := m_written_by x.1 x.2
abbrev sp_written_by (K : PySem.W.Frag) : Sp := spF (fun x : Tx × Tx => [D K (eS x.1), D K (eS x.2)]) sm_written_by (fun r => D K (eB r))
theorem sc_written_by : FnScope ["word", "letters", "sign"] ["word", "letters"] (defScope s_written_by) := ⟨rfl, rfl, rfl, by decide +kernel, rfl, by decide +kernel, by decide +kernel⟩
theorem ok_written_by {P : Program} {w : World} {K : PySem.W.Frag} {mg : Str → Option Value} {base : Heap} (T : Txt K mg)  : Fok P w K mg base 1 "written_by" ["word", "letters"] (sp_written_by K) := by
  refine Fok.mk' T.g_written_by T.d_written_by (fun _ _ _ _ _ _ us hl => match us, hl with | [_, _], _ => rfl) sc_written_by (fun vs H Q E h => spF_len h) (fun cdv A outer s H vs Q E hr h => ⟨_, by
      exact (pss_cons (ps_if (PW.pt (pw_or (pt_not (pt_chain op_le op_le pe_int (pe_callB call_len_str (by rfl) T.n_len PySem.boot_len (pa_cons (pv 0) pa_nil)) (pe_globI T.c_LONGEST))) (pw_or1 (pt_cmpR op_notIn_sign (pe_ix ix_str (pv 0) pe_int (fun _ _ => rfl)) (pv 1) (by rfl))))) (pss_one (ps_ret pe_bl)) pss_nil) (pss_cons (ps_for PassesOwn.never (by rfl) (pi_str (pv 0)) (pg_name (i := 2) sc_written_by.nd (by rfl) (Or.inl rfl)) (pss_one (ps_if (PW.pt (pw_and (pt_cmpR op_notIn_sign (pv 2) (pv 1) (by rfl)) (pw_and1 (pt_cmpR op_notIn_sign (pv 2) (pe_globS T.c_DIGITS) (by rfl))))) (pss_one (ps_ret pe_bl)) pss_nil))) (pss_one (ps_ret pe_bl)))), ?_⟩)
  refine spF_go h fun G x r hm s0 kret => ?_
  obtain ⟨v_word, v_letters⟩ := x
  have hm : m_written_by v_word v_letters = _ := hm
  unfold m_written_by at hm
  obtain ⟨t5, h6, hm⟩ := bnd' hm
  refine st_if s0 (et_or (et_not (et_test (ev_chain ev_int (ev_lenS (s0.var 0)) ev_int))) (fun hb7 => by
        have hk := oif_f h6 hb7
        obtain ⟨t1, h2, hk⟩ := bnd' hk
        obtain ⟨t3, h4, hk⟩ := bnd' hk
        exact ET.to (et_test (ev_niSign (ev_ixS (s0.var 0) ev_int h2) (s0.var 1) h4)) (Option.some.inj hk)) (fun hb7 => (Option.some.inj (oif_t h6 hb7)).symm)) (fun hb8 _ _ s9 => ?_) (fun hb8 _ _ s10 => ?_)
  · replace hm := oif_t hm hb8
    refine st_ret (R := D K (eB false)) s9 ev_bl fun _ _ _ s11 rv => ?_
    obtain rfl := Option.some.inj hm
    exact kret _ _ _ _ _ _ _ s11 rv
  · replace hm := oif_f hm hb8
    refine st_nil (nx_go ?_)
    obtain ⟨c14, h15, hm⟩ := bnd' hm
    refine st_for (fun (st12 : Unit) => [some (D K (eS v_word)), some (D K (eS v_letters)), none]) (fun (st12 : Unit) => []) (s10.fle (.keep (.keep (.skip .nil)))) (es_str (s10.var 0)) h15 (fun _ st12 x13 _ _ _ _ _ hx18 hc19 s16 _ hN20 hB21 hR22 => ?_) (fun st36 _ _ _ hd s35 => ?_)
    · refine st_bind s16 fun _ _ s17 => ?_
      obtain ⟨t23, h24, hc19⟩ := bnd' hc19
      obtain ⟨t27, h28, hc19⟩ := bnd' hc19
      refine st_if s17 (et_and (et_test (ev_niSign (s17.var 2) (s17.var 1) h24)) (fun hb29 => by
            have hk := oif_t h28 hb29
            obtain ⟨t25, h26, hk⟩ := bnd' hk
            exact ET.to (et_test (ev_niSign (s17.var 2) (ev_strC c_DIGITS) h26)) (Option.some.inj hk)) (fun hb29 => (Option.some.inj (oif_f h28 hb29)).symm)) (fun hb30 _ _ s31 => ?_) (fun hb30 _ _ s32 => ?_)
      · replace hc19 := oif_t hc19 hb30
        refine st_ret (R := D K (eB false)) s31 ev_bl fun _ _ _ s33 rv => ?_
        obtain rfl := Option.some.inj hc19
        have hc34 := hR22 _ rfl
        rw [hc34] at hm
        obtain rfl := Option.some.inj hm
        exact kret _ _ _ _ _ _ _ s33 rv
      · replace hc19 := oif_f hc19 hb30
        refine st_nil ?_
        obtain rfl := Option.some.inj hc19
        exact hN20 _ _ _ _ rfl (s32.fle (.keep (.keep (.skip .nil))))
    · rcases hd with rfl | rfl
      · refine nx_go ?_
        refine st_ret (R := D K (eB true)) s35 ev_bl fun _ _ _ s37 rv => ?_
        obtain rfl := Option.some.inj hm
        exact kret _ _ _ _ _ _ _ s37 rv
      · cases hm
def m_plain_name (v_word : Tx) : Option Bool :=
  (Option.bind (m_written_by v_word c_SMALL) fun t1 => some (t1 && (!mem v_word c_BARRED)))
abbrev sm_plain_name (x : Tx) : Option Bool := m_plain_name x
abbrev sp_plain_name (K : PySem.W.Frag) : Sp := spF (fun x : Tx => [D K (eS x)]) sm_plain_name (fun r => D K (eB r))
theorem sc_plain_name : FnScope ["word"] ["word"] (defScope s_plain_name) := ⟨rfl, rfl, rfl, by decide +kernel, rfl, by decide +kernel, by decide +kernel⟩
theorem ok_plain_name {P : Program} {w : World} {K : PySem.W.Frag} {mg : Str → Option Value} {base : Heap} (T : Txt K mg) (h_written_by : Fok P w K mg base 1 "written_by" ["word", "letters"] (sp_written_by K)) : Fok P w K mg base 2 "plain_name" ["word"] (sp_plain_name K) := by
  refine Fok.mk' T.g_plain_name T.d_plain_name (fun _ _ _ _ _ _ us hl => match us, hl with | [_], _ => rfl) sc_plain_name (fun vs H Q E h => spF_len h) (fun cdv A outer s H vs Q E hr h => ⟨_, by
      exact (pss_one (ps_ret (pe_and (pe_callF h_written_by (hr.mono (by decide)) (pa_cons (pv 0) (pa_cons (pe_globS T.c_SMALL) pa_nil))) (pe_one (pe_cmpR (op_niPK (K := K) hr.units) (pv 0) (pe_globR T.c_BARRED.g) (by rfl)))))), ?_⟩)
  refine spF_go h fun G v_word r hm s0 kret => ?_
  have hm : m_plain_name v_word = _ := hm
  unfold m_plain_name at hm
  obtain ⟨t1, h2, hm⟩ := bnd' hm
  refine st_ret (R := D K (eB (t1 && (!mem v_word c_BARRED)))) s0 (ev_andV2 (ev_call (x := (v_word, c_SMALL)) (m := sm_written_by) (er := (fun r => D K (eB r))) (ea_cons (s0.var 0) (ea_cons (ev_strC c_SMALL) ea_nil)) h2) (fun _ => (ev_niC T.c_BARRED (s0.var 0)))) fun _ _ _ s3 rv => ?_
  obtain rfl := Option.some.inj hm
  exact kret _ _ _ _ _ _ _ s3 rv
def m_first_wrong (v_words : (List Tx)) : Option (Option Tx) :=
  Option.bind (loop (ρ := (Option Tx)) (fun (st1 : Unit) (x2 : Tx) => (Option.bind (m_plain_name x2) fun t12 => (if (!t12) = true then (some (.ret (some x2))) else some (.go ())))) () v_words) fun c3 => (match c3 with | .ret r => some r | .go st20 => (some none) | .brk _ => none)
abbrev sm_first_wrong (x : (List Tx)) : Option (Option Tx) := m_first_wrong x
abbrev sp_first_wrong (K : PySem.W.Frag) : Sp := spF (fun x : (List Tx) => [D K ((eL eS) x)]) sm_first_wrong (fun r => D K ((eO eS) r))
theorem sc_first_wrong : FnScope ["words", "word"] ["words"] (defScope s_first_wrong) := ⟨rfl, rfl, rfl, by decide +kernel, rfl, by decide +kernel, by decide +kernel⟩
theorem ok_first_wrong {P : Program} {w : World} {K : PySem.W.Frag} {mg : Str → Option Value} {base : Heap} (T : Txt K mg) (h_plain_name : Fok P w K mg base 2 "plain_name" ["word"] (sp_plain_name K)) : Fok P w K mg base 3 "first_wrong" ["words"] (sp_first_wrong K) := by
  refine Fok.mk' T.g_first_wrong T.d_first_wrong (fun _ _ _ _ _ _ us hl => match us, hl with | [_], _ => rfl) sc_first_wrong (fun vs H Q E h => spF_len h) (fun cdv A outer s H vs Q E hr h => ⟨_, by
      exact (pss_cons (ps_for PassesOwn.never (by rfl) (pi_listK (K := K) (pv 0)) (pg_name (i := 1) sc_first_wrong.nd (by rfl) (Or.inl rfl)) (pss_one (ps_if (pt_not (pt_val (pe_callF h_plain_name (hr.mono (by decide)) (pa_cons (pv 1) pa_nil)))) (pss_one (ps_ret (pv 1))) pss_nil))) (pss_one (ps_ret pe_non))), ?_⟩)
  refine spF_go h fun G v_words r hm s0 kret => ?_
  have hm : m_first_wrong v_words = _ := hm
  unfold m_first_wrong at hm
  obtain ⟨c3, h4, hm⟩ := bnd' hm
  refine st_for (fun (st1 : Unit) => [some (D K ((eL eS) v_words)), none]) (fun (st1 : Unit) => []) (s0.fle (.keep (.skip .nil))) (es_list (e := eS) (s0.var 0)) h4 (fun _ st1 x2 _ _ _ _ _ hx7 hc8 s5 _ hN9 hB10 hR11 => ?_) (fun st20 _ _ _ hd s19 => ?_)
  · refine st_bind s5 fun _ _ s6 => ?_
    obtain ⟨t12, h13, hc8⟩ := bnd' hc8
    refine st_if s6 (et_not (et_B (ev_call (x := x2) (m := sm_plain_name) (er := (fun r => D K (eB r))) (ea_cons (s6.var 1) ea_nil) h13))) (fun hb14 _ _ s15 => ?_) (fun hb14 _ _ s16 => ?_)
    · replace hc8 := oif_t hc8 hb14
      refine st_ret (R := D K ((eO eS) (some x2))) s15 (ev_some (e := eS) (s15.var 1)) fun _ _ _ s17 rv => ?_
      obtain rfl := Option.some.inj hc8
      have hc18 := hR11 _ rfl
      rw [hc18] at hm
      obtain rfl := Option.some.inj hm
      exact kret _ _ _ _ _ _ _ s17 rv
    · replace hc8 := oif_f hc8 hb14
      refine st_nil ?_
      obtain rfl := Option.some.inj hc8
      exact hN9 _ _ _ _ rfl (s16.fle (.keep (.skip .nil)))
  · rcases hd with rfl | rfl
    · refine nx_go ?_
      refine st_ret (R := D K ((eO eS) none)) s19 (ev_none (e := eS)) fun _ _ _ s21 rv => ?_
      obtain rfl := Option.some.inj hm
      exact kret _ _ _ _ _ _ _ s21 rv
    · cases hm
def m_law_rows (v_sorts : (List Tx)) (v_wide : Int) : Option (List (List Tx)) :=
  (Option.bind (Fm.range v_wide) fun t2 => Option.bind (fold (fun (st4 : (List (List Tx))) (x5 : Int) => Option.bind (fold (fun (st17 : (List (List Tx))) (x18 : (List Tx)) => Option.bind (fold (fun (st28 : (List (List Tx))) (x29 : Tx) => (Option.bind (Fm.catL x18 [x29]) fun t39 => Option.bind (Fm.app st28 t39) fun t41 => some t41)) st17 v_sorts) fun st45 => some st45) ([] : List (List Tx)) st4) fun st47 => some st47) ([([] : List Tx)] : List (List Tx)) t2) fun st50 => (some st50))
abbrev sm_law_rows (x : (List Tx) × Int) : Option (List (List Tx)) := m_law_rows x.1 x.2
abbrev sp_law_rows (K : PySem.W.Frag) : Sp := spF (fun x : (List Tx) × Int => [D K ((eL eS) x.1), D K (eI x.2)]) sm_law_rows (fun r => D K ((eL (eT eS)) r))
theorem sc_law_rows : FnScope ["sorts", "wide", "rows", "turn", "grown", "row", "one"] ["sorts", "wide"] (defScope s_law_rows) := ⟨rfl, rfl, rfl, by decide +kernel, rfl, by decide +kernel, by decide +kernel⟩
theorem ok_law_rows {P : Program} {w : World} {K : PySem.W.Frag} {mg : Str → Option Value} {base : Heap} (T : Txt K mg)  : Fok P w K mg base 1 "_law_rows" ["sorts", "wide"] (sp_law_rows K) := by
  refine Fok.mk' T.g_law_rows T.d_law_rows (fun _ _ _ _ _ _ us hl => match us, hl with | [_, _], _ => rfl) sc_law_rows (fun vs H Q E h => spF_len h) (fun cdv A outer s H vs Q E hr h => ⟨_, by
      exact (pss_cons (ps_set (i := 2) sc_law_rows.nd (by rfl) (Or.inl rfl) (pe_lst (pa_cons (pe_tup pa_nil) pa_nil))) (pss_cons (ps_for PassesOwn.never (by rfl) (pi_range1 (by rfl) T.n_range (pa_cons (pv 1) pa_nil)) (pg_name (i := 3) sc_law_rows.nd (by rfl) (Or.inl rfl)) (pss_cons (ps_set (i := 4) sc_law_rows.nd (by rfl) (Or.inl rfl) (pe_lst pa_nil)) (pss_cons (ps_for PassesOwn.never (by rfl) (pi_listK (K := K) (pv 2)) (pg_name (i := 5) sc_law_rows.nd (by rfl) (Or.inl rfl)) (pss_one (ps_for PassesOwn.never (by rfl) (pi_listK (K := K) (pv 0)) (pg_name (i := 6) sc_law_rows.nd (by rfl) (Or.inl rfl)) (pss_one (ps_expr (pe_bm PySem.F.plainAttrs_list PySem.F.slot_list_append PySem.F.type_list_append mt_append (pv 4) (pa_cons (pe_op (op_catAK (K := K)) (pv 5) (pe_tup (pa_cons (pv 6) pa_nil))) pa_nil))))))) (pss_one (ps_set (i := 2) sc_law_rows.nd (by rfl) (Or.inl rfl) (pe_callTy (call_list_ofK (K := K)) (by rfl) T.n_list boot_list (pa_cons (pv 4) pa_nil))))))) (pss_one (ps_ret (pv 2))))), ?_⟩)
  refine spF_go h fun G x r hm s0 kret => ?_
  obtain ⟨v_sorts, v_wide⟩ := x
  have hm : m_law_rows v_sorts v_wide = _ := hm
  unfold m_law_rows at hm
  refine st_set (R := D K ((eL (eT eS)) ([([] : List Tx)] : List (List Tx)))) s0 (ev_lst (ds := [(eT eS) ([] : List Tx)]) (ea_cons (ev_tup (ds := (([] : (List Tx)).map eS)) ea_nil) ea_nil)) (fun _ _ _ s1 => ?_)
  refine nx_go ?_
  obtain ⟨t2, h3, hm⟩ := bnd' hm
  obtain ⟨st50, h7, hm⟩ := bnd' hm
  refine st_for (fun (st4 : (List (List Tx))) => [some (D K ((eL eS) v_sorts)), some (D K (eI v_wide)), some (D K ((eL (eT eS)) st4)), none, none, none, none]) (fun (st4 : (List (List Tx))) => []) (s1.fle (.keep (.keep (.keep (.skip (.skip (.skip (.skip .nil)))))))) (es_range (s1.var 1) h3) (loop_of_fold h7) (fun _ => trn_fold _ _ fun st4 x5 _ _ _ _ _ hx10 hc11 s8 _ hN12 => ?_) (fun _ _ _ _ hd s49 => ?_)
  · refine st_bind s8 fun _ _ s9 => ?_
    refine st_ownT (K := K) (e := (eT eS)) (xs := ([] : List (List Tx))) s9 (en_lst (ds := (([] : (List (List Tx))).map (eT eS))) ea_nil) (fun p16 _ _ _ hpp16 s15 => ?_)
    refine nx_go ?_
    obtain ⟨st47, h20, hc11⟩ := bnd' hc11
    refine st_for (fun (st17 : (List (List Tx))) => [some (D K ((eL eS) v_sorts)), some (D K (eI v_wide)), some (D K ((eL (eT eS)) st4)), some (D K (eI x5)), some (isV (.ref p16)), none, none]) (fun (st17 : (List (List Tx))) => [(p16, Fz.ownL K ((st17).map (eT eS)))]) (s15.fle (.keep (.keep (.keep (.keep (.keep (.skip (.skip .nil)))))))) (es_list (e := (eT eS)) (s15.var 2)) (loop_of_fold h20) (fun _ => trn_fold _ _ fun st17 x18 _ _ _ _ _ hx23 hc24 s21 _ hN25 => ?_) (fun _ _ _ _ hd s46 => ?_)
    · refine st_bind s21 fun _ _ s22 => ?_
      obtain ⟨st45, h31, hc24⟩ := bnd' hc24
      refine st_for (fun (st28 : (List (List Tx))) => [some (D K ((eL eS) v_sorts)), some (D K (eI v_wide)), some (D K ((eL (eT eS)) st4)), some (D K (eI x5)), some (isV (.ref p16)), some (D K ((eT eS) x18)), none]) (fun (st28 : (List (List Tx))) => [(p16, Fz.ownL K ((st28).map (eT eS)))]) (s22.fle (.keep (.keep (.keep (.keep (.keep (.keep (.skip .nil)))))))) (es_list (e := eS) (s22.var 0)) (loop_of_fold h31) (fun _ => trn_fold _ _ fun st28 x29 _ _ _ _ _ hx34 hc35 s32 _ hN36 => ?_) (fun _ _ _ _ hd s44 => ?_)
      · refine st_bind s32 fun _ _ s33 => ?_
        obtain ⟨t39, h40, hc35⟩ := bnd' hc35
        obtain ⟨t41, h42, hc35⟩ := bnd' hc35
        refine st_appendT (e := (eT eS)) s33 4 0 (ev_catT (e := eS) (s33.var 5) (ev_tup (ds := [eS x29]) (ea_cons (s33.var 6) ea_nil)) h40) h42 (fun _ _ s43 => ?_)
        obtain rfl := Option.some.inj hc35
        exact hN36 _ _ _ (s43.fle (.keep (.keep (.keep (.keep (.keep (.keep (.skip .nil))))))))
      · obtain rfl := (go_eq hd).symm
        obtain rfl := Option.some.inj hc24
        exact hN25 _ _ _ (s44.fle (.keep (.keep (.keep (.keep (.keep (.skip (.skip .nil))))))))
    · obtain rfl := (go_eq hd).symm
      refine nx_go ?_
      refine st_set (R := D K ((eL (eT eS)) st47)) s46 (ev_listL (s46.ownL 4 0)) (fun _ _ _ s48 => ?_)
      obtain rfl := Option.some.inj hc11
      exact hN12 _ _ _ ((s48.dropO 0).fle (.keep (.keep (.keep (.skip (.skip (.skip (.skip .nil))))))))
  · obtain rfl := (go_eq hd).symm
    refine nx_go ?_
    refine st_ret (R := D K ((eL (eT eS)) st50)) s49 (s49.var 2) fun _ _ _ s51 rv => ?_
    obtain rfl := Option.some.inj hm
    exact kret _ _ _ _ _ _ _ s51 rv
def m_law_book_text (v_spec : ((List Tx) × (List (Tx × Int × (List (List Tx)))))) : Option Tx :=
  (Option.bind (Fm.join ([32] : Tx) v_spec.1) fun t1 => Option.bind (Fm.catS ([107, 105, 110, 100, 115, 32] : Tx) t1) fun t3 => Option.bind (fold (fun (st7 : (List Tx)) (x8 : (Tx × Int × (List (List Tx)))) => (Option.bind (Fm.catS ([114, 117, 108, 101, 32] : Tx) x8.1) fun t18 => Option.bind (Fm.catS t18 ([32] : Tx)) fun t20 => Option.bind (Fm.strI x8.2.1) fun t22 => Option.bind (Fm.catS t20 t22) fun t24 => Option.bind (Fm.app st7 t24) fun t26 => Option.bind (fold (fun (st29 : (List Tx)) (x30 : (List Tx)) => (Option.bind (Fm.join ([32] : Tx) x30) fun t40 => Option.bind (Fm.app st29 t40) fun t42 => some t42)) t26 x8.2.2) fun st46 => some st46)) ([([98, 111, 111, 107] : Tx), t3] : List Tx) v_spec.2) fun st48 => (Option.bind (Fm.app st48 ([100, 111, 110, 101] : Tx)) fun t49 => (Option.bind (comp (fun (x52 : Tx) => (Option.bind (Fm.catS x52 ([10] : Tx)) fun t53 => some (some t53))) t49) fun t55 => Option.bind (Fm.join ([] : Tx) t55) fun t57 => some t57)))
abbrev sm_law_book_text (x : ((List Tx) × (List (Tx × Int × (List (List Tx)))))) : Option Tx := m_law_book_text x
abbrev sp_law_book_text (K : PySem.W.Frag) : Sp := spF (fun x : ((List Tx) × (List (Tx × Int × (List (List Tx))))) => [D K ((eH2 (eL eS) (eL (eP3 eS eI (eL (eT eS))))) x)]) sm_law_book_text (fun r => D K (eS r))
theorem sc_law_book_text : FnScope ["spec", "lines", "norm", "row", "line"] ["spec"] (defScope s_law_book_text) := ⟨rfl, rfl, rfl, by decide +kernel, rfl, by decide +kernel, by decide +kernel⟩
theorem ok_law_book_text {P : Program} {w : World} {K : PySem.W.Frag} {mg : Str → Option Value} {base : Heap} (T : Txt K mg)  : Fok P w K mg base 1 "_law_book_text" ["spec"] (sp_law_book_text K) := by
  refine Fok.mk' T.g_law_book_text T.d_law_book_text (fun _ _ _ _ _ _ us hl => match us, hl with | [_], _ => rfl) sc_law_book_text (fun vs H Q E h => spF_len h) (fun cdv A outer s H vs Q E hr h => ⟨_, by
      exact (pss_cons (ps_set (i := 1) sc_law_book_text.nd (by rfl) (Or.inl rfl) (pe_lst (pa_cons pe_str (pa_cons (pe_op op_add_str pe_str (pe_joinK (K := K) pe_str (pe_ix (ix_listK (K := K)) (pv 0) pe_int (fun _ _ => rfl)))) pa_nil)))) (pss_cons (ps_for PassesOwn.never (by rfl) (pi_listK (K := K) (pe_ix (ix_listK (K := K)) (pv 0) pe_int (fun _ _ => rfl))) (pg_name (i := 2) sc_law_book_text.nd (by rfl) (Or.inl rfl)) (pss_cons (ps_expr (pe_bm PySem.F.plainAttrs_list PySem.F.slot_list_append PySem.F.type_list_append mt_append (pv 1) (pa_cons (pe_op op_add_str (pe_op op_add_str (pe_op op_add_str pe_str (pe_ix (ix_tupK (K := K)) (pv 2) pe_int (fun _ _ => rfl))) pe_str) (pe_callTy call_str_int (by rfl) T.n_str boot_str (pa_cons (pe_ix (ix_tupK (K := K)) (pv 2) pe_int (fun _ _ => rfl)) pa_nil))) pa_nil))) (pss_one (ps_for PassesOwn.never (by rfl) (pi_listK (K := K) (pe_ix (ix_tupK (K := K)) (pv 2) pe_int (fun _ _ => rfl))) (pg_name (i := 3) sc_law_book_text.nd (by rfl) (Or.inl rfl)) (pss_one (ps_expr (pe_bm PySem.F.plainAttrs_list PySem.F.slot_list_append PySem.F.type_list_append mt_append (pv 1) (pa_cons (pe_joinK (K := K) pe_str (pv 3)) pa_nil)))))))) (pss_cons (ps_expr (pe_bm PySem.F.plainAttrs_list PySem.F.slot_list_append PySem.F.type_list_append mt_append (pv 1) (pa_cons pe_str pa_nil))) (pss_one (ps_ret (pe_joinK (K := K) pe_str (pe_lc (own := [("line", 4)]) (by rfl) sc_law_book_text.nd (pi_listK (K := K) (pv 1)) (blkOk_by (N := ["spec", "lines", "norm", "row", "line"]) (sc := defScope s_law_book_text) (by decide +kernel)) (fun _ _ _ _ _ => (pg_name (i := 4) sc_law_book_text.nd (by rfl) (Or.inl rfl))) (fun _ _ _ _ _ => pts_nil) (fun _ _ _ _ _ => (pe_op op_add_str (pv 4) pe_str))))))))), ?_⟩)
  refine spF_go h fun G v_spec r hm s0 kret => ?_
  have hm : m_law_book_text v_spec = _ := hm
  unfold m_law_book_text at hm
  obtain ⟨t1, h2, hm⟩ := bnd' hm
  obtain ⟨t3, h4, hm⟩ := bnd' hm
  refine st_ownT (K := K) (e := eS) (xs := ([([98, 111, 111, 107] : Tx), t3] : List Tx)) s0 (en_lst (ds := [eS ([98, 111, 111, 107] : Tx), eS t3]) (ea_cons (ev_strC [98, 111, 111, 107]) (ea_cons (ev_catS (ev_strC [107, 105, 110, 100, 115, 32]) (ev_joinL (ev_strC [32]) (EV.lv (ev_ixLc (d := (eL eS) v_spec.1) (s0.var 0) ev_int (by rfl))) h2) h4) ea_nil))) (fun p6 _ _ _ hpp6 s5 => ?_)
  refine nx_go ?_
  obtain ⟨st48, h10, hm⟩ := bnd' hm
  refine st_for (fun (st7 : (List Tx)) => [some (D K ((eH2 (eL eS) (eL (eP3 eS eI (eL (eT eS))))) v_spec)), some (isV (.ref p6)), none, none, none]) (fun (st7 : (List Tx)) => [(p6, Fz.ownL K ((st7).map eS))]) (s5.fle (.keep (.keep (.skip (.skip (.skip .nil)))))) (es_list (e := (eP3 eS eI (eL (eT eS)))) (ev_ixLc (d := (eL (eP3 eS eI (eL (eT eS)))) v_spec.2) (s5.var 0) ev_int (by rfl))) (loop_of_fold h10) (fun _ => trn_fold _ _ fun st7 x8 _ _ _ _ _ hx13 hc14 s11 _ hN15 => ?_) (fun _ _ _ _ hd s47 => ?_)
  · refine st_bind s11 fun _ _ s12 => ?_
    obtain ⟨t18, h19, hc14⟩ := bnd' hc14
    obtain ⟨t20, h21, hc14⟩ := bnd' hc14
    obtain ⟨t22, h23, hc14⟩ := bnd' hc14
    obtain ⟨t24, h25, hc14⟩ := bnd' hc14
    obtain ⟨t26, h27, hc14⟩ := bnd' hc14
    refine st_appendT (e := eS) s12 1 0 (ev_catS (ev_catS (ev_catS (ev_strC [114, 117, 108, 101, 32]) (ev_ixTc (d := eS x8.1) (s12.var 2) ev_int (by rfl)) h19) (ev_strC [32]) h21) (ev_strI (ev_ixTc (d := eI x8.2.1) (s12.var 2) ev_int (by rfl)) h23) h25) h27 (fun _ _ s28 => ?_)
    refine nx_go ?_
    obtain ⟨st46, h32, hc14⟩ := bnd' hc14
    refine st_for (fun (st29 : (List Tx)) => [some (D K ((eH2 (eL eS) (eL (eP3 eS eI (eL (eT eS))))) v_spec)), some (isV (.ref p6)), some (D K ((eP3 eS eI (eL (eT eS))) x8)), none, none]) (fun (st29 : (List Tx)) => [(p6, Fz.ownL K ((st29).map eS))]) (s28.fle (.keep (.keep (.keep (.skip (.skip .nil)))))) (es_list (e := (eT eS)) (ev_ixTc (d := (eL (eT eS)) x8.2.2) (s28.var 2) ev_int (by rfl))) (loop_of_fold h32) (fun _ => trn_fold _ _ fun st29 x30 _ _ _ _ _ hx35 hc36 s33 _ hN37 => ?_) (fun _ _ _ _ hd s45 => ?_)
    · refine st_bind s33 fun _ _ s34 => ?_
      obtain ⟨t40, h41, hc36⟩ := bnd' hc36
      obtain ⟨t42, h43, hc36⟩ := bnd' hc36
      refine st_appendT (e := eS) s34 1 0 (ev_joinT (ev_strC [32]) (s34.var 3) h41) h43 (fun _ _ s44 => ?_)
      obtain rfl := Option.some.inj hc36
      exact hN37 _ _ _ (s44.fle (.keep (.keep (.keep (.skip (.skip .nil))))))
    · obtain rfl := (go_eq hd).symm
      obtain rfl := Option.some.inj hc14
      exact hN15 _ _ _ (s45.fle (.keep (.keep (.skip (.skip (.skip .nil))))))
  · obtain rfl := (go_eq hd).symm
    refine nx_go ?_
    obtain ⟨t49, h50, hm⟩ := bnd' hm
    refine st_appendT (e := eS) s47 1 0 (ev_strC [100, 111, 110, 101]) h50 (fun _ _ s51 => ?_)
    refine nx_go ?_
    obtain ⟨t55, h56, hm⟩ := bnd' hm
    obtain ⟨t57, h58, hm⟩ := bnd' hm
    refine st_ret (R := D K (eS t57)) s51 (ev_joinL (ev_strC []) (EV.lv (EN.ev (en_lc (e' := eS) (vs := [4]) s51 (eso_list (e := eS) (s51.ownL 1 0)) h56 (fun _ x52 o60 _ ho61 _ _ _ _ s631 _ k62 => by
          refine st_bind s631 fun _ hw64 s63 => ?_
          have hk := ho61
          obtain ⟨t53, h54, hk⟩ := bnd' hk
          obtain rfl := Option.some.inj hk
          exact k62 _ (hw64 _ (by decide)) et_yes (fun y hy => by cases hy; exact (ev_catS (s63.var 4) (ev_strC [10]) h54)))))) h58) fun _ _ _ s59 rv => ?_
    obtain rfl := Option.some.inj hm
    exact kret _ _ _ _ _ _ _ s59 rv
end K0
set_option Elab.async false
set_option linter.all false
set_option maxRecDepth 100000
set_option maxHeartbeats 4000000
namespace K0
open PySem PySem.Spec PyProof.Rows L2 Fz

def m_draw0 (v_bag : Bag) (v_many : Int) : Option (Int × Bag) :=
  (Option.bind (Fm.pow (10 : Int) (18 : Int)) fun t2 => Option.bind (if ((decide ((Bag.at (Bag.put v_bag 4 ((Bag.at v_bag 4) + (1 : Int))) 2) < t2)) && (decide ((Bag.at (Bag.put v_bag 4 ((Bag.at v_bag 4) + (1 : Int))) 1) < (((Bag.cells (Bag.put v_bag 4 ((Bag.at v_bag 4) + (1 : Int))))).length : Int)))) = true then (Option.bind (Fm.ix (Bag.cells (Bag.put v_bag 4 ((Bag.at v_bag 4) + (1 : Int)))) (Bag.at (Bag.put v_bag 4 ((Bag.at v_bag 4) + (1 : Int))) 1)) fun t14 => (Option.bind (Fm.mul (Bag.at (Bag.put (Bag.put (Bag.put v_bag 4 ((Bag.at v_bag 4) + (1 : Int))) 1 ((Bag.at (Bag.put v_bag 4 ((Bag.at v_bag 4) + (1 : Int))) 1) + (1 : Int))) 2 t14) 3) (16807 : Int)) fun t19 => Option.bind (Fm.mod t14 (1000000007 : Int)) fun t21 => Option.bind (Fm.mod ((t19 + t21) + (Bag.at (Bag.put (Bag.put (Bag.put v_bag 4 ((Bag.at v_bag 4) + (1 : Int))) 1 ((Bag.at (Bag.put v_bag 4 ((Bag.at v_bag 4) + (1 : Int))) 1) + (1 : Int))) 2 t14) 4)) (2147483647 : Int)) fun t23 => some (Bag.put (Bag.put (Bag.put (Bag.put v_bag 4 ((Bag.at v_bag 4) + (1 : Int))) 1 ((Bag.at (Bag.put v_bag 4 ((Bag.at v_bag 4) + (1 : Int))) 1) + (1 : Int))) 2 t14) 3 t23))) else some (Bag.put v_bag 4 ((Bag.at v_bag 4) + (1 : Int)))) fun (st8 : Bag) => (Option.bind (Fm.pow (10 : Int) (18 : Int)) fun t26 => (if (decide (t26 ≤ (Bag.at st8 2))) = true then (Option.bind (Fm.mod (Bag.at st8 2) v_many) fun t31 => (Option.bind (Fm.fdiv (Bag.at st8 2) v_many) fun t34 => (some (t31, (Bag.put st8 2 t34))))) else (Option.bind (Fm.mul (Bag.at st8 3) (48271 : Int)) fun t38 => Option.bind (Fm.mul (Bag.at st8 4) (69621 : Int)) fun t40 => Option.bind (Fm.mod ((t38 + t40) + (7 : Int)) (2147483647 : Int)) fun t42 => (Option.bind (Fm.fdiv (Bag.at (Bag.put st8 3 t42) 3) (128 : Int)) fun t45 => Option.bind (Fm.mod t45 v_many) fun t47 => some (t47, (Bag.put st8 3 t42)))))))
abbrev sm_draw0 (x : Int) (y : Bag) : Option (Int × Bag) := m_draw0 y x
abbrev sp_draw0 (K : PySem.W.Frag) : Sp := spM (ownBag K) (fun x : Int => [D K (eI x)]) sm_draw0 (fun r => D K (eI r))
theorem sc_draw0 : FnScope ["bag", "many", "cell", "number"] ["bag", "many"] (defScope s_law_draw) := ⟨rfl, rfl, rfl, by decide +kernel, rfl, by decide +kernel, by decide +kernel⟩
theorem ok_draw0 {P : Program} {w : World} {K : PySem.W.Frag} {mg : Str → Option Value} {base : Heap} (T : Txt K mg)  : Fok P w K mg base 1 "_law_draw" ["bag", "many"] (sp_draw0 K) := by
  refine Fok.mk' T.g_law_draw T.d_law_draw (fun _ _ _ _ _ _ us hl => match us, hl with | [_, _], _ => rfl) sc_draw0 (fun vs H Q E h => spM_len h) (fun cdv A outer s H vs Q E hr h => ⟨_, by
      exact (pss_cons (ps_asg (pe_op op_add (pe_ix (ix_listK (K := K)) (pv 0) pe_int (fun _ _ => rfl)) pe_int) (pg_sub (pv 0) pe_int set_list)) (pss_cons (ps_if (PW.pt (pw_and (pt_cmpR op_lt (pe_ix (ix_listK (K := K)) (pv 0) pe_int (fun _ _ => rfl)) (pe_op op_pow pe_int pe_int) (nomark _)) (pw_and1 (pt_cmpR op_lt (pe_ix (ix_listK (K := K)) (pv 0) pe_int (fun _ _ => rfl)) (pe_callB (call_len_seqK (K := K)) (by rfl) T.n_len PySem.boot_len (pa_cons (pe_ix (ix_listK (K := K)) (pv 0) pe_int (fun _ _ => rfl)) pa_nil)) (nomark _))))) (pss_cons (ps_set (i := 2) sc_draw0.nd (by rfl) (Or.inl rfl) (pe_ix (ix_listK (K := K)) (pe_ix (ix_listK (K := K)) (pv 0) pe_int (fun _ _ => rfl)) (pe_ix (ix_listK (K := K)) (pv 0) pe_int (fun _ _ => rfl)) (fun _ _ => rfl))) (pss_cons (ps_asg (pe_op op_add (pe_ix (ix_listK (K := K)) (pv 0) pe_int (fun _ _ => rfl)) pe_int) (pg_sub (pv 0) pe_int set_list)) (pss_cons (ps_asg (pv 2) (pg_sub (pv 0) pe_int set_list)) (pss_one (ps_asg (pe_op op_mod (pe_callTy call_int1 (by rfl) T.n_int boot_int (pa_cons (pe_op op_add (pe_op op_add (pe_op op_mul (pe_ix (ix_listK (K := K)) (pv 0) pe_int (fun _ _ => rfl)) pe_int) (pe_op op_mod (pv 2) pe_int)) (pe_ix (ix_listK (K := K)) (pv 0) pe_int (fun _ _ => rfl))) pa_nil)) pe_int) (pg_sub (pv 0) pe_int set_list)))))) pss_nil) (pss_cons (ps_if (pt_cmpR op_ge (pe_ix (ix_listK (K := K)) (pv 0) pe_int (fun _ _ => rfl)) (pe_op op_pow pe_int pe_int) (nomark _)) (pss_cons (ps_set (i := 3) sc_draw0.nd (by rfl) (Or.inl rfl) (pe_op op_mod (pe_callTy call_int1 (by rfl) T.n_int boot_int (pa_cons (pe_ix (ix_listK (K := K)) (pv 0) pe_int (fun _ _ => rfl)) pa_nil)) (pv 1))) (pss_cons (ps_asg (pe_op op_fdiv (pe_ix (ix_listK (K := K)) (pv 0) pe_int (fun _ _ => rfl)) (pv 1)) (pg_sub (pv 0) pe_int set_list)) (pss_one (ps_ret (pv 3))))) pss_nil) (pss_cons (ps_asg (pe_op op_mod (pe_callTy call_int1 (by rfl) T.n_int boot_int (pa_cons (pe_op op_add (pe_op op_add (pe_op op_mul (pe_ix (ix_listK (K := K)) (pv 0) pe_int (fun _ _ => rfl)) pe_int) (pe_op op_mul (pe_ix (ix_listK (K := K)) (pv 0) pe_int (fun _ _ => rfl)) pe_int)) pe_int) pa_nil)) pe_int) (pg_sub (pv 0) pe_int set_list)) (pss_one (ps_ret (pe_op op_mod (pe_callTy call_int1 (by rfl) T.n_int boot_int (pa_cons (pe_op op_fdiv (pe_ix (ix_listK (K := K)) (pv 0) pe_int (fun _ _ => rfl)) pe_int) pa_nil)) (pv 1)))))))), ?_⟩)
  refine spM_go h fun b0 G v_many v_bag r y' hm s0 kret => ?_
  have hm : m_draw0 v_bag v_many = _ := hm
  unfold m_draw0 at hm
  refine st_bagset s0 0 0 4 (ev_add (SA.bagI s0 0 0 4) ev_int) (fun _ _ s1 => ?_)
  refine nx_go ?_
  obtain ⟨t2, h3, hm⟩ := bnd' hm
  obtain ⟨st8, hj9, hm⟩ := bnd' hm
  refine st_ifJ [some (isV (.ref b0)), some (D K (eI v_many)), none, none] [(b0, ownBag K st8)] s1 (et_and2 (et_test (ev_lt (SA.bagI s1 0 0 2) (ev_pow ev_int ev_int h3))) (fun _ => (et_test (ev_lt (SA.bagI s1 0 0 1) (ev_lenLm (e := eI) (EV.lv (SA.bag0 s1 0 0))))))) (fun hb7 _ _ s11 _ hN5 => ?_) (fun hb7 _ _ s12 _ hN6 => ?_) (fun _ _ _ s13 => ?_)
  · have hk10 := oif_t hj9 hb7
    obtain ⟨t14, h15, hk10⟩ := bnd' hk10
    refine st_set (R := D K (eI t14)) s11 (ev_ixL (e := eI) (EV.lv (SA.bag0 s11 0 0)) (SA.bagI s11 0 0 1) h15) (fun _ _ _ s16 => ?_)
    refine nx_go ?_
    refine st_bagset s16 0 0 1 (ev_add (SA.bagI s16 0 0 1) ev_int) (fun _ _ s17 => ?_)
    refine nx_go ?_
    refine st_bagset s17 0 0 2 (s17.var 2) (fun _ _ s18 => ?_)
    refine nx_go ?_
    obtain ⟨t19, h20, hk10⟩ := bnd' hk10
    obtain ⟨t21, h22, hk10⟩ := bnd' hk10
    obtain ⟨t23, h24, hk10⟩ := bnd' hk10
    refine st_bagset s18 0 0 3 (ev_mod (ev_intI (ev_add (ev_add (ev_mul (SA.bagI s18 0 0 3) ev_int h20) (ev_mod (s18.var 2) ev_int h22)) (SA.bagI s18 0 0 4))) ev_int h24) (fun _ _ s25 => ?_)
    obtain rfl := Option.some.inj hk10
    exact hN5 _ _ _ (s25.fle (.keep (.keep (.skip (.skip .nil)))))
  · have hk10 := oif_f hj9 hb7
    refine st_nil ?_
    obtain rfl := Option.some.inj hk10
    exact hN6 _ _ _ (s12.fle (.keep (.keep (.skip (.skip .nil)))))
  · refine nx_go ?_
    obtain ⟨t26, h27, hm⟩ := bnd' hm
    refine st_if s13 (et_test (ev_ge (SA.bagI s13 0 0 2) (ev_pow ev_int ev_int h27))) (fun hb28 _ _ s29 => ?_) (fun hb28 _ _ s30 => ?_)
    · replace hm := oif_t hm hb28
      obtain ⟨t31, h32, hm⟩ := bnd' hm
      refine st_set (R := D K (eI t31)) s29 (ev_mod (ev_intI (SA.bagI s29 0 0 2)) (s29.var 1) h32) (fun _ _ _ s33 => ?_)
      refine nx_go ?_
      obtain ⟨t34, h35, hm⟩ := bnd' hm
      refine st_bagset s33 0 0 2 (ev_fdiv (SA.bagI s33 0 0 2) (s33.var 1) h35) (fun _ _ s36 => ?_)
      refine nx_go ?_
      refine st_ret (R := D K (eI t31)) s36 (s36.var 3) fun _ _ _ s37 rv => ?_
      obtain ⟨rfl, rfl⟩ := Prod.mk.inj (Option.some.inj hm)
      exact kret _ _ _ _ _ _ _ s37 (List.Mem.head _) rv
    · replace hm := oif_f hm hb28
      refine st_nil (nx_go ?_)
      obtain ⟨t38, h39, hm⟩ := bnd' hm
      obtain ⟨t40, h41, hm⟩ := bnd' hm
      obtain ⟨t42, h43, hm⟩ := bnd' hm
      refine st_bagset s30 0 0 3 (ev_mod (ev_intI (ev_add (ev_add (ev_mul (SA.bagI s30 0 0 3) ev_int h39) (ev_mul (SA.bagI s30 0 0 4) ev_int h41)) ev_int)) ev_int h43) (fun _ _ s44 => ?_)
      refine nx_go ?_
      obtain ⟨t45, h46, hm⟩ := bnd' hm
      obtain ⟨t47, h48, hm⟩ := bnd' hm
      refine st_ret (R := D K (eI t47)) s44 (ev_mod (ev_intI (ev_fdiv (SA.bagI s44 0 0 3) ev_int h46)) (s44.var 1) h48) fun _ _ _ s49 rv => ?_
      obtain ⟨rfl, rfl⟩ := Prod.mk.inj (Option.some.inj hm)
      exact kret _ _ _ _ _ _ _ s49 (List.Mem.head _) rv
end K0
set_option Elab.async false
set_option linter.all false
set_option maxRecDepth 100000
set_option maxHeartbeats 4000000
namespace K0
open PySem PySem.Spec PyProof.Rows L2 Fz
theorem mul_c {x y : Int} (h : -(2 ^ 64) < y ∧ y < 2 ^ 64) : Fm.mul x y = some (x * y) := if_pos (.inr h)
theorem mod_c {x y : Int} (h : 0 < y) : Fm.mod x y = some (x % y) := if_pos h
theorem fdiv_c {x y : Int} (h : 0 < y ∧ y < 1073741824) : Fm.fdiv x y = some (x / y) := if_pos h
theorem ix_nat {α : Type} {xs : List α} {i : Int} (h0 : 0 ≤ i) (h : i < xs.length) : ∃ a, Fm.ix xs i = some a ∧ xs[i.toNat]? = some a := by
  have hk : ixN xs.length i = some i.toNat := by
    unfold ixN
    rw [if_pos h0]
    rw [if_pos (by omega)]
  refine ⟨xs[i.toNat]'(by omega), ?_, List.getElem?_eq_getElem (by omega)⟩
  unfold Fm.ix atI
  rw [hk]
  exact List.getElem?_eq_getElem (by omega)
def InvB (B : Bag) : Prop := BgOk ⟨B.pos, B.cur, B.mix, B.cnt⟩ ∧ ∀ n ∈ B.cells, 0 ≤ n
theorem draw0_ok {B : Bag} {many : Int} (hB : InvB B) (h0 : 0 < many) (h1 : many < 1073741824) : ∃ r B', m_draw0 B many = some (r, B') ∧ (0 ≤ r ∧ r < many) ∧ B'.cells = B.cells ∧ B'.cv = B.cv ∧ InvB B' := by
  obtain ⟨⟨a1, a2, a4, a5, a6⟩, hc⟩ := hB
  obtain ⟨cv, cells, pos, cur, mix, cnt⟩ := B
  have a1 : 0 ≤ pos := a1
  have a2 : 0 ≤ cur := a2
  have a6 : 0 ≤ cnt := a6
  have hp : Fm.pow (10 : Int) (18 : Int) = some (10 ^ 18) := by decide
  have M1 : ∀ x, Fm.mod x 2147483647 = some (x % 2147483647) := fun x => mod_c (by decide)
  have M2 : ∀ x, Fm.mod x 1000000007 = some (x % 1000000007) := fun x => mod_c (by decide)
  have M3 : ∀ x, Fm.mod x many = some (x % many) := fun x => mod_c h0
  have F1 : ∀ x, Fm.fdiv x many = some (x / many) := fun x => fdiv_c ⟨h0, h1⟩
  have F2 : ∀ x, Fm.fdiv x 128 = some (x / 128) := fun x => fdiv_c (by decide)
  have U1 : ∀ x, Fm.mul x 48271 = some (x * 48271) := fun x => mul_c (by decide)
  have U2 : ∀ x, Fm.mul x 69621 = some (x * 69621) := fun x => mul_c (by decide)
  have U3 : ∀ x, Fm.mul x 16807 = some (x * 16807) := fun x => mul_c (by decide)
  have n1 : ∀ x : Int, 0 ≤ x % 2147483647 := fun x => Int.emod_nonneg _ (by decide)
  have n2 : ∀ x : Int, x % 2147483647 < 2147483647 := fun x => Int.emod_lt_of_pos _ (by decide)
  have d1 : ∀ x : Int, 0 ≤ x → 0 ≤ x / many := fun x hx => Int.ediv_nonneg hx (by omega)
  unfold m_draw0
  simp only [hp, M1, M2, M3, F1, F2, U1, U2, U3, Option.bind_some, Bag.at, Bag.put]
  have r1 : ∀ x : Int, 0 ≤ x % many := fun x => Int.emod_nonneg _ (by omega)
  have r2 : ∀ x : Int, x % many < many := fun x => Int.emod_lt_of_pos _ h0
  by_cases hlt : cur < 10 ^ 18 ∧ pos < (cells.length : Int)
  · obtain ⟨c, hix, hat⟩ := ix_nat a1 hlt.2
    have hcm := hc c (List.mem_of_getElem? hat)
    rw [if_pos (by simp only [Bool.and_eq_true, decide_eq_true_eq]; exact hlt), hix]
    simp only [Option.bind_some]
    by_cases hge : (10 : Int) ^ 18 ≤ c
    · rw [if_pos (decide_eq_true hge)]
      exact ⟨_, _, rfl, ⟨r1 _, r2 _⟩, rfl, rfl, ⟨by show 0 ≤ pos + 1; omega, d1 c hcm, n1 _, n2 _, by show 0 ≤ cnt + 1; omega⟩, hc⟩
    · rw [if_neg (by simpa using hge)]
      exact ⟨_, _, rfl, ⟨r1 _, r2 _⟩, rfl, rfl, ⟨by show 0 ≤ pos + 1; omega, hcm, n1 _, n2 _, by show 0 ≤ cnt + 1; omega⟩, hc⟩
  · rw [if_neg (by simp only [Bool.and_eq_true, decide_eq_true_eq]; exact hlt)]
    simp only [Option.bind_some]
    by_cases hge : (10 : Int) ^ 18 ≤ cur
    · rw [if_pos (decide_eq_true hge)]
      exact ⟨_, _, rfl, ⟨r1 _, r2 _⟩, rfl, rfl, ⟨a1, d1 cur a2, a4, a5, by show 0 ≤ cnt + 1; omega⟩, hc⟩
    · rw [if_neg (by simpa using hge)]
      exact ⟨_, _, rfl, ⟨r1 _, r2 _⟩, rfl, rfl, ⟨a1, a2, n1 _, n2 _, by show 0 ≤ cnt + 1; omega⟩, hc⟩
abbrev sm_law_draw (x : Int) : W Int := wdraw x
abbrev sp_law_draw (K : PySem.W.Frag) : Sp := spW (fun x : Int => [isBag K, D K (eI x)]) sm_law_draw (fun r => D K (eI r))
theorem ok_law_draw {P : Program} {w : World} {K : PySem.W.Frag} {mg : Str → Option Value} {base : Heap} (T : Txt K mg) : Fok P w K mg base 1 "_law_draw" ["bag", "many"] (sp_law_draw K) := by
  have h := ok_draw0 (P := P) (w := w) (base := base) T
  refine ⟨h.g, h.kp, ?_⟩
  obtain ⟨fd, hb, F⟩ := h.ok
  refine ⟨fd, hb, F.imp fun vs H Q E hs => ?_⟩
  obtain ⟨G, x, post, f, rs, ⟨⟨h0, h1⟩, hp⟩, q⟩ := hs
  obtain ⟨v, u, rfl, rv, ru⟩ := rs.two
  obtain ⟨b, c, ns, bg, rfl, hG, hok, hns, f', hl, ho, hH, hcz⟩ := bag_open f rv
  have hcb : c ≠ b := fun z => by
    have h1 := hcz.at' f
    rw [z, hH] at h1
    cases ns with
    | nil => cases h1
    | cons n ns => cases h1
  obtain ⟨r, B', e1, e2, e3, ecv, e4, e5⟩ := draw0_ok (B := ⟨.ref c, ns, bg.pos, bg.cur, bg.mix, bg.cnt⟩) ⟨hok, hns⟩ h0 h1
  refine ⟨less G b, b, ⟨.ref c, ns, bg.pos, bg.cur, bg.mix, bg.cnt⟩, x, [u], r, B', rfl, f', hl, ho, .cons ?_ .nil, e1, fun v G' H' g ⟨o, hob, ob⟩ rv' => ?_⟩
  · have eu := Dg.int_inv ru
    subst eu
    exact .int _
  · obtain ⟨rfl, hvc⟩ := ob
    have evr := Dg.int_inv rv'
    subst evr
    exact q _ _ _ r (Gr.back hG g hH hob ⟨⟨B'.pos, B'.cur, B'.mix, B'.cnt⟩, e4, by rw [ecv]⟩) (hp r e2.1 e2.2) (.int r)
end K0
set_option Elab.async false
set_option linter.all false
set_option maxRecDepth 100000
set_option maxHeartbeats 4000000
namespace K0
open PySem PySem.Spec PyProof.Rows L2 Fz

def m_law_shuffle (v_things : (List (List Tx))) (post : (List (List Tx)) → Prop) : Prop :=
  (wopt (Fm.range ((v_things).length : Int)) fun t5 => (wfor (fun (st7 : (List (List Tx)) × (List (List Tx))) (x8 : Int) (k13 : ((List (List Tx)) × (List (List Tx))) → Prop) (kb14 : ((List (List Tx)) × (List (List Tx))) → Prop) => (sm_law_draw ((st7.2).length : Int)) fun (n16 : Int) => wpop (Fm.popAt st7.2 n16) fun r17 us19 => wopt (Fm.app st7.1 r17) fun zs18 => k13 (zs18, us19)) (([] : List (List Tx)), v_things) t5 fun (st21 : (List (List Tx)) × (List (List Tx))) => post st21.1))
abbrev sm_law_shuffle (x : (List (List Tx))) : W (List (List Tx)) := m_law_shuffle x
abbrev sp_law_shuffle (K : PySem.W.Frag) : Sp := spWL K (fun x : (List (List Tx)) => [isBag K, D K ((eL (eT eS)) x)]) sm_law_shuffle (eT eS)
theorem sc_law_shuffle : FnScope ["bag", "things", "left", "out", "turn"] ["bag", "things"] (defScope s_law_shuffle) := ⟨rfl, rfl, rfl, by decide +kernel, rfl, by decide +kernel, by decide +kernel⟩
theorem ok_law_shuffle {P : Program} {w : World} {K : PySem.W.Frag} {mg : Str → Option Value} {base : Heap} (T : Txt K mg) (h_law_draw : Fok P w K mg base 1 "_law_draw" ["bag", "many"] (sp_law_draw K)) : Fok P w K mg base 2 "_law_shuffle" ["bag", "things"] (sp_law_shuffle K) := by
  refine Fok.mk' T.g_law_shuffle T.d_law_shuffle (fun _ _ _ _ _ _ us hl => match us, hl with | [_, _], _ => rfl) sc_law_shuffle (fun vs H Q E h => spWL_len h) (fun cdv A outer s H vs Q E hr h => ⟨_, by
      exact (pss_cons (ps_set (i := 2) sc_law_shuffle.nd (by rfl) (Or.inl rfl) (pe_callTy (call_list_ofK (K := K)) (by rfl) T.n_list boot_list (pa_cons (pv 1) pa_nil))) (pss_cons (ps_set (i := 3) sc_law_shuffle.nd (by rfl) (Or.inl rfl) (pe_lst pa_nil)) (pss_cons (ps_for PassesOwn.never (by rfl) (pi_range1 (by rfl) T.n_range (pa_cons (pe_callB (call_len_seqK (K := K)) (by rfl) T.n_len PySem.boot_len (pa_cons (pv 1) pa_nil)) pa_nil)) (pg_name (i := 4) sc_law_shuffle.nd (by rfl) (Or.inl rfl)) (pss_one (ps_expr (pe_bm PySem.F.plainAttrs_list PySem.F.slot_list_append PySem.F.type_list_append mt_append (pv 3) (pa_cons (pe_bm PySem.F.plainAttrs_list PySem.F.slot_list_pop PySem.F.type_list_pop mt_popAt (pv 2) (pa_cons (pe_callF h_law_draw (hr.mono (by decide)) (pa_cons (pv 0) (pa_cons (pe_callB (call_len_seqK (K := K)) (by rfl) T.n_len PySem.boot_len (pa_cons (pv 2) pa_nil)) pa_nil))) pa_nil)) pa_nil))))) (pss_one (ps_ret (pv 3)))))), ?_⟩)
  refine spWL_go h fun G v_things post hm s0 kret => ?_
  have hm : m_law_shuffle v_things post := hm
  unfold m_law_shuffle at hm
  refine st_ownT (K := K) (e := (eT eS)) (xs := v_things) s0 (en_listL (EV.lv (s0.var 1))) (fun p2 _ _ _ hpp2 s1 => ?_)
  refine nx_go ?_
  refine st_ownT (K := K) (e := (eT eS)) (xs := ([] : List (List Tx))) s1 (en_lst (ds := (([] : (List (List Tx))).map (eT eS))) ea_nil) (fun p4 _ _ _ hpp4 s3 => ?_)
  refine nx_go ?_
  obtain ⟨t5, h6, hm⟩ := wopt_out hm
  refine st_forW (s0 := (([] : List (List Tx)), v_things)) (fun (st7 : (List (List Tx)) × (List (List Tx))) => [some (isBag K), some (D K ((eL (eT eS)) v_things)), some (isV (.ref p2)), some (isV (.ref p4)), none]) (fun (st7 : (List (List Tx)) × (List (List Tx))) => [(p4, Fz.ownL K ((st7.1).map (eT eS))), (p2, Fz.ownL K ((st7.2).map (eT eS)))]) hm (s3.fle (.keep (.keep (.keep (.keep (.skip .nil)))))) (es_range (ev_lenLm (e := (eT eS)) (EV.lv (s3.var 1))) h6) (fun _ st7 x8 _ _ _ _ _ _ hm s9 _ hN11 hB12 => ?_) (fun st21 _ _ _ hm s20 => ?_)
  · refine st_bind s9 fun _ _ s10 => ?_
    refine st_appPop (K := K) (e := (eT eS)) s10 3 0 2 1 (em_call (m := sm_law_draw) (x := ((st7.2).length : Int)) (e := (fun a => D K (eI a))) (ea_cons (s10.var 0) (ea_cons (ev_lenLm (e := (eT eS)) (s10.ownL 2 1)) ea_nil))) hm (fun zs18 us19 _ _ hm s15 => ?_)
    exact hN11 (zs18, us19) _ _ _ hm (s15.fle (.keep (.keep (.keep (.keep (.skip .nil))))))
  · refine nx_go ?_
    exact st_retO (ds := (st21.1).map (eT eS)) s20 3 0 fun us g n hn h z r => kret st21.1 _ us _ _ hm g n hn h z r
def m_law_pick (v_things : (List (List Tx))) (post : (List Tx) → Prop) : Prop :=
  (wbind2 (wret v_things) (sm_law_draw ((v_things).length : Int)) fun (a1 : (List (List Tx))) (b2 : Int) => (wbind (wopt (Fm.ix a1 b2)) fun t7 => wret t7)) post
abbrev sm_law_pick (x : (List (List Tx))) : W (List Tx) := m_law_pick x
abbrev sp_law_pick (K : PySem.W.Frag) : Sp := spW (fun x : (List (List Tx)) => [isBag K, D K ((eL (eT eS)) x)]) sm_law_pick (fun r => D K ((eT eS) r))
theorem sc_law_pick : FnScope ["bag", "things"] ["bag", "things"] (defScope s_law_pick) := ⟨rfl, rfl, rfl, by decide +kernel, rfl, by decide +kernel, by decide +kernel⟩
theorem ok_law_pick {P : Program} {w : World} {K : PySem.W.Frag} {mg : Str → Option Value} {base : Heap} (T : Txt K mg) (h_law_draw : Fok P w K mg base 1 "_law_draw" ["bag", "many"] (sp_law_draw K)) : Fok P w K mg base 2 "_law_pick" ["bag", "things"] (sp_law_pick K) := by
  refine Fok.mk' T.g_law_pick T.d_law_pick (fun _ _ _ _ _ _ us hl => match us, hl with | [_, _], _ => rfl) sc_law_pick (fun vs H Q E h => spW_len h) (fun cdv A outer s H vs Q E hr h => ⟨_, by
      exact (pss_one (ps_ret (pe_ix (ix_listK (K := K)) (pv 1) (pe_callF h_law_draw (hr.mono (by decide)) (pa_cons (pv 0) (pa_cons (pe_callB (call_len_seqK (K := K)) (by rfl) T.n_len PySem.boot_len (pa_cons (pv 1) pa_nil)) pa_nil))) (fun _ _ => rfl)))), ?_⟩)
  refine spW_go h fun G v_things post hm s0 kret => ?_
  have hm : m_law_pick v_things post := hm
  unfold m_law_pick at hm
  exact st_retW (e := (fun a => D K ((eT eS) a))) (k0 := post) s0 (em_op (ec := (fun a => D K ((eT eS) a))) (em_ev (a := v_things) (e := (fun a => D K ((eL (eT eS)) a))) (s0.var 1)) (em_call (m := sm_law_draw) (x := ((v_things).length : Int)) (e := (fun a => D K (eI a))) (ea_cons (s0.var 0) (ea_cons (ev_lenLm (e := (eT eS)) (EV.lv (s0.var 1))) ea_nil))) fun a1 b2 u3 v4 _ _ _ ru5 rv6 => (em_bnd fun t7 h8 => (em_ev (a := t7) (e := (fun a => D K ((eT eS) a))) (ev_ixL (e := (eT eS)) (EV.lv (ev_c (R := D K ((eL (eT eS)) a1)) ru5)) (ev_c (R := D K (eI b2)) rv6) h8)))) hm fun a _ _ _ hp s9 rv => kret a _ _ _ _ _ _ _ hp s9 rv
def m_law_name (v_taken : (List Tx)) (post : Tx → Prop) : Prop :=
  (wbind2 (wret ([101, 116, 97, 111, 105, 110, 115, 104, 114, 100, 108, 117, 99, 109, 102, 119, 121, 112, 118, 98, 103, 107, 113, 106, 120, 122, 48, 49, 50, 51, 52, 53, 54, 55, 56, 57] : Tx)) (sm_law_draw (26 : Int)) fun (a2 : Tx) (b3 : Int) => (wbind (wopt (Fm.ixS a2 b3)) fun t8 => wret t8)) fun (r11 : Tx) => (wbind2 (wret ([(0 : Int), (0 : Int), (1 : Int), (1 : Int), (2 : Int), (3 : Int), (6 : Int), (7 : Int)] : List Int)) (sm_law_draw (8 : Int)) fun (a12 : (List Int)) (b13 : Int) => (wbind (wopt (Fm.ix a12 b13)) fun t18 => wret t18)) fun n => wopt (Fm.range n) fun ns => wfor (fun (st20 : Tx) (x21 : Int) (k26 : (Tx) → Prop) (kb27 : (Tx) → Prop) => (wbind2 (wret st20) (wbind2 (wret ([101, 116, 97, 111, 105, 110, 115, 104, 114, 100, 108, 117, 99, 109, 102, 119, 121, 112, 118, 98, 103, 107, 113, 106, 120, 122, 48, 49, 50, 51, 52, 53, 54, 55, 56, 57] : Tx)) (sm_law_draw (36 : Int)) fun (a28 : Tx) (b29 : Int) => (wbind (wopt (Fm.ixS a28 b29)) fun t34 => wret t34)) fun (a36 : Tx) (b37 : Tx) => (wbind (wopt (Fm.catS a36 b37)) fun t42 => wret t42)) fun (r45 : Tx) => k26 r45) r11 ns fun (st47 : Tx) => (wopt ((if (mem st47 v_taken) = true then some true else (Option.bind (Fm.split ([98, 111, 111, 107, 32, 98, 111, 97, 114, 100, 32, 107, 105, 110, 100, 115, 32, 114, 117, 108, 101, 32, 112, 108, 97, 99, 101, 115, 32, 100, 101, 109, 97, 110, 100, 32, 119, 105, 115, 104, 32, 100, 111, 110, 101, 32, 115, 116, 114, 105, 107, 101, 32, 115, 116, 114, 105, 107, 101, 115, 32, 99, 104, 97, 110, 103, 101, 32, 99, 104, 97, 110, 103, 101, 115, 32, 109, 105, 120, 32, 103, 105, 118, 101, 115, 32, 108, 101, 97, 100, 115, 32, 116, 114, 101, 101, 32, 97, 115, 32, 110, 111, 110, 101] : Tx) ([32] : Tx)) fun t49 => some (mem st47 t49)))) fun t51 => (wif t51 ((wopt (Fm.range (((v_taken).length : Int) + (1 : Int))) fun t57 => (wopt (comp (fun (x59 : Int) => (Option.bind (Fm.strI x59) fun t60 => Option.bind (Fm.catS ([110] : Tx) t60) fun t62 => some (some t62))) t57) fun t64 => (wopt (comp (fun (x72 : Tx) => ((if (!mem x72 v_taken) = true then (some (some x72)) else some none))) t64) fun t73 => (wopt (Fm.ix t73 (0 : Int)) fun t75 => post t75))))) (post st47)))
abbrev sm_law_name (x : (List Tx)) : W Tx := m_law_name x
abbrev sp_law_name (K : PySem.W.Frag) : Sp := spW (fun x : (List Tx) => [isBag K, D K ((eL eS) x)]) sm_law_name (fun r => D K (eS r))
theorem sc_law_name : FnScope ["bag", "taken", "signs", "word", "turn", "barred", "spare", "k", "one"] ["bag", "taken"] (defScope s_law_name) := ⟨rfl, rfl, rfl, by decide +kernel, rfl, by decide +kernel, by decide +kernel⟩
theorem ok_law_name {P : Program} {w : World} {K : PySem.W.Frag} {mg : Str → Option Value} {base : Heap} (T : Txt K mg) (h_law_draw : Fok P w K mg base 1 "_law_draw" ["bag", "many"] (sp_law_draw K)) : Fok P w K mg base 2 "_law_name" ["bag", "taken"] (sp_law_name K) := by
  refine Fok.mk' T.g_law_name T.d_law_name (fun _ _ _ _ _ _ us hl => match us, hl with | [_, _], _ => rfl) sc_law_name (fun vs H Q E h => spW_len h) (fun cdv A outer s H vs Q E hr h => ⟨_, by
      exact (pss_cons (ps_set (i := 2) sc_law_name.nd (by rfl) (Or.inl rfl) pe_str) (pss_cons (ps_set (i := 3) sc_law_name.nd (by rfl) (Or.inl rfl) (pe_ix ix_str (pv 2) (pe_callF h_law_draw (hr.mono (by decide)) (pa_cons (pv 0) (pa_cons pe_int pa_nil))) (fun _ _ => rfl))) (pss_cons (ps_for PassesOwn.never (by rfl) (pi_range1 (by rfl) T.n_range (pa_cons (pe_ix (ix_listK (K := K)) (pe_lst (pa_cons pe_int (pa_cons pe_int (pa_cons pe_int (pa_cons pe_int (pa_cons pe_int (pa_cons pe_int (pa_cons pe_int (pa_cons pe_int pa_nil))))))))) (pe_callF h_law_draw (hr.mono (by decide)) (pa_cons (pv 0) (pa_cons pe_int pa_nil))) (fun _ _ => rfl)) pa_nil)) (pg_name (i := 4) sc_law_name.nd (by rfl) (Or.inl rfl)) (pss_one (ps_set (i := 3) sc_law_name.nd (by rfl) (Or.inl rfl) (pe_op op_add_str (pv 3) (pe_ix ix_str (pv 2) (pe_callF h_law_draw (hr.mono (by decide)) (pa_cons (pv 0) (pa_cons pe_int pa_nil))) (fun _ _ => rfl)))))) (pss_cons (ps_set (i := 5) sc_law_name.nd (by rfl) (Or.inl rfl) pe_str) (pss_cons (ps_if (PW.pt (pw_or (pt_cmpR (op_inPK (K := K) hr.units) (pv 3) (pv 1) (by rfl)) (pw_or1 (pt_cmpR (op_inPK (K := K) hr.units) (pv 3) (pe_split (pv 5) pe_str) (by rfl))))) (pss_cons (ps_setLc (i := 6) (own := [("k", 7)]) (by rfl) sc_law_name.nd (by rfl) (by rfl) (sw_true (by rfl) (by rfl) (by rfl) (by decide +kernel)) (pi_range1 (by rfl) T.n_range (pa_cons (pe_op op_add (pe_callB (call_len_seqK (K := K)) (by rfl) T.n_len PySem.boot_len (pa_cons (pv 1) pa_nil)) pe_int) pa_nil)) (blkOk_by (N := ["bag", "taken", "signs", "word", "turn", "barred", "spare", "k", "one"]) (sc := defScope s_law_name) (by decide +kernel)) (fun _ _ _ _ _ => (pg_name (i := 7) sc_law_name.nd (by rfl) (Or.inl rfl))) (fun _ _ _ _ _ => pts_nil) (fun _ _ _ _ _ => (pe_op op_add_str pe_str (pe_callTy call_str_int (by rfl) T.n_str boot_str (pa_cons (pv 7) pa_nil))))) (pss_one (ps_ret (pe_ix (ix_listK (K := K)) (pe_lc (own := [("one", 8)]) (by rfl) sc_law_name.nd (pi_listK (K := K) (pv 6)) (blkOk_by (N := ["bag", "taken", "signs", "word", "turn", "barred", "spare", "k", "one"]) (sc := defScope s_law_name) (by decide +kernel)) (fun _ _ _ _ _ => (pg_name (i := 8) sc_law_name.nd (by rfl) (Or.inl rfl))) (fun _ _ _ _ _ => (pts_one (pt_cmpR (op_niPK (K := K) hr.units) (pv 8) (pv 1) (by rfl)))) (fun _ _ _ _ _ => (pv 8))) pe_int (fun _ _ => rfl))))) pss_nil) (pss_one (ps_ret (pv 3)))))))), ?_⟩)
  refine spW_go h fun G v_taken post hm s0 kret => ?_
  have hm : m_law_name v_taken post := hm
  unfold m_law_name at hm
  refine st_set (R := D K (eS ([101, 116, 97, 111, 105, 110, 115, 104, 114, 100, 108, 117, 99, 109, 102, 119, 121, 112, 118, 98, 103, 107, 113, 106, 120, 122, 48, 49, 50, 51, 52, 53, 54, 55, 56, 57] : Tx))) s0 (ev_strC [101, 116, 97, 111, 105, 110, 115, 104, 114, 100, 108, 117, 99, 109, 102, 119, 121, 112, 118, 98, 103, 107, 113, 106, 120, 122, 48, 49, 50, 51, 52, 53, 54, 55, 56, 57]) (fun _ _ _ s1 => ?_)
  refine nx_go ?_
  refine st_setW (e := (fun a => D K (eS a))) s1 (em_op (ec := (fun a => D K (eS a))) (em_ev (a := ([101, 116, 97, 111, 105, 110, 115, 104, 114, 100, 108, 117, 99, 109, 102, 119, 121, 112, 118, 98, 103, 107, 113, 106, 120, 122, 48, 49, 50, 51, 52, 53, 54, 55, 56, 57] : Tx)) (e := (fun a => D K (eS a))) (s1.var 2)) (em_call (m := sm_law_draw) (x := (26 : Int)) (e := (fun a => D K (eI a))) (ea_cons (s1.var 0) (ea_cons ev_int ea_nil))) fun a2 b3 u4 v5 _ _ _ ru6 rv7 => (em_bnd fun t8 h9 => (em_ev (a := t8) (e := (fun a => D K (eS a))) (ev_ixS (ev_c (R := D K (eS a2)) ru6) (ev_c (R := D K (eI b3)) rv7) h9)))) hm (fun r11 _ _ _ hm s10 => ?_)
  refine nx_go ?_
  refine st_forRW (s0 := r11) (fun (st20 : Tx) => [some (isBag K), some (D K ((eL eS) v_taken)), some (D K (eS ([101, 116, 97, 111, 105, 110, 115, 104, 114, 100, 108, 117, 99, 109, 102, 119, 121, 112, 118, 98, 103, 107, 113, 106, 120, 122, 48, 49, 50, 51, 52, 53, 54, 55, 56, 57] : Tx))), some (D K (eS st20)), none, none, none, none, none]) (fun (st20 : Tx) => []) hm (s10.fle (.keep (.keep (.keep (.keep (.skip (.skip (.skip (.skip (.skip .nil)))))))))) (em_op (ec := (fun a => D K (eI a))) (em_ev (a := ([(0 : Int), (0 : Int), (1 : Int), (1 : Int), (2 : Int), (3 : Int), (6 : Int), (7 : Int)] : List Int)) (e := (fun a => D K ((eL eI) a))) (ev_lst (ds := [eI (0 : Int), eI (0 : Int), eI (1 : Int), eI (1 : Int), eI (2 : Int), eI (3 : Int), eI (6 : Int), eI (7 : Int)]) (ea_cons ev_int (ea_cons ev_int (ea_cons ev_int (ea_cons ev_int (ea_cons ev_int (ea_cons ev_int (ea_cons ev_int (ea_cons ev_int ea_nil)))))))))) (em_call (m := sm_law_draw) (x := (8 : Int)) (e := (fun a => D K (eI a))) (ea_cons (s10.var 0) (ea_cons ev_int ea_nil))) fun a12 b13 u14 v15 _ _ _ ru16 rv17 => (em_bnd fun t18 h19 => (em_ev (a := t18) (e := (fun a => D K (eI a))) (ev_ixL (e := eI) (EV.lv (ev_c (R := D K ((eL eI) a12)) ru16)) (ev_c (R := D K (eI b13)) rv17) h19)))) (fun _ _ st20 x21 _ _ _ _ _ _ hm s22 _ hN24 hB25 => ?_) (fun st47 _ _ _ hm s46 => ?_)
  · refine st_bind s22 fun _ _ s23 => ?_
    refine st_setW (e := (fun a => D K (eS a))) s23 (em_op (ec := (fun a => D K (eS a))) (em_ev (a := st20) (e := (fun a => D K (eS a))) (s23.var 3)) (em_op (ec := (fun a => D K (eS a))) (em_ev (a := ([101, 116, 97, 111, 105, 110, 115, 104, 114, 100, 108, 117, 99, 109, 102, 119, 121, 112, 118, 98, 103, 107, 113, 106, 120, 122, 48, 49, 50, 51, 52, 53, 54, 55, 56, 57] : Tx)) (e := (fun a => D K (eS a))) (s23.var 2)) (em_call (m := sm_law_draw) (x := (36 : Int)) (e := (fun a => D K (eI a))) (ea_cons (s23.var 0) (ea_cons ev_int ea_nil))) fun a28 b29 u30 v31 _ _ _ ru32 rv33 => (em_bnd fun t34 h35 => (em_ev (a := t34) (e := (fun a => D K (eS a))) (ev_ixS (ev_c (R := D K (eS a28)) ru32) (ev_c (R := D K (eI b29)) rv33) h35)))) fun a36 b37 u38 v39 _ _ _ ru40 rv41 => (em_bnd fun t42 h43 => (em_ev (a := t42) (e := (fun a => D K (eS a))) (ev_catS (ev_c (R := D K (eS a36)) ru40) (ev_c (R := D K (eS b37)) rv41) h43)))) hm (fun r45 _ _ _ hm s44 => ?_)
    exact hN24 r45 _ _ _ hm (s44.fle (.keep (.keep (.keep (.keep (.skip (.skip (.skip (.skip (.skip .nil))))))))))
  · refine nx_go ?_
    refine st_set (R := D K (eS ([98, 111, 111, 107, 32, 98, 111, 97, 114, 100, 32, 107, 105, 110, 100, 115, 32, 114, 117, 108, 101, 32, 112, 108, 97, 99, 101, 115, 32, 100, 101, 109, 97, 110, 100, 32, 119, 105, 115, 104, 32, 100, 111, 110, 101, 32, 115, 116, 114, 105, 107, 101, 32, 115, 116, 114, 105, 107, 101, 115, 32, 99, 104, 97, 110, 103, 101, 32, 99, 104, 97, 110, 103, 101, 115, 32, 109, 105, 120, 32, 103, 105, 118, 101, 115, 32, 108, 101, 97, 100, 115, 32, 116, 114, 101, 101, 32, 97, 115, 32, 110, 111, 110, 101] : Tx))) s46 (ev_strC [98, 111, 111, 107, 32, 98, 111, 97, 114, 100, 32, 107, 105, 110, 100, 115, 32, 114, 117, 108, 101, 32, 112, 108, 97, 99, 101, 115, 32, 100, 101, 109, 97, 110, 100, 32, 119, 105, 115, 104, 32, 100, 111, 110, 101, 32, 115, 116, 114, 105, 107, 101, 32, 115, 116, 114, 105, 107, 101, 115, 32, 99, 104, 97, 110, 103, 101, 32, 99, 104, 97, 110, 103, 101, 115, 32, 109, 105, 120, 32, 103, 105, 118, 101, 115, 32, 108, 101, 97, 100, 115, 32, 116, 114, 101, 101, 32, 97, 115, 32, 110, 111, 110, 101]) (fun _ _ _ s48 => ?_)
    refine nx_go ?_
    obtain ⟨t51, h52, hm⟩ := wopt_out hm
    refine st_if s48 (et_or (et_test (ev_inL (e := eS) (s48.var 3) (EV.lv (s48.var 1)))) (fun hb53 => by
          have hk := oif_f h52 hb53
          obtain ⟨t49, h50, hk⟩ := bnd' hk
          exact ET.to (et_test (ev_inL (e := eS) (s48.var 3) (EV.lv (EN.ev (en_split (s48.var 5) (ev_strC [32]) h50))))) (Option.some.inj hk)) (fun hb53 => (Option.some.inj (oif_t h52 hb53)).symm)) (fun hb54 _ _ s55 => ?_) (fun hb54 _ _ s56 => ?_)
    · replace hm := wif_t hm hb54
      obtain ⟨t57, h58, hm⟩ := wopt_out hm
      obtain ⟨t64, h65, hm⟩ := wopt_out hm
      refine st_set (R := D K ((eL eS) t64)) s55 (EN.ev (en_lc (e' := eS) (vs := [7]) s55 (ES.o (es_range (ev_add (ev_lenLm (e := eS) (EV.lv (s55.var 1))) ev_int) h58)) h65 (fun _ x59 o67 _ ho68 _ _ _ _ s701 _ k69 => by
            refine st_bind s701 fun _ hw71 s70 => ?_
            have hk := ho68
            obtain ⟨t60, h61, hk⟩ := bnd' hk
            obtain ⟨t62, h63, hk⟩ := bnd' hk
            obtain rfl := Option.some.inj hk
            exact k69 _ (hw71 _ (by decide)) et_yes (fun y hy => by cases hy; exact (ev_catS (ev_strC [110]) (ev_strI (s70.var 7) h61) h63))))) (fun _ _ _ s66 => ?_)
      refine nx_go ?_
      obtain ⟨t73, h74, hm⟩ := wopt_out hm
      obtain ⟨t75, h76, hm⟩ := wopt_out hm
      exact st_ret (R := D K (eS t75)) s66 (ev_ixL (e := eS) (EV.lv (EN.ev (en_lc (e' := eS) (vs := [8]) s66 (eso_list (e := eS) (EV.lv (s66.var 6))) h74 (fun _ x72 o78 _ ho79 _ _ _ _ s811 _ k80 => by
            refine st_bind s811 fun _ hw82 s81 => ?_
            have hk := ho79
            cases hb83 : (!mem x72 v_taken) with
            | true =>
              replace hk := oif_t hk hb83
              obtain rfl := Option.some.inj hk
              exact k80 _ (hw82 _ (by decide)) (ET.to (et_test (ev_niL (e := eS) (s81.var 8) (EV.lv (s81.var 1)))) hb83) (fun y hy => by cases hy; exact (s81.var 8))
            | false =>
              replace hk := oif_f hk hb83
              obtain rfl := Option.some.inj hk
              exact k80 _ (hw82 _ (by decide)) (ET.to (et_test (ev_niL (e := eS) (s81.var 8) (EV.lv (s81.var 1)))) hb83) (fun y hy => nomatch hy))))) ev_int h76) fun _ _ _ s77 rv => kret t75 _ _ _ _ _ _ _ hm s77 rv
    · replace hm := wif_f hm hb54
      refine st_nil (nx_go ?_)
      exact st_ret (R := D K (eS st47)) s56 (s56.var 3) fun _ _ _ s84 rv => kret st47 _ _ _ _ _ _ _ hm s84 rv
def m_law_names (v_many : Int) (v_taken : (List Tx)) (post : (List Tx) → Prop) : Prop :=
  (wopt (Fm.range v_many) fun t3 => (wfor (fun (st5 : (List Tx)) (x6 : Int) (k11 : ((List Tx)) → Prop) (kb12 : ((List Tx)) → Prop) => (wbind (wopt (Fm.catL v_taken st5)) fun t13 => (sm_law_name t13)) fun (a16 : Tx) => wopt (Fm.app st5 a16) fun r17 => k11 r17) ([] : List Tx) t3 fun (st19 : (List Tx)) => post st19))
abbrev sm_law_names (x : Int × (List Tx)) : W (List Tx) := m_law_names x.1 x.2
abbrev sp_law_names (K : PySem.W.Frag) : Sp := spWL K (fun x : Int × (List Tx) => [isBag K, D K (eI x.1), D K ((eL eS) x.2)]) sm_law_names eS
theorem sc_law_names : FnScope ["bag", "many", "taken", "out", "turn"] ["bag", "many", "taken"] (defScope s_law_names) := ⟨rfl, rfl, rfl, by decide +kernel, rfl, by decide +kernel, by decide +kernel⟩
theorem ok_law_names {P : Program} {w : World} {K : PySem.W.Frag} {mg : Str → Option Value} {base : Heap} (T : Txt K mg) (h_law_name : Fok P w K mg base 2 "_law_name" ["bag", "taken"] (sp_law_name K)) : Fok P w K mg base 3 "_law_names" ["bag", "many", "taken"] (sp_law_names K) := by
  refine Fok.mk' T.g_law_names T.d_law_names (fun _ _ _ _ _ _ us hl => match us, hl with | [_, _, _], _ => rfl) sc_law_names (fun vs H Q E h => spWL_len h) (fun cdv A outer s H vs Q E hr h => ⟨_, by
      exact (pss_cons (ps_set (i := 3) sc_law_names.nd (by rfl) (Or.inl rfl) (pe_lst pa_nil)) (pss_cons (ps_for PassesOwn.never (by rfl) (pi_range1 (by rfl) T.n_range (pa_cons (pv 1) pa_nil)) (pg_name (i := 4) sc_law_names.nd (by rfl) (Or.inl rfl)) (pss_one (ps_expr (pe_bm PySem.F.plainAttrs_list PySem.F.slot_list_append PySem.F.type_list_append mt_append (pv 3) (pa_cons (pe_callF h_law_name (hr.mono (by decide)) (pa_cons (pv 0) (pa_cons (pe_op op_cat (pv 2) (pv 3)) pa_nil))) pa_nil))))) (pss_one (ps_ret (pv 3))))), ?_⟩)
  refine spWL_go h fun G x post hm s0 kret => ?_
  obtain ⟨v_many, v_taken⟩ := x
  have hm : m_law_names v_many v_taken post := hm
  unfold m_law_names at hm
  refine st_ownT (K := K) (e := eS) (xs := ([] : List Tx)) s0 (en_lst (ds := (([] : (List Tx)).map eS)) ea_nil) (fun p2 _ _ _ hpp2 s1 => ?_)
  refine nx_go ?_
  obtain ⟨t3, h4, hm⟩ := wopt_out hm
  refine st_forW (s0 := ([] : List Tx)) (fun (st5 : (List Tx)) => [some (isBag K), some (D K (eI v_many)), some (D K ((eL eS) v_taken)), some (isV (.ref p2)), none]) (fun (st5 : (List Tx)) => [(p2, Fz.ownL K ((st5).map eS))]) hm (s1.fle (.keep (.keep (.keep (.keep (.skip .nil)))))) (es_range (s1.var 1) h4) (fun _ st5 x6 _ _ _ _ _ _ hm s7 _ hN9 hB10 => ?_) (fun st19 _ _ _ hm s18 => ?_)
  · refine st_bind s7 fun _ _ s8 => ?_
    refine st_appendWT (en := eS) s8 3 0 (em_bnd fun t13 h14 => (em_call (m := sm_law_name) (x := t13) (e := (fun a => D K (eS a))) (ea_cons (s8.var 0) (ea_cons (ev_catL (e := eS) (EV.lv (s8.var 2)) (s8.ownL 3 0) h14) ea_nil)))) hm (fun r17 _ _ hm s15 => ?_)
    exact hN9 r17 _ _ _ hm (s15.fle (.keep (.keep (.keep (.keep (.skip .nil))))))
  · refine nx_go ?_
    exact st_retO (ds := (st19).map eS) s18 3 0 fun us g n hn h z r => kret st19 _ us _ _ hm g n hn h z r
def m_law_wide (post : ((List Tx) × (List (Tx × Int × (List (List Tx))))) → Prop) : Prop :=
  (wbind2 (wret ([(2 : Int), (3 : Int), (4 : Int), (2 : Int), (3 : Int), (5 : Int), (6 : Int)] : List Int)) (sm_law_draw (7 : Int)) fun (a1 : (List Int)) (b2 : Int) => (wbind (wopt (Fm.ix a1 b2)) fun t7 => wret t7)) fun (r10 : Int) => (sm_law_names (r10, ([] : List Tx))) fun (r12 : (List Tx)) => (wbind (wpair (wbind2 (wret ([(1 : Int), (2 : Int), (1 : Int), (3 : Int), (2 : Int), (0 : Int), (4 : Int), (2 : Int), (8 : Int)] : List Int)) (sm_law_draw (9 : Int)) fun (a13 : (List Int)) (b14 : Int) => (wbind (wopt (Fm.ix a13 b14)) fun t19 => wret t19)) (wret ([] : List Tx))) sm_law_names) fun (r22 : (List Tx)) => (wjoin (fun (kj35 : ((List Tx)) → Prop) => (wand (wret (!decide (r22 = ([] : List Tx)))) (wand (wbind2 (sm_law_draw (5 : Int)) (wret (0 : Int)) fun (a24 : Int) (b25 : Int) => (wret (decide (a24 = b25)))) (wbind (wopt (Fm.ix r12 (0 : Int))) fun t30 => wret (!mem t30 r22)))) fun b171 => wif b171 ((wopt (Fm.ix r12 (0 : Int)) fun t39 => (wopt (Fm.setI r22 (-(1 : Int)) t39) fun t41 => kj35 t41))) (kj35 r22)) fun (st32 : (List Tx)) => (wfor (fun (st50 : (List (Tx × Int × (List (List Tx))))) (x51 : Tx) (k56 : ((List (Tx × Int × (List (List Tx))))) → Prop) (kb57 : ((List (Tx × Int × (List (List Tx))))) → Prop) => (wbind2 (wret (1 : Int)) (wbind (wopt (Fm.ix ([(4 : Int), (4 : Int), (4 : Int), (4 : Int), (3 : Int), (2 : Int), (2 : Int)] : List Int) r10)) fun t58 => (sm_law_draw t58)) fun (a60 : Int) (b61 : Int) => (wret (a60 + b61))) fun (r67 : Int) => (wopt (m_law_rows r12 r67) fun t68 => (wbind2 (wret ([(10 : Int), (5 : Int), (3 : Int), (8 : Int), (0 : Int), (6 : Int)] : List Int)) (sm_law_draw (6 : Int)) fun (a71 : (List Int)) (b72 : Int) => (wbind (wopt (Fm.ix a71 b72)) fun t77 => wret t77)) fun (r80 : Int) => (wopt (Fm.range ((t68).length : Int)) fun t83 => (wfor (fun (st85 : (List (List Tx))) (x86 : Int) (k91 : ((List (List Tx))) → Prop) (kb92 : ((List (List Tx))) → Prop) => (wand (wret (decide (((t68).length : Int) ≤ (16 : Int)))) (wbind2 (sm_law_draw (10 : Int)) (wret r80) fun (a93 : Int) (b94 : Int) => (wret (decide (a93 < b94))))) fun b106 => wif b106 ((wopt (Fm.ix t68 x86) fun t101 => (wopt (Fm.app st85 t101) fun t103 => k91 t103))) (k91 st85)) ([] : List (List Tx)) t83 fun (st108 : (List (List Tx))) => (wjoin (fun (kj113 : ((List (List Tx))) → Prop) => wif (decide ((16 : Int) < ((t68).length : Int))) ((wbind (wbind (wopt (Fm.mul r80 (4 : Int))) fun t117 => (wbind (wopt (Fm.range (if (12 : Int) < t117 then (12 : Int) else t117))) fun t119 => (wcomp (fun x => wmap some ((fun (x121 : Int) => (sm_law_draw ((t68).length : Int))) x)) t119))) fun a122 => (wret (sortI a122))) fun (r126 : (List Int)) => (wopt (Fm.range ((t68).length : Int)) fun t130 => (wopt (comp (fun (x132 : Int) => ((if (mem x132 r126) = true then (Option.bind (Fm.ix t68 x132) fun t133 => some (some t133)) else some none))) t130) fun t135 => (wif (decide (r80 = (10 : Int))) ((wbind (wbind2 (wret t68) (sm_law_draw (9 : Int)) fun (a147 : (List (List Tx))) (b148 : Int) => (wret (Fm.cut a147 (some b148) none))) fun a153 => (wret (Fm.cut a153 none (some (60 : Int))))) fun (r157 : (List (List Tx))) => kj113 r157) (kj113 t135))))) (kj113 st108)) fun (st110 : (List (List Tx))) => (wopt (Fm.app st50 (x51, r67, st110)) fun t160 => k56 t160)))))) ([] : List (Tx × Int × (List (List Tx)))) st32 fun (st165 : (List (Tx × Int × (List (List Tx))))) => post (r12, st165)))
abbrev sm_law_wide (x : Unit) : W ((List Tx) × (List (Tx × Int × (List (List Tx))))) := m_law_wide 
abbrev sp_law_wide (K : PySem.W.Frag) : Sp := spW (fun x : Unit => [isBag K]) sm_law_wide (fun r => D K ((eH2 (eL eS) (eL (eP3 eS eI (eL (eT eS))))) r))
theorem sc_law_wide : FnScope ["bag", "many", "sorts", "words", "norms", "word", "wide", "every", "chance", "rows", "k", "seats"] ["bag"] (defScope s_law_wide) := ⟨rfl, rfl, rfl, by decide +kernel, rfl, by decide +kernel, by decide +kernel⟩
theorem ok_law_wide {P : Program} {w : World} {K : PySem.W.Frag} {mg : Str → Option Value} {base : Heap} (T : Txt K mg) (h_law_draw : Fok P w K mg base 1 "_law_draw" ["bag", "many"] (sp_law_draw K)) (h_law_names : Fok P w K mg base 3 "_law_names" ["bag", "many", "taken"] (sp_law_names K)) (h_law_rows : Fok P w K mg base 1 "_law_rows" ["sorts", "wide"] (sp_law_rows K)) : Fok P w K mg base 4 "_law_wide" ["bag"] (sp_law_wide K) := by
  refine Fok.mk' T.g_law_wide T.d_law_wide (fun _ _ _ _ _ _ us hl => match us, hl with | [_], _ => rfl) sc_law_wide (fun vs H Q E h => spW_len h) (fun cdv A outer s H vs Q E hr h => ⟨_, by
      exact (pss_cons (ps_set (i := 1) sc_law_wide.nd (by rfl) (Or.inl rfl) (pe_ix (ix_listK (K := K)) (pe_lst (pa_cons pe_int (pa_cons pe_int (pa_cons pe_int (pa_cons pe_int (pa_cons pe_int (pa_cons pe_int (pa_cons pe_int pa_nil)))))))) (pe_callF h_law_draw (hr.mono (by decide)) (pa_cons (pv 0) (pa_cons pe_int pa_nil))) (fun _ _ => rfl))) (pss_cons (ps_set (i := 2) sc_law_wide.nd (by rfl) (Or.inl rfl) (pe_callF h_law_names (hr.mono (by decide)) (pa_cons (pv 0) (pa_cons (pv 1) (pa_cons (pe_lst pa_nil) pa_nil))))) (pss_cons (ps_set (i := 3) sc_law_wide.nd (by rfl) (Or.inl rfl) (pe_callF h_law_names (hr.mono (by decide)) (pa_cons (pv 0) (pa_cons (pe_ix (ix_listK (K := K)) (pe_lst (pa_cons pe_int (pa_cons pe_int (pa_cons pe_int (pa_cons pe_int (pa_cons pe_int (pa_cons pe_int (pa_cons pe_int (pa_cons pe_int (pa_cons pe_int pa_nil)))))))))) (pe_callF h_law_draw (hr.mono (by decide)) (pa_cons (pv 0) (pa_cons pe_int pa_nil))) (fun _ _ => rfl)) (pa_cons (pe_lst pa_nil) pa_nil))))) (pss_cons (ps_if (PW.pt (pw_and (pt_cmpR (op_nePK (K := K) hr.units) (pv 3) (pe_lst pa_nil) (nomark _)) (pw_and (pt_cmpR op_eq (pe_callF h_law_draw (hr.mono (by decide)) (pa_cons (pv 0) (pa_cons pe_int pa_nil))) pe_int (nomark _)) (pw_and1 (pt_cmpR (op_niPK (K := K) hr.units) (pe_ix (ix_listK (K := K)) (pv 2) pe_int (fun _ _ => rfl)) (pv 3) (by rfl)))))) (pss_one (ps_asg (pe_ix (ix_listK (K := K)) (pv 2) pe_int (fun _ _ => rfl)) (pg_sub (pv 3) (pe_un un_neg pe_int) set_list))) pss_nil) (pss_cons (ps_set (i := 4) sc_law_wide.nd (by rfl) (Or.inl rfl) (pe_lst pa_nil)) (pss_cons (ps_for PassesOwn.never (by rfl) (pi_listK (K := K) (pv 3)) (pg_name (i := 5) sc_law_wide.nd (by rfl) (Or.inl rfl)) (pss_cons (ps_set (i := 6) sc_law_wide.nd (by rfl) (Or.inl rfl) (pe_op op_add pe_int (pe_callF h_law_draw (hr.mono (by decide)) (pa_cons (pv 0) (pa_cons (pe_ix (ix_listK (K := K)) (pe_lst (pa_cons pe_int (pa_cons pe_int (pa_cons pe_int (pa_cons pe_int (pa_cons pe_int (pa_cons pe_int (pa_cons pe_int pa_nil)))))))) (pv 1) (fun _ _ => rfl)) pa_nil))))) (pss_cons (ps_set (i := 7) sc_law_wide.nd (by rfl) (Or.inr rfl) (pe_callF h_law_rows (hr.mono (by decide)) (pa_cons (pv 2) (pa_cons (pv 6) pa_nil)))) (pss_cons (ps_set (i := 8) sc_law_wide.nd (by rfl) (Or.inl rfl) (pe_ix (ix_listK (K := K)) (pe_lst (pa_cons pe_int (pa_cons pe_int (pa_cons pe_int (pa_cons pe_int (pa_cons pe_int (pa_cons pe_int pa_nil))))))) (pe_callF h_law_draw (hr.mono (by decide)) (pa_cons (pv 0) (pa_cons pe_int pa_nil))) (fun _ _ => rfl))) (pss_cons (ps_set (i := 9) sc_law_wide.nd (by rfl) (Or.inl rfl) (pe_lst pa_nil)) (pss_cons (ps_for PassesOwn.never (by rfl) (pi_range1 (by rfl) T.n_range (pa_cons (pe_callB (call_len_seqK (K := K)) (by rfl) T.n_len PySem.boot_len (pa_cons (pv 7) pa_nil)) pa_nil)) (pg_name (i := 10) sc_law_wide.nd (by rfl) (Or.inl rfl)) (pss_one (ps_if (PW.pt (pw_and (pt_cmpR op_le (pe_callB (call_len_seqK (K := K)) (by rfl) T.n_len PySem.boot_len (pa_cons (pv 7) pa_nil)) pe_int (nomark _)) (pw_and1 (pt_cmpR op_lt (pe_callF h_law_draw (hr.mono (by decide)) (pa_cons (pv 0) (pa_cons pe_int pa_nil))) (pv 8) (nomark _))))) (pss_one (ps_expr (pe_bm PySem.F.plainAttrs_list PySem.F.slot_list_append PySem.F.type_list_append mt_append (pv 9) (pa_cons (pe_ix (ix_listK (K := K)) (pv 7) (pv 10) (fun _ _ => rfl)) pa_nil)))) pss_nil))) (pss_cons (ps_if (pt_cmpR op_gt (pe_callB (call_len_seqK (K := K)) (by rfl) T.n_len PySem.boot_len (pa_cons (pv 7) pa_nil)) pe_int (nomark _)) (pss_cons (ps_set (i := 11) sc_law_wide.nd (by rfl) (Or.inr rfl) (pe_callB (cr_sortedIK (K := K)) (by rfl) T.n_sorted boot_sorted (pa_cons (pe_lc (own := [("k", 10)]) (by rfl) sc_law_wide.nd (pi_range1 (by rfl) T.n_range (pa_cons (pe_callB (call_min2 (by rfl)) (by rfl) T.n_min boot_min (pa_cons (pe_op op_mul (pv 8) pe_int) (pa_cons pe_int pa_nil))) pa_nil)) (blkOk_by (N := ["bag", "many", "sorts", "words", "norms", "word", "wide", "every", "chance", "rows", "k", "seats"]) (sc := defScope s_law_wide) (by decide +kernel)) (fun _ _ _ _ _ => (pg_name (i := 10) sc_law_wide.nd (by rfl) (Or.inl rfl))) (fun _ _ _ _ _ => pts_nil) (fun _ _ _ _ _ => (pe_callF h_law_draw (hr.mono (by decide)) (pa_cons (pv 0) (pa_cons (pe_callB (call_len_seqK (K := K)) (by rfl) T.n_len PySem.boot_len (pa_cons (pv 7) pa_nil)) pa_nil))))) pa_nil))) (pss_cons (ps_setLc (i := 9) (own := [("k", 10)]) (by rfl) sc_law_wide.nd (by rfl) (by rfl) (sw_true (by rfl) (by rfl) (by rfl) (by decide +kernel)) (pi_range1 (by rfl) T.n_range (pa_cons (pe_callB (call_len_seqK (K := K)) (by rfl) T.n_len PySem.boot_len (pa_cons (pv 7) pa_nil)) pa_nil)) (blkOk_by (N := ["bag", "many", "sorts", "words", "norms", "word", "wide", "every", "chance", "rows", "k", "seats"]) (sc := defScope s_law_wide) (by decide +kernel)) (fun _ _ _ _ _ => (pg_name (i := 10) sc_law_wide.nd (by rfl) (Or.inl rfl))) (fun _ _ _ _ _ => (pts_one (pt_cmpR (op_inPK (K := K) hr.units) (pv 10) (pv 11) (by rfl)))) (fun _ _ _ _ _ => (pe_ix (ix_listK (K := K)) (pv 7) (pv 10) (fun _ _ => rfl)))) (pss_one (ps_if (pt_cmpR op_eq (pv 8) pe_int (nomark _)) (pss_one (ps_set (i := 9) sc_law_wide.nd (by rfl) (Or.inl rfl) (pe_slice (sl_listK (K := K)) (pe_slice (sl_listK (K := K)) (pv 7) (po_some (pe_callF h_law_draw (hr.mono (by decide)) (pa_cons (pv 0) (pa_cons pe_int pa_nil)))) po_none) po_none (po_some pe_int)))) pss_nil)))) pss_nil) (pss_one (ps_expr (pe_bm PySem.F.plainAttrs_list PySem.F.slot_list_append PySem.F.type_list_append mt_append (pv 4) (pa_cons (pe_tup (pa_cons (pv 5) (pa_cons (pv 6) (pa_cons (pv 9) pa_nil)))) pa_nil))))))))))) (pss_one (ps_ret (pe_lst (pa_cons (pv 2) (pa_cons (pv 4) pa_nil))))))))))), ?_⟩)
  refine spW_go h fun G x post hm s0 kret => ?_
  have hm : m_law_wide  post := hm
  unfold m_law_wide at hm
  refine st_setW (e := (fun a => D K (eI a))) s0 (em_op (ec := (fun a => D K (eI a))) (em_ev (a := ([(2 : Int), (3 : Int), (4 : Int), (2 : Int), (3 : Int), (5 : Int), (6 : Int)] : List Int)) (e := (fun a => D K ((eL eI) a))) (ev_lst (ds := [eI (2 : Int), eI (3 : Int), eI (4 : Int), eI (2 : Int), eI (3 : Int), eI (5 : Int), eI (6 : Int)]) (ea_cons ev_int (ea_cons ev_int (ea_cons ev_int (ea_cons ev_int (ea_cons ev_int (ea_cons ev_int (ea_cons ev_int ea_nil))))))))) (em_call (m := sm_law_draw) (x := (7 : Int)) (e := (fun a => D K (eI a))) (ea_cons (s0.var 0) (ea_cons ev_int ea_nil))) fun a1 b2 u3 v4 _ _ _ ru5 rv6 => (em_bnd fun t7 h8 => (em_ev (a := t7) (e := (fun a => D K (eI a))) (ev_ixL (e := eI) (EV.lv (ev_c (R := D K ((eL eI) a1)) ru5)) (ev_c (R := D K (eI b2)) rv6) h8)))) hm (fun r10 _ _ _ hm s9 => ?_)
  refine nx_go ?_
  refine st_setW (e := (fun a => D K ((eL eS) a))) s9 (EMN.em (em_callN (m := sm_law_names) (x := (r10, ([] : List Tx))) (en := eS) (ea_cons (s9.var 0) (ea_cons (s9.var 1) (ea_cons (ev_lst (ds := (([] : (List Tx)).map eS)) ea_nil) ea_nil))))) hm (fun r12 _ _ _ hm s11 => ?_)
  refine nx_go ?_
  refine st_ownW (K := K) (ds := fun ys => ys.map eS) s11 (em_callNE (m := sm_law_names) (en := eS) (ema_bag (s11.var 0) (ema_cons (em_op (ec := (fun a => D K (eI a))) (em_ev (a := ([(1 : Int), (2 : Int), (1 : Int), (3 : Int), (2 : Int), (0 : Int), (4 : Int), (2 : Int), (8 : Int)] : List Int)) (e := (fun a => D K ((eL eI) a))) (ev_lst (ds := [eI (1 : Int), eI (2 : Int), eI (1 : Int), eI (3 : Int), eI (2 : Int), eI (0 : Int), eI (4 : Int), eI (2 : Int), eI (8 : Int)]) (ea_cons ev_int (ea_cons ev_int (ea_cons ev_int (ea_cons ev_int (ea_cons ev_int (ea_cons ev_int (ea_cons ev_int (ea_cons ev_int (ea_cons ev_int ea_nil))))))))))) (em_call (m := sm_law_draw) (x := (9 : Int)) (e := (fun a => D K (eI a))) (ea_cons (s11.var 0) (ea_cons ev_int ea_nil))) fun a13 b14 u15 v16 _ _ _ ru17 rv18 => (em_bnd fun t19 h20 => (em_ev (a := t19) (e := (fun a => D K (eI a))) (ev_ixL (e := eI) (EV.lv (ev_c (R := D K ((eL eI) a13)) ru17)) (ev_c (R := D K (eI b14)) rv18) h20)))) (ema_one (em_ev (a := ([] : List Tx)) (e := (fun a => D K ((eL eS) a))) (ev_lst (ds := (([] : (List Tx)).map eS)) ea_nil)))))) hm (fun r22 p23 _ _ _ hm hpp23 s21 => ?_)
  refine nx_go ?_
  refine st_ifEJ (fun (st32 : (List Tx)) => [some (isBag K), some (D K (eI r10)), some (D K ((eL eS) r12)), some (D K ((eL eS) st32)), none, none, none, none, none, none, none, none]) (fun (st32 : (List Tx)) => []) hm s21 (emt_and (emt_et (b := (!decide (r22 = ([] : List Tx)))) (et_test (ev_neL (e := eS) (s21.ownL 3 0) (EV.lv (ev_lst (ds := (([] : (List Tx)).map eS)) ea_nil))))) (emt_and (emt_test (em_op (ec := fun b => D K (eB b)) (em_call (m := sm_law_draw) (x := (5 : Int)) (e := (fun a => D K (eI a))) (ea_cons (s21.var 0) (ea_cons ev_int ea_nil))) (em_ev (a := (0 : Int)) (e := (fun a => D K (eI a))) ev_int) fun a24 b25 u26 v27 _ _ _ ru28 rv29 => (em_ev (a := (decide (a24 = b25))) (e := (fun a => D K (eB a))) (ev_eqI (ev_c (R := D K (eI a24)) ru28) (ev_c (R := D K (eI b25)) rv29))))) (emt_bnd fun t30 h31 => (emt_et (b := (!mem t30 r22)) (et_test (ev_niL (e := eS) (ev_ixL (e := eS) (EV.lv (s21.var 2)) ev_int h31) (s21.ownL 3 0))))))) (fun h => h) (fun hm _ _ s36 _ hN33 => ?_) (fun hm _ _ s37 _ hN34 => ?_) (fun st32 _ _ _ hm s38 => ?_)
  · replace hm := wif_t hm rfl
    obtain ⟨t39, h40, hm⟩ := wopt_out hm
    obtain ⟨t41, h42, hm⟩ := wopt_out hm
    refine st_setI (e := eS) s36 3 0 (ev_ixL (e := eS) (EV.lv (s36.var 2)) ev_int h40) (ev_neg ev_int) h42 (fun _ _ s43 => ?_)
    obtain ⟨G45, _, _, s44⟩ := s43.freeze 3 0 (by simp [*])
    exact hN33 t41 _ _ _ hm (s44.fle (.keep (.keep (.keep (.keep (.skip (.skip (.skip (.skip (.skip (.skip (.skip (.skip .nil)))))))))))))
  · replace hm := wif_f hm rfl
    refine st_nil ?_
    obtain ⟨G47, _, _, s46⟩ := s37.freeze 3 0 (by simp [*])
    exact hN34 r22 _ _ _ hm (s46.fle (.keep (.keep (.keep (.keep (.skip (.skip (.skip (.skip (.skip (.skip (.skip (.skip .nil)))))))))))))
  · refine nx_go ?_
    refine st_ownT (K := K) (e := (eP3 eS eI (eL (eT eS)))) (xs := ([] : List (Tx × Int × (List (List Tx))))) s38 (en_lst (ds := (([] : (List (Tx × Int × (List (List Tx))))).map (eP3 eS eI (eL (eT eS))))) ea_nil) (fun p49 _ _ _ hpp49 s48 => ?_)
    refine nx_go ?_
    refine st_forW (s0 := ([] : List (Tx × Int × (List (List Tx))))) (fun (st50 : (List (Tx × Int × (List (List Tx))))) => [some (isBag K), some (D K (eI r10)), some (D K ((eL eS) r12)), some (D K ((eL eS) st32)), some (isV (.ref p49)), none, none, none, none, none, none, none]) (fun (st50 : (List (Tx × Int × (List (List Tx))))) => [(p49, Fz.ownL K ((st50).map (eP3 eS eI (eL (eT eS)))))]) hm (s48.fle (.keep (.keep (.keep (.keep (.keep (.skip (.skip (.skip (.skip (.skip (.skip (.skip .nil))))))))))))) (es_list (e := eS) (s48.var 3)) (fun _ st50 x51 _ _ _ _ _ _ hm s52 _ hN54 hB55 => ?_) (fun st165 _ _ _ hm s164 => ?_)
    · refine st_bind s52 fun _ _ s53 => ?_
      refine st_setW (e := (fun a => D K (eI a))) s53 (em_op (ec := (fun a => D K (eI a))) (em_ev (a := (1 : Int)) (e := (fun a => D K (eI a))) ev_int) (em_bnd fun t58 h59 => (em_call (m := sm_law_draw) (x := t58) (e := (fun a => D K (eI a))) (ea_cons (s53.var 0) (ea_cons (ev_ixL (e := eI) (EV.lv (ev_lst (ds := [eI (4 : Int), eI (4 : Int), eI (4 : Int), eI (4 : Int), eI (3 : Int), eI (2 : Int), eI (2 : Int)]) (ea_cons ev_int (ea_cons ev_int (ea_cons ev_int (ea_cons ev_int (ea_cons ev_int (ea_cons ev_int (ea_cons ev_int ea_nil))))))))) (s53.var 1) h59) ea_nil)))) fun a60 b61 u62 v63 _ _ _ ru64 rv65 => (em_ev (a := (a60 + b61)) (e := (fun a => D K (eI a))) (ev_add (ev_c (R := D K (eI a60)) ru64) (ev_c (R := D K (eI b61)) rv65)))) hm (fun r67 _ _ _ hm s66 => ?_)
      refine nx_go ?_
      obtain ⟨t68, h69, hm⟩ := wopt_out hm
      refine st_set (R := D K ((eL (eT eS)) t68)) s66 (ev_call (x := (r12, r67)) (m := sm_law_rows) (er := (fun r => D K ((eL (eT eS)) r))) (ea_cons (s66.var 2) (ea_cons (s66.var 6) ea_nil)) h69) (fun _ _ _ s70 => ?_)
      refine nx_go ?_
      refine st_setW (e := (fun a => D K (eI a))) s70 (em_op (ec := (fun a => D K (eI a))) (em_ev (a := ([(10 : Int), (5 : Int), (3 : Int), (8 : Int), (0 : Int), (6 : Int)] : List Int)) (e := (fun a => D K ((eL eI) a))) (ev_lst (ds := [eI (10 : Int), eI (5 : Int), eI (3 : Int), eI (8 : Int), eI (0 : Int), eI (6 : Int)]) (ea_cons ev_int (ea_cons ev_int (ea_cons ev_int (ea_cons ev_int (ea_cons ev_int (ea_cons ev_int ea_nil)))))))) (em_call (m := sm_law_draw) (x := (6 : Int)) (e := (fun a => D K (eI a))) (ea_cons (s70.var 0) (ea_cons ev_int ea_nil))) fun a71 b72 u73 v74 _ _ _ ru75 rv76 => (em_bnd fun t77 h78 => (em_ev (a := t77) (e := (fun a => D K (eI a))) (ev_ixL (e := eI) (EV.lv (ev_c (R := D K ((eL eI) a71)) ru75)) (ev_c (R := D K (eI b72)) rv76) h78)))) hm (fun r80 _ _ _ hm s79 => ?_)
      refine nx_go ?_
      refine st_ownT (K := K) (e := (eT eS)) (xs := ([] : List (List Tx))) s79 (en_lst (ds := (([] : (List (List Tx))).map (eT eS))) ea_nil) (fun p82 _ _ _ hpp82 s81 => ?_)
      refine nx_go ?_
      obtain ⟨t83, h84, hm⟩ := wopt_out hm
      refine st_forW (s0 := ([] : List (List Tx))) (fun (st85 : (List (List Tx))) => [some (isBag K), some (D K (eI r10)), some (D K ((eL eS) r12)), some (D K ((eL eS) st32)), some (isV (.ref p49)), some (D K (eS x51)), some (D K (eI r67)), some (D K ((eL (eT eS)) t68)), some (D K (eI r80)), some (isV (.ref p82)), none, none]) (fun (st85 : (List (List Tx))) => [(p82, Fz.ownL K ((st85).map (eT eS))), (p49, Fz.ownL K ((st50).map (eP3 eS eI (eL (eT eS)))))]) hm (s81.fle (.keep (.keep (.keep (.keep (.keep (.keep (.keep (.keep (.keep (.keep (.skip (.skip .nil))))))))))))) (es_range (ev_lenLm (e := (eT eS)) (EV.lv (s81.var 7))) h84) (fun _ st85 x86 _ _ _ _ _ _ hm s87 _ hN89 hB90 => ?_) (fun st108 _ _ _ hm s107 => ?_)
      · refine st_bind s87 fun _ _ s88 => ?_
        refine st_ifE s88 (emt_and (emt_et (b := (decide (((t68).length : Int) ≤ (16 : Int)))) (et_test (ev_le (ev_lenLm (e := (eT eS)) (EV.lv (s88.var 7))) ev_int))) (emt_test (em_op (ec := fun b => D K (eB b)) (em_call (m := sm_law_draw) (x := (10 : Int)) (e := (fun a => D K (eI a))) (ea_cons (s88.var 0) (ea_cons ev_int ea_nil))) (em_ev (a := r80) (e := (fun a => D K (eI a))) (s88.var 8)) fun a93 b94 u95 v96 _ _ _ ru97 rv98 => (em_ev (a := (decide (a93 < b94))) (e := (fun a => D K (eB a))) (ev_lt (ev_c (R := D K (eI a93)) ru97) (ev_c (R := D K (eI b94)) rv98)))))) hm (fun hm _ _ s99 => ?_) (fun hm _ _ s100 => ?_)
        · replace hm := wif_t hm rfl
          obtain ⟨t101, h102, hm⟩ := wopt_out hm
          obtain ⟨t103, h104, hm⟩ := wopt_out hm
          refine st_appendT (e := (eT eS)) s99 9 0 (ev_ixL (e := (eT eS)) (EV.lv (s99.var 7)) (s99.var 10) h102) h104 (fun _ _ s105 => ?_)
          exact hN89 t103 _ _ _ hm (s105.fle (.keep (.keep (.keep (.keep (.keep (.keep (.keep (.keep (.keep (.keep (.skip (.skip .nil)))))))))))))
        · replace hm := wif_f hm rfl
          refine st_nil ?_
          exact hN89 st85 _ _ _ hm (s100.fle (.keep (.keep (.keep (.keep (.keep (.keep (.keep (.keep (.keep (.keep (.skip (.skip .nil)))))))))))))
      · refine nx_go ?_
        refine st_ifWJ (fun (st110 : (List (List Tx))) => [some (isBag K), some (D K (eI r10)), some (D K ((eL eS) r12)), some (D K ((eL eS) st32)), some (isV (.ref p49)), some (D K (eS x51)), some (D K (eI r67)), some (D K ((eL (eT eS)) t68)), some (D K (eI r80)), some (D K ((eL (eT eS)) st110)), none, none]) (fun (st110 : (List (List Tx))) => [(p49, Fz.ownL K ((st50).map (eP3 eS eI (eL (eT eS)))))]) hm s107 (et_test (ev_gt (ev_lenLm (e := (eT eS)) (EV.lv (s107.var 7))) ev_int)) (fun hm hb163 _ _ s114 _ hN111 => ?_) (fun hm hb163 _ _ s115 _ hN112 => ?_) (fun st110 _ _ _ hm s116 => ?_)
        · replace hm := wif_t hm hb163
          refine st_setW (e := (fun a => D K ((eL eI) a))) s114 (em_cb1 (ec := (fun a => D K ((eL eI) a))) (em_bnd fun t117 h118 => (em_bnd fun t119 h120 => (EMN.em (em_lc (e' := eI) (vs := [10]) (fun (x121 : Int) => (sm_law_draw ((t68).length : Int))) s114 (ES.o (es_range (ev_min2 (ev_mul (s114.var 8) ev_int h118) ev_int) h120)) (fun _ x121 _ _ _ _ _ s1271 _ k128 => by
                refine st_bind s1271 fun _ hw129 s127 => ?_
                exact k128 _ (hw129 _ (by decide)) (em_call (m := sm_law_draw) (x := ((t68).length : Int)) (e := (fun a => D K (eI a))) (ea_cons (s127.var 0) (ea_cons (ev_lenLm (e := (eT eS)) (EV.lv (s127.var 7))) ea_nil)))))))) fun a122 u123 _ _ _ ru124 => (em_ev (a := (sortI a122)) (e := (fun a => D K ((eL eI) a))) (ev_sortI (EV.lv (ev_c (R := D K ((eL eI) a122)) ru124))))) hm (fun r126 _ _ _ hm s125 => ?_)
          refine nx_go ?_
          obtain ⟨t130, h131, hm⟩ := wopt_out hm
          obtain ⟨t135, h136, hm⟩ := wopt_out hm
          refine st_set (R := D K ((eL (eT eS)) t135)) s125 (EN.ev (en_lc (e' := (eT eS)) (vs := [10]) s125 (ES.o (es_range (ev_lenLm (e := (eT eS)) (EV.lv (s125.var 7))) h131)) h136 (fun _ x132 o138 _ ho139 _ _ _ _ s1411 _ k140 => by
                refine st_bind s1411 fun _ hw142 s141 => ?_
                have hk := ho139
                cases hb143 : (mem x132 r126) with
                | true =>
                  replace hk := oif_t hk hb143
                  obtain ⟨t133, h134, hk⟩ := bnd' hk
                  obtain rfl := Option.some.inj hk
                  exact k140 _ (hw142 _ (by decide)) (ET.to (et_test (ev_inL (e := eI) (s141.var 10) (EV.lv (s141.var 11)))) hb143) (fun y hy => by cases hy; exact (ev_ixL (e := (eT eS)) (EV.lv (s141.var 7)) (s141.var 10) h134))
                | false =>
                  replace hk := oif_f hk hb143
                  obtain rfl := Option.some.inj hk
                  exact k140 _ (hw142 _ (by decide)) (ET.to (et_test (ev_inL (e := eI) (s141.var 10) (EV.lv (s141.var 11)))) hb143) (fun y hy => nomatch hy)))) (fun _ _ _ s137 => ?_)
          replace s137 := s137.dropO 0
          refine nx_go ?_
          refine st_if s137 (et_test (ev_eqI (s137.var 8) ev_int)) (fun hb144 _ _ s145 => ?_) (fun hb144 _ _ s146 => ?_)
          · replace hm := wif_t hm hb144
            refine st_setW (e := (fun a => D K ((eL (eT eS)) a))) s145 (em_sl (ec := (fun a => D K ((eL (eT eS)) a))) (em_slLo (ec := (fun a => D K ((eL (eT eS)) a))) (em_ev (a := t68) (e := (fun a => D K ((eL (eT eS)) a))) (s145.var 7)) (em_call (m := sm_law_draw) (x := (9 : Int)) (e := (fun a => D K (eI a))) (ea_cons (s145.var 0) (ea_cons ev_int ea_nil))) fun a147 b148 u149 v150 _ _ _ ru151 rv152 => (em_ev (a := (Fm.cut a147 (some b148) none)) (e := (fun a => D K ((eL (eT eS)) a))) (ev_slL (e := (eT eS)) (EV.lv (ev_c (R := D K ((eL (eT eS)) a147)) ru151)) (eo_some (ev_c (R := D K (eI b148)) rv152)) eo_none))) fun a153 u154 _ _ _ ru155 => (em_ev (a := (Fm.cut a153 none (some (60 : Int)))) (e := (fun a => D K ((eL (eT eS)) a))) (ev_slL (e := (eT eS)) (EV.lv (ev_c (R := D K ((eL (eT eS)) a153)) ru155)) eo_none (eo_some ev_int)))) hm (fun r157 _ _ _ hm s156 => ?_)
            exact hN111 r157 _ _ _ hm (s156.fle (.keep (.keep (.keep (.keep (.keep (.keep (.keep (.keep (.keep (.keep (.skip (.skip .nil)))))))))))))
          · replace hm := wif_f hm hb144
            refine st_nil ?_
            exact hN111 t135 _ _ _ hm (s146.fle (.keep (.keep (.keep (.keep (.keep (.keep (.keep (.keep (.keep (.keep (.skip (.skip .nil)))))))))))))
        · replace hm := wif_f hm hb163
          refine st_nil ?_
          obtain ⟨G159, _, _, s158⟩ := s115.freeze 9 0 (by simp [*])
          exact hN112 st108 _ _ _ hm (s158.fle (.keep (.keep (.keep (.keep (.keep (.keep (.keep (.keep (.keep (.keep (.skip (.skip .nil)))))))))))))
        · refine nx_go ?_
          obtain ⟨t160, h161, hm⟩ := wopt_out hm
          refine st_appendT (e := (eP3 eS eI (eL (eT eS)))) s116 4 0 (ev_tup (ds := [eS x51, eI r67, (eL (eT eS)) st110]) (ea_cons (s116.var 5) (ea_cons (s116.var 6) (ea_cons (s116.var 9) ea_nil)))) h161 (fun _ _ s162 => ?_)
          exact hN54 t160 _ _ _ hm (s162.fle (.keep (.keep (.keep (.keep (.keep (.skip (.skip (.skip (.skip (.skip (.skip (.skip .nil)))))))))))))
    · refine nx_go ?_
      obtain ⟨G168, _, _, s167⟩ := s164.freeze 4 0 (by simp [*])
      exact st_ret (R := D K ((eH2 (eL eS) (eL (eP3 eS eI (eL (eT eS))))) (r12, st165))) s167 (ev_lst (ds := [(eL eS) r12, (eL (eP3 eS eI (eL (eT eS)))) st165]) (ea_cons (s167.var 2) (ea_cons (s167.var 4) ea_nil))) fun _ _ _ s169 rv => kret (r12, st165) _ _ _ _ _ _ _ hm s169 rv
def m_law_other (v_spec : ((List Tx) × (List (Tx × Int × (List (List Tx)))))) (post : ((List Tx) × (List (Tx × Int × (List (List Tx))))) → Prop) : Prop :=
  (wopt (comp (fun (x2 : (Tx × Int × (List (List Tx)))) => (some (some (x2.1, x2.2.1, x2.2.2)))) v_spec.2) fun t3 => (sm_law_draw (5 : Int)) fun (r13 : Int) => (wjoin (fun (kj18 : ((List (Tx × Int × (List (List Tx)))) × (List Tx)) → Prop) => wif ((!decide (t3 = ([] : List (Tx × Int × (List (List Tx)))))) && (decide (r13 = (0 : Int)))) ((sm_law_draw ((t3).length : Int)) fun (r23 : Int) => (wbind (wopt (Fm.ix t3 r23)) fun t24 => (wbind (wopt (m_law_rows v_spec.1 t24.2.1)) fun t26 => (sm_law_pick t26))) fun (r29 : (List Tx)) => (wopt (Fm.ix t3 r23) fun t30 => (wopt (m_law_rows v_spec.1 t30.2.1) fun t32 => (wopt (comp (fun (x34 : (List Tx)) => (Option.bind (Fm.ix t3 r23) fun t35 => (if (!decide ((mem x34 t35.2.2) = (decide (x34 = r29)))) = true then (some (some x34)) else some none))) t32) fun t37 => (wopt (Fm.ix t3 r23) fun t46 => (wopt (Fm.ix t3 r23) fun t48 => (wopt (Fm.setI t3 r23 (t46.1, t48.2.1, t37)) fun t50 => kj18 (t50, v_spec.1)))))))) ((wif ((!decide (t3 = ([] : List (Tx × Int × (List (List Tx)))))) && (decide (r13 = (1 : Int)))) ((sm_law_draw ((t3).length : Int)) fun (r59 : Int) => (wbind2 (wbind (wopt (comp (fun (x60 : (Tx × Int × (List (List Tx)))) => (some (some x60.1))) t3)) fun t61 => (sm_law_names ((1 : Int), t61))) (wret (0 : Int)) fun (a63 : (List Tx)) (b64 : Int) => (wbind (wopt (Fm.ix a63 b64)) fun t69 => wret t69)) fun (r72 : Tx) => (wopt (Fm.ix t3 r59) fun t78 => (wopt (Fm.ix t3 r59) fun t80 => (wopt (Fm.setI t3 r59 (r72, t78.2.1, t80.2.2)) fun t82 => kj18 (t82, v_spec.1))))) ((wif ((decide ((1 : Int) < ((t3).length : Int))) && (decide (r13 = (2 : Int)))) ((sm_law_draw (((t3).length : Int) - (1 : Int))) fun (r91 : Int) => (wopt (Fm.ix t3 (r91 + (1 : Int))) fun t92 => (wopt (Fm.ix t3 r91) fun t94 => (wopt (Fm.catL (Fm.cut t3 none (some r91)) ([t92, t94] : List (Tx × Int × (List (List Tx))))) fun t96 => (wopt (Fm.catL t96 (Fm.cut t3 (some (r91 + (2 : Int))) none)) fun t98 => kj18 (t98, v_spec.1)))))) ((wif ((decide (((t3).length : Int) < (8 : Int))) && (decide (r13 = (3 : Int)))) ((wpair (wbind2 (wbind (wopt (comp (fun (x104 : (Tx × Int × (List (List Tx)))) => (some (some x104.1))) t3)) fun t105 => (sm_law_names ((1 : Int), t105))) (wret (0 : Int)) fun (a107 : (List Tx)) (b108 : Int) => (wbind (wopt (Fm.ix a107 b108)) fun t113 => wret t113)) (wpair (wbind2 (wret (1 : Int)) (sm_law_draw (4 : Int)) fun (a115 : Int) (b116 : Int) => (wret (a115 + b116))) (wret ([] : List (List Tx))))) fun (a122 : (Tx × Int × (List (List Tx)))) => wopt (Fm.app t3 a122) fun r123 => kj18 (r123, v_spec.1)) ((sm_law_draw (((v_spec.1).length : Int) - (1 : Int))) fun (r132 : Int) => (wopt (Fm.ix v_spec.1 (r132 + (1 : Int))) fun t133 => (wopt (Fm.ix v_spec.1 r132) fun t135 => (wopt (Fm.catL (Fm.cut v_spec.1 none (some r132)) ([t133, t135] : List Tx)) fun t137 => (wopt (Fm.catL t137 (Fm.cut v_spec.1 (some (r132 + (2 : Int))) none)) fun t139 => (wopt (comp (fun (x142 : (Tx × Int × (List (List Tx)))) => (Option.bind (m_law_rows t139 x142.2.1) fun t143 => Option.bind (comp (fun (x145 : (List Tx)) => ((if (mem x145 x142.2.2) = true then (some (some x145)) else some none))) t143) fun t146 => some (some (x142.1, x142.2.1, t146)))) t3) fun t148 => kj18 (t148, t139)))))))))))))) fun (st15 : (List (Tx × Int × (List (List Tx)))) × (List Tx)) => post (st15.2, st15.1)))
abbrev sm_law_other (x : ((List Tx) × (List (Tx × Int × (List (List Tx)))))) : W ((List Tx) × (List (Tx × Int × (List (List Tx))))) := m_law_other x
abbrev sp_law_other (K : PySem.W.Frag) : Sp := spW (fun x : ((List Tx) × (List (Tx × Int × (List (List Tx))))) => [isBag K, D K ((eH2 (eL eS) (eL (eP3 eS eI (eL (eT eS))))) x)]) sm_law_other (fun r => D K ((eH2 (eL eS) (eL (eP3 eS eI (eL (eT eS))))) r))
theorem sc_law_other : FnScope ["bag", "spec", "sorts", "norms", "how", "k", "row", "rows", "new", "norm", "one"] ["bag", "spec"] (defScope s_law_other) := ⟨rfl, rfl, rfl, by decide +kernel, rfl, by decide +kernel, by decide +kernel⟩
theorem ok_law_other {P : Program} {w : World} {K : PySem.W.Frag} {mg : Str → Option Value} {base : Heap} (T : Txt K mg) (h_law_draw : Fok P w K mg base 1 "_law_draw" ["bag", "many"] (sp_law_draw K)) (h_law_pick : Fok P w K mg base 2 "_law_pick" ["bag", "things"] (sp_law_pick K)) (h_law_rows : Fok P w K mg base 1 "_law_rows" ["sorts", "wide"] (sp_law_rows K)) (h_law_names : Fok P w K mg base 3 "_law_names" ["bag", "many", "taken"] (sp_law_names K)) : Fok P w K mg base 4 "_law_other" ["bag", "spec"] (sp_law_other K) := by
  refine Fok.mk' T.g_law_other T.d_law_other (fun _ _ _ _ _ _ us hl => match us, hl with | [_, _], _ => rfl) sc_law_other (fun vs H Q E h => spW_len h) (fun cdv A outer s H vs Q E hr h => ⟨_, by
      exact (pss_cons (ps_set (i := 2) sc_law_other.nd (by rfl) (Or.inr rfl) (pe_callTy (call_list_ofK (K := K)) (by rfl) T.n_list boot_list (pa_cons (pe_ix (ix_listK (K := K)) (pv 1) pe_int (fun _ _ => rfl)) pa_nil))) (pss_cons (ps_set (i := 3) sc_law_other.nd (by rfl) (Or.inr rfl) (pe_lc (own := [("norm", 9)]) (by rfl) sc_law_other.nd (pi_listK (K := K) (pe_ix (ix_listK (K := K)) (pv 1) pe_int (fun _ _ => rfl))) (blkOk_by (N := ["bag", "spec", "sorts", "norms", "how", "k", "row", "rows", "new", "norm", "one"]) (sc := defScope s_law_other) (by decide +kernel)) (fun _ _ _ _ _ => (pg_name (i := 9) sc_law_other.nd (by rfl) (Or.inl rfl))) (fun _ _ _ _ _ => pts_nil) (fun _ _ _ _ _ => (pe_tup (pa_cons (pe_ix (ix_tupK (K := K)) (pv 9) pe_int (fun _ _ => rfl)) (pa_cons (pe_ix (ix_tupK (K := K)) (pv 9) pe_int (fun _ _ => rfl)) (pa_cons (pe_callTy (call_list_ofK (K := K)) (by rfl) T.n_list boot_list (pa_cons (pe_ix (ix_tupK (K := K)) (pv 9) pe_int (fun _ _ => rfl)) pa_nil)) pa_nil))))))) (pss_cons (ps_set (i := 4) sc_law_other.nd (by rfl) (Or.inl rfl) (pe_callF h_law_draw (hr.mono (by decide)) (pa_cons (pv 0) (pa_cons pe_int pa_nil)))) (pss_cons (ps_if (PW.pt (pw_and (pt_cmpR (op_nePK (K := K) hr.units) (pv 3) (pe_lst pa_nil) (nomark _)) (pw_and1 (pt_cmpR op_eq (pv 4) pe_int (nomark _))))) (pss_cons (ps_set (i := 5) sc_law_other.nd (by rfl) (Or.inr rfl) (pe_callF h_law_draw (hr.mono (by decide)) (pa_cons (pv 0) (pa_cons (pe_callB (call_len_seqK (K := K)) (by rfl) T.n_len PySem.boot_len (pa_cons (pv 3) pa_nil)) pa_nil)))) (pss_cons (ps_set (i := 6) sc_law_other.nd (by rfl) (Or.inr rfl) (pe_callF h_law_pick (hr.mono (by decide)) (pa_cons (pv 0) (pa_cons (pe_callF h_law_rows (hr.mono (by decide)) (pa_cons (pv 2) (pa_cons (pe_ix (ix_tupK (K := K)) (pe_ix (ix_listK (K := K)) (pv 3) (pv 5) (fun _ _ => rfl)) pe_int (fun _ _ => rfl)) pa_nil))) pa_nil)))) (pss_cons (ps_setLc (i := 7) (own := [("one", 10)]) (by rfl) sc_law_other.nd (by rfl) (by rfl) (sw_true (by rfl) (by rfl) (by rfl) (by decide +kernel)) (pi_listK (K := K) (pe_callF h_law_rows (hr.mono (by decide)) (pa_cons (pv 2) (pa_cons (pe_ix (ix_tupK (K := K)) (pe_ix (ix_listK (K := K)) (pv 3) (pv 5) (fun _ _ => rfl)) pe_int (fun _ _ => rfl)) pa_nil)))) (blkOk_by (N := ["bag", "spec", "sorts", "norms", "how", "k", "row", "rows", "new", "norm", "one"]) (sc := defScope s_law_other) (by decide +kernel)) (fun _ _ _ _ _ => (pg_name (i := 10) sc_law_other.nd (by rfl) (Or.inl rfl))) (fun _ _ _ _ _ => (pts_one (pt_cmpR op_ne (pe_cmpR (op_inPK (K := K) hr.units) (pv 10) (pe_ix (ix_tupK (K := K)) (pe_ix (ix_listK (K := K)) (pv 3) (pv 5) (fun _ _ => rfl)) pe_int (fun _ _ => rfl)) (by rfl)) (pe_cmpR (op_eqPK (K := K) hr.units) (pv 10) (pv 6) (nomark _)) (nomark _)))) (fun _ _ _ _ _ => (pv 10))) (pss_one (ps_asg (pe_tup (pa_cons (pe_ix (ix_tupK (K := K)) (pe_ix (ix_listK (K := K)) (pv 3) (pv 5) (fun _ _ => rfl)) pe_int (fun _ _ => rfl)) (pa_cons (pe_ix (ix_tupK (K := K)) (pe_ix (ix_listK (K := K)) (pv 3) (pv 5) (fun _ _ => rfl)) pe_int (fun _ _ => rfl)) (pa_cons (pv 7) pa_nil)))) (pg_sub (pv 3) (pv 5) set_list)))))) (pss_one (ps_if (PW.pt (pw_and (pt_cmpR (op_nePK (K := K) hr.units) (pv 3) (pe_lst pa_nil) (nomark _)) (pw_and1 (pt_cmpR op_eq (pv 4) pe_int (nomark _))))) (pss_cons (ps_set (i := 5) sc_law_other.nd (by rfl) (Or.inr rfl) (pe_callF h_law_draw (hr.mono (by decide)) (pa_cons (pv 0) (pa_cons (pe_callB (call_len_seqK (K := K)) (by rfl) T.n_len PySem.boot_len (pa_cons (pv 3) pa_nil)) pa_nil)))) (pss_cons (ps_set (i := 8) sc_law_other.nd (by rfl) (Or.inl rfl) (pe_ix (ix_listK (K := K)) (pe_callF h_law_names (hr.mono (by decide)) (pa_cons (pv 0) (pa_cons pe_int (pa_cons (pe_lc (own := [("norm", 9)]) (by rfl) sc_law_other.nd (pi_listK (K := K) (pv 3)) (blkOk_by (N := ["bag", "spec", "sorts", "norms", "how", "k", "row", "rows", "new", "norm", "one"]) (sc := defScope s_law_other) (by decide +kernel)) (fun _ _ _ _ _ => (pg_name (i := 9) sc_law_other.nd (by rfl) (Or.inl rfl))) (fun _ _ _ _ _ => pts_nil) (fun _ _ _ _ _ => (pe_ix (ix_tupK (K := K)) (pv 9) pe_int (fun _ _ => rfl)))) pa_nil)))) pe_int (fun _ _ => rfl))) (pss_one (ps_asg (pe_tup (pa_cons (pv 8) (pa_cons (pe_ix (ix_tupK (K := K)) (pe_ix (ix_listK (K := K)) (pv 3) (pv 5) (fun _ _ => rfl)) pe_int (fun _ _ => rfl)) (pa_cons (pe_ix (ix_tupK (K := K)) (pe_ix (ix_listK (K := K)) (pv 3) (pv 5) (fun _ _ => rfl)) pe_int (fun _ _ => rfl)) pa_nil)))) (pg_sub (pv 3) (pv 5) set_list))))) (pss_one (ps_if (PW.pt (pw_and (pt_cmpR op_gt (pe_callB (call_len_seqK (K := K)) (by rfl) T.n_len PySem.boot_len (pa_cons (pv 3) pa_nil)) pe_int (nomark _)) (pw_and1 (pt_cmpR op_eq (pv 4) pe_int (nomark _))))) (pss_cons (ps_set (i := 5) sc_law_other.nd (by rfl) (Or.inr rfl) (pe_callF h_law_draw (hr.mono (by decide)) (pa_cons (pv 0) (pa_cons (pe_op op_sub (pe_callB (call_len_seqK (K := K)) (by rfl) T.n_len PySem.boot_len (pa_cons (pv 3) pa_nil)) pe_int) pa_nil)))) (pss_one (ps_set (i := 3) sc_law_other.nd (by rfl) (Or.inr rfl) (pe_op op_cat (pe_op op_cat (pe_slice (sl_listK (K := K)) (pv 3) po_none (po_some (pv 5))) (pe_lst (pa_cons (pe_ix (ix_listK (K := K)) (pv 3) (pe_op op_add (pv 5) pe_int) (fun _ _ => rfl)) (pa_cons (pe_ix (ix_listK (K := K)) (pv 3) (pv 5) (fun _ _ => rfl)) pa_nil)))) (pe_slice (sl_listK (K := K)) (pv 3) (po_some (pe_op op_add (pv 5) pe_int)) po_none))))) (pss_one (ps_if (PW.pt (pw_and (pt_cmpR op_lt (pe_callB (call_len_seqK (K := K)) (by rfl) T.n_len PySem.boot_len (pa_cons (pv 3) pa_nil)) pe_int (nomark _)) (pw_and1 (pt_cmpR op_eq (pv 4) pe_int (nomark _))))) (pss_one (ps_expr (pe_bm PySem.F.plainAttrs_list PySem.F.slot_list_append PySem.F.type_list_append mt_append (pv 3) (pa_cons (pe_tup (pa_cons (pe_ix (ix_listK (K := K)) (pe_callF h_law_names (hr.mono (by decide)) (pa_cons (pv 0) (pa_cons pe_int (pa_cons (pe_lc (own := [("norm", 9)]) (by rfl) sc_law_other.nd (pi_listK (K := K) (pv 3)) (blkOk_by (N := ["bag", "spec", "sorts", "norms", "how", "k", "row", "rows", "new", "norm", "one"]) (sc := defScope s_law_other) (by decide +kernel)) (fun _ _ _ _ _ => (pg_name (i := 9) sc_law_other.nd (by rfl) (Or.inl rfl))) (fun _ _ _ _ _ => pts_nil) (fun _ _ _ _ _ => (pe_ix (ix_tupK (K := K)) (pv 9) pe_int (fun _ _ => rfl)))) pa_nil)))) pe_int (fun _ _ => rfl)) (pa_cons (pe_op op_add pe_int (pe_callF h_law_draw (hr.mono (by decide)) (pa_cons (pv 0) (pa_cons pe_int pa_nil)))) (pa_cons (pe_lst pa_nil) pa_nil)))) pa_nil)))) (pss_cons (ps_set (i := 5) sc_law_other.nd (by rfl) (Or.inr rfl) (pe_callF h_law_draw (hr.mono (by decide)) (pa_cons (pv 0) (pa_cons (pe_op op_sub (pe_callB (call_len_seqK (K := K)) (by rfl) T.n_len PySem.boot_len (pa_cons (pv 2) pa_nil)) pe_int) pa_nil)))) (pss_cons (ps_set (i := 2) sc_law_other.nd (by rfl) (Or.inr rfl) (pe_op op_cat (pe_op op_cat (pe_slice (sl_listK (K := K)) (pv 2) po_none (po_some (pv 5))) (pe_lst (pa_cons (pe_ix (ix_listK (K := K)) (pv 2) (pe_op op_add (pv 5) pe_int) (fun _ _ => rfl)) (pa_cons (pe_ix (ix_listK (K := K)) (pv 2) (pv 5) (fun _ _ => rfl)) pa_nil)))) (pe_slice (sl_listK (K := K)) (pv 2) (po_some (pe_op op_add (pv 5) pe_int)) po_none))) (pss_one (ps_set (i := 3) sc_law_other.nd (by rfl) (Or.inr rfl) (pe_lc (own := [("norm", 9)]) (by rfl) sc_law_other.nd (pi_listK (K := K) (pv 3)) (blkOk_by (N := ["bag", "spec", "sorts", "norms", "how", "k", "row", "rows", "new", "norm", "one"]) (sc := defScope s_law_other) (by decide +kernel)) (fun _ _ _ _ _ => (pg_name (i := 9) sc_law_other.nd (by rfl) (Or.inr rfl))) (fun _ _ _ _ _ => pts_nil) (fun _ _ _ _ _ => (pe_tup (pa_cons (pe_ix (ix_tupK (K := K)) (pv 9) pe_int (fun _ _ => rfl)) (pa_cons (pe_ix (ix_tupK (K := K)) (pv 9) pe_int (fun _ _ => rfl)) (pa_cons (pe_lc (own := [("row", 6)]) (by rfl) sc_law_other.nd (pi_listK (K := K) (pe_callF h_law_rows (hr.mono (by decide)) (pa_cons (pv 2) (pa_cons (pe_ix (ix_tupK (K := K)) (pv 9) pe_int (fun _ _ => rfl)) pa_nil)))) (blkOk_by (N := ["bag", "spec", "sorts", "norms", "how", "k", "row", "rows", "new", "norm", "one"]) (sc := _) (by rfl)) (fun _ _ _ _ _ => (pg_name (i := 6) sc_law_other.nd (by rfl) (Or.inl rfl))) (fun _ _ _ _ _ => (pts_one (pt_cmpR (op_inPK (K := K) hr.units) (pv 6) (pe_ix (ix_tupK (K := K)) (pv 9) pe_int (fun _ _ => rfl)) (by rfl)))) (fun _ _ _ _ _ => (pv 6))) pa_nil))))))))))))))))) (pss_one (ps_ret (pe_lst (pa_cons (pv 2) (pa_cons (pv 3) pa_nil))))))))), ?_⟩)
  refine spW_go h fun G v_spec post hm s0 kret => ?_
  have hm : m_law_other v_spec post := hm
  unfold m_law_other at hm
  refine st_set (R := D K ((eL eS) v_spec.1)) s0 (ev_listL (EV.lv (ev_ixLc (d := (eL eS) v_spec.1) (s0.var 1) ev_int (by rfl)))) (fun _ _ _ s1 => ?_)
  refine nx_go ?_
  obtain ⟨t3, h4, hm⟩ := wopt_out hm
  refine st_ownT (K := K) (e := (eP3 eS eI (eL (eT eS)))) (xs := t3) s1 (en_lc (e' := (eP3 eS eI (eL (eT eS)))) (vs := [9]) s1 (eso_list (e := (eP3 eS eI (eL (eT eS)))) (EV.lv (ev_ixLc (d := (eL (eP3 eS eI (eL (eT eS)))) v_spec.2) (s1.var 1) ev_int (by rfl)))) h4 (fun _ x2 o7 _ ho8 _ _ _ _ s101 _ k9 => by
        refine st_bind s101 fun _ hw11 s10 => ?_
        have hk := ho8
        obtain rfl := Option.some.inj hk
        exact k9 _ (hw11 _ (by decide)) et_yes (fun y hy => by cases hy; exact (ev_tup (ds := [eS x2.1, eI x2.2.1, (eL (eT eS)) x2.2.2]) (ea_cons (ev_ixTc (d := eS x2.1) (s10.var 9) ev_int (by rfl)) (ea_cons (ev_ixTc (d := eI x2.2.1) (s10.var 9) ev_int (by rfl)) (ea_cons (ev_listL (EV.lv (ev_ixTc (d := (eL (eT eS)) x2.2.2) (s10.var 9) ev_int (by rfl)))) ea_nil))))))) (fun p6 _ _ _ hpp6 s5 => ?_)
  refine nx_go ?_
  refine st_setW (e := (fun a => D K (eI a))) s5 (em_call (m := sm_law_draw) (x := (5 : Int)) (e := (fun a => D K (eI a))) (ea_cons (s5.var 0) (ea_cons ev_int ea_nil))) hm (fun r13 _ _ _ hm s12 => ?_)
  refine nx_go ?_
  refine st_ifWJ (fun (st15 : (List (Tx × Int × (List (List Tx)))) × (List Tx)) => [some (isBag K), some (D K ((eH2 (eL eS) (eL (eP3 eS eI (eL (eT eS))))) v_spec)), some (D K ((eL eS) st15.2)), some (D K ((eL (eP3 eS eI (eL (eT eS)))) st15.1)), some (D K (eI r13)), none, none, none, none, none, none]) (fun (st15 : (List (Tx × Int × (List (List Tx)))) × (List Tx)) => []) hm s12 (et_and2 (et_test (ev_neL (e := (eP3 eS eI (eL (eT eS)))) (s12.ownL 3 0) (EV.lv (ev_lst (ds := (([] : (List (Tx × Int × (List (List Tx))))).map (eP3 eS eI (eL (eT eS))))) ea_nil)))) (fun _ => (et_test (ev_eqI (s12.var 4) ev_int)))) (fun hm hb163 _ _ s19 _ hN16 => ?_) (fun hm hb163 _ _ s20 _ hN17 => ?_) (fun st15 _ _ _ hm s21 => ?_)
  · replace hm := wif_t hm hb163
    refine st_setW (e := (fun a => D K (eI a))) s19 (em_call (m := sm_law_draw) (x := ((t3).length : Int)) (e := (fun a => D K (eI a))) (ea_cons (s19.var 0) (ea_cons (ev_lenLm (e := (eP3 eS eI (eL (eT eS)))) (s19.ownL 3 0)) ea_nil))) hm (fun r23 _ _ _ hm s22 => ?_)
    refine nx_go ?_
    refine st_setW (e := (fun a => D K ((eT eS) a))) s22 (em_bnd fun t24 h25 => (em_bnd fun t26 h27 => (em_call (m := sm_law_pick) (x := t26) (e := (fun a => D K ((eT eS) a))) (ea_cons (s22.var 0) (ea_cons (ev_call (x := (v_spec.1, t24.2.1)) (m := sm_law_rows) (er := (fun r => D K ((eL (eT eS)) r))) (ea_cons (s22.var 2) (ea_cons (ev_ixTc (d := eI t24.2.1) (ev_ixL (e := (eP3 eS eI (eL (eT eS)))) (s22.ownL 3 0) (s22.var 5) h25) ev_int (by rfl)) ea_nil)) h27) ea_nil))))) hm (fun r29 _ _ _ hm s28 => ?_)
    refine nx_go ?_
    obtain ⟨t30, h31, hm⟩ := wopt_out hm
    obtain ⟨t32, h33, hm⟩ := wopt_out hm
    obtain ⟨t37, h38, hm⟩ := wopt_out hm
    refine st_set (R := D K ((eL (eT eS)) t37)) s28 (EN.ev (en_lc (e' := (eT eS)) (vs := [10]) s28 (eso_list (e := (eT eS)) (EV.lv (ev_call (x := (v_spec.1, t30.2.1)) (m := sm_law_rows) (er := (fun r => D K ((eL (eT eS)) r))) (ea_cons (s28.var 2) (ea_cons (ev_ixTc (d := eI t30.2.1) (ev_ixL (e := (eP3 eS eI (eL (eT eS)))) (s28.ownL 3 0) (s28.var 5) h31) ev_int (by rfl)) ea_nil)) h33))) h38 (fun _ x34 o40 _ ho41 _ _ _ _ s431 _ k42 => by
          refine st_bind s431 fun _ hw44 s43 => ?_
          have hk := ho41
          obtain ⟨t35, h36, hk⟩ := bnd' hk
          cases hb45 : (!decide ((mem x34 t35.2.2) = (decide (x34 = r29)))) with
          | true =>
            replace hk := oif_t hk hb45
            obtain rfl := Option.some.inj hk
            exact k42 _ (hw44 _ (by decide)) (ET.to (et_test (ev_neB (ev_inL (e := (eT eS)) (s43.var 10) (EV.lv (ev_ixTc (d := (eL (eT eS)) t35.2.2) (ev_ixL (e := (eP3 eS eI (eL (eT eS)))) (s43.ownL 3 0) (s43.var 5) h36) ev_int (by rfl)))) (ev_eqD (e := (eT eS)) (s43.var 10) (s43.var 6)))) hb45) (fun y hy => by cases hy; exact (s43.var 10))
          | false =>
            replace hk := oif_f hk hb45
            obtain rfl := Option.some.inj hk
            exact k42 _ (hw44 _ (by decide)) (ET.to (et_test (ev_neB (ev_inL (e := (eT eS)) (s43.var 10) (EV.lv (ev_ixTc (d := (eL (eT eS)) t35.2.2) (ev_ixL (e := (eP3 eS eI (eL (eT eS)))) (s43.ownL 3 0) (s43.var 5) h36) ev_int (by rfl)))) (ev_eqD (e := (eT eS)) (s43.var 10) (s43.var 6)))) hb45) (fun y hy => nomatch hy)))) (fun _ _ _ s39 => ?_)
    refine nx_go ?_
    obtain ⟨t46, h47, hm⟩ := wopt_out hm
    obtain ⟨t48, h49, hm⟩ := wopt_out hm
    obtain ⟨t50, h51, hm⟩ := wopt_out hm
    refine st_setI (e := (eP3 eS eI (eL (eT eS)))) s39 3 0 (ev_tup (ds := [eS t46.1, eI t48.2.1, (eL (eT eS)) t37]) (ea_cons (ev_ixTc (d := eS t46.1) (ev_ixL (e := (eP3 eS eI (eL (eT eS)))) (s39.ownL 3 0) (s39.var 5) h47) ev_int (by rfl)) (ea_cons (ev_ixTc (d := eI t48.2.1) (ev_ixL (e := (eP3 eS eI (eL (eT eS)))) (s39.ownL 3 0) (s39.var 5) h49) ev_int (by rfl)) (ea_cons (s39.var 7) ea_nil)))) (s39.var 5) h51 (fun _ _ s52 => ?_)
    obtain ⟨G54, _, _, s53⟩ := s52.freeze 3 0 (by simp [*])
    exact hN16 (t50, v_spec.1) _ _ _ hm (s53.fle (.keep (.keep (.keep (.keep (.keep (.skip (.skip (.skip (.skip (.skip (.skip .nil))))))))))))
  · replace hm := wif_f hm hb163
    refine st_if s20 (et_and2 (et_test (ev_neL (e := (eP3 eS eI (eL (eT eS)))) (s20.ownL 3 0) (EV.lv (ev_lst (ds := (([] : (List (Tx × Int × (List (List Tx))))).map (eP3 eS eI (eL (eT eS))))) ea_nil)))) (fun _ => (et_test (ev_eqI (s20.var 4) ev_int)))) (fun hb55 _ _ s56 => ?_) (fun hb55 _ _ s57 => ?_)
    · replace hm := wif_t hm hb55
      refine st_setW (e := (fun a => D K (eI a))) s56 (em_call (m := sm_law_draw) (x := ((t3).length : Int)) (e := (fun a => D K (eI a))) (ea_cons (s56.var 0) (ea_cons (ev_lenLm (e := (eP3 eS eI (eL (eT eS)))) (s56.ownL 3 0)) ea_nil))) hm (fun r59 _ _ _ hm s58 => ?_)
      refine nx_go ?_
      refine st_setW (e := (fun a => D K (eS a))) s58 (em_op (ec := (fun a => D K (eS a))) (em_bnd fun t61 h62 => (EMN.em (em_callN (m := sm_law_names) (x := ((1 : Int), t61)) (en := eS) (ea_cons (s58.var 0) (ea_cons ev_int (ea_cons (EN.ev (en_lc (e' := eS) (vs := [9]) s58 (eso_list (e := (eP3 eS eI (eL (eT eS)))) (s58.ownL 3 0)) h62 (fun _ x60 o73 _ ho74 _ _ _ _ s761 _ k75 => by
            refine st_bind s761 fun _ hw77 s76 => ?_
            have hk := ho74
            obtain rfl := Option.some.inj hk
            exact k75 _ (hw77 _ (by decide)) et_yes (fun y hy => by cases hy; exact (ev_ixTc (d := eS x60.1) (s76.var 9) ev_int (by rfl)))))) ea_nil)))))) (em_ev (a := (0 : Int)) (e := (fun a => D K (eI a))) ev_int) fun a63 b64 u65 v66 _ _ _ ru67 rv68 => (em_bnd fun t69 h70 => (em_ev (a := t69) (e := (fun a => D K (eS a))) (ev_ixL (e := eS) (EV.lv (ev_c (R := D K ((eL eS) a63)) ru67)) (ev_c (R := D K (eI b64)) rv68) h70)))) hm (fun r72 _ _ _ hm s71 => ?_)
      refine nx_go ?_
      obtain ⟨t78, h79, hm⟩ := wopt_out hm
      obtain ⟨t80, h81, hm⟩ := wopt_out hm
      obtain ⟨t82, h83, hm⟩ := wopt_out hm
      refine st_setI (e := (eP3 eS eI (eL (eT eS)))) s71 3 0 (ev_tup (ds := [eS r72, eI t78.2.1, (eL (eT eS)) t80.2.2]) (ea_cons (s71.var 8) (ea_cons (ev_ixTc (d := eI t78.2.1) (ev_ixL (e := (eP3 eS eI (eL (eT eS)))) (s71.ownL 3 0) (s71.var 5) h79) ev_int (by rfl)) (ea_cons (ev_ixTc (d := (eL (eT eS)) t80.2.2) (ev_ixL (e := (eP3 eS eI (eL (eT eS)))) (s71.ownL 3 0) (s71.var 5) h81) ev_int (by rfl)) ea_nil)))) (s71.var 5) h83 (fun _ _ s84 => ?_)
      obtain ⟨G86, _, _, s85⟩ := s84.freeze 3 0 (by simp [*])
      exact hN17 (t82, v_spec.1) _ _ _ hm (s85.fle (.keep (.keep (.keep (.keep (.keep (.skip (.skip (.skip (.skip (.skip (.skip .nil))))))))))))
    · replace hm := wif_f hm hb55
      refine st_if s57 (et_and2 (et_test (ev_gt (ev_lenLm (e := (eP3 eS eI (eL (eT eS)))) (s57.ownL 3 0)) ev_int)) (fun _ => (et_test (ev_eqI (s57.var 4) ev_int)))) (fun hb87 _ _ s88 => ?_) (fun hb87 _ _ s89 => ?_)
      · replace hm := wif_t hm hb87
        refine st_setW (e := (fun a => D K (eI a))) s88 (em_call (m := sm_law_draw) (x := (((t3).length : Int) - (1 : Int))) (e := (fun a => D K (eI a))) (ea_cons (s88.var 0) (ea_cons (ev_sub (ev_lenLm (e := (eP3 eS eI (eL (eT eS)))) (s88.ownL 3 0)) ev_int) ea_nil))) hm (fun r91 _ _ _ hm s90 => ?_)
        refine nx_go ?_
        obtain ⟨t92, h93, hm⟩ := wopt_out hm
        obtain ⟨t94, h95, hm⟩ := wopt_out hm
        obtain ⟨t96, h97, hm⟩ := wopt_out hm
        obtain ⟨t98, h99, hm⟩ := wopt_out hm
        refine st_set (R := D K ((eL (eP3 eS eI (eL (eT eS)))) t98)) s90 (ev_catL (e := (eP3 eS eI (eL (eT eS)))) (EV.lv (ev_catL (e := (eP3 eS eI (eL (eT eS)))) (EV.lv (ev_slL (e := (eP3 eS eI (eL (eT eS)))) (s90.ownL 3 0) eo_none (eo_some (s90.var 5)))) (EV.lv (ev_lst (ds := [(eP3 eS eI (eL (eT eS))) t92, (eP3 eS eI (eL (eT eS))) t94]) (ea_cons (ev_ixL (e := (eP3 eS eI (eL (eT eS)))) (s90.ownL 3 0) (ev_add (s90.var 5) ev_int) h93) (ea_cons (ev_ixL (e := (eP3 eS eI (eL (eT eS)))) (s90.ownL 3 0) (s90.var 5) h95) ea_nil)))) h97)) (EV.lv (ev_slL (e := (eP3 eS eI (eL (eT eS)))) (s90.ownL 3 0) (eo_some (ev_add (s90.var 5) ev_int)) eo_none)) h99) (fun _ _ _ s100 => ?_)
        replace s100 := s100.dropO 0
        exact hN17 (t98, v_spec.1) _ _ _ hm (s100.fle (.keep (.keep (.keep (.keep (.keep (.skip (.skip (.skip (.skip (.skip (.skip .nil))))))))))))
      · replace hm := wif_f hm hb87
        refine st_if s89 (et_and2 (et_test (ev_lt (ev_lenLm (e := (eP3 eS eI (eL (eT eS)))) (s89.ownL 3 0)) ev_int)) (fun _ => (et_test (ev_eqI (s89.var 4) ev_int)))) (fun hb101 _ _ s102 => ?_) (fun hb101 _ _ s103 => ?_)
        · replace hm := wif_t hm hb101
          refine st_appendWT (en := (eP3 eS eI (eL (eT eS)))) s102 3 0 (em_tup (ds := fun (a : (Tx × Int × (List (List Tx)))) => [eS a.1, eI a.2.1, (eL (eT eS)) a.2.2]) (ema_cons (em_op (ec := (fun a => D K (eS a))) (em_bnd fun t105 h106 => (EMN.em (em_callN (m := sm_law_names) (x := ((1 : Int), t105)) (en := eS) (ea_cons (s102.var 0) (ea_cons ev_int (ea_cons (EN.ev (en_lc (e' := eS) (vs := [9]) s102 (eso_list (e := (eP3 eS eI (eL (eT eS)))) (s102.ownL 3 0)) h106 (fun _ x104 o124 _ ho125 _ _ _ _ s1271 _ k126 => by
                refine st_bind s1271 fun _ hw128 s127 => ?_
                have hk := ho125
                obtain rfl := Option.some.inj hk
                exact k126 _ (hw128 _ (by decide)) et_yes (fun y hy => by cases hy; exact (ev_ixTc (d := eS x104.1) (s127.var 9) ev_int (by rfl)))))) ea_nil)))))) (em_ev (a := (0 : Int)) (e := (fun a => D K (eI a))) ev_int) fun a107 b108 u109 v110 _ _ _ ru111 rv112 => (em_bnd fun t113 h114 => (em_ev (a := t113) (e := (fun a => D K (eS a))) (ev_ixL (e := eS) (EV.lv (ev_c (R := D K ((eL eS) a107)) ru111)) (ev_c (R := D K (eI b108)) rv112) h114)))) (ema_cons (em_op (ec := (fun a => D K (eI a))) (em_ev (a := (1 : Int)) (e := (fun a => D K (eI a))) ev_int) (em_call (m := sm_law_draw) (x := (4 : Int)) (e := (fun a => D K (eI a))) (ea_cons (s102.var 0) (ea_cons ev_int ea_nil))) fun a115 b116 u117 v118 _ _ _ ru119 rv120 => (em_ev (a := (a115 + b116)) (e := (fun a => D K (eI a))) (ev_add (ev_c (R := D K (eI a115)) ru119) (ev_c (R := D K (eI b116)) rv120)))) (ema_one (em_ev (a := ([] : List (List Tx))) (e := (fun a => D K ((eL (eT eS)) a))) (ev_lst (ds := (([] : (List (List Tx))).map (eT eS))) ea_nil)))))) hm (fun r123 _ _ hm s121 => ?_)
          obtain ⟨G130, _, _, s129⟩ := s121.freeze 3 0 (by simp [*])
          exact hN17 (r123, v_spec.1) _ _ _ hm (s129.fle (.keep (.keep (.keep (.keep (.keep (.skip (.skip (.skip (.skip (.skip (.skip .nil))))))))))))
        · replace hm := wif_f hm hb101
          refine st_setW (e := (fun a => D K (eI a))) s103 (em_call (m := sm_law_draw) (x := (((v_spec.1).length : Int) - (1 : Int))) (e := (fun a => D K (eI a))) (ea_cons (s103.var 0) (ea_cons (ev_sub (ev_lenLm (e := eS) (EV.lv (s103.var 2))) ev_int) ea_nil))) hm (fun r132 _ _ _ hm s131 => ?_)
          refine nx_go ?_
          obtain ⟨t133, h134, hm⟩ := wopt_out hm
          obtain ⟨t135, h136, hm⟩ := wopt_out hm
          obtain ⟨t137, h138, hm⟩ := wopt_out hm
          obtain ⟨t139, h140, hm⟩ := wopt_out hm
          refine st_set (R := D K ((eL eS) t139)) s131 (ev_catL (e := eS) (EV.lv (ev_catL (e := eS) (EV.lv (ev_slL (e := eS) (EV.lv (s131.var 2)) eo_none (eo_some (s131.var 5)))) (EV.lv (ev_lst (ds := [eS t133, eS t135]) (ea_cons (ev_ixL (e := eS) (EV.lv (s131.var 2)) (ev_add (s131.var 5) ev_int) h134) (ea_cons (ev_ixL (e := eS) (EV.lv (s131.var 2)) (s131.var 5) h136) ea_nil)))) h138)) (EV.lv (ev_slL (e := eS) (EV.lv (s131.var 2)) (eo_some (ev_add (s131.var 5) ev_int)) eo_none)) h140) (fun _ _ _ s141 => ?_)
          refine nx_go ?_
          obtain ⟨t148, h149, hm⟩ := wopt_out hm
          refine st_set (R := D K ((eL (eP3 eS eI (eL (eT eS)))) t148)) s141 (EN.ev (en_lc (e' := (eP3 eS eI (eL (eT eS)))) (vs := [9]) s141 (eso_list (e := (eP3 eS eI (eL (eT eS)))) (s141.ownL 3 0)) h149 (fun _ x142 o151 _ ho152 _ _ _ _ s1541 _ k153 => by
                refine st_bind s1541 fun _ hw155 s154 => ?_
                have hk := ho152
                obtain ⟨t143, h144, hk⟩ := bnd' hk
                obtain ⟨t146, h147, hk⟩ := bnd' hk
                obtain rfl := Option.some.inj hk
                exact k153 _ (hw155 _ (by decide)) et_yes (fun y hy => by cases hy; exact (ev_tup (ds := [eS x142.1, eI x142.2.1, (eL (eT eS)) t146]) (ea_cons (ev_ixTc (d := eS x142.1) (s154.var 9) ev_int (by rfl)) (ea_cons (ev_ixTc (d := eI x142.2.1) (s154.var 9) ev_int (by rfl)) (ea_cons (EN.ev (en_lc (e' := (eT eS)) (vs := [6]) s154 (eso_list (e := (eT eS)) (EV.lv (ev_call (x := (t139, x142.2.1)) (m := sm_law_rows) (er := (fun r => D K ((eL (eT eS)) r))) (ea_cons (s154.var 2) (ea_cons (ev_ixTc (d := eI x142.2.1) (s154.var 9) ev_int (by rfl)) ea_nil)) h144))) h147 (fun _ x145 o156 _ ho157 _ _ _ _ s1591 _ k158 => by
                      refine st_bind s1591 fun _ hw160 s159 => ?_
                      have hk := ho157
                      cases hb161 : (mem x145 x142.2.2) with
                      | true =>
                        replace hk := oif_t hk hb161
                        obtain rfl := Option.some.inj hk
                        exact k158 _ (hw160 _ (by decide)) (ET.to (et_test (ev_inL (e := (eT eS)) (s159.var 6) (EV.lv (ev_ixTc (d := (eL (eT eS)) x142.2.2) (s159.var 9) ev_int (by rfl))))) hb161) (fun y hy => by cases hy; exact (s159.var 6))
                      | false =>
                        replace hk := oif_f hk hb161
                        obtain rfl := Option.some.inj hk
                        exact k158 _ (hw160 _ (by decide)) (ET.to (et_test (ev_inL (e := (eT eS)) (s159.var 6) (EV.lv (ev_ixTc (d := (eL (eT eS)) x142.2.2) (s159.var 9) ev_int (by rfl))))) hb161) (fun y hy => nomatch hy)))) ea_nil)))))))) (fun _ _ _ s150 => ?_)
          replace s150 := s150.dropO 0
          exact hN17 (t148, t139) _ _ _ hm (s150.fle (.keep (.keep (.keep (.keep (.keep (.skip (.skip (.skip (.skip (.skip (.skip .nil))))))))))))
  · refine nx_go ?_
    exact st_ret (R := D K ((eH2 (eL eS) (eL (eP3 eS eI (eL (eT eS))))) (st15.2, st15.1))) s21 (ev_lst (ds := [(eL eS) st15.2, (eL (eP3 eS eI (eL (eT eS)))) st15.1]) (ea_cons (s21.var 2) (ea_cons (s21.var 3) ea_nil))) fun _ _ _ s162 rv => kret (st15.2, st15.1) _ _ _ _ _ _ _ hm s162 rv
end K0
set_option Elab.async false
set_option linter.all false
set_option maxRecDepth 100000
set_option maxHeartbeats 4000000
namespace K0
open PySem PySem.Spec PyProof.Rows L2 Fz

def m_first_double (v_words : (List Tx)) : Option (Option Tx) :=
  Option.bind (loop (ρ := (Option Tx)) (fun (st3 : (List (Tx × Bool))) (x4 : Tx) => (if ((look st3 x4).isSome) = true then (some (.ret (some x4))) else (Option.bind (Fm.dput st3 x4 true) fun t19 => some (.go t19)))) ([] : List (Tx × Bool)) v_words) fun c5 => (match c5 with | .ret r => some r | .go st23 => (some none) | .brk _ => none)
abbrev sm_first_double (x : (List Tx)) : Option (Option Tx) := m_first_double x
abbrev sp_first_double (K : PySem.W.Frag) : Sp := spF (fun x : (List Tx) => [D K ((eL eS) x)]) sm_first_double (fun r => D K ((eO eS) r))
theorem sc_first_double : FnScope ["words", "seen", "word"] ["words"] (defScope s_first_double) := ⟨rfl, rfl, rfl, by decide +kernel, rfl, by decide +kernel, by decide +kernel⟩
theorem ok_first_double {P : Program} {w : World} {K : PySem.W.Frag} {mg : Str → Option Value} {base : Heap} (T : Txt K mg)  : Fok P w K mg base 1 "first_double" ["words"] (sp_first_double K) := by
  refine Fok.mk' T.g_first_double T.d_first_double (fun _ _ _ _ _ _ us hl => match us, hl with | [_], _ => rfl) sc_first_double (fun vs H Q E h => spF_len h) (fun cdv A outer s H vs Q E hr h => ⟨_, by
      exact (pss_cons (ps_set (i := 1) sc_first_double.nd (by rfl) (Or.inl rfl) pe_dnewK) (pss_cons (ps_for PassesOwn.never (by rfl) (pi_listK (K := K) (pv 0)) (pg_name (i := 2) sc_first_double.nd (by rfl) (Or.inl rfl)) (pss_cons (ps_if (pt_cmp (pc_din (hu_of hr) (pv 2) (pv 1))) (pss_one (ps_ret (pv 2))) pss_nil) (pss_one (ps_dput (hu_of hr) (pv 1) (pv 2) pe_bl (by rfl))))) (pss_one (ps_ret pe_non)))), ?_⟩)
  refine spF_go h fun G v_words r hm s0 kret => ?_
  have hm : m_first_double v_words = _ := hm
  unfold m_first_double at hm
  refine st_dnew (K := K) (mk := HO.dK) (f := keyS) s0 (fun p2 _ _ _ hpp2 s1 => ?_)
  refine nx_go ?_
  obtain ⟨c5, h6, hm⟩ := bnd' hm
  refine st_for (fun (st3 : (List (Tx × Bool))) => [some (D K ((eL eS) v_words)), some (isV (.ref p2)), none]) (fun (st3 : (List (Tx × Bool))) => [(p2, Fz.ownD K HO.dK keyS ((st3).map fun p => (p.1, D K (eB p.2))))]) (s1.fle (.keep (.keep (.skip .nil)))) (es_list (e := eS) (s1.var 0)) h6 (fun _ st3 x4 _ _ _ _ _ hx9 hc10 s7 _ hN11 hB12 hR13 => ?_) (fun st23 _ _ _ hd s22 => ?_)
  · refine st_bind s7 fun _ _ s8 => ?_
    refine st_if s8 (et_B (ev_dinT (e := eB) keyM_S (s8.var 2) (SA.ownD (mk := HO.dK) (f := keyS) s8 1 0))) (fun hb14 _ _ s15 => ?_) (fun hb14 _ _ s16 => ?_)
    · replace hc10 := oif_t hc10 hb14
      refine st_ret (R := D K ((eO eS) (some x4))) s15 (ev_some (e := eS) (s15.var 2)) fun _ _ _ s17 rv => ?_
      obtain rfl := Option.some.inj hc10
      have hc18 := hR13 _ rfl
      rw [hc18] at hm
      obtain rfl := Option.some.inj hm
      exact kret _ _ _ _ _ _ _ s17 rv
    · replace hc10 := oif_f hc10 hb14
      refine st_nil (nx_go ?_)
      obtain ⟨t19, h20, hc10⟩ := bnd' hc10
      refine st_dputT (e := eB) keyM_S s16 1 0 ev_bl (s16.var 2) h20 (fun _ _ s21 => ?_)
      obtain rfl := Option.some.inj hc10
      exact hN11 _ _ _ _ rfl (s21.fle (.keep (.keep (.skip .nil))))
  · rcases hd with rfl | rfl
    · refine nx_go ?_
      refine st_ret (R := D K ((eO eS) none)) s22 (ev_none (e := eS)) fun _ _ _ s24 rv => ?_
      obtain rfl := Option.some.inj hm
      exact kret _ _ _ _ _ _ _ s24 rv
    · cases hm
def m_wrong_kinds (v_kinds : (List Tx)) : Option Tx :=
  (if (decide (((v_kinds).length : Int) < (2 : Int))) = true then (some ([97, 32, 98, 111, 111, 107, 32, 104, 97, 115, 32, 97, 116, 32, 108, 101, 97, 115, 116, 32, 116, 119, 111, 32, 107, 105, 110, 100, 115] : Tx)) else (Option.bind (m_first_wrong v_kinds) fun t5 => (if (!(t5).isNone) = true then (some ([97, 32, 107, 105, 110, 100, 32, 104, 97, 115, 32, 97, 32, 110, 97, 109, 101] : Tx)) else (Option.bind (m_first_double v_kinds) fun t11 => (if (!(t11).isNone) = true then (some ([97, 32, 107, 105, 110, 100, 32, 115, 116, 97, 110, 100, 115, 32, 116, 119, 105, 99, 101] : Tx)) else (some ([] : Tx)))))))
abbrev sm_wrong_kinds (x : (List Tx)) : Option Tx := m_wrong_kinds x
abbrev sp_wrong_kinds (K : PySem.W.Frag) : Sp := spF (fun x : (List Tx) => [D K ((eL eS) x)]) sm_wrong_kinds (fun r => D K (eS r))
theorem sc_wrong_kinds : FnScope ["kinds"] ["kinds"] (defScope s_wrong_kinds) := ⟨rfl, rfl, rfl, by decide +kernel, rfl, by decide +kernel, by decide +kernel⟩
theorem ok_wrong_kinds {P : Program} {w : World} {K : PySem.W.Frag} {mg : Str → Option Value} {base : Heap} (T : Txt K mg) (h_first_wrong : Fok P w K mg base 3 "first_wrong" ["words"] (sp_first_wrong K)) (h_first_double : Fok P w K mg base 1 "first_double" ["words"] (sp_first_double K)) : Fok P w K mg base 4 "wrong_kinds" ["kinds"] (sp_wrong_kinds K) := by
  refine Fok.mk' T.g_wrong_kinds T.d_wrong_kinds (fun _ _ _ _ _ _ us hl => match us, hl with | [_], _ => rfl) sc_wrong_kinds (fun vs H Q E h => spF_len h) (fun cdv A outer s H vs Q E hr h => ⟨_, by
      exact (pss_cons (ps_if (pt_cmpR op_lt (pe_callB (call_len_seqK (K := K)) (by rfl) T.n_len PySem.boot_len (pa_cons (pv 0) pa_nil)) (pe_globI T.c_LEAST_KINDS) (nomark _)) (pss_one (ps_ret pe_str)) pss_nil) (pss_cons (ps_if (pt_cmpR op_notN (pe_callF h_first_wrong (hr.mono (by decide)) (pa_cons (pv 0) pa_nil)) pe_non (nomark _)) (pss_one (ps_ret pe_str)) pss_nil) (pss_cons (ps_if (pt_cmpR op_notN (pe_callF h_first_double (hr.mono (by decide)) (pa_cons (pv 0) pa_nil)) pe_non (nomark _)) (pss_one (ps_ret pe_str)) pss_nil) (pss_one (ps_ret pe_str))))), ?_⟩)
  refine spF_go h fun G v_kinds r hm s0 kret => ?_
  have hm : m_wrong_kinds v_kinds = _ := hm
  unfold m_wrong_kinds at hm
  refine st_if s0 (et_test (ev_lt (ev_lenLm (e := eS) (EV.lv (s0.var 0))) ev_int)) (fun hb1 _ _ s2 => ?_) (fun hb1 _ _ s3 => ?_)
  · replace hm := oif_t hm hb1
    refine st_ret (R := D K (eS ([97, 32, 98, 111, 111, 107, 32, 104, 97, 115, 32, 97, 116, 32, 108, 101, 97, 115, 116, 32, 116, 119, 111, 32, 107, 105, 110, 100, 115] : Tx))) s2 (ev_strC [97, 32, 98, 111, 111, 107, 32, 104, 97, 115, 32, 97, 116, 32, 108, 101, 97, 115, 116, 32, 116, 119, 111, 32, 107, 105, 110, 100, 115]) fun _ _ _ s4 rv => ?_
    obtain rfl := Option.some.inj hm
    exact kret _ _ _ _ _ _ _ s4 rv
  · replace hm := oif_f hm hb1
    refine st_nil (nx_go ?_)
    obtain ⟨t5, h6, hm⟩ := bnd' hm
    refine st_if s3 (et_test (ev_notO (e := eS) (ha := (ev_call (x := v_kinds) (m := sm_first_wrong) (er := (fun r => D K ((eO eS) r))) (ea_cons (s3.var 0) ea_nil) h6)))) (fun hb7 _ _ s8 => ?_) (fun hb7 _ _ s9 => ?_)
    · replace hm := oif_t hm hb7
      refine st_ret (R := D K (eS ([97, 32, 107, 105, 110, 100, 32, 104, 97, 115, 32, 97, 32, 110, 97, 109, 101] : Tx))) s8 (ev_strC [97, 32, 107, 105, 110, 100, 32, 104, 97, 115, 32, 97, 32, 110, 97, 109, 101]) fun _ _ _ s10 rv => ?_
      obtain rfl := Option.some.inj hm
      exact kret _ _ _ _ _ _ _ s10 rv
    · replace hm := oif_f hm hb7
      refine st_nil (nx_go ?_)
      obtain ⟨t11, h12, hm⟩ := bnd' hm
      refine st_if s9 (et_test (ev_notO (e := eS) (ha := (ev_call (x := v_kinds) (m := sm_first_double) (er := (fun r => D K ((eO eS) r))) (ea_cons (s9.var 0) ea_nil) h12)))) (fun hb13 _ _ s14 => ?_) (fun hb13 _ _ s15 => ?_)
      · replace hm := oif_t hm hb13
        refine st_ret (R := D K (eS ([97, 32, 107, 105, 110, 100, 32, 115, 116, 97, 110, 100, 115, 32, 116, 119, 105, 99, 101] : Tx))) s14 (ev_strC [97, 32, 107, 105, 110, 100, 32, 115, 116, 97, 110, 100, 115, 32, 116, 119, 105, 99, 101]) fun _ _ _ s16 rv => ?_
        obtain rfl := Option.some.inj hm
        exact kret _ _ _ _ _ _ _ s16 rv
      · replace hm := oif_f hm hb13
        refine st_nil (nx_go ?_)
        refine st_ret (R := D K (eS ([] : Tx))) s15 (ev_strC []) fun _ _ _ s17 rv => ?_
        obtain rfl := Option.some.inj hm
        exact kret _ _ _ _ _ _ _ s17 rv
def m_wrong_row (v_known : (List Tx)) (v_width : Int) (v_row : (Bool × List Tx)) : Option Tx :=
  (if (!decide (((v_row).2.length : Int) = v_width)) = true then (some ([97, 32, 114, 111, 119, 32, 104, 97, 115, 32, 97, 115, 32, 109, 97, 110, 121, 32, 107, 105, 110, 100, 115, 32, 97, 115, 32, 105, 116, 115, 32, 114, 117, 108, 101, 32, 105, 115, 32, 119, 105, 100, 101] : Tx)) else Option.bind (loop (ρ := Tx) (fun (st5 : Unit) (x6 : Tx) => (if (!mem x6 v_known) = true then (some (.ret ([97, 32, 114, 111, 119, 32, 104, 97, 115, 32, 107, 105, 110, 100, 115, 32, 111, 102, 32, 116, 104, 101, 32, 98, 111, 111, 107] : Tx))) else some (.go ()))) () (v_row).2) fun c7 => (match c7 with | .ret r => some r | .go st22 => (some ([] : Tx)) | .brk _ => none))
abbrev sm_wrong_row (x : (List Tx) × Int × (Bool × List Tx)) : Option Tx := m_wrong_row x.1 x.2.1 x.2.2
abbrev sp_wrong_row (K : PySem.W.Frag) : Sp := spF (fun x : (List Tx) × Int × (Bool × List Tx) => [fzK K (x.1), D K (eI x.2.1), D K (eU x.2.2)]) sm_wrong_row (fun r => D K (eS r))
theorem sc_wrong_row : FnScope ["known", "width", "row", "kind"] ["known", "width", "row"] (defScope s_wrong_row) := ⟨rfl, rfl, rfl, by decide +kernel, rfl, by decide +kernel, by decide +kernel⟩
theorem ok_wrong_row {P : Program} {w : World} {K : PySem.W.Frag} {mg : Str → Option Value} {base : Heap} (T : Txt K mg)  : Fok P w K mg base 1 "wrong_row" ["known", "width", "row"] (sp_wrong_row K) := by
  refine Fok.mk' T.g_wrong_row T.d_wrong_row (fun _ _ _ _ _ _ us hl => match us, hl with | [_, _, _], _ => rfl) sc_wrong_row (fun vs H Q E h => spF_len h) (fun cdv A outer s H vs Q E hr h => ⟨_, by
      exact (pss_cons (ps_if (pt_cmpR op_ne (pe_callB (call_len_seqK (K := K)) (by rfl) T.n_len PySem.boot_len (pa_cons (pv 2) pa_nil)) (pv 1) (nomark _)) (pss_one (ps_ret pe_str)) pss_nil) (pss_cons (ps_for PassesOwn.never (by rfl) (pi_or (pi_listK (K := K) (pv 2)) (pi_tupK (K := K) (pv 2))) (pg_name (i := 3) sc_wrong_row.nd (by rfl) (Or.inl rfl)) (pss_one (ps_if (pt_cmp (pc_dnotin (hu_of hr) (pv 3) (pv 0))) (pss_one (ps_ret pe_str)) pss_nil))) (pss_one (ps_ret pe_str)))), ?_⟩)
  refine spF_go h fun G x r hm s0 kret => ?_
  obtain ⟨v_known, v_width, v_row⟩ := x
  have hm : m_wrong_row v_known v_width v_row = _ := hm
  unfold m_wrong_row at hm
  refine st_if s0 (et_test (ev_neI (ev_lenU (s0.var 2)) (s0.var 1))) (fun hb1 _ _ s2 => ?_) (fun hb1 _ _ s3 => ?_)
  · replace hm := oif_t hm hb1
    refine st_ret (R := D K (eS ([97, 32, 114, 111, 119, 32, 104, 97, 115, 32, 97, 115, 32, 109, 97, 110, 121, 32, 107, 105, 110, 100, 115, 32, 97, 115, 32, 105, 116, 115, 32, 114, 117, 108, 101, 32, 105, 115, 32, 119, 105, 100, 101] : Tx))) s2 (ev_strC [97, 32, 114, 111, 119, 32, 104, 97, 115, 32, 97, 115, 32, 109, 97, 110, 121, 32, 107, 105, 110, 100, 115, 32, 97, 115, 32, 105, 116, 115, 32, 114, 117, 108, 101, 32, 105, 115, 32, 119, 105, 100, 101]) fun _ _ _ s4 rv => ?_
    obtain rfl := Option.some.inj hm
    exact kret _ _ _ _ _ _ _ s4 rv
  · replace hm := oif_f hm hb1
    refine st_nil (nx_go ?_)
    obtain ⟨c7, h8, hm⟩ := bnd' hm
    refine st_for (fun (st5 : Unit) => [some (fzK K (v_known)), some (D K (eI v_width)), some (D K (eU v_row)), none]) (fun (st5 : Unit) => []) (s3.fle (.keep (.keep (.keep (.skip .nil))))) (es_U (s3.var 2)) h8 (fun _ st5 x6 _ _ _ _ _ hx11 hc12 s9 _ hN13 hB14 hR15 => ?_) (fun st22 _ _ _ hd s21 => ?_)
    · refine st_bind s9 fun _ _ s10 => ?_
      refine st_if s10 (et_B (ev_dniK (s10.var 3) (s10.var 0))) (fun hb16 _ _ s17 => ?_) (fun hb16 _ _ s18 => ?_)
      · replace hc12 := oif_t hc12 hb16
        refine st_ret (R := D K (eS ([97, 32, 114, 111, 119, 32, 104, 97, 115, 32, 107, 105, 110, 100, 115, 32, 111, 102, 32, 116, 104, 101, 32, 98, 111, 111, 107] : Tx))) s17 (ev_strC [97, 32, 114, 111, 119, 32, 104, 97, 115, 32, 107, 105, 110, 100, 115, 32, 111, 102, 32, 116, 104, 101, 32, 98, 111, 111, 107]) fun _ _ _ s19 rv => ?_
        obtain rfl := Option.some.inj hc12
        have hc20 := hR15 _ rfl
        rw [hc20] at hm
        obtain rfl := Option.some.inj hm
        exact kret _ _ _ _ _ _ _ s19 rv
      · replace hc12 := oif_f hc12 hb16
        refine st_nil ?_
        obtain rfl := Option.some.inj hc12
        exact hN13 _ _ _ _ rfl (s18.fle (.keep (.keep (.keep (.skip .nil)))))
    · rcases hd with rfl | rfl
      · refine nx_go ?_
        refine st_ret (R := D K (eS ([] : Tx))) s21 (ev_strC []) fun _ _ _ s23 rv => ?_
        obtain rfl := Option.some.inj hm
        exact kret _ _ _ _ _ _ _ s23 rv
      · cases hm
def m_wrong_rows (v_known : (List Tx)) (v_width : Int) (v_rows : (List (Bool × List Tx))) : Option Tx :=
  Option.bind (loop (ρ := Tx) (fun (st3 : (List (List (List Nat) × Bool))) (x4 : (Bool × List Tx)) => (Option.bind (m_wrong_row v_known v_width x4) fun t14 => (if (!(t14).isEmpty) = true then (some (.ret t14)) else (if ((look st3 (x4).2).isSome) = true then (some (.ret ([97, 32, 114, 111, 119, 32, 115, 116, 97, 110, 100, 115, 32, 116, 119, 105, 99, 101] : Tx))) else (Option.bind (Fm.dput st3 (x4).2 true) fun t28 => some (.go t28)))))) ([] : List (List (List Nat) × Bool)) v_rows) fun c5 => (match c5 with | .ret r => some r | .go st32 => (some ([] : Tx)) | .brk _ => none)
abbrev sm_wrong_rows (x : (List Tx) × Int × (List (Bool × List Tx))) : Option Tx := m_wrong_rows x.1 x.2.1 x.2.2
abbrev sp_wrong_rows (K : PySem.W.Frag) : Sp := spF (fun x : (List Tx) × Int × (List (Bool × List Tx)) => [fzK K (x.1), D K (eI x.2.1), D K ((eL eU) x.2.2)]) sm_wrong_rows (fun r => D K (eS r))
theorem sc_wrong_rows : FnScope ["known", "width", "rows", "seen", "row", "why", "told"] ["known", "width", "rows"] (defScope s_wrong_rows) := ⟨rfl, rfl, rfl, by decide +kernel, rfl, by decide +kernel, by decide +kernel⟩
theorem ok_wrong_rows {P : Program} {w : World} {K : PySem.W.Frag} {mg : Str → Option Value} {base : Heap} (T : Txt K mg) (h_wrong_row : Fok P w K mg base 1 "wrong_row" ["known", "width", "row"] (sp_wrong_row K)) : Fok P w K mg base 2 "wrong_rows" ["known", "width", "rows"] (sp_wrong_rows K) := by
  refine Fok.mk' T.g_wrong_rows T.d_wrong_rows (fun _ _ _ _ _ _ us hl => match us, hl with | [_, _, _], _ => rfl) sc_wrong_rows (fun vs H Q E h => spF_len h) (fun cdv A outer s H vs Q E hr h => ⟨_, by
      exact (pss_cons (ps_set (i := 3) sc_wrong_rows.nd (by rfl) (Or.inl rfl) pe_dnewT) (pss_cons (ps_for PassesOwn.never (by rfl) (pi_listK (K := K) (pv 2)) (pg_name (i := 4) sc_wrong_rows.nd (by rfl) (Or.inl rfl)) (pss_cons (ps_set (i := 5) sc_wrong_rows.nd (by rfl) (Or.inl rfl) (pe_callF h_wrong_row (hr.mono (by decide)) (pa_cons (pv 0) (pa_cons (pv 1) (pa_cons (pv 4) pa_nil))))) (pss_cons (ps_if (pt_truth (pv 5) (by intro _; rfl)) (pss_one (ps_ret (pv 5))) pss_nil) (pss_cons (ps_set (i := 6) sc_wrong_rows.nd (by rfl) (Or.inl rfl) (pe_callTy (call_tuple_ofK (K := K)) (by rfl) T.n_tuple boot_tuple (pa_cons (pv 4) pa_nil))) (pss_cons (ps_if (pt_cmp (pc_din (hu_of hr) (pv 6) (pv 3))) (pss_one (ps_ret pe_str)) pss_nil) (pss_one (ps_dput (hu_of hr) (pv 3) (pv 6) pe_bl (by rfl)))))))) (pss_one (ps_ret pe_str)))), ?_⟩)
  refine spF_go h fun G x r hm s0 kret => ?_
  obtain ⟨v_known, v_width, v_rows⟩ := x
  have hm : m_wrong_rows v_known v_width v_rows = _ := hm
  unfold m_wrong_rows at hm
  refine st_dnew (K := K) (mk := HO.dT) (f := keyT) s0 (fun p2 _ _ _ hpp2 s1 => ?_)
  refine nx_go ?_
  obtain ⟨c5, h6, hm⟩ := bnd' hm
  refine st_for (fun (st3 : (List (List (List Nat) × Bool))) => [some (fzK K (v_known)), some (D K (eI v_width)), some (D K ((eL eU) v_rows)), some (isV (.ref p2)), none, none, none]) (fun (st3 : (List (List (List Nat) × Bool))) => [(p2, Fz.ownD K HO.dT keyT ((st3).map fun p => (p.1, D K (eB p.2))))]) (s1.fle (.keep (.keep (.keep (.keep (.skip (.skip (.skip .nil)))))))) (es_list (e := eU) (s1.var 2)) h6 (fun _ st3 x4 _ _ _ _ _ hx9 hc10 s7 _ hN11 hB12 hR13 => ?_) (fun st32 _ _ _ hd s31 => ?_)
  · refine st_bind s7 fun _ _ s8 => ?_
    obtain ⟨t14, h15, hc10⟩ := bnd' hc10
    refine st_set (R := D K (eS t14)) s8 (ev_call (x := (v_known, v_width, x4)) (m := sm_wrong_row) (er := (fun r => D K (eS r))) (ea_cons (s8.var 0) (ea_cons (s8.var 1) (ea_cons (s8.var 4) ea_nil))) h15) (fun _ _ _ s16 => ?_)
    refine nx_go ?_
    refine st_if s16 (et_truS (s16.var 5)) (fun hb17 _ _ s18 => ?_) (fun hb17 _ _ s19 => ?_)
    · replace hc10 := oif_t hc10 hb17
      refine st_ret (R := D K (eS t14)) s18 (s18.var 5) fun _ _ _ s20 rv => ?_
      obtain rfl := Option.some.inj hc10
      have hc21 := hR13 _ rfl
      rw [hc21] at hm
      obtain rfl := Option.some.inj hm
      exact kret _ _ _ _ _ _ _ s20 rv
    · replace hc10 := oif_f hc10 hb17
      refine st_nil (nx_go ?_)
      refine st_set (R := D K ((eT eS) (x4).2)) s19 (ev_tupleU (s19.var 4)) (fun _ _ _ s22 => ?_)
      refine nx_go ?_
      refine st_if s22 (et_B (ev_dinT (e := eB) keyM_T (s22.var 6) (SA.ownD (mk := HO.dT) (f := keyT) s22 3 0))) (fun hb23 _ _ s24 => ?_) (fun hb23 _ _ s25 => ?_)
      · replace hc10 := oif_t hc10 hb23
        refine st_ret (R := D K (eS ([97, 32, 114, 111, 119, 32, 115, 116, 97, 110, 100, 115, 32, 116, 119, 105, 99, 101] : Tx))) s24 (ev_strC [97, 32, 114, 111, 119, 32, 115, 116, 97, 110, 100, 115, 32, 116, 119, 105, 99, 101]) fun _ _ _ s26 rv => ?_
        obtain rfl := Option.some.inj hc10
        have hc27 := hR13 _ rfl
        rw [hc27] at hm
        obtain rfl := Option.some.inj hm
        exact kret _ _ _ _ _ _ _ s26 rv
      · replace hc10 := oif_f hc10 hb23
        refine st_nil (nx_go ?_)
        obtain ⟨t28, h29, hc10⟩ := bnd' hc10
        refine st_dputT (e := eB) keyM_T s25 3 0 ev_bl (s25.var 6) h29 (fun _ _ s30 => ?_)
        obtain rfl := Option.some.inj hc10
        exact hN11 _ _ _ _ rfl (s30.fle (.keep (.keep (.keep (.keep (.skip (.skip (.skip .nil))))))))
  · rcases hd with rfl | rfl
    · refine nx_go ?_
      refine st_ret (R := D K (eS ([] : Tx))) s31 (ev_strC []) fun _ _ _ s33 rv => ?_
      obtain rfl := Option.some.inj hm
      exact kret _ _ _ _ _ _ _ s33 rv
    · cases hm
def m_wrong_rules (v_kinds : (List Tx)) (v_rules : (List (Tx × Int × (List (Bool × List Tx))))) : Option Tx :=
  (Option.bind (fold (dstep (fun (x1 : Tx) => (some (x1, true)))) [] v_kinds) fun t2 => Option.bind (loop (ρ := Tx) (fun (st12 : (List (Tx × Bool))) (x13 : (Tx × Int × (List (Bool × List Tx)))) => (Option.bind (m_plain_name x13.1) fun t23 => (if (!t23) = true then (some (.ret ([97, 32, 114, 117, 108, 101, 32, 104, 97, 115, 32, 97, 32, 110, 97, 109, 101] : Tx))) else (if ((look st12 x13.1).isSome) = true then (some (.ret ([116, 119, 111, 32, 114, 117, 108, 101, 115, 32, 104, 97, 118, 101, 32, 116, 104, 101, 32, 115, 97, 109, 101, 32, 110, 97, 109, 101] : Tx))) else (Option.bind (Fm.dput st12 x13.1 true) fun t35 => (if (!((decide ((1 : Int) ≤ x13.2.1)) && (decide (x13.2.1 ≤ (4 : Int))))) = true then (some (.ret ([97, 32, 119, 105, 100, 116, 104, 32, 105, 115, 32, 97, 32, 110, 117, 109, 98, 101, 114, 32, 102, 114, 111, 109, 32, 49, 32, 116, 111, 32, 52] : Tx))) else (Option.bind (m_wrong_rows ((t2).map (·.1)) x13.2.1 x13.2.2) fun t43 => (if (!(t43).isEmpty) = true then (some (.ret t43)) else some (.go t35))))))))) ([] : List (Tx × Bool)) v_rules) fun c14 => (match c14 with | .ret r => some r | .go st52 => (some ([] : Tx)) | .brk _ => none))
abbrev sm_wrong_rules (x : (List Tx) × (List (Tx × Int × (List (Bool × List Tx))))) : Option Tx := m_wrong_rules x.1 x.2
abbrev sp_wrong_rules (K : PySem.W.Frag) : Sp := spF (fun x : (List Tx) × (List (Tx × Int × (List (Bool × List Tx)))) => [D K ((eL eS) x.1), D K ((eL (eP3 eS eI (eL eU))) x.2)]) sm_wrong_rules (fun r => D K (eS r))
theorem sc_wrong_rules : FnScope ["kinds", "rules", "known", "seen", "name", "width", "rows", "why", "kind"] ["kinds", "rules"] (defScope s_wrong_rules) := ⟨rfl, rfl, rfl, by decide +kernel, rfl, by decide +kernel, by decide +kernel⟩
theorem ok_wrong_rules {P : Program} {w : World} {K : PySem.W.Frag} {mg : Str → Option Value} {base : Heap} (T : Txt K mg) (h_plain_name : Fok P w K mg base 2 "plain_name" ["word"] (sp_plain_name K)) (h_wrong_rows : Fok P w K mg base 2 "wrong_rows" ["known", "width", "rows"] (sp_wrong_rows K)) : Fok P w K mg base 3 "wrong_rules" ["kinds", "rules"] (sp_wrong_rules K) := by
  refine Fok.mk' T.g_wrong_rules T.d_wrong_rules (fun _ _ _ _ _ _ us hl => match us, hl with | [_, _], _ => rfl) sc_wrong_rules (fun vs H Q E h => spF_len h) (fun cdv A outer s H vs Q E hr h => ⟨_, by
      exact (pss_cons (ps_setDc (i := 2) (own := [("kind", 8)]) (by rfl) sc_wrong_rules.nd (by rfl) (by rfl) (sw_trueD (by rfl) (by rfl) (by rfl) (by decide +kernel)) (pi_listK (K := K) (pv 0)) (blkOk_by (N := ["kinds", "rules", "known", "seen", "name", "width", "rows", "why", "kind"]) (sc := defScope s_wrong_rules) (by decide +kernel)) (fun _ _ _ _ _ => (pg_name (i := 8) sc_wrong_rules.nd (by rfl) (Or.inl rfl))) (fun _ _ _ _ _ => pts_nil) (fun _ _ _ _ _ => (pv 8)) (fun _ _ _ _ _ => pe_bl)) (pss_cons (ps_set (i := 3) sc_wrong_rules.nd (by rfl) (Or.inl rfl) pe_dnewK) (pss_cons (ps_for PassesOwn.never (by rfl) (pi_listK (K := K) (pv 1)) (pg_tupK (K := K) (n := 3) (by rfl) (pgs_cons (pg_name (i := 4) sc_wrong_rules.nd (by rfl) (Or.inl rfl)) (pgs_cons (pg_name (i := 5) sc_wrong_rules.nd (by rfl) (Or.inl rfl)) (pgs_cons (pg_name (i := 6) sc_wrong_rules.nd (by rfl) (Or.inl rfl)) pgs_nil)))) (pss_cons (ps_if (pt_not (pt_val (pe_callF h_plain_name (hr.mono (by decide)) (pa_cons (pv 4) pa_nil)))) (pss_one (ps_ret pe_str)) pss_nil) (pss_cons (ps_if (pt_cmp (pc_din (hu_of hr) (pv 4) (pv 3))) (pss_one (ps_ret pe_str)) pss_nil) (pss_cons (ps_dput (hu_of hr) (pv 3) (pv 4) pe_bl (by rfl)) (pss_cons (ps_if (pt_not (pt_chain op_le op_le pe_int (pv 5) (pe_globI T.c_WIDEST))) (pss_one (ps_ret pe_str)) pss_nil) (pss_cons (ps_set (i := 7) sc_wrong_rules.nd (by rfl) (Or.inl rfl) (pe_callF h_wrong_rows (hr.mono (by decide)) (pa_cons (pv 2) (pa_cons (pv 5) (pa_cons (pv 6) pa_nil))))) (pss_one (ps_if (pt_truth (pv 7) (by intro _; rfl)) (pss_one (ps_ret (pv 7))) pss_nil)))))))) (pss_one (ps_ret pe_str))))), ?_⟩)
  refine spF_go h fun G x r hm s0 kret => ?_
  obtain ⟨v_kinds, v_rules⟩ := x
  have hm : m_wrong_rules v_kinds v_rules = _ := hm
  unfold m_wrong_rules at hm
  obtain ⟨t2, h3, hm⟩ := bnd' hm
  refine st_set (R := (Fz.fzD K HO.dK keyS ((t2).map fun p => (p.1, D K (eB p.2))))) s0 (EDN.ev (edn_dc (mk := HO.dK) (f := keyS) (ek := eS) (vs := [8]) (e := fun a => D K (eB a)) keyM_S stpOk_S s0 (eso_list (e := eS) (EV.lv (s0.var 0))) h3 (fun _ x1 pr5 _ ho6 _ _ _ _ s81 _ k7 => by
        refine st_bind s81 fun _ hw9 s8 => ?_
        have hk := ho6
        obtain rfl := Option.some.inj hk
        exact k7 _ (hw9 _ (by decide)) (s8.var 8) ev_bl))) (fun _ _ _ s4 => ?_)
  refine nx_go ?_
  refine st_dnew (K := K) (mk := HO.dK) (f := keyS) s4 (fun p11 _ _ _ hpp11 s10 => ?_)
  refine nx_go ?_
  obtain ⟨c14, h15, hm⟩ := bnd' hm
  refine st_for (fun (st12 : (List (Tx × Bool))) => [some (D K ((eL eS) v_kinds)), some (D K ((eL (eP3 eS eI (eL eU))) v_rules)), some (Fz.fzD K HO.dK keyS ((t2).map fun p => (p.1, D K (eB p.2)))), some (isV (.ref p11)), none, none, none, none, none]) (fun (st12 : (List (Tx × Bool))) => [(p11, Fz.ownD K HO.dK keyS ((st12).map fun p => (p.1, D K (eB p.2))))]) (s10.fle (.keep (.keep (.keep (.keep (.skip (.skip (.skip (.skip (.skip .nil)))))))))) (es_list (e := (eP3 eS eI (eL eU))) (s10.var 1)) h15 (fun _ st12 x13 _ _ _ _ _ hx18 hc19 s16 _ hN20 hB21 hR22 => ?_) (fun st52 _ _ _ hd s51 => ?_)
  · refine st_bind3 s16 fun _ _ s17 => ?_
    obtain ⟨t23, h24, hc19⟩ := bnd' hc19
    refine st_if s17 (et_not (et_B (ev_call (x := x13.1) (m := sm_plain_name) (er := (fun r => D K (eB r))) (ea_cons (s17.var 4) ea_nil) h24))) (fun hb25 _ _ s26 => ?_) (fun hb25 _ _ s27 => ?_)
    · replace hc19 := oif_t hc19 hb25
      refine st_ret (R := D K (eS ([97, 32, 114, 117, 108, 101, 32, 104, 97, 115, 32, 97, 32, 110, 97, 109, 101] : Tx))) s26 (ev_strC [97, 32, 114, 117, 108, 101, 32, 104, 97, 115, 32, 97, 32, 110, 97, 109, 101]) fun _ _ _ s28 rv => ?_
      obtain rfl := Option.some.inj hc19
      have hc29 := hR22 _ rfl
      rw [hc29] at hm
      obtain rfl := Option.some.inj hm
      exact kret _ _ _ _ _ _ _ s28 rv
    · replace hc19 := oif_f hc19 hb25
      refine st_nil (nx_go ?_)
      refine st_if s27 (et_B (ev_dinT (e := eB) keyM_S (s27.var 4) (SA.ownD (mk := HO.dK) (f := keyS) s27 3 0))) (fun hb30 _ _ s31 => ?_) (fun hb30 _ _ s32 => ?_)
      · replace hc19 := oif_t hc19 hb30
        refine st_ret (R := D K (eS ([116, 119, 111, 32, 114, 117, 108, 101, 115, 32, 104, 97, 118, 101, 32, 116, 104, 101, 32, 115, 97, 109, 101, 32, 110, 97, 109, 101] : Tx))) s31 (ev_strC [116, 119, 111, 32, 114, 117, 108, 101, 115, 32, 104, 97, 118, 101, 32, 116, 104, 101, 32, 115, 97, 109, 101, 32, 110, 97, 109, 101]) fun _ _ _ s33 rv => ?_
        obtain rfl := Option.some.inj hc19
        have hc34 := hR22 _ rfl
        rw [hc34] at hm
        obtain rfl := Option.some.inj hm
        exact kret _ _ _ _ _ _ _ s33 rv
      · replace hc19 := oif_f hc19 hb30
        refine st_nil (nx_go ?_)
        obtain ⟨t35, h36, hc19⟩ := bnd' hc19
        refine st_dputT (e := eB) keyM_S s32 3 0 ev_bl (s32.var 4) h36 (fun _ _ s37 => ?_)
        refine nx_go ?_
        refine st_if s37 (et_not (et_test (ev_chain ev_int (s37.var 5) ev_int))) (fun hb38 _ _ s39 => ?_) (fun hb38 _ _ s40 => ?_)
        · replace hc19 := oif_t hc19 hb38
          refine st_ret (R := D K (eS ([97, 32, 119, 105, 100, 116, 104, 32, 105, 115, 32, 97, 32, 110, 117, 109, 98, 101, 114, 32, 102, 114, 111, 109, 32, 49, 32, 116, 111, 32, 52] : Tx))) s39 (ev_strC [97, 32, 119, 105, 100, 116, 104, 32, 105, 115, 32, 97, 32, 110, 117, 109, 98, 101, 114, 32, 102, 114, 111, 109, 32, 49, 32, 116, 111, 32, 52]) fun _ _ _ s41 rv => ?_
          obtain rfl := Option.some.inj hc19
          have hc42 := hR22 _ rfl
          rw [hc42] at hm
          obtain rfl := Option.some.inj hm
          exact kret _ _ _ _ _ _ _ s41 rv
        · replace hc19 := oif_f hc19 hb38
          refine st_nil (nx_go ?_)
          obtain ⟨t43, h44, hc19⟩ := bnd' hc19
          refine st_set (R := D K (eS t43)) s40 (ev_call (x := (((t2).map (·.1)), x13.2.1, x13.2.2)) (m := sm_wrong_rows) (er := (fun r => D K (eS r))) (ea_cons (ev_fzK (e := eB) (s40.var 2)) (ea_cons (s40.var 5) (ea_cons (s40.var 6) ea_nil))) h44) (fun _ _ _ s45 => ?_)
          refine nx_go ?_
          refine st_if s45 (et_truS (s45.var 7)) (fun hb46 _ _ s47 => ?_) (fun hb46 _ _ s48 => ?_)
          · replace hc19 := oif_t hc19 hb46
            refine st_ret (R := D K (eS t43)) s47 (s47.var 7) fun _ _ _ s49 rv => ?_
            obtain rfl := Option.some.inj hc19
            have hc50 := hR22 _ rfl
            rw [hc50] at hm
            obtain rfl := Option.some.inj hm
            exact kret _ _ _ _ _ _ _ s49 rv
          · replace hc19 := oif_f hc19 hb46
            refine st_nil ?_
            obtain rfl := Option.some.inj hc19
            exact hN20 _ _ _ _ rfl (s48.fle (.keep (.keep (.keep (.keep (.skip (.skip (.skip (.skip (.skip .nil))))))))))
  · rcases hd with rfl | rfl
    · refine nx_go ?_
      refine st_ret (R := D K (eS ([] : Tx))) s51 (ev_strC []) fun _ _ _ s53 rv => ?_
      obtain rfl := Option.some.inj hm
      exact kret _ _ _ _ _ _ _ s53 rv
    · cases hm
def m_ordered_rows (v_known : (List (Tx × Int))) (v_rows : (List (Bool × List Tx))) : Option (List (List Tx)) :=
  (Option.bind (fold (dstep (fun (x1 : (Bool × List Tx)) => (Option.bind (comp (fun (x2 : Tx) => (Option.bind (look v_known x2) fun t3 => some (some t3))) (x1).2) fun t5 => some (t5, (x1).2)))) [] v_rows) fun t7 => (Option.bind (Fm.sortV t7) fun t21 => some t21))
abbrev sm_ordered_rows (x : (List (Tx × Int)) × (List (Bool × List Tx))) : Option (List (List Tx)) := m_ordered_rows x.1 x.2
abbrev sp_ordered_rows (K : PySem.W.Frag) : Sp := spF (fun x : (List (Tx × Int)) × (List (Bool × List Tx)) => [Fz.fzD K HO.dK keyS ((x.1).map fun p => (p.1, D K (eI p.2))), D K ((eL eU) x.2)]) sm_ordered_rows (fun r => D K ((eT (eT eS)) r))
theorem sc_ordered_rows : FnScope ["known", "rows", "by_marks", "row", "kind", "marks"] ["known", "rows"] (defScope s_ordered_rows) := ⟨rfl, rfl, rfl, by decide +kernel, rfl, by decide +kernel, by decide +kernel⟩
theorem ok_ordered_rows {P : Program} {w : World} {K : PySem.W.Frag} {mg : Str → Option Value} {base : Heap} (T : Txt K mg)  : Fok P w K mg base 1 "ordered_rows" ["known", "rows"] (sp_ordered_rows K) := by
  refine Fok.mk' T.g_ordered_rows T.d_ordered_rows (fun _ _ _ _ _ _ us hl => match us, hl with | [_, _], _ => rfl) sc_ordered_rows (fun vs H Q E h => spF_len h) (fun cdv A outer s H vs Q E hr h => ⟨_, by
      exact (pss_cons (ps_set (i := 2) sc_ordered_rows.nd (by rfl) (Or.inr rfl) (pe_dcT (hu_of hr) (own := [("row", 3)]) (by rfl) sc_ordered_rows.nd (pi_listK (K := K) (pv 1)) (blkOk_by (N := ["known", "rows", "by_marks", "row", "kind", "marks"]) (sc := defScope s_ordered_rows) (by decide +kernel)) (fun _ _ _ _ _ => (pg_name (i := 3) sc_ordered_rows.nd (by rfl) (Or.inl rfl))) (fun _ _ _ _ _ => pts_nil) (fun _ _ _ _ _ => (pe_callTy (call_tuple_ofK (K := K)) (by rfl) T.n_tuple boot_tuple (pa_cons (pe_lc (own := [("kind", 4)]) (by rfl) sc_ordered_rows.nd (pi_or (pi_listK (K := K) (pv 3)) (pi_tupK (K := K) (pv 3))) (blkOk_by (N := ["known", "rows", "by_marks", "row", "kind", "marks"]) (sc := _) (by rfl)) (fun _ _ _ _ _ => (pg_name (i := 4) sc_ordered_rows.nd (by rfl) (Or.inl rfl))) (fun _ _ _ _ _ => pts_nil) (fun _ _ _ _ _ => (pe_dget (hu_of hr) (pv 0) (pv 4) (fun _ _ => rfl)))) pa_nil))) (fun _ _ _ _ _ => (pe_callTy (call_tuple_ofK (K := K)) (by rfl) T.n_tuple boot_tuple (pa_cons (pv 3) pa_nil))))) (pss_one (ps_ret (pe_callTy (call_tuple_ofK (K := K)) (by rfl) T.n_tuple boot_tuple (pa_cons (pe_lc (own := [("marks", 5)]) (by rfl) sc_ordered_rows.nd (pi_listK (K := K) (pe_callB (cr_sortedD (by rfl)) (by rfl) T.n_sorted boot_sorted (pa_cons (pv 2) pa_nil))) (blkOk_by (N := ["known", "rows", "by_marks", "row", "kind", "marks"]) (sc := defScope s_ordered_rows) (by decide +kernel)) (fun _ _ _ _ _ => (pg_name (i := 5) sc_ordered_rows.nd (by rfl) (Or.inl rfl))) (fun _ _ _ _ _ => pts_nil) (fun _ _ _ _ _ => (pe_dget (hu_of hr) (pv 2) (pv 5) (fun _ _ => rfl)))) pa_nil))))), ?_⟩)
  refine spF_go h fun G x r hm s0 kret => ?_
  obtain ⟨v_known, v_rows⟩ := x
  have hm : m_ordered_rows v_known v_rows = _ := hm
  unfold m_ordered_rows at hm
  obtain ⟨t7, h8, hm⟩ := bnd' hm
  refine st_ownDN (K := K) s0 (edn_dc (mk := HO.dT) (f := keyI) (ek := (eT eI)) (vs := [3]) (e := fun a => D K ((eT eS) a)) keyM_I stpOk_I s0 (eso_list (e := eU) (EV.lv (s0.var 1))) h8 (fun _ x1 pr11 _ ho12 _ _ _ _ s141 _ k13 => by
        refine st_bind s141 fun _ hw15 s14 => ?_
        have hk := ho12
        obtain ⟨t5, h6, hk⟩ := bnd' hk
        obtain rfl := Option.some.inj hk
        exact k13 _ (hw15 _ (by decide)) (ev_tupleL (EV.lv (EN.ev (en_lc (e' := eI) (vs := [4]) s14 (ES.o (es_U (s14.var 3))) h6 (fun _ x2 o16 _ ho17 _ _ _ _ s191 _ k18 => by
              refine st_bind s191 fun _ hw20 s19 => ?_
              have hk := ho17
              obtain ⟨t3, h4, hk⟩ := bnd' hk
              obtain rfl := Option.some.inj hk
              exact k18 _ (hw20 _ (by decide)) et_yes (fun y hy => by cases hy; exact (ev_dgetT (e := eI) keyM_S (SA.fzD (mk := HO.dK) (f := keyS) s19 0) (s19.var 4) h4))))))) (ev_tupleU (s14.var 3)))) (fun p10 _ _ _ hpp10 s9 => ?_)
  refine nx_go ?_
  obtain ⟨t21, h22, hm⟩ := bnd' hm
  refine st_ret (R := D K ((eT (eT eS)) t21)) s9 (ev_tupleL (EV.lv (EN.ev (en_sorted (e := (eT eS)) s9 2 0 5 h22)))) fun _ _ _ s23 rv => ?_
  obtain rfl := Option.some.inj hm
  exact kret _ _ _ _ _ _ _ s23 rv
end K0
set_option Elab.async false
set_option linter.all false
set_option maxRecDepth 100000
set_option maxHeartbeats 4000000
namespace K0
open PySem PySem.Spec PyProof.Rows L2 Fz

def m_BookParts_init (v_kind_row : (List Tx)) (v_rule_row : (List (Tx × Int × (List (List Tx))))) : Option ((List Tx) × (List (Tx × Int × (List (List Tx))))) :=
  some (v_kind_row, v_rule_row)
abbrev sm_BookParts_init (x : (List Tx) × (List (Tx × Int × (List (List Tx))))) : Option ((List Tx) × (List (Tx × Int × (List (List Tx))))) := m_BookParts_init x.1 x.2
abbrev rs_BookParts (K : PySem.W.Frag) (y : ((List Tx) × (List (Tx × Int × (List (List Tx)))))) : List (Str × RP) := [("kind_row", D K ((eT eS) y.1)), ("rule_row", D K ((eT (eP3 eS eI (eT (eT eS)))) y.2))]
abbrev sp_BookParts_init (K : PySem.W.Frag) : Sp := spInit (He.ga K "BookParts") (fun x : (List Tx) × (List (Tx × Int × (List (List Tx)))) => [D K ((eT eS) x.1), D K ((eT (eP3 eS eI (eT (eT eS)))) x.2)]) sm_BookParts_init (fun y => rs_BookParts K y)
theorem sc_BookParts_init : FnScope ["self", "kind_row", "rule_row"] ["self", "kind_row", "rule_row"] (defScope s_BookParts_init) := ⟨rfl, rfl, rfl, by decide +kernel, rfl, by decide +kernel, by decide +kernel⟩
theorem ok_BookParts_init {P : Program} {w : World} {K : PySem.W.Frag} {mg : Str → Option Value} {base : Heap} (T : Txt K mg)  : Mok P w K mg base 1 "BookParts" "__init__" ["self", "kind_row", "rule_row"] (sp_BookParts_init K) := by
  refine Mok.mk' T.d_BookParts_init (fun _ _ _ _ _ _ us hl => match us, hl with | [_, _, _], _ => rfl) sc_BookParts_init (fun vs H Q E h => spInit_len h) (fun cdv A outer s H vs Q E hr h => ⟨_, by
      exact (pss_cons (ps_fld (pv 0) (pv 1) (by rfl)) (pss_one (ps_fld (pv 0) (pv 2) (by rfl)))), ?_⟩)
  refine spInit_go h fun b0 G x y hm s0 kret => ?_
  obtain ⟨v_kind_row, v_rule_row⟩ := x
  have hm : m_BookParts_init v_kind_row v_rule_row = _ := hm
  unfold m_BookParts_init at hm
  refine st_fldN (R := D K ((eT eS) v_kind_row)) s0 0 0 [] T.cl_BookParts T.na_BookParts_kind_row (s0.var 1) (fun _ _ s1 => ?_)
  refine nx_go ?_
  refine st_fldN (R := D K ((eT (eP3 eS eI (eT (eT eS)))) v_rule_row)) s1 0 0 ["kind_row"] T.cl_BookParts T.na_BookParts_rule_row (s1.var 2) (fun _ _ s2 => ?_)
  obtain rfl := Option.some.inj hm
  exact kret _ _ _ _ _ _ s2 (List.Mem.head _)
def m_listed_book (v_kinds : (List Tx)) (v_rules : (List (Tx × Int × (List (Bool × List Tx))))) : Option ((List Tx) × (List (Tx × Int × (List (List Tx))))) :=
  (Option.bind (m_wrong_kinds v_kinds) fun t1 => Option.bind (if (!(!(t1).isEmpty)) = true then (Option.bind (m_wrong_rules v_kinds v_rules) fun t14 => some t14) else some t1) fun (st8 : Tx) => (if (!(st8).isEmpty) = true then (none : Option _) else (Option.bind (fold (dstep (fun (x20 : (Int × Tx)) => (some (x20.2, x20.1)))) [] (enumL v_kinds)) fun t21 => (Option.bind (comp (fun (x29 : (Tx × Int × (List (Bool × List Tx)))) => (Option.bind (m_ordered_rows t21 x29.2.2) fun t30 => some (some (x29.1, x29.2.1, t30)))) v_rules) fun t32 => (Option.bind (m_BookParts_init v_kinds t32) fun t40 => some t40)))))
abbrev sm_listed_book (x : (List Tx) × (List (Tx × Int × (List (Bool × List Tx))))) : Option ((List Tx) × (List (Tx × Int × (List (List Tx))))) := m_listed_book x.1 x.2
abbrev sp_listed_book (K : PySem.W.Frag) : Sp := spF (fun x : (List Tx) × (List (Tx × Int × (List (Bool × List Tx)))) => [D K ((eL eS) x.1), D K ((eL (eP3 eS eI (eL eU))) x.2)]) sm_listed_book (fun r => Fz.fzI (He.ga K "BookParts") (rs_BookParts K r))
theorem sc_listed_book : FnScope ["kinds", "rules", "why", "known", "rule_row", "at", "kind", "name", "width", "rows"] ["kinds", "rules"] (defScope s_listed_book) := ⟨rfl, rfl, rfl, by decide +kernel, rfl, by decide +kernel, by decide +kernel⟩
theorem ok_listed_book {P : Program} {w : World} {K : PySem.W.Frag} {mg : Str → Option Value} {base : Heap} (T : Txt K mg) (h_wrong_kinds : Fok P w K mg base 4 "wrong_kinds" ["kinds"] (sp_wrong_kinds K)) (h_wrong_rules : Fok P w K mg base 3 "wrong_rules" ["kinds", "rules"] (sp_wrong_rules K)) (h_ordered_rows : Fok P w K mg base 1 "ordered_rows" ["known", "rows"] (sp_ordered_rows K)) (h_BookParts_init : Mok P w K mg base 1 "BookParts" "__init__" ["self", "kind_row", "rule_row"] (sp_BookParts_init K)) : Fok P w K mg base 5 "listed_book" ["kinds", "rules"] (sp_listed_book K) := by
  refine Fok.mk' T.g_listed_book T.d_listed_book (fun _ _ _ _ _ _ us hl => match us, hl with | [_, _], _ => rfl) sc_listed_book (fun vs H Q E h => spF_len h) (fun cdv A outer s H vs Q E hr h => ⟨_, by
      exact (pss_cons (ps_set (i := 2) sc_listed_book.nd (by rfl) (Or.inl rfl) (pe_callF h_wrong_kinds (hr.mono (by decide)) (pa_cons (pv 0) pa_nil))) (pss_cons (ps_if (pt_not (pt_truth (pv 2) (by intro _; rfl))) (pss_one (ps_set (i := 2) sc_listed_book.nd (by rfl) (Or.inl rfl) (pe_callF h_wrong_rules (hr.mono (by decide)) (pa_cons (pv 0) (pa_cons (pv 1) pa_nil))))) pss_nil) (pss_cons (ps_if (pt_truth (pv 2) (by intro _; rfl)) (pss_one ps_never) pss_nil) (pss_cons (ps_set (i := 3) sc_listed_book.nd (by rfl) (Or.inr rfl) (pe_dc (own := [("at", 5), ("kind", 6)]) (by rfl) sc_listed_book.nd (pi_enumK (K := K) (by rfl) T.n_enumerate (pa_cons (pv 0) pa_nil)) (blkOk_by (N := ["kinds", "rules", "why", "known", "rule_row", "at", "kind", "name", "width", "rows"]) (sc := defScope s_listed_book) (by decide +kernel)) (fun _ _ _ _ _ => (pg_tupK (K := K) (n := 2) (by rfl) (pgs_cons (pg_name (i := 5) sc_listed_book.nd (by rfl) (Or.inl rfl)) (pgs_cons (pg_name (i := 6) sc_listed_book.nd (by rfl) (Or.inl rfl)) pgs_nil)))) (fun _ _ _ _ _ => pts_nil) (fun _ _ _ _ _ => (pv 6)) (fun _ _ _ _ _ => (pv 5)))) (pss_cons (ps_setLc (i := 4) (own := [("name", 7), ("width", 8), ("rows", 9)]) (by rfl) sc_listed_book.nd (by rfl) (by rfl) (sw_true (by rfl) (by rfl) (by rfl) (by decide +kernel)) (pi_listK (K := K) (pv 1)) (blkOk_by (N := ["kinds", "rules", "why", "known", "rule_row", "at", "kind", "name", "width", "rows"]) (sc := defScope s_listed_book) (by decide +kernel)) (fun _ _ _ _ _ => (pg_tupK (K := K) (n := 3) (by rfl) (pgs_cons (pg_name (i := 7) sc_listed_book.nd (by rfl) (Or.inl rfl)) (pgs_cons (pg_name (i := 8) sc_listed_book.nd (by rfl) (Or.inl rfl)) (pgs_cons (pg_name (i := 9) sc_listed_book.nd (by rfl) (Or.inl rfl)) pgs_nil))))) (fun _ _ _ _ _ => pts_nil) (fun _ _ _ _ _ => (pe_tup (pa_cons (pv 7) (pa_cons (pv 8) (pa_cons (pe_callF h_ordered_rows (hr.mono (by decide)) (pa_cons (pv 3) (pa_cons (pv 9) pa_nil))) pa_nil)))))) (pss_one (ps_ret (pe_makeF T.mk_BookParts h_BookParts_init (hr.mono (by decide)) T.g_BookParts (pa_cons (pe_callTy (call_tuple_ofK (K := K)) (by rfl) T.n_tuple boot_tuple (pa_cons (pv 0) pa_nil)) (pa_cons (pe_callTy (call_tuple_ofK (K := K)) (by rfl) T.n_tuple boot_tuple (pa_cons (pv 4) pa_nil)) pa_nil)))))))))), ?_⟩)
  refine spF_go h fun G x r hm s0 kret => ?_
  obtain ⟨v_kinds, v_rules⟩ := x
  have hm : m_listed_book v_kinds v_rules = _ := hm
  unfold m_listed_book at hm
  obtain ⟨t1, h2, hm⟩ := bnd' hm
  refine st_set (R := D K (eS t1)) s0 (ev_call (x := v_kinds) (m := sm_wrong_kinds) (er := (fun r => D K (eS r))) (ea_cons (s0.var 0) ea_nil) h2) (fun _ _ _ s3 => ?_)
  refine nx_go ?_
  obtain ⟨st8, hj9, hm⟩ := bnd' hm
  refine st_ifJ [some (D K ((eL eS) v_kinds)), some (D K ((eL (eP3 eS eI (eL eU))) v_rules)), some (D K (eS st8)), none, none, none, none, none, none, none] [] s3 (et_not (et_truS (s3.var 2))) (fun hb7 _ _ s11 _ hN5 => ?_) (fun hb7 _ _ s12 _ hN6 => ?_) (fun _ _ _ s13 => ?_)
  · have hk10 := oif_t hj9 hb7
    obtain ⟨t14, h15, hk10⟩ := bnd' hk10
    refine st_set (R := D K (eS t14)) s11 (ev_call (x := (v_kinds, v_rules)) (m := sm_wrong_rules) (er := (fun r => D K (eS r))) (ea_cons (s11.var 0) (ea_cons (s11.var 1) ea_nil)) h15) (fun _ _ _ s16 => ?_)
    obtain rfl := Option.some.inj hk10
    exact hN5 _ _ _ (s16.fle (.keep (.keep (.keep (.skip (.skip (.skip (.skip (.skip (.skip (.skip .nil)))))))))))
  · have hk10 := oif_f hj9 hb7
    refine st_nil ?_
    obtain rfl := Option.some.inj hk10
    exact hN6 _ _ _ (s12.fle (.keep (.keep (.keep (.skip (.skip (.skip (.skip (.skip (.skip (.skip .nil)))))))))))
  · refine nx_go ?_
    refine st_if s13 (et_truS (s13.var 2)) (fun hb17 _ _ s18 => ?_) (fun hb17 _ _ s19 => ?_)
    · replace hm := oif_t hm hb17
      cases hm
    · replace hm := oif_f hm hb17
      refine st_nil (nx_go ?_)
      obtain ⟨t21, h22, hm⟩ := bnd' hm
      refine st_set (R := (Fz.fzD K HO.dK keyS ((t21).map fun p => (p.1, D K (eI p.2))))) s19 (EDN.ev (edn_dc (mk := HO.dK) (f := keyS) (ek := eS) (vs := [5, 6]) (e := fun a => D K (eI a)) keyM_S stpOk_S s19 (ES.o (es_enum (e := eS) (s19.var 0))) h22 (fun _ x20 pr24 _ ho25 _ _ _ _ s271 _ k26 => by
            refine st_bind2 s271 fun _ hw28 s27 => ?_
            have hk := ho25
            obtain rfl := Option.some.inj hk
            exact k26 _ (hw28 _ (by decide) (by decide)) (s27.var 6) (s27.var 5)))) (fun _ _ _ s23 => ?_)
      refine nx_go ?_
      obtain ⟨t32, h33, hm⟩ := bnd' hm
      refine st_set (R := D K ((eL (eP3 eS eI (eT (eT eS)))) t32)) s23 (EN.ev (en_lc (e' := (eP3 eS eI (eT (eT eS)))) (vs := [7, 8, 9]) s23 (eso_list (e := (eP3 eS eI (eL eU))) (EV.lv (s23.var 1))) h33 (fun _ x29 o35 _ ho36 _ _ _ _ s381 _ k37 => by
            refine st_bind3 s381 fun _ hw39 s38 => ?_
            have hk := ho36
            obtain ⟨t30, h31, hk⟩ := bnd' hk
            obtain rfl := Option.some.inj hk
            exact k37 _ (hw39 _ (by decide) (by decide) (by decide)) et_yes (fun y hy => by cases hy; exact (ev_tup (ds := [eS x29.1, eI x29.2.1, (eT (eT eS)) t30]) (ea_cons (s38.var 7) (ea_cons (s38.var 8) (ea_cons (ev_call (x := (t21, x29.2.2)) (m := sm_ordered_rows) (er := (fun r => D K ((eT (eT eS)) r))) (ea_cons (s38.var 3) (ea_cons (s38.var 9) ea_nil)) h31) ea_nil)))))))) (fun _ _ _ s34 => ?_)
      refine nx_go ?_
      obtain ⟨t40, h41, hm⟩ := bnd' hm
      refine st_ret (R := Fz.fzI (He.ga K "BookParts") (rs_BookParts K t40)) s34 (ev_make (x := (v_kinds, t32)) (m := sm_BookParts_init) (fsr := fun y => rs_BookParts K y) (ea_cons (ev_tupleL (EV.lv (s34.var 0))) (ea_cons (ev_tupleL (EV.lv (s34.var 4))) ea_nil)) h41) fun _ _ _ s42 rv => ?_
      obtain rfl := Option.some.inj hm
      exact kret _ _ _ _ _ _ _ s42 rv
def m_write_book (v_kind_row : (List Tx)) (v_rule_row : (List (Tx × Int × (List (List Tx))))) : Option Tx :=
  (Option.bind (Fm.join ([32] : Tx) v_kind_row) fun t1 => Option.bind (Fm.catS ([107, 105, 110, 100, 115, 32] : Tx) t1) fun t3 => Option.bind (fold (fun (st7 : (List Tx)) (x8 : (Tx × Int × (List (List Tx)))) => (Option.bind (Fm.strI x8.2.1) fun t18 => Option.bind (Fm.cats [([114, 117, 108, 101, 32] : Tx), x8.1, ([32] : Tx), t18]) fun t20 => Option.bind (Fm.app st7 t20) fun t22 => Option.bind (fold (fun (st25 : (List Tx)) (x26 : (List Tx)) => (Option.bind (Fm.join ([32] : Tx) x26) fun t36 => Option.bind (Fm.app st25 t36) fun t38 => some t38)) t22 x8.2.2) fun st42 => some st42)) ([([98, 111, 111, 107] : Tx), t3] : List Tx) v_rule_row) fun st44 => (Option.bind (Fm.app st44 ([100, 111, 110, 101] : Tx)) fun t45 => (Option.bind (Fm.join ([10] : Tx) t45) fun t48 => Option.bind (Fm.catS t48 ([10] : Tx)) fun t50 => some t50)))
abbrev sm_write_book (x : (List Tx) × (List (Tx × Int × (List (List Tx))))) : Option Tx := m_write_book x.1 x.2
abbrev sp_write_book (K : PySem.W.Frag) : Sp := spF (fun x : (List Tx) × (List (Tx × Int × (List (List Tx)))) => [D K ((eT eS) x.1), D K ((eT (eP3 eS eI (eT (eT eS)))) x.2)]) sm_write_book (fun r => D K (eS r))
theorem sc_write_book : FnScope ["kind_row", "rule_row", "lines", "name", "width", "rows", "row"] ["kind_row", "rule_row"] (defScope s_write_book) := ⟨rfl, rfl, rfl, by decide +kernel, rfl, by decide +kernel, by decide +kernel⟩
theorem ok_write_book {P : Program} {w : World} {K : PySem.W.Frag} {mg : Str → Option Value} {base : Heap} (T : Txt K mg)  : Fok P w K mg base 1 "write_book" ["kind_row", "rule_row"] (sp_write_book K) := by
  refine Fok.mk' T.g_write_book T.d_write_book (fun _ _ _ _ _ _ us hl => match us, hl with | [_, _], _ => rfl) sc_write_book (fun vs H Q E h => spF_len h) (fun cdv A outer s H vs Q E hr h => ⟨_, by
      exact (pss_cons (ps_set (i := 2) sc_write_book.nd (by rfl) (Or.inl rfl) (pe_lst (pa_cons pe_str (pa_cons (pe_op op_add_str pe_str (pe_joinK (K := K) pe_str (pv 0))) pa_nil)))) (pss_cons (ps_for PassesOwn.never (by rfl) (pi_tupK (K := K) (pv 1)) (pg_tupK (K := K) (n := 3) (by rfl) (pgs_cons (pg_name (i := 3) sc_write_book.nd (by rfl) (Or.inl rfl)) (pgs_cons (pg_name (i := 4) sc_write_book.nd (by rfl) (Or.inl rfl)) (pgs_cons (pg_name (i := 5) sc_write_book.nd (by rfl) (Or.inl rfl)) pgs_nil)))) (pss_cons (ps_expr (pe_bm PySem.F.plainAttrs_list PySem.F.slot_list_append PySem.F.type_list_append mt_append (pv 2) (pa_cons (pe_joined (PJ.cons pe_str (PJ.cons (pe_fmt (pv 3)) (PJ.cons pe_str (PJ.cons (pe_fmt (pv 4)) PJ.nil))))) pa_nil))) (pss_one (ps_for PassesOwn.never (by rfl) (pi_tupK (K := K) (pv 5)) (pg_name (i := 6) sc_write_book.nd (by rfl) (Or.inl rfl)) (pss_one (ps_expr (pe_bm PySem.F.plainAttrs_list PySem.F.slot_list_append PySem.F.type_list_append mt_append (pv 2) (pa_cons (pe_joinK (K := K) pe_str (pv 6)) pa_nil)))))))) (pss_cons (ps_expr (pe_bm PySem.F.plainAttrs_list PySem.F.slot_list_append PySem.F.type_list_append mt_append (pv 2) (pa_cons pe_str pa_nil))) (pss_one (ps_ret (pe_op op_add_str (pe_joinK (K := K) pe_str (pv 2)) pe_str)))))), ?_⟩)
  refine spF_go h fun G x r hm s0 kret => ?_
  obtain ⟨v_kind_row, v_rule_row⟩ := x
  have hm : m_write_book v_kind_row v_rule_row = _ := hm
  unfold m_write_book at hm
  obtain ⟨t1, h2, hm⟩ := bnd' hm
  obtain ⟨t3, h4, hm⟩ := bnd' hm
  refine st_ownT (K := K) (e := eS) (xs := ([([98, 111, 111, 107] : Tx), t3] : List Tx)) s0 (en_lst (ds := [eS ([98, 111, 111, 107] : Tx), eS t3]) (ea_cons (ev_strC [98, 111, 111, 107]) (ea_cons (ev_catS (ev_strC [107, 105, 110, 100, 115, 32]) (ev_joinT (ev_strC [32]) (s0.var 0) h2) h4) ea_nil))) (fun p6 _ _ _ hpp6 s5 => ?_)
  refine nx_go ?_
  obtain ⟨st44, h10, hm⟩ := bnd' hm
  refine st_for (fun (st7 : (List Tx)) => [some (D K ((eT eS) v_kind_row)), some (D K ((eT (eP3 eS eI (eT (eT eS)))) v_rule_row)), some (isV (.ref p6)), none, none, none, none]) (fun (st7 : (List Tx)) => [(p6, Fz.ownL K ((st7).map eS))]) (s5.fle (.keep (.keep (.keep (.skip (.skip (.skip (.skip .nil)))))))) (es_tup (e := (eP3 eS eI (eT (eT eS)))) (s5.var 1)) (loop_of_fold h10) (fun _ => trn_fold _ _ fun st7 x8 _ _ _ _ _ hx13 hc14 s11 _ hN15 => ?_) (fun _ _ _ _ hd s43 => ?_)
  · refine st_bind3 s11 fun _ _ s12 => ?_
    obtain ⟨t18, h19, hc14⟩ := bnd' hc14
    obtain ⟨t20, h21, hc14⟩ := bnd' hc14
    obtain ⟨t22, h23, hc14⟩ := bnd' hc14
    refine st_appendT (e := eS) s12 2 0 (ev_joined (.cons (ev_strC [114, 117, 108, 101, 32]) (.cons (ev_fmtS (s12.var 3)) (.cons (ev_strC [32]) (.cons (ev_fmtI (s12.var 4) h19) .nil)))) h21) h23 (fun _ _ s24 => ?_)
    refine nx_go ?_
    obtain ⟨st42, h28, hc14⟩ := bnd' hc14
    refine st_for (fun (st25 : (List Tx)) => [some (D K ((eT eS) v_kind_row)), some (D K ((eT (eP3 eS eI (eT (eT eS)))) v_rule_row)), some (isV (.ref p6)), some (D K (eS x8.1)), some (D K (eI x8.2.1)), some (D K ((eT (eT eS)) x8.2.2)), none]) (fun (st25 : (List Tx)) => [(p6, Fz.ownL K ((st25).map eS))]) (s24.fle (.keep (.keep (.keep (.keep (.keep (.keep (.skip .nil)))))))) (es_tup (e := (eT eS)) (s24.var 5)) (loop_of_fold h28) (fun _ => trn_fold _ _ fun st25 x26 _ _ _ _ _ hx31 hc32 s29 _ hN33 => ?_) (fun _ _ _ _ hd s41 => ?_)
    · refine st_bind s29 fun _ _ s30 => ?_
      obtain ⟨t36, h37, hc32⟩ := bnd' hc32
      obtain ⟨t38, h39, hc32⟩ := bnd' hc32
      refine st_appendT (e := eS) s30 2 0 (ev_joinT (ev_strC [32]) (s30.var 6) h37) h39 (fun _ _ s40 => ?_)
      obtain rfl := Option.some.inj hc32
      exact hN33 _ _ _ (s40.fle (.keep (.keep (.keep (.keep (.keep (.keep (.skip .nil))))))))
    · obtain rfl := (go_eq hd).symm
      obtain rfl := Option.some.inj hc14
      exact hN15 _ _ _ (s41.fle (.keep (.keep (.keep (.skip (.skip (.skip (.skip .nil))))))))
  · obtain rfl := (go_eq hd).symm
    refine nx_go ?_
    obtain ⟨t45, h46, hm⟩ := bnd' hm
    refine st_appendT (e := eS) s43 2 0 (ev_strC [100, 111, 110, 101]) h46 (fun _ _ s47 => ?_)
    refine nx_go ?_
    obtain ⟨t48, h49, hm⟩ := bnd' hm
    obtain ⟨t50, h51, hm⟩ := bnd' hm
    refine st_ret (R := D K (eS t50)) s47 (ev_catS (ev_joinL (ev_strC [10]) (s47.ownL 2 0) h49) (ev_strC [10]) h51) fun _ _ _ s52 rv => ?_
    obtain rfl := Option.some.inj hm
    exact kret _ _ _ _ _ _ _ s52 rv
def m_check_limits (v_laid : ((List Tx) × (List (Tx × Int × (List (List Tx)))))) : Option Unit :=
  (if (decide ((6 : Int) < ((v_laid.1).length : Int))) = true then (none : Option _) else (if (decide ((8 : Int) < ((v_laid.2).length : Int))) = true then (none : Option _) else Option.bind (fold (fun (st7 : Unit) (x8 : (Tx × Int × (List (List Tx)))) => (if (decide ((120 : Int) < ((x8.2.2).length : Int))) = true then (none : Option _) else some ())) () v_laid.2) fun st22 => (some ())))
abbrev sm_check_limits (x : ((List Tx) × (List (Tx × Int × (List (List Tx)))))) : Option Unit := m_check_limits x
abbrev sp_check_limits (K : PySem.W.Frag) : Sp := spF (fun x : ((List Tx) × (List (Tx × Int × (List (List Tx))))) => [Fz.fzI (He.ga K "BookParts") (rs_BookParts K x)]) sm_check_limits (fun r => D K (eN r))
theorem sc_check_limits : FnScope ["laid", "name", "width", "rows"] ["laid"] (defScope s_check_limits) := ⟨rfl, rfl, rfl, by decide +kernel, rfl, by decide +kernel, by decide +kernel⟩
theorem ok_check_limits {P : Program} {w : World} {K : PySem.W.Frag} {mg : Str → Option Value} {base : Heap} (T : Txt K mg)  : Fok P w K mg base 1 "check_limits" ["laid"] (sp_check_limits K) := by
  refine Fok.mk' T.g_check_limits T.d_check_limits (fun _ _ _ _ _ _ us hl => match us, hl with | [_], _ => rfl) sc_check_limits (fun vs H Q E h => spF_len h) (fun cdv A outer s H vs Q E hr h => ⟨_, by
      exact (pss_cons (ps_if (pt_cmpR op_gt (pe_callB (call_len_seqK (K := K)) (by rfl) T.n_len PySem.boot_len (pa_cons (pe_fld (pv 0) (by rfl)) pa_nil)) (pe_globI T.c_MOST_KINDS) (nomark _)) (pss_one ps_never) pss_nil) (pss_cons (ps_if (pt_cmpR op_gt (pe_callB (call_len_seqK (K := K)) (by rfl) T.n_len PySem.boot_len (pa_cons (pe_fld (pv 0) (by rfl)) pa_nil)) (pe_globI T.c_MOST_RULES) (nomark _)) (pss_one ps_never) pss_nil) (pss_one (ps_for PassesOwn.never (by rfl) (pi_tupK (K := K) (pe_fld (pv 0) (by rfl))) (pg_tupK (K := K) (n := 3) (by rfl) (pgs_cons (pg_name (i := 1) sc_check_limits.nd (by rfl) (Or.inl rfl)) (pgs_cons (pg_name (i := 2) sc_check_limits.nd (by rfl) (Or.inl rfl)) (pgs_cons (pg_name (i := 3) sc_check_limits.nd (by rfl) (Or.inl rfl)) pgs_nil)))) (pss_one (ps_if (pt_cmpR op_gt (pe_callB (call_len_seqK (K := K)) (by rfl) T.n_len PySem.boot_len (pa_cons (pv 3) pa_nil)) (pe_globI T.c_MOST_ROWS) (nomark _)) (pss_one ps_never) pss_nil)))))), ?_⟩)
  refine spF_go h fun G v_laid r hm s0 kret => ?_
  have hm : m_check_limits v_laid = _ := hm
  unfold m_check_limits at hm
  refine st_if s0 (et_test (ev_gt (ev_lenT (e := eS) (ev_fld (R := D K ((eT eS) v_laid.1)) T.cl_BookParts T.na_BookParts_kind_row (s0.var 0) (lookup_at ["kind_row", "rule_row"] 0))) ev_int)) (fun hb1 _ _ s2 => ?_) (fun hb1 _ _ s3 => ?_)
  · replace hm := oif_t hm hb1
    cases hm
  · replace hm := oif_f hm hb1
    refine st_nil (nx_go ?_)
    refine st_if s3 (et_test (ev_gt (ev_lenT (e := (eP3 eS eI (eT (eT eS)))) (ev_fld (R := D K ((eT (eP3 eS eI (eT (eT eS)))) v_laid.2)) T.cl_BookParts T.na_BookParts_rule_row (s3.var 0) (lookup_at ["kind_row", "rule_row"] 1))) ev_int)) (fun hb4 _ _ s5 => ?_) (fun hb4 _ _ s6 => ?_)
    · replace hm := oif_t hm hb4
      cases hm
    · replace hm := oif_f hm hb4
      refine st_nil (nx_go ?_)
      obtain ⟨st22, h10, hm⟩ := bnd' hm
      refine st_for (fun (st7 : Unit) => [some (Fz.fzI (He.ga K "BookParts") (rs_BookParts K v_laid)), none, none, none]) (fun (st7 : Unit) => []) (s6.fle (.keep (.skip (.skip (.skip .nil))))) (es_tup (e := (eP3 eS eI (eT (eT eS)))) (ev_fld (R := D K ((eT (eP3 eS eI (eT (eT eS)))) v_laid.2)) T.cl_BookParts T.na_BookParts_rule_row (s6.var 0) (lookup_at ["kind_row", "rule_row"] 1))) (loop_of_fold h10) (fun _ => trn_fold _ _ fun st7 x8 _ _ _ _ _ hx13 hc14 s11 _ hN15 => ?_) (fun _ _ _ _ hd s21 => ?_)
      · refine st_bind3 s11 fun _ _ s12 => ?_
        refine st_if s12 (et_test (ev_gt (ev_lenT (e := (eT eS)) (s12.var 3)) ev_int)) (fun hb18 _ _ s19 => ?_) (fun hb18 _ _ s20 => ?_)
        · replace hc14 := oif_t hc14 hb18
          cases hc14
        · replace hc14 := oif_f hc14 hb18
          refine st_nil ?_
          obtain rfl := Option.some.inj hc14
          exact hN15 _ _ _ (s20.fle (.keep (.skip (.skip (.skip .nil)))))
      · obtain rfl := (go_eq hd).symm
        obtain rfl := Option.some.inj hm
        exact kret _ _ _ _ _ _ _ s21 .non
def m_law_bag (v_script : (List Int)) : Option Unit :=
  (Option.bind (Fm.cutL v_script none (some (63 : Int))) fun t1 => Option.bind (comp (fun (x3 : Int) => (some (some (if x3 < 0 then -x3 else x3)))) t1) fun t4 => Option.bind (fold (fun (st13 : Int) (x14 : Int) => (Option.bind (Fm.mul st13 (48271 : Int)) fun t24 => Option.bind (Fm.mod x14 (1000000007 : Int)) fun t26 => Option.bind (Fm.mod ((t24 + t26) + (11 : Int)) (2147483647 : Int)) fun t28 => some t28)) (29 : Int) t4) fun st32 => (Option.bind (Fm.bagOk t4 st32) fun t33 => some ()))
abbrev sm_law_bag (x : (List Int)) : Option Unit := m_law_bag x
abbrev sp_law_bag (K : PySem.W.Frag) : Sp := spF (fun x : (List Int) => [isScr K (x)]) sm_law_bag (fun r => isBag K)
theorem sc_law_bag : FnScope ["script", "cells", "mix", "cell"] ["script"] (defScope s_law_bag) := ⟨rfl, rfl, rfl, by decide +kernel, rfl, by decide +kernel, by decide +kernel⟩
theorem ok_law_bag {P : Program} {w : World} {K : PySem.W.Frag} {mg : Str → Option Value} {base : Heap} (T : Txt K mg)  : Fok P w K mg base 1 "_law_bag" ["script"] (sp_law_bag K) := by
  refine Fok.mk' T.g_law_bag T.d_law_bag (fun _ _ _ _ _ _ us hl => match us, hl with | [_], _ => rfl) sc_law_bag (fun vs H Q E h => spF_len h) (fun cdv A outer s H vs Q E hr h => ⟨_, by
      exact (pss_cons (ps_setLc (i := 1) (own := [("cell", 3)]) (by rfl) sc_law_bag.nd (by rfl) (by rfl) (sw_true (by rfl) (by rfl) (by rfl) (by decide +kernel)) (pi_listK (K := K) (pe_slice (sl_listK (K := K)) (pv 0) po_none (po_some pe_int))) (blkOk_by (N := ["script", "cells", "mix", "cell"]) (sc := defScope s_law_bag) (by decide +kernel)) (fun _ _ _ _ _ => (pg_name (i := 3) sc_law_bag.nd (by rfl) (Or.inl rfl))) (fun _ _ _ _ _ => pts_nil) (fun _ _ _ _ _ => (pe_callB call_abs (by rfl) T.n_abs boot_abs (pa_cons (pe_callTy call_int1 (by rfl) T.n_int boot_int (pa_cons (pv 3) pa_nil)) pa_nil)))) (pss_cons (ps_set (i := 2) sc_law_bag.nd (by rfl) (Or.inl rfl) pe_int) (pss_cons (ps_for PassesOwn.never (by rfl) (pi_listK (K := K) (pv 1)) (pg_name (i := 3) sc_law_bag.nd (by rfl) (Or.inl rfl)) (pss_one (ps_set (i := 2) sc_law_bag.nd (by rfl) (Or.inl rfl) (pe_op op_mod (pe_callTy call_int1 (by rfl) T.n_int boot_int (pa_cons (pe_op op_add (pe_op op_add (pe_op op_mul (pv 2) pe_int) (pe_op op_mod (pv 3) pe_int)) pe_int) pa_nil)) pe_int)))) (pss_one (ps_ret (pe_lst (pa_cons (pv 1) (pa_cons pe_int (pa_cons pe_int (pa_cons (pv 2) (pa_cons pe_int pa_nil))))))))))), ?_⟩)
  refine spF_go h fun G v_script r hm s0 kret => ?_
  have hm : m_law_bag v_script = _ := hm
  unfold m_law_bag at hm
  obtain ⟨t1, h2, hm⟩ := bnd' hm
  obtain ⟨t4, h5, hm⟩ := bnd' hm
  refine st_set (R := D K ((eL eI) t4)) s0 (EN.ev (en_lc (e' := eI) (vs := [3]) s0 (eso_list (e := eI) (EV.lv (ev_slScr (s0.var 0) eo_none (eo_some ev_int) h2))) h5 (fun _ x3 o7 _ ho8 _ _ _ _ s101 _ k9 => by
        refine st_bind s101 fun _ hw11 s10 => ?_
        have hk := ho8
        obtain rfl := Option.some.inj hk
        exact k9 _ (hw11 _ (by decide)) et_yes (fun y hy => by cases hy; exact (ev_abs (ev_intI (s10.var 3))))))) (fun _ _ _ s6 => ?_)
  refine nx_go ?_
  refine st_set (R := D K (eI (29 : Int))) s6 ev_int (fun _ _ _ s12 => ?_)
  refine nx_go ?_
  obtain ⟨st32, h16, hm⟩ := bnd' hm
  refine st_for (fun (st13 : Int) => [some (isScr K (v_script)), some (D K ((eL eI) t4)), some (D K (eI st13)), none]) (fun (st13 : Int) => []) (s12.fle (.keep (.keep (.keep (.skip .nil))))) (es_list (e := eI) (s12.var 1)) (loop_of_fold h16) (fun _ => trn_fold _ _ fun st13 x14 _ _ _ _ _ hx19 hc20 s17 _ hN21 => ?_) (fun _ _ _ _ hd s31 => ?_)
  · refine st_bind s17 fun _ _ s18 => ?_
    obtain ⟨t24, h25, hc20⟩ := bnd' hc20
    obtain ⟨t26, h27, hc20⟩ := bnd' hc20
    obtain ⟨t28, h29, hc20⟩ := bnd' hc20
    refine st_set (R := D K (eI t28)) s18 (ev_mod (ev_intI (ev_add (ev_add (ev_mul (s18.var 2) ev_int h25) (ev_mod (s18.var 3) ev_int h27)) ev_int)) ev_int h29) (fun _ _ _ s30 => ?_)
    obtain rfl := Option.some.inj hc20
    exact hN21 _ _ _ (s30.fle (.keep (.keep (.keep (.skip .nil)))))
  · obtain rfl := (go_eq hd).symm
    refine nx_go ?_
    obtain ⟨t33, h34, hm⟩ := bnd' hm
    refine st_ret (R := isBag K) s31 (ev_bag (s31.var 1) (s31.var 2) h34) fun _ _ _ s35 rv => ?_
    obtain rfl := Option.some.inj hm
    exact kret _ _ _ _ _ _ _ s35 rv
def m_law_words (v_told : (List Tx)) (v_of : Int) : Option Bool :=
  (if (((decide (v_of = (0 : Int))) && (!true)) || ((decide (v_of = (1 : Int))) && (!false))) = true then (some false) else (Option.bind (comp (fun (x5 : Tx) => (some (some true))) v_told) fun t6 => some ((t6).all id)))
abbrev sm_law_words (x : (List Tx) × Int) : Option Bool := m_law_words x.1 x.2
abbrev sp_law_words (K : PySem.W.Frag) : Sp := spF (fun x : (List Tx) × Int => [D K ((eT eS) x.1), D K (eI x.2)]) sm_law_words (fun r => D K (eB r))
theorem sc_law_words : FnScope ["told", "of", "one"] ["told", "of"] (defScope s_law_words) := ⟨rfl, rfl, rfl, by decide +kernel, rfl, by decide +kernel, by decide +kernel⟩
theorem ok_law_words {P : Program} {w : World} {K : PySem.W.Frag} {mg : Str → Option Value} {base : Heap} (T : Txt K mg)  : Fok P w K mg base 1 "_law_words" ["told", "of"] (sp_law_words K) := by
  refine Fok.mk' T.g_law_words T.d_law_words (fun _ _ _ _ _ _ us hl => match us, hl with | [_, _], _ => rfl) sc_law_words (fun vs H Q E h => spF_len h) (fun cdv A outer s H vs Q E hr h => ⟨_, by
      exact (pss_cons (ps_if (PW.pt (pw_or (PW.pt (pw_and (pt_cmpR op_eq (pv 1) pe_int (nomark _)) (pw_and1 (pt_not (pt_val (pe_callB (call_isiKK (K := K)) (by rfl) T.n_isinstance boot_isinstance (pa_cons (pv 0) (pa_cons (pe_bltn (v := .ty "tuple") (by rfl) T.n_tuple boot_tuple rfl) pa_nil)))))))) (pw_or1 (PW.pt (pw_and (pt_cmpR op_eq (pv 1) pe_int (nomark _)) (pw_and1 (pt_not (pt_val (pe_callB (call_isiKK (K := K)) (by rfl) T.n_isinstance boot_isinstance (pa_cons (pv 0) (pa_cons (pe_bltn (v := .ty "list") (by rfl) T.n_list boot_list rfl) pa_nil))))))))))) (pss_one (ps_ret pe_bl)) pss_nil) (pss_one (ps_ret (pe_callB (cr_allK (K := K) (by rfl)) (by rfl) T.n_all boot_all (pa_cons (pe_lc (own := [("one", 2)]) (by rfl) sc_law_words.nd (pi_tupK (K := K) (pv 0)) (blkOk_by (N := ["told", "of", "one"]) (sc := defScope s_law_words) (by decide +kernel)) (fun _ _ _ _ _ => (pg_name (i := 2) sc_law_words.nd (by rfl) (Or.inl rfl))) (fun _ _ _ _ _ => pts_nil) (fun _ _ _ _ _ => (pe_callB (call_isiKK (K := K)) (by rfl) T.n_isinstance boot_isinstance (pa_cons (pv 2) (pa_cons (pe_bltn (v := .ty "str") (by rfl) T.n_str boot_str rfl) pa_nil))))) pa_nil))))), ?_⟩)
  refine spF_go h fun G x r hm s0 kret => ?_
  obtain ⟨v_told, v_of⟩ := x
  have hm : m_law_words v_told v_of = _ := hm
  unfold m_law_words at hm
  refine st_if s0 (et_or2 (et_and2 (et_test (ev_eqI (s0.var 1) ev_int)) (fun _ => (et_not (et_B (ev_isi (d := (eT eS) v_told) (b := "tuple") (r := true) "tuple" (s0.var 0)))))) (fun _ => (et_and2 (et_test (ev_eqI (s0.var 1) ev_int)) (fun _ => (et_not (et_B (ev_isi (d := (eT eS) v_told) (b := "list") (r := false) "tuple" (s0.var 0)))))))) (fun hb1 _ _ s2 => ?_) (fun hb1 _ _ s3 => ?_)
  · replace hm := oif_t hm hb1
    refine st_ret (R := D K (eB false)) s2 ev_bl fun _ _ _ s4 rv => ?_
    obtain rfl := Option.some.inj hm
    exact kret _ _ _ _ _ _ _ s4 rv
  · replace hm := oif_f hm hb1
    refine st_nil (nx_go ?_)
    obtain ⟨t6, h7, hm⟩ := bnd' hm
    refine st_ret (R := D K (eB ((t6).all id))) s3 (ev_all (EV.lv (EN.ev (en_lc (e' := eB) (vs := [2]) s3 (ES.o (es_tup (e := eS) (s3.var 0))) h7 (fun _ x5 o9 _ ho10 _ _ _ _ s121 _ k11 => by
          refine st_bind s121 fun _ hw13 s12 => ?_
          have hk := ho10
          obtain rfl := Option.some.inj hk
          exact k11 _ (hw13 _ (by decide)) et_yes (fun y hy => by cases hy; exact (ev_isi (d := eS x5) (b := "str") (r := true) "str" (s12.var 2)))))))) fun _ _ _ s8 rv => ?_
    obtain rfl := Option.some.inj hm
    exact kret _ _ _ _ _ _ _ s8 rv
def m_law_number (v_told : Int) : Option Bool :=
  (some (true && (!false)))
abbrev sm_law_number (x : Int) : Option Bool := m_law_number x
abbrev sp_law_number (K : PySem.W.Frag) : Sp := spF (fun x : Int => [D K (eI x)]) sm_law_number (fun r => D K (eB r))
theorem sc_law_number : FnScope ["told"] ["told"] (defScope s_law_number) := ⟨rfl, rfl, rfl, by decide +kernel, rfl, by decide +kernel, by decide +kernel⟩
theorem ok_law_number {P : Program} {w : World} {K : PySem.W.Frag} {mg : Str → Option Value} {base : Heap} (T : Txt K mg)  : Fok P w K mg base 1 "_law_number" ["told"] (sp_law_number K) := by
  refine Fok.mk' T.g_law_number T.d_law_number (fun _ _ _ _ _ _ us hl => match us, hl with | [_], _ => rfl) sc_law_number (fun vs H Q E h => spF_len h) (fun cdv A outer s H vs Q E hr h => ⟨_, by
      exact (pss_one (ps_ret (pe_and (pe_callB (call_isiKK (K := K)) (by rfl) T.n_isinstance boot_isinstance (pa_cons (pv 0) (pa_cons (pe_bltn (v := .ty "int") (by rfl) T.n_int boot_int rfl) pa_nil))) (pe_one (pe_not (pe_callB (call_isiKK (K := K)) (by rfl) T.n_isinstance boot_isinstance (pa_cons (pv 0) (pa_cons (pe_bltn (v := .ty "bool") (by rfl) T.n_bool boot_bool rfl) pa_nil)))))))), ?_⟩)
  refine spF_go h fun G v_told r hm s0 kret => ?_
  have hm : m_law_number v_told = _ := hm
  unfold m_law_number at hm
  refine st_ret (R := D K (eB (true && (!false)))) s0 (ev_andV2 (ev_isi (d := eI v_told) (b := "int") (r := true) "int" (s0.var 0)) (fun _ => (ev_notV (ev_isi (d := eI v_told) (b := "bool") (r := false) "int" (s0.var 0))))) fun _ _ _ s1 rv => ?_
  obtain rfl := Option.some.inj hm
  exact kret _ _ _ _ _ _ _ s1 rv
def m_law_row_list (v_told : (List (List Tx))) (v_rows : (List (List Tx))) : Option Bool :=
  (if ((!true) || (!decide (((v_told).length : Int) = ((v_rows).length : Int)))) = true then (some false) else (Option.bind (Fm.range ((v_rows).length : Int)) fun t5 => Option.bind (loop (ρ := Bool) (fun (st7 : Unit) (x8 : Int) => (Option.bind (Fm.ix v_told x8) fun t18 => Option.bind (m_law_words t18 (0 : Int)) fun t20 => Option.bind ((if (!t20) = true then some true else (Option.bind (Fm.ix v_told x8) fun t22 => Option.bind (Fm.ix v_rows x8) fun t24 => some (!decide (t22 = t24))))) fun t26 => (if t26 = true then (some (.ret false)) else some (.go ())))) () t5) fun c9 => (match c9 with | .ret r => some r | .go st35 => (some true) | .brk _ => none)))
abbrev sm_law_row_list (x : (List (List Tx)) × (List (List Tx))) : Option Bool := m_law_row_list x.1 x.2
abbrev sp_law_row_list (K : PySem.W.Frag) : Sp := spF (fun x : (List (List Tx)) × (List (List Tx)) => [D K ((eL (eT eS)) x.1), D K ((eL (eT eS)) x.2)]) sm_law_row_list (fun r => D K (eB r))
theorem sc_law_row_list : FnScope ["told", "rows", "k"] ["told", "rows"] (defScope s_law_row_list) := ⟨rfl, rfl, rfl, by decide +kernel, rfl, by decide +kernel, by decide +kernel⟩
theorem ok_law_row_list {P : Program} {w : World} {K : PySem.W.Frag} {mg : Str → Option Value} {base : Heap} (T : Txt K mg) (h_law_words : Fok P w K mg base 1 "_law_words" ["told", "of"] (sp_law_words K)) : Fok P w K mg base 2 "_law_row_list" ["told", "rows"] (sp_law_row_list K) := by
  refine Fok.mk' T.g_law_row_list T.d_law_row_list (fun _ _ _ _ _ _ us hl => match us, hl with | [_, _], _ => rfl) sc_law_row_list (fun vs H Q E h => spF_len h) (fun cdv A outer s H vs Q E hr h => ⟨_, by
      exact (pss_cons (ps_if (PW.pt (pw_or (pt_not (pt_val (pe_callB (call_isiKK (K := K)) (by rfl) T.n_isinstance boot_isinstance (pa_cons (pv 0) (pa_cons (pe_bltn (v := .ty "list") (by rfl) T.n_list boot_list rfl) pa_nil))))) (pw_or1 (pt_cmpR op_ne (pe_callB (call_len_seqK (K := K)) (by rfl) T.n_len PySem.boot_len (pa_cons (pv 0) pa_nil)) (pe_callB (call_len_seqK (K := K)) (by rfl) T.n_len PySem.boot_len (pa_cons (pv 1) pa_nil)) (nomark _))))) (pss_one (ps_ret pe_bl)) pss_nil) (pss_cons (ps_for PassesOwn.never (by rfl) (pi_range1 (by rfl) T.n_range (pa_cons (pe_callB (call_len_seqK (K := K)) (by rfl) T.n_len PySem.boot_len (pa_cons (pv 1) pa_nil)) pa_nil)) (pg_name (i := 2) sc_law_row_list.nd (by rfl) (Or.inl rfl)) (pss_one (ps_if (PW.pt (pw_or (pt_not (pt_val (pe_callF h_law_words (hr.mono (by decide)) (pa_cons (pe_ix (ix_listK (K := K)) (pv 0) (pv 2) (fun _ _ => rfl)) (pa_cons pe_int pa_nil))))) (pw_or1 (pt_cmpR (op_nePK (K := K) hr.units) (pe_ix (ix_listK (K := K)) (pv 0) (pv 2) (fun _ _ => rfl)) (pe_ix (ix_listK (K := K)) (pv 1) (pv 2) (fun _ _ => rfl)) (nomark _))))) (pss_one (ps_ret pe_bl)) pss_nil))) (pss_one (ps_ret pe_bl)))), ?_⟩)
  refine spF_go h fun G x r hm s0 kret => ?_
  obtain ⟨v_told, v_rows⟩ := x
  have hm : m_law_row_list v_told v_rows = _ := hm
  unfold m_law_row_list at hm
  refine st_if s0 (et_or2 (et_not (et_B (ev_isiL (b := "list") (r := true) (ds := (v_told).map (eT eS)) (EV.lv (s0.var 0))))) (fun _ => (et_test (ev_neI (ev_lenLm (e := (eT eS)) (EV.lv (s0.var 0))) (ev_lenLm (e := (eT eS)) (EV.lv (s0.var 1))))))) (fun hb1 _ _ s2 => ?_) (fun hb1 _ _ s3 => ?_)
  · replace hm := oif_t hm hb1
    refine st_ret (R := D K (eB false)) s2 ev_bl fun _ _ _ s4 rv => ?_
    obtain rfl := Option.some.inj hm
    exact kret _ _ _ _ _ _ _ s4 rv
  · replace hm := oif_f hm hb1
    refine st_nil (nx_go ?_)
    obtain ⟨t5, h6, hm⟩ := bnd' hm
    obtain ⟨c9, h10, hm⟩ := bnd' hm
    refine st_for (fun (st7 : Unit) => [some (D K ((eL (eT eS)) v_told)), some (D K ((eL (eT eS)) v_rows)), none]) (fun (st7 : Unit) => []) (s3.fle (.keep (.keep (.skip .nil)))) (es_range (ev_lenLm (e := (eT eS)) (EV.lv (s3.var 1))) h6) h10 (fun _ st7 x8 _ _ _ _ _ hx13 hc14 s11 _ hN15 hB16 hR17 => ?_) (fun st35 _ _ _ hd s34 => ?_)
    · refine st_bind s11 fun _ _ s12 => ?_
      obtain ⟨t18, h19, hc14⟩ := bnd' hc14
      obtain ⟨t20, h21, hc14⟩ := bnd' hc14
      obtain ⟨t26, h27, hc14⟩ := bnd' hc14
      refine st_if s12 (et_or (et_not (et_B (ev_call (x := (t18, (0 : Int))) (m := sm_law_words) (er := (fun r => D K (eB r))) (ea_cons (ev_ixL (e := (eT eS)) (EV.lv (s12.var 0)) (s12.var 2) h19) (ea_cons ev_int ea_nil)) h21))) (fun hb28 => by
            have hk := oif_f h27 hb28
            obtain ⟨t22, h23, hk⟩ := bnd' hk
            obtain ⟨t24, h25, hk⟩ := bnd' hk
            exact ET.to (et_test (ev_neD (e := (eT eS)) (ev_ixL (e := (eT eS)) (EV.lv (s12.var 0)) (s12.var 2) h23) (ev_ixL (e := (eT eS)) (EV.lv (s12.var 1)) (s12.var 2) h25))) (Option.some.inj hk)) (fun hb28 => (Option.some.inj (oif_t h27 hb28)).symm)) (fun hb29 _ _ s30 => ?_) (fun hb29 _ _ s31 => ?_)
      · replace hc14 := oif_t hc14 hb29
        refine st_ret (R := D K (eB false)) s30 ev_bl fun _ _ _ s32 rv => ?_
        obtain rfl := Option.some.inj hc14
        have hc33 := hR17 _ rfl
        rw [hc33] at hm
        obtain rfl := Option.some.inj hm
        exact kret _ _ _ _ _ _ _ s32 rv
      · replace hc14 := oif_f hc14 hb29
        refine st_nil ?_
        obtain rfl := Option.some.inj hc14
        exact hN15 _ _ _ _ rfl (s31.fle (.keep (.keep (.skip .nil))))
    · rcases hd with rfl | rfl
      · refine nx_go ?_
        refine st_ret (R := D K (eB true)) s34 ev_bl fun _ _ _ s36 rv => ?_
        obtain rfl := Option.some.inj hm
        exact kret _ _ _ _ _ _ _ s36 rv
      · cases hm
end K0
set_option Elab.async false
set_option linter.all false
set_option maxRecDepth 100000
set_option maxHeartbeats 4000000
namespace K0
open PySem PySem.Spec PyProof.Rows L2 Fz

def m_ordered_rowsD (v_known : (List (Tx × Int))) (v_rows : (List (List Tx))) : Option (List (List Tx)) :=
  (Option.bind (fold (dstep (fun (x1 : (List Tx)) => (Option.bind (comp (fun (x2 : Tx) => (Option.bind (look v_known x2) fun t3 => some (some t3))) x1) fun t5 => some (t5, x1)))) [] v_rows) fun t7 => (Option.bind (Fm.sortV t7) fun t21 => some t21))
def sp_ordered_rowsD (K : PySem.W.Frag) : Sp := fun vs H Q E => ∃ (G : GH) (known : List (Tx × Int)) (kvs : List (List Tx × RP)) (d : Addr) (us : List (List Key × V)) (r : List (List Tx)), Fit G H ∧ G d = none ∧ H d = some (.dT us) ∧ us.length ≤ sizeLine ∧ DvA K G keyT us kvs ∧ (∀ kv ∈ kvs, kv.1.length ≤ sizeLine ∧ ∀ l ∈ kv.1, l.length ≤ sizeLine) ∧
  RAll G vs [Fz.fzD K HO.dK keyS (known.map fun p => (p.1, D K (eI p.2))), isV (.ref d)] ∧ m_ordered_rowsD known (kvs.map (·.1)) = some r ∧ ∀ v G' H', Gr [] G H G' H' → (D K (eT (eT eS) r)).r G' v → Q v H'
theorem sc_ordered_rowsD : FnScope ["known", "rows", "by_marks", "row", "kind", "marks"] ["known", "rows"] (defScope s_ordered_rows) := ⟨rfl, rfl, rfl, by decide +kernel, rfl, by decide +kernel, by decide +kernel⟩
theorem ok_ordered_rowsD {P : Program} {w : World} {K : PySem.W.Frag} {mg : Str → Option Value} {base : Heap} (T : Txt K mg)  : Fok P w K mg base 1 "ordered_rows" ["known", "rows"] (sp_ordered_rowsD K) := by
  refine Fok.mk' T.g_ordered_rows T.d_ordered_rows (fun _ _ _ _ _ _ us hl => match us, hl with | [_, _], _ => rfl) sc_ordered_rowsD (fun vs H Q E h => by obtain ⟨_, _, _, _, _, _, _, _, _, _, _, _, rs, _⟩ := h; exact rs.length) (fun cdv A outer s H vs Q E hr h => ⟨_, by
      exact (pss_cons (ps_set (i := 2) sc_ordered_rowsD.nd (by rfl) (Or.inr rfl) (pe_lock (pe_dcT (hu_of hr) (own := [("row", 3)]) (by rfl) sc_ordered_rowsD.nd (pi_keys (pv 1)) (blkOk_by (N := ["known", "rows", "by_marks", "row", "kind", "marks"]) (sc := defScope s_ordered_rows) (by decide +kernel)) (fun _ _ _ _ _ => (pg_name (i := 3) sc_ordered_rowsD.nd (by rfl) (Or.inl rfl))) (fun _ _ _ _ _ => pts_nil) (fun _ _ _ _ _ => (pe_callTy (call_tuple_ofK (K := K)) (by rfl) T.n_tuple boot_tuple (pa_cons (pe_lc (own := [("kind", 4)]) (by rfl) sc_ordered_rowsD.nd (pi_tupK (K := K) (pv 3)) (blkOk_by (N := ["known", "rows", "by_marks", "row", "kind", "marks"]) (sc := _) (by rfl)) (fun _ _ _ _ _ => (pg_name (i := 4) sc_ordered_rowsD.nd (by rfl) (Or.inl rfl))) (fun _ _ _ _ _ => pts_nil) (fun _ _ _ _ _ => (pe_dget (hu_of hr) (pv 0) (pv 4) (fun _ _ => rfl)))) pa_nil))) (fun _ _ _ _ _ => (pe_callTy (call_tuple_ofK (K := K)) (by rfl) T.n_tuple boot_tuple (pa_cons (pv 3) pa_nil)))))) (pss_one (ps_ret (pe_callTy (call_tuple_ofK (K := K)) (by rfl) T.n_tuple boot_tuple (pa_cons (pe_lc (own := [("marks", 5)]) (by rfl) sc_ordered_rowsD.nd (pi_listK (K := K) (pe_callB (cr_sortedD (by rfl)) (by rfl) T.n_sorted boot_sorted (pa_cons (pv 2) pa_nil))) (blkOk_by (N := ["known", "rows", "by_marks", "row", "kind", "marks"]) (sc := defScope s_ordered_rows) (by decide +kernel)) (fun _ _ _ _ _ => (pg_name (i := 5) sc_ordered_rowsD.nd (by rfl) (Or.inl rfl))) (fun _ _ _ _ _ => pts_nil) (fun _ _ _ _ _ => (pe_dget (hu_of hr) (pv 2) (pv 5) (fun _ _ => rfl)))) pa_nil))))), ?_⟩)
  obtain ⟨G, v_known, kvs, d, us, r, f, nd, hd, hz, hdv, hks, rs, hm, q⟩ := h
  have s0 : SA [] G H _ [] [] (L2.start ["known", "rows", "by_marks", "row", "kind", "marks"] vs) G H := SA.start f (env_start rs) (fun _ h => nomatch h) List.nodup_nil
  have kret : ∀ (v : V) (G' : GH) (H' : Hp) (Ts' : List (V × RP)) (σ' : L2.St) (Γ' : List (Option RP)) (Os' : List (Addr × OP)), SA [] G H Γ' Os' Ts' σ' G' H' → (D K (eT (eT eS) r)).r G' v → Q v H' := fun v G' H' _ _ _ _ s rv => q v G' H' s.g rv
  have sfr : ∀ od, Fit G (upd H d (.frz od (.dT us))) := fun od => (Gr.put (mx := [d]) f nd (by simp) (fun xs z => by rw [hd] at z; cases z)).fit
  have sl := fun od => (SA.start (mx := []) (Os := []) (sfr od) (env_start (N := ["known", "rows", "by_marks", "row", "kind", "marks"]) rs) (fun _ h => nomatch h) List.nodup_nil)
  unfold m_ordered_rowsD at hm
  obtain ⟨t7, h8, hm⟩ := bnd' hm
  refine st_ownDN (K := K) (mk := HO.dT) (f := keyI) s0 (edn_lock nd hd f fun od => (edn_dc (mk := HO.dT) (f := keyI) (ek := (eT eI)) (vs := [3]) (e := fun a => D K ((eT eS) a)) keyM_I stpOk_I (sl od) (eso_keysT nd upd_same hdv hz hks (fun G1 H1 g Q q => let ⟨v, e, rv⟩ := s0.env.2 1 (isV (.ref d)) rfl; ⟨v, e, by rw [show v = .ref d from rv]; exact q⟩)) h8 (fun _ x1 pr11 _ ho12 _ _ _ _ s141 _ k13 => by
        refine st_bind s141 fun _ hw15 s14 => ?_
        have hk := ho12
        obtain ⟨t5, h6, hk⟩ := bnd' hk
        obtain rfl := Option.some.inj hk
        exact k13 _ (hw15 _ (by decide)) (ev_tupleL (EV.lv (EN.ev (en_lc (e' := eI) (vs := [4]) s14 (ES.o (es_tup (e := eS) (s14.var 3))) h6 (fun _ x2 o16 _ ho17 _ _ _ _ s191 _ k18 => by
              refine st_bind s191 fun _ hw20 s19 => ?_
              have hk := ho17
              obtain ⟨t3, h4, hk⟩ := bnd' hk
              obtain rfl := Option.some.inj hk
              exact k18 _ (hw20 _ (by decide)) et_yes (fun y hy => by cases hy; exact (ev_dgetT (e := eI) keyM_S (SA.fzD (mk := HO.dK) (f := keyS) s19 0) (s19.var 4) h4))))))) (ev_tupleT (s14.var 3))))) (fun p10 _ _ _ hpp10 s9 => ?_)
  refine nx_go ?_
  obtain ⟨t21, h22, hm⟩ := bnd' hm
  refine st_ret (R := D K ((eT (eT eS)) t21)) s9 (ev_tupleL (EV.lv (EN.ev (en_sorted (e := (eT eS)) s9 2 0 5 h22)))) fun _ _ _ s23 rv => ?_
  obtain rfl := Option.some.inj hm
  exact kret _ _ _ _ _ _ _ s23 rv
end K0
set_option Elab.async false
set_option linter.all false
set_option maxRecDepth 100000
set_option maxHeartbeats 4000000
namespace K0
open PySem PySem.Spec PyProof.Rows L2 Fz
structure RdSt where
  stage : Tx
  known : List (Tx × Int)
  names : List (Tx × Bool)
  found : List (Tx × Int × List (List Tx × Bool))
abbrev rs_reader (K : PySem.W.Frag) (rn fl : Addr) (st : RdSt) : List (Str × RP) := [("stage", D K (eS st.stage)), ("known", Fz.fzD K HO.dK keyS (st.known.map fun p => (p.1, D K (eI p.2)))), ("rule_names", isV (.ref rn)), ("found", isV (.ref fl))]
def fdR (K : PySem.W.Frag) (q : (Tx × Int × List (List Tx × Bool)) × Addr) : RP := tupR K [D K (eS q.1.1), D K (eI q.1.2.1), isV (.ref q.2)]
def fdO (K : PySem.W.Frag) (q : (Tx × Int × List (List Tx × Bool)) × Addr) : Addr × OP := (q.2, Fz.ownD K HO.dT keyT (q.1.2.2.map fun p => (p.1, D K (eB p.2))))
abbrev osRd (K : PySem.W.Frag) (b rn fl : Addr) (ds : List Addr) (st : RdSt) : List (Addr × OP) :=
  (b, ownI (He.ga K "BookReader") (rs_reader K rn fl st)) :: (rn, Fz.ownD K HO.dK keyS (st.names.map fun p => (p.1, D K (eB p.2)))) :: (fl, ownR ((st.found.zip ds).map (fdR K))) :: (st.found.zip ds).map (fdO K)
def cHead : Tx := [104, 101, 97, 100]
/-- BookReader(): from a bare instance to the first state -/
def sp_BookReader_init (K : PySem.W.Frag) : Sp := fun vs H Q E => ∃ G b, vs = [.ref b] ∧ Fit G H ∧ G b = none ∧ (∃ dx, H b = some (.ins (He.ga K "BookReader") dx [])) ∧
  ∀ rn fl G' H', Gr [b] G H G' H' → H rn = none → H fl = none → (((osRd K b rn fl [] ⟨cHead, [], [], []⟩).map (·.1)).Nodup) → Held G' H' (osRd K b rn fl [] ⟨cHead, [], [], []⟩) → Q .non H'
theorem sc_BookReader_init : FnScope ["self"] ["self"] (defScope s_BookReader_init) := ⟨rfl, rfl, rfl, by decide +kernel, rfl, by decide +kernel, by decide +kernel⟩
theorem ok_BookReader_init {P : Program} {w : World} {K : PySem.W.Frag} {mg : Str → Option Value} {base : Heap} (T : Txt K mg) : Mok P w K mg base 1 "BookReader" "__init__" ["self"] (sp_BookReader_init K) := by
  refine Mok.mk' T.d_BookReader_init (fun _ _ _ _ _ _ us hl => match us, hl with | [_], _ => rfl) sc_BookReader_init (fun vs H Q E h => by obtain ⟨_, _, rfl, _⟩ := h; rfl) (fun cdv A outer s H vs Q E hr h => ⟨_, by
      exact (pss_cons (ps_fld (pv 0) pe_str (by rfl)) (pss_cons (ps_fld (pv 0) pe_dnewK (by rfl)) (pss_cons (ps_fld (pv 0) pe_dnewK (by rfl)) (pss_one (ps_fld (pv 0) (pe_lst pa_nil) (by rfl)))))), ?_⟩)
  obtain ⟨G, b, rfl, f, nb, ⟨dx, hb⟩, q⟩ := h
  have s0 : SA [b] G H [some (isV (.ref b))] [(b, ownI (He.ga K "BookReader") [])] [] (L2.start ["self"] [.ref b]) G H := SA.startA (Os := [(b, ownI (He.ga K "BookReader") [])]) f (env_start (N := ["self"]) (Rs := [isV (.ref b)]) (.cons rfl .nil)) (fun p hp => by rw [List.mem_singleton.mp hp]; exact ⟨nb, _, hb, dx, [], rfl, .nil⟩) (List.nodup_cons.mpr ⟨by simp, List.nodup_nil⟩)
  refine st_fldN (R := D K (eS cHead)) s0 0 0 [] T.cl_BookReader T.na_BookReader_stage (ev_strC cHead) (fun _ _ s1 => ?_)
  refine nx_go ?_
  refine st_fldN (R := Fz.fzD K HO.dK keyS []) s1 0 0 ["stage"] T.cl_BookReader T.na_BookReader_known ev_dnewK (fun _ _ s2 => ?_)
  refine nx_go ?_
  refine st_fldOb s2 0 0 ["stage", "known"] T.cl_BookReader T.na_BookReader_rule_names (eob_dK (K := K) (g := keyS)) (fun rn _ _ s3 => ?_)
  refine nx_go ?_
  refine st_fldOb s3 0 1 ["stage", "known", "rule_names"] T.cl_BookReader T.na_BookReader_found eob_nil (fun fl G4 H4 s4 => ?_)
  have hfl := s4.own _ (List.Mem.head _)
  have hrn := s4.own _ (List.Mem.tail _ (List.Mem.head _))
  have hbb := s4.own _ (List.Mem.tail _ (List.Mem.tail _ (List.Mem.head _)))
  have hnd := s4.nd
  simp only [List.set, List.map_cons, List.map_nil, List.nodup_cons, List.mem_cons, List.not_mem_nil, or_false, not_or] at hnd
  have hne1 : fl ≠ b := hnd.1.2
  have hne2 : rn ≠ b := hnd.2.1
  refine q rn fl G4 H4 s4.g (hrn.2.2.elim (fun h => absurd (List.mem_singleton.mp h) hne2) id) (hfl.2.2.elim (fun h => absurd (List.mem_singleton.mp h) hne1) id) ?_ ?_
  · show [b, rn, fl].Nodup
    simp only [List.nodup_cons, List.mem_cons, List.not_mem_nil, or_false, not_or, List.nodup_nil, and_true, not_false_eq_true]
    exact ⟨⟨Ne.symm hne2, Ne.symm hne1⟩, Ne.symm hnd.1.1⟩
  · intro p hp
    rcases List.mem_cons.mp hp with rfl | hp
    · exact ⟨hbb.1, hbb.2.1⟩
    · rcases List.mem_cons.mp hp with rfl | hp
      · exact ⟨hrn.1, hrn.2.1⟩
      · rw [List.mem_singleton.mp hp]
        exact ⟨hfl.1, hfl.2.1⟩
end K0
set_option Elab.async false
set_option linter.all false
set_option maxRecDepth 100000
set_option maxHeartbeats 4000000
namespace K0
open PySem PySem.Spec PyProof.Rows L2 Fz
section
variable {K : PySem.W.Frag} {b rn fl : Addr} {ds : List Addr} {st : RdSt}
theorem osRd_stage (x : Tx) : (osRd K b rn fl ds st).set 0 (b, ownI (He.ga K "BookReader") (putR "stage" (D K (eS x)) (rs_reader K rn fl st))) = osRd K b rn fl ds { st with stage := x } := by
  have e : putR "stage" (D K (eS x)) (rs_reader K rn fl st) = rs_reader K rn fl { st with stage := x } := by
    show (if ("stage" : Str) = "stage" then _ else _) = _
    rw [if_pos rfl]
  rw [e]
  rfl
theorem osRd_known (x : List (Tx × Int)) : (osRd K b rn fl ds st).set 0 (b, ownI (He.ga K "BookReader") (putR "known" (Fz.fzD K HO.dK keyS (x.map fun p => (p.1, D K (eI p.2)))) (rs_reader K rn fl st))) = osRd K b rn fl ds { st with known := x } := by
  have e : putR "known" (Fz.fzD K HO.dK keyS (x.map fun p => (p.1, D K (eI p.2)))) (rs_reader K rn fl st) = rs_reader K rn fl { st with known := x } := by
    have h1 : ¬ (("stage" : Str) = "known") := by decide +kernel
    show (if ("stage" : Str) = "known" then _ else _ :: (if ("known" : Str) = "known" then _ else _)) = _
    rw [if_neg h1, if_pos rfl]
  rw [e]
  rfl
theorem osRd_names (k : Tx) (v : Bool) : (osRd K b rn fl ds st).set 1 (rn, Fz.ownD K HO.dK keyS (putA (st.names.map fun p => (p.1, D K (eB p.2))) k (D K (eB v)))) = osRd K b rn fl ds { st with names := putA st.names k v } := by
  rw [← putA_map (fun a => D K (eB a))]
  rfl
/-- a method of the reader -/
def spRd {X : Type} (K : PySem.W.Frag) (enc : X → List RP) (m : RdSt → X → Option (Tx × RdSt)) : Sp := fun vs H Q E => ∃ (G : GH) (b rn fl : Addr) (ds : List Addr) (st : RdSt) (x : X) (us : List V) (r : Tx) (st' : RdSt), vs = .ref b :: us ∧ Fit G H ∧ Held G H (osRd K b rn fl ds st) ∧ ((osRd K b rn fl ds st).map (·.1)).Nodup ∧ ds.length = st.found.length ∧ RAll G us (enc x) ∧ m st x = some (r, st') ∧
  ∀ v ds' G' H', Gr ((osRd K b rn fl ds st).map (·.1)) G H G' H' → Held G' H' (osRd K b rn fl ds' st') → ((osRd K b rn fl ds' st').map (·.1)).Nodup → ds'.length = st'.found.length → (∀ a ∈ ds', a ∈ ds ∨ H a = none) → (D K (eS r)).r G' v → Q v H'
theorem spRd_len {X : Type} {enc : X → List RP} {m : RdSt → X → Option (Tx × RdSt)} {vs : List V} {H : Hp} {Q : VK} {E : XK} {n : Nat} (h : spRd K enc m vs H Q E) (hk : ∀ x, (enc x).length + 1 = n := by intro _; rfl) : vs.length = n := by
  obtain ⟨G, b, rn, fl, ds, st, x, us, r, st', rfl, f, hh, nd, hl, rs, hm, q⟩ := h
  rw [List.length_cons, rs.length, hk]
theorem spRd_go {X : Type} {enc : X → List RP} {m : RdSt → X → Option (Tx × RdSt)} {vs : List V} {H : Hp} {Q : VK} {E : XK} {N : List Str} {t : TS} {De : Ends} (h : spRd K enc m vs H Q E)
    (k : ∀ b rn fl ds st G x r st', m st x = some (r, st') → ds.length = st.found.length → SA ((osRd K b rn fl ds st).map (·.1)) G H ((isV (.ref b) :: enc x).map some ++ List.replicate (N.length - (isV (.ref b) :: enc x).length) none) (osRd K b rn fl ds st) [] (L2.start N vs) G H →
      (∀ v G' H' Ts' σ' Γ' ds', SA ((osRd K b rn fl ds st).map (·.1)) G H Γ' (osRd K b rn fl ds' st') Ts' σ' G' H' → ds'.length = st'.found.length → (∀ a ∈ ds', a ∈ ds ∨ H a = none) → (D K (eS r)).r G' v → Q v H') → t De (L2.start N vs) H) : t De (L2.start N vs) H := by
  obtain ⟨G, b, rn, fl, ds, st, x, us, r, st', rfl, f, hh, nd, hl, rs, hm, q⟩ := h
  exact k b rn fl ds st G x r st' hm hl (SA.startA f (env_start (.cons rfl rs)) hh nd) fun v G' H' _ _ _ ds' s hl' hd rv => q v ds' G' H' s.g s.held s.nd hl' hd rv
end
end K0
set_option Elab.async false
set_option linter.all false
set_option maxRecDepth 100000
set_option maxHeartbeats 4000000
namespace K0
open PySem PySem.Spec PyProof.Rows L2 Fz
def cKinds : Tx := [107, 105, 110, 100, 115]
def cRules : Tx := [114, 117, 108, 101, 115]
def cSecond : Tx := [116, 104, 101, 32, 107, 105, 110, 100, 115, 32, 115, 116, 97, 110, 100, 32, 105, 110, 32, 116, 104, 101, 32, 115, 101, 99, 111, 110, 100, 32, 108, 105, 110, 101]
def m_take_kinds (st : RdSt) (words : List Tx) : Option (Tx × RdSt) :=
  Option.bind (Fm.ix words 0) fun w0 => if (!decide (w0 = cKinds)) = true then some (cSecond, st) else
  Option.bind (m_wrong_kinds (Fm.cut words (some 1) none)) fun why => if (!(!why.isEmpty)) = true then
    Option.bind (fold (dstep (fun (x : Int × Tx) => some (x.2, x.1))) [] (enumL (Fm.cut words (some 1) none))) fun kn => some (why, { st with known := kn, stage := cRules })
  else some (why, st)
theorem sc_take_kinds : FnScope ["self", "words", "told", "why", "at", "kind"] ["self", "words"] (defScope s_BookReader_take_kinds) := ⟨rfl, rfl, rfl, by decide +kernel, rfl, by decide +kernel, by decide +kernel⟩
abbrev sp_take_kinds (K : PySem.W.Frag) : Sp := spRd K (fun x : List Tx => [D K (eL eS x)]) m_take_kinds
theorem ok_take_kinds {P : Program} {w : World} {K : PySem.W.Frag} {mg : Str → Option Value} {base : Heap} (T : Txt K mg) (h_wrong_kinds : Fok P w K mg base 4 "wrong_kinds" ["kinds"] (sp_wrong_kinds K)) : Mok P w K mg base 5 "BookReader" "_take_kinds" ["self", "words"] (sp_take_kinds K) := by
  refine Mok.mk' T.d_BookReader_take_kinds (fun _ _ _ _ _ _ us hl => match us, hl with | [_, _], _ => rfl) sc_take_kinds (fun vs H Q E h => spRd_len h) (fun cdv A outer s H vs Q E hr h => ⟨_, by
      exact (pss_cons (ps_set (i := 2) sc_take_kinds.nd (by rfl) (Or.inl rfl) (pe_slice (sl_listK (K := K)) (pv 1) (po_some pe_int) po_none))
        (pss_cons (ps_if (pt_cmpR op_ne (pe_ix (ix_listK (K := K)) (pv 1) pe_int (fun _ _ => rfl)) pe_str (nomark _)) (pss_one (ps_ret pe_str)) pss_nil)
        (pss_cons (ps_set (i := 3) sc_take_kinds.nd (by rfl) (Or.inl rfl) (pe_callF h_wrong_kinds (hr.mono (by decide)) (pa_cons (pv 2) pa_nil)))
        (pss_cons (ps_if (pt_not (pt_truth (pv 3) (by intro _; rfl))) (pss_cons (ps_fld (pv 0) (pe_dc (own := [("at", 4), ("kind", 5)]) (by rfl) sc_take_kinds.nd (pi_enumK (K := K) (by rfl) T.n_enumerate (pa_cons (pv 2) pa_nil)) (blkOk_by (N := ["self", "words", "told", "why", "at", "kind"]) (sc := defScope s_BookReader_take_kinds) (by decide +kernel)) (fun _ _ _ _ _ => (pg_tupK (K := K) (n := 2) (by rfl) (pgs_cons (pg_name (i := 4) sc_take_kinds.nd (by rfl) (Or.inl rfl)) (pgs_cons (pg_name (i := 5) sc_take_kinds.nd (by rfl) (Or.inl rfl)) pgs_nil)))) (fun _ _ _ _ _ => pts_nil) (fun _ _ _ _ _ => (pv 5)) (fun _ _ _ _ _ => (pv 4))) (by rfl)) (pss_one (ps_fld (pv 0) pe_str (by rfl)))) pss_nil)
        (pss_one (ps_ret (pv 3))))))), ?_⟩)
  refine spRd_go h fun b rn fl ds st G x r st' hm hl s0 kret => ?_
  have hm : m_take_kinds st x = some (r, st') := hm
  unfold m_take_kinds at hm
  obtain ⟨w0, h0, hm⟩ := bnd' hm
  refine st_set (R := D K (eL eS (Fm.cut x (some 1) none))) s0 (ev_slL (e := eS) (EV.lv (s0.var 1)) (eo_some ev_int) eo_none) (fun _ _ _ s1 => ?_)
  refine nx_go ?_
  refine st_if s1 (et_test (ev_neS (ev_ixL (e := eS) (EV.lv (s1.var 1)) ev_int h0) (ev_strC cKinds))) (fun hb _ _ s2 => ?_) (fun hb _ _ s2 => ?_)
  · replace hm := oif_t hm hb
    refine st_ret (R := D K (eS cSecond)) s2 (ev_strC cSecond (by decide +kernel) (by decide +kernel)) fun _ _ _ s3 rv => ?_
    obtain ⟨rfl, rfl⟩ := Prod.mk.inj (Option.some.inj hm)
    exact kret _ _ _ _ _ _ ds s3 hl (fun a h => .inl h) rv
  · replace hm := oif_f hm hb
    refine st_nil (nx_go ?_)
    obtain ⟨why, h1, hm⟩ := bnd' hm
    refine st_set (R := D K (eS why)) s2 (ev_call (x := Fm.cut x (some 1) none) (m := sm_wrong_kinds) (er := (fun r => D K (eS r))) (ea_cons (s2.var 2) ea_nil) h1) (fun _ _ _ s3 => ?_)
    refine nx_go ?_
    refine st_if s3 (et_not (et_truS (s3.var 3))) (fun hb2 _ _ s4 => ?_) (fun hb2 _ _ s4 => ?_)
    · replace hm := oif_t hm hb2
      obtain ⟨kn, h2, hm⟩ := bnd' hm
      refine st_fld (rs := rs_reader K rn fl st) (R := Fz.fzD K HO.dK keyS (kn.map fun p => (p.1, D K (eI p.2)))) s4 0 0 T.cl_BookReader T.na_BookReader_known (EDN.ev (edn_dc (mk := HO.dK) (f := keyS) (ek := eS) (vs := [4, 5]) (e := fun a => D K (eI a)) keyM_S stpOk_S s4 (ES.o (es_enum (e := eS) (s4.var 2))) h2 (fun _ x20 pr24 _ ho25 _ _ _ _ s271 _ k26 => by
            refine st_bind2 s271 fun _ hw28 s27 => ?_
            obtain rfl := Option.some.inj ho25
            exact k26 _ (hw28 _ (by decide) (by decide)) (s27.var 5) (s27.var 4)))) (fun _ _ s5 => ?_)
      refine nx_go ?_
      replace s5 := s5.to rfl (osRd_known kn)
      refine st_fld (rs := rs_reader K rn fl { st with known := kn }) (R := D K (eS cRules)) s5 0 0 T.cl_BookReader T.na_BookReader_stage (ev_strC cRules) (fun _ _ s6 => ?_)
      replace s6 := s6.to rfl (osRd_stage cRules)
      refine nx_go ?_
      refine st_ret (R := D K (eS why)) s6 (s6.var 3) fun _ _ _ s7 rv => ?_
      obtain ⟨rfl, rfl⟩ := Prod.mk.inj (Option.some.inj hm)
      exact kret _ _ _ _ _ _ ds s7 hl (fun a h => .inl h) rv
    · replace hm := oif_f hm hb2
      refine st_nil (nx_go ?_)
      refine st_ret (R := D K (eS why)) s4 (s4.var 3) fun _ _ _ s7 rv => ?_
      obtain ⟨rfl, rfl⟩ := Prod.mk.inj (Option.some.inj hm)
      exact kret _ _ _ _ _ _ ds s7 hl (fun a h => .inl h) rv
end K0
set_option Elab.async false
set_option linter.all false
set_option maxRecDepth 100000
set_option maxHeartbeats 4000000
namespace K0
open PySem PySem.Spec PyProof.Rows L2 Fz
def cR1 : Tx := [97, 32, 114, 117, 108, 101, 32, 104, 97, 115, 32, 97, 32, 110, 97, 109, 101, 32, 97, 110, 100, 32, 97, 32, 119, 105, 100, 116, 104]
def cR2 : Tx := [97, 32, 114, 117, 108, 101, 32, 104, 97, 115, 32, 97, 32, 110, 97, 109, 101]
def cR3 : Tx := [116, 104, 101, 114, 101, 32, 105, 115, 32, 97, 110, 32, 101, 97, 114, 108, 105, 101, 114, 32, 114, 117, 108, 101, 32, 111, 102, 32, 116, 104, 105, 115, 32, 110, 97, 109, 101]
def cR4 : Tx := [97, 32, 119, 105, 100, 116, 104, 32, 105, 115, 32, 111, 110, 101, 32, 111, 102, 32, 116, 104, 101, 32, 100, 105, 103, 105, 116, 115, 32, 49, 32, 116, 111, 32, 52]
def m_take_rule (st : RdSt) (words : List Tx) : Option (Tx × RdSt) :=
  if (!decide ((words.length : Int) = 3)) = true then some (cR1, st) else
  Option.bind (Fm.ix words 1) fun w1 => Option.bind (m_plain_name w1) fun pn => if (!pn) = true then some (cR2, st) else
  if (look st.names w1).isSome = true then some (cR3, st) else
  Option.bind (Fm.ix words 2) fun w2 => if (!mem w2 c_WIDTHS) = true then some (cR4, st) else
  Option.bind (Fm.dput st.names w1 true) fun nm => Option.bind (Fm.intT w2) fun n => Option.bind (Fm.app st.found (w1, n, [])) fun fd => some ([], { st with names := nm, found := fd })
theorem sc_take_rule : FnScope ["self", "words"] ["self", "words"] (defScope s_BookReader_take_rule) := ⟨rfl, rfl, rfl, by decide +kernel, rfl, by decide +kernel, by decide +kernel⟩
abbrev sp_take_rule (K : PySem.W.Frag) : Sp := spRd K (fun x : List Tx => [D K (eL eS x)]) m_take_rule
theorem zip_snoc {α β : Type} : ∀ (l : List α) (m : List β) (a : α) (b : β), l.length = m.length → (l ++ [a]).zip (m ++ [b]) = l.zip m ++ [(a, b)]
  | [], [], _, _, _ => rfl
  | [], _ :: _, _, _, h => by simp at h
  | _ :: _, [], _, _, h => by simp at h
  | x :: l, y :: m, a, b, h => by
    show (x, y) :: (l ++ [a]).zip (m ++ [b]) = (x, y) :: (l.zip m ++ [(a, b)])
    rw [zip_snoc l m a b (by simpa using h)]
end K0
set_option Elab.async false
set_option linter.all false
set_option maxRecDepth 100000
set_option maxHeartbeats 4000000
namespace K0
open PySem PySem.Spec PyProof.Rows L2 Fz
abbrev nsRd : List Str := ["stage", "known", "rule_names", "found"]
section
variable {K : PySem.W.Frag} {mg : Str → Option Value} {mx : List Addr} {G0 G : GH} {H0 H : Hp} {Γ : List (Option RP)} {Ts : List (V × RP)} {σ : L2.St} {b rn fl : Addr} {ds : List Addr} {st : RdSt}
theorem rd_stage (T : Txt K mg) (s : SA mx G0 H0 Γ (osRd K b rn fl ds st) Ts σ G H) (e : Γ[0]? = some (some (isV (.ref b))) := by rfl) : EV (tFld K (tVar 0) "stage") σ G H (D K (eS st.stage)) := s.fld (rs := rs_reader K rn fl st) 0 0 T.cl_BookReader T.na_BookReader_stage (lookup_at nsRd 0) e
theorem rd_known (T : Txt K mg) (s : SA mx G0 H0 Γ (osRd K b rn fl ds st) Ts σ G H) (e : Γ[0]? = some (some (isV (.ref b))) := by rfl) : EV (tFld K (tVar 0) "known") σ G H (Fz.fzD K HO.dK keyS (st.known.map fun p => (p.1, D K (eI p.2)))) := s.fld (rs := rs_reader K rn fl st) 0 0 T.cl_BookReader T.na_BookReader_known (lookup_at nsRd 1) e
theorem rd_names (T : Txt K mg) (s : SA mx G0 H0 Γ (osRd K b rn fl ds st) Ts σ G H) (e : Γ[0]? = some (some (isV (.ref b))) := by rfl) : EV (tFld K (tVar 0) "rule_names") σ G H (isV (.ref rn)) := s.fld (rs := rs_reader K rn fl st) 0 0 T.cl_BookReader T.na_BookReader_rule_names (lookup_at nsRd 2) e
theorem rd_found (T : Txt K mg) (s : SA mx G0 H0 Γ (osRd K b rn fl ds st) Ts σ G H) (e : Γ[0]? = some (some (isV (.ref b))) := by rfl) : EV (tFld K (tVar 0) "found") σ G H (isV (.ref fl)) := s.fld (rs := rs_reader K rn fl st) 0 0 T.cl_BookReader T.na_BookReader_found (lookup_at nsRd 3) e
theorem osRd_found {n : Tx} {m : Int} {d : Addr} (hl : ds.length = st.found.length) : ((d, Fz.ownD K HO.dT (keyT) []) :: (osRd K b rn fl ds st).set 2 (fl, ownR ((st.found.zip ds).map (fdR K) ++ [tupR K [D K (eS n), D K (eI m), isV (.ref d)]]))).Perm (osRd K b rn fl (ds ++ [d]) { st with found := st.found ++ [(n, m, [])] }) := by
  show List.Perm _ ((b, _) :: (rn, _) :: (fl, ownR (((st.found ++ [(n, m, [])]).zip (ds ++ [d])).map (fdR K))) :: ((st.found ++ [(n, m, [])]).zip (ds ++ [d])).map (fdO K))
  rw [zip_snoc _ _ _ _ hl.symm, List.map_append, List.map_append]
  exact (List.perm_append_comm (l₁ := [(d, Fz.ownD K HO.dT keyT [])]))
theorem osRd_addr (h : ds.length = st.found.length) : (osRd K b rn fl ds st).map (·.1) = b :: rn :: fl :: ds := by
  show b :: rn :: fl :: ((st.found.zip ds).map (fdO K)).map (·.1) = _
  rw [List.map_map]
  show b :: rn :: fl :: (st.found.zip ds).map Prod.snd = _
  rw [List.map_snd_zip (by omega)]
theorem rd_new {ds' : List Addr} {st' : RdSt} (s : SA ((osRd K b rn fl ds st).map (·.1)) G0 H0 Γ (osRd K b rn fl ds' st') Ts σ G H) (hl : ds.length = st.found.length) (hl' : ds'.length = st'.found.length) : ∀ a ∈ ds', a ∈ ds ∨ H0 a = none := by
  intro a ha
  have nd := s.nd
  rw [osRd_addr hl'] at nd
  have hm : a ∈ (osRd K b rn fl ds' st').map (·.1) := by rw [osRd_addr hl']; simp [ha]
  obtain ⟨p, hp, rfl⟩ := List.mem_map.mp hm
  rcases (s.own p hp).2.2 with h | h
  · rw [osRd_addr hl] at h
    simp only [List.nodup_cons, List.mem_cons, not_or] at nd
    simp only [List.mem_cons] at h
    rcases h with h | h | h | h
    · exact absurd (h ▸ ha) nd.1.2.2
    · exact absurd (h ▸ ha) nd.2.1.2
    · exact absurd (h ▸ ha) nd.2.2.1
    · exact .inl h
  · exact .inr h
end
theorem ok_take_rule {P : Program} {w : World} {K : PySem.W.Frag} {mg : Str → Option Value} {base : Heap} (T : Txt K mg) (h_plain_name : Fok P w K mg base 2 "plain_name" ["word"] (sp_plain_name K)) : Mok P w K mg base 3 "BookReader" "_take_rule" ["self", "words"] (sp_take_rule K) := by
  refine Mok.mk' T.d_BookReader_take_rule (fun _ _ _ _ _ _ us hl => match us, hl with | [_, _], _ => rfl) sc_take_rule (fun vs H Q E h => spRd_len h) (fun cdv A outer s H vs Q E hr h => ⟨_, by
      exact (pss_cons (ps_if (pt_cmpR op_ne (pe_callB (call_len_seqK (K := K)) (by rfl) T.n_len PySem.boot_len (pa_cons (pv 1) pa_nil)) pe_int (nomark _)) (pss_one (ps_ret pe_str)) pss_nil)
        (pss_cons (ps_if (pt_not (pt_val (pe_callF h_plain_name (hr.mono (by decide)) (pa_cons (pe_ix (ix_listK (K := K)) (pv 1) pe_int (fun _ _ => rfl)) pa_nil)))) (pss_one (ps_ret pe_str)) pss_nil)
        (pss_cons (ps_if (pt_cmp (pc_din (hu_of hr) (pe_ix (ix_listK (K := K)) (pv 1) pe_int (fun _ _ => rfl)) (pe_fld (pv 0) (by rfl)))) (pss_one (ps_ret pe_str)) pss_nil)
        (pss_cons (ps_if (pt_cmpR (op_niPK (K := K) hr.units) (pe_ix (ix_listK (K := K)) (pv 1) pe_int (fun _ _ => rfl)) (pe_globR T.c_WIDTHS.g) (by rfl)) (pss_one (ps_ret pe_str)) pss_nil)
        (pss_cons (ps_dput (hu_of hr) (pe_fld (pv 0) (by rfl)) (pe_ix (ix_listK (K := K)) (pv 1) pe_int (fun _ _ => rfl)) pe_bl (by rfl))
        (pss_cons (ps_expr (pe_bm PySem.F.plainAttrs_list PySem.F.slot_list_append PySem.F.type_list_append mt_append (pe_fld (pv 0) (by rfl)) (pa_cons (pe_tup (pa_cons (pe_ix (ix_listK (K := K)) (pv 1) pe_int (fun _ _ => rfl)) (pa_cons (pe_callTy call_int_str (by rfl) T.n_int boot_int (pa_cons (pe_ix (ix_listK (K := K)) (pv 1) pe_int (fun _ _ => rfl)) pa_nil)) (pa_cons pe_dnewT pa_nil)))) pa_nil)))
        (pss_one (ps_ret pe_str)))))))), ?_⟩)
  refine spRd_go h fun b rn fl ds st G x r st' hm hl s0 kret => ?_
  have hm : m_take_rule st x = some (r, st') := hm
  unfold m_take_rule at hm
  refine st_if s0 (et_test (ev_neI (ev_lenLm (e := eS) (EV.lv (s0.var 1))) ev_int)) (fun hb _ _ s1 => ?_) (fun hb _ _ s1 => ?_)
  · replace hm := oif_t hm hb
    refine st_ret (R := D K (eS cR1)) s1 (ev_strC cR1 (by decide +kernel) (by decide +kernel)) fun _ _ _ s3 rv => ?_
    obtain ⟨rfl, rfl⟩ := Prod.mk.inj (Option.some.inj hm)
    exact kret _ _ _ _ _ _ ds s3 hl (fun a h => .inl h) rv
  replace hm := oif_f hm hb
  refine st_nil (nx_go ?_)
  obtain ⟨w1, h1, hm⟩ := bnd' hm
  obtain ⟨pn, hpn, hm⟩ := bnd' hm
  refine st_if s1 (et_not (et_B (ev_call (x := w1) (m := sm_plain_name) (er := (fun r => D K (eB r))) (ea_cons (ev_ixL (e := eS) (EV.lv (s1.var 1)) ev_int h1) ea_nil) hpn))) (fun hb _ _ s2 => ?_) (fun hb _ _ s2 => ?_)
  · replace hm := oif_t hm hb
    refine st_ret (R := D K (eS cR2)) s2 (ev_strC cR2 (by decide +kernel) (by decide +kernel)) fun _ _ _ s3 rv => ?_
    obtain ⟨rfl, rfl⟩ := Prod.mk.inj (Option.some.inj hm)
    exact kret _ _ _ _ _ _ ds s3 hl (fun a h => .inl h) rv
  replace hm := oif_f hm hb
  refine st_nil (nx_go ?_)
  refine st_if s2 (et_B (ev_dinT (e := eB) keyM_S (ev_ixL (e := eS) (EV.lv (s2.var 1)) ev_int h1) (SA.heldD (mk := HO.dK) (f := keyS) s2 1 (rd_names T s2)))) (fun hb _ _ s3 => ?_) (fun hb _ _ s3 => ?_)
  · replace hm := oif_t hm hb
    refine st_ret (R := D K (eS cR3)) s3 (ev_strC cR3 (by decide +kernel) (by decide +kernel)) fun _ _ _ s3 rv => ?_
    obtain ⟨rfl, rfl⟩ := Prod.mk.inj (Option.some.inj hm)
    exact kret _ _ _ _ _ _ ds s3 hl (fun a h => .inl h) rv
  replace hm := oif_f hm hb
  refine st_nil (nx_go ?_)
  obtain ⟨w2, h2, hm⟩ := bnd' hm
  refine st_if s3 (et_test (ev_niC T.c_WIDTHS (ev_ixL (e := eS) (EV.lv (s3.var 1)) ev_int h2))) (fun hb _ _ s4 => ?_) (fun hb _ _ s4 => ?_)
  · replace hm := oif_t hm hb
    refine st_ret (R := D K (eS cR4)) s4 (ev_strC cR4 (by decide +kernel) (by decide +kernel)) fun _ _ _ s3 rv => ?_
    obtain ⟨rfl, rfl⟩ := Prod.mk.inj (Option.some.inj hm)
    exact kret _ _ _ _ _ _ ds s3 hl (fun a h => .inl h) rv
  replace hm := oif_f hm hb
  refine st_nil (nx_go ?_)
  obtain ⟨nm, hnm, hm⟩ := bnd' hm
  obtain ⟨n, hn, hm⟩ := bnd' hm
  obtain ⟨fd, hfd, hm⟩ := bnd' hm
  obtain ⟨c1, rfl⟩ := if_some hnm
  obtain ⟨c2, rfl⟩ := if_some hfd
  refine st_dputE (mk := HO.dK) (f := keyS) (kvs := st.names.map fun p => (p.1, D K (eB p.2))) (d := D K (eB true)) keyM_S s4 1 (rd_names T s4) ev_bl (ev_ixL (e := eS) (EV.lv (s4.var 1)) ev_int h1) (by rw [List.length_map]; exact c1) (fun _ _ s5 => ?_)
  replace s5 := s5.to rfl (osRd_names w1 true)
  refine nx_go ?_
  refine st_appendE (p := fl) (New := fun A R => ∃ d, A = [(d, Fz.ownD K HO.dT keyT [])] ∧ R = tupR K [D K (eS w1), D K (eI n), isV (.ref d)]) (Rs := (st.found.zip ds).map (fdR K)) s5 2 (rd_found T s5) (by rw [List.length_map, List.length_zip, hl, Nat.min_self]; exact c2) (fun _ _ s6 => enw_tup3 s6 (ev_ixL (e := eS) (EV.lv (s6.var 1)) ev_int h1) (ev_intT (ev_ixL (e := eS) (EV.lv (s6.var 1)) ev_int h2) hn)) (fun A R _ H6 hN s6 => ?_)
  obtain ⟨d, rfl, rfl⟩ := hN
  replace s6 := s6.perm (osRd_found hl)
  refine nx_go ?_
  refine st_ret (R := D K (eS [])) s6 (ev_strC []) fun _ _ _ s7 rv => ?_
  obtain ⟨rfl, rfl⟩ := Prod.mk.inj (Option.some.inj hm)
  have hl' : (ds ++ [d]).length = (st.found ++ [(w1, n, ([] : List (List Tx × Bool)))]).length := by rw [List.length_append, List.length_append, hl]; rfl
  exact kret _ _ _ _ _ _ (ds ++ [d]) s7 hl' (rd_new s7 hl hl') rv
end K0
set_option Elab.async false
set_option linter.all false
set_option maxRecDepth 100000
set_option maxHeartbeats 4000000
namespace K0
open PySem PySem.Spec PyProof.Rows L2 Fz
def cW1 : Tx := [97, 32, 114, 111, 119, 32, 115, 116, 97, 110, 100, 115, 32, 98, 101, 108, 111, 119, 32, 105, 116, 115, 32, 114, 117, 108, 101]
def cW2 : Tx := [116, 104, 101, 32, 114, 111, 119, 32, 115, 116, 111, 111, 100, 32, 98, 101, 102, 111, 114, 101]
def m_take_row (st : RdSt) (words : List Tx) : Option (Tx × RdSt) :=
  if (!(!st.found.isEmpty)) = true then some (cW1, st) else
  Option.bind st.found.getLast? fun q => Option.bind (m_wrong_row (st.known.map (·.1)) q.2.1 (true, words)) fun why => if (!why.isEmpty) = true then some (why, st) else
  if (look q.2.2 words).isSome = true then some (cW2, st) else
  Option.bind (Fm.dput q.2.2 words true) fun rows => some ([], { st with found := st.found.dropLast ++ [(q.1, q.2.1, rows)] })
theorem sc_take_row : FnScope ["self", "words", "told", "why", "row"] ["self", "words"] (defScope s_BookReader_take_row) := ⟨rfl, rfl, rfl, by decide +kernel, rfl, by decide +kernel, by decide +kernel⟩
abbrev sp_take_row (K : PySem.W.Frag) : Sp := spRd K (fun x : List Tx => [D K (eL eS x)]) m_take_row
theorem atI_last {α : Type} (l : List α) (a : α) : L2.atI (l ++ [a]) (-1) = some a := by
  have h1 : ¬ ((0 : Int) ≤ -1) := by decide
  have h2 : -(((l ++ [a]).length : Nat) : Int) ≤ -1 := by rw [List.length_append, List.length_singleton]; omega
  have h3 : ((-1 : Int) + ((l ++ [a]).length : Nat)).toNat = l.length := by rw [List.length_append, List.length_singleton]; omega
  unfold L2.atI L2.ixN
  rw [if_neg h1, if_pos h2, h3]
  simp
theorem set_last {α : Type} : ∀ (l : List α) (a b : α), (l ++ [a]).set l.length b = l ++ [b]
  | [], _, _ => rfl
  | x :: l, a, b => by
    show x :: (l ++ [a]).set l.length b = x :: (l ++ [b])
    rw [set_last l]
section
variable {K : PySem.W.Frag} {b rn fl d : Addr} {ds : List Addr} {f0 : List (Tx × Int × List (List Tx × Bool))} {q : Tx × Int × List (List Tx × Bool)} {stage : Tx} {known : List (Tx × Int)} {names : List (Tx × Bool)}
theorem osRd_last (hl : ds.length = f0.length) : osRd K b rn fl (ds ++ [d]) ⟨stage, known, names, f0 ++ [q]⟩ = (b, ownI (He.ga K "BookReader") (rs_reader K rn fl ⟨stage, known, names, f0 ++ [q]⟩)) :: (rn, Fz.ownD K HO.dK keyS (names.map fun p => (p.1, D K (eB p.2)))) :: (fl, ownR ((f0.zip ds).map (fdR K) ++ [fdR K (q, d)])) :: ((f0.zip ds).map (fdO K) ++ [fdO K (q, d)]) := by
  show (b, _) :: (rn, _) :: (fl, ownR (((f0 ++ [q]).zip (ds ++ [d])).map (fdR K))) :: ((f0 ++ [q]).zip (ds ++ [d])).map (fdO K) = _
  rw [zip_snoc _ _ _ _ hl.symm, List.map_append, List.map_append]
  rfl
theorem osRd_row (hl : ds.length = f0.length) (rows : List (List Tx × Bool)) : (osRd K b rn fl (ds ++ [d]) ⟨stage, known, names, f0 ++ [q]⟩).set (3 + f0.length) (d, Fz.ownD K HO.dT keyT (rows.map fun p => (p.1, D K (eB p.2)))) = osRd K b rn fl (ds ++ [d]) ⟨stage, known, names, f0 ++ [(q.1, q.2.1, rows)]⟩ := by
  rw [osRd_last hl, osRd_last hl, Nat.add_comm]
  have e : ((f0.zip ds).map (fdO K)).length = f0.length := by rw [List.length_map, List.length_zip, hl, Nat.min_self]
  show (b, _) :: (rn, _) :: (fl, _) :: (((f0.zip ds).map (fdO K) ++ [fdO K (q, d)]).set f0.length _) = _
  rw [← e, set_last]
  rfl
theorem osRd_at (hl : ds.length = f0.length) : (osRd K b rn fl (ds ++ [d]) ⟨stage, known, names, f0 ++ [q]⟩)[3 + f0.length]? = some (d, Fz.ownD K HO.dT keyT (q.2.2.map fun p => (p.1, D K (eB p.2)))) := by
  rw [osRd_last hl, Nat.add_comm]
  have e : ((f0.zip ds).map (fdO K)).length = f0.length := by rw [List.length_map, List.length_zip, hl, Nat.min_self]
  show ((f0.zip ds).map (fdO K) ++ [fdO K (q, d)])[f0.length]? = _
  rw [← e, List.getElem?_concat_length]
  rfl
end
theorem ok_take_row {P : Program} {w : World} {K : PySem.W.Frag} {mg : Str → Option Value} {base : Heap} (T : Txt K mg) (h_wrong_row : Fok P w K mg base 1 "wrong_row" ["known", "width", "row"] (sp_wrong_row K)) : Mok P w K mg base 2 "BookReader" "_take_row" ["self", "words"] (sp_take_row K) := by
  refine Mok.mk' T.d_BookReader_take_row (fun _ _ _ _ _ _ us hl => match us, hl with | [_, _], _ => rfl) sc_take_row (fun vs H Q E h => spRd_len h) (fun cdv A outer s H vs Q E hr h => ⟨_, by
      exact (pss_cons (ps_if (pt_not (pt_truth (pe_fld (pv 0) (by rfl)) (by intro _; rfl))) (pss_one (ps_ret pe_str)) pss_nil)
        (pss_cons (ps_set (i := 2) sc_take_row.nd (by rfl) (Or.inl rfl) (pe_ix (ix_listK (K := K)) (pe_fld (pv 0) (by rfl)) (pe_un un_neg pe_int) (fun _ _ => rfl)))
        (pss_cons (ps_set (i := 3) sc_take_row.nd (by rfl) (Or.inl rfl) (pe_callF h_wrong_row (hr.mono (by decide)) (pa_cons (pe_fld (pv 0) (by rfl)) (pa_cons (pe_ix (ix_tupK (K := K)) (pv 2) pe_int (fun _ _ => rfl)) (pa_cons (pv 1) pa_nil)))))
        (pss_cons (ps_if (pt_truth (pv 3) (by intro _; rfl)) (pss_one (ps_ret (pv 3))) pss_nil)
        (pss_cons (ps_set (i := 4) sc_take_row.nd (by rfl) (Or.inl rfl) (pe_callTy (call_tuple_ofK (K := K)) (by rfl) T.n_tuple boot_tuple (pa_cons (pv 1) pa_nil)))
        (pss_cons (ps_if (pt_cmp (pc_din (hu_of hr) (pv 4) (pe_ix (ix_tupK (K := K)) (pv 2) pe_int (fun _ _ => rfl)))) (pss_one (ps_ret pe_str)) pss_nil)
        (pss_cons (ps_dput (hu_of hr) (pe_ix (ix_tupK (K := K)) (pv 2) pe_int (fun _ _ => rfl)) (pv 4) pe_bl (by rfl))
        (pss_one (ps_ret pe_str))))))))), ?_⟩)
  refine spRd_go h fun b rn fl ds st G x r st' hm hl s0 kret => ?_
  have hm : m_take_row st x = some (r, st') := hm
  unfold m_take_row at hm
  have e0 : (!((st.found.zip ds).map (fdR K)).isEmpty) = (!st.found.isEmpty) := by
    cases hf : st.found with
    | nil => rfl
    | cons a l =>
      cases hd : ds with
      | nil => rw [hf, hd] at hl; cases hl
      | cons c m => rfl
  have et0 := et_truR (K := K) s0 2 (rd_found T s0)
  rw [e0] at et0
  refine st_if s0 (et_not et0) (fun hb _ _ s1 => ?_) (fun hb _ _ s1 => ?_)
  · replace hm := oif_t hm hb
    refine st_ret (R := D K (eS cW1)) s1 (ev_strC cW1 (by decide +kernel) (by decide +kernel)) fun _ _ _ s3 rv => ?_
    obtain ⟨rfl, rfl⟩ := Prod.mk.inj (Option.some.inj hm)
    exact kret _ _ _ _ _ _ ds s3 hl (fun a h => .inl h) rv
  replace hm := oif_f hm hb
  refine st_nil (nx_go ?_)
  obtain ⟨q, hq, hm⟩ := bnd' hm
  obtain ⟨stage, known, names, found⟩ := st
  have hq : found.getLast? = some q := hq
  obtain ⟨f0, rfl⟩ := List.getLast?_eq_some_iff.mp hq
  have hne : ds ≠ [] := by rintro rfl; simp at hl
  obtain ⟨ds0, d, rfl⟩ : ∃ ds0 d, ds = ds0 ++ [d] := ⟨ds.dropLast, ds.getLast hne, (List.dropLast_concat_getLast hne).symm⟩
  have hl0 : ds0.length = f0.length := by simpa using hl
  have hz : ((f0 ++ [q]).zip (ds0 ++ [d])).map (fdR K) = (f0.zip ds0).map (fdR K) ++ [fdR K (q, d)] := by rw [zip_snoc _ _ _ _ hl0.symm, List.map_append]; rfl
  refine st_set (R := fdR K (q, d)) s1 (ev_ixR (Rs := ((f0 ++ [q]).zip (ds0 ++ [d])).map (fdR K)) s1 2 (rd_found T s1) (ev_neg ev_int) (by rw [hz]; exact atI_last _ _)) (fun _ _ _ s2 => ?_)
  refine nx_go ?_
  obtain ⟨why, hw, hm⟩ := bnd' hm
  refine st_set (R := D K (eS why)) s2 (ev_call (x := (known.map (fun p : Tx × Int => p.1), q.2.1, (true, x))) (m := sm_wrong_row) (er := (fun r => D K (eS r))) (ea_cons (ev_fzK (rd_known T s2)) (ea_cons (ev_ixTR (s2.var 2) ev_int rfl) (ea_cons (ev_ofL (s2.var 1)) ea_nil))) hw) (fun _ _ _ s3 => ?_)
  refine nx_go ?_
  refine st_if s3 (et_truS (s3.var 3)) (fun hb2 _ _ s4 => ?_) (fun hb2 _ _ s4 => ?_)
  · replace hm := oif_t hm hb2
    refine st_ret (R := D K (eS why)) s4 (s4.var 3) fun _ _ _ s5 rv => ?_
    obtain ⟨rfl, rfl⟩ := Prod.mk.inj (Option.some.inj hm)
    exact kret _ _ _ _ _ _ (ds0 ++ [d]) s5 hl (fun a h => .inl h) rv
  replace hm := oif_f hm hb2
  refine st_nil (nx_go ?_)
  refine st_set (R := D K (eT eS x)) s4 (ev_tupleL (EV.lv (s4.var 1))) (fun _ _ _ s5 => ?_)
  refine nx_go ?_
  refine st_if s5 (et_B (ev_dinT (e := eB) keyM_T (s5.var 4) (SA.heldD (mk := HO.dT) (f := keyT) s5 (3 + f0.length) (ev_ixTR (s5.var 2) ev_int rfl) (osRd_at hl0)))) (fun hb3 _ _ s6 => ?_) (fun hb3 _ _ s6 => ?_)
  · replace hm := oif_t hm hb3
    refine st_ret (R := D K (eS cW2)) s6 (ev_strC cW2 (by decide +kernel) (by decide +kernel)) fun _ _ _ s7 rv => ?_
    obtain ⟨rfl, rfl⟩ := Prod.mk.inj (Option.some.inj hm)
    exact kret _ _ _ _ _ _ (ds0 ++ [d]) s7 hl (fun a h => .inl h) rv
  replace hm := oif_f hm hb3
  refine st_nil (nx_go ?_)
  obtain ⟨rows, hr1, hm⟩ := bnd' hm
  obtain ⟨c1, rfl⟩ := if_some hr1
  refine st_dputE (mk := HO.dT) (f := keyT) (kvs := q.2.2.map fun p => (p.1, D K (eB p.2))) (d := D K (eB true)) keyM_T s6 (3 + f0.length) (ev_ixTR (s6.var 2) ev_int rfl) ev_bl (s6.var 4) (by rw [List.length_map]; exact c1) (fun _ _ s7 => ?_) (osRd_at hl0)
  have e7 : (putA (q.2.2.map fun p => (p.1, D K (eB p.2))) x (D K (eB true))) = (putA q.2.2 x true).map fun p => (p.1, D K (eB p.2)) := (putA_map (fun a => D K (eB a)) _ _ _).symm
  rw [e7] at s7
  replace s7 := s7.to rfl (osRd_row hl0 (putA q.2.2 x true))
  refine nx_go ?_
  refine st_ret (R := D K (eS [])) s7 (ev_strC []) fun _ _ _ s8 rv => ?_
  obtain ⟨rfl, e8⟩ := Prod.mk.inj (Option.some.inj hm)
  have e9 : (f0 ++ [q]).dropLast = f0 := List.dropLast_concat
  have e10 : (⟨stage, known, names, f0 ++ [(q.1, q.2.1, putA q.2.2 x true)]⟩ : RdSt) = st' := by rw [← e8]; show _ = (⟨stage, known, names, (f0 ++ [q]).dropLast ++ [(q.1, q.2.1, putA q.2.2 x true)]⟩ : RdSt); rw [e9]
  subst e10
  exact kret _ _ _ _ _ _ (ds0 ++ [d]) s8 (by simp [hl0]) (fun a h => .inl h) rv
end K0
set_option Elab.async false
set_option linter.all false
set_option maxRecDepth 100000
set_option maxHeartbeats 4000000
namespace K0
open PySem PySem.Spec PyProof.Rows L2 Fz
section
variable {K : PySem.W.Frag} {mx : List Addr} {G0 G : GH} {H0 H : Hp} {Γ : List (Option RP)} {B : List (Addr × OP)} {Ts : List (V × RP)} {σ : L2.St} {b rn fl : Addr} {ds : List Addr} {st st' : RdSt}
/-- a method of the reader called -/
theorem rd_call {X : Type} {enc : X → List RP} {m : RdSt → X → Option (Tx × RdSt)} {x : X} {r : Tx} {t : TA} {f : Str} {E : XK}
    (s : SA mx G0 H0 Γ (osRd K b rn fl ds st ++ B) Ts σ G H) (hl : ds.length = st.found.length) (i : Nat) (ha : EA t σ G H (enc x)) (hm : m st x = some (r, st')) {Q : VK}
    (k : ∀ v ds' G1 H1, SA mx G0 H0 Γ (osRd K b rn fl ds' st' ++ B) Ts σ G1 H1 → ds'.length = st'.found.length → (D K (eS r)).r G1 v → Q v H1) (e : Γ[i]? = some (some (isV (.ref b))) := by rfl) (hf : (nsRd.all fun g => decide (g ≠ f)) = true := by decide +kernel) :
    tMeth (He.ga K "BookReader") f (spRd K enc m) [] E (tVar i) t σ H Q := by
  obtain ⟨w, hw, rw'⟩ := s.env.2 i _ e
  have ew : w = .ref b := rw'
  subst ew
  obtain ⟨n, ⟨u, hu, dx, fs, eu, hr⟩, _⟩ := s.at_ (P := ownI (He.ga K "BookReader") (rs_reader K rn fl st)) 0 rfl
  subst eu
  refine ⟨_, hw, b, dx, fs, rfl, hu, hr.lookN hf, ?_⟩
  refine ha.go s.fit fun us G1 H1 g1 rs => ?_
  have s1 := s.step g1
  rw [List.append_nil]
  refine ⟨G1, b, rn, fl, ds, st, x, us, r, st', rfl, s1.fit, fun p hp => s1.held p (List.mem_append_left _ hp), ?_, hl, rs, hm, fun v ds' G2 H2 g2 hh nd hl' hd rv => ?_⟩
  · have nd := s1.nd
    rw [List.map_append] at nd
    exact (List.nodup_append.mp nd).1
  · refine k v ds' G2 H2 (s1.stepA g2 hh (fun p hp => ?_) nd) hl' rv
    have h1 : p.1 ∈ (osRd K b rn fl ds' st').map (·.1) := List.mem_map_of_mem hp
    rw [osRd_addr hl'] at h1
    rw [osRd_addr hl]
    simp only [List.mem_cons] at h1 ⊢
    rcases h1 with h | h | h | h
    · exact .inl (.inl h)
    · exact .inl (.inr (.inl h))
    · exact .inl (.inr (.inr (.inl h)))
    · rcases hd _ h with h | h
      · exact .inl (.inr (.inr (.inr h)))
      · exact .inr h
end
def cDone : Tx := [100, 111, 110, 101]
def cBook : Tx := [98, 111, 111, 107]
def cRule : Tx := [114, 117, 108, 101]
def cT1 : Tx := [97, 32, 98, 111, 111, 107, 32, 98, 101, 103, 105, 110, 115, 32, 119, 105, 116, 104, 32, 116, 104, 101, 32, 108, 105, 110, 101, 32, 98, 111, 111, 107]
def cT2 : Tx := [110, 111, 116, 104, 105, 110, 103, 32, 115, 116, 97, 110, 100, 115, 32, 98, 101, 104, 105, 110, 100, 32, 100, 111, 110, 101]
def m_take (st : RdSt) (line : Tx) : Option (Tx × RdSt) :=
  Option.bind (Fm.split line [32]) fun words =>
  if (decide (st.stage = cHead)) = true then some (if (decide (line = cBook)) = true then [] else cT1, { st with stage := cKinds }) else
  if (decide (st.stage = cKinds)) = true then m_take_kinds st words else
  if (decide (st.stage = cDone)) = true then some (cT2, st) else
  if (decide (line = cDone)) = true then some ([], { st with stage := cDone }) else
  Option.bind (Fm.ix words 0) fun w0 => if (decide (w0 = cRule)) = true then m_take_rule st words else m_take_row st words
theorem sc_take : FnScope ["self", "line", "words"] ["self", "line"] (defScope s_BookReader_take) := ⟨rfl, rfl, rfl, by decide +kernel, rfl, by decide +kernel, by decide +kernel⟩
abbrev sp_take (K : PySem.W.Frag) : Sp := spRd K (fun x : Tx => [D K (eS x)]) m_take
theorem ok_take {P : Program} {w : World} {K : PySem.W.Frag} {mg : Str → Option Value} {base : Heap} (T : Txt K mg) (h1 : Mok P w K mg base 5 "BookReader" "_take_kinds" ["self", "words"] (sp_take_kinds K)) (h2 : Mok P w K mg base 3 "BookReader" "_take_rule" ["self", "words"] (sp_take_rule K)) (h3 : Mok P w K mg base 2 "BookReader" "_take_row" ["self", "words"] (sp_take_row K)) : Mok P w K mg base 6 "BookReader" "take" ["self", "line"] (sp_take K) := by
  refine Mok.mk' T.d_BookReader_take (fun _ _ _ _ _ _ us hl => match us, hl with | [_, _], _ => rfl) sc_take (fun vs H Q E h => spRd_len h) (fun cdv A outer s H vs Q E hr h => ⟨_, by
      exact (pss_cons (ps_set (i := 2) sc_take.nd (by rfl) (Or.inl rfl) (pe_split (pv 1) pe_str))
        (pss_cons (ps_if (pt_cmpR op_eq (pe_fld (pv 0) (by rfl)) pe_str (nomark _)) (pss_cons (ps_fld (pv 0) pe_str (by rfl)) (pss_one (ps_ret (pe_ifExp (pt_cmpR op_eq (pv 1) pe_str (nomark _)) pe_str pe_str)))) pss_nil)
        (pss_cons (ps_if (pt_cmpR op_eq (pe_fld (pv 0) (by rfl)) pe_str (nomark _)) (pss_one (ps_ret (pe_methF h1 T.cl_BookReader T.me_BookReader_take_kinds (hr.mono (by decide)) (pv 0) (pa_cons (pv 2) pa_nil)))) pss_nil)
        (pss_cons (ps_if (pt_cmpR op_eq (pe_fld (pv 0) (by rfl)) pe_str (nomark _)) (pss_one (ps_ret pe_str)) pss_nil)
        (pss_cons (ps_if (pt_cmpR op_eq (pv 1) pe_str (nomark _)) (pss_cons (ps_fld (pv 0) pe_str (by rfl)) (pss_one (ps_ret pe_str))) pss_nil)
        (pss_cons (ps_if (pt_cmpR op_eq (pe_ix (ix_listK (K := K)) (pv 2) pe_int (fun _ _ => rfl)) pe_str (nomark _)) (pss_one (ps_ret (pe_methF h2 T.cl_BookReader T.me_BookReader_take_rule (hr.mono (by decide)) (pv 0) (pa_cons (pv 2) pa_nil)))) pss_nil)
        (pss_one (ps_ret (pe_methF h3 T.cl_BookReader T.me_BookReader_take_row (hr.mono (by decide)) (pv 0) (pa_cons (pv 2) pa_nil)))))))))), ?_⟩)
  refine spRd_go h fun b rn fl ds st G x r st' hm hl s0 kret => ?_
  have hm : m_take st x = some (r, st') := hm
  unfold m_take at hm
  obtain ⟨words, hw, hm⟩ := bnd' hm
  refine st_set (R := D K (eL eS words)) s0 (EN.ev (en_split (s0.var 1) (ev_strC [32]) hw)) (fun _ _ _ s1 => ?_)
  refine nx_go ?_
  refine st_if s1 (et_test (ev_eqS (rd_stage T s1) (ev_strC cHead))) (fun hb _ _ s2 => ?_) (fun hb _ _ s2 => ?_)
  · replace hm := oif_t hm hb
    refine st_fld (rs := rs_reader K rn fl st) (R := D K (eS cKinds)) s2 0 0 T.cl_BookReader T.na_BookReader_stage (ev_strC cKinds) (fun _ _ s3 => ?_)
    replace s3 := s3.to rfl (osRd_stage cKinds)
    refine nx_go ?_
    refine st_ret (R := D K (eS (if (decide (x = cBook)) = true then [] else cT1))) s3 (ev_ifD (e := eS) (et_test (ev_eqS (s3.var 1) (ev_strC cBook))) (fun _ => ev_strC []) (fun _ => ev_strC cT1 (by decide +kernel) (by decide +kernel))) fun _ _ _ s4 rv => ?_
    obtain ⟨rfl, rfl⟩ := Prod.mk.inj (Option.some.inj hm)
    exact kret _ _ _ _ _ _ ds s4 hl (fun a h => .inl h) rv
  replace hm := oif_f hm hb
  refine st_nil (nx_go ?_)
  refine st_if s2 (et_test (ev_eqS (rd_stage T s2) (ev_strC cKinds))) (fun hb _ _ s3 => ?_) (fun hb _ _ s3 => ?_)
  · replace hm := oif_t hm hb
    refine rd_call (B := []) (s3.to rfl (List.append_nil _).symm) hl 0 (x := words) (ea_cons (s3.var 2) ea_nil) hm fun v ds' _ _ s4 hl' rv => ?_
    exact kret _ _ _ _ _ _ ds' (s4.to rfl (List.append_nil _)) hl' (rd_new (s4.to rfl (List.append_nil _)) hl hl') rv
  replace hm := oif_f hm hb
  refine st_nil (nx_go ?_)
  refine st_if s3 (et_test (ev_eqS (rd_stage T s3) (ev_strC cDone))) (fun hb _ _ s4 => ?_) (fun hb _ _ s4 => ?_)
  · replace hm := oif_t hm hb
    refine st_ret (R := D K (eS cT2)) s4 (ev_strC cT2 (by decide +kernel) (by decide +kernel)) fun _ _ _ s5 rv => ?_
    obtain ⟨rfl, rfl⟩ := Prod.mk.inj (Option.some.inj hm)
    exact kret _ _ _ _ _ _ ds s5 hl (fun a h => .inl h) rv
  replace hm := oif_f hm hb
  refine st_nil (nx_go ?_)
  refine st_if s4 (et_test (ev_eqS (s4.var 1) (ev_strC cDone))) (fun hb _ _ s5 => ?_) (fun hb _ _ s5 => ?_)
  · replace hm := oif_t hm hb
    refine st_fld (rs := rs_reader K rn fl st) (R := D K (eS cDone)) s5 0 0 T.cl_BookReader T.na_BookReader_stage (ev_strC cDone) (fun _ _ s6 => ?_)
    replace s6 := s6.to rfl (osRd_stage cDone)
    refine nx_go ?_
    refine st_ret (R := D K (eS [])) s6 (ev_strC []) fun _ _ _ s7 rv => ?_
    obtain ⟨rfl, rfl⟩ := Prod.mk.inj (Option.some.inj hm)
    exact kret _ _ _ _ _ _ ds s7 hl (fun a h => .inl h) rv
  replace hm := oif_f hm hb
  refine st_nil (nx_go ?_)
  obtain ⟨w0, h0, hm⟩ := bnd' hm
  refine st_if s5 (et_test (ev_eqS (ev_ixL (e := eS) (EV.lv (s5.var 2)) ev_int h0) (ev_strC cRule))) (fun hb _ _ s6 => ?_) (fun hb _ _ s6 => ?_)
  · replace hm := oif_t hm hb
    refine rd_call (B := []) (s6.to rfl (List.append_nil _).symm) hl 0 (x := words) (ea_cons (s6.var 2) ea_nil) hm fun v ds' _ _ s7 hl' rv => ?_
    exact kret _ _ _ _ _ _ ds' (s7.to rfl (List.append_nil _)) hl' (rd_new (s7.to rfl (List.append_nil _)) hl hl') rv
  replace hm := oif_f hm hb
  refine st_nil (nx_go ?_)
  refine rd_call (B := []) (s6.to rfl (List.append_nil _).symm) hl 0 (x := words) (ea_cons (s6.var 2) ea_nil) hm fun v ds' _ _ s7 hl' rv => ?_
  exact kret _ _ _ _ _ _ ds' (s7.to rfl (List.append_nil _)) hl' (rd_new (s7.to rfl (List.append_nil _)) hl hl') rv
end K0
set_option Elab.async false
set_option linter.all false
set_option maxRecDepth 100000
set_option maxHeartbeats 4000000
namespace K0
open PySem PySem.Spec PyProof.Rows L2 Fz
section
variable {K : PySem.W.Frag} {mx : List Addr} {G0 G : GH} {H0 H : Hp} {Γ : List (Option RP)} {Os : List (Addr × OP)} {Ts : List (V × RP)} {σ : L2.St} {td : TE} {tr : TA} {E : XK}
theorem edv_fz {κ κ' : Type} {mk : List (κ' × V) → HO} [NTm mk] {f : κ → κ'} {kvs : List (κ × RP)} (h : EV td σ G H (Fz.fzD K mk f kvs)) : EDv K mk f td σ G H kvs := fun G1 H1 g Q q => h G1 H1 g _ fun v G2 H2 g2 ⟨p, us, e, z, hp, r⟩ => q v G2 H2 g2 ⟨p, us, e, z, .inl hp, r⟩
theorem ev_ordD {known : List (Tx × Int)} {kvs : List (List Tx × RP)} {d : Addr} {r : List (List Tx)} (s : SA mx G0 H0 Γ Os Ts σ G H) (hd : (d, Fz.ownD K HO.dT keyT kvs) ∈ Os) (hk : ∀ kv ∈ kvs, kv.1.length ≤ sizeLine ∧ ∀ l ∈ kv.1, l.length ≤ sizeLine)
    (ha : EA tr σ G H [Fz.fzD K HO.dK keyS (known.map fun p => (p.1, D K (eI p.2))), isV (.ref d)]) (hm : m_ordered_rowsD known (kvs.map (·.1)) = some r) : EV (tCall (sp_ordered_rowsD K) [] E tr) σ G H (D K (eT (eT eS) r)) := by
  obtain ⟨n, ⟨u, hu, us, eu, z, hr⟩, _⟩ := s.own _ hd
  subst eu
  exact fun G1 H1 g Q q => ha G1 H1 g _ fun vs G2 H2 g2 rs => by
    have gt := g.trans g2
    rw [List.append_nil]
    exact ⟨G2, known, kvs, d, us, r, g2.fit, gt.un n hu, gt.at0 n hu, z, hr.mono gt.sub, hk, rs, hm, fun v G3 H3 g3 rv => q v G3 H3 (g2.trans g3) rv⟩
theorem comp_fst {α β γ : Type} (f : α → Option (Option β)) : ∀ (l : List α) (m : List γ), m.length = l.length → comp (fun q : α × γ => f q.1) (l.zip m) = comp f l
  | [], [], _ => rfl
  | [], _ :: _, h => by simp at h
  | _ :: _, [], h => by simp at h
  | x :: l, y :: m, h => by
    show comp _ ((x, y) :: l.zip m) = _
    have ih := comp_fst f l m (by simpa using h)
    unfold comp
    show (match f x with | none => none | some none => comp _ (l.zip m) | some (some z) => (comp _ (l.zip m)).map (z :: ·)) = _
    rw [ih]
    all_goals (rcases f x with _ | _ | z <;> rfl)
end
def okKeys (found : List (Tx × Int × List (List Tx × Bool))) : Bool := found.all fun x => x.2.2.all fun kv => decide (kv.1.length ≤ sizeLine) && kv.1.all fun l => decide (l.length ≤ sizeLine)
def okKnown (known : List (Tx × Int)) : Bool := known.all fun kv => decide (kv.1.length ≤ sizeLine)
theorem rd_tupKnown {K : PySem.W.Frag} {mg : Str → Option Value} {mx : List Addr} {G0 G : GH} {H0 H : Hp} {Γ : List (Option RP)} {Ts : List (V × RP)} {σ : L2.St} {b rn fl : Addr} {ds : List Addr} {st : RdSt} (T : Txt K mg) (s1 : SA mx G0 H0 Γ (osRd K b rn fl ds st) Ts σ G H) (ok2 : okKnown st.known = true) (e : Γ[0]? = some (some (isV (.ref b))) := by rfl) : EV (tCB rTupleD (tCons (tFld K (tVar 0) "known") tNil)) σ G H (D K ((eT eS) (st.known.map (·.1)))) := by
  have hn : ((eT eS) (st.known.map (·.1))) = ((eT eS) ((st.known.map fun p => (p.1, D K (eI p.2))).map (·.1))) := by rw [List.map_map]; rfl
  rw [hn]
  exact ev_tupleD (edv_fz (rd_known T s1 e)) (fun kv hkv => by
      obtain ⟨p, hp, rfl⟩ := List.mem_map.mp hkv
      exact of_decide_eq_true (List.all_eq_true.mp ok2 _ hp))
def m_whole (st : RdSt) : Option (List Tx × List (Tx × Int × List (List Tx))) :=
  if okKeys st.found = true ∧ okKnown st.known = true then
  Option.bind (comp (fun x : Tx × Int × List (List Tx × Bool) => Option.bind (m_ordered_rowsD st.known (x.2.2.map (·.1))) fun r => some (some (x.1, x.2.1, r))) st.found) fun rr => m_BookParts_init (st.known.map (·.1)) rr else none
theorem sc_whole : FnScope ["self", "rule_row", "name", "width", "rows"] ["self"] (defScope s_BookReader_whole) := ⟨rfl, rfl, rfl, by decide +kernel, rfl, by decide +kernel, by decide +kernel⟩
def sp_whole (K : PySem.W.Frag) : Sp := fun vs H Q E => ∃ (G : GH) (b rn fl : Addr) (ds : List Addr) (st : RdSt) (r : List Tx × List (Tx × Int × List (List Tx))), vs = [.ref b] ∧ Fit G H ∧ Held G H (osRd K b rn fl ds st) ∧ ((osRd K b rn fl ds st).map (·.1)).Nodup ∧ ds.length = st.found.length ∧ m_whole st = some r ∧
  ∀ v G' H', Gr ((osRd K b rn fl ds st).map (·.1)) G H G' H' → (Fz.fzI (He.ga K "BookParts") (rs_BookParts K r)).r G' v → Q v H'
theorem ok_whole {P : Program} {w : World} {K : PySem.W.Frag} {mg : Str → Option Value} {base : Heap} (T : Txt K mg) (h_ord : Fok P w K mg base 1 "ordered_rows" ["known", "rows"] (sp_ordered_rowsD K)) (h_BookParts_init : Mok P w K mg base 1 "BookParts" "__init__" ["self", "kind_row", "rule_row"] (sp_BookParts_init K)) : Mok P w K mg base 3 "BookReader" "whole" ["self"] (sp_whole K) := by
  refine Mok.mk' T.d_BookReader_whole (fun _ _ _ _ _ _ us hl => match us, hl with | [_], _ => rfl) sc_whole (fun vs H Q E h => by obtain ⟨_, _, _, _, _, _, _, rfl, _⟩ := h; rfl) (fun cdv A outer s H vs Q E hr h => ⟨_, by
      exact (pss_cons (ps_setLc (i := 1) (own := [("name", 2), ("width", 3), ("rows", 4)]) (by rfl) sc_whole.nd (by rfl) (by rfl) (sw_true (by rfl) (by rfl) (by rfl) (by decide +kernel)) (pi_listK (K := K) (pe_fld (pv 0) (by rfl))) (blkOk_by (N := ["self", "rule_row", "name", "width", "rows"]) (sc := defScope s_BookReader_whole) (by decide +kernel)) (fun _ _ _ _ _ => (pg_tupK (K := K) (n := 3) (by rfl) (pgs_cons (pg_name (i := 2) sc_whole.nd (by rfl) (Or.inl rfl)) (pgs_cons (pg_name (i := 3) sc_whole.nd (by rfl) (Or.inl rfl)) (pgs_cons (pg_name (i := 4) sc_whole.nd (by rfl) (Or.inl rfl)) pgs_nil))))) (fun _ _ _ _ _ => pts_nil) (fun _ _ _ _ _ => (pe_tup (pa_cons (pv 2) (pa_cons (pv 3) (pa_cons (pe_callF h_ord (hr.mono (by decide)) (pa_cons (pe_fldK (K := K) (pv 0) (by rfl)) (pa_cons (pv 4) pa_nil))) pa_nil))))))
        (pss_one (ps_ret (pe_makeF T.mk_BookParts h_BookParts_init (hr.mono (by decide)) T.g_BookParts (pa_cons (pe_callTy (call_tupleD (by rfl)) (by rfl) T.n_tuple boot_tuple (pa_cons (pe_fld (pv 0) (by rfl)) pa_nil)) (pa_cons (pe_callTy (call_tuple_ofK (K := K)) (by rfl) T.n_tuple boot_tuple (pa_cons (pv 1) pa_nil)) pa_nil)))))), ?_⟩)
  obtain ⟨G, b, rn, fl, ds, st, r, rfl, f, hh, nd, hl, hm, q⟩ := h
  have s0 : SA ((osRd K b rn fl ds st).map (·.1)) G H [some (isV (.ref b)), none, none, none, none] (osRd K b rn fl ds st) [] (L2.start ["self", "rule_row", "name", "width", "rows"] [.ref b]) G H := SA.startA f (env_start (N := ["self", "rule_row", "name", "width", "rows"]) (Rs := [isV (.ref b)]) (.cons rfl .nil)) hh nd
  unfold m_whole at hm
  obtain ⟨⟨ok1, ok2⟩, hm⟩ : (okKeys st.found = true ∧ okKnown st.known = true) ∧ (Option.bind (comp (fun x : Tx × Int × List (List Tx × Bool) => Option.bind (m_ordered_rowsD st.known (x.2.2.map (·.1))) fun r => some (some (x.1, x.2.1, r))) st.found) fun rr => m_BookParts_init (st.known.map (·.1)) rr) = some r := by
    split at hm
    · rename_i h; exact ⟨h, hm⟩
    · cases hm
  obtain ⟨rr, hc, hm⟩ := bnd' hm
  rw [← comp_fst _ st.found ds hl] at hc
  refine st_set (R := D K ((eL (eP3 eS eI (eT (eT eS)))) rr)) s0 (EN.ev (en_lc (e' := (eP3 eS eI (eT (eT eS)))) (vs := [2, 3, 4]) s0 (eso_R (e := fdR K) s0 2 (rd_found T s0)) hc (fun _ x o hx ho _ _ _ _ s1 _ k1 => by
      refine st_bind3R s1 fun _ hw s2 => ?_
      obtain ⟨t, ht, ho⟩ := bnd' ho
      obtain rfl := Option.some.inj ho
      refine k1 _ (hw _ (by decide) (by decide) (by decide)) et_yes (fun y hy => by
        cases hy
        refine ev_tup (ds := [eS x.1.1, eI x.1.2.1, (eT (eT eS)) t]) (ea_cons (s2.var 2) (ea_cons (s2.var 3) (ea_cons (ev_ordD (kvs := x.1.2.2.map fun p => (p.1, D K (eB p.2))) (d := x.2) s2 ?_ ?_ (ea_cons (rd_known T s2) (ea_cons (s2.var 4) ea_nil)) (by rw [List.map_map]; exact ht)) ea_nil)))
        · exact List.mem_cons_of_mem _ (List.mem_cons_of_mem _ (List.mem_cons_of_mem _ (List.mem_map_of_mem (f := fdO K) hx)))
        · intro kv hkv
          obtain ⟨p, hp, rfl⟩ := List.mem_map.mp hkv
          have h1 := List.all_eq_true.mp (List.all_eq_true.mp ok1 _ (List.of_mem_zip hx).1) _ hp
          rw [Bool.and_eq_true, decide_eq_true_eq] at h1
          exact ⟨h1.1, fun l hl' => of_decide_eq_true (List.all_eq_true.mp h1.2 _ hl')⟩)))) (fun _ _ _ s1 => ?_)
  refine nx_go ?_
  refine st_ret (R := Fz.fzI (He.ga K "BookParts") (rs_BookParts K r)) s1 (ev_make (x := (st.known.map (fun p : Tx × Int => p.1), rr)) (m := sm_BookParts_init) (fsr := fun y => rs_BookParts K y) (ea_cons (rd_tupKnown T s1 ok2) (ea_cons (ev_tupleL (EV.lv (s1.var 1))) ea_nil)) hm) fun _ _ _ s2 rv => ?_
  exact q _ _ _ s2.g rv
end K0
set_option Elab.async false
set_option linter.all false
set_option maxRecDepth 100000
set_option maxHeartbeats 4000000
namespace K0
open PySem PySem.Spec PyProof.Rows L2 Fz
abbrev rd0 : RdSt := ⟨cHead, [], [], []⟩
section
variable {K : PySem.W.Frag} {mg : Str → Option Value} {mx : List Addr} {G0 G : GH} {H0 H : Hp} {Γ : List (Option RP)} {Os B : List (Addr × OP)} {Ts : List (V × RP)} {σ : L2.St} {De : Ends} {b rn fl : Addr} {ds : List Addr} {st : RdSt} {E : XK}
theorem st_setRd (s : SA mx G0 H0 Γ Os Ts σ G H) (i : Nat) (k : ∀ b rn fl σ' G1 H1, SA mx G0 H0 (Γ.set i (some (isV (.ref b)))) (osRd K b rn fl [] rd0 ++ Os) Ts σ' G1 H1 → De.nx σ' H1) : tAsg (tMake (He.ga K "BookReader") (sp_BookReader_init K) [] E tNil) (gName i) De σ H := by
  show ∀ x dx, H x = none → H dx = none → dx ≠ x → _
  intro b dx hb hdx hne
  have g3 : Gr [] G H G (upd H dx (.own b)) := Gr.new s.fit hdx
  have hb3 : upd H dx (.own b) b = none := by rw [upd_ne (Ne.symm hne)]; exact hb
  have s4 := (s.step g3).made (P := ownI (He.ga K "BookReader") []) (o := .ins (He.ga K "BookReader") dx []) hb3 ⟨dx, [], rfl, .nil⟩
  have hs := s4.own _ (List.Mem.head _)
  refine ⟨G, b, rfl, s4.fit, hs.1, ⟨dx, upd_same⟩, fun rn fl G' H' g5 hrn hfl nd hh => ⟨rfl, ?_⟩⟩
  have s5 := SA.stepA (A := [(b, ownI (He.ga K "BookReader") [])]) (B := Os) s4 g5 hh (fun p hp => by
    rcases List.mem_cons.mp hp with rfl | hp
    · exact .inl (List.Mem.head _)
    · rcases List.mem_cons.mp hp with rfl | hp
      · exact .inr hrn
      · rw [List.mem_singleton.mp hp]
        exact .inr hfl) nd
  exact k b rn fl _ G' H' (s5.set i (R := isV (.ref b)) rfl)
theorem rd_stageB (T : Txt K mg) (s : SA mx G0 H0 Γ (osRd K b rn fl ds st ++ B) Ts σ G H) (i : Nat) (e : Γ[i]? = some (some (isV (.ref b))) := by rfl) : EV (tFld K (tVar i) "stage") σ G H (D K (eS st.stage)) := s.fld (rs := rs_reader K rn fl st) i 0 T.cl_BookReader T.na_BookReader_stage (lookup_at nsRd 0) e
theorem rd_whole {r : List Tx × List (Tx × Int × List (List Tx))}
    (s : SA mx G0 H0 Γ (osRd K b rn fl ds st ++ B) Ts σ G H) (hl : ds.length = st.found.length) (i : Nat) (hm : m_whole st = some r) {Q : VK}
    (k : ∀ v G1 H1, SA mx G0 H0 Γ B Ts σ G1 H1 → (Fz.fzI (He.ga K "BookParts") (rs_BookParts K r)).r G1 v → Q v H1) (e : Γ[i]? = some (some (isV (.ref b))) := by rfl) :
    tMeth (He.ga K "BookReader") "whole" (sp_whole K) [] E (tVar i) tNil σ H Q := by
  obtain ⟨w, hw, rw'⟩ := s.env.2 i _ e
  have ew : w = .ref b := rw'
  subst ew
  obtain ⟨n, ⟨u, hu, dx, fs, eu, hr⟩, _⟩ := s.at_ (P := ownI (He.ga K "BookReader") (rs_reader K rn fl st)) 0 rfl
  subst eu
  refine ⟨_, hw, b, dx, fs, rfl, hu, hr.lookN (f := "whole") (by show (nsRd.all fun g => decide (g ≠ "whole")) = true; decide +kernel), ?_⟩
  have nd := s.nd
  rw [List.map_append] at nd
  refine ⟨G, b, rn, fl, ds, st, r, rfl, s.fit, fun p hp => s.held p (List.mem_append_left _ hp), (List.nodup_append.mp nd).1, hl, hm, fun v G2 H2 g2 rv => ?_⟩
  exact k v G2 H2 (SA.stepA (A' := []) s g2 (fun _ h => nomatch h) (fun _ h => nomatch h) List.nodup_nil) rv
end
def rdStep (st : RdSt) (x : Int × Tx) : Option RdSt := Option.bind (m_take st x.2) fun p => if (!p.1.isEmpty) = true then none else some p.2
def m_read_book (text : Tx) : Option (List Tx × List (Tx × Int × List (List Tx))) :=
  Option.bind (Fm.split text [10]) fun ls => Option.bind ls.getLast? fun behind => Option.bind (fold rdStep rd0 (enumL ls.dropLast)) fun st =>
  if ((!behind.isEmpty) || (!decide (st.stage = cDone))) = true then none else m_whole st
abbrev sp_read_book (K : PySem.W.Frag) : Sp := spF (fun x : Tx => [D K (eS x)]) m_read_book (fun r => Fz.fzI (He.ga K "BookParts") (rs_BookParts K r))
theorem sc_read_book : FnScope ["text", "lines", "behind", "reader", "at", "line", "why"] ["text"] (defScope s_read_book) := ⟨rfl, rfl, rfl, by decide +kernel, rfl, by decide +kernel, by decide +kernel⟩
theorem ok_read_book {P : Program} {w : World} {K : PySem.W.Frag} {mg : Str → Option Value} {base : Heap} (T : Txt K mg) (h_init : Mok P w K mg base 1 "BookReader" "__init__" ["self"] (sp_BookReader_init K)) (h_take : Mok P w K mg base 6 "BookReader" "take" ["self", "line"] (sp_take K)) (h_whole : Mok P w K mg base 3 "BookReader" "whole" ["self"] (sp_whole K)) : Fok P w K mg base 7 "read_book" ["text"] (sp_read_book K) := by
  refine Fok.mk' T.g_read_book T.d_read_book (fun _ _ _ _ _ _ us hl => match us, hl with | [_], _ => rfl) sc_read_book (fun vs H Q E h => spF_len h) (fun cdv A outer s H vs Q E hr h => ⟨_, by
      exact (pss_cons (ps_set (i := 1) sc_read_book.nd (by rfl) (Or.inl rfl) (pe_split (pv 0) pe_str))
        (pss_cons (ps_set (i := 2) sc_read_book.nd (by rfl) (Or.inl rfl) (pe_bm0 PySem.F.plainAttrs_list PySem.F.slot_list_pop PySem.F.type_list_pop mt_pop (pv 1)))
        (pss_cons (ps_set (i := 3) sc_read_book.nd (by rfl) (Or.inl rfl) (pe_makeF0 T.mk_BookReader h_init (hr.mono (by decide)) T.g_BookReader))
        (pss_cons (ps_for PassesOwn.never (by rfl) (pi_enumK (K := K) (by rfl) T.n_enumerate (pa_cons (pv 1) pa_nil)) (pg_tupK (K := K) (n := 2) (by rfl) (pgs_cons (pg_name (i := 4) sc_read_book.nd (by rfl) (Or.inl rfl)) (pgs_cons (pg_name (i := 5) sc_read_book.nd (by rfl) (Or.inl rfl)) pgs_nil)))
          (pss_cons (ps_set (i := 6) sc_read_book.nd (by rfl) (Or.inl rfl) (pe_methF h_take T.cl_BookReader T.me_BookReader_take (hr.mono (by decide)) (pv 3) (pa_cons (pv 5) pa_nil)))
          (pss_one (ps_if (pt_truth (pv 6) (by intro _; rfl)) (pss_one ps_never) pss_nil))))
        (pss_cons (ps_if (PW.pt (pw_or (pt_truth (pv 2) (by intro _; rfl)) (pw_or1 (pt_cmpR op_ne (pe_fld (pv 3) (by rfl)) pe_str (nomark _))))) (pss_one ps_never) pss_nil)
        (pss_one (ps_ret (pe_methF0 h_whole T.cl_BookReader T.me_BookReader_whole (hr.mono (by decide)) (pv 3))))))))), ?_⟩)
  refine spF_go h fun G x r hm s0 kret => ?_
  have hm : m_read_book x = some r := hm
  unfold m_read_book at hm
  obtain ⟨ls, h0, hm⟩ := bnd' hm
  obtain ⟨behind, h1, hm⟩ := bnd' hm
  obtain ⟨st, h2, hm⟩ := bnd' hm
  refine st_ownT (e := eS) (xs := ls) s0 (en_split (s0.var 0) (ev_strC [10]) h0) (fun p _ _ _ hp s1 => ?_)
  refine nx_go ?_
  refine st_setPop (xs := ls) (e := eS) (a := behind) s1 1 0 h1 (fun _ _ _ s2 => ?_)
  refine nx_go ?_
  obtain ⟨G3, _, _, s3⟩ := s2.freeze 1 0 hp
  refine st_setRd s3 3 (fun b rn fl _ _ _ s4 => ?_)
  refine nx_go ?_
  replace s4 := s4.to (Os' := osRd K b rn fl [] rd0) rfl (List.append_nil _)
  refine st_forX (f := rdStep) (s0 := rd0) (s1 := st) (fun _ => [some (D K (eS x)), some (D K (eL eS ls.dropLast)), some (D K (eS behind)), some (isV (.ref b)), none, none, none]) (fun sv (ds : List Addr) => osRd K b rn fl ds sv) (fun sv ds => ds.length = sv.found.length) [] (s4.fle (.keep (.keep (.keep (.keep (.skip (.skip (.skip .nil)))))))) rfl (es_enum (e := eS) (s4.var 1)) h2 (fun src sv ds z s' v _ _ _ hz hf hl s5 N kN => ?_) (fun ds _ _ _ hl s5 => ?_)
  · refine st_bind2 s5 fun _ _ s6 => ?_
    unfold rdStep at hf
    obtain ⟨q, hq, hf⟩ := bnd' hf
    obtain ⟨why, st1⟩ := q
    refine rd_call (B := []) (s6.to rfl (List.append_nil _).symm) hl 3 (x := z.2) (ea_cons (s6.var 5) ea_nil) hq fun v ds' _ _ s7 hl' rv => ?_
    replace s7 := s7.to rfl (List.append_nil _)
    have s8 := s7.set 6 (R := D K (eS why)) rv
    refine nx_go ?_
    refine st_if s8 (et_truS (s8.var 6)) (fun hb _ _ s9 => ?_) (fun hb _ _ s9 => ?_)
    · replace hf := oif_t hf hb
      cases hf
    · replace hf := oif_f hf hb
      obtain rfl := Option.some.inj hf
      exact kN ds' _ _ _ hl' (s9.fle (.keep (.keep (.keep (.keep (.skip (.skip (.skip .nil))))))))
  · refine nx_go ?_
    refine st_if s5 (et_or2 (et_truS (s5.var 2)) (fun _ => et_test (ev_neS (rd_stageB (B := []) T (s5.to rfl (List.append_nil _).symm) 3) (ev_strC cDone)))) (fun hb _ _ s6 => ?_) (fun hb _ _ s6 => ?_)
    · replace hm := oif_t hm hb
      cases hm
    · replace hm := oif_f hm hb
      refine st_nil (nx_go ?_)
      exact rd_whole (B := []) (s6.to rfl (List.append_nil _).symm) hl 3 hm fun v _ _ s7 rv => kret _ _ _ _ _ _ _ s7 rv
end K0
set_option Elab.async false
set_option linter.all false
set_option maxRecDepth 100000
set_option maxHeartbeats 8000000
namespace K0
open PySem PySem.Spec PyProof.Rows L2 Fz
abbrev gW (K : PySem.W.Frag) (C : Str) (T : String) (m : Str) : Addr := He5.wf K (He.ga K C) T m
abbrev WrD (K : PySem.W.Frag) (C : Str) (T : String) (m qual : Str) (st : Stmt) : Prop := ∃ fd, FunD K m qual (defArgs st) (defBody st) (defScope st) [] [] (gW K C T m) fd
/-- what else the text says: own classes asked for, the static method, the properties -/
structure TxB (K : PySem.W.Frag) (mg : Str → Option Value) : Prop where
  T : Txt K mg
  ic_Book : C8.InsC K (He.ga K "Book")
  ic_BookParts : C8.InsC K (He.ga K "BookParts")
  ks_BookParts : PySem.W.kitOne K (.type "str") (.ref (He.ga K "BookParts")) = some false
  ks_Book : PySem.W.kitOne K (.type "str") (.ref (He.ga K "Book")) = some false
  ki_Book : PySem.W.kitOne K (.type "int") (.ref (He.ga K "Book")) = some false
  kl_Book : PySem.W.kitOne K (.type "list") (.ref (He.ga K "Book")) = some false
  ss_Book : PySem.W.subIn K (.type "str") (.ref (He.ga K "Book")) = some false
  si_Book : PySem.W.subIn K (.type "int") (.ref (He.ga K "Book")) = some false
  sl_Book : PySem.W.subIn K (.type "list") (.ref (He.ga K "Book")) = some false
  ne_Book : PySem.W.findIn K (.ref (He.ga K "Book")) "__ne__" = some (some (.builtin "object.__ne__"))
  of_Book : SMet K (He.ga K "Book") "of" (gW K "Book" "staticmethod" "of")
  d_of : WrD K "Book" "staticmethod" "of" "Book.of" s_Book_of
  p_kinds : ∃ p, PropOf K (He.ga K "Book") "kinds" p (gW K "Book" "property" "kinds")
  d_kinds : WrD K "Book" "property" "kinds" "Book.kinds" s_Book_kinds
  p_rules : ∃ p, PropOf K (He.ga K "Book") "rules" p (gW K "Book" "property" "rules")
  d_rules : WrD K "Book" "property" "rules" "Book.rules" s_Book_rules
  p_text : ∃ p, PropOf K (He.ga K "Book") "text" p (gW K "Book" "property" "text")
  d_text : WrD K "Book" "property" "text" "Book.text" s_Book_text
abbrev Parts : Type := List Tx × List (Tx × Int × List (List Tx))
structure Bk where
  kinds : List Tx
  rules : List (Tx × Int × List (List Tx))
  known : List (Tx × Int)
  widths : List (Tx × Int)
  lists : List (Tx × List (List Tx))
  marks : List (Tx × List (List Tx × Bool))
  listed : List (Tx × List Tx)
abbrev eRules : List (Tx × Int × List (List Tx)) → PyData := eT (eP3 eS eI (eT (eT eS)))
abbrev nsBk : List Str := ["_kinds", "_rules", "_known", "_widths", "_row_lists", "_row_marks", "_listed"]
abbrev rs_BookA (K : PySem.W.Frag) (N : Addr → Prop) (y : Bk) : List (Str × RP) := [("_kinds", D K (eT eS y.kinds)), ("_rules", D K (eRules y.rules)), ("_known", Fz.fzD K HO.dK keyS (y.known.map fun p => (p.1, D K (eI p.2)))), ("_widths", Fz.fzD K HO.dK keyS (y.widths.map fun p => (p.1, D K (eI p.2)))), ("_row_lists", Fz.fzD K HO.dK keyS (y.lists.map fun p => (p.1, D K (eT (eT eS) p.2)))), ("_row_marks", Fz.fzD K HO.dK keyS (y.marks.map fun p => (p.1, Fz.fzD K HO.dT keyT (p.2.map fun q => (q.1, D K (eB q.2)))))), ("_listed", dfR K N (eL (eP2 eS (eT eS)) y.listed))]
abbrev rs_BookB (K : PySem.W.Frag) : List (Str × RP) := [("_rule_tables", D K .none), ("_strike_table", D K .none), ("_round_table", D K .none), ("_home_table", D K .none), ("_step_table", D K .none)]
abbrev rs_Book (K : PySem.W.Frag) (Hx : Hp) (y : Bk) : List (Str × RP) := rs_BookA K (fun l => Hx l = none) y ++ (("_book_text" : Str), D K .none) :: rs_BookB K
def listedOf (rules : List (Tx × Int × List (List Tx))) : List (Tx × List Tx) := rules.flatMap fun x => x.2.2.map fun r => (x.1, r)
def m_BookOf (p : Parts) : Option Bk :=
  Option.bind (m_check_limits p) fun _ => Option.bind (fold (dstep (fun (x : Int × Tx) => some (x.2, x.1))) [] (enumL p.1)) fun known =>
  Option.bind (fold (dstep (fun (x : Tx × Int × List (List Tx)) => some (x.1, x.2.1))) [] p.2) fun widths => Option.bind (fold (dstep (fun (x : Tx × Int × List (List Tx)) => some (x.1, x.2.2))) [] p.2) fun lists =>
  Option.bind (fold (dstep (fun (x : Tx × Int × List (List Tx)) => Option.bind (fold (dstep (fun r => some (r, true))) [] x.2.2) fun t => some (x.1, t))) [] p.2) fun marks =>
  if (listedOf p.2).length ≤ sizeLine then some ⟨p.1, p.2, known, widths, lists, marks, listedOf p.2⟩ else none
def m_Book : Tx ⊕ Parts → Option Bk
  | .inl t => Option.bind (m_read_book t) m_BookOf
  | .inr p => m_BookOf p
def encBk (K : PySem.W.Frag) : Tx ⊕ Parts → List RP
  | .inl t => [D K (eS t)]
  | .inr p => [Fz.fzI (He.ga K "BookParts") (rs_BookParts K p)]
abbrev sp_Book_init (K : PySem.W.Frag) : Sp := spInitH (He.ga K "Book") (encBk K) m_Book (fun Hx y => rs_BookA K (fun l => Hx l = none) y ++ (("_book_text" : Str), D K .none) :: rs_BookB K)
abbrev N_Book : List Str := ["self", "text", "laid", "at", "kind", "name", "width", "rows", "row"]
theorem sc_Book_init : FnScope N_Book ["self", "text"] (defScope s_Book_init) := ⟨rfl, rfl, rfl, by decide +kernel, rfl, by decide +kernel, by decide +kernel⟩
theorem ok_Book_init {P : Program} {w : World} {K : PySem.W.Frag} {mg : Str → Option Value} {base : Heap} (B : TxB K mg) (h_read : Fok P w K mg base 7 "read_book" ["text"] (sp_read_book K)) (h_chk : Fok P w K mg base 1 "check_limits" ["laid"] (sp_check_limits K)) : Mok P w K mg base 8 "Book" "__init__" ["self", "text"] (sp_Book_init K) := by
  have T := B.T
  refine Mok.mk' T.d_Book_init (fun _ _ _ _ _ _ us hl => match us, hl with | [_, _], _ => rfl) sc_Book_init (fun vs H Q E h => spInitH_len h (by intro x; cases x <;> rfl)) (fun cdv A outer s H vs Q E hr h => ⟨_, by
      exact (pss_cons (ps_set (i := 2) sc_Book_init.nd (by rfl) (Or.inl rfl) (pe_ifExp (pt_val (pe_callB (call_isiKK (K := K)) (by rfl) T.n_isinstance boot_isinstance (pa_cons (pv 1) (pa_cons (pe_globR T.g_BookParts) pa_nil)))) (pv 1) (pe_callF h_read (hr.mono (by decide)) (pa_cons (pv 1) pa_nil))))
        (pss_cons (ps_expr (pe_callF h_chk (hr.mono (by decide)) (pa_cons (pv 2) pa_nil)))
        (pss_cons (ps_fld (pv 0) (pe_fld (pv 2) (by rfl)) (by rfl))
        (pss_cons (ps_fld (pv 0) (pe_fld (pv 2) (by rfl)) (by rfl))
        (pss_cons (ps_fld (pv 0) (pe_dc (own := [("at", 3), ("kind", 4)]) (by rfl) sc_Book_init.nd (pi_enumT (by rfl) T.n_enumerate (pa_cons (pe_fld (pv 2) (by rfl)) pa_nil)) (blkOk_by (N := N_Book) (sc := defScope s_Book_init) (by decide +kernel)) (fun _ _ _ _ _ => (pg_tupK (K := K) (n := 2) (by rfl) (pgs_cons (pg_name (i := 3) sc_Book_init.nd (by rfl) (Or.inl rfl)) (pgs_cons (pg_name (i := 4) sc_Book_init.nd (by rfl) (Or.inl rfl)) pgs_nil)))) (fun _ _ _ _ _ => pts_nil) (fun _ _ _ _ _ => (pv 4)) (fun _ _ _ _ _ => (pv 3))) (by rfl))
        (pss_cons (ps_fld (pv 0) (pe_dc (own := [("name", 5), ("width", 6), ("rows", 7)]) (by rfl) sc_Book_init.nd (pi_tupK (K := K) (pe_fld (pv 2) (by rfl))) (blkOk_by (N := N_Book) (sc := defScope s_Book_init) (by decide +kernel)) (fun _ _ _ _ _ => (pg_tupK (K := K) (n := 3) (by rfl) (pgs_cons (pg_name (i := 5) sc_Book_init.nd (by rfl) (Or.inl rfl)) (pgs_cons (pg_name (i := 6) sc_Book_init.nd (by rfl) (Or.inl rfl)) (pgs_cons (pg_name (i := 7) sc_Book_init.nd (by rfl) (Or.inl rfl)) pgs_nil))))) (fun _ _ _ _ _ => pts_nil) (fun _ _ _ _ _ => (pv 5)) (fun _ _ _ _ _ => (pv 6))) (by rfl))
        (pss_cons (ps_fld (pv 0) (pe_dc (own := [("name", 5), ("width", 6), ("rows", 7)]) (by rfl) sc_Book_init.nd (pi_tupK (K := K) (pe_fld (pv 2) (by rfl))) (blkOk_by (N := N_Book) (sc := defScope s_Book_init) (by decide +kernel)) (fun _ _ _ _ _ => (pg_tupK (K := K) (n := 3) (by rfl) (pgs_cons (pg_name (i := 5) sc_Book_init.nd (by rfl) (Or.inl rfl)) (pgs_cons (pg_name (i := 6) sc_Book_init.nd (by rfl) (Or.inl rfl)) (pgs_cons (pg_name (i := 7) sc_Book_init.nd (by rfl) (Or.inl rfl)) pgs_nil))))) (fun _ _ _ _ _ => pts_nil) (fun _ _ _ _ _ => (pv 5)) (fun _ _ _ _ _ => (pv 7))) (by rfl))
        (pss_cons (ps_fld (pv 0) (pe_dc (own := [("name", 5), ("width", 6), ("rows", 7)]) (by rfl) sc_Book_init.nd (pi_tupK (K := K) (pe_fld (pv 2) (by rfl))) (blkOk_by (N := N_Book) (sc := defScope s_Book_init) (by decide +kernel)) (fun _ _ _ _ _ => (pg_tupK (K := K) (n := 3) (by rfl) (pgs_cons (pg_name (i := 5) sc_Book_init.nd (by rfl) (Or.inl rfl)) (pgs_cons (pg_name (i := 6) sc_Book_init.nd (by rfl) (Or.inl rfl)) (pgs_cons (pg_name (i := 7) sc_Book_init.nd (by rfl) (Or.inl rfl)) pgs_nil))))) (fun _ _ _ _ _ => pts_nil) (fun _ _ _ _ _ => (pv 5)) (fun _ _ _ _ _ => (pe_dcT (hu_of hr) (own := [("row", 8)]) (by rfl) sc_Book_init.nd (pi_tupK (K := K) (pv 7)) (blkOk_by (N := N_Book) (sc := _) (by rfl)) (fun _ _ _ _ _ => (pg_name (i := 8) sc_Book_init.nd (by rfl) (Or.inl rfl))) (fun _ _ _ _ _ => pts_nil) (fun _ _ _ _ _ => (pv 8)) (fun _ _ _ _ _ => pe_bl)))) (by rfl))
        (pss_cons (ps_fld (pv 0) (pe_lc2 (own := [("name", 5), ("width", 6), ("rows", 7), ("row", 8)]) (vs1 := [8]) (by rfl) sc_Book_init.nd (pi_tupK (K := K) (pe_fld (pv 2) (by rfl))) (blkOk_by (N := N_Book) (sc := defScope s_Book_init) (by decide +kernel)) (by decide +kernel) (fun _ _ _ _ _ => (pg_tupK (K := K) (n := 3) (by rfl) (pgs_cons (pg_name (i := 5) sc_Book_init.nd (by rfl) (Or.inl rfl)) (pgs_cons (pg_name (i := 6) sc_Book_init.nd (by rfl) (Or.inl rfl)) (pgs_cons (pg_name (i := 7) sc_Book_init.nd (by rfl) (Or.inl rfl)) pgs_nil))))) (fun _ _ _ _ _ => pts_nil) (fun _ _ _ _ _ => (pi_tupK (K := K) (pv 7))) (fun _ _ _ _ _ => (pg_name (i := 8) sc_Book_init.nd (by rfl) (Or.inl rfl))) (fun _ _ _ _ _ => pts_nil) (fun _ _ _ _ _ => (pe_tup (pa_cons (pv 5) (pa_cons (pv 8) pa_nil))))) (by rfl))
        (pss_cons (ps_fld (pv 0) pe_non (by rfl)) (pss_cons (ps_fld (pv 0) pe_non (by rfl)) (pss_cons (ps_fld (pv 0) pe_non (by rfl)) (pss_cons (ps_fld (pv 0) pe_non (by rfl)) (pss_cons (ps_fld (pv 0) pe_non (by rfl)) (pss_one (ps_fld (pv 0) pe_non (by rfl))))))))))))))))), ?_⟩)
  refine spInitH_go h fun b G x y hm s0 kret => ?_
  obtain ⟨p, R1, hm, s0, ev⟩ : ∃ p R1, m_BookOf p = some y ∧ SA [b] G H [some (isV (.ref b)), some R1, none, none, none, none, none, none, none] [(b, ownI (He.ga K "Book") [])] [] (L2.start N_Book vs) G H ∧ EV (tIf (tB (tCB (rIsi K) (tCons (tVar 1) (tCons (tC (.ref (He.ga K "BookParts"))) tNil)))) (tVar 1) (tCall (sp_read_book K) [] E0 (tCons (tVar 1) tNil))) (L2.start N_Book vs) G H (Fz.fzI (He.ga K "BookParts") (rs_BookParts K p)) := by
    cases x with
    | inl t =>
      obtain ⟨p, hr1, hm⟩ := bnd' (show Option.bind (m_read_book t) m_BookOf = some y from hm)
      exact ⟨p, _, hm, s0, ev_if (b := false) (et_B (ev_isiC (d := eS t) (s0.var 1) B.ks_BookParts)) (fun h => by cases h) (fun _ => ev_call (x := t) (m := m_read_book) (er := fun r => Fz.fzI (He.ga K "BookParts") (rs_BookParts K r)) (ea_cons (s0.var 1) ea_nil) hr1)⟩
    | inr p => exact ⟨p, _, hm, s0, ev_if (b := true) (et_B (ev_isiI B.ic_BookParts (s0.var 1))) (fun _ => s0.var 1) (fun h => by cases h)⟩
  unfold m_BookOf at hm
  refine st_set (R := Fz.fzI (He.ga K "BookParts") (rs_BookParts K p)) s0 ev (fun _ _ _ s1 => ?_)
  refine nx_go ?_
  obtain ⟨u, h1, hm⟩ := bnd' hm
  refine st_drop (R := D K (eN u)) s1 (ev_call (x := p) (m := sm_check_limits) (er := (fun r => D K (eN r))) (ea_cons (s1.var 2) ea_nil) h1) (fun _ _ s2 => ?_)
  refine nx_go ?_
  have fk : ∀ {σ' : L2.St} {G' : GH} {H' : Hp} {Γ' : List (Option RP)} {Os' : List (Addr × OP)} {Ts' : List (V × RP)}, SA [b] G H Γ' Os' Ts' σ' G' H' → Γ'[2]? = some (some (Fz.fzI (He.ga K "BookParts") (rs_BookParts K p))) → EV (tFld K (tVar 2) "kind_row") σ' G' H' (D K (eT eS p.1)) := fun s e => ev_fld T.cl_BookParts T.na_BookParts_kind_row (s.var 2 e) (lookup_at ["kind_row", "rule_row"] 0)
  have fr : ∀ {σ' : L2.St} {G' : GH} {H' : Hp} {Γ' : List (Option RP)} {Os' : List (Addr × OP)} {Ts' : List (V × RP)}, SA [b] G H Γ' Os' Ts' σ' G' H' → Γ'[2]? = some (some (Fz.fzI (He.ga K "BookParts") (rs_BookParts K p))) → EV (tFld K (tVar 2) "rule_row") σ' G' H' (D K (eRules p.2)) := fun s e => ev_fld T.cl_BookParts T.na_BookParts_rule_row (s.var 2 e) (lookup_at ["kind_row", "rule_row"] 1)
  refine st_fldN (R := D K (eT eS p.1)) s2 0 0 [] T.cl_Book B.T.na_Book__kinds (fk s2 rfl) (fun _ _ s3 => ?_)
  refine nx_go ?_
  refine st_fldN (R := D K (eRules p.2)) s3 0 0 ["_kinds"] T.cl_Book B.T.na_Book__rules (fr s3 rfl) (fun _ _ s4 => ?_)
  refine nx_go ?_
  obtain ⟨known, h2, hm⟩ := bnd' hm
  refine st_fldN (R := Fz.fzD K HO.dK keyS (known.map fun p => (p.1, D K (eI p.2)))) s4 0 0 ["_kinds", "_rules"] T.cl_Book B.T.na_Book__known (EDN.ev (edn_dc (mk := HO.dK) (f := keyS) (ek := eS) (vs := [3, 4]) (e := fun a => D K (eI a)) keyM_S stpOk_S s4 (ES.o (es_enumT (e := eS) (fk s4 rfl))) h2 (fun _ z pr _ ho _ _ _ _ t1 _ kk => by
      refine st_bind2 t1 fun _ hw t2 => ?_
      obtain rfl := Option.some.inj ho
      exact kk _ (hw _ (by decide) (by decide)) (t2.var 4) (t2.var 3)))) (fun _ _ s5 => ?_)
  refine nx_go ?_
  obtain ⟨widths, h3, hm⟩ := bnd' hm
  refine st_fldN (R := Fz.fzD K HO.dK keyS (widths.map fun p => (p.1, D K (eI p.2)))) s5 0 0 ["_kinds", "_rules", "_known"] T.cl_Book B.T.na_Book__widths (EDN.ev (edn_dc (mk := HO.dK) (f := keyS) (ek := eS) (vs := [5, 6, 7]) (e := fun a => D K (eI a)) keyM_S stpOk_S s5 (ES.o (es_tup (e := eP3 eS eI (eT (eT eS))) (fr s5 rfl))) h3 (fun _ z pr _ ho _ _ _ _ t1 _ kk => by
      refine st_bind3 t1 fun _ hw t2 => ?_
      obtain rfl := Option.some.inj ho
      exact kk _ (hw _ (by decide) (by decide) (by decide)) (t2.var 5) (t2.var 6)))) (fun _ _ s6 => ?_)
  refine nx_go ?_
  obtain ⟨lists, h4, hm⟩ := bnd' hm
  refine st_fldN (R := Fz.fzD K HO.dK keyS (lists.map fun p => (p.1, D K (eT (eT eS) p.2)))) s6 0 0 ["_kinds", "_rules", "_known", "_widths"] T.cl_Book B.T.na_Book__row_lists (EDN.ev (edn_dc (mk := HO.dK) (f := keyS) (ek := eS) (vs := [5, 6, 7]) (e := fun a => D K (eT (eT eS) a)) keyM_S stpOk_S s6 (ES.o (es_tup (e := eP3 eS eI (eT (eT eS))) (fr s6 rfl))) h4 (fun _ z pr _ ho _ _ _ _ t1 _ kk => by
      refine st_bind3 t1 fun _ hw t2 => ?_
      obtain rfl := Option.some.inj ho
      exact kk _ (hw _ (by decide) (by decide) (by decide)) (t2.var 5) (t2.var 7)))) (fun _ _ s7 => ?_)
  refine nx_go ?_
  obtain ⟨marks, h5, hm⟩ := bnd' hm
  refine st_fldN (R := Fz.fzD K HO.dK keyS (marks.map fun p => (p.1, Fz.fzD K HO.dT keyT (p.2.map fun q => (q.1, D K (eB q.2)))))) s7 0 0 ["_kinds", "_rules", "_known", "_widths", "_row_lists"] T.cl_Book B.T.na_Book__row_marks (EDN.ev (edn_dc (mk := HO.dK) (f := keyS) (ek := eS) (vs := [5, 6, 7]) (e := fun (a : List (List Tx × Bool)) => Fz.fzD K HO.dT keyT (a.map fun q => (q.1, D K (eB q.2)))) keyM_S stpOk_S s7 (ES.o (es_tup (e := eP3 eS eI (eT (eT eS))) (fr s7 rfl))) h5 (fun _ z pr _ ho _ _ _ _ t1 _ kk => by
      refine st_bind3 t1 fun _ hw t2 => ?_
      obtain ⟨t, ht, ho⟩ := bnd' ho
      obtain rfl := Option.some.inj ho
      exact kk _ (hw _ (by decide) (by decide) (by decide)) (t2.var 5) (EDN.ev (edn_dc (mk := HO.dT) (f := keyT) (ek := eT eS) (vs := [8]) (e := fun a => D K (eB a)) keyM_T stpOk_T t2 (ES.o (es_tup (e := eT eS) (t2.var 7))) ht (fun _ z2 pr2 _ ho2 _ _ _ _ t3 _ kk2 => by
        refine st_bind t3 fun _ hw2 t4 => ?_
        obtain rfl := Option.some.inj ho2
        exact kk2 _ (hw2 _ (by decide)) (t4.var 8) ev_bl)))))) (fun _ _ s8 => ?_)
  refine nx_go ?_
  obtain ⟨hz, hm⟩ : (listedOf p.2).length ≤ sizeLine ∧ (⟨p.1, p.2, known, widths, lists, marks, listedOf p.2⟩ : Bk) = y := by
    split at hm
    · rename_i hz; exact ⟨hz, Option.some.inj hm⟩
    · cases hm
  refine st_fldN (R := dfR K (fun l => H l = none) (eL (eP2 eS (eT eS)) (listedOf p.2))) s8 0 0 ["_kinds", "_rules", "_known", "_widths", "_row_lists", "_row_marks"] T.cl_Book B.T.na_Book__listed (EN.evN (en_lc2 (e' := eP2 eS (eT eS)) (inner := fun (x : Tx × Int × List (List Tx)) => x.2.2) (hh := fun x r => (x.1, r)) (R1 := fun _ r => D K (eT eS r)) (vs := [5, 6, 7, 8]) (vs1 := [8]) s8 (ES.o (es_tup (e := eP3 eS eI (eT (eT eS))) (fr s8 rfl))) hz (fun _ z hz' _ _ _ _ t1 _ kk => by
      refine st_bind3 t1 fun _ hw t2 => ?_
      refine kk _ _ (hw _ (by decide) (by decide) (by decide)) t2 et_yes (es_tup (e := eT eS) (t2.var 7)) (fun r hr' => fun _ _ _ _ t3 _ kk2 => ?_)
      refine st_bind t3 fun _ hw2 t4 => ?_
      exact kk2 _ (hw2 _ (by decide)) et_yes (fun y hy => by cases hy; exact ev_tup (ds := [eS z.1, eT eS r]) (ea_cons (t4.var 5) (ea_cons (t4.var 8) ea_nil))))) (fun _ _ l g hl => s8.g.free s8.f0 (g.free s8.fit hl))) (fun _ _ s9 => ?_)
  refine nx_go ?_
  refine st_fldN (R := D K .none) s9 0 0 nsBk T.cl_Book B.T.na_Book__book_text ev_non (fun _ _ s10 => ?_)
  refine nx_go ?_
  refine st_fldN (R := D K .none) s10 0 0 (nsBk ++ (["_book_text"] : List Str)) T.cl_Book B.T.na_Book__rule_tables ev_non (fun _ _ s11 => ?_)
  refine nx_go ?_
  refine st_fldN (R := D K .none) s11 0 0 (nsBk ++ (["_book_text", "_rule_tables"] : List Str)) T.cl_Book B.T.na_Book__strike_table ev_non (fun _ _ s12 => ?_)
  refine nx_go ?_
  refine st_fldN (R := D K .none) s12 0 0 (nsBk ++ (["_book_text", "_rule_tables", "_strike_table"] : List Str)) T.cl_Book B.T.na_Book__round_table ev_non (fun _ _ s13 => ?_)
  refine nx_go ?_
  refine st_fldN (R := D K .none) s13 0 0 (nsBk ++ (["_book_text", "_rule_tables", "_strike_table", "_round_table"] : List Str)) T.cl_Book B.T.na_Book__home_table ev_non (fun _ _ s14 => ?_)
  refine nx_go ?_
  refine st_fldN (R := D K .none) s14 0 0 (nsBk ++ (["_book_text", "_rule_tables", "_strike_table", "_round_table", "_home_table"] : List Str)) T.cl_Book B.T.na_Book__step_table ev_non (fun _ _ s15 => ?_)
  subst hm
  exact kret _ _ _ _ _ _ s15 (List.Mem.head _)
end K0
set_option Elab.async false
set_option linter.all false
set_option maxRecDepth 100000
set_option maxHeartbeats 8000000
namespace K0
open PySem PySem.Spec PyProof.Rows L2 Fz
section
variable {P : Program} {w : World} {K : PySem.W.Frag} {mg : Str → Option Value} {base : Heap} {k : Nat} {C m qual : Str} {st : Stmt} {N ps : List Str} {sp : Sp} {g : Addr}
theorem Gok.mk' (d : ∃ fd, FunD K m qual (defArgs st) (defBody st) (defScope st) [] [] g fd)
    (hb : ∀ (kV doc pm : Value) (an : Option Addr) (cdv ct : Value) (us : List Value), us.length = ps.length → bindArgs (PySem.W.fnOf m qual (defArgs st) (defBody st) (defScope st) .none kV doc pm an cdv ct) ⟨us, []⟩ = pure (ps.zip us))
    (S : FnScope N ps (defScope st)) (len : ∀ vs H Q E, sp vs H Q E → vs.length = ps.length)
    (hbody : ∀ (cdv : Value) (A : Around) (outer : List PySem.Env) (s : Shared) (H : Hp) (vs : List V) (Q : VK) (E : XK), Room k (A.deeper (envOfC qual (defScope st) s.heap.objs.size g cdv)) → sp vs H Q E →
      ∃ t, PSs (cxOf CX0 P w K mg base N qual (defScope st) g cdv A outer s H E).nox (defBody st) t ∧ t { nx := fun _ H' => Q .non H', rt := Q } (L2.start N vs) H) : Gok P w K mg base (k + 1) g ps sp := by
  obtain ⟨fd, F⟩ := d
  refine ⟨fd, F.bindsN hb, F.ok S len fun cdv A outer s H vs Q E hr hsp => ?_⟩
  obtain ⟨t, h, q⟩ := hbody cdv A outer s H vs Q E hr hsp
  exact ⟨t, h.nox, q⟩
end
def m_text (y : Bk) : Option Tx := Option.bind (m_write_book y.kinds y.rules) fun t => if t.length ≤ sizeLine then some t else none
def bkA (y : Bk) : V → Prop := fun v => v = .non ∨ ∃ t, m_text y = some t ∧ v = .str (mkS t)
/-- a book, its list of rows at an address of which N is true -/
abbrev bkRN (K : PySem.W.Frag) (N : Addr → Prop) (y : Bk) : RP := fzV (He.ga K "Book") (rs_BookA K N y) "_book_text" (bkA y) (rs_BookB K)
abbrev bkR (K : PySem.W.Frag) (y : Bk) : RP := bkRN K (fun _ => True) y
theorem rsA_wk {K : PySem.W.Frag} (N N' : Addr → Prop) (y : Bk) (G : GH) (fs : List (Str × V)) (hN : ∀ l, N l → N' l) (h : FsR G fs (rs_BookA K N y)) : FsR G fs (rs_BookA K N' y) := by
  cases h with
  | cons h1 h => cases h with
    | cons h2 h => cases h with
      | cons h3 h => cases h with
        | cons h4 h => cases h with
          | cons h5 h => cases h with
            | cons h6 h => cases h with
              | cons h7 h =>
                cases h
                exact .cons h1 (.cons h2 (.cons h3 (.cons h4 (.cons h5 (.cons h6 (.cons ⟨h7.1, let ⟨l, e, n⟩ := h7.2; ⟨l, e, hN l n⟩⟩ .nil))))))
theorem bk_wk {K : PySem.W.Frag} {N N' : Addr → Prop} {y : Bk} {G : GH} {v : V} (hN : ∀ l, N l → N' l) (h : (bkRN K N y).r G v) : (bkRN K N' y).r G v := by
  obtain ⟨x, dx, a, b, e, hx, ha, hb⟩ := h
  exact ⟨x, dx, a, b, e, hx, rsA_wk N N' y G a hN ha, hb⟩
theorem ev_bk {K : PySem.W.Frag} {N : Addr → Prop} {y : Bk} {σ : L2.St} {G : GH} {H : Hp} {te : TE} (h : EV te σ G H (bkRN K N y)) : EV te σ G H (bkR K y) := fun G1 H1 g Q q => h G1 H1 g Q fun v G2 H2 g2 rv => q v G2 H2 g2 (bk_wk (fun _ _ => trivial) rv)
abbrev nsAll : List Str := ["_kinds", "_rules", "_known", "_widths", "_row_lists", "_row_marks", "_listed", "_rule_tables", "_strike_table", "_round_table", "_home_table", "_step_table"]
section
variable {K : PySem.W.Frag} {mg : Str → Option Value} {σ : L2.St} {G : GH} {H : Hp} {ta : TE} {y : Bk}
theorem bk_kinds (B : TxB K mg) (h : EV ta σ G H (bkR K y)) : EV (tFld K ta "_kinds") σ G H (D K (eT eS y.kinds)) := ev_fldV B.T.cl_Book B.T.na_Book__kinds h (lookup_at nsAll 0)
theorem bk_rules (B : TxB K mg) (h : EV ta σ G H (bkR K y)) : EV (tFld K ta "_rules") σ G H (D K (eRules y.rules)) := ev_fldV B.T.cl_Book B.T.na_Book__rules h (lookup_at nsAll 1)
theorem bk_known (B : TxB K mg) (h : EV ta σ G H (bkR K y)) : EV (tFld K ta "_known") σ G H (Fz.fzD K HO.dK keyS (y.known.map fun p => (p.1, D K (eI p.2)))) := ev_fldV B.T.cl_Book B.T.na_Book__known h (lookup_at nsAll 2)
theorem bk_widths (B : TxB K mg) (h : EV ta σ G H (bkR K y)) : EV (tFld K ta "_widths") σ G H (Fz.fzD K HO.dK keyS (y.widths.map fun p => (p.1, D K (eI p.2)))) := ev_fldV B.T.cl_Book B.T.na_Book__widths h (lookup_at nsAll 3)
theorem bk_lists (B : TxB K mg) (h : EV ta σ G H (bkR K y)) : EV (tFld K ta "_row_lists") σ G H (Fz.fzD K HO.dK keyS (y.lists.map fun p => (p.1, D K (eT (eT eS) p.2)))) := ev_fldV B.T.cl_Book B.T.na_Book__row_lists h (lookup_at nsAll 4)
theorem bk_listed (B : TxB K mg) (h : EV ta σ G H (bkR K y)) : EV (tFld K ta "_listed") σ G H (D K (eL (eP2 eS (eT eS)) y.listed)) := ev_df <| ev_fldV (R := dfR K (fun _ => True) (eL (eP2 eS (eT eS)) y.listed)) B.T.cl_Book B.T.na_Book__listed h (lookup_at nsAll 6)
end
abbrev encB (K : PySem.W.Frag) : Bk → List RP := fun y => [bkR K y]
/-! kinds -/
def m_kinds (y : Bk) : Option (List Tx) := some y.kinds
abbrev sp_Book_kinds (K : PySem.W.Frag) : Sp := spF (encB K) m_kinds (fun r => D K (eT eS r))
theorem sc_Book_kinds : FnScope ["self"] ["self"] (defScope s_Book_kinds) := ⟨rfl, rfl, rfl, by decide +kernel, rfl, by decide +kernel, by decide +kernel⟩
section
variable {P : Program} {w : World} {K : PySem.W.Frag} {mg : Str → Option Value} {base : Heap}
theorem ok_Book_kinds (B : TxB K mg) : Gok P w K mg base 1 (gW K "Book" "property" "kinds") ["self"] (sp_Book_kinds K) := by
  refine Gok.mk' B.d_kinds (fun _ _ _ _ _ _ us hl => match us, hl with | [_], _ => rfl) sc_Book_kinds (fun vs H Q E h => spF_len h) (fun cdv A outer s H vs Q E hr h => ⟨_, by
      exact pss_one (ps_ret (pe_fld (pv 0) (by rfl))), ?_⟩)
  refine spF_go h fun G y r hm s0 kret => ?_
  obtain rfl := Option.some.inj hm
  exact st_ret s0 (bk_kinds B (s0.var 0)) fun _ _ _ s1 rv => kret _ _ _ _ _ _ _ s1 rv
end
/-! rules -/
def okW (y : Bk) : Bool := y.widths.all fun kv => decide (kv.1.length ≤ sizeLine)
def m_rules (y : Bk) : Option (List Tx) := if okW y = true then some (y.widths.map fun p => p.1) else none
abbrev sp_Book_rules (K : PySem.W.Frag) : Sp := spF (encB K) m_rules (fun r => D K (eT eS r))
theorem sc_Book_rules : FnScope ["self"] ["self"] (defScope s_Book_rules) := ⟨rfl, rfl, rfl, by decide +kernel, rfl, by decide +kernel, by decide +kernel⟩
section
variable {P : Program} {w : World} {K : PySem.W.Frag} {mg : Str → Option Value} {base : Heap}
theorem ok_Book_rules (B : TxB K mg) : Gok P w K mg base 1 (gW K "Book" "property" "rules") ["self"] (sp_Book_rules K) := by
  have T := B.T
  refine Gok.mk' B.d_rules (fun _ _ _ _ _ _ us hl => match us, hl with | [_], _ => rfl) sc_Book_rules (fun vs H Q E h => spF_len h) (fun cdv A outer s H vs Q E hr h => ⟨_, by
      exact pss_one (ps_ret (pe_callTy (call_tupleD (by rfl)) (by rfl) T.n_tuple boot_tuple (pa_cons (pe_fld (pv 0) (by rfl)) pa_nil))), ?_⟩)
  refine spF_go h fun G y r hm s0 kret => ?_
  obtain ⟨hk, rfl⟩ := if_some hm
  have e : (eT eS (y.widths.map fun p => p.1)) = (eT eS ((y.widths.map fun p => (p.1, D K (eI p.2))).map (·.1))) := by rw [List.map_map]; rfl
  refine st_ret (R := D K (eT eS (y.widths.map fun p => p.1))) s0 ?_ fun _ _ _ s1 rv => kret _ _ _ _ _ _ _ s1 rv
  rw [e]
  exact ev_tupleD (edv_fz (bk_widths B (s0.var 0))) (fun kv hkv => by
      obtain ⟨p, hp, rfl⟩ := List.mem_map.mp hkv
      exact of_decide_eq_true (List.all_eq_true.mp hk _ hp))
end
/-! text -/
abbrev sp_Book_text (K : PySem.W.Frag) : Sp := spF (encB K) m_text (fun r => D K (eS r))
theorem sc_Book_text : FnScope ["self"] ["self"] (defScope s_Book_text) := ⟨rfl, rfl, rfl, by decide +kernel, rfl, by decide +kernel, by decide +kernel⟩
section
variable {P : Program} {w : World} {K : PySem.W.Frag} {mg : Str → Option Value} {base : Heap}
theorem ok_Book_text (B : TxB K mg) (h_write : Fok P w K mg base 1 "write_book" ["kind_row", "rule_row"] (sp_write_book K)) : Gok P w K mg base 2 (gW K "Book" "property" "text") ["self"] (sp_Book_text K) := by
  have T := B.T
  refine Gok.mk' B.d_text (fun _ _ _ _ _ _ us hl => match us, hl with | [_], _ => rfl) sc_Book_text (fun vs H Q E h => spF_len h) (fun cdv A outer s H vs Q E hr h => ⟨_, by
      exact pss_cons (ps_if (pt_cmpR op_isN (pe_fld (pv 0) (by rfl)) pe_non (nomark _)) (pss_one (ps_fld (pv 0) (pe_callF h_write (hr.mono (by decide)) (pa_cons (pe_fld (pv 0) (by rfl)) (pa_cons (pe_fld (pv 0) (by rfl)) pa_nil))) (by rfl))) pss_nil) (pss_one (ps_ret (pe_fld (pv 0) (by rfl)))), ?_⟩)
  refine spF_go h fun G y r hm s0 kret => ?_
  have hm : m_text y = some r := hm
  obtain ⟨v, hv, rv⟩ := s0.env.2 0 (bkR K y) rfl
  obtain ⟨x, dx, a, b, ev, hx, ha, hb⟩ := id rv
  subst ev
  obtain ⟨o, ho, ⟨t, ht, eo⟩, _⟩ := s0.fit x _ hx
  subst eo
  have hn : (((rs_BookA K (fun _ => True) y).map (·.1)).all fun k => decide (k ≠ ("_book_text" : Str))) = true := by
    show ((nsBk.all fun k => decide (k ≠ ("_book_text" : Str)))) = true
    decide +kernel
  have lk := (ha.none hn).1 t b
  refine ⟨.ref x, hv, x, _, dx, _, t, rfl, ho, T.cl_Book, B.T.na_Book__book_text, lk, rfl, _, rfl, ?_⟩
  rcases ht with rfl | ⟨tx, htx, rfl⟩
  · rw [if_pos (by simp)]
    obtain ⟨tw, hw, hm2⟩ := bnd' hm
    obtain ⟨hz, rfl⟩ := if_some hm2
    refine (ev_call (x := (y.kinds, y.rules)) (m := sm_write_book) (er := (fun r => D K (eS r))) (ea_cons (bk_kinds B (s0.var 0)) (ea_cons (bk_rules B (s0.var 0)) ea_nil)) hw).go s0.fit fun u G2 H2 g2 ru => ?_
    have s2 := s0.step g2
    obtain ⟨o2, ho2, ⟨t2, ht2, eo2⟩, _⟩ := g2.fit x _ (g2.sub _ _ hx)
    subst eo2
    refine ⟨.ref x, hv, x, _, dx, _, rfl, ho2, T.cl_Book, B.T.na_Book__book_text, ?_, ?_⟩
    · rw [List.length_append, List.length_cons, ha.length, hb.length]
      show 7 + (5 + 1) < 1000
      decide
    · rw [(ha.none hn).2 t2 u b]
      have s3 := s2.step (Gr.phi g2.fit (g2.sub _ _ hx) ⟨u, .inr ⟨tw, hm, Dg.str_inv ru⟩, rfl⟩)
      refine nx_go ?_
      exact ⟨.ref x, hv, x, _, dx, _, u, rfl, upd_same, T.cl_Book, B.T.na_Book__book_text, (ha.none hn).1 u b, kret _ _ _ _ _ _ _ s3 ru⟩
  · rw [if_neg (by simp)]
    refine nx_go ?_
    have er : tx = r := Option.some.inj (htx.symm.trans hm)
    subst er
    have hz : tx.length ≤ sizeLine := by
      obtain ⟨tw, hw, hm2⟩ := bnd' hm
      obtain ⟨hz, rfl⟩ := if_some hm2
      exact hz
    exact ⟨.ref x, hv, x, _, dx, _, _, rfl, ho, T.cl_Book, B.T.na_Book__book_text, lk, kret _ _ _ _ _ _ _ s0 (.str _ (by rw [mkS_len]; exact hz))⟩
end
/-! width, rows -/
def m_width (x : Bk × Tx) : Option Int := look x.1.widths x.2
abbrev sp_Book_width (K : PySem.W.Frag) : Sp := spF (fun x : Bk × Tx => [bkR K x.1, D K (eS x.2)]) m_width (fun r => D K (eI r))
def m_rows (x : Bk × Tx) : Option (List PyData) := (look x.1.lists x.2).map fun l => l.map (eT eS)
abbrev sp_Book_rows (K : PySem.W.Frag) : Sp := spN K (fun x : Bk × Tx => [bkR K x.1, D K (eS x.2)]) m_rows
theorem sc_Book_width : FnScope ["self", "rule"] ["self", "rule"] (defScope s_Book_width) := ⟨rfl, rfl, rfl, by decide +kernel, rfl, by decide +kernel, by decide +kernel⟩
theorem sc_Book_rows : FnScope ["self", "rule"] ["self", "rule"] (defScope s_Book_rows) := ⟨rfl, rfl, rfl, by decide +kernel, rfl, by decide +kernel, by decide +kernel⟩
/-! len, in, iter, ==, repr -/
def m_len (y : Bk) : Option Int := if y.kinds.length ≤ sizeLine then some y.kinds.length else none
abbrev sp_Book_len (K : PySem.W.Frag) : Sp := spF (encB K) m_len (fun r => D K (eI r))
theorem sc_Book_len : FnScope ["self"] ["self"] (defScope s_Book_len) := ⟨rfl, rfl, rfl, by decide +kernel, rfl, by decide +kernel, by decide +kernel⟩
section
variable {P : Program} {w : World} {K : PySem.W.Frag} {mg : Str → Option Value} {base : Heap}
theorem ok_Book_len (B : TxB K mg) : Mok P w K mg base 1 "Book" "__len__" ["self"] (sp_Book_len K) := by
  have T := B.T
  refine Mok.mk' T.d_Book_len (fun _ _ _ _ _ _ us hl => match us, hl with | [_], _ => rfl) sc_Book_len (fun vs H Q E h => spF_len h) (fun cdv A outer s H vs Q E hr h => ⟨_, by
      exact pss_one (ps_ret (pe_callB (call_len_seqK (K := K)) (by rfl) T.n_len PySem.boot_len (pa_cons (pe_fld (pv 0) (by rfl)) pa_nil))), ?_⟩)
  refine spF_go h fun G y r hm s0 kret => ?_
  obtain ⟨_, rfl⟩ := if_some hm
  exact st_ret s0 (ev_lenT (e := eS) (bk_kinds B (s0.var 0))) fun _ _ _ s1 rv => kret _ _ _ _ _ _ _ s1 rv
end
def m_contains (x : Bk × Tx) : Option Bool := some (look x.1.known x.2).isSome
abbrev sp_Book_contains (K : PySem.W.Frag) : Sp := spF (fun x : Bk × Tx => [bkR K x.1, D K (eS x.2)]) m_contains (fun r => D K (eB r))
theorem sc_Book_contains : FnScope ["self", "kind"] ["self", "kind"] (defScope s_Book_contains) := ⟨rfl, rfl, rfl, by decide +kernel, rfl, by decide +kernel, by decide +kernel⟩
section
variable {P : Program} {w : World} {K : PySem.W.Frag} {mg : Str → Option Value} {base : Heap}
theorem ok_Book_contains (B : TxB K mg) : Mok P w K mg base 1 "Book" "__contains__" ["self", "kind"] (sp_Book_contains K) := by
  have T := B.T
  refine Mok.mk' T.d_Book_contains (fun _ _ _ _ _ _ us hl => match us, hl with | [_, _], _ => rfl) sc_Book_contains (fun vs H Q E h => spF_len h) (fun cdv A outer s H vs Q E hr h => ⟨_, by
      exact pss_one (ps_ret (pe_and (pe_callB (call_isiKK (K := K)) (by rfl) T.n_isinstance boot_isinstance (pa_cons (pv 1) (pa_cons (pe_bltn (v := .ty "str") (by rfl) T.n_str boot_str rfl) pa_nil))) (pe_one (pe_cmp (pc_din (hu_of hr) (pv 1) (pe_fld (pv 0) (by rfl))))))), ?_⟩)
  refine spF_go h fun G x r hm s0 kret => ?_
  obtain rfl := Option.some.inj hm
  refine st_ret (R := D K (eB (look x.1.known x.2).isSome)) s0 (ev_andV (a := true) (ev_isi "str" (d := eS x.2) (s0.var 1)) (fun _ => ev_dinT (e := eI) keyM_S (s0.var 1) (edv_fz (bk_known B (s0.var 0)))) (fun h => by cases h)) fun _ _ _ s1 rv => kret _ _ _ _ _ _ _ s1 rv
end
end K0
set_option Elab.async false
set_option linter.all false
set_option maxRecDepth 100000
set_option maxHeartbeats 8000000
namespace K0
open PySem PySem.Spec PyProof.Rows L2 Fz
section
variable {P : Program} {w : World} {K : PySem.W.Frag} {mg : Str → Option Value} {base : Heap}
theorem ok_Book_width (B : TxB K mg) : Mok P w K mg base 1 "Book" "width" ["self", "rule"] (sp_Book_width K) := by
  have T := B.T
  refine Mok.mk' T.d_Book_width (fun _ _ _ _ _ _ us hl => match us, hl with | [_, _], _ => rfl) sc_Book_width (fun vs H Q E h => spF_len h) (fun cdv A outer s H vs Q E hr h => ⟨_, by
      exact pss_cons (ps_if (pt_cmp (pc_dnotin (hu_of hr) (pv 1) (pe_fld (pv 0) (by rfl)))) (pss_one ps_never) pss_nil) (pss_one (ps_ret (pe_dget (hu_of hr) (pe_fld (pv 0) (by rfl)) (pv 1) (fun _ _ => rfl)))), ?_⟩)
  refine spF_go h fun G x r hm s0 kret => ?_
  have hm : look x.1.widths x.2 = some r := hm
  refine st_if s0 (et_B (ev_dniT (e := eI) keyM_S (s0.var 1) (edv_fz (bk_widths B (s0.var 0))))) (fun hb _ _ s1 => ?_) (fun hb _ _ s1 => ?_)
  · rw [hm] at hb; cases hb
  · refine st_nil (nx_go ?_)
    exact st_ret s1 (ev_dgetT (e := eI) keyM_S (edv_fz (bk_widths B (s1.var 0))) (s1.var 1) hm) fun _ _ _ s2 rv => kret _ _ _ _ _ _ _ s2 rv
theorem ok_Book_rows (B : TxB K mg) : Mok P w K mg base 1 "Book" "rows" ["self", "rule"] (sp_Book_rows K) := by
  have T := B.T
  refine Mok.mk' T.d_Book_rows (fun _ _ _ _ _ _ us hl => match us, hl with | [_, _], _ => rfl) sc_Book_rows (fun vs H Q E h => by obtain ⟨_, _, _, _, rs, _⟩ := h; exact rs.length) (fun cdv A outer s H vs Q E hr h => ⟨_, by
      exact pss_cons (ps_if (pt_cmp (pc_dnotin (hu_of hr) (pv 1) (pe_fld (pv 0) (by rfl)))) (pss_one ps_never) pss_nil) (pss_one (ps_ret (pe_callTy (call_list_ofK (K := K)) (by rfl) T.n_list boot_list (pa_cons (pe_dget (hu_of hr) (pe_fld (pv 0) (by rfl)) (pv 1) (fun _ _ => rfl)) pa_nil)))), ?_⟩)
  obtain ⟨G, x, ds, f, rs, hm, q⟩ := h
  have s0 : SA [] G H [some (bkR K x.1), some (D K (eS x.2))] [] [] (L2.start ["self", "rule"] vs) G H := SA.start f (env_start (N := ["self", "rule"]) rs) (fun _ h => nomatch h) List.nodup_nil
  obtain ⟨l, hl, rfl⟩ := Option.map_eq_some_iff.mp (show (look x.1.lists x.2).map (fun l => l.map (eT eS)) = some ds from hm)
  refine st_if s0 (et_B (ev_dniT (e := eT (eT eS)) keyM_S (s0.var 1) (edv_fz (bk_lists B (s0.var 0))))) (fun hb _ _ s1 => ?_) (fun hb _ _ s1 => ?_)
  · rw [hl] at hb; cases hb
  · refine st_nil (nx_go ?_)
    refine (en_listT (ds := l.map (eT eS)) (ev_dgetT (e := eT (eT eS)) keyM_S (edv_fz (bk_lists B (s1.var 0))) (s1.var 1) hl)) _ _ (Gr.refl s1.fit) _ fun p us G2 H2 g2 n2 hp hh hz hd => ?_
    exact q p us G2 H2 (s1.g.trans0 g2) n2 (s1.g.free s1.f0 hp) hh hz hd
end
/-! iter -/
def m_iter (y : Bk) : Option (List PyData) := some (y.listed.map (eP2 eS (eT eS)))
abbrev sp_Book_iter (K : PySem.W.Frag) : Sp := spIter K (encB K) m_iter
theorem sc_Book_iter : FnScope ["self"] ["self"] (defScope s_Book_iter) := ⟨rfl, rfl, rfl, by decide +kernel, rfl, by decide +kernel, by decide +kernel⟩
/-! == -/
def m_eq (x : Bk × (Bk ⊕ PyData)) : Option Bool := match x.2 with
  | .inl z => some (decide (x.1.kinds = z.kinds) && decide (x.1.rules = z.rules))
  | .inr d => if tyD d = "str" ∨ tyD d = "int" ∨ tyD d = "list" then some false else none
def encE (K : PySem.W.Frag) (x : Bk × (Bk ⊕ PyData)) : List RP := match x.2 with
  | .inl z => [bkR K x.1, bkR K z]
  | .inr d => [bkR K x.1, D K d]
abbrev sp_Book_eq (K : PySem.W.Frag) : Sp := spF (encE K) m_eq (fun r => D K (eB r))
theorem sc_Book_eq : FnScope ["self", "other"] ["self", "other"] (defScope s_Book_eq) := ⟨rfl, rfl, rfl, by decide +kernel, rfl, by decide +kernel, by decide +kernel⟩
/-! repr -/
def m_repr (y : Bk) : Option Tx := Option.bind (Fm.strI y.kinds.length) fun a => Option.bind (Fm.strI y.rules.length) fun b => Fm.cats [[66, 111, 111, 107, 40], a, [32, 107, 105, 110, 100, 115, 44, 32], b, [32, 114, 117, 108, 101, 115, 41]]
abbrev sp_Book_repr (K : PySem.W.Frag) : Sp := spF (encB K) m_repr (fun r => D K (eS r))
theorem sc_Book_repr : FnScope ["self"] ["self"] (defScope s_Book_repr) := ⟨rfl, rfl, rfl, by decide +kernel, rfl, by decide +kernel, by decide +kernel⟩
/-! of -/
abbrev LRule : Type := List (Tx × Int × List (Bool × List Tx))
def m_of (x : List Tx × LRule) : Option Bk := Option.bind (m_listed_book x.1 x.2) m_BookOf
abbrev sp_Book_of (K : PySem.W.Frag) : Sp := spFH (fun x : List Tx × LRule => [D K (eL eS x.1), D K (eL (eP3 eS eI (eL eU)) x.2)]) m_of (fun Hx y => bkRN K (fun l => Hx l = none) y)
theorem sc_Book_of : FnScope ["kinds", "rules"] ["kinds", "rules"] (defScope s_Book_of) := ⟨rfl, rfl, rfl, by decide +kernel, rfl, by decide +kernel, by decide +kernel⟩
section
variable {P : Program} {w : World} {K : PySem.W.Frag} {mg : Str → Option Value} {base : Heap}
theorem ok_Book_iter (B : TxB K mg) : Mok P w K mg base 1 "Book" "__iter__" ["self"] (sp_Book_iter K) := by
  have T := B.T
  refine Mok.mk' T.d_Book_iter (fun _ _ _ _ _ _ us hl => match us, hl with | [_], _ => rfl) sc_Book_iter (fun vs H Q E h => by obtain ⟨_, _, _, _, rs, _⟩ := h; exact rs.length) (fun cdv A outer s H vs Q E hr h => ⟨_, by
      exact pss_one (ps_ret (pe_callB call_iterL (by rfl) T.n_iter boot_iter (pa_cons (pe_fld (pv 0) (by rfl)) pa_nil))), ?_⟩)
  obtain ⟨G, y, ds, f, rs, hm, q⟩ := h
  have s0 : SA [] G H [some (bkR K y)] [] [] (L2.start ["self"] vs) G H := SA.start f (env_start (N := ["self"]) rs) (fun _ h => nomatch h) List.nodup_nil
  obtain rfl := Option.some.inj hm
  refine (bk_listed B (s0.var 0)).go s0.fit fun v G2 H2 g2 rv => ?_
  obtain ⟨l, zs, rfl, hl, hd⟩ := Dg.list_inv rv
  refine ⟨l, zs, rfl, SqL.of (hl.at' g2.fit), fun it hit => ?_⟩
  exact q it l zs G2 H2 (g2.trans (Gr.new g2.fit hit)) g2 hit hl.2 hl.1 hd
theorem ok_Book_eq (B : TxB K mg) : Mok P w K mg base 1 "Book" "__eq__" ["self", "other"] (sp_Book_eq K) := by
  have T := B.T
  refine Mok.mk' T.d_Book_eq (fun _ _ _ _ _ _ us hl => match us, hl with | [_, _], _ => rfl) sc_Book_eq (fun vs H Q E h => spF_len h (by intro x; obtain ⟨a, b⟩ := x; cases b <;> rfl)) (fun cdv A outer s H vs Q E hr h => ⟨_, by
      exact pss_one (ps_ret (pe_and (pe_callB (call_isiKK (K := K)) (by rfl) T.n_isinstance boot_isinstance (pa_cons (pv 1) (pa_cons (pe_globR T.g_Book) pa_nil))) (pe_and (pe_cmpR (op_eqPK (K := K) hr.units) (pe_fld (pv 0) (by rfl)) (pe_fld (pv 1) (by rfl)) (nomark _)) (pe_one (pe_cmpR (op_eqPK (K := K) hr.units) (pe_fld (pv 0) (by rfl)) (pe_fld (pv 1) (by rfl)) (nomark _)))))), ?_⟩)
  refine spF_go h fun G x r hm s0 kret => ?_
  obtain ⟨y, o⟩ := x
  cases o with
  | inl z =>
    obtain rfl := Option.some.inj hm
    exact st_ret s0 (ev_andV (a := true) (ev_isiV B.ic_Book (s0.var 1)) (fun _ => ev_andV2 (ev_eqD (e := eT eS) (bk_kinds B (s0.var 0)) (bk_kinds B (s0.var 1))) (fun _ => ev_eqD (e := eRules) (bk_rules B (s0.var 0)) (bk_rules B (s0.var 1)))) (fun h => by cases h)) fun _ _ _ s1 rv => kret _ _ _ _ _ _ _ s1 rv
  | inr d =>
    obtain ⟨hd, rfl⟩ := if_some (show (if tyD d = "str" ∨ tyD d = "int" ∨ tyD d = "list" then some false else none) = some r from hm)
    have hk : PySem.W.kitOne K (.type (tyD d)) (.ref (He.ga K "Book")) = some false := by
      rcases hd with h | h | h <;> rw [h]
      · exact B.ks_Book
      · exact B.ki_Book
      · exact B.kl_Book
    exact st_ret s0 (ev_andV (a := false) (b := false) (ev_isiC (d := d) (s0.var 1) hk) (fun h => by cases h) (fun _ => rfl)) fun _ _ _ s1 rv => kret _ _ _ _ _ _ _ s1 rv
theorem ok_Book_repr (B : TxB K mg) : Mok P w K mg base 1 "Book" "__repr__" ["self"] (sp_Book_repr K) := by
  have T := B.T
  refine Mok.mk' T.d_Book_repr (fun _ _ _ _ _ _ us hl => match us, hl with | [_], _ => rfl) sc_Book_repr (fun vs H Q E h => spF_len h) (fun cdv A outer s H vs Q E hr h => ⟨_, by
      exact pss_one (ps_ret (pe_joined (PJ.cons pe_str (PJ.cons (pe_fmt (pe_callB (call_len_seqK (K := K)) (by rfl) T.n_len PySem.boot_len (pa_cons (pe_fld (pv 0) (by rfl)) pa_nil))) (PJ.cons pe_str (PJ.cons (pe_fmt (pe_callB (call_len_seqK (K := K)) (by rfl) T.n_len PySem.boot_len (pa_cons (pe_fld (pv 0) (by rfl)) pa_nil))) (PJ.cons pe_str PJ.nil))))))), ?_⟩)
  refine spF_go h fun G y r hm s0 kret => ?_
  obtain ⟨a, ha, hm⟩ := bnd' (show m_repr y = some r from hm)
  obtain ⟨b, hb, hm⟩ := bnd' hm
  exact st_ret s0 (ev_joined (.cons (ev_strC [66, 111, 111, 107, 40]) (.cons (ev_fmtI (ev_lenT (e := eS) (bk_kinds B (s0.var 0))) ha) (.cons (ev_strC [32, 107, 105, 110, 100, 115, 44, 32]) (.cons (ev_fmtI (ev_lenT (e := eP3 eS eI (eT (eT eS))) (bk_rules B (s0.var 0))) hb) (.cons (ev_strC [32, 114, 117, 108, 101, 115, 41]) .nil))))) hm) fun _ _ _ s1 rv => kret _ _ _ _ _ _ _ s1 rv
theorem ok_Book_of (B : TxB K mg) (h_lb : Fok P w K mg base 5 "listed_book" ["kinds", "rules"] (sp_listed_book K)) (h_init : Mok P w K mg base 8 "Book" "__init__" ["self", "text"] (sp_Book_init K)) : GokK P w K mg base 10 (gW K "Book" "staticmethod" "of") "kinds" "rules" (sp_Book_of K) := by
  have T := B.T
  obtain ⟨fd, F⟩ := B.d_of
  refine ⟨fd, F.bindsN (fun _ _ _ _ _ _ us hl => match us, hl with | [_, _], _ => rfl), ?_, F.ok sc_Book_of (fun vs H Q E h => by obtain ⟨_, _, _, _, rs, _⟩ := h; exact rs.length) fun cdv A outer s H vs Q E hr h => ⟨_, PSs.nox (pss_one (ps_ret (pe_makeF T.mk_Book h_init (hr.mono (by decide)) T.g_Book (pa_cons (pe_callF h_lb (hr.mono (by decide)) (pa_cons (pv 0) (pa_cons (pv 1) pa_nil))) pa_nil)))), ?_⟩⟩
  · obtain ⟨oc, od, dV, kV, doc, pm, an, cdv, ct, osl, rfl, lk, hcd, hD, hK⟩ := F.ex
    rcases hD with ⟨_, rfl⟩ | ⟨e, _⟩
    · exact fun s u1 u2 => .of_eq rfl
    · exact absurd rfl e
  · obtain ⟨G, x, y, f, rs, hm, q⟩ := h
    have s0 : SA [] G H [some (D K (eL eS x.1)), some (D K (eL (eP3 eS eI (eL eU)) x.2))] [] [] (L2.start ["kinds", "rules"] vs) G H := SA.start f (env_start (N := ["kinds", "rules"]) rs) (fun _ h => nomatch h) List.nodup_nil
    obtain ⟨p, hp, hm⟩ := bnd' (show Option.bind (m_listed_book x.1 x.2) m_BookOf = some y from hm)
    exact st_ret s0 (ev_makeVH (enc := encBk K) (m := m_Book) (rsA := rs_BookA K) (rbY := fun _ => rs_BookB K) (x := .inr p) (R := D K .none) (g := "_book_text") (ea_cons (ev_call (x := x) (m := sm_listed_book) (er := fun r => Fz.fzI (He.ga K "BookParts") (rs_BookParts K r)) (ea_cons (s0.var 0) (ea_cons (s0.var 1) ea_nil)) hp) ea_nil) hm rsA_wk (fun G v h => .inl (Dg.none_inv h)) f) fun _ _ _ s1 rv => q _ _ _ s1.g rv
end
end K0
set_option Elab.async false
set_option linter.all false
set_option maxRecDepth 100000
set_option maxHeartbeats 8000000
namespace K0
open PySem PySem.Spec PyProof.Rows L2 Fz
abbrev leTail : List Value := [.type "LookupError", .type "Exception", .type "BaseException", .type "object"]
structure TxX (K : PySem.W.Frag) (mg : Str → Option Value) : Prop where
  B : TxB K mg
  g_NoSuch : mg "NoSuch" = some (.ref (He.ga K "NoSuch"))
  nm : NmX.NmC K (He.ga K "NoSuch") (He.ma K (He.ga K "NoSuch") "__init__") "NoSuch.__init__" leTail "LookupError.__new__"
  xc : ExcC K (He.ga K "NoSuch")
  kL : PySem.W.kitOne K (.ref (He.ga K "NoSuch")) (.type "LookupError") = some true
  kV : PySem.W.kitOne K (.ref (He.ga K "NoSuch")) (.type "ValueError") = some false
/-- a method that raises NoSuch of its word -/
def spNo (K : PySem.W.Frag) (sel : Bk → Tx → Bool) : Sp := fun vs H Q E => ∃ (G : GH) (y : Bk) (wd : Tx), Fit G H ∧ RAll G vs [bkR K y, D K (eS wd)] ∧ sel y wd = true ∧
  ∀ d G' H', Gr [] G H G' H' → H' d = none → E (.ref (He.ga K "NoSuch")) (some d) (upd H' d (.xd [(("name" : Str), .str (mkS wd))]))
structure MokX (P : Program) (w : World) (K : PySem.W.Frag) (mg : Str → Option Value) (base : Heap) (k : Nat) (C m : Str) (ps : List Str) (sp : Sp) : Prop where
  ok : ∃ fd, Binds K fd ps [] ∧ FnOk P w K mg base (L2.CX P w) k (He.ma K (He.ga K C) m) fd ps sp
def noRows (y : Bk) (wd : Tx) : Bool := !(look y.lists wd).isSome
def noWidth (y : Bk) (wd : Tx) : Bool := !(look y.widths wd).isSome
section
variable {P : Program} {w : World} {K : PySem.W.Frag} {mg : Str → Option Value} {base : Heap}
theorem ok_rowsX (Y : TxX K mg) : MokX P w K mg base 2 "Book" "rows" ["self", "rule"] (spNo K noRows) := by
  have B := Y.B
  have T := B.T
  obtain ⟨fd, F⟩ := T.d_Book_rows
  refine ⟨fd, F.bindsN (fun _ _ _ _ _ _ us hl => match us, hl with | [_, _], _ => rfl), F.ok (CX := L2.CX P w) sc_Book_rows (fun vs H Q E h => by obtain ⟨_, _, _, _, rs, _⟩ := h; exact rs.length) fun cdv A outer s H vs Q E hr h => ⟨_, pss_cons (ps_if (pt_cmp (pc_dnotin (hu_of hr) (pv 1) (pe_fld (pv 0) (by rfl)))) (pss_one (ps_raiseNm (W := fun cls d _ H => E cls d H) rfl PySem.F.store_LookupError PySem.F.excBase_LookupError Y.nm Y.g_NoSuch hr (takes_of rfl rfl rfl rfl) (pa_cons (pv 1) pa_nil))) pss_nil) (pss_one ps_never), ?_⟩⟩
  obtain ⟨G, y, wd, f, rs, hs, q⟩ := h
  have s0 : SA [] G H [some (bkR K y), some (D K (eS wd))] [] [] (L2.start ["self", "rule"] vs) G H := SA.start f (env_start (N := ["self", "rule"]) rs) (fun _ h => nomatch h) List.nodup_nil
  refine st_if s0 (et_B (ev_dniT (e := eT (eT eS)) keyM_S (s0.var 1) (edv_fz (bk_lists B (s0.var 0))))) (fun hb _ _ s1 => ?_) (fun hb _ _ s1 => ?_)
  · obtain ⟨v, hv, rv⟩ := s1.env.2 1 _ rfl
    have ev := Dg.str_inv rv
    subst ev
    exact ⟨_, hv, _, rfl, fun d hd => q d _ _ s1.g hd⟩
  · exact absurd hs (by unfold noRows; rw [hb]; decide)
theorem ok_widthX (Y : TxX K mg) : MokX P w K mg base 2 "Book" "width" ["self", "rule"] (spNo K noWidth) := by
  have B := Y.B
  have T := B.T
  obtain ⟨fd, F⟩ := T.d_Book_width
  refine ⟨fd, F.bindsN (fun _ _ _ _ _ _ us hl => match us, hl with | [_, _], _ => rfl), F.ok (CX := L2.CX P w) sc_Book_width (fun vs H Q E h => by obtain ⟨_, _, _, _, rs, _⟩ := h; exact rs.length) fun cdv A outer s H vs Q E hr h => ⟨_, pss_cons (ps_if (pt_cmp (pc_dnotin (hu_of hr) (pv 1) (pe_fld (pv 0) (by rfl)))) (pss_one (ps_raiseNm (W := fun cls d _ H => E cls d H) rfl PySem.F.store_LookupError PySem.F.excBase_LookupError Y.nm Y.g_NoSuch hr (takes_of rfl rfl rfl rfl) (pa_cons (pv 1) pa_nil))) pss_nil) (pss_one ps_never), ?_⟩⟩
  obtain ⟨G, y, wd, f, rs, hs, q⟩ := h
  have s0 : SA [] G H [some (bkR K y), some (D K (eS wd))] [] [] (L2.start ["self", "rule"] vs) G H := SA.start f (env_start (N := ["self", "rule"]) rs) (fun _ h => nomatch h) List.nodup_nil
  refine st_if s0 (et_B (ev_dniT (e := eI) keyM_S (s0.var 1) (edv_fz (bk_widths B (s0.var 0))))) (fun hb _ _ s1 => ?_) (fun hb _ _ s1 => ?_)
  · obtain ⟨v, hv, rv⟩ := s1.env.2 1 _ rfl
    have ev := Dg.str_inv rv
    subst ev
    exact ⟨_, hv, _, rfl, fun d hd => q d _ _ s1.g hd⟩
  · exact absurd hs (by unfold noWidth; rw [hb]; decide)
/-! _law_lost -/
def m_law_lost (x : Bk × Tx × Int) : Option Bool := if (if x.2.2 = 0 then noRows x.1 x.2.1 else noWidth x.1 x.2.1) = true then some true else none
abbrev sp_law_lost (K : PySem.W.Frag) : Sp := spF (fun x : Bk × Tx × Int => [bkR K x.1, D K (eS x.2.1), D K (eI x.2.2)]) m_law_lost (fun r => D K (eB r))
theorem sc_law_lost : FnScope ["tome", "word", "how", "met"] ["tome", "word", "how"] (defScope s_law_lost) := ⟨rfl, rfl, rfl, by decide +kernel, rfl, by decide +kernel, by decide +kernel⟩
theorem lost_run (mg : Str → Option Value) {y : Bk} {wd : Tx} {how : Int} {G G1 : GH} {H H1 : Hp} {σ : L2.St} {sel : Bk → Tx → Bool} {m : Str} {De : Ends} {W : WX} (s1 : SA [] G H [some (bkR K y), some (D K (eS wd)), some (D K (eI how)), none] [] [] σ G1 H1) (hs : sel y wd = true) (hm : (nsAll.all fun k => decide (k ≠ m)) = true) (hne : (m == ("_book_text" : Str)) = false)
    (hW : ∀ d G' H', SA [] G H [some (bkR K y), some (D K (eS wd)), some (D K (eI how)), none] [] [] σ G' H' → H' d = none → W (.ref (He.ga K "NoSuch")) (some d) σ (upd H' d (.xd [(("name" : Str), .str (mkS wd))]))) : tDrop (tMethX (He.ga K "Book") m (spNo K sel) (WE W) (tVar 0) (tCons (tVar 1) tNil)) De σ H1 := by
  obtain ⟨v, hv, rv⟩ := s1.env.2 0 (bkR K y) rfl
  obtain ⟨u, hu, ru⟩ := s1.env.2 1 (D K (eS wd)) rfl
  obtain ⟨a, dx, a1, tt, b1, ev, ho, h1, h2⟩ := fzV_at rv s1.fit
  subst ev
  refine ⟨_, hv, a, dx, _, rfl, ho, look_noV h1 h2 hm hne, u, hu, ?_⟩
  exact ⟨G1, y, wd, s1.fit, .cons rv (.cons ru .nil), hs, fun d G' H' g hd => hW d G' H' (s1.step g) hd⟩
theorem ok_law_lost (Y : TxX K mg) : Fok P w K mg base 3 "_law_lost" ["tome", "word", "how"] (sp_law_lost K) := by
  have B := Y.B
  have T := B.T
  obtain ⟨fr, br, Fr'⟩ := ok_rowsX (P := P) (w := w) (base := base) Y
  obtain ⟨fw, bw, Fw⟩ := ok_widthX (P := P) (w := w) (base := base) Y
  obtain ⟨fd, F⟩ := T.d_law_lost
  refine ⟨T.g_law_lost, F.kp, fd, F.bindsN (fun _ _ _ _ _ _ us hl => match us, hl with | [_, _, _], _ => rfl), F.ok sc_law_lost (fun vs H Q E h => spF_len h) fun cdv A outer s H vs Q E hr h => ⟨_, PSs.nox (pss_cons (ps_try_as (i := 3) rfl rfl sc_law_lost.nd rfl rfl ⟨rfl, by decide, .inl Y.g_NoSuch⟩ takes0 (fun W pn xe tk _ => pss_one (ps_if (pt_cmpR op_eq (pv 2) pe_int (nomark _)) (pss_one (ps_expr (pe_methX (pv 0) T.cl_Book T.me_Book_rows Fr' hr br (fun σ => passAt tk σ) (pa_cons (pv 1) pa_nil)))) (pss_one (ps_expr (pe_methX (pv 0) T.cl_Book T.me_Book_width Fw hr bw (fun σ => passAt tk σ) (pa_cons (pv 1) pa_nil))))))
      (fun a oe cls d pn hz hf => pss_one (ps_ret (pe_and (pe_cmpR op_eq (pe_nmF Y.nm hz hf (pv 3)) (pv 1) (nomark _)) (pe_and (pe_callB (call_isNm Y.xc hz hf) (by rfl) T.n_isinstance boot_isinstance (pa_cons (pv 3) (pa_cons (pe_bltn (v := .ty "LookupError") (by rfl) T.n_LookupError (by decide +kernel) rfl) pa_nil))) (pe_one (pe_not (pe_callB (call_isNm Y.xc hz hf) (by rfl) T.n_isinstance boot_isinstance (pa_cons (pv 3) (pa_cons (pe_bltn (v := .ty "ValueError") (by rfl) T.n_ValueError (by decide +kernel) rfl) pa_nil)))))))))) (pss_one ps_never)), ?_⟩⟩
  refine spF_go h fun G x r hm s0 kret => ?_
  obtain ⟨hs, rfl⟩ := if_some (show (if (if x.2.2 = 0 then noRows x.1 x.2.1 else noWidth x.1 x.2.1) = true then some true else none) = some r from hm)
  obtain ⟨y, wd, how⟩ := x
  have hz : wd.length ≤ sizeLine := by
    obtain ⟨u, hu, ru⟩ := s0.env.2 1 (D K (eS wd)) rfl
    have := Dg.str_len ru
    rw [mkS_len] at this
    exact this
  have suite : ∀ (a d : Addr) (σ : L2.St) (G' : GH) (H' : Hp), SA [] G H [some (bkR K y), some (D K (eS wd)), some (D K (eI how)), none] [] [] σ G' H' → H' d = none → ∀ D0 : Ends, D0.rt = Q → tRet (tAndV (tOp rEq (tNmF (He.ga K "NoSuch") a (.ref (He.ga K "NoSuch")) (some d) (tVar 3)) (tVar 1)) (tAndV (tCB (rIsNm K (He.ga K "NoSuch") a (.ref (He.ga K "NoSuch")) (some d)) (tCons (tVar 3) (tCons (tC (.ty "LookupError")) tNil))) (tNotV (tCB (rIsNm K (He.ga K "NoSuch") a (.ref (He.ga K "NoSuch")) (some d)) (tCons (tVar 3) (tCons (tC (.ty "ValueError")) tNil)))))) D0 (σ.set 3 (some (.ref a))) (upd H' d (.xd [(("name" : Str), .str (mkS wd))])) := by
    intro a d σ G' H' s2 hd D0 hD
    have s3 := (s2.step (Gr.new (o := .xd [(("name" : Str), .str (mkS wd))]) s2.fit hd)).set 3 (v := .ref a) (R := isV (.ref a)) rfl
    have nd : G' d = none := s2.fit.none hd
    refine st_ret s3 (ev_andV2 (ev_eqS (s := wd) (t := wd) (ev_nmF (s3.var 3) nd upd_same hz) (s3.var 1)) (fun _ => ev_andV2 (ev_isNm (s3.var 3) nd upd_same Y.kL) (fun _ => ev_notV (ev_isNm (s3.var 3) nd upd_same Y.kV)))) fun _ _ _ s4 rv => ?_
    rw [hD]
    exact kret _ _ _ _ _ _ _ s4 (by simpa using rv)
  refine st_if s0 (et_test (ev_eqI (s0.var 2) ev_int)) (fun hb _ _ s1 => ?_) (fun hb _ _ s1 => ?_)
  · have e0 : how = 0 := of_decide_eq_true hb
    refine lost_run (K := K) mg (sel := noRows) s1 (by have h2 : (if how = 0 then noRows y wd else noWidth y wd) = true := hs; rwa [if_pos e0] at h2) (by decide +kernel) (by decide +kernel) fun d G' H' s2 hd => ⟨true, Y.nm.te, fun _ a ha => suite a d _ G' H' s2 hd _ rfl, fun q => Bool.noConfusion q⟩
  · have e0 : ¬ how = 0 := of_decide_eq_false hb
    refine lost_run (K := K) mg (sel := noWidth) s1 (by have h2 : (if how = 0 then noRows y wd else noWidth y wd) = true := hs; rwa [if_neg e0] at h2) (by decide +kernel) (by decide +kernel) fun d G' H' s2 hd => ⟨true, Y.nm.te, fun _ a ha => suite a d _ G' H' s2 hd _ rfl, fun q => Bool.noConfusion q⟩
end
end K0
set_option Elab.async false
set_option linter.all false
set_option maxRecDepth 100000
set_option maxHeartbeats 8000000
namespace K0
open PySem PySem.Spec PyProof.Rows L2 Fz
abbrev Norm : Type := Tx × Int × List (List Tx)
abbrev eNorm : Norm → PyData := eP3 eS eI (eL (eT eS))
def cZz : Tx := [90, 122]
def m_law_norm_told (x : Bk × Norm) : Option Bool :=
  Option.bind (look x.1.widths x.2.1) fun wd => Option.bind (m_law_number wd) fun nb => if ((!nb) || (!decide (wd = x.2.2.1))) = true then some false else
  Option.bind (look x.1.lists x.2.1) fun l => Option.bind (m_law_row_list l x.2.2.2) fun b => if (!b) = true then some false else
  Option.bind (Fm.app l [cZz]) fun l2 => Option.bind (if (!decide (x.2.2.2 = [])) = true then (Fm.setI l2 0 [cZz, cZz]) else some l2) fun _ => m_law_row_list l x.2.2.2
abbrev sp_law_norm_told (K : PySem.W.Frag) : Sp := spF (fun x : Bk × Norm => [bkR K x.1, D K (eNorm x.2)]) m_law_norm_told (fun r => D K (eB r))
theorem sc_law_norm_told : FnScope ["tome", "norm", "wide", "told"] ["tome", "norm"] (defScope s_law_norm_told) := ⟨rfl, rfl, rfl, by decide +kernel, rfl, by decide +kernel, by decide +kernel⟩
section
variable {P : Program} {w : World} {K : PySem.W.Frag} {mg : Str → Option Value} {base : Heap}
theorem ok_law_norm_told (B : TxB K mg) (h_num : Fok P w K mg base 1 "_law_number" ["told"] (sp_law_number K)) (h_rl : Fok P w K mg base 2 "_law_row_list" ["told", "rows"] (sp_law_row_list K)) : Fok P w K mg base 3 "_law_norm_told" ["tome", "norm"] (sp_law_norm_told K) := by
  have T := B.T
  have h_width := ok_Book_width (P := P) (w := w) (base := base) B
  have h_rows := ok_Book_rows (P := P) (w := w) (base := base) B
  refine Fok.mk' T.g_law_norm_told T.d_law_norm_told (fun _ _ _ _ _ _ us hl => match us, hl with | [_, _], _ => rfl) sc_law_norm_told (fun vs H Q E h => spF_len h) (fun cdv A outer s H vs Q E hr h => ⟨_, by
      exact (pss_cons (ps_set (i := 2) sc_law_norm_told.nd (by rfl) (Or.inl rfl) (pe_methF h_width T.cl_Book T.me_Book_width (hr.mono (by decide)) (pv 0) (pa_cons (pe_ix (ix_tupK (K := K)) (pv 1) pe_int (fun _ _ => rfl)) pa_nil)))
        (pss_cons (ps_if (PW.pt (pw_or (pt_not (pt_val (pe_callF h_num (hr.mono (by decide)) (pa_cons (pv 2) pa_nil)))) (pw_or1 (pt_cmpR op_ne (pv 2) (pe_ix (ix_tupK (K := K)) (pv 1) pe_int (fun _ _ => rfl)) (nomark _))))) (pss_one (ps_ret pe_bl)) pss_nil)
        (pss_cons (ps_set (i := 3) sc_law_norm_told.nd (by rfl) (Or.inl rfl) (pe_methF h_rows T.cl_Book T.me_Book_rows (hr.mono (by decide)) (pv 0) (pa_cons (pe_ix (ix_tupK (K := K)) (pv 1) pe_int (fun _ _ => rfl)) pa_nil)))
        (pss_cons (ps_if (pt_not (pt_val (pe_callF h_rl (hr.mono (by decide)) (pa_cons (pv 3) (pa_cons (pe_ix (ix_tupK (K := K)) (pv 1) pe_int (fun _ _ => rfl)) pa_nil))))) (pss_one (ps_ret pe_bl)) pss_nil)
        (pss_cons (ps_expr (pe_bm PySem.F.plainAttrs_list PySem.F.slot_list_append PySem.F.type_list_append mt_append (pv 3) (pa_cons (pe_tup (pa_cons pe_str pa_nil)) pa_nil)))
        (pss_cons (ps_if (pt_cmpR (op_nePK (K := K) hr.units) (pe_ix (ix_tupK (K := K)) (pv 1) pe_int (fun _ _ => rfl)) (pe_lst pa_nil) (nomark _)) (pss_one (ps_asg (pe_tup (pa_cons pe_str (pa_cons pe_str pa_nil))) (pg_sub (pv 3) pe_int set_list))) pss_nil)
        (pss_one (ps_ret (pe_callF h_rl (hr.mono (by decide)) (pa_cons (pe_methF h_rows T.cl_Book T.me_Book_rows (hr.mono (by decide)) (pv 0) (pa_cons (pe_ix (ix_tupK (K := K)) (pv 1) pe_int (fun _ _ => rfl)) pa_nil)) (pa_cons (pe_ix (ix_tupK (K := K)) (pv 1) pe_int (fun _ _ => rfl)) pa_nil))))))))))), ?_⟩)
  refine spF_go h fun G x r hm s0 kret => ?_
  obtain ⟨y, nm, wd0, rows⟩ := x
  obtain ⟨wd, hw, hm⟩ := bnd' (show m_law_norm_told (y, nm, wd0, rows) = some r from hm)
  obtain ⟨nb, hnb, hm⟩ := bnd' hm
  have hnW : (nsAll.all fun k => decide (k ≠ ("width" : Str))) = true := by decide +kernel
  have hnR : (nsAll.all fun k => decide (k ≠ ("rows" : Str))) = true := by decide +kernel
  refine st_set (R := D K (eI wd)) s0 (ev_methV (enc := fun x : Bk × Tx => [bkR K x.1, D K (eS x.2)]) (mm := m_width) (er := fun r => D K (eI r)) (x := (y, nm)) (s0.var 0) (ea_cons (ev_ixTc (d := eS nm) (s0.var 1) ev_int rfl) ea_nil) rfl hw hnW) (fun _ _ _ s1 => ?_)
  refine nx_go ?_
  refine st_if s1 (et_or2 (et_not (et_B (ev_call (x := wd) (m := sm_law_number) (er := (fun r => D K (eB r))) (ea_cons (s1.var 2) ea_nil) hnb))) (fun _ => et_test (ev_neI (s1.var 2) (ev_ixTc (d := eI wd0) (s1.var 1) ev_int rfl)))) (fun hb _ _ s2 => ?_) (fun hb _ _ s2 => ?_)
  · replace hm := oif_t hm hb
    refine st_ret (R := D K (eB false)) s2 ev_bl fun _ _ _ s3 rv => ?_
    obtain rfl := Option.some.inj hm
    exact kret _ _ _ _ _ _ _ s3 rv
  replace hm := oif_f hm hb
  refine st_nil (nx_go ?_)
  obtain ⟨l, hl, hm⟩ := bnd' hm
  obtain ⟨b, hb1, hm⟩ := bnd' hm
  have hrows : m_rows (y, nm) = some (l.map (eT eS)) := by
    show (look y.lists nm).map _ = _
    rw [hl]; rfl
  have en1 : ∀ {σ' : L2.St} {G' : GH} {H' : Hp} {Γ' : List (Option RP)} {Os' : List (Addr × OP)} {Ts' : List (V × RP)}, SA [] G H Γ' Os' Ts' σ' G' H' → Γ'[0]? = some (some (bkR K y)) → Γ'[1]? = some (some (D K (eNorm (nm, wd0, rows)))) → EN K (tMeth (He.ga K "Book") "rows" (sp_Book_rows K) [] E0 (tVar 0) (tCons (tOp (rIxT K) (tVar 1) (tC (.int 0))) tNil)) σ' G' H' (l.map (eT eS)) := fun s e0 e1 =>
    en_methV (enc := fun x : Bk × Tx => [bkR K x.1, D K (eS x.2)]) (mn := m_rows) (x := (y, nm)) (s.var 0 e0) (ea_cons (ev_ixTc (d := eS nm) (s.var 1 e1) ev_int rfl) ea_nil) rfl hrows hnR
  refine st_ownT (e := eT eS) (xs := l) s2 (en1 s2 rfl rfl) (fun p _ _ _ hp s3 => ?_)
  refine nx_go ?_
  refine st_if s3 (et_not (et_B (ev_lend (ds := l.map (eT eS)) s3 3 0 hp (fun _ s' => ev_call (x := (l, rows)) (m := sm_law_row_list) (er := (fun r => D K (eB r))) (ea_cons (s'.var 3) (ea_cons (ev_ixTc (d := eL (eT eS) rows) (s'.var 1) ev_int rfl) ea_nil)) hb1)))) (fun hb _ _ s4 => ?_) (fun hb _ _ s4 => ?_)
  · replace hm := oif_t hm hb
    refine st_ret (R := D K (eB false)) s4 ev_bl fun _ _ _ s5 rv => ?_
    obtain rfl := Option.some.inj hm
    exact kret _ _ _ _ _ _ _ s5 rv
  replace hm := oif_f hm hb
  refine st_nil (nx_go ?_)
  obtain ⟨l2, hl2, hm⟩ := bnd' hm
  obtain ⟨l3, hl3, hm⟩ := bnd' hm
  refine st_appendT (e := eT eS) s4 3 0 (ev_tup (ds := [eS cZz]) (ea_cons (ev_strC cZz) ea_nil)) hl2 (fun _ _ s5 => ?_)
  refine nx_go ?_
  refine st_ifJ [some (bkR K y), some (D K (eNorm (nm, wd0, rows))), some (D K (eI wd)), some (isV (.ref p))] [(p, Fz.ownL K (l3.map (eT eS)))] s5 (et_test (ev_neL (e := eT eS) (xs := rows) (ys := []) (EV.lv (ev_ixTc (d := eL (eT eS) rows) (s5.var 1) ev_int rfl)) (EV.lv (ev_lst (ds := (([] : List (List Tx)).map (eT eS))) ea_nil)))) (fun hb _ _ s6 _ hN => ?_) (fun hb _ _ s6 _ hN => ?_) (fun _ _ _ s7 => ?_)
  · replace hl3 := oif_t hl3 hb
    refine st_setI (e := eT eS) s6 3 0 (ev_tup (ds := [eS cZz, eS cZz]) (ea_cons (ev_strC cZz) (ea_cons (ev_strC cZz) ea_nil))) ev_int hl3 (fun _ _ s8 => ?_)
    exact hN _ _ _ s8
  · replace hl3 := oif_f hl3 hb
    obtain rfl := Option.some.inj hl3
    exact st_nil (hN _ _ _ s6)
  · refine nx_go ?_
    refine st_ret (R := D K (eB r)) s7 (ev_call (x := (l, rows)) (m := sm_law_row_list) (er := (fun r => D K (eB r))) (ea_cons (EN.ev (en1 s7 rfl rfl)) (ea_cons (ev_ixTc (d := eL (eT eS) rows) (s7.var 1) ev_int rfl) ea_nil)) hm) fun _ _ _ s8 rv => ?_
    exact kret _ _ _ _ _ _ _ s8 rv
end
end K0
set_option Elab.async false
set_option linter.all false
set_option maxRecDepth 100000
set_option maxHeartbeats 8000000
namespace K0
open PySem PySem.Spec PyProof.Rows L2 Fz
abbrev Spc : Type := List Tx × List Norm
abbrev eSpc : Spc → PyData := eH2 (eL eS) (eL eNorm)
def cEnd : Tx := [107, 105, 110, 100, 115]
def toldStep (l : List (Tx × List Tx)) (_ : Unit) (k : Int) : Option Unit := Option.bind (Fm.ix l k) fun q => Option.bind (m_law_words q.2 0) fun b => if b = true then some () else none
def toldDue (ns : List Norm) : Option (List (Tx × List Tx)) := fold (fun st (n : Norm) => fold (fun st2 (r : List Tx) => Fm.app st2 (n.1, r)) st n.2.2) [] ns
def toldRepr (sp : Spc) : Option Tx := Option.bind (Fm.strI (sp.1.length : Int)) fun a => Option.bind (Fm.catS [66, 111, 111, 107, 40] a) fun t1 => Option.bind (Fm.catS t1 [32, 107, 105, 110, 100, 115, 44, 32]) fun t2 => Option.bind (Fm.strI (sp.2.length : Int)) fun b => Option.bind (Fm.catS t2 b) fun t3 => Fm.catS t3 [32, 114, 117, 108, 101, 115, 41]
/-- the book is the told one -/
structure Told (y : Bk) (sp : Spc) : Prop where
  k1 : m_law_words y.kinds 0 = some true
  r0 : m_rules y = some (sp.2.map fun n => n.1)
  r1 : m_law_words (sp.2.map fun n => n.1) 0 = some true
  kk : y.kinds = sp.1
  nn : ∀ n ∈ sp.2, m_law_norm_told (y, n) = some true
  due : toldDue sp.2 = some y.listed
  lz : y.listed.length ≤ sizeLine
  lp : ∃ ns, Fm.range (y.listed.length : Int) = some ns ∧ fold (toldStep y.listed) () ns = some ()
  tx : ∃ t, m_text y = some t ∧ m_law_book_text sp = some t
  ln : y.kinds.length ≤ sizeLine
  rp : ∃ t, m_repr y = some t ∧ toldRepr sp = some t
  ws : ∃ w1 w2, Fm.catL sp.1 (sp.2.map fun n => n.1) = some w1 ∧ Fm.catL w1 [cZz, [], cEnd] = some w2 ∧ ∀ w ∈ w2, (look y.known w).isSome = mem w sp.1
abbrev TX : Type := { x : Bk × Spc // Told x.1 x.2 }
def m_law_told (_ : TX) : Option Bool := some true
abbrev sp_law_told (K : PySem.W.Frag) : Sp := spF (fun x : TX => [bkR K x.1.1, D K (eSpc x.1.2)]) m_law_told (fun r => D K (eB r))
abbrev N_told : List Str := ["tome", "spec", "items", "due", "norm", "row", "k", "words", "word"]
theorem sc_law_told : FnScope N_told ["tome", "spec"] (defScope s_law_told) := ⟨rfl, rfl, rfl, by decide +kernel, rfl, by decide +kernel, by decide +kernel⟩
section
variable {P : Program} {w : World} {K : PySem.W.Frag} {mg : Str → Option Value} {base : Heap}
theorem ok_law_told (B : TxB K mg) (h_words : Fok P w K mg base 1 "_law_words" ["told", "of"] (sp_law_words K)) (h_nt : Fok P w K mg base 3 "_law_norm_told" ["tome", "norm"] (sp_law_norm_told K)) (h_bt : Fok P w K mg base 1 "_law_book_text" ["spec"] (sp_law_book_text K)) (h_text : Gok P w K mg base 2 (gW K "Book" "property" "text") ["self"] (sp_Book_text K)) : Fok P w K mg base 6 "_law_told" ["tome", "spec"] (sp_law_told K) := by
  have T := B.T
  have h_kinds := ok_Book_kinds (P := P) (w := w) (base := base) B
  have h_rules := ok_Book_rules (P := P) (w := w) (base := base) B
  have h_len := ok_Book_len (P := P) (w := w) (base := base) B
  have h_iter := ok_Book_iter (P := P) (w := w) (base := base) B
  have h_repr := ok_Book_repr (P := P) (w := w) (base := base) B
  have h_cont := ok_Book_contains (P := P) (w := w) (base := base) B
  obtain ⟨pk, hpk⟩ := B.p_kinds
  obtain ⟨pr, hpr⟩ := B.p_rules
  obtain ⟨pt, hpt⟩ := B.p_text
  refine Fok.mk' T.g_law_told T.d_law_told (fun _ _ _ _ _ _ us hl => match us, hl with | [_, _], _ => rfl) sc_law_told (fun vs H Q E h => spF_len h) (fun cdv A outer s H vs Q E hr h => ⟨_, by
      exact (pss_cons (ps_if (PW.pt (pw_or (pt_not (pt_val (pe_callB (call_isiKK (K := K)) (by rfl) T.n_isinstance boot_isinstance (pa_cons (pv 0) (pa_cons (pe_globR T.g_Book) pa_nil))))) (pw_or (pt_not (pt_val (pe_callF h_words (hr.mono (by decide)) (pa_cons (pe_propF (pv 0) T.cl_Book hpk h_kinds (hr.mono (by decide)) (by rfl)) (pa_cons pe_int pa_nil))))) (pw_or1 (pt_not (pt_val (pe_callF h_words (hr.mono (by decide)) (pa_cons (pe_propF (pv 0) T.cl_Book hpr h_rules (hr.mono (by decide)) (by rfl)) (pa_cons pe_int pa_nil))))))))) (pss_one (ps_ret pe_bl)) pss_nil)
        (pss_cons (ps_if (PW.pt (pw_or (pt_cmpR (op_nePK (K := K) hr.units) (pe_callTy (call_list_ofK (K := K)) (by rfl) T.n_list boot_list (pa_cons (pe_propF (pv 0) T.cl_Book hpk h_kinds (hr.mono (by decide)) (by rfl)) pa_nil)) (pe_ix (ix_listK (K := K)) (pv 1) pe_int (fun _ _ => rfl)) (nomark _)) (pw_or1 (pt_cmpR (op_nePK (K := K) hr.units) (pe_callTy (call_list_ofK (K := K)) (by rfl) T.n_list boot_list (pa_cons (pe_propF (pv 0) T.cl_Book hpr h_rules (hr.mono (by decide)) (by rfl)) pa_nil)) (pe_lc (own := [("norm", 4)]) (by rfl) sc_law_told.nd (pi_listK (K := K) (pe_ix (ix_listK (K := K)) (pv 1) pe_int (fun _ _ => rfl))) (blkOk_by (N := N_told) (sc := defScope s_law_told) (by decide +kernel)) (fun _ _ _ _ _ => (pg_name (i := 4) sc_law_told.nd (by rfl) (Or.inl rfl))) (fun _ _ _ _ _ => pts_nil) (fun _ _ _ _ _ => (pe_ix (ix_tupK (K := K)) (pv 4) pe_int (fun _ _ => rfl)))) (nomark _))))) (pss_one (ps_ret pe_bl)) pss_nil)
        (pss_cons (ps_if (pt_not (pt_val (pe_callB (cr_allK (K := K) (by rfl)) (by rfl) T.n_all boot_all (pa_cons (pe_lc (own := [("norm", 4)]) (by rfl) sc_law_told.nd (pi_listK (K := K) (pe_ix (ix_listK (K := K)) (pv 1) pe_int (fun _ _ => rfl))) (blkOk_by (N := N_told) (sc := defScope s_law_told) (by decide +kernel)) (fun _ _ _ _ _ => (pg_name (i := 4) sc_law_told.nd (by rfl) (Or.inl rfl))) (fun _ _ _ _ _ => pts_nil) (fun _ _ _ _ _ => (pe_callF h_nt (hr.mono (by decide)) (pa_cons (pv 0) (pa_cons (pv 4) pa_nil))))) pa_nil)))) (pss_one (ps_ret pe_bl)) pss_nil)
        (pss_cons (ps_set (i := 2) sc_law_told.nd (by rfl) (Or.inl rfl) (pe_callTy (call_listIt h_iter T.me_Book_iter h_len T.me_Book_len (hr.mono (by decide)) (fun _ _ _ _ _ hq h => spF_mono hq h)) (by rfl) T.n_list boot_list (pa_cons (pv 0) pa_nil)))
        (pss_cons (ps_set (i := 3) sc_law_told.nd (by rfl) (Or.inl rfl) (pe_lst pa_nil))
        (pss_cons (ps_for PassesOwn.never (by rfl) (pi_listK (K := K) (pe_ix (ix_listK (K := K)) (pv 1) pe_int (fun _ _ => rfl))) (pg_name (i := 4) sc_law_told.nd (by rfl) (Or.inl rfl)) (pss_one (ps_for PassesOwn.never (by rfl) (pi_listK (K := K) (pe_ix (ix_tupK (K := K)) (pv 4) pe_int (fun _ _ => rfl))) (pg_name (i := 5) sc_law_told.nd (by rfl) (Or.inl rfl)) (pss_one (ps_expr (pe_bm PySem.F.plainAttrs_list PySem.F.slot_list_append PySem.F.type_list_append mt_append (pv 3) (pa_cons (pe_tup (pa_cons (pe_ix (ix_tupK (K := K)) (pv 4) pe_int (fun _ _ => rfl)) (pa_cons (pv 5) pa_nil))) pa_nil)))))))
        (pss_cons (ps_if (pt_cmpR op_ne (pe_callB (call_len_seqK (K := K)) (by rfl) T.n_len PySem.boot_len (pa_cons (pv 2) pa_nil)) (pe_callB (call_len_seqK (K := K)) (by rfl) T.n_len PySem.boot_len (pa_cons (pv 3) pa_nil)) (nomark _)) (pss_one (ps_ret pe_bl)) pss_nil)
        (pss_cons (ps_for PassesOwn.never (by rfl) (pi_range1 (by rfl) T.n_range (pa_cons (pe_callB (call_len_seqK (K := K)) (by rfl) T.n_len PySem.boot_len (pa_cons (pv 3) pa_nil)) pa_nil)) (pg_name (i := 6) sc_law_told.nd (by rfl) (Or.inl rfl))
          (pss_cons (ps_if (PW.pt (pw_or (pt_not (pt_val (pe_callB (call_isiKK (K := K)) (by rfl) T.n_isinstance boot_isinstance (pa_cons (pe_ix (ix_listK (K := K)) (pv 2) (pv 6) (fun _ _ => rfl)) (pa_cons (pe_bltn (v := .ty "tuple") (by rfl) T.n_tuple boot_tuple rfl) pa_nil))))) (pw_or (pt_cmpR op_ne (pe_callB (call_len_seqK (K := K)) (by rfl) T.n_len PySem.boot_len (pa_cons (pe_ix (ix_listK (K := K)) (pv 2) (pv 6) (fun _ _ => rfl)) pa_nil)) pe_int (nomark _)) (pw_or1 (pt_not (pt_val (pe_callB (call_isiKK (K := K)) (by rfl) T.n_isinstance boot_isinstance (pa_cons (pe_ix (ix_tupK (K := K)) (pe_ix (ix_listK (K := K)) (pv 2) (pv 6) (fun _ _ => rfl)) pe_int (fun _ _ => rfl)) (pa_cons (pe_bltn (v := .ty "str") (by rfl) T.n_str boot_str rfl) pa_nil))))))))) (pss_one (ps_ret pe_bl)) pss_nil)
          (pss_one (ps_if (PW.pt (pw_or (pt_not (pt_val (pe_callF h_words (hr.mono (by decide)) (pa_cons (pe_ix (ix_tupK (K := K)) (pe_ix (ix_listK (K := K)) (pv 2) (pv 6) (fun _ _ => rfl)) pe_int (fun _ _ => rfl)) (pa_cons pe_int pa_nil))))) (pw_or1 (pt_cmpR (op_nePK (K := K) hr.units) (pe_ix (ix_listK (K := K)) (pv 2) (pv 6) (fun _ _ => rfl)) (pe_ix (ix_listK (K := K)) (pv 3) (pv 6) (fun _ _ => rfl)) (nomark _))))) (pss_one (ps_ret pe_bl)) pss_nil))))
        (pss_cons (ps_if (PW.pt (pw_or (pt_not (pt_val (pe_callB (call_isiKK (K := K)) (by rfl) T.n_isinstance boot_isinstance (pa_cons (pe_propF (pv 0) T.cl_Book hpt h_text (hr.mono (by decide)) (by rfl)) (pa_cons (pe_bltn (v := .ty "str") (by rfl) T.n_str boot_str rfl) pa_nil))))) (pw_or (pt_cmpR op_ne (pe_propF (pv 0) T.cl_Book hpt h_text (hr.mono (by decide)) (by rfl)) (pe_callF h_bt (hr.mono (by decide)) (pa_cons (pv 1) pa_nil)) (nomark _)) (pw_or1 (pt_cmpR op_ne (pe_callB (call_lenOwn h_len T.me_Book_len (hr.mono (by decide))) (by rfl) T.n_len PySem.boot_len (pa_cons (pv 0) pa_nil)) (pe_callB (call_len_seqK (K := K)) (by rfl) T.n_len PySem.boot_len (pa_cons (pe_ix (ix_listK (K := K)) (pv 1) pe_int (fun _ _ => rfl)) pa_nil)) (nomark _)))))) (pss_one (ps_ret pe_bl)) pss_nil)
        (pss_cons (ps_if (pt_cmpR op_ne (pe_callB (call_reprOwn h_repr T.me_Book_repr (hr.mono (by decide))) (by rfl) T.n_repr boot_repr (pa_cons (pv 0) pa_nil)) (pe_op op_add_str (pe_op op_add_str (pe_op op_add_str (pe_op op_add_str pe_str (pe_callTy call_str_int (by rfl) T.n_str boot_str (pa_cons (pe_callB (call_len_seqK (K := K)) (by rfl) T.n_len PySem.boot_len (pa_cons (pe_ix (ix_listK (K := K)) (pv 1) pe_int (fun _ _ => rfl)) pa_nil)) pa_nil))) pe_str) (pe_callTy call_str_int (by rfl) T.n_str boot_str (pa_cons (pe_callB (call_len_seqK (K := K)) (by rfl) T.n_len PySem.boot_len (pa_cons (pe_ix (ix_listK (K := K)) (pv 1) pe_int (fun _ _ => rfl)) pa_nil)) pa_nil))) pe_str) (nomark _)) (pss_one (ps_ret pe_bl)) pss_nil)
        (pss_cons (ps_set (i := 7) sc_law_told.nd (by rfl) (Or.inl rfl) (pe_op op_cat (pe_op op_cat (pe_ix (ix_listK (K := K)) (pv 1) pe_int (fun _ _ => rfl)) (pe_lc (own := [("norm", 4)]) (by rfl) sc_law_told.nd (pi_listK (K := K) (pe_ix (ix_listK (K := K)) (pv 1) pe_int (fun _ _ => rfl))) (blkOk_by (N := N_told) (sc := defScope s_law_told) (by decide +kernel)) (fun _ _ _ _ _ => (pg_name (i := 4) sc_law_told.nd (by rfl) (Or.inl rfl))) (fun _ _ _ _ _ => pts_nil) (fun _ _ _ _ _ => (pe_ix (ix_tupK (K := K)) (pv 4) pe_int (fun _ _ => rfl))))) (pe_lst (pa_cons pe_str (pa_cons pe_str (pa_cons pe_str pa_nil))))))
        (pss_one (ps_ret (pe_callB (cr_allK (K := K) (by rfl)) (by rfl) T.n_all boot_all (pa_cons (pe_lc (own := [("word", 8)]) (by rfl) sc_law_told.nd (pi_listK (K := K) (pv 7)) (blkOk_by (N := N_told) (sc := defScope s_law_told) (by decide +kernel)) (fun _ _ _ _ _ => (pg_name (i := 8) sc_law_told.nd (by rfl) (Or.inl rfl))) (fun _ _ _ _ _ => pts_nil) (fun _ _ _ _ _ => (pe_cmpR op_eq (pe_cmpR (op_inOwnK (K := K) h_cont T.me_Book_contains (hr.mono (by decide))) (pv 8) (pv 0) (by rfl)) (pe_cmpR (op_inPK (K := K) hr.units) (pv 8) (pe_ix (ix_listK (K := K)) (pv 1) pe_int (fun _ _ => rfl)) (by rfl)) (nomark _)))) pa_nil))))))))))))))), ?_⟩)
  refine spF_go h fun G x r hm s0 kret => ?_
  obtain ⟨⟨y, sp⟩, O⟩ := x
  obtain rfl := Option.some.inj (show some true = some r from hm)
  have sk : ∀ {σ' : L2.St} {G' : GH} {H' : Hp} {Γ' : List (Option RP)} {Os' : List (Addr × OP)} {Ts' : List (V × RP)}, SA [] G H Γ' Os' Ts' σ' G' H' → Γ'[1]? = some (some (D K (eSpc sp))) → EV (tOp (rIxL K) (tVar 1) (tC (.int 0))) σ' G' H' (D K (eL eS sp.1)) := fun s e => ev_ixLc (s.var 1 e) ev_int rfl
  have sn : ∀ {σ' : L2.St} {G' : GH} {H' : Hp} {Γ' : List (Option RP)} {Os' : List (Addr × OP)} {Ts' : List (V × RP)}, SA [] G H Γ' Os' Ts' σ' G' H' → Γ'[1]? = some (some (D K (eSpc sp))) → EV (tOp (rIxL K) (tVar 1) (tC (.int 1))) σ' G' H' (D K (eL eNorm sp.2)) := fun s e => ev_ixLc (s.var 1 e) ev_int rfl
  have pK : ∀ {σ' : L2.St} {G' : GH} {H' : Hp} {Γ' : List (Option RP)} {Os' : List (Addr × OP)} {Ts' : List (V × RP)}, SA [] G H Γ' Os' Ts' σ' G' H' → Γ'[0]? = some (some (bkR K y)) → EV (tProp (He.ga K "Book") (sp_Book_kinds K) [] E0 (tVar 0)) σ' G' H' (D K (eT eS y.kinds)) := fun s e => ev_propV (enc := encB K) (mm := m_kinds) (er := fun r => D K (eT eS r)) (x := y) (s.var 0 e) rfl rfl
  have pR : ∀ {σ' : L2.St} {G' : GH} {H' : Hp} {Γ' : List (Option RP)} {Os' : List (Addr × OP)} {Ts' : List (V × RP)}, SA [] G H Γ' Os' Ts' σ' G' H' → Γ'[0]? = some (some (bkR K y)) → EV (tProp (He.ga K "Book") (sp_Book_rules K) [] E0 (tVar 0)) σ' G' H' (D K (eT eS (sp.2.map fun n => n.1))) := fun s e => ev_propV (enc := encB K) (mm := m_rules) (er := fun r => D K (eT eS r)) (x := y) (s.var 0 e) rfl O.r0
  have lcN : ∀ {σ' : L2.St} {G' : GH} {H' : Hp} {Γ' : List (Option RP)} {Os' : List (Addr × OP)} {Ts' : List (V × RP)}, SA [] G H Γ' Os' Ts' σ' G' H' → Γ'[1]? = some (some (D K (eSpc sp))) → 4 < (wipeG Γ' [4]).length → EN K (tLc (iList K (tOp (rIxL K) (tVar 1) (tC (.int 1)))) (gName 4) tYes (tOp (rIxT K) (tVar 4) (tC (.int 0))) [4]) σ' G' H' ((sp.2.map fun n => n.1).map eS) := fun s e hl =>
    en_lc (e' := eS) (f := fun n : Norm => some (some n.1)) (vs := [4]) s (eso_list (e := eNorm) (EV.lv (sn s e))) (comp_map fun n _ => rfl) (fun _ n o _ ho _ _ _ _ t1 _ kk => by
      refine st_bind t1 fun _ hw t2 => ?_
      obtain rfl := Option.some.inj ho
      exact kk _ (hw _ (by decide)) et_yes (fun z hz => by cases hz; exact ev_ixTc (d := eS n.1) (t2.var 4 (List.getElem?_set_self hl)) ev_int rfl))
  have nTT : (!true) = false := rfl
  refine st_if s0 (et_or2 (et_not (et_B (ev_isiV B.ic_Book (s0.var 0)))) (fun _ => et_or2 (et_not (et_B (ev_call (x := (y.kinds, (0 : Int))) (m := sm_law_words) (er := (fun r => D K (eB r))) (ea_cons (pK s0 rfl) (ea_cons ev_int ea_nil)) O.k1))) (fun _ => et_not (et_B (ev_call (x := ((sp.2.map fun n => n.1), (0 : Int))) (m := sm_law_words) (er := (fun r => D K (eB r))) (ea_cons (pR s0 rfl) (ea_cons ev_int ea_nil)) O.r1))))) (fun hb _ _ _ => by cases hb) (fun _ _ _ s1 => ?_)
  refine st_nil (nx_go ?_)
  refine st_if s1 (et_or2 (et_test (ev_neL (e := eS) (xs := y.kinds) (ys := sp.1) (EV.lv (EN.ev (en_listT (pK s1 rfl)))) (EV.lv (sk s1 rfl)))) (fun _ => et_test (ev_neL (e := eS) (xs := sp.2.map fun n => n.1) (ys := sp.2.map fun n => n.1) (EV.lv (EN.ev (en_listT (pR s1 rfl)))) (EV.lv (EN.ev (lcN s1 rfl (Nat.le_of_ble_eq_true rfl))))))) (fun hb _ _ _ => by rw [O.kk] at hb; simp at hb) (fun _ _ _ s2 => ?_)
  refine st_nil (nx_go ?_)
  have hall : ((sp.2.map fun _ => true).all id) = true := List.all_eq_true.mpr fun b hb => by obtain ⟨_, _, rfl⟩ := List.mem_map.mp hb; rfl
  refine st_if s2 (et_not (et_B (ev_all (bs := sp.2.map fun _ => true) (EV.lv (EN.ev (en_lc (e' := eB) (f := fun n : Norm => some (some true)) (vs := [4]) s2 (eso_list (e := eNorm) (EV.lv (sn s2 rfl))) (comp_map fun n _ => rfl) (fun _ n o hn ho _ _ _ _ t1 _ kk => by
      refine st_bind t1 fun _ hw t2 => ?_
      obtain rfl := Option.some.inj ho
      exact kk _ (hw _ (by decide)) et_yes (fun z hz => by cases hz; exact ev_call (x := (y, n)) (m := m_law_norm_told) (er := (fun r => D K (eB r))) (ea_cons (t2.var 0) (ea_cons (t2.var 4) ea_nil)) (O.nn n hn)))))))) ) (fun hb _ _ _ => by rw [hall] at hb; cases hb) (fun _ _ _ s3 => ?_)
  refine st_nil (nx_go ?_)
  have hlen : m_len y = some (y.kinds.length : Int) := if_pos O.ln
  refine st_set (R := D K (eL (eP2 eS (eT eS)) y.listed)) s3 (EN.ev (en_listO (enc := encB K) (mi := m_iter) (mm := m_len) (er := fun r => D K (eI r)) (x := y) (ds := y.listed.map (eP2 eS (eT eS))) (s3.var 0) rfl rfl hlen (fun G v h => Dg.int_inv h) (Int.natCast_nonneg _) (by exact_mod_cast O.ln))) (fun _ _ _ s4 => ?_)
  refine nx_go ?_
  refine st_ownT (K := K) (e := eP2 eS (eT eS)) (xs := ([] : List (Tx × List Tx))) s4 (en_lst (ds := (([] : (List (Tx × List Tx))).map (eP2 eS (eT eS)))) ea_nil) (fun p _ _ _ hp s5 => ?_)
  refine nx_go ?_
  refine st_for (fun (st : List (Tx × List Tx)) => [some (bkR K y), some (D K (eSpc sp)), some (D K (eL (eP2 eS (eT eS)) y.listed)), some (isV (.ref p)), none, none, none, none, none]) (fun (st : List (Tx × List Tx)) => [(p, Fz.ownL K (st.map (eP2 eS (eT eS))))]) s5 (es_list (e := eNorm) (sn s5 rfl)) (loop_of_fold O.due) (fun _ => trn_fold _ _ fun st n _ _ _ _ _ hn hc t1 _ hN => ?_) (fun _ _ _ _ hd s6 => ?_)
  · refine st_bind t1 fun _ _ t2 => ?_
    refine st_for (fun (st : List (Tx × List Tx)) => [some (bkR K y), some (D K (eSpc sp)), some (D K (eL (eP2 eS (eT eS)) y.listed)), some (isV (.ref p)), some (D K (eNorm n)), none, none, none, none]) (fun (st : List (Tx × List Tx)) => [(p, Fz.ownL K (st.map (eP2 eS (eT eS))))]) (t2.fle (.keep (.keep (.keep (.keep (.keep (.skip (.skip (.skip (.skip .nil)))))))))) (es_list (e := eT eS) (ev_ixTc (d := eL (eT eS) n.2.2) (t2.var 4) ev_int rfl)) (loop_of_fold hc) (fun _ => trn_fold _ _ fun st2 rw2 _ _ _ _ _ hr2 hc2 t3 _ hN2 => ?_) (fun _ _ _ _ hd t5 => ?_)
    · refine st_bind t3 fun _ _ t4 => ?_
      refine st_appendT (e := eP2 eS (eT eS)) t4 3 0 (ev_tup (ds := [eS n.1, eT eS rw2]) (ea_cons (ev_ixTc (d := eS n.1) (t4.var 4) ev_int rfl) (ea_cons (t4.var 5) ea_nil))) hc2 (fun _ _ t6 => ?_)
      exact hN2 _ _ _ (t6.fle (.keep (.keep (.keep (.keep (.keep (.skip (.skip (.skip (.skip .nil))))))))))
    · obtain rfl := (go_eq hd).symm
      exact hN _ _ _ (t5.fle (.keep (.keep (.keep (.keep (.skip (.skip (.skip (.skip (.skip .nil))))))))))
  obtain rfl := (go_eq hd).symm
  refine nx_go ?_
  refine st_if s6 (et_test (ev_neI (ev_lenLm (e := eP2 eS (eT eS)) (EV.lv (s6.var 2))) (ev_lenLm (e := eP2 eS (eT eS)) (s6.ownL 3 0)))) (fun hb _ _ _ => by simp at hb) (fun _ _ _ s7 => ?_)
  refine st_nil (nx_go ?_)
  obtain ⟨ns, hns, hlp⟩ := O.lp
  refine st_for (fun (_ : Unit) => [some (bkR K y), some (D K (eSpc sp)), some (D K (eL (eP2 eS (eT eS)) y.listed)), some (isV (.ref p)), none, none, none, none, none]) (fun (_ : Unit) => [(p, Fz.ownL K (y.listed.map (eP2 eS (eT eS))))]) s7 (es_range (ev_lenLm (e := eP2 eS (eT eS)) (s7.ownL 3 0)) hns) (loop_of_fold hlp) (fun _ => trn_fold _ _ fun _ kx _ _ _ _ _ hk hc t1 _ hN => ?_) (fun _ _ _ _ hd s8 => ?_)
  · refine st_bind t1 fun _ _ t2 => ?_
    obtain ⟨q, hq, hc⟩ := bnd' hc
    obtain ⟨b, hb0, hc⟩ := bnd' hc
    obtain ⟨rfl, _⟩ := if_some hc
    refine st_if t2 (et_or2 (et_not (et_B (ev_isi "tuple" (d := eP2 eS (eT eS) q) (b := "tuple") (r := true) (ev_ixL (e := eP2 eS (eT eS)) (EV.lv (t2.var 2)) (t2.var 6) hq)))) (fun _ => et_or2 (et_test (ev_neI (ev_lenTc (ds := [eS q.1, eT eS q.2]) (ev_ixL (e := eP2 eS (eT eS)) (EV.lv (t2.var 2)) (t2.var 6) hq)) ev_int)) (fun _ => et_not (et_B (ev_isi "str" (d := eS q.1) (b := "str") (r := true) (ev_ixTc (d := eS q.1) (ev_ixL (e := eP2 eS (eT eS)) (EV.lv (t2.var 2)) (t2.var 6) hq) ev_int rfl)))))) (fun hb _ _ _ => by cases hb) (fun _ _ _ t3 => ?_)
    refine st_nil (nx_go ?_)
    refine st_if t3 (et_or2 (et_not (et_B (ev_call (x := (q.2, (0 : Int))) (m := sm_law_words) (er := (fun r => D K (eB r))) (ea_cons (ev_ixTc (d := eT eS q.2) (ev_ixL (e := eP2 eS (eT eS)) (EV.lv (t3.var 2)) (t3.var 6) hq) ev_int rfl) (ea_cons ev_int ea_nil)) hb0))) (fun _ => et_test (ev_neD (e := eP2 eS (eT eS)) (a := q) (a' := q) (ev_ixL (e := eP2 eS (eT eS)) (EV.lv (t3.var 2)) (t3.var 6) hq) (ev_ixL (e := eP2 eS (eT eS)) (t3.ownL 3 0) (t3.var 6) hq)))) (fun hb _ _ _ => by simp at hb) (fun _ _ _ t4 => ?_)
    refine st_nil ?_
    exact hN _ _ _ (t4.fle (.keep (.keep (.keep (.keep (.skip (.skip (.skip (.skip (.skip .nil))))))))))
  obtain rfl := (go_eq hd).symm
  refine nx_go ?_
  obtain ⟨t, ht, hbt⟩ := O.tx
  have pT : ∀ {σ' : L2.St} {G' : GH} {H' : Hp} {Γ' : List (Option RP)} {Os' : List (Addr × OP)} {Ts' : List (V × RP)}, SA [] G H Γ' Os' Ts' σ' G' H' → Γ'[0]? = some (some (bkR K y)) → EV (tProp (He.ga K "Book") (sp_Book_text K) [] E0 (tVar 0)) σ' G' H' (D K (eS t)) := fun s e => ev_propV (enc := encB K) (mm := m_text) (er := fun r => D K (eS r)) (x := y) (s.var 0 e) rfl ht
  refine st_if s8 (et_or2 (et_not (et_B (ev_isi "str" (d := eS t) (b := "str") (r := true) (pT s8 rfl)))) (fun _ => et_or2 (et_test (ev_neS (s := t) (t := t) (pT s8 rfl) (ev_call (x := sp) (m := sm_law_book_text) (er := (fun r => D K (eS r))) (ea_cons (s8.var 1) ea_nil) hbt))) (fun _ => et_test (ev_neI (ev_lenO (enc := encB K) (mm := m_len) (er := fun r => D K (eI r)) (x := y) (n := (y.kinds.length : Int)) (s8.var 0) rfl hlen (fun G v h => Dg.int_inv h) (Int.natCast_nonneg _) (by have h9 : y.kinds.length ≤ sizeLine := O.ln; rw [sizeLine_eq] at h9; omega)) (ev_lenLm (e := eS) (EV.lv (sk s8 rfl))))))) (fun hb _ _ _ => by rw [O.kk] at hb; simp at hb) (fun _ _ _ s9 => ?_)
  refine st_nil (nx_go ?_)
  obtain ⟨tr, htr, hrp⟩ := O.rp
  obtain ⟨a, ha, hrp⟩ := bnd' hrp
  obtain ⟨t1, ht1, hrp⟩ := bnd' hrp
  obtain ⟨t2, ht2, hrp⟩ := bnd' hrp
  obtain ⟨b, hb2, hrp⟩ := bnd' hrp
  obtain ⟨t3, ht3, hrp⟩ := bnd' hrp
  refine st_if s9 (et_test (ev_neS (s := tr) (t := tr) (ev_reprO (enc := encB K) (mm := m_repr) (er := fun r => D K (eS r)) (x := y) (z := tr) (s9.var 0) rfl htr (fun G v h => h)) (ev_catS (ev_catS (ev_catS (ev_catS (ev_strC [66, 111, 111, 107, 40]) (ev_strI (ev_lenLm (e := eS) (EV.lv (sk s9 rfl))) ha) ht1) (ev_strC [32, 107, 105, 110, 100, 115, 44, 32]) ht2) (ev_strI (ev_lenLm (e := eNorm) (EV.lv (sn s9 rfl))) hb2) ht3) (ev_strC [32, 114, 117, 108, 101, 115, 41]) hrp))) (fun hb _ _ _ => by simp at hb) (fun _ _ _ s10 => ?_)
  refine st_nil (nx_go ?_)
  obtain ⟨w1, w2, hw1, hw2, hws⟩ := O.ws
  refine st_set (R := D K (eL eS w2)) s10 (ev_catL (e := eS) (EV.lv (ev_catL (e := eS) (EV.lv (sk s10 rfl)) (EV.lv (EN.ev (lcN s10 rfl (Nat.le_of_ble_eq_true rfl)))) hw1)) (EV.lv (ev_lst (ds := [eS cZz, eS [], eS cEnd]) (ea_cons (ev_strC cZz) (ea_cons (ev_strC []) (ea_cons (ev_strC cEnd) ea_nil))))) hw2) (fun _ _ _ s11 => ?_)
  refine nx_go ?_
  have hall2 : ((w2.map fun w => decide ((look y.known w).isSome = mem w sp.1)).all id) = true := List.all_eq_true.mpr fun b hb => by
    obtain ⟨w0, hw0, rfl⟩ := List.mem_map.mp hb
    exact decide_eq_true (hws w0 hw0)
  refine st_ret (R := D K (eB ((w2.map fun w => decide ((look y.known w).isSome = mem w sp.1)).all id))) s11 (ev_all (bs := w2.map fun w => decide ((look y.known w).isSome = mem w sp.1)) (EV.lv (EN.ev (en_lc (e' := eB) (f := fun w0 : Tx => some (some (decide ((look y.known w0).isSome = mem w0 sp.1)))) (vs := [8]) s11 (eso_list (e := eS) (EV.lv (s11.var 7))) (comp_map fun n _ => rfl) (fun _ w0 o _ ho _ _ _ _ u1 _ kk => by
      refine st_bind u1 fun _ hw u2 => ?_
      obtain rfl := Option.some.inj ho
      exact kk _ (hw _ (by decide)) et_yes (fun z hz => by cases hz; exact ev_eqB (ev_inO (enc := fun x : Bk × Tx => [bkR K x.1, D K (eS x.2)]) (mm := m_contains) (er := fun r => D K (eB r)) (x := (y, w0)) (R1 := D K (eS w0)) (b := (look y.known w0).isSome) (u2.var 8) (u2.var 0) rfl rfl (fun G v h => Dg.bool_inv h)) (ev_inL (e := eS) (u2.var 8) (EV.lv (sk u2 rfl))))))))) fun _ _ _ s12 rv => ?_
  rw [hall2] at rv
  exact kret _ _ _ _ _ _ _ s12 rv
end
end K0
set_option Elab.async false
set_option linter.all false
set_option maxRecDepth 100000
set_option maxHeartbeats 8000000
namespace K0
open PySem PySem.Spec PyProof.Rows L2 Fz
abbrev s_law : Stmt := topS 51
end K0
set_option Elab.async false
set_option linter.all false
set_option maxRecDepth 100000
set_option maxHeartbeats 2000000
/-! the lists that were handed in are changed -/
namespace K0
open PySem PySem.Spec PyProof.Rows L2 Fz
section
variable (S : Addr → Prop) (Hf : Hp)
def Qc (a : Addr) : Prop := S a ∧ ∃ us, Hf a = some (.lst us) ∧ us ≠ [] ∧ us.length ≤ 100 ∧ ∀ u ∈ us, ∃ s, u = .str s
def Tc (t : Addr) : Prop := ∃ ts, Hf t = some (.tup ts) ∧ ∀ z ∈ ts, ∃ s, z = .str s
def Rc (a : Addr) : Prop := S a ∧ ∃ us, Hf a = some (.lst us) ∧ us.length ≤ 2000 ∧ ∀ u ∈ us, ∃ t, u = .ref t ∧ (Tc Hf t ∨ Qc S Hf t)
def Gc (a : Addr) : Prop := ∃ us, Hf a = some (.lst us) ∧ us.length ≤ 100 ∧ ∀ u ∈ us, ∃ t x y r, u = .ref t ∧ Hf t = some (.tup [x, y, .ref r]) ∧ Rc S Hf r
structure Mu (ag : Addr) (n k : Nat) (H : Hp) : Prop where
  keep : ∀ a o, Hf a = some o → ¬ S a → H a = some o
  q : ∀ a, Qc S Hf a → ∃ us, H a = some (.lst us) ∧ us.length ≤ 100 + k
  r : ∀ a, Rc S Hf a → ∃ us ws, Hf a = some (.lst us) ∧ H a = some (.lst (us ++ ws)) ∧ ws.length ≤ n ∧ ∀ w ∈ ws, ∃ t ts, w = .ref t ∧ H t = some (.tup ts)
  g : ∃ us, Hf ag = some (.lst us) ∧ H ag = some (.lst us)
end
section
variable {S : Addr → Prop} {Hf H : Hp} {ag a b t : Addr} {n k : Nat} {xs us : List V} {y : V}
theorem Qc.neR (h : Qc S Hf a) (h' : Rc S Hf b) : a ≠ b := by
  rintro rfl
  obtain ⟨_, us, e, ne, _, hs⟩ := h
  obtain ⟨_, us', e', _, hr⟩ := h'
  rw [e] at e'; cases e'
  cases us with
  | nil => exact ne rfl
  | cons u r =>
    obtain ⟨s, rfl⟩ := hs u (List.mem_cons_self ..)
    obtain ⟨t, h, _⟩ := hr _ (List.mem_cons_self ..)
    cases h
theorem Qc.neG (h : Qc S Hf a) (h' : Gc S Hf b) : b ≠ a := by
  rintro rfl
  obtain ⟨_, us, e, ne, _, hs⟩ := h
  obtain ⟨us', e', _, hr⟩ := h'
  rw [e] at e'; cases e'
  cases us with
  | nil => exact ne rfl
  | cons u r =>
    obtain ⟨s, rfl⟩ := hs u (List.mem_cons_self ..)
    obtain ⟨t, _, _, _, h, _⟩ := hr _ (List.mem_cons_self ..)
    cases h
theorem Gc.neR (h : Gc S Hf a) (h' : Rc S Hf b) (hn : Hf a = some (.lst us)) (ne : us ≠ []) : a ≠ b := by
  rintro rfl
  obtain ⟨us1, e, _, hs⟩ := h
  obtain ⟨_, us', e', _, hr⟩ := h'
  rw [e] at e' hn; cases e'; cases hn
  cases us with
  | nil => exact ne rfl
  | cons u r =>
    obtain ⟨t, x, y, r', rfl, ht, _⟩ := hs u (List.mem_cons_self ..)
    obtain ⟨t', h, h2⟩ := hr _ (List.mem_cons_self ..)
    cases h
    rcases h2 with ⟨ts, hts, hz⟩ | ⟨_, us2, hq, _⟩
    · rw [ht] at hts; cases hts
      obtain ⟨s, hs⟩ := hz (.ref r') (by simp)
      cases hs
    · rw [ht] at hq; cases hq
theorem Mu.start (hg : Gc S Hf ag) : Mu S Hf ag 0 0 Hf :=
  ⟨fun _ _ e _ => e, fun a ⟨_, us, e, _, z, _⟩ => ⟨us, e, z⟩, fun a ⟨_, us, e, z, _⟩ => ⟨us, [], e, by rw [List.append_nil]; exact e, Nat.le_refl _, fun _ h => nomatch h⟩, let ⟨us, e, _⟩ := hg; ⟨us, e, e⟩⟩
theorem Mu.mono_k {k' : Nat} (m : Mu S Hf ag n k H) (h : k ≤ k') : Mu S Hf ag n k' H := ⟨m.keep, fun a hq => let ⟨us, e, z⟩ := m.q a hq; ⟨us, e, by omega⟩, m.r, m.g⟩
theorem Mu.new {o : HO} (m : Mu S Hf ag n k H) (h : H t = none) : Mu S Hf ag n k (upd H t o) := by
  have ne : ∀ {a o'}, H a = some o' → a ≠ t := fun e z => by rw [z, h] at e; cases e
  refine ⟨fun a o' e ns => ?_, fun a hq => ?_, fun a hr => ?_, ?_⟩
  · have := m.keep a o' e ns
    rw [upd_ne (ne this)]; exact this
  · obtain ⟨us, e, z⟩ := m.q a hq
    exact ⟨us, by rw [upd_ne (ne e)]; exact e, z⟩
  · obtain ⟨us, ws, e1, e2, z, hw⟩ := m.r a hr
    refine ⟨us, ws, e1, by rw [upd_ne (ne e2)]; exact e2, z, fun w hw' => ?_⟩
    obtain ⟨t', ts, ew, et⟩ := hw w hw'
    exact ⟨t', ts, ew, by rw [upd_ne (ne et)]; exact et⟩
  · obtain ⟨us, e1, e2⟩ := m.g
    exact ⟨us, e1, by rw [upd_ne (ne e2)]; exact e2⟩
theorem Mu.putQ (m : Mu S Hf ag n k H) (hg : Gc S Hf ag) (hq : Qc S Hf a) (e : H a = some (.lst us)) (hl : us.length ≤ 100 + k) : Mu S Hf ag n (k + 1) (upd H a (.lst (us ++ [y]))) := by
  refine ⟨fun b o eb ns => ?_, fun b hb => ?_, fun b hb => ?_, ?_⟩
  · have : b ≠ a := fun z => ns (z ▸ hq.1)
    rw [upd_ne this]; exact m.keep b o eb ns
  · by_cases z : b = a
    · subst z
      exact ⟨_, upd_same, by rw [List.length_append]; show us.length + 1 ≤ _; omega⟩
    · obtain ⟨us', e', z'⟩ := m.q b hb
      exact ⟨us', by rw [upd_ne z]; exact e', by omega⟩
  · obtain ⟨us', ws, e1, e2, z, hw⟩ := m.r b hb
    refine ⟨us', ws, e1, by rw [upd_ne (Ne.symm (hq.neR hb))]; exact e2, z, fun w hw' => ?_⟩
    obtain ⟨t', ts, ew, et⟩ := hw w hw'
    have : t' ≠ a := fun z => by rw [z, e] at et; cases et
    exact ⟨t', ts, ew, by rw [upd_ne this]; exact et⟩
  · obtain ⟨us', e1, e2⟩ := m.g
    exact ⟨us', e1, by rw [upd_ne (hq.neG hg)]; exact e2⟩
theorem Mu.putR {ts : List V} (m : Mu S Hf ag n k H) (hne : ag ≠ a) (hr : Rc S Hf a) (e : H a = some (.lst xs)) (ht : H t = some (.tup ts)) : Mu S Hf ag (n + 1) k (upd H a (.lst (xs ++ [.ref t]))) := by
  have tn : ∀ {t' ts'}, H t' = some (.tup ts') → t' ≠ a := fun et z => by rw [z, e] at et; cases et
  refine ⟨fun b o eb ns => ?_, fun b hb => ?_, fun b hb => ?_, ?_⟩
  · have : b ≠ a := fun z => ns (z ▸ hr.1)
    rw [upd_ne this]; exact m.keep b o eb ns
  · obtain ⟨us', e', z'⟩ := m.q b hb
    exact ⟨us', by rw [upd_ne (hb.neR hr)]; exact e', z'⟩
  · obtain ⟨us', ws, e1, e2, z, hw⟩ := m.r b hb
    by_cases q : b = a
    · subst q
      rw [e] at e2; cases e2
      refine ⟨us', ws ++ [.ref t], e1, by rw [upd_same, List.append_assoc], by rw [List.length_append]; show ws.length + 1 ≤ _; omega, fun w hw' => ?_⟩
      rcases List.mem_append.mp hw' with h1 | h1
      · obtain ⟨t', ts', ew, et⟩ := hw w h1
        exact ⟨t', ts', ew, by rw [upd_ne (tn et)]; exact et⟩
      · rw [List.mem_singleton.mp h1]
        exact ⟨t, ts, rfl, by rw [upd_ne (tn ht)]; exact ht⟩
    · refine ⟨us', ws, e1, by rw [upd_ne q]; exact e2, by omega, fun w hw' => ?_⟩
      obtain ⟨t', ts', ew, et⟩ := hw w hw'
      exact ⟨t', ts', ew, by rw [upd_ne (tn et)]; exact et⟩
  · obtain ⟨us', e1, e2⟩ := m.g
    exact ⟨us', e1, by rw [upd_ne hne]; exact e2⟩
end
abbrev tInner (K : PySem.W.Frag) : TS := tFor (iList K (tOp (rIxT K) (tVar 6) (tC (.int 2)))) (gName 8) (tIfS (tB (tCB (rIsi K) (tCons (tVar 8) (tCons (tC (.ty "list")) tNil)))) (tDrop (tBM K "list" rAppend (tVar 8) (tCons (tC (.str "zz")) tNil))) tNext)
abbrev tPutT (K : PySem.W.Frag) : TS := tDrop (tBM K "list" rAppend (tOp (rIxT K) (tVar 6) (tC (.int 2))) (tCons (tTup (tCons (tC (.str "zz")) (tCons (tC (.str "zz")) tNil))) tNil))
/-- what the loops leave as it is -/
def Same (σ σ' : L2.St) : Prop := σ'.length = σ.length ∧ ∀ j, j ≠ 6 → j ≠ 8 → σ'[j]? = σ[j]?
theorem Same.set {σ σ' : L2.St} (h : Same σ σ') (i : Nat) (v : Option V) (hi : i = 6 ∨ i = 8) : Same σ (σ'.set i v) := ⟨by rw [List.length_set]; exact h.1, fun j h6 h8 => by
  rw [List.getElem?_set_ne (by rcases hi with rfl | rfl <;> omega)]; exact h.2 j h6 h8⟩
section
variable {S : Addr → Prop} {Hf : Hp} {ag : Addr} {K : PySem.W.Frag} {De : Ends} {σ0 : L2.St}
theorem inner_ok {σ : L2.St} {H : Hp} {t r : Addr} {x y : V} {n k : Nat} (hS : ∀ a, S a → ∃ us, Hf a = some (.lst us)) (hg : Gc S Hf ag) (m : Mu S Hf ag n k H) (sm : Same σ0 σ) (hl : 18 = σ.length) (h6 : σ[6]? = some (some (.ref t))) (ht : Hf t = some (.tup [x, y, .ref r])) (hr : Rc S Hf r) (hn : n ≤ 100) (hk : k ≤ 1000000)
    (done : ∀ k' σ' H', k' ≤ k + 2100 → Mu S Hf ag n k' H' → Same σ0 σ' → σ'[6]? = some (some (.ref t)) → De.nx σ' H') : tInner K De σ H := by
  have nT : ∀ {t ts}, Hf t = some (.tup ts) → ¬ S t := fun e s => by
    obtain ⟨us, e'⟩ := hS _ s
    rw [e] at e'; cases e'
  have nt := nT ht
  have tk : ∀ {n k H}, Mu S Hf ag n k H → H t = some (.tup [x, y, .ref r]) := fun m => m.keep t _ ht nt
  obtain ⟨us, ws, e1, e2, hz, hw⟩ := m.r r hr
  have hus : us.length ≤ 2000 := by
    obtain ⟨_, us', e', z, _⟩ := hr
    rw [e1] at e'; cases e'; exact z
  have hL : (us ++ ws).length ≤ 2100 := by rw [List.length_append]; omega
  refine ⟨_, h6, t, _, 2, _, rfl, rfl, SqT.of (tk m), rfl, r, rfl, ⟨_, SqL.of e2⟩, ?_⟩
  have el : ∀ u ∈ us ++ ws, ∃ t', u = .ref t' ∧ ((∃ ts, H t' = some (.tup ts)) ∨ Qc S Hf t') := fun u hu => by
    rcases List.mem_append.mp hu with h1 | h1
    · obtain ⟨_, us', e', _, hr'⟩ := hr
      rw [e1] at e'; cases e'
      obtain ⟨t', ew, h⟩ := hr' u h1
      rcases h with ⟨ts, hts, hst⟩ | h
      · refine ⟨t', ew, .inl ⟨ts, ?_⟩⟩
        refine m.keep t' _ hts fun hs => ?_
        exact nT hts hs
      · exact ⟨t', ew, .inr h⟩
    · obtain ⟨t', ts, ew, et⟩ := hw u h1
      exact ⟨t', ew, .inl ⟨ts, et⟩⟩
  refine ⟨fun i mm σ' H' => mm = (us ++ ws).length - i ∧ i ≤ (us ++ ws).length ∧ Mu S Hf ag n (k + i) H' ∧ Same σ0 σ' ∧ σ'[6]? = some (some (.ref t)) ∧ H' r = some (.lst (us ++ ws)) ∧ ∀ t' ts, H t' = some (.tup ts) → H' t' = some (.tup ts), ⟨_, rfl, Nat.zero_le _, m, sm, h6, e2, fun _ _ h => h⟩, ?_⟩
  rintro i mm σ' H' ⟨rfl, hi, m', sm', h6', er, hT⟩
  by_cases hlt : i < (us ++ ws).length
  · have ex : (us ++ ws)[i]? = some (us ++ ws)[i] := List.getElem?_eq_getElem hlt
    refine .inr ⟨⟨_, _, SqL.of er, ex⟩, fun σ'' H'' => Mu S Hf ag n (k + (i + 1)) H'' ∧ Same σ0 σ'' ∧ σ''[6]? = some (some (.ref t)) ∧ H'' r = some (.lst (us ++ ws)) ∧ ∀ t' ts, H t' = some (.tup ts) → H'' t' = some (.tup ts), fun σ'' H'' ⟨a1, a2, a3, a4, a5⟩ => ⟨_, by omega, rfl, by omega, a1, a2, a3, a4, a5⟩, fun v H'' hy => ?_⟩
    obtain ⟨rfl, hv⟩ := hy
    have hv := hv _ (SqL.of er)
    rw [ex] at hv; cases hv
    obtain ⟨t', eu, h⟩ := el _ (List.mem_of_getElem? ex)
    have l8 : 8 < σ'.length := by rw [sm'.1, ← sm.1, ← hl]; decide
    refine ⟨_, List.getElem?_set_self l8, ?_⟩
    have s8 := sm'.set 8 (some (us ++ ws)[i]) (.inr rfl)
    have h68 : (σ'.set 8 (some (us ++ ws)[i]))[6]? = some (some (.ref t)) := by rw [List.getElem?_set_ne (by decide)]; exact h6'
    rcases h with ⟨ts, hts⟩ | hq
    · refine ⟨_, .ty "list", .type "tuple", .type "list", false, rfl, .ty _, by rw [eu]; exact .base (.tup (hT _ _ hts)), kit_ty (by decide +kernel), false, rfl, ?_⟩
      show _ ∧ _
      exact ⟨m'.mono_k (by omega), s8, h68, er, hT⟩
    · obtain ⟨qs, hqs, hql⟩ := m'.q t' hq
      refine ⟨_, .ty "list", .type "list", .type "list", true, rfl, .ty _, by rw [eu]; exact .base (.lst hqs), kit_ty (by decide +kernel), true, rfl, ?_⟩
      have hne : t' ≠ r := hq.neR hr
      refine ⟨_, List.getElem?_set_self l8, by rw [eu]; exact .inl ⟨rfl, qs, SqL.of hqs⟩, t', qs, _, eu, rfl, hqs, by rw [sizeLine_eq]; omega, ?_⟩
      refine ⟨m'.putQ hg hq hqs hql, s8, h68, by rw [upd_ne (Ne.symm hne)]; exact er, fun a ts ha => ?_⟩
      have := hT a ts ha
      have na : a ≠ t' := fun z => by rw [z, hqs] at this; cases this
      rw [upd_ne na]; exact this
  · have e0 : i = (us ++ ws).length := by omega
    subst e0
    exact .inl ⟨⟨_, SqL.of er, Nat.le_refl _⟩, done _ σ' H' (by omega) m' sm' h6'⟩
theorem mut_ok {σ : L2.St} {an : Addr} {C : TS} (hS : ∀ a, S a → ∃ us, Hf a = some (.lst us)) (hg : Gc S Hf ag) (hn : Qc S Hf an) (hl : 18 = σ.length) (h5 : σ[5]? = some (some (.ref ag))) (h10 : σ[10]? = some (some (.ref an)))
    (done : ∀ σ' H', (∀ a o, Hf a = some o → ¬ S a → H' a = some o) → Same σ σ' → C De σ' H') :
    tSeq (tDrop (tBM K "list" rAppend (tVar 10) (tCons (tC (.str "zz")) tNil))) (tSeq (tFor (iList K (tVar 5)) (gName 6) (tSeq (tInner K) (tPutT K))) C) De σ Hf := by
  have nT : ∀ {t ts}, Hf t = some (.tup ts) → ¬ S t := fun e s => by
    obtain ⟨us, e'⟩ := hS _ s
    rw [e] at e'; cases e'
  have m0 : Mu S Hf ag 0 0 Hf := Mu.start hg
  obtain ⟨qs, hqs, hql⟩ := m0.q an hn
  refine ⟨_, h10, .inl ⟨rfl, qs, SqL.of hqs⟩, an, qs, _, rfl, rfl, hqs, by rw [sizeLine_eq]; omega, ?_⟩
  have m1 := m0.putQ (y := .str "zz") hg hn hqs hql
  obtain ⟨us, hus, hz, hel⟩ := id hg
  obtain ⟨us', e1, e2⟩ := m1.g
  rw [hus] at e1; cases e1
  refine ⟨_, h5, ag, rfl, ⟨_, SqL.of e2⟩, ?_⟩
  refine ⟨fun i mm σ' H' => mm = us.length - i ∧ i ≤ us.length ∧ Mu S Hf ag i (1 + i * 2100) H' ∧ Same σ σ', ⟨_, rfl, Nat.zero_le _, m1, rfl, fun _ _ _ => rfl⟩, ?_⟩
  rintro i mm σ' H' ⟨rfl, hi, m', sm'⟩
  obtain ⟨us', e1, e2⟩ := m'.g
  rw [hus] at e1; cases e1
  by_cases hlt : i < us.length
  · have ex : us[i]? = some us[i] := List.getElem?_eq_getElem hlt
    refine .inr ⟨⟨_, _, SqL.of e2, ex⟩, fun σ'' H'' => Mu S Hf ag (i + 1) (1 + (i + 1) * 2100) H'' ∧ Same σ σ'', fun σ'' H'' ⟨a1, a2⟩ => ⟨_, by omega, rfl, by omega, a1, a2⟩, fun v H'' hy => ?_⟩
    obtain ⟨rfl, hv⟩ := hy
    have hv := hv _ (SqL.of e2)
    rw [ex] at hv; cases hv
    obtain ⟨t, x, y, r, eu, ht, hr⟩ := hel _ (List.mem_of_getElem? ex)
    have l6 : 6 < σ'.length := by rw [sm'.1, ← hl]; decide
    have h6 : (σ'.set 6 (some us[i]))[6]? = some (some (.ref t)) := by rw [List.getElem?_set_self l6, eu]
    refine inner_ok hS hg m' (sm'.set 6 _ (.inl rfl)) (by rw [List.length_set, sm'.1]; exact hl) h6 ht hr (by omega) (by omega) fun k' σ2 H2 hk m2 sm2 h62 => ?_
    have et : H2 t = some (.tup [x, y, .ref r]) := m2.keep t _ ht (nT ht)
    obtain ⟨rs, ws, r1, r2, rz, _⟩ := m2.r r hr
    have hrl : rs.length ≤ 2000 := by
      obtain ⟨_, us', e', z, _⟩ := hr
      rw [r1] at e'; cases e'; exact z
    refine ⟨_, h62, t, _, 2, _, rfl, rfl, SqT.of et, rfl, .inl ⟨rfl, _, SqL.of r2⟩, ?_⟩
    refine ⟨by rw [sizeLine_eq]; decide, fun p hp => ?_⟩
    have m3 := m2.new (o := .tup [.str "zz", .str "zz"]) hp
    have np : r ≠ p := fun z => by rw [z, hp] at r2; cases r2
    refine ⟨r, rs ++ ws, _, rfl, rfl, by rw [upd_ne np]; exact r2, by rw [List.length_append, sizeLine_eq]; omega, ?_⟩
    refine ⟨(m3.putR (hg.neR hr hus (fun z => by rw [z] at hlt; cases hlt)) hr (by rw [upd_ne np]; exact r2) upd_same).mono_k (by omega), sm2⟩
  · have e0 : i = us.length := by omega
    subst e0
    exact .inl ⟨⟨_, SqL.of e2, Nat.le_refl _⟩, done σ' H' m'.keep sm'⟩
end
end K0
set_option Elab.async false
set_option linter.all false
set_option maxRecDepth 100000
set_option maxHeartbeats 2000000
/-! what stays known when some lists are forgotten -/
namespace K0
open PySem PySem.Spec PyProof.Rows L2 Fz
section
variable {K : PySem.W.Frag} {G G' : GH} {N : Addr → Prop} {α β γ : Type} {e : α → PyData} {f : β → PyData} {g : γ → PyData}
/-- what is no list stays known -/
def Kept (G G' : GH) : Prop := ∀ a φ, G a = some φ → (∀ us, ¬ φ (.lst us)) → G' a = some φ
theorem Kept.t (k : Kept G G') {a : Addr} {xs : List V} (h : FzT K G a xs) : FzT K G' a xs := ⟨h.1, k a _ h.2 fun us z => by cases z⟩
def Fg (K : PySem.W.Frag) (G G' : GH) (e : α → PyData) (x : α) : Prop := ∀ v, Dg K G v (e x) → Dg K G' v (e x)
theorem fg_all {e : α → PyData} : ∀ {xs : List α} {us : List V}, (∀ x ∈ xs, Fg K G G' e x) → DgAll K G us (xs.map e) → DgAll K G' us (xs.map e)
  | [], _, _, h => by cases h; exact .nil
  | x :: xs, _, hx, .cons h r => .cons (hx x (List.mem_cons_self ..) _ h) (fg_all (fun y hy => hx y (List.mem_cons_of_mem _ hy)) r)
theorem fgS (x : Tx) : Fg K G G' eS x := fun v h => by
  rw [Dg.str_inv h]; exact .str _ (Dg.str_len h)
theorem fgI (x : Int) : Fg K G G' eI x := fun v h => by rw [Dg.int_inv h]; exact .int _
theorem fgB (x : Bool) : Fg K G G' eB x := fun v h => by rw [Dg.bool_inv h]; exact .bl _
theorem fgT (k : Kept G G') {xs : List α} (h : ∀ x, Fg K G G' e x) : Fg K G G' (eT e) xs := fun v hv => by
  obtain ⟨a, us, rfl, hf, hd⟩ := Dg.tuple_inv hv
  exact .tup (k.t hf) (fg_all (fun x _ => h x) hd)
theorem fgP2 (k : Kept G G') {x : α × β} (h1 : ∀ x, Fg K G G' e x) (h2 : ∀ x, Fg K G G' f x) : Fg K G G' (eP2 e f) x := fun v hv => by
  obtain ⟨a, us, rfl, hf, hd⟩ := Dg.tuple_inv hv
  refine .tup (k.t hf) ?_
  cases hd with
  | cons a1 r => cases r with
    | cons a2 r => cases r; exact .cons (h1 _ _ a1) (.cons (h2 _ _ a2) .nil)
theorem fgP3 (k : Kept G G') {x : α × β × γ} (h1 : ∀ x, Fg K G G' e x) (h2 : ∀ x, Fg K G G' f x) (h3 : ∀ x, Fg K G G' g x) : Fg K G G' (eP3 e f g) x := fun v hv => by
  obtain ⟨a, us, rfl, hf, hd⟩ := Dg.tuple_inv hv
  refine .tup (k.t hf) ?_
  cases hd with
  | cons a1 r => cases r with
    | cons a2 r => cases r with
      | cons a3 r => cases r; exact .cons (h1 _ _ a1) (.cons (h2 _ _ a2) (.cons (h3 _ _ a3) .nil))
theorem dva_imp {κ κ' : Type} {fk : κ → κ'} {us : List (κ' × V)} {kvs : List (κ × RP)} (h : DvA K G fk us kvs) (hi : ∀ p ∈ kvs, ∀ v, p.2.r G v → p.2.r G' v) : DvA K G' fk us kvs := by
  induction h with
  | nil => exact .nil
  | @cons k v d us kvs hd _ ih => exact .cons (hi (k, d) (List.mem_cons_self ..) v hd) (ih fun p hp => hi p (List.mem_cons_of_mem _ hp))
theorem fgD {κ κ' : Type} {mk : List (κ' × V) → HO} {fk : κ → κ'} {kvs : List (κ × RP)} (k : Kept G G') (hm : ∀ us vs, mk us ≠ .lst vs) (hi : ∀ p ∈ kvs, ∀ v, p.2.r G v → p.2.r G' v) {v : V} (h : (Fz.fzD K mk fk kvs).r G v) : (Fz.fzD K mk fk kvs).r G' v := by
  obtain ⟨p, us, rfl, z, hp, hd⟩ := h
  exact ⟨p, us, rfl, z, k p _ hp fun vs q => hm us vs q.symm, dva_imp hd hi⟩
theorem fs_imp {fs : List (Str × V)} {rs : List (Str × RP)} (h : FsR G fs rs) (hi : ∀ p ∈ rs, ∀ v, p.2.r G v → p.2.r G' v) : FsR G' fs rs := by
  induction h with
  | nil => exact .nil
  | @cons f v R fs rs hd _ ih => exact .cons (hi (f, R) (List.mem_cons_self ..) v hd) (ih fun p hp => hi p (List.mem_cons_of_mem _ hp))
theorem bk_fg {y : Bk} (k : Kept G G') (hN : ∀ l φ, N l → G l = some φ → G' l = some φ) {v : V} (h : (bkRN K N y).r G v) : (bkRN K N y).r G' v := by
  obtain ⟨x, dx, a, b, rfl, hx, ha, hb⟩ := h
  refine ⟨x, dx, a, b, rfl, k x _ hx (fun us ⟨t, _, z⟩ => by cases z), fs_imp ha fun p hp v hv => ?_, fs_imp hb fun p hp v hv => ?_⟩
  · have hN3 : ∀ (kv : List (Tx × Int)), ∀ v, (Fz.fzD K HO.dK keyS (kv.map fun p => (p.1, D K (eI p.2)))).r G v → (Fz.fzD K HO.dK keyS (kv.map fun p => (p.1, D K (eI p.2)))).r G' v := fun kv v h => fgD k (fun us vs z => by cases z) (fun p hp v hv => by
      obtain ⟨q, _, rfl⟩ := List.mem_map.mp hp
      exact fgI _ v hv) h
    simp only [rs_BookA, List.mem_cons, List.not_mem_nil, or_false] at hp
    rcases hp with rfl | rfl | rfl | rfl | rfl | rfl | rfl
    · exact fgT k fgS v hv
    · exact fgT k (fun x => fgP3 k fgS fgI (fun z => fgT k fun w => fgT k fgS)) v hv
    · exact hN3 _ v hv
    · exact hN3 _ v hv
    · exact fgD k (fun us vs z => by cases z) (fun p hp v hv => by
        obtain ⟨q, _, rfl⟩ := List.mem_map.mp hp
        exact fgT k (fun w => fgT k fgS) v hv) hv
    · exact fgD k (fun us vs z => by cases z) (fun p hp v hv => by
        obtain ⟨q, _, rfl⟩ := List.mem_map.mp hp
        exact fgD k (fun us vs z => by cases z) (fun p hp v hv => by
          obtain ⟨q, _, rfl⟩ := List.mem_map.mp hp
          exact fgB _ v hv) hv) hv
    · obtain ⟨hd, l, rfl, hl⟩ := hv
      obtain ⟨l', xs, e, hf, hd⟩ := Dg.list_inv hd
      cases e
      exact ⟨.lst ⟨hf.1, hN _ _ hl hf.2⟩ (fg_all (fun x _ => fgP2 k fgS (fun z => fgT k fgS)) hd), _, rfl, hl⟩
  · simp only [rs_BookB, List.mem_cons, List.not_mem_nil, or_false] at hp
    rcases hp with rfl | rfl | rfl | rfl | rfl
    all_goals
      rw [Dg.none_inv hv]
      exact .non
end
/-! the lists that were handed in, by their kinds -/
def rowR (K : PySem.W.Frag) (N : Addr → Prop) (b : Bool) (row : List Tx) : RP := match b with
  | true => dfR K N (eL eS row)
  | false => D K (eT eS row)
abbrev Gn : Type := Tx × Int × Bool × List (List Tx)
abbrev rowsR (K : PySem.W.Frag) (N : Addr → Prop) (b : Bool) (rows : List (List Tx)) : RP := lstN N (rows.map (rowR K N b))
def normR (K : PySem.W.Frag) (N : Addr → Prop) (g : Gn) : RP := tupR K [D K (eS g.1), D K (eI g.2.1), rowsR K N g.2.2.1 g.2.2.2]
abbrev givenR (K : PySem.W.Frag) (N : Addr → Prop) (gs : List Gn) : RP := lstN N (gs.map (normR K N))
def GnOk (g : Gn) : Prop := g.2.2.2.length ≤ 2000 ∧ ∀ r ∈ g.2.2.2, r ≠ [] ∧ r.length ≤ 100
section
variable {K : PySem.W.Frag} {G0 G : GH} {He H0 H : Hp}
def Sm (He H0 H : Hp) (a : Addr) : Prop := He a = none ∧ H0 a ≠ none ∧ ∃ us, H a = some (.lst us)
theorem strs_of : ∀ {us : List V} {row : List Tx}, DgAll K G us (row.map eS) → ∀ u ∈ us, ∃ s, u = .str s
  | _, [], h, u, hu => by cases h; cases hu
  | _, _ :: _, .cons h r, u, hu => by
    rcases List.mem_cons.mp hu with rfl | h1
    · exact ⟨_, Dg.str_inv h⟩
    · exact strs_of r u h1
theorem rall_mem {e : α → RP} : ∀ {us : List V} {xs : List α}, RAll G us (xs.map e) → ∀ u ∈ us, ∃ x ∈ xs, (e x).r G u
  | _, [], h, u, hu => by cases h; cases hu
  | _, x :: _, .cons h r, u, hu => by
    rcases List.mem_cons.mp hu with rfl | h1
    · exact ⟨x, List.mem_cons_self .., h⟩
    · obtain ⟨y, hy, h2⟩ := rall_mem r u h1
      exact ⟨y, List.mem_cons_of_mem _ hy, h2⟩
theorem sm_at {a : Addr} {us : List V} (f0 : Fit G0 H0) (f : Fit G H) (s : Sub G0 G) (hn : He a = none) (h : G0 a = some (isO (.lst us))) : Sm He H0 H a ∧ H a = some (.lst us) :=
  ⟨⟨hn, by rw [f0.at' h]; exact (fun z => by cases z), us, f.at' (s _ _ h)⟩, f.at' (s _ _ h)⟩
theorem cls_strs {row : List Tx} {v : V} (f0 : Fit G0 H0) (f : Fit G H) (s : Sub G0 G) (hl : row ≠ []) (hz : row.length ≤ 100) (h : (dfR K (fun l => He l = none) (eL eS row)).r G0 v) : ∃ a, v = .ref a ∧ Qc (Sm He H0 H) H a := by
  obtain ⟨hd, l, rfl, hn⟩ := h
  obtain ⟨l', us, e, hf, ha⟩ := Dg.list_inv hd
  cases e
  obtain ⟨h1, h2⟩ := sm_at f0 f s hn hf.2
  have := ha.length
  rw [List.length_map] at this
  exact ⟨l, rfl, h1, us, h2, (fun z => hl (List.eq_nil_of_length_eq_zero (by rw [← this, z]; rfl))), by omega, strs_of ha⟩
theorem cls_row {row : List Tx} {b : Bool} {v : V} (f0 : Fit G0 H0) (f : Fit G H) (s : Sub G0 G) (hl : row ≠ []) (hz : row.length ≤ 100) (h : (rowR K (fun l => He l = none) b row).r G0 v) : ∃ t, v = .ref t ∧ (Tc H t ∨ Qc (Sm He H0 H) H t) := by
  cases b with
  | true =>
    obtain ⟨a, e, q⟩ := cls_strs f0 f s hl hz h
    exact ⟨a, e, .inr q⟩
  | false =>
    obtain ⟨a, us, rfl, hf, hd⟩ := Dg.tuple_inv h
    exact ⟨a, rfl, .inl ⟨us, f.at' (s _ _ hf.2), strs_of hd⟩⟩
theorem cls_rows {rows : List (List Tx)} {b : Bool} {v : V} (f0 : Fit G0 H0) (f : Fit G H) (s : Sub G0 G) (hz : rows.length ≤ 2000) (hr : ∀ r ∈ rows, r ≠ [] ∧ r.length ≤ 100) (h : (rowsR K (fun l => He l = none) b rows).r G0 v) : ∃ r, v = .ref r ∧ Rc (Sm He H0 H) H r := by
  obtain ⟨p, us, rfl, hn, hl, hp, ha⟩ := h
  obtain ⟨h1, h2⟩ := sm_at f0 f s hn hp
  have := ha.length
  rw [List.length_map] at this
  refine ⟨p, rfl, h1, us, h2, by omega, fun u hu => ?_⟩
  obtain ⟨row, hrow, hu⟩ := rall_mem ha u hu
  exact cls_row f0 f s (hr row hrow).1 (hr row hrow).2 hu
theorem cls_given {gs : List Gn} {v : V} (f0 : Fit G0 H0) (f : Fit G H) (s : Sub G0 G) (hz : gs.length ≤ 100) (hr : ∀ g ∈ gs, GnOk g) (h : (givenR K (fun l => He l = none) gs).r G0 v) : ∃ a, v = .ref a ∧ Gc (Sm He H0 H) H a := by
  obtain ⟨p, us, rfl, hn, hl, hp, ha⟩ := h
  obtain ⟨h1, h2⟩ := sm_at f0 f s hn hp
  have := ha.length
  rw [List.length_map] at this
  refine ⟨p, rfl, us, h2, by omega, fun u hu => ?_⟩
  obtain ⟨g, hg, t, ts, rfl, ht, hts⟩ := rall_mem ha u hu
  cases hts with
  | cons a1 r => cases r with
    | cons a2 r => cases r with
      | cons a3 r =>
        cases r
        obtain ⟨r, rfl, hrc⟩ := cls_rows f0 f s (hr g hg).1 (hr g hg).2 a3
        exact ⟨t, _, _, r, rfl, f.at' (s _ _ ht.2), hrc⟩
end
/-! forgetting -/
section
open Classical
noncomputable def forg (S : Addr → Prop) (G : GH) : GH := fun a => if S a then none else G a
variable {S : Addr → Prop} {G : GH} {H H' : Hp}
theorem forg_some {a : Addr} {φ : HO → Prop} (h : forg S G a = some φ) : ¬ S a ∧ G a = some φ := by
  unfold forg at h
  by_cases z : S a
  · rw [if_pos z] at h; cases h
  · rw [if_neg z] at h; exact ⟨z, h⟩
theorem forg_of {a : Addr} {φ : HO → Prop} (h : G a = some φ) (n : ¬ S a) : forg S G a = some φ := by
  unfold forg; rw [if_neg n]; exact h
theorem forg_fit (f : Fit G H) (k : ∀ a o, H a = some o → ¬ S a → H' a = some o) : Fit (forg S G) H' := fun a φ e => by
  obtain ⟨n, h⟩ := forg_some e
  obtain ⟨o, ho, hp, ht⟩ := f a φ h
  exact ⟨o, k a o ho n, hp, ht⟩
theorem forg_kept (f : Fit G H) (hS : ∀ a, S a → ∃ us, H a = some (.lst us)) : Kept G (forg S G) := fun a φ h hn => forg_of h fun s => by
  obtain ⟨us, e⟩ := hS a s
  obtain ⟨o, ho, hp, _⟩ := f a φ h
  rw [e] at ho; cases ho
  exact hn us hp
end
end K0
set_option Elab.async false
set_option linter.all false
set_option maxRecDepth 100000
set_option maxHeartbeats 8000000
namespace K0
open PySem PySem.Spec PyProof.Rows L2 Fz
abbrev N_law : List Str := ["script", "bag", "spec", "typed", "one", "given", "norm", "rows", "row", "kept", "names", "two", "three", "other", "far", "words", "lost", "word"]
theorem sc_law : FnScope N_law ["script"] (defScope s_law) := ⟨rfl, rfl, rfl, by decide +kernel, rfl, by decide +kernel, by decide +kernel⟩
theorem _root_.Fz.GokK.gok {P : Program} {w : World} {K : PySem.W.Frag} {mg : Str → Option Value} {base : Heap} {k : Nat} {g : Addr} {a b : Str} {sp : Sp} (h : GokK P w K mg base k g a b sp) : Gok P w K mg base k g [a, b] sp := let ⟨fd, b, _, F⟩ := h.ok; ⟨fd, b, F⟩
def spLaw (K : PySem.W.Frag) : Sp := fun vs H Q E => ∃ (G : GH) (a : Addr) (ns : List Int), vs = [.ref a] ∧ Fit G H ∧ (isScr K ns).r G (.ref a) ∧ ns.length ≤ 63 ∧ ∀ H', Q (.bl true) H'
inductive F2 {α β : Type} (r : α → β → Prop) : List α → List β → Prop
  | nil : F2 r [] []
  | cons {x : α} {y : β} {xs : List α} {ys : List β} : r x y → F2 r xs ys → F2 r (x :: xs) (y :: ys)
/-- the mathematics of the mirrors -/
def PermS (a b : Spc) : Prop := a.1 = b.1 ∧ F2 (fun x y : Norm => x.1 = y.1 ∧ x.2.1 = y.2.1 ∧ x.2.2.Perm y.2.2) a.2 b.2
def PermG (gs : List Gn) (ns : List Norm) : Prop := F2 (fun (x : Gn) (y : Norm) => x.1 = y.1 ∧ x.2.1 = y.2.1 ∧ x.2.2.2.Perm y.2.2) gs ns
def toL (g : Gn) : Tx × Int × List (Bool × List Tx) := (g.1, g.2.1, g.2.2.2.map fun r => (g.2.2.1, r))
def toN (g : Gn) : Norm := (g.1, g.2.1, g.2.2.2)
structure SpSz (sp : Spc) : Prop where
  k0 : sp.1 ≠ []
  k1 : sp.1.length ≤ 100
  n1 : sp.2.length ≤ 100
  r1 : ∀ n ∈ sp.2, n.2.2.length ≤ 2000 ∧ ∀ r ∈ n.2.2, r ≠ [] ∧ r.length ≤ 100
structure LawM (Ok1 Ok : Spc → Prop) (bk : Spc → Bk) : Prop where
  imp : ∀ {sp}, Ok1 sp → Ok sp
  bag : ∀ ns : List Int, ns.length ≤ 63 → m_law_bag ns = some ()
  wide : ∀ post, (∀ sp, Ok1 sp → post sp) → m_law_wide post
  sz : ∀ {sp}, Ok sp → SpSz sp
  shuf : ∀ (rows : List (List Tx)), rows.length ≤ 2000 → ∀ post, (∀ r', r'.Perm rows → post r') → m_law_shuffle rows post
  made : ∀ {sp tp}, Ok sp → PermS tp sp → ∃ t, m_law_book_text tp = some t ∧ m_Book (.inl t) = some (bk sp)
  of : ∀ {sp gs}, Ok sp → PermG gs sp.2 → m_of (sp.1, gs.map toL) = some (bk sp)
  told : ∀ {sp}, Ok sp → Told (bk sp) sp
  other : ∀ {sp}, Ok1 sp → ∀ post, (∀ s', Ok s' → m_eq (bk s', .inl (bk sp)) = some false → m_eq (bk sp, .inl (bk s')) = some false → post s') → m_law_other sp post
  lost : ∀ {sp}, Ok sp → ∃ w, Fm.catL sp.1 [cZz, [], [114, 117, 108, 101]] = some w ∧ ∀ x, mem x (sp.2.map fun n => n.1) = false → noRows (bk sp) x = true ∧ noWidth (bk sp) x = true
theorem wcomp_all {α β : Type} {f : α → W β} {r : α → β → Prop} : ∀ {xs : List α} {post : List β → Prop}, (∀ x ∈ xs, ∀ p, (∀ o, r x o → p o) → f x p) → (∀ ys, F2 r xs ys → post ys) → wcomp (fun x => wmap some (f x)) xs post
  | [], post, _, h => h [] .nil
  | x :: xs, post, hf, h => hf x (List.mem_cons_self ..) _ fun o ho => wcomp_all (fun y hy => hf y (List.mem_cons_of_mem _ hy)) fun ys hys => h (o :: ys) (.cons ho hys)
theorem forall₂_flip {α β : Type} {r : β → α → Prop} : ∀ {xs : List α} {ys : List β}, F2 (fun x y => r y x) xs ys → F2 r ys xs
  | _, _, .nil => .nil
  | _, _, .cons h t => .cons h (forall₂_flip t)
theorem wfor_all {α S : Type} {f : S → α → (S → Prop) → (S → Prop) → Prop} {I : List α → S → Prop} {kk : S → Prop} : ∀ {xs : List α} {s : S}, I xs s → (∀ x ys s k kb, I (x :: ys) s → (∀ s', I ys s' → k s') → f s x k kb) → (∀ s, I [] s → kk s) → wfor f s xs kk
  | [], s, h, _, hd => hd s h
  | x :: xs, s, h, hf, hd => hf x xs s _ _ h fun s' hs' => wfor_all hs' hf hd
/-- a slot whose value is known -/
theorem _root_.Fz.SA.pin {mx : List Addr} {G0 G : GH} {H0 H : Hp} {Γ : List (Option RP)} {Os : List (Addr × OP)} {Ts : List (V × RP)} {σ : L2.St} {v : V} {R : RP} (s : SA mx G0 H0 Γ Os Ts σ G H) (i : Nat) (hr : R.r G0 v) (e : Γ[i]? = some (some (isV v)) := by rfl) : EV (tVar i) σ G H R := fun G1 H1 g Q q => s.var i e G1 H1 g Q fun u G2 H2 g2 ru => by
  have eu : u = v := ru
  subst eu
  exact q u G2 H2 g2 (R.mono ((s.g.sub.trans g.sub).trans g2.sub) hr)
theorem emn_lst {α : Type} {K : PySem.W.Frag} {te : TE} {σ : L2.St} {G : GH} {H : Hp} {w : W α} {ds : α → List PyData} {N : Addr → Prop} (h : EMN K te σ G H w ds) (hN : ∀ G1 H1 l, Gr [] G H G1 H1 → H1 l = none → N l) : EM te σ G H w (fun a => lstN N ((ds a).map (D K))) := fun G1 H1 g post Q hp q => h G1 H1 g _ _ hp fun a p vs G2 H2 g2 hp2 n hn hh hz hr =>
  q a (.ref p) (updG G2 p (isO (.lst vs))) H2 (Gr.freeze g2 hn n hh rfl) hp2 ⟨p, vs, rfl, hN G1 H1 p g hn, hz, updG_same, (rall_of hr).mono (Sub.upd n)⟩
theorem _root_.Fz.SA.known {mx : List Addr} {G0 G : GH} {H0 H : Hp} {Γ : List (Option RP)} {Os : List (Addr × OP)} {Ts : List (V × RP)} {σ : L2.St} {R : RP} (s : SA mx G0 H0 Γ Os Ts σ G H) (i : Nat) (e : Γ[i]? = some (some R) := by rfl) : ∃ v, σ[i]? = some (some v) ∧ R.r G v ∧ SA mx G0 H0 (Γ.set i (some (isV v))) Os Ts σ G H := by
  obtain ⟨v, hv, rv⟩ := s.env.2 i _ e
  refine ⟨v, hv, rv, s.f0, s.g, ⟨by rw [List.length_set]; exact s.env.1, fun k R2 ek => ?_⟩, s.own, s.nd, s.tmp⟩
  by_cases hk : i = k
  · subst hk
    have hl := (List.getElem?_eq_some_iff.mp e).1
    rw [List.getElem?_set_self hl] at ek
    cases ek
    exact ⟨v, hv, rfl⟩
  · rw [List.getElem?_set_ne hk] at ek
    exact s.env.2 k _ ek
theorem _root_.Fz.SA.again {mx : List Addr} {G0 G : GH} {H0 H : Hp} {Γ : List (Option RP)} {Ts : List (V × RP)} {σ : L2.St} (s : SA mx G0 H0 Γ [] Ts σ G H) : SA [] G H Γ [] [] σ G H := SA.start s.fit s.env (fun _ h => nomatch h) List.nodup_nil
theorem en_enr {K : PySem.W.Frag} {te : TE} {σ : L2.St} {G : GH} {H : Hp} {ds : List PyData} (h : EN K te σ G H ds) : ENR te σ G H (ds.map (D K)) := fun G1 H1 g Q q => h G1 H1 g Q fun p vs G2 H2 g2 n hn hp hz hr => q p vs G2 H2 g2 n hn hp hz (rall_of hr)
theorem rall_rows {K : PySem.W.Frag} {N : Addr → Prop} {G : GH} : ∀ {a : List (List Tx)} {vs : List V}, DgAll K G vs (a.map (eT eS)) → RAll G vs (a.map (rowR K N false))
  | [], _, h => by cases h; exact .nil
  | _ :: _, _, .cons h r => .cons h (rall_rows r)
theorem emn_rows {K : PySem.W.Frag} {te : TE} {σ : L2.St} {G : GH} {H : Hp} {w : W (List (List Tx))} {N : Addr → Prop} (h : EMN K te σ G H w (fun ys => ys.map (eT eS))) (hN : ∀ G1 H1 l, Gr [] G H G1 H1 → H1 l = none → N l) : EM te σ G H w (rowsR K N false) := fun G1 H1 g post Q hp q => h G1 H1 g _ _ hp fun a p vs G2 H2 g2 hp2 n hn hh hz hr =>
  q a (.ref p) (updG G2 p (isO (.lst vs))) H2 (Gr.freeze g2 hn n hh rfl) hp2 ⟨p, vs, rfl, hN G1 H1 p g hn, hz, updG_same, (rall_rows hr).mono (Sub.upd n)⟩
theorem rowU {K : PySem.W.Frag} {N : Addr → Prop} {te : TE} {σ : L2.St} {G : GH} {H : Hp} {b : Bool} {row : List Tx} (h : EV te σ G H (rowR K N b row)) : EV te σ G H (D K (eU (b, row))) := by
  cases b with
  | true => exact ev_df h
  | false => exact h
theorem wipeG_len : ∀ {vs : List Nat} {Γ : List (Option RP)}, (wipeG Γ vs).length = Γ.length
  | [], _ => rfl
  | v :: vs, Γ => by show ((wipeG Γ vs).set v none).length = _; rw [List.length_set, wipeG_len]
theorem rall_dg {K : PySem.W.Frag} {α : Type} {G : GH} {e : α → RP} {d : α → PyData} (h : ∀ a v, (e a).r G v → Dg K G v (d a)) : ∀ {xs : List α} {us : List V}, RAll G us (xs.map e) → DgAll K G us (xs.map d)
  | [], _, h1 => by cases h1; exact .nil
  | _ :: _, _, .cons h1 r => .cons (h _ _ h1) (rall_dg h r)
theorem rowD {K : PySem.W.Frag} {N : Addr → Prop} {G : GH} {b : Bool} {r : List Tx} {v : V} (h : (rowR K N b r).r G v) : Dg K G v (eU (b, r)) := by
  cases b with
  | true => exact h.1
  | false => exact h
theorem givenD {K : PySem.W.Frag} {N : Addr → Prop} {G : GH} {gs : List Gn} {v : V} (h : (givenR K N gs).r G v) : Dg K G v (eL (eP3 eS eI (eL eU)) (gs.map toL)) := by
  obtain ⟨p, us, rfl, _, z, hp, hr⟩ := h
  have h2 : DgAll K G us (gs.map fun g => eP3 eS eI (eL eU) (toL g)) := rall_dg (fun g v hg => by
    obtain ⟨t, ts, rfl, ht, hts⟩ := hg
    refine .tup ht ?_
    cases hts with
    | cons a1 r => cases r with
      | cons a2 r => cases r with
        | cons a3 r =>
          cases r
          obtain ⟨q, qs, rfl, _, z2, hq, hr2⟩ := a3
          refine .cons a1 (.cons a2 (.cons (.lst ⟨z2, hq⟩ ?_) .nil))
          have h3 := rall_dg (fun r v hv => rowD hv) hr2
          show DgAll K G qs ((g.2.2.2.map fun r => (g.2.2.1, r)).map eU)
          rw [List.map_map]
          exact h3) hr
  refine .lst ⟨z, hp⟩ ?_
  rw [List.map_map]
  exact h2
theorem ev_ofK {K : PySem.W.Frag} {σ : L2.St} {G : GH} {H : Hp} {C : Addr} {t1 t2 : TE} {ks : List Tx} {l : LRule} {y : Bk} (h1 : EV t1 σ G H (D K (eL (eP3 eS eI (eL eU)) l))) (h2 : EV t2 σ G H (D K (eL eS ks))) (hm : m_of (ks, l) = some y) (f : Fit G H) : EV (tSMethK C (sp_Book_of K) (tC (.ref C)) (tCons t1 (tCons t2 tNil))) σ G H (bkRN K (fun l => H l = none) y) := fun G1 H1 g Q q =>
  ⟨rfl, h1 G1 H1 g _ fun z1 G2 H2 g2 rz1 => (h2.mono (g.trans g2)) G2 H2 (Gr.refl g2.fit) _ fun z2 G3 H3 g3 rz2 => ⟨z1, z2, rfl, G3, (ks, l), y, g3.fit, .cons rz2 (.cons (Dg.mono g3.sub rz1) .nil), hm, fun v G' H' g4 rv => q v G' H' ((g2.trans g3).trans g4) (bk_wk (fun l hl => ((g.trans g2).trans g3).free f hl) rv)⟩⟩
theorem ev_of2 {K : PySem.W.Frag} {σ : L2.St} {G : GH} {H : Hp} {C : Addr} {t1 t2 : TE} {ks : List Tx} {l : LRule} {y : Bk} (h1 : EV t1 σ G H (D K (eL (eP3 eS eI (eL eU)) l))) (h2 : EV t2 σ G H (D K (eL eS ks))) (hm : m_of (ks, l) = some y) (f : Fit G H) : EV (tSMeth C (sp_Book_of K) (tC (.ref C)) (tCons t2 (tCons t1 tNil))) σ G H (bkRN K (fun l => H l = none) y) := fun G1 H1 g Q q =>
  ⟨rfl, h2 G1 H1 g _ fun z2 G2 H2 g2 rz2 => (h1.mono (g.trans g2)) G2 H2 (Gr.refl g2.fit) _ fun z1 G3 H3 g3 rz1 => ⟨G3, (ks, l), y, g3.fit, .cons (Dg.mono g3.sub rz2) (.cons rz1 .nil), hm, fun v G' H' g4 rv => q v G' H' ((g2.trans g3).trans g4) (bk_wk (fun l hl => ((g.trans g2).trans g3).free f hl) rv)⟩⟩
theorem env_iv {G G' : GH} {σ σ2 : L2.St} {vs : List (Option V)} (h : Env G σ (vs.map (Option.map isV))) (hs : Same σ σ2) (h6 : vs[6]? = some none) (h8 : vs[8]? = some none) : Env G' σ2 (vs.map (Option.map isV)) := by
  refine ⟨hs.1.trans h.1, fun i R e => ?_⟩
  have h1 := e
  rw [List.getElem?_map] at h1
  obtain ⟨v, hv, e1⟩ := Option.map_eq_some_iff.mp h1
  cases v with
  | none => cases e1
  | some v =>
    cases e1
    obtain ⟨u, hu, ru⟩ := h.2 i _ e
    have i6 : i ≠ 6 := fun z => by rw [z, h6] at hv; cases hv
    have i8 : i ≠ 8 := fun z => by rw [z, h8] at hv; cases hv
    exact ⟨u, by rw [hs.2 i i6 i8]; exact hu, ru⟩
theorem permG_ok {gs : List Gn} {ns : List Norm} (h : PermG gs ns) (hn : ∀ n ∈ ns, n.2.2.length ≤ 2000 ∧ ∀ r ∈ n.2.2, r ≠ [] ∧ r.length ≤ 100) : ∀ g ∈ gs, GnOk g := by
  induction h with
  | nil => intro g hg; cases hg
  | @cons x y xs ys hxy _ ih =>
    intro g hg
    rcases List.mem_cons.mp hg with rfl | h1
    · obtain ⟨_, _, hp⟩ := hxy
      have := hn y (List.mem_cons_self ..)
      exact ⟨by rw [hp.length_eq]; exact this.1, fun r hr => this.2 r (hp.mem_iff.mp hr)⟩
    · exact ih (fun n hn' => hn n (List.mem_cons_of_mem _ hn')) g h1
theorem permS_refl (sp : Spc) : PermS sp sp := ⟨rfl, by
  obtain ⟨a, b⟩ := sp
  show F2 _ b b
  induction b with
  | nil => exact .nil
  | cons x xs ih => exact .cons ⟨rfl, rfl, .refl _⟩ ih⟩
theorem comp_sieve {β : Type} [DecidableEq β] {ws : List β} : ∀ xs : List β, ∃ ys, comp (fun w => some (if mem w ws = true then none else some w)) xs = some ys ∧ ∀ y ∈ ys, mem y ws = false
  | [] => ⟨[], rfl, fun _ h => nomatch h⟩
  | x :: xs => by
    obtain ⟨ys, e, h⟩ := comp_sieve xs
    by_cases c : mem x ws = true
    · refine ⟨ys, ?_, h⟩
      show comp _ (x :: xs) = _
      unfold comp
      rw [if_pos c]; exact e
    · refine ⟨x :: ys, ?_, fun y hy => ?_⟩
      · unfold comp
        rw [if_neg c, e]; rfl
      · rcases List.mem_cons.mp hy with rfl | h1
        · exact Bool.eq_false_iff.mpr c
        · exact h y h1
theorem F2.app {α β : Type} {r : α → β → Prop} {x : α} {y : β} (hr : r x y) : ∀ {xs : List α} {ys : List β}, F2 r xs ys → F2 r (xs ++ [x]) (ys ++ [y])
  | _, _, .nil => .cons hr .nil
  | _, _, .cons h t => .cons h (F2.app hr t)
theorem F2.len {α β : Type} {r : α → β → Prop} : ∀ {xs : List α} {ys : List β}, F2 r xs ys → xs.length = ys.length
  | _, _, .nil => rfl
  | _, _, .cons h t => by rw [List.length_cons, List.length_cons, F2.len t]
section
variable {P : Program} {w : World} {K : PySem.W.Frag} {mg : Str → Option Value} {base : Heap}
structure Defs (P : Program) (w : World) (K : PySem.W.Frag) (mg : Str → Option Value) (base : Heap) : Prop where
  bag : Fok P w K mg base 1 "_law_bag" ["script"] (sp_law_bag K)
  wide : Fok P w K mg base 4 "_law_wide" ["bag"] (sp_law_wide K)
  draw : Fok P w K mg base 1 "_law_draw" ["bag", "many"] (sp_law_draw K)
  shuffle : Fok P w K mg base 2 "_law_shuffle" ["bag", "things"] (sp_law_shuffle K)
  other : Fok P w K mg base 4 "_law_other" ["bag", "spec"] (sp_law_other K)
  btext : Fok P w K mg base 1 "_law_book_text" ["spec"] (sp_law_book_text K)
  init : Mok P w K mg base 8 "Book" "__init__" ["self", "text"] (sp_Book_init K)
  of : GokK P w K mg base 10 (gW K "Book" "staticmethod" "of") "kinds" "rules" (sp_Book_of K)
  text : Gok P w K mg base 2 (gW K "Book" "property" "text") ["self"] (sp_Book_text K)
  told : Fok P w K mg base 6 "_law_told" ["tome", "spec"] (sp_law_told K)
  eq : Mok P w K mg base 1 "Book" "__eq__" ["self", "other"] (sp_Book_eq K)
  lost : Fok P w K mg base 3 "_law_lost" ["tome", "word", "how"] (sp_law_lost K)
theorem FnOk.mkD {x : Str} {st : Stmt} {N ps : List Str} {sp : Sp} {k : Nat} {f : Addr} {fd : FuncData} (F : FunD K x x (defArgs st) (defBody st) (defScope st) [] [] f fd)
    (S : FnScope N ps (defScope st)) (len : ∀ vs H Q E, sp vs H Q E → vs.length = ps.length)
    (hbody : ∀ (cdv : Value) (A : Around) (outer : List PySem.Env) (s : Shared) (H : Hp) (vs : List V) (Q : VK) (E : XK), Room k (A.deeper (envOfC x (defScope st) s.heap.objs.size f cdv)) → sp vs H Q E →
      ∃ t, PSs (cxOf CX0 P w K mg base N x (defScope st) f cdv A outer s H E).nox (defBody st) t ∧ t { nx := fun _ H' => Q .non H', rt := Q } (L2.start N vs) H) : FnOk P w K mg base CX0 (k + 1) f fd ps sp :=
  F.ok S len fun cdv A outer s H vs Q E hr hsp => by
    obtain ⟨t, h, q⟩ := hbody cdv A outer s H vs Q E hr hsp
    exact ⟨t, h.nox, q⟩
theorem ok_law (Y : TxX K mg) {fd : FuncData} (d : FunD K "law" "law" (defArgs s_law) (defBody s_law) (defScope s_law) [] [] (He.ga K "law") fd) (D0 : Defs P w K mg base) {Ok1 Ok : Spc → Prop} {bk : Spc → Bk} (M : LawM Ok1 Ok bk) : FnOk P w K mg base CX0 12 (He.ga K "law") fd ["script"] (spLaw K) := by
  have B := Y.B
  have T := B.T
  obtain ⟨pt, hpt⟩ := B.p_text
  refine FnOk.mkD d sc_law (fun vs H Q E h => by obtain ⟨_, _, _, rfl, _⟩ := h; rfl) (fun cdv A outer s H vs Q E hr h => ⟨_, by
      exact (pss_cons (ps_set (i := 1) sc_law.nd (by rfl) (Or.inr rfl) (pe_callF D0.bag (hr.mono (by decide)) (pa_cons (pv 0) pa_nil)))
        (pss_cons (ps_set (i := 2) sc_law.nd (by rfl) (Or.inl rfl) (pe_callF D0.wide (hr.mono (by decide)) (pa_cons (pv 1) pa_nil)))
        (pss_cons (ps_set (i := 3) sc_law.nd (by rfl) (Or.inl rfl) (pe_lst (pa_cons (pe_ix (ix_listK (K := K)) (pv 2) pe_int (fun _ _ => rfl)) (pa_cons (pe_lc (own := [("norm", 6)]) (by rfl) sc_law.nd (pi_listK (K := K) (pe_ix (ix_listK (K := K)) (pv 2) pe_int (fun _ _ => rfl))) (blkOk_by (N := N_law) (sc := defScope s_law) (by decide +kernel)) (fun _ _ _ _ _ => (pg_name (i := 6) sc_law.nd (by rfl) (Or.inl rfl))) (fun _ _ _ _ _ => pts_nil) (fun _ _ _ _ _ => (pe_tup (pa_cons (pe_ix (ix_tupK (K := K)) (pv 6) pe_int (fun _ _ => rfl)) (pa_cons (pe_ix (ix_tupK (K := K)) (pv 6) pe_int (fun _ _ => rfl)) (pa_cons (pe_callF D0.shuffle (hr.mono (by decide)) (pa_cons (pv 1) (pa_cons (pe_ix (ix_tupK (K := K)) (pv 6) pe_int (fun _ _ => rfl)) pa_nil))) pa_nil)))))) pa_nil))))
        (pss_cons (ps_set (i := 4) sc_law.nd (by rfl) (Or.inl rfl) (pe_makeF T.mk_Book D0.init (hr.mono (by decide)) T.g_Book (pa_cons (pe_callF D0.btext (hr.mono (by decide)) (pa_cons (pv 3) pa_nil)) pa_nil)))
        (pss_cons (ps_set (i := 5) sc_law.nd (by rfl) (Or.inl rfl) (pe_lst pa_nil))
        (pss_cons (ps_for PassesOwn.never (by rfl) (pi_listK (K := K) (pe_ix (ix_listK (K := K)) (pv 2) pe_int (fun _ _ => rfl))) (pg_name (i := 6) sc_law.nd (by rfl) (Or.inl rfl))
          (pss_cons (ps_set (i := 7) sc_law.nd (by rfl) (Or.inl rfl) (pe_callF D0.shuffle (hr.mono (by decide)) (pa_cons (pv 1) (pa_cons (pe_ix (ix_tupK (K := K)) (pv 6) pe_int (fun _ _ => rfl)) pa_nil))))
          (pss_cons (ps_if (pt_cmpR op_eq (pe_callF D0.draw (hr.mono (by decide)) (pa_cons (pv 1) (pa_cons pe_int pa_nil))) pe_int (nomark _)) (pss_one (ps_setLc (i := 7) (own := [("row", 8)]) (by rfl) sc_law.nd (by rfl) (by rfl) (sw_true (by rfl) (by rfl) (by rfl) (by decide +kernel)) (pi_listK (K := K) (pv 7)) (blkOk_by (N := N_law) (sc := defScope s_law) (by decide +kernel)) (fun _ _ _ _ _ => (pg_name (i := 8) sc_law.nd (by rfl) (Or.inl rfl))) (fun _ _ _ _ _ => pts_nil) (fun _ _ _ _ _ => (pe_callTy (call_list_ofK (K := K)) (by rfl) T.n_list boot_list (pa_cons (pv 8) pa_nil))))) pss_nil)
          (pss_one (ps_expr (pe_bm PySem.F.plainAttrs_list PySem.F.slot_list_append PySem.F.type_list_append mt_append (pv 5) (pa_cons (pe_tup (pa_cons (pe_ix (ix_tupK (K := K)) (pv 6) pe_int (fun _ _ => rfl)) (pa_cons (pe_ix (ix_tupK (K := K)) (pv 6) pe_int (fun _ _ => rfl)) (pa_cons (pv 7) pa_nil)))) pa_nil)))))))
        (pss_cons (ps_setLc (i := 9) (own := [("norm", 6), ("row", 8)]) (by rfl) sc_law.nd (by rfl) (by rfl) (sw_true (by rfl) (by rfl) (by rfl) (by decide +kernel)) (pi_listK (K := K) (pv 5)) (blkOk_by (N := N_law) (sc := defScope s_law) (by decide +kernel)) (fun _ _ _ _ _ => (pg_name (i := 6) sc_law.nd (by rfl) (Or.inl rfl))) (fun _ _ _ _ _ => pts_nil) (fun _ _ _ _ _ => (pe_tup (pa_cons (pe_ix (ix_tupK (K := K)) (pv 6) pe_int (fun _ _ => rfl)) (pa_cons (pe_ix (ix_tupK (K := K)) (pv 6) pe_int (fun _ _ => rfl)) (pa_cons (pe_lc (own := [("row", 8)]) (by rfl) sc_law.nd (pi_listK (K := K) (pe_ix (ix_tupK (K := K)) (pv 6) pe_int (fun _ _ => rfl))) (blkOk_by (N := N_law) (sc := _) (by rfl)) (fun _ _ _ _ _ => (pg_name (i := 8) sc_law.nd (by rfl) (Or.inl rfl))) (fun _ _ _ _ _ => pts_nil) (fun _ _ _ _ _ => (pe_callTy (call_tuple_ofK (K := K)) (by rfl) T.n_tuple boot_tuple (pa_cons (pv 8) pa_nil)))) pa_nil))))))
        (pss_cons (ps_set (i := 10) sc_law.nd (by rfl) (Or.inl rfl) (pe_callTy (call_list_ofK (K := K)) (by rfl) T.n_list boot_list (pa_cons (pe_ix (ix_listK (K := K)) (pv 2) pe_int (fun _ _ => rfl)) pa_nil)))
        (pss_cons (ps_if (pt_cmpR op_eq (pe_callF D0.draw (hr.mono (by decide)) (pa_cons (pv 1) (pa_cons pe_int pa_nil))) pe_int (nomark _)) (pss_one (ps_set (i := 11) sc_law.nd (by rfl) (Or.inl rfl) (pe_smethK (pe_globR T.g_Book) B.of_Book D0.of (hr.mono (by decide)) (pk_cons (pv 5) (pk_cons (pv 10) pk_nil))))) (pss_one (ps_set (i := 11) sc_law.nd (by rfl) (Or.inl rfl) (pe_smeth (pe_globR T.g_Book) B.of_Book D0.of.gok (hr.mono (by decide)) (pa_cons (pv 10) (pa_cons (pv 5) pa_nil))))))
        (pss_cons (ps_if (PW.pt (pw_or (pt_cmpR (op_nePK (K := K) hr.units) (pe_lc (own := [("norm", 6), ("row", 8)]) (by rfl) sc_law.nd (pi_listK (K := K) (pv 5)) (blkOk_by (N := N_law) (sc := defScope s_law) (by decide +kernel)) (fun _ _ _ _ _ => (pg_name (i := 6) sc_law.nd (by rfl) (Or.inl rfl))) (fun _ _ _ _ _ => pts_nil) (fun _ _ _ _ _ => (pe_tup (pa_cons (pe_ix (ix_tupK (K := K)) (pv 6) pe_int (fun _ _ => rfl)) (pa_cons (pe_ix (ix_tupK (K := K)) (pv 6) pe_int (fun _ _ => rfl)) (pa_cons (pe_lc (own := [("row", 8)]) (by rfl) sc_law.nd (pi_listK (K := K) (pe_ix (ix_tupK (K := K)) (pv 6) pe_int (fun _ _ => rfl))) (blkOk_by (N := N_law) (sc := _) (by rfl)) (fun _ _ _ _ _ => (pg_name (i := 8) sc_law.nd (by rfl) (Or.inl rfl))) (fun _ _ _ _ _ => pts_nil) (fun _ _ _ _ _ => (pe_callTy (call_tuple_ofK (K := K)) (by rfl) T.n_tuple boot_tuple (pa_cons (pv 8) pa_nil)))) pa_nil)))))) (pv 9) (nomark _)) (pw_or1 (pt_cmpR (op_nePK (K := K) hr.units) (pv 10) (pe_ix (ix_listK (K := K)) (pv 2) pe_int (fun _ _ => rfl)) (nomark _))))) (pss_one (ps_ret pe_bl)) pss_nil)
        (pss_cons (ps_expr (pe_bm PySem.F.plainAttrs_list PySem.F.slot_list_append PySem.F.type_list_append mt_append (pv 10) (pa_cons pe_str pa_nil)))
        (pss_cons (ps_for PassesOwn.never (by rfl) (pi_listK (K := K) (pv 5)) (pg_name (i := 6) sc_law.nd (by rfl) (Or.inl rfl))
          (pss_cons (ps_for PassesOwn.never (by rfl) (pi_listK (K := K) (pe_ix (ix_tupK (K := K)) (pv 6) pe_int (fun _ _ => rfl))) (pg_name (i := 8) sc_law.nd (by rfl) (Or.inl rfl)) (pss_one (ps_if (pt_val (pe_callB (call_isiKK (K := K)) (by rfl) T.n_isinstance boot_isinstance (pa_cons (pv 8) (pa_cons (pe_bltn (v := .ty "list") (by rfl) T.n_list boot_list rfl) pa_nil)))) (pss_one (ps_expr (pe_bm PySem.F.plainAttrs_list PySem.F.slot_list_append PySem.F.type_list_append mt_append (pv 8) (pa_cons pe_str pa_nil)))) pss_nil)))
          (pss_one (ps_expr (pe_bm PySem.F.plainAttrs_list PySem.F.slot_list_append PySem.F.type_list_append mt_append (pe_ix (ix_tupK (K := K)) (pv 6) pe_int (fun _ _ => rfl)) (pa_cons (pe_tup (pa_cons pe_str (pa_cons pe_str pa_nil))) pa_nil))))))
        (pss_cons (ps_if (PW.pt (pw_or (pt_not (pt_val (pe_callF D0.told (hr.mono (by decide)) (pa_cons (pv 4) (pa_cons (pv 2) pa_nil))))) (pw_or1 (pt_not (pt_val (pe_callF D0.told (hr.mono (by decide)) (pa_cons (pv 11) (pa_cons (pv 2) pa_nil)))))))) (pss_one (ps_ret pe_bl)) pss_nil)
        (pss_cons (ps_set (i := 12) sc_law.nd (by rfl) (Or.inl rfl) (pe_makeF T.mk_Book D0.init (hr.mono (by decide)) T.g_Book (pa_cons (pe_propF (pv 11) T.cl_Book hpt D0.text (hr.mono (by decide)) (by rfl)) pa_nil)))
        (pss_cons (ps_if (PW.pt (pw_or (pt_not (pt_val (pe_callF D0.told (hr.mono (by decide)) (pa_cons (pv 12) (pa_cons (pv 2) pa_nil))))) (pw_or (pt_not (pt_cmpR (op_eqOwn D0.eq T.me_Book_eq (hr.mono (by decide))) (pv 4) (pv 11) (nomark _))) (pw_or (pt_not (pt_cmpR (op_eqOwn D0.eq T.me_Book_eq (hr.mono (by decide))) (pv 12) (pv 4) (nomark _))) (pw_or1 (pt_cmpR (op_neOwn D0.eq T.me_Book_eq B.ne_Book B.ic_Book.hm (hr.mono (by decide))) (pv 4) (pv 12) (nomark _))))))) (pss_one (ps_ret pe_bl)) pss_nil)
        (pss_cons (ps_set (i := 13) sc_law.nd (by rfl) (Or.inl rfl) (pe_callF D0.other (hr.mono (by decide)) (pa_cons (pv 1) (pa_cons (pv 2) pa_nil))))
        (pss_cons (ps_set (i := 14) sc_law.nd (by rfl) (Or.inl rfl) (pe_makeF T.mk_Book D0.init (hr.mono (by decide)) T.g_Book (pa_cons (pe_callF D0.btext (hr.mono (by decide)) (pa_cons (pv 13) pa_nil)) pa_nil)))
        (pss_cons (ps_if (PW.pt (pw_or (pt_not (pt_val (pe_callF D0.told (hr.mono (by decide)) (pa_cons (pv 14) (pa_cons (pv 13) pa_nil))))) (pw_or (pt_cmpR (op_eqOwn D0.eq T.me_Book_eq (hr.mono (by decide))) (pv 14) (pv 4) (nomark _)) (pw_or (pt_cmpR (op_eqOwn D0.eq T.me_Book_eq (hr.mono (by decide))) (pv 11) (pv 14) (nomark _)) (pw_or1 (pt_not (pt_cmpR (op_neOwn D0.eq T.me_Book_eq B.ne_Book B.ic_Book.hm (hr.mono (by decide))) (pv 14) (pv 12) (nomark _)))))))) (pss_one (ps_ret pe_bl)) pss_nil)
        (pss_cons (ps_if (PW.pt (pw_or (pt_cmpR (op_eqOwn D0.eq T.me_Book_eq (hr.mono (by decide))) (pv 4) (pe_propF (pv 4) T.cl_Book hpt D0.text (hr.mono (by decide)) (by rfl)) (nomark _)) (pw_or (pt_cmpR (op_eqOwn D0.eq T.me_Book_eq (hr.mono (by decide))) (pv 4) pe_int (nomark _)) (pw_or1 (pt_cmpR (op_eqOwn D0.eq T.me_Book_eq (hr.mono (by decide))) (pv 4) (pe_callTy (call_list_ofK (K := K)) (by rfl) T.n_list boot_list (pa_cons (pe_ix (ix_listK (K := K)) (pv 2) pe_int (fun _ _ => rfl)) pa_nil)) (nomark _)))))) (pss_one (ps_ret pe_bl)) pss_nil)
        (pss_cons (ps_set (i := 15) sc_law.nd (by rfl) (Or.inr rfl) (pe_lc (own := [("norm", 6)]) (by rfl) sc_law.nd (pi_listK (K := K) (pe_ix (ix_listK (K := K)) (pv 2) pe_int (fun _ _ => rfl))) (blkOk_by (N := N_law) (sc := defScope s_law) (by decide +kernel)) (fun _ _ _ _ _ => (pg_name (i := 6) sc_law.nd (by rfl) (Or.inl rfl))) (fun _ _ _ _ _ => pts_nil) (fun _ _ _ _ _ => (pe_ix (ix_tupK (K := K)) (pv 6) pe_int (fun _ _ => rfl)))))
        (pss_cons (ps_setLc (i := 16) (own := [("word", 17)]) (by rfl) sc_law.nd (by rfl) (by rfl) (sw_true (by rfl) (by rfl) (by rfl) (by decide +kernel)) (pi_listK (K := K) (pe_op op_cat (pe_ix (ix_listK (K := K)) (pv 2) pe_int (fun _ _ => rfl)) (pe_lst (pa_cons pe_str (pa_cons pe_str (pa_cons pe_str pa_nil)))))) (blkOk_by (N := N_law) (sc := defScope s_law) (by decide +kernel)) (fun _ _ _ _ _ => (pg_name (i := 17) sc_law.nd (by rfl) (Or.inl rfl))) (fun _ _ _ _ _ => (pts_one (pt_cmpR (op_niPK (K := K) hr.units) (pv 17) (pv 15) (by rfl)))) (fun _ _ _ _ _ => (pv 17)))
        (pss_cons (ps_for PassesOwn.never (by rfl) (pi_listK (K := K) (pv 16)) (pg_name (i := 17) sc_law.nd (by rfl) (Or.inl rfl)) (pss_one (ps_if (PW.pt (pw_or (pt_not (pt_val (pe_callF D0.lost (hr.mono (by decide)) (pa_cons (pv 4) (pa_cons (pv 17) (pa_cons pe_int pa_nil)))))) (pw_or1 (pt_not (pt_val (pe_callF D0.lost (hr.mono (by decide)) (pa_cons (pv 11) (pa_cons (pv 17) (pa_cons pe_int pa_nil))))))))) (pss_one (ps_ret pe_bl)) pss_nil)))
        (pss_one (ps_ret (pe_callF D0.told (hr.mono (by decide)) (pa_cons (pv 4) (pa_cons (pv 2) pa_nil))))))))))))))))))))))))))), ?_⟩)
  obtain ⟨G, a, ns, rfl, f, rs, hns, kret⟩ := h
  have s0 : SA [] G H [some (isScr K ns), none, none, none, none, none, none, none, none, none, none, none, none, none, none, none, none, none] [] [] (L2.start N_law [.ref a]) G H := SA.start f (env_start (N := N_law) (.cons rs .nil)) (fun _ h => nomatch h) List.nodup_nil
  refine st_set (R := isBag K) s0 (ev_call (x := ns) (m := sm_law_bag) (er := fun _ => isBag K) (ea_cons (s0.var 0) ea_nil) (M.bag ns hns)) (fun _ _ _ s1 => ?_)
  refine nx_go ?_
  refine st_setW (e := fun a => D K (eSpc a)) (k0 := Ok1) s1 (em_call (m := sm_law_wide) (x := ()) (e := fun a => D K (eSpc a)) (ea_cons (s1.var 1) ea_nil)) (M.wide _ fun _ h => h) (fun sp _ _ _ hsp1 s2 => ?_)
  refine nx_go ?_
  have hsp := M.imp hsp1
  have sz := M.sz hsp
  have kK : ∀ {σ : L2.St} {G : GH} {H : Hp}, EV (tVar 2) σ G H (D K (eSpc sp)) → EV (tOp (rIxL K) (tVar 2) (tC (.int 0))) σ G H (D K (eL eS sp.1)) := fun h => ev_ixLc h ev_int rfl
  have kN : ∀ {σ : L2.St} {G : GH} {H : Hp}, EV (tVar 2) σ G H (D K (eSpc sp)) → EV (tOp (rIxL K) (tVar 2) (tC (.int 1))) σ G H (D K (eL eNorm sp.2)) := fun h => ev_ixLc h ev_int rfl
  have n0 : ∀ {σ : L2.St} {G : GH} {H : Hp} {n : Norm}, EV (tVar 6) σ G H (D K (eNorm n)) → EV (tOp (rIxT K) (tVar 6) (tC (.int 0))) σ G H (D K (eS n.1)) := fun h => ev_ixTc h ev_int rfl
  have n1 : ∀ {σ : L2.St} {G : GH} {H : Hp} {n : Norm}, EV (tVar 6) σ G H (D K (eNorm n)) → EV (tOp (rIxT K) (tVar 6) (tC (.int 1))) σ G H (D K (eI n.2.1)) := fun h => ev_ixTc h ev_int rfl
  have n2 : ∀ {σ : L2.St} {G : GH} {H : Hp} {n : Norm}, EV (tVar 6) σ G H (D K (eNorm n)) → EV (tOp (rIxT K) (tVar 6) (tC (.int 2))) σ G H (D K (eL (eT eS) n.2.2)) := fun h => ev_ixTc h ev_int rfl
  have e1 := em_lc (K := K) (te := tTup (tCons (tOp (rIxT K) (tVar 6) (tC (V.int 0))) (tCons (tOp (rIxT K) (tVar 6) (tC (V.int 1))) (tCons (tCall (sp_law_shuffle K) [] E0 (tCons (tVar 1) (tCons (tOp (rIxT K) (tVar 6) (tC (V.int 2))) tNil))) tNil)))) (g := gName 6) (e' := eNorm) (vs := [6]) (fun n : Norm => wpair (wret n.1) (wpair (wret n.2.1) (m_law_shuffle n.2.2))) s2 (eso_list (e := eNorm) (EV.lv (kN (s2.var 2)))) (fun _ n _ _ _ _ _ t1 _ k => by
      refine st_bind t1 fun _ hw t2 => ?_
      exact k _ (hw _ (by decide)) (em_tup (ds := fun a : Norm => [eS a.1, eI a.2.1, eL (eT eS) a.2.2]) (ema_cons (em_ev (a := n.1) (e := fun a => D K (eS a)) (n0 (t2.var 6))) (ema_cons (em_ev (a := n.2.1) (e := fun a => D K (eI a)) (n1 (t2.var 6))) (ema_one (EMN.em (em_callN (m := sm_law_shuffle) (en := eT eS) (x := n.2.2) (ea_cons (t2.var 1) (ea_cons (n2 (t2.var 6)) ea_nil)))))))))
  refine st_setW (e := fun a => D K (eSpc a)) (k0 := fun a => PermS a sp) s2 (em_lst (ds := fun a : Spc => [eL eS a.1, eL eNorm a.2]) (ema_cons (em_ev (a := sp.1) (e := fun a => D K (eL eS a)) (kK (s2.var 2))) (ema_one (EMN.em e1))))
    (wcomp_all (r := fun n o => o.1 = n.1 ∧ o.2.1 = n.2.1 ∧ o.2.2.Perm n.2.2) (fun n hn p hp => M.shuf n.2.2 (sz.r1 n hn).1 _ fun r' hr' => hp (n.1, n.2.1, r') ⟨rfl, rfl, hr'⟩) fun ys hys => show PermS (sp.1, ys) sp from ⟨rfl, forall₂_flip hys⟩) (fun tp _ _ _ htp s3 => ?_)
  refine nx_go ?_
  obtain ⟨t, ht, hmk⟩ := M.made hsp htp
  refine st_set (R := bkR K (bk sp)) s3 (ev_bk (ev_makeVH (enc := encBk K) (m := m_Book) (rsA := rs_BookA K) (rbY := fun _ => rs_BookB K) (x := .inl t) (R := D K .none) (g := "_book_text") (A := bkA (bk sp)) (ea_cons (ev_call (x := tp) (m := sm_law_book_text) (er := fun r => D K (eS r)) (ea_cons (s3.var 3) ea_nil) ht) ea_nil) hmk rsA_wk (fun G v h => .inl (Dg.none_inv h)) s3.fit)) (fun σe G9 H9 se => ?_)
  refine nx_go ?_
  obtain ⟨v1, _, r1, se⟩ := se.known 1
  obtain ⟨v2, _, r2, se⟩ := se.known 2
  obtain ⟨v4, _, r4, se⟩ := se.known 4
  have sE := se.again.fle (Γ' := [none, some (isV v1), some (isV v2), none, some (isV v4), none, none, none, none, none, none, none, none, none, none, none, none, none]) (.skip (.keep (.keep (.skip (.keep (.keep (.keep (.keep (.keep (.keep (.keep (.keep (.keep (.keep (.keep (.keep (.keep (.keep .nil))))))))))))))))))
  let N : Addr → Prop := fun l => H9 l = none
  have newN : ∀ {Γ' Os' Ts' σ' G' H'}, SA [] G9 H9 Γ' Os' Ts' σ' G' H' → ∀ G1 H1 l, Gr [] G' H' G1 H1 → H1 l = none → N l := fun s G1 H1 l g hl => s.g.free s.f0 (g.free s.fit hl)
  refine st_ownRN (Rs := []) sE (en_enr (K := K) (en_lst (ds := []) ea_nil)) (fun p _ _ _ s5 => ?_)
  refine nx_go ?_
  refine st_forW (s0 := ([] : List Gn)) (kk := fun gs => PermG gs sp.2) (f := fun gs (n : Norm) k _ => gs.length ≤ 100 ∧ n ∈ sp.2 ∧ ∀ b r', r'.Perm n.2.2 → k (gs ++ [(n.1, n.2.1, b, r')])) (fun _ => [none, some (isV v1), some (isV v2), none, some (isV v4), some (isV (.ref p)), none, none, none, none, none, none, none, none, none, none, none, none]) (fun gs => [(p, ownR (gs.map (normR K N)))])
    (wfor_all (I := fun ys gs => ∃ ds, ds ++ ys = sp.2 ∧ PermG gs ds) ⟨[], rfl, .nil⟩ (fun n ys gs k kb ⟨ds, e, hp⟩ hk => by
      refine ⟨?_, by rw [← e]; simp, fun b r' hr' => hk _ ⟨ds ++ [n], by rw [← e]; simp, F2.app ⟨rfl, rfl, hr'⟩ hp⟩⟩
      have h1 := F2.len hp
      have h2 := sz.n1
      have h3 := congrArg List.length e
      rw [List.length_append] at h3
      omega) (fun gs ⟨ds, e, hp⟩ => by rw [List.append_nil] at e; rw [← e]; exact hp))
    s5 (es_list (e := eNorm) (kN (s5.pin 2 r2))) (fun _ gs n k _ _ _ _ _ hm t1 _ hN1 hB1 => ?_) (fun gs _ _ _ hgs s6 => ?_)
  · refine st_bind t1 fun _ _ t2 => ?_
    obtain ⟨hgl, hn, hm⟩ := hm
    refine st_setW (e := rowsR K N false) (k0 := fun r' => r'.Perm n.2.2) t2 (emn_rows (em_callN (m := sm_law_shuffle) (en := eT eS) (x := n.2.2) (ea_cons (t2.pin 1 r1) (ea_cons (n2 (t2.var 6)) ea_nil))) (newN t2)) (M.shuf n.2.2 (sz.r1 n hn).1 _ fun _ h => h) (fun rows _ _ _ hrows t3 => ?_)
    refine nx_go ?_
    refine st_ifEJ (S := Bool) (F := fun _ => True) (kj := fun _ => True) (k0 := fun _ => True) (fun b => [none, some (isV v1), some (isV v2), none, some (isV v4), some (isV (.ref p)), some (D K (eNorm n)), some (rowsR K N b rows), none, none, none, none, none, none, none, none, none, none]) (fun _ => [(p, ownR (gs.map (normR K N)))]) trivial t3
      (emt_test (em_op (ec := fun b => D K (eB b)) (em_call (m := sm_law_draw) (x := (2 : Int)) (e := (fun a => D K (eI a))) (ea_cons (t3.pin 1 r1) (ea_cons ev_int ea_nil))) (em_ev (a := (0 : Int)) (e := (fun a => D K (eI a))) ev_int) fun a24 b25 u26 v27 _ _ _ ru28 rv29 => (em_ev (a := (decide (a24 = b25))) (e := (fun a => D K (eB a))) (ev_eqI (ev_c (R := D K (eI a24)) ru28) (ev_c (R := D K (eI b25)) rv29)))))
      (fun _ => ⟨⟨by decide, by decide⟩, fun _ _ _ => trivial⟩) (fun _ _ _ t4 _ hN2 => ?_) (fun _ _ _ t4 _ hN2 => ?_) (fun b _ _ _ _ t4 => ?_)
    · refine st_set (R := rowsR K N true rows) t4 (ENR.ev (en_lcR (e' := rowR K N true) (f := fun r => some (some r)) (vs := [8]) t4 (eso_lst (e := rowR K N false) (t4.var 7)) (by rw [comp_map (g := fun r => r) (fun _ _ => rfl), List.map_id']) (fun _ r o _ ho _ _ _ _ t5 _ k => by
        refine st_bind t5 fun _ hw t6 => ?_
        obtain rfl := Option.some.inj ho
        exact k _ (hw _ (by decide)) et_yes (fun y hy => by cases hy; exact EN.evN (en_listT (t6.var 8)) (newN t6)))) (newN t4)) (fun _ _ _ t5 => ?_)
      exact hN2 true _ _ _ trivial t5
    · exact st_nil (hN2 false _ _ _ trivial t4)
    · refine nx_go ?_
      refine st_appendR (p := p) (Rs := gs.map (normR K N)) (R := normR K N (n.1, n.2.1, b, rows)) t4 5 0 (ev_tupR (K := K) (Rs := [D K (eS n.1), D K (eI n.2.1), rowsR K N b rows]) (ea_cons (n0 (t4.var 6)) (ea_cons (n1 (t4.var 6)) (ea_cons (t4.var 7) ea_nil)))) (by rw [List.length_map, sizeLine_eq]; omega) (fun _ _ t5 => ?_)
      have e9 : gs.map (normR K N) ++ [normR K N (n.1, n.2.1, b, rows)] = (gs ++ [(n.1, n.2.1, b, rows)]).map (normR K N) := by rw [List.map_append]; rfl
      rw [e9] at t5
      exact hN1 _ _ _ _ (hm b rows hrows) (t5.fle (.keep (.keep (.keep (.keep (.keep (.keep (.skip (.skip (.keep (.keep (.keep (.keep (.keep (.keep (.keep (.keep (.keep (.keep .nil)))))))))))))))))))
  refine nx_go ?_
  obtain ⟨_, s7⟩ := s6.freezeR 5 0 (N := N) (fun l h => h)
  have g0 : ∀ {σ : L2.St} {G : GH} {H : Hp} {g : Gn}, EV (tVar 6) σ G H (normR K N g) → EV (tOp (rIxT K) (tVar 6) (tC (.int 0))) σ G H (D K (eS g.1)) := fun h => ev_ixTR h ev_int rfl
  have g1 : ∀ {σ : L2.St} {G : GH} {H : Hp} {g : Gn}, EV (tVar 6) σ G H (normR K N g) → EV (tOp (rIxT K) (tVar 6) (tC (.int 1))) σ G H (D K (eI g.2.1)) := fun h => ev_ixTR h ev_int rfl
  have g2 : ∀ {σ : L2.St} {G : GH} {H : Hp} {g : Gn}, EV (tVar 6) σ G H (normR K N g) → EV (tOp (rIxT K) (tVar 6) (tC (.int 2))) σ G H (rowsR K N g.2.2.1 g.2.2.2) := fun h => ev_ixTR h ev_int rfl
  have keptE : ∀ {G0 G : GH} {H0 H : Hp} {Γ : List (Option RP)} {σ : L2.St}, SA [] G0 H0 Γ [] [] σ G H → EV (tVar 5) σ G H (givenR K N gs) → 8 < (wipeG Γ [6, 8]).length → 6 < (wipeG Γ [6, 8]).length → EV (tLc (iList K (tVar 5)) (gName 6) tYes (tTup (tCons (tOp (rIxT K) (tVar 6) (tC (.int 0))) (tCons (tOp (rIxT K) (tVar 6) (tC (.int 1))) (tCons (tLc (iList K (tOp (rIxT K) (tVar 6) (tC (.int 2)))) (gName 8) tYes (tCB (fun xs H Q => ∃ p ys, xs = [V.ref p] ∧ ((SqL K H p ys ∧ ∀ (l : Addr), H l = none → Q (V.ref l) (upd H l (HO.tup ys))) ∨ SqT K H p ys ∧ Q (V.ref p) H)) (tCons (tVar 8) tNil)) [8]) tNil)))) [6, 8]) σ G H (D K (eL eNorm (gs.map toN))) := fun s h5 hl8 hl6 =>
    EN.ev (en_lc (e' := eNorm) (f := fun g : Gn => some (some (toN g))) (vs := [6, 8]) s (eso_lst (e := normR K N) h5) (comp_map fun g _ => rfl) (fun _ g o _ ho _ _ _ _ t1 _ k => by
      refine st_bind t1 fun _ hw t2 => ?_
      obtain rfl := Option.some.inj ho
      have e6 := List.getElem?_set_self (a := some (normR K N g)) hl6
      refine k _ (hw _ (by decide)) et_yes (fun y hy => ?_)
      cases hy
      exact ev_tup (ds := [eS g.1, eI g.2.1, eL (eT eS) g.2.2.2]) (ea_cons (g0 (t2.var 6 e6)) (ea_cons (g1 (t2.var 6 e6)) (ea_cons (EN.ev (en_lc (e' := eT eS) (f := fun r : List Tx => some (some r)) (vs := [8]) t2 (eso_lst (e := rowR K N g.2.2.1) (g2 (t2.var 6 e6))) (by rw [comp_map (g := fun r => r) (fun _ _ => rfl), List.map_id']) (fun _ r o _ ho _ _ _ _ t3 _ k => by
        refine st_bind t3 fun _ hw t4 => ?_
        obtain rfl := Option.some.inj ho
        exact k _ (hw _ (by decide)) et_yes (fun y hy => by cases hy; exact ev_tupleU (x := (g.2.2.1, r)) (rowU (t4.var 8 (List.getElem?_set_self (by rw [wipeG_len, List.length_set]; exact hl8)))))))) ea_nil)))))
  refine st_set (R := D K (eL eNorm (gs.map toN))) s7 (keptE s7 (s7.var 5) (Nat.le_of_ble_eq_true rfl) (Nat.le_of_ble_eq_true rfl)) (fun _ _ _ s8 => ?_)
  refine nx_go ?_
  refine st_set (R := dfR K N (eL eS sp.1)) s8 (EN.evN (en_listL (EV.lv (kK (s8.pin 2 r2)))) (newN s8)) (fun σf Gf0 Hf0 sf => ?_)
  refine nx_go ?_
  obtain ⟨v5, _, r5, sf⟩ := sf.known 5
  obtain ⟨v9, _, r9, sf⟩ := sf.known 9
  obtain ⟨v10, _, r10, sf⟩ := sf.known 10
  have sF := sf.again
  let N0 : Addr → Prop := fun l => Hf0 l = none
  have q1 := (isBag K).mono sf.g.sub r1
  have q2 := (D K (eSpc sp)).mono sf.g.sub r2
  have q5 := givenD r5
  have hof := M.of hsp hgs
  refine st_ifEJ (S := Unit) (F := fun _ => True) (kj := fun _ => True) (k0 := fun _ => True) (fun _ => [none, some (isV v1), some (isV v2), none, some (isV v4), some (isV v5), none, none, none, some (isV v9), some (isV v10), some (bkRN K N0 (bk sp)), none, none, none, none, none, none]) (fun _ => []) trivial sF
      (emt_test (em_op (ec := fun b => D K (eB b)) (em_call (m := sm_law_draw) (x := (3 : Int)) (e := (fun a => D K (eI a))) (ea_cons (sF.pin 1 q1) (ea_cons ev_int ea_nil))) (em_ev (a := (0 : Int)) (e := (fun a => D K (eI a))) ev_int) fun a24 b25 u26 v27 _ _ _ ru28 rv29 => (em_ev (a := (decide (a24 = b25))) (e := (fun a => D K (eB a))) (ev_eqI (ev_c (R := D K (eI a24)) ru28) (ev_c (R := D K (eI b25)) rv29)))))
      (fun _ => ⟨⟨by decide, by decide⟩, fun _ _ _ => trivial⟩) (fun _ _ _ t4 _ hN2 => ?_) (fun _ _ _ t4 _ hN2 => ?_) (fun _ _ _ _ _ s9 => ?_)
  · refine st_set (R := bkRN K N0 (bk sp)) t4 (fun G1 H1 g Q q => ev_ofK (t4.pin 5 (R := D K (eL (eP3 eS eI (eL eU)) (gs.map toL))) q5) (ev_df (t4.pin 10 r10)) hof t4.fit G1 H1 g Q fun v G2 H2 g2 rv => q v G2 H2 g2 (bk_wk (fun l hl => t4.g.free t4.f0 hl) rv)) (fun _ _ _ t5 => ?_)
    exact hN2 () _ _ _ trivial t5
  · refine st_set (R := bkRN K N0 (bk sp)) t4 (fun G1 H1 g Q q => ev_of2 (t4.pin 5 (R := D K (eL (eP3 eS eI (eL eU)) (gs.map toL))) q5) (ev_df (t4.pin 10 r10)) hof t4.fit G1 H1 g Q fun v G2 H2 g2 rv => q v G2 H2 g2 (bk_wk (fun l hl => t4.g.free t4.f0 hl) rv)) (fun _ _ _ t5 => ?_)
    exact hN2 () _ _ _ trivial t5
  refine nx_go ?_
  refine st_if s9 (et_or2 (et_test (ev_neL (e := eNorm) (xs := gs.map toN) (ys := gs.map toN) (EV.lv (keptE s9 (s9.pin 5 r5) (Nat.le_of_ble_eq_true rfl) (Nat.le_of_ble_eq_true rfl))) (EV.lv (s9.pin 9 r9)))) (fun _ => et_test (ev_neL (e := eS) (xs := sp.1) (ys := sp.1) (EV.lv (ev_df (s9.pin 10 r10))) (EV.lv (kK (s9.pin 2 q2)))))) (fun hb _ _ _ => by simp at hb) (fun _ Gf Hf s10 => ?_)
  refine st_nil (nx_go ?_)
  obtain ⟨v11, _, r11, s10⟩ := s10.known 11
  obtain ⟨_, e5, w5⟩ := s10.env.2 5 _ rfl
  obtain ⟨_, e10, w10⟩ := s10.env.2 10 _ rfl
  cases w5
  cases w10
  obtain ⟨ag, rfl, hG⟩ := cls_given s10.f0 s10.fit s10.g.sub (Nat.le_trans (Nat.le_of_eq (F2.len hgs)) sz.n1) (permG_ok hgs sz.r1) r5
  obtain ⟨an, rfl, hQ⟩ := cls_strs s10.f0 s10.fit s10.g.sub sz.k0 sz.k1 r10
  refine mut_ok (S := Sm H9 Hf0 Hf) (fun a h => h.2.2) hG hQ s10.env.1.symm e5 e10 (fun σ2 H2 keep same => ?_)
  have sub2 : Sub G9 (forg (Sm H9 Hf0 Hf) Gf) := fun a φ h => forg_of (s10.g.sub _ _ (sf.g.sub _ _ h)) fun hs => by
    obtain ⟨o, ho, _⟩ := sf.f0 a φ h
    rw [hs.1] at ho; cases ho
  have p11 := bk_wk (K := K) (N' := fun _ => True) (fun _ _ => trivial) (bk_fg (forg_kept s10.fit fun a (h : Sm H9 Hf0 Hf a) => h.2.2) (fun l φ hl h => forg_of h fun (hs : Sm H9 Hf0 Hf l) => hs.2.1 hl) r11)
  have env2 : Env (forg (Sm H9 Hf0 Hf) Gf) σ2 ([none, some v1, some v2, none, some v4, none, none, none, none, none, none, some v11, none, none, none, none, none, none].map (Option.map isV)) := env_iv (s10.fle (Γ' := [none, some v1, some v2, none, some v4, none, none, none, none, none, none, some v11, none, none, none, none, none, none].map (Option.map isV)) (.keep (.keep (.keep (.keep (.keep (.skip (.keep (.keep (.keep (.skip (.skip (.keep (.keep (.keep (.keep (.keep (.keep (.keep .nil))))))))))))))))))).env same rfl rfl
  have s11 : SA [] (forg (Sm H9 Hf0 Hf) Gf) H2 [none, some (isV v1), some (isV v2), none, some (isV v4), none, none, none, none, none, none, some (isV v11), none, none, none, none, none, none] [] [] σ2 (forg (Sm H9 Hf0 Hf) Gf) H2 := SA.start (forg_fit s10.fit keep) env2 (fun _ h => nomatch h) List.nodup_nil
  have t1 := s11.wk 1 (R' := isBag K) rfl fun v h => by cases h; exact (isBag K).mono sub2 r1
  have t2 := t1.wk 2 (R' := D K (eSpc sp)) rfl fun v h => by cases h; exact (D K (eSpc sp)).mono sub2 r2
  have t3 := t2.wk 4 (R' := bkR K (bk sp)) rfl fun v h => by cases h; exact (bkR K (bk sp)).mono sub2 r4
  have t4 := t3.wk 11 (R' := bkR K (bk sp)) rfl fun v h => by cases h; exact p11
  clear sE s5 s6 s7 s8 sf sF s9 s10 s11 t1 t2 t3 env2 same keep hG hQ p11 sub2 newN se
  have nTT : (!true) = false := rfl
  obtain ⟨tx, htx, hbt⟩ := (M.told hsp).tx
  obtain ⟨tx', hbt', hmk3⟩ := M.made hsp (permS_refl sp)
  obtain rfl : tx' = tx := Option.some.inj (hbt'.symm.trans hbt)
  have told : ∀ {σ' : L2.St} {G' : GH} {H' : Hp} {i j : Nat} {s' : Spc} (hs : Ok s'), EV (tVar i) σ' G' H' (bkR K (bk s')) → EV (tVar j) σ' G' H' (D K (eSpc s')) → EV (tCall (sp_law_told K) [] E0 (tCons (tVar i) (tCons (tVar j) tNil))) σ' G' H' (D K (eB true)) := fun hs h1 h2 => ev_call (x := (⟨(bk _, _), M.told hs⟩ : TX)) (m := m_law_told) (er := fun r => D K (eB r)) (ea_cons h1 (ea_cons h2 ea_nil)) rfl
  have eqB : ∀ {σ' : L2.St} {G' : GH} {H' : Hp} {i j : Nat} {y z : Bk} {b : Bool}, m_eq (y, .inl z) = some b → EV (tVar i) σ' G' H' (bkR K y) → EV (tVar j) σ' G' H' (bkR K z) → EV (tOp (rEqO K (He.ga K "Book") (sp_Book_eq K)) (tVar i) (tVar j)) σ' G' H' (D K (eB b)) := fun {_ _ _ _ _ y z _} hm h1 h2 => ev_eqO (enc := encE K) (mm := m_eq) (x := (y, .inl z)) (side_V B.ic_Book) h1 h2 rfl hm (fun _ _ h => Dg.bool_inv h)
  have neB : ∀ {σ' : L2.St} {G' : GH} {H' : Hp} {i j : Nat} {y z : Bk} {b : Bool}, m_eq (y, .inl z) = some b → EV (tVar i) σ' G' H' (bkR K y) → EV (tVar j) σ' G' H' (bkR K z) → EV (tOp (rNeO K (He.ga K "Book") (sp_Book_eq K)) (tVar i) (tVar j)) σ' G' H' (D K (eB (!b))) := fun {_ _ _ _ _ y z _} hm h1 h2 => ev_neO (enc := encE K) (mm := m_eq) (x := (y, .inl z)) (side_V B.ic_Book) h1 h2 rfl hm (fun _ _ h => Dg.bool_inv h)
  have eqSelf : ∀ y : Bk, m_eq (y, .inl y) = some true := fun y => by unfold m_eq; simp
  have pT : ∀ {σ' : L2.St} {G' : GH} {H' : Hp} {i : Nat}, EV (tVar i) σ' G' H' (bkR K (bk sp)) → EV (tProp (He.ga K "Book") (sp_Book_text K) [] E0 (tVar i)) σ' G' H' (D K (eS tx')) := fun h => ev_propV (enc := encB K) (mm := m_text) (er := fun r => D K (eS r)) (x := bk sp) h rfl htx
  refine st_if t4 (et_or2 (et_not (et_B (told hsp (t4.var 4) (t4.var 2)))) (fun _ => et_not (et_B (told hsp (t4.var 11) (t4.var 2))))) (fun hb _ _ _ => by cases hb) (fun _ _ _ u1 => ?_)
  refine st_nil (nx_go ?_)
  refine st_set (R := bkR K (bk sp)) u1 (ev_bk (ev_makeVH (enc := encBk K) (m := m_Book) (rsA := rs_BookA K) (rbY := fun _ => rs_BookB K) (x := .inl tx') (R := D K .none) (g := "_book_text") (A := bkA (bk sp)) (ea_cons (pT (u1.var 11)) ea_nil) hmk3 rsA_wk (fun G v h => .inl (Dg.none_inv h)) u1.fit)) (fun _ _ _ u2 => ?_)
  refine nx_go ?_
  refine st_if u2 (et_or2 (et_not (et_B (told hsp (u2.var 12) (u2.var 2)))) (fun _ => et_or2 (et_not (et_test (eqB (eqSelf _) (u2.var 4) (u2.var 11)))) (fun _ => et_or2 (et_not (et_test (eqB (eqSelf _) (u2.var 12) (u2.var 4)))) (fun _ => et_test (neB (eqSelf _) (u2.var 4) (u2.var 12)))))) (fun hb _ _ _ => by cases hb) (fun _ _ _ u3 => ?_)
  refine st_nil (nx_go ?_)
  refine st_setW (e := fun a => D K (eSpc a)) (k0 := fun s' => Ok s' ∧ m_eq (bk s', .inl (bk sp)) = some false ∧ m_eq (bk sp, .inl (bk s')) = some false) u3 (em_call (m := sm_law_other) (x := sp) (e := fun a => D K (eSpc a)) (ea_cons (u3.var 1) (ea_cons (u3.var 2) ea_nil))) (M.other hsp1 _ fun s' h1 h2 h3 => ⟨h1, h2, h3⟩) (fun so _ _ _ hso u4 => ?_)
  obtain ⟨hso, ne1, ne2⟩ := hso
  refine nx_go ?_
  obtain ⟨to, hto, hmo⟩ := M.made hso (permS_refl so)
  refine st_set (R := bkR K (bk so)) u4 (ev_bk (ev_makeVH (enc := encBk K) (m := m_Book) (rsA := rs_BookA K) (rbY := fun _ => rs_BookB K) (x := .inl to) (R := D K .none) (g := "_book_text") (A := bkA (bk so)) (ea_cons (ev_call (x := so) (m := sm_law_book_text) (er := fun r => D K (eS r)) (ea_cons (u4.var 13) ea_nil) hto) ea_nil) hmo rsA_wk (fun G v h => .inl (Dg.none_inv h)) u4.fit)) (fun _ _ _ u5 => ?_)
  refine nx_go ?_
  refine st_if u5 (et_or2 (et_not (et_B (told hso (u5.var 14) (u5.var 13)))) (fun _ => et_or2 (et_test (eqB ne1 (u5.var 14) (u5.var 4))) (fun _ => et_or2 (et_test (eqB ne2 (u5.var 11) (u5.var 14))) (fun _ => et_not (et_test (neB ne1 (u5.var 14) (u5.var 12))))))) (fun hb _ _ _ => by cases hb) (fun _ _ _ u6 => ?_)
  refine st_nil (nx_go ?_)
  refine st_if u6 (et_or2 (et_test (ev_eqO (enc := encE K) (mm := m_eq) (x := (bk sp, .inr (eS tx'))) (r := false) (b := false) (side_S B.ss_Book) (u6.var 4) (pT (u6.var 4)) rfl rfl (fun _ _ h => Dg.bool_inv h))) (fun _ => et_or2 (et_test (ev_eqO (enc := encE K) (mm := m_eq) (x := (bk sp, .inr (eI 5))) (r := false) (b := false) (side_I B.si_Book) (u6.var 4) ev_int rfl rfl (fun _ _ h => Dg.bool_inv h))) (fun _ => et_test (ev_eqO (enc := encE K) (mm := m_eq) (x := (bk sp, .inr (eL eS sp.1))) (r := false) (b := false) (side_L B.sl_Book) (u6.var 4) (EN.ev (en_listL (EV.lv (kK (u6.var 2))))) rfl rfl (fun _ _ h => Dg.bool_inv h))))) (fun hb _ _ _ => by cases hb) (fun _ _ _ u7 => ?_)
  refine st_nil (nx_go ?_)
  refine st_set (R := D K (eL eS (sp.2.map fun n => n.1))) u7 (EN.ev (en_lc (e' := eS) (f := fun n : Norm => some (some n.1)) (vs := [6]) u7 (eso_list (e := eNorm) (EV.lv (kN (u7.var 2)))) (comp_map fun n _ => rfl) (fun _ n o _ ho _ _ _ _ t1 _ kk => by
      refine st_bind t1 fun _ hw t2 => ?_
      obtain rfl := Option.some.inj ho
      exact kk _ (hw _ (by decide)) et_yes (fun z hz => by cases hz; exact n0 (t2.var 6))))) (fun _ _ _ u8 => ?_)
  refine nx_go ?_
  obtain ⟨wl, hwl, hlost⟩ := M.lost hsp
  obtain ⟨ls, hls, hno⟩ := comp_sieve (ws := sp.2.map fun n => n.1) wl
  refine st_set (R := D K (eL eS ls)) u8 (EN.ev (en_lc (e' := eS) (vs := [17]) u8 (eso_list (e := eS) (EV.lv (EN.ev (en_catL (e := eS) (EV.lv (kK (u8.var 2))) (EV.lv (ev_lst (ds := [eS cZz, eS [], eS [114, 117, 108, 101]]) (ea_cons (ev_strC cZz) (ea_cons (ev_strC []) (ea_cons (ev_strC [114, 117, 108, 101]) ea_nil))))) hwl)))) hls (fun _ x o _ ho _ _ _ _ t1 _ kk => by
      refine st_bind t1 fun _ hw t2 => ?_
      have hk := Option.some.inj ho
      refine kk _ (hw _ (by decide)) (ET.to (et_test (ev_niL (e := eS) (t2.var 17) (EV.lv (t2.var 15)))) ?_) (fun z hz => ?_)
      · rw [← hk]
        cases mem x (sp.2.map fun n => n.1) <;> rfl
      · have : z = x := by
          rw [← hk] at hz
          split at hz
          · cases hz
          · exact (Option.some.inj hz).symm
        subst this
        exact t2.var 17))) (fun _ _ _ u9 => ?_)
  refine nx_go ?_
  refine st_forW (s0 := ()) (kk := fun _ => True) (f := fun (_ : Unit) (_ : Tx) k _ => k ()) (fun _ => [none, none, some (D K (eSpc sp)), none, some (bkR K (bk sp)), none, none, none, none, none, none, some (bkR K (bk sp)), none, none, none, none, none, none]) (fun _ => []) (wfor_all (I := fun _ _ => True) trivial (fun _ _ _ _ _ _ hk => hk () trivial) (fun _ _ => trivial))
    (u9.fle (.skip (.skip (.keep (.skip (.keep (.skip (.skip (.skip (.skip (.skip (.skip (.keep (.skip (.skip (.skip (.skip (.skip (.skip .nil))))))))))))))))))) (es_list (e := eS) (u9.var 16)) (fun _ _ x k _ _ _ _ hx hm t1 _ hN1 hB1 => ?_) (fun _ _ _ _ _ u10 => ?_)
  · refine st_bind t1 fun _ _ t2 => ?_
    obtain ⟨l1, l2⟩ := hlost x (hno x hx)
    have lost : ∀ {σ' : L2.St} {G' : GH} {H' : Hp} {i : Nat} (z : Int), EV (tVar i) σ' G' H' (bkR K (bk sp)) → EV (tVar 17) σ' G' H' (D K (eS x)) → EV (tCall (sp_law_lost K) [] E0 (tCons (tVar i) (tCons (tVar 17) (tCons (tC (.int z)) tNil)))) σ' G' H' (D K (eB true)) := fun z h1 h2 => ev_call (x := (bk sp, x, z)) (m := m_law_lost) (er := fun r => D K (eB r)) (ea_cons h1 (ea_cons h2 (ea_cons ev_int ea_nil))) (by
      unfold m_law_lost
      rw [l1, l2, ite_self]; rfl)
    refine st_if t2 (et_or2 (et_not (et_B (lost 0 (t2.var 4) (t2.var 17)))) (fun _ => et_not (et_B (lost 1 (t2.var 11) (t2.var 17))))) (fun hb _ _ _ => by cases hb) (fun _ _ _ t3 => ?_)
    exact st_nil (hN1 () _ _ _ hm (t3.fle (.keep (.keep (.keep (.keep (.keep (.keep (.keep (.keep (.keep (.keep (.keep (.keep (.keep (.keep (.keep (.keep (.keep (.skip .nil))))))))))))))))))))
  · refine nx_go ?_
    exact st_ret u10 (told hsp (u10.var 4) (u10.var 2)) fun v _ H' _ rv => by
      rw [Dg.bool_inv rv]
      exact kret H'
end
theorem law_sp {K : PySem.W.Frag} {H : Hp} {a : Addr} {ns : List Int} (hl : ns.length ≤ 63) (hS : SqL K H a (ns.map V.int)) (E : XK) : spLaw K [.ref a] H (fun v _ => v = .bl true) E := by
  have key : ∀ (o : HO), H a = some o → (∀ xs, o ≠ .tup xs) → (∀ H', H' a = some o → SqL K H' a (ns.map V.int)) → spLaw K [.ref a] H (fun v _ => v = .bl true) E := fun o ho ht hs => by
    refine ⟨updG (fun _ => none) a (isO o), a, ns, rfl, fun b φ e => ?_, ⟨a, rfl, fun H' f => hs H' ?_⟩, hl, fun _ => rfl⟩
    · by_cases z : b = a
      · subst z
        rw [updG_same] at e; cases e
        exact ⟨o, ho, rfl, fun xs q => absurd q (ht xs)⟩
      · rw [updG_ne z] at e; cases e
    · obtain ⟨o', ho', e, _⟩ := f a _ updG_same
      rw [ho', show o' = o from e]
  rcases id hS with (h | ⟨o, h⟩) | h
  · exact key _ h (fun _ q => by cases q) fun H' h' => .inl (.inl h')
  · exact key _ h (fun _ q => by cases q) fun H' h' => .inl (.inr ⟨o, h'⟩)
  · exact ⟨fun _ => none, a, ns, rfl, (fun _ _ e => by cases e), ⟨a, rfl, fun H' _ => .inr h⟩, hl, fun _ => rfl⟩
end K0
set_option Elab.async false
set_option linter.all false
set_option maxRecDepth 100000
set_option maxHeartbeats 0
/-! the head of k00: facts by names -/
namespace K0
open PySem PySem.Spec PyProof.Rows L2 Fz
theorem tup_of {K : PySem.W.Frag} {H : Hp} {a : Addr} {ls : List Tx} (h : SqT K H a ((ls.map fun l => He.Dv.str (mkS l)).map (He.Dv.v K))) : SqT K H a ((ls.map mkS).map V.str) := by
  rw [List.map_map] at h ⊢
  exact h
def propB (K : PySem.W.Frag) (C : Addr) (m : Str) : Bool := He.eqO (PySem.W.findIn K (.ref C) m) (some (some (.ref (He.ma K C m)))) && (He.eqO (PySem.W.specialIn K (.ref (He.ma K C m)) "__get__") (some (some (.builtin "property.__get__"))) && (decide (PySem.W.takesIn K (.ref (He.ma K C m)) = some true) && (match PySem.W.recIn K (He.ma K C m) "property" with
  | some (.ref _ :: _) => true
  | _ => false)))
theorem prop_of {K : PySem.W.Frag} {C : Addr} {m : Str} (h : propB K C m = true) : PropOf K C m (He.ma K C m) (He5.wf K C "property" m) := by
  obtain ⟨h1, h⟩ := He.ba h
  obtain ⟨h2, h⟩ := He.ba h
  obtain ⟨h3, h4⟩ := He.ba h
  refine ⟨He.eqO_ok h1, He.eqO_ok h2, of_decide_eq_true h3, ?_⟩
  unfold He5.wf
  split at h4
  · rename_i f r e
    exact ⟨r, by rw [e]⟩
  · cases h4
def smetB (K : PySem.W.Frag) (C : Addr) (m : Str) : Bool := He5.wrapB K C "staticmethod" "staticmethod.__get__" m && (PySem.W.readsIn K C (.type "type") && (He.eqO (PySem.W.specialIn K (.ref C) "__getattribute__") (some (some (.builtin "type.__getattribute__"))) && PySem.W.keepIn K (.ref (He5.wf K C "staticmethod" m))))
theorem smet_of {K : PySem.W.Frag} {C : Addr} {m : Str} (h : smetB K C m = true) : SMet K C m (He5.wf K C "staticmethod" m) := by
  obtain ⟨h1, h⟩ := He.ba h
  obtain ⟨h2, h⟩ := He.ba h
  obtain ⟨h3, h4⟩ := He.ba h
  obtain ⟨w1, w2⟩ := He5.wrapB_ok h1
  exact ⟨⟨h2, He.eqO_ok h3⟩, ⟨_, w1, w2⟩, h4⟩
/-! the Hook -/
abbrev AlB : Type := He.AlD × Bool
def obsB (fa : List He.Fa) (fn : List He5.DefA) (ex : PySem.W.Frag → Bool) (K : PySem.W.Frag) : AlB := (He5.obsA fa fn K, ex K)
def obsBG (n : Nat) (fa : List He.Fa) (fn : List He5.DefA) (ex : PySem.W.Frag → Bool) (g : Addr → Option Obj) : AlB := obsB fa fn ex (He.frG g (He5.asA g n))
def hookB (n : Nat) (fa : List He.Fa) (fn : List He5.DefA) (ex : PySem.W.Frag → Bool) : PySem.W.Hook where
  α := AlB
  obs := fun s => obsBG n fa fn ex s.heap.get?
  val := fun _ => (He5.valA fn, true)
  says := fun _ h => ∃ K : PySem.W.Frag, K.In h ∧ He5.SaysA fa fn K ∧ ex K = true
  of := fun _ _ e => ⟨_, He.frG_in, congrArg (fun z : AlB => z.1) e, congrArg (fun z : AlB => z.2) e⟩
  keeps := fun _ _ _ ⟨K, hK, c⟩ k => ⟨K, PySem.W.Frag.In.keeps hK k, c⟩
theorem obsBG_eq {n : Nat} {fa : List He.Fa} {fn : List He5.DefA} {ex : PySem.W.Frag → Bool} {g : Addr → Option Obj} {s : Shared} (h : ∀ a, g a = s.heap.get? a) : obsBG n fa fn ex g = (hookB n fa fn ex).obs s := by
  have e : g = s.heap.get? := funext h
  rw [e] <;> rfl
def faH : List He.Fa := [.free "len", .free "range", .free "list", .free "int", .free "str", .free "tuple", .free "abs", .free "min", .free "max", .free "sorted", .free "all", .free "any", .free "bool", .free "enumerate", .free "isinstance", .free "repr", .free "iter", .free "ValueError", .free "LookupError", .str "SMALL" "abcdefghijklmnopqrstuvwxyz", .str "DIGITS" "0123456789", .int "LONGEST" 8, .glo "BARRED", .int "LEAST_KINDS" 2, .int "MOST_KINDS" 6, .int "MOST_RULES" 8, .int "MOST_ROWS" 120, .int "WIDEST" 4, .glo "WIDTHS", .glo "written_by", .glo "plain_name", .glo "first_double", .glo "first_wrong", .glo "ordered_rows", .glo "read_book", .glo "wrong_kinds", .glo "wrong_row", .glo "wrong_rows", .glo "wrong_rules", .glo "listed_book", .glo "check_limits", .glo "write_book", .glo "_law_bag", .glo "_law_draw", .glo "_law_pick", .glo "_law_shuffle", .glo "_law_name", .glo "_law_names", .glo "_law_rows", .glo "_law_book_text", .glo "_law_words", .glo "_law_number", .glo "_law_wide", .glo "_law_other", .glo "_law_lost", .glo "_law_row_list", .glo "_law_norm_told", .glo "_law_told", .glo "BookParts", .cls "BookParts", .mkr "BookParts", .noat "BookParts" "kind_row", .noat "BookParts" "rule_row", .meth "BookParts" "__init__", .glo "BookReader", .cls "BookReader", .mkr "BookReader", .noat "BookReader" "stage", .noat "BookReader" "known", .noat "BookReader" "rule_names", .noat "BookReader" "found", .meth "BookReader" "__init__", .meth "BookReader" "take", .meth "BookReader" "_take_kinds", .meth "BookReader" "_take_rule", .meth "BookReader" "_take_row", .meth "BookReader" "whole", .glo "Book", .cls "Book", .mkr "Book", .noat "Book" "_kinds", .noat "Book" "_rules", .noat "Book" "_known", .noat "Book" "_widths", .noat "Book" "_row_lists", .noat "Book" "_row_marks", .noat "Book" "_listed", .noat "Book" "_book_text", .noat "Book" "_rule_tables", .noat "Book" "_strike_table", .noat "Book" "_round_table", .noat "Book" "_home_table", .noat "Book" "_step_table", .meth "Book" "__init__", .meth "Book" "width", .meth "Book" "rows", .meth "Book" "__len__", .meth "Book" "__contains__", .meth "Book" "__iter__", .meth "Book" "__eq__", .meth "Book" "__repr__", .glo "NoSuch", .glo "law"]
def fnH_0 : He5.DefA := ⟨fun K => He.ga K "written_by", "written_by", "written_by", defArgs s_written_by, defBody s_written_by, defScope s_written_by, [], []⟩
def fnH_1 : He5.DefA := ⟨fun K => He.ga K "plain_name", "plain_name", "plain_name", defArgs s_plain_name, defBody s_plain_name, defScope s_plain_name, [], []⟩
def fnH_2 : He5.DefA := ⟨fun K => He.ga K "first_double", "first_double", "first_double", defArgs s_first_double, defBody s_first_double, defScope s_first_double, [], []⟩
def fnH_3 : He5.DefA := ⟨fun K => He.ga K "first_wrong", "first_wrong", "first_wrong", defArgs s_first_wrong, defBody s_first_wrong, defScope s_first_wrong, [], []⟩
def fnH_4 : He5.DefA := ⟨fun K => He.ga K "ordered_rows", "ordered_rows", "ordered_rows", defArgs s_ordered_rows, defBody s_ordered_rows, defScope s_ordered_rows, [], []⟩
def fnH_5 : He5.DefA := ⟨fun K => He.ga K "read_book", "read_book", "read_book", defArgs s_read_book, defBody s_read_book, defScope s_read_book, [], []⟩
def fnH_6 : He5.DefA := ⟨fun K => He.ga K "wrong_kinds", "wrong_kinds", "wrong_kinds", defArgs s_wrong_kinds, defBody s_wrong_kinds, defScope s_wrong_kinds, [], []⟩
def fnH_7 : He5.DefA := ⟨fun K => He.ga K "wrong_row", "wrong_row", "wrong_row", defArgs s_wrong_row, defBody s_wrong_row, defScope s_wrong_row, [], []⟩
def fnH_8 : He5.DefA := ⟨fun K => He.ga K "wrong_rows", "wrong_rows", "wrong_rows", defArgs s_wrong_rows, defBody s_wrong_rows, defScope s_wrong_rows, [], []⟩
def fnH_9 : He5.DefA := ⟨fun K => He.ga K "wrong_rules", "wrong_rules", "wrong_rules", defArgs s_wrong_rules, defBody s_wrong_rules, defScope s_wrong_rules, [], []⟩
def fnH_10 : He5.DefA := ⟨fun K => He.ga K "listed_book", "listed_book", "listed_book", defArgs s_listed_book, defBody s_listed_book, defScope s_listed_book, [], []⟩
def fnH_11 : He5.DefA := ⟨fun K => He.ga K "check_limits", "check_limits", "check_limits", defArgs s_check_limits, defBody s_check_limits, defScope s_check_limits, [], []⟩
def fnH_12 : He5.DefA := ⟨fun K => He.ga K "write_book", "write_book", "write_book", defArgs s_write_book, defBody s_write_book, defScope s_write_book, [], []⟩
def fnH_13 : He5.DefA := ⟨fun K => He.ga K "_law_bag", "_law_bag", "_law_bag", defArgs s_law_bag, defBody s_law_bag, defScope s_law_bag, [], []⟩
def fnH_14 : He5.DefA := ⟨fun K => He.ga K "_law_draw", "_law_draw", "_law_draw", defArgs s_law_draw, defBody s_law_draw, defScope s_law_draw, [], []⟩
def fnH_15 : He5.DefA := ⟨fun K => He.ga K "_law_pick", "_law_pick", "_law_pick", defArgs s_law_pick, defBody s_law_pick, defScope s_law_pick, [], []⟩
def fnH_16 : He5.DefA := ⟨fun K => He.ga K "_law_shuffle", "_law_shuffle", "_law_shuffle", defArgs s_law_shuffle, defBody s_law_shuffle, defScope s_law_shuffle, [], []⟩
def fnH_17 : He5.DefA := ⟨fun K => He.ga K "_law_name", "_law_name", "_law_name", defArgs s_law_name, defBody s_law_name, defScope s_law_name, [], []⟩
def fnH_18 : He5.DefA := ⟨fun K => He.ga K "_law_names", "_law_names", "_law_names", defArgs s_law_names, defBody s_law_names, defScope s_law_names, [], []⟩
def fnH_19 : He5.DefA := ⟨fun K => He.ga K "_law_rows", "_law_rows", "_law_rows", defArgs s_law_rows, defBody s_law_rows, defScope s_law_rows, [], []⟩
def fnH_20 : He5.DefA := ⟨fun K => He.ga K "_law_book_text", "_law_book_text", "_law_book_text", defArgs s_law_book_text, defBody s_law_book_text, defScope s_law_book_text, [], []⟩
def fnH_21 : He5.DefA := ⟨fun K => He.ga K "_law_words", "_law_words", "_law_words", defArgs s_law_words, defBody s_law_words, defScope s_law_words, [], []⟩
def fnH_22 : He5.DefA := ⟨fun K => He.ga K "_law_number", "_law_number", "_law_number", defArgs s_law_number, defBody s_law_number, defScope s_law_number, [], []⟩
def fnH_23 : He5.DefA := ⟨fun K => He.ga K "_law_wide", "_law_wide", "_law_wide", defArgs s_law_wide, defBody s_law_wide, defScope s_law_wide, [], []⟩
def fnH_24 : He5.DefA := ⟨fun K => He.ga K "_law_other", "_law_other", "_law_other", defArgs s_law_other, defBody s_law_other, defScope s_law_other, [], []⟩
def fnH_25 : He5.DefA := ⟨fun K => He.ga K "_law_lost", "_law_lost", "_law_lost", defArgs s_law_lost, defBody s_law_lost, defScope s_law_lost, [], []⟩
def fnH_26 : He5.DefA := ⟨fun K => He.ga K "_law_row_list", "_law_row_list", "_law_row_list", defArgs s_law_row_list, defBody s_law_row_list, defScope s_law_row_list, [], []⟩
def fnH_27 : He5.DefA := ⟨fun K => He.ga K "_law_norm_told", "_law_norm_told", "_law_norm_told", defArgs s_law_norm_told, defBody s_law_norm_told, defScope s_law_norm_told, [], []⟩
def fnH_28 : He5.DefA := ⟨fun K => He.ga K "_law_told", "_law_told", "_law_told", defArgs s_law_told, defBody s_law_told, defScope s_law_told, [], []⟩
def fnH_29 : He5.DefA := ⟨fun K => He.ma K (He.ga K "BookParts") "__init__", "__init__", "BookParts.__init__", defArgs s_BookParts_init, defBody s_BookParts_init, defScope s_BookParts_init, [], []⟩
def fnH_30 : He5.DefA := ⟨fun K => He.ma K (He.ga K "BookReader") "__init__", "__init__", "BookReader.__init__", defArgs s_BookReader_init, defBody s_BookReader_init, defScope s_BookReader_init, [], []⟩
def fnH_31 : He5.DefA := ⟨fun K => He.ma K (He.ga K "BookReader") "take", "take", "BookReader.take", defArgs s_BookReader_take, defBody s_BookReader_take, defScope s_BookReader_take, [], []⟩
def fnH_32 : He5.DefA := ⟨fun K => He.ma K (He.ga K "BookReader") "_take_kinds", "_take_kinds", "BookReader._take_kinds", defArgs s_BookReader_take_kinds, defBody s_BookReader_take_kinds, defScope s_BookReader_take_kinds, [], []⟩
def fnH_33 : He5.DefA := ⟨fun K => He.ma K (He.ga K "BookReader") "_take_rule", "_take_rule", "BookReader._take_rule", defArgs s_BookReader_take_rule, defBody s_BookReader_take_rule, defScope s_BookReader_take_rule, [], []⟩
def fnH_34 : He5.DefA := ⟨fun K => He.ma K (He.ga K "BookReader") "_take_row", "_take_row", "BookReader._take_row", defArgs s_BookReader_take_row, defBody s_BookReader_take_row, defScope s_BookReader_take_row, [], []⟩
def fnH_35 : He5.DefA := ⟨fun K => He.ma K (He.ga K "BookReader") "whole", "whole", "BookReader.whole", defArgs s_BookReader_whole, defBody s_BookReader_whole, defScope s_BookReader_whole, [], []⟩
def fnH_36 : He5.DefA := ⟨fun K => He.ma K (He.ga K "Book") "__init__", "__init__", "Book.__init__", defArgs s_Book_init, defBody s_Book_init, defScope s_Book_init, [], []⟩
def fnH_37 : He5.DefA := ⟨fun K => He.ma K (He.ga K "Book") "width", "width", "Book.width", defArgs s_Book_width, defBody s_Book_width, defScope s_Book_width, [], []⟩
def fnH_38 : He5.DefA := ⟨fun K => He.ma K (He.ga K "Book") "rows", "rows", "Book.rows", defArgs s_Book_rows, defBody s_Book_rows, defScope s_Book_rows, [], []⟩
def fnH_39 : He5.DefA := ⟨fun K => He.ma K (He.ga K "Book") "__len__", "__len__", "Book.__len__", defArgs s_Book_len, defBody s_Book_len, defScope s_Book_len, [], []⟩
def fnH_40 : He5.DefA := ⟨fun K => He.ma K (He.ga K "Book") "__contains__", "__contains__", "Book.__contains__", defArgs s_Book_contains, defBody s_Book_contains, defScope s_Book_contains, [], []⟩
def fnH_41 : He5.DefA := ⟨fun K => He.ma K (He.ga K "Book") "__iter__", "__iter__", "Book.__iter__", defArgs s_Book_iter, defBody s_Book_iter, defScope s_Book_iter, [], []⟩
def fnH_42 : He5.DefA := ⟨fun K => He.ma K (He.ga K "Book") "__eq__", "__eq__", "Book.__eq__", defArgs s_Book_eq, defBody s_Book_eq, defScope s_Book_eq, [], []⟩
def fnH_43 : He5.DefA := ⟨fun K => He.ma K (He.ga K "Book") "__repr__", "__repr__", "Book.__repr__", defArgs s_Book_repr, defBody s_Book_repr, defScope s_Book_repr, [], []⟩
def fnH_44 : He5.DefA := ⟨fun K => He5.wf K (He.ga K "Book") "staticmethod" "of", "of", "Book.of", defArgs s_Book_of, defBody s_Book_of, defScope s_Book_of, [], []⟩
def fnH_45 : He5.DefA := ⟨fun K => He5.wf K (He.ga K "Book") "property" "kinds", "kinds", "Book.kinds", defArgs s_Book_kinds, defBody s_Book_kinds, defScope s_Book_kinds, [], []⟩
def fnH_46 : He5.DefA := ⟨fun K => He5.wf K (He.ga K "Book") "property" "rules", "rules", "Book.rules", defArgs s_Book_rules, defBody s_Book_rules, defScope s_Book_rules, [], []⟩
def fnH_47 : He5.DefA := ⟨fun K => He5.wf K (He.ga K "Book") "property" "text", "text", "Book.text", defArgs s_Book_text, defBody s_Book_text, defScope s_Book_text, [], []⟩
def fnH_48 : He5.DefA := ⟨fun K => He.ma K (He.ga K "NoSuch") "__init__", "__init__", "NoSuch.__init__", defArgs (inClass (topS 4) 0), defBody (inClass (topS 4) 0), defScope (inClass (topS 4) 0), [], []⟩
def fnH_49 : He5.DefA := ⟨fun K => He.ga K "law", "law", "law", defArgs s_law, defBody s_law, defScope s_law, [], []⟩
def fnH : List He5.DefA := [fnH_0, fnH_1, fnH_2, fnH_3, fnH_4, fnH_5, fnH_6, fnH_7, fnH_8, fnH_9, fnH_10, fnH_11, fnH_12, fnH_13, fnH_14, fnH_15, fnH_16, fnH_17, fnH_18, fnH_19, fnH_20, fnH_21, fnH_22, fnH_23, fnH_24, fnH_25, fnH_26, fnH_27, fnH_28, fnH_29, fnH_30, fnH_31, fnH_32, fnH_33, fnH_34, fnH_35, fnH_36, fnH_37, fnH_38, fnH_39, fnH_40, fnH_41, fnH_42, fnH_43, fnH_44, fnH_45, fnH_46, fnH_47, fnH_48, fnH_49]
def exs (K : PySem.W.Frag) : List Bool := [He.tupB K "BARRED" (c_BARRED.map fun l => He.Dv.str (mkS l)),
  He.tupB K "WIDTHS" (c_WIDTHS.map fun l => He.Dv.str (mkS l)),
  He.eqO (PySem.W.findIn K (.ref (He.ga K "Book")) "__class__") (some (some (.builtin "object.__class__"))),
  He.eqO (PySem.W.specialIn K (.builtin "object.__class__") "__get__") (some (some (.builtin "getset_descriptor.__get__"))),
  decide (PySem.W.takesIn K (.builtin "object.__class__") = some true),
  decide (PySem.W.mroIn K (He.ga K "Book") (.type "object") = some true),
  decide (PySem.W.kitOne K (.ref (He.ga K "Book")) (.ref (He.ga K "Book")) = some true),
  He.eqO (PySem.W.findIn K (.ref (He.ga K "BookParts")) "__class__") (some (some (.builtin "object.__class__"))),
  decide (PySem.W.mroIn K (He.ga K "BookParts") (.type "object") = some true),
  decide (PySem.W.kitOne K (.ref (He.ga K "BookParts")) (.ref (He.ga K "BookParts")) = some true),
  decide (PySem.W.kitOne K (.type "str") (.ref (He.ga K "BookParts")) = some false),
  decide (PySem.W.kitOne K (.type "str") (.ref (He.ga K "Book")) = some false),
  decide (PySem.W.kitOne K (.type "int") (.ref (He.ga K "Book")) = some false),
  decide (PySem.W.kitOne K (.type "list") (.ref (He.ga K "Book")) = some false),
  decide (PySem.W.subIn K (.type "str") (.ref (He.ga K "Book")) = some false),
  decide (PySem.W.subIn K (.type "int") (.ref (He.ga K "Book")) = some false),
  decide (PySem.W.subIn K (.type "list") (.ref (He.ga K "Book")) = some false),
  He.eqO (PySem.W.findIn K (.ref (He.ga K "Book")) "__ne__") (some (some (.builtin "object.__ne__"))),
  smetB K (He.ga K "Book") "of",
  propB K (He.ga K "Book") "kinds",
  propB K (He.ga K "Book") "rules",
  propB K (He.ga K "Book") "text",
  He.eqO (PySem.W.findIn K (.ref (He.ga K "NoSuch")) "__init__") (some (some (.ref (He.ma K (He.ga K "NoSuch") "__init__")))),
  PySem.W.excInitIn K (He.ga K "NoSuch") leTail "LookupError.__new__",
  PySem.W.excOver K (He.ga K "NoSuch") leTail,
  decide (PySem.W.takerIn K (He.ga K "NoSuch") "name" = some none),
  He.eqO (PySem.W.findIn K (.ref (He.ga K "NoSuch")) "__setattr__") (some (some (.builtin "object.__setattr__"))),
  He.eqO (PySem.W.findIn K (.ref (He.ga K "NoSuch")) "__getattribute__") (some (some (.builtin "BaseException.__getattribute__"))),
  He.eqO (PySem.W.findIn K (.ref (He.ga K "NoSuch")) "__getattr__") (some none),
  He.eqO (PySem.W.findIn K (.ref (He.ga K "NoSuch")) "name") (some none),
  decide (PySem.W.typeIn K (.ref (He.ma K (He.ga K "NoSuch") "__init__")) = some (.type "function")),
  PySem.W.keepIn K (.ref (He.ga K "NoSuch")),
  decide (PySem.W.subIn K (.ref (He.ga K "NoSuch")) (.type "BaseException") = some true),
  decide (PySem.W.typeIn K (.ref (He.ga K "NoSuch")) = some (.type "type")),
  PySem.W.hasDictIn K (He.ga K "NoSuch"),
  decide (PySem.W.exmOne K (.ref (He.ga K "NoSuch")) (.ref (He.ga K "NoSuch")) = some true),
  He.eqO (PySem.W.findIn K (.ref (He.ga K "NoSuch")) "__class__") (some (some (.builtin "object.__class__"))),
  decide (PySem.W.mroIn K (He.ga K "NoSuch") (.type "object") = some true),
  decide (PySem.W.kitOne K (.ref (He.ga K "NoSuch")) (.type "LookupError") = some true),
  decide (PySem.W.kitOne K (.ref (He.ga K "NoSuch")) (.type "ValueError") = some false)]
def exH (K : PySem.W.Frag) : Bool := (exs K).all id
theorem head_txx {K : PySem.W.Frag} {h : Heap} {mg : Str → Option Value} (X : K.In h) (G : h.Ns mainGlobals mg) (c : He5.SaysA faH fnH K) (hb : exH K = true) : TxX K mg ∧ FnD K "law" "law" s_law (He.ga K "law") ∧ mg "law" = some (.ref (He.ga K "law")) := by
  have hx : ∀ (i : Nat) (b : Bool), (exs K)[i]? = some b → b = true := fun i b e => List.all_eq_true.mp hb b (List.mem_of_getElem? e)
  have txt : Txt K mg := { n_len := He.free_ok X G (c.fact 0 (f := .free "len") rfl), n_range := He.free_ok X G (c.fact 1 (f := .free "range") rfl), n_list := He.free_ok X G (c.fact 2 (f := .free "list") rfl), n_int := He.free_ok X G (c.fact 3 (f := .free "int") rfl), n_str := He.free_ok X G (c.fact 4 (f := .free "str") rfl), n_tuple := He.free_ok X G (c.fact 5 (f := .free "tuple") rfl), n_abs := He.free_ok X G (c.fact 6 (f := .free "abs") rfl), n_min := He.free_ok X G (c.fact 7 (f := .free "min") rfl), n_max := He.free_ok X G (c.fact 8 (f := .free "max") rfl), n_sorted := He.free_ok X G (c.fact 9 (f := .free "sorted") rfl), n_all := He.free_ok X G (c.fact 10 (f := .free "all") rfl), n_any := He.free_ok X G (c.fact 11 (f := .free "any") rfl), n_bool := He.free_ok X G (c.fact 12 (f := .free "bool") rfl), n_enumerate := He.free_ok X G (c.fact 13 (f := .free "enumerate") rfl), n_isinstance := He.free_ok X G (c.fact 14 (f := .free "isinstance") rfl), n_repr := He.free_ok X G (c.fact 15 (f := .free "repr") rfl), n_iter := He.free_ok X G (c.fact 16 (f := .free "iter") rfl), n_ValueError := He.free_ok X G (c.fact 17 (f := .free "ValueError") rfl), n_LookupError := He.free_ok X G (c.fact 18 (f := .free "LookupError") rfl), c_SMALL := He.str_ok X G (c.fact 19 (f := .str "SMALL" "abcdefghijklmnopqrstuvwxyz") rfl), c_DIGITS := He.str_ok X G (c.fact 20 (f := .str "DIGITS" "0123456789") rfl), c_LONGEST := He.int_ok X G (c.fact 21 (f := .int "LONGEST" 8) rfl), c_BARRED := ⟨He.glo_ok X G (c.fact 22 (f := .glo "BARRED") rfl), fun H => tup_of (He.tupB_ok (hx 0 _ rfl) H)⟩, c_LEAST_KINDS := He.int_ok X G (c.fact 23 (f := .int "LEAST_KINDS" 2) rfl), c_MOST_KINDS := He.int_ok X G (c.fact 24 (f := .int "MOST_KINDS" 6) rfl), c_MOST_RULES := He.int_ok X G (c.fact 25 (f := .int "MOST_RULES" 8) rfl), c_MOST_ROWS := He.int_ok X G (c.fact 26 (f := .int "MOST_ROWS" 120) rfl), c_WIDEST := He.int_ok X G (c.fact 27 (f := .int "WIDEST" 4) rfl), c_WIDTHS := ⟨He.glo_ok X G (c.fact 28 (f := .glo "WIDTHS") rfl), fun H => tup_of (He.tupB_ok (hx 1 _ rfl) H)⟩, g_written_by := He.glo_ok X G (c.fact 29 (f := .glo "written_by") rfl), d_written_by := c.def_ 0 (d := fnH_0) rfl, g_plain_name := He.glo_ok X G (c.fact 30 (f := .glo "plain_name") rfl), d_plain_name := c.def_ 1 (d := fnH_1) rfl, g_first_double := He.glo_ok X G (c.fact 31 (f := .glo "first_double") rfl), d_first_double := c.def_ 2 (d := fnH_2) rfl, g_first_wrong := He.glo_ok X G (c.fact 32 (f := .glo "first_wrong") rfl), d_first_wrong := c.def_ 3 (d := fnH_3) rfl, g_ordered_rows := He.glo_ok X G (c.fact 33 (f := .glo "ordered_rows") rfl), d_ordered_rows := c.def_ 4 (d := fnH_4) rfl, g_read_book := He.glo_ok X G (c.fact 34 (f := .glo "read_book") rfl), d_read_book := c.def_ 5 (d := fnH_5) rfl, g_wrong_kinds := He.glo_ok X G (c.fact 35 (f := .glo "wrong_kinds") rfl), d_wrong_kinds := c.def_ 6 (d := fnH_6) rfl, g_wrong_row := He.glo_ok X G (c.fact 36 (f := .glo "wrong_row") rfl), d_wrong_row := c.def_ 7 (d := fnH_7) rfl, g_wrong_rows := He.glo_ok X G (c.fact 37 (f := .glo "wrong_rows") rfl), d_wrong_rows := c.def_ 8 (d := fnH_8) rfl, g_wrong_rules := He.glo_ok X G (c.fact 38 (f := .glo "wrong_rules") rfl), d_wrong_rules := c.def_ 9 (d := fnH_9) rfl, g_listed_book := He.glo_ok X G (c.fact 39 (f := .glo "listed_book") rfl), d_listed_book := c.def_ 10 (d := fnH_10) rfl, g_check_limits := He.glo_ok X G (c.fact 40 (f := .glo "check_limits") rfl), d_check_limits := c.def_ 11 (d := fnH_11) rfl, g_write_book := He.glo_ok X G (c.fact 41 (f := .glo "write_book") rfl), d_write_book := c.def_ 12 (d := fnH_12) rfl, g_law_bag := He.glo_ok X G (c.fact 42 (f := .glo "_law_bag") rfl), d_law_bag := c.def_ 13 (d := fnH_13) rfl, g_law_draw := He.glo_ok X G (c.fact 43 (f := .glo "_law_draw") rfl), d_law_draw := c.def_ 14 (d := fnH_14) rfl, g_law_pick := He.glo_ok X G (c.fact 44 (f := .glo "_law_pick") rfl), d_law_pick := c.def_ 15 (d := fnH_15) rfl, g_law_shuffle := He.glo_ok X G (c.fact 45 (f := .glo "_law_shuffle") rfl), d_law_shuffle := c.def_ 16 (d := fnH_16) rfl, g_law_name := He.glo_ok X G (c.fact 46 (f := .glo "_law_name") rfl), d_law_name := c.def_ 17 (d := fnH_17) rfl, g_law_names := He.glo_ok X G (c.fact 47 (f := .glo "_law_names") rfl), d_law_names := c.def_ 18 (d := fnH_18) rfl, g_law_rows := He.glo_ok X G (c.fact 48 (f := .glo "_law_rows") rfl), d_law_rows := c.def_ 19 (d := fnH_19) rfl, g_law_book_text := He.glo_ok X G (c.fact 49 (f := .glo "_law_book_text") rfl), d_law_book_text := c.def_ 20 (d := fnH_20) rfl, g_law_words := He.glo_ok X G (c.fact 50 (f := .glo "_law_words") rfl), d_law_words := c.def_ 21 (d := fnH_21) rfl, g_law_number := He.glo_ok X G (c.fact 51 (f := .glo "_law_number") rfl), d_law_number := c.def_ 22 (d := fnH_22) rfl, g_law_wide := He.glo_ok X G (c.fact 52 (f := .glo "_law_wide") rfl), d_law_wide := c.def_ 23 (d := fnH_23) rfl, g_law_other := He.glo_ok X G (c.fact 53 (f := .glo "_law_other") rfl), d_law_other := c.def_ 24 (d := fnH_24) rfl, g_law_lost := He.glo_ok X G (c.fact 54 (f := .glo "_law_lost") rfl), d_law_lost := c.def_ 25 (d := fnH_25) rfl, g_law_row_list := He.glo_ok X G (c.fact 55 (f := .glo "_law_row_list") rfl), d_law_row_list := c.def_ 26 (d := fnH_26) rfl, g_law_norm_told := He.glo_ok X G (c.fact 56 (f := .glo "_law_norm_told") rfl), d_law_norm_told := c.def_ 27 (d := fnH_27) rfl, g_law_told := He.glo_ok X G (c.fact 57 (f := .glo "_law_told") rfl), d_law_told := c.def_ 28 (d := fnH_28) rfl, g_BookParts := He.glo_ok X G (c.fact 58 (f := .glo "BookParts") rfl), cl_BookParts := He.cls_ok (c.fact 59 (f := .cls "BookParts") rfl), mk_BookParts := He.mkr_ok (c.fact 60 (f := .mkr "BookParts") rfl), na_BookParts_kind_row := He.noat_ok (c.fact 61 (f := .noat "BookParts" "kind_row") rfl), na_BookParts_rule_row := He.noat_ok (c.fact 62 (f := .noat "BookParts" "rule_row") rfl), me_BookParts_init := He.meth_ok (c.fact 63 (f := .meth "BookParts" "__init__") rfl), d_BookParts_init := c.def_ 29 (d := fnH_29) rfl, g_BookReader := He.glo_ok X G (c.fact 64 (f := .glo "BookReader") rfl), cl_BookReader := He.cls_ok (c.fact 65 (f := .cls "BookReader") rfl), mk_BookReader := He.mkr_ok (c.fact 66 (f := .mkr "BookReader") rfl), na_BookReader_stage := He.noat_ok (c.fact 67 (f := .noat "BookReader" "stage") rfl), na_BookReader_known := He.noat_ok (c.fact 68 (f := .noat "BookReader" "known") rfl), na_BookReader_rule_names := He.noat_ok (c.fact 69 (f := .noat "BookReader" "rule_names") rfl), na_BookReader_found := He.noat_ok (c.fact 70 (f := .noat "BookReader" "found") rfl), me_BookReader_init := He.meth_ok (c.fact 71 (f := .meth "BookReader" "__init__") rfl), d_BookReader_init := c.def_ 30 (d := fnH_30) rfl, me_BookReader_take := He.meth_ok (c.fact 72 (f := .meth "BookReader" "take") rfl), d_BookReader_take := c.def_ 31 (d := fnH_31) rfl, me_BookReader_take_kinds := He.meth_ok (c.fact 73 (f := .meth "BookReader" "_take_kinds") rfl), d_BookReader_take_kinds := c.def_ 32 (d := fnH_32) rfl, me_BookReader_take_rule := He.meth_ok (c.fact 74 (f := .meth "BookReader" "_take_rule") rfl), d_BookReader_take_rule := c.def_ 33 (d := fnH_33) rfl, me_BookReader_take_row := He.meth_ok (c.fact 75 (f := .meth "BookReader" "_take_row") rfl), d_BookReader_take_row := c.def_ 34 (d := fnH_34) rfl, me_BookReader_whole := He.meth_ok (c.fact 76 (f := .meth "BookReader" "whole") rfl), d_BookReader_whole := c.def_ 35 (d := fnH_35) rfl, g_Book := He.glo_ok X G (c.fact 77 (f := .glo "Book") rfl), cl_Book := He.cls_ok (c.fact 78 (f := .cls "Book") rfl), mk_Book := He.mkr_ok (c.fact 79 (f := .mkr "Book") rfl), na_Book__kinds := He.noat_ok (c.fact 80 (f := .noat "Book" "_kinds") rfl), na_Book__rules := He.noat_ok (c.fact 81 (f := .noat "Book" "_rules") rfl), na_Book__known := He.noat_ok (c.fact 82 (f := .noat "Book" "_known") rfl), na_Book__widths := He.noat_ok (c.fact 83 (f := .noat "Book" "_widths") rfl), na_Book__row_lists := He.noat_ok (c.fact 84 (f := .noat "Book" "_row_lists") rfl), na_Book__row_marks := He.noat_ok (c.fact 85 (f := .noat "Book" "_row_marks") rfl), na_Book__listed := He.noat_ok (c.fact 86 (f := .noat "Book" "_listed") rfl), na_Book__book_text := He.noat_ok (c.fact 87 (f := .noat "Book" "_book_text") rfl), na_Book__rule_tables := He.noat_ok (c.fact 88 (f := .noat "Book" "_rule_tables") rfl), na_Book__strike_table := He.noat_ok (c.fact 89 (f := .noat "Book" "_strike_table") rfl), na_Book__round_table := He.noat_ok (c.fact 90 (f := .noat "Book" "_round_table") rfl), na_Book__home_table := He.noat_ok (c.fact 91 (f := .noat "Book" "_home_table") rfl), na_Book__step_table := He.noat_ok (c.fact 92 (f := .noat "Book" "_step_table") rfl), me_Book_init := He.meth_ok (c.fact 93 (f := .meth "Book" "__init__") rfl), d_Book_init := c.def_ 36 (d := fnH_36) rfl, me_Book_width := He.meth_ok (c.fact 94 (f := .meth "Book" "width") rfl), d_Book_width := c.def_ 37 (d := fnH_37) rfl, me_Book_rows := He.meth_ok (c.fact 95 (f := .meth "Book" "rows") rfl), d_Book_rows := c.def_ 38 (d := fnH_38) rfl, me_Book_len := He.meth_ok (c.fact 96 (f := .meth "Book" "__len__") rfl), d_Book_len := c.def_ 39 (d := fnH_39) rfl, me_Book_contains := He.meth_ok (c.fact 97 (f := .meth "Book" "__contains__") rfl), d_Book_contains := c.def_ 40 (d := fnH_40) rfl, me_Book_iter := He.meth_ok (c.fact 98 (f := .meth "Book" "__iter__") rfl), d_Book_iter := c.def_ 41 (d := fnH_41) rfl, me_Book_eq := He.meth_ok (c.fact 99 (f := .meth "Book" "__eq__") rfl), d_Book_eq := c.def_ 42 (d := fnH_42) rfl, me_Book_repr := He.meth_ok (c.fact 100 (f := .meth "Book" "__repr__") rfl), d_Book_repr := c.def_ 43 (d := fnH_43) rfl }
  have txb : TxB K mg := { T := txt, ic_Book := ⟨He.cls_ok (c.fact 78 (f := .cls "Book") rfl), He.eqO_ok (hx 2 _ rfl), He.eqO_ok (hx 3 _ rfl), of_decide_eq_true (hx 4 _ rfl), of_decide_eq_true (hx 5 _ rfl), of_decide_eq_true (hx 6 _ rfl)⟩, ic_BookParts := ⟨He.cls_ok (c.fact 59 (f := .cls "BookParts") rfl), He.eqO_ok (hx 7 _ rfl), He.eqO_ok (hx 3 _ rfl), of_decide_eq_true (hx 4 _ rfl), of_decide_eq_true (hx 8 _ rfl), of_decide_eq_true (hx 9 _ rfl)⟩, ks_BookParts := of_decide_eq_true (hx 10 _ rfl), ks_Book := of_decide_eq_true (hx 11 _ rfl), ki_Book := of_decide_eq_true (hx 12 _ rfl), kl_Book := of_decide_eq_true (hx 13 _ rfl), ss_Book := of_decide_eq_true (hx 14 _ rfl), si_Book := of_decide_eq_true (hx 15 _ rfl), sl_Book := of_decide_eq_true (hx 16 _ rfl), ne_Book := He.eqO_ok (hx 17 _ rfl), of_Book := smet_of (hx 18 _ rfl), d_of := c.def_ 44 (d := fnH_44) rfl, p_kinds := ⟨_, prop_of (hx 19 _ rfl)⟩, d_kinds := c.def_ 45 (d := fnH_45) rfl, p_rules := ⟨_, prop_of (hx 20 _ rfl)⟩, d_rules := c.def_ 46 (d := fnH_46) rfl, p_text := ⟨_, prop_of (hx 21 _ rfl)⟩, d_text := c.def_ 47 (d := fnH_47) rfl }
  have nmfn : ∃ (fd : FuncData) (p1 p2 q1 q2 q3 q4 : Pos), FunD K "__init__" "NoSuch.__init__" (NmX.iA p1 p2) (NmX.iB q1 q2 q3 q4) NmX.iS [] [] (He.ma K (He.ga K "NoSuch") "__init__") fd := by
    obtain ⟨fd, F⟩ := c.def_ 48 (d := fnH_48) rfl
    exact ⟨fd, _, _, _, _, _, _, F⟩
  have txx : TxX K mg := { B := txb, g_NoSuch := He.glo_ok X G (c.fact 101 (f := .glo "NoSuch") rfl), nm := ⟨He.eqO_ok (hx 22 _ rfl), (hx 23 _ rfl), (hx 24 _ rfl), of_decide_eq_true (hx 25 _ rfl), He.eqO_ok (hx 26 _ rfl), He.eqO_ok (hx 27 _ rfl), He.eqO_ok (hx 28 _ rfl), He.eqO_ok (hx 29 _ rfl), of_decide_eq_true (hx 30 _ rfl), (hx 31 _ rfl), of_decide_eq_true (hx 32 _ rfl), of_decide_eq_true (hx 33 _ rfl), (hx 34 _ rfl), of_decide_eq_true (hx 35 _ rfl), nmfn⟩, xc := ⟨He.eqO_ok (hx 27 _ rfl), He.eqO_ok (hx 28 _ rfl), of_decide_eq_true (hx 32 _ rfl), (hx 34 _ rfl), He.eqO_ok (hx 36 _ rfl), He.eqO_ok (hx 3 _ rfl), of_decide_eq_true (hx 4 _ rfl), of_decide_eq_true (hx 37 _ rfl)⟩, kL := of_decide_eq_true (hx 38 _ rfl), kV := of_decide_eq_true (hx 39 _ rfl) }
  exact ⟨txx, c.def_ 49 (d := fnH_49) rfl, He.glo_ok X G (c.fact 102 (f := .glo "law") rfl)⟩
def loose1 : List Str := ["_wall", "BadBook", "TooMany", "NoSuch", "SMALL", "DIGITS", "LONGEST", "BARRED", "written_by", "plain_name", "first_double", "first_wrong", "LEAST_KINDS", "MOST_KINDS", "MOST_RULES", "MOST_ROWS", "WIDEST", "WIDTHS", "BookParts", "BookReader", "ordered_rows", "read_book", "wrong_kinds", "wrong_row"]
def loose2 : List Str := ["wrong_rows", "wrong_rules", "listed_book", "check_limits", "write_book", "Book", "_law_bag", "_law_draw", "_law_pick", "_law_shuffle", "_law_name", "_law_names", "_law_rows", "_law_book_text", "_law_words", "_law_number", "_law_wide", "_law_other", "_law_lost", "_law_row_list", "_law_norm_told", "_law_told"]
def looseH : List Str := loose1 ++ loose2
abbrev RH : PySem.W.OpenRow := PySem.W.OpenLaw.row PySem.Challenge.rw_smallclash_k00_book_texts_there_and_back
abbrev hkH : PySem.W.Hook := hookB 7 faH fnH exH
def obH (s : PySem.W.SharedT) : AlB := obsBG 7 faH fnH exH (HandSHeadRun.getT s)
theorem obH_eq (s : PySem.W.SharedT) : obH s = hkH.obs s.abs := obsBG_eq (HandSHeadRun.getT_eq s)
theorem runH (w : World) : HandSHeadRun.RunEq RH (PySem.W.view RH.prog [51]) hkH obH 6000 looseH w := by
  intro os
  kernel_rfl
end K0
set_option Elab.async false
set_option linter.all false
set_option maxRecDepth 100000
set_option maxHeartbeats 2000000
/-! the mathematics: lists, names -/
namespace K0
open PySem PySem.Spec PyProof.Rows L2 Fz
/-! ### plain evaluation -/
theorem szl : sizeLine = 16777216 := sizeLine_eq
section
variable {α β γ S ρ : Type}
theorem e_app {xs : List α} {x : α} (h : xs.length < 16777216) : Fm.app xs x = some (xs ++ [x]) := if_pos (by rw [szl]; exact h)
theorem e_catL {xs ys : List α} (h : xs.length + ys.length ≤ 16777216) : Fm.catL xs ys = some (xs ++ ys) := if_pos (by rw [szl]; exact h)
theorem e_catS {xs ys : Tx} (h : xs.length + ys.length ≤ 16777216) : Fm.catS xs ys = some (xs ++ ys) := if_pos (by rw [szl]; exact h)
theorem e_range {n : Nat} (h : n ≤ 16777216) : Fm.range (n : Int) = some ((List.range n).map fun (k : Nat) => (k : Int)) := by
  unfold Fm.range
  rw [if_pos (by omega)]
  rfl
theorem e_ix {xs : List α} {i : Nat} {x : α} (h : xs[i]? = some x) : Fm.ix xs (i : Int) = some x := by
  have hl := (List.getElem?_eq_some_iff.mp h).1
  unfold Fm.ix atI ixN
  rw [if_pos (by omega), if_pos (by omega)]
  exact h
theorem e_ixZ {xs : List α} {i : Int} {x : α} (h0 : 0 ≤ i) (h : xs[i.toNat]? = some x) : Fm.ix xs i = some x := by
  have := e_ix h
  rwa [Int.toNat_of_nonneg h0] at this
theorem e_ixS {xs : Tx} {i : Int} {c : Nat} (h0 : 0 ≤ i) (h : xs[i.toNat]? = some c) : Fm.ixS xs i = some [c] := by
  have : Fm.ix xs i = some c := e_ixZ h0 h
  unfold Fm.ixS
  rw [show atI xs i = Fm.ix xs i from rfl, this]
  rfl
theorem at_lt {xs : List α} {i : Int} (h0 : 0 ≤ i) (h : i < xs.length) : ∃ x, xs[i.toNat]? = some x ∧ x ∈ xs := by
  have hl : i.toNat < xs.length := by omega
  exact ⟨_, List.getElem?_eq_getElem hl, List.getElem_mem hl⟩
theorem fold_cons {f : S → α → Option S} {s s' : S} {x : α} {xs : List α} (h : f s x = some s') : fold f s (x :: xs) = fold f s' xs := by
  show (match f s x with | none => none | some s' => fold f s' xs) = _
  rw [h]
theorem fold_inv {f : S → α → Option S} {g : S → α → S} (I : List α → S → Prop) : ∀ {xs : List α} {s : S}, I xs s → (∀ x ys s, I (x :: ys) s → f s x = some (g s x) ∧ I ys (g s x)) → fold f s xs = some (xs.foldl g s)
  | [], s, _, _ => rfl
  | x :: xs, s, h, hf => by
    obtain ⟨e, h'⟩ := hf x xs s h
    rw [fold_cons e]
    exact fold_inv I h' hf
theorem fold_flat {f : List β → α → Option (List β)} {h : α → List β} (hf : ∀ st x, st.length + (h x).length ≤ 16777216 → f st x = some (st ++ h x)) : ∀ {xs : List α} {st : List β}, st.length + (xs.flatMap h).length ≤ 16777216 → fold f st xs = some (st ++ xs.flatMap h)
  | [], st, _ => by simp [fold]
  | x :: xs, st, hl => by
    rw [List.flatMap_cons, List.length_append] at hl
    rw [fold_cons (hf st x (by omega)), fold_flat hf (by rw [List.length_append]; omega), List.flatMap_cons, List.append_assoc]
theorem fold_flat' {f : List β → α → Option (List β)} {h : α → List β} : ∀ {xs : List α} {st : List β}, (∀ st, ∀ x ∈ xs, st.length + (h x).length ≤ 16777216 → f st x = some (st ++ h x)) → st.length + (xs.flatMap h).length ≤ 16777216 → fold f st xs = some (st ++ xs.flatMap h)
  | [], st, _, _ => by simp [fold]
  | x :: xs, st, hf, hl => by
    rw [List.flatMap_cons, List.length_append] at hl
    rw [fold_cons (hf st x (List.mem_cons_self ..) (by omega)), fold_flat' (fun st y hy => hf st y (List.mem_cons_of_mem _ hy)) (by rw [List.length_append]; omega), List.flatMap_cons, List.append_assoc]
theorem comp_some {f : α → Option (Option β)} {g : α → Option β} : ∀ {xs : List α}, (∀ x ∈ xs, f x = some (g x)) → comp f xs = some (xs.filterMap g)
  | [], _ => rfl
  | x :: xs, h => by
    unfold comp
    rw [h x (List.mem_cons_self ..), comp_some fun y hy => h y (List.mem_cons_of_mem _ hy)]
    cases e : g x with
    | none => rw [List.filterMap_cons_none e]
    | some y => rw [List.filterMap_cons_some e]; rfl
theorem comp_all {f : α → Option (Option β)} {g : α → β} {xs : List α} (h : ∀ x ∈ xs, f x = some (some (g x))) : comp f xs = some (xs.map g) := comp_map h
theorem comp_flt {f : α → Option (Option α)} {p : α → Bool} {xs : List α} (h : ∀ x ∈ xs, f x = some (if p x = true then some x else none)) : comp f xs = some (xs.filter p) := by
  rw [comp_some (g := fun x => if p x = true then some x else none) h]
  congr 1
  clear h
  induction xs with
  | nil => rfl
  | cons x xs ih =>
    cases e : p x with
    | true => rw [List.filterMap_cons_some (b := x) (by rw [if_pos e]), ih, List.filter_cons_of_pos e]
    | false => rw [List.filterMap_cons_none (by rw [if_neg (by rw [e]; decide)]), ih, List.filter_cons_of_neg (by rw [e]; decide)]
theorem loop_all {f : S → α → Option (Ct S ρ)} : ∀ {xs : List α} {s : S}, (∀ x ∈ xs, f s x = some (.go s)) → loop f s xs = some (.go s)
  | [], s, _ => rfl
  | x :: xs, s, h => by
    rw [loop_go (h x (List.mem_cons_self ..))]
    exact loop_all fun y hy => h y (List.mem_cons_of_mem _ hy)
theorem loop_inv {f : S → α → Option (Ct S ρ)} {g : S → α → S} (I : List α → S → Prop) : ∀ {xs : List α} {s : S}, I xs s → (∀ x ys s, I (x :: ys) s → f s x = some (.go (g s x)) ∧ I ys (g s x)) → loop f s xs = some (.go (xs.foldl g s))
  | [], s, _, _ => rfl
  | x :: xs, s, h, hf => by
    obtain ⟨e, h'⟩ := hf x xs s h
    rw [loop_go e]
    exact loop_inv I h' hf
theorem mem_iff [DecidableEq α] {a : α} {xs : List α} : mem a xs = true ↔ a ∈ xs := by
  unfold mem
  rw [List.any_eq_true]
  constructor
  · rintro ⟨y, hy, e⟩
    exact of_decide_eq_true e ▸ hy
  · exact fun h => ⟨a, h, decide_eq_true rfl⟩
theorem mem_false [DecidableEq α] {a : α} {xs : List α} : mem a xs = false ↔ a ∉ xs := by
  rw [← mem_iff, Bool.eq_false_iff]
theorem nodup_le [DecidableEq α] : ∀ {l m : List α}, l.Nodup → (∀ x ∈ l, x ∈ m) → l.length ≤ m.length
  | [], m, _, _ => Nat.zero_le _
  | x :: l, m, hn, hs => by
    obtain ⟨h1, h2⟩ := List.nodup_cons.mp hn
    have hx := hs x (List.mem_cons_self ..)
    have ih := nodup_le (m := m.erase x) h2 fun y hy => by
      refine (List.mem_erase_of_ne ?_).mpr (hs y (List.mem_cons_of_mem _ hy))
      rintro rfl
      exact h1 hy
    rw [List.length_erase_of_mem hx] at ih
    have := List.length_pos_of_mem hx
    rw [List.length_cons]
    omega
end
/-! ### names -/
structure Nm (w : Tx) : Prop where
  ne : w ≠ []
  len : w.length ≤ 8
  hd : ∀ c ∈ w.head?, c ∈ c_SMALL
  ch : ∀ c ∈ w, c ∈ c_SMALL ∨ c ∈ c_DIGITS
  nb : w ∉ c_BARRED
theorem sign_lt {c : Nat} (h : c ∈ c_SMALL ∨ c ∈ c_DIGITS) : 48 ≤ c ∧ c ≤ 122 := by
  rcases h with h | h
  · have : c_SMALL.all (fun c => decide (48 ≤ c ∧ c ≤ 122)) = true := by decide
    exact of_decide_eq_true (List.all_eq_true.mp this c h)
  · have : c_DIGITS.all (fun c => decide (48 ≤ c ∧ c ≤ 122)) = true := by decide
    exact of_decide_eq_true (List.all_eq_true.mp this c h)
theorem Nm.lt {w : Tx} (h : Nm w) {c : Nat} (hc : c ∈ w) : 48 ≤ c ∧ c ≤ 122 := sign_lt (h.ch c hc)
theorem Nm.plain {w : Tx} (h : Nm w) : m_plain_name w = some true := by
  obtain ⟨c, r, rfl⟩ := List.exists_cons_of_ne_nil h.ne
  have hc : c ∈ c_SMALL := h.hd c rfl
  have hw : m_written_by (c :: r) c_SMALL = some true := by
    unfold m_written_by
    have h1 : (!((decide ((1 : Int) ≤ (((c :: r)).length : Int))) && (decide ((((c :: r)).length : Int) ≤ (8 : Int))))) = false := by
      have := h.len
      rw [decide_eq_true (by rw [List.length_cons]; omega), decide_eq_true (by omega)]; rfl
    rw [h1, if_neg (by decide)]
    have h2 : Fm.ixS (c :: r) (0 : Int) = some [c] := e_ixS (by decide) rfl
    rw [h2, Option.bind_some, show Fm.inS [c] c_SMALL = some (decide (c ∈ c_SMALL)) from rfl, decide_eq_true hc, Option.bind_some, Option.bind_some]
    rw [if_neg (by decide)]
    rw [loop_all (fun x hx => ?_)]
    · rfl
    · obtain ⟨d, hd, rfl⟩ := List.mem_map.mp hx
      show (Option.bind (some (decide (d ∈ c_SMALL))) fun t23 => _) = _
      rw [Option.bind_some]
      by_cases z : d ∈ c_SMALL
      · rw [decide_eq_true z]; rfl
      · rw [decide_eq_false z]
        have hd2 : d ∈ c_DIGITS := (h.ch d hd).resolve_left z
        have e2 : Fm.inS [d] c_DIGITS = some true := by
          show some (decide (d ∈ c_DIGITS)) = some true
          rw [decide_eq_true hd2]
        simp only [Bool.not_false, if_true, Option.bind_some, e2, Bool.not_true, Bool.false_eq_true, if_false]
  unfold m_plain_name
  rw [hw, Option.bind_some, mem_false.mpr h.nb]
  rfl
abbrev signs : Tx := [101, 116, 97, 111, 105, 110, 115, 104, 114, 100, 108, 117, 99, 109, 102, 119, 121, 112, 118, 98, 103, 107, 113, 106, 120, 122, 48, 49, 50, 51, 52, 53, 54, 55, 56, 57]
theorem sign26 {i : Int} (h0 : 0 ≤ i) (h1 : i < 26) : ∃ c, signs[i.toNat]? = some c ∧ c ∈ c_SMALL := by
  have : (List.range 26).all (fun k => match signs[k]? with | some c => decide (c ∈ c_SMALL) | none => false) = true := by decide
  have := List.all_eq_true.mp this i.toNat (List.mem_range.mpr (by omega))
  split at this
  · rename_i c e
    exact ⟨c, e, of_decide_eq_true this⟩
  · cases this
theorem sign36 {i : Int} (h0 : 0 ≤ i) (h1 : i < 36) : ∃ c, signs[i.toNat]? = some c ∧ (c ∈ c_SMALL ∨ c ∈ c_DIGITS) := by
  have : (List.range 36).all (fun k => match signs[k]? with | some c => decide (c ∈ c_SMALL ∨ c ∈ c_DIGITS) | none => false) = true := by decide
  have := List.all_eq_true.mp this i.toNat (List.mem_range.mpr (by omega))
  split at this
  · rename_i c e
    exact ⟨c, e, of_decide_eq_true this⟩
  · cases this
abbrev barStr : Tx := [98, 111, 111, 107, 32, 98, 111, 97, 114, 100, 32, 107, 105, 110, 100, 115, 32, 114, 117, 108, 101, 32, 112, 108, 97, 99, 101, 115, 32, 100, 101, 109, 97, 110, 100, 32, 119, 105, 115, 104, 32, 100, 111, 110, 101, 32, 115, 116, 114, 105, 107, 101, 32, 115, 116, 114, 105, 107, 101, 115, 32, 99, 104, 97, 110, 103, 101, 32, 99, 104, 97, 110, 103, 101, 115, 32, 109, 105, 120, 32, 103, 105, 118, 101, 115, 32, 108, 101, 97, 100, 115, 32, 116, 114, 101, 101, 32, 97, 115, 32, 110, 111, 110, 101]
theorem bar_split : Fm.split barStr [32] = some c_BARRED := by decide +kernel
/-- n0, n1, .. -/
def spareN (k : Int) : Tx := 110 :: Fz.strI k
theorem spare_ok : (List.range 40).all (fun k => decide ((spareN (k : Int)).length ≤ 8) && ((Fz.strI (k : Int)).all fun c => decide (c ∈ c_DIGITS)) && decide (spareN (k : Int) ∉ c_BARRED) && decide (Fm.strI (k : Int) = some (Fz.strI (k : Int)))) = true := by decide +kernel
theorem spare_nd : ((List.range 40).map fun (k : Nat) => spareN (k : Int)).Nodup := by decide +kernel
end K0
set_option Elab.async false
set_option linter.all false
set_option maxRecDepth 100000
set_option maxHeartbeats 2000000
/-! the mathematics: drawn names -/
namespace K0
open PySem PySem.Spec PyProof.Rows L2 Fz
theorem spare_nm {k : Nat} (h : k < 40) : Nm (spareN (k : Int)) ∧ Fm.strI (k : Int) = some (Fz.strI (k : Int)) := by
  have := List.all_eq_true.mp spare_ok k (List.mem_range.mpr h)
  simp only [Bool.and_eq_true, decide_eq_true_eq] at this
  obtain ⟨⟨⟨h1, h2⟩, h3⟩, h4⟩ := this
  refine ⟨⟨List.cons_ne_nil _ _, h1, fun c hc => ?_, fun c hc => ?_, h3⟩, h4⟩
  · cases hc; decide
  · rcases List.mem_cons.mp hc with rfl | h
    · exact .inl (by decide)
    · exact .inr (of_decide_eq_true (List.all_eq_true.mp h2 c h))
theorem law_name_ok {taken : List Tx} (ht : taken.length ≤ 30) {post : Tx → Prop} (hp : ∀ w, Nm w → w ∉ taken → post w) : m_law_name taken post := by
  unfold m_law_name
  simp only [wbind2, wret, wbind, wopt, wdraw, sm_law_draw]
  refine ⟨⟨by decide, by decide⟩, fun i i0 i1 => ?_⟩
  obtain ⟨c, hc, hcs⟩ := sign26 i0 i1
  refine ⟨[c], e_ixS i0 hc, ⟨by decide, by decide⟩, fun j j0 j1 => ?_⟩
  obtain ⟨n, hn, hn0, hn7⟩ : ∃ n : Nat, Fm.ix ([(0 : Int), (0 : Int), (1 : Int), (1 : Int), (2 : Int), (3 : Int), (6 : Int), (7 : Int)] : List Int) j = some (n : Int) ∧ True ∧ n ≤ 7 := by
    obtain ⟨x, hx, hm⟩ := at_lt (xs := ([(0 : Int), (0 : Int), (1 : Int), (1 : Int), (2 : Int), (3 : Int), (6 : Int), (7 : Int)] : List Int)) j0 j1
    refine ⟨x.toNat, ?_, trivial, ?_⟩
    · rw [e_ixZ j0 hx]
      simp only [List.mem_cons, List.not_mem_nil, or_false] at hm
      rcases hm with rfl | rfl | rfl | rfl | rfl | rfl | rfl | rfl <;> rfl
    · simp only [List.mem_cons, List.not_mem_nil, or_false] at hm
      rcases hm with rfl | rfl | rfl | rfl | rfl | rfl | rfl | rfl <;> decide
  refine ⟨_, hn, _, e_range (by omega), ?_⟩
  refine wfor_all (I := fun ys (st : Tx) => st ≠ [] ∧ st.length + ys.length ≤ 8 ∧ (∀ c ∈ st.head?, c ∈ c_SMALL) ∧ ∀ c ∈ st, c ∈ c_SMALL ∨ c ∈ c_DIGITS) ⟨List.cons_ne_nil _ _, by rw [List.length_map, List.length_range]; show 1 + n ≤ 8; omega, fun d hd => by cases hd; exact hcs, fun d hd => by rw [List.mem_singleton.mp hd]; exact .inl hcs⟩ (fun x ys st k kb ⟨a1, a2, a3, a4⟩ hk => ?_) (fun st ⟨a1, a2, a3, a4⟩ => ?_)
  · refine ⟨⟨by decide, by decide⟩, fun l l0 l1 => ?_⟩
    obtain ⟨d, hd, hds⟩ := sign36 l0 l1
    rw [List.length_cons] at a2
    refine ⟨[d], e_ixS l0 hd, st ++ [d], e_catS (by show st.length + 1 ≤ _; omega), hk _ ⟨by simp, by rw [List.length_append]; show st.length + 1 + ys.length ≤ 8; omega, fun c hc => ?_, fun c hc => ?_⟩⟩
    · obtain ⟨c0, r0, rfl⟩ := List.exists_cons_of_ne_nil a1
      exact a3 c hc
    · rcases List.mem_append.mp hc with h | h
      · exact a4 c h
      · rw [List.mem_singleton.mp h]; exact hds
  · have hsp : Fm.split barStr [32] = some c_BARRED := bar_split
    refine ⟨mem st taken || mem st c_BARRED, ?_, fun hb => ?_, fun hb => ?_⟩
    · cases e : mem st taken with
      | true => rfl
      | false =>
        rw [if_neg (by decide)]
        show Option.bind (Fm.split barStr [32]) _ = _
        rw [hsp, Option.bind_some, Bool.false_or]
    · refine ⟨_, e_range (n := taken.length + 1) (by omega), ?_⟩
      refine ⟨((List.range (taken.length + 1)).map fun (k : Nat) => (k : Int)).map spareN, comp_all fun x hx => ?_, ?_⟩
      · obtain ⟨k, hk, rfl⟩ := List.mem_map.mp hx
        have hk := List.mem_range.mp hk
        rw [(spare_nm (k := k) (by omega)).2, Option.bind_some]
        have hl := (spare_nm (k := k) (by omega)).1.len
        unfold spareN at hl
        rw [List.length_cons] at hl
        rw [e_catS (by show 1 + _ ≤ _; omega)]
        rfl
      · refine ⟨_, comp_flt (p := fun x => !mem x taken) fun x _ => ?_, ?_⟩
        · cases mem x taken <;> rfl
        · have hne : (((List.range (taken.length + 1)).map fun (k : Nat) => (k : Int)).map spareN).filter (fun x => !mem x taken) ≠ [] := fun z => by
            have hall : ∀ x ∈ (List.range (taken.length + 1)).map fun (k : Nat) => spareN (k : Int), x ∈ taken := fun x hx => by
              have hx' : x ∈ ((List.range (taken.length + 1)).map fun (k : Nat) => (k : Int)).map spareN := by rw [List.map_map]; exact hx
              have := List.filter_eq_nil_iff.mp z x hx'
              rw [Bool.not_eq_true, Bool.not_eq_false'] at this
              exact mem_iff.mp this
            have hnd : ((List.range (taken.length + 1)).map fun (k : Nat) => spareN (k : Int)).Nodup := by
              have hs : ((List.range (taken.length + 1)).map fun (k : Nat) => spareN (k : Int)).Sublist ((List.range 40).map fun (k : Nat) => spareN (k : Int)) := by
                refine List.Sublist.map _ ?_
                have : List.range (taken.length + 1) = (List.range 40).take (taken.length + 1) := by
                  rw [List.take_range]; congr 1; omega
                rw [this]
                exact List.take_sublist _ _
              exact hs.nodup spare_nd
            have := nodup_le hnd hall
            rw [List.length_map, List.length_range] at this
            omega
          obtain ⟨x, r, hx⟩ := List.exists_cons_of_ne_nil hne
          rw [hx]
          refine ⟨x, e_ixZ (by decide) rfl, ?_⟩
          have hm : x ∈ (((List.range (taken.length + 1)).map fun (k : Nat) => (k : Int)).map spareN).filter (fun x => !mem x taken) := by rw [hx]; exact List.mem_cons_self ..
          obtain ⟨hm1, hm2⟩ := List.mem_filter.mp hm
          obtain ⟨z, hz, rfl⟩ := List.mem_map.mp hm1
          obtain ⟨k, hk, rfl⟩ := List.mem_map.mp hz
          have hk := List.mem_range.mp hk
          refine hp _ (spare_nm (k := k) (by omega)).1 (mem_false.mp ?_)
          rw [Bool.not_eq_true'] at hm2
          exact hm2
    · rw [Bool.or_eq_false_iff] at hb
      exact hp st ⟨a1, by simpa using a2, a3, a4, mem_false.mp hb.2⟩ (mem_false.mp hb.1)
/-- so many names, none taken -/
theorem law_names_ok {many : Nat} {taken : List Tx} (ht : taken.length + many ≤ 30) {post : List Tx → Prop} (hp : ∀ ws, ws.length = many → (∀ w ∈ ws, Nm w) → ws.Nodup → (∀ w ∈ ws, w ∉ taken) → post ws) : m_law_names (many : Int) taken post := by
  unfold m_law_names
  simp only [wbind, wopt, sm_law_name]
  refine ⟨_, e_range (by omega), ?_⟩
  refine wfor_all (I := fun ys (st : List Tx) => st.length + ys.length = many ∧ (∀ w ∈ st, Nm w) ∧ st.Nodup ∧ ∀ w ∈ st, w ∉ taken) ⟨by simp, (fun _ h => nomatch h), List.nodup_nil, fun _ h => nomatch h⟩ (fun x ys st k kb ⟨a1, a2, a3, a4⟩ hk => ?_) (fun st ⟨a1, a2, a3, a4⟩ => hp st (by simpa using a1) a2 a3 a4)
  rw [List.length_cons] at a1
  refine ⟨taken ++ st, e_catL (by omega), law_name_ok (by rw [List.length_append]; omega) fun w hw hn => ?_⟩
  have hn1 : w ∉ taken := fun h => hn (List.mem_append_left _ h)
  have hn2 : w ∉ st := fun h => hn (List.mem_append_right _ h)
  refine ⟨st ++ [w], e_app (by omega), hk _ ⟨by rw [List.length_append]; show st.length + 1 + ys.length = many; omega, fun x hx => ?_, ?_, fun x hx => ?_⟩⟩
  · rcases List.mem_append.mp hx with h | h
    · exact a2 x h
    · rw [List.mem_singleton.mp h]; exact hw
  · rw [List.nodup_append]
    exact ⟨a3, by simp, fun x hx y hy => by rw [List.mem_singleton.mp hy]; rintro rfl; exact hn2 hx⟩
  · rcases List.mem_append.mp hx with h | h
    · exact a4 x h
    · rw [List.mem_singleton.mp h]; exact hn1
end K0
set_option Elab.async false
set_option linter.all false
set_option maxRecDepth 100000
set_option maxHeartbeats 2000000
/-! the mathematics: the drawn book -/
namespace K0
open PySem PySem.Spec PyProof.Rows L2 Fz
def allRows (ks : List Tx) : Nat → List (List Tx)
  | 0 => [[]]
  | n + 1 => (allRows ks n).flatMap fun r => ks.map fun k => r ++ [k]
theorem allRows_len (ks : List Tx) : ∀ n, (allRows ks n).length = ks.length ^ n
  | 0 => rfl
  | n + 1 => by
    show ((allRows ks n).flatMap fun r => ks.map fun k => r ++ [k]).length = _
    have : ∀ l : List (List Tx), (l.flatMap fun r => ks.map fun k => r ++ [k]).length = l.length * ks.length := fun l => by
      induction l with
      | nil => simp
      | cons x l ih => rw [List.flatMap_cons, List.length_append, ih, List.length_map, List.length_cons, Nat.succ_mul]; omega
    rw [this, allRows_len ks n, Nat.pow_succ]
theorem allRows_row {ks : List Tx} : ∀ {n : Nat} {r : List Tx}, r ∈ allRows ks n → r.length = n ∧ ∀ k ∈ r, k ∈ ks
  | 0, r, h => by
    rw [List.mem_singleton.mp h]
    exact ⟨rfl, fun _ h => nomatch h⟩
  | n + 1, r, h => by
    obtain ⟨q, hq, hr⟩ := List.mem_flatMap.mp h
    obtain ⟨k, hk, rfl⟩ := List.mem_map.mp hr
    obtain ⟨h1, h2⟩ := allRows_row hq
    refine ⟨by rw [List.length_append, h1]; rfl, fun x hx => ?_⟩
    rcases List.mem_append.mp hx with h | h
    · exact h2 x h
    · rw [List.mem_singleton.mp h]; exact hk
theorem allRows_le {ks : List Tx} (hk : ks.length ≤ 6) {n : Nat} (hn : n ≤ 4) : (allRows ks n).length ≤ 1296 := by
  rw [allRows_len]
  have h1 : ks.length ^ n ≤ 6 ^ n := Nat.pow_le_pow_left hk n
  have h2 : 6 ^ n ≤ 6 ^ 4 := Nat.pow_le_pow_right (by decide) hn
  exact Nat.le_trans h1 h2
theorem rows_ok {ks : List Tx} (hk : ks.length ≤ 6) {n : Nat} (hn : n ≤ 4) : m_law_rows ks (n : Int) = some (allRows ks n) := by
  unfold m_law_rows
  rw [e_range (by omega), Option.bind_some]
  have key : ∀ (ys : List Int) (i : Nat), i + ys.length ≤ 4 → fold (fun (st4 : (List (List Tx))) (x5 : Int) => Option.bind (fold (fun (st17 : (List (List Tx))) (x18 : (List Tx)) => Option.bind (fold (fun (st28 : (List (List Tx))) (x29 : Tx) => (Option.bind (Fm.catL x18 [x29]) fun t39 => Option.bind (Fm.app st28 t39) fun t41 => some t41)) st17 ks) fun st45 => some st45) ([] : List (List Tx)) st4) fun st47 => some st47) (allRows ks i) ys = some (allRows ks (i + ys.length)) := by
    intro ys
    induction ys with
    | nil => intro i _; rfl
    | cons y ys ih =>
      intro i hi
      rw [List.length_cons] at hi
      rw [fold_cons (s' := allRows ks (i + 1))]
      · rw [ih (i + 1) (by omega), List.length_cons]; congr 2; omega
      · have hsz := allRows_le (ks := ks) hk (n := i + 1) (by omega)
        have := fold_flat' (f := fun (st17 : (List (List Tx))) (x18 : (List Tx)) => Option.bind (fold (fun (st28 : (List (List Tx))) (x29 : Tx) => (Option.bind (Fm.catL x18 [x29]) fun t39 => Option.bind (Fm.app st28 t39) fun t41 => some t41)) st17 ks) fun st45 => some st45) (h := fun r => ks.map fun k => r ++ [k]) (xs := allRows ks i) (st := []) (fun st r hr hl => by
          rw [List.length_map] at hl
          have hrl := (allRows_row hr).1
          have h2 := fold_flat' (f := fun (st28 : (List (List Tx))) (x29 : Tx) => (Option.bind (Fm.catL r [x29]) fun t39 => Option.bind (Fm.app st28 t39) fun t41 => some t41)) (h := fun k => [r ++ [k]]) (xs := ks) (st := st) (fun st k _ hl => by
            have hl : st.length + 1 ≤ 16777216 := hl
            rw [e_catL (by show r.length + 1 ≤ _; omega), Option.bind_some, e_app (by omega)]; rfl) (by
            rw [← List.map_eq_flatMap, List.length_map]; exact hl)
          rw [h2, ← List.map_eq_flatMap]; rfl) (by show 0 + (allRows ks (i + 1)).length ≤ _; omega)
        rw [this]; rfl
  rw [show ([([] : List Tx)] : List (List Tx)) = allRows ks 0 from rfl, key _ 0 (by rw [List.length_map, List.length_range]; omega), Option.bind_some, List.length_map, List.length_range, Nat.zero_add]
/-- a drawn book -/
structure Okb (B : Nat) (sp : Spc) : Prop where
  k2 : 2 ≤ sp.1.length
  k6 : sp.1.length ≤ 6
  kn : ∀ w ∈ sp.1, Nm w
  kd : sp.1.Nodup
  n8 : sp.2.length ≤ 8
  nn : ∀ n ∈ sp.2, Nm n.1
  nd : (sp.2.map fun n => n.1).Nodup
  nw : ∀ n ∈ sp.2, ∃ w : Nat, n.2.1 = (w : Int) ∧ 1 ≤ w ∧ w ≤ 4 ∧ n.2.2.Sublist (allRows sp.1 w)
  nl : ∀ n ∈ sp.2, n.2.2.length ≤ B
theorem nodup_set {α : Type} : ∀ {xs : List α} {i : Nat} {a : α}, xs.Nodup → a ∉ xs → (xs.set i a).Nodup
  | [], _, _, h, _ => h
  | x :: xs, 0, a, h, hn => List.nodup_cons.mpr ⟨fun z => hn (List.mem_cons_of_mem _ z), (List.nodup_cons.mp h).2⟩
  | x :: xs, i + 1, a, h, hn => by
    obtain ⟨h1, h2⟩ := List.nodup_cons.mp h
    refine List.nodup_cons.mpr ⟨fun z => ?_, nodup_set h2 fun z => hn (List.mem_cons_of_mem _ z)⟩
    rcases List.mem_or_eq_of_mem_set z with z | z
    · exact h1 z
    · exact hn (by rw [z]; exact List.mem_cons_self ..)
theorem filterMap_sub {α : Type} (xs : List α) (p : Nat → Bool) : ∀ (n i : Nat), i + n ≤ xs.length → (((List.range' i n).filterMap fun k => if p k = true then xs[k]? else none)).Sublist (xs.drop i)
  | 0, i, _ => List.nil_sublist _
  | n + 1, i, h => by
    rw [List.range'_succ]
    have e : xs.drop i = xs[i] :: xs.drop (i + 1) := List.drop_eq_getElem_cons (by omega)
    rw [e]
    have ih := filterMap_sub xs p n (i + 1) (by omega)
    cases q : p i with
    | true => rw [List.filterMap_cons_some (b := xs[i]) (by rw [if_pos q]; exact List.getElem?_eq_getElem _)]; exact ih.cons₂ _
    | false => rw [List.filterMap_cons_none (by rw [if_neg (by rw [q]; decide)])]; exact ih.cons _
theorem draw_pos {many : Int} {p : Int → Prop} (h0 : 0 < many) (h1 : many < 1073741824) (h : ∀ k : Nat, (k : Int) < many → p (k : Int)) : wdraw many p := ⟨⟨h0, h1⟩, fun k k0 k1 => by
  have := h k.toNat (by omega)
  rwa [Int.toNat_of_nonneg k0] at this⟩
end K0
set_option Elab.async false
set_option linter.all false
set_option maxRecDepth 100000
set_option maxHeartbeats 2000000
/-! the mathematics: the book is drawn -/
namespace K0
open PySem PySem.Spec PyProof.Rows L2 Fz
theorem pick_of {xs : List Int} {P : Int → Prop} (h : ∀ x ∈ xs, P x) {j : Int} (j0 : 0 ≤ j) (j1 : j < xs.length) : ∃ x, Fm.ix xs j = some x ∧ P x := by
  obtain ⟨x, hx, hm⟩ := at_lt j0 j1
  exact ⟨x, e_ixZ j0 hx, h x hm⟩
theorem F2.mem {α β : Type} {r : α → β → Prop} : ∀ {xs : List α} {ys : List β}, F2 r xs ys → ∀ y ∈ ys, ∃ x ∈ xs, r x y
  | _, _, .nil, _, h => by cases h
  | _, _, .cons h t, y, hy => by
    rcases List.mem_cons.mp hy with rfl | h1
    · exact ⟨_, List.mem_cons_self .., h⟩
    · obtain ⟨x, hx, hr⟩ := F2.mem t y h1
      exact ⟨x, List.mem_cons_of_mem _ hx, hr⟩
theorem range_cons {n : Nat} {x : Int} {ys : List Int} {ds : List Int} (h : ds ++ x :: ys = (List.range n).map fun (k : Nat) => (k : Int)) : x = (ds.length : Int) ∧ ds.length < n := by
  have h1 : ((List.range n).map fun (k : Nat) => (k : Int))[ds.length]? = some x := by rw [← h, List.getElem?_append_right (Nat.le_refl _), Nat.sub_self]; rfl
  rw [List.getElem?_map] at h1
  obtain ⟨k, hk, e⟩ := Option.map_eq_some_iff.mp h1
  obtain ⟨hl, e2⟩ := List.getElem?_eq_some_iff.mp hk
  rw [List.length_range] at hl
  rw [List.getElem_range] at e2
  exact ⟨by rw [← e, ← e2], hl⟩
theorem cut60 (xs : List (List Tx)) : (Fm.cut xs none (some 60)).length ≤ 60 := by
  unfold Fm.cut
  rw [List.length_take, show HT.sIx xs.length xs.length (some (60 : Int)) = min 60 xs.length from HT.sIx_nat _ _ 60]
  omega
theorem wj {S : Type} {F : (S → Prop) → Prop} {k : S → Prop} (R : S → Prop) (hF : ∀ kj : S → Prop, (∀ s, R s → kj s) → F kj) (hk : ∀ s, R s → k s) : wjoin F k := hF k hk
theorem law_wide_ok {post : Spc → Prop} (hp : ∀ sp, Okb 60 sp → post sp) : m_law_wide post := by
  unfold m_law_wide
  simp only [wbind2, wret, wbind, wopt, wdraw, sm_law_draw, wpair, wand, sm_law_names]
  refine ⟨⟨by decide, by decide⟩, fun i i0 i1 => ?_⟩
  obtain ⟨m, hm, hmP⟩ := pick_of (xs := ([(2 : Int), (3 : Int), (4 : Int), (2 : Int), (3 : Int), (5 : Int), (6 : Int)] : List Int)) (P := fun x => 2 ≤ x ∧ x ≤ 6) (by decide) i0 i1
  refine ⟨m, hm, ?_⟩
  obtain ⟨mn, rfl⟩ : ∃ n : Nat, m = (n : Int) := ⟨m.toNat, (Int.toNat_of_nonneg (by omega)).symm⟩
  refine law_names_ok (by show 0 + mn ≤ 30; omega) fun sorts hsl hsn hsd _ => ?_
  refine ⟨⟨by decide, by decide⟩, fun j j0 j1 => ?_⟩
  obtain ⟨m2, hm2, hm2P⟩ := pick_of (xs := ([(1 : Int), (2 : Int), (1 : Int), (3 : Int), (2 : Int), (0 : Int), (4 : Int), (2 : Int), (8 : Int)] : List Int)) (P := fun x => 0 ≤ x ∧ x ≤ 8) (by decide) j0 j1
  refine ⟨m2, hm2, ?_⟩
  obtain ⟨mw, rfl⟩ : ∃ n : Nat, m2 = (n : Int) := ⟨m2.toNat, (Int.toNat_of_nonneg (by omega)).symm⟩
  refine law_names_ok (by show 0 + mw ≤ 30; omega) fun words0 hwl hwn hwd _ => ?_
  refine wj (R := fun words => words.length ≤ 8 ∧ (∀ w ∈ words, Nm w) ∧ words.Nodup) (fun kj hkj => ?_) (fun words ⟨hwl, hwn, hwd⟩ => ?_)
  · have hs0 : ∃ s0, Fm.ix sorts (0 : Int) = some s0 ∧ Nm s0 := by
      obtain ⟨x, hx, hm⟩ := at_lt (xs := sorts) (i := 0) (by decide) (by omega)
      exact ⟨x, e_ixZ (by decide) hx, hsn x hm⟩
    obtain ⟨s0, hs0, hs0n⟩ := hs0
    have fin : ∀ b : Bool, (b = true → words0 ≠ [] ∧ mem s0 words0 = false) → wif b (∃ a, Fm.ix sorts 0 = some a ∧ ∃ a_1, Fm.setI words0 (-1) a = some a_1 ∧ kj a_1) (kj words0) := fun b hb => ⟨fun e => ?_, fun _ => hkj _ ⟨by omega, hwn, hwd⟩⟩
    · refine ⟨fun hb => ⟨⟨by decide, by decide⟩, fun d _ _ => ⟨fun hd => ⟨s0, hs0, fin _ fun h => ⟨fun z => ?_, ?_⟩⟩, fun _ => fin _ fun h => by cases h⟩⟩, fun _ => fin _ fun h => by cases h⟩
      · rw [z] at hb; simp at hb
      · simpa using h
    · obtain ⟨hne, hs⟩ := hb e
      have hpos : 0 < words0.length := List.length_pos_iff.mpr hne
      refine ⟨s0, hs0, words0.set (words0.length - 1) s0, ?_, hkj _ ⟨by rw [List.length_set]; omega, fun w hw => ?_, nodup_set hwd (mem_false.mp hs)⟩⟩
      · unfold Fm.setI ixN
        rw [if_neg (by decide), if_pos (by omega)]
        show some (words0.set _ s0) = _
        congr 2; omega
      · rcases List.mem_or_eq_of_mem_set hw with z | z
        · exact hwn w z
        · rw [z]; exact hs0n
  · refine wfor_all (I := fun ys (norms : List Norm) => ∃ ds, ds ++ ys = words ∧ (norms.map fun n => n.1) = ds ∧ ∀ n ∈ norms, ∃ w : Nat, n.2.1 = (w : Int) ∧ 1 ≤ w ∧ w ≤ 4 ∧ n.2.2.Sublist (allRows sorts w) ∧ n.2.2.length ≤ 60) ⟨[], rfl, rfl, fun _ h => nomatch h⟩ (fun word ys norms k kb ⟨ds, e1, e2, e3⟩ hk => ?_) (fun norms ⟨ds, e1, e2, e3⟩ => ?_)
    · obtain ⟨c, hc, hcP⟩ : ∃ c : Nat, Fm.ix ([(4 : Int), (4 : Int), (4 : Int), (4 : Int), (3 : Int), (2 : Int), (2 : Int)] : List Int) (mn : Int) = some (c : Int) ∧ 1 ≤ c ∧ c ≤ 4 := by
        obtain ⟨x, hx, h1, h2⟩ := pick_of (xs := ([(4 : Int), (4 : Int), (4 : Int), (4 : Int), (3 : Int), (2 : Int), (2 : Int)] : List Int)) (P := fun x => 1 ≤ x ∧ x ≤ 4) (by decide) (j := (mn : Int)) (by omega) (by show (mn : Int) < 7; omega)
        exact ⟨x.toNat, by rw [hx, Int.toNat_of_nonneg (by omega)], by omega, by omega⟩
      refine ⟨(c : Int), hc, ⟨by omega, by omega⟩, fun z z0 z1 => ?_⟩
      obtain ⟨w, hw⟩ : ∃ w : Nat, 1 + z = (w : Int) := ⟨(1 + z).toNat, (Int.toNat_of_nonneg (by omega)).symm⟩
      rw [hw]
      refine ⟨_, rows_ok (by omega) (by omega), ⟨by decide, by decide⟩, fun y y0 y1 => ?_⟩
      obtain ⟨ch, hch, hchP⟩ := pick_of (xs := ([(10 : Int), (5 : Int), (3 : Int), (8 : Int), (0 : Int), (6 : Int)] : List Int)) (P := fun x => 0 ≤ x ∧ x ≤ 10) (by decide) y0 y1
      have hal := allRows_le (ks := sorts) (by omega) (n := w) (by omega)
      refine ⟨ch, hch, _, e_range (by omega), ?_⟩
      have rest2 : ∀ rows : List (List Tx), rows.Sublist (allRows sorts w) → rows.length ≤ 60 → ∃ a, Fm.app norms (word, (w : Int), rows) = some a ∧ k a := fun rows hs hl => by
        refine ⟨_, e_app (by
          have h1 := congrArg List.length e1
          have h2 := congrArg List.length e2
          rw [List.length_append, List.length_cons] at h1
          rw [List.length_map] at h2
          omega), hk _ ⟨ds ++ [word], by rw [← e1]; simp, by rw [List.map_append, e2]; rfl, fun n hn => ?_⟩⟩
        rcases List.mem_append.mp hn with h | h
        · exact e3 n h
        · rw [List.mem_singleton.mp h]
          exact ⟨w, rfl, by omega, by omega, hs, hl⟩
      refine wfor_all (I := fun ys (st : List (List Tx)) => ∃ ds, ds ++ ys = (List.range (allRows sorts w).length).map (fun (k : Nat) => (k : Int)) ∧ st.Sublist ((allRows sorts w).take ds.length)) ⟨[], rfl, List.nil_sublist _⟩ (fun x ys st k kb ⟨ds, a1, a2⟩ hk => ?_) (fun st ⟨ds, a1, a2⟩ => ?_)
      · obtain ⟨rfl, hxl⟩ := range_cons a1
        have adv : ∀ st', st'.Sublist ((allRows sorts w).take (ds.length + 1)) → k st' := fun st' h => hk st' ⟨ds ++ [(ds.length : Int)], by rw [← a1]; simp, by rw [List.length_append]; exact h⟩
        have hst : st.Sublist ((allRows sorts w).take (ds.length + 1)) := a2.trans (by
          have : (allRows sorts w).take ds.length = ((allRows sorts w).take (ds.length + 1)).take ds.length := by rw [List.take_take, Nat.min_eq_left (by omega)]
          rw [this]; exact List.take_sublist _ _)
        have hall : ∀ b : Bool, wif b (∃ a, Fm.ix (allRows sorts w) (ds.length : Int) = some a ∧ ∃ a_1, Fm.app st a = some a_1 ∧ k a_1) (k st) := fun b => by
          refine ⟨fun _ => ⟨_, e_ix (List.getElem?_eq_getElem hxl), _, e_app (by have := a2.length_le; rw [List.length_take] at this; omega), adv _ ?_⟩, fun _ => adv _ hst⟩
          rw [List.take_succ_eq_append_getElem hxl]
          exact a2.append (List.Sublist.refl _)
        exact ⟨fun _ => ⟨⟨by decide, by decide⟩, fun _ _ _ => hall _⟩, fun _ => hall _⟩
      · rw [List.append_nil] at a1
        have hdl : ds.length = (allRows sorts w).length := by rw [a1]; simp
        rw [hdl, List.take_length] at a2
        refine ⟨fun hb => ?_, fun hb => rest2 st a2 ?_⟩
        · have hb := of_decide_eq_true hb
          refine ⟨ch * 4, if_pos (.inr (by decide)), ?_⟩
          obtain ⟨sn, hsn', hs12⟩ : ∃ sn : Nat, (if (12 : Int) < ch * 4 then (12 : Int) else ch * 4) = (sn : Int) ∧ sn ≤ 12 := by
            refine ⟨(if (12 : Int) < ch * 4 then (12 : Int) else ch * 4).toNat, (Int.toNat_of_nonneg (by split <;> omega)).symm, by split <;> omega⟩
          rw [hsn']
          refine ⟨_, e_range (by omega), ?_⟩
          refine wcomp_all (r := fun _ _ => True) (fun x _ p hp => ⟨⟨by omega, by omega⟩, fun o _ _ => hp o trivial⟩) fun seats hseats => ?_
          have hsl' : (sortI seats).length ≤ 12 := by
            have := F2.len hseats
            rw [List.length_map, List.length_range] at this
            unfold sortI
            rw [List.length_mergeSort]; omega
          refine ⟨_, e_range (by omega), ?_⟩
          have hcomp : comp (fun (x132 : Int) => ((if (mem x132 (sortI seats)) = true then (Option.bind (Fm.ix (allRows sorts w) x132) fun t133 => some (some t133)) else some none))) ((List.range (allRows sorts w).length).map fun (k : Nat) => (k : Int)) = some ((List.range (allRows sorts w).length).filterMap fun (k : Nat) => if mem (k : Int) (sortI seats) = true then (allRows sorts w)[k]? else none) := by
            rw [comp_some (g := fun x : Int => if mem x (sortI seats) = true then (allRows sorts w)[x.toNat]? else none) (fun x hx => ?_), List.filterMap_map]
            · rfl
            · obtain ⟨q, hq, rfl⟩ := List.mem_map.mp hx
              have hq := List.mem_range.mp hq
              by_cases c : mem (q : Int) (sortI seats) = true
              · rw [if_pos c, if_pos c, e_ix (List.getElem?_eq_getElem hq), Int.toNat_natCast, List.getElem?_eq_getElem hq]; rfl
              · rw [if_neg c, if_neg c]
          refine ⟨_, hcomp, fun h10 => ?_, fun h10 => ?_⟩
          · refine ⟨⟨by decide, by decide⟩, fun o o0 o1 => rest2 _ ?_ ?_⟩
            · unfold Fm.cut
              exact (List.take_sublist _ _).trans ((List.drop_sublist _ _).trans ((List.take_sublist _ _).trans (List.drop_sublist _ _)))
            · exact cut60 _
          · refine rest2 _ ?_ ?_
            · have := filterMap_sub (allRows sorts w) (fun (k : Nat) => mem (k : Int) (sortI seats)) (allRows sorts w).length 0 (by omega)
              rw [List.drop_zero, ← List.range_eq_range'] at this
              exact this
            · have h1 : ((List.range (allRows sorts w).length).filterMap fun (k : Nat) => if mem (k : Int) (sortI seats) = true then (allRows sorts w)[k]? else none).length ≤ ((List.range (allRows sorts w).length).filter fun (k : Nat) => mem (k : Int) (sortI seats)).length := by
                generalize List.range (allRows sorts w).length = l
                induction l with
                | nil => exact Nat.le_refl _
                | cons q l ih =>
                  cases c : mem (q : Int) (sortI seats) with
                  | true =>
                    rw [List.filter_cons_of_pos (p := fun (k : Nat) => mem (k : Int) (sortI seats)) c, List.length_cons]
                    cases e : (allRows sorts w)[q]? with
                    | none => rw [List.filterMap_cons_none (by rw [if_pos c, e])]; omega
                    | some r => rw [List.filterMap_cons_some (b := r) (by rw [if_pos c, e]), List.length_cons]; omega
                  | false =>
                    rw [List.filter_cons_of_neg (p := fun (k : Nat) => mem (k : Int) (sortI seats)) (by show ¬ mem (q : Int) (sortI seats) = true; rw [c]; decide), List.filterMap_cons_none (by rw [if_neg (by rw [c]; decide)])]; exact ih
              have h2 : ((List.range (allRows sorts w).length).filter fun (k : Nat) => mem (k : Int) (sortI seats)).length ≤ (sortI seats).length := by
                have h3 := nodup_le (l := ((List.range (allRows sorts w).length).filter fun (k : Nat) => mem (k : Int) (sortI seats)).map fun (k : Nat) => (k : Int)) (m := sortI seats) (by
                  rw [List.nodup_iff_pairwise_ne, List.pairwise_map]
                  refine List.Pairwise.imp (fun {a b} (h : a ≠ b) => by omega) (List.Pairwise.filter _ (List.nodup_iff_pairwise_ne.mp List.nodup_range))) (fun x hx => by
                  obtain ⟨q, hq, rfl⟩ := List.mem_map.mp hx
                  exact mem_iff.mp (List.mem_filter.mp hq).2)
                rw [List.length_map] at h3
                exact h3
              omega
        · have hb := of_decide_eq_false hb
          have := a2.length_le
          omega
    · rw [List.append_nil] at e1
      subst e1
      refine hp _ ⟨by show 2 ≤ sorts.length; omega, by show sorts.length ≤ 6; omega, hsn, hsd, ?_, fun n hn => hwn _ (by rw [← e2]; exact List.mem_map_of_mem hn), by show (norms.map fun n => n.1).Nodup; rw [e2]; exact hwd, fun n hn => ?_, fun n hn => ?_⟩
      · show norms.length ≤ 8
        have := congrArg List.length e2
        rw [List.length_map] at this
        omega
      · obtain ⟨w, a1, a2, a3, a4, _⟩ := e3 n hn
        exact ⟨w, a1, a2, a3, a4⟩
      · obtain ⟨w, _, _, _, _, a5⟩ := e3 n hn
        exact a5
end K0
set_option Elab.async false
set_option linter.all false
set_option maxRecDepth 100000
set_option maxHeartbeats 2000000
/-! the mathematics: the bag, the shuffled rows, the other book -/
namespace K0
open PySem PySem.Spec PyProof.Rows L2 Fz
theorem law_bag_ok (ns : List Int) (h : ns.length ≤ 63) : m_law_bag ns = some () := by
  unfold m_law_bag
  have h1 : Fm.cutL ns none (some (63 : Int)) = some (Fm.cut ns none (some 63)) := if_pos (by
    unfold Fm.cut
    rw [List.length_take, List.length_drop, szl]; omega)
  rw [h1, Option.bind_some]
  generalize Fm.cut ns none (some 63) = t
  rw [comp_all (g := fun x3 : Int => if x3 < 0 then -x3 else x3) (fun _ _ => rfl), Option.bind_some]
  have key : ∀ (l : List Int) (s : Int), 0 ≤ s → s < 2147483647 → ∃ r, fold (fun (st13 : Int) (x14 : Int) => (Option.bind (Fm.mul st13 (48271 : Int)) fun t24 => Option.bind (Fm.mod x14 (1000000007 : Int)) fun t26 => Option.bind (Fm.mod ((t24 + t26) + (11 : Int)) (2147483647 : Int)) fun t28 => some t28)) s l = some r ∧ 0 ≤ r ∧ r < 2147483647 := by
    intro l
    induction l with
    | nil => intro s h0 h1; exact ⟨s, rfl, h0, h1⟩
    | cons x l ih =>
      intro s h0 h1
      have e : (Option.bind (Fm.mul s (48271 : Int)) fun t24 => Option.bind (Fm.mod x (1000000007 : Int)) fun t26 => Option.bind (Fm.mod ((t24 + t26) + (11 : Int)) (2147483647 : Int)) fun t28 => some t28) = some ((s * 48271 + x % 1000000007 + 11) % 2147483647) := by
        rw [show Fm.mul s 48271 = some (s * 48271) from if_pos (.inr (by decide)), Option.bind_some, show Fm.mod x 1000000007 = some (x % 1000000007) from if_pos (by decide), Option.bind_some, show Fm.mod (s * 48271 + x % 1000000007 + 11) 2147483647 = some ((s * 48271 + x % 1000000007 + 11) % 2147483647) from if_pos (by decide)]
        rfl
      rw [fold_cons (f := fun (st13 : Int) (x14 : Int) => (Option.bind (Fm.mul st13 (48271 : Int)) fun t24 => Option.bind (Fm.mod x14 (1000000007 : Int)) fun t26 => Option.bind (Fm.mod ((t24 + t26) + (11 : Int)) (2147483647 : Int)) fun t28 => some t28)) e]
      exact ih _ (Int.emod_nonneg _ (by decide)) (Int.emod_lt_of_pos _ (by decide))
  obtain ⟨r, hr, r0, r1⟩ := key (t.map fun x3 : Int => if x3 < 0 then -x3 else x3) 29 (by decide) (by decide)
  rw [hr, Option.bind_some]
  rw [show Fm.bagOk (t.map fun x3 : Int => if x3 < 0 then -x3 else x3) r = some () from if_pos ⟨List.all_eq_true.mpr fun x hx => by
    obtain ⟨y, _, rfl⟩ := List.mem_map.mp hx
    exact decide_eq_true (by split <;> omega), r0, r1⟩]
  rfl
theorem popAt_ok {α : Type} {xs : List α} {k : Nat} (h : k < xs.length) (hz : xs.length ≤ 100000) : Fm.popAt xs (k : Int) = some (xs[k], xs.eraseIdx k) := by
  unfold Fm.popAt
  rw [if_pos (by omega)]
  have : seqIndex? (k : Int) xs.length = some k := by
    unfold seqIndex?
    simp only [show ¬ ((k : Int) < 0) by omega, if_false]
    rw [if_pos (by simp; omega)]
    simp
  rw [this]
  show (xs[k]?).map _ = _
  rw [List.getElem?_eq_getElem h]
  rfl
theorem erase_perm {α : Type} : ∀ {xs : List α} {k : Nat} (h : k < xs.length), (xs[k] :: xs.eraseIdx k).Perm xs
  | x :: xs, 0, _ => .refl _
  | x :: xs, k + 1, h => by
    have hk : k < xs.length := by rw [List.length_cons] at h; omega
    show (xs[k] :: x :: xs.eraseIdx k).Perm (x :: xs)
    exact (List.Perm.swap _ _ _).trans ((erase_perm hk).cons x)
theorem law_shuffle_ok {rows : List (List Tx)} (hl : rows.length ≤ 2000) {post : List (List Tx) → Prop} (hp : ∀ r', r'.Perm rows → post r') : m_law_shuffle rows post := by
  unfold m_law_shuffle
  simp only [wopt, sm_law_draw, wpop]
  refine ⟨_, e_range (by omega), ?_⟩
  refine wfor_all (I := fun ys (st : List (List Tx) × List (List Tx)) => (st.1 ++ st.2).Perm rows ∧ st.2.length = ys.length) ⟨.refl _, by simp⟩ (fun x ys st k kb ⟨a1, a2⟩ hk => ?_) (fun st ⟨a1, a2⟩ => ?_)
  · rw [List.length_cons] at a2
    have hll := a1.length_eq
    rw [List.length_append] at hll
    refine draw_pos (by omega) (by omega) fun i hi => ?_
    have hi : i < st.2.length := by omega
    refine ⟨_, _, popAt_ok hi (by omega), _, e_app (by omega), hk _ ⟨?_, ?_⟩⟩
    · show ((st.1 ++ [st.2[i]]) ++ st.2.eraseIdx i).Perm rows
      rw [List.append_assoc]
      exact ((erase_perm hi).append_left st.1).trans a1
    · show (st.2.eraseIdx i).length = ys.length
      rw [List.length_eraseIdx_of_lt hi]; omega
  · have : st.2 = [] := List.eq_nil_of_length_eq_zero (by simpa using a2)
    rw [this, List.append_nil] at a1
    exact hp _ a1
end K0
set_option Elab.async false
set_option linter.all false
set_option maxRecDepth 100000
set_option maxHeartbeats 2000000
/-! the mathematics: the other book -/
namespace K0
open PySem PySem.Spec PyProof.Rows L2 Fz
theorem nodup_map_inj {α β : Type} {f : α → β} (hf : ∀ a b, f a = f b → a = b) : ∀ {l : List α}, l.Nodup → (l.map f).Nodup
  | [], _ => List.nodup_nil
  | x :: l, h => by
    obtain ⟨h1, h2⟩ := List.nodup_cons.mp h
    refine List.nodup_cons.mpr ⟨fun z => ?_, nodup_map_inj hf h2⟩
    obtain ⟨y, hy, e⟩ := List.mem_map.mp z
    exact h1 (hf _ _ e ▸ hy)
theorem app_one_inj {r q : List Tx} {k m : Tx} (h : r ++ [k] = q ++ [m]) : r = q ∧ k = m := by
  have hl : r.length = q.length := by
    have := congrArg List.length h
    rw [List.length_append, List.length_append] at this
    simpa using this
  obtain ⟨h1, h2⟩ := List.append_inj h hl
  exact ⟨h1, by injection h2⟩
theorem allRows_nodup {ks : List Tx} (hk : ks.Nodup) : ∀ n, (allRows ks n).Nodup
  | 0 => List.nodup_cons.mpr ⟨by simp, List.nodup_nil⟩
  | n + 1 => by
    show ((allRows ks n).flatMap fun r => ks.map fun k => r ++ [k]).Nodup
    have ih := allRows_nodup hk n
    generalize allRows ks n = l at ih
    induction l with
    | nil => exact List.nodup_nil
    | cons r l ihl =>
      obtain ⟨h1, h2⟩ := List.nodup_cons.mp ih
      rw [List.flatMap_cons, List.nodup_append]
      refine ⟨nodup_map_inj (fun a b h => (app_one_inj h).2) hk, ihl h2, fun x hx y hy => ?_⟩
      rintro rfl
      obtain ⟨k, _, rfl⟩ := List.mem_map.mp hx
      obtain ⟨q, hq, hy⟩ := List.mem_flatMap.mp hy
      obtain ⟨m, _, e⟩ := List.mem_map.mp hy
      exact h1 ((app_one_inj e).1 ▸ hq)
theorem allRows_ne {ks : List Tx} (hk : 2 ≤ ks.length) (n : Nat) : 0 < (allRows ks n).length := by
  rw [allRows_len]; exact Nat.pow_pos (by omega)
section
variable {α : Type}
theorem cut_to {l r : List α} : Fm.cut (l ++ r) none (some (l.length : Int)) = l := by
  unfold Fm.cut
  rw [show HT.sIx (l ++ r).length 0 none = 0 from rfl, show HT.sIx (l ++ r).length (l ++ r).length (some (l.length : Int)) = min l.length (l ++ r).length from HT.sIx_nat _ _ _, List.drop_zero, List.length_append, Nat.min_eq_left (by omega), Nat.sub_zero, List.take_left]
theorem cut_from {l r : List α} {k : Nat} (h : l.length = k) : Fm.cut (l ++ r) (some (k : Int)) none = r := by
  unfold Fm.cut
  rw [show HT.sIx (l ++ r).length (l ++ r).length none = (l ++ r).length from rfl, show HT.sIx (l ++ r).length 0 (some (k : Int)) = min k (l ++ r).length from HT.sIx_nat _ _ _, List.length_append, Nat.min_eq_left (by omega), ← h, List.drop_left, List.take_of_length_le (by omega)]
theorem swap_perm (l : List α) (a b : α) (r : List α) : (l ++ [b, a] ++ r).Perm (l ++ a :: b :: r) := by
  rw [List.append_assoc]
  exact (List.Perm.swap a b r).append_left l
theorem e_setI {xs : List α} {k : Nat} {a : α} (h : k < xs.length) : Fm.setI xs (k : Int) a = some (xs.set k a) := by
  unfold Fm.setI ixN
  rw [if_pos (by omega), if_pos (by omega)]
  rfl
end
theorem split_two {β : Type} : ∀ (l : List β) (i : Nat), i + 1 < l.length → ∃ l₁ x y l₂, l = l₁ ++ x :: y :: l₂ ∧ l₁.length = i
  | x :: y :: l, 0, _ => ⟨[], x, y, l, rfl, rfl⟩
  | x :: l, i + 1, h => by
    obtain ⟨a, b, c, d, e, hl⟩ := split_two l i (by rw [List.length_cons] at h; omega)
    exact ⟨x :: a, b, c, d, by rw [e]; rfl, by rw [List.length_cons, hl]⟩
  | [x], 0, h => by simp at h
  | [], 0, h => by simp at h
  | [], i + 1, h => by simp at h
def Diff (a b : Spc) : Prop := a.1 ≠ b.1 ∨ a.2 ≠ b.2
theorem set_ne {α : Type} {xs : List α} {k : Nat} {a b : α} (h : xs[k]? = some a) (hn : a ≠ b) : xs ≠ xs.set k b := fun z => by
  have hl := (List.getElem?_eq_some_iff.mp h).1
  have := congrArg (fun l => l[k]?) z
  simp only [List.getElem?_set_self hl] at this
  rw [h] at this
  exact hn (Option.some.inj this)
theorem law_other_ok {sp : Spc} (O : Okb 60 sp) {post : Spc → Prop} (hp : ∀ s', Okb 61 s' → Diff sp s' → post s') : m_law_other sp post := by
  unfold m_law_other
  simp only [wbind2, wret, wbind, wopt, sm_law_draw, wpair, sm_law_names, sm_law_pick, m_law_pick]
  have hn8 := O.n8
  have hk6 := O.k6
  have hk2 := O.k2
  refine ⟨sp.2, by rw [comp_map (g := fun x => x) (fun _ _ => rfl), List.map_id'], draw_pos (by decide) (by decide) fun how hhow => ?_⟩
  refine wj (R := fun st : List Norm × List Tx => Okb 61 (st.2, st.1) ∧ Diff sp (st.2, st.1)) (fun kj hkj => ?_) (fun st ⟨h1, h2⟩ => hp _ h1 h2)
  have le61 : ∀ n ∈ sp.2, n.2.2.length ≤ 61 := fun n hn => Nat.le_trans (O.nl n hn) (by decide)
  have names8 : (sp.2.map fun n => n.1).length ≤ 8 := by rw [List.length_map]; exact hn8
  have lnames : ∀ {p : List Tx → Prop}, (∀ w, Nm w → w ∉ (sp.2.map fun n => n.1) → p [w]) → m_law_names 1 (sp.2.map fun n => n.1) p := fun {p} h => law_names_ok (many := 1) (by omega) fun ws w1 w2 _ w4 => by
    match ws, w1 with
    | [w], _ => exact h w (w2 w (List.mem_cons_self ..)) (w4 w (List.mem_cons_self ..))
  have hcn : comp (fun (x : Norm) => (some (some x.1) : Option (Option Tx))) sp.2 = some (sp.2.map fun n => n.1) := comp_map fun _ _ => rfl
  refine ⟨fun hb => ?_, fun _ => ⟨fun hb => ?_, fun _ => ⟨fun hb => ?_, fun _ => ⟨fun hb => ?_, fun _ => ?_⟩⟩⟩⟩
  · -- a row
    have hne : 0 < sp.2.length := by
      rw [Bool.and_eq_true, Bool.not_eq_true', decide_eq_false_iff_not] at hb
      exact List.length_pos_iff.mpr hb.1
    refine draw_pos (by omega) (by omega) fun k hk => ?_
    have hk : k < sp.2.length := by omega
    have hix : Fm.ix sp.2 (k : Int) = some sp.2[k] := e_ix (List.getElem?_eq_getElem hk)
    have hmem : sp.2[k] ∈ sp.2 := List.getElem_mem hk
    obtain ⟨w, hw, hw1, hw4, hsub⟩ := O.nw _ hmem
    have hro : m_law_rows sp.1 sp.2[k].2.1 = some (allRows sp.1 w) := by rw [hw]; exact rows_ok hk6 hw4
    have hal := allRows_le (ks := sp.1) hk6 (n := w) hw4
    refine ⟨_, hix, _, hro, draw_pos (by have := allRows_ne hk2 w; omega) (by omega) fun q hq => ?_⟩
    have hq : q < (allRows sp.1 w).length := by omega
    refine ⟨_, e_ix (List.getElem?_eq_getElem hq), _, hix, _, hro, ?_⟩
    have hrm : (allRows sp.1 w)[q] ∈ allRows sp.1 w := List.getElem_mem hq
    generalize (allRows sp.1 w)[q] = row at hrm
    refine ⟨(allRows sp.1 w).filter fun x => !decide ((mem x sp.2[k].2.2) = (decide (x = row))), comp_flt fun x _ => ?_, _, hix, _, hix, _, e_setI hk, hkj _ ⟨?_, .inr ?_⟩⟩
    · rw [hix, Option.bind_some]; split <;> rfl
    · have hsub2 : ((allRows sp.1 w).filter fun x => !decide ((mem x sp.2[k].2.2) = (decide (x = row)))).Sublist (allRows sp.1 w) := List.filter_sublist
      refine ⟨hk2, hk6, O.kn, O.kd, by show (sp.2.set k _).length ≤ 8; rw [List.length_set]; exact hn8, fun n hn => ?_, ?_, fun n hn => ?_, fun n hn => ?_⟩
      · rcases List.mem_or_eq_of_mem_set hn with h | h
        · exact O.nn n h
        · rw [h]; exact O.nn sp.2[k] hmem
      · show ((sp.2.set k _).map fun n => n.1).Nodup
        rw [List.map_set]
        have : (sp.2.map fun n => n.1).set k sp.2[k].1 = sp.2.map fun n => n.1 := by
          have h2 : (sp.2.map fun n => n.1)[k]? = some sp.2[k].1 := by rw [List.getElem?_map, List.getElem?_eq_getElem hk]; rfl
          obtain ⟨hl2, e2⟩ := List.getElem?_eq_some_iff.mp h2
          rw [← e2]; exact List.set_getElem_self hl2
        rw [this]; exact O.nd
      · rcases List.mem_or_eq_of_mem_set hn with h | h
        · exact O.nw n h
        · rw [h]; exact ⟨w, hw, hw1, hw4, hsub2⟩
      · rcases List.mem_or_eq_of_mem_set hn with h | h
        · exact le61 n h
        · rw [h]
          show ((allRows sp.1 w).filter fun x => !decide ((mem x sp.2[k].2.2) = (decide (x = row)))).length ≤ 61
          have := nodup_le (l := (allRows sp.1 w).filter fun x => !decide ((mem x sp.2[k].2.2) = (decide (x = row)))) (m := row :: sp.2[k].2.2) (hsub2.nodup (allRows_nodup O.kd w)) fun x hx => by
            have h3 := (List.mem_filter.mp hx).2
            rw [Bool.not_eq_true', decide_eq_false_iff_not] at h3
            by_cases z : x = row
            · rw [z]; exact List.mem_cons_self ..
            · rw [decide_eq_false z, Bool.not_eq_false] at h3
              exact List.mem_cons_of_mem _ (mem_iff.mp h3)
          have h2 := O.nl _ hmem
          rw [List.length_cons] at this
          omega
    · refine set_ne (List.getElem?_eq_getElem hk) fun z => ?_
      have e : sp.2[k].2.2 = (allRows sp.1 w).filter fun x => !decide ((mem x sp.2[k].2.2) = (decide (x = row))) := congrArg (fun n : Norm => n.2.2) z
      have h1 : row ∈ sp.2[k].2.2 ↔ ¬ row ∈ sp.2[k].2.2 := by
        have h2 : row ∈ sp.2[k].2.2 ↔ row ∈ (allRows sp.1 w).filter fun x => !decide ((mem x sp.2[k].2.2) = (decide (x = row))) := by rw [← e]
        refine ⟨fun h => ?_, fun h4 => h2.mpr (List.mem_filter.mpr ⟨hrm, ?_⟩)⟩
        · have h3 := (List.mem_filter.mp (h2.mp h)).2
          rw [Bool.not_eq_true', decide_eq_false_iff_not, decide_eq_true rfl, Bool.not_eq_true] at h3
          exact mem_false.mp h3
        · rw [mem_false.mpr h4]; simp
      by_cases h : row ∈ sp.2[k].2.2
      · exact h1.mp h h
      · exact h (h1.mpr h)
  · -- a name
    have hne : 0 < sp.2.length := by
      rw [Bool.and_eq_true, Bool.not_eq_true', decide_eq_false_iff_not] at hb
      exact List.length_pos_iff.mpr hb.1
    refine draw_pos (by omega) (by omega) fun k hk => ?_
    have hk : k < sp.2.length := by omega
    have hix : Fm.ix sp.2 (k : Int) = some sp.2[k] := e_ix (List.getElem?_eq_getElem hk)
    have hmem : sp.2[k] ∈ sp.2 := List.getElem_mem hk
    refine ⟨_, hcn, lnames fun w hw hwn => ?_⟩
    refine ⟨w, e_ixZ (by decide) rfl, _, hix, _, hix, _, e_setI hk, hkj _ ⟨⟨hk2, hk6, O.kn, O.kd, by show (sp.2.set k _).length ≤ 8; rw [List.length_set]; exact hn8, fun n hn => ?_, ?_, fun n hn => ?_, fun n hn => ?_⟩, .inr (set_ne (List.getElem?_eq_getElem hk) fun z => ?_)⟩⟩
    · rcases List.mem_or_eq_of_mem_set hn with h | h
      · exact O.nn n h
      · rw [h]; exact hw
    · show ((sp.2.set k _).map fun n => n.1).Nodup
      rw [List.map_set]
      exact nodup_set O.nd hwn
    · rcases List.mem_or_eq_of_mem_set hn with h | h
      · exact O.nw n h
      · rw [h]; exact O.nw sp.2[k] hmem
    · rcases List.mem_or_eq_of_mem_set hn with h | h
      · exact le61 n h
      · rw [h]; exact le61 sp.2[k] hmem
    · have e : sp.2[k].1 = w := congrArg (fun n : Norm => n.1) z
      exact hwn (e ▸ List.mem_map_of_mem hmem)
  · -- two rules
    rw [Bool.and_eq_true, decide_eq_true_eq] at hb
    have h1 := hb.1
    refine draw_pos (by omega) (by omega) fun k hk => ?_
    obtain ⟨l, a, b, r, e, hl⟩ := split_two sp.2 k (by omega)
    have hk1 : Fm.ix sp.2 ((k : Int) + 1) = some b := by
      have : Fm.ix sp.2 ((k + 1 : Nat) : Int) = some b := e_ix (by rw [e, List.getElem?_append_right (by omega), show k + 1 - l.length = 1 by omega]; rfl)
      exact_mod_cast this
    have hk0 : Fm.ix sp.2 (k : Int) = some a := e_ix (by rw [e, List.getElem?_append_right (by omega), show k - l.length = 0 by omega]; rfl)
    have hc1 : Fm.cut sp.2 none (some (k : Int)) = l := by rw [e, ← hl]; exact cut_to
    have hc2 : Fm.cut sp.2 (some ((k : Int) + 2)) none = r := by
      have : sp.2 = (l ++ [a, b]) ++ r := by rw [e]; simp
      rw [this]
      have h3 := cut_from (l := l ++ [a, b]) (r := r) (k := k + 2) (by rw [List.length_append, hl]; rfl)
      exact_mod_cast h3
    have hlen := congrArg List.length e
    rw [List.length_append, List.length_cons, List.length_cons] at hlen
    refine ⟨b, hk1, a, hk0, l ++ [b, a], by rw [hc1]; exact e_catL (by show l.length + 2 ≤ _; omega), l ++ [b, a] ++ r, by rw [hc2]; exact e_catL (by rw [List.length_append]; show l.length + 2 + r.length ≤ _; omega), hkj _ ?_⟩
    have hperm : (l ++ [b, a] ++ r).Perm sp.2 := by rw [e]; exact swap_perm l a b r
    refine ⟨⟨hk2, hk6, O.kn, O.kd, by show (l ++ [b, a] ++ r).length ≤ 8; rw [hperm.length_eq]; exact hn8, fun n hn => O.nn n (hperm.mem_iff.mp hn), ?_, fun n hn => O.nw n (hperm.mem_iff.mp hn), fun n hn => le61 n (hperm.mem_iff.mp hn)⟩, .inr fun z => ?_⟩
    · exact ((hperm.map fun n => n.1).nodup_iff).mpr O.nd
    · have z : sp.2 = l ++ [b, a] ++ r := z
      rw [e, List.append_assoc] at z
      have h2 := (List.append_inj z rfl).2
      have hab : a = b := by injection h2
      have hnd := O.nd
      rw [e, List.map_append, List.map_cons, List.map_cons, List.nodup_append] at hnd
      exact (List.nodup_cons.mp hnd.2.1).1 (by rw [hab]; exact List.mem_cons_self ..)
  · -- one more rule
    rw [Bool.and_eq_true, decide_eq_true_eq] at hb
    refine ⟨_, hcn, lnames fun w hw hwn => ?_⟩
    refine ⟨w, e_ixZ (by decide) rfl, draw_pos (by decide) (by decide) fun z hz => ?_⟩
    refine ⟨sp.2 ++ [(w, 1 + (z : Int), [])], e_app (by omega), hkj _ ⟨⟨hk2, hk6, O.kn, O.kd, by show (sp.2 ++ [_]).length ≤ 8; rw [List.length_append]; show sp.2.length + 1 ≤ 8; omega, fun n hn => ?_, ?_, fun n hn => ?_, fun n hn => ?_⟩, .inr fun q => ?_⟩⟩
    · rcases List.mem_append.mp hn with h | h
      · exact O.nn n h
      · rw [List.mem_singleton.mp h]; exact hw
    · show ((sp.2 ++ [_]).map fun n : Norm => n.1).Nodup
      rw [List.map_append, List.nodup_append]
      exact ⟨O.nd, by simp, fun x hx y hy => by rw [show y = w by simpa using hy]; rintro rfl; exact hwn hx⟩
    · rcases List.mem_append.mp hn with h | h
      · exact O.nw n h
      · rw [List.mem_singleton.mp h]
        exact ⟨1 + z, by show 1 + (z : Int) = ((1 + z : Nat) : Int); omega, by omega, by omega, List.nil_sublist _⟩
    · rcases List.mem_append.mp hn with h | h
      · exact le61 n h
      · rw [List.mem_singleton.mp h]; exact Nat.zero_le _
    · have := congrArg List.length (show sp.2 = sp.2 ++ [(w, 1 + (z : Int), [])] from q)
      rw [List.length_append] at this
      simp at this
  · -- two kinds
    refine draw_pos (by omega) (by omega) fun k hk => ?_
    obtain ⟨l, a, b, r, e, hl⟩ := split_two sp.1 k (by omega)
    have hk1 : Fm.ix sp.1 ((k : Int) + 1) = some b := by
      have : Fm.ix sp.1 ((k + 1 : Nat) : Int) = some b := e_ix (by rw [e, List.getElem?_append_right (by omega), show k + 1 - l.length = 1 by omega]; rfl)
      exact_mod_cast this
    have hk0 : Fm.ix sp.1 (k : Int) = some a := e_ix (by rw [e, List.getElem?_append_right (by omega), show k - l.length = 0 by omega]; rfl)
    have hc1 : Fm.cut sp.1 none (some (k : Int)) = l := by rw [e, ← hl]; exact cut_to
    have hc2 : Fm.cut sp.1 (some ((k : Int) + 2)) none = r := by
      have : sp.1 = (l ++ [a, b]) ++ r := by rw [e]; simp
      rw [this]
      have h3 := cut_from (l := l ++ [a, b]) (r := r) (k := k + 2) (by rw [List.length_append, hl]; rfl)
      exact_mod_cast h3
    have hlen := congrArg List.length e
    rw [List.length_append, List.length_cons, List.length_cons] at hlen
    have hperm : (l ++ [b, a] ++ r).Perm sp.1 := by rw [e]; exact swap_perm l a b r
    have hkd : (l ++ [b, a] ++ r).Nodup := hperm.nodup_iff.mpr O.kd
    have hk6' : (l ++ [b, a] ++ r).length ≤ 6 := by rw [hperm.length_eq]; exact hk6
    refine ⟨b, hk1, a, hk0, l ++ [b, a], by rw [hc1]; exact e_catL (by show l.length + 2 ≤ _; omega), l ++ [b, a] ++ r, by rw [hc2]; exact e_catL (by rw [List.length_append]; show l.length + 2 + r.length ≤ _; omega), ?_⟩
    generalize hks : l ++ [b, a] ++ r = ks at hperm hkd hk6'
    refine ⟨sp.2.map fun n => (n.1, n.2.1, (allRows ks n.2.1.toNat).filter fun x => mem x n.2.2), comp_map (fun n hn => ?_), hkj _ ⟨⟨by show 2 ≤ ks.length; rw [hperm.length_eq]; exact hk2, hk6', fun w hw => O.kn w (hperm.mem_iff.mp hw), hkd, by show (sp.2.map _).length ≤ 8; rw [List.length_map]; exact hn8, fun n hn => ?_, ?_, fun n hn => ?_, fun n hn => ?_⟩, .inl fun z => ?_⟩⟩
    · obtain ⟨w, hw, hw1, hw4, hsub⟩ := O.nw n hn
      rw [hw, rows_ok hk6' hw4, Option.bind_some, comp_flt (p := fun x => mem x n.2.2) (fun x _ => by split <;> rfl)]
      rfl
    · obtain ⟨m, hm, rfl⟩ := List.mem_map.mp hn
      exact O.nn m hm
    · have : ((sp.2.map fun n : Norm => ((n.1, n.2.1, (allRows ks n.2.1.toNat).filter fun x => mem x n.2.2) : Norm)).map fun n : Norm => n.1) = sp.2.map fun n => n.1 := by rw [List.map_map]; rfl
      exact this ▸ O.nd
    · obtain ⟨m, hm, rfl⟩ := List.mem_map.mp hn
      obtain ⟨w, hw, hw1, hw4, hsub⟩ := O.nw m hm
      exact ⟨w, hw, hw1, hw4, by show ((allRows ks m.2.1.toNat).filter _).Sublist _; rw [hw, Int.toNat_natCast]; exact List.filter_sublist⟩
    · obtain ⟨m, hm, rfl⟩ := List.mem_map.mp hn
      show ((allRows ks m.2.1.toNat).filter fun x => mem x m.2.2).length ≤ 61
      have := nodup_le (l := (allRows ks m.2.1.toNat).filter fun x => mem x m.2.2) (m := m.2.2) (List.filter_sublist.nodup (allRows_nodup hkd _)) fun x hx => mem_iff.mp (List.mem_filter.mp hx).2
      have h2 := O.nl m hm
      omega
    · have z : sp.1 = ks := z
      rw [← hks, e, List.append_assoc] at z
      have h2 := (List.append_inj z rfl).2
      have hab : a = b := by injection h2
      have hnd := O.kd
      rw [e, List.nodup_append] at hnd
      exact (List.nodup_cons.mp hnd.2.1).1 (by rw [hab]; exact List.mem_cons_self ..)
end K0
set_option Elab.async false
set_option linter.all false
set_option maxRecDepth 100000
set_option maxHeartbeats 2000000
/-! the mathematics: the text of a book -/
namespace K0
open PySem PySem.Spec PyProof.Rows L2 Fz
abbrev sKinds : Tx := [107, 105, 110, 100, 115, 32]
abbrev sRule : Tx := [114, 117, 108, 101, 32]
def kLine (ks : List Tx) : Tx := sKinds ++ TL.joinL [32] ks
def rLine (n : Norm) : Tx := ((sRule ++ n.1) ++ [32]) ++ Fz.strI n.2.1
def nLines (n : Norm) : List Tx := rLine n :: n.2.2.map (TL.joinL [32])
def lines (sp : Spc) : List Tx := (cBook :: kLine sp.1 :: sp.2.flatMap nLines) ++ [cDone]
def txt (sp : Spc) : Tx := (lines sp).flatMap fun l => l ++ [10]
/-- sizes -/
structure Tz (sp : Spc) : Prop where
  k : sp.1.length ≤ 6
  kw : ∀ w ∈ sp.1, w.length ≤ 8
  n : sp.2.length ≤ 8
  nw : ∀ n ∈ sp.2, n.1.length ≤ 8
  w : ∀ n ∈ sp.2, ∃ w : Nat, n.2.1 = (w : Int) ∧ 1 ≤ w ∧ w ≤ 4
  r : ∀ n ∈ sp.2, n.2.2.length ≤ 63
  rw : ∀ n ∈ sp.2, ∀ r ∈ n.2.2, r.length ≤ 4 ∧ ∀ k ∈ r, k.length ≤ 8
theorem dig_ok {w : Nat} (h1 : 1 ≤ w) (h4 : w ≤ 4) : Fz.strI (w : Int) = [48 + w] ∧ Fm.strI (w : Int) = some [48 + w] ∧ Fm.intT [48 + w] = some (w : Int) ∧ mem [48 + w] c_WIDTHS = true := by
  have : ([1, 2, 3, 4] : List Nat).all (fun w => decide (Fz.strI (w : Int) = [48 + w] ∧ Fm.strI (w : Int) = some [48 + w] ∧ Fm.intT [48 + w] = some (w : Int) ∧ mem [48 + w] c_WIDTHS = true)) = true := by decide +kernel
  have hw : w ∈ ([1, 2, 3, 4] : List Nat) := by
    have : w = 1 ∨ w = 2 ∨ w = 3 ∨ w = 4 := by omega
    rcases this with rfl | rfl | rfl | rfl <;> decide
  exact of_decide_eq_true (List.all_eq_true.mp this w hw)
theorem sum_le {c : Nat} : ∀ {ws : List Tx}, (∀ w ∈ ws, w.length ≤ c) → (ws.map List.length).sum ≤ ws.length * c
  | [], _ => by simp
  | w :: ws, h => by
    have := sum_le (c := c) fun x hx => h x (List.mem_cons_of_mem w hx)
    have h2 := h w (List.mem_cons_self ..)
    rw [List.map_cons, List.sum_cons, List.length_cons, Nat.succ_mul]; omega
theorem join_le {ws : List Tx} {c : Nat} (h : ∀ w ∈ ws, w.length ≤ c) : (TL.joinL [32] ws).length ≤ ws.length * c + ws.length := by
  have h1 := (join_facts [32] ws).2.2
  have h2 := sum_le h
  rw [show ([32] : Tx).length = 1 from rfl, Nat.mul_one] at h1
  omega
theorem e_join {s : Tx} {ws : List Tx} {c : Nat} (h : ∀ w ∈ ws, w.length ≤ c) (hl : ws.length * c + ws.length * s.length ≤ 16777216) : Fm.join s ws = some (TL.joinL s ws) := if_pos (by have := sum_le h; omega)
theorem Tz.kl {sp : Spc} (z : Tz sp) : (kLine sp.1).length ≤ 60 ∧ Fm.join [32] sp.1 = some (TL.joinL [32] sp.1) := by
  have := join_le z.kw
  have h6 := z.k
  refine ⟨by unfold kLine; rw [List.length_append]; show 6 + _ ≤ 60; omega, e_join z.kw (by show _ + _ * 1 ≤ _; omega)⟩
theorem Tz.rl {sp : Spc} (z : Tz sp) {n : Norm} (hn : n ∈ sp.2) {r : List Tx} (hr : r ∈ n.2.2) : (TL.joinL [32] r).length ≤ 60 ∧ Fm.join [32] r = some (TL.joinL [32] r) := by
  obtain ⟨h4, h8⟩ := z.rw n hn r hr
  have := join_le h8
  exact ⟨by omega, e_join h8 (by show _ + _ * 1 ≤ _; omega)⟩
theorem Tz.nl {sp : Spc} (z : Tz sp) {n : Norm} (hn : n ∈ sp.2) : (rLine n).length ≤ 60 ∧ (nLines n).length ≤ 64 := by
  obtain ⟨w, hw, h1, h4⟩ := z.w n hn
  have := z.nw n hn
  have := z.r n hn
  refine ⟨?_, by unfold nLines; rw [List.length_cons, List.length_map]; omega⟩
  unfold rLine
  rw [hw, (dig_ok h1 h4).1, List.length_append, List.length_append, List.length_append]
  show 5 + _ + 1 + 1 ≤ 60
  omega
theorem flat_le {α β : Type} {h : α → List β} {c : Nat} : ∀ {xs : List α}, (∀ x ∈ xs, (h x).length ≤ c) → (xs.flatMap h).length ≤ xs.length * c
  | [], _ => by simp
  | x :: xs, hx => by
    have := flat_le (h := h) (c := c) fun y hy => hx y (List.mem_cons_of_mem x hy)
    have h2 := hx x (List.mem_cons_self ..)
    rw [List.flatMap_cons, List.length_append, List.length_cons, Nat.succ_mul]; omega
theorem Tz.lines {sp : Spc} (z : Tz sp) : (∀ l ∈ lines sp, l.length ≤ 60) ∧ (lines sp).length ≤ 600 := by
  constructor
  · intro l hl
    unfold K0.lines at hl
    rcases List.mem_append.mp hl with h | h
    · rcases List.mem_cons.mp h with rfl | h
      · decide
      · rcases List.mem_cons.mp h with rfl | h
        · exact z.kl.1
        · obtain ⟨n, hn, h⟩ := List.mem_flatMap.mp h
          rcases List.mem_cons.mp h with rfl | h
          · exact (z.nl hn).1
          · obtain ⟨r, hr, rfl⟩ := List.mem_map.mp h
            exact (z.rl hn hr).1
    · rw [List.mem_singleton.mp h]; decide
  · unfold K0.lines
    have := flat_le (h := nLines) (c := 64) (xs := sp.2) fun n hn => (z.nl hn).2
    have := z.n
    rw [List.length_append, List.length_cons, List.length_cons]
    show _ + 1 ≤ 600
    omega
theorem joinL_nil : ∀ xs : List Tx, TL.joinL [] xs = xs.flatten
  | [] => rfl
  | [x] => by simp [TL.joinL]
  | x :: y :: r => by
    show x ++ ([] ++ TL.joinL [] (y :: r)) = _
    rw [List.nil_append, joinL_nil (y :: r)]; rfl
theorem joinL_nl : ∀ {xs : List Tx}, xs ≠ [] → TL.joinL [10] xs ++ [10] = xs.flatMap fun l => l ++ [10]
  | [], h => absurd rfl h
  | [x], _ => by simp [TL.joinL]
  | x :: y :: r, _ => by
    show (x ++ ([10] ++ TL.joinL [10] (y :: r))) ++ [10] = _
    rw [List.flatMap_cons, ← joinL_nl (List.cons_ne_nil y r)]
    simp
theorem Tz.txtLen {sp : Spc} (z : Tz sp) : (txt sp).length ≤ 36600 := by
  unfold txt
  have := flat_le (h := fun l : Tx => l ++ [10]) (c := 61) (xs := K0.lines sp) fun l hl => by
    rw [List.length_append]; have := z.lines.1 l hl; show _ + 1 ≤ 61; omega
  have := z.lines.2
  omega
theorem book_text_ok {sp : Spc} (z : Tz sp) : m_law_book_text sp = some (txt sp) := by
  unfold m_law_book_text
  have hk := z.kl
  have hkl : (kLine sp.1).length ≤ 60 := hk.1
  unfold kLine at hkl
  rw [List.length_append] at hkl
  rw [hk.2, Option.bind_some, e_catS (by show 6 + _ ≤ _; omega), Option.bind_some]
  have hfl := flat_le (h := nLines) (c := 64) (xs := sp.2) fun n hn => (z.nl hn).2
  have hn8 := z.n
  have hf := fold_flat' (f := fun (st7 : (List Tx)) (x8 : (Tx × Int × (List (List Tx)))) => (Option.bind (Fm.catS ([114, 117, 108, 101, 32] : Tx) x8.1) fun t18 => Option.bind (Fm.catS t18 ([32] : Tx)) fun t20 => Option.bind (Fm.strI x8.2.1) fun t22 => Option.bind (Fm.catS t20 t22) fun t24 => Option.bind (Fm.app st7 t24) fun t26 => Option.bind (fold (fun (st29 : (List Tx)) (x30 : (List Tx)) => (Option.bind (Fm.join ([32] : Tx) x30) fun t40 => Option.bind (Fm.app st29 t40) fun t42 => some t42)) t26 x8.2.2) fun st46 => some st46)) (h := nLines) (xs := sp.2) (st := [cBook, kLine sp.1]) (fun st n hn hl => by
    obtain ⟨w, hw, h1, h4⟩ := z.w n hn
    have hnw := z.nw n hn
    have hr63 := z.r n hn
    have hd := dig_ok h1 h4
    unfold nLines at hl
    rw [List.length_cons, List.length_map] at hl
    rw [e_catS (by show 5 + _ ≤ _; omega), Option.bind_some, e_catS (by rw [List.length_append]; show 5 + _ + 1 ≤ _; omega), Option.bind_some, hw, hd.2.1, Option.bind_some, e_catS (by rw [List.length_append, List.length_append]; show 5 + _ + 1 + 1 ≤ _; omega), Option.bind_some, e_app (by omega), Option.bind_some]
    have hf2 := fold_flat' (f := fun (st29 : (List Tx)) (x30 : (List Tx)) => (Option.bind (Fm.join ([32] : Tx) x30) fun t40 => Option.bind (Fm.app st29 t40) fun t42 => some t42)) (h := fun r => [TL.joinL [32] r]) (xs := n.2.2) (st := st ++ [(([114, 117, 108, 101, 32] ++ n.1) ++ [32]) ++ [48 + w]]) (fun st r hr hl => by
      have hl : st.length + 1 ≤ 16777216 := hl
      rw [(z.rl hn hr).2, Option.bind_some, e_app (by omega)]; rfl) (by
      rw [← List.map_eq_flatMap, List.length_map, List.length_append]; show st.length + 1 + _ ≤ _; omega)
    rw [hf2, Option.bind_some, ← List.map_eq_flatMap, List.append_assoc]
    unfold nLines rLine
    rw [hw, hd.1]; rfl) (by show 2 + _ ≤ _; omega)
  rw [show ([([98, 111, 111, 107] : Tx), [107, 105, 110, 100, 115, 32] ++ TL.joinL [32] sp.1] : List Tx) = [cBook, kLine sp.1] from rfl, hf, Option.bind_some, e_app (by rw [List.length_append]; show 2 + _ < _; omega), Option.bind_some]
  have hlines : [cBook, kLine sp.1] ++ sp.2.flatMap nLines ++ [([100, 111, 110, 101] : Tx)] = lines sp := rfl
  rw [hlines, comp_all (g := fun l : Tx => l ++ [10]) (fun l hl => by
    have := z.lines.1 l hl
    rw [e_catS (by show _ + 1 ≤ _; omega)]; rfl), Option.bind_some, e_join (c := 61) (fun l hl => by
    obtain ⟨m, hm, rfl⟩ := List.mem_map.mp hl
    have := z.lines.1 m hm
    rw [List.length_append]; show _ + 1 ≤ 61; omega) (by rw [List.length_map]; have := z.lines.2; show _ + _ * 0 ≤ _; omega), Option.bind_some, joinL_nil]
  rfl
theorem write_ok {sp : Spc} (z : Tz sp) : m_write_book sp.1 sp.2 = some (txt sp) := by
  unfold m_write_book
  have hk := z.kl
  have hkl : (kLine sp.1).length ≤ 60 := hk.1
  unfold kLine at hkl
  rw [List.length_append] at hkl
  rw [hk.2, Option.bind_some, e_catS (by show 6 + _ ≤ _; omega), Option.bind_some]
  have hfl := flat_le (h := nLines) (c := 64) (xs := sp.2) fun n hn => (z.nl hn).2
  have hn8 := z.n
  have hf := fold_flat' (f := fun (st7 : (List Tx)) (x8 : (Tx × Int × (List (List Tx)))) => (Option.bind (Fm.strI x8.2.1) fun t18 => Option.bind (Fm.cats [([114, 117, 108, 101, 32] : Tx), x8.1, ([32] : Tx), t18]) fun t20 => Option.bind (Fm.app st7 t20) fun t22 => Option.bind (fold (fun (st25 : (List Tx)) (x26 : (List Tx)) => (Option.bind (Fm.join ([32] : Tx) x26) fun t36 => Option.bind (Fm.app st25 t36) fun t38 => some t38)) t22 x8.2.2) fun st42 => some st42)) (h := nLines) (xs := sp.2) (st := [cBook, kLine sp.1]) (fun st n hn hl => by
    obtain ⟨w, hw, h1, h4⟩ := z.w n hn
    have hnw := z.nw n hn
    have hr63 := z.r n hn
    have hd := dig_ok h1 h4
    unfold nLines at hl
    rw [List.length_cons, List.length_map] at hl
    have hcats : Fm.cats [([114, 117, 108, 101, 32] : Tx), n.1, ([32] : Tx), [48 + w]] = some ((([114, 117, 108, 101, 32] ++ n.1) ++ [32]) ++ [48 + w]) := by
      unfold Fm.cats
      rw [if_pos (by rw [szl]; show 5 + (n.1.length + (1 + (1 + 0))) ≤ _; omega)]
      simp
    rw [hw, hd.2.1, Option.bind_some, hcats, Option.bind_some, e_app (by omega), Option.bind_some]
    have hf2 := fold_flat' (f := fun (st25 : (List Tx)) (x26 : (List Tx)) => (Option.bind (Fm.join ([32] : Tx) x26) fun t36 => Option.bind (Fm.app st25 t36) fun t38 => some t38)) (h := fun r => [TL.joinL [32] r]) (xs := n.2.2) (st := st ++ [(([114, 117, 108, 101, 32] ++ n.1) ++ [32]) ++ [48 + w]]) (fun st r hr hl => by
      have hl : st.length + 1 ≤ 16777216 := hl
      rw [(z.rl hn hr).2, Option.bind_some, e_app (by omega)]; rfl) (by
      rw [← List.map_eq_flatMap, List.length_map, List.length_append]; show st.length + 1 + _ ≤ _; omega)
    rw [hf2, Option.bind_some, ← List.map_eq_flatMap, List.append_assoc]
    unfold nLines rLine
    rw [hw, hd.1]; rfl) (by show 2 + _ ≤ _; omega)
  rw [show ([([98, 111, 111, 107] : Tx), [107, 105, 110, 100, 115, 32] ++ TL.joinL [32] sp.1] : List Tx) = [cBook, kLine sp.1] from rfl, hf, Option.bind_some, e_app (by rw [List.length_append]; show 2 + _ < _; omega), Option.bind_some]
  have hlines : [cBook, kLine sp.1] ++ sp.2.flatMap nLines ++ [([100, 111, 110, 101] : Tx)] = lines sp := rfl
  rw [hlines, e_join (c := 60) z.lines.1 (by have := z.lines.2; show _ + _ * 1 ≤ _; omega), Option.bind_some]
  have hne : lines sp ≠ [] := by unfold lines; simp
  have htl := z.txtLen
  have e := joinL_nl hne
  have hlen : (TL.joinL [10] (lines sp)).length + 1 ≤ 36600 := by
    have := congrArg List.length e
    rw [List.length_append] at this
    have h2 : (txt sp).length = (TL.joinL [10] (lines sp)).length + 1 := this.symm
    omega
  rw [e_catS (by show _ + 1 ≤ _; omega), Option.bind_some, e]
  rfl
/-! ### cut again -/
theorem spl_word {k : Nat} : ∀ {w : Tx} {acc r : Tx}, k ∉ w → TL.spl [k] 0 acc (w ++ k :: r) = (acc ++ w) :: TL.spl [k] 0 [] r
  | [], acc, r, _ => by
    have hp : TL.pre [k] (k :: r) = true := TL.pre_self [k] r
    rw [List.nil_append, TL.spl_hit hp, List.append_nil]; rfl
  | c :: w, acc, r, h => by
    have hc : c ≠ k := fun z => h (z ▸ List.mem_cons_self ..)
    rw [List.cons_append, TL.spl_miss (TL.pre_of_head [] _ hc), spl_word fun z => h (List.mem_cons_of_mem _ z), List.append_assoc]; rfl
theorem spl_last {k : Nat} : ∀ {w acc : Tx}, k ∉ w → TL.spl [k] 0 acc w = [acc ++ w]
  | [], acc, _ => by rw [TL.spl_nil, List.append_nil]
  | c :: w, acc, h => by
    have hc : c ≠ k := fun z => h (z ▸ List.mem_cons_self ..)
    rw [TL.spl_miss (TL.pre_of_head [] _ hc), spl_last fun z => h (List.mem_cons_of_mem _ z), List.append_assoc]; rfl
theorem spl_lines : ∀ {ls : List Tx}, (∀ l ∈ ls, 10 ∉ l) → TL.spl [10] 0 [] (ls.flatMap fun l => l ++ [10]) = ls ++ [[]]
  | [], _ => TL.spl_nil _ _ _
  | l :: ls, h => by
    rw [List.flatMap_cons, List.append_assoc, List.singleton_append, spl_word (h l (List.mem_cons_self ..)), spl_lines fun m hm => h m (List.mem_cons_of_mem _ hm)]; rfl
theorem spl_words : ∀ {ws : List Tx}, ws ≠ [] → (∀ w ∈ ws, 32 ∉ w) → TL.spl [32] 0 [] (TL.joinL [32] ws) = ws
  | [], h, _ => absurd rfl h
  | [w], _, h => by
    show TL.spl [32] 0 [] w = [w]
    rw [spl_last (h w (List.mem_cons_self ..))]; rfl
  | w :: v :: r, _, h => by
    show TL.spl [32] 0 [] (w ++ ([32] ++ TL.joinL [32] (v :: r))) = _
    rw [List.singleton_append, spl_word (h w (List.mem_cons_self ..)), spl_words (List.cons_ne_nil _ _) fun x hx => h x (List.mem_cons_of_mem _ hx)]; rfl
theorem e_split {t : Tx} {k : Nat} (hk : k < 256) (h : t.length ≤ 100000) : Fm.split t [k] = some (TL.spl [k] 0 [] t) := if_pos ⟨hk, by rw [szl]; omega⟩
end K0
set_option Elab.async false
set_option linter.all false
set_option maxRecDepth 100000
set_option maxHeartbeats 2000000
/-! the mathematics: rows in order -/
namespace K0
open PySem PySem.Spec PyProof.Rows L2 Fz
section
variable {α β κ : Type} [DecidableEq κ]
theorem enumL_get {xs : List α} {i : Nat} {x : α} (h : xs[i]? = some x) : (enumL xs)[i]? = some ((i : Int), x) := by
  have hl := (List.getElem?_eq_some_iff.mp h).1
  have hl2 : i < (enumL xs).length := by rw [enumL_len]; exact hl
  have e : (enumL xs)[i]? = some (enumL xs)[i] := List.getElem?_eq_getElem hl2
  obtain ⟨y, hy, hz⟩ := enumL_at xs e
  rw [h] at hy; cases hy
  rw [e, hz]
theorem enumL_snd (xs : List α) : (enumL xs).map (fun x => x.2) = xs := by
  apply List.ext_getElem?
  intro i
  rw [List.getElem?_map]
  cases h : xs[i]? with
  | none =>
    have : (enumL xs)[i]? = none := by
      rw [List.getElem?_eq_none_iff] at h ⊢
      rw [enumL_len]; exact h
    rw [this]; rfl
  | some x => rw [enumL_get h]; rfl
theorem look_of {kvs : List (κ × α)} (hn : (kvs.map fun p => p.1).Nodup) {k : κ} {v : α} (h : (k, v) ∈ kvs) : look kvs k = some v := by
  induction kvs with
  | nil => cases h
  | cons p r ih =>
    rw [List.map_cons, List.nodup_cons] at hn
    rw [look_cons]
    rcases List.mem_cons.mp h with rfl | h
    · rw [if_pos rfl]
    · have hne : ¬ p.1 = k := by
        intro z
        rw [z] at hn
        exact hn.1 (List.mem_map.mpr ⟨(k, v), h, rfl⟩)
      rw [if_neg hne]
      exact ih hn.2 h
theorem look_no {kvs : List (κ × α)} {k : κ} (h : k ∉ kvs.map fun p => p.1) : look kvs k = none := by
  induction kvs with
  | nil => rfl
  | cons p r ih =>
    rw [List.map_cons] at h
    have hne : ¬ p.1 = k := by
      intro z
      rw [z] at h
      exact h (List.mem_cons_self ..)
    rw [look_cons, if_neg hne]
    exact ih fun z => h (List.mem_cons_of_mem _ z)
theorem look_some {kvs : List (κ × α)} {k : κ} : (look kvs k).isSome = decide (k ∈ kvs.map fun p => p.1) := by
  by_cases h : k ∈ kvs.map fun p => p.1
  · obtain ⟨a, ha⟩ := look_mem (kvs := kvs) (k := k) h
    rw [ha, decide_eq_true h]; rfl
  · rw [look_no h, decide_eq_false h]; rfl
theorem e_dput {kvs : List (κ × α)} {k : κ} {v : α} (h : k ∉ kvs.map fun p => p.1) (hl : kvs.length ≤ 100000) : Fm.dput kvs k v = some (kvs ++ [(k, v)]) := by
  unfold Fm.dput putA
  rw [if_pos (by rw [szl]; omega), if_neg]
  rw [List.any_eq_true]
  rintro ⟨p, hp, e⟩
  exact h (of_decide_eq_true e ▸ List.mem_map_of_mem hp)
theorem fold_dstep {f : α → Option (κ × β)} {p : α → κ × β} : ∀ {xs : List α} {acc : List (κ × β)}, (∀ x ∈ xs, f x = some (p x)) → (acc.map (fun p => p.1) ++ xs.map fun x => (p x).1).Nodup → acc.length + xs.length ≤ 100000 → fold (dstep f) acc xs = some (acc ++ xs.map p)
  | [], acc, _, _, _ => by simp [fold]
  | x :: xs, acc, hf, hn, hl => by
    rw [List.length_cons] at hl
    have hx : (p x).1 ∉ acc.map fun p => p.1 := fun z => by
      rw [List.nodup_append] at hn
      exact hn.2.2 _ z _ (List.mem_cons_self ..) rfl
    have e : dstep f acc x = some (acc ++ [p x]) := by
      unfold dstep
      rw [hf x (List.mem_cons_self ..)]
      exact e_dput hx (by omega)
    rw [fold_cons e, fold_dstep (fun y hy => hf y (List.mem_cons_of_mem _ hy)) (by
      rw [List.map_append, List.append_assoc]; exact hn) (by rw [List.length_append]; show acc.length + 1 + _ ≤ _; omega), List.append_assoc]
    rfl
end
/-! kinds by number -/
def idx (ks : List Tx) : List (Tx × Int) := (enumL ks).map fun x => (x.2, x.1)
theorem idx_keys (ks : List Tx) : (idx ks).map (fun p => p.1) = ks := by
  unfold idx
  rw [List.map_map]
  exact enumL_snd ks
theorem idx_fold {ks : List Tx} (h : ks.Nodup) (hl : ks.length ≤ 100) : fold (dstep (fun (x : Int × Tx) => some (x.2, x.1))) [] (enumL ks) = some (idx ks) := by
  rw [fold_dstep (p := fun x : Int × Tx => (x.2, x.1)) (fun _ _ => rfl) (by
    show (enumL ks |>.map fun x => x.2).Nodup
    rw [enumL_snd]; exact h) (by rw [enumL_len]; show 0 + _ ≤ _; omega)]
  rfl
def mk (ks : List Tx) (k : Tx) : Int := (look (idx ks) k).getD 0
theorem look_idx {ks : List Tx} (h : ks.Nodup) {i : Nat} {k : Tx} (hi : ks[i]? = some k) : look (idx ks) k = some (i : Int) := by
  refine look_of (by rw [idx_keys]; exact h) ?_
  exact List.mem_map.mpr ⟨((i : Int), k), List.mem_of_getElem? (enumL_get hi), rfl⟩
theorem mk_at {ks : List Tx} (h : ks.Nodup) {i : Nat} {k : Tx} (hi : ks[i]? = some k) : mk ks k = (i : Int) := by
  unfold mk
  rw [look_idx h hi]; rfl
theorem mk_mem {ks : List Tx} (h : ks.Nodup) (hl : ks.length ≤ 6) {k : Tx} (hk : k ∈ ks) : look (idx ks) k = some (mk ks k) ∧ 0 ≤ mk ks k ∧ mk ks k < 6 := by
  obtain ⟨i, hi⟩ := List.mem_iff_getElem?.mp hk
  have hil := (List.getElem?_eq_some_iff.mp hi).1
  rw [mk_at h hi, look_idx h hi]
  exact ⟨rfl, by omega, by omega⟩
theorem mk_pair {ks : List Tx} (h : ks.Nodup) : ks.Pairwise fun a b => mk ks a < mk ks b := by
  rw [List.pairwise_iff_getElem]
  intro i j hi hj hij
  rw [mk_at h (List.getElem?_eq_getElem hi), mk_at h (List.getElem?_eq_getElem hj)]
  omega
def marks (ks : List Tx) (r : List Tx) : List Int := r.map (mk ks)
def cd (ks : List Tx) (r : List Tx) : Int := TS.code 64 (marks ks r)
theorem code_app (B d : Int) : ∀ l : List Int, TS.code B (l ++ [d]) = TS.code B l * B + d
  | [] => by show d * B ^ 0 + 0 = 0 * B + d; simp
  | x :: l => by
    show x * B ^ (l ++ [d]).length + TS.code B (l ++ [d]) = (x * B ^ l.length + TS.code B l) * B + d
    rw [code_app B d l, List.length_append, show l.length + [d].length = l.length + 1 from rfl, Int.pow_succ, Int.add_mul, Int.mul_assoc, Int.add_assoc]
theorem cd_app (ks : List Tx) (r : List Tx) (k : Tx) : cd ks (r ++ [k]) = cd ks r * 64 + mk ks k := by
  unfold cd marks
  rw [List.map_append]
  exact code_app 64 _ _
theorem allRows_pair {ks : List Tx} (h : ks.Nodup) (hl : ks.length ≤ 6) : ∀ n, (allRows ks n).Pairwise fun a b => cd ks a < cd ks b
  | 0 => List.pairwise_singleton _ _
  | n + 1 => by
    show ((allRows ks n).flatMap fun r => ks.map fun k => r ++ [k]).Pairwise _
    rw [List.pairwise_flatMap]
    refine ⟨fun r _ => ?_, (allRows_pair h hl n).imp fun {a b} hab x hx y hy => ?_⟩
    · rw [List.pairwise_map]
      refine (mk_pair h).imp fun {a b} hab => ?_
      rw [cd_app, cd_app]; omega
    · obtain ⟨k, hk, rfl⟩ := List.mem_map.mp hx
      obtain ⟨m, hm, rfl⟩ := List.mem_map.mp hy
      have h1 := (mk_mem h hl hk).2
      have h2 := (mk_mem h hl hm).2
      rw [cd_app, cd_app]; omega
section
variable {ks : List Tx} {w : Nat} {rows rows' : List (List Tx)} (h : ks.Nodup) (hl : ks.length ≤ 6) (hw1 : 1 ≤ w) (hs : rows.Sublist (allRows ks w)) (hz : rows.length ≤ 63) (hp : rows'.Perm rows)
include h hl hs in
theorem rows_pair : rows.Pairwise fun a b => cd ks a < cd ks b := (allRows_pair h hl w).sublist hs
include h hl hs in
theorem marks_nd : (rows.map (marks ks)).Nodup := by
  rw [List.nodup_iff_pairwise_ne, List.pairwise_map]
  exact (rows_pair h hl hs).imp fun {a b} hab z => by
    have : cd ks a = cd ks b := by unfold cd; rw [z]
    omega
include h hl hw1 hs hz hp in
theorem sortV_ok : Fm.sortV (rows'.map fun r => (marks ks r, r)) = some rows := by
  have hk : (rows'.map fun r => (marks ks r, r)).map (fun p => p.1) = rows'.map (marks ks) := by rw [List.map_map]; rfl
  have hpm : (rows.map (marks ks)).Perm (rows'.map (marks ks)) := (hp.map _).symm
  have hnd : (rows'.map (marks ks)).Nodup := hpm.nodup_iff.mp (marks_nd h hl hs)
  have hrow : ∀ r ∈ rows', r.length = w ∧ ∀ k ∈ r, k ∈ ks := fun r hr => allRows_row (hs.subset (hp.mem_iff.mp hr))
  have hok : okM (rows'.map (marks ks)) = true := by
    unfold okM
    rw [Bool.and_eq_true, decide_eq_true_eq, List.all_eq_true]
    refine ⟨by rw [List.length_map, hp.length_eq]; omega, fun k hk => ?_⟩
    obtain ⟨r, hr, rfl⟩ := List.mem_map.mp hk
    obtain ⟨h1, h2⟩ := hrow r hr
    have hlen : ∀ r ∈ rows', (marks ks r).length = w := fun r hr => by unfold marks; rw [List.length_map]; exact (hrow r hr).1
    rw [Bool.and_eq_true, Bool.and_eq_true, decide_eq_true_eq, decide_eq_true_eq, List.all_eq_true]
    refine ⟨⟨by rw [hlen r hr]; exact hw1, ?_⟩, fun m hm => ?_⟩
    · cases rows' with
      | nil => cases hr
      | cons q l =>
        rw [hlen r hr]
        exact (hlen q (List.mem_cons_self ..)).symm
    · obtain ⟨k, hk, rfl⟩ := List.mem_map.mp hm
      have := (mk_mem h hl (h2 k hk)).2
      rw [Bool.and_eq_true, decide_eq_true_eq, decide_eq_true_eq]
      omega
  unfold Fm.sortV
  rw [show ((rows'.map fun r => (marks ks r, r)).map (·.1)) = rows'.map (marks ks) from hk, if_pos ⟨hok, hnd⟩]
  have hsort : rows.map (marks ks) = sortM (rows'.map (marks ks)) := sortM_eq hok hpm (by
    rw [List.pairwise_map]
    exact (rows_pair h hl hs).imp fun {a b} hab => Int.le_of_lt hab)
  rw [← hsort]
  congr 1
  have : ∀ l : List (List Tx), (∀ r ∈ l, r ∈ rows') → (l.map (marks ks)).filterMap (look (rows'.map fun r => (marks ks r, r))) = l := by
    intro l hl2
    induction l with
    | nil => rfl
    | cons r l ih =>
      have e : look (rows'.map fun r => (marks ks r, r)) (marks ks r) = some r := look_of (by rw [hk]; exact hnd) (List.mem_map.mpr ⟨r, hl2 r (List.mem_cons_self ..), rfl⟩)
      rw [List.map_cons, List.filterMap_cons_some e, ih fun q hq => hl2 q (List.mem_cons_of_mem _ hq)]
  exact this rows fun r hr => hp.mem_iff.mpr hr
include h hl hs hp in
theorem marks_comp {r : List Tx} (hr : r ∈ rows') : comp (fun (x2 : Tx) => (Option.bind (look (idx ks) x2) fun t3 => some (some t3))) r = some (marks ks r) := by
  have hrow := allRows_row (hs.subset (hp.mem_iff.mp hr))
  exact comp_all (g := mk ks) fun k hk => by rw [(mk_mem h hl (hrow.2 k hk)).1]; rfl
include h hl hw1 hs hz hp in
theorem orderedD_ok : m_ordered_rowsD (idx ks) rows' = some rows := by
  unfold m_ordered_rowsD
  have hnd : (rows'.map (marks ks)).Nodup := ((hp.map _).symm).nodup_iff.mp (marks_nd h hl hs)
  rw [fold_dstep (p := fun r => (marks ks r, r)) (fun r hr => by rw [marks_comp h hl hs hp hr]; rfl) (by exact hnd) (by rw [hp.length_eq]; show 0 + _ ≤ _; omega), Option.bind_some, List.nil_append, sortV_ok h hl hw1 hs hz hp]
  rfl
include h hl hw1 hs hz hp in
theorem ordered_ok (b : Bool) : m_ordered_rows (idx ks) (rows'.map fun r => (b, r)) = some rows := by
  unfold m_ordered_rows
  have hnd : (rows'.map (marks ks)).Nodup := ((hp.map _).symm).nodup_iff.mp (marks_nd h hl hs)
  rw [fold_dstep (p := fun x : Bool × List Tx => (marks ks x.2, x.2)) (fun x hx => by
    obtain ⟨r, hr, rfl⟩ := List.mem_map.mp hx
    show (Option.bind (comp _ r) fun t5 => some (t5, r)) = _
    rw [marks_comp h hl hs hp hr]; rfl) (by
    show ((rows'.map fun r => (b, r)).map fun x => marks ks x.2).Nodup
    rw [List.map_map]; exact hnd) (by rw [List.length_map, hp.length_eq]; show 0 + _ ≤ _; omega), Option.bind_some, List.nil_append, List.map_map]
  rw [show (rows'.map ((fun x : Bool × List Tx => (marks ks x.2, x.2)) ∘ fun r => (b, r))) = rows'.map fun r => (marks ks r, r) from rfl, sortV_ok h hl hw1 hs hz hp]
  rfl
end
end K0
set_option Elab.async false
set_option linter.all false
set_option maxRecDepth 100000
set_option maxHeartbeats 2000000
/-! the mathematics: a book of lists -/
namespace K0
open PySem PySem.Spec PyProof.Rows L2 Fz
def bk (sp : Spc) : Bk := ⟨sp.1, sp.2, idx sp.1, sp.2.map fun n => (n.1, n.2.1), sp.2.map fun n => (n.1, n.2.2), sp.2.map fun n => (n.1, n.2.2.map fun r => (r, true)), listedOf sp.2⟩
section
variable {α β S : Type}
theorem fold_unit {f : Unit → α → Option Unit} : ∀ {xs : List α}, (∀ x ∈ xs, f () x = some ()) → fold f () xs = some ()
  | [], _ => rfl
  | x :: xs, h => by
    rw [fold_cons (h x (List.mem_cons_self ..))]
    exact fold_unit fun y hy => h y (List.mem_cons_of_mem _ hy)
theorem fold_app {f : S → α → Option S} : ∀ {xs ys : List α} {s s' : S}, fold f s xs = some s' → fold f s (xs ++ ys) = fold f s' ys
  | [], ys, s, s', h => by
    have e : s = s' := Option.some.inj h
    rw [e]; rfl
  | x :: xs, ys, s, s', h => by
    cases e : f s x with
    | none =>
      have : fold f s (x :: xs) = none := by unfold fold; rw [e]
      rw [this] at h; cases h
    | some s1 =>
      rw [fold_cons e] at h
      rw [List.cons_append, fold_cons e]
      exact fold_app h
theorem fold_of_map {f : S → β → Option S} {g : α → β} : ∀ {xs : List α} {s : S}, fold (fun s x => f s (g x)) s xs = fold f s (xs.map g)
  | [], _ => rfl
  | x :: xs, s => by
    cases e : f s (g x) with
    | none =>
      have h1 : fold (fun s x => f s (g x)) s (x :: xs) = none := by unfold fold; rw [e]
      have h2 : fold f s ((x :: xs).map g) = none := by rw [List.map_cons]; unfold fold; rw [e]
      rw [h1, h2]
    | some s1 =>
      rw [List.map_cons, fold_cons e, fold_cons (f := fun s x => f s (g x)) e]
      exact fold_of_map
theorem comp_F2 {f : α → Option (Option β)} : ∀ {xs : List α} {ys : List β}, F2 (fun x y => f x = some (some y)) xs ys → comp f xs = some ys
  | _, _, .nil => rfl
  | _, _, .cons h t => by
    unfold comp
    rw [h, comp_F2 t]; rfl
theorem F2.imp {r q : α → β → Prop} : ∀ {xs : List α} {ys : List β}, (∀ x ∈ xs, ∀ y ∈ ys, r x y → q x y) → F2 r xs ys → F2 q xs ys
  | _, _, _, .nil => .nil
  | _, _, h, .cons a t => .cons (h _ (List.mem_cons_self ..) _ (List.mem_cons_self ..) a) (F2.imp (fun x hx y hy => h x (List.mem_cons_of_mem _ hx) y (List.mem_cons_of_mem _ hy)) t)
theorem F2.map_eq {γ : Type} {r : α → β → Prop} {f : α → γ} {g : β → γ} (h : ∀ x y, r x y → f x = g y) : ∀ {xs : List α} {ys : List β}, F2 r xs ys → xs.map f = ys.map g
  | _, _, .nil => rfl
  | _, _, .cons a t => by rw [List.map_cons, List.map_cons, h _ _ a, F2.map_eq h t]
theorem F2.left {r : α → β → Prop} : ∀ {xs : List α} {ys : List β}, F2 r xs ys → ∀ x ∈ xs, ∃ y ∈ ys, r x y
  | _, _, .nil, _, h => by cases h
  | _, _, .cons h t, x, hx => by
    rcases List.mem_cons.mp hx with rfl | h1
    · exact ⟨_, List.mem_cons_self .., h⟩
    · obtain ⟨y, hy, hr⟩ := F2.left t x h1
      exact ⟨y, List.mem_cons_of_mem _ hy, hr⟩
end
section
variable {B : Nat} {sp : Spc} (O : Okb B sp) (hB : B ≤ 63)
include O in
theorem Okb.rnd {n : Norm} (hn : n ∈ sp.2) : n.2.2.Nodup := by
  obtain ⟨w, _, _, _, hs⟩ := O.nw n hn
  exact hs.nodup (allRows_nodup O.kd w)
include O in
theorem Okb.row {n : Norm} (hn : n ∈ sp.2) {r : List Tx} (hr : r ∈ n.2.2) : ∃ w : Nat, n.2.1 = (w : Int) ∧ 1 ≤ w ∧ w ≤ 4 ∧ r.length = w ∧ ∀ k ∈ r, k ∈ sp.1 := by
  obtain ⟨w, h1, h2, h3, hs⟩ := O.nw n hn
  obtain ⟨h4, h5⟩ := allRows_row (hs.subset hr)
  exact ⟨w, h1, h2, h3, h4, h5⟩
include O hB in
theorem BookOf_ok : m_BookOf (sp.1, sp.2) = some (bk sp) := by
  unfold m_BookOf
  have h6 := O.k6
  have h8 := O.n8
  have hc : m_check_limits (sp.1, sp.2) = some () := by
    unfold m_check_limits
    rw [if_neg (by rw [decide_eq_true_eq]; show ¬ (6 : Int) < (sp.1.length : Int); omega), if_neg (by rw [decide_eq_true_eq]; show ¬ (8 : Int) < (sp.2.length : Int); omega), fold_unit fun n hn => by
      have := O.nl n hn
      rw [if_neg (by rw [decide_eq_true_eq]; show ¬ (120 : Int) < (n.2.2.length : Int); omega)]]
    rfl
  have hnd : ([] ++ sp.2.map fun n : Norm => n.1).Nodup := O.nd
  rw [hc, Option.bind_some, idx_fold O.kd (by show sp.1.length ≤ 100; omega), Option.bind_some]
  rw [fold_dstep (xs := sp.2) (acc := ([] : List (Tx × Int))) (p := fun n : Norm => (n.1, n.2.1)) (fun _ _ => rfl) hnd (by show 0 + sp.2.length ≤ _; omega), Option.bind_some]
  rw [fold_dstep (xs := sp.2) (acc := ([] : List (Tx × List (List Tx)))) (p := fun n : Norm => (n.1, n.2.2)) (fun _ _ => rfl) hnd (by show 0 + sp.2.length ≤ _; omega), Option.bind_some]
  rw [fold_dstep (xs := sp.2) (acc := ([] : List (Tx × List (List Tx × Bool)))) (p := fun n : Norm => (n.1, n.2.2.map fun r => (r, true))) (fun n hn => by
    have := O.nl n hn
    rw [fold_dstep (p := fun r : List Tx => (r, true)) (fun _ _ => rfl) (by
      show (([] : List (List Tx)) ++ n.2.2.map fun r => r).Nodup
      rw [List.map_id', List.nil_append]; exact O.rnd hn) (by show 0 + _ ≤ _; omega)]
    rfl) hnd (by show 0 + sp.2.length ≤ _; omega), Option.bind_some]
  rw [if_pos (by
    have := flat_le (h := fun x : Norm => x.2.2.map fun r => (x.1, r)) (c := 63) (xs := sp.2) fun n hn => by rw [List.length_map]; have := O.nl n hn; omega
    rw [szl]
    show (sp.2.flatMap fun x : Norm => x.2.2.map fun r => (x.1, r)).length ≤ _
    omega)]
  rfl
include O in
theorem wrong_kinds_ok : m_wrong_kinds sp.1 = some [] := by
  unfold m_wrong_kinds
  have h2 := O.k2
  have hw : m_first_wrong sp.1 = some none := by
    unfold m_first_wrong
    rw [loop_all fun x hx => by rw [(O.kn x hx).plain]; rfl]; rfl
  have hd : m_first_double sp.1 = some none := by
    unfold m_first_double
    rw [loop_inv (g := fun (st : List (Tx × Bool)) x => st ++ [(x, true)]) (I := fun ys st => ((st.map fun p => p.1) ++ ys).Nodup ∧ st.length + ys.length ≤ 6) ⟨O.kd, by have := O.k6; show 0 + _ ≤ 6; omega⟩ (fun x ys st ⟨h1, h2⟩ => ?_)]
    · rfl
    · rw [List.length_cons] at h2
      have hx : x ∉ st.map fun p => p.1 := fun z => by
        rw [List.nodup_append] at h1
        exact h1.2.2 _ z _ (List.mem_cons_self ..) rfl
      refine ⟨?_, by rw [List.map_append, List.append_assoc]; exact h1, by rw [List.length_append]; show st.length + 1 + _ ≤ 6; omega⟩
      rw [look_no hx]
      show (Option.bind (Fm.dput st x true) fun t19 => some (Ct.go t19)) = _
      rw [e_dput hx (by omega)]; rfl
  rw [if_neg (by rw [decide_eq_true_eq]; omega), hw, Option.bind_some]
  show (Option.bind (m_first_double sp.1) _) = _
  rw [hd]; rfl
include O in
theorem wrong_row_ok {n : Norm} (hn : n ∈ sp.2) {r : List Tx} (hr : r ∈ n.2.2) (b : Bool) : m_wrong_row sp.1 n.2.1 (b, r) = some [] := by
  obtain ⟨w, h1, h2, h3, h4, h5⟩ := O.row hn hr
  unfold m_wrong_row
  rw [if_neg (by rw [decide_eq_true (by show (r.length : Int) = n.2.1; rw [h1, h4])]; decide), loop_all fun x hx => by
    rw [mem_iff.mpr (h5 x hx)]; rfl]
  rfl
end
theorem wrong_rows_ok {B : Nat} {sp : Spc} (O : Okb B sp) (hB : B ≤ 63) {n : Norm} (hn : n ∈ sp.2) {rows : List (List Tx)} (hp : rows.Perm n.2.2) (b : Bool) : m_wrong_rows sp.1 n.2.1 (rows.map fun r => (b, r)) = some [] := by
  unfold m_wrong_rows
  have hl := O.nl n hn
  have hnd : rows.Nodup := hp.nodup_iff.mpr (O.rnd hn)
  rw [loop_inv (g := fun (st : List (List Tx × Bool)) (x : Bool × List Tx) => st ++ [(x.2, true)]) (I := fun ys st => ((st.map fun p => p.1) ++ ys.map fun x => x.2).Nodup ∧ st.length + ys.length ≤ 63 ∧ ∀ x ∈ ys, ∃ r ∈ n.2.2, x = (b, r)) ⟨by
    show ([] ++ (rows.map fun r => (b, r)).map fun x : Bool × List Tx => x.2).Nodup
    rw [List.map_map, List.nil_append]; show (rows.map fun r => r).Nodup; rw [List.map_id']; exact hnd, by rw [List.length_map, hp.length_eq]; show 0 + _ ≤ 63; omega, fun x hx => by
    obtain ⟨r, hr, rfl⟩ := List.mem_map.mp hx
    exact ⟨r, hp.mem_iff.mp hr, rfl⟩⟩ (fun x ys st ⟨h1, h2, h3⟩ => ?_)]
  · rfl
  · obtain ⟨r, hr, rfl⟩ := h3 x (List.mem_cons_self ..)
    rw [List.length_cons] at h2
    have hx : r ∉ st.map fun p => p.1 := fun z => by
      rw [List.nodup_append] at h1
      exact h1.2.2 _ z _ (List.mem_cons_self ..) rfl
    refine ⟨?_, by rw [List.map_append, List.append_assoc]; exact h1, by rw [List.length_append]; show st.length + 1 + _ ≤ 63; omega, fun y hy => h3 y (List.mem_cons_of_mem _ hy)⟩
    rw [wrong_row_ok O hn hr, Option.bind_some, look_no hx]
    show (Option.bind (Fm.dput st r true) fun t28 => some (Ct.go t28)) = _
    rw [e_dput hx (by omega)]; rfl
theorem fold_true {ks : List Tx} (h : ks.Nodup) (hl : ks.length ≤ 100) : fold (dstep (fun (x1 : Tx) => (some (x1, true)))) [] ks = some (ks.map fun k => (k, true)) := by
  rw [fold_dstep (p := fun k : Tx => (k, true)) (fun _ _ => rfl) (by
    show (([] : List Tx) ++ ks.map fun k => k).Nodup
    rw [List.map_id', List.nil_append]; exact h) (by show 0 + _ ≤ _; omega)]
  rfl
theorem wrong_rules_ok {B : Nat} {sp : Spc} (O : Okb B sp) (hB : B ≤ 63) {gs : List Gn} (hg : PermG gs sp.2) : m_wrong_rules sp.1 (gs.map toL) = some [] := by
  unfold m_wrong_rules
  have h6 := O.k6
  have h8 := O.n8
  have hgl := F2.len hg
  have hnames : (gs.map fun g => g.1) = sp.2.map fun n => n.1 := F2.map_eq (fun x y h => h.1) hg
  rw [fold_true O.kd (by omega), Option.bind_some, show ((sp.1.map fun k => (k, true)).map (·.1)) = sp.1 by rw [List.map_map]; exact List.map_id' _]
  rw [loop_inv (g := fun (st : List (Tx × Bool)) (x : Tx × Int × List (Bool × List Tx)) => st ++ [(x.1, true)]) (I := fun ys st => ((st.map fun p => p.1) ++ ys.map fun x => x.1).Nodup ∧ st.length + ys.length ≤ 8 ∧ ∀ x ∈ ys, ∃ g n, n ∈ sp.2 ∧ x = toL g ∧ g.1 = n.1 ∧ g.2.1 = n.2.1 ∧ g.2.2.2.Perm n.2.2) ⟨by
    show ([] ++ (gs.map toL).map fun x : Tx × Int × List (Bool × List Tx) => x.1).Nodup
    rw [List.map_map, List.nil_append]
    show (gs.map fun g => g.1).Nodup
    rw [hnames]; exact O.nd, by rw [List.length_map]; show 0 + _ ≤ 8; omega, fun x hx => by
    obtain ⟨g, hgm, rfl⟩ := List.mem_map.mp hx
    obtain ⟨n, hn, h1, h2, h3⟩ := F2.left hg g hgm
    exact ⟨g, n, hn, rfl, h1, h2, h3⟩⟩ (fun x ys st ⟨h1, h2, h3⟩ => ?_)]
  · rfl
  · obtain ⟨g, n, hn, rfl, e1, e2, e3⟩ := h3 x (List.mem_cons_self ..)
    rw [List.length_cons] at h2
    have hx : g.1 ∉ st.map fun p => p.1 := fun z => by
      rw [List.nodup_append] at h1
      exact h1.2.2 _ z _ (List.mem_cons_self ..) rfl
    obtain ⟨w, hw, hw1, hw4, _⟩ := O.nw n hn
    refine ⟨?_, by rw [List.map_append, List.append_assoc]; exact h1, by rw [List.length_append]; show st.length + 1 + _ ≤ 8; omega, fun y hy => h3 y (List.mem_cons_of_mem _ hy)⟩
    show (Option.bind (m_plain_name g.1) _) = _
    rw [show m_plain_name g.1 = some true by rw [e1]; exact (O.nn n hn).plain, Option.bind_some, if_neg (by decide), show look st (toL g).1 = none from look_no hx, if_neg (by decide), show Fm.dput st (toL g).1 true = some (st ++ [(g.1, true)]) from e_dput hx (by omega), Option.bind_some]
    rw [if_neg (by
      show ¬ (!((decide ((1 : Int) ≤ g.2.1)) && (decide (g.2.1 ≤ (4 : Int))))) = true
      rw [e2, hw, decide_eq_true (by omega), decide_eq_true (by omega)]; decide)]
    rw [show m_wrong_rows sp.1 (toL g).2.1 (toL g).2.2 = some [] by
      show m_wrong_rows sp.1 g.2.1 (g.2.2.2.map fun r => (g.2.2.1, r)) = some []
      rw [e2]; exact wrong_rows_ok O hB hn e3 _]
    rfl
theorem of_ok {B : Nat} {sp : Spc} (O : Okb B sp) (hB : B ≤ 63) {gs : List Gn} (hg : PermG gs sp.2) : m_of (sp.1, gs.map toL) = some (bk sp) := by
  unfold m_of
  have h6 := O.k6
  have hl : m_listed_book sp.1 (gs.map toL) = some (sp.1, sp.2) := by
    unfold m_listed_book
    rw [wrong_kinds_ok O, Option.bind_some]
    rw [if_pos (by decide), wrong_rules_ok O hB hg, Option.bind_some, Option.bind_some, if_neg (by decide), idx_fold O.kd (by omega), Option.bind_some]
    rw [comp_F2 (ys := sp.2) ?_, Option.bind_some]
    · rfl
    · have key : ∀ (gs : List Gn) (ns : List Norm), (∀ n ∈ ns, n ∈ sp.2) → PermG gs ns → F2 (fun x y => (Option.bind (m_ordered_rows (idx sp.1) x.2.2) fun t30 => some (some (x.1, x.2.1, t30))) = some (some y)) (gs.map toL) ns := by
        intro gs ns hns h
        induction h with
        | nil => exact .nil
        | @cons g n gs ns hgn _ ih =>
          refine .cons ?_ (ih fun m hm => hns m (List.mem_cons_of_mem _ hm))
          obtain ⟨e1, e2, e3⟩ := hgn
          have hn := hns n (List.mem_cons_self ..)
          obtain ⟨w, hw, hw1, hw4, hs⟩ := O.nw n hn
          show (Option.bind (m_ordered_rows (idx sp.1) (g.2.2.2.map fun r => (g.2.2.1, r))) fun t30 => some (some (g.1, g.2.1, t30))) = _
          rw [ordered_ok O.kd O.k6 hw1 hs (Nat.le_trans (O.nl n hn) hB) e3, Option.bind_some, e1, e2]
      exact key gs sp.2 (fun _ h => h) hg
  show Option.bind (m_listed_book sp.1 (gs.map toL)) m_BookOf = _
  rw [hl, Option.bind_some]
  exact BookOf_ok O hB
end K0
set_option Elab.async false
set_option linter.all false
set_option maxRecDepth 100000
set_option maxHeartbeats 2000000
/-! the mathematics: a book's text is read -/
namespace K0
open PySem PySem.Spec PyProof.Rows L2 Fz
def rdS (st : RdSt) (l : Tx) : Option RdSt := Option.bind (m_take st l) fun p => if (!p.1.isEmpty) = true then none else some p.2
def fdOf (n : Norm) : Tx × Int × List (List Tx × Bool) := (n.1, n.2.1, n.2.2.map fun r => (r, true))
def rdAt (ks : List Tx) (ns : List Norm) : RdSt := ⟨cRules, idx ks, ns.map fun n => (n.1, true), ns.map fdOf⟩
theorem nE : ¬ (!([] : Tx).isEmpty) = true := by decide
theorem Nm.no {w : Tx} (h : Nm w) {c : Nat} (hc : c < 48) : c ∉ w := fun z => by have := (h.lt z).1; omega
theorem split_join {ws : List Tx} (hne : ws ≠ []) (h : ∀ w ∈ ws, 32 ∉ w) (hl : (TL.joinL [32] ws).length ≤ 100000) : Fm.split (TL.joinL [32] ws) [32] = some ws := by
  rw [e_split (by decide) hl, spl_words hne h]
theorem done_ne {ws : List Tx} (hne : ws ≠ []) (h : ∀ w ∈ ws, 32 ∉ w) (hd : ws ≠ [cDone]) : TL.joinL [32] ws ≠ cDone := fun z => by
  have h1 := spl_words hne h
  rw [z] at h1
  exact hd (h1.symm.trans (by decide))
/-- a line in the rules -/
theorem take_rules {ks : List Tx} {st : RdSt} (hst : st.stage = cRules) {ws : List Tx} (hne : ws ≠ []) (h : ∀ w ∈ ws, 32 ∉ w) (hd : ws ≠ [cDone]) (hl : (TL.joinL [32] ws).length ≤ 100000) :
    m_take st (TL.joinL [32] ws) = if (decide (ws.head hne = cRule)) = true then m_take_rule st ws else m_take_row st ws := by
  unfold m_take
  rw [split_join hne h hl, Option.bind_some, hst, if_neg (by decide), if_neg (by decide), if_neg (by decide), if_neg (by rw [decide_eq_true_eq]; exact done_ne hne h hd)]
  obtain ⟨w, r, rfl⟩ := List.exists_cons_of_ne_nil hne
  rw [show Fm.ix (w :: r) (0 : Int) = some w from e_ixZ (by decide) rfl, Option.bind_some]
  rfl
section
variable {B : Nat} {sp : Spc} (O : Okb B sp) (hB : B ≤ 63)
include O in
theorem kw_no {w : Tx} (h : w ∈ sp.1) : 32 ∉ w ∧ 10 ∉ w := ⟨(O.kn w h).no (by decide), (O.kn w h).no (by decide)⟩
theorem len9 {w : Tx} (h : Nm w) : w.length ≤ 8 := h.len
theorem rLine_eq {n : Norm} {w : Nat} (hw : n.2.1 = (w : Int)) (h1 : 1 ≤ w) (h4 : w ≤ 4) : rLine n = TL.joinL [32] [cRule, n.1, [48 + w]] := by
  unfold rLine
  rw [hw, (dig_ok h1 h4).1]
  show _ = cRule ++ ([32] ++ (n.1 ++ ([32] ++ [48 + w])))
  simp [cRule]
theorem rd_rule {ks : List Tx} {ns : List Norm} {n : Norm} {w : Nat} (hn : Nm n.1) (hw : n.2.1 = (w : Int)) (h1 : 1 ≤ w) (h4 : w ≤ 4) (hnew : n.1 ∉ ns.map fun n => n.1) (hl : ns.length ≤ 8) :
    rdS (rdAt ks ns) (rLine n) = some { rdAt ks ns with names := (ns ++ [n]).map fun n => (n.1, true), found := ns.map fdOf ++ [(n.1, n.2.1, [])] } := by
  have hd := dig_ok h1 h4
  have hlen := hn.len
  have hj : (TL.joinL [32] [cRule, n.1, [48 + w]]).length ≤ 100000 := by
    show (cRule ++ ([32] ++ (n.1 ++ ([32] ++ [48 + w])))).length ≤ _
    simp only [List.length_append]
    show 4 + (1 + (_ + (1 + 1))) ≤ _
    omega
  unfold rdS
  rw [rLine_eq hw h1 h4, take_rules (ks := ks) rfl (List.cons_ne_nil _ _) (fun x hx => by
    simp only [List.mem_cons, List.not_mem_nil, or_false] at hx
    rcases hx with rfl | rfl | rfl
    · decide
    · exact hn.no (by decide)
    · rw [List.mem_singleton]; omega) (by simp) hj]
  rw [if_pos (show decide (([cRule, n.1, [48 + w]] : List Tx).head (List.cons_ne_nil _ _) = cRule) = true from decide_eq_true rfl)]
  unfold m_take_rule
  rw [if_neg (by rw [show (([cRule, n.1, [48 + w]] : List Tx).length : Int) = 3 from rfl]; decide), show Fm.ix ([cRule, n.1, [48 + w]] : List Tx) 1 = some n.1 from e_ixZ (by decide) rfl, Option.bind_some, hn.plain, Option.bind_some, if_neg (by decide)]
  have hk : (ns.map fun n : Norm => (n.1, true)).map (fun p => p.1) = ns.map fun n => n.1 := by rw [List.map_map]; rfl
  rw [show look (rdAt ks ns).names n.1 = none from look_no (by show n.1 ∉ (ns.map fun n : Norm => (n.1, true)).map (fun p => p.1); rw [hk]; exact hnew), if_neg (by decide), show Fm.ix ([cRule, n.1, [48 + w]] : List Tx) 2 = some [48 + w] from e_ixZ (by decide) rfl, Option.bind_some, if_neg (by rw [hd.2.2.2]; decide)]
  rw [show Fm.dput (rdAt ks ns).names n.1 true = some ((rdAt ks ns).names ++ [(n.1, true)]) from e_dput (by show n.1 ∉ (ns.map fun n : Norm => (n.1, true)).map (fun p => p.1); rw [hk]; exact hnew) (by show (ns.map _).length ≤ _; rw [List.length_map]; omega), Option.bind_some, hd.2.2.1, Option.bind_some, show Fm.app (rdAt ks ns).found (n.1, (w : Int), []) = some ((rdAt ks ns).found ++ [(n.1, (w : Int), [])]) from e_app (by show (ns.map _).length < _; rw [List.length_map]; omega), Option.bind_some, Option.bind_some, if_neg nE, List.map_append, hw]
  rfl
include O in
theorem rd_row {n : Norm} (hn : n ∈ sp.2) {r : List Tx} (hr : r ∈ n.2.2) {nm : List (Tx × Bool)} {F : List (Tx × Int × List (List Tx × Bool))} {done : List (List Tx)} (hnew : r ∉ done) (hl : done.length ≤ 100) :
    rdS ⟨cRules, idx sp.1, nm, F ++ [(n.1, n.2.1, done.map fun r => (r, true))]⟩ (TL.joinL [32] r) = some ⟨cRules, idx sp.1, nm, F ++ [(n.1, n.2.1, (done ++ [r]).map fun r => (r, true))]⟩ := by
  obtain ⟨w, hw, h1, h4, hrl, hrk⟩ := O.row hn hr
  have hne : r ≠ [] := fun z => by rw [z] at hrl; simp at hrl; omega
  have hj := join_le (ws := r) (c := 8) fun k hk => (O.kn k (hrk k hk)).len
  have hbar : ∀ k ∈ r, k ≠ cDone ∧ k ≠ cRule := fun k hk => by
    have := (O.kn k (hrk k hk)).nb
    exact ⟨fun z => this (by rw [z]; decide), fun z => this (by rw [z]; decide)⟩
  unfold rdS
  rw [take_rules (ks := sp.1) rfl hne (fun k hk => (kw_no O (hrk k hk)).1) (fun z => (hbar cDone (by rw [z]; exact List.mem_cons_self ..)).1 rfl) (by omega)]
  rw [if_neg (by rw [decide_eq_true_eq]; exact (hbar _ (List.head_mem hne)).2)]
  unfold m_take_row
  rw [if_neg (by simp)]
  have hk : (done.map fun r : List Tx => (r, true)).map (fun p => p.1) = done := by rw [List.map_map]; exact List.map_id' _
  rw [show (F ++ [(n.1, n.2.1, done.map fun r => (r, true))]).getLast? = some (n.1, n.2.1, done.map fun r => (r, true)) by simp, Option.bind_some]
  rw [show ((idx sp.1).map (·.1)) = sp.1 from idx_keys _, wrong_row_ok O hn hr, Option.bind_some, if_neg (by decide), show look (done.map fun r : List Tx => (r, true)) r = none from look_no (by rw [hk]; exact hnew), if_neg (by decide)]
  rw [show Fm.dput (done.map fun r : List Tx => (r, true)) r true = some ((done.map fun r : List Tx => (r, true)) ++ [(r, true)]) from e_dput (by rw [hk]; exact hnew) (by rw [List.length_map]; omega), Option.bind_some, Option.bind_some, if_neg nE]
  rw [List.dropLast_concat, List.map_append]
  rfl
end
section
variable {B : Nat} {sp tp : Spc} (O : Okb B sp) (hB : B ≤ 63) (hP : PermS tp sp)
include O hB hP in
theorem tz_of : Tz tp := by
  obtain ⟨e, h⟩ := hP
  have hl := F2.len h
  refine ⟨by rw [e]; exact O.k6, fun w hw => (O.kn w (e ▸ hw)).len, by rw [hl]; exact O.n8, fun n hn => ?_, fun n hn => ?_, fun n hn => ?_, fun n hn r hr => ?_⟩
  all_goals obtain ⟨m, hm, h1, h2, h3⟩ := F2.left h n hn
  · rw [h1]; exact (O.nn m hm).len
  · obtain ⟨w, hw, a1, a2, _⟩ := O.nw m hm
    exact ⟨w, by rw [h2]; exact hw, a1, a2⟩
  · rw [h3.length_eq]; exact Nat.le_trans (O.nl m hm) hB
  · obtain ⟨w, _, _, a3, a4, a5⟩ := O.row hm (h3.mem_iff.mp hr)
    exact ⟨by omega, fun k hk => (O.kn k (a5 k hk)).len⟩
include O hB in
theorem rd_rows {m : Norm} (hm : m ∈ sp.2) {nm : List (Tx × Bool)} {F : List (Tx × Int × List (List Tx × Bool))} : ∀ (rows done : List (List Tx)), (∀ r ∈ rows, r ∈ m.2.2) → (done ++ rows).Nodup → (done ++ rows).length ≤ 63 →
    fold rdS ⟨cRules, idx sp.1, nm, F ++ [(m.1, m.2.1, done.map fun r => (r, true))]⟩ (rows.map (TL.joinL [32])) = some ⟨cRules, idx sp.1, nm, F ++ [(m.1, m.2.1, (done ++ rows).map fun r => (r, true))]⟩
  | [], done, _, _, _ => by rw [List.append_nil]; rfl
  | r :: rows, done, hr, hn, hl => by
    have hnew : r ∉ done := fun z => by
      rw [List.nodup_append] at hn
      exact hn.2.2 _ z _ (List.mem_cons_self ..) rfl
    rw [List.length_append, List.length_cons] at hl
    rw [List.map_cons, fold_cons (rd_row O hm (hr r (List.mem_cons_self ..)) hnew (by omega)), rd_rows hm rows (done ++ [r]) (fun q hq => hr q (List.mem_cons_of_mem _ hq)) (by rw [List.append_assoc]; exact hn) (by rw [List.length_append, List.length_append]; show _ + 1 + _ ≤ 63; omega), List.append_assoc]
    rfl
include O hB in
theorem rd_norms : ∀ (ns : List Norm) (ms : List Norm) (done : List Norm), F2 (fun x y : Norm => x.1 = y.1 ∧ x.2.1 = y.2.1 ∧ x.2.2.Perm y.2.2) ns ms → (∀ m ∈ ms, m ∈ sp.2) → ((done ++ ns).map fun n => n.1).Nodup → (done ++ ns).length ≤ 8 →
    fold rdS (rdAt sp.1 done) (ns.flatMap nLines) = some (rdAt sp.1 (done ++ ns))
  | _, _, done, .nil, _, _, _ => by rw [List.append_nil]; rfl
  | n :: ns, m :: ms, done, .cons hnm ht, hms, hnd, hl => by
    obtain ⟨e1, e2, e3⟩ := hnm
    have hm := hms m (List.mem_cons_self ..)
    obtain ⟨w, hw, h1, h4, hs⟩ := O.nw m hm
    rw [List.length_append, List.length_cons] at hl
    have hnew : n.1 ∉ done.map fun n => n.1 := fun z => by
      rw [List.map_append, List.nodup_append] at hnd
      exact hnd.2.2 _ z _ (List.mem_cons_self ..) rfl
    have hstep : fold rdS (rdAt sp.1 done) (nLines n) = some (rdAt sp.1 (done ++ [n])) := by
      unfold nLines
      rw [fold_cons (rd_rule (ks := sp.1) (by rw [e1]; exact O.nn m hm) (by rw [e2]; exact hw) h1 h4 hnew (by omega))]
      have := rd_rows O hB hm (nm := (done ++ [n]).map fun n => (n.1, true)) (F := done.map fdOf) n.2.2 [] (fun r hr => e3.mem_iff.mp hr) (by rw [List.nil_append]; exact e3.nodup_iff.mpr (O.rnd hm)) (by rw [List.nil_append, e3.length_eq]; exact Nat.le_trans (O.nl m hm) hB)
      rw [List.nil_append, ← e1, ← e2] at this
      have e : (⟨cRules, idx sp.1, (done ++ [n]).map fun n => (n.1, true), done.map fdOf ++ [(n.1, n.2.1, n.2.2.map fun r => (r, true))]⟩ : RdSt) = rdAt sp.1 (done ++ [n]) := by
        unfold rdAt
        rw [List.map_append (f := fdOf)]; rfl
      rw [← e]
      exact this
    rw [List.flatMap_cons, fold_app hstep, rd_norms ns ms (done ++ [n]) ht (fun q hq => hms q (List.mem_cons_of_mem _ hq)) (by rw [List.append_assoc]; exact hnd) (by rw [List.length_append, List.length_append]; show _ + 1 + _ ≤ 8; omega), List.append_assoc]
    rfl
include O hB hP in
theorem lines_nl : ∀ l ∈ lines tp, 10 ∉ l := by
  obtain ⟨e, h⟩ := hP
  have hj : ∀ ws : List Tx, (∀ w ∈ ws, 10 ∉ w) → 10 ∉ TL.joinL [32] ws := by
    intro ws
    induction ws with
    | nil => intro _; exact fun z => nomatch z
    | cons w r ih =>
      intro hw
      cases r with
      | nil => exact hw w (List.mem_cons_self ..)
      | cons v r =>
        show 10 ∉ w ++ ([32] ++ TL.joinL [32] (v :: r))
        rw [List.mem_append, List.mem_append]
        rintro (z | z | z)
        · exact hw w (List.mem_cons_self ..) z
        · simp at z
        · exact ih (fun x hx => hw x (List.mem_cons_of_mem _ hx)) z
  intro l hl
  unfold lines at hl
  rcases List.mem_append.mp hl with hl | hl
  · rcases List.mem_cons.mp hl with rfl | hl
    · decide
    · rcases List.mem_cons.mp hl with rfl | hl
      · unfold kLine
        rw [List.mem_append]
        rintro (z | z)
        · revert z; decide
        · exact hj tp.1 (fun w hw => (kw_no O (e ▸ hw)).2) z
      · obtain ⟨n, hn, hl⟩ := List.mem_flatMap.mp hl
        obtain ⟨m, hm, h1, h2, h3⟩ := F2.left h n hn
        obtain ⟨w, hw, a1, a4, _⟩ := O.nw m hm
        rcases List.mem_cons.mp hl with rfl | hl
        · rw [rLine_eq (by rw [h2]; exact hw) a1 a4]
          refine hj _ fun x hx => ?_
          simp only [List.mem_cons, List.not_mem_nil, or_false] at hx
          rcases hx with rfl | rfl | rfl
          · decide
          · rw [h1]; exact (O.nn m hm).no (by decide)
          · rw [List.mem_singleton]; omega
        · obtain ⟨r, hr, rfl⟩ := List.mem_map.mp hl
          obtain ⟨_, _, _, _, _, a5⟩ := O.row hm (h3.mem_iff.mp hr)
          exact hj r fun k hk => (kw_no O (a5 k hk)).2
  · rw [List.mem_singleton.mp hl]; decide
include O hB hP in
theorem rd_all : fold rdS rd0 (lines tp) = some { rdAt sp.1 tp.2 with stage := cDone } := by
  have hz := tz_of O hB hP
  obtain ⟨e, h⟩ := hP
  have hl := F2.len h
  have hn : (tp.2.map fun n => n.1) = sp.2.map fun n => n.1 := F2.map_eq (fun x y h => h.1) h
  have h6 := O.k6
  have h2 := O.k2
  have hkne : sp.1 ≠ [] := fun z => by rw [z] at h2; simp at h2
  have s1 : rdS rd0 cBook = some ⟨cKinds, [], [], []⟩ := by
    unfold rdS m_take
    rw [show Fm.split cBook [32] = some [cBook] by decide +kernel, Option.bind_some, if_pos (by decide), if_pos (by decide), Option.bind_some, if_neg nE]
  have hkl : kLine sp.1 = TL.joinL [32] (cKinds :: sp.1) := by
    obtain ⟨k, r, hk⟩ := List.exists_cons_of_ne_nil hkne
    unfold kLine
    rw [hk]
    show _ = cKinds ++ ([32] ++ TL.joinL [32] (k :: r))
    simp [cKinds]
  have s2 : rdS ⟨cKinds, [], [], []⟩ (kLine tp.1) = some (rdAt sp.1 []) := by
    rw [e, hkl]
    have hlen : (TL.joinL [32] (cKinds :: sp.1)).length ≤ 100000 := by
      have := join_le (ws := cKinds :: sp.1) (c := 8) fun w hw => by
        rcases List.mem_cons.mp hw with rfl | hw
        · decide
        · exact (O.kn w hw).len
      rw [List.length_cons] at this
      omega
    unfold rdS m_take
    rw [split_join (List.cons_ne_nil _ _) (fun w hw => by
      rcases List.mem_cons.mp hw with rfl | hw
      · decide
      · exact (kw_no O hw).1) hlen, Option.bind_some, if_neg (by show ¬ decide (cKinds = cHead) = true; decide), if_pos (by show decide (cKinds = cKinds) = true; decide)]
    unfold m_take_kinds
    rw [show Fm.ix (cKinds :: sp.1) 0 = some cKinds from e_ixZ (by decide) rfl, Option.bind_some, if_neg (by decide)]
    rw [show Fm.cut (cKinds :: sp.1) (some 1) none = sp.1 from cut_from (l := [cKinds]) (r := sp.1) (k := 1) rfl, wrong_kinds_ok O, Option.bind_some, if_pos (by decide), idx_fold O.kd (by omega), Option.bind_some, Option.bind_some, if_neg nE]
    rfl
  have s3 := rd_norms O hB tp.2 sp.2 [] h (fun _ h => h) (by rw [List.nil_append, hn]; exact O.nd) (by rw [List.nil_append, hl]; exact O.n8)
  rw [List.nil_append] at s3
  have s4 : rdS (rdAt sp.1 tp.2) cDone = some { rdAt sp.1 tp.2 with stage := cDone } := by
    unfold rdS m_take
    rw [show Fm.split cDone [32] = some [cDone] by decide +kernel, Option.bind_some, if_neg (by show ¬ decide (cRules = cHead) = true; decide), if_neg (by show ¬ decide (cRules = cKinds) = true; decide), if_neg (by show ¬ decide (cRules = cDone) = true; decide), if_pos (by decide), Option.bind_some, if_neg nE]
  unfold lines
  rw [fold_app (s' := rdAt sp.1 tp.2)]
  · rw [fold_cons s4]; rfl
  · rw [fold_cons s1, fold_cons s2]; exact s3
include O hB hP in
theorem read_ok : m_read_book (txt tp) = some (sp.1, sp.2) := by
  have hz := tz_of O hB hP
  have htl := hz.txtLen
  unfold m_read_book
  rw [e_split (by decide) (by omega), Option.bind_some, show TL.spl [10] 0 [] (txt tp) = lines tp ++ [[]] from spl_lines (lines_nl O hB hP)]
  have hgl : (lines tp ++ [([] : Tx)]).getLast? = some [] := by simp
  rw [hgl, Option.bind_some, List.dropLast_concat]
  rw [show fold rdStep rd0 (enumL (lines tp)) = fold rdS rd0 (lines tp) by
    have := fold_of_map (f := rdS) (g := fun x : Int × Tx => x.2) (xs := enumL (lines tp)) (s := rd0)
    rw [enumL_snd] at this
    exact this, rd_all O hB hP, Option.bind_some]
  rw [if_neg (by show ¬ ((!([] : Tx).isEmpty) || (!decide (cDone = cDone))) = true; decide)]
  obtain ⟨e, h⟩ := hP
  have hK : okKeys (rdAt sp.1 tp.2).found = true := by
    unfold okKeys
    rw [List.all_eq_true]
    intro x hx
    obtain ⟨n, hn, rfl⟩ := List.mem_map.mp (show x ∈ tp.2.map fdOf from hx)
    rw [List.all_eq_true]
    intro kv hkv
    obtain ⟨r, hr, rfl⟩ := List.mem_map.mp (show kv ∈ n.2.2.map fun r => (r, true) from hkv)
    obtain ⟨h4, h8⟩ := hz.rw n hn r hr
    rw [Bool.and_eq_true, decide_eq_true_eq, List.all_eq_true, szl]
    exact ⟨by show r.length ≤ _; omega, fun k hk => decide_eq_true (by have := h8 k hk; omega)⟩
  have hN : okKnown (rdAt sp.1 tp.2).known = true := by
    unfold okKnown
    rw [List.all_eq_true]
    intro kv hkv
    have : kv.1 ∈ (idx sp.1).map fun p => p.1 := List.mem_map_of_mem (show kv ∈ idx sp.1 from hkv)
    rw [idx_keys] at this
    have := (O.kn _ this).len
    exact decide_eq_true (by rw [szl]; omega)
  unfold m_whole
  rw [if_pos ⟨hK, hN⟩]
  rw [comp_F2 (ys := sp.2) ?_, Option.bind_some, show ((rdAt sp.1 tp.2).known.map (·.1)) = sp.1 from idx_keys _]
  · rfl
  · have key : ∀ (ns ms : List Norm), (∀ m ∈ ms, m ∈ sp.2) → F2 (fun x y : Norm => x.1 = y.1 ∧ x.2.1 = y.2.1 ∧ x.2.2.Perm y.2.2) ns ms → F2 (fun (x : Tx × Int × List (List Tx × Bool)) (y : Norm) => (Option.bind (m_ordered_rowsD (idx sp.1) (x.2.2.map (·.1))) fun r => some (some (x.1, x.2.1, r))) = some (some y)) (ns.map fdOf) ms := by
      intro ns ms hms h
      induction h with
      | nil => exact .nil
      | @cons n m ns ms hnm _ ih =>
        refine .cons ?_ (ih fun q hq => hms q (List.mem_cons_of_mem _ hq))
        obtain ⟨e1, e2, e3⟩ := hnm
        have hm := hms m (List.mem_cons_self ..)
        obtain ⟨w, hw, hw1, hw4, hs⟩ := O.nw m hm
        show (Option.bind (m_ordered_rowsD (idx sp.1) ((n.2.2.map fun r => (r, true)).map (·.1))) fun r => some (some (n.1, n.2.1, r))) = _
        rw [show ((n.2.2.map fun r : List Tx => (r, true)).map (·.1)) = n.2.2 by rw [List.map_map]; exact List.map_id' _, orderedD_ok O.kd O.k6 hw1 hs (Nat.le_trans (O.nl m hm) hB) e3, Option.bind_some, e1, e2]
    exact key tp.2 sp.2 (fun _ h => h) h
include O hB hP in
theorem made_ok : ∃ t, m_law_book_text tp = some t ∧ m_Book (.inl t) = some (bk sp) := by
  refine ⟨txt tp, book_text_ok (tz_of O hB hP), ?_⟩
  show Option.bind (m_read_book (txt tp)) m_BookOf = _
  rw [read_ok O hB hP, Option.bind_some]
  exact BookOf_ok O hB
end
end K0
set_option Elab.async false
set_option linter.all false
set_option maxRecDepth 100000
set_option maxHeartbeats 2000000
/-! the mathematics: what is told of a book -/
namespace K0
open PySem PySem.Spec PyProof.Rows L2 Fz
theorem look_isSome {α κ : Type} [DecidableEq κ] {kvs : List (κ × α)} {k : κ} : (look kvs k).isSome = true ↔ k ∈ kvs.map fun p => p.1 := by
  constructor
  · intro h
    apply Classical.byContradiction
    intro hn
    rw [look_no hn] at h
    cases h
  · intro h
    obtain ⟨a, ha⟩ := look_mem (kvs := kvs) (k := k) h
    rw [ha]; rfl
theorem words_ok (v : List Tx) : m_law_words v 0 = some true := by
  unfold m_law_words
  rw [if_neg (by decide), comp_all (g := fun _ => true) (fun _ _ => rfl), Option.bind_some]
  congr 1
  rw [List.all_eq_true]
  intro b hb
  obtain ⟨_, _, rfl⟩ := List.mem_map.mp hb
  rfl
theorem row_list_ok {l : List (List Tx)} (h : l.length ≤ 100000) : m_law_row_list l l = some true := by
  unfold m_law_row_list
  rw [if_neg (by rw [decide_eq_true rfl]; decide), e_range (by omega), Option.bind_some, loop_all fun x hx => ?_]
  · rfl
  · obtain ⟨k, hk, rfl⟩ := List.mem_map.mp hx
    have hk := List.mem_range.mp hk
    have e : Fm.ix l (k : Int) = some l[k] := e_ix (List.getElem?_eq_getElem hk)
    rw [e, Option.bind_some, words_ok, Option.bind_some, if_neg (by decide), Option.bind_some, Option.bind_some, Option.bind_some, if_neg (by rw [decide_eq_true rfl]; decide)]
def rpA (k m : Nat) : Option Tx := Option.bind (Fm.strI (k : Int)) fun a => Option.bind (Fm.strI (m : Int)) fun b => Fm.cats [[66, 111, 111, 107, 40], a, [32, 107, 105, 110, 100, 115, 44, 32], b, [32, 114, 117, 108, 101, 115, 41]]
def rpB (k m : Nat) : Option Tx := Option.bind (Fm.strI (k : Int)) fun a => Option.bind (Fm.catS [66, 111, 111, 107, 40] a) fun t1 => Option.bind (Fm.catS t1 [32, 107, 105, 110, 100, 115, 44, 32]) fun t2 => Option.bind (Fm.strI (m : Int)) fun b => Option.bind (Fm.catS t2 b) fun t3 => Fm.catS t3 [32, 114, 117, 108, 101, 115, 41]
theorem rp_ok : (List.range 10).all (fun k => (List.range 10).all fun m => decide (rpA k m = rpB k m) && (rpA k m).isSome) = true := by decide +kernel
section
variable {B : Nat} {sp : Spc} (O : Okb B sp) (hB : B ≤ 63)
include O in
theorem lists_look {n : Norm} (hn : n ∈ sp.2) : look (bk sp).widths n.1 = some n.2.1 ∧ look (bk sp).lists n.1 = some n.2.2 := by
  constructor
  · refine look_of ?_ (List.mem_map.mpr ⟨n, hn, rfl⟩)
    show ((sp.2.map fun n : Norm => (n.1, n.2.1)).map fun p => p.1).Nodup
    rw [List.map_map]; exact O.nd
  · refine look_of ?_ (List.mem_map.mpr ⟨n, hn, rfl⟩)
    show ((sp.2.map fun n : Norm => (n.1, n.2.2)).map fun p => p.1).Nodup
    rw [List.map_map]; exact O.nd
include O hB in
theorem listed_len : (listedOf sp.2).length ≤ 504 := by
  have := flat_le (h := fun x : Norm => x.2.2.map fun r => (x.1, r)) (c := 63) (xs := sp.2) fun n hn => by rw [List.length_map]; have := O.nl n hn; omega
  have h8 := O.n8
  show (sp.2.flatMap fun x : Norm => x.2.2.map fun r => (x.1, r)).length ≤ _
  omega
include O hB in
theorem told_ok : Told (bk sp) sp := by
  have h6 := O.k6
  have h8 := O.n8
  have hll := listed_len O hB
  have hz := tz_of O hB (permS_refl sp)
  have htl := hz.txtLen
  refine ⟨words_ok _, ?_, words_ok _, rfl, fun n hn => ?_, ?_, by show (listedOf sp.2).length ≤ _; rw [szl]; omega, ⟨_, e_range (by show (listedOf sp.2).length ≤ _; omega), fold_unit fun k hk => ?_⟩, ⟨txt sp, ?_, book_text_ok hz⟩, by show sp.1.length ≤ _; rw [szl]; omega, ?_, ?_⟩
  · unfold m_rules
    rw [if_pos]
    · show some ((sp.2.map fun n : Norm => (n.1, n.2.1)).map fun p => p.1) = _
      rw [List.map_map]; rfl
    · unfold okW
      rw [List.all_eq_true]
      intro kv hkv
      obtain ⟨n, hn, rfl⟩ := List.mem_map.mp (show kv ∈ sp.2.map fun n : Norm => (n.1, n.2.1) from hkv)
      have := (O.nn n hn).len
      exact decide_eq_true (by rw [szl]; show n.1.length ≤ _; omega)
  · obtain ⟨l1, l2⟩ := lists_look O hn
    have hl := O.nl n hn
    have hr := row_list_ok (l := n.2.2) (by omega)
    unfold m_law_norm_told
    rw [l1, Option.bind_some, show m_law_number n.2.1 = some true from rfl, Option.bind_some, if_neg (by rw [decide_eq_true (rfl : n.2.1 = n.2.1)]; decide), l2, Option.bind_some, hr, Option.bind_some, if_neg (by decide), e_app (by omega), Option.bind_some]
    by_cases hne : n.2.2 = []
    · rw [if_neg (by rw [decide_eq_true hne]; decide), Option.bind_some]
    · rw [if_pos (by rw [decide_eq_false hne]; rfl), show Fm.setI (n.2.2 ++ [[cZz]]) 0 [cZz, cZz] = some ((n.2.2 ++ [[cZz]]).set 0 [cZz, cZz]) from e_setI (k := 0) (by rw [List.length_append]; show 0 < _ + 1; omega), Option.bind_some]
  · unfold toldDue
    have := fold_flat' (f := fun st (n : Norm) => fold (fun st2 (r : List Tx) => Fm.app st2 (n.1, r)) st n.2.2) (h := fun x : Norm => x.2.2.map fun r => (x.1, r)) (xs := sp.2) (st := ([] : List (Tx × List Tx))) (fun st n hn hl => by
      rw [List.length_map] at hl
      have h2 := fold_flat' (f := fun st2 (r : List Tx) => Fm.app st2 (n.1, r)) (h := fun r => [(n.1, r)]) (xs := n.2.2) (st := st) (fun st r _ hl => by
        have hl : st.length + 1 ≤ 16777216 := hl
        exact e_app (by omega)) (by rw [← List.map_eq_flatMap, List.length_map]; exact hl)
      rw [h2, ← List.map_eq_flatMap]) (by
      show 0 + (listedOf sp.2).length ≤ _
      omega)
    rw [this]; rfl
  · obtain ⟨q, hq, rfl⟩ := List.mem_map.mp hk
    have hq := List.mem_range.mp hq
    unfold toldStep
    rw [e_ix (List.getElem?_eq_getElem hq), Option.bind_some, words_ok, Option.bind_some]
    rfl
  · unfold m_text
    show Option.bind (m_write_book sp.1 sp.2) _ = _
    rw [write_ok hz, Option.bind_some, if_pos (by rw [szl]; omega)]
  · have h1 := List.all_eq_true.mp (List.all_eq_true.mp rp_ok sp.1.length (List.mem_range.mpr (by omega))) sp.2.length (List.mem_range.mpr (by omega))
    rw [Bool.and_eq_true, decide_eq_true_eq] at h1
    obtain ⟨e, hs⟩ := h1
    obtain ⟨t, ht⟩ := Option.isSome_iff_exists.mp hs
    exact ⟨t, ht, e.symm.trans ht⟩
  · refine ⟨_, _, e_catL (by rw [List.length_map]; omega), e_catL (by rw [List.length_append, List.length_map]; show _ + _ + 3 ≤ _; omega), fun w _ => ?_⟩
    show (look (idx sp.1) w).isSome = _
    rw [Bool.eq_iff_iff, mem_iff, look_isSome, idx_keys]
include O in
theorem lost_ok : ∃ w, Fm.catL sp.1 [cZz, [], [114, 117, 108, 101]] = some w ∧ ∀ x, mem x (sp.2.map fun n => n.1) = false → noRows (bk sp) x = true ∧ noWidth (bk sp) x = true := by
  have h6 := O.k6
  refine ⟨_, e_catL (by show _ + 3 ≤ _; omega), fun x hx => ?_⟩
  have hx := mem_false.mp hx
  have h1 : look (bk sp).lists x = none := look_no (by
    show x ∉ (sp.2.map fun n : Norm => (n.1, n.2.2)).map fun p => p.1
    rw [List.map_map]; exact hx)
  have h2 : look (bk sp).widths x = none := look_no (by
    show x ∉ (sp.2.map fun n : Norm => (n.1, n.2.1)).map fun p => p.1
    rw [List.map_map]; exact hx)
  unfold noRows noWidth
  rw [h1, h2]
  exact ⟨rfl, rfl⟩
include O hB in
theorem sz_ok : SpSz sp := by
  have h2 := O.k2
  have h6 := O.k6
  have h8 := O.n8
  refine ⟨fun z => by rw [z] at h2; simp at h2, by omega, by omega, fun n hn => ⟨by have := O.nl n hn; omega, fun r hr => ?_⟩⟩
  obtain ⟨w, _, a1, a4, hl, _⟩ := O.row hn hr
  exact ⟨fun z => by rw [z] at hl; simp at hl; omega, by omega⟩
end
theorem eq_no {a b : Spc} (h : Diff a b) : m_eq (bk a, .inl (bk b)) = some false := by
  show some (decide (a.1 = b.1) && decide (a.2 = b.2)) = _
  rcases h with h | h
  · rw [decide_eq_false h]; rfl
  · rw [decide_eq_false h, Bool.and_false]
theorem lawM_all : ∃ Ok1 Ok bk, LawM Ok1 Ok bk := ⟨Okb 60, Okb 61, bk, {
  imp := fun O => ⟨O.k2, O.k6, O.kn, O.kd, O.n8, O.nn, O.nd, O.nw, fun n hn => Nat.le_succ_of_le (O.nl n hn)⟩
  bag := law_bag_ok
  wide := fun _ h => law_wide_ok h
  sz := fun O => sz_ok O (by decide)
  shuf := fun _ hl _ h => law_shuffle_ok hl h
  made := fun O h => made_ok O (by decide) h
  of := fun O h => of_ok O (by decide) h
  told := fun O => told_ok O (by decide)
  other := fun O _ h => law_other_ok O fun s' h1 h2 => h s' h1 (eq_no (h2.imp (fun z q => z q.symm) (fun z q => z q.symm))) (eq_no h2)
  lost := fun O => lost_ok O }⟩
end K0
set_option Elab.async false
set_option linter.all false
set_option maxRecDepth 100000
set_option maxHeartbeats 0
namespace K0
open PySem PySem.Spec PyProof.Rows L2 Fz
section
variable {P : Program} {w : World} {K : PySem.W.Frag} {mg : Str → Option Value} {base : Heap}
theorem all_defs (Y : TxX K mg) : Defs P w K mg base := by
  have B := Y.B
  have T := B.T
  have h_wb := ok_written_by (P := P) (w := w) (base := base) T
  have h_pn := ok_plain_name (P := P) (w := w) (base := base) T h_wb
  have h_fw := ok_first_wrong (P := P) (w := w) (base := base) T h_pn
  have h_fd := ok_first_double (P := P) (w := w) (base := base) T
  have h_wk := ok_wrong_kinds (P := P) (w := w) (base := base) T h_fw h_fd
  have h_wr := ok_wrong_row (P := P) (w := w) (base := base) T
  have h_wrs := ok_wrong_rows (P := P) (w := w) (base := base) T h_wr
  have h_wru := ok_wrong_rules (P := P) (w := w) (base := base) T h_pn h_wrs
  have h_or := ok_ordered_rows (P := P) (w := w) (base := base) T
  have h_orD := ok_ordered_rowsD (P := P) (w := w) (base := base) T
  have h_bp := ok_BookParts_init (P := P) (w := w) (base := base) T
  have h_lb := ok_listed_book (P := P) (w := w) (base := base) T h_wk h_wru h_or h_bp
  have h_write := ok_write_book (P := P) (w := w) (base := base) T
  have h_chk := ok_check_limits (P := P) (w := w) (base := base) T
  have h_ri := ok_BookReader_init (P := P) (w := w) (base := base) T
  have h_tk := ok_take_kinds (P := P) (w := w) (base := base) T h_wk
  have h_tr := ok_take_rule (P := P) (w := w) (base := base) T h_pn
  have h_tw := ok_take_row (P := P) (w := w) (base := base) T h_wr
  have h_take := ok_take (P := P) (w := w) (base := base) T h_tk h_tr h_tw
  have h_whole := ok_whole (P := P) (w := w) (base := base) T h_orD h_bp
  have h_read := ok_read_book (P := P) (w := w) (base := base) T h_ri h_take h_whole
  have h_init := ok_Book_init (P := P) (w := w) (base := base) B h_read h_chk
  have h_draw := ok_law_draw (P := P) (w := w) (base := base) T
  have h_pick := ok_law_pick (P := P) (w := w) (base := base) T h_draw
  have h_rows := ok_law_rows (P := P) (w := w) (base := base) T
  have h_name := ok_law_name (P := P) (w := w) (base := base) T h_draw
  have h_names := ok_law_names (P := P) (w := w) (base := base) T h_name
  have h_words := ok_law_words (P := P) (w := w) (base := base) T
  have h_num := ok_law_number (P := P) (w := w) (base := base) T
  have h_rl := ok_law_row_list (P := P) (w := w) (base := base) T h_words
  have h_nt := ok_law_norm_told (P := P) (w := w) (base := base) B h_num h_rl
  have h_bt := ok_law_book_text (P := P) (w := w) (base := base) T
  have h_text := ok_Book_text (P := P) (w := w) (base := base) B h_write
  exact ⟨ok_law_bag T, ok_law_wide T h_draw h_names h_rows, h_draw, ok_law_shuffle T h_draw, ok_law_other T h_draw h_pick h_rows h_names, h_bt, h_init, ok_Book_of B h_lb h_init, h_text, ok_law_told B h_words h_nt h_bt h_text, ok_Book_eq B, ok_law_lost Y⟩
end
end K0
open PySem PySem.W PySem.Calls PyProof.Rows
theorem PySem.Challenge.cw_smallclash_k00_book_texts_there_and_back_holds : PySem.Challenge.rw_smallclash_k00_book_texts_there_and_back.Holds := by
  w_on; o_law
  refine HandSHeadRun.head_any (r := OpenLaw.row PySem.Challenge.rw_smallclash_k00_book_texts_there_and_back) (q := view (OpenLaw.row PySem.Challenge.rw_smallclash_k00_book_texts_there_and_back).prog [51]) (H := K0.hkH) (ob := K0.obH) (M := 6000) (loose := K0.looseH) (d := HandSHeadRun.topDef (OpenLaw.row PySem.Challenge.rw_smallclash_k00_book_texts_there_and_back).prog 51) (kwd := []) K0.obH_eq
    (by kernel_rfl) (fun s => by kernel_rfl) K0.runH (by kernel_rfl) (by kernel_rfl) (by kernel_rfl) (by rfl) (by first | assumption | decide +kernel) (by decide +kernel) ⟨rfl, rfl, rfl, rfl, rfl, by decide +kernel⟩ ?hw ?hc
  case hw => w_witness2
  case hc =>
    refine L2.walk_ofE (l := PySem.Challenge.rw_smallclash_k00_book_texts_there_and_back) (n := 63) (k := 12) (x := "script") (CX := L2.CX0) rfl (by decide) (by kernel_rfl) ⟨rfl, by decide, by decide⟩ ?F (fun _ _ _ _ z => z)
    intro w mg fa h Y G hmg0
    obtain ⟨K, KX, c, cb⟩ := Y
    have hmg : mg ("law" : PySem.Str) = some (.ref fa) := by
      have e : (HandSHeadRun.topDef (OpenLaw.row PySem.Challenge.rw_smallclash_k00_book_texts_there_and_back).prog 51).name = ("law" : PySem.Str) := by kernel_rfl
      rw [← e]
      exact hmg0
    obtain ⟨Yx, d, g⟩ := K0.head_txx KX G c cb
    obtain ⟨Ok1, Ok, bk, M⟩ := K0.lawM_all
    obtain rfl : fa = He.ga K "law" := by
      have e := hmg.symm.trans g
      cases e; rfl
    obtain ⟨fd, F⟩ := id d
    refine ⟨K, fd, K0.spLaw K, KX, fun s v => (L2.FunD.bindsA (ps := ["script"]) F fun _ _ _ _ _ _ us hl => match us, hl with | [_], _ => rfl) s [v] rfl, fun H a ns hl _ hS => K0.law_sp hl hS _, fun base Kb Gb => K0.ok_law Yx F (K0.all_defs Yx) M⟩
