import PyProof.Rows.All
import HandS.ForMost
import HandS.ForExc
import HandS.TupAny
import HandS.Style
import HandS.IsInst
import HandS.Defaults
import KE.KDictKeyed
import KE.KeyNested
import HandS.TupMul
import HandS.Deep
import HandS.NoneIn
import HandS.Zip
import HandS.Property
import HandS.Codes
import HandS.SlotsOwn
import PySem.Challenge.RW_fillchairs_k85_whole_lifts_and_copies
import Wide.All
import OpenK.AllK
import Wide.FinOn
set_option Elab.async false
set_option linter.all false
set_option maxRecDepth 100000
set_option maxHeartbeats 4000000
/-! Data values over the hand layer: what a value is worth (D), a small heap of what is still changed (Mp), and what a program part asks of them. -/
namespace DL
open PySem PySem.Spec PyProof.Rows L2

/-- what a value is worth: lst, dct are lists and dicts that are no longer changed; ref is an object that may change -/
inductive D where
  | non | bl (b : Bool) | int (i : Int) | str (x : Str) | ty (n : String) | ref (a : Addr)
  | tup (xs : List D) | lst (xs : List D) | dct (ks vs : List D) | lsk (xs : List D)
noncomputable instance : DecidableEq D := fun a b => Classical.propDecidable (a = b)

/-- the key that a value is -/
def D.nk : D → Option NestedKey
  | .non => some .none
  | .bl b => some (.num (if b then 1 else 0))
  | .int i => some (.num i)
  | .str x => some (.text x)
  | .tup xs => (nkAll xs).map .tup
  | _ => none
where nkAll : List D → Option (List NestedKey)
  | [] => some []
  | x :: xs => match x.nk, nkAll xs with
    | some k, some ks => some (k :: ks)
    | _, _ => none

/-- what is still changed -/
inductive MO where
  | lst (xs : List D) | fro (xs : List D) | dct (ks vs : List D) | ins (C : Addr) (fs : List (Str × D))
abbrev Mp := Addr → Option MO
def upm (M : Mp) (a : Addr) (o : MO) : Mp := fun b => if b = a then some o else M b
theorem upm_same {M : Mp} {a : Addr} {o : MO} : upm M a o a = some o := by unfold upm; rw [if_pos rfl]
theorem upm_ne {M : Mp} {a b : Addr} {o : MO} (h : b ≠ a) : upm M a o b = M b := by unfold upm; rw [if_neg h]

/-- a dict whose keys are tuples, raw -/
def DH (P : Program) (w : World) (a : Addr) (xs : List (NestedKey × Addr × Value)) : HO :=
  .ext fun h => ∃ o es ep, h.get? a = some o ∧ o.ExactDict ∧ o.data = .dict es ep ∧ es.toList = xs.map (entryOfKey (nestedKind P w))

/-- the context of the relation -/
structure Rx where
  P : Program
  w : World
  K : PySem.W.Frag

mutual
/-- the value v is worth d -/
inductive Dv (R : Rx) (M : Mp) (H : Hp) : V → D → Prop
  | non : Dv R M H .non .non
  | bl (b : Bool) : Dv R M H (.bl b) (.bl b)
  | int (i : Int) : Dv R M H (.int i) (.int i)
  | str (x : Str) : Dv R M H (.str x) (.str x)
  | ty (n : String) : Dv R M H (.ty n) (.ty n)
  | ref (a : Addr) : Dv R M H (.ref a) (.ref a)
  | lsk {a : Addr} {o : Obj} {its : Array Value} {n : Nat} {xs : List V} {ds : List D} : R.K.lookup a = some o → o.cls = .type "list" → o.dict = none → o.data = .seq its n → its.size ≤ sizeLine → Vals xs its.toList → DvAll R M H xs ds → Dv R M H (.ref a) (.lsk ds)
  | tupK {a : Addr} {o : Obj} {its : Array Value} {n : Nat} {xs : List V} {ds : List D} : R.K.lookup a = some o → o.cls = .type "tuple" → o.data = .seq its n → its.size ≤ sizeLine → Vals xs its.toList → DvAll R M H xs ds → Dv R M H (.ref a) (.tup ds)
  | tup {a : Addr} {xs : List V} {ds : List D} : H a = some (.tup xs) → M a = none → DvAll R M H xs ds → Dv R M H (.ref a) (.tup ds)
  | lst {a : Addr} {xs : List V} {ds : List D} : H a = some (.lst xs) → M a = none → DvAll R M H xs ds → Dv R M H (.ref a) (.lst ds)
  | dct {a : Addr} {xs : List (NestedKey × Addr × Value)} {vs : List V} {kd vd : List D} : Rd H a (DH R.P R.w a xs) → M a = none → (a == sysModules) = false → (xs.map (·.1)).Nodup → xs.length ≤ sizeLine →
      DvAll R M H (xs.map fun x => V.ref x.2.1) kd → kd.map D.nk = xs.map (fun x => some x.1) → (∀ x ∈ xs, x.1.depth ≤ 8) → Vals vs (xs.map (·.2.2)) → DvAll R M H vs vd → Dv R M H (.ref a) (.dct kd vd)
inductive DvAll (R : Rx) (M : Mp) (H : Hp) : List V → List D → Prop
  | nil : DvAll R M H [] []
  | cons {v : V} {vs : List V} {d : D} {ds : List D} : Dv R M H v d → DvAll R M H vs ds → DvAll R M H (v :: vs) (d :: ds)
end

/-- an object that may change, as it stands -/
def MRel (R : Rx) (M : Mp) (H : Hp) (a : Addr) : MO → Prop
  | .lst ds => ∃ vs, H a = some (.lst vs) ∧ DvAll R M H vs ds
  | .fro ds => ∃ vs, Rd H a (.lst vs) ∧ DvAll R M H vs ds
  | .dct kd vd => ∃ xs vs, H a = some (DH R.P R.w a xs) ∧ (a == sysModules) = false ∧ (xs.map (·.1)).Nodup ∧ xs.length ≤ sizeLine ∧
      DvAll R M H (xs.map fun x => V.ref x.2.1) kd ∧ kd.map D.nk = xs.map (fun x => some x.1) ∧ (∀ x ∈ xs, x.1.depth ≤ 8) ∧ Vals vs (xs.map (·.2.2)) ∧ DvAll R M H vs vd
  | .ins C fs => ∃ dx fv, H a = some (.ins C dx fv) ∧ fv.map (·.1) = fs.map (·.1) ∧ DvAll R M H (fv.map (·.2)) (fs.map (·.2))
def Rel (R : Rx) (M : Mp) (H : Hp) : Prop := ∀ a o, M a = some o → MRel R M H a o
/-- what is not among the changing things stays -/
def Fr (M : Mp) (H : Hp) (M' : Mp) (H' : Hp) : Prop := ∀ a o, H a = some o → M a = none → H' a = some o ∧ M' a = none
theorem Fr.refl {M : Mp} {H : Hp} : Fr M H M H := fun _ _ h m => ⟨h, m⟩
theorem Fr.trans {M M1 M2 : Mp} {H H1 H2 : Hp} (a : Fr M H M1 H1) (b : Fr M1 H1 M2 H2) : Fr M H M2 H2 := fun x o h m => b x o (a x o h m).1 (a x o h m).2
/-- a part of M -/
def Sub (M' M : Mp) : Prop := ∀ a, M' a = none ∨ M' a = M a
theorem Sub.refl {M : Mp} : Sub M M := fun _ => .inr rfl
theorem Sub.trans {M M1 M2 : Mp} (a : Sub M M1) (b : Sub M1 M2) : Sub M M2 := fun x => by
  rcases a x with h | h
  · exact .inl h
  · rcases b x with g | g
    · exact .inl (h.trans g)
    · exact .inr (h.trans g)
theorem Sub.up {M M1 : Mp} {p : Addr} {o : MO} (a : Sub M M1) (h : M p = none) : Sub M (upm M1 p o) := fun x => by
  by_cases e : x = p
  · exact .inl (e ▸ h)
  · rw [upm_ne e]; exact a x
theorem Fr.sub {M M' M2 : Mp} {H H' : Hp} (f : Fr M H M' H') (s : Sub M2 M') : Fr M H M2 H' := fun a o h m => ⟨(f a o h m).1, (s a).elim id fun e => e.trans (f a o h m).2⟩

section
variable {R : Rx} {M M' : Mp} {H H' : Hp}
theorem Rd.fr {a : Addr} {u : HO} (f : Fr M H M' H') (h : Rd H a u) (m : M a = none) : Rd H' a u ∧ M' a = none := by
  rcases h with h | ⟨o, h⟩
  · exact ⟨.inl (f a _ h m).1, (f a _ h m).2⟩
  · exact ⟨.inr ⟨o, (f a _ h m).1⟩, (f a _ h m).2⟩
mutual
theorem Dv.fr (f : Fr M H M' H') : ∀ {v : V} {d : D}, Dv R M H v d → Dv R M' H' v d
  | _, _, .non => .non
  | _, _, .bl b => .bl b
  | _, _, .int i => .int i
  | _, _, .str x => .str x
  | _, _, .ty n => .ty n
  | _, _, .ref a => .ref a
  | _, _, .tupK a b c d e g => .tupK a b c d e (DvAll.fr f g)
  | _, _, .lsk a b c d e h g => .lsk a b c d e h (DvAll.fr f g)
  | _, _, .tup h m g => .tup (f _ _ h m).1 (f _ _ h m).2 (DvAll.fr f g)
  | _, _, .lst h m g => .lst (f _ _ h m).1 (f _ _ h m).2 (DvAll.fr f g)
  | _, _, .dct h m y nd sz g1 n dp vv g2 => .dct (Rd.fr f h m).1 (Rd.fr f h m).2 y nd sz (DvAll.fr f g1) n dp vv (DvAll.fr f g2)
theorem DvAll.fr (f : Fr M H M' H') : ∀ {vs : List V} {ds : List D}, DvAll R M H vs ds → DvAll R M' H' vs ds
  | _, _, .nil => .nil
  | _, _, .cons a b => .cons (Dv.fr f a) (DvAll.fr f b)
end
theorem DvAll.length : ∀ {vs : List V} {ds : List D}, DvAll R M H vs ds → vs.length = ds.length
  | _, _, .nil => rfl
  | _, _, .cons _ b => by rw [List.length_cons, List.length_cons, DvAll.length b]
theorem DvAll.get : ∀ {vs : List V} {ds : List D} {i : Nat} {v : V}, DvAll R M H vs ds → vs[i]? = some v → ∃ d, ds[i]? = some d ∧ Dv R M H v d
  | _, _, _, _, .nil, h => by simp at h
  | _, _, 0, _, .cons a b, h => by
    have e : _ = _ := Option.some.inj (by simpa using h)
    exact ⟨_, by simp, e ▸ a⟩
  | _, _, i + 1, _, .cons a b, h => by
    obtain ⟨d, h1, h2⟩ := DvAll.get (i := i) b (by simpa using h)
    exact ⟨d, by simpa using h1, h2⟩
theorem DvAll.get' : ∀ {vs : List V} {ds : List D} {i : Nat} {d : D}, DvAll R M H vs ds → ds[i]? = some d → ∃ v, vs[i]? = some v ∧ Dv R M H v d
  | _, _, _, _, .nil, h => by simp at h
  | _, _, 0, _, .cons a b, h => by
    have e : _ = _ := Option.some.inj (by simpa using h)
    exact ⟨_, by simp, e ▸ a⟩
  | _, _, i + 1, _, .cons a b, h => by
    obtain ⟨d, h1, h2⟩ := DvAll.get' (i := i) b (by simpa using h)
    exact ⟨d, by simpa using h1, h2⟩
theorem DvAll.append : ∀ {vs ws : List V} {ds es : List D}, DvAll R M H vs ds → DvAll R M H ws es → DvAll R M H (vs ++ ws) (ds ++ es)
  | _, _, _, _, .nil, b => b
  | _, _, _, _, .cons a t, b => .cons a (DvAll.append t b)
theorem DvAll.take : ∀ {vs : List V} {ds : List D} (n : Nat), DvAll R M H vs ds → DvAll R M H (vs.take n) (ds.take n)
  | _, _, 0, _ => by rw [List.take_zero, List.take_zero]; exact .nil
  | _, _, _ + 1, .nil => .nil
  | _, _, n + 1, .cons a t => .cons a (DvAll.take n t)
theorem DvAll.drop : ∀ {vs : List V} {ds : List D} (n : Nat), DvAll R M H vs ds → DvAll R M H (vs.drop n) (ds.drop n)
  | _, _, 0, h => h
  | _, _, _ + 1, .nil => .nil
  | _, _, n + 1, .cons _ t => DvAll.drop n t
theorem DvAll.set : ∀ {vs : List V} {ds : List D} (n : Nat) {v : V} {d : D}, DvAll R M H vs ds → Dv R M H v d → DvAll R M H (vs.set n v) (ds.set n d)
  | _, _, _, _, _, .nil, _ => .nil
  | _, _, 0, _, _, .cons _ t, h => .cons h t
  | _, _, n + 1, _, _, .cons a t, h => .cons a (DvAll.set n t h)
theorem DvAll.eraseIdx : ∀ {vs : List V} {ds : List D} (n : Nat), DvAll R M H vs ds → DvAll R M H (vs.eraseIdx n) (ds.eraseIdx n)
  | _, _, _, .nil => .nil
  | _, _, 0, .cons _ t => t
  | _, _, n + 1, .cons a t => .cons a (DvAll.eraseIdx n t)
theorem DvAll.reverse {vs : List V} {ds : List D} (h : DvAll R M H vs ds) : DvAll R M H vs.reverse ds.reverse := by
  induction vs generalizing ds with
  | nil => cases h; exact .nil
  | cons v vs ih =>
    cases h with
    | cons a t => rw [List.reverse_cons, List.reverse_cons]; exact (ih t).append (.cons a .nil)
theorem DvAll.ints : ∀ (ns : List Int), DvAll R M H (ns.map V.int) (ns.map D.int)
  | [] => .nil
  | n :: ns => .cons (.int n) (DvAll.ints ns)
theorem DvAll.of_ints : ∀ {ns : List Int} {vs : List V}, DvAll R M H vs (ns.map D.int) → vs = ns.map V.int
  | [], _, .nil => rfl
  | n :: ns, _, .cons a t => by cases a; rw [DvAll.of_ints t]; rfl
theorem DvAll.of_bls : ∀ {ns : List Bool} {vs : List V}, DvAll R M H vs (ns.map D.bl) → vs = ns.map V.bl
  | [], _, .nil => rfl
  | n :: ns, _, .cons a t => by cases a; rw [DvAll.of_bls t]; rfl
theorem DvAll.of_strs : ∀ {ns : List Str} {vs : List V}, DvAll R M H vs (ns.map D.str) → vs = ns.map V.str
  | [], _, .nil => rfl
  | n :: ns, _, .cons a t => by cases a; rw [DvAll.of_strs t]; rfl

theorem Rel.some_of (r : Rel R M H) {a : Addr} {o : MO} (h : M a = some o) : ∃ u, H a = some u := by
  have x := r a o h
  cases o with
  | lst ds => obtain ⟨vs, e, _⟩ := x; exact ⟨_, e⟩
  | fro ds =>
    obtain ⟨vs, e, _⟩ := x
    rcases e with e | ⟨o, e⟩
    · exact ⟨_, e⟩
    · exact ⟨_, e⟩
  | dct ks vs => obtain ⟨xs, vs, e, _⟩ := x; exact ⟨_, e⟩
  | ins C fs => obtain ⟨dx, fv, e, _⟩ := x; exact ⟨_, e⟩
/-- what is new in H is new in M -/
theorem Rel.fresh (r : Rel R M H) {a : Addr} (h : H a = none) : M a = none := by
  cases q : M a with
  | none => rfl
  | some o => obtain ⟨u, e⟩ := Rel.some_of r q; rw [h] at e; cases e
/-- an object's description stays where its own entry and what is fixed stay -/
theorem MRel.fr {a : Addr} {o : MO} (x : MRel R M H a o) (f : Fr M H M' H') (e : ∀ u, H a = some u → H' a = some u) : MRel R M' H' a o := by
  cases o with
  | lst ds => obtain ⟨vs, h, g⟩ := x; exact ⟨vs, e _ h, g.fr f⟩
  | fro ds => obtain ⟨vs, h, g⟩ := x; exact ⟨vs, h.elim (fun h => .inl (e _ h)) (fun ⟨o, h⟩ => .inr ⟨o, e _ h⟩), g.fr f⟩
  | dct ks vs => obtain ⟨xs, vs, h, y, nd, sz, g1, n, dp, vv, g2⟩ := x; exact ⟨xs, vs, e _ h, y, nd, sz, g1.fr f, n, dp, vv, g2.fr f⟩
  | ins C fs => obtain ⟨dx, fv, h, n, g⟩ := x; exact ⟨dx, fv, e _ h, n, g.fr f⟩
/-- a new thing of H alone -/
theorem Fr.laid {p : Addr} {o : HO} (h : H p = none) : Fr M H M (upd H p o) := fun a u e m => ⟨by rw [upd_ne (ne_of_none e h)]; exact e, m⟩
theorem Rel.laid (r : Rel R M H) {p : Addr} {o : HO} (h : H p = none) : Rel R M (upd H p o) := fun a u e =>
  MRel.fr (r a u e) (Fr.laid h) fun v q => by rw [upd_ne (ne_of_none q h)]; exact q
/-- a new thing of both -/
theorem Fr.made {p : Addr} {o : HO} {u : MO} (h : H p = none) : Fr M H (upm M p u) (upd H p o) := fun a v e m => by
  have ne : a ≠ p := ne_of_none e h
  exact ⟨by rw [upd_ne ne]; exact e, by rw [upm_ne ne]; exact m⟩
theorem Rel.made (r : Rel R M H) {p : Addr} {o : HO} {u : MO} (h : H p = none) (new : MRel R (upm M p u) (upd H p o) p u) : Rel R (upm M p u) (upd H p o) := fun a v e => by
  by_cases q : a = p
  · subst q; rw [upm_same] at e; cases e; exact new
  · rw [upm_ne q] at e
    exact MRel.fr (r a v e) (Fr.made h) fun w' z => by rw [upd_ne q]; exact z
/-- a thing of M written -/
theorem Fr.write {p : Addr} {o : HO} {u : MO} (h : M p ≠ none) : Fr M H (upm M p u) (upd H p o) := fun a v e m => by
  have ne : a ≠ p := fun z => h (z ▸ m)
  exact ⟨by rw [upd_ne ne]; exact e, by rw [upm_ne ne]; exact m⟩
theorem Rel.write (r : Rel R M H) {p : Addr} {o : HO} {u : MO} (h : M p ≠ none) (new : MRel R (upm M p u) (upd H p o) p u) : Rel R (upm M p u) (upd H p o) := fun a v e => by
  by_cases q : a = p
  · subst q; rw [upm_same] at e; cases e; exact new
  · rw [upm_ne q] at e
    exact MRel.fr (r a v e) (Fr.write h) fun w' z => by rw [upd_ne q]; exact z
theorem Rel.sub (r : Rel R M H) (s : Sub M' M) (f : Fr M H M' H) : Rel R M' H := fun a o e => by
  rcases s a with h | h
  · rw [h] at e; cases e
  · rw [h] at e; exact MRel.fr (r a o e) f fun _ q => q
theorem Fr.subR (s : Sub M' M) : Fr M H M' H := fun a o h m => ⟨h, (s a).elim id fun e => e.trans m⟩
end
end DL

/-! The judgements over data. -/
namespace DL
open PySem PySem.Spec PyProof.Rows L2

abbrev Rh := List (Option D)
abbrev DK := D → Mp → Prop
abbrev DKs := List D → Mp → Prop
abbrev DX := Value → Mp → Prop
/-- what an expression, a test, an argument list asks -/
abbrev DT := Rh → Mp → DK → Prop
abbrev DB := Rh → Mp → (Bool → Mp → Prop) → Prop
abbrev DA := Rh → Mp → DKs → Prop
structure DEnds where
  nx : Rh → Mp → Prop
  rt : DK
  bk : Rh → Mp → Prop := fun _ _ => False
  ct : Rh → Mp → Prop := fun _ _ => False
abbrev DS := DEnds → Rh → Mp → Prop
/-- what is wanted of an exception: over data, and as the layer has it -/
structure Gx where
  dx : DX
  E : XK
abbrev G0 : Gx := ⟨fun _ _ => False, E0⟩
abbrev rx (X : Cx) : Rx := ⟨X.prog, X.w, X.K⟩

def Post (R : Rx) (M : Mp) (H : Hp) (DQ : DK) (Q : VK) : Prop := ∀ x M' v H', Fr M H M' H' → Rel R M' H' → Dv R M' H' v x → DQ x M' → Q v H'
def PostX (R : Rx) (M : Mp) (H : Hp) (dx : DX) (E : XK) : Prop := ∀ cls d M' H', Fr M H M' H' → Rel R M' H' → dx cls M' → E cls d H'
structure Sr (R : Rx) (G : Gx) (ρ : Rh) (M : Mp) (σ : L2.St) (H : Hp) : Prop where
  len : ρ.length = σ.length
  env : ∀ (i : Nat) (d : D), ρ[i]? = some (some d) → ∃ v, σ[i]? = some (some v) ∧ Dv R M H v d
  mem : Rel R M H
  exc : PostX R M H G.dx G.E

section
variable {R : Rx} {G : Gx} {ρ : Rh} {M M' : Mp} {σ : L2.St} {H H' : Hp}
theorem PostX.step {dx : DX} {E : XK} (p : PostX R M H dx E) (f : Fr M H M' H') : PostX R M' H' dx E := fun cls d M2 H2 f2 r q => p cls d M2 H2 (f.trans f2) r q
theorem Post.step {DQ : DK} {Q : VK} (p : Post R M H DQ Q) (f : Fr M H M' H') : Post R M' H' DQ Q := fun x M2 v H2 f2 r d q => p x M2 v H2 (f.trans f2) r d q
theorem Sr.step (s : Sr R G ρ M σ H) (f : Fr M H M' H') (r : Rel R M' H') : Sr R G ρ M' σ H' :=
  ⟨s.len, fun i d e => let ⟨v, h, g⟩ := s.env i d e; ⟨v, h, g.fr f⟩, r, s.exc.step f⟩
theorem Sr.set (s : Sr R G ρ M σ H) {i : Nat} {v : V} {d : D} (r : Dv R M H v d) : Sr R G (ρ.set i (some d)) M (σ.set i (some v)) H := by
  refine ⟨by simp [s.len], fun j e h => ?_, s.mem, s.exc⟩
  by_cases q : i = j
  · subst q
    have hl : i < ρ.length := by
      have := (List.getElem?_eq_some_iff.mp h).1
      simpa using this
    rw [List.getElem?_set_self hl] at h
    cases h
    exact ⟨v, by rw [List.getElem?_set_self (by rw [← s.len]; exact hl)], r⟩
  · rw [List.getElem?_set_ne q] at h
    obtain ⟨u, h1, h2⟩ := s.env j e h
    exact ⟨u, by rw [List.getElem?_set_ne q]; exact h1, h2⟩
end

/-! ### readings made of what is asked over data -/
def tE (R : Rx) (G : Gx) (d : DT) : TE := fun σ H Q => ∃ ρ M DQ, Sr R G ρ M σ H ∧ d ρ M DQ ∧ Post R M H DQ Q
def tBo (R : Rx) (G : Gx) (d : DB) : TT := fun σ H Q => ∃ (ρ : Rh) (M : Mp) (DQ : Bool → Mp → Prop), Sr R G ρ M σ H ∧ d ρ M DQ ∧ ∀ b M' H', Fr M H M' H' → Rel R M' H' → DQ b M' → Q b H'
def tAr (R : Rx) (G : Gx) (d : DA) : TA := fun σ H Q => ∃ (ρ : Rh) (M : Mp) (DQ : DKs), Sr R G ρ M σ H ∧ d ρ M DQ ∧ ∀ xs M' vs H', Fr M H M' H' → Rel R M' H' → DvAll R M' H' vs xs → DQ xs M' → Q vs H'
structure EndsR (R : Rx) (G : Gx) (M : Mp) (H : Hp) (DD : DEnds) (D : Ends) : Prop where
  nx : ∀ ρ' M' σ' H', Fr M H M' H' → Sr R G ρ' M' σ' H' → DD.nx ρ' M' → D.nx σ' H'
  rt : Post R M H DD.rt D.rt
  bk : ∀ ρ' M' σ' H', Fr M H M' H' → Sr R G ρ' M' σ' H' → DD.bk ρ' M' → D.bk σ' H'
  ct : ∀ ρ' M' σ' H', Fr M H M' H' → Sr R G ρ' M' σ' H' → DD.ct ρ' M' → D.ct σ' H'
theorem EndsR.step {R : Rx} {G : Gx} {M M' : Mp} {H H' : Hp} {DD : DEnds} {D : Ends} (e : EndsR R G M H DD D) (f : Fr M H M' H') : EndsR R G M' H' DD D :=
  ⟨fun ρ' M2 σ' H2 g => e.nx ρ' M2 σ' H2 (f.trans g), e.rt.step f, fun ρ' M2 σ' H2 g => e.bk ρ' M2 σ' H2 (f.trans g), fun ρ' M2 σ' H2 g => e.ct ρ' M2 σ' H2 (f.trans g)⟩
def tSt (R : Rx) (G : Gx) (d : DS) : TS := fun D σ H => ∃ ρ M DD, Sr R G ρ M σ H ∧ d DD ρ M ∧ EndsR R G M H DD D

abbrev DE (X : Cx) (G : Gx) (e : Expr) (d : DT) : Prop := PE X e (tE (rx X) G d)
abbrev DTt (X : Cx) (G : Gx) (e : Expr) (d : DB) : Prop := PT X e (tBo (rx X) G d)
abbrev DTw (X : Cx) (G : Gx) (e : Expr) (d : DB) : Prop := PW X e (tBo (rx X) G d)
abbrev DAr (X : Cx) (G : Gx) (es : List Expr) (d : DA) : Prop := PA X es (tAr (rx X) G d)
abbrev DSt (X : Cx) (G : Gx) (st : Stmt) (d : DS) : Prop := PS X st (tSt (rx X) G d)
abbrev DSs (X : Cx) (G : Gx) (st : List Stmt) (d : DS) : Prop := PSs X st (tSt (rx X) G d)

theorem PE.imp {X : Cx} {e : Expr} {t t' : TE} (h : PE X e t) (i : ∀ σ H Q, t' σ H Q → t σ H Q) : PE X e t' := ⟨fun pins s σ H Q I q => h.run pins s σ H Q I (i σ H Q q)⟩
theorem PT.imp {X : Cx} {e : Expr} {t t' : TT} (h : PT X e t) (i : ∀ σ H Q, t' σ H Q → t σ H Q) : PT X e t' := ⟨fun pins s σ H Q I q => h.run pins s σ H Q I (i σ H Q q)⟩
theorem PW.imp {X : Cx} {e : Expr} {t t' : TT} (h : PW X e t) (i : ∀ σ H Q, t' σ H Q → t σ H Q) : PW X e t' := ⟨fun w pins s σ H Q I q => h.run w pins s σ H Q I (i σ H Q q)⟩
theorem PA.imp {X : Cx} {es : List Expr} {t t' : TA} (h : PA X es t) (i : ∀ σ H Q, t' σ H Q → t σ H Q) : PA X es t' := ⟨fun pos pins s σ H Q I q => h.run pos pins s σ H Q I (i σ H Q q)⟩
theorem PS.imp {X : Cx} {e : Stmt} {t t' : TS} (h : PS X e t) (i : ∀ D σ H, t' D σ H → t D σ H) : PS X e t' := ⟨fun pins s σ H D I q => h.run pins s σ H D I (i D σ H q)⟩
theorem PSs.imp {X : Cx} {e : List Stmt} {t t' : TS} (h : PSs X e t) (i : ∀ D σ H, t' D σ H → t D σ H) : PSs X e t' := ⟨fun pins s σ H D I q => h.run pins s σ H D I (i D σ H q)⟩

section
variable {R : Rx} {G : Gx} {ρ : Rh} {M M' : Mp} {σ : L2.St} {H H' : Hp}
/-- run one reading, then go on -/
theorem tE.of {d : DT} {DQ : DK} {Q : VK} (s : Sr R G ρ M σ H) (h : d ρ M DQ) (k : ∀ x M' v H', Fr M H M' H' → Sr R G ρ M' σ H' → Dv R M' H' v x → DQ x M' → Q v H') : tE R G d σ H Q :=
  ⟨ρ, M, DQ, s, h, fun x M' v H' f r d' q => k x M' v H' f (s.step f r) d' q⟩
theorem tBo.of {d : DB} {DQ : Bool → Mp → Prop} {Q : Bool → Hp → Prop} (s : Sr R G ρ M σ H) (h : d ρ M DQ) (k : ∀ b M' H', Fr M H M' H' → Sr R G ρ M' σ H' → DQ b M' → Q b H') : tBo R G d σ H Q :=
  ⟨ρ, M, DQ, s, h, fun b M' H' f r q => k b M' H' f (s.step f r) q⟩
theorem tAr.of {d : DA} {DQ : DKs} {Q : List V → Hp → Prop} (s : Sr R G ρ M σ H) (h : d ρ M DQ) (k : ∀ xs M' vs H', Fr M H M' H' → Sr R G ρ M' σ H' → DvAll R M' H' vs xs → DQ xs M' → Q vs H') : tAr R G d σ H Q :=
  ⟨ρ, M, DQ, s, h, fun xs M' vs H' f r d' q => k xs M' vs H' f (s.step f r) d' q⟩
end

/-! ### names, constants -/
def dVar (i : Nat) : DT := fun ρ M Q => ∃ d, ρ[i]? = some (some d) ∧ Q d M
def dC (d : D) : DT := fun _ M Q => Q d M
/-- M without p -/
def del (M : Mp) (p : Addr) : Mp := fun a => if a = p then none else M a
theorem Sub.del {M : Mp} {p : Addr} : Sub (del M p) M := fun a => by
  unfold DL.del
  by_cases h : a = p
  · left; rw [if_pos h]
  · right; rw [if_neg h]
theorem del_same {M : Mp} {p : Addr} : del M p p = none := by unfold del; rw [if_pos rfl]
theorem del_ne {M : Mp} {a p : Addr} (h : a ≠ p) : del M p a = M a := by unfold del; rw [if_neg h]
/-- what an object is worth once it is no longer changed -/
def froz : MO → Option D
  | .lst xs => some (.lst xs)
  | .dct ks vs => some (.dct ks vs)
  | _ => none
/-- a name whose list or dict is from here on no longer changed -/
def dFrz (i : Nat) : DT := fun ρ M Q => ∃ p o d, ρ[i]? = some (some (.ref p)) ∧ M p = some o ∧ froz o = some d ∧ Q d (del M p)
theorem froz_dv {R : Rx} {M : Mp} {H : Hp} {p : Addr} {o : MO} {d : D} (r : Rel R M H) (h : M p = some o) (f : froz o = some d) : Dv R (del M p) H (.ref p) d := by
  have x := r p o h
  have fr : Fr M H (del M p) H := Fr.subR Sub.del
  cases o with
  | lst ds => obtain ⟨vs, e, g⟩ := x; cases f; exact .lst e del_same (g.fr fr)
  | dct ks vs => obtain ⟨xs, vs, e, y, nd, sz, g1, n, dp, vv, g2⟩ := x; cases f; exact .dct (.inl e) del_same y nd sz (g1.fr fr) n dp vv (g2.fr fr)
  | ins C fs => cases f
  | fro xs => cases f
section
variable {X : Cx} {G : Gx} {pos : Pos}
theorem de_var (i : Nat) {x : Str} {pos : Pos} (hN : X.N[i]? = some x := by rfl) (hv : Vis X.env.scope x := by first | exact Or.inl rfl | exact Or.inr (Or.inl rfl) | exact Or.inr (Or.inr rfl)) (hd : (x == ("__debug__" : Str)) = false := by decide)
    (hcd : (x == ("__classdict__" : Str)) = false := by decide) : DE X G (.Name x pos) (dVar i) :=
  PE.imp (pe_var (i := i) hN hv hd hcd) fun σ H Q ⟨ρ, M, DQ, s, ⟨d, e, q⟩, k⟩ => let ⟨v, h, g⟩ := s.env i d e; ⟨v, h, k d M v H Fr.refl s.mem g q⟩
theorem de_frz (i : Nat) {x : Str} {pos : Pos} (hN : X.N[i]? = some x := by rfl) (hv : Vis X.env.scope x := by first | exact Or.inl rfl | exact Or.inr (Or.inl rfl) | exact Or.inr (Or.inr rfl)) (hd : (x == ("__debug__" : Str)) = false := by decide)
    (hcd : (x == ("__classdict__" : Str)) = false := by decide) : DE X G (.Name x pos) (dFrz i) :=
  PE.imp (pe_var (i := i) hN hv hd hcd) fun σ H Q ⟨ρ, M, DQ, s, ⟨p, o, d, e, m, fz, q⟩, k⟩ => by
    obtain ⟨v, h, g⟩ := s.env i _ e
    cases g
    have fr : Fr M H (del M p) H := Fr.subR Sub.del
    exact ⟨_, h, k d (del M p) _ H fr (s.mem.sub Sub.del fr) (froz_dv s.mem m fz) q⟩
theorem de_c {e : Expr} {v : V} {d : D} (h : PE X e (tC v)) (r : ∀ M H, Dv (rx X) M H v d) : DE X G e (dC d) :=
  PE.imp h fun σ H Q ⟨ρ, M, DQ, s, q, k⟩ => k d M v H Fr.refl s.mem (r M H) q
theorem de_int {i : Int} {j pos} : DE X G (.Constant (.int i) j pos) (dC (.int i)) := de_c pe_int fun _ _ => .int i
theorem de_bl {b j pos} : DE X G (.Constant (.bool b) j pos) (dC (.bl b)) := de_c pe_bl fun _ _ => .bl b
theorem de_non {j pos} : DE X G (.Constant .none j pos) (dC .non) := de_c pe_non fun _ _ => .non
theorem de_str {x j pos} : DE X G (.Constant (.str x) j pos) (dC (.str x)) := de_c pe_str fun _ _ => .str x
theorem de_glob {x : Str} {v : V} {u : Value} {d : D} {pos : Pos} (hm : X.mg x = some u) (r : RelV v u) (q : ∀ M H, Dv (rx X) M H v d) (hg : Gl X x := by rfl) (hd : (x == ("__debug__" : Str)) = false := by decide) : DE X G (.Name x pos) (dC d) :=
  de_c (pe_glob hg hm r hd) q
theorem de_bltn {x : Str} {n : String} {pos : Pos} (hm : X.mg x = none) (hv : bootBuiltins x = some (.type n)) (hg : Gl X x := by rfl) (hn : x ≠ "__name__" := by decide) (hd : (x == ("__debug__" : Str)) = false := by decide) : DE X G (.Name x pos) (dC (.ty n)) :=
  de_c (v := .ty n) (pe_bltn hg hm hv rfl hn hd) fun _ _ => .ty n
end

/-! ### operators by data -/
abbrev D2 := D → D → Mp → DK → Prop
abbrev D1 := List D → Mp → DK → Prop
def vOf2 (R : Rx) (rd : D2) : R2 := fun v w H Q => ∃ x y M DQ, Rel R M H ∧ Dv R M H v x ∧ Dv R M H w y ∧ rd x y M DQ ∧ Post R M H DQ Q
def vOfL (R : Rx) (rd : D1) : List V → Hp → VK → Prop := fun vs H Q => ∃ xs M DQ, Rel R M H ∧ DvAll R M H vs xs ∧ rd xs M DQ ∧ Post R M H DQ Q
def OpD (X : Cx) (f : Value → Value → Sem Value) (rd : D2) : Prop := OpR X f (vOf2 (rx X) rd)
def CallD (X : Cx) (f : Value) (rd : D1) : Prop := CallR X f (vOfL (rx X) rd)
def dOp (rd : D2) (da db : DT) : DT := fun ρ M Q => da ρ M fun x M1 => db ρ M1 fun y M2 => rd x y M2 Q
def dB (d : DT) : DB := fun ρ M Q => d ρ M fun x M1 => ∃ b, x = .bl b ∧ Q b M1
theorem OpR.imp {X : Cx} {f : Value → Value → Sem Value} {r r' : R2} (h : OpR X f r) (i : ∀ x y H Q, r' x y H Q → r x y H Q) : OpR X f r' := fun pins s σ H x y v u Q I rx ry q => h pins s σ H x y v u Q I rx ry (i _ _ _ _ q)
theorem CallR.imp {X : Cx} {f : Value} {r r' : List V → Hp → VK → Prop} (h : CallR X f r) (i : ∀ xs H Q, r' xs H Q → r xs H Q) : CallR X f r' := fun pins s σ H xs us Q I rx q => h pins s σ H xs us Q I rx (i _ _ _ q)
section
variable {X : Cx} {G : Gx} {a b c : Expr} {da db dc : DT} {pos : Pos}
theorem dOp_sound {r : R2} {rd : D2} {R : Rx} (hr : ∀ v w H Q, vOf2 R rd v w H Q → r v w H Q) {σ : L2.St} {H : Hp} {Q : VK} (h : tE R G (dOp rd da db) σ H Q) : tOp r (tE R G da) (tE R G db) σ H Q := by
  obtain ⟨ρ, M, DQ, s, h, k⟩ := h
  refine tE.of s h fun x M1 v H1 f1 s1 g1 q1 => tE.of s1 q1 fun y M2 w H2 f2 s2 g2 q2 => hr _ _ _ _ ⟨x, y, M2, DQ, s2.mem, g1.fr f2, g2, q2, k.step (f1.trans f2)⟩
theorem de_op {op : Operator} {rd : D2} (ho : OpD X (binaryOp op) rd) (ha : DE X G a da) (hb : DE X G b db) : DE X G (.BinOp a op b pos) (dOp rd da db) :=
  PE.imp (pe_op ho ha hb) fun σ H Q h => dOp_sound (fun _ _ _ _ q => q) h
theorem de_cmp {op : CmpOp} {rd : D2} (ho : OpD X (compareOp op) rd) (ha : DE X G a da) (hb : DE X G b db) (hm : behindInMarks op b = false) : DE X G (.Compare a [op] [b] pos) (dOp rd da db) :=
  PE.imp (pe_cmpR ho ha hb hm) fun σ H Q h => dOp_sound (fun _ _ _ _ q => q) h
theorem Post.bl {R : Rx} {M : Mp} {H : Hp} {DQ : Bool → Mp → Prop} {Q : Bool → Hp → Prop} (k : ∀ b M' H', Fr M H M' H' → Rel R M' H' → DQ b M' → Q b H') : Post R M H (fun x M1 => ∃ b, x = D.bl b ∧ DQ b M1) (fun x H' => ∃ k, x = V.bl k ∧ Q k H') :=
  fun x M' v H' f r g ⟨b, e, q⟩ => by subst e; cases g; exact ⟨b, rfl, k b M' H' f r q⟩
theorem dt_cmp {op : CmpOp} {rd : D2} (ho : OpD X (compareOp op) rd) (ha : DE X G a da) (hb : DE X G b db) (hm : behindInMarks op b = false) : DTt X G (.Compare a [op] [b] pos) (dB (dOp rd da db)) :=
  PT.imp (pt_cmpR ho ha hb hm) fun σ H Q ⟨ρ, M, DQ, s, h, k⟩ => dOp_sound (fun _ _ _ _ q => q) ⟨ρ, M, _, s, h, Post.bl k⟩
def dChain (r r' : D2) (da db dc : DT) : DT := fun ρ M Q => da ρ M fun x M1 => db ρ M1 fun y M2 => r x y M2 fun z M3 => ∃ k, z = .bl k ∧ (if k = true then dc ρ M3 fun w M4 => r' y w M4 Q else Q (.bl false) M3)
theorem dChain_sound {r r' : D2} {R : Rx} {σ : L2.St} {H : Hp} {Q : VK} (h : tE R G (dChain r r' da db dc) σ H Q) : tChain (vOf2 R r) (vOf2 R r') (tE R G da) (tE R G db) (tE R G dc) σ H Q := by
  obtain ⟨ρ, M, DQ, s, h, k⟩ := h
  refine tE.of s h fun x M1 v H1 f1 s1 g1 q1 => tE.of s1 q1 fun y M2 w H2 f2 s2 g2 q2 => ⟨x, y, M2, _, s2.mem, g1.fr f2, g2, q2, fun z M3 u H3 f3 r3 g3 ⟨b, e, q3⟩ => ?_⟩
  subst e
  cases g3
  refine ⟨b, rfl, ?_⟩
  cases b with
  | false =>
    rw [if_neg Bool.false_ne_true] at q3 ⊢
    exact k _ M3 _ H3 ((f1.trans f2).trans f3) r3 (.bl false) q3
  | true =>
    rw [if_pos rfl] at q3 ⊢
    exact tE.of (s2.step f3 r3) q3 fun z M4 u H4 f4 s4 g4 q4 => ⟨y, z, M4, DQ, s4.mem, (g2.fr f3).fr f4, g4, q4, k.step (((f1.trans f2).trans f3).trans f4)⟩
theorem de_chain {op op' : CmpOp} {r r' : D2} (ho : OpD X (compareOp op) r) (ho' : OpD X (compareOp op') r') (ha : DE X G a da) (hb : DE X G b db) (hc : DE X G c dc)
    (hm : lastMarks [op, op'] [b, c] = false := by with_unfolding_all rfl) : DE X G (.Compare a [op, op'] [b, c] pos) (dChain r r' da db dc) :=
  PE.imp (pe_chain ho ho' ha hb hc hm) fun σ H Q h => dChain_sound h
theorem dt_chain {op op' : CmpOp} {r r' : D2} (ho : OpD X (compareOp op) r) (ho' : OpD X (compareOp op') r') (ha : DE X G a da) (hb : DE X G b db) (hc : DE X G c dc)
    (hm : lastMarks [op, op'] [b, c] = false := by with_unfolding_all rfl) : DTt X G (.Compare a [op, op'] [b, c] pos) (dB (dChain r r' da db dc)) :=
  PT.imp (pt_chain ho ho' ha hb hc hm) fun σ H Q ⟨ρ, M, DQ, s, h, k⟩ => dChain_sound ⟨ρ, M, _, s, h, Post.bl k⟩
/-- an expression that gives True or False, as a test -/
theorem dt_val {e : Expr} {d : DT} (h : DE X G e d) (he : ∀ whole, isTrue e X.env whole = (do let v ← whole; standAt e.pos; holding [v] (truthy v)) := by intro _; rfl) : DTt X G e (dB d) :=
  PT.imp (pt_val h he) fun σ H Q ⟨ρ, M, DQ, s, h, k⟩ => ⟨ρ, M, _, s, h, Post.bl k⟩
/-- truth of a number, a text, a list, a tuple, a dict -/
def truO : Option MO → Option Bool
  | some (.lst xs) => some (!xs.isEmpty)
  | some (.fro xs) => some (!xs.isEmpty)
  | _ => none
def truD (M : Mp) : D → Option Bool
  | .non => some false
  | .bl b => some b
  | .int i => some (i != 0)
  | .tup xs => some (!xs.isEmpty)
  | .lst xs => some (!xs.isEmpty)
  | .lsk xs => some (!xs.isEmpty)
  | .ref a => truO (M a)
  | _ => none
def dTru (d : DT) : DB := fun ρ M Q => d ρ M fun x M1 => ∃ b, truD M1 x = some b ∧ Q b M1
theorem Dv.sqt {R : Rx} {M : Mp} {H : Hp} {v : V} {ds : List D} (h : Dv R M H v (.tup ds)) : ∃ a xs, v = .ref a ∧ SqT R.K H a xs ∧ DvAll R M H xs ds := by
  cases h with
  | tupK a b c d e g => exact ⟨_, _, rfl, .inr ⟨_, _, _, a, b, c, d, e⟩, g⟩
  | tup h m g => exact ⟨_, _, rfl, SqT.of h, g⟩
theorem Dv.sql {R : Rx} {M : Mp} {H : Hp} {v : V} {ds : List D} (h : Dv R M H v (.lst ds)) : ∃ a xs, v = .ref a ∧ SqL R.K H a xs ∧ DvAll R M H xs ds := by
  cases h with
  | lst h m g => exact ⟨_, _, rfl, SqL.of h, g⟩
theorem Dv.sqk {R : Rx} {M : Mp} {H : Hp} {v : V} {ds : List D} (h : Dv R M H v (.lsk ds)) : ∃ a xs, v = .ref a ∧ SqL R.K H a xs ∧ DvAll R M H xs ds := by
  cases h with
  | lsk a b c d e f g => exact ⟨_, _, rfl, .inr ⟨_, _, _, a, b, c, d, e, f⟩, g⟩
theorem DvAll.isEmpty {R : Rx} {M : Mp} {H : Hp} {vs : List V} {ds : List D} (h : DvAll R M H vs ds) : vs.isEmpty = ds.isEmpty := by cases h <;> rfl
theorem truD_sound {R : Rx} {M : Mp} {H : Hp} {v : V} {x : D} {b : Bool} (r : Rel R M H) (g : Dv R M H v x) (h : truD M x = some b) : TruV R.K v H b := by
  cases x with
  | non => cases g; cases h; rfl
  | bl c => cases g; cases h; rfl
  | int i => cases g; cases h; rfl
  | tup xs => obtain ⟨a, ys, rfl, q, z⟩ := g.sqt; cases h; exact .inr (.inl ⟨ys, q, by rw [z.isEmpty]⟩)
  | lst xs => obtain ⟨a, ys, rfl, q, z⟩ := g.sql; cases h; exact .inl ⟨ys, q, by rw [z.isEmpty]⟩
  | lsk xs => obtain ⟨a, ys, rfl, q, z⟩ := g.sqk; cases h; exact .inl ⟨ys, q, by rw [z.isEmpty]⟩
  | ref a =>
    cases g
    have h : truO (M a) = some b := h
    cases e : M a with
    | none => rw [e] at h; cases h
    | some o =>
      rw [e] at h
      cases o with
      | lst xs =>
        obtain ⟨vs, e1, z⟩ := r a _ e
        cases h
        exact .inl ⟨vs, SqL.of e1, by rw [z.isEmpty]⟩
      | fro xs =>
        obtain ⟨vs, e1, z⟩ := r a _ e
        cases h
        exact .inl ⟨vs, .inl e1, by rw [z.isEmpty]⟩
      | dct _ _ => cases h
      | ins _ _ => cases h
  | str x => cases h
  | ty n => cases h
  | dct a b => cases h
theorem dt_tru {e : Expr} {d : DT} (h : DE X G e d) (he : ∀ whole, isTrue e X.env whole = (do let v ← whole; standAt e.pos; holding [v] (truthy v)) := by intro _; rfl) : DTt X G e (dTru d) :=
  PT.imp (pt_truth h he) fun σ H Q ⟨ρ, M, DQ, s, h, k⟩ => ⟨ρ, M, _, s, h, fun x M' v H' f r g ⟨b, e, q⟩ => ⟨b, truD_sound r g e, k b M' H' f r q⟩⟩
/-! ### and, or, not, if else -/
variable {ta tb : DB} {rest : List Expr}
def dAnd (t u : DB) : DB := fun ρ M Q => t ρ M fun c M1 => if c = true then u ρ M1 Q else Q false M1
def dOr (t u : DB) : DB := fun ρ M Q => t ρ M fun c M1 => if c = true then Q true M1 else u ρ M1 Q
def dNot (t : DB) : DB := fun ρ M Q => t ρ M fun c M1 => Q (!c) M1
theorem dw_and1 (ha : DTt X G a ta) : DTw X G (.BoolOp .And [a] pos) ta := pw_and1 ha
theorem dw_or1 (ha : DTt X G a ta) : DTw X G (.BoolOp .Or [a] pos) ta := pw_or1 ha
theorem dw_and (ha : DTt X G a ta) (hb : DTw X G (.BoolOp .And (b :: rest) pos) tb) : DTw X G (.BoolOp .And (a :: b :: rest) pos) (dAnd ta tb) :=
  PW.imp (pw_and ha hb) fun σ H Q ⟨ρ, M, DQ, s, h, k⟩ => tBo.of s h fun c M1 H1 f s1 q => by
    cases c with
    | true => rw [if_pos rfl] at q ⊢; exact ⟨ρ, M1, DQ, s1, q, fun b M2 H2 f2 => k b M2 H2 (f.trans f2)⟩
    | false => rw [if_neg Bool.false_ne_true] at q ⊢; exact k _ _ _ f s1.mem q
theorem dw_or (ha : DTt X G a ta) (hb : DTw X G (.BoolOp .Or (b :: rest) pos) tb) : DTw X G (.BoolOp .Or (a :: b :: rest) pos) (dOr ta tb) :=
  PW.imp (pw_or ha hb) fun σ H Q ⟨ρ, M, DQ, s, h, k⟩ => tBo.of s h fun c M1 H1 f s1 q => by
    cases c with
    | true => rw [if_pos rfl] at q ⊢; exact k _ _ _ f s1.mem q
    | false => rw [if_neg Bool.false_ne_true] at q ⊢; exact ⟨ρ, M1, DQ, s1, q, fun b M2 H2 f2 => k b M2 H2 (f.trans f2)⟩
theorem dt_w {e : Expr} {t : DB} (h : DTw X G e t) : DTt X G e t := h.pt
theorem dt_not (ha : DTt X G a ta) : DTt X G (.UnaryOp .Not a pos) (dNot ta) :=
  PT.imp (pt_not ha) fun σ H Q ⟨ρ, M, DQ, s, h, k⟩ => tBo.of s h fun c M1 H1 f s1 q => k _ _ _ f s1.mem q
def dAndV (da db : DT) : DT := fun ρ M Q => da ρ M fun x M1 => ∃ c, x = .bl c ∧ if c = true then db ρ M1 Q else Q (.bl false) M1
def dOrV (da db : DT) : DT := fun ρ M Q => da ρ M fun x M1 => ∃ c, x = .bl c ∧ if c = true then Q (.bl true) M1 else db ρ M1 Q
def dNotV (da : DT) : DT := fun ρ M Q => da ρ M fun x M1 => ∃ c, x = .bl c ∧ Q (.bl (!c)) M1
theorem de_one {op} (h : DE X G a da) : DE X G (.BoolOp op [a] pos) da := pe_one h
theorem de_and (ha : DE X G a da) (hb : DE X G (.BoolOp .And (b :: rest) pos) db) : DE X G (.BoolOp .And (a :: b :: rest) pos) (dAndV da db) :=
  PE.imp (pe_and ha hb) fun σ H Q ⟨ρ, M, DQ, s, h, k⟩ => tE.of s h fun x M1 v H1 f s1 g ⟨c, e, q⟩ => by
    subst e; cases g
    refine ⟨c, rfl, ?_⟩
    cases c with
    | true => rw [if_pos rfl] at q ⊢; exact ⟨ρ, M1, DQ, s1, q, k.step f⟩
    | false => rw [if_neg Bool.false_ne_true] at q ⊢; exact k _ _ _ _ f s1.mem (.bl false) q
theorem de_or (ha : DE X G a da) (hb : DE X G (.BoolOp .Or (b :: rest) pos) db) : DE X G (.BoolOp .Or (a :: b :: rest) pos) (dOrV da db) :=
  PE.imp (pe_or ha hb) fun σ H Q ⟨ρ, M, DQ, s, h, k⟩ => tE.of s h fun x M1 v H1 f s1 g ⟨c, e, q⟩ => by
    subst e; cases g
    refine ⟨c, rfl, ?_⟩
    cases c with
    | true => rw [if_pos rfl] at q ⊢; exact k _ _ _ _ f s1.mem (.bl true) q
    | false => rw [if_neg Bool.false_ne_true] at q ⊢; exact ⟨ρ, M1, DQ, s1, q, k.step f⟩
theorem de_not (ha : DE X G a da) : DE X G (.UnaryOp .Not a pos) (dNotV da) :=
  PE.imp (pe_not ha) fun σ H Q ⟨ρ, M, DQ, s, h, k⟩ => tE.of s h fun x M1 v H1 f s1 g ⟨c, e, q⟩ => by
    subst e; cases g
    exact ⟨c, rfl, k _ _ _ _ f s1.mem (.bl _) q⟩
def dIf (t : DB) (da db : DT) : DT := fun ρ M Q => t ρ M fun c M1 => if c = true then da ρ M1 Q else db ρ M1 Q
theorem de_if {t : DB} (hc : DTt X G c t) (ha : DE X G a da) (hb : DE X G b db) : DE X G (.IfExp c a b pos) (dIf t da db) :=
  PE.imp (pe_ifExp hc ha hb) fun σ H Q ⟨ρ, M, DQ, s, h, k⟩ => tBo.of s h fun c M1 H1 f s1 q => by
    cases c with
    | true => rw [if_pos rfl] at q ⊢; exact ⟨ρ, M1, DQ, s1, q, k.step f⟩
    | false => rw [if_neg Bool.false_ne_true] at q ⊢; exact ⟨ρ, M1, DQ, s1, q, k.step f⟩
end

/-! ### arguments, displays -/
def dNil : DA := fun _ M Q => Q [] M
def dCons (d : DT) (t : DA) : DA := fun ρ M Q => d ρ M fun x M1 => t ρ M1 fun xs M2 => Q (x :: xs) M2
section
variable {X : Cx} {G : Gx} {e : Expr} {es : List Expr} {d : DT} {t : DA} {pos : Pos}
theorem da_nil : DAr X G [] dNil := PA.imp pa_nil fun σ H Q ⟨ρ, M, DQ, s, h, k⟩ => k [] M [] H Fr.refl s.mem .nil h
theorem da_cons (ha : DE X G e d) (hr : DAr X G es t) (hs : starEach (e :: es) X.env = (false, eval e X.env) :: starEach es X.env := by rfl) : DAr X G (e :: es) (dCons d t) :=
  PA.imp (pa_cons ha hr hs) fun σ H Q ⟨ρ, M, DQ, s, h, k⟩ => tE.of s h fun x M1 v H1 f1 s1 g1 q1 => tAr.of s1 q1 fun xs M2 vs H2 f2 s2 g2 q2 => k _ _ _ _ (f1.trans f2) s2.mem (.cons (g1.fr f2) g2) q2
def dTup (t : DA) : DT := fun ρ M Q => t ρ M fun xs M1 => xs.length ≤ sizeLine ∧ Q (.tup xs) M1
/-- a list that is not changed; one that is -/
def dLst (t : DA) : DT := fun ρ M Q => t ρ M fun xs M1 => xs.length ≤ sizeLine ∧ Q (.lst xs) M1
def dLstO (t : DA) : DT := fun ρ M Q => t ρ M fun xs M1 => xs.length ≤ sizeLine ∧ ∀ p, M1 p = none → Q (.ref p) (upm M1 p (.lst xs))
theorem new_tup {R : Rx} {M : Mp} {H : Hp} {vs : List V} {xs : List D} {p : Addr} (r : Rel R M H) (h : H p = none) (g : DvAll R M H vs xs) : Rel R M (upd H p (.tup vs)) ∧ Dv R M (upd H p (.tup vs)) (.ref p) (.tup xs) :=
  ⟨r.laid h, .tup upd_same (r.fresh h) (g.fr (Fr.laid h))⟩
theorem new_lst {R : Rx} {M : Mp} {H : Hp} {vs : List V} {xs : List D} {p : Addr} (r : Rel R M H) (h : H p = none) (g : DvAll R M H vs xs) : Rel R M (upd H p (.lst vs)) ∧ Dv R M (upd H p (.lst vs)) (.ref p) (.lst xs) :=
  ⟨r.laid h, .lst upd_same (r.fresh h) (g.fr (Fr.laid h))⟩
theorem new_lstO {R : Rx} {M : Mp} {H : Hp} {vs : List V} {xs : List D} {p : Addr} (r : Rel R M H) (h : H p = none) (g : DvAll R M H vs xs) : Rel R (upm M p (.lst xs)) (upd H p (.lst vs)) :=
  r.made h ⟨vs, upd_same, g.fr (Fr.made h)⟩
theorem de_tup {x1} (h : DAr X G es t) : DE X G (.Tuple es x1 pos) (dTup t) :=
  PE.imp (pe_tup h) fun σ H Q ⟨ρ, M, DQ, s, h, k⟩ => tAr.of s h fun xs M1 vs H1 f s1 g ⟨z, q⟩ => ⟨by rw [g.length]; exact z, fun p hp => let ⟨r, d⟩ := new_tup s1.mem hp g; k _ _ _ _ (f.trans (Fr.laid hp)) r d q⟩
theorem de_lst (h : DAr X G es t) : DE X G (.List es pos) (dLst t) :=
  PE.imp (pe_lst h) fun σ H Q ⟨ρ, M, DQ, s, h, k⟩ => tAr.of s h fun xs M1 vs H1 f s1 g ⟨z, q⟩ => ⟨by rw [g.length]; exact z, fun p hp => let ⟨r, d⟩ := new_lst s1.mem hp g; k _ _ _ _ (f.trans (Fr.laid hp)) r d q⟩
theorem de_lstO (h : DAr X G es t) : DE X G (.List es pos) (dLstO t) :=
  PE.imp (pe_lst h) fun σ H Q ⟨ρ, M, DQ, s, h, k⟩ => tAr.of s h fun xs M1 vs H1 f s1 g ⟨z, q⟩ => ⟨by rw [g.length]; exact z, fun p hp => k _ _ _ _ (f.trans (Fr.made hp)) (new_lstO s1.mem hp g) (.ref p) (q p (s1.mem.fresh hp))⟩
end
end DL

/-! Operators, subscripts, slices, built-in calls over data. -/
namespace DL
open PySem PySem.Spec PyProof.Rows L2

/-! ### lists as they are read, as they are -/
def lvO : Option MO → Option (List D)
  | some (.lst xs) => some xs
  | some (.fro xs) => some xs
  | _ => none
def lwO : Option MO → Option (List D)
  | some (.lst xs) => some xs
  | _ => none
/-- a list that can be read -/
def lv (M : Mp) : D → Option (List D)
  | .lst xs => some xs
  | .lsk xs => some xs
  | .ref a => lvO (M a)
  | _ => none
/-- .. that is no thing handed in from outside -/
def lw (M : Mp) : D → Option (List D)
  | .lst xs => some xs
  | .ref a => lwO (M a)
  | _ => none
/-- a list or a tuple -/
def sv (M : Mp) : D → Option (List D)
  | .tup xs => some xs
  | x => lv M x
section
variable {R : Rx} {M : Mp} {H : Hp} {v : V} {x : D} {xs : List D}
theorem lv_sound (r : Rel R M H) (g : Dv R M H v x) (h : lv M x = some xs) : ∃ a vs, v = .ref a ∧ SqL R.K H a vs ∧ DvAll R M H vs xs := by
  cases x with
  | lst ys => cases h; exact g.sql
  | lsk ys => cases h; cases g with | lsk a b c d e f g => exact ⟨_, _, rfl, .inr ⟨_, _, _, a, b, c, d, e, f⟩, g⟩
  | ref a =>
    cases g
    have h : lvO (M a) = some xs := h
    cases e : M a with
    | none => rw [e] at h; cases h
    | some o =>
      rw [e] at h
      cases o with
      | lst ys => cases h; obtain ⟨vs, e1, z⟩ := r a _ e; exact ⟨a, vs, rfl, SqL.of e1, z⟩
      | fro ys => cases h; obtain ⟨vs, e1, z⟩ := r a _ e; exact ⟨a, vs, rfl, .inl e1, z⟩
      | dct _ _ => cases h
      | ins _ _ => cases h
  | _ => cases h
theorem lw_sound (r : Rel R M H) (g : Dv R M H v x) (h : lw M x = some xs) : ∃ a vs, v = .ref a ∧ H a = some (.lst vs) ∧ DvAll R M H vs xs := by
  cases x with
  | lst ys => cases h; cases g with | lst e m z => exact ⟨_, _, rfl, e, z⟩
  | ref a =>
    cases g
    have h : lwO (M a) = some xs := h
    cases e : M a with
    | none => rw [e] at h; cases h
    | some o =>
      rw [e] at h
      cases o with
      | lst ys => cases h; obtain ⟨vs, e1, z⟩ := r a _ e; exact ⟨a, vs, rfl, e1, z⟩
      | fro ys => cases h
      | dct _ _ => cases h
      | ins _ _ => cases h
  | _ => cases h
theorem sv_sound (r : Rel R M H) (g : Dv R M H v x) (h : sv M x = some xs) : ∃ a vs, v = .ref a ∧ (SqL R.K H a vs ∨ SqT R.K H a vs) ∧ DvAll R M H vs xs := by
  cases x with
  | tup ys => cases h; obtain ⟨a, vs, e, q, z⟩ := g.sqt; exact ⟨a, vs, e, .inr q, z⟩
  | lst ys => cases h; obtain ⟨a, vs, e, q, z⟩ := g.sql; exact ⟨a, vs, e, .inl q, z⟩
  | ref a => obtain ⟨a, vs, e, q, z⟩ := lv_sound r g (show lv M (.ref a) = some xs from h); exact ⟨a, vs, e, .inl q, z⟩
  | lsk ys => obtain ⟨a, vs, e, q, z⟩ := lv_sound r g (show lv M (.lsk ys) = some xs from h); exact ⟨a, vs, e, .inl q, z⟩
  | _ => cases h
end

/-! ### arithmetic -/
def small : D → Prop
  | .str x => x.length ≤ sizeLine
  | .tup xs => xs.length ≤ sizeLine
  | .lst xs => xs.length ≤ sizeLine
  | _ => True
def addV (M : Mp) : D → D → Option D
  | .int i, .int j => some (.int (i + j))
  | .str x, .str y => some (.str (x ++ y))
  | .tup xs, .tup ys => some (.tup (xs ++ ys))
  | x, y => (lw M x).bind fun xs => (lw M y).map fun ys => .lst (xs ++ ys)
def d2 (f : Mp → D → D → Option D) (C : D → D → D → Prop) : D2 := fun x y M Q => ∃ z, f M x y = some z ∧ C x y z ∧ Q z M
def dAdd : D2 := d2 addV fun _ _ z => small z
section
variable {X : Cx}
theorem ret {R : Rx} {M : Mp} {H : Hp} {DQ : DK} {Q : VK} (k : Post R M H DQ Q) (r : Rel R M H) {v : V} {x : D} (g : Dv R M H v x) (q : DQ x M) : Q v H := k x M v H Fr.refl r g q
theorem od_add : OpD X (binaryOp .Add) dAdd := by
  refine OpR.imp (((op_add.or op_add_str).or op_catA).or op_cat) fun v w H Q ⟨x, y, M, DQ, r, g1, g2, ⟨z, e, sm, q⟩, k⟩ => ?_
  have lists : ∀ xs ys, lw M x = some xs → lw M y = some ys → z = .lst (xs ++ ys) → rCat v w H Q := fun xs ys e1 e2 e3 => by
    obtain ⟨a, vs, rfl, h1, z1⟩ := lw_sound r g1 e1
    obtain ⟨b, ws, rfl, h2, z2⟩ := lw_sound r g2 e2
    subst e3
    have sm : (xs ++ ys).length ≤ sizeLine := sm
    refine ⟨a, b, vs, ws, rfl, rfl, h1, h2, by rw [z1.length, z2.length, ← List.length_append]; exact sm, fun p hp => ?_⟩
    obtain ⟨r1, d1⟩ := new_lst r hp (z1.append z2)
    exact k _ _ _ _ (Fr.laid hp) r1 d1 q
  have gen : ((lw M x).bind fun xs => (lw M y).map fun ys => D.lst (xs ++ ys)) = some z → rCat v w H Q := fun e => by
    cases e1 : lw M x with
    | none => rw [e1] at e; cases e
    | some xs =>
      cases e2 : lw M y with
      | none => rw [e1, e2] at e; cases e
      | some ys => rw [e1, e2] at e; exact lists xs ys e1 e2 (Option.some.inj e).symm
  cases x with
  | int i =>
    cases y with
    | int j => cases e; cases g1; cases g2; exact .inl (.inl (.inl ⟨i, j, rfl, rfl, ret k r (.int _) q⟩))
    | _ => exact .inr (gen e)
  | str i =>
    cases y with
    | str j => cases e; cases g1; cases g2; exact .inl (.inl (.inr ⟨i, j, rfl, rfl, by have sm : (i ++ j).length ≤ sizeLine := sm; rw [← Str.length_append]; exact sm, ret k r (.str _) q⟩))
    | _ => exact .inr (gen e)
  | tup xs =>
    cases y with
    | tup ys =>
      cases e
      obtain ⟨a, vs, rfl, h1, z1⟩ := g1.sqt
      obtain ⟨b, ws, rfl, h2, z2⟩ := g2.sqt
      have sm : (xs ++ ys).length ≤ sizeLine := sm
      refine .inl (.inr ⟨a, b, vs, ws, rfl, rfl, h1, h2, by rw [z1.length, z2.length, ← List.length_append]; exact sm, fun e => ?_, fun _ e => ?_, fun _ _ p hp => ?_⟩)
      · subst e; cases z1; exact ret k r g2 q
      · subst e; cases z2; rw [List.append_nil] at q; exact ret k r g1 q
      · obtain ⟨r1, d1⟩ := new_tup r hp (z1.append z2)
        exact k _ _ _ _ (Fr.laid hp) r1 d1 q
    | _ => exact .inr (gen e)
  | _ => exact .inr (gen e)

def int2 (f : Int → Int → Int) : Mp → D → D → Option D
  | _, .int i, .int j => some (.int (f i j))
  | _, _, _ => none
theorem int2_some {f : Int → Int → Int} {M : Mp} {x y z : D} (h : int2 f M x y = some z) : ∃ i j, x = .int i ∧ y = .int j ∧ z = .int (f i j) := by
  cases x with
  | int i => cases y with
    | int j => exact ⟨i, j, rfl, rfl, (Option.some.inj h).symm⟩
    | _ => cases h
  | _ => cases y <;> cases h
def cmp2 (f : Int → Int → Bool) : Mp → D → D → Option D
  | _, .int i, .int j => some (.bl (f i j))
  | _, _, _ => none
theorem cmp2_some {f : Int → Int → Bool} {M : Mp} {x y z : D} (h : cmp2 f M x y = some z) : ∃ i j, x = .int i ∧ y = .int j ∧ z = .bl (f i j) := by
  cases x with
  | int i => cases y with
    | int j => exact ⟨i, j, rfl, rfl, (Option.some.inj h).symm⟩
    | _ => cases h
  | _ => cases y <;> cases h
def intC (C : Int → Int → Prop) : D → D → D → Prop
  | .int i, .int j, _ => C i j
  | _, _, _ => True
def noC : D → D → D → Prop := fun _ _ _ => True
def dSub : D2 := d2 (int2 fun i j => i - j) noC
def dFdiv : D2 := d2 (int2 fun i j => i / j) (intC CDiv)
def dMod : D2 := d2 (int2 fun i j => i % j) (intC fun _ j => 0 < j)
def dPow : D2 := d2 (int2 fun i j => i ^ j.toNat) (intC CPow)
theorem od_int {f : Value → Value → Sem Value} {C : Int → Int → Prop} {g : Int → Int → Int} (h : OpR X f (rI C fun i j => .int (g i j))) : OpD X f (d2 (int2 g) (intC C)) :=
  OpR.imp h fun v w H Q ⟨x, y, M, DQ, r, g1, g2, ⟨z, e, c, q⟩, k⟩ => by
    obtain ⟨i, j, rfl, rfl, rfl⟩ := int2_some e
    cases g1; cases g2
    exact ⟨i, j, rfl, rfl, c, ret k r (.int _) q⟩
theorem od_int0 {f : Value → Value → Sem Value} {g : Int → Int → Int} (h : OpR X f (rI0 fun i j => .int (g i j))) : OpD X f (d2 (int2 g) noC) :=
  OpR.imp h fun v w H Q ⟨x, y, M, DQ, r, g1, g2, ⟨z, e, c, q⟩, k⟩ => by
    obtain ⟨i, j, rfl, rfl, rfl⟩ := int2_some e
    cases g1; cases g2
    exact ⟨i, j, rfl, rfl, ret k r (.int _) q⟩
theorem od_bool0 {f : Value → Value → Sem Value} {g : Int → Int → Bool} (h : OpR X f (rI0 fun i j => .bl (g i j))) : OpD X f (d2 (cmp2 g) noC) :=
  OpR.imp h fun v w H Q ⟨x, y, M, DQ, r, g1, g2, ⟨z, e, c, q⟩, k⟩ => by
    obtain ⟨i, j, rfl, rfl, rfl⟩ := cmp2_some e
    cases g1; cases g2
    exact ⟨i, j, rfl, rfl, ret k r (.bl _) q⟩
theorem od_sub : OpD X (binaryOp .Sub) dSub := od_int0 op_sub
theorem od_fdiv : OpD X (binaryOp .FloorDiv) dFdiv := od_int op_fdiv
theorem od_mod : OpD X (binaryOp .Mod) dMod := od_int op_mod
theorem od_pow : OpD X (binaryOp .Pow) dPow := od_int op_pow
def dIAdd : D2 := d2 (int2 fun i j => i + j) noC
theorem oi_add : OpD X (inplaceOp .Add) dIAdd := od_int0 iop_add
theorem oi_sub : OpD X (inplaceOp .Sub) dSub := od_int0 iop_sub
/-- a product of two numbers, of a list and a number, of a tuple and a number -/
def mulV (M : Mp) : D → D → Option D
  | .int i, .int j => some (.int (i * j))
  | .tup xs, .int k => some (.tup (List.replicate k.toNat xs).flatten)
  | x, .int k => (lw M x).map fun xs => .lst (List.replicate k.toNat xs).flatten
  | _, _ => none
def mulC (M : Mp) : D → D → Prop
  | .int i, .int j => CMul i j
  | .tup xs, .int k => xs ≠ [] ∧ 2 ≤ k ∧ k ≤ 1000 ∧ xs.length ≤ 1000
  | x, .int k => -(2 ^ 63) ≤ k ∧ k < 2 ^ 63 ∧ ((lw M x).getD []).length * k.toNat ≤ sizeLine
  | _, _ => True
def dMul : D2 := fun x y M Q => ∃ z, mulV M x y = some z ∧ mulC M x y ∧ Q z M
theorem DvAll.flat {R : Rx} {M : Mp} {H : Hp} {vs : List V} {xs : List D} (h : DvAll R M H vs xs) : ∀ n : Nat, DvAll R M H (List.replicate n vs).flatten (List.replicate n xs).flatten
  | 0 => by simp only [List.replicate_zero, List.flatten_nil]; exact .nil
  | n + 1 => by simp only [List.replicate_succ, List.flatten_cons]; exact h.append (DvAll.flat h n)
theorem od_mul : OpD X (binaryOp .Mult) dMul := by
  refine OpR.imp ((op_mul.or op_repT).or op_rep) fun v w H Q ⟨x, y, M, DQ, r, g1, g2, ⟨z, e, c, q⟩, k⟩ => ?_
  cases y with
  | int j =>
    have gen : ((lw M x).map fun xs => D.lst (List.replicate j.toNat xs).flatten) = some z → (-(2 ^ 63) ≤ j ∧ j < 2 ^ 63 ∧ ((lw M x).getD []).length * j.toNat ≤ sizeLine) → rRep v w H Q := fun e c => by
      cases e1 : lw M x with
      | none => rw [e1] at e; cases e
      | some xs =>
        rw [e1] at e c
        obtain ⟨a, vs, rfl, h1, z1⟩ := lw_sound r g1 e1
        cases e; cases g2
        refine ⟨a, j, vs, rfl, rfl, h1, c.1, c.2.1, by rw [z1.length]; exact c.2.2, fun p hp => ?_⟩
        obtain ⟨r1, d1⟩ := new_lst r hp (z1.flat j.toNat)
        exact k _ _ _ _ (Fr.laid hp) r1 d1 q
    cases x with
    | int i => cases e; cases g1; cases g2; exact .inl (.inl ⟨i, j, rfl, rfl, c, ret k r (.int _) q⟩)
    | tup xs =>
      cases e; cases g2
      obtain ⟨a, vs, rfl, h1, z1⟩ := g1.sqt
      obtain ⟨c1, c2, c3, c4⟩ := (show xs ≠ [] ∧ 2 ≤ j ∧ j ≤ 1000 ∧ xs.length ≤ 1000 from c)
      refine .inl (.inr ⟨a, j, vs, rfl, rfl, h1, fun e => c1 ?_, c2, c3, by rw [z1.length]; exact c4, fun p hp => ?_⟩)
      · subst e; cases z1; rfl
      · obtain ⟨r1, d1⟩ := new_tup r hp (z1.flat j.toNat)
        exact k _ _ _ _ (Fr.laid hp) r1 d1 q
    | _ => exact .inr (gen e c)
  | _ => cases x <;> cases e
end

/-! ### comparisons -/
section
variable {X : Cx}
def dLt : D2 := d2 (cmp2 fun i j => decide (i < j)) noC
def dLe : D2 := d2 (cmp2 fun i j => decide (i ≤ j)) noC
def dGt : D2 := d2 (cmp2 fun i j => decide (j < i)) noC
def dGe : D2 := d2 (cmp2 fun i j => decide (j ≤ i)) noC
theorem od_lt : OpD X (compareOp .Lt) dLt := od_bool0 op_lt
theorem od_le : OpD X (compareOp .LtE) dLe := od_bool0 op_le
theorem od_gt : OpD X (compareOp .Gt) dGt := od_bool0 op_gt
theorem od_ge : OpD X (compareOp .GtE) dGe := od_bool0 op_ge
end
mutual
/-- data without bools and without things that change, to a depth -/
def D.ok : Nat → D → Bool
  | _, .non => true
  | _, .int _ => true
  | _, .str x => PyData.strOk x
  | n + 1, .tup xs => D.okAll n xs
  | n + 1, .lst xs => D.okAll n xs
  | _, _ => false
def D.okAll : Nat → List D → Bool
  | _, [] => true
  | n, x :: xs => D.ok n x && D.okAll n xs
end
mutual
def D.pd : D → PyData
  | .int i => .int i
  | .str x => .str x
  | .tup xs => .tuple (D.pdAll xs)
  | .lst xs => .list (D.pdAll xs)
  | .bl b => .bool b
  | _ => .none
def D.pdAll : List D → List PyData
  | [] => []
  | x :: xs => D.pd x :: D.pdAll xs
end
mutual
theorem D.pd_lay : ∀ (n : Nat) (x : D), D.ok n x = true → (D.pd x).canLay0 = true ∧ (D.pd x).depth ≤ n
  | _, .non, _ => ⟨rfl, Nat.zero_le _⟩
  | _, .int _, _ => ⟨rfl, Nat.zero_le _⟩
  | n, .str x, h => ⟨by cases n <;> exact h, Nat.zero_le _⟩
  | n + 1, .tup xs, h => let ⟨a, b⟩ := D.pdAll_lay n xs h; ⟨a, Nat.succ_le_succ b⟩
  | n + 1, .lst xs, h => let ⟨a, b⟩ := D.pdAll_lay n xs h; ⟨a, Nat.succ_le_succ b⟩
  | 0, .tup xs, h => by cases h
  | 0, .lst xs, h => by cases h
  | n, .bl b, h => by cases n <;> cases h
  | n, .ty b, h => by cases n <;> cases h
  | n, .ref b, h => by cases n <;> cases h
  | n, .dct b c, h => by cases n <;> cases h
theorem D.pdAll_lay : ∀ (n : Nat) (xs : List D), D.okAll n xs = true → PyData.canLayAll0 (D.pdAll xs) = true ∧ PyData.depthAll (D.pdAll xs) ≤ n
  | _, [], _ => ⟨rfl, Nat.zero_le _⟩
  | n, x :: xs, h => by
    have h : (D.ok n x && D.okAll n xs) = true := h
    rw [Bool.and_eq_true] at h
    obtain ⟨a, b⟩ := D.pd_lay n x h.1
    obtain ⟨c, d⟩ := D.pdAll_lay n xs h.2
    refine ⟨?_, ?_⟩
    · show (PyData.canLay0 (D.pd x) && PyData.canLayAll0 (D.pdAll xs)) = true
      rw [a, c]; rfl
    · show max (PyData.depth (D.pd x)) (PyData.depthAll (D.pdAll xs)) ≤ n
      exact Nat.max_le.mpr ⟨b, d⟩
end
mutual
theorem D.eqv_ok : ∀ (n m : Nat) (x y : D), D.ok n x = true → D.ok m y = true → PyData.eqv (D.pd x) (D.pd y) = decide (x = y)
  | n, m, .non, y, _, h => by
    cases y <;> first
      | (cases m <;> cases h; done)
      | simp [D.pd, PyData.eqv]
      | (cases m <;> simp [D.ok] at h)
  | n, m, .int i, y, _, h => by
    cases y <;> first
      | (cases m <;> cases h; done)
      | (simp only [D.pd, PyData.eqv, D.int.injEq]; exact Bool.beq_eq_decide_eq _ _)
      | simp [D.pd, PyData.eqv]
      | (cases m <;> simp [D.ok] at h)
  | n, m, .str i, y, _, h => by
    cases y <;> first
      | (cases m <;> cases h; done)
      | (simp only [D.pd, PyData.eqv, D.str.injEq]; rw [Bool.eq_iff_iff]; simp; done)
      | simp [D.pd, PyData.eqv]
      | (cases m <;> simp [D.ok] at h)
  | n + 1, m, .tup xs, y, g, h => by
    cases y with
    | tup ys =>
      cases m with
      | zero => cases h
      | succ m =>
        have := D.eqvAll_ok n m xs ys g h
        simp only [D.pd, PyData.eqv, D.tup.injEq]; exact this
    | _ => first
      | (cases m <;> cases h; done)
      | simp [D.pd, PyData.eqv]
      | (cases m <;> simp [D.ok] at h)
  | n + 1, m, .lst xs, y, g, h => by
    cases y with
    | lst ys =>
      cases m with
      | zero => cases h
      | succ m =>
        have := D.eqvAll_ok n m xs ys g h
        simp only [D.pd, PyData.eqv, D.lst.injEq]; exact this
    | _ => first
      | (cases m <;> cases h; done)
      | simp [D.pd, PyData.eqv]
      | (cases m <;> simp [D.ok] at h)
  | 0, _, .tup xs, _, h, _ => by cases h
  | 0, _, .lst xs, _, h, _ => by cases h
  | n, _, .bl b, _, h, _ => by cases n <;> cases h
  | n, _, .ty b, _, h, _ => by cases n <;> cases h
  | n, _, .ref b, _, h, _ => by cases n <;> cases h
  | n, _, .dct b c, _, h, _ => by cases n <;> cases h
theorem D.eqvAll_ok : ∀ (n m : Nat) (xs ys : List D), D.okAll n xs = true → D.okAll m ys = true → PyData.eqvAll (D.pdAll xs) (D.pdAll ys) = decide (xs = ys)
  | _, _, [], [], _, _ => by simp [D.pdAll, PyData.eqvAll]
  | _, _, [], y :: ys, _, _ => by simp [D.pdAll, PyData.eqvAll]
  | _, _, x :: xs, [], _, _ => by simp [D.pdAll, PyData.eqvAll]
  | n, m, x :: xs, y :: ys, g, h => by
    have g : (D.ok n x && D.okAll n xs) = true := g
    have h : (D.ok m y && D.okAll m ys) = true := h
    rw [Bool.and_eq_true] at g h
    have a := D.eqv_ok n m x y g.1 h.1
    have b := D.eqvAll_ok n m xs ys g.2 h.2
    simp only [D.pdAll, PyData.eqvAll, a, b]
    rw [Bool.eq_iff_iff]
    simp
end
section
variable {R : Rx} {M : Mp} {H : Hp}
mutual
theorem Dv.dp : ∀ (n : Nat) (x : D) (v : V), Dv R M H v x → D.ok n x = true → Dp R.K H v (D.pd x)
  | _, .non, _, g, _ => by cases g; exact .non
  | _, .int i, _, g, _ => by cases g; exact .int i
  | _, .str x, _, g, _ => by cases g; exact .str x
  | n + 1, .tup xs, _, g, h => by
    obtain ⟨a, vs, rfl, q, z⟩ := g.sqt
    exact .tup q (DvAll.dp n xs vs z h)
  | n + 1, .lst xs, _, g, h => by
    obtain ⟨a, vs, rfl, q, z⟩ := g.sql
    exact .lst q (DvAll.dp n xs vs z h)
  | 0, .tup xs, _, _, h => by cases h
  | 0, .lst xs, _, _, h => by cases h
  | n, .bl b, _, _, h => by cases n <;> cases h
  | n, .ty b, _, _, h => by cases n <;> cases h
  | n, .ref b, _, _, h => by cases n <;> cases h
  | n, .dct b c, _, _, h => by cases n <;> cases h
theorem DvAll.dp : ∀ (n : Nat) (xs : List D) (vs : List V), DvAll R M H vs xs → D.okAll n xs = true → DpAll R.K H vs (D.pdAll xs)
  | _, [], _, g, _ => by cases g; exact .nil
  | n, x :: xs, _, g, h => by
    have h : (D.ok n x && D.okAll n xs) = true := h
    rw [Bool.and_eq_true] at h
    cases g with
    | cons a b => exact .cons (Dv.dp n x _ a h.1) (DvAll.dp n xs _ b h.2)
end
end
/-- a list that may change is looked at as it stands -/
def rsO (x : D) : Option MO → D
  | some (.lst xs) => .lst xs
  | some (.fro xs) => .lst xs
  | _ => x
def rs (M : Mp) : D → D
  | .ref a => rsO (.ref a) (M a)
  | x => x
theorem rs_dp {R : Rx} {M : Mp} {H : Hp} {v : V} {x : D} (r : Rel R M H) (g : Dv R M H v x) {n : Nat} (h : D.ok n (rs M x) = true) : Dp R.K H v (D.pd (rs M x)) := by
  cases x with
  | ref a =>
    have h : D.ok n (rsO (.ref a) (M a)) = true := h
    show Dp R.K H v (D.pd (rsO (.ref a) (M a)))
    have key : ∀ xs, lv M (.ref a) = some xs → rsO (.ref a) (M a) = .lst xs → Dp R.K H v (D.pd (rsO (.ref a) (M a))) := fun xs e1 e2 => by
      obtain ⟨b, vs, rfl, q, z⟩ := lv_sound r g e1
      rw [e2] at h ⊢
      cases n with
      | zero => cases h
      | succ n => exact .lst q (DvAll.dp n xs vs z h)
    cases e : M a with
    | none => rw [e] at h; cases n <;> cases h
    | some o =>
      cases o with
      | lst xs => rw [← e]; exact key xs (by show lvO (M a) = _; rw [e]; rfl) (by rw [e]; rfl)
      | fro xs => rw [← e]; exact key xs (by show lvO (M a) = _; rw [e]; rfl) (by rw [e]; rfl)
      | dct _ _ => rw [e] at h; cases n <;> cases h
      | ins _ _ => rw [e] at h; cases n <;> cases h
  | _ => exact Dv.dp n _ v g h
/-- x == y: data without bools, or two bools -/
def cmpOk (M : Mp) : D → D → Prop
  | .bl _, .bl _ => True
  | x, y => D.ok 60 (rs M x) = true ∧ D.ok 60 (rs M y) = true
def dEq : D2 := fun x y M Q => cmpOk M x y ∧ Q (.bl (decide (rs M x = rs M y))) M
def dNe : D2 := fun x y M Q => cmpOk M x y ∧ Q (.bl (!decide (rs M x = rs M y))) M
section
variable {X : Cx}
theorem eq_cases {R : Rx} {M : Mp} {H : Hp} {v w : V} {x y : D} (r : Rel R M H) (g1 : Dv R M H v x) (g2 : Dv R M H w y) (c : cmpOk M x y) :
    (∃ a b : Bool, v = .bl a ∧ w = .bl b ∧ x = .bl a ∧ y = .bl b) ∨ (Dp R.K H v (D.pd (rs M x)) ∧ Dp R.K H w (D.pd (rs M y)) ∧ SeqAt.shaped (D.pd (rs M x)) = true ∧ SeqAt.shaped (D.pd (rs M y)) = true ∧ PyData.eqv (D.pd (rs M x)) (D.pd (rs M y)) = decide (rs M x = rs M y)) := by
  have gen : D.ok 60 (rs M x) = true → D.ok 60 (rs M y) = true → (Dp R.K H v (D.pd (rs M x)) ∧ Dp R.K H w (D.pd (rs M y)) ∧ SeqAt.shaped (D.pd (rs M x)) = true ∧ SeqAt.shaped (D.pd (rs M y)) = true ∧ PyData.eqv (D.pd (rs M x)) (D.pd (rs M y)) = decide (rs M x = rs M y)) := fun a b => by
    refine ⟨rs_dp r g1 a, rs_dp r g2 b, ?_, ?_, D.eqv_ok _ _ _ _ a b⟩
    · obtain ⟨p, q⟩ := D.pd_lay _ _ a
      unfold SeqAt.shaped; rw [p]; exact decide_eq_true (Nat.le_trans q (by decide))
    · obtain ⟨p, q⟩ := D.pd_lay _ _ b
      unfold SeqAt.shaped; rw [p]; exact decide_eq_true (Nat.le_trans q (by decide))
  cases x with
  | bl a =>
    cases y with
    | bl b => cases g1; cases g2; exact .inl ⟨a, b, rfl, rfl, rfl, rfl⟩
    | _ => exact .inr (gen c.1 c.2)
  | _ => exact .inr (gen c.1 c.2)
theorem od_eq {k : Nat} (hr : Room k X.A) : OpD X (compareOp .Eq) dEq := by
  refine OpR.imp (op_eq.or (op_eqD hr.units)) fun v w H Q ⟨x, y, M, DQ, r, g1, g2, ⟨c, q⟩, k⟩ => ?_
  rcases eq_cases r g1 g2 c with ⟨a, b, rfl, rfl, rfl, rfl⟩ | ⟨p1, p2, s1, s2, e⟩
  · refine .inl ⟨rfl, ?_⟩
    have e : decide (V.bl a = V.bl b) = decide (rs M (.bl a) = rs M (.bl b)) := by simp [rs]
    rw [e]
    exact ret k r (.bl _) q
  · exact .inr ⟨_, _, p1, p2, s1, s2, by rw [e]; exact ret k r (.bl _) q⟩
theorem od_ne {k : Nat} (hr : Room k X.A) : OpD X (compareOp .NotEq) dNe := by
  refine OpR.imp (op_ne.or (op_neD hr.units)) fun v w H Q ⟨x, y, M, DQ, r, g1, g2, ⟨c, q⟩, k⟩ => ?_
  rcases eq_cases r g1 g2 c with ⟨a, b, rfl, rfl, rfl, rfl⟩ | ⟨p1, p2, s1, s2, e⟩
  · refine .inl ⟨rfl, ?_⟩
    have e : decide (V.bl a = V.bl b) = decide (rs M (.bl a) = rs M (.bl b)) := by simp [rs]
    rw [e]
    exact ret k r (.bl _) q
  · exact .inr ⟨_, _, p1, p2, s1, s2, by rw [e]; exact ret k r (.bl _) q⟩
/-- is None, is True, is False -/
def D.isN : D → Bool
  | .non => true
  | _ => false
def isV : D → D → Option Bool
  | .bl a, .bl b => some (decide (a = b))
  | x, .non => some x.isN
  | _, _ => none
def dIs : D2 := fun x y M Q => ∃ b, isV x y = some b ∧ Q (.bl b) M
def dIsNot : D2 := fun x y M Q => ∃ b, isV x y = some b ∧ Q (.bl (!b)) M
theorem is_cases {R : Rx} {M : Mp} {H : Hp} {v w : V} {x y : D} {b : Bool} (g1 : Dv R M H v x) (g2 : Dv R M H w y) (h : isV x y = some b) :
    (∃ a c : Bool, v = .bl a ∧ w = .bl c ∧ b = decide (a = c)) ∨ (w = .non ∧ b = decide (v = .non)) := by
  have gen : y = .non → isV x .non = some b → (w = .non ∧ b = decide (v = .non)) := fun e h => by
    subst e
    cases g2
    refine ⟨rfl, ?_⟩
    have e : x.isN = b := by cases x <;> exact Option.some.inj h
    rw [← e]
    cases g1 <;> simp [D.isN]
  cases y with
  | non => exact .inr (gen rfl h)
  | bl c => cases x with
    | bl a => cases h; cases g1; cases g2; exact .inl ⟨a, c, rfl, rfl, rfl⟩
    | _ => cases h
  | _ => cases x <;> cases h
theorem od_is : OpD X (compareOp .Is) dIs := by
  refine OpR.imp (op_isBl.or op_isN) fun v w H Q ⟨x, y, M, DQ, r, g1, g2, ⟨b, e, q⟩, k⟩ => ?_
  rcases is_cases g1 g2 e with ⟨a, c, rfl, rfl, rfl⟩ | ⟨rfl, rfl⟩
  · exact .inl ⟨a, c, rfl, rfl, ret k r (.bl _) q⟩
  · exact .inr ⟨rfl, ret k r (.bl _) q⟩
theorem od_isNot : OpD X (compareOp .IsNot) dIsNot := by
  refine OpR.imp (op_notBl.or op_notN) fun v w H Q ⟨x, y, M, DQ, r, g1, g2, ⟨b, e, q⟩, k⟩ => ?_
  rcases is_cases g1 g2 e with ⟨a, c, rfl, rfl, rfl⟩ | ⟨rfl, rfl⟩
  · exact .inl ⟨a, c, rfl, rfl, ret k r (.bl _) q⟩
  · exact .inr ⟨rfl, ret k r (.bl _) q⟩
/-- x in xs: numbers and texts in a tuple; data in a list -/
def D.flat : D → Bool
  | .int _ => true
  | .str _ => true
  | .non => true
  | _ => false
def inC (M : Mp) : D → D → Prop
  | x, .tup ys => D.flat x = true ∧ ys.all D.flat = true
  | x, y => D.ok 60 x = true ∧ D.ok 60 (.lst ((lv M y).getD [])) = true
def dIn : D2 := fun x y M Q => ∃ ys, sv M y = some ys ∧ inC M x y ∧ Q (.bl (decide (x ∈ ys))) M
def dNotIn : D2 := fun x y M Q => ∃ ys, sv M y = some ys ∧ inC M x y ∧ Q (.bl (!decide (x ∈ ys))) M
theorem Dv.flat {R : Rx} {M : Mp} {H : Hp} {v : V} {x : D} (g : Dv R M H v x) (h : D.flat x = true) : flatV v = true := by
  cases x <;> first | (cases g; rfl) | cases h
theorem DvAll.flatV {R : Rx} {M : Mp} {H : Hp} : ∀ {vs : List V} {xs : List D}, DvAll R M H vs xs → xs.all D.flat = true → vs.all L2.flatV = true
  | _, _, .nil, _ => rfl
  | _, _, .cons a b, h => by
    rw [List.all_cons, Bool.and_eq_true] at h ⊢
    exact ⟨a.flat h.1, b.flatV h.2⟩
theorem Dv.eqV {R : Rx} {M : Mp} {H : Hp} {v w : V} {x y : D} (g1 : Dv R M H v x) (g2 : Dv R M H w y) (h1 : D.flat x = true) (h2 : D.flat y = true) : L2.eqV w v = decide (x = y) := by
  cases x <;> first
    | (cases h1; done)
    | (cases y <;> first
      | (cases h2; done)
      | (cases g1; cases g2; simp [L2.eqV]; done)
      | (cases g1; cases g2; simp only [L2.eqV, D.int.injEq, D.str.injEq]; rw [Bool.eq_iff_iff]; simp only [beq_iff_eq, decide_eq_true_eq]; exact ⟨Eq.symm, Eq.symm⟩))
theorem DvAll.inV {R : Rx} {M : Mp} {H : Hp} {v : V} {x : D} (g : Dv R M H v x) (h : D.flat x = true) : ∀ {vs : List V} {xs : List D}, DvAll R M H vs xs → xs.all D.flat = true → L2.inV v vs = decide (x ∈ xs)
  | _, _, .nil, _ => by simp [L2.inV]
  | _, _, .cons a b, q => by
    rw [List.all_cons, Bool.and_eq_true] at q
    have ih := DvAll.inV g h b q.2
    have e := Dv.eqV g a h q.1
    show (L2.eqV _ _ || L2.inV v _) = _
    rw [ih, e, Bool.eq_iff_iff]
    simp only [List.mem_cons, Bool.or_eq_true, decide_eq_true_eq]
theorem any_eqv {x : D} (h : D.ok 60 x = true) : ∀ {xs : List D}, D.okAll 59 xs = true → ((D.pdAll xs).any fun z => PyData.eqv z (D.pd x)) = decide (x ∈ xs)
  | [], _ => by simp [D.pdAll]
  | y :: ys, q => by
    have q : (D.ok 59 y && D.okAll 59 ys) = true := q
    rw [Bool.and_eq_true] at q
    show (PyData.eqv (D.pd y) (D.pd x) || (D.pdAll ys).any fun z => PyData.eqv z (D.pd x)) = _
    rw [any_eqv h q.2, D.eqv_ok _ _ _ _ q.1 h, Bool.eq_iff_iff]
    simp only [List.mem_cons, Bool.or_eq_true, decide_eq_true_eq]
    exact ⟨fun z => z.imp Eq.symm id, fun z => z.imp Eq.symm id⟩
theorem in_cases {R : Rx} {M : Mp} {H : Hp} {v w : V} {x y : D} {ys : List D} (r : Rel R M H) (g1 : Dv R M H v x) (g2 : Dv R M H w y) (e : sv M y = some ys) (c : inC M x y) :
    (∃ p xs, w = .ref p ∧ SqT R.K H p xs ∧ flatV v = true ∧ xs.all flatV = true ∧ L2.inV v xs = decide (x ∈ ys)) ∨
    (∃ d ds, Dp R.K H v d ∧ Dp R.K H w (.list ds) ∧ SeqAt.shaped d = true ∧ SeqAt.shaped (.list ds) = true ∧ (ds.any fun z => PyData.eqv z d) = decide (x ∈ ys)) := by
  have gen : lv M y = some ys → (D.ok 60 x = true ∧ D.ok 60 (.lst ((lv M y).getD [])) = true) → (∃ d ds, Dp R.K H v d ∧ Dp R.K H w (.list ds) ∧ SeqAt.shaped d = true ∧ SeqAt.shaped (.list ds) = true ∧ (ds.any fun z => PyData.eqv z d) = decide (x ∈ ys)) := fun e c => by
    rw [e] at c
    obtain ⟨c1, c2⟩ := c
    obtain ⟨a, vs, rfl, q, z⟩ := lv_sound r g2 e
    have c3 : D.okAll 59 ys = true := c2
    refine ⟨D.pd x, D.pdAll ys, Dv.dp _ _ _ g1 c1, .lst q (DvAll.dp _ _ _ z c3), ?_, ?_, any_eqv c1 c3⟩
    · obtain ⟨p, q⟩ := D.pd_lay _ _ c1
      unfold SeqAt.shaped; rw [p]; exact decide_eq_true (Nat.le_trans q (by decide))
    · obtain ⟨p, q⟩ := D.pd_lay _ _ c2
      have p : PyData.canLay0 (.list (D.pdAll ys)) = true := p
      have q : PyData.depth (.list (D.pdAll ys)) ≤ 60 := q
      unfold SeqAt.shaped; rw [p]; exact decide_eq_true (Nat.le_trans q (by decide))
  cases y with
  | tup zs =>
    cases e
    obtain ⟨a, vs, rfl, q, z⟩ := g2.sqt
    exact .inl ⟨a, vs, rfl, q, g1.flat c.1, z.flatV c.2, z.inV g1 c.1 c.2⟩
  | lst zs => exact .inr (gen e c)
  | ref a => exact .inr (gen e c)
  | lsk a => exact .inr (gen e c)
  | _ => cases e
theorem hu65 {k : Nat} (hr : Room (k + 1) X.A) : X.A.units + 65 < cLine := by have := hr.un; omega
theorem od_in {k : Nat} (hr : Room (k + 1) X.A) : OpD X (compareOp .In) dIn := by
  refine OpR.imp (op_in_seq.or (op_inD (hu65 hr))) fun v w H Q ⟨x, y, M, DQ, r, g1, g2, ⟨ys, e, c, q⟩, k⟩ => ?_
  rcases in_cases r g1 g2 e c with ⟨p, xs, rfl, h1, h2, h3, h4⟩ | ⟨d, ds, h1, h2, h3, h4, h5⟩
  · refine .inl ⟨p, xs, rfl, .inr h1, h2, h3, ?_⟩
    rw [if_neg Bool.false_ne_true, h4]
    exact ret k r (.bl _) q
  · exact .inr ⟨d, ds, h1, h2, h3, h4, by rw [h5]; exact ret k r (.bl _) q⟩
theorem od_notIn {k : Nat} (hr : Room (k + 1) X.A) : OpD X (compareOp .NotIn) dNotIn := by
  refine OpR.imp (op_notIn_seq.or (op_notInD (hu65 hr))) fun v w H Q ⟨x, y, M, DQ, r, g1, g2, ⟨ys, e, c, q⟩, k⟩ => ?_
  rcases in_cases r g1 g2 e c with ⟨p, xs, rfl, h1, h2, h3, h4⟩ | ⟨d, ds, h1, h2, h3, h4, h5⟩
  · refine .inl ⟨p, xs, rfl, .inr h1, h2, h3, ?_⟩
    rw [if_pos rfl, h4]
    exact ret k r (.bl _) q
  · exact .inr ⟨d, ds, h1, h2, h3, h4, by rw [h5]; exact ret k r (.bl _) q⟩
end
end DL

/-! Subscripts, slices, calls over data. -/
namespace DL
open PySem PySem.Spec PyProof.Rows L2

/-! ### subscripts -/
theorem DvAll.at {R : Rx} {M : Mp} {H : Hp} {vs : List V} {xs : List D} {i : Int} {z : D} (g : DvAll R M H vs xs) (h : atI xs i = some z) : ∃ v, atI vs i = some v ∧ Dv R M H v z := by
  unfold atI at h ⊢
  rw [g.length]
  cases e : ixN xs.length i with
  | none => rw [e] at h; cases h
  | some j =>
    rw [e] at h
    obtain ⟨v, h1, h2⟩ := g.get' (i := j) (d := z) h
    exact ⟨v, h1, h2⟩
def ixV (M : Mp) : D → D → Option D
  | x, .int i => (sv M x).bind fun xs => atI xs i
  | _, _ => none
def dIxV : D2 := d2 ixV noC
def dIx (da db : DT) : DT := dOp dIxV da db
section
variable {X : Cx} {G : Gx} {a b : Expr} {da db : DT} {pos : Pos}
theorem de_ix (ha : DE X G a da) (hb : DE X G b db) (hs : PlainIx b := by intro _ _; rfl) : DE X G (.Subscript a b pos) (dIx da db) :=
  PE.imp (pe_ix (ix_list.or ix_tup) ha hb hs) fun σ H Q h => dOp_sound (rd := dIxV) (fun v w H Q ⟨x, y, M, DQ, r, g1, g2, ⟨z, e, _, q⟩, k⟩ => by
    cases y with
    | int i =>
      cases g2
      have e : (sv M x).bind (fun xs => atI xs i) = some z := by cases x <;> exact e
      cases e1 : sv M x with
      | none => rw [e1] at e; cases e
      | some xs =>
        rw [e1] at e
        obtain ⟨p, vs, rfl, sq, z1⟩ := sv_sound r g1 e1
        obtain ⟨u, h1, h2⟩ := z1.at (show atI xs i = some z from e)
        rcases sq with sq | sq
        · exact .inl ⟨p, vs, i, u, rfl, rfl, sq, h1, ret k r h2 q⟩
        · exact .inr ⟨p, vs, i, u, rfl, rfl, sq, h1, ret k r h2 q⟩
    | _ => cases x <;> cases e) h
end
/-! ### slices -/
def cutD (xs : List D) (lo hi : Option Int) : List D := (xs.drop (HT.sIx xs.length 0 lo)).take (HT.sIx xs.length xs.length hi - HT.sIx xs.length 0 lo)
theorem DvAll.cut {R : Rx} {M : Mp} {H : Hp} {vs : List V} {xs : List D} (g : DvAll R M H vs xs) (lo hi : Option Int) : DvAll R M H (cutV vs lo hi) (cutD xs lo hi) := by
  unfold cutV cutD
  rw [g.length]
  exact (g.drop _).take _
abbrev DPn := Rh → Mp → (Option Int → Mp → Prop) → Prop
def tPt (R : Rx) (G : Gx) (d : DPn) : TO := fun σ H Q => ∃ (ρ : Rh) (M : Mp) (DQ : Option Int → Mp → Prop), Sr R G ρ M σ H ∧ d ρ M DQ ∧ ∀ o M' H', Fr M H M' H' → Rel R M' H' → DQ o M' → Q o H'
abbrev DPo (X : Cx) (G : Gx) (e : Option Expr) (d : DPn) : Prop := PO X e (tPt (rx X) G d)
theorem PO.imp {X : Cx} {e : Option Expr} {t t' : TO} (h : PO X e t) (i : ∀ σ H Q, t' σ H Q → t σ H Q) : PO X e t' := ⟨fun pins s σ H Q I q => h.run pins s σ H Q I (i σ H Q q)⟩
def dNo : DPn := fun _ M Q => Q none M
def dPart (d : DT) : DPn := fun ρ M Q => d ρ M fun x M1 => ∃ i, x = .int i ∧ Q (some i) M1
/-- a slice of a list, a tuple -/
def cutM (M : Mp) (lo hi : Option Int) : D → Option D
  | .tup xs => some (.tup (cutD xs lo hi))
  | x => (lv M x).map fun xs => .lst (cutD xs lo hi)
def dSl (d : DT) (lo hi : DPn) : DT := fun ρ M Q => d ρ M fun x M1 => lo ρ M1 fun l M2 => hi ρ M2 fun u M3 => ∃ z, cutM M3 l u x = some z ∧ Q z M3
section
variable {X : Cx} {G : Gx} {e : Expr} {d : DT} {lo hi : Option Expr} {dl dh : DPn} {pos p2 : Pos}
theorem dp_none : DPo X G none dNo := PO.imp po_none fun σ H Q ⟨ρ, M, DQ, s, h, k⟩ => k _ _ _ Fr.refl s.mem h
theorem dp_some {e : Expr} (h : DE X G e d) : DPo X G (some e) (dPart d) := PO.imp (po_some h) fun σ H Q ⟨ρ, M, DQ, s, h, k⟩ => tE.of s h fun x M1 v H1 f s1 g ⟨i, e, q⟩ => by
  subst e; cases g
  exact ⟨i, rfl, k _ _ _ f s1.mem q⟩
theorem tPt.of {R : Rx} {ρ : Rh} {M : Mp} {σ : L2.St} {H : Hp} {d : DPn} {DQ : Option Int → Mp → Prop} {Q : Option Int → Hp → Prop} (s : Sr R G ρ M σ H) (h : d ρ M DQ) (k : ∀ o M' H', Fr M H M' H' → Sr R G ρ M' σ H' → DQ o M' → Q o H') : tPt R G d σ H Q :=
  ⟨ρ, M, DQ, s, h, fun o M' H' f r q => k o M' H' f (s.step f r) q⟩
theorem de_sl (he : DE X G e d) (hl : DPo X G lo dl) (hh : DPo X G hi dh) : DE X G (.Subscript e (.Slice lo hi none p2) pos) (dSl d dl dh) :=
  PE.imp (pe_slice (sl_list.or sl_tupA) he hl hh) fun σ H Q ⟨ρ, M, DQ, s, h, k⟩ => tE.of s h fun x M1 v H1 f1 s1 g1 q1 => tPt.of s1 q1 fun l M2 H2 f2 s2 q2 => tPt.of s2 q2 fun u M3 H3 f3 s3 ⟨z, e, q⟩ => by
    have g := (g1.fr f2).fr f3
    have k := k.step ((f1.trans f2).trans f3)
    have gen : (lv M3 x).map (fun xs => D.lst (cutD xs l u)) = some z → rSlL X.K v l u H3 Q := fun e => by
      cases e1 : lv M3 x with
      | none => rw [e1] at e; cases e
      | some xs =>
        rw [e1] at e; cases e
        obtain ⟨a, vs, rfl, sq, z1⟩ := lv_sound s3.mem g e1
        refine ⟨a, vs, rfl, sq, fun p hp => ?_⟩
        obtain ⟨r1, d1⟩ := new_lst s3.mem hp (z1.cut l u)
        exact k _ _ _ _ (Fr.laid hp) r1 d1 q
    cases x with
    | tup xs =>
      cases e
      obtain ⟨a, vs, rfl, sq, z1⟩ := g.sqt
      refine .inr ⟨a, vs, rfl, sq, fun hw => ?_, fun hw p hp => ?_⟩
      · have e : cutD xs l u = xs := by
          unfold cutD
          rw [← z1.length, hw.1, hw.2, List.drop_zero, Nat.sub_zero, z1.length, List.take_length]
        rw [e] at q
        exact ret k s3.mem g q
      · obtain ⟨r1, d1⟩ := new_tup s3.mem hp (z1.cut l u)
        exact k _ _ _ _ (Fr.laid hp) r1 d1 q
    | lst xs => exact .inl (gen e)
    | ref a => exact .inl (gen e)
    | lsk a => exact .inl (gen e)
    | _ => cases e
end

/-! ### built-in calls -/
section
variable {X : Cx} {G : Gx}
def dCB (rd : D1) (t : DA) : DT := fun ρ M Q => t ρ M fun xs M1 => rd xs M1 Q
theorem dCB_sound {R : Rx} {rd : D1} {t : DA} {σ : L2.St} {H : Hp} {Q : VK} (h : tE R G (dCB rd t) σ H Q) : tCB (vOfL R rd) (tAr R G t) σ H Q := by
  obtain ⟨ρ, M, DQ, s, h, k⟩ := h
  exact tAr.of s h fun xs M1 vs H1 f s1 g q => ⟨xs, M1, DQ, s1.mem, g, q, k.step f⟩
variable {e : Expr} {es : List Expr} {t : DA} {rd : D1} {x : Str} {p pos : Pos} {id T : String}
theorem de_callB (hc : CallD X (.builtin id) rd) (hm : X.mg x = none) (hv : bootBuiltins x = some (.builtin id)) (ha : DAr X G (e :: es) t) (hg : Gl X x := by rfl) (hn : x ≠ "__name__" := by decide) (hdb : (x == ("__debug__" : Str)) = false := by decide)
    (he : starEach (e :: es) X.env = (false, eval e X.env) :: starEach es X.env := by rfl) (hpl : (backTo pos (starEach es X.env)).any (·.1) = false := by rfl) : DE X G (.Call (.Name x p) (e :: es) [] pos) (dCB rd t) :=
  PE.imp (pe_callB hc hg hm hv ha hn hdb he hpl) fun σ H Q h => dCB_sound h
theorem de_callTy (hc : CallD X (.type T) rd) (hm : X.mg x = none) (hv : bootBuiltins x = some (.type T)) (ha : DAr X G (e :: es) t) (hg : Gl X x := by rfl) (hn : x ≠ "__name__" := by decide) (hdb : (x == ("__debug__" : Str)) = false := by decide)
    (he : starEach (e :: es) X.env = (false, eval e X.env) :: starEach es X.env := by rfl) (hpl : (backTo pos (starEach es X.env)).any (·.1) = false := by rfl) : DE X G (.Call (.Name x p) (e :: es) [] pos) (dCB rd t) :=
  PE.imp (pe_callTy hc hg hm hv ha hn hdb he hpl) fun σ H Q h => dCB_sound h
def d1 (f : Mp → D → Option D) : D1 := fun xs M Q => ∃ x z, xs = [x] ∧ f M x = some z ∧ Q z M
theorem DvAll.one {R : Rx} {M : Mp} {H : Hp} {vs : List V} {x : D} (g : DvAll R M H vs [x]) : ∃ v, vs = [v] ∧ Dv R M H v x := by
  cases g with
  | cons a b => cases b; exact ⟨_, rfl, a⟩
theorem DvAll.two {R : Rx} {M : Mp} {H : Hp} {vs : List V} {x y : D} (g : DvAll R M H vs [x, y]) : ∃ v w, vs = [v, w] ∧ Dv R M H v x ∧ Dv R M H w y := by
  cases g with
  | cons a b => cases b with
    | cons c d => cases d; exact ⟨_, _, rfl, a, c⟩
def lenV (M : Mp) (x : D) : Option D := (sv M x).map fun xs => .int xs.length
theorem cd_len : CallD X (.builtin "len") (d1 lenV) := CallR.imp call_len_seq fun vs H Q ⟨xs, M, DQ, r, g, ⟨x, z, e, e1, q⟩, k⟩ => by
  subst e
  obtain ⟨v, rfl, g1⟩ := g.one
  unfold lenV at e1
  cases e2 : sv M x with
  | none => rw [e2] at e1; cases e1
  | some xs =>
    rw [e2] at e1; cases e1
    obtain ⟨p, ys, rfl, sq, z1⟩ := sv_sound r g1 e2
    refine ⟨p, ys, rfl, sq, ?_⟩
    rw [z1.length]
    exact ret k r (.int _) q
def intV (_ : Mp) : D → Option D
  | .int i => some (.int i)
  | .bl k => some (.int (if k then 1 else 0))
  | _ => none
theorem cd_int : CallD X (.type "int") (d1 intV) := CallR.imp call_int1 fun vs H Q ⟨xs, M, DQ, r, g, ⟨x, z, e, e1, q⟩, k⟩ => by
  subst e
  obtain ⟨v, rfl, g1⟩ := g.one
  cases x with
  | int i => cases e1; cases g1; exact .inl ⟨i, rfl, ret k r (.int _) q⟩
  | bl b => cases e1; cases g1; exact .inr ⟨b, rfl, ret k r (.int _) q⟩
  | _ => cases e1
def tupV (M : Mp) (x : D) : Option D := (sv M x).map .tup
theorem cd_tuple : CallD X (.type "tuple") (d1 tupV) := CallR.imp call_tuple_of fun vs H Q ⟨xs, M, DQ, r, g, ⟨x, z, e, e1, q⟩, k⟩ => by
  subst e
  obtain ⟨v, rfl, g1⟩ := g.one
  have gen : ∀ ys, lv M x = some ys → z = .tup ys → ∃ p zs, [v] = [V.ref p] ∧ ((SqL X.K H p zs ∧ ∀ l, H l = none → Q (.ref l) (upd H l (.tup zs))) ∨ (SqT X.K H p zs ∧ Q (.ref p) H)) := fun ys e3 e2 => by
    subst e2
    obtain ⟨p, ws, rfl, sq, z1⟩ := lv_sound r g1 e3
    refine ⟨p, ws, rfl, .inl ⟨sq, fun l hl => ?_⟩⟩
    obtain ⟨r1, d1⟩ := new_tup r hl z1
    exact k _ _ _ _ (Fr.laid hl) r1 d1 q
  unfold tupV at e1
  cases x with
  | tup ys => cases e1; obtain ⟨a, ws, rfl, sq, z1⟩ := g1.sqt; exact ⟨a, ws, rfl, .inr ⟨sq, ret k r g1 q⟩⟩
  | lst ys => exact gen ys rfl (Option.some.inj e1).symm
  | lsk ys => exact gen ys rfl (Option.some.inj e1).symm
  | ref a =>
    cases e2 : lv M (.ref a) with
    | none => rw [show sv M (.ref a) = none from e2] at e1; cases e1
    | some ys => rw [show sv M (.ref a) = some ys from e2] at e1; exact gen ys e2 (Option.some.inj e1).symm
  | _ => cases e1
def lstV (M : Mp) (x : D) : Option D := (sv M x).map .lst
theorem cd_list : CallD X (.type "list") (d1 lstV) := CallR.imp call_list_of fun vs H Q ⟨xs, M, DQ, r, g, ⟨x, z, e, e1, q⟩, k⟩ => by
  subst e
  obtain ⟨v, rfl, g1⟩ := g.one
  unfold lstV at e1
  cases e2 : sv M x with
  | none => rw [e2] at e1; cases e1
  | some ys =>
    rw [e2] at e1; cases e1
    obtain ⟨p, ws, rfl, sq, z1⟩ := sv_sound r g1 e2
    refine ⟨p, ws, rfl, sq, fun l hl => ?_⟩
    obtain ⟨r1, d1⟩ := new_lst r hl z1
    exact k _ _ _ _ (Fr.laid hl) r1 d1 q
/-- list(x), a list that is then changed -/
def dListO : D1 := fun xs M Q => ∃ x ys, xs = [x] ∧ sv M x = some ys ∧ ∀ p, M p = none → Q (.ref p) (upm M p (.lst ys))
theorem cd_listO : CallD X (.type "list") dListO := CallR.imp call_list_of fun vs H Q ⟨xs, M, DQ, r, g, ⟨x, ys, e, e2, q⟩, k⟩ => by
  subst e
  obtain ⟨v, rfl, g1⟩ := g.one
  obtain ⟨p, ws, rfl, sq, z1⟩ := sv_sound r g1 e2
  exact ⟨p, ws, rfl, sq, fun l hl => k _ _ _ _ (Fr.made hl) (new_lstO r hl z1) (.ref l) (q l (r.fresh hl))⟩
def dSum : D1 := fun xs M Q => ∃ (x : D) (ns : List Int), xs = [x] ∧ lv M x = some (ns.map D.int) ∧ Q (.int ns.sum) M
theorem cd_sum (hc : X.calm = true) : CallD X (.builtin "sum") dSum := CallR.imp (cr_sum hc) fun vs H Q ⟨xs, M, DQ, r, g, ⟨x, ns, e, e2, q⟩, k⟩ => by
  subst e
  obtain ⟨v, rfl, g1⟩ := g.one
  obtain ⟨p, ws, rfl, sq, z1⟩ := lv_sound r g1 e2
  rw [z1.of_ints] at sq
  exact ⟨p, ns, rfl, sq, ret k r (.int _) q⟩
def dAll : D1 := fun xs M Q => ∃ (x : D) (bs : List Bool), xs = [x] ∧ lv M x = some (bs.map D.bl) ∧ Q (.bl (bs.all fun b => b)) M
theorem cd_all (hc : X.calm = true) : CallD X (.builtin "all") dAll := CallR.imp (cr_all hc) fun vs H Q ⟨xs, M, DQ, r, g, ⟨x, ns, e, e2, q⟩, k⟩ => by
  subst e
  obtain ⟨v, rfl, g1⟩ := g.one
  obtain ⟨p, ws, rfl, sq, z1⟩ := lv_sound r g1 e2
  rw [z1.of_bls] at sq
  exact ⟨p, ns, rfl, sq, ret k r (.bl _) q⟩
def dAny : D1 := fun xs M Q => ∃ (x : D) (bs : List Bool), xs = [x] ∧ lv M x = some (bs.map D.bl) ∧ Q (.bl (bs.any fun b => b)) M
theorem cd_any (hc : X.calm = true) : CallD X (.builtin "any") dAny := CallR.imp (cr_any hc) fun vs H Q ⟨xs, M, DQ, r, g, ⟨x, ns, e, e2, q⟩, k⟩ => by
  subst e
  obtain ⟨v, rfl, g1⟩ := g.one
  obtain ⟨p, ws, rfl, sq, z1⟩ := lv_sound r g1 e2
  rw [z1.of_bls] at sq
  exact ⟨p, ns, rfl, sq, ret k r (.bl _) q⟩
def dMax2 : D1 := fun xs M Q => ∃ i j, xs = [.int i, .int j] ∧ Q (.int (max i j)) M
def dMin2 : D1 := fun xs M Q => ∃ i j, xs = [.int i, .int j] ∧ Q (.int (min i j)) M
theorem cd_max2 (hc : X.calm = true) : CallD X (.builtin "max") dMax2 := CallR.imp (call_max2 hc) fun vs H Q ⟨xs, M, DQ, r, g, ⟨i, j, e, q⟩, k⟩ => by
  subst e
  obtain ⟨v, w, rfl, g1, g2⟩ := g.two
  cases g1; cases g2
  refine ⟨i, j, rfl, ?_⟩
  have e : (if j > i then j else i) = max i j := by omega
  rw [e]
  exact ret k r (.int _) q
theorem cd_min2 (hc : X.calm = true) : CallD X (.builtin "min") dMin2 := CallR.imp (call_min2 hc) fun vs H Q ⟨xs, M, DQ, r, g, ⟨i, j, e, q⟩, k⟩ => by
  subst e
  obtain ⟨v, w, rfl, g1, g2⟩ := g.two
  cases g1; cases g2
  refine ⟨i, j, rfl, ?_⟩
  have e : (if j < i then j else i) = min i j := by omega
  rw [e]
  exact ret k r (.int _) q
/-- the type of data -/
def tynO : Option MO → Option String
  | some (.lst _) => some "list"
  | some (.fro _) => some "list"
  | _ => none
def tyn (M : Mp) : D → Option String
  | .non => some "NoneType"
  | .bl _ => some "bool"
  | .int _ => some "int"
  | .str _ => some "str"
  | .tup _ => some "tuple"
  | .lst _ => some "list"
  | .ref a => tynO (M a)
  | _ => none
def dIsi : D1 := fun xs M Q => ∃ x n t b, xs = [x, .ty n] ∧ tyn M x = some t ∧ kitB t n = some b ∧ Q (.bl b) M
theorem tyn_sound {R : Rx} {M : Mp} {H : Hp} {v : V} {x : D} {t : String} (r : Rel R M H) (g : Dv R M H v x) (h : tyn M x = some t) : TyX R.K H v (.type t) := by
  have sql : ∀ a xs, SqL R.K H a xs → TyX R.K H (.ref a) (.type "list") := fun a xs q => by
    rcases q with (q | ⟨o, q⟩) | ⟨o, its, n, q, c, _⟩
    · exact .base (.lst q)
    · exact .base (.frz q)
    · exact .kList q c
  cases x with
  | non => cases h; cases g; exact .base .non
  | bl b => cases h; cases g; exact .base (.bl b)
  | int i => cases h; cases g; exact .base (.int i)
  | str y => cases h; cases g; exact .base (.str y)
  | tup xs =>
    cases h
    cases g with
    | tupK a b c d e g => exact .kTuple a b
    | tup h m g => exact .base (.tup h)
  | lst xs => cases h; obtain ⟨a, ys, rfl, q, _⟩ := g.sql; exact sql a ys q
  | ref a =>
    cases g
    have h : tynO (M a) = some t := h
    cases e : M a with
    | none => rw [e] at h; cases h
    | some o =>
      rw [e] at h
      cases o with
      | lst ys => cases h; obtain ⟨vs, e1, _⟩ := r a _ e; exact sql a vs (SqL.of e1)
      | fro ys => cases h; obtain ⟨vs, e1, _⟩ := r a _ e; exact sql a vs (.inl e1)
      | dct _ _ => cases h
      | ins _ _ => cases h
  | _ => cases h
theorem cd_isi : CallD X (.builtin "isinstance") dIsi := CallR.imp call_isi fun vs H Q ⟨xs, M, DQ, r, g, ⟨x, n, t, b, e, e1, e2, q⟩, k⟩ => by
  subst e
  obtain ⟨v, w, rfl, g1, g2⟩ := g.two
  cases g2
  exact ⟨v, .ty n, .type t, .type n, b, rfl, .ty n, tyn_sound r g1 e1, kit_ty e2, ret k r (.bl _) q⟩
end

/-! ### methods of lists -/
section
variable {X : Cx} {G : Gx} {o e : Expr} {es : List Expr} {d : DT} {t : DA} {apos cpos : Pos}
/-- l.append(e) -/
def dApp (d : DT) (t : DA) : DT := fun ρ M Q => d ρ M fun x M1 => ∃ p xs, x = .ref p ∧ M1 p = some (.lst xs) ∧ t ρ M1 fun ys M2 => ∃ y zs, ys = [y] ∧ M2 p = some (.lst zs) ∧ zs.length < sizeLine ∧ Q .non (upm M2 p (.lst (zs ++ [y])))
theorem Rel.lst {R : Rx} {M : Mp} {H : Hp} {p : Addr} {xs : List D} (r : Rel R M H) (h : M p = some (.lst xs)) : ∃ vs, H p = some (.lst vs) ∧ DvAll R M H vs xs := r p _ h
theorem put_lst {R : Rx} {M : Mp} {H : Hp} {p : Addr} {xs ys : List D} {vs : List V} (r : Rel R M H) (h : M p = some (.lst xs)) (g : DvAll R M H vs ys) : Rel R (upm M p (.lst ys)) (upd H p (.lst vs)) ∧ Fr M H (upm M p (.lst ys)) (upd H p (.lst vs)) := by
  have ne : M p ≠ none := by rw [h]; exact fun z => by cases z
  exact ⟨r.write ne ⟨vs, upd_same, g.fr (Fr.write ne)⟩, Fr.write ne⟩
theorem de_app (ho : DE X G o d) (ha : DAr X G (e :: es) t)
    (hbase : attributeBase o "append" X.env (eval o X.env) = eval o X.env := by rfl)
    (hfew : ((backTo cpos (starEach (e :: es) X.env)).all (fun x => !x.1) && (backToKw cpos (keywordEach [] X.env)).all (fun x => x.1.isSome)
      && decide ((e :: es).length + ([] : List Keyword).length + (if ([] : List Keyword).isEmpty then 0 else 1) < 30)) = true := by rfl)
    (hline : (apos.endLine == cpos.line) = true := by rfl) (hs : starEach (e :: es) X.env = (false, eval e X.env) :: starEach es X.env := by rfl) (hplain : (backTo cpos (starEach es X.env)).any (·.1) = false := by rfl) :
    DE X G (.Call (.Attribute o "append" apos) (e :: es) [] cpos) (dApp d t) :=
  PE.imp (pe_bm PySem.F.plainAttrs_list PySem.F.slot_list_append PySem.F.type_list_append mt_append ho ha hbase hfew hline hs hplain) fun σ H Q ⟨ρ, M, DQ, s, h, k⟩ =>
    tE.of s h fun x M1 v H1 f1 s1 g1 ⟨p, xs, e, m, q⟩ => by
      subst e; cases g1
      obtain ⟨vs, h1, _⟩ := s1.mem.lst m
      refine ⟨.inl ⟨rfl, vs, SqL.of h1⟩, tAr.of s1 q fun ys M2 ws H2 f2 s2 g2 ⟨y, zs, e, m2, hl, q2⟩ => ?_⟩
      subst e
      obtain ⟨w, rfl, g3⟩ := g2.one
      obtain ⟨us, h2, z2⟩ := s2.mem.lst m2
      refine ⟨p, us, w, rfl, rfl, h2, by rw [z2.length]; exact hl, ?_⟩
      obtain ⟨r3, f3⟩ := put_lst s2.mem m2 (z2.append (.cons g3 .nil))
      exact k _ _ _ _ ((f1.trans f2).trans f3) r3 .non q2
/-- l.extend(e): e a list -/
def dExt (d : DT) (t : DA) : DT := fun ρ M Q => d ρ M fun x M1 => ∃ p xs, x = .ref p ∧ M1 p = some (.lst xs) ∧ t ρ M1 fun ys M2 => ∃ y zs us, ys = [y] ∧ M2 p = some (.lst zs) ∧ lw M2 y = some us ∧ zs.length + us.length ≤ sizeLine ∧ Q .non (upm M2 p (.lst (zs ++ us)))
theorem de_ext (ho : DE X G o d) (ha : DAr X G (e :: es) t)
    (hbase : attributeBase o "extend" X.env (eval o X.env) = eval o X.env := by rfl)
    (hfew : ((backTo cpos (starEach (e :: es) X.env)).all (fun x => !x.1) && (backToKw cpos (keywordEach [] X.env)).all (fun x => x.1.isSome)
      && decide ((e :: es).length + ([] : List Keyword).length + (if ([] : List Keyword).isEmpty then 0 else 1) < 30)) = true := by rfl)
    (hline : (apos.endLine == cpos.line) = true := by rfl) (hs : starEach (e :: es) X.env = (false, eval e X.env) :: starEach es X.env := by rfl) (hplain : (backTo cpos (starEach es X.env)).any (·.1) = false := by rfl) :
    DE X G (.Call (.Attribute o "extend" apos) (e :: es) [] cpos) (dExt d t) :=
  PE.imp (pe_bm PySem.F.plainAttrs_list PySem.F.slot_list_extend PySem.F.type_list_extend mt_extend ho ha hbase hfew hline hs hplain) fun σ H Q ⟨ρ, M, DQ, s, h, k⟩ =>
    tE.of s h fun x M1 v H1 f1 s1 g1 ⟨p, xs, e, m, q⟩ => by
      subst e; cases g1
      obtain ⟨vs, h1, _⟩ := s1.mem.lst m
      refine ⟨.inl ⟨rfl, vs, SqL.of h1⟩, tAr.of s1 q fun ys M2 ws H2 f2 s2 g2 ⟨y, zs, us, e, m2, el, hl, q2⟩ => ?_⟩
      subst e
      obtain ⟨w, rfl, g3⟩ := g2.one
      obtain ⟨ts, h2, z2⟩ := s2.mem.lst m2
      obtain ⟨b, rs, rfl, h3, z3⟩ := lw_sound s2.mem g3 el
      refine ⟨p, b, ts, rs, rfl, rfl, h2, h3, by rw [z2.length, z3.length]; exact hl, ?_⟩
      obtain ⟨r3, f3⟩ := put_lst s2.mem m2 (z2.append z3)
      exact k _ _ _ _ ((f1.trans f2).trans f3) r3 .non q2
/-- l.pop() -/
def dPop (d : DT) : DT := fun ρ M Q => d ρ M fun x M1 => ∃ p xs y, x = .ref p ∧ M1 p = some (.lst (xs ++ [y])) ∧ Q y (upm M1 p (.lst xs))
theorem de_pop (ho : DE X G o d) (hbase : attributeBase o "pop" X.env (eval o X.env) = eval o X.env := by rfl) (hline : (apos.endLine == cpos.line) = true := by rfl) : DE X G (.Call (.Attribute o "pop" apos) [] [] cpos) (dPop d) :=
  PE.imp (pe_bm0 PySem.F.plainAttrs_list PySem.F.slot_list_pop PySem.F.type_list_pop mt_pop ho hbase hline) fun σ H Q ⟨ρ, M, DQ, s, h, k⟩ =>
    tE.of s h fun x M1 v H1 f1 s1 g1 ⟨p, xs, y, e, m, q⟩ => by
      subst e; cases g1
      obtain ⟨vs, h1, z1⟩ := s1.mem.lst m
      have hl : vs.length = xs.length + 1 := by rw [z1.length, List.length_append]; rfl
      obtain ⟨u, hu, du⟩ := z1.get' (i := xs.length) (d := y) (by simp)
      refine ⟨.inl ⟨rfl, vs, SqL.of h1⟩, p, vs, u, rfl, rfl, h1, by rw [hl, Nat.add_sub_cancel]; exact hu, ?_⟩
      have z2 : DvAll (rx X) M1 H1 vs.dropLast xs := by
        have := z1.take xs.length
        rw [List.take_append_of_le_length (Nat.le_refl _), List.take_length] at this
        rw [List.dropLast_eq_take, hl, Nat.add_sub_cancel]
        exact this
      obtain ⟨r3, f3⟩ := put_lst s1.mem m z2
      exact k _ _ _ _ (f1.trans f3) r3 (du.fr f3) q
/-- l.pop(i) -/
def dPopAt (d : DT) (t : DA) : DT := fun ρ M Q => d ρ M fun x M1 => ∃ p xs, x = .ref p ∧ M1 p = some (.lst xs) ∧ t ρ M1 fun ys M2 => ∃ zs i y, ys = [.int i] ∧ M2 p = some (.lst zs) ∧ 0 ≤ i ∧ i < 2 ^ 63 ∧ zs[i.toNat]? = some y ∧ Q y (upm M2 p (.lst (zs.eraseIdx i.toNat)))
theorem de_popAt (ho : DE X G o d) (ha : DAr X G (e :: es) t)
    (hbase : attributeBase o "pop" X.env (eval o X.env) = eval o X.env := by rfl)
    (hfew : ((backTo cpos (starEach (e :: es) X.env)).all (fun x => !x.1) && (backToKw cpos (keywordEach [] X.env)).all (fun x => x.1.isSome)
      && decide ((e :: es).length + ([] : List Keyword).length + (if ([] : List Keyword).isEmpty then 0 else 1) < 30)) = true := by rfl)
    (hline : (apos.endLine == cpos.line) = true := by rfl) (hs : starEach (e :: es) X.env = (false, eval e X.env) :: starEach es X.env := by rfl) (hplain : (backTo cpos (starEach es X.env)).any (·.1) = false := by rfl) :
    DE X G (.Call (.Attribute o "pop" apos) (e :: es) [] cpos) (dPopAt d t) :=
  PE.imp (pe_bm PySem.F.plainAttrs_list PySem.F.slot_list_pop PySem.F.type_list_pop mt_popAt ho ha hbase hfew hline hs hplain) fun σ H Q ⟨ρ, M, DQ, s, h, k⟩ =>
    tE.of s h fun x M1 v H1 f1 s1 g1 ⟨p, xs, e, m, q⟩ => by
      subst e; cases g1
      obtain ⟨vs, h1, _⟩ := s1.mem.lst m
      refine ⟨.inl ⟨rfl, vs, SqL.of h1⟩, tAr.of s1 q fun ys M2 ws H2 f2 s2 g2 ⟨zs, i, y, e, m2, i0, i1, hy, q2⟩ => ?_⟩
      subst e
      obtain ⟨w, rfl, g3⟩ := g2.one
      cases g3
      obtain ⟨us, h2, z2⟩ := s2.mem.lst m2
      obtain ⟨u, hu, du⟩ := z2.get' hy
      have hlt : i.toNat < us.length := (List.getElem?_eq_some_iff.mp hu).1
      have hk : seqIndex? i us.length = some i.toNat := PySem.StrLaws.seqIndex_nonneg i0 (by omega)
      refine ⟨p, us, i, i.toNat, u, rfl, rfl, h2, by omega, i1, hk, hu, ?_⟩
      obtain ⟨r3, f3⟩ := put_lst s2.mem m2 (z2.eraseIdx i.toNat)
      exact k _ _ _ _ ((f1.trans f2).trans f3) r3 (du.fr f3) q2
/-- l.clear() -/
def dClear (d : DT) : DT := fun ρ M Q => d ρ M fun x M1 => ∃ p xs, x = .ref p ∧ M1 p = some (.lst xs) ∧ Q .non (upm M1 p (.lst []))
theorem de_clear (ho : DE X G o d) (hbase : attributeBase o "clear" X.env (eval o X.env) = eval o X.env := by rfl) (hline : (apos.endLine == cpos.line) = true := by rfl) : DE X G (.Call (.Attribute o "clear" apos) [] [] cpos) (dClear d) :=
  PE.imp (pe_bm0 PySem.F.plainAttrs_list PySem.F.slot_list_clear PySem.F.type_list_clear mt_clear ho hbase hline) fun σ H Q ⟨ρ, M, DQ, s, h, k⟩ =>
    tE.of s h fun x M1 v H1 f1 s1 g1 ⟨p, xs, e, m, q⟩ => by
      subst e; cases g1
      obtain ⟨vs, h1, z1⟩ := s1.mem.lst m
      refine ⟨.inl ⟨rfl, vs, SqL.of h1⟩, p, vs, rfl, rfl, h1, ?_⟩
      obtain ⟨r3, f3⟩ := put_lst s1.mem m (DvAll.nil)
      exact k _ _ _ _ (f1.trans f3) r3 .non q
end
end DL

/-! Attributes, defs and their calls, statements over data. -/
namespace DL
open PySem PySem.Spec PyProof.Rows L2

/-! ### attributes -/
def putD (f : Str) (v : D) : List (Str × D) → List (Str × D)
  | [] => [(f, v)]
  | (g, x) :: r => if g = f then (g, v) :: r else (g, x) :: putD f v r
section
variable {R : Rx} {M : Mp} {H : Hp}
theorem look_fs : ∀ {fv : List (Str × V)} {fs : List (Str × D)} {f : Str} {d : D}, fv.map (·.1) = fs.map (·.1) → DvAll R M H (fv.map (·.2)) (fs.map (·.2)) → fs.lookup f = some d → ∃ v, fv.lookup f = some v ∧ Dv R M H v d
  | [], [], _, _, _, _, h => by cases h
  | [], _ :: _, _, _, e, _, _ => by cases e
  | _ :: _, [], _, _, e, _, _ => by cases e
  | (k, v) :: fv, (k', d') :: fs, f, d, e, g, h => by
    have e1 : k = k' := (List.cons.inj e).1
    have e2 : fv.map (·.1) = fs.map (·.1) := (List.cons.inj e).2
    subst e1
    cases g with
    | cons g1 g2 =>
      rw [List.lookup_cons] at h ⊢
      cases q : (f == k) with
      | true => rw [q] at h; exact ⟨v, rfl, (Option.some.inj h) ▸ g1⟩
      | false => rw [q] at h; exact look_fs e2 g2 h
theorem look_none : ∀ {fv : List (Str × V)} {fs : List (Str × D)} {f : Str}, fv.map (·.1) = fs.map (·.1) → fs.lookup f = none → fv.lookup f = none
  | [], [], _, _, _ => rfl
  | [], _ :: _, _, e, _ => by cases e
  | _ :: _, [], _, e, _ => by cases e
  | (k, v) :: fv, (k', d') :: fs, f, e, h => by
    have e1 : k = k' := (List.cons.inj e).1
    have e2 : fv.map (·.1) = fs.map (·.1) := (List.cons.inj e).2
    subst e1
    rw [List.lookup_cons] at h ⊢
    cases q : (f == k) with
    | true => rw [q] at h; cases h
    | false => rw [q] at h; exact look_none e2 h
theorem put_fs : ∀ {fv : List (Str × V)} {fs : List (Str × D)} {f : Str} {v : V} {d : D}, fv.map (·.1) = fs.map (·.1) → DvAll R M H (fv.map (·.2)) (fs.map (·.2)) → Dv R M H v d →
    (putF f v fv).map (·.1) = (putD f d fs).map (·.1) ∧ DvAll R M H ((putF f v fv).map (·.2)) ((putD f d fs).map (·.2))
  | [], [], _, _, _, _, _, g => ⟨rfl, .cons g .nil⟩
  | [], _ :: _, _, _, _, e, _, _ => by cases e
  | _ :: _, [], _, _, _, e, _, _ => by cases e
  | (k, v) :: fv, (k', d') :: fs, f, w, d, e, g, h => by
    have e1 : k = k' := (List.cons.inj e).1
    have e2 : fv.map (·.1) = fs.map (·.1) := (List.cons.inj e).2
    subst e1
    cases g with
    | cons g1 g2 =>
      by_cases q : k = f
      · simp only [putF, putD, if_pos q, List.map_cons]
        exact ⟨by rw [e2], .cons h g2⟩
      · obtain ⟨a, b⟩ := put_fs (f := f) e2 g2 h
        simp only [putF, putD, if_neg q, List.map_cons]
        exact ⟨by rw [a], .cons g1 b⟩
end
section
variable {X : Cx} {G : Gx} {o e value : Expr} {f : Str} {pos pos' : Pos} {d dv : DT} {C : Addr}
def dFld (C : Addr) (d : DT) (f : Str) : DT := fun ρ M Q => d ρ M fun x M1 => ∃ a fs z, x = .ref a ∧ M1 a = some (.ins C fs) ∧ fs.lookup f = some z ∧ Q z M1
theorem de_fld (c : Cls X.K C) (n : NoAttr X.K C f) (he : DE X G e d) (hb : attributeBase e f X.env (eval e X.env) = eval e X.env := by rfl) : DE X G (.Attribute e f pos) (dFld C d f) :=
  PE.imp (pe_fld he hb) fun σ H Q ⟨ρ, M, DQ, s, h, k⟩ => tE.of s h fun x M1 v H1 f1 s1 g1 ⟨a, fs, z, e, m, l, q⟩ => by
    subst e; cases g1
    obtain ⟨dx, fv, h1, n1, z1⟩ := s1.mem a _ m
    obtain ⟨u, h2, g2⟩ := look_fs n1 z1 l
    exact ⟨a, C, dx, fv, u, rfl, h1, c, n, h2, k _ _ _ _ f1 s1.mem g2 q⟩
def dFldS (C : Addr) (d dv : DT) (f : Str) : DS := fun DD ρ M => dv ρ M fun y M1 => d ρ M1 fun x M2 => ∃ a fs, x = .ref a ∧ M2 a = some (.ins C fs) ∧ fs.length < 1000 ∧ DD.nx ρ (upm M2 a (.ins C (putD f y fs)))
theorem put_ins {R : Rx} {M : Mp} {H : Hp} {a dx : Addr} {fs : List (Str × D)} {fv : List (Str × V)} {f : Str} {y : D} {u : V} (r : Rel R M H) (m : M a = some (.ins C fs)) (h : H a = some (.ins C dx fv)) (n : fv.map (·.1) = fs.map (·.1)) (z : DvAll R M H (fv.map (·.2)) (fs.map (·.2))) (g : Dv R M H u y) :
    Rel R (upm M a (.ins C (putD f y fs))) (upd H a (.ins C dx (putF f u fv))) ∧ Fr M H (upm M a (.ins C (putD f y fs))) (upd H a (.ins C dx (putF f u fv))) := by
  have ne : M a ≠ none := by rw [m]; exact fun z => by cases z
  obtain ⟨p, q⟩ := put_fs (f := f) n z g
  exact ⟨r.write ne ⟨dx, _, upd_same, p, q.fr (Fr.write ne)⟩, Fr.write ne⟩
theorem ds_fld (c : Cls X.K C) (n : NoAttr X.K C f) (ha : DE X G o d) (hv : DE X G value dv) (hs : swapsWith value (some (.Attribute o f pos')) pos.line X.env = pure false := by rfl) : DSt X G (.Assign [.Attribute o f pos'] value pos) (dFldS C d dv f) :=
  PS.imp (ps_fld ha hv hs) fun D σ H ⟨ρ, M, DD, s, h, k⟩ => tE.of s h fun y M1 u H1 f1 s1 g1 q1 => tE.of s1 q1 fun x M2 v H2 f2 s2 g2 ⟨a, fs, e, m, l, q⟩ => by
    subst e; cases g2
    obtain ⟨dx, fv, h1, n1, z1⟩ := s2.mem a _ m
    have hl : fv.length = fs.length := by have := congrArg List.length n1; simpa using this
    refine ⟨a, C, dx, fv, rfl, h1, c, n, by rw [hl]; exact l, ?_⟩
    obtain ⟨r3, f3⟩ := put_ins (f := f) s2.mem m h1 n1 z1 (g1.fr f2)
    exact k.nx _ _ _ _ ((f1.trans f2).trans f3) (s2.step f3 r3) q
end

/-! ### defs -/
/-- a promise over data: arguments, what stands, what is wanted, what is wanted of an exception -/
abbrev DSp := List D → Mp → DK → DX → Prop
def spD (R : Rx) (S : DSp) : Sp := fun vs H Q E => ∃ ds M DQ dx, Rel R M H ∧ DvAll R M H vs ds ∧ S ds M DQ dx ∧ Post R M H DQ Q ∧ PostX R M H dx E
def dCall (S : DSp) (dvs : List D) (dx : DX) (t : DA) : DT := fun ρ M Q => t ρ M fun ds M1 => S (ds ++ dvs) M1 Q dx
section
variable {X : Cx} {G : Gx} {CX : CXT} {k : Nat} {f : Addr} {fd : FuncData} {ps : List Str} {S : DSp} {x : Str} {p pos : Pos} {e : Expr} {es : List Expr} {t : DA} {ds : List Value} {dvs : List V} {dd : List D}
theorem dCall_sound {R : Rx} {t : DA} {σ : L2.St} {H : Hp} {Q : VK} {E : XK} (hE : E = G.E) (hdd : ∀ M H, DvAll R M H dvs dd) (h : tE R G (dCall S dd G.dx t) σ H Q) : tCall (spD R S) dvs E (tAr R G t) σ H Q := by
  subst hE
  obtain ⟨ρ, M, DQ, s, h, k⟩ := h
  exact tAr.of s h fun xs M1 vs H1 f s1 g q => ⟨xs ++ dd, M1, DQ, G.dx, s1.mem, g.append (hdd M1 H1), q, k.step f, s1.exc⟩
theorem de_call (F : FnOk X.prog X.w X.K X.mg X.base CX k f fd ps (spD (rx X) S)) (hr : Room k X.A) (hm : X.mg x = some (.ref f)) (hk : PySem.W.keepIn X.K (.ref f) = true) (hb : Binds X.K fd ps ds) (hd : Vals dvs ds) (hdd : ∀ M H, DvAll (rx X) M H dvs dd) (hx : Passes CX X G.E)
    (ha : DAr X G (e :: es) t) (hg : Gl X x := by rfl) (hdb : (x == ("__debug__" : Str)) = false := by decide)
    (he : starEach (e :: es) X.env = (false, eval e X.env) :: starEach es X.env := by rfl) (hpl : (backTo pos (starEach es X.env)).any (·.1) = false := by rfl) : DE X G (.Call (.Name x p) (e :: es) [] pos) (dCall S dd G.dx t) :=
  PE.imp (pe_call F hr hg hm hk hb hd hx ha hdb he hpl) fun σ H Q h => dCall_sound rfl hdd h
theorem de_call0 (F : FnOk X.prog X.w X.K X.mg X.base CX k f fd ps (spD (rx X) S)) (hr : Room k X.A) (hm : X.mg x = some (.ref f)) (hk : PySem.W.keepIn X.K (.ref f) = true) (hb : Binds X.K fd ps ds) (hd : Vals dvs ds) (hdd : ∀ M H, DvAll (rx X) M H dvs dd) (hx : Passes CX X G.E)
    (hg : Gl X x := by rfl) (hdb : (x == ("__debug__" : Str)) = false := by decide) : DE X G (.Call (.Name x p) [] [] pos) (dCall S dd G.dx dNil) :=
  PE.imp (pe_call0 F hr hg hm hk hb hd hx hdb) fun σ H Q h => by
    have := dCall_sound (R := rx X) rfl hdd h
    obtain ⟨ρ, M, DQ, s, q, k⟩ := h
    exact ⟨[] ++ dd, M, DQ, G.dx, s.mem, DvAll.append .nil (hdd M H), q, k, s.exc⟩
def dMeth (C : Addr) (m : Str) (S : DSp) (dvs : List D) (dx : DX) (d : DT) (t : DA) : DT := fun ρ M Q => d ρ M fun x M1 => ∃ a fs, x = .ref a ∧ M1 a = some (.ins C fs) ∧ fs.lookup m = none ∧ t ρ M1 fun ds M2 => S (.ref a :: (ds ++ dvs)) M2 Q dx
variable {o : Expr} {d : DT} {C : Addr} {m : Str} {apos : Pos}
theorem dMeth_sound {R : Rx} {σ : L2.St} {H : Hp} {Q : VK} {E : XK} (hE : E = G.E) (hdd : ∀ M H, DvAll R M H dvs dd) (h : tE R G (dMeth C m S dd G.dx d t) σ H Q) : tMeth C m (spD R S) dvs E (tE R G d) (tAr R G t) σ H Q := by
  subst hE
  obtain ⟨ρ, M, DQ, s, h, k⟩ := h
  exact tE.of s h fun x M1 v H1 f1 s1 g1 ⟨a, fs, e, mm, l, q⟩ => by
    subst e; cases g1
    obtain ⟨dx, fv, h1, n1, z1⟩ := s1.mem a _ mm
    exact ⟨a, dx, fv, rfl, h1, look_none n1 l, tAr.of s1 q fun xs M2 vs H2 f2 s2 g q2 => ⟨.ref a :: (xs ++ dd), M2, DQ, G.dx, s2.mem, .cons (.ref a) (g.append (hdd M2 H2)), q2, k.step (f1.trans f2), s2.exc⟩⟩
theorem de_meth {pl : Sem Bool} (ho : DE X G o d) (c : Cls X.K C) (hm : Meth X.K C m f) (F : FnOk X.prog X.w X.K X.mg X.base CX k f fd ps (spD (rx X) S)) (hr : Room k X.A) (hb : Binds X.K fd ps ds) (hd : Vals dvs ds) (hdd : ∀ M H, DvAll (rx X) M H dvs dd) (hx : Passes CX X G.E) (ha : DAr X G (e :: es) t)
    (hst : starEach (e :: es) X.env = (false, eval e X.env) :: starEach es X.env := by rfl) (hpl : (backTo pos (starEach es X.env)).any (·.1) = false := by rfl)
    (ht : eval (.Call (.Attribute o m apos) (e :: es) [] pos) X.env = (do
      let ov ← eval o X.env
      standAt apos.atName
      let (f, first) ← holding [ov] (getMethod ov m pl)
      callWith pos f first (backTo pos (starEach (e :: es) X.env)) (backToKw pos (keywordEach [] X.env))) := by rfl) : DE X G (.Call (.Attribute o m apos) (e :: es) [] pos) (dMeth C m S dd G.dx d t) :=
  PE.imp (pe_meth (pl := pl) ho c hm F hr hb hd hx ha hst hpl ht) fun σ H Q h => dMeth_sound rfl hdd h
theorem de_meth0 {pl : Sem Bool} (ho : DE X G o d) (c : Cls X.K C) (hm : Meth X.K C m f) (F : FnOk X.prog X.w X.K X.mg X.base CX k f fd ps (spD (rx X) S)) (hr : Room k X.A) (hb : Binds X.K fd ps ds) (hd : Vals dvs ds) (hdd : ∀ M H, DvAll (rx X) M H dvs dd) (hx : Passes CX X G.E)
    (ht : eval (.Call (.Attribute o m apos) [] [] pos) X.env = (do
      let ov ← eval o X.env
      standAt apos.atName
      let (f, first) ← holding [ov] (getMethod ov m pl)
      callWith pos f first (backTo pos (starEach [] X.env)) (backToKw pos (keywordEach [] X.env))) := by rfl) : DE X G (.Call (.Attribute o m apos) [] [] pos) (dMeth C m S dd G.dx d dNil) :=
  PE.imp (pe_meth0 (pl := pl) ho c hm F hr hb hd hx ht) fun σ H Q ⟨ρ, M, DQ, s, h, k⟩ => tE.of s h fun x M1 v H1 f1 s1 g1 ⟨a, fs, e, mm, l, q⟩ => by
    subst e; cases g1
    obtain ⟨dx, fv, h1, n1, z1⟩ := s1.mem a _ mm
    exact ⟨a, dx, fv, rfl, h1, look_none n1 l, ⟨.ref a :: ([] ++ dd), M1, DQ, G.dx, s1.mem, .cons (.ref a) (DvAll.append .nil (hdd M1 H1)), q, k.step f1, s1.exc⟩⟩
/-- C(..) -/
def dMake (C : Addr) (S : DSp) (dvs : List D) (dx : DX) (t : DA) : DT := fun ρ M Q => t ρ M fun ds M1 => ∀ p, M1 p = none → S (.ref p :: (ds ++ dvs)) (upm M1 p (.ins C [])) (fun v M2 => v = .non ∧ Q (.ref p) M2) dx
theorem de_make (Mk : Mk X.K C f) (F : FnOk X.prog X.w X.K X.mg X.base CX k f fd ps (spD (rx X) S)) (hr : Room (k + 1) X.A) (hm : X.mg x = some (.ref C)) (hb : Binds X.K fd ps ds) (hd : Vals dvs ds) (hdd : ∀ M H, DvAll (rx X) M H dvs dd) (hx : Passes CX X G.E)
    (ha : DAr X G (e :: es) t) (hg : Gl X x := by rfl) (hdb : (x == ("__debug__" : Str)) = false := by decide)
    (he : starEach (e :: es) X.env = (false, eval e X.env) :: starEach es X.env := by rfl) (hpl : (backTo pos (starEach es X.env)).any (·.1) = false := by rfl) : DE X G (.Call (.Name x p) (e :: es) [] pos) (dMake C S dd G.dx t) :=
  PE.imp (pe_make Mk F hr hg hm hb hd hx ha hdb he hpl) fun σ H Q ⟨ρ, M, DQ, s, h, k⟩ => tAr.of s h fun xs M1 vs H1 f s1 g q => fun p dx hp hdx ne => by
    have hpm := s1.mem.fresh hp
    have hp2 : upd H1 dx (.own p) p = none := by rw [upd_ne (Ne.symm ne)]; exact hp
    have fa : Fr M1 H1 M1 (upd H1 dx (.own p)) := Fr.laid hdx
    have ra : Rel (rx X) M1 (upd H1 dx (.own p)) := s1.mem.laid hdx
    have fb : Fr M1 (upd H1 dx (.own p)) (upm M1 p (.ins C [])) (upd (upd H1 dx (.own p)) p (.ins C dx [])) := Fr.made hp2
    have rb : Rel (rx X) (upm M1 p (.ins C [])) (upd (upd H1 dx (.own p)) p (.ins C dx [])) := ra.made hp2 ⟨dx, [], upd_same, rfl, .nil⟩
    have f2 := fa.trans fb
    refine ⟨.ref p :: (xs ++ dd), _, _, G.dx, rb, .cons (.ref p) ((g.fr f2).append (hdd _ _)), q p hpm, fun z M' v H' f' r' g' ⟨e1, q'⟩ => ?_, s1.exc.step f2⟩
    subst e1; cases g'
    exact ⟨rfl, k _ _ _ _ ((f.trans f2).trans f') r' (.ref p) q'⟩
end

/-! ### blocks, small statements -/
section
variable {X : Cx} {G : Gx} {st : Stmt} {rest : List Stmt} {t u : DS} {e : Expr} {d : DT} {pos : Pos}
def dNext : DS := fun DD ρ M => DD.nx ρ M
def dSeq (t u : DS) : DS := fun DD ρ M => t { DD with nx := u DD } ρ M
theorem dss_nil : DSs X G [] dNext := PSs.imp pss_nil fun D σ H ⟨ρ, M, DD, s, h, k⟩ => k.nx _ _ _ _ Fr.refl s h
theorem dSeq_sound {R : Rx} {D : Ends} {σ : L2.St} {H : Hp} (h : tSt R G (dSeq t u) D σ H) : tSeq (tSt R G t) (tSt R G u) D σ H := by
  obtain ⟨ρ, M, DD, s, h, k⟩ := h
  exact ⟨ρ, M, _, s, h, fun ρ' M' σ' H' f s' q => ⟨ρ', M', DD, s', q, k.step f⟩, k.rt, k.bk, k.ct⟩
theorem dss_cons (h1 : DSt X G st t) (h2 : DSs X G rest u) : DSs X G (st :: rest) (dSeq t u) := PSs.imp (pss_cons h1 h2) fun D σ H h => dSeq_sound h
theorem dss_one (h1 : DSt X G st t) : DSs X G [st] t := pss_one h1
def dBreak : DS := fun DD ρ M => DD.bk ρ M
def dCont : DS := fun DD ρ M => DD.ct ρ M
theorem ds_pass : DSt X G (.Pass pos) dNext := PS.imp ps_pass fun D σ H ⟨ρ, M, DD, s, h, k⟩ => k.nx _ _ _ _ Fr.refl s h
theorem ds_break : DSt X G (.Break pos) dBreak := PS.imp ps_break fun D σ H ⟨ρ, M, DD, s, h, k⟩ => k.bk _ _ _ _ Fr.refl s h
theorem ds_continue : DSt X G (.Continue pos) dCont := PS.imp ps_continue fun D σ H ⟨ρ, M, DD, s, h, k⟩ => k.ct _ _ _ _ Fr.refl s h
def dDrop (d : DT) : DS := fun DD ρ M => d ρ M fun _ M1 => DD.nx ρ M1
theorem ds_expr (he : DE X G e d) (hs : swapsWith e none pos.line X.env = pure false := by rfl) : DSt X G (.Expr e pos) (dDrop d) :=
  PS.imp (ps_expr he hs) fun D σ H ⟨ρ, M, DD, s, h, k⟩ => tE.of s h fun x M1 v H1 f s1 g q => k.nx _ _ _ _ f s1 q
def dRet (d : DT) : DS := fun DD ρ M => d ρ M DD.rt
theorem ds_ret (he : DE X G e d) : DSt X G (.Return (some e) pos) (dRet d) :=
  PS.imp (ps_ret he) fun D σ H ⟨ρ, M, DD, s, h, k⟩ => ⟨ρ, M, DD.rt, s, h, k.rt⟩
def dRetN : DS := fun DD _ M => DD.rt .non M
theorem ds_retN : DSt X G (.Return none pos) dRetN := PS.imp ps_retN fun D σ H ⟨ρ, M, DD, s, h, k⟩ => k.rt _ _ _ _ Fr.refl s.mem .non h
def dIfS (c : DB) (t u : DS) : DS := fun DD ρ M => c ρ M fun b M1 => if b = true then t DD ρ M1 else u DD ρ M1
theorem ds_if {c : Expr} {a b : List Stmt} {tc : DB} (hc : DTt X G c tc) (ha : DSs X G a t) (hb : DSs X G b u) : DSt X G (.If c a b pos) (dIfS tc t u) :=
  PS.imp (ps_if hc ha hb) fun D σ H ⟨ρ, M, DD, s, h, k⟩ => tBo.of s h fun b M1 H1 f s1 q => by
    cases b with
    | true => rw [if_pos rfl] at q ⊢; exact ⟨ρ, M1, DD, s1, q, k.step f⟩
    | false => rw [if_neg Bool.false_ne_true] at q ⊢; exact ⟨ρ, M1, DD, s1, q, k.step f⟩
def dNever : DS := fun _ _ _ => False
theorem ds_never : DSt X G st dNever := PS.imp ps_never fun D σ H ⟨_, _, _, _, h, _⟩ => h
theorem dss_never {sts : List Stmt} : DSs X G sts dNever := PSs.imp pss_never fun D σ H ⟨_, _, _, _, h, _⟩ => h
end

/-! ### targets -/
abbrev DGt := D → Rh → Mp → (Rh → Mp → Prop) → Prop
abbrev DGs := List D → Rh → Mp → (Rh → Mp → Prop) → Prop
def tGt (R : Rx) (G : Gx) (g : DGt) : TG := fun v σ H Q => ∃ (x : D) (ρ : Rh) (M : Mp) (DQ : Rh → Mp → Prop), Sr R G ρ M σ H ∧ Dv R M H v x ∧ g x ρ M DQ ∧ ∀ ρ' M' σ' H', Fr M H M' H' → Sr R G ρ' M' σ' H' → DQ ρ' M' → Q σ' H'
def tGs (R : Rx) (G : Gx) (g : DGs) : TGs := fun vs σ H Q => ∃ (xs : List D) (ρ : Rh) (M : Mp) (DQ : Rh → Mp → Prop), Sr R G ρ M σ H ∧ DvAll R M H vs xs ∧ g xs ρ M DQ ∧ ∀ ρ' M' σ' H', Fr M H M' H' → Sr R G ρ' M' σ' H' → DQ ρ' M' → Q σ' H'
abbrev DG (X : Cx) (G : Gx) (e : Expr) (g : DGt) : Prop := PG X e (tGt (rx X) G g)
abbrev DGS (X : Cx) (G : Gx) (es : List Expr) (g : DGs) : Prop := PGs X es (tGs (rx X) G g)
theorem PG.imp {X : Cx} {e : Expr} {t t' : TG} (h : PG X e t) (i : ∀ v σ H Q, t' v σ H Q → t v σ H Q) : PG X e t' := ⟨fun pins s σ H v u Q I r q => h.run pins s σ H v u Q I r (i v σ H Q q)⟩
theorem PGs.imp {X : Cx} {e : List Expr} {t t' : TGs} (h : PGs X e t) (i : ∀ v σ H Q, t' v σ H Q → t v σ H Q) : PGs X e t' := ⟨fun pins s σ H v u Q I r q => h.run pins s σ H v u Q I r (i v σ H Q q)⟩
section
variable {X : Cx} {G : Gx} {pos : Pos}
def gNm (i : Nat) : DGt := fun x ρ M Q => Q (ρ.set i (some x)) M
theorem dg_name (i : Nat) {x : Str} (hN : X.N.Nodup) (hi : X.N[i]? = some x := by rfl) (hx : Loc X.env.scope x := by first | exact Or.inl rfl | exact Or.inr rfl) (hf : X.fn x = true ∨ X.env.scope.names.lookup x = some .local := by first | exact .inl rfl | exact .inr rfl | assumption) : DG X G (.Name x pos) (gNm i) :=
  PG.imp (pg_name hN hi hx hf) fun v σ H Q ⟨x, ρ, M, DQ, s, g, h, k⟩ => k _ _ _ _ Fr.refl (s.set g) h
def gNl : DGs := fun xs ρ M Q => xs = [] ∧ Q ρ M
def gCn (g : DGt) (u : DGs) : DGs := fun xs ρ M Q => ∃ x r, xs = x :: r ∧ g x ρ M fun ρ' M' => u r ρ' M' Q
theorem dgs_nil : DGS X G [] gNl := PGs.imp pgs_nil fun vs σ H Q ⟨xs, ρ, M, DQ, s, g, ⟨e, h⟩, k⟩ => by
  subst e; cases g
  exact ⟨rfl, k _ _ _ _ Fr.refl s h⟩
theorem dgs_cons {e : Expr} {es : List Expr} {g : DGt} {u : DGs} (h1 : DG X G e g) (h2 : DGS X G es u)
    (hs : (assignEach (e :: es) X.env).map (·.2) = assign e X.env :: (assignEach es X.env).map (·.2) := by rfl) : DGS X G (e :: es) (gCn g u) :=
  PGs.imp (pgs_cons h1 h2 hs) fun vs σ H Q ⟨xs, ρ, M, DQ, s, g, ⟨x, r, e, h⟩, k⟩ => by
    subst e
    cases g with
    | cons g1 g2 => exact ⟨_, _, rfl, x, ρ, M, _, s, g1, h, fun ρ' M' σ' H' f s' q => ⟨r, ρ', M', DQ, s', g2.fr f, q, fun ρ2 M2 σ2 H2 f2 => k ρ2 M2 σ2 H2 (f.trans f2)⟩⟩
/-- (a, b, ..) = a tuple; a list -/
def gTp (n : Nat) (u : DGs) : DGt := fun x ρ M Q => ∃ xs, x = .tup xs ∧ xs.length = n ∧ u xs ρ M Q
def gLs (n : Nat) (u : DGs) : DGt := fun x ρ M Q => ∃ xs, lv M x = some xs ∧ xs.length = n ∧ u xs ρ M Q
theorem dg_tup {es : List Expr} {k : Nat} {u : DGs} {n : Nat} (hc : X.calm = true) (h : DGS X G es u)
    (hn : (assignEach es X.env).length = n := by rfl) (hst : (assignEach es X.env).findIdx? (·.1) = none := by rfl) : DG X G (.Tuple es k pos) (gTp n u) :=
  PG.imp (pg_tup hc h hn hst) fun v σ H Q ⟨x, ρ, M, DQ, s, g, ⟨xs, e, l, h⟩, k⟩ => by
    subst e
    obtain ⟨a, vs, rfl, sq, z⟩ := g.sqt
    exact ⟨a, vs, rfl, sq, by rw [z.length]; exact l, xs, ρ, M, DQ, s, z, h, k⟩
theorem dg_lst {es : List Expr} {k : Nat} {u : DGs} {n : Nat} (hc : X.calm = true) (h : DGS X G es u)
    (hn : (assignEach es X.env).length = n := by rfl) (hst : (assignEach es X.env).findIdx? (·.1) = none := by rfl) : DG X G (.Tuple es k pos) (gLs n u) :=
  PG.imp (pg_unl hc h hn hst) fun v σ H Q ⟨x, ρ, M, DQ, s, g, ⟨xs, e, l, h⟩, k⟩ => by
    obtain ⟨a, vs, rfl, sq, z⟩ := lv_sound s.mem g e
    exact ⟨a, vs, rfl, sq, by rw [z.length]; exact l, xs, ρ, M, DQ, s, z, h, k⟩
/-- o.f = .., within a tuple of targets -/
def gFd (C : Addr) (d : DT) (f : Str) : DGt := fun y ρ M Q => d ρ M fun x M2 => ∃ a fs, x = .ref a ∧ M2 a = some (.ins C fs) ∧ fs.length < 1000 ∧ Q ρ (upm M2 a (.ins C (putD f y fs)))
theorem dg_fld {o : Expr} {f : Str} {C : Addr} {d : DT} (c : Cls X.K C) (n : NoAttr X.K C f) (ho : DE X G o d)
    (ha : ∀ v, assign (.Attribute o f pos) X.env v = (do
      let ov ← holding [v] (eval o X.env)
      standAt pos.atName
      holding [v, ov] (setAttr ov f v)
      release [v, ov] []) := by intro _; rfl) : DG X G (.Attribute o f pos) (gFd C d f) := by
  refine ⟨fun pins s σ H v u Q I r h => ?_⟩
  obtain ⟨y, ρ, M, DQ, sr, g, h, k⟩ := h
  rw [ha]
  refine wpAny_bind (wpAny_holding (thn (ho.run pins s σ H (fun v' H1 => ∃ x M1, Fr M H M1 H1 ∧ Sr (rx X) G ρ M1 σ H1 ∧ Dv (rx X) M1 H1 v' x ∧ ∃ a fs, x = .ref a ∧ M1 a = some (.ins C fs) ∧ fs.length < 1000 ∧ DQ ρ (upm M1 a (.ins C (putD f y fs)))) I
    (tE.of sr h fun x M1 v' H1 f1 s1 g1 q => ⟨x, M1, f1, s1, g1, q⟩)) fun ov s1 ⟨v', H1, I1, r1, x, M1, f1, sr1, g1, a, fs, e, m, l, q⟩ => ?_))
  subst e; cases g1
  obtain rfl : ov = Value.ref a := r1
  obtain ⟨dx, fv, h1, n1, z1⟩ := sr1.mem a _ m
  have hl : fv.length = fs.length := by have := congrArg List.length n1; simpa using this
  refine wpAny_bind (wpAny_standAt (wpAny_bind (wpAny_holding (setattr_ok I1 h1 c n (by rw [hl]; exact l) r fun s3 I3 => wpAny_release ?_))))
  obtain ⟨r3, f3⟩ := put_ins (f := f) sr1.mem m h1 n1 z1 (g.fr f1)
  exact ⟨σ, _, I3, k _ _ _ _ (f1.trans f3) (sr1.step f3 r3) q⟩
/-- l[i] = .. -/
def gIx (d di : DT) : DGt := fun y ρ M Q => d ρ M fun o M1 => di ρ M1 fun i M2 => ∃ p xs k j, o = .ref p ∧ i = .int k ∧ M2 p = some (.lst xs) ∧ ixN xs.length k = some j ∧ Q ρ (upm M2 p (.lst (xs.set j y)))
theorem dg_ix {o i : Expr} {d di : DT} (ho : DE X G o d) (hi : DE X G i di)
    (ha : ∀ v, assign (.Subscript o i pos) X.env v = (do
      let ov ← holding [v] (eval o X.env)
      let iv ← holding [v, ov] (eval i X.env)
      standAt pos
      holding [v, ov, iv] (setItem ov iv v)
      release [v, ov, iv] []) := by intro _; rfl) : DG X G (.Subscript o i pos) (gIx d di) :=
  PG.imp (pg_sub ho hi set_list ha) fun v σ H Q ⟨y, ρ, M, DQ, s, g, h, k⟩ => tE.of s h fun ov M1 vo H1 f1 s1 g1 q1 => tE.of s1 q1 fun iv M2 vi H2 f2 s2 g2 ⟨p, xs, n, j, e1, e2, m, e3, q⟩ => by
    subst e1 e2; cases g1; cases g2
    obtain ⟨vs, h2, z2⟩ := s2.mem.lst m
    refine ⟨p, vs, n, j, rfl, rfl, h2, by rw [z2.length]; exact e3, ?_⟩
    obtain ⟨r3, f3⟩ := put_lst s2.mem m (z2.set j ((g.fr f1).fr f2))
    exact k _ _ _ _ ((f1.trans f2).trans f3) (s2.step f3 r3) q
def dAsg (d : DT) (g : DGt) : DS := fun DD ρ M => d ρ M fun x M1 => g x ρ M1 DD.nx
theorem ds_asg {tg e : Expr} {d : DT} {g : DGt} (he : DE X G e d) (hg : DG X G tg g) (hs : swapsWithSole [tg] e pos.line X.env = pure false := by rfl) (hw : swappedStores [tg] e X.env = pure none := by rfl)
    (h1 : (assignEach [tg] X.env).map (·.2) = [assign tg X.env] := by rfl) : DSt X G (.Assign [tg] e pos) (dAsg d g) :=
  PS.imp (ps_asg he hg hs hw h1) fun D σ H ⟨ρ, M, DD, s, h, k⟩ => tE.of s h fun x M1 v H1 f s1 g1 q => ⟨x, ρ, M1, DD.nx, s1, g1, q, fun ρ' M' σ' H' f' => k.nx ρ' M' σ' H' (f.trans f')⟩
def dSet (i : Nat) (d : DT) : DS := fun DD ρ M => d ρ M fun x M1 => DD.nx (ρ.set i (some x)) M1
theorem ds_set (i : Nat) {x : Str} {e : Expr} {d : DT} {pos' : Pos} (hN : X.N.Nodup) (he : DE X G e d) (hi : X.N[i]? = some x := by rfl) (hx : Loc X.env.scope x := by first | exact Or.inl rfl | exact Or.inr rfl) (hs : swapsWith e (some (.Name x pos')) pos.line X.env = pure false := by rfl)
    (hf : X.fn x = true ∨ X.env.scope.names.lookup x = some .local := by first | exact .inl rfl | exact .inr rfl | assumption) : DSt X G (.Assign [.Name x pos'] e pos) (dSet i d) :=
  PS.imp (ps_set hN hi hx he hs hf) fun D σ H ⟨ρ, M, DD, s, h, k⟩ => tE.of s h fun x M1 v H1 f s1 g q => k.nx _ _ _ _ f (s1.set g) q
/-- x += e -/
def dAug (i : Nat) (d : DT) (rd : D2) : DS := fun DD ρ M => ∃ x, ρ[i]? = some (some x) ∧ d ρ M fun y M1 => rd x y M1 fun z M2 => DD.nx (ρ.set i (some z)) M2
theorem ds_aug (i : Nat) {x : Str} {e : Expr} {d : DT} {op : Operator} {rd : D2} {pos' : Pos} (hN : X.N.Nodup) (he : DE X G e d) (ho : OpD X (inplaceOp op) rd) (hi : X.N[i]? = some x := by rfl) (hx : Loc X.env.scope x := by first | exact Or.inl rfl | exact Or.inr rfl)
    (hf : X.fn x = true ∨ X.env.scope.names.lookup x = some .local := by first | exact .inl rfl | exact .inr rfl | assumption) : DSt X G (.AugAssign (.Name x pos') op e pos) (dAug i d rd) :=
  PS.imp (ps_aug (ti := vOf2 (rx X) rd) hN hi hx he ho hf) fun D σ H ⟨ρ, M, DD, s, ⟨x, e, h⟩, k⟩ => by
    obtain ⟨v, hv, g⟩ := s.env i x e
    exact ⟨v, hv, tE.of s h fun y M1 w H1 f s1 g1 q => ⟨x, y, M1, _, s1.mem, g.fr f, g1, q, fun z M2 u H2 f2 r2 g2 q2 => k.nx _ _ _ _ (f.trans f2) ((s1.step f2 r2).set g2) q2⟩⟩
/-- a, b = x, y with plain local names -/
def dPar (i j : Nat) (t : DA) : DS := fun DD ρ M => t ρ M fun xs M1 => ∃ x y, xs = [x, y] ∧ DD.nx ((ρ.set i (some x)).set j (some y)) M1
theorem ds_par (i j : Nat) {x y : Str} {a b : Expr} {t : DA} {px py pt : Pos} {kt k2 pt2} (hc : X.calm = true) (hN : X.N.Nodup) (ha : DAr X G [a, b] t) (hi : X.N[i]? = some x := by rfl) (hj : X.N[j]? = some y := by rfl) (hij : i ≠ j := by decide)
    (hx : X.env.scope.names.lookup x = some .local := by rfl) (hy : X.env.scope.names.lookup y = some .local := by rfl)
    (hw : swappedStores [.Tuple [.Name x px, .Name y py] kt pt] (.Tuple [a, b] k2 pt2) X.env = pure (some [x, y]) := by rfl)
    (hs : swapsWithSole [.Tuple [.Name x px, .Name y py] kt pt] (.Tuple [a, b] k2 pt2) pos.line X.env = pure false := by rfl) :
    DSt X G (.Assign [.Tuple [.Name x px, .Name y py] kt pt] (.Tuple [a, b] k2 pt2) pos) (dPar i j t) :=
  PS.imp (ps_par hc hN hi hj hij hx hy ha hw hs) fun D σ H ⟨ρ, M, DD, s, h, k⟩ => tAr.of s h fun xs M1 vs H1 f s1 g ⟨x, y, e, q⟩ => by
    subst e
    obtain ⟨v, w, rfl, g1, g2⟩ := g.two
    exact ⟨v, w, rfl, k.nx _ _ _ _ f ((s1.set g1).set g2) q⟩
end
end DL

/-! Loops, comprehensions, defs over data. -/
namespace DL
open PySem PySem.Spec PyProof.Rows L2

theorem Sr.exc0 {R : Rx} {G : Gx} {ρ : Rh} {M : Mp} {σ : L2.St} {H : Hp} (s : Sr R G ρ M σ H) : Sr R G0 ρ M σ H := ⟨s.len, s.env, s.mem, fun _ _ _ _ _ _ z => z.elim⟩
theorem Sr.toG {R : Rx} {G G' : Gx} {ρ : Rh} {M : Mp} {σ : L2.St} {H : Hp} (s : Sr R G ρ M σ H) (x : PostX R M H G'.dx G'.E) : Sr R G' ρ M σ H := ⟨s.len, s.env, s.mem, x⟩

/-! ### what is walked -/
/-- J walks the items from (M1, H1) on, while C stands -/
structure Walks (R : Rx) (J : It) (items : List D) (C : Mp → Prop) (M1 : Mp) (H1 : Hp) : Prop where
  step : ∀ i M' H' d, Fr M1 H1 M' H' → Rel R M' H' → C M' → items[i]? = some d → J.go i H' ∧ ∀ x H'', J.yld i H' x H'' → Fr M' H' M' H'' ∧ Rel R M' H'' ∧ Dv R M' H'' x d
  stop : ∀ M' H', Fr M1 H1 M' H' → Rel R M' H' → C M' → J.stop items.length H'
abbrev DIt := Rh → Mp → (List D → (Mp → Prop) → Mp → Prop) → Prop
def tIt (R : Rx) (G : Gx) (d : DIt) : TI := fun σ H RR => ∃ (ρ : Rh) (M : Mp) (DQ : List D → (Mp → Prop) → Mp → Prop), Sr R G ρ M σ H ∧ d ρ M DQ ∧ ∀ items C M' H' J, Fr M H M' H' → Rel R M' H' → Walks R J items C M' H' → DQ items C M' → RR J H'
abbrev DI (X : Cx) (G : Gx) (tg iter : Expr) (d : DIt) : Prop := PI X tg iter (tIt (rx X) G d)
theorem PI.imp {X : Cx} {tg e : Expr} {t t' : TI} (h : PI X tg e t) (i : ∀ σ H Q, t' σ H Q → t σ H Q) : PI X tg e t' := ⟨fun pins s σ H R I q => h.run pins s σ H R I (i σ H R q)⟩
section
variable {R : Rx} {M : Mp} {H : Hp}
theorem SqL.fr {K : PySem.W.Frag} {M' : Mp} {H' : Hp} {a : Addr} {vs : List V} (f : Fr M H M' H') (m : M a = none) (h : H a = some (.lst vs)) : SqL K H' a vs := SqL.of (f a _ h m).1
theorem walk_lst {x : D} {xs : List D} {a : Addr} (r : Rel R M H) (g : Dv R M H (.ref a) x) (e : lv M x = some xs) : Walks R (Itl R.K a) xs (fun M' => lv M' x = some xs) M H := by
  have key : ∀ M' H', Fr M H M' H' → Rel R M' H' → lv M' x = some xs → ∃ vs, SqL R.K H' a vs ∧ DvAll R M' H' vs xs := fun M' H' f r' c => by
    obtain ⟨b, vs, e1, q, z⟩ := lv_sound r' (g.fr f) c
    cases e1
    exact ⟨vs, q, z⟩
  refine ⟨fun i M' H' d f r' c hi => ?_, fun M' H' f r' c => ?_⟩
  · obtain ⟨vs, q, z⟩ := key M' H' f r' c
    obtain ⟨v, hv, dv⟩ := z.get' hi
    refine ⟨⟨vs, v, q, hv⟩, fun y H'' ⟨e1, e2⟩ => ?_⟩
    subst e1
    have := e2 vs q
    rw [hv] at this
    cases this
    exact ⟨Fr.refl, r', dv⟩
  · obtain ⟨vs, q, z⟩ := key M' H' f r' c
    exact ⟨vs, q, by rw [z.length]; exact Nat.le_refl _⟩
theorem tup_inj {K : PySem.W.Frag} {a : Addr} : True := trivial
end
def dIl (d : DT) : DIt := fun ρ M RR => d ρ M fun x M1 => ∃ xs, lv M1 x = some xs ∧ RR xs (fun M' => lv M' x = some xs) M1
section
variable {X : Cx} {G : Gx} {tg e : Expr} {d : DT}
theorem di_list (h : DE X G e d) : DI X G tg e (dIl d) :=
  PI.imp (pi_list h) fun σ H RR ⟨ρ, M, DQ, s, h, k⟩ => tE.of s h fun x M1 v H1 f s1 g ⟨xs, e, q⟩ => by
    obtain ⟨a, vs, rfl, sq, z⟩ := lv_sound s1.mem g e
    exact ⟨a, rfl, ⟨vs, sq⟩, k _ _ _ _ _ f s1.mem (walk_lst s1.mem g e) q⟩
/-- a tuple -/
def dItp (d : DT) : DIt := fun ρ M RR => d ρ M fun x M1 => ∃ xs, x = .tup xs ∧ RR xs (fun _ => True) M1
theorem walk_tup {X : Cx} {pins : List (Addr × Obj)} {σ : L2.St} {s : Shared} {M : Mp} {H : Hp} {xs : List D} {a : Addr} (g : Dv (rx X) M H (.ref a) (.tup xs))
    (inj : ∀ H' ws us, SqT X.K H' a ws → SqT X.K H' a us → ws = us) : Walks (rx X) (Itt X.K a) xs (fun _ => True) M H := by
  have key : ∀ M' H', Fr M H M' H' → ∃ vs, SqT X.K H' a vs ∧ DvAll (rx X) M' H' vs xs := fun M' H' f => by
    obtain ⟨b, vs, e1, q, z⟩ := (g.fr f).sqt
    cases e1
    exact ⟨vs, q, z⟩
  refine ⟨fun i M' H' d f r' c hi => ?_, fun M' H' f r' c => ?_⟩
  · obtain ⟨vs, q, z⟩ := key M' H' f
    obtain ⟨v, hv, dv⟩ := z.get' hi
    refine ⟨⟨vs, v, q, hv⟩, fun y H'' ⟨e1, e2⟩ => ?_⟩
    subst e1
    have := e2 vs q
    rw [hv] at this
    cases this
    exact ⟨Fr.refl, r', dv⟩
  · obtain ⟨vs, q, z⟩ := key M' H' f
    exact ⟨vs, q, by rw [z.length]; exact Nat.le_refl _⟩
theorem di_tup (h : DE X G e d) : DI X G tg e (dItp d) :=
  PI.imp (pi_tup h) fun σ H RR ⟨ρ, M, DQ, s, h, k⟩ => tE.of s h fun x M1 v H1 f s1 g ⟨xs, e, q⟩ => by
    subst e
    obtain ⟨a, vs, rfl, sq, z⟩ := g.sqt
    refine ⟨a, rfl, ⟨vs, sq⟩, k _ _ _ _ _ f s1.mem ?_ q⟩
    refine ⟨fun i M' H' d f r' c hi => ?_, fun M' H' f r' c => ?_⟩
    · obtain ⟨b, us, e1, q, z⟩ := (g.fr f).sqt
      cases e1
      obtain ⟨v, hv, dv⟩ := z.get' hi
      refine ⟨⟨us, v, q, hv⟩, fun y H'' ⟨e1, e2⟩ => ?_⟩
      subst e1
      have := e2 us q
      rw [hv] at this
      cases this
      exact ⟨Fr.refl, r', dv⟩
    · obtain ⟨b, us, e1, q, z⟩ := (g.fr f).sqt
      cases e1
      exact ⟨us, q, by rw [z.length]; exact Nat.le_refl _⟩
/-- range(n), range(a, b) -/
def intsD (lo : Int) (n : Nat) : List D := (List.range n).map fun i => D.int (lo + (i : Nat))
theorem walk_rng {R : Rx} {M : Mp} {H : Hp} (lo : Int) (n : Nat) : Walks R (Itr lo n) (intsD lo n) (fun _ => True) M H := by
  have hl : (intsD lo n).length = n := by simp [intsD]
  refine ⟨fun i M' H' d f r c hi => ?_, fun M' H' f r c => ?_⟩
  · have hlt : i < n := by rw [← hl]; exact (List.getElem?_eq_some_iff.mp hi).1
    refine ⟨hlt, fun y H'' ⟨e1, e2⟩ => ?_⟩
    subst e1
    subst e2
    have : (intsD lo n)[i]? = some (D.int (lo + (i : Nat))) := by simp [intsD, hlt]
    rw [this] at hi
    cases hi
    exact ⟨Fr.refl, r, .int _⟩
  · show n ≤ (intsD lo n).length
    rw [hl]; exact Nat.le_refl _
def dIr1 (t : DA) : DIt := fun ρ M RR => t ρ M fun xs M1 => ∃ j : Int, xs = [.int j] ∧ -(2 ^ 62) ≤ j ∧ j < 2 ^ 62 ∧ RR (intsD 0 j.toNat) (fun _ => True) M1
def dIr2 (t : DA) : DIt := fun ρ M RR => t ρ M fun xs M1 => ∃ i j : Int, xs = [.int i, .int j] ∧ (-(2 ^ 62) ≤ i ∧ i < 2 ^ 62 ∧ -(2 ^ 62) ≤ j ∧ j < 2 ^ 62) ∧ RR (intsD i (j - i).toNat) (fun _ => True) M1
theorem di_range1 {a : Expr} {t : DA} {p pos : Pos} (hm : X.mg "range" = none) (ha : DAr X G [a] t) (hg : Gl X "range" := by rfl) (hs : starEach [a] X.env = [(false, eval a X.env)] := by rfl) : DI X G tg (.Call (.Name "range" p) [a] [] pos) (dIr1 t) :=
  PI.imp (pi_range1 hg hm ha hs) fun σ H RR ⟨ρ, M, DQ, s, h, k⟩ => tAr.of s h fun xs M1 vs H1 f s1 g ⟨j, e, h1, h2, q⟩ => by
    subst e
    obtain ⟨v, rfl, g1⟩ := g.one
    cases g1
    exact ⟨j, rfl, h1, h2, k _ _ _ _ _ f s1.mem (walk_rng _ _) q⟩
theorem di_range2 {a b : Expr} {t : DA} {p pos : Pos} (hm : X.mg "range" = none) (ha : DAr X G [a, b] t) (hg : Gl X "range" := by rfl) (hs : starEach [a, b] X.env = [(false, eval a X.env), (false, eval b X.env)] := by rfl) (hs2 : starEach [b] X.env = [(false, eval b X.env)] := by rfl) :
    DI X G tg (.Call (.Name "range" p) [a, b] [] pos) (dIr2 t) :=
  PI.imp (pi_range2 hg hm ha hs hs2) fun σ H RR ⟨ρ, M, DQ, s, h, k⟩ => tAr.of s h fun xs M1 vs H1 f s1 g ⟨i, j, e, h1, q⟩ => by
    subst e
    obtain ⟨v, w, rfl, g1, g2⟩ := g.two
    cases g1; cases g2
    exact ⟨i, j, rfl, h1, k _ _ _ _ _ f s1.mem (walk_rng _ _) q⟩
/-- enumerate(l) -/
def nums (xs : List D) : List D := (xs.zipIdx).map fun p => D.tup [.int (p.2 : Nat), p.1]
def dIen (t : DA) : DIt := fun ρ M RR => t ρ M fun ys M1 => ∃ x xs, ys = [x] ∧ lv M1 x = some xs ∧ RR (nums xs) (fun M' => lv M' x = some xs) M1
theorem nums_get {xs : List D} {i : Nat} {d : D} (h : (nums xs)[i]? = some d) : ∃ x, xs[i]? = some x ∧ d = .tup [.int (i : Nat), x] := by
  unfold nums at h
  rw [List.getElem?_map, List.getElem?_zipIdx] at h
  cases e : xs[i]? with
  | none => rw [e] at h; cases h
  | some x => rw [e] at h; simp at h; exact ⟨x, rfl, h.symm⟩
theorem nums_len {xs : List D} : (nums xs).length = xs.length := by simp [nums]
theorem di_enum {elts : List Expr} {kk : Nat} {tpos p pos : Pos} {e : Expr} {t : DA} (hm : X.mg "enumerate" = none) (ha : DAr X G [e] t) (hg : Gl X "enumerate" := by rfl)
    (h : ∀ {ta : TA}, PA X [e] ta → PI X (.Tuple elts kk tpos) (.Call (.Name "enumerate" p) [e] [] pos) (iEnum X.K ta) := by exact fun h => pi_enum (by rfl) (by assumption) h) : DI X G (.Tuple elts kk tpos) (.Call (.Name "enumerate" p) [e] [] pos) (dIen t) :=
  PI.imp (h ha) fun σ H RR ⟨ρ, M, DQ, s, h, k⟩ => tAr.of s h fun xs M1 vs H1 f s1 g ⟨x, ys, e, e2, q⟩ => by
    subst e
    obtain ⟨v, rfl, g1⟩ := g.one
    obtain ⟨a, us, rfl, sq, z⟩ := lv_sound s1.mem g1 e2
    have key : ∀ M' H', Fr M1 H1 M' H' → Rel (rx X) M' H' → lv M' x = some ys → ∃ vs, SqL X.K H' a vs ∧ DvAll (rx X) M' H' vs ys := fun M' H' f r' c => by
      obtain ⟨b, vs, e1, q, z⟩ := lv_sound r' (g1.fr f) c
      cases e1
      exact ⟨vs, q, z⟩
    refine ⟨a, us, rfl, sq, k _ _ _ _ _ f s1.mem ⟨fun i M' H' d f r' c hi => ?_, fun M' H' f r' c => ?_⟩ q⟩
    · obtain ⟨vs, q, z⟩ := key M' H' f r' c
      obtain ⟨y, hy, rfl⟩ := nums_get hi
      obtain ⟨v, hv, dv⟩ := z.get' hy
      refine ⟨⟨vs, v, q, hv⟩, fun y' H'' ⟨T, w, e1, hT, e2, e3⟩ => ?_⟩
      subst e1 e2
      have := e3 vs q
      rw [hv] at this
      cases this
      obtain ⟨r2, d2⟩ := new_tup r' hT (DvAll.cons (.int ((i : Nat) : Int)) (.cons dv .nil))
      exact ⟨Fr.laid hT, r2, d2⟩
    · obtain ⟨vs, q, z⟩ := key M' H' f r' c
      exact ⟨vs, q, by rw [z.length, nums_len]; exact Nat.le_refl _⟩
/-- zip of two tuples, of two lists that are not changed -/
def pairs (xs ys : List D) : List D := (xs.zip ys).map fun p => D.tup [p.1, p.2]
theorem pairs_get {xs ys : List D} {i : Nat} {d : D} (h : (pairs xs ys)[i]? = some d) : ∃ x y, xs[i]? = some x ∧ ys[i]? = some y ∧ d = .tup [x, y] := by
  unfold pairs at h
  rw [List.getElem?_map] at h
  cases e : (xs.zip ys)[i]? with
  | none => rw [e] at h; cases h
  | some p =>
    rw [e] at h
    obtain ⟨h1, h2⟩ := List.getElem?_zip_eq_some.mp e
    exact ⟨p.1, p.2, h1, h2, (Option.some.inj h).symm⟩
def dIzt (t : DA) : DIt := fun ρ M RR => t ρ M fun zs M1 => ∃ xs ys, zs = [.tup xs, .tup ys] ∧ RR (pairs xs ys) (fun _ => True) M1
theorem di_zipT {elts : List Expr} {kk : Nat} {tpos p pos : Pos} {e e2 : Expr} {t : DA} (hm : X.mg "zip" = none) (ha : DAr X G [e, e2] t) (hg : Gl X "zip" := by rfl)
    (h : ∀ {ta : TA}, PA X [e, e2] ta → PI X (.Tuple elts kk tpos) (.Call (.Name "zip" p) [e, e2] [] pos) (RZ.iZipA X.K ta) := by exact fun h => RZ.pi_zipA (by rfl) (by assumption) h) : DI X G (.Tuple elts kk tpos) (.Call (.Name "zip" p) [e, e2] [] pos) (dIzt t) :=
  PI.imp (h ha) fun σ H RR ⟨ρ, M, DQ, s, h, k⟩ => tAr.of s h fun zs M1 vs H1 f s1 g ⟨xs, ys, e, q⟩ => by
    subst e
    obtain ⟨v, w, rfl, g1, g2⟩ := g.two
    obtain ⟨a, us, rfl, sq, z⟩ := g1.sqt
    obtain ⟨b, ws, rfl, sq2, z2⟩ := g2.sqt
    refine ⟨a, b, us, ws, rfl, .inr ⟨sq, sq2, k _ _ _ _ _ f s1.mem ⟨fun i M' H' d f r' c hi => ?_, fun M' H' f r' c => ?_⟩ q⟩⟩
    · obtain ⟨x, y, hx, hy, rfl⟩ := pairs_get hi
      obtain ⟨a', us', e1, q1, z1⟩ := (g1.fr f).sqt
      cases e1
      obtain ⟨b', ws', e1, q2, z2⟩ := (g2.fr f).sqt
      cases e1
      obtain ⟨v, hv, dv⟩ := z1.get' hx
      obtain ⟨w, hw, dw⟩ := z2.get' hy
      refine ⟨⟨us', ws', v, w, q1, q2, hv, hw⟩, fun y' H'' ⟨T, v', w', e1, hT, e2, e3, e4⟩ => ?_⟩
      subst e1 e2
      have a1 := e3 us' q1
      have a2 := e4 ws' q2
      rw [hv] at a1
      rw [hw] at a2
      cases a1; cases a2
      obtain ⟨r2, d2⟩ := new_tup r' hT (DvAll.cons dv (.cons dw .nil))
      exact ⟨Fr.laid hT, r2, d2⟩
    · obtain ⟨a', us', e1, q1, z1⟩ := (g1.fr f).sqt
      cases e1
      obtain ⟨b', ws', e1, q2, z2⟩ := (g2.fr f).sqt
      cases e1
      refine ⟨us', ws', q1, q2, ?_⟩
      rw [z1.length, z2.length]
      simp only [pairs, List.length_map, List.length_zip]
      omega
end

/-! ### for, while -/
def dFor (di : DIt) (g : DGt) (tb : DS) : DS := fun DD ρ M => di ρ M fun items C M1 => ∃ Iv : Nat → Rh → Mp → Prop, Iv 0 ρ M1 ∧ (∀ i ρ M, Iv i ρ M → C M) ∧
  (∀ i x ρ M, items[i]? = some x → Iv i ρ M → g x ρ M fun ρ2 M2 => tb { DD with nx := Iv (i + 1), ct := Iv (i + 1), bk := DD.nx } ρ2 M2) ∧ ∀ ρ M, Iv items.length ρ M → DD.nx ρ M
section
variable {X : Cx} {G : Gx} {pos : Pos}
theorem dFor_sound {R : Rx} {di : DIt} {g : DGt} {tb : DS} {D : Ends} {σ : L2.St} {H : Hp} (h : tSt R G (dFor di g tb) D σ H) : tFor (tIt R G di) (tGt R G g) (tSt R G tb) D σ H := by
  obtain ⟨ρ, M, DD, s, h, k⟩ := h
  refine ⟨ρ, M, _, s, h, fun items C M1 H1 J f1 r1 w ⟨Iv, i0, hC, hs, hd⟩ => ?_⟩
  refine ⟨fun i m σ H => m = items.length - i ∧ i ≤ items.length ∧ ∃ ρ' M', Sr R G ρ' M' σ H ∧ Fr M1 H1 M' H ∧ Iv i ρ' M', ⟨items.length, by simp, Nat.zero_le _, ρ, M1, s.step f1 r1, Fr.refl, i0⟩, ?_⟩
  rintro i m σ' H' ⟨rfl, hi, ρ', M', s', f', inv⟩
  by_cases hlt : i < items.length
  · have hx : items[i]? = some items[i] := by simp [hlt]
    obtain ⟨go, yl⟩ := w.step i M' H' _ f' s'.mem (hC _ _ _ inv) hx
    refine .inr ⟨go, fun σ2 H2 => ∃ ρ2 M2, Sr R G ρ2 M2 σ2 H2 ∧ Fr M1 H1 M2 H2 ∧ Iv (i + 1) ρ2 M2, fun σ2 H2 ⟨ρ2, M2, s2, f2, inv2⟩ => ⟨_, Nat.sub_lt_sub_left hlt (Nat.lt_succ_self i), rfl, hlt, ρ2, M2, s2, f2, inv2⟩, fun x H2 y => ?_⟩
    obtain ⟨f2, r2, d2⟩ := yl x H2 y
    refine ⟨_, ρ', M', _, s'.step f2 r2, d2, hs i _ ρ' M' hx inv, fun ρ3 M3 σ3 H3 f3 s3 q3 => ?_⟩
    have f13 := (f'.trans f2).trans f3
    exact ⟨ρ3, M3, _, s3, q3, fun ρ4 M4 σ4 H4 f4 s4 q4 => ⟨ρ4, M4, s4, f13.trans f4, q4⟩, (k.rt.step f1).step f13, fun ρ4 M4 σ4 H4 f4 s4 q4 => k.nx _ _ _ _ (f1.trans (f13.trans f4)) s4 q4, fun ρ4 M4 σ4 H4 f4 s4 q4 => ⟨ρ4, M4, s4, f13.trans f4, q4⟩⟩
  · have e : i = items.length := by omega
    subst e
    exact .inl ⟨w.stop M' H' f' s'.mem (hC _ _ _ inv), k.nx _ _ _ _ (f1.trans f') s' (hd _ _ inv)⟩
theorem ds_for {tg iter : Expr} {body : List Stmt} {di : DIt} {g : DGt} {tb : DS} (hp : PassesOwn (model X.prog X.w) X.A X.env X.xe) (hc : X.calm = true) (hi : DI X G tg iter di) (hg : DG X G tg g) (hb : DSs X G body tb)
    (hs : ∀ x, foldedSetIterable iter X.env x = pure x := by intro _; rfl) : DSt X G (.For tg iter body [] pos) (dFor di g tb) :=
  PS.imp (ps_for hp hc hi hg hb hs) fun D σ H h => dFor_sound h
def dWhile (c : DB) (tb : DS) : DS := fun DD ρ M => ∃ W : Nat → Rh → Mp → Prop, (∃ m, W m ρ M) ∧ ∀ m ρ M, W m ρ M →
  c ρ M fun b M1 => if b = true then tb { DD with nx := fun ρ' M' => ∃ m', m' < m ∧ W m' ρ' M', ct := fun ρ' M' => ∃ m', m' < m ∧ W m' ρ' M', bk := DD.nx } ρ M1 else DD.nx ρ M1
theorem ds_while {c : Expr} {body : List Stmt} {tc : DB} {tb : DS} (hp : PassesOwn (model X.prog X.w) X.A X.env X.xe) (hc : DTt X G c tc) (hb : DSs X G body tb) : DSt X G (.While c body [] pos) (dWhile tc tb) :=
  PS.imp (ps_while hp hc hb) fun D σ H ⟨ρ, M, DD, s, ⟨W, ⟨m0, w0⟩, turn⟩, k⟩ => by
    refine ⟨fun m σ' H' => ∃ ρ' M', Sr (rx X) G ρ' M' σ' H' ∧ Fr M H M' H' ∧ W m ρ' M', ⟨m0, ρ, M, s, Fr.refl, w0⟩, fun m σ' H' ⟨ρ', M', s', f', w'⟩ => ?_⟩
    refine tBo.of s' (turn m ρ' M' w') fun b M1 H1 f1 s1 q => ?_
    have f01 := f'.trans f1
    cases b with
    | false => rw [if_neg Bool.false_ne_true] at q ⊢; exact k.nx _ _ _ _ f01 s1 q
    | true =>
      rw [if_pos rfl] at q ⊢
      refine ⟨fun σ2 H2 => ∃ m', m' < m ∧ ∃ ρ2 M2, Sr (rx X) G ρ2 M2 σ2 H2 ∧ Fr M H M2 H2 ∧ W m' ρ2 M2, fun σ2 H2 z => z, ρ', M1, _, s1, q, ?_⟩
      exact ⟨fun ρ4 M4 σ4 H4 f4 s4 ⟨m', hm, w4⟩ => ⟨m', hm, ρ4, M4, s4, f01.trans f4, w4⟩, k.rt.step f01, fun ρ4 M4 σ4 H4 f4 s4 q4 => k.nx _ _ _ _ (f01.trans f4) s4 q4, fun ρ4 M4 σ4 H4 f4 s4 ⟨m', hm, w4⟩ => ⟨m', hm, ρ4, M4, s4, f01.trans f4, w4⟩⟩
end

/-! ### list comprehensions -/
/-- a comprehension's target: a name, a tuple of names -/
inductive CT where
  | one (i : Nat)
  | tup (is : List Nat)
def gNs : List Nat → TGs
  | [] => L2.gNil
  | i :: is => L2.gCons (gName i) (gNs is)
def CT.tg (K : PySem.W.Frag) : CT → TG
  | .one i => gName i
  | .tup is => gTup K is.length (gNs is)
def CT.ix : CT → List Nat
  | .one i => [i]
  | .tup is => is
def setAll : List Nat → List D → Rh → Rh
  | i :: is, x :: xs, ρ => setAll is xs (ρ.set i (some x))
  | _, _, ρ => ρ
def CT.put : CT → D → Rh → Option Rh
  | .one i, x, ρ => some (ρ.set i (some x))
  | .tup is, .tup xs, ρ => if xs.length = is.length then some (setAll is xs ρ) else none
  | _, _, _ => none
def wipeD (ρ : Rh) : List Nat → Rh
  | [] => ρ
  | v :: vs => (wipeD ρ vs).set v none
section
variable {R : Rx} {G : Gx} {ρ : Rh} {M : Mp} {σ : L2.St} {H : Hp}
theorem wipeD_length (ρ : Rh) : ∀ vs : List Nat, (wipeD ρ vs).length = ρ.length
  | [] => rfl
  | v :: vs => by unfold wipeD; rw [List.length_set, wipeD_length ρ vs]
theorem Sr.none (s : Sr R G ρ M σ H) (i : Nat) : Sr R G (ρ.set i none) M (σ.set i none) H := by
  refine ⟨by simp [s.len], fun j e h => ?_, s.mem, s.exc⟩
  by_cases q : i = j
  · subst q
    by_cases hl : i < ρ.length
    · rw [List.getElem?_set_self hl] at h; cases h
    · rw [List.getElem?_eq_none (by simpa using hl)] at h; cases h
  · rw [List.getElem?_set_ne q] at h
    obtain ⟨u, h1, h2⟩ := s.env j e h
    exact ⟨u, by rw [List.getElem?_set_ne q]; exact h1, h2⟩
theorem Sr.wipe (s : Sr R G ρ M σ H) : ∀ vs : List Nat, Sr R G (wipeD ρ vs) M (L2.wipe σ vs) H
  | [] => s
  | v :: vs => (Sr.wipe s vs).none v
theorem wipe_set {vs : List Nat} {i : Nat} (hi : i ∈ vs) (σ : L2.St) (v : Option V) : L2.wipe (σ.set i v) vs = L2.wipe σ vs := by
  induction vs with
  | nil => cases hi
  | cons j vs ih =>
    show (L2.wipe (σ.set i v) vs).set j none = (L2.wipe σ vs).set j none
    by_cases h : i ∈ vs
    · rw [ih h]
    · have e : i = j := by rcases List.mem_cons.mp hi with e | e; exact e; exact absurd e h
      subst e
      have : ∀ vs : List Nat, i ∉ vs → L2.wipe (σ.set i v) vs = (L2.wipe σ vs).set i v := fun vs => by
        induction vs with
        | nil => intro _; rfl
        | cons k ks ih2 =>
          intro hk
          have h1 : i ≠ k := fun e => hk (by simp [e])
          have h2 : i ∉ ks := fun e => hk (by simp [e])
          show (L2.wipe (σ.set i v) ks).set k none = ((L2.wipe σ ks).set k none).set i v
          rw [ih2 h2, List.set_comm _ _ h1]
      rw [this vs h, List.set_set]
theorem wipe_wipe {vs : List Nat} (σ : L2.St) : L2.wipe (L2.wipe σ vs) vs = L2.wipe σ vs := by
  have : ∀ ws : List Nat, (∀ w ∈ ws, w ∈ vs) → L2.wipe (L2.wipe σ ws) vs = L2.wipe σ vs := fun ws => by
    induction ws with
    | nil => intro _; rfl
    | cons w ws ih =>
      intro h
      show L2.wipe ((L2.wipe σ ws).set w none) vs = _
      rw [wipe_set (h w (by simp)), ih fun x hx => h x (by simp [hx])]
  exact this vs fun _ h => h
/-- the names of a tuple are set one by one -/
theorem gNs_sound {own : List Nat} {Q : L2.St → Hp → Prop} : ∀ {is : List Nat} {vs : List V} {xs : List D} {ρ : Rh} {σ : L2.St}, Sr R G ρ M σ H → DvAll R M H vs xs → xs.length = is.length → (∀ i ∈ is, i ∈ own) →
    (∀ σ', Sr R G (setAll is xs ρ) M σ' H → L2.wipe σ' own = L2.wipe σ own → Q σ' H) → gNs is vs σ H Q
  | [], _, [], _, _, s, .nil, _, _, k => ⟨rfl, k _ s rfl⟩
  | i :: is, _, x :: xs, ρ, σ, s, .cons g1 g2, e, h, k => ⟨_, _, rfl, gNs_sound (s.set g1) g2 (Nat.succ.inj e) (fun j hj => h j (by simp [hj])) fun σ' s' w => k σ' s' (by rw [w, wipe_set (h i (by simp))])⟩
  | [], _, _ :: _, _, _, _, _, e, _, _ => by cases e
  | _ :: _, _, [], _, _, _, _, e, _, _ => by cases e
theorem CT.sound {ct : CT} {own : List Nat} {v : V} {x : D} {ρ2 : Rh} {Q : L2.St → Hp → Prop} (s : Sr R G ρ M σ H) (g : Dv R M H v x) (e : ct.put x ρ = some ρ2) (h : ∀ i ∈ ct.ix, i ∈ own)
    (k : ∀ σ', Sr R G ρ2 M σ' H → L2.wipe σ' own = L2.wipe σ own → Q σ' H) : ct.tg R.K v σ H Q := by
  cases ct with
  | one i => cases e; exact k _ (s.set g) (wipe_set (h i (by simp [CT.ix])) _ _)
  | tup is =>
    cases x with
    | tup xs =>
      have e : (if xs.length = is.length then some (setAll is xs ρ) else none) = some ρ2 := e
      by_cases hl : xs.length = is.length
      · rw [if_pos hl] at e
        cases e
        obtain ⟨a, vs, rfl, sq, z⟩ := g.sqt
        exact ⟨a, vs, rfl, sq, by rw [z.length]; exact hl, gNs_sound s z hl h k⟩
      · rw [if_neg hl] at e; cases e
    | _ => cases e
end
/-- [e for t in it if c]: the list stands at p while it is made -/
def dLcG (fin : Addr → List D → Mp → DK → Prop) (di : DIt) (ct : CT) (own : List Nat) (tt : DB) (te : DT) : DT := fun ρ M Q => di ρ M fun items C M1 => items.length ≤ sizeLine ∧ ∀ p, M1 p = none → ∃ Iv : Nat → List D → Mp → Prop, Iv 0 [] M1 ∧
  (∀ i ys M, Iv i ys M → M p = none ∧ C (upm M p (.lst ys)) ∧ ys.length ≤ i) ∧
  (∀ i x ys M, items[i]? = some x → Iv i ys M → ∃ ρ2, ct.put x (wipeD ρ own) = some ρ2 ∧ tt ρ2 (upm M p (.lst ys)) fun b M3 => if b = true then te ρ2 M3 fun y M4 => ∃ M5, M4 = upm M5 p (.lst ys) ∧ Iv (i + 1) (ys ++ [y]) M5 else ∃ M5, M3 = upm M5 p (.lst ys) ∧ Iv (i + 1) ys M5) ∧
  ∀ ys M, Iv items.length ys M → fin p ys M Q
/-- it is no longer changed behind that; it is -/
def dLc : DIt → CT → List Nat → DB → DT → DT := dLcG fun _ ys M Q => Q (.lst ys) M
def dLcO : DIt → CT → List Nat → DB → DT → DT := dLcG fun p ys M Q => Q (.ref p) (upm M p (.lst ys))
def dYes : DB := fun _ M Q => Q true M
theorem upm_upm {M : Mp} {p : Addr} {a b : MO} : upm (upm M p a) p b = upm M p b := by
  funext x
  by_cases h : x = p
  · subst h; rw [upm_same, upm_same]
  · rw [upm_ne h, upm_ne h, upm_ne h]
theorem del_upm {M : Mp} {p : Addr} {a : MO} (h : M p = none) : del (upm M p a) p = M := by
  funext x
  by_cases e : x = p
  · subst e; rw [del_same, h]
  · rw [del_ne e, upm_ne e]
section
variable {X : Cx} {G : Gx} {elt tg iter : Expr} {ifs : List Expr} {scope : Scope} {own : List (Str × Nat)} {pos : Pos} {di : DIt} {ct : CT} {tt : DB} {te : DT}
abbrev DTs (X : Cx) (G : Gx) (ifs : List Expr) (d : DB) : Prop := PTs X ifs (tBo (rx X) G d)
theorem PTs.imp {X : Cx} {e : List Expr} {t t' : TT} (h : PTs X e t) (i : ∀ σ H Q, t' σ H Q → t σ H Q) : PTs X e t' := ⟨fun pins s σ H Q I q => h.run pins s σ H Q I (i σ H Q q)⟩
theorem dts_nil : DTs X G [] dYes := PTs.imp pts_nil fun σ H Q ⟨ρ, M, DQ, s, h, k⟩ => k _ _ _ Fr.refl s.mem h
theorem dts_one {c : Expr} {t : DB} (h : DTt X G c t) : DTs X G [c] t := pts_one h
theorem dLcG_sound {R : Rx} {fin : Addr → List D → Mp → DK → Prop} {os : List Nat} {σ : L2.St} {H : Hp} {Q : VK} (hct : ∀ i ∈ ct.ix, i ∈ os)
    (hf : ∀ {p ys M H DQ Q}, Rel R (upm M p (.lst ys)) H → M p = none → fin p ys M DQ → Post R (upm M p (.lst ys)) H DQ Q → Q (.ref p) H)
    (h : tE R G (dLcG fin di ct os tt te) σ H Q) : tLc (tIt R G di) (ct.tg R.K) (tBo R G0 tt) (tE R G0 te) os σ H Q := by
  obtain ⟨ρ, M, DQ, s, h, k⟩ := h
  refine ⟨ρ, M, _, s, h, fun items C M1 H1 J f1 r1 w ⟨hz, hp⟩ => fun p hpH => ?_⟩
  obtain ⟨Iv, i0, hC, hs, hd⟩ := hp p (r1.fresh hpH)
  have s1 := (s.step f1 r1).exc0
  have fm : Fr M1 H1 (upm M1 p (.lst [])) (upd H1 p (.lst [])) := Fr.made hpH
  have rm : Rel R (upm M1 p (.lst [])) (upd H1 p (.lst [])) := new_lstO r1 hpH .nil
  refine ⟨fun i m H => m = items.length - i ∧ i ≤ items.length ∧ ∃ ys M', Fr M1 H1 (upm M' p (.lst ys)) H ∧ Rel R (upm M' p (.lst ys)) H ∧ Iv i ys M', ⟨items.length, by simp, Nat.zero_le _, [], M1, fm, rm, i0⟩, ?_⟩
  rintro i m H' ⟨rfl, hi, ys, M', f', r', inv⟩
  obtain ⟨hpn, hc, hyl⟩ := hC i ys M' inv
  by_cases hlt : i < items.length
  · have hx : items[i]? = some items[i] := by simp [hlt]
    obtain ⟨go, yl⟩ := w.step i _ H' _ f' r' hc hx
    refine .inr ⟨go, fun H2 => ∃ ys M2, Fr M1 H1 (upm M2 p (.lst ys)) H2 ∧ Rel R (upm M2 p (.lst ys)) H2 ∧ Iv (i + 1) ys M2, fun H2 ⟨ys2, M2, f2, r2, inv2⟩ => ⟨_, Nat.sub_lt_sub_left hlt (Nat.lt_succ_self i), rfl, hlt, ys2, M2, f2, r2, inv2⟩, fun x H2 y => ?_⟩
    obtain ⟨f2, r2, d2⟩ := yl x H2 y
    obtain ⟨ρ2, e2, q⟩ := hs i _ ys M' hx inv
    have s2 := (s1.step (f'.trans f2) r2).wipe os
    refine CT.sound (own := os) s2 d2 e2 hct fun σ3 s3 w3 => ⟨by rw [w3, wipe_wipe], tBo.of s3 q fun b M3 H3 f3 s4 q3 => ?_⟩
    have f13 := (f'.trans f2).trans f3
    cases b with
    | false =>
      rw [if_neg Bool.false_ne_true] at q3 ⊢
      obtain ⟨M5, e5, inv5⟩ := q3
      subst e5
      exact ⟨ys, M5, f13, s4.mem, inv5⟩
    | true =>
      rw [if_pos rfl] at q3 ⊢
      refine tE.of s4 q3 fun z M4 u H4 f4 s5 g4 ⟨M5, e5, inv5⟩ => ?_
      subst e5
      obtain ⟨vs, h5, z5⟩ := s5.mem.lst (p := p) (xs := ys) upm_same
      refine ⟨vs, h5, by rw [z5.length]; omega, ys ++ [z], M5, ?_⟩
      obtain ⟨r6, f6⟩ := put_lst s5.mem (p := p) (xs := ys) upm_same (z5.append (.cons g4 .nil))
      rw [upm_upm] at r6 f6
      exact ⟨(f13.trans f4).trans f6, r6, inv5⟩
  · have e : i = items.length := by omega
    subst e
    exact .inl ⟨w.stop _ H' f' r' hc, hf r' hpn (hd _ _ inv) (k.step (f1.trans f'))⟩
theorem fin_lc {R : Rx} {p : Addr} {ys : List D} {M : Mp} {H : Hp} {DQ : DK} {Q : VK} (r : Rel R (upm M p (.lst ys)) H) (hp : M p = none) (q : DQ (.lst ys) M) (k : Post R (upm M p (.lst ys)) H DQ Q) : Q (.ref p) H := by
  have fr : Fr (upm M p (.lst ys)) H (del (upm M p (.lst ys)) p) H := Fr.subR Sub.del
  have g := froz_dv r (p := p) (o := .lst ys) upm_same rfl
  have r2 := r.sub Sub.del fr
  rw [del_upm hp] at fr g r2
  exact k _ _ _ _ fr r2 g q
theorem de_lc (hc : X.calm = true) (hN : X.N.Nodup) (hi : DI X G tg iter di) (ok : BlkOk X.N X.env.scope scope own)
    (hg : ∀ (s : Shared) (H : Hp) (C : Addr) (cl : List (Str × Addr)) (fp : List Addr), PG (X.blk s H scope (compEnvC scope cl C X.env) fp) tg (ct.tg X.K)) (ht : ∀ (s : Shared) (H : Hp) (C : Addr) (cl : List (Str × Addr)) (fp : List Addr), DTs (X.blk s H scope (compEnvC scope cl C X.env) fp) G0 ifs tt)
    (he : ∀ (s : Shared) (H : Hp) (C : Addr) (cl : List (Str × Addr)) (fp : List Addr), DE (X.blk s H scope (compEnvC scope cl C X.env) fp) G0 elt te) (hct : ∀ i ∈ ct.ix, i ∈ own.map (·.2) := by decide) (hs : ∀ x, foldedSetIterable iter X.env x = pure x := by intro _; rfl) :
    DE X G (.ListComp elt [⟨tg, iter, ifs, 0⟩] scope pos) (dLc di ct (own.map (·.2)) tt te) :=
  PE.imp (pe_lc hc hN hi ok hg ht he hs) fun σ H Q h => dLcG_sound hct (fun r hp q k => fin_lc r hp q k) h
theorem de_lcO (hc : X.calm = true) (hN : X.N.Nodup) (hi : DI X G tg iter di) (ok : BlkOk X.N X.env.scope scope own)
    (hg : ∀ (s : Shared) (H : Hp) (C : Addr) (cl : List (Str × Addr)) (fp : List Addr), PG (X.blk s H scope (compEnvC scope cl C X.env) fp) tg (ct.tg X.K)) (ht : ∀ (s : Shared) (H : Hp) (C : Addr) (cl : List (Str × Addr)) (fp : List Addr), DTs (X.blk s H scope (compEnvC scope cl C X.env) fp) G0 ifs tt)
    (he : ∀ (s : Shared) (H : Hp) (C : Addr) (cl : List (Str × Addr)) (fp : List Addr), DE (X.blk s H scope (compEnvC scope cl C X.env) fp) G0 elt te) (hct : ∀ i ∈ ct.ix, i ∈ own.map (·.2) := by decide) (hs : ∀ x, foldedSetIterable iter X.env x = pure x := by intro _; rfl) :
    DE X G (.ListComp elt [⟨tg, iter, ifs, 0⟩] scope pos) (dLcO di ct (own.map (·.2)) tt te) :=
  PE.imp (pe_lc hc hN hi ok hg ht he hs) fun σ H Q h => dLcG_sound hct (fun r hp q k => k _ _ _ _ Fr.refl r (.ref _) q) h
/-- y = [..] -/
theorem ds_setLc (i : Nat) {y : Str} {py spos : Pos} (hc : X.calm = true) (hN : X.N.Nodup) (hy : X.N[i]? = some y) (hyl : X.env.scope.names.lookup y = some .local)
    (hsw : swapsWith (.ListComp elt [⟨tg, iter, ifs, 0⟩] scope pos) (some (.Name y py)) spos.line X.env = pure true) (hi : DI X G tg iter di) (ok : BlkOk X.N X.env.scope scope own)
    (hg : ∀ (s : Shared) (H : Hp) (C : Addr) (cl : List (Str × Addr)) (fp : List Addr), PG (X.blk s H scope (compEnvC scope cl C X.env) fp) tg (ct.tg X.K)) (ht : ∀ (s : Shared) (H : Hp) (C : Addr) (cl : List (Str × Addr)) (fp : List Addr), DTs (X.blk s H scope (compEnvC scope cl C X.env) fp) G0 ifs tt)
    (he : ∀ (s : Shared) (H : Hp) (C : Addr) (cl : List (Str × Addr)) (fp : List Addr), DE (X.blk s H scope (compEnvC scope cl C X.env) fp) G0 elt te) (hct : ∀ i ∈ ct.ix, i ∈ own.map (·.2) := by decide) (hs : ∀ x, foldedSetIterable iter X.env x = pure x := by intro _; rfl) :
    DSt X G (.Assign [.Name y py] (.ListComp elt [⟨tg, iter, ifs, 0⟩] scope pos) spos) (dSet i (dLc di ct (own.map (·.2)) tt te)) :=
  PS.imp (ps_setLc hc hN hy hyl hsw hi ok hg ht he hs) fun D σ H ⟨ρ, M, DD, s, h, k⟩ => by
    refine dLcG_sound hct (fun r hp q k => fin_lc r hp q k) (Q := fun x H1 => gName i x σ H1 D.nx) ⟨ρ, M, fun x M1 => DD.nx (ρ.set i (some x)) M1, s, h, fun x M' v H' f r g q => k.nx _ _ _ _ f ((s.step f r).set g) q⟩
theorem ds_setLcO (i : Nat) {y : Str} {py spos : Pos} (hc : X.calm = true) (hN : X.N.Nodup) (hy : X.N[i]? = some y) (hyl : X.env.scope.names.lookup y = some .local)
    (hsw : swapsWith (.ListComp elt [⟨tg, iter, ifs, 0⟩] scope pos) (some (.Name y py)) spos.line X.env = pure true) (hi : DI X G tg iter di) (ok : BlkOk X.N X.env.scope scope own)
    (hg : ∀ (s : Shared) (H : Hp) (C : Addr) (cl : List (Str × Addr)) (fp : List Addr), PG (X.blk s H scope (compEnvC scope cl C X.env) fp) tg (ct.tg X.K)) (ht : ∀ (s : Shared) (H : Hp) (C : Addr) (cl : List (Str × Addr)) (fp : List Addr), DTs (X.blk s H scope (compEnvC scope cl C X.env) fp) G0 ifs tt)
    (he : ∀ (s : Shared) (H : Hp) (C : Addr) (cl : List (Str × Addr)) (fp : List Addr), DE (X.blk s H scope (compEnvC scope cl C X.env) fp) G0 elt te) (hct : ∀ i ∈ ct.ix, i ∈ own.map (·.2) := by decide) (hs : ∀ x, foldedSetIterable iter X.env x = pure x := by intro _; rfl) :
    DSt X G (.Assign [.Name y py] (.ListComp elt [⟨tg, iter, ifs, 0⟩] scope pos) spos) (dSet i (dLcO di ct (own.map (·.2)) tt te)) :=
  PS.imp (ps_setLc hc hN hy hyl hsw hi ok hg ht he hs) fun D σ H ⟨ρ, M, DD, s, h, k⟩ => by
    refine dLcG_sound hct (fun r hp q k => k _ _ _ _ Fr.refl r (.ref _) q) (Q := fun x H1 => gName i x σ H1 D.nx) ⟨ρ, M, fun x M1 => DD.nx (ρ.set i (some x)) M1, s, h, fun x M' v H' f r g q => k.nx _ _ _ _ f ((s.step f r).set g) q⟩
end

/-! ### a def keeps its promise -/
def startD (N : List Str) (ds : List D) : Rh := ds.map some ++ List.replicate (N.length - ds.length) none
theorem start_sr {R : Rx} {G : Gx} {M : Mp} {H : Hp} {N : List Str} {vs : List V} {ds : List D} (r : Rel R M H) (g : DvAll R M H vs ds) (x : PostX R M H G.dx G.E) : Sr R G (startD N ds) M (L2.start N vs) H := by
  refine ⟨by simp [startD, L2.start, g.length], fun i d h => ?_, r, x⟩
  unfold startD at h
  unfold L2.start
  by_cases hi : i < ds.length
  · rw [List.getElem?_append_left (by simpa using hi), List.getElem?_map] at h
    cases e : ds[i]? with
    | none => rw [e] at h; cases h
    | some d' =>
      rw [e] at h
      cases h
      obtain ⟨v, hv, gv⟩ := g.get' e
      exact ⟨v, by rw [List.getElem?_append_left (by simpa [g.length] using hi), List.getElem?_map, hv]; rfl, gv⟩
  · rw [List.getElem?_append_right (by simpa using hi)] at h
    have := List.mem_of_getElem? h
    have := List.eq_of_mem_replicate this
    cases this
/-- what is wanted at a def's end: what was local is let go -/
def endD (Q : DK) : DEnds := { nx := fun _ M' => ∃ M'', Sub M'' M' ∧ Q .non M'', rt := fun x M' => ∃ M'', Sub M'' M' ∧ Q x M'' }
theorem endD_sound {R : Rx} {G : Gx} {M : Mp} {H : Hp} {DQ : DK} {Q : VK} (k : Post R M H DQ Q) : EndsR R G M H (endD DQ) { nx := fun _ H' => Q .non H', rt := Q } := by
  refine ⟨fun ρ' M' σ' H' f s ⟨M2, u, q⟩ => ?_, fun x M' v H' f r g ⟨M2, u, q⟩ => ?_, fun _ _ _ _ _ _ z => z.elim, fun _ _ _ _ _ _ z => z.elim⟩
  · have f2 : Fr M' H' M2 H' := Fr.subR u
    exact k _ _ _ _ (f.trans f2) (s.mem.sub u f2) .non q
  · have f2 : Fr M' H' M2 H' := Fr.subR u
    exact k _ _ _ _ (f.trans f2) (r.sub u f2) (g.fr f2) q
section
variable {P : Program} {w : World} {K : PySem.W.Frag} {mg : Str → Option Value} {base : Heap} {x qual : Str} {st : Stmt} {f : Addr} {fd : FuncData} {N ps : List Str} {k : Nat} {S : DSp}
/-- a def that lets no exception out -/
theorem fnD (F : Fun K x qual st f fd) (sc : FnScope N ps (defScope st)) (len : ∀ ds M DQ dx, S ds M DQ dx → ds.length = ps.length) (d : DS)
    (hd : ∀ (cdv : Value) (A : Around) (outer : List Env) (s : Shared) (H : Hp) (E : XK), Room k (A.deeper (envOfC qual (defScope st) s.heap.objs.size f cdv)) → DSs (cxOf CX0 P w K mg base N qual (defScope st) f cdv A outer s H E).nox G0 (defBody st) d)
    (hb : ∀ ds M DQ dx, S ds M DQ dx → d (endD DQ) (startD N ds) M) : FnOk P w K mg base CX0 (k + 1) f fd ps (spD ⟨P, w, K⟩ S) := by
  refine F.ok sc (fun vs H Q E ⟨ds, M, DQ, dx, r, g, h, _, _⟩ => by rw [g.length]; exact len _ _ _ _ h) fun cdv A outer s H vs Q E hr ⟨ds, M, DQ, dx, r, g, h, p, px⟩ => ?_
  refine ⟨_, hd cdv A outer s H E hr, startD N ds, M, endD DQ, start_sr r g (fun _ _ _ _ _ _ z => z.elim), hb _ _ _ _ h, endD_sound p⟩
/-- a def that may raise: d is told what is wanted then -/
theorem fnDX (F : Fun K x qual st f fd) (sc : FnScope N ps (defScope st)) (len : ∀ ds M DQ dx, S ds M DQ dx → ds.length = ps.length) (d : DX → DS)
    (hd : ∀ (cdv : Value) (A : Around) (outer : List Env) (s : Shared) (H : Hp) (E : XK) (dx : DX), Room k (A.deeper (envOfC qual (defScope st) s.heap.objs.size f cdv)) → DSs (cxOf (L2.CX P w) P w K mg base N qual (defScope st) f cdv A outer s H E) ⟨dx, E⟩ (defBody st) (d dx))
    (hb : ∀ ds M DQ dx, S ds M DQ dx → d dx (endD DQ) (startD N ds) M) : FnOk P w K mg base (L2.CX P w) (k + 1) f fd ps (spD ⟨P, w, K⟩ S) := by
  refine F.okX sc (fun vs H Q E ⟨ds, M, DQ, dx, r, g, h, _, _⟩ => by rw [g.length]; exact len _ _ _ _ h) fun cdv A outer s H vs Q E hr ⟨ds, M, DQ, dx, r, g, h, p, px⟩ => ?_
  exact ⟨_, hd cdv A outer s H E dx hr, startD N ds, M, endD DQ, start_sr r g px, hb _ _ _ _ h, endD_sound p⟩
end
end DL

/-! What a caller is told of a def, a method, a class. -/
namespace DL
open PySem PySem.Spec PyProof.Rows L2

/-- the module's name x is a def that keeps S -/
def Has (P : Program) (w : World) (K : PySem.W.Frag) (mg : Str → Option Value) (base : Heap) (x : Str) (k : Nat) (S : DSp) : Prop :=
  ∃ (f : Addr) (fd : FuncData) (ps : List Str), mg x = some (.ref f) ∧ PySem.W.keepIn K (.ref f) = true ∧ Binds K fd ps [] ∧ FnOk P w K mg base CX0 k f fd ps (spD ⟨P, w, K⟩ S)
/-- the class at C has a method m that keeps S (its first argument the instance) -/
def HasM (P : Program) (w : World) (K : PySem.W.Frag) (mg : Str → Option Value) (base : Heap) (C : Addr) (m : Str) (k : Nat) (S : DSp) : Prop :=
  Cls K C ∧ ∃ (f : Addr) (fd : FuncData) (ps : List Str), Meth K C m f ∧ Binds K fd ps [] ∧ FnOk P w K mg base CX0 k f fd ps (spD ⟨P, w, K⟩ S)
/-- a property -/
def HasP (P : Program) (w : World) (K : PySem.W.Frag) (mg : Str → Option Value) (base : Heap) (C : Addr) (m : Str) (k : Nat) (S : DSp) : Prop :=
  Cls K C ∧ ∃ (p g : Addr) (fd : FuncData) (ps : List Str), PropOf K C m p g ∧ Binds K fd ps [] ∧ FnOk P w K mg base CX0 k g fd ps (spD ⟨P, w, K⟩ S)
/-- the module's name x is the class at C, whose __init__ keeps S (dvs: what is filled up) -/
def HasC (P : Program) (w : World) (K : PySem.W.Frag) (mg : Str → Option Value) (base : Heap) (x : Str) (C : Addr) (dd : List D) (k : Nat) (S : DSp) : Prop :=
  mg x = some (.ref C) ∧ ∃ (f : Addr) (fd : FuncData) (ps : List Str) (ds : List Value) (dvs : List V), Mk K C f ∧ Binds K fd ps ds ∧ Vals dvs ds ∧ (∀ M H, DvAll ⟨P, w, K⟩ M H dvs dd) ∧ FnOk P w K mg base CX0 k f fd ps (spD ⟨P, w, K⟩ S)
/-- the module's name x is worth d -/
def HasV (P : Program) (w : World) (K : PySem.W.Frag) (mg : Str → Option Value) (x : Str) (d : D) : Prop := ∃ (u : Value) (v : V), mg x = some u ∧ RelV v u ∧ ∀ M H, Dv ⟨P, w, K⟩ M H v d
section
variable {X : Cx} {G : Gx} {j k : Nat} {S : DSp} {x m : Str} {p pos apos : Pos} {o e : Expr} {es : List Expr} {t : DA} {d : DT} {C : Addr}
theorem no0 {X : Cx} {E : XK} : Passes CX0 X E := fun _ _ _ _ _ _ _ h => h.elim
theorem de_callH (h : Has X.prog X.w X.K X.mg X.base x k S) (hr : Room j X.A) (hk : k ≤ j) (ha : DAr X G (e :: es) t) (hg : Gl X x := by rfl) (hdb : (x == ("__debug__" : Str)) = false := by decide)
    (he : starEach (e :: es) X.env = (false, eval e X.env) :: starEach es X.env := by rfl) (hpl : (backTo pos (starEach es X.env)).any (·.1) = false := by rfl) : DE X G (.Call (.Name x p) (e :: es) [] pos) (dCall S [] G.dx t) := by
  obtain ⟨f, fd, ps, hm, hk1, hb, F⟩ := h
  exact de_call F (hr.mono hk) hm hk1 hb .nil (fun _ _ => .nil) no0 ha hg hdb he hpl
theorem de_callH0 (h : Has X.prog X.w X.K X.mg X.base x k S) (hr : Room j X.A) (hk : k ≤ j) (hg : Gl X x := by rfl) (hdb : (x == ("__debug__" : Str)) = false := by decide) : DE X G (.Call (.Name x p) [] [] pos) (dCall S [] G.dx dNil) := by
  obtain ⟨f, fd, ps, hm, hk1, hb, F⟩ := h
  exact de_call0 F (hr.mono hk) hm hk1 hb .nil (fun _ _ => .nil) no0 hg hdb
theorem de_methH {pl : Sem Bool} (h : HasM X.prog X.w X.K X.mg X.base C m k S) (hr : Room j X.A) (hk : k ≤ j) (ho : DE X G o d) (ha : DAr X G (e :: es) t)
    (hst : starEach (e :: es) X.env = (false, eval e X.env) :: starEach es X.env := by rfl) (hpl : (backTo pos (starEach es X.env)).any (·.1) = false := by rfl)
    (ht : eval (.Call (.Attribute o m apos) (e :: es) [] pos) X.env = (do
      let ov ← eval o X.env
      standAt apos.atName
      let (f, first) ← holding [ov] (getMethod ov m pl)
      callWith pos f first (backTo pos (starEach (e :: es) X.env)) (backToKw pos (keywordEach [] X.env))) := by rfl) : DE X G (.Call (.Attribute o m apos) (e :: es) [] pos) (dMeth C m S [] G.dx d t) := by
  obtain ⟨c, f, fd, ps, hm, hb, F⟩ := h
  exact de_meth (pl := pl) ho c hm F (hr.mono hk) hb .nil (fun _ _ => .nil) no0 ha hst hpl ht
theorem de_methH0 {pl : Sem Bool} (h : HasM X.prog X.w X.K X.mg X.base C m k S) (hr : Room j X.A) (hk : k ≤ j) (ho : DE X G o d)
    (ht : eval (.Call (.Attribute o m apos) [] [] pos) X.env = (do
      let ov ← eval o X.env
      standAt apos.atName
      let (f, first) ← holding [ov] (getMethod ov m pl)
      callWith pos f first (backTo pos (starEach [] X.env)) (backToKw pos (keywordEach [] X.env))) := by rfl) : DE X G (.Call (.Attribute o m apos) [] [] pos) (dMeth C m S [] G.dx d dNil) := by
  obtain ⟨c, f, fd, ps, hm, hb, F⟩ := h
  exact de_meth0 (pl := pl) ho c hm F (hr.mono hk) hb .nil (fun _ _ => .nil) no0 ht
theorem de_makeH {dd : List D} (h : HasC X.prog X.w X.K X.mg X.base x C dd k S) (hr : Room j X.A) (hk : k + 1 ≤ j) (ha : DAr X G (e :: es) t) (hg : Gl X x := by rfl) (hdb : (x == ("__debug__" : Str)) = false := by decide)
    (he : starEach (e :: es) X.env = (false, eval e X.env) :: starEach es X.env := by rfl) (hpl : (backTo pos (starEach es X.env)).any (·.1) = false := by rfl) : DE X G (.Call (.Name x p) (e :: es) [] pos) (dMake C S dd G.dx t) := by
  obtain ⟨hm, f, fd, ps, ds, dvs, Mk, hb, hd, hdd, F⟩ := h
  exact de_make Mk F (hr.mono hk) hm hb hd hdd no0 ha hg hdb he hpl
theorem de_globH {dv : D} (h : HasV X.prog X.w X.K X.mg x dv) (hg : Gl X x := by rfl) (hd : (x == ("__debug__" : Str)) = false := by decide) : DE X G (.Name x pos) (dC dv) := by
  obtain ⟨u, v, hm, r, q⟩ := h
  exact de_glob hm r q hg hd
def dProp (C : Addr) (S : DSp) (dx : DX) (d : DT) : DT := fun ρ M Q => d ρ M fun x M1 => ∃ a fs, x = .ref a ∧ M1 a = some (.ins C fs) ∧ S [.ref a] M1 Q dx
theorem de_propH (h : HasP X.prog X.w X.K X.mg X.base C m k S) (hr : Room j X.A) (hk : k + 1 ≤ j) (ho : DE X G o d) (hab : attributeBase o m X.env (eval o X.env) = eval o X.env := by rfl) : DE X G (.Attribute o m pos) (dProp C S G.dx d) := by
  obtain ⟨c, p, g, fd, ps, hp, hb, F⟩ := h
  refine PE.imp (pe_prop (E := G.E) ho c hp F (hr.mono hk) hb .nil no0 hab) fun σ H Q ⟨ρ, M, DQ, s, h, k⟩ => tE.of s h fun x M1 v H1 f1 s1 g1 ⟨a, fs, e, m, q⟩ => ?_
  subst e; cases g1
  obtain ⟨dx, fv, h1, n1, z1⟩ := s1.mem a _ m
  exact ⟨a, dx, fv, rfl, h1, [.ref a], M1, DQ, G.dx, s1.mem, .cons (.ref a) .nil, q, k.step f1, s1.exc⟩
/-- -e -/
def negV : D → Option D
  | .int i => some (.int (-i))
  | _ => none
def dNeg (d : DT) : DT := fun ρ M Q => d ρ M fun x M1 => ∃ z, negV x = some z ∧ Q z M1
theorem de_neg (h : DE X G e d) : DE X G (.UnaryOp .USub e pos) (dNeg d) :=
  PE.imp (pe_un un_neg h) fun σ H Q ⟨ρ, M, DQ, s, h, k⟩ => tE.of s h fun x M1 v H1 f s1 g ⟨z, e, q⟩ => by
    cases x with
    | int i => cases e; cases g; exact ⟨i, rfl, k _ _ _ _ f s1.mem (.int _) q⟩
    | _ => cases e
end
/-! ### by cases: a list or a tuple -/
theorem PG.or {X : Cx} {e : Expr} {t t' : TG} (h : PG X e t) (h' : PG X e t') : PG X e (fun v σ H Q => t v σ H Q ∨ t' v σ H Q) := ⟨fun pins s σ H v u Q I r q => q.elim (h.run pins s σ H v u Q I r) (h'.run pins s σ H v u Q I r)⟩
theorem PI.or {X : Cx} {tg e : Expr} {t t' : TI} (h : PI X tg e t) (h' : PI X tg e t') : PI X tg e (fun σ H Q => t σ H Q ∨ t' σ H Q) := ⟨fun pins s σ H R I q => q.elim (h.run pins s σ H R I) (h'.run pins s σ H R I)⟩
section
variable {X : Cx} {G : Gx} {pos : Pos} {tg e : Expr} {d : DT}
def gSq (n : Nat) (u : DGs) : DGt := fun x ρ M Q => ∃ xs, sv M x = some xs ∧ xs.length = n ∧ u xs ρ M Q
theorem dg_seq {es : List Expr} {k : Nat} {u : DGs} {n : Nat} (hc : X.calm = true) (h : DGS X G es u)
    (hn : (assignEach es X.env).length = n := by rfl) (hst : (assignEach es X.env).findIdx? (·.1) = none := by rfl) : DG X G (.Tuple es k pos) (gSq n u) :=
  PG.imp (PG.or (dg_tup hc h hn hst) (dg_lst hc h hn hst)) fun v σ H Q ⟨x, ρ, M, DQ, s, g, ⟨xs, e, l, h⟩, k⟩ => by
    cases x with
    | tup ys => cases e; exact .inl ⟨_, ρ, M, DQ, s, g, ⟨_, rfl, l, h⟩, k⟩
    | _ => exact .inr ⟨_, ρ, M, DQ, s, g, ⟨xs, e, l, h⟩, k⟩
def dIsq (d : DT) : DIt := fun ρ M RR => d ρ M fun x M1 => ∃ xs, sv M1 x = some xs ∧ RR xs (fun M' => sv M' x = some xs) M1
theorem Walks.imp {R : Rx} {J : It} {items : List D} {C C' : Mp → Prop} {M : Mp} {H : Hp} (w : Walks R J items C M H) (h : ∀ M, C' M → C M) : Walks R J items C' M H := ⟨fun i M' H' d f r c => w.step i M' H' d f r (h _ c), fun M' H' f r c => w.stop M' H' f r (h _ c)⟩
def iSeq (K : PySem.W.Frag) (tl : TE) : TI := fun σ H R => tl σ H fun x H1 => ∃ a, x = .ref a ∧ (((∃ xs, SqL K H1 a xs) ∧ R (Itl K a) H1) ∨ ((∃ xs, SqT K H1 a xs) ∧ R (Itt K a) H1))
theorem pi_seq {l : Expr} {tl : TE} (hl : PE X l tl) : PI X tg l (iSeq X.K tl) := by
  refine ⟨fun pins s σ H R I h => ?_⟩
  refine thn (hl.run pins s σ H _ I h) fun v s1 ⟨x, H1, I1, r1, q1⟩ => ?_
  obtain ⟨a, e, q⟩ := q1
  subst e
  cases r1
  rcases q with ⟨⟨xs, hq⟩, q⟩ | ⟨⟨xs, hq⟩, q⟩
  · obtain ⟨its, rv, p, hz⟩ := I1.list hq
    refine wpAny_pyIter_list p.isList ?_
    refine ⟨s1.heap.objs.size, [s1.heap.objs.size], _, _, H1, rfl, I1.kept (t' := s1.toks) fun b o e => Heap.get?_push_of_some _ e, turn_list a _, ⟨_, Heap.get?_push_size _ rfl, rfl, rfl⟩, fun b hb => ?_, q⟩
    have e : b = s1.heap.objs.size := by simpa using hb
    subst e
    exact I1.fpOk (Nat.le_refl _) (I1.hok.fresh (Nat.le_refl _))
  · obtain ⟨its, rv, p, hz⟩ := I1.tuple hq
    refine wpAny_pyIter_tuple (show s1.heap.IsTuple a its.toArray from p) ?_
    refine ⟨s1.heap.objs.size, [s1.heap.objs.size], _, _, H1, rfl, I1.kept (t' := s1.toks) fun b o e => Heap.get?_push_of_some _ e, turn_tuple a _, ⟨_, Heap.get?_push_size _ rfl, rfl, rfl⟩, fun b hb => ?_, q⟩
    have e : b = s1.heap.objs.size := by simpa using hb
    subst e
    exact I1.fpOk (Nat.le_refl _) (I1.hok.fresh (Nat.le_refl _))
theorem walk_tp {R : Rx} {M : Mp} {H : Hp} {xs : List D} {a : Addr} (g : Dv R M H (.ref a) (.tup xs)) : Walks R (Itt R.K a) xs (fun _ => True) M H := by
  refine ⟨fun i M' H' d f r' c hi => ?_, fun M' H' f r' c => ?_⟩
  · obtain ⟨b, us, e1, q, z⟩ := (g.fr f).sqt
    cases e1
    obtain ⟨v, hv, dv⟩ := z.get' hi
    refine ⟨⟨us, v, q, hv⟩, fun y H'' ⟨e1, e2⟩ => ?_⟩
    subst e1
    have := e2 us q
    rw [hv] at this
    cases this
    exact ⟨Fr.refl, r', dv⟩
  · obtain ⟨b, us, e1, q, z⟩ := (g.fr f).sqt
    cases e1
    exact ⟨us, q, by rw [z.length]; exact Nat.le_refl _⟩
theorem di_seq (h : DE X G e d) : DI X G tg e (dIsq d) :=
  PI.imp (pi_seq h) fun σ H RR ⟨ρ, M, DQ, s, h, k⟩ => tE.of s h fun x M1 v H1 f s1 g ⟨xs, e, q⟩ => by
    have lst : lv M1 x = some xs → (∀ M', sv M' x = lv M' x) → ∃ a, v = .ref a ∧ (((∃ xs, SqL X.K H1 a xs) ∧ RR (Itl X.K a) H1) ∨ ((∃ xs, SqT X.K H1 a xs) ∧ RR (Itt X.K a) H1)) := fun e he => by
      obtain ⟨a, vs, rfl, sq, z⟩ := lv_sound s1.mem g e
      exact ⟨a, rfl, .inl ⟨⟨vs, sq⟩, k _ _ _ _ _ f s1.mem ((walk_lst s1.mem g e).imp fun M c => by rw [he] at c; exact c) q⟩⟩
    cases x with
    | tup ys =>
      cases e
      obtain ⟨a, vs, rfl, sq, z⟩ := g.sqt
      exact ⟨a, rfl, .inr ⟨⟨vs, sq⟩, k _ _ _ _ _ f s1.mem ((walk_tp g).imp fun _ _ => trivial) q⟩⟩
    | lst ys => exact lst e fun _ => rfl
    | ref a => exact lst e fun _ => rfl
    | lsk a => exact lst e fun _ => rfl
    | _ => cases e
end
end DL

/-! A class's own ==, len. -/
namespace DL
open PySem PySem.Spec PyProof.Rows L2
/-- the class at C has its own special method m, which keeps S -/
def HasS (P : Program) (w : World) (K : PySem.W.Frag) (mg : Str → Option Value) (base : Heap) (C : Addr) (m : Str) (k : Nat) (S : DSp) : Prop :=
  ∃ (f : Addr) (fd : FuncData) (ps : List Str), PySem.W.findIn K (.ref C) m = some (some (.ref f)) ∧ PySem.W.isFn K (.ref f) = true ∧ Binds K fd ps [] ∧ FnOk P w K mg base CX0 k f fd ps (spD ⟨P, w, K⟩ S)
section
variable {X : Cx} {G : Gx} {j k : Nat} {S : DSp} {C : Addr} {e : Expr} {pos p : Pos} {d : DT}
theorem run_in1 {f : Addr} {fd : FuncData} {ps : List Str} {sp : Sp} {pins : List (Addr × Obj)} {σ : L2.St} {H : Hp} {s : Shared} {Q : VK} {us : List Value} {vs : List V} {E' : Value → Shared → Prop} (F : FnOk X.prog X.w X.K X.mg X.base CX0 k f fd ps sp) (hr : Room (k + 1) X.A) (hb : Binds X.K fd ps [])
    (I : L2.Inv X pins σ H s) (r : Vals vs us) (h : sp vs H Q E0) : wpAny (model X.prog X.w) X.A.in1 (call (.ref f) us) (EP X pins σ Q) E' s := by
  have hl : (us ++ []).length = ps.length := by rw [List.append_nil, ← r.length]; exact F.len _ _ _ _ h
  have hb' := hb s us I.kIn hl
  rw [List.append_nil] at hb'
  refine wpAny_call (codeAny_mono (F.run X.A.in1 X.stack s H ⟨us, []⟩ us vs Q E0 hr.in1 I.env0.in1 hb' r h) fun r s' hq => ?_)
  cases r with
  | error e => exact hq.elim
  | ok fl =>
    cases fl with
    | ret u => exact I.after hq
    | next => exact False.elim hq
    | brk => exact False.elim hq
    | cont => exact False.elim hq
/-- x == y of two instances by their class's own == -/
def dEqOwn (C : Addr) (S : DSp) : D2 := fun x y M Q => ∃ a b fs gs, x = .ref a ∧ y = .ref b ∧ M a = some (.ins C fs) ∧ M b = some (.ins C gs) ∧ S [.ref a, .ref b] M Q (fun _ _ => False)
theorem od_eqOwn (h : HasS X.prog X.w X.K X.mg X.base C "__eq__" k S) (hr : Room j X.A) (hk : k ≤ j) : OpD X (compareOp .Eq) (dEqOwn C S) := by
  intro pins s σ H v w v' w' Q I rv rw' ⟨x, y, M, DQ, r, g1, g2, ⟨a, b, fs, gs, e1, e2, m1, m2, q⟩, kp⟩
  subst e1 e2
  cases g1; cases g2
  cases rv; cases rw'
  obtain ⟨f, fd, ps, hs, hf, hb, F⟩ := h
  obtain ⟨dx, fv, h1, _, _⟩ := r a _ m1
  obtain ⟨dy, gv, h2, _, _⟩ := r b _ m2
  obtain ⟨mA, J, _⟩ := ins_get I.hok h1
  obtain ⟨mB, J', _⟩ := ins_get I.hok h2
  obtain ⟨od, J, _⟩ := J.look
  obtain ⟨od', J', _⟩ := J'.look
  obtain ⟨m, hF⟩ := I.fr
  show wpAny _ _ (richCompare .Eq (.ref a) (.ref b)) _ _ _
  refine PySem.W.cmp_K (op := .Eq) (tb := .ref C) hr.units0 hF I.ok.mod.kin J J'.type (by simp [PySem.W.notFirst]) hs hf ?_
  refine wpAny_mono (run_fn (E := E0) (us := [.ref a, .ref b]) (vs := [.ref a, .ref b]) F (hr.mono hk) hb .nil no0 I (.cons rfl (.cons rfl .nil)) ⟨[.ref a, .ref b], M, DQ, _, r, .cons (.ref a) (.cons (.ref b) .nil), q, kp, fun _ _ _ _ _ _ z => z.elim⟩) (fun w2 s' z => ?_) fun _ _ z => z
  obtain ⟨z', H', I', rz, qz⟩ := z
  exact SlX.cmpback rz ⟨z', H', I', rz, qz⟩
/-- len(x) of an instance -/
def dLenI (C : Addr) (S : DSp) : D1 := fun xs M Q => ∃ a fs, xs = [.ref a] ∧ M a = some (.ins C fs) ∧ S [.ref a] M (fun z M2 => ∃ n : Nat, z = .int n ∧ (n : Int) < 2 ^ 63 ∧ Q (.int n) M2) (fun _ _ => False)
theorem cd_lenOwn (h : HasS X.prog X.w X.K X.mg X.base C "__len__" k S) (hr : Room j X.A) (hk : k + 1 ≤ j) : CallD X (.builtin "len") (dLenI C S) := by
  intro pins s σ H vs us Q I rv ⟨xs, M, DQ, r, g, ⟨a, fs, e1, m1, q⟩, kp⟩
  subst e1
  obtain ⟨v, rfl, g1⟩ := g.one
  cases g1
  obtain ⟨u, rfl, ru⟩ := vals1 rv
  cases ru
  obtain ⟨f, fd, ps, hs, hf, hb, F⟩ := h
  obtain ⟨dx, fv, h1, _, _⟩ := r a _ m1
  obtain ⟨mA, J, _⟩ := ins_get I.hok h1
  obtain ⟨od, J, _⟩ := J.look
  obtain ⟨m, hF⟩ := I.fr
  refine PySem.W.len_K hF I.ok.mod.kin J hs hf (wpAny_mono (run_in1 (Q := fun z H' => ∃ n : Nat, z = V.int n ∧ (n : Int) < 2 ^ 63 ∧ Q (.int n) H') (vs := [.ref a]) F (hr.mono hk) hb I (.cons rfl .nil) ⟨[.ref a], M, _, _, r, .cons (.ref a) .nil, q, fun z M' v H' f' r' g ⟨n, e1, l, q'⟩ => ?_, fun _ _ _ _ _ _ z => z.elim⟩) (fun w2 s' z => ?_) fun _ _ z => z)
  · subst e1; cases g
    exact ⟨n, rfl, l, kp _ _ _ _ f' r' (.int _) q'⟩
  · obtain ⟨z', H', I', rz, n, e1, l, q'⟩ := z
    subst e1
    obtain ⟨t, rfl⟩ := rz
    exact ⟨⟨by omega, l⟩, .int n, H', I'.tok _, ⟨_, rfl⟩, q'⟩
/-- isinstance(x, C), C an own class: an instance of it; no, None or a tuple or a list -/
structure HasI (K : PySem.W.Frag) (C : Addr) : Prop where
  c : C8.InsC K C
  non : PySem.W.kitOne K (.type "NoneType") (.ref C) = some false
  tup : PySem.W.kitOne K (.type "tuple") (.ref C) = some false
  lst : PySem.W.kitOne K (.type "list") (.ref C) = some false
def isO (C : Addr) : Option MO → Option Bool
  | some (.ins D _) => if D = C then some true else none
  | some (.lst _) => some false
  | some (.fro _) => some false
  | _ => none
def isC (C : Addr) (M : Mp) : D → Option Bool
  | .ref a => isO C (M a)
  | .non => some false
  | .tup _ => some false
  | .lst _ => some false
  | _ => none
def dIsiC (C : Addr) : D1 := fun xs M Q => ∃ x b, xs = [x, .ref C] ∧ isC C M x = some b ∧ Q (.bl b) M
theorem cd_isC (h : HasI X.K C) : CallD X (.builtin "isinstance") (dIsiC C) := CallR.imp ((C8.call_isC h.c).or call_isi) fun vs H Q ⟨xs, M, DQ, r, g, ⟨x, b, e, e1, q⟩, k⟩ => by
  subst e
  obtain ⟨v, w, rfl, g1, g2⟩ := g.two
  cases g2
  have no : ∀ t, tyn M x = some t → PySem.W.kitOne X.K (.type t) (.ref C) = some false → b = false → rIsi X.K [v, .ref C] H Q := fun t h3 h4 h5 => by
    subst h5
    exact ⟨v, .ref C, .type t, .ref C, false, rfl, .own C, tyn_sound r g1 h3, h4, ret k r (.bl _) q⟩
  cases x with
  | non => cases e1; exact .inr (no "NoneType" rfl h.non rfl)
  | tup ys => cases e1; exact .inr (no "tuple" rfl h.tup rfl)
  | lst ys => cases e1; exact .inr (no "list" rfl h.lst rfl)
  | ref a =>
    have e1 : isO C (M a) = some b := e1
    cases e : M a with
    | none => rw [e] at e1; cases e1
    | some o =>
      rw [e] at e1
      cases o with
      | lst ys => cases e1; exact .inr (no "list" (by show tynO (M a) = _; rw [e]; rfl) h.lst rfl)
      | fro ys => cases e1; exact .inr (no "list" (by show tynO (M a) = _; rw [e]; rfl) h.lst rfl)
      | dct _ _ => cases e1
      | ins D fs =>
        have e1 : (if D = C then some true else none) = some b := e1
        by_cases hD : D = C
        · subst hD
          rw [if_pos rfl] at e1
          cases e1
          obtain ⟨dx, fv, h1, _, _⟩ := r a _ e
          cases g1
          exact .inl ⟨a, dx, fv, rfl, h1, ret k r (.bl _) q⟩
        · rw [if_neg hD] at e1; cases e1
  | _ => cases e1
end
end DL

/-! What the programs over data ask, step by step: rules to rewrite with, head first. -/
namespace DL
open PySem PySem.Spec PyProof.Rows L2
section
variable {ρ : Rh} {M M1 : Mp} {DD : DEnds} {Q : DK} {R : Rh → Mp → Prop}
/-! statements -/
theorem xSeq {t u : DS} : dSeq t u DD ρ M = t ⟨u DD, DD.rt, DD.bk, DD.ct⟩ ρ M := rfl
theorem xNx {a r b c} : (DEnds.mk a r b c).nx ρ M = a ρ M := rfl
theorem xRt {a r b c x} : (DEnds.mk a r b c).rt x M = r x M := rfl
theorem xBk {a r b c} : (DEnds.mk a r b c).bk ρ M = b ρ M := rfl
theorem xCt {a r b c} : (DEnds.mk a r b c).ct ρ M = c ρ M := rfl
theorem xEndNx : (endD Q).nx ρ M = ∃ M'', Sub M'' M ∧ Q .non M'' := rfl
theorem xEndRt {x} : (endD Q).rt x M = ∃ M'', Sub M'' M ∧ Q x M'' := rfl
theorem xNext : dNext DD ρ M = DD.nx ρ M := rfl
theorem xBreak : dBreak DD ρ M = DD.bk ρ M := rfl
theorem xCont : dCont DD ρ M = DD.ct ρ M := rfl
theorem xDrop {d : DT} : dDrop d DD ρ M = d ρ M fun _ M1 => DD.nx ρ M1 := rfl
theorem xRet {d : DT} : dRet d DD ρ M = d ρ M fun x M' => DD.rt x M' := rfl
theorem xRetN : dRetN DD ρ M = DD.rt .non M := rfl
theorem xNever : dNever DD ρ M = False := rfl
theorem xIfS {c : DB} {t u : DS} : dIfS c t u DD ρ M = c ρ M fun b M1 => if b = true then t DD ρ M1 else u DD ρ M1 := rfl
def putR (i : Nat) (x : D) (ρ : Rh) (R : Rh → Prop) : Prop := R (ρ.set i (some x))
theorem xPut0 {x : D} {a : Option D} {R : Rh → Prop} : putR 0 x (a :: ρ) R = R (some x :: ρ) := rfl
theorem xPutS {x : D} {a : Option D} {i : Nat} {R : Rh → Prop} : putR (i + 1) x (a :: ρ) R = putR i x ρ fun r => R (a :: r) := rfl
theorem xSet {i : Nat} {d : DT} : dSet i d DD ρ M = d ρ M fun x M1 => putR i x ρ fun r => DD.nx r M1 := rfl
theorem xAug {i : Nat} {d : DT} {rd : D2} : dAug i d rd DD ρ M = dVar i ρ M fun x _ => d ρ M fun y M1 => rd x y M1 fun z M2 => putR i z ρ fun r => DD.nx r M2 := rfl
theorem xAsg {d : DT} {g : DGt} : dAsg d g DD ρ M = d ρ M fun x M1 => g x ρ M1 fun r M2 => DD.nx r M2 := rfl
def un2 (xs : List D) (P : D → D → Prop) : Prop := ∃ x y, xs = [x, y] ∧ P x y
theorem xUn2 {a b : D} {P : D → D → Prop} : un2 [a, b] P = P a b := propext ⟨fun ⟨_, _, e, h⟩ => by cases e; exact h, fun h => ⟨_, _, rfl, h⟩⟩
def un1 (xs : List D) (P : D → Prop) : Prop := ∃ x, xs = [x] ∧ P x
theorem xUn1 {a : D} {P : D → Prop} : un1 [a] P = P a := propext ⟨fun ⟨_, e, h⟩ => by cases e; exact h, fun h => ⟨_, rfl, h⟩⟩
theorem xPar {i j : Nat} {t : DA} : dPar i j t DD ρ M = t ρ M fun xs M1 => un2 xs fun x y => putR i x ρ fun r => putR j y r fun r2 => DD.nx r2 M1 := rfl
/-! targets -/
theorem xNm {i : Nat} {x : D} : gNm i x ρ M R = putR i x ρ fun r => R r M := rfl
theorem xNl : gNl [] ρ M R = R ρ M := propext ⟨fun h => h.2, fun h => ⟨rfl, h⟩⟩
theorem xCn {g : DGt} {u : DGs} {x : D} {r : List D} : gCn g u (x :: r) ρ M R = g x ρ M fun ρ' M' => u r ρ' M' R := propext ⟨fun ⟨_, _, e, h⟩ => by cases e; exact h, fun h => ⟨_, _, rfl, h⟩⟩
theorem xSq {n : Nat} {u : DGs} {xs : List D} : gSq n u (.tup xs) ρ M R = (xs.length = n ∧ u xs ρ M R) := propext ⟨fun ⟨_, e, l, h⟩ => by cases e; exact ⟨l, h⟩, fun ⟨l, h⟩ => ⟨_, rfl, l, h⟩⟩
theorem xSqL {n : Nat} {u : DGs} {xs : List D} : gSq n u (.lst xs) ρ M R = (xs.length = n ∧ u xs ρ M R) := propext ⟨fun ⟨_, e, l, h⟩ => by cases e; exact ⟨l, h⟩, fun ⟨l, h⟩ => ⟨_, rfl, l, h⟩⟩
/-! names, constants, operators -/
theorem xV0 {d : D} : dVar 0 (some d :: ρ) M Q = Q d M := propext ⟨fun ⟨_, e, h⟩ => by cases e; exact h, fun h => ⟨_, rfl, h⟩⟩
theorem xVS {a : Option D} {i : Nat} : dVar (i + 1) (a :: ρ) M Q = dVar i ρ M Q := rfl
theorem xC {d : D} : dC d ρ M Q = Q d M := rfl
def frzK (x : D) (M : Mp) (Q : DK) : Prop := ∃ p o d, x = .ref p ∧ M p = some o ∧ froz o = some d ∧ Q d (del M p)
theorem xFrz {i : Nat} : dFrz i ρ M Q = dVar i ρ M fun x _ => frzK x M Q := propext ⟨fun ⟨p, o, d, e, a, b, c⟩ => ⟨_, e, p, o, d, rfl, a, b, c⟩, fun ⟨_, e, p, o, d, e1, a, b, c⟩ => by subst e1; exact ⟨p, o, d, e, a, b, c⟩⟩
theorem xFrz1 {p : Addr} {xs : List D} : frzK (.ref p) (upm M p (.lst xs)) Q = Q (.lst xs) (del (upm M p (.lst xs)) p) :=
  propext ⟨fun ⟨q, o, d, e, a, b, c⟩ => by cases e; rw [upm_same] at a; cases a; cases b; exact c, fun h => ⟨p, _, _, rfl, upm_same, rfl, h⟩⟩
theorem xOp {rd : D2} {da db : DT} : dOp rd da db ρ M Q = da ρ M fun x M1 => db ρ M1 fun y M2 => rd x y M2 Q := rfl
def blK (x : D) (Q : Bool → Prop) : Prop := ∃ b, x = .bl b ∧ Q b
theorem xBl {b : Bool} {Q : Bool → Prop} : blK (.bl b) Q = Q b := propext ⟨fun ⟨_, e, h⟩ => by cases e; exact h, fun h => ⟨_, rfl, h⟩⟩
theorem xB {d : DT} {Q : Bool → Mp → Prop} : dB d ρ M Q = d ρ M fun x M1 => blK x fun b => Q b M1 := rfl
theorem xChain {r r' : D2} {da db dc : DT} : dChain r r' da db dc ρ M Q = da ρ M fun x M1 => db ρ M1 fun y M2 => r x y M2 fun z M3 => blK z fun k => if k = true then dc ρ M3 fun w M4 => r' y w M4 Q else Q (.bl false) M3 := rfl
theorem xAnd {t u : DB} {Q : Bool → Mp → Prop} : dAnd t u ρ M Q = t ρ M fun c M1 => if c = true then u ρ M1 Q else Q false M1 := rfl
theorem xOr {t u : DB} {Q : Bool → Mp → Prop} : dOr t u ρ M Q = t ρ M fun c M1 => if c = true then Q true M1 else u ρ M1 Q := rfl
theorem xNot {t : DB} {Q : Bool → Mp → Prop} : dNot t ρ M Q = t ρ M fun c M1 => Q (!c) M1 := rfl
theorem xAndV {da db : DT} : dAndV da db ρ M Q = da ρ M fun x M1 => blK x fun c => if c = true then db ρ M1 Q else Q (.bl false) M1 := rfl
theorem xOrV {da db : DT} : dOrV da db ρ M Q = da ρ M fun x M1 => blK x fun c => if c = true then Q (.bl true) M1 else db ρ M1 Q := rfl
theorem xNotV {da : DT} : dNotV da ρ M Q = da ρ M fun x M1 => blK x fun c => Q (.bl (!c)) M1 := rfl
theorem xIf {t : DB} {da db : DT} : dIf t da db ρ M Q = t ρ M fun c M1 => if c = true then da ρ M1 Q else db ρ M1 Q := rfl
theorem xNil {Q : DKs} : dNil ρ M Q = Q [] M := rfl
theorem xCons {d : DT} {t : DA} {Q : DKs} : dCons d t ρ M Q = d ρ M fun x M1 => t ρ M1 fun xs M2 => Q (x :: xs) M2 := rfl
theorem xTup {t : DA} : dTup t ρ M Q = t ρ M fun xs M1 => xs.length ≤ sizeLine ∧ Q (.tup xs) M1 := rfl
theorem xLst {t : DA} : dLst t ρ M Q = t ρ M fun xs M1 => xs.length ≤ sizeLine ∧ Q (.lst xs) M1 := rfl
theorem xLstO {t : DA} : dLstO t ρ M Q = t ρ M fun xs M1 => xs.length ≤ sizeLine ∧ ∀ p, M1 p = none → Q (.ref p) (upm M1 p (.lst xs)) := rfl
def optK (o : Option D) (Q : D → Prop) : Prop := ∃ z, o = some z ∧ Q z
theorem xOpt {d : D} {Q : D → Prop} : optK (some d) Q = Q d := propext ⟨fun ⟨_, e, h⟩ => by cases e; exact h, fun h => ⟨_, rfl, h⟩⟩
theorem one_eq {P : Prop} {z : D} {R : D → Prop} (h : P = R z) : (∃ x, z = x ∧ R x) = P := by rw [h]; exact propext ⟨fun ⟨_, e, h⟩ => by subst e; exact h, fun h => ⟨_, rfl, h⟩⟩
theorem d2_eq {f : Mp → D → D → Option D} {C : D → D → D → Prop} {x y z : D} (h : f M x y = some z) : d2 f C x y M Q = (C x y z ∧ Q z M) :=
  propext ⟨fun ⟨_, e, h'⟩ => by rw [h] at e; cases e; exact h', fun h' => ⟨_, h, h'⟩⟩
theorem true_and_eq {P Q : Prop} (h : P) : (P ∧ Q) = Q := propext ⟨fun x => x.2, fun x => ⟨h, x⟩⟩
theorem xAddI {i j : Int} : dAdd (.int i) (.int j) M Q = Q (.int (i + j)) M := (d2_eq rfl).trans (true_and_eq trivial)
theorem xAddT {xs ys : List D} : dAdd (.tup xs) (.tup ys) M Q = ((xs ++ ys).length ≤ sizeLine ∧ Q (.tup (xs ++ ys)) M) := d2_eq (f := addV) (C := fun _ _ z => small z) (z := .tup (xs ++ ys)) rfl
theorem xAddL {xs ys : List D} : dAdd (.lst xs) (.lst ys) M Q = ((xs ++ ys).length ≤ sizeLine ∧ Q (.lst (xs ++ ys)) M) := d2_eq (f := addV) (C := fun _ _ z => small z) (z := .lst (xs ++ ys)) rfl
theorem xSub {i j : Int} : dSub (.int i) (.int j) M Q = Q (.int (i - j)) M := (d2_eq rfl).trans (true_and_eq trivial)
theorem xIAdd {i j : Int} : dIAdd (.int i) (.int j) M Q = Q (.int (i + j)) M := (d2_eq rfl).trans (true_and_eq trivial)
theorem xFdiv {i j : Int} : dFdiv (.int i) (.int j) M Q = ((0 < j ∧ j < 1073741824) ∧ Q (.int (i / j)) M) := d2_eq rfl
theorem xMod {i j : Int} : dMod (.int i) (.int j) M Q = (0 < j ∧ Q (.int (i % j)) M) := d2_eq rfl
theorem xPow {i j : Int} : dPow (.int i) (.int j) M Q = (CPow i j ∧ Q (.int (i ^ j.toNat)) M) := d2_eq rfl
theorem xMul {i j : Int} : dMul (.int i) (.int j) M Q = (CMul i j ∧ Q (.int (i * j)) M) := propext ⟨fun ⟨_, e, h⟩ => by cases e; exact h, fun h => ⟨_, rfl, h⟩⟩
theorem xLt {i j : Int} : dLt (.int i) (.int j) M Q = Q (.bl (decide (i < j))) M := (d2_eq rfl).trans (true_and_eq trivial)
theorem xLe {i j : Int} : dLe (.int i) (.int j) M Q = Q (.bl (decide (i ≤ j))) M := (d2_eq rfl).trans (true_and_eq trivial)
theorem xGt {i j : Int} : dGt (.int i) (.int j) M Q = Q (.bl (decide (j < i))) M := (d2_eq rfl).trans (true_and_eq trivial)
theorem xGe {i j : Int} : dGe (.int i) (.int j) M Q = Q (.bl (decide (j ≤ i))) M := (d2_eq rfl).trans (true_and_eq trivial)
theorem dec_eq {p q : Prop} [a : Decidable p] [b : Decidable q] (h : p ↔ q) : decide p = decide q := decide_eq_decide.mpr h
theorem okInt {i : Int} : D.ok 60 (.int i) = true := rfl
theorem xEqI {i j : Int} : dEq (.int i) (.int j) M Q = Q (.bl (decide (i = j))) M :=
  (true_and_eq ⟨rfl, rfl⟩).trans (congrArg (fun b => Q (.bl b) M) (dec_eq ⟨fun e => by cases e; rfl, fun e => by cases e; rfl⟩))
theorem xNeI {i j : Int} : dNe (.int i) (.int j) M Q = Q (.bl (!decide (i = j))) M :=
  (true_and_eq ⟨rfl, rfl⟩).trans (congrArg (fun b => Q (.bl (!b)) M) (dec_eq ⟨fun e => by cases e; rfl, fun e => by cases e; rfl⟩))
theorem xEqS {i j : Str} : dEq (.str i) (.str j) M Q = ((PyData.strOk i = true ∧ PyData.strOk j = true) ∧ Q (.bl (decide (i = j))) M) :=
  (congrArg (fun b => (PyData.strOk i = true ∧ PyData.strOk j = true) ∧ Q (.bl b) M) (dec_eq ⟨fun e => by cases e; rfl, fun e => by cases e; rfl⟩))
theorem xNeS {i j : Str} : dNe (.str i) (.str j) M Q = ((PyData.strOk i = true ∧ PyData.strOk j = true) ∧ Q (.bl (!decide (i = j))) M) :=
  (congrArg (fun b => (PyData.strOk i = true ∧ PyData.strOk j = true) ∧ Q (.bl (!b)) M) (dec_eq ⟨fun e => by cases e; rfl, fun e => by cases e; rfl⟩))
theorem xEqB {i j : Bool} : dEq (.bl i) (.bl j) M Q = Q (.bl (decide (i = j))) M :=
  (true_and_eq trivial).trans (congrArg (fun b => Q (.bl b) M) (dec_eq ⟨fun e => by cases e; rfl, fun e => by cases e; rfl⟩))
theorem xNeB {i j : Bool} : dNe (.bl i) (.bl j) M Q = Q (.bl (!decide (i = j))) M :=
  (true_and_eq trivial).trans (congrArg (fun b => Q (.bl (!b)) M) (dec_eq ⟨fun e => by cases e; rfl, fun e => by cases e; rfl⟩))
theorem xEqT {xs ys : List D} : dEq (.tup xs) (.tup ys) M Q = ((D.ok 60 (.tup xs) = true ∧ D.ok 60 (.tup ys) = true) ∧ Q (.bl (decide (D.tup xs = D.tup ys))) M) := rfl
theorem xNeT {xs ys : List D} : dNe (.tup xs) (.tup ys) M Q = ((D.ok 60 (.tup xs) = true ∧ D.ok 60 (.tup ys) = true) ∧ Q (.bl (!decide (D.tup xs = D.tup ys))) M) := rfl
theorem xEqL {xs ys : List D} : dEq (.lst xs) (.lst ys) M Q = ((D.ok 60 (.lst xs) = true ∧ D.ok 60 (.lst ys) = true) ∧ Q (.bl (decide (D.lst xs = D.lst ys))) M) := rfl
theorem xNeL {xs ys : List D} : dNe (.lst xs) (.lst ys) M Q = ((D.ok 60 (.lst xs) = true ∧ D.ok 60 (.lst ys) = true) ∧ Q (.bl (!decide (D.lst xs = D.lst ys))) M) := rfl
theorem xIs {x y : D} {b : Bool} (h : isV x y = some b) : dIs x y M Q = Q (.bl b) M := propext ⟨fun ⟨_, e, q⟩ => by rw [h] at e; cases e; exact q, fun q => ⟨_, h, q⟩⟩
theorem xIsNot {x y : D} {b : Bool} (h : isV x y = some b) : dIsNot x y M Q = Q (.bl (!b)) M := propext ⟨fun ⟨_, e, q⟩ => by rw [h] at e; cases e; exact q, fun q => ⟨_, h, q⟩⟩
theorem xIsBB {a b : Bool} : dIs (.bl a) (.bl b) M Q = Q (.bl (decide (a = b))) M := xIs rfl
theorem xIsNN : dIs .non .non M Q = Q (.bl true) M := xIs rfl
theorem xIsTN {xs : List D} : dIs (.tup xs) .non M Q = Q (.bl false) M := xIs rfl
theorem xIsLN {xs : List D} : dIs (.lst xs) .non M Q = Q (.bl false) M := xIs rfl
theorem xIsIN {i : Int} : dIs (.int i) .non M Q = Q (.bl false) M := xIs rfl
theorem xIsSN {i : Str} : dIs (.str i) .non M Q = Q (.bl false) M := xIs rfl
theorem xIsRN {i : Addr} : dIs (.ref i) .non M Q = Q (.bl false) M := xIs rfl
theorem xNoBB {a b : Bool} : dIsNot (.bl a) (.bl b) M Q = Q (.bl (!decide (a = b))) M := xIsNot rfl
theorem xNoNN : dIsNot .non .non M Q = Q (.bl false) M := xIsNot (b := true) rfl
theorem xNoTN {xs : List D} : dIsNot (.tup xs) .non M Q = Q (.bl true) M := xIsNot (b := false) rfl
theorem xNoLN {xs : List D} : dIsNot (.lst xs) .non M Q = Q (.bl true) M := xIsNot (b := false) rfl
theorem xNoIN {i : Int} : dIsNot (.int i) .non M Q = Q (.bl true) M := xIsNot (b := false) rfl
theorem xNoSN {i : Str} : dIsNot (.str i) .non M Q = Q (.bl true) M := xIsNot (b := false) rfl
theorem xNoRN {i : Addr} : dIsNot (.ref i) .non M Q = Q (.bl true) M := xIsNot (b := false) rfl
theorem xInT {x : D} {ys : List D} : dIn x (.tup ys) M Q = ((D.flat x = true ∧ ys.all D.flat = true) ∧ Q (.bl (decide (x ∈ ys))) M) := propext ⟨fun ⟨_, e, c, q⟩ => by cases e; cases x <;> exact ⟨c, q⟩, fun ⟨c, q⟩ => ⟨_, rfl, by cases x <;> exact c, q⟩⟩
/-! subscripts, slices -/
theorem xIx {da db : DT} : dIx da db ρ M Q = da ρ M fun x M1 => db ρ M1 fun y M2 => dIxV x y M2 Q := rfl
theorem xIxT {xs : List D} {i : Int} : dIxV (.tup xs) (.int i) M Q = optK (atI xs i) fun z => Q z M := propext ⟨fun ⟨z, e, _, q⟩ => ⟨z, e, q⟩, fun ⟨z, e, q⟩ => ⟨z, e, trivial, q⟩⟩
theorem xIxL {xs : List D} {i : Int} : dIxV (.lst xs) (.int i) M Q = optK (atI xs i) fun z => Q z M := propext ⟨fun ⟨z, e, _, q⟩ => ⟨z, e, q⟩, fun ⟨z, e, q⟩ => ⟨z, e, trivial, q⟩⟩
theorem atI_nat {α : Type} {xs : List α} {n : Nat} : atI xs (n : Int) = xs[n]? := by
  unfold atI ixN
  rw [if_pos (Int.natCast_nonneg n)]
  by_cases h : n < xs.length
  · rw [if_pos (by omega)]; simp
  · rw [if_neg (by omega)]; simp; omega
theorem at0 {x : D} {xs : List D} {Q : D → Prop} : optK (atI (x :: xs) 0) Q = Q x := by
  have e : atI (x :: xs) 0 = some x := by rw [show (0 : Int) = ((0 : Nat) : Int) from rfl, atI_nat]; rfl
  rw [e, xOpt]
theorem atNat {xs : List D} {i : Int} {n : Nat} {x : D} {Q : D → Prop} (h : i = n) (hx : xs[n]? = some x) : optK (atI xs i) Q = Q x := by
  subst h
  rw [atI_nat, hx, xOpt]
theorem at1 {a x : D} {xs : List D} {Q : D → Prop} : optK (atI (a :: x :: xs) 1) Q = Q x := atNat (n := 1) rfl rfl
theorem at2 {a b x : D} {xs : List D} {Q : D → Prop} : optK (atI (a :: b :: x :: xs) 2) Q = Q x := atNat (n := 2) rfl rfl
theorem at3 {a b c x : D} {xs : List D} {Q : D → Prop} : optK (atI (a :: b :: c :: x :: xs) 3) Q = Q x := atNat (n := 3) rfl rfl
theorem at4 {a b c d x : D} {xs : List D} {Q : D → Prop} : optK (atI (a :: b :: c :: d :: x :: xs) 4) Q = Q x := atNat (n := 4) rfl rfl
theorem at5 {a b c d e x : D} {xs : List D} {Q : D → Prop} : optK (atI (a :: b :: c :: d :: e :: x :: xs) 5) Q = Q x := atNat (n := 5) rfl rfl
theorem xSl {d : DT} {lo hi : DPn} : dSl d lo hi ρ M Q = d ρ M fun x M1 => lo ρ M1 fun l M2 => hi ρ M2 fun u M3 => optK (cutM M3 l u x) fun z => Q z M3 := rfl
theorem xNo {Q : Option Int → Mp → Prop} : dNo ρ M Q = Q none M := rfl
def intK (x : D) (Q : Int → Prop) : Prop := ∃ i, x = .int i ∧ Q i
theorem xInt {i : Int} {Q : Int → Prop} : intK (.int i) Q = Q i := propext ⟨fun ⟨_, e, h⟩ => by cases e; exact h, fun h => ⟨_, rfl, h⟩⟩
theorem xPart {d : DT} {Q : Option Int → Mp → Prop} : dPart d ρ M Q = d ρ M fun x M1 => intK x fun i => Q (some i) M1 := rfl
theorem xCutT {xs : List D} {l u : Option Int} {Q : D → Prop} : optK (cutM M l u (.tup xs)) Q = Q (.tup (cutD xs l u)) := xOpt
theorem xCutL {xs : List D} {l u : Option Int} {Q : D → Prop} : optK (cutM M l u (.lst xs)) Q = Q (.lst (cutD xs l u)) := xOpt
theorem cut1 {x : D} {xs : List D} : cutD (x :: xs) (some 1) none = xs := by
  unfold cutD
  have h : HT.sIx (x :: xs).length 0 (some 1) = 1 := by
    have := HT.sIx_nat (x :: xs).length 0 1
    rw [show ((1 : Nat) : Int) = 1 from rfl] at this
    rw [this]
    show min 1 (xs.length + 1) = 1
    omega
  rw [h]
  show List.take ((x :: xs).length - 1) xs = xs
  simp
/-! calls of what is built in -/
theorem xCB {rd : D1} {t : DA} : dCB rd t ρ M Q = t ρ M fun xs M1 => rd xs M1 Q := rfl
theorem d1_eq {f : Mp → D → Option D} {x z : D} (h : f M x = some z) : d1 f [x] M Q = Q z M := propext ⟨fun ⟨_, _, e, e1, q⟩ => by cases e; rw [h] at e1; cases e1; exact q, fun q => ⟨_, _, rfl, h, q⟩⟩
theorem xLenT {xs : List D} : d1 lenV [.tup xs] M Q = Q (.int xs.length) M := d1_eq rfl
theorem xLenL {xs : List D} : d1 lenV [.lst xs] M Q = Q (.int xs.length) M := d1_eq rfl
theorem xLenR {p : Addr} {xs : List D} (h : M p = some (.lst xs)) : d1 lenV [.ref p] M Q = Q (.int xs.length) M := d1_eq (by show ((lvO (M p)).map fun xs => D.int xs.length) = _; rw [h]; rfl)
theorem xLenF {p : Addr} {xs : List D} (h : M p = some (.fro xs)) : d1 lenV [.ref p] M Q = Q (.int xs.length) M := d1_eq (by show ((lvO (M p)).map fun xs => D.int xs.length) = _; rw [h]; rfl)
theorem xIntI {i : Int} : d1 intV [.int i] M Q = Q (.int i) M := d1_eq rfl
theorem xTupT {xs : List D} : d1 tupV [.tup xs] M Q = Q (.tup xs) M := d1_eq rfl
theorem xTupL {xs : List D} : d1 tupV [.lst xs] M Q = Q (.tup xs) M := d1_eq rfl
theorem xTupR {p : Addr} {xs : List D} (h : M p = some (.lst xs)) : d1 tupV [.ref p] M Q = Q (.tup xs) M := d1_eq (by show (lvO (M p)).map D.tup = _; rw [h]; rfl)
theorem xLstT {xs : List D} : d1 lstV [.tup xs] M Q = Q (.lst xs) M := d1_eq rfl
theorem xLstL {xs : List D} : d1 lstV [.lst xs] M Q = Q (.lst xs) M := d1_eq rfl
theorem xLstR {p : Addr} {xs : List D} (h : M p = some (.lst xs)) : d1 lstV [.ref p] M Q = Q (.lst xs) M := d1_eq (by show (lvO (M p)).map D.lst = _; rw [h]; rfl)
theorem isi_eq {x : D} {n t : String} {b : Bool} (h : tyn M x = some t) (hk : kitB t n = some b) : dIsi [x, .ty n] M Q = Q (.bl b) M :=
  propext ⟨fun ⟨_, _, _, _, e, e1, e2, q⟩ => by cases e; rw [h] at e1; cases e1; rw [hk] at e2; cases e2; exact q, fun q => ⟨_, _, _, _, rfl, h, hk, q⟩⟩
theorem xIsiT {xs : List D} : dIsi [.tup xs, .ty "tuple"] M Q = Q (.bl true) M := isi_eq rfl rfl
theorem xIsiI {i : Int} : dIsi [.int i, .ty "int"] M Q = Q (.bl true) M := isi_eq rfl rfl
theorem xIsiB {i : Int} : dIsi [.int i, .ty "bool"] M Q = Q (.bl false) M := isi_eq rfl rfl
theorem xIsiS {i : Str} : dIsi [.str i, .ty "str"] M Q = Q (.bl true) M := isi_eq rfl rfl
theorem xAll {bs : List Bool} : dAll [.lst (bs.map D.bl)] M Q = Q (.bl (bs.all fun b => b)) M := propext ⟨fun ⟨x, cs, e, e1, q⟩ => by
    cases e
    have e1 : bs.map D.bl = cs.map D.bl := Option.some.inj e1
    have : bs = cs := List.map_inj_right (fun a b h => by cases h; rfl) |>.mp e1
    subst this; exact q, fun q => ⟨_, _, rfl, rfl, q⟩⟩
theorem xSum {ns : List Int} : dSum [.lst (ns.map D.int)] M Q = Q (.int ns.sum) M := propext ⟨fun ⟨x, cs, e, e1, q⟩ => by
    cases e
    have e1 : ns.map D.int = cs.map D.int := Option.some.inj e1
    have : ns = cs := List.map_inj_right (fun a b h => by cases h; rfl) |>.mp e1
    subst this; exact q, fun q => ⟨_, _, rfl, rfl, q⟩⟩
theorem xMax2 {i j : Int} : dMax2 [.int i, .int j] M Q = Q (.int (max i j)) M := propext ⟨fun ⟨_, _, e, q⟩ => by cases e; exact q, fun q => ⟨_, _, rfl, q⟩⟩
theorem xMin2 {i j : Int} : dMin2 [.int i, .int j] M Q = Q (.int (min i j)) M := propext ⟨fun ⟨_, _, e, q⟩ => by cases e; exact q, fun q => ⟨_, _, rfl, q⟩⟩
/-! methods of lists -/
def appA (x : D) (M : Mp) (k : Addr → Prop) : Prop := ∃ p xs, x = .ref p ∧ M p = some (.lst xs) ∧ k p
def appB (p : Addr) (y : D) (M : Mp) (Q : DK) : Prop := ∃ zs, M p = some (.lst zs) ∧ zs.length < sizeLine ∧ Q .non (upm M p (.lst (zs ++ [y])))
theorem xApp {d : DT} {t : DA} : dApp d t ρ M Q = d ρ M fun x M1 => appA x M1 fun p => t ρ M1 fun ys M2 => un1 ys fun y => appB p y M2 Q := by
  unfold dApp
  congr 1
  funext x M1
  refine propext ⟨fun ⟨p, xs, a, b, c⟩ => ⟨p, xs, a, b, ?_⟩, fun ⟨p, xs, a, b, c⟩ => ⟨p, xs, a, b, ?_⟩⟩
  · refine Eq.mp (congrArg (t ρ M1) ?_) c
    funext ys M2
    exact propext ⟨fun ⟨y, zs, a, b⟩ => ⟨y, a, zs, b⟩, fun ⟨y, a, zs, b⟩ => ⟨y, zs, a, b⟩⟩
  · refine Eq.mp (congrArg (t ρ M1) ?_) c
    funext ys M2
    exact propext ⟨fun ⟨y, a, zs, b⟩ => ⟨y, zs, a, b⟩, fun ⟨y, zs, a, b⟩ => ⟨y, a, zs, b⟩⟩
theorem xAppA {p : Addr} {xs : List D} {k : Addr → Prop} (h : M p = some (.lst xs)) : appA (.ref p) M k = k p := propext ⟨fun ⟨_, _, e, _, q⟩ => by cases e; exact q, fun q => ⟨_, _, rfl, h, q⟩⟩
theorem xAppB {p : Addr} {y : D} {zs : List D} (h : M p = some (.lst zs)) : appB p y M Q = (zs.length < sizeLine ∧ Q .non (upm M p (.lst (zs ++ [y])))) := propext ⟨fun ⟨_, e, q⟩ => by rw [h] at e; cases e; exact q, fun q => ⟨_, h, q⟩⟩
/-! fields -/
def fldK (C : Addr) (x : D) (f : Str) (M : Mp) (Q : D → Prop) : Prop := ∃ a fs z, x = .ref a ∧ M a = some (.ins C fs) ∧ fs.lookup f = some z ∧ Q z
theorem xFld {C : Addr} {d : DT} {f : Str} : dFld C d f ρ M Q = d ρ M fun x M1 => fldK C x f M1 fun z => Q z M1 := rfl
theorem xFldK {C a : Addr} {f : Str} {fs : List (Str × D)} {z : D} {Q : D → Prop} (h : M a = some (.ins C fs)) (hf : fs.lookup f = some z) : fldK C (.ref a) f M Q = Q z := propext ⟨fun ⟨_, _, _, e, e1, e2, q⟩ => by cases e; rw [h] at e1; cases e1; rw [hf] at e2; cases e2; exact q, fun q => ⟨_, _, _, rfl, h, hf, q⟩⟩
def fldW (C : Addr) (x : D) (f : Str) (y : D) (M : Mp) (R : Mp → Prop) : Prop := ∃ a fs, x = .ref a ∧ M a = some (.ins C fs) ∧ fs.length < 1000 ∧ R (upm M a (.ins C (putD f y fs)))
theorem xFldS {C : Addr} {d dv : DT} {f : Str} : dFldS C d dv f DD ρ M = dv ρ M fun y M1 => d ρ M1 fun x M2 => fldW C x f y M2 fun M3 => DD.nx ρ M3 := rfl
theorem xGFd {C : Addr} {d : DT} {f : Str} {y : D} : gFd C d f y ρ M R = d ρ M fun x M2 => fldW C x f y M2 fun M3 => R ρ M3 := rfl
theorem xFldW {C a : Addr} {f : Str} {y : D} {fs : List (Str × D)} {R : Mp → Prop} (h : M a = some (.ins C fs)) : fldW C (.ref a) f y M R = (fs.length < 1000 ∧ R (upm M a (.ins C (putD f y fs)))) := propext ⟨fun ⟨_, _, e, e1, q⟩ => by cases e; rw [h] at e1; cases e1; exact q, fun q => ⟨_, _, rfl, h, q⟩⟩
/-! calls -/
theorem xCall {S : DSp} {dx : DX} {t : DA} : dCall S [] dx t ρ M Q = t ρ M fun ds M1 => S ds M1 Q dx := by
  unfold dCall
  congr 1
  funext ds M1
  rw [List.append_nil]
def mthK (C : Addr) (m : Str) (x : D) (M : Mp) (k : Addr → Prop) : Prop := ∃ a fs, x = .ref a ∧ M a = some (.ins C fs) ∧ fs.lookup m = none ∧ k a
theorem xMeth {C : Addr} {m : Str} {S : DSp} {dx : DX} {d : DT} {t : DA} : dMeth C m S [] dx d t ρ M Q = d ρ M fun x M1 => mthK C m x M1 fun a => t ρ M1 fun ds M2 => S (.ref a :: ds) M2 Q dx := by
  unfold dMeth mthK
  simp only [List.append_nil]
theorem xMthK {C a : Addr} {m : Str} {fs : List (Str × D)} {k : Addr → Prop} (h : M a = some (.ins C fs)) (hf : fs.lookup m = none) : mthK C m (.ref a) M k = k a := propext ⟨fun ⟨_, _, e, e1, e2, q⟩ => by cases e; exact q, fun q => ⟨_, _, rfl, h, hf, q⟩⟩
theorem xMake {C : Addr} {S : DSp} {dx : DX} {t : DA} : dMake C S [] dx t ρ M Q = t ρ M fun ds M1 => ∀ p, M1 p = none → S (.ref p :: ds) (upm M1 p (.ins C [])) (fun v M2 => v = .non ∧ Q (.ref p) M2) dx := by
  unfold dMake
  simp only [List.append_nil]
def prpK (C : Addr) (x : D) (M : Mp) (k : Addr → Prop) : Prop := ∃ a fs, x = .ref a ∧ M a = some (.ins C fs) ∧ k a
theorem xProp {C : Addr} {S : DSp} {dx : DX} {d : DT} : dProp C S dx d ρ M Q = d ρ M fun x M1 => prpK C x M1 fun a => S [.ref a] M1 Q dx := rfl
theorem xPrpK {C a : Addr} {fs : List (Str × D)} {k : Addr → Prop} (h : M a = some (.ins C fs)) : prpK C (.ref a) M k = k a := propext ⟨fun ⟨_, _, e, e1, q⟩ => by cases e; exact q, fun q => ⟨_, _, rfl, h, q⟩⟩
theorem xNeg {d : DT} : dNeg d ρ M Q = d ρ M fun x M1 => optK (negV x) fun z => Q z M1 := rfl
theorem xNegI {i : Int} {Q : D → Prop} : optK (negV (.int i)) Q = Q (.int (-i)) := xOpt
/-! loops -/
/-- what a loop goes over, where it is known -/
def itK (x : D) (M : Mp) (RR : List D → (Mp → Prop) → Mp → Prop) : Prop := ∃ xs, sv M x = some xs ∧ RR xs (fun M' => sv M' x = some xs) M
theorem xIsq {d : DT} {RR : List D → (Mp → Prop) → Mp → Prop} : dIsq d ρ M RR = d ρ M fun x M1 => itK x M1 RR := rfl
/-- over a list of things of one kind: what holds when the first k were seen -/
theorem for_list {α : Type} {g : DGt} {tb : DS} (enc : α → D) (as : List α) (C : Mp → Prop) (Iv : List α → Rh → Mp → Prop) (h0 : Iv [] ρ M1) (hC : ∀ l ρ M, Iv l ρ M → C M)
    (hs : ∀ l a r ρ M, as = l ++ a :: r → Iv l ρ M → g (enc a) ρ M fun ρ2 M2 => tb ⟨Iv (l ++ [a]), DD.rt, DD.nx, Iv (l ++ [a])⟩ ρ2 M2) (he : ∀ ρ M, Iv as ρ M → DD.nx ρ M) :
    ∃ Iv : Nat → Rh → Mp → Prop, Iv 0 ρ M1 ∧ (∀ i ρ M, Iv i ρ M → C M) ∧
      (∀ i x ρ M, (as.map enc)[i]? = some x → Iv i ρ M → g x ρ M fun ρ2 M2 => tb { DD with nx := Iv (i + 1), ct := Iv (i + 1), bk := DD.nx } ρ2 M2) ∧ ∀ ρ M, Iv (as.map enc).length ρ M → DD.nx ρ M := by
  refine ⟨fun i => Iv (as.take i), h0, fun i ρ M h => hC _ _ _ h, fun i x ρ M hx h => ?_, fun ρ M h => he ρ M ?_⟩
  · rw [List.getElem?_map] at hx
    cases e : as[i]? with
    | none => rw [e] at hx; cases hx
    | some a =>
      rw [e] at hx
      cases hx
      obtain ⟨hi, ea⟩ := List.getElem?_eq_some_iff.mp e
      have e1 : as.take (i + 1) = as.take i ++ [a] := by rw [List.take_succ, e]; rfl
      show g (enc a) ρ M fun ρ2 M2 => tb ⟨Iv (as.take (i + 1)), DD.rt, DD.nx, Iv (as.take (i + 1))⟩ ρ2 M2
      rw [e1]
      refine hs (as.take i) a (as.drop (i + 1)) ρ M ?_ h
      rw [← ea, List.getElem_cons_drop, List.take_append_drop]
  · rw [List.length_map, List.take_length] at h
    exact h
theorem for_sq {α : Type} {d : DT} {g : DGt} {tb : DS} {x : D} (enc : α → D) (as : List α) (hd : ∀ Q : DK, Q x M → d ρ M Q) (hx : sv M x = some (as.map enc)) (Iv : List α → Rh → Mp → Prop) (h0 : Iv [] ρ M) (hC : ∀ l ρ M', Iv l ρ M' → sv M' x = some (as.map enc))
    (hs : ∀ l a r ρ M, as = l ++ a :: r → Iv l ρ M → g (enc a) ρ M fun ρ2 M2 => tb ⟨Iv (l ++ [a]), DD.rt, DD.nx, Iv (l ++ [a])⟩ ρ2 M2) (he : ∀ ρ M, Iv as ρ M → DD.nx ρ M) : dFor (dIsq d) g tb DD ρ M :=
  hd _ ⟨_, hx, for_list enc as _ Iv h0 hC hs he⟩
theorem for_range {t : DA} {g : DGt} {tb : DS} {n : Nat} (hd : ∀ Q : DKs, Q [.int n] M → t ρ M Q) (hn : n < 2 ^ 62) (Iv : Nat → Rh → Mp → Prop) (h0 : Iv 0 ρ M)
    (hs : ∀ k ρ M, k < n → Iv k ρ M → g (.int k) ρ M fun ρ2 M2 => tb ⟨Iv (k + 1), DD.rt, DD.nx, Iv (k + 1)⟩ ρ2 M2) (he : ∀ ρ M, Iv n ρ M → DD.nx ρ M) : dFor (dIr1 t) g tb DD ρ M := by
  refine hd _ ⟨n, rfl, by omega, by omega, fun i => Iv i, h0, fun _ _ _ _ => trivial, fun i x ρ M hx h => ?_, fun ρ M h => he ρ M ?_⟩
  · have e : i < n ∧ x = .int i := by
      simp only [intsD, List.getElem?_map, Int.toNat_natCast] at hx
      by_cases hi : i < n
      · rw [List.getElem?_range hi] at hx
        simp at hx
        exact ⟨hi, hx.symm⟩
      · rw [List.getElem?_eq_none (by simp; omega)] at hx
        cases hx
    rw [e.2]
    exact hs i ρ M e.1 h
  · simpa [intsD] using h
/-- for k in range(a, b) -/
theorem for_range2 {t : DA} {g : DGt} {tb : DS} {a b : Nat} (hab : a ≤ b) (hd : ∀ Q : DKs, Q [.int a, .int b] M → t ρ M Q) (hn : b < 2 ^ 62) (Iv : Nat → Rh → Mp → Prop) (h0 : Iv a ρ M)
    (hs : ∀ k ρ M, a ≤ k → k < b → Iv k ρ M → g (.int k) ρ M fun ρ2 M2 => tb ⟨Iv (k + 1), DD.rt, DD.nx, Iv (k + 1)⟩ ρ2 M2) (he : ∀ ρ M, Iv b ρ M → DD.nx ρ M) : dFor (dIr2 t) g tb DD ρ M := by
  have e0 : ((b : Int) - a).toNat = b - a := by omega
  refine hd _ ⟨a, b, rfl, by omega, fun i => Iv (a + i), h0, fun _ _ _ _ => trivial, fun i x ρ M hx h => ?_, fun ρ M h => he ρ M ?_⟩
  · have e : i < b - a ∧ x = .int ((a + i : Nat) : Int) := by
      simp only [intsD, List.getElem?_map, e0] at hx
      by_cases hi : i < b - a
      · rw [List.getElem?_range hi] at hx
        simp at hx
        exact ⟨hi, by rw [← hx]; simp⟩
      · rw [List.getElem?_eq_none (by simp; omega)] at hx
        cases hx
    rw [e.2]
    exact hs (a + i) ρ M (by omega) (by omega) h
  · have e1 : a + (intsD a ((b : Int) - a).toNat).length = b := by simp [intsD]; omega
    have h : Iv (a + (intsD a ((b : Int) - a).toNat).length) ρ M := h
    rw [e1] at h
    exact h
/-- a comprehension whose parts change nothing -/
theorem lc_pure {α : Type} {di : DIt} {ct : CT} {own : List Nat} {tt : DB} {te : DT} {C : Mp → Prop} (enc : α → D) (as : List α) (keep : α → Bool) (f : α → D)
    (hd : ∀ RR : List D → (Mp → Prop) → Mp → Prop, RR (as.map enc) C M → di ρ M RR) (hC : ∀ p o, M p = none → C (upm M p o)) (hl : as.length ≤ sizeLine)
    (hs : ∀ p ys a, M p = none → a ∈ as → ∃ ρ2, ct.put (enc a) (wipeD ρ own) = some ρ2 ∧ (∀ Q : Bool → Mp → Prop, Q (keep a) (upm M p (.lst ys)) → tt ρ2 (upm M p (.lst ys)) Q) ∧ (keep a = true → ∀ Q : DK, Q (f a) (upm M p (.lst ys)) → te ρ2 (upm M p (.lst ys)) Q))
    (h : Q (.lst ((as.filter keep).map f)) M) : dLc di ct own tt te ρ M Q := by
  refine hd _ ⟨by simpa using hl, fun p hp => ⟨fun i ys M' => M' = M ∧ ys = ((as.take i).filter keep).map f, ⟨rfl, by simp⟩, fun i ys M' ⟨e1, e2⟩ => ?_, fun i x ys M' hx ⟨e1, e2⟩ => ?_, fun ys M' ⟨e1, e2⟩ => ?_⟩⟩
  · subst e1
    refine ⟨hp, hC p _ hp, ?_⟩
    rw [e2, List.length_map]
    exact Nat.le_trans (List.length_filter_le _ _) (by simp; omega)
  · subst e1
    rw [List.getElem?_map] at hx
    cases e : as[i]? with
    | none => rw [e] at hx; cases hx
    | some a =>
      rw [e] at hx
      cases hx
      obtain ⟨ρ2, h1, h2, h3⟩ := hs p ys a hp (List.mem_of_getElem? e)
      refine ⟨ρ2, h1, h2 _ ?_⟩
      have e3 : as.take (i + 1) = as.take i ++ [a] := by rw [List.take_succ, e]; rfl
      cases hk : keep a with
      | true => rw [if_pos rfl]; exact h3 hk _ ⟨M', rfl, rfl, by rw [e2, e3]; simp [hk]⟩
      | false => rw [if_neg Bool.false_ne_true]; exact ⟨M', rfl, rfl, by rw [e2, e3]; simp [hk]⟩
  · subst e1
    rw [e2]
    simpa using h
/-- .. without a filter, over a tuple or a list -/
theorem lc_map {α : Type} {d : DT} {ct : CT} {own : List Nat} {te : DT} {x : D} (enc : α → D) (as : List α) (f : α → D)
    (hd : ∀ Q : DK, Q x M → d ρ M Q) (hx : sv M x = some (as.map enc)) (hC : ∀ p o, M p = none → sv (upm M p o) x = some (as.map enc)) (hl : as.length ≤ sizeLine)
    (hs : ∀ p ys a, M p = none → a ∈ as → ∃ ρ2, ct.put (enc a) (wipeD ρ own) = some ρ2 ∧ ∀ Q : DK, Q (f a) (upm M p (.lst ys)) → te ρ2 (upm M p (.lst ys)) Q)
    (h : Q (.lst (as.map f)) M) : dLc (dIsq d) ct own dYes te ρ M Q :=
  lc_pure (C := fun M' => sv M' x = some (as.map enc)) enc as (fun _ => true) f (fun RR hr => hd _ ⟨_, hx, hr⟩) hC hl (fun p ys a hp ha => let ⟨ρ2, h1, h2⟩ := hs p ys a hp ha; ⟨ρ2, h1, fun Q q => q, fun _ => h2⟩) (by rw [List.filter_eq_self.mpr fun _ _ => rfl]; exact h)
theorem sub_del {p : Addr} {o : MO} (h : M p = none) : Sub M (del (upm M p o) p) := by rw [del_upm h]; exact Sub.refl
theorem sub_up {p : Addr} {o : MO} (h : M p = none) : Sub M (upm M p o) := Sub.refl.up h
end
end DL

/-! The program's answers, in plain Lean, and how its data are laid. -/
namespace DL
open PySem PySem.Spec PyProof.Rows L2
inductive Dd where
  | group | single | part | go
  deriving DecidableEq
def Dd.s : Dd → Str
  | .group => "group"
  | .single => "single"
  | .part => "part"
  | .go => "go"
theorem Dd.ok (d : Dd) : PyData.strOk d.s = true := by cases d <;> decide +kernel
theorem Dd.inj {a b : Dd} : a.s = b.s ↔ a = b := by cases a <;> cases b <;> decide +kernel
theorem int_inj : Function.Injective D.int := fun a b h => by cases h; rfl
theorem ints_inj {a b : List Int} : a.map D.int = b.map D.int ↔ a = b := List.map_inj_right fun _ _ h => int_inj h
abbrev tI (l : List Int) : D := .tup (l.map D.int)
structure Su where
  seats : List Int
  sizes : List Int
  r0 : Int
  r1 : Int
  c0 : Int
  c1 : Int
def Su.d (s : Su) : D := .tup [tI s.seats, tI s.sizes, .tup [.int s.r0, .int s.r1], .tup [.int s.c0, .int s.c1]]
structure Su.ok (s : Su) : Prop where
  a1 : 1 ≤ s.seats.length
  a2 : s.seats.length ≤ 2
  a3 : ∀ x ∈ s.seats, 1 ≤ x ∧ x ≤ 5
  b1 : 1 ≤ s.sizes.length
  b2 : s.sizes.length ≤ 3
  b3 : ∀ x ∈ s.sizes, 1 ≤ x ∧ x ≤ 5
  b4 : s.sizes.Pairwise (· < ·)
  r1 : 1 ≤ s.r0
  r2 : s.r0 ≤ 3
  r3 : 0 ≤ s.r1
  r4 : s.r1 ≤ 4
  c1 : 0 ≤ s.c0
  c2 : s.c0 ≤ 2
  c3 : 0 ≤ s.c1
  c4 : s.c1 ≤ 2
structure Rw where
  mood : Int
  f0 : Int
  f1 : Int
  l0 : Int
  l1 : Int
  w0 : Int
  w1 : Int
  deed : Dd
  aft : Int
def Rw.d (r : Rw) : D := .tup [.int r.mood, .tup [.int r.f0, .int r.f1], .tup [.int r.l0, .int r.l1], .tup [.int r.w0, .int r.w1], .str r.deed.s, .int r.aft]
structure Rw.ok (r : Rw) : Prop where
  m0 : 0 ≤ r.mood
  m1 : r.mood ≤ 2
  f0 : 0 ≤ r.f0
  f1 : r.f0 ≤ r.f1
  f2 : r.f1 ≤ 9
  l0 : 0 ≤ r.l0
  l1 : r.l0 ≤ r.l1
  l2 : r.l1 ≤ 9
  w0 : 0 ≤ r.w0
  w1 : r.w0 ≤ r.w1
  w2 : r.w1 ≤ 9
  a0 : 0 ≤ r.aft
  a1 : r.aft ≤ 2
def rl (r : List Rw) : D := .tup (r.map Rw.d)
structure Rok (r : List Rw) : Prop where
  len : r.length ≤ 8
  row : ∀ x ∈ r, x.ok
structure Stt where
  turn : Int
  line : List Int
  singles : Int
  mood : Int
def Stt.d (s : Stt) : D := .tup [.int s.turn, tI s.line, .int s.singles, .int s.mood]
structure Cm where
  groups : List Int
  more : Int
def Cm.d (c : Cm) : D := .tup [tI c.groups, .int c.more]
def ddD (p : Dd × Int) : D := .tup [.str p.1.s, .int p.2]
structure Ch where
  deeds : List (Dd × Int)
  left : Int
  lost : Int
  a0 : Int
  a1 : Int
def Ch.d (c : Ch) : D := .tup [.tup (c.deeds.map ddD), .int c.left, .int c.lost, .tup [.int c.a0, .int c.a1]]
theorem Su.inj {a b : Su} : a.d = b.d ↔ a = b := ⟨fun h => by cases a; cases b; simp only [Su.d, D.tup.injEq, List.cons.injEq, D.int.injEq, ints_inj, and_true] at h; simp_all, fun h => h ▸ rfl⟩
theorem Rw.inj {a b : Rw} : a.d = b.d ↔ a = b := ⟨fun h => by cases a; cases b; simp only [Rw.d, D.tup.injEq, List.cons.injEq, D.int.injEq, D.str.injEq, Dd.inj, and_true] at h; simp_all, fun h => h ▸ rfl⟩
theorem rl_inj {a b : List Rw} : rl a = rl b ↔ a = b := by
  unfold rl
  rw [D.tup.injEq]
  exact List.map_inj_right fun _ _ h => Rw.inj.mp h
theorem Stt.inj {a b : Stt} : a.d = b.d ↔ a = b := ⟨fun h => by cases a; cases b; simpa [Stt.d, ints_inj] using h, fun h => h ▸ rfl⟩
theorem Cm.inj {a b : Cm} : a.d = b.d ↔ a = b := ⟨fun h => by cases a; cases b; simpa [Cm.d, ints_inj] using h, fun h => h ▸ rfl⟩
theorem ddD_inj {a b : Dd × Int} : ddD a = ddD b ↔ a = b := ⟨fun h => by cases a; cases b; simpa [ddD, Dd.inj] using h, fun h => h ▸ rfl⟩
theorem Ch.inj {a b : Ch} : a.d = b.d ↔ a = b := ⟨fun h => by
    cases a; cases b
    simp only [Ch.d, D.tup.injEq, List.cons.injEq, D.int.injEq, and_true] at h
    obtain ⟨h1, h2, h3, h4, h5⟩ := h
    rw [List.map_inj_right fun _ _ h => ddD_inj.mp h] at h1
    simp_all, fun h => h ▸ rfl⟩
/-! what the program answers -/
def frontI : List Int → Int
  | [] => 0
  | x :: _ => x
def can (d : Dd) (f l s : Int) : Bool := match d with
  | .group => decide (0 < f) && decide (f ≤ l)
  | .single => decide (0 < s) && decide (0 < l)
  | .part => decide (l < f) && decide (0 < l)
  | .go => true
def fits (mood front singles left : Int) (r : Rw) : Bool :=
  decide (r.f0 ≤ front) && decide (front ≤ r.f1) && (decide (r.l0 ≤ left) && decide (left ≤ r.l1)) && decide (r.mood = mood) && (decide (r.w0 ≤ singles) && decide (singles ≤ r.w1)) && can r.deed front left singles
def fit (rule : List Rw) (mood : Int) (line : List Int) (singles left : Int) : Option Rw := rule.find? (fits mood (frontI line) singles left)
def optR : Option Rw → D
  | some r => r.d
  | none => .non
structure St4 where
  deed : Dd × Int
  line : List Int
  singles : Int
  left : Int
def seat (d : Dd) (line : List Int) (singles left : Int) : St4 := match d with
  | .group => ⟨(.group, frontI line), line.tail, singles, left - frontI line⟩
  | .single => ⟨(.single, 1), line, singles - 1, left - 1⟩
  | _ => ⟨(.part, left), (frontI line - left) :: line.tail, singles, 0⟩
structure FS where
  deeds : List (Dd × Int)
  left : Int
  line : List Int
  singles : Int
  mood : Int
def FS.fit (rule : List Rw) (s : FS) : Option Rw := DL.fit rule s.mood s.line s.singles s.left
def FS.next (r : Rw) (s : FS) : FS :=
  let t := seat r.deed s.line s.singles s.left
  ⟨s.deeds ++ [t.deed], t.left, t.line, t.singles, r.aft⟩
def fillN (rule : List Rw) : Nat → FS → FS
  | 0, s => match s.fit rule with
    | none => s
    | some r => { s with mood := r.aft }
  | n + 1, s => match s.fit rule with
    | none => s
    | some r => if r.deed = .go then { s with mood := r.aft } else fillN rule n (s.next r)
def fill (rule : List Rw) (line : List Int) (singles seats mood : Int) : FS := fillN rule seats.toNat ⟨[], seats, line, singles, mood⟩
structure Let where
  here : List Int
  waiting : Int
  a0 : Int
  a1 : Int
def letIn (su : Su) (line : List Int) (singles : Int) (c : Cm) : Let :=
  let here := (line ++ c.groups).take (max su.r0 (line.length : Int)).toNat
  let w := min (max su.r1 singles) (singles + c.more)
  ⟨here, w, line.length + c.groups.length - here.length, singles + c.more - w⟩
def beatF (su : Su) (rule : List Rw) (st : Stt) (c : Cm) : FS :=
  let l := letIn su st.line st.singles c
  fill rule l.here l.waiting ((su.seats[st.turn.toNat]?).getD 0) st.mood
def lostF (f : FS) : Int := if f.line ≠ [] ∨ 0 < f.singles then f.left else 0
def chair (su : Su) (rule : List Rw) (st : Stt) (c : Cm) : Ch :=
  let f := beatF su rule st c
  let l := letIn su st.line st.singles c
  ⟨f.deeds, f.left, lostF f, l.a0, l.a1⟩
def after (su : Su) (rule : List Rw) (st : Stt) (c : Cm) : Stt :=
  let f := beatF su rule st c
  ⟨(st.turn + 1) % (su.seats.length : Int), f.line, f.singles, f.mood⟩
/-- what one can go on from -/
structure Stt.ok (su : Su) (s : Stt) : Prop where
  t0 : 0 ≤ s.turn
  t1 : s.turn < su.seats.length
  ln : s.line.length ≤ 3
structure Cm.ok (su : Su) (c : Cm) : Prop where
  gl : (c.groups.length : Int) ≤ su.c0
  gi : ∀ x ∈ c.groups, x ∈ su.sizes
  m0 : 0 ≤ c.more
  m1 : c.more ≤ su.c1
/-! lines do not grow -/
theorem seat_line (d : Dd) (line : List Int) (s l : Int) (h : line ≠ [] ∨ d = .group ∨ d = .single) : (seat d line s l).line.length ≤ line.length := by
  cases d <;> simp only [seat, List.length_tail, List.length_cons] <;> cases line <;> simp_all
theorem fits_can {mood front singles left : Int} {r : Rw} (h : fits mood front singles left r = true) : can r.deed front left singles = true := by
  unfold fits at h
  exact (Bool.and_eq_true _ _ ▸ h).2
theorem fit_can {rule : List Rw} {s : FS} {r : Rw} (h : s.fit rule = some r) : can r.deed (frontI s.line) s.left s.singles = true := fits_can (List.find?_some h)
theorem fit_mem {rule : List Rw} {s : FS} {r : Rw} (h : s.fit rule = some r) : r ∈ rule := List.mem_of_find?_eq_some h
theorem next_line {rule : List Rw} {s : FS} {r : Rw} (h : s.fit rule = some r) (hg : r.deed ≠ .go) : (s.next r).line.length ≤ s.line.length := by
  have hc := fit_can h
  refine seat_line _ _ _ _ ?_
  cases hd : r.deed with
  | group => exact .inr (.inl rfl)
  | single => exact .inr (.inr rfl)
  | go => exact absurd hd hg
  | part =>
    rw [hd] at hc
    simp only [can, Bool.and_eq_true, decide_eq_true_eq] at hc
    left
    intro e
    rw [e] at hc
    simp only [frontI] at hc
    omega
theorem next_left {rule : List Rw} {s : FS} {r : Rw} (h : s.fit rule = some r) (hg : r.deed ≠ .go) : (s.next r).left.toNat < s.left.toNat := by
  have hc := fit_can h
  show (seat r.deed s.line s.singles s.left).left.toNat < _
  cases hd : r.deed with
  | go => exact absurd hd hg
  | _ =>
    rw [hd] at hc
    simp only [can, Bool.and_eq_true, decide_eq_true_eq] at hc
    simp only [seat]
    omega
theorem fillN_line (rule : List Rw) : ∀ (n : Nat) (s : FS), (fillN rule n s).line.length ≤ s.line.length
  | 0, s => by unfold fillN; cases s.fit rule <;> exact Nat.le_refl _
  | n + 1, s => by
    unfold fillN
    cases h : s.fit rule with
    | none => exact Nat.le_refl _
    | some r =>
      simp only
      split
      · exact Nat.le_refl _
      · rename_i hg
        exact Nat.le_trans (fillN_line rule n _) (next_line h hg)
theorem letIn_len (su : Su) (line : List Int) (s : Int) (c : Cm) (h : line.length ≤ 3) (h2 : su.r0 ≤ 3) : (letIn su line s c).here.length ≤ 3 := by
  simp only [letIn, List.length_take]
  omega
theorem after_ok {su : Su} {rule : List Rw} {st : Stt} {c : Cm} (hs : su.ok) (h : st.ok su) : (after su rule st c).ok su := by
  have := hs.a1
  refine ⟨?_, ?_, ?_⟩
  · exact Int.emod_nonneg _ (by omega)
  · exact Int.emod_lt_of_pos _ (by omega)
  · refine Nat.le_trans (fillN_line rule _ _) (letIn_len su st.line st.singles c h.ln hs.r2)
end DL

/-! The program's defs over data (printed by gen.py). -/
namespace DL
open PySem PySem.Spec PyProof.Rows L2
def d_is_integer : DS :=
  (dRet (dAndV (dCB dIsi (dCons (dVar 0) (dCons (dC (.ty "int")) dNil))) (dNotV (dCB dIsi (dCons (dVar 0) (dCons (dC (.ty "bool")) dNil))))))
def d_is_number (S_is_integer : DSp) : DS :=
  (dRet (dAndV (dCall S_is_integer [] G0.dx (dCons (dVar 0) dNil)) (dChain dLe dLe (dVar 1) (dVar 0) (dVar 2))))
def d_are_numbers (S_is_number : DSp) : DS :=
  (dSeq (dIfS (dOr (dNot (dB (dCB dIsi (dCons (dVar 0) (dCons (dC (.ty "tuple")) dNil))))) (dNot (dB (dChain dLe dLe (dVar 1) (dCB (d1 lenV) (dCons (dVar 0) dNil)) (dVar 2))))) (dRet (dC (.bl false))) dNext)
    (dRet (dCB dAll (dCons (dLc (dIsq (dVar 0)) (.one 5) [5] dYes (dCall S_is_number [] G0.dx (dCons (dVar 5) (dCons (dVar 3) (dCons (dVar 4) dNil))))) dNil))))
def d_are_most (S_are_numbers : DSp) : DS :=
  (dSeq (dIfS (dNot (dB (dCall S_are_numbers [] G0.dx (dCons (dVar 0) (dCons (dC (.int 2)) (dCons (dC (.int 2)) (dCons (dC (.int 0)) (dCons (dC (.int 9)) dNil)))))))) (dRet (dC (.bl false))) dNext)
    (dRet (dAndV (dChain dLe dLe (dVar 1) (dIx (dVar 0) (dC (.int 0))) (dVar 2)) (dOp dLe (dIx (dVar 0) (dC (.int 1))) (dVar 3)))))
def d_is_setup (S_are_numbers : DSp) (S_are_most : DSp) : DS :=
  (dSeq (dIfS (dOr (dNot (dB (dCB dIsi (dCons (dVar 0) (dCons (dC (.ty "tuple")) dNil))))) (dB (dOp dNe (dCB (d1 lenV) (dCons (dVar 0) dNil)) (dC (.int 4))))) (dRet (dC (.bl false))) dNext)
    (dSeq (dAsg (dVar 0) (gSq 4 (gCn (gNm 1) (gCn (gNm 2) (gCn (gNm 3) (gCn (gNm 4) gNl))))))
    (dSeq (dIfS (dOr (dNot (dB (dCall S_are_numbers [] G0.dx (dCons (dVar 1) (dCons (dC (.int 1)) (dCons (dC (.int 2)) (dCons (dC (.int 1)) (dCons (dC (.int 5)) dNil)))))))) (dNot (dB (dCall S_are_numbers [] G0.dx (dCons (dVar 2) (dCons (dC (.int 1)) (dCons (dC (.int 3)) (dCons (dC (.int 1)) (dCons (dC (.int 5)) dNil))))))))) (dRet (dC (.bl false))) dNext)
    (dSeq (dIfS (dNot (dB (dCB dAll (dCons (dLc (dIzt (dCons (dVar 2) (dCons (dSl (dVar 2) (dPart (dC (.int 1))) dNo) dNil))) (.tup [5, 6]) [5, 6] dYes (dOp dLt (dVar 5) (dVar 6))) dNil)))) (dRet (dC (.bl false))) dNext)
    (dRet (dAndV (dCall S_are_most [] G0.dx (dCons (dVar 3) (dCons (dC (.int 1)) (dCons (dC (.int 3)) (dCons (dC (.int 4)) dNil))))) (dCall S_are_most [] G0.dx (dCons (dVar 4) (dCons (dC (.int 0)) (dCons (dC (.int 2)) (dCons (dC (.int 2)) dNil)))))))))))
def d_is_range (S_are_numbers : DSp) : DS :=
  (dRet (dAndV (dCall S_are_numbers [] G0.dx (dCons (dVar 0) (dCons (dC (.int 2)) (dCons (dC (.int 2)) (dCons (dC (.int 0)) (dCons (dC (.int 9)) dNil)))))) (dOp dLe (dIx (dVar 0) (dC (.int 0))) (dIx (dVar 0) (dC (.int 1))))))
def d_is_rule_row (S_is_number : DSp) (S_is_range : DSp) : DS :=
  (dSeq (dIfS (dOr (dNot (dB (dCB dIsi (dCons (dVar 0) (dCons (dC (.ty "tuple")) dNil))))) (dB (dOp dNe (dCB (d1 lenV) (dCons (dVar 0) dNil)) (dC (.int 6))))) (dRet (dC (.bl false))) dNext)
    (dSeq (dAsg (dVar 0) (gSq 6 (gCn (gNm 1) (gCn (gNm 2) (gCn (gNm 3) (gCn (gNm 4) (gCn (gNm 5) (gCn (gNm 6) gNl))))))))
    (dSeq (dIfS (dOr (dNot (dB (dCall S_is_number [] G0.dx (dCons (dVar 1) (dCons (dC (.int 0)) (dCons (dC (.int 2)) dNil)))))) (dNot (dB (dCall S_is_number [] G0.dx (dCons (dVar 6) (dCons (dC (.int 0)) (dCons (dC (.int 2)) dNil))))))) (dRet (dC (.bl false))) dNext)
    (dSeq (dIfS (dOr (dNot (dB (dCall S_is_range [] G0.dx (dCons (dVar 2) dNil)))) (dOr (dNot (dB (dCall S_is_range [] G0.dx (dCons (dVar 3) dNil)))) (dNot (dB (dCall S_is_range [] G0.dx (dCons (dVar 4) dNil)))))) (dRet (dC (.bl false))) dNext)
    (dRet (dAndV (dCB dIsi (dCons (dVar 5) (dCons (dC (.ty "str")) dNil))) (dOp dIn (dVar 5) (dC (.tup [(.str "group"), (.str "single"), (.str "part"), (.str "go")])))))))))
def d_is_rule (S_is_rule_row : DSp) : DS :=
  (dSeq (dIfS (dOr (dNot (dB (dCB dIsi (dCons (dVar 0) (dCons (dC (.ty "tuple")) dNil))))) (dB (dOp dGt (dCB (d1 lenV) (dCons (dVar 0) dNil)) (dC (.int 8))))) (dRet (dC (.bl false))) dNext)
    (dRet (dCB dAll (dCons (dLc (dIsq (dVar 0)) (.one 1) [1] dYes (dCall S_is_rule_row [] G0.dx (dCons (dVar 1) dNil))) dNil))))
def d_check_setup (S_is_setup : DSp) : DS :=
  (dIfS (dNot (dB (dCall S_is_setup [] G0.dx (dCons (dVar 0) dNil)))) dNever dNext)
def d_check_both (S_check_setup : DSp) (S_is_rule : DSp) : DS :=
  (dSeq (dDrop (dCall S_check_setup [] G0.dx (dCons (dVar 0) dNil)))
    (dIfS (dNot (dB (dCall S_is_rule [] G0.dx (dCons (dVar 1) dNil)))) dNever dNext))
def d_is_size (S_is_number : DSp) : DS :=
  (dRet (dAndV (dCall S_is_number [] G0.dx (dCons (dVar 1) (dCons (dC (.int 1)) (dCons (dC (.int 5)) dNil)))) (dOp dIn (dVar 1) (dIx (dVar 0) (dC (.int 1))))))
def d_is_comers (S_is_size : DSp) (S_is_number : DSp) : DS :=
  (dSeq (dIfS (dOr (dNot (dB (dCB dIsi (dCons (dVar 1) (dCons (dC (.ty "tuple")) dNil))))) (dB (dOp dNe (dCB (d1 lenV) (dCons (dVar 1) dNil)) (dC (.int 2))))) (dRet (dC (.bl false))) dNext)
    (dSeq (dAsg (dVar 1) (gSq 2 (gCn (gNm 2) (gCn (gNm 3) gNl))))
    (dSeq (dIfS (dOr (dNot (dB (dCB dIsi (dCons (dVar 2) (dCons (dC (.ty "tuple")) dNil))))) (dB (dOp dGt (dCB (d1 lenV) (dCons (dVar 2) dNil)) (dIx (dIx (dVar 0) (dC (.int 3))) (dC (.int 0)))))) (dRet (dC (.bl false))) dNext)
    (dRet (dAndV (dCB dAll (dCons (dLc (dIsq (dVar 2)) (.one 4) [4] dYes (dCall S_is_size [] G0.dx (dCons (dVar 0) (dCons (dVar 4) dNil)))) dNil)) (dCall S_is_number [] G0.dx (dCons (dVar 3) (dCons (dC (.int 0)) (dCons (dIx (dIx (dVar 0) (dC (.int 3))) (dC (.int 1))) dNil)))))))))
def d_first_state : DS :=
  (dRet (dC (.tup [(.int 0), (.tup []), (.int 0), (.int 0)])))
def d_can_be_done : DS :=
  (dSeq (dIfS (dB (dOp dEq (dVar 0) (dC (.str "group")))) (dRet (dChain dLt dLe (dC (.int 0)) (dVar 1) (dVar 2))) dNext)
    (dSeq (dIfS (dB (dOp dEq (dVar 0) (dC (.str "single")))) (dRet (dAndV (dOp dGt (dVar 3) (dC (.int 0))) (dOp dGt (dVar 2) (dC (.int 0))))) dNext)
    (dSeq (dIfS (dB (dOp dEq (dVar 0) (dC (.str "part")))) (dRet (dChain dGt dGt (dVar 1) (dVar 2) (dC (.int 0)))) dNext)
    (dRet (dC (.bl true))))))
def d_front_of : DS :=
  (dSeq (dIfS (dB (dOp dEq (dVar 0) (dTup dNil))) (dRet (dC (.int 0))) dNext)
    (dRet (dIx (dVar 0) (dC (.int 0)))))
def d_fitting_row (S_front_of : DSp) (S_can_be_done : DSp) : DS :=
  (dSeq (dSet 5 (dCall S_front_of [] G0.dx (dCons (dVar 2) dNil)))
    (dSeq (dFor (dIsq (dVar 0)) (gNm 6) (dSeq (dSet 7 (dAndV (dChain dLe dLe (dIx (dIx (dVar 6) (dC (.int 1))) (dC (.int 0))) (dVar 5) (dIx (dIx (dVar 6) (dC (.int 1))) (dC (.int 1)))) (dChain dLe dLe (dIx (dIx (dVar 6) (dC (.int 2))) (dC (.int 0))) (dVar 4) (dIx (dIx (dVar 6) (dC (.int 2))) (dC (.int 1))))))
    (dIfS (dAnd (dB (dOp dEq (dIx (dVar 6) (dC (.int 0))) (dVar 1))) (dAnd (dB (dVar 7)) (dB (dChain dLe dLe (dIx (dIx (dVar 6) (dC (.int 3))) (dC (.int 0))) (dVar 3) (dIx (dIx (dVar 6) (dC (.int 3))) (dC (.int 1))))))) (dIfS (dB (dCall S_can_be_done [] G0.dx (dCons (dIx (dVar 6) (dC (.int 4))) (dCons (dVar 5) (dCons (dVar 4) (dCons (dVar 3) dNil)))))) (dRet (dVar 6)) dNext) dNext)))
    (dRet (dC .non))))
def d_seated : DS :=
  (dSeq (dIfS (dB (dOp dEq (dVar 0) (dC (.str "group")))) (dRet (dTup (dCons (dTup (dCons (dC (.str "group")) (dCons (dIx (dVar 1) (dC (.int 0))) dNil))) (dCons (dSl (dVar 1) (dPart (dC (.int 1))) dNo) (dCons (dVar 2) (dCons (dOp dSub (dVar 3) (dIx (dVar 1) (dC (.int 0)))) dNil)))))) dNext)
    (dSeq (dIfS (dB (dOp dEq (dVar 0) (dC (.str "single")))) (dRet (dTup (dCons (dTup (dCons (dC (.str "single")) (dCons (dC (.int 1)) dNil))) (dCons (dVar 1) (dCons (dOp dSub (dVar 2) (dC (.int 1))) (dCons (dOp dSub (dVar 3) (dC (.int 1))) dNil)))))) dNext)
    (dRet (dTup (dCons (dTup (dCons (dC (.str "part")) (dCons (dVar 3) dNil))) (dCons (dOp dAdd (dTup (dCons (dOp dSub (dIx (dVar 1) (dC (.int 0))) (dVar 3)) dNil)) (dSl (dVar 1) (dPart (dC (.int 1))) dNo)) (dCons (dVar 2) (dCons (dC (.int 0)) dNil))))))))
def d_fill (S_fitting_row : DSp) (S_seated : DSp) : DS :=
  (dSeq (dSet 5 (dVar 3))
    (dSeq (dSet 6 (dLstO dNil))
    (dSeq (dSet 7 (dCall S_fitting_row [] G0.dx (dCons (dVar 0) (dCons (dVar 4) (dCons (dVar 1) (dCons (dVar 2) (dCons (dVar 5) dNil)))))))
    (dSeq (dWhile (dAnd (dB (dOp dIsNot (dVar 7) (dC .non))) (dB (dOp dNe (dIx (dVar 7) (dC (.int 4))) (dC (.str "go"))))) (dSeq (dAsg (dCall S_seated [] G0.dx (dCons (dIx (dVar 7) (dC (.int 4))) (dCons (dVar 1) (dCons (dVar 2) (dCons (dVar 5) dNil))))) (gSq 4 (gCn (gNm 8) (gCn (gNm 1) (gCn (gNm 2) (gCn (gNm 5) gNl))))))
    (dSeq (dDrop (dApp (dVar 6) (dCons (dVar 8) dNil)))
    (dSeq (dSet 4 (dIx (dVar 7) (dC (.int 5))))
    (dSet 7 (dCall S_fitting_row [] G0.dx (dCons (dVar 0) (dCons (dVar 4) (dCons (dVar 1) (dCons (dVar 2) (dCons (dVar 5) dNil)))))))))))
    (dSeq (dIfS (dB (dOp dIsNot (dVar 7) (dC .non))) (dSet 4 (dIx (dVar 7) (dC (.int 5)))) dNext)
    (dRet (dTup (dCons (dCB (d1 tupV) (dCons (dVar 6) dNil)) (dCons (dVar 5) (dCons (dVar 1) (dCons (dVar 2) (dCons (dVar 4) dNil))))))))))))
def d_let_in : DS :=
  (dSeq (dAsg (dVar 3) (gSq 2 (gCn (gNm 4) (gCn (gNm 5) gNl))))
    (dSeq (dSet 6 (dSl (dOp dAdd (dVar 1) (dVar 4)) dNo (dPart (dCB dMax2 (dCons (dIx (dIx (dVar 0) (dC (.int 2))) (dC (.int 0))) (dCons (dCB (d1 lenV) (dCons (dVar 1) dNil)) dNil))))))
    (dSeq (dSet 7 (dCB dMin2 (dCons (dCB dMax2 (dCons (dIx (dIx (dVar 0) (dC (.int 2))) (dC (.int 1))) (dCons (dVar 2) dNil))) (dCons (dOp dAdd (dVar 2) (dVar 5)) dNil))))
    (dRet (dTup (dCons (dVar 6) (dCons (dVar 7) (dCons (dTup (dCons (dOp dSub (dOp dAdd (dCB (d1 lenV) (dCons (dVar 1) dNil)) (dCB (d1 lenV) (dCons (dVar 4) dNil))) (dCB (d1 lenV) (dCons (dVar 6) dNil))) (dCons (dOp dSub (dOp dAdd (dVar 2) (dVar 5)) (dVar 7)) dNil))) dNil))))))))
def d_beat (S_let_in : DSp) (S_fill : DSp) : DS :=
  (dSeq (dAsg (dVar 2) (gSq 4 (gCn (gNm 4) (gCn (gNm 5) (gCn (gNm 6) (gCn (gNm 7) gNl))))))
    (dSeq (dAsg (dCall S_let_in [] G0.dx (dCons (dVar 0) (dCons (dVar 5) (dCons (dVar 6) (dCons (dVar 3) dNil))))) (gSq 3 (gCn (gNm 5) (gCn (gNm 6) (gCn (gNm 8) gNl)))))
    (dSeq (dAsg (dCall S_fill [] G0.dx (dCons (dVar 1) (dCons (dVar 5) (dCons (dVar 6) (dCons (dIx (dIx (dVar 0) (dC (.int 0))) (dVar 4)) (dCons (dVar 7) dNil)))))) (gSq 5 (gCn (gNm 9) (gCn (gNm 10) (gCn (gNm 5) (gCn (gNm 6) (gCn (gNm 7) gNl)))))))
    (dSeq (dSet 11 (dC (.int 0)))
    (dSeq (dIfS (dOr (dB (dOp dNe (dVar 5) (dTup dNil))) (dB (dOp dGt (dVar 6) (dC (.int 0))))) (dSet 11 (dVar 10)) dNext)
    (dRet (dTup (dCons (dTup (dCons (dVar 9) (dCons (dVar 10) (dCons (dVar 11) (dCons (dVar 8) dNil))))) (dCons (dTup (dCons (dOp dMod (dOp dAdd (dVar 4) (dC (.int 1))) (dCB (d1 lenV) (dCons (dIx (dVar 0) (dC (.int 0))) dNil))) (dCons (dVar 5) (dCons (dVar 6) (dCons (dVar 7) dNil))))) dNil)))))))))
def d_run (S_beat : DSp) : DS :=
  (dSeq (dSet 4 (dLstO dNil))
    (dSeq (dFor (dIsq (dVar 3)) (gNm 5) (dSeq (dAsg (dCall S_beat [] G0.dx (dCons (dVar 0) (dCons (dVar 1) (dCons (dVar 2) (dCons (dVar 5) dNil))))) (gSq 2 (gCn (gNm 6) (gCn (gNm 2) gNl))))
    (dDrop (dApp (dVar 4) (dCons (dVar 6) dNil)))))
    (dRet (dTup (dCons (dFrz 4) (dCons (dVar 2) dNil))))))
def d_Lift___init__ (C_Lift : Addr) (S_check_both : DSp) (S_first_state : DSp) : DS :=
  (dSeq (dDrop (dCall S_check_both [] G0.dx (dCons (dVar 1) (dCons (dVar 2) dNil))))
    (dSeq (dFldS C_Lift (dVar 0) (dVar 1) "setup")
    (dSeq (dFldS C_Lift (dVar 0) (dVar 2) "first")
    (dSeq (dFldS C_Lift (dVar 0) (dVar 2) "present")
    (dSeq (dFldS C_Lift (dVar 0) (dCall S_first_state [] G0.dx dNil) "here")
    (dSeq (dFldS C_Lift (dVar 0) (dLstO dNil) "done")
    (dSeq (dFldS C_Lift (dVar 0) (dLstO dNil) "gone")
    (dFldS C_Lift (dVar 0) (dLstO dNil) "earlier"))))))))
def d_Lift_beat (C_Lift : Addr) (S_is_comers : DSp) (S_run : DSp) : DS :=
  (dSeq (dSet 3 (dTup (dCons (dVar 1) (dCons (dVar 2) dNil))))
    (dSeq (dIfS (dNot (dB (dCall S_is_comers [] G0.dx (dCons (dFld C_Lift (dVar 0) "setup") (dCons (dVar 3) dNil))))) dNever dNext)
    (dSeq (dAsg (dCall S_run [] G0.dx (dCons (dFld C_Lift (dVar 0) "setup") (dCons (dFld C_Lift (dVar 0) "present") (dCons (dFld C_Lift (dVar 0) "here") (dCons (dLst (dCons (dVar 3) dNil)) dNil))))) (gSq 2 (gCn (gNm 4) (gCn (gNm 5) gNl))))
    (dSeq (dDrop (dApp (dFld C_Lift (dVar 0) "earlier") (dCons (dTup (dCons (dFld C_Lift (dVar 0) "present") (dCons (dFld C_Lift (dVar 0) "here") dNil))) dNil)))
    (dSeq (dDrop (dApp (dFld C_Lift (dVar 0) "done") (dCons (dTup (dCons (dC (.str "beat")) (dCons (dVar 3) dNil))) dNil)))
    (dSeq (dDrop (dApp (dFld C_Lift (dVar 0) "gone") (dCons (dIx (dVar 4) (dC (.int 0))) dNil)))
    (dSeq (dFldS C_Lift (dVar 0) (dVar 5) "here")
    (dRet (dIx (dVar 4) (dC (.int 0)))))))))))
def d_Lift_change_rule (C_Lift : Addr) (S_is_rule : DSp) : DS :=
  (dSeq (dIfS (dNot (dB (dCall S_is_rule [] G0.dx (dCons (dVar 1) dNil)))) dNever dNext)
    (dSeq (dDrop (dApp (dFld C_Lift (dVar 0) "earlier") (dCons (dTup (dCons (dFld C_Lift (dVar 0) "present") (dCons (dFld C_Lift (dVar 0) "here") dNil))) dNil)))
    (dSeq (dDrop (dApp (dFld C_Lift (dVar 0) "done") (dCons (dTup (dCons (dC (.str "rule")) (dCons (dVar 1) dNil))) dNil)))
    (dFldS C_Lift (dVar 0) (dVar 1) "present"))))
def d_Lift_undo (C_Lift : Addr) : DS :=
  (dSeq (dIfS (dB (dOp dEq (dFld C_Lift (dVar 0) "done") (dLst dNil))) dNever dNext)
    (dSeq (dSet 1 (dPop (dFld C_Lift (dVar 0) "done")))
    (dSeq (dIfS (dB (dOp dEq (dIx (dVar 1) (dC (.int 0))) (dC (.str "beat")))) (dDrop (dPop (dFld C_Lift (dVar 0) "gone"))) dNext)
    (dAsg (dPop (dFld C_Lift (dVar 0) "earlier")) (gSq 2 (gCn (gFd C_Lift (dVar 0) "present") (gCn (gFd C_Lift (dVar 0) "here") gNl)))))))
def d_Lift_row (C_Lift : Addr) : DS :=
  (dRet (dLc (dIsq (dFld C_Lift (dVar 0) "done")) (.one 1) [1] (dB (dOp dEq (dIx (dVar 1) (dC (.int 0))) (dC (.str "beat")))) (dIx (dVar 1) (dC (.int 1)))))
def d_Lift_chairs (C_Lift : Addr) : DS :=
  (dRet (dCB (d1 lstV) (dCons (dFld C_Lift (dVar 0) "gone") dNil)))
def d_Lift_state (C_Lift : Addr) : DS :=
  (dRet (dFld C_Lift (dVar 0) "here"))
def d_Lift_rule (C_Lift : Addr) : DS :=
  (dRet (dFld C_Lift (dVar 0) "present"))
def d_Lift_lost (C_Lift : Addr) : DS :=
  (dRet (dCB dSum (dCons (dLc (dIsq (dFld C_Lift (dVar 0) "gone")) (.one 1) [1] dYes (dIx (dVar 1) (dC (.int 2)))) dNil)))
def d_Lift_copy (C_Lift : Addr) (S_Lift___init__ : DSp) : DS :=
  (dSeq (dSet 1 (dMake C_Lift S_Lift___init__ [] G0.dx (dCons (dFld C_Lift (dVar 0) "setup") (dCons (dFld C_Lift (dVar 0) "first") dNil))))
    (dSeq (dFldS C_Lift (dVar 1) (dFld C_Lift (dVar 0) "present") "present")
    (dSeq (dFldS C_Lift (dVar 1) (dFld C_Lift (dVar 0) "here") "here")
    (dSeq (dFldS C_Lift (dVar 1) (dCB dListO (dCons (dFld C_Lift (dVar 0) "done") dNil)) "done")
    (dSeq (dFldS C_Lift (dVar 1) (dCB dListO (dCons (dFld C_Lift (dVar 0) "gone") dNil)) "gone")
    (dSeq (dFldS C_Lift (dVar 1) (dCB dListO (dCons (dFld C_Lift (dVar 0) "earlier") dNil)) "earlier")
    (dRet (dVar 1))))))))
def d_Lift_waiting (C_Lift : Addr) : DS :=
  (dRet (dTup (dCons (dCB (d1 lenV) (dCons (dIx (dFld C_Lift (dVar 0) "here") (dC (.int 1))) dNil)) (dCons (dIx (dFld C_Lift (dVar 0) "here") (dC (.int 2))) dNil))))
def d_Lift___len__ (C_Lift : Addr) : DS :=
  (dRet (dCB (d1 lenV) (dCons (dFld C_Lift (dVar 0) "gone") dNil)))
def d_Lift___getitem__ (C_Lift : Addr) (S_is_number : DSp) : DS :=
  (dSeq (dIfS (dNot (dB (dCall S_is_number [] G0.dx (dCons (dVar 1) (dCons (dC (.int 0)) (dCons (dOp dSub (dCB (d1 lenV) (dCons (dFld C_Lift (dVar 0) "gone") dNil)) (dC (.int 1))) dNil)))))) dNever dNext)
    (dRet (dIx (dFld C_Lift (dVar 0) "gone") (dVar 1))))
def d_Lift___eq__ (C_Lift : Addr) : DS :=
  (dRet (dAndV (dCB (dIsiC C_Lift) (dCons (dVar 1) (dCons (dC (.ref C_Lift)) dNil))) (dAndV (dOp dEq (dFld C_Lift (dVar 0) "setup") (dFld C_Lift (dVar 1) "setup")) (dAndV (dOp dEq (dFld C_Lift (dVar 0) "first") (dFld C_Lift (dVar 1) "first")) (dOp dEq (dFld C_Lift (dVar 0) "done") (dFld C_Lift (dVar 1) "done"))))))
end DL

/-! What the program's defs answer. -/
namespace DL
open PySem PySem.Spec PyProof.Rows L2
theorem line_le {n : Nat} (h : n ≤ 1000) : n ≤ sizeLine := Nat.le_trans h (by decide)
def S_is_integer : DSp := fun ds M Q _ => ∃ i, ds = [.int i] ∧ Q (.bl true) M
theorem x_is_integer {i : Int} {M : Mp} {Q : DK} {dx : DX} : S_is_integer [.int i] M Q dx = Q (.bl true) M := propext ⟨fun ⟨_, e, q⟩ => q, fun q => ⟨_, rfl, q⟩⟩
theorem b_is_integer {ds M Q dx} (h : S_is_integer ds M Q dx) : d_is_integer (endD Q) (startD ["thing"] ds) M := by
  obtain ⟨i, rfl, q⟩ := h
  show d_is_integer (endD Q) [some (.int i)] M
  unfold d_is_integer
  simp only [↓xSeq, ↓xNx, ↓xRt, ↓xBk, ↓xCt, ↓xEndNx, ↓xEndRt, ↓xNext, ↓xBreak, ↓xCont, ↓xDrop, ↓xRet, ↓xRetN, ↓xNever, ↓xIfS, ↓xPut0, ↓xPutS, ↓xSet, ↓xAug, ↓xAsg, ↓xUn2, ↓xUn1, ↓xPar, ↓xNm, ↓xNl, ↓xCn, ↓xSq, ↓xSqL, ↓xV0, ↓xVS, ↓xC, ↓xFrz, ↓xFrz1, ↓xOp, ↓xBl, ↓xB, ↓xChain, ↓xAnd, ↓xOr, ↓xNot, ↓xAndV, ↓xOrV, ↓xNotV, ↓xIf, ↓xNil, ↓xCons, ↓xTup, ↓xLst, ↓xLstO, ↓xOpt, ↓xAddI, ↓xAddT, ↓xAddL, ↓xSub, ↓xIAdd, ↓xFdiv, ↓xMod, ↓xPow, ↓xMul, ↓xLt, ↓xLe, ↓xGt, ↓xGe, ↓xEqI, ↓xNeI, ↓xEqB, ↓xNeB, ↓xIsBB, ↓xIsNN, ↓xIsTN, ↓xIsLN, ↓xIsIN, ↓xIsSN, ↓xIsRN, ↓xNoBB, ↓xNoNN, ↓xNoTN, ↓xNoLN, ↓xNoIN, ↓xNoSN, ↓xNoRN, ↓xInT, ↓xIx, ↓xIxT, ↓xIxL, ↓at0, ↓at1, ↓at2, ↓at3, ↓at4, ↓at5, ↓xSl, ↓xNo, ↓xInt, ↓xPart, ↓xCutT, ↓xCutL, ↓xCB, ↓xLenT, ↓xLenL, ↓xIntI, ↓xTupT, ↓xTupL, ↓xLstT, ↓xLstL, ↓xIsiT, ↓xIsiI, ↓xIsiB, ↓xIsiS, ↓xMax2, ↓xMin2, ↓xSum, ↓xAll, ↓xApp, ↓xFld, ↓xFldS, ↓xGFd, ↓xCall, ↓xMeth, ↓xProp, ↓xNeg, ↓xNegI, if_true, if_false, Bool.false_eq_true, Bool.true_eq_false, reduceIte, Bool.not_true, Bool.not_false, decide_eq_true_eq, Bool.not_eq_true', decide_eq_false_iff_not, not_true_eq_false, not_false_eq_true, and_true, true_and, true_implies, List.length_cons, List.length_nil, Nat.zero_le, decide_true, decide_false, decide_not]
  exact ⟨M, Sub.refl, q⟩
def S_is_number : DSp := fun ds M Q _ => ∃ i a b, ds = [.int i, .int a, .int b] ∧ Q (.bl (decide (a ≤ i) && decide (i ≤ b))) M
theorem x_is_number {i a b : Int} {M : Mp} {Q : DK} {dx : DX} : S_is_number [.int i, .int a, .int b] M Q dx = Q (.bl (decide (a ≤ i) && decide (i ≤ b))) M := propext ⟨fun ⟨_, _, _, e, q⟩ => by cases e; exact q, fun q => ⟨_, _, _, rfl, q⟩⟩
theorem b_is_number {ds M Q dx} (h : S_is_number ds M Q dx) : d_is_number S_is_integer (endD Q) (startD ["thing", "low", "high"] ds) M := by
  obtain ⟨i, a, b, rfl, q⟩ := h
  show d_is_number _ (endD Q) [some (.int i), some (.int a), some (.int b)] M
  unfold d_is_number
  simp only [↓xSeq, ↓xNx, ↓xRt, ↓xBk, ↓xCt, ↓xEndNx, ↓xEndRt, ↓xNext, ↓xBreak, ↓xCont, ↓xDrop, ↓xRet, ↓xRetN, ↓xNever, ↓xIfS, ↓xPut0, ↓xPutS, ↓xSet, ↓xAug, ↓xAsg, ↓xUn2, ↓xUn1, ↓xPar, ↓xNm, ↓xNl, ↓xCn, ↓xSq, ↓xSqL, ↓xV0, ↓xVS, ↓xC, ↓xFrz, ↓xFrz1, ↓xOp, ↓xBl, ↓xB, ↓xChain, ↓xAnd, ↓xOr, ↓xNot, ↓xAndV, ↓xOrV, ↓xNotV, ↓xIf, ↓xNil, ↓xCons, ↓xTup, ↓xLst, ↓xLstO, ↓xOpt, ↓xAddI, ↓xAddT, ↓xAddL, ↓xSub, ↓xIAdd, ↓xFdiv, ↓xMod, ↓xPow, ↓xMul, ↓xLt, ↓xLe, ↓xGt, ↓xGe, ↓xEqI, ↓xNeI, ↓xEqB, ↓xNeB, ↓xIsBB, ↓xIsNN, ↓xIsTN, ↓xIsLN, ↓xIsIN, ↓xIsSN, ↓xIsRN, ↓xNoBB, ↓xNoNN, ↓xNoTN, ↓xNoLN, ↓xNoIN, ↓xNoSN, ↓xNoRN, ↓xInT, ↓xIx, ↓xIxT, ↓xIxL, ↓at0, ↓at1, ↓at2, ↓at3, ↓at4, ↓at5, ↓xSl, ↓xNo, ↓xInt, ↓xPart, ↓xCutT, ↓xCutL, ↓xCB, ↓xLenT, ↓xLenL, ↓xIntI, ↓xTupT, ↓xTupL, ↓xLstT, ↓xLstL, ↓xIsiT, ↓xIsiI, ↓xIsiB, ↓xIsiS, ↓xMax2, ↓xMin2, ↓xSum, ↓xAll, ↓xApp, ↓xFld, ↓xFldS, ↓xGFd, ↓xCall, ↓xMeth, ↓xProp, ↓xNeg, ↓xNegI, if_true, if_false, Bool.false_eq_true, Bool.true_eq_false, reduceIte, Bool.not_true, Bool.not_false, decide_eq_true_eq, Bool.not_eq_true', decide_eq_false_iff_not, not_true_eq_false, not_false_eq_true, and_true, true_and, true_implies, List.length_cons, List.length_nil, Nat.zero_le, decide_true, decide_false, decide_not, ↓x_is_integer]
  split
  · exact ⟨M, Sub.refl, by simpa [*] using q⟩
  · exact ⟨M, Sub.refl, by simpa [*] using q⟩
theorem fin {x : D} {M : Mp} {Q : DK} (q : Q x M) : ∃ M'', Sub M'' M ∧ Q x M'' := ⟨M, Sub.refl, q⟩
/-- accessors -/
theorem suIx0 {s : Su} {M : Mp} {Q : DK} : dIxV s.d (.int 0) M Q = Q (tI s.seats) M := by rw [Su.d, xIxT, at0]
theorem suIx1 {s : Su} {M : Mp} {Q : DK} : dIxV s.d (.int 1) M Q = Q (tI s.sizes) M := by rw [Su.d, xIxT, at1]
theorem suIx2 {s : Su} {M : Mp} {Q : DK} : dIxV s.d (.int 2) M Q = Q (.tup [.int s.r0, .int s.r1]) M := by rw [Su.d, xIxT, at2]
theorem suIx3 {s : Su} {M : Mp} {Q : DK} : dIxV s.d (.int 3) M Q = Q (.tup [.int s.c0, .int s.c1]) M := by rw [Su.d, xIxT, at3]
theorem rwIx0 {s : Rw} {M : Mp} {Q : DK} : dIxV s.d (.int 0) M Q = Q (.int s.mood) M := by rw [Rw.d, xIxT, at0]
theorem rwIx1 {s : Rw} {M : Mp} {Q : DK} : dIxV s.d (.int 1) M Q = Q (.tup [.int s.f0, .int s.f1]) M := by rw [Rw.d, xIxT, at1]
theorem rwIx2 {s : Rw} {M : Mp} {Q : DK} : dIxV s.d (.int 2) M Q = Q (.tup [.int s.l0, .int s.l1]) M := by rw [Rw.d, xIxT, at2]
theorem rwIx3 {s : Rw} {M : Mp} {Q : DK} : dIxV s.d (.int 3) M Q = Q (.tup [.int s.w0, .int s.w1]) M := by rw [Rw.d, xIxT, at3]
theorem rwIx4 {s : Rw} {M : Mp} {Q : DK} : dIxV s.d (.int 4) M Q = Q (.str s.deed.s) M := by rw [Rw.d, xIxT, at4]
theorem rwIx5 {s : Rw} {M : Mp} {Q : DK} : dIxV s.d (.int 5) M Q = Q (.int s.aft) M := by rw [Rw.d, xIxT, at5]
theorem rwNo {s : Rw} {M : Mp} {Q : DK} : dIsNot s.d .non M Q = Q (.bl true) M := xNoTN
theorem ddG {d : Dd} {M : Mp} {Q : DK} : dEq (.str d.s) (.str "group") M Q = Q (.bl (decide (d = .group))) M := by
  rw [xEqS, true_and_eq ⟨d.ok, by decide +kernel⟩]
  exact congrArg (fun b => Q (.bl b) M) (dec_eq (Dd.inj (b := .group)))
theorem ddS {d : Dd} {M : Mp} {Q : DK} : dEq (.str d.s) (.str "single") M Q = Q (.bl (decide (d = .single))) M := by
  rw [xEqS, true_and_eq ⟨d.ok, by decide +kernel⟩]
  exact congrArg (fun b => Q (.bl b) M) (dec_eq (Dd.inj (b := .single)))
theorem ddP {d : Dd} {M : Mp} {Q : DK} : dEq (.str d.s) (.str "part") M Q = Q (.bl (decide (d = .part))) M := by
  rw [xEqS, true_and_eq ⟨d.ok, by decide +kernel⟩]
  exact congrArg (fun b => Q (.bl b) M) (dec_eq (Dd.inj (b := .part)))
theorem ddGo {d : Dd} {M : Mp} {Q : DK} : dNe (.str d.s) (.str "go") M Q = Q (.bl (!decide (d = .go))) M := by
  rw [xNeS, true_and_eq ⟨d.ok, by decide +kernel⟩]
  exact congrArg (fun b => Q (.bl (!b)) M) (dec_eq (Dd.inj (b := .go)))
theorem ok_ints : ∀ l : List Int, D.okAll 59 (l.map D.int) = true
  | [] => rfl
  | x :: l => by show (true && D.okAll 59 (l.map D.int)) = true; rw [ok_ints l]; rfl
theorem tI_nil {l : List Int} : tI l = .tup [] ↔ l = [] := by cases l <;> simp
theorem liN {l : List Int} {M : Mp} {Q : DK} : dEq (tI l) (.tup []) M Q = Q (.bl (decide (l = []))) M := by
  rw [xEqT, true_and_eq ⟨ok_ints l, rfl⟩]
  rw [dec_eq tI_nil]
theorem liNe {l : List Int} {M : Mp} {Q : DK} : dNe (tI l) (.tup []) M Q = Q (.bl (!decide (l = []))) M := by
  rw [xNeT, true_and_eq ⟨ok_ints l, rfl⟩]
  rw [dec_eq tI_nil]
/-! the checks -/
def S_are_numbers : DSp := fun ds M Q _ => ∃ l a b c d, ds = [tI l, .int a, .int b, .int c, .int d] ∧ l.length ≤ 1000 ∧ Q (.bl (decide (a ≤ l.length) && decide ((l.length : Int) ≤ b) && l.all fun i => decide (c ≤ i) && decide (i ≤ d))) M
theorem x_are_numbers {l : List Int} {a b c d : Int} {M : Mp} {Q : DK} {dx : DX} : S_are_numbers [tI l, .int a, .int b, .int c, .int d] M Q dx = (l.length ≤ 1000 ∧ Q (.bl (decide (a ≤ l.length) && decide ((l.length : Int) ≤ b) && l.all fun i => decide (c ≤ i) && decide (i ≤ d))) M) :=
  propext ⟨fun ⟨l', _, _, _, _, e, h⟩ => by
    simp only [List.cons.injEq, D.tup.injEq, ints_inj, D.int.injEq, and_true] at e
    obtain ⟨rfl, rfl, rfl, rfl, rfl⟩ := e
    exact h, fun h => ⟨_, _, _, _, _, rfl, h⟩⟩
theorem b_are_numbers {ds M Q dx} (h : S_are_numbers ds M Q dx) : d_are_numbers S_is_number (endD Q) (startD ["thing", "least", "most", "low", "high", "number"] ds) M := by
  obtain ⟨l, a, b, c, d, rfl, hl, q⟩ := h
  show d_are_numbers _ (endD Q) [some (tI l), some (.int a), some (.int b), some (.int c), some (.int d), none] M
  unfold d_are_numbers
  have go : (a ≤ l.length ∧ (l.length : Int) ≤ b) → dRet (dCB dAll (dCons (dLc (dIsq (dVar 0)) (.one 5) [5] dYes (dCall S_is_number [] G0.dx (dCons (dVar 5) (dCons (dVar 3) (dCons (dVar 4) dNil))))) dNil)) (endD Q) [some (tI l), some (.int a), some (.int b), some (.int c), some (.int d), none] M := fun ⟨h1, h2⟩ => by
    simp only [↓xSeq, ↓xNx, ↓xRt, ↓xBk, ↓xCt, ↓xEndNx, ↓xEndRt, ↓xNext, ↓xBreak, ↓xCont, ↓xDrop, ↓xRet, ↓xRetN, ↓xNever, ↓xIfS, ↓xPut0, ↓xPutS, ↓xSet, ↓xAug, ↓xAsg, ↓xUn2, ↓xUn1, ↓xPar, ↓xNm, ↓xNl, ↓xCn, ↓xSq, ↓xSqL, ↓xV0, ↓xVS, ↓xC, ↓xFrz, ↓xFrz1, ↓xOp, ↓xBl, ↓xB, ↓xChain, ↓xAnd, ↓xOr, ↓xNot, ↓xAndV, ↓xOrV, ↓xNotV, ↓xIf, ↓xNil, ↓xCons, ↓xTup, ↓xLst, ↓xLstO, ↓xOpt, ↓xAddI, ↓xAddT, ↓xAddL, ↓xSub, ↓xIAdd, ↓xFdiv, ↓xMod, ↓xPow, ↓xMul, ↓xLt, ↓xLe, ↓xGt, ↓xGe, ↓xEqI, ↓xNeI, ↓xEqB, ↓xNeB, ↓xIsBB, ↓xIsNN, ↓xIsTN, ↓xIsLN, ↓xIsIN, ↓xIsSN, ↓xIsRN, ↓xNoBB, ↓xNoNN, ↓xNoTN, ↓xNoLN, ↓xNoIN, ↓xNoSN, ↓xNoRN, ↓xInT, ↓xIx, ↓xIxT, ↓xIxL, ↓at0, ↓at1, ↓at2, ↓at3, ↓at4, ↓at5, ↓xSl, ↓xNo, ↓xInt, ↓xPart, ↓xCutT, ↓xCutL, ↓xCB, ↓xLenT, ↓xLenL, ↓xIntI, ↓xTupT, ↓xTupL, ↓xLstT, ↓xLstL, ↓xIsiT, ↓xIsiI, ↓xIsiB, ↓xIsiS, ↓xMax2, ↓xMin2, ↓xSum, ↓xAll, ↓xApp, ↓xFld, ↓xFldS, ↓xGFd, ↓xCall, ↓xMeth, ↓xProp, ↓xNeg, ↓xNegI, if_true, if_false, Bool.false_eq_true, Bool.true_eq_false, reduceIte, Bool.not_true, Bool.not_false, decide_eq_true_eq, Bool.not_eq_true', decide_eq_false_iff_not, not_true_eq_false, not_false_eq_true, and_true, true_and, true_implies, List.length_cons, List.length_nil, Nat.zero_le, decide_true, decide_false, decide_not]
    refine lc_map D.int l (fun i => .bl (match i with | i => decide (c ≤ i) && decide (i ≤ d))) (x := tI l) (fun Q q => by simp only [↓xSeq, ↓xNx, ↓xRt, ↓xBk, ↓xCt, ↓xEndNx, ↓xEndRt, ↓xNext, ↓xBreak, ↓xCont, ↓xDrop, ↓xRet, ↓xRetN, ↓xNever, ↓xIfS, ↓xPut0, ↓xPutS, ↓xSet, ↓xAug, ↓xAsg, ↓xUn2, ↓xUn1, ↓xPar, ↓xNm, ↓xNl, ↓xCn, ↓xSq, ↓xSqL, ↓xV0, ↓xVS, ↓xC, ↓xFrz, ↓xFrz1, ↓xOp, ↓xBl, ↓xB, ↓xChain, ↓xAnd, ↓xOr, ↓xNot, ↓xAndV, ↓xOrV, ↓xNotV, ↓xIf, ↓xNil, ↓xCons, ↓xTup, ↓xLst, ↓xLstO, ↓xOpt, ↓xAddI, ↓xAddT, ↓xAddL, ↓xSub, ↓xIAdd, ↓xFdiv, ↓xMod, ↓xPow, ↓xMul, ↓xLt, ↓xLe, ↓xGt, ↓xGe, ↓xEqI, ↓xNeI, ↓xEqB, ↓xNeB, ↓xIsBB, ↓xIsNN, ↓xIsTN, ↓xIsLN, ↓xIsIN, ↓xIsSN, ↓xIsRN, ↓xNoBB, ↓xNoNN, ↓xNoTN, ↓xNoLN, ↓xNoIN, ↓xNoSN, ↓xNoRN, ↓xInT, ↓xIx, ↓xIxT, ↓xIxL, ↓at0, ↓at1, ↓at2, ↓at3, ↓at4, ↓at5, ↓xSl, ↓xNo, ↓xInt, ↓xPart, ↓xCutT, ↓xCutL, ↓xCB, ↓xLenT, ↓xLenL, ↓xIntI, ↓xTupT, ↓xTupL, ↓xLstT, ↓xLstL, ↓xIsiT, ↓xIsiI, ↓xIsiB, ↓xIsiS, ↓xMax2, ↓xMin2, ↓xSum, ↓xAll, ↓xApp, ↓xFld, ↓xFldS, ↓xGFd, ↓xCall, ↓xMeth, ↓xProp, ↓xNeg, ↓xNegI, if_true, if_false, Bool.false_eq_true, Bool.true_eq_false, reduceIte, Bool.not_true, Bool.not_false, decide_eq_true_eq, Bool.not_eq_true', decide_eq_false_iff_not, not_true_eq_false, not_false_eq_true, and_true, true_and, true_implies, List.length_cons, List.length_nil, Nat.zero_le, decide_true, decide_false, decide_not]; exact q) rfl (fun p o hp => rfl) (line_le hl) (fun p ys i hp hi => ⟨_, rfl, fun Q q => ?_⟩) ?_
    · show dCall _ _ _ _ [some (tI l), some (.int a), some (.int b), some (.int c), some (.int d), some (.int i)] _ _
      simp only [↓xSeq, ↓xNx, ↓xRt, ↓xBk, ↓xCt, ↓xEndNx, ↓xEndRt, ↓xNext, ↓xBreak, ↓xCont, ↓xDrop, ↓xRet, ↓xRetN, ↓xNever, ↓xIfS, ↓xPut0, ↓xPutS, ↓xSet, ↓xAug, ↓xAsg, ↓xUn2, ↓xUn1, ↓xPar, ↓xNm, ↓xNl, ↓xCn, ↓xSq, ↓xSqL, ↓xV0, ↓xVS, ↓xC, ↓xFrz, ↓xFrz1, ↓xOp, ↓xBl, ↓xB, ↓xChain, ↓xAnd, ↓xOr, ↓xNot, ↓xAndV, ↓xOrV, ↓xNotV, ↓xIf, ↓xNil, ↓xCons, ↓xTup, ↓xLst, ↓xLstO, ↓xOpt, ↓xAddI, ↓xAddT, ↓xAddL, ↓xSub, ↓xIAdd, ↓xFdiv, ↓xMod, ↓xPow, ↓xMul, ↓xLt, ↓xLe, ↓xGt, ↓xGe, ↓xEqI, ↓xNeI, ↓xEqB, ↓xNeB, ↓xIsBB, ↓xIsNN, ↓xIsTN, ↓xIsLN, ↓xIsIN, ↓xIsSN, ↓xIsRN, ↓xNoBB, ↓xNoNN, ↓xNoTN, ↓xNoLN, ↓xNoIN, ↓xNoSN, ↓xNoRN, ↓xInT, ↓xIx, ↓xIxT, ↓xIxL, ↓at0, ↓at1, ↓at2, ↓at3, ↓at4, ↓at5, ↓xSl, ↓xNo, ↓xInt, ↓xPart, ↓xCutT, ↓xCutL, ↓xCB, ↓xLenT, ↓xLenL, ↓xIntI, ↓xTupT, ↓xTupL, ↓xLstT, ↓xLstL, ↓xIsiT, ↓xIsiI, ↓xIsiB, ↓xIsiS, ↓xMax2, ↓xMin2, ↓xSum, ↓xAll, ↓xApp, ↓xFld, ↓xFldS, ↓xGFd, ↓xCall, ↓xMeth, ↓xProp, ↓xNeg, ↓xNegI, if_true, if_false, Bool.false_eq_true, Bool.true_eq_false, reduceIte, Bool.not_true, Bool.not_false, decide_eq_true_eq, Bool.not_eq_true', decide_eq_false_iff_not, not_true_eq_false, not_false_eq_true, and_true, true_and, true_implies, List.length_cons, List.length_nil, Nat.zero_le, decide_true, decide_false, decide_not, ↓x_is_number]
      exact q
    · have e : l.map (fun i => D.bl (match i with | i => decide (c ≤ i) && decide (i ≤ d))) = (l.map fun i => decide (c ≤ i) && decide (i ≤ d)).map D.bl := by rw [List.map_map]; rfl
      rw [e]
      simp only [↓xSeq, ↓xNx, ↓xRt, ↓xBk, ↓xCt, ↓xEndNx, ↓xEndRt, ↓xNext, ↓xBreak, ↓xCont, ↓xDrop, ↓xRet, ↓xRetN, ↓xNever, ↓xIfS, ↓xPut0, ↓xPutS, ↓xSet, ↓xAug, ↓xAsg, ↓xUn2, ↓xUn1, ↓xPar, ↓xNm, ↓xNl, ↓xCn, ↓xSq, ↓xSqL, ↓xV0, ↓xVS, ↓xC, ↓xFrz, ↓xFrz1, ↓xOp, ↓xBl, ↓xB, ↓xChain, ↓xAnd, ↓xOr, ↓xNot, ↓xAndV, ↓xOrV, ↓xNotV, ↓xIf, ↓xNil, ↓xCons, ↓xTup, ↓xLst, ↓xLstO, ↓xOpt, ↓xAddI, ↓xAddT, ↓xAddL, ↓xSub, ↓xIAdd, ↓xFdiv, ↓xMod, ↓xPow, ↓xMul, ↓xLt, ↓xLe, ↓xGt, ↓xGe, ↓xEqI, ↓xNeI, ↓xEqB, ↓xNeB, ↓xIsBB, ↓xIsNN, ↓xIsTN, ↓xIsLN, ↓xIsIN, ↓xIsSN, ↓xIsRN, ↓xNoBB, ↓xNoNN, ↓xNoTN, ↓xNoLN, ↓xNoIN, ↓xNoSN, ↓xNoRN, ↓xInT, ↓xIx, ↓xIxT, ↓xIxL, ↓at0, ↓at1, ↓at2, ↓at3, ↓at4, ↓at5, ↓xSl, ↓xNo, ↓xInt, ↓xPart, ↓xCutT, ↓xCutL, ↓xCB, ↓xLenT, ↓xLenL, ↓xIntI, ↓xTupT, ↓xTupL, ↓xLstT, ↓xLstL, ↓xIsiT, ↓xIsiI, ↓xIsiB, ↓xIsiS, ↓xMax2, ↓xMin2, ↓xSum, ↓xAll, ↓xApp, ↓xFld, ↓xFldS, ↓xGFd, ↓xCall, ↓xMeth, ↓xProp, ↓xNeg, ↓xNegI, if_true, if_false, Bool.false_eq_true, Bool.true_eq_false, reduceIte, Bool.not_true, Bool.not_false, decide_eq_true_eq, Bool.not_eq_true', decide_eq_false_iff_not, not_true_eq_false, not_false_eq_true, and_true, true_and, true_implies, List.length_cons, List.length_nil, Nat.zero_le, decide_true, decide_false, decide_not]
      refine fin ?_
      simp only [h1, h2, decide_true, Bool.true_and] at q
      rw [List.all_map]
      exact q
  simp only [↓xSeq, ↓xNx, ↓xRt, ↓xBk, ↓xCt, ↓xEndNx, ↓xEndRt, ↓xNext, ↓xBreak, ↓xCont, ↓xDrop, ↓xRet, ↓xRetN, ↓xNever, ↓xIfS, ↓xPut0, ↓xPutS, ↓xSet, ↓xAug, ↓xAsg, ↓xUn2, ↓xUn1, ↓xPar, ↓xNm, ↓xNl, ↓xCn, ↓xSq, ↓xSqL, ↓xV0, ↓xVS, ↓xC, ↓xFrz, ↓xFrz1, ↓xOp, ↓xBl, ↓xB, ↓xChain, ↓xAnd, ↓xOr, ↓xNot, ↓xAndV, ↓xOrV, ↓xNotV, ↓xIf, ↓xNil, ↓xCons, ↓xTup, ↓xLst, ↓xLstO, ↓xOpt, ↓xAddI, ↓xAddT, ↓xAddL, ↓xSub, ↓xIAdd, ↓xFdiv, ↓xMod, ↓xPow, ↓xMul, ↓xLt, ↓xLe, ↓xGt, ↓xGe, ↓xEqI, ↓xNeI, ↓xEqB, ↓xNeB, ↓xIsBB, ↓xIsNN, ↓xIsTN, ↓xIsLN, ↓xIsIN, ↓xIsSN, ↓xIsRN, ↓xNoBB, ↓xNoNN, ↓xNoTN, ↓xNoLN, ↓xNoIN, ↓xNoSN, ↓xNoRN, ↓xInT, ↓xIx, ↓xIxT, ↓xIxL, ↓at0, ↓at1, ↓at2, ↓at3, ↓at4, ↓at5, ↓xSl, ↓xNo, ↓xInt, ↓xPart, ↓xCutT, ↓xCutL, ↓xCB, ↓xLenT, ↓xLenL, ↓xIntI, ↓xTupT, ↓xTupL, ↓xLstT, ↓xLstL, ↓xIsiT, ↓xIsiI, ↓xIsiB, ↓xIsiS, ↓xMax2, ↓xMin2, ↓xSum, ↓xAll, ↓xApp, ↓xFld, ↓xFldS, ↓xGFd, ↓xCall, ↓xMeth, ↓xProp, ↓xNeg, ↓xNegI, if_true, if_false, Bool.false_eq_true, Bool.true_eq_false, reduceIte, Bool.not_true, Bool.not_false, decide_eq_true_eq, Bool.not_eq_true', decide_eq_false_iff_not, not_true_eq_false, not_false_eq_true, and_true, true_and, true_implies, List.length_cons, List.length_nil, Nat.zero_le, decide_true, decide_false, decide_not]
  by_cases h1 : a ≤ l.length
  · by_cases h2 : (l.length : Int) ≤ b
    · simp only [List.length_map, h1, h2, ↓xSeq, ↓xNx, ↓xRt, ↓xBk, ↓xCt, ↓xEndNx, ↓xEndRt, ↓xNext, ↓xBreak, ↓xCont, ↓xDrop, ↓xRet, ↓xRetN, ↓xNever, ↓xIfS, ↓xPut0, ↓xPutS, ↓xSet, ↓xAug, ↓xAsg, ↓xUn2, ↓xUn1, ↓xPar, ↓xNm, ↓xNl, ↓xCn, ↓xSq, ↓xSqL, ↓xV0, ↓xVS, ↓xC, ↓xFrz, ↓xFrz1, ↓xOp, ↓xBl, ↓xB, ↓xChain, ↓xAnd, ↓xOr, ↓xNot, ↓xAndV, ↓xOrV, ↓xNotV, ↓xIf, ↓xNil, ↓xCons, ↓xTup, ↓xLst, ↓xLstO, ↓xOpt, ↓xAddI, ↓xAddT, ↓xAddL, ↓xSub, ↓xIAdd, ↓xFdiv, ↓xMod, ↓xPow, ↓xMul, ↓xLt, ↓xLe, ↓xGt, ↓xGe, ↓xEqI, ↓xNeI, ↓xEqB, ↓xNeB, ↓xIsBB, ↓xIsNN, ↓xIsTN, ↓xIsLN, ↓xIsIN, ↓xIsSN, ↓xIsRN, ↓xNoBB, ↓xNoNN, ↓xNoTN, ↓xNoLN, ↓xNoIN, ↓xNoSN, ↓xNoRN, ↓xInT, ↓xIx, ↓xIxT, ↓xIxL, ↓at0, ↓at1, ↓at2, ↓at3, ↓at4, ↓at5, ↓xSl, ↓xNo, ↓xInt, ↓xPart, ↓xCutT, ↓xCutL, ↓xCB, ↓xLenT, ↓xLenL, ↓xIntI, ↓xTupT, ↓xTupL, ↓xLstT, ↓xLstL, ↓xIsiT, ↓xIsiI, ↓xIsiB, ↓xIsiS, ↓xMax2, ↓xMin2, ↓xSum, ↓xAll, ↓xApp, ↓xFld, ↓xFldS, ↓xGFd, ↓xCall, ↓xMeth, ↓xProp, ↓xNeg, ↓xNegI, if_true, if_false, Bool.false_eq_true, Bool.true_eq_false, reduceIte, Bool.not_true, Bool.not_false, decide_eq_true_eq, Bool.not_eq_true', decide_eq_false_iff_not, not_true_eq_false, not_false_eq_true, and_true, true_and, true_implies, List.length_cons, List.length_nil, Nat.zero_le, decide_true, decide_false, decide_not]
      exact go ⟨h1, h2⟩
    · simp only [List.length_map, h1, h2, ↓xSeq, ↓xNx, ↓xRt, ↓xBk, ↓xCt, ↓xEndNx, ↓xEndRt, ↓xNext, ↓xBreak, ↓xCont, ↓xDrop, ↓xRet, ↓xRetN, ↓xNever, ↓xIfS, ↓xPut0, ↓xPutS, ↓xSet, ↓xAug, ↓xAsg, ↓xUn2, ↓xUn1, ↓xPar, ↓xNm, ↓xNl, ↓xCn, ↓xSq, ↓xSqL, ↓xV0, ↓xVS, ↓xC, ↓xFrz, ↓xFrz1, ↓xOp, ↓xBl, ↓xB, ↓xChain, ↓xAnd, ↓xOr, ↓xNot, ↓xAndV, ↓xOrV, ↓xNotV, ↓xIf, ↓xNil, ↓xCons, ↓xTup, ↓xLst, ↓xLstO, ↓xOpt, ↓xAddI, ↓xAddT, ↓xAddL, ↓xSub, ↓xIAdd, ↓xFdiv, ↓xMod, ↓xPow, ↓xMul, ↓xLt, ↓xLe, ↓xGt, ↓xGe, ↓xEqI, ↓xNeI, ↓xEqB, ↓xNeB, ↓xIsBB, ↓xIsNN, ↓xIsTN, ↓xIsLN, ↓xIsIN, ↓xIsSN, ↓xIsRN, ↓xNoBB, ↓xNoNN, ↓xNoTN, ↓xNoLN, ↓xNoIN, ↓xNoSN, ↓xNoRN, ↓xInT, ↓xIx, ↓xIxT, ↓xIxL, ↓at0, ↓at1, ↓at2, ↓at3, ↓at4, ↓at5, ↓xSl, ↓xNo, ↓xInt, ↓xPart, ↓xCutT, ↓xCutL, ↓xCB, ↓xLenT, ↓xLenL, ↓xIntI, ↓xTupT, ↓xTupL, ↓xLstT, ↓xLstL, ↓xIsiT, ↓xIsiI, ↓xIsiB, ↓xIsiS, ↓xMax2, ↓xMin2, ↓xSum, ↓xAll, ↓xApp, ↓xFld, ↓xFldS, ↓xGFd, ↓xCall, ↓xMeth, ↓xProp, ↓xNeg, ↓xNegI, if_true, if_false, Bool.false_eq_true, Bool.true_eq_false, reduceIte, Bool.not_true, Bool.not_false, decide_eq_true_eq, Bool.not_eq_true', decide_eq_false_iff_not, not_true_eq_false, not_false_eq_true, and_true, true_and, true_implies, List.length_cons, List.length_nil, Nat.zero_le, decide_true, decide_false, decide_not]
      exact fin (by simpa [h1, h2] using q)
  · simp only [List.length_map, h1, ↓xSeq, ↓xNx, ↓xRt, ↓xBk, ↓xCt, ↓xEndNx, ↓xEndRt, ↓xNext, ↓xBreak, ↓xCont, ↓xDrop, ↓xRet, ↓xRetN, ↓xNever, ↓xIfS, ↓xPut0, ↓xPutS, ↓xSet, ↓xAug, ↓xAsg, ↓xUn2, ↓xUn1, ↓xPar, ↓xNm, ↓xNl, ↓xCn, ↓xSq, ↓xSqL, ↓xV0, ↓xVS, ↓xC, ↓xFrz, ↓xFrz1, ↓xOp, ↓xBl, ↓xB, ↓xChain, ↓xAnd, ↓xOr, ↓xNot, ↓xAndV, ↓xOrV, ↓xNotV, ↓xIf, ↓xNil, ↓xCons, ↓xTup, ↓xLst, ↓xLstO, ↓xOpt, ↓xAddI, ↓xAddT, ↓xAddL, ↓xSub, ↓xIAdd, ↓xFdiv, ↓xMod, ↓xPow, ↓xMul, ↓xLt, ↓xLe, ↓xGt, ↓xGe, ↓xEqI, ↓xNeI, ↓xEqB, ↓xNeB, ↓xIsBB, ↓xIsNN, ↓xIsTN, ↓xIsLN, ↓xIsIN, ↓xIsSN, ↓xIsRN, ↓xNoBB, ↓xNoNN, ↓xNoTN, ↓xNoLN, ↓xNoIN, ↓xNoSN, ↓xNoRN, ↓xInT, ↓xIx, ↓xIxT, ↓xIxL, ↓at0, ↓at1, ↓at2, ↓at3, ↓at4, ↓at5, ↓xSl, ↓xNo, ↓xInt, ↓xPart, ↓xCutT, ↓xCutL, ↓xCB, ↓xLenT, ↓xLenL, ↓xIntI, ↓xTupT, ↓xTupL, ↓xLstT, ↓xLstL, ↓xIsiT, ↓xIsiI, ↓xIsiB, ↓xIsiS, ↓xMax2, ↓xMin2, ↓xSum, ↓xAll, ↓xApp, ↓xFld, ↓xFldS, ↓xGFd, ↓xCall, ↓xMeth, ↓xProp, ↓xNeg, ↓xNegI, if_true, if_false, Bool.false_eq_true, Bool.true_eq_false, reduceIte, Bool.not_true, Bool.not_false, decide_eq_true_eq, Bool.not_eq_true', decide_eq_false_iff_not, not_true_eq_false, not_false_eq_true, and_true, true_and, true_implies, List.length_cons, List.length_nil, Nat.zero_le, decide_true, decide_false, decide_not]
    exact fin (by simpa [h1] using q)
def S_are_most : DSp := fun ds M Q _ => ∃ a b c d e, ds = [.tup [.int a, .int b], .int c, .int d, .int e] ∧ (0 ≤ a ∧ a ≤ 9 ∧ 0 ≤ b ∧ b ≤ 9 ∧ c ≤ a ∧ a ≤ d ∧ b ≤ e) ∧ Q (.bl true) M
theorem x_are_most {a b c d e : Int} {M : Mp} {Q : DK} {dx : DX} : S_are_most [.tup [.int a, .int b], .int c, .int d, .int e] M Q dx = ((0 ≤ a ∧ a ≤ 9 ∧ 0 ≤ b ∧ b ≤ 9 ∧ c ≤ a ∧ a ≤ d ∧ b ≤ e) ∧ Q (.bl true) M) :=
  propext ⟨fun ⟨_, _, _, _, _, e, h⟩ => by cases e; exact h, fun h => ⟨_, _, _, _, _, rfl, h⟩⟩
theorem two_ints {a b : Int} : D.tup [.int a, .int b] = tI [a, b] := rfl
theorem b_are_most {ds M Q dx} (h : S_are_most ds M Q dx) : d_are_most S_are_numbers (endD Q) (startD ["thing", "groups_low", "groups_high", "singles_high"] ds) M := by
  obtain ⟨a, b, c, d, e, rfl, ⟨h1, h2, h3, h4, h5, h6, h7⟩, q⟩ := h
  show d_are_most _ (endD Q) [some (tI [a, b]), some (.int c), some (.int d), some (.int e)] M
  unfold d_are_most
  simp only [↓xSeq, ↓xNx, ↓xRt, ↓xBk, ↓xCt, ↓xEndNx, ↓xEndRt, ↓xNext, ↓xBreak, ↓xCont, ↓xDrop, ↓xRet, ↓xRetN, ↓xNever, ↓xIfS, ↓xPut0, ↓xPutS, ↓xSet, ↓xAug, ↓xAsg, ↓xUn2, ↓xUn1, ↓xPar, ↓xNm, ↓xNl, ↓xCn, ↓xSq, ↓xSqL, ↓xV0, ↓xVS, ↓xC, ↓xFrz, ↓xFrz1, ↓xOp, ↓xBl, ↓xB, ↓xChain, ↓xAnd, ↓xOr, ↓xNot, ↓xAndV, ↓xOrV, ↓xNotV, ↓xIf, ↓xNil, ↓xCons, ↓xTup, ↓xLst, ↓xLstO, ↓xOpt, ↓xAddI, ↓xAddT, ↓xAddL, ↓xSub, ↓xIAdd, ↓xFdiv, ↓xMod, ↓xPow, ↓xMul, ↓xLt, ↓xLe, ↓xGt, ↓xGe, ↓xEqI, ↓xNeI, ↓xEqB, ↓xNeB, ↓xIsBB, ↓xIsNN, ↓xIsTN, ↓xIsLN, ↓xIsIN, ↓xIsSN, ↓xIsRN, ↓xNoBB, ↓xNoNN, ↓xNoTN, ↓xNoLN, ↓xNoIN, ↓xNoSN, ↓xNoRN, ↓xInT, ↓xIx, ↓xIxT, ↓xIxL, ↓at0, ↓at1, ↓at2, ↓at3, ↓at4, ↓at5, ↓xSl, ↓xNo, ↓xInt, ↓xPart, ↓xCutT, ↓xCutL, ↓xCB, ↓xLenT, ↓xLenL, ↓xIntI, ↓xTupT, ↓xTupL, ↓xLstT, ↓xLstL, ↓xIsiT, ↓xIsiI, ↓xIsiB, ↓xIsiS, ↓xMax2, ↓xMin2, ↓xSum, ↓xAll, ↓xApp, ↓xFld, ↓xFldS, ↓xGFd, ↓xCall, ↓xMeth, ↓xProp, ↓xNeg, ↓xNegI, if_true, if_false, Bool.false_eq_true, Bool.true_eq_false, reduceIte, Bool.not_true, Bool.not_false, decide_eq_true_eq, Bool.not_eq_true', decide_eq_false_iff_not, not_true_eq_false, not_false_eq_true, and_true, true_and, true_implies, List.length_cons, List.length_nil, Nat.zero_le, decide_true, decide_false, decide_not, ↓x_are_numbers]
  simp [h1, h2, h3, h4, h5, h6, h7, ↓xSeq, ↓xNx, ↓xRt, ↓xBk, ↓xCt, ↓xEndNx, ↓xEndRt, ↓xNext, ↓xBreak, ↓xCont, ↓xDrop, ↓xRet, ↓xRetN, ↓xNever, ↓xIfS, ↓xPut0, ↓xPutS, ↓xSet, ↓xAug, ↓xAsg, ↓xUn2, ↓xUn1, ↓xPar, ↓xNm, ↓xNl, ↓xCn, ↓xSq, ↓xSqL, ↓xV0, ↓xVS, ↓xC, ↓xFrz, ↓xFrz1, ↓xOp, ↓xBl, ↓xB, ↓xChain, ↓xAnd, ↓xOr, ↓xNot, ↓xAndV, ↓xOrV, ↓xNotV, ↓xIf, ↓xNil, ↓xCons, ↓xTup, ↓xLst, ↓xLstO, ↓xOpt, ↓xAddI, ↓xAddT, ↓xAddL, ↓xSub, ↓xIAdd, ↓xFdiv, ↓xMod, ↓xPow, ↓xMul, ↓xLt, ↓xLe, ↓xGt, ↓xGe, ↓xEqI, ↓xNeI, ↓xEqB, ↓xNeB, ↓xIsBB, ↓xIsNN, ↓xIsTN, ↓xIsLN, ↓xIsIN, ↓xIsSN, ↓xIsRN, ↓xNoBB, ↓xNoNN, ↓xNoTN, ↓xNoLN, ↓xNoIN, ↓xNoSN, ↓xNoRN, ↓xInT, ↓xIx, ↓xIxT, ↓xIxL, ↓at0, ↓at1, ↓at2, ↓at3, ↓at4, ↓at5, ↓xSl, ↓xNo, ↓xInt, ↓xPart, ↓xCutT, ↓xCutL, ↓xCB, ↓xLenT, ↓xLenL, ↓xIntI, ↓xTupT, ↓xTupL, ↓xLstT, ↓xLstL, ↓xIsiT, ↓xIsiI, ↓xIsiB, ↓xIsiS, ↓xMax2, ↓xMin2, ↓xSum, ↓xAll, ↓xApp, ↓xFld, ↓xFldS, ↓xGFd, ↓xCall, ↓xMeth, ↓xProp, ↓xNeg, ↓xNegI, if_true, if_false, Bool.false_eq_true, Bool.true_eq_false, reduceIte, Bool.not_true, Bool.not_false, decide_eq_true_eq, Bool.not_eq_true', decide_eq_false_iff_not, not_true_eq_false, not_false_eq_true, and_true, true_and, true_implies, List.length_cons, List.length_nil, Nat.zero_le, decide_true, decide_false, decide_not]
  exact fin q
def S_is_range : DSp := fun ds M Q _ => ∃ a b, ds = [.tup [.int a, .int b]] ∧ (0 ≤ a ∧ a ≤ b ∧ b ≤ 9) ∧ Q (.bl true) M
theorem x_is_range {a b : Int} {M : Mp} {Q : DK} {dx : DX} : S_is_range [.tup [.int a, .int b]] M Q dx = ((0 ≤ a ∧ a ≤ b ∧ b ≤ 9) ∧ Q (.bl true) M) :=
  propext ⟨fun ⟨_, _, e, h⟩ => by cases e; exact h, fun h => ⟨_, _, rfl, h⟩⟩
theorem b_is_range {ds M Q dx} (h : S_is_range ds M Q dx) : d_is_range S_are_numbers (endD Q) (startD ["thing"] ds) M := by
  obtain ⟨a, b, rfl, ⟨h1, h2, h3⟩, q⟩ := h
  show d_is_range _ (endD Q) [some (tI [a, b])] M
  unfold d_is_range
  have h4 : a ≤ 9 := by omega
  have h5 : 0 ≤ b := by omega
  simp only [↓xSeq, ↓xNx, ↓xRt, ↓xBk, ↓xCt, ↓xEndNx, ↓xEndRt, ↓xNext, ↓xBreak, ↓xCont, ↓xDrop, ↓xRet, ↓xRetN, ↓xNever, ↓xIfS, ↓xPut0, ↓xPutS, ↓xSet, ↓xAug, ↓xAsg, ↓xUn2, ↓xUn1, ↓xPar, ↓xNm, ↓xNl, ↓xCn, ↓xSq, ↓xSqL, ↓xV0, ↓xVS, ↓xC, ↓xFrz, ↓xFrz1, ↓xOp, ↓xBl, ↓xB, ↓xChain, ↓xAnd, ↓xOr, ↓xNot, ↓xAndV, ↓xOrV, ↓xNotV, ↓xIf, ↓xNil, ↓xCons, ↓xTup, ↓xLst, ↓xLstO, ↓xOpt, ↓xAddI, ↓xAddT, ↓xAddL, ↓xSub, ↓xIAdd, ↓xFdiv, ↓xMod, ↓xPow, ↓xMul, ↓xLt, ↓xLe, ↓xGt, ↓xGe, ↓xEqI, ↓xNeI, ↓xEqB, ↓xNeB, ↓xIsBB, ↓xIsNN, ↓xIsTN, ↓xIsLN, ↓xIsIN, ↓xIsSN, ↓xIsRN, ↓xNoBB, ↓xNoNN, ↓xNoTN, ↓xNoLN, ↓xNoIN, ↓xNoSN, ↓xNoRN, ↓xInT, ↓xIx, ↓xIxT, ↓xIxL, ↓at0, ↓at1, ↓at2, ↓at3, ↓at4, ↓at5, ↓xSl, ↓xNo, ↓xInt, ↓xPart, ↓xCutT, ↓xCutL, ↓xCB, ↓xLenT, ↓xLenL, ↓xIntI, ↓xTupT, ↓xTupL, ↓xLstT, ↓xLstL, ↓xIsiT, ↓xIsiI, ↓xIsiB, ↓xIsiS, ↓xMax2, ↓xMin2, ↓xSum, ↓xAll, ↓xApp, ↓xFld, ↓xFldS, ↓xGFd, ↓xCall, ↓xMeth, ↓xProp, ↓xNeg, ↓xNegI, if_true, if_false, Bool.false_eq_true, Bool.true_eq_false, reduceIte, Bool.not_true, Bool.not_false, decide_eq_true_eq, Bool.not_eq_true', decide_eq_false_iff_not, not_true_eq_false, not_false_eq_true, and_true, true_and, true_implies, List.length_cons, List.length_nil, Nat.zero_le, decide_true, decide_false, decide_not, ↓x_are_numbers]
  simp [h1, h2, h3, h4, h5, ↓xSeq, ↓xNx, ↓xRt, ↓xBk, ↓xCt, ↓xEndNx, ↓xEndRt, ↓xNext, ↓xBreak, ↓xCont, ↓xDrop, ↓xRet, ↓xRetN, ↓xNever, ↓xIfS, ↓xPut0, ↓xPutS, ↓xSet, ↓xAug, ↓xAsg, ↓xUn2, ↓xUn1, ↓xPar, ↓xNm, ↓xNl, ↓xCn, ↓xSq, ↓xSqL, ↓xV0, ↓xVS, ↓xC, ↓xFrz, ↓xFrz1, ↓xOp, ↓xBl, ↓xB, ↓xChain, ↓xAnd, ↓xOr, ↓xNot, ↓xAndV, ↓xOrV, ↓xNotV, ↓xIf, ↓xNil, ↓xCons, ↓xTup, ↓xLst, ↓xLstO, ↓xOpt, ↓xAddI, ↓xAddT, ↓xAddL, ↓xSub, ↓xIAdd, ↓xFdiv, ↓xMod, ↓xPow, ↓xMul, ↓xLt, ↓xLe, ↓xGt, ↓xGe, ↓xEqI, ↓xNeI, ↓xEqB, ↓xNeB, ↓xIsBB, ↓xIsNN, ↓xIsTN, ↓xIsLN, ↓xIsIN, ↓xIsSN, ↓xIsRN, ↓xNoBB, ↓xNoNN, ↓xNoTN, ↓xNoLN, ↓xNoIN, ↓xNoSN, ↓xNoRN, ↓xInT, ↓xIx, ↓xIxT, ↓xIxL, ↓at0, ↓at1, ↓at2, ↓at3, ↓at4, ↓at5, ↓xSl, ↓xNo, ↓xInt, ↓xPart, ↓xCutT, ↓xCutL, ↓xCB, ↓xLenT, ↓xLenL, ↓xIntI, ↓xTupT, ↓xTupL, ↓xLstT, ↓xLstL, ↓xIsiT, ↓xIsiI, ↓xIsiB, ↓xIsiS, ↓xMax2, ↓xMin2, ↓xSum, ↓xAll, ↓xApp, ↓xFld, ↓xFldS, ↓xGFd, ↓xCall, ↓xMeth, ↓xProp, ↓xNeg, ↓xNegI, if_true, if_false, Bool.false_eq_true, Bool.true_eq_false, reduceIte, Bool.not_true, Bool.not_false, decide_eq_true_eq, Bool.not_eq_true', decide_eq_false_iff_not, not_true_eq_false, not_false_eq_true, and_true, true_and, true_implies, List.length_cons, List.length_nil, Nat.zero_le, decide_true, decide_false, decide_not]
  exact fin q
def S_is_rule_row : DSp := fun ds M Q _ => ∃ r : Rw, ds = [r.d] ∧ r.ok ∧ Q (.bl true) M
theorem x_is_rule_row {r : Rw} {M : Mp} {Q : DK} {dx : DX} : S_is_rule_row [r.d] M Q dx = (r.ok ∧ Q (.bl true) M) :=
  propext ⟨fun ⟨_, e, h⟩ => by simp only [List.cons.injEq, Rw.inj, and_true] at e; subst e; exact h, fun h => ⟨_, rfl, h⟩⟩
theorem dd_flat (d : Dd) : decide (D.str d.s ∈ [D.str "group", D.str "single", D.str "part", D.str "go"]) = true := by
  rw [decide_eq_true_eq]
  cases d <;> simp [Dd.s]
theorem b_is_rule_row {ds M Q dx} (h : S_is_rule_row ds M Q dx) : d_is_rule_row S_is_number S_is_range (endD Q) (startD ["thing", "mood", "front", "left", "waiting", "deed", "after"] ds) M := by
  obtain ⟨r, rfl, o, q⟩ := h
  show d_is_rule_row _ _ (endD Q) [some r.d, none, none, none, none, none, none] M
  unfold d_is_rule_row
  unfold Rw.d
  have h1 := o.m0
  have h2 := o.m1
  have h3 := o.a0
  have h4 := o.a1
  have h5 : 0 ≤ r.f0 ∧ r.f0 ≤ r.f1 ∧ r.f1 ≤ 9 := ⟨o.f0, o.f1, o.f2⟩
  have h6 : 0 ≤ r.l0 ∧ r.l0 ≤ r.l1 ∧ r.l1 ≤ 9 := ⟨o.l0, o.l1, o.l2⟩
  have h7 : 0 ≤ r.w0 ∧ r.w0 ≤ r.w1 ∧ r.w1 ≤ 9 := ⟨o.w0, o.w1, o.w2⟩
  simp only [↓xSeq, ↓xNx, ↓xRt, ↓xBk, ↓xCt, ↓xEndNx, ↓xEndRt, ↓xNext, ↓xBreak, ↓xCont, ↓xDrop, ↓xRet, ↓xRetN, ↓xNever, ↓xIfS, ↓xPut0, ↓xPutS, ↓xSet, ↓xAug, ↓xAsg, ↓xUn2, ↓xUn1, ↓xPar, ↓xNm, ↓xNl, ↓xCn, ↓xSq, ↓xSqL, ↓xV0, ↓xVS, ↓xC, ↓xFrz, ↓xFrz1, ↓xOp, ↓xBl, ↓xB, ↓xChain, ↓xAnd, ↓xOr, ↓xNot, ↓xAndV, ↓xOrV, ↓xNotV, ↓xIf, ↓xNil, ↓xCons, ↓xTup, ↓xLst, ↓xLstO, ↓xOpt, ↓xAddI, ↓xAddT, ↓xAddL, ↓xSub, ↓xIAdd, ↓xFdiv, ↓xMod, ↓xPow, ↓xMul, ↓xLt, ↓xLe, ↓xGt, ↓xGe, ↓xEqI, ↓xNeI, ↓xEqB, ↓xNeB, ↓xIsBB, ↓xIsNN, ↓xIsTN, ↓xIsLN, ↓xIsIN, ↓xIsSN, ↓xIsRN, ↓xNoBB, ↓xNoNN, ↓xNoTN, ↓xNoLN, ↓xNoIN, ↓xNoSN, ↓xNoRN, ↓xInT, ↓xIx, ↓xIxT, ↓xIxL, ↓at0, ↓at1, ↓at2, ↓at3, ↓at4, ↓at5, ↓xSl, ↓xNo, ↓xInt, ↓xPart, ↓xCutT, ↓xCutL, ↓xCB, ↓xLenT, ↓xLenL, ↓xIntI, ↓xTupT, ↓xTupL, ↓xLstT, ↓xLstL, ↓xIsiT, ↓xIsiI, ↓xIsiB, ↓xIsiS, ↓xMax2, ↓xMin2, ↓xSum, ↓xAll, ↓xApp, ↓xFld, ↓xFldS, ↓xGFd, ↓xCall, ↓xMeth, ↓xProp, ↓xNeg, ↓xNegI, if_true, if_false, Bool.false_eq_true, Bool.true_eq_false, reduceIte, Bool.not_true, Bool.not_false, decide_eq_true_eq, Bool.not_eq_true', decide_eq_false_iff_not, not_true_eq_false, not_false_eq_true, and_true, true_and, true_implies, List.length_cons, List.length_nil, Nat.zero_le, decide_true, decide_false, decide_not, ↓x_is_number, ↓x_is_range, h1, h2, h3, h4, h5, h6, h7, Bool.and_self, dd_flat]
  simp only [decide_true, show ((((0 + 1 + 1 + 1 + 1 + 1 + 1 : Nat) : Int) = 6)) from rfl, ↓xSeq, ↓xNx, ↓xRt, ↓xBk, ↓xCt, ↓xEndNx, ↓xEndRt, ↓xNext, ↓xBreak, ↓xCont, ↓xDrop, ↓xRet, ↓xRetN, ↓xNever, ↓xIfS, ↓xPut0, ↓xPutS, ↓xSet, ↓xAug, ↓xAsg, ↓xUn2, ↓xUn1, ↓xPar, ↓xNm, ↓xNl, ↓xCn, ↓xSq, ↓xSqL, ↓xV0, ↓xVS, ↓xC, ↓xFrz, ↓xFrz1, ↓xOp, ↓xBl, ↓xB, ↓xChain, ↓xAnd, ↓xOr, ↓xNot, ↓xAndV, ↓xOrV, ↓xNotV, ↓xIf, ↓xNil, ↓xCons, ↓xTup, ↓xLst, ↓xLstO, ↓xOpt, ↓xAddI, ↓xAddT, ↓xAddL, ↓xSub, ↓xIAdd, ↓xFdiv, ↓xMod, ↓xPow, ↓xMul, ↓xLt, ↓xLe, ↓xGt, ↓xGe, ↓xEqI, ↓xNeI, ↓xEqB, ↓xNeB, ↓xIsBB, ↓xIsNN, ↓xIsTN, ↓xIsLN, ↓xIsIN, ↓xIsSN, ↓xIsRN, ↓xNoBB, ↓xNoNN, ↓xNoTN, ↓xNoLN, ↓xNoIN, ↓xNoSN, ↓xNoRN, ↓xInT, ↓xIx, ↓xIxT, ↓xIxL, ↓at0, ↓at1, ↓at2, ↓at3, ↓at4, ↓at5, ↓xSl, ↓xNo, ↓xInt, ↓xPart, ↓xCutT, ↓xCutL, ↓xCB, ↓xLenT, ↓xLenL, ↓xIntI, ↓xTupT, ↓xTupL, ↓xLstT, ↓xLstL, ↓xIsiT, ↓xIsiI, ↓xIsiB, ↓xIsiS, ↓xMax2, ↓xMin2, ↓xSum, ↓xAll, ↓xApp, ↓xFld, ↓xFldS, ↓xGFd, ↓xCall, ↓xMeth, ↓xProp, ↓xNeg, ↓xNegI, if_true, if_false, Bool.false_eq_true, Bool.true_eq_false, reduceIte, Bool.not_true, Bool.not_false, decide_eq_true_eq, Bool.not_eq_true', decide_eq_false_iff_not, not_true_eq_false, not_false_eq_true, and_true, true_and, true_implies, List.length_cons, List.length_nil, Nat.zero_le, decide_true, decide_false, decide_not]
  exact ⟨⟨rfl, rfl⟩, fin q⟩
def S_is_rule : DSp := fun ds M Q _ => ∃ r : List Rw, ds = [rl r] ∧ Rok r ∧ Q (.bl true) M
theorem x_is_rule {r : List Rw} {M : Mp} {Q : DK} {dx : DX} : S_is_rule [rl r] M Q dx = (Rok r ∧ Q (.bl true) M) :=
  propext ⟨fun ⟨_, e, h⟩ => by simp only [List.cons.injEq, rl_inj, and_true] at e; subst e; exact h, fun h => ⟨_, rfl, h⟩⟩
theorem b_is_rule {ds M Q dx} (h : S_is_rule ds M Q dx) : d_is_rule S_is_rule_row (endD Q) (startD ["thing", "row"] ds) M := by
  obtain ⟨r, rfl, o, q⟩ := h
  show d_is_rule _ (endD Q) [some (rl r), none] M
  unfold d_is_rule
  have h1 : ¬ (8 : Int) < (r.length : Int) := by have := o.len; omega
  unfold rl
  simp only [↓xSeq, ↓xNx, ↓xRt, ↓xBk, ↓xCt, ↓xEndNx, ↓xEndRt, ↓xNext, ↓xBreak, ↓xCont, ↓xDrop, ↓xRet, ↓xRetN, ↓xNever, ↓xIfS, ↓xPut0, ↓xPutS, ↓xSet, ↓xAug, ↓xAsg, ↓xUn2, ↓xUn1, ↓xPar, ↓xNm, ↓xNl, ↓xCn, ↓xSq, ↓xSqL, ↓xV0, ↓xVS, ↓xC, ↓xFrz, ↓xFrz1, ↓xOp, ↓xBl, ↓xB, ↓xChain, ↓xAnd, ↓xOr, ↓xNot, ↓xAndV, ↓xOrV, ↓xNotV, ↓xIf, ↓xNil, ↓xCons, ↓xTup, ↓xLst, ↓xLstO, ↓xOpt, ↓xAddI, ↓xAddT, ↓xAddL, ↓xSub, ↓xIAdd, ↓xFdiv, ↓xMod, ↓xPow, ↓xMul, ↓xLt, ↓xLe, ↓xGt, ↓xGe, ↓xEqI, ↓xNeI, ↓xEqB, ↓xNeB, ↓xIsBB, ↓xIsNN, ↓xIsTN, ↓xIsLN, ↓xIsIN, ↓xIsSN, ↓xIsRN, ↓xNoBB, ↓xNoNN, ↓xNoTN, ↓xNoLN, ↓xNoIN, ↓xNoSN, ↓xNoRN, ↓xInT, ↓xIx, ↓xIxT, ↓xIxL, ↓at0, ↓at1, ↓at2, ↓at3, ↓at4, ↓at5, ↓xSl, ↓xNo, ↓xInt, ↓xPart, ↓xCutT, ↓xCutL, ↓xCB, ↓xLenT, ↓xLenL, ↓xIntI, ↓xTupT, ↓xTupL, ↓xLstT, ↓xLstL, ↓xIsiT, ↓xIsiI, ↓xIsiB, ↓xIsiS, ↓xMax2, ↓xMin2, ↓xSum, ↓xAll, ↓xApp, ↓xFld, ↓xFldS, ↓xGFd, ↓xCall, ↓xMeth, ↓xProp, ↓xNeg, ↓xNegI, if_true, if_false, Bool.false_eq_true, Bool.true_eq_false, reduceIte, Bool.not_true, Bool.not_false, decide_eq_true_eq, Bool.not_eq_true', decide_eq_false_iff_not, not_true_eq_false, not_false_eq_true, and_true, true_and, true_implies, List.length_cons, List.length_nil, Nat.zero_le, decide_true, decide_false, decide_not, List.length_map, h1]
  refine lc_map Rw.d r (fun _ => .bl true) (x := rl r) (fun Q q => by simp only [↓xSeq, ↓xNx, ↓xRt, ↓xBk, ↓xCt, ↓xEndNx, ↓xEndRt, ↓xNext, ↓xBreak, ↓xCont, ↓xDrop, ↓xRet, ↓xRetN, ↓xNever, ↓xIfS, ↓xPut0, ↓xPutS, ↓xSet, ↓xAug, ↓xAsg, ↓xUn2, ↓xUn1, ↓xPar, ↓xNm, ↓xNl, ↓xCn, ↓xSq, ↓xSqL, ↓xV0, ↓xVS, ↓xC, ↓xFrz, ↓xFrz1, ↓xOp, ↓xBl, ↓xB, ↓xChain, ↓xAnd, ↓xOr, ↓xNot, ↓xAndV, ↓xOrV, ↓xNotV, ↓xIf, ↓xNil, ↓xCons, ↓xTup, ↓xLst, ↓xLstO, ↓xOpt, ↓xAddI, ↓xAddT, ↓xAddL, ↓xSub, ↓xIAdd, ↓xFdiv, ↓xMod, ↓xPow, ↓xMul, ↓xLt, ↓xLe, ↓xGt, ↓xGe, ↓xEqI, ↓xNeI, ↓xEqB, ↓xNeB, ↓xIsBB, ↓xIsNN, ↓xIsTN, ↓xIsLN, ↓xIsIN, ↓xIsSN, ↓xIsRN, ↓xNoBB, ↓xNoNN, ↓xNoTN, ↓xNoLN, ↓xNoIN, ↓xNoSN, ↓xNoRN, ↓xInT, ↓xIx, ↓xIxT, ↓xIxL, ↓at0, ↓at1, ↓at2, ↓at3, ↓at4, ↓at5, ↓xSl, ↓xNo, ↓xInt, ↓xPart, ↓xCutT, ↓xCutL, ↓xCB, ↓xLenT, ↓xLenL, ↓xIntI, ↓xTupT, ↓xTupL, ↓xLstT, ↓xLstL, ↓xIsiT, ↓xIsiI, ↓xIsiB, ↓xIsiS, ↓xMax2, ↓xMin2, ↓xSum, ↓xAll, ↓xApp, ↓xFld, ↓xFldS, ↓xGFd, ↓xCall, ↓xMeth, ↓xProp, ↓xNeg, ↓xNegI, if_true, if_false, Bool.false_eq_true, Bool.true_eq_false, reduceIte, Bool.not_true, Bool.not_false, decide_eq_true_eq, Bool.not_eq_true', decide_eq_false_iff_not, not_true_eq_false, not_false_eq_true, and_true, true_and, true_implies, List.length_cons, List.length_nil, Nat.zero_le, decide_true, decide_false, decide_not]; exact q) rfl (fun p o hp => rfl) (line_le (by have := o.len; omega)) (fun p ys i hp hi => ⟨_, rfl, fun Q q => ?_⟩) ?_
  · show dCall _ _ _ _ [some (rl r), some i.d] _ _
    simp only [↓xSeq, ↓xNx, ↓xRt, ↓xBk, ↓xCt, ↓xEndNx, ↓xEndRt, ↓xNext, ↓xBreak, ↓xCont, ↓xDrop, ↓xRet, ↓xRetN, ↓xNever, ↓xIfS, ↓xPut0, ↓xPutS, ↓xSet, ↓xAug, ↓xAsg, ↓xUn2, ↓xUn1, ↓xPar, ↓xNm, ↓xNl, ↓xCn, ↓xSq, ↓xSqL, ↓xV0, ↓xVS, ↓xC, ↓xFrz, ↓xFrz1, ↓xOp, ↓xBl, ↓xB, ↓xChain, ↓xAnd, ↓xOr, ↓xNot, ↓xAndV, ↓xOrV, ↓xNotV, ↓xIf, ↓xNil, ↓xCons, ↓xTup, ↓xLst, ↓xLstO, ↓xOpt, ↓xAddI, ↓xAddT, ↓xAddL, ↓xSub, ↓xIAdd, ↓xFdiv, ↓xMod, ↓xPow, ↓xMul, ↓xLt, ↓xLe, ↓xGt, ↓xGe, ↓xEqI, ↓xNeI, ↓xEqB, ↓xNeB, ↓xIsBB, ↓xIsNN, ↓xIsTN, ↓xIsLN, ↓xIsIN, ↓xIsSN, ↓xIsRN, ↓xNoBB, ↓xNoNN, ↓xNoTN, ↓xNoLN, ↓xNoIN, ↓xNoSN, ↓xNoRN, ↓xInT, ↓xIx, ↓xIxT, ↓xIxL, ↓at0, ↓at1, ↓at2, ↓at3, ↓at4, ↓at5, ↓xSl, ↓xNo, ↓xInt, ↓xPart, ↓xCutT, ↓xCutL, ↓xCB, ↓xLenT, ↓xLenL, ↓xIntI, ↓xTupT, ↓xTupL, ↓xLstT, ↓xLstL, ↓xIsiT, ↓xIsiI, ↓xIsiB, ↓xIsiS, ↓xMax2, ↓xMin2, ↓xSum, ↓xAll, ↓xApp, ↓xFld, ↓xFldS, ↓xGFd, ↓xCall, ↓xMeth, ↓xProp, ↓xNeg, ↓xNegI, if_true, if_false, Bool.false_eq_true, Bool.true_eq_false, reduceIte, Bool.not_true, Bool.not_false, decide_eq_true_eq, Bool.not_eq_true', decide_eq_false_iff_not, not_true_eq_false, not_false_eq_true, and_true, true_and, true_implies, List.length_cons, List.length_nil, Nat.zero_le, decide_true, decide_false, decide_not, ↓x_is_rule_row]
    exact ⟨o.row i hi, q⟩
  · have e : r.map (fun i => D.bl true) = (r.map fun _ => true).map D.bl := by rw [List.map_map]; rfl
    rw [e]
    simp only [↓xSeq, ↓xNx, ↓xRt, ↓xBk, ↓xCt, ↓xEndNx, ↓xEndRt, ↓xNext, ↓xBreak, ↓xCont, ↓xDrop, ↓xRet, ↓xRetN, ↓xNever, ↓xIfS, ↓xPut0, ↓xPutS, ↓xSet, ↓xAug, ↓xAsg, ↓xUn2, ↓xUn1, ↓xPar, ↓xNm, ↓xNl, ↓xCn, ↓xSq, ↓xSqL, ↓xV0, ↓xVS, ↓xC, ↓xFrz, ↓xFrz1, ↓xOp, ↓xBl, ↓xB, ↓xChain, ↓xAnd, ↓xOr, ↓xNot, ↓xAndV, ↓xOrV, ↓xNotV, ↓xIf, ↓xNil, ↓xCons, ↓xTup, ↓xLst, ↓xLstO, ↓xOpt, ↓xAddI, ↓xAddT, ↓xAddL, ↓xSub, ↓xIAdd, ↓xFdiv, ↓xMod, ↓xPow, ↓xMul, ↓xLt, ↓xLe, ↓xGt, ↓xGe, ↓xEqI, ↓xNeI, ↓xEqB, ↓xNeB, ↓xIsBB, ↓xIsNN, ↓xIsTN, ↓xIsLN, ↓xIsIN, ↓xIsSN, ↓xIsRN, ↓xNoBB, ↓xNoNN, ↓xNoTN, ↓xNoLN, ↓xNoIN, ↓xNoSN, ↓xNoRN, ↓xInT, ↓xIx, ↓xIxT, ↓xIxL, ↓at0, ↓at1, ↓at2, ↓at3, ↓at4, ↓at5, ↓xSl, ↓xNo, ↓xInt, ↓xPart, ↓xCutT, ↓xCutL, ↓xCB, ↓xLenT, ↓xLenL, ↓xIntI, ↓xTupT, ↓xTupL, ↓xLstT, ↓xLstL, ↓xIsiT, ↓xIsiI, ↓xIsiB, ↓xIsiS, ↓xMax2, ↓xMin2, ↓xSum, ↓xAll, ↓xApp, ↓xFld, ↓xFldS, ↓xGFd, ↓xCall, ↓xMeth, ↓xProp, ↓xNeg, ↓xNegI, if_true, if_false, Bool.false_eq_true, Bool.true_eq_false, reduceIte, Bool.not_true, Bool.not_false, decide_eq_true_eq, Bool.not_eq_true', decide_eq_false_iff_not, not_true_eq_false, not_false_eq_true, and_true, true_and, true_implies, List.length_cons, List.length_nil, Nat.zero_le, decide_true, decide_false, decide_not]
    refine fin ?_
    have e : (r.map fun _ => true).all (fun b => b) = true := by simp
    rw [e]; exact q
def S_is_setup : DSp := fun ds M Q _ => ∃ r : Su, ds = [r.d] ∧ r.ok ∧ Q (.bl true) M
theorem x_is_setup {r : Su} {M : Mp} {Q : DK} {dx : DX} : S_is_setup [r.d] M Q dx = (r.ok ∧ Q (.bl true) M) :=
  propext ⟨fun ⟨_, e, h⟩ => by simp only [List.cons.injEq, Su.inj, and_true] at e; subst e; exact h, fun h => ⟨_, rfl, h⟩⟩

theorem all_lt : ∀ (l : List Int), l.Pairwise (· < ·) → ∀ p ∈ l.zip l.tail, p.1 < p.2
  | [], _, p, h => by cases h
  | [x], _, p, h => by cases h
  | x :: y :: l, h, p, hp => by
    simp only [List.tail_cons, List.zip_cons_cons, List.mem_cons] at hp
    rcases hp with rfl | hp
    · exact List.rel_of_pairwise_cons h (List.mem_cons_self ..)
    · exact all_lt (y :: l) h.of_cons p hp
theorem pairs_ints (l m : List Int) : pairs (l.map D.int) (m.map D.int) = (l.zip m).map fun p => D.tup [.int p.1, .int p.2] := by
  unfold pairs
  rw [List.zip_map, List.map_map]
  rfl
theorem map_cut1 (l : List Int) : cutD (l.map D.int) (some 1) none = l.tail.map D.int := by
  cases l with
  | nil => rfl
  | cons a l => exact cut1
theorem b_is_setup {ds M Q dx} (h : S_is_setup ds M Q dx) : d_is_setup S_are_numbers S_are_most (endD Q) (startD ["thing", "seats", "sizes", "rooms", "comers", "one", "other"] ds) M := by
  obtain ⟨r, rfl, o, q⟩ := h
  show d_is_setup _ _ (endD Q) [some r.d, none, none, none, none, none, none] M
  unfold d_is_setup
  unfold Su.d
  have a1 : (1 : Int) ≤ (r.seats.length : Int) := by have := o.a1; omega
  have a2 : (r.seats.length : Int) ≤ 2 := by have := o.a2; omega
  have b1 : (1 : Int) ≤ (r.sizes.length : Int) := by have := o.b1; omega
  have b2 : (r.sizes.length : Int) ≤ 3 := by have := o.b2; omega
  have a3 : r.seats.length ≤ 1000 := by omega
  have b3 : r.sizes.length ≤ 1000 := by omega
  have a4 : (r.seats.all fun i => decide (1 ≤ i) && decide (i ≤ 5)) = true := by
    rw [List.all_eq_true]; intro x hx; have := o.a3 x hx; simp [this]
  have b4 : (r.sizes.all fun i => decide (1 ≤ i) && decide (i ≤ 5)) = true := by
    rw [List.all_eq_true]; intro x hx; have := o.b3 x hx; simp [this]
  simp only [↓xSeq, ↓xNx, ↓xRt, ↓xBk, ↓xCt, ↓xEndNx, ↓xEndRt, ↓xNext, ↓xBreak, ↓xCont, ↓xDrop, ↓xRet, ↓xRetN, ↓xNever, ↓xIfS, ↓xPut0, ↓xPutS, ↓xSet, ↓xAug, ↓xAsg, ↓xUn2, ↓xUn1, ↓xPar, ↓xNm, ↓xNl, ↓xCn, ↓xSq, ↓xSqL, ↓xV0, ↓xVS, ↓xC, ↓xFrz, ↓xFrz1, ↓xOp, ↓xBl, ↓xB, ↓xChain, ↓xAnd, ↓xOr, ↓xNot, ↓xAndV, ↓xOrV, ↓xNotV, ↓xIf, ↓xNil, ↓xCons, ↓xTup, ↓xLst, ↓xLstO, ↓xOpt, ↓xAddI, ↓xAddT, ↓xAddL, ↓xSub, ↓xIAdd, ↓xFdiv, ↓xMod, ↓xPow, ↓xMul, ↓xLt, ↓xLe, ↓xGt, ↓xGe, ↓xEqI, ↓xNeI, ↓xEqB, ↓xNeB, ↓xIsBB, ↓xIsNN, ↓xIsTN, ↓xIsLN, ↓xIsIN, ↓xIsSN, ↓xIsRN, ↓xNoBB, ↓xNoNN, ↓xNoTN, ↓xNoLN, ↓xNoIN, ↓xNoSN, ↓xNoRN, ↓xInT, ↓xIx, ↓xIxT, ↓xIxL, ↓at0, ↓at1, ↓at2, ↓at3, ↓at4, ↓at5, ↓xSl, ↓xNo, ↓xInt, ↓xPart, ↓xCutT, ↓xCutL, ↓xCB, ↓xLenT, ↓xLenL, ↓xIntI, ↓xTupT, ↓xTupL, ↓xLstT, ↓xLstL, ↓xIsiT, ↓xIsiI, ↓xIsiB, ↓xIsiS, ↓xMax2, ↓xMin2, ↓xSum, ↓xAll, ↓xApp, ↓xFld, ↓xFldS, ↓xGFd, ↓xCall, ↓xMeth, ↓xProp, ↓xNeg, ↓xNegI, if_true, if_false, Bool.false_eq_true, Bool.true_eq_false, reduceIte, Bool.not_true, Bool.not_false, decide_eq_true_eq, Bool.not_eq_true', decide_eq_false_iff_not, not_true_eq_false, not_false_eq_true, and_true, true_and, true_implies, List.length_cons, List.length_nil, Nat.zero_le, decide_true, decide_false, decide_not, ↓x_are_numbers, a1, a2, a3, a4, b1, b2, b3, b4, Bool.and_self, show ((((0 + 1 + 1 + 1 + 1 : Nat) : Int) = 4)) from rfl]
  refine lc_pure (C := fun _ => True) (fun p : Int × Int => D.tup [.int p.1, .int p.2]) (r.sizes.zip r.sizes.tail) (fun _ => true) (fun _ => .bl true) (fun RR h => ?_) (fun _ _ _ => trivial) (line_le (by rw [List.length_zip]; omega)) (fun p ys i hp hi => ⟨_, rfl, fun Q q => q, fun _ Q q => ?_⟩) ?_
  · unfold dIzt
    simp only [↓xSeq, ↓xNx, ↓xRt, ↓xBk, ↓xCt, ↓xEndNx, ↓xEndRt, ↓xNext, ↓xBreak, ↓xCont, ↓xDrop, ↓xRet, ↓xRetN, ↓xNever, ↓xIfS, ↓xPut0, ↓xPutS, ↓xSet, ↓xAug, ↓xAsg, ↓xUn2, ↓xUn1, ↓xPar, ↓xNm, ↓xNl, ↓xCn, ↓xSq, ↓xSqL, ↓xV0, ↓xVS, ↓xC, ↓xFrz, ↓xFrz1, ↓xOp, ↓xBl, ↓xB, ↓xChain, ↓xAnd, ↓xOr, ↓xNot, ↓xAndV, ↓xOrV, ↓xNotV, ↓xIf, ↓xNil, ↓xCons, ↓xTup, ↓xLst, ↓xLstO, ↓xOpt, ↓xAddI, ↓xAddT, ↓xAddL, ↓xSub, ↓xIAdd, ↓xFdiv, ↓xMod, ↓xPow, ↓xMul, ↓xLt, ↓xLe, ↓xGt, ↓xGe, ↓xEqI, ↓xNeI, ↓xEqB, ↓xNeB, ↓xIsBB, ↓xIsNN, ↓xIsTN, ↓xIsLN, ↓xIsIN, ↓xIsSN, ↓xIsRN, ↓xNoBB, ↓xNoNN, ↓xNoTN, ↓xNoLN, ↓xNoIN, ↓xNoSN, ↓xNoRN, ↓xInT, ↓xIx, ↓xIxT, ↓xIxL, ↓at0, ↓at1, ↓at2, ↓at3, ↓at4, ↓at5, ↓xSl, ↓xNo, ↓xInt, ↓xPart, ↓xCutT, ↓xCutL, ↓xCB, ↓xLenT, ↓xLenL, ↓xIntI, ↓xTupT, ↓xTupL, ↓xLstT, ↓xLstL, ↓xIsiT, ↓xIsiI, ↓xIsiB, ↓xIsiS, ↓xMax2, ↓xMin2, ↓xSum, ↓xAll, ↓xApp, ↓xFld, ↓xFldS, ↓xGFd, ↓xCall, ↓xMeth, ↓xProp, ↓xNeg, ↓xNegI, if_true, if_false, Bool.false_eq_true, Bool.true_eq_false, reduceIte, Bool.not_true, Bool.not_false, decide_eq_true_eq, Bool.not_eq_true', decide_eq_false_iff_not, not_true_eq_false, not_false_eq_true, and_true, true_and, true_implies, List.length_cons, List.length_nil, Nat.zero_le, decide_true, decide_false, decide_not]
    refine ⟨_, _, rfl, ?_⟩
    rw [map_cut1, pairs_ints]
    exact h
  · have := all_lt _ o.b4 i hi
    show dOp dLt (dVar 5) (dVar 6) [some r.d, some (tI r.seats), some (tI r.sizes), some (.tup [.int r.r0, .int r.r1]), some (.tup [.int r.c0, .int r.c1]), some (.int i.1), some (.int i.2)] _ _
    simp only [↓xSeq, ↓xNx, ↓xRt, ↓xBk, ↓xCt, ↓xEndNx, ↓xEndRt, ↓xNext, ↓xBreak, ↓xCont, ↓xDrop, ↓xRet, ↓xRetN, ↓xNever, ↓xIfS, ↓xPut0, ↓xPutS, ↓xSet, ↓xAug, ↓xAsg, ↓xUn2, ↓xUn1, ↓xPar, ↓xNm, ↓xNl, ↓xCn, ↓xSq, ↓xSqL, ↓xV0, ↓xVS, ↓xC, ↓xFrz, ↓xFrz1, ↓xOp, ↓xBl, ↓xB, ↓xChain, ↓xAnd, ↓xOr, ↓xNot, ↓xAndV, ↓xOrV, ↓xNotV, ↓xIf, ↓xNil, ↓xCons, ↓xTup, ↓xLst, ↓xLstO, ↓xOpt, ↓xAddI, ↓xAddT, ↓xAddL, ↓xSub, ↓xIAdd, ↓xFdiv, ↓xMod, ↓xPow, ↓xMul, ↓xLt, ↓xLe, ↓xGt, ↓xGe, ↓xEqI, ↓xNeI, ↓xEqB, ↓xNeB, ↓xIsBB, ↓xIsNN, ↓xIsTN, ↓xIsLN, ↓xIsIN, ↓xIsSN, ↓xIsRN, ↓xNoBB, ↓xNoNN, ↓xNoTN, ↓xNoLN, ↓xNoIN, ↓xNoSN, ↓xNoRN, ↓xInT, ↓xIx, ↓xIxT, ↓xIxL, ↓at0, ↓at1, ↓at2, ↓at3, ↓at4, ↓at5, ↓xSl, ↓xNo, ↓xInt, ↓xPart, ↓xCutT, ↓xCutL, ↓xCB, ↓xLenT, ↓xLenL, ↓xIntI, ↓xTupT, ↓xTupL, ↓xLstT, ↓xLstL, ↓xIsiT, ↓xIsiI, ↓xIsiB, ↓xIsiS, ↓xMax2, ↓xMin2, ↓xSum, ↓xAll, ↓xApp, ↓xFld, ↓xFldS, ↓xGFd, ↓xCall, ↓xMeth, ↓xProp, ↓xNeg, ↓xNegI, if_true, if_false, Bool.false_eq_true, Bool.true_eq_false, reduceIte, Bool.not_true, Bool.not_false, decide_eq_true_eq, Bool.not_eq_true', decide_eq_false_iff_not, not_true_eq_false, not_false_eq_true, and_true, true_and, true_implies, List.length_cons, List.length_nil, Nat.zero_le, decide_true, decide_false, decide_not, this]
    exact q
  · have e : ((r.sizes.zip r.sizes.tail).filter fun _ => true).map (fun i => D.bl true) = (((r.sizes.zip r.sizes.tail).filter fun _ => true).map fun _ => true).map D.bl := by rw [List.map_map]; rfl
    rw [e]
    have e : ((((r.sizes.zip r.sizes.tail).filter fun _ => true).map fun _ => true).all fun b => b) = true := by simp
    have := o.r1
    have := o.r2
    have := o.r3
    have := o.r4
    have := o.c1
    have := o.c2
    have := o.c3
    have := o.c4
    have c1 : (0 ≤ r.r0 ∧ r.r0 ≤ 9 ∧ 0 ≤ r.r1 ∧ r.r1 ≤ 9 ∧ 1 ≤ r.r0 ∧ r.r0 ≤ 3 ∧ r.r1 ≤ 4) := by omega
    have c2 : (0 ≤ r.c0 ∧ r.c0 ≤ 9 ∧ 0 ≤ r.c1 ∧ r.c1 ≤ 9 ∧ 0 ≤ r.c0 ∧ r.c0 ≤ 2 ∧ r.c1 ≤ 2) := by omega
    simp only [↓xSeq, ↓xNx, ↓xRt, ↓xBk, ↓xCt, ↓xEndNx, ↓xEndRt, ↓xNext, ↓xBreak, ↓xCont, ↓xDrop, ↓xRet, ↓xRetN, ↓xNever, ↓xIfS, ↓xPut0, ↓xPutS, ↓xSet, ↓xAug, ↓xAsg, ↓xUn2, ↓xUn1, ↓xPar, ↓xNm, ↓xNl, ↓xCn, ↓xSq, ↓xSqL, ↓xV0, ↓xVS, ↓xC, ↓xFrz, ↓xFrz1, ↓xOp, ↓xBl, ↓xB, ↓xChain, ↓xAnd, ↓xOr, ↓xNot, ↓xAndV, ↓xOrV, ↓xNotV, ↓xIf, ↓xNil, ↓xCons, ↓xTup, ↓xLst, ↓xLstO, ↓xOpt, ↓xAddI, ↓xAddT, ↓xAddL, ↓xSub, ↓xIAdd, ↓xFdiv, ↓xMod, ↓xPow, ↓xMul, ↓xLt, ↓xLe, ↓xGt, ↓xGe, ↓xEqI, ↓xNeI, ↓xEqB, ↓xNeB, ↓xIsBB, ↓xIsNN, ↓xIsTN, ↓xIsLN, ↓xIsIN, ↓xIsSN, ↓xIsRN, ↓xNoBB, ↓xNoNN, ↓xNoTN, ↓xNoLN, ↓xNoIN, ↓xNoSN, ↓xNoRN, ↓xInT, ↓xIx, ↓xIxT, ↓xIxL, ↓at0, ↓at1, ↓at2, ↓at3, ↓at4, ↓at5, ↓xSl, ↓xNo, ↓xInt, ↓xPart, ↓xCutT, ↓xCutL, ↓xCB, ↓xLenT, ↓xLenL, ↓xIntI, ↓xTupT, ↓xTupL, ↓xLstT, ↓xLstL, ↓xIsiT, ↓xIsiI, ↓xIsiB, ↓xIsiS, ↓xMax2, ↓xMin2, ↓xSum, ↓xAll, ↓xApp, ↓xFld, ↓xFldS, ↓xGFd, ↓xCall, ↓xMeth, ↓xProp, ↓xNeg, ↓xNegI, if_true, if_false, Bool.false_eq_true, Bool.true_eq_false, reduceIte, Bool.not_true, Bool.not_false, decide_eq_true_eq, Bool.not_eq_true', decide_eq_false_iff_not, not_true_eq_false, not_false_eq_true, and_true, true_and, true_implies, List.length_cons, List.length_nil, Nat.zero_le, decide_true, decide_false, decide_not, e, ↓x_are_most]
    exact ⟨c1, c2, fin q⟩
def S_check_setup : DSp := fun ds M Q _ => ∃ r : Su, ds = [r.d] ∧ r.ok ∧ Q .non M
theorem x_check_setup {r : Su} {M : Mp} {Q : DK} {dx : DX} : S_check_setup [r.d] M Q dx = (r.ok ∧ Q .non M) :=
  propext ⟨fun ⟨_, e, h⟩ => by simp only [List.cons.injEq, Su.inj, and_true] at e; subst e; exact h, fun h => ⟨_, rfl, h⟩⟩
theorem b_check_setup {ds M Q dx} (h : S_check_setup ds M Q dx) : d_check_setup S_is_setup (endD Q) (startD ["setup"] ds) M := by
  obtain ⟨r, rfl, o, q⟩ := h
  show d_check_setup _ (endD Q) [some r.d] M
  unfold d_check_setup
  simp only [↓xSeq, ↓xNx, ↓xRt, ↓xBk, ↓xCt, ↓xEndNx, ↓xEndRt, ↓xNext, ↓xBreak, ↓xCont, ↓xDrop, ↓xRet, ↓xRetN, ↓xNever, ↓xIfS, ↓xPut0, ↓xPutS, ↓xSet, ↓xAug, ↓xAsg, ↓xUn2, ↓xUn1, ↓xPar, ↓xNm, ↓xNl, ↓xCn, ↓xSq, ↓xSqL, ↓xV0, ↓xVS, ↓xC, ↓xFrz, ↓xFrz1, ↓xOp, ↓xBl, ↓xB, ↓xChain, ↓xAnd, ↓xOr, ↓xNot, ↓xAndV, ↓xOrV, ↓xNotV, ↓xIf, ↓xNil, ↓xCons, ↓xTup, ↓xLst, ↓xLstO, ↓xOpt, ↓xAddI, ↓xAddT, ↓xAddL, ↓xSub, ↓xIAdd, ↓xFdiv, ↓xMod, ↓xPow, ↓xMul, ↓xLt, ↓xLe, ↓xGt, ↓xGe, ↓xEqI, ↓xNeI, ↓xEqB, ↓xNeB, ↓xIsBB, ↓xIsNN, ↓xIsTN, ↓xIsLN, ↓xIsIN, ↓xIsSN, ↓xIsRN, ↓xNoBB, ↓xNoNN, ↓xNoTN, ↓xNoLN, ↓xNoIN, ↓xNoSN, ↓xNoRN, ↓xInT, ↓xIx, ↓xIxT, ↓xIxL, ↓at0, ↓at1, ↓at2, ↓at3, ↓at4, ↓at5, ↓xSl, ↓xNo, ↓xInt, ↓xPart, ↓xCutT, ↓xCutL, ↓xCB, ↓xLenT, ↓xLenL, ↓xIntI, ↓xTupT, ↓xTupL, ↓xLstT, ↓xLstL, ↓xIsiT, ↓xIsiI, ↓xIsiB, ↓xIsiS, ↓xMax2, ↓xMin2, ↓xSum, ↓xAll, ↓xApp, ↓xFld, ↓xFldS, ↓xGFd, ↓xCall, ↓xMeth, ↓xProp, ↓xNeg, ↓xNegI, if_true, if_false, Bool.false_eq_true, Bool.true_eq_false, reduceIte, Bool.not_true, Bool.not_false, decide_eq_true_eq, Bool.not_eq_true', decide_eq_false_iff_not, not_true_eq_false, not_false_eq_true, and_true, true_and, true_implies, List.length_cons, List.length_nil, Nat.zero_le, decide_true, decide_false, decide_not, ↓x_is_setup]
  exact ⟨o, fin q⟩
def S_check_both : DSp := fun ds M Q _ => ∃ (s : Su) (r : List Rw), ds = [s.d, rl r] ∧ (s.ok ∧ Rok r) ∧ Q .non M
theorem x_check_both {s : Su} {r : List Rw} {M : Mp} {Q : DK} {dx : DX} : S_check_both [s.d, rl r] M Q dx = ((s.ok ∧ Rok r) ∧ Q .non M) :=
  propext ⟨fun ⟨_, _, e, h⟩ => by simp only [List.cons.injEq, Su.inj, rl_inj, and_true] at e; obtain ⟨rfl, rfl⟩ := e; exact h, fun h => ⟨_, _, rfl, h⟩⟩
theorem b_check_both {ds M Q dx} (h : S_check_both ds M Q dx) : d_check_both S_check_setup S_is_rule (endD Q) (startD ["setup", "rule"] ds) M := by
  obtain ⟨s, r, rfl, ⟨o, o'⟩, q⟩ := h
  show d_check_both _ _ (endD Q) [some s.d, some (rl r)] M
  unfold d_check_both
  simp only [↓xSeq, ↓xNx, ↓xRt, ↓xBk, ↓xCt, ↓xEndNx, ↓xEndRt, ↓xNext, ↓xBreak, ↓xCont, ↓xDrop, ↓xRet, ↓xRetN, ↓xNever, ↓xIfS, ↓xPut0, ↓xPutS, ↓xSet, ↓xAug, ↓xAsg, ↓xUn2, ↓xUn1, ↓xPar, ↓xNm, ↓xNl, ↓xCn, ↓xSq, ↓xSqL, ↓xV0, ↓xVS, ↓xC, ↓xFrz, ↓xFrz1, ↓xOp, ↓xBl, ↓xB, ↓xChain, ↓xAnd, ↓xOr, ↓xNot, ↓xAndV, ↓xOrV, ↓xNotV, ↓xIf, ↓xNil, ↓xCons, ↓xTup, ↓xLst, ↓xLstO, ↓xOpt, ↓xAddI, ↓xAddT, ↓xAddL, ↓xSub, ↓xIAdd, ↓xFdiv, ↓xMod, ↓xPow, ↓xMul, ↓xLt, ↓xLe, ↓xGt, ↓xGe, ↓xEqI, ↓xNeI, ↓xEqB, ↓xNeB, ↓xIsBB, ↓xIsNN, ↓xIsTN, ↓xIsLN, ↓xIsIN, ↓xIsSN, ↓xIsRN, ↓xNoBB, ↓xNoNN, ↓xNoTN, ↓xNoLN, ↓xNoIN, ↓xNoSN, ↓xNoRN, ↓xInT, ↓xIx, ↓xIxT, ↓xIxL, ↓at0, ↓at1, ↓at2, ↓at3, ↓at4, ↓at5, ↓xSl, ↓xNo, ↓xInt, ↓xPart, ↓xCutT, ↓xCutL, ↓xCB, ↓xLenT, ↓xLenL, ↓xIntI, ↓xTupT, ↓xTupL, ↓xLstT, ↓xLstL, ↓xIsiT, ↓xIsiI, ↓xIsiB, ↓xIsiS, ↓xMax2, ↓xMin2, ↓xSum, ↓xAll, ↓xApp, ↓xFld, ↓xFldS, ↓xGFd, ↓xCall, ↓xMeth, ↓xProp, ↓xNeg, ↓xNegI, if_true, if_false, Bool.false_eq_true, Bool.true_eq_false, reduceIte, Bool.not_true, Bool.not_false, decide_eq_true_eq, Bool.not_eq_true', decide_eq_false_iff_not, not_true_eq_false, not_false_eq_true, and_true, true_and, true_implies, List.length_cons, List.length_nil, Nat.zero_le, decide_true, decide_false, decide_not, ↓x_is_rule, ↓x_check_setup]
  exact ⟨o, o', fin q⟩
def S_is_size : DSp := fun ds M Q _ => ∃ (s : Su) (x : Int), ds = [s.d, .int x] ∧ (s.ok ∧ x ∈ s.sizes) ∧ Q (.bl true) M
theorem x_is_size {s : Su} {x : Int} {M : Mp} {Q : DK} {dx : DX} : S_is_size [s.d, .int x] M Q dx = ((s.ok ∧ x ∈ s.sizes) ∧ Q (.bl true) M) :=
  propext ⟨fun ⟨_, _, e, h⟩ => by simp only [List.cons.injEq, Su.inj, D.int.injEq, and_true] at e; obtain ⟨rfl, rfl⟩ := e; exact h, fun h => ⟨_, _, rfl, h⟩⟩
theorem flat_ints (l : List Int) : (l.map D.int).all D.flat = true := by rw [List.all_map, List.all_eq_true]; intro x _; rfl
theorem mem_ints {x : Int} {l : List Int} : decide (D.int x ∈ l.map D.int) = decide (x ∈ l) := dec_eq ⟨fun h => by obtain ⟨y, hy, e⟩ := List.mem_map.mp h; cases e; exact hy, fun h => List.mem_map.mpr ⟨x, h, rfl⟩⟩
theorem b_is_size {ds M Q dx} (h : S_is_size ds M Q dx) : d_is_size S_is_number (endD Q) (startD ["setup", "thing"] ds) M := by
  obtain ⟨s, x, rfl, ⟨o, hx⟩, q⟩ := h
  show d_is_size _ (endD Q) [some s.d, some (.int x)] M
  unfold d_is_size
  have h1 := (o.b3 x hx).1
  have h2 := (o.b3 x hx).2
  simp only [↓xSeq, ↓xNx, ↓xRt, ↓xBk, ↓xCt, ↓xEndNx, ↓xEndRt, ↓xNext, ↓xBreak, ↓xCont, ↓xDrop, ↓xRet, ↓xRetN, ↓xNever, ↓xIfS, ↓xPut0, ↓xPutS, ↓xSet, ↓xAug, ↓xAsg, ↓xUn2, ↓xUn1, ↓xPar, ↓xNm, ↓xNl, ↓xCn, ↓xSq, ↓xSqL, ↓xV0, ↓xVS, ↓xC, ↓xFrz, ↓xFrz1, ↓xOp, ↓xBl, ↓xB, ↓xChain, ↓xAnd, ↓xOr, ↓xNot, ↓xAndV, ↓xOrV, ↓xNotV, ↓xIf, ↓xNil, ↓xCons, ↓xTup, ↓xLst, ↓xLstO, ↓xOpt, ↓xAddI, ↓xAddT, ↓xAddL, ↓xSub, ↓xIAdd, ↓xFdiv, ↓xMod, ↓xPow, ↓xMul, ↓xLt, ↓xLe, ↓xGt, ↓xGe, ↓xEqI, ↓xNeI, ↓xEqB, ↓xNeB, ↓xIsBB, ↓xIsNN, ↓xIsTN, ↓xIsLN, ↓xIsIN, ↓xIsSN, ↓xIsRN, ↓xNoBB, ↓xNoNN, ↓xNoTN, ↓xNoLN, ↓xNoIN, ↓xNoSN, ↓xNoRN, ↓xInT, ↓xIx, ↓xIxT, ↓xIxL, ↓at0, ↓at1, ↓at2, ↓at3, ↓at4, ↓at5, ↓xSl, ↓xNo, ↓xInt, ↓xPart, ↓xCutT, ↓xCutL, ↓xCB, ↓xLenT, ↓xLenL, ↓xIntI, ↓xTupT, ↓xTupL, ↓xLstT, ↓xLstL, ↓xIsiT, ↓xIsiI, ↓xIsiB, ↓xIsiS, ↓xMax2, ↓xMin2, ↓xSum, ↓xAll, ↓xApp, ↓xFld, ↓xFldS, ↓xGFd, ↓xCall, ↓xMeth, ↓xProp, ↓xNeg, ↓xNegI, if_true, if_false, Bool.false_eq_true, Bool.true_eq_false, reduceIte, Bool.not_true, Bool.not_false, decide_eq_true_eq, Bool.not_eq_true', decide_eq_false_iff_not, not_true_eq_false, not_false_eq_true, and_true, true_and, true_implies, List.length_cons, List.length_nil, Nat.zero_le, decide_true, decide_false, decide_not, ↓x_is_number, h1, h2, Bool.and_self, ↓suIx1, mem_ints, hx]
  exact ⟨⟨rfl, flat_ints _⟩, fin q⟩
def S_is_comers : DSp := fun ds M Q _ => ∃ (s : Su) (c : Cm), ds = [s.d, c.d] ∧ (s.ok ∧ c.ok s) ∧ Q (.bl true) M
theorem x_is_comers {s : Su} {c : Cm} {M : Mp} {Q : DK} {dx : DX} : S_is_comers [s.d, c.d] M Q dx = ((s.ok ∧ c.ok s) ∧ Q (.bl true) M) :=
  propext ⟨fun ⟨_, _, e, h⟩ => by simp only [List.cons.injEq, Su.inj, Cm.inj, and_true] at e; obtain ⟨rfl, rfl⟩ := e; exact h, fun h => ⟨_, _, rfl, h⟩⟩
theorem b_is_comers {ds M Q dx} (h : S_is_comers ds M Q dx) : d_is_comers S_is_size S_is_number (endD Q) (startD ["setup", "thing", "groups", "singles", "size"] ds) M := by
  obtain ⟨s, c, rfl, ⟨o, oc⟩, q⟩ := h
  show d_is_comers _ _ (endD Q) [some s.d, some c.d, none, none, none] M
  unfold d_is_comers
  have h1 : ¬ s.c0 < (c.groups.length : Int) := by have := oc.gl; omega
  have h2 := oc.m0
  have h3 := oc.m1
  have h4 : c.groups.length ≤ 1000 := by have := oc.gl; have := o.c2; omega
  unfold Cm.d
  simp only [↓xSeq, ↓xNx, ↓xRt, ↓xBk, ↓xCt, ↓xEndNx, ↓xEndRt, ↓xNext, ↓xBreak, ↓xCont, ↓xDrop, ↓xRet, ↓xRetN, ↓xNever, ↓xIfS, ↓xPut0, ↓xPutS, ↓xSet, ↓xAug, ↓xAsg, ↓xUn2, ↓xUn1, ↓xPar, ↓xNm, ↓xNl, ↓xCn, ↓xSq, ↓xSqL, ↓xV0, ↓xVS, ↓xC, ↓xFrz, ↓xFrz1, ↓xOp, ↓xBl, ↓xB, ↓xChain, ↓xAnd, ↓xOr, ↓xNot, ↓xAndV, ↓xOrV, ↓xNotV, ↓xIf, ↓xNil, ↓xCons, ↓xTup, ↓xLst, ↓xLstO, ↓xOpt, ↓xAddI, ↓xAddT, ↓xAddL, ↓xSub, ↓xIAdd, ↓xFdiv, ↓xMod, ↓xPow, ↓xMul, ↓xLt, ↓xLe, ↓xGt, ↓xGe, ↓xEqI, ↓xNeI, ↓xEqB, ↓xNeB, ↓xIsBB, ↓xIsNN, ↓xIsTN, ↓xIsLN, ↓xIsIN, ↓xIsSN, ↓xIsRN, ↓xNoBB, ↓xNoNN, ↓xNoTN, ↓xNoLN, ↓xNoIN, ↓xNoSN, ↓xNoRN, ↓xInT, ↓xIx, ↓xIxT, ↓xIxL, ↓at0, ↓at1, ↓at2, ↓at3, ↓at4, ↓at5, ↓xSl, ↓xNo, ↓xInt, ↓xPart, ↓xCutT, ↓xCutL, ↓xCB, ↓xLenT, ↓xLenL, ↓xIntI, ↓xTupT, ↓xTupL, ↓xLstT, ↓xLstL, ↓xIsiT, ↓xIsiI, ↓xIsiB, ↓xIsiS, ↓xMax2, ↓xMin2, ↓xSum, ↓xAll, ↓xApp, ↓xFld, ↓xFldS, ↓xGFd, ↓xCall, ↓xMeth, ↓xProp, ↓xNeg, ↓xNegI, if_true, if_false, Bool.false_eq_true, Bool.true_eq_false, reduceIte, Bool.not_true, Bool.not_false, decide_eq_true_eq, Bool.not_eq_true', decide_eq_false_iff_not, not_true_eq_false, not_false_eq_true, and_true, true_and, true_implies, List.length_cons, List.length_nil, Nat.zero_le, decide_true, decide_false, decide_not, ↓x_is_number, h1, h2, h3, Bool.and_self, ↓suIx3, List.length_map, show ((((0 + 1 + 1 : Nat) : Int) = 2)) from rfl]
  refine lc_map D.int c.groups (fun _ => .bl true) (x := tI c.groups) (fun Q q => by simp only [↓xSeq, ↓xNx, ↓xRt, ↓xBk, ↓xCt, ↓xEndNx, ↓xEndRt, ↓xNext, ↓xBreak, ↓xCont, ↓xDrop, ↓xRet, ↓xRetN, ↓xNever, ↓xIfS, ↓xPut0, ↓xPutS, ↓xSet, ↓xAug, ↓xAsg, ↓xUn2, ↓xUn1, ↓xPar, ↓xNm, ↓xNl, ↓xCn, ↓xSq, ↓xSqL, ↓xV0, ↓xVS, ↓xC, ↓xFrz, ↓xFrz1, ↓xOp, ↓xBl, ↓xB, ↓xChain, ↓xAnd, ↓xOr, ↓xNot, ↓xAndV, ↓xOrV, ↓xNotV, ↓xIf, ↓xNil, ↓xCons, ↓xTup, ↓xLst, ↓xLstO, ↓xOpt, ↓xAddI, ↓xAddT, ↓xAddL, ↓xSub, ↓xIAdd, ↓xFdiv, ↓xMod, ↓xPow, ↓xMul, ↓xLt, ↓xLe, ↓xGt, ↓xGe, ↓xEqI, ↓xNeI, ↓xEqB, ↓xNeB, ↓xIsBB, ↓xIsNN, ↓xIsTN, ↓xIsLN, ↓xIsIN, ↓xIsSN, ↓xIsRN, ↓xNoBB, ↓xNoNN, ↓xNoTN, ↓xNoLN, ↓xNoIN, ↓xNoSN, ↓xNoRN, ↓xInT, ↓xIx, ↓xIxT, ↓xIxL, ↓at0, ↓at1, ↓at2, ↓at3, ↓at4, ↓at5, ↓xSl, ↓xNo, ↓xInt, ↓xPart, ↓xCutT, ↓xCutL, ↓xCB, ↓xLenT, ↓xLenL, ↓xIntI, ↓xTupT, ↓xTupL, ↓xLstT, ↓xLstL, ↓xIsiT, ↓xIsiI, ↓xIsiB, ↓xIsiS, ↓xMax2, ↓xMin2, ↓xSum, ↓xAll, ↓xApp, ↓xFld, ↓xFldS, ↓xGFd, ↓xCall, ↓xMeth, ↓xProp, ↓xNeg, ↓xNegI, if_true, if_false, Bool.false_eq_true, Bool.true_eq_false, reduceIte, Bool.not_true, Bool.not_false, decide_eq_true_eq, Bool.not_eq_true', decide_eq_false_iff_not, not_true_eq_false, not_false_eq_true, and_true, true_and, true_implies, List.length_cons, List.length_nil, Nat.zero_le, decide_true, decide_false, decide_not]; exact q) rfl (fun p o hp => rfl) (line_le h4) (fun p ys i hp hi => ⟨_, rfl, fun Q q => ?_⟩) ?_
  · show dCall _ _ _ _ [some s.d, some c.d, some (tI c.groups), some (.int c.more), some (.int i)] _ _
    simp only [↓xSeq, ↓xNx, ↓xRt, ↓xBk, ↓xCt, ↓xEndNx, ↓xEndRt, ↓xNext, ↓xBreak, ↓xCont, ↓xDrop, ↓xRet, ↓xRetN, ↓xNever, ↓xIfS, ↓xPut0, ↓xPutS, ↓xSet, ↓xAug, ↓xAsg, ↓xUn2, ↓xUn1, ↓xPar, ↓xNm, ↓xNl, ↓xCn, ↓xSq, ↓xSqL, ↓xV0, ↓xVS, ↓xC, ↓xFrz, ↓xFrz1, ↓xOp, ↓xBl, ↓xB, ↓xChain, ↓xAnd, ↓xOr, ↓xNot, ↓xAndV, ↓xOrV, ↓xNotV, ↓xIf, ↓xNil, ↓xCons, ↓xTup, ↓xLst, ↓xLstO, ↓xOpt, ↓xAddI, ↓xAddT, ↓xAddL, ↓xSub, ↓xIAdd, ↓xFdiv, ↓xMod, ↓xPow, ↓xMul, ↓xLt, ↓xLe, ↓xGt, ↓xGe, ↓xEqI, ↓xNeI, ↓xEqB, ↓xNeB, ↓xIsBB, ↓xIsNN, ↓xIsTN, ↓xIsLN, ↓xIsIN, ↓xIsSN, ↓xIsRN, ↓xNoBB, ↓xNoNN, ↓xNoTN, ↓xNoLN, ↓xNoIN, ↓xNoSN, ↓xNoRN, ↓xInT, ↓xIx, ↓xIxT, ↓xIxL, ↓at0, ↓at1, ↓at2, ↓at3, ↓at4, ↓at5, ↓xSl, ↓xNo, ↓xInt, ↓xPart, ↓xCutT, ↓xCutL, ↓xCB, ↓xLenT, ↓xLenL, ↓xIntI, ↓xTupT, ↓xTupL, ↓xLstT, ↓xLstL, ↓xIsiT, ↓xIsiI, ↓xIsiB, ↓xIsiS, ↓xMax2, ↓xMin2, ↓xSum, ↓xAll, ↓xApp, ↓xFld, ↓xFldS, ↓xGFd, ↓xCall, ↓xMeth, ↓xProp, ↓xNeg, ↓xNegI, if_true, if_false, Bool.false_eq_true, Bool.true_eq_false, reduceIte, Bool.not_true, Bool.not_false, decide_eq_true_eq, Bool.not_eq_true', decide_eq_false_iff_not, not_true_eq_false, not_false_eq_true, and_true, true_and, true_implies, List.length_cons, List.length_nil, Nat.zero_le, decide_true, decide_false, decide_not, ↓x_is_size]
    exact ⟨⟨o, oc.gi i hi⟩, q⟩
  · have e : c.groups.map (fun i => D.bl true) = (c.groups.map fun _ => true).map D.bl := by rw [List.map_map]; rfl
    rw [e]
    have e : ((c.groups.map fun _ => true).all fun b => b) = true := by simp
    simp only [↓xSeq, ↓xNx, ↓xRt, ↓xBk, ↓xCt, ↓xEndNx, ↓xEndRt, ↓xNext, ↓xBreak, ↓xCont, ↓xDrop, ↓xRet, ↓xRetN, ↓xNever, ↓xIfS, ↓xPut0, ↓xPutS, ↓xSet, ↓xAug, ↓xAsg, ↓xUn2, ↓xUn1, ↓xPar, ↓xNm, ↓xNl, ↓xCn, ↓xSq, ↓xSqL, ↓xV0, ↓xVS, ↓xC, ↓xFrz, ↓xFrz1, ↓xOp, ↓xBl, ↓xB, ↓xChain, ↓xAnd, ↓xOr, ↓xNot, ↓xAndV, ↓xOrV, ↓xNotV, ↓xIf, ↓xNil, ↓xCons, ↓xTup, ↓xLst, ↓xLstO, ↓xOpt, ↓xAddI, ↓xAddT, ↓xAddL, ↓xSub, ↓xIAdd, ↓xFdiv, ↓xMod, ↓xPow, ↓xMul, ↓xLt, ↓xLe, ↓xGt, ↓xGe, ↓xEqI, ↓xNeI, ↓xEqB, ↓xNeB, ↓xIsBB, ↓xIsNN, ↓xIsTN, ↓xIsLN, ↓xIsIN, ↓xIsSN, ↓xIsRN, ↓xNoBB, ↓xNoNN, ↓xNoTN, ↓xNoLN, ↓xNoIN, ↓xNoSN, ↓xNoRN, ↓xInT, ↓xIx, ↓xIxT, ↓xIxL, ↓at0, ↓at1, ↓at2, ↓at3, ↓at4, ↓at5, ↓xSl, ↓xNo, ↓xInt, ↓xPart, ↓xCutT, ↓xCutL, ↓xCB, ↓xLenT, ↓xLenL, ↓xIntI, ↓xTupT, ↓xTupL, ↓xLstT, ↓xLstL, ↓xIsiT, ↓xIsiI, ↓xIsiB, ↓xIsiS, ↓xMax2, ↓xMin2, ↓xSum, ↓xAll, ↓xApp, ↓xFld, ↓xFldS, ↓xGFd, ↓xCall, ↓xMeth, ↓xProp, ↓xNeg, ↓xNegI, if_true, if_false, Bool.false_eq_true, Bool.true_eq_false, reduceIte, Bool.not_true, Bool.not_false, decide_eq_true_eq, Bool.not_eq_true', decide_eq_false_iff_not, not_true_eq_false, not_false_eq_true, and_true, true_and, true_implies, List.length_cons, List.length_nil, Nat.zero_le, decide_true, decide_false, decide_not, e, ↓x_is_number, h2, h3, Bool.and_self, ↓suIx3]
    exact fin q

end DL
/-! What the program's defs answer: a beat. -/
namespace DL
open PySem PySem.Spec PyProof.Rows L2
def st0 : Stt := ⟨0, [], 0, 0⟩
def S_first_state : DSp := fun ds M Q _ => ds = [] ∧ Q st0.d M
theorem x_first_state {M : Mp} {Q : DK} {dx : DX} : S_first_state [] M Q dx = Q st0.d M := propext ⟨fun h => h.2, fun h => ⟨rfl, h⟩⟩
theorem b_first_state {ds M Q dx} (h : S_first_state ds M Q dx) : d_first_state (endD Q) (startD [] ds) M := by
  obtain ⟨rfl, q⟩ := h
  show d_first_state (endD Q) [] M
  unfold d_first_state
  simp only [↓xSeq, ↓xNx, ↓xRt, ↓xBk, ↓xCt, ↓xEndNx, ↓xEndRt, ↓xNext, ↓xBreak, ↓xCont, ↓xDrop, ↓xRet, ↓xRetN, ↓xNever, ↓xIfS, ↓xPut0, ↓xPutS, ↓xSet, ↓xAug, ↓xAsg, ↓xUn2, ↓xUn1, ↓xPar, ↓xNm, ↓xNl, ↓xCn, ↓xSq, ↓xSqL, ↓xV0, ↓xVS, ↓xC, ↓xFrz, ↓xFrz1, ↓xOp, ↓xBl, ↓xB, ↓xChain, ↓xAnd, ↓xOr, ↓xNot, ↓xAndV, ↓xOrV, ↓xNotV, ↓xIf, ↓xNil, ↓xCons, ↓xTup, ↓xLst, ↓xLstO, ↓xOpt, ↓xAddI, ↓xAddT, ↓xAddL, ↓xSub, ↓xIAdd, ↓xFdiv, ↓xMod, ↓xPow, ↓xMul, ↓xLt, ↓xLe, ↓xGt, ↓xGe, ↓xEqI, ↓xNeI, ↓xEqB, ↓xNeB, ↓xIsBB, ↓xIsNN, ↓xIsTN, ↓xIsLN, ↓xIsIN, ↓xIsSN, ↓xIsRN, ↓xNoBB, ↓xNoNN, ↓xNoTN, ↓xNoLN, ↓xNoIN, ↓xNoSN, ↓xNoRN, ↓xInT, ↓xIx, ↓xIxT, ↓xIxL, ↓at0, ↓at1, ↓at2, ↓at3, ↓at4, ↓at5, ↓xSl, ↓xNo, ↓xInt, ↓xPart, ↓xCutT, ↓xCutL, ↓xCB, ↓xLenT, ↓xLenL, ↓xIntI, ↓xTupT, ↓xTupL, ↓xLstT, ↓xLstL, ↓xIsiT, ↓xIsiI, ↓xIsiB, ↓xIsiS, ↓xMax2, ↓xMin2, ↓xSum, ↓xAll, ↓xApp, ↓xFld, ↓xFldS, ↓xGFd, ↓xCall, ↓xMeth, ↓xProp, ↓xNeg, ↓xNegI, if_true, if_false, Bool.false_eq_true, Bool.true_eq_false, reduceIte, Bool.not_true, Bool.not_false, decide_eq_true_eq, Bool.not_eq_true', decide_eq_false_iff_not, not_true_eq_false, not_false_eq_true, and_true, true_and, true_implies, List.length_cons, List.length_nil, Nat.zero_le, decide_true, decide_false, decide_not, ↓suIx0, ↓suIx1, ↓suIx2, ↓suIx3, ↓rwIx0, ↓rwIx1, ↓rwIx2, ↓rwIx3, ↓rwIx4, ↓rwIx5, ↓rwNo, ↓ddG, ↓ddS, ↓ddP, ↓ddGo, ↓liN, ↓liNe]
  exact fin q
def S_can_be_done : DSp := fun ds M Q _ => ∃ (d : Dd) (f l s : Int), ds = [.str d.s, .int f, .int l, .int s] ∧ Q (.bl (can d f l s)) M
theorem x_can_be_done {d : Dd} {f l s : Int} {M : Mp} {Q : DK} {dx : DX} : S_can_be_done [.str d.s, .int f, .int l, .int s] M Q dx = Q (.bl (can d f l s)) M :=
  propext ⟨fun ⟨_, _, _, _, e, h⟩ => by simp only [List.cons.injEq, D.str.injEq, Dd.inj, D.int.injEq, and_true] at e; obtain ⟨rfl, rfl, rfl, rfl⟩ := e; exact h, fun h => ⟨_, _, _, _, rfl, h⟩⟩
theorem b_can_be_done {ds M Q dx} (h : S_can_be_done ds M Q dx) : d_can_be_done (endD Q) (startD ["deed", "front", "left", "singles"] ds) M := by
  obtain ⟨d, f, l, s, rfl, q⟩ := h
  show d_can_be_done (endD Q) [some (.str d.s), some (.int f), some (.int l), some (.int s)] M
  unfold d_can_be_done
  cases d
  · simp only [↓xSeq, ↓xNx, ↓xRt, ↓xBk, ↓xCt, ↓xEndNx, ↓xEndRt, ↓xNext, ↓xBreak, ↓xCont, ↓xDrop, ↓xRet, ↓xRetN, ↓xNever, ↓xIfS, ↓xPut0, ↓xPutS, ↓xSet, ↓xAug, ↓xAsg, ↓xUn2, ↓xUn1, ↓xPar, ↓xNm, ↓xNl, ↓xCn, ↓xSq, ↓xSqL, ↓xV0, ↓xVS, ↓xC, ↓xFrz, ↓xFrz1, ↓xOp, ↓xBl, ↓xB, ↓xChain, ↓xAnd, ↓xOr, ↓xNot, ↓xAndV, ↓xOrV, ↓xNotV, ↓xIf, ↓xNil, ↓xCons, ↓xTup, ↓xLst, ↓xLstO, ↓xOpt, ↓xAddI, ↓xAddT, ↓xAddL, ↓xSub, ↓xIAdd, ↓xFdiv, ↓xMod, ↓xPow, ↓xMul, ↓xLt, ↓xLe, ↓xGt, ↓xGe, ↓xEqI, ↓xNeI, ↓xEqB, ↓xNeB, ↓xIsBB, ↓xIsNN, ↓xIsTN, ↓xIsLN, ↓xIsIN, ↓xIsSN, ↓xIsRN, ↓xNoBB, ↓xNoNN, ↓xNoTN, ↓xNoLN, ↓xNoIN, ↓xNoSN, ↓xNoRN, ↓xInT, ↓xIx, ↓xIxT, ↓xIxL, ↓at0, ↓at1, ↓at2, ↓at3, ↓at4, ↓at5, ↓xSl, ↓xNo, ↓xInt, ↓xPart, ↓xCutT, ↓xCutL, ↓xCB, ↓xLenT, ↓xLenL, ↓xIntI, ↓xTupT, ↓xTupL, ↓xLstT, ↓xLstL, ↓xIsiT, ↓xIsiI, ↓xIsiB, ↓xIsiS, ↓xMax2, ↓xMin2, ↓xSum, ↓xAll, ↓xApp, ↓xFld, ↓xFldS, ↓xGFd, ↓xCall, ↓xMeth, ↓xProp, ↓xNeg, ↓xNegI, if_true, if_false, Bool.false_eq_true, Bool.true_eq_false, reduceIte, Bool.not_true, Bool.not_false, decide_eq_true_eq, Bool.not_eq_true', decide_eq_false_iff_not, not_true_eq_false, not_false_eq_true, and_true, true_and, true_implies, List.length_cons, List.length_nil, Nat.zero_le, decide_true, decide_false, decide_not, ↓suIx0, ↓suIx1, ↓suIx2, ↓suIx3, ↓rwIx0, ↓rwIx1, ↓rwIx2, ↓rwIx3, ↓rwIx4, ↓rwIx5, ↓rwNo, ↓ddG, ↓ddS, ↓ddP, ↓ddGo, ↓liN, ↓liNe]
    simp only [can] at q
    split <;> rename_i h
    · exact ⟨M, Sub.refl, by simpa [h] using q⟩
    · exact ⟨M, Sub.refl, by simpa [h] using q⟩
  · simp only [↓xSeq, ↓xNx, ↓xRt, ↓xBk, ↓xCt, ↓xEndNx, ↓xEndRt, ↓xNext, ↓xBreak, ↓xCont, ↓xDrop, ↓xRet, ↓xRetN, ↓xNever, ↓xIfS, ↓xPut0, ↓xPutS, ↓xSet, ↓xAug, ↓xAsg, ↓xUn2, ↓xUn1, ↓xPar, ↓xNm, ↓xNl, ↓xCn, ↓xSq, ↓xSqL, ↓xV0, ↓xVS, ↓xC, ↓xFrz, ↓xFrz1, ↓xOp, ↓xBl, ↓xB, ↓xChain, ↓xAnd, ↓xOr, ↓xNot, ↓xAndV, ↓xOrV, ↓xNotV, ↓xIf, ↓xNil, ↓xCons, ↓xTup, ↓xLst, ↓xLstO, ↓xOpt, ↓xAddI, ↓xAddT, ↓xAddL, ↓xSub, ↓xIAdd, ↓xFdiv, ↓xMod, ↓xPow, ↓xMul, ↓xLt, ↓xLe, ↓xGt, ↓xGe, ↓xEqI, ↓xNeI, ↓xEqB, ↓xNeB, ↓xIsBB, ↓xIsNN, ↓xIsTN, ↓xIsLN, ↓xIsIN, ↓xIsSN, ↓xIsRN, ↓xNoBB, ↓xNoNN, ↓xNoTN, ↓xNoLN, ↓xNoIN, ↓xNoSN, ↓xNoRN, ↓xInT, ↓xIx, ↓xIxT, ↓xIxL, ↓at0, ↓at1, ↓at2, ↓at3, ↓at4, ↓at5, ↓xSl, ↓xNo, ↓xInt, ↓xPart, ↓xCutT, ↓xCutL, ↓xCB, ↓xLenT, ↓xLenL, ↓xIntI, ↓xTupT, ↓xTupL, ↓xLstT, ↓xLstL, ↓xIsiT, ↓xIsiI, ↓xIsiB, ↓xIsiS, ↓xMax2, ↓xMin2, ↓xSum, ↓xAll, ↓xApp, ↓xFld, ↓xFldS, ↓xGFd, ↓xCall, ↓xMeth, ↓xProp, ↓xNeg, ↓xNegI, if_true, if_false, Bool.false_eq_true, Bool.true_eq_false, reduceIte, Bool.not_true, Bool.not_false, decide_eq_true_eq, Bool.not_eq_true', decide_eq_false_iff_not, not_true_eq_false, not_false_eq_true, and_true, true_and, true_implies, List.length_cons, List.length_nil, Nat.zero_le, decide_true, decide_false, decide_not, ↓suIx0, ↓suIx1, ↓suIx2, ↓suIx3, ↓rwIx0, ↓rwIx1, ↓rwIx2, ↓rwIx3, ↓rwIx4, ↓rwIx5, ↓rwNo, ↓ddG, ↓ddS, ↓ddP, ↓ddGo, ↓liN, ↓liNe, reduceCtorEq]
    simp only [can] at q
    split <;> rename_i h
    · exact ⟨M, Sub.refl, by simpa [h] using q⟩
    · exact ⟨M, Sub.refl, by simpa [h] using q⟩
  · simp only [↓xSeq, ↓xNx, ↓xRt, ↓xBk, ↓xCt, ↓xEndNx, ↓xEndRt, ↓xNext, ↓xBreak, ↓xCont, ↓xDrop, ↓xRet, ↓xRetN, ↓xNever, ↓xIfS, ↓xPut0, ↓xPutS, ↓xSet, ↓xAug, ↓xAsg, ↓xUn2, ↓xUn1, ↓xPar, ↓xNm, ↓xNl, ↓xCn, ↓xSq, ↓xSqL, ↓xV0, ↓xVS, ↓xC, ↓xFrz, ↓xFrz1, ↓xOp, ↓xBl, ↓xB, ↓xChain, ↓xAnd, ↓xOr, ↓xNot, ↓xAndV, ↓xOrV, ↓xNotV, ↓xIf, ↓xNil, ↓xCons, ↓xTup, ↓xLst, ↓xLstO, ↓xOpt, ↓xAddI, ↓xAddT, ↓xAddL, ↓xSub, ↓xIAdd, ↓xFdiv, ↓xMod, ↓xPow, ↓xMul, ↓xLt, ↓xLe, ↓xGt, ↓xGe, ↓xEqI, ↓xNeI, ↓xEqB, ↓xNeB, ↓xIsBB, ↓xIsNN, ↓xIsTN, ↓xIsLN, ↓xIsIN, ↓xIsSN, ↓xIsRN, ↓xNoBB, ↓xNoNN, ↓xNoTN, ↓xNoLN, ↓xNoIN, ↓xNoSN, ↓xNoRN, ↓xInT, ↓xIx, ↓xIxT, ↓xIxL, ↓at0, ↓at1, ↓at2, ↓at3, ↓at4, ↓at5, ↓xSl, ↓xNo, ↓xInt, ↓xPart, ↓xCutT, ↓xCutL, ↓xCB, ↓xLenT, ↓xLenL, ↓xIntI, ↓xTupT, ↓xTupL, ↓xLstT, ↓xLstL, ↓xIsiT, ↓xIsiI, ↓xIsiB, ↓xIsiS, ↓xMax2, ↓xMin2, ↓xSum, ↓xAll, ↓xApp, ↓xFld, ↓xFldS, ↓xGFd, ↓xCall, ↓xMeth, ↓xProp, ↓xNeg, ↓xNegI, if_true, if_false, Bool.false_eq_true, Bool.true_eq_false, reduceIte, Bool.not_true, Bool.not_false, decide_eq_true_eq, Bool.not_eq_true', decide_eq_false_iff_not, not_true_eq_false, not_false_eq_true, and_true, true_and, true_implies, List.length_cons, List.length_nil, Nat.zero_le, decide_true, decide_false, decide_not, ↓suIx0, ↓suIx1, ↓suIx2, ↓suIx3, ↓rwIx0, ↓rwIx1, ↓rwIx2, ↓rwIx3, ↓rwIx4, ↓rwIx5, ↓rwNo, ↓ddG, ↓ddS, ↓ddP, ↓ddGo, ↓liN, ↓liNe, reduceCtorEq]
    simp only [can] at q
    split <;> rename_i h
    · exact ⟨M, Sub.refl, by simpa [h] using q⟩
    · exact ⟨M, Sub.refl, by simpa [h] using q⟩
  · simp only [↓xSeq, ↓xNx, ↓xRt, ↓xBk, ↓xCt, ↓xEndNx, ↓xEndRt, ↓xNext, ↓xBreak, ↓xCont, ↓xDrop, ↓xRet, ↓xRetN, ↓xNever, ↓xIfS, ↓xPut0, ↓xPutS, ↓xSet, ↓xAug, ↓xAsg, ↓xUn2, ↓xUn1, ↓xPar, ↓xNm, ↓xNl, ↓xCn, ↓xSq, ↓xSqL, ↓xV0, ↓xVS, ↓xC, ↓xFrz, ↓xFrz1, ↓xOp, ↓xBl, ↓xB, ↓xChain, ↓xAnd, ↓xOr, ↓xNot, ↓xAndV, ↓xOrV, ↓xNotV, ↓xIf, ↓xNil, ↓xCons, ↓xTup, ↓xLst, ↓xLstO, ↓xOpt, ↓xAddI, ↓xAddT, ↓xAddL, ↓xSub, ↓xIAdd, ↓xFdiv, ↓xMod, ↓xPow, ↓xMul, ↓xLt, ↓xLe, ↓xGt, ↓xGe, ↓xEqI, ↓xNeI, ↓xEqB, ↓xNeB, ↓xIsBB, ↓xIsNN, ↓xIsTN, ↓xIsLN, ↓xIsIN, ↓xIsSN, ↓xIsRN, ↓xNoBB, ↓xNoNN, ↓xNoTN, ↓xNoLN, ↓xNoIN, ↓xNoSN, ↓xNoRN, ↓xInT, ↓xIx, ↓xIxT, ↓xIxL, ↓at0, ↓at1, ↓at2, ↓at3, ↓at4, ↓at5, ↓xSl, ↓xNo, ↓xInt, ↓xPart, ↓xCutT, ↓xCutL, ↓xCB, ↓xLenT, ↓xLenL, ↓xIntI, ↓xTupT, ↓xTupL, ↓xLstT, ↓xLstL, ↓xIsiT, ↓xIsiI, ↓xIsiB, ↓xIsiS, ↓xMax2, ↓xMin2, ↓xSum, ↓xAll, ↓xApp, ↓xFld, ↓xFldS, ↓xGFd, ↓xCall, ↓xMeth, ↓xProp, ↓xNeg, ↓xNegI, if_true, if_false, Bool.false_eq_true, Bool.true_eq_false, reduceIte, Bool.not_true, Bool.not_false, decide_eq_true_eq, Bool.not_eq_true', decide_eq_false_iff_not, not_true_eq_false, not_false_eq_true, and_true, true_and, true_implies, List.length_cons, List.length_nil, Nat.zero_le, decide_true, decide_false, decide_not, ↓suIx0, ↓suIx1, ↓suIx2, ↓suIx3, ↓rwIx0, ↓rwIx1, ↓rwIx2, ↓rwIx3, ↓rwIx4, ↓rwIx5, ↓rwNo, ↓ddG, ↓ddS, ↓ddP, ↓ddGo, ↓liN, ↓liNe, reduceCtorEq]
    exact fin q
def S_front_of : DSp := fun ds M Q _ => ∃ l : List Int, ds = [tI l] ∧ Q (.int (frontI l)) M
theorem x_front_of {l : List Int} {M : Mp} {Q : DK} {dx : DX} : S_front_of [tI l] M Q dx = Q (.int (frontI l)) M :=
  propext ⟨fun ⟨_, e, h⟩ => by simp only [List.cons.injEq, D.tup.injEq, ints_inj, and_true] at e; obtain ⟨rfl⟩ := e; exact h, fun h => ⟨_, rfl, h⟩⟩
theorem b_front_of {ds M Q dx} (h : S_front_of ds M Q dx) : d_front_of (endD Q) (startD ["line"] ds) M := by
  obtain ⟨l, rfl, q⟩ := h
  show d_front_of (endD Q) [some (tI l)] M
  unfold d_front_of
  cases l with
  | nil => simp only [↓xSeq, ↓xNx, ↓xRt, ↓xBk, ↓xCt, ↓xEndNx, ↓xEndRt, ↓xNext, ↓xBreak, ↓xCont, ↓xDrop, ↓xRet, ↓xRetN, ↓xNever, ↓xIfS, ↓xPut0, ↓xPutS, ↓xSet, ↓xAug, ↓xAsg, ↓xUn2, ↓xUn1, ↓xPar, ↓xNm, ↓xNl, ↓xCn, ↓xSq, ↓xSqL, ↓xV0, ↓xVS, ↓xC, ↓xFrz, ↓xFrz1, ↓xOp, ↓xBl, ↓xB, ↓xChain, ↓xAnd, ↓xOr, ↓xNot, ↓xAndV, ↓xOrV, ↓xNotV, ↓xIf, ↓xNil, ↓xCons, ↓xTup, ↓xLst, ↓xLstO, ↓xOpt, ↓xAddI, ↓xAddT, ↓xAddL, ↓xSub, ↓xIAdd, ↓xFdiv, ↓xMod, ↓xPow, ↓xMul, ↓xLt, ↓xLe, ↓xGt, ↓xGe, ↓xEqI, ↓xNeI, ↓xEqB, ↓xNeB, ↓xIsBB, ↓xIsNN, ↓xIsTN, ↓xIsLN, ↓xIsIN, ↓xIsSN, ↓xIsRN, ↓xNoBB, ↓xNoNN, ↓xNoTN, ↓xNoLN, ↓xNoIN, ↓xNoSN, ↓xNoRN, ↓xInT, ↓xIx, ↓xIxT, ↓xIxL, ↓at0, ↓at1, ↓at2, ↓at3, ↓at4, ↓at5, ↓xSl, ↓xNo, ↓xInt, ↓xPart, ↓xCutT, ↓xCutL, ↓xCB, ↓xLenT, ↓xLenL, ↓xIntI, ↓xTupT, ↓xTupL, ↓xLstT, ↓xLstL, ↓xIsiT, ↓xIsiI, ↓xIsiB, ↓xIsiS, ↓xMax2, ↓xMin2, ↓xSum, ↓xAll, ↓xApp, ↓xFld, ↓xFldS, ↓xGFd, ↓xCall, ↓xMeth, ↓xProp, ↓xNeg, ↓xNegI, if_true, if_false, Bool.false_eq_true, Bool.true_eq_false, reduceIte, Bool.not_true, Bool.not_false, decide_eq_true_eq, Bool.not_eq_true', decide_eq_false_iff_not, not_true_eq_false, not_false_eq_true, and_true, true_and, true_implies, List.length_cons, List.length_nil, Nat.zero_le, decide_true, decide_false, decide_not, ↓suIx0, ↓suIx1, ↓suIx2, ↓suIx3, ↓rwIx0, ↓rwIx1, ↓rwIx2, ↓rwIx3, ↓rwIx4, ↓rwIx5, ↓rwNo, ↓ddG, ↓ddS, ↓ddP, ↓ddGo, ↓liN, ↓liNe]; exact fin q
  | cons x l => simp only [↓xSeq, ↓xNx, ↓xRt, ↓xBk, ↓xCt, ↓xEndNx, ↓xEndRt, ↓xNext, ↓xBreak, ↓xCont, ↓xDrop, ↓xRet, ↓xRetN, ↓xNever, ↓xIfS, ↓xPut0, ↓xPutS, ↓xSet, ↓xAug, ↓xAsg, ↓xUn2, ↓xUn1, ↓xPar, ↓xNm, ↓xNl, ↓xCn, ↓xSq, ↓xSqL, ↓xV0, ↓xVS, ↓xC, ↓xFrz, ↓xFrz1, ↓xOp, ↓xBl, ↓xB, ↓xChain, ↓xAnd, ↓xOr, ↓xNot, ↓xAndV, ↓xOrV, ↓xNotV, ↓xIf, ↓xNil, ↓xCons, ↓xTup, ↓xLst, ↓xLstO, ↓xOpt, ↓xAddI, ↓xAddT, ↓xAddL, ↓xSub, ↓xIAdd, ↓xFdiv, ↓xMod, ↓xPow, ↓xMul, ↓xLt, ↓xLe, ↓xGt, ↓xGe, ↓xEqI, ↓xNeI, ↓xEqB, ↓xNeB, ↓xIsBB, ↓xIsNN, ↓xIsTN, ↓xIsLN, ↓xIsIN, ↓xIsSN, ↓xIsRN, ↓xNoBB, ↓xNoNN, ↓xNoTN, ↓xNoLN, ↓xNoIN, ↓xNoSN, ↓xNoRN, ↓xInT, ↓xIx, ↓xIxT, ↓xIxL, ↓at0, ↓at1, ↓at2, ↓at3, ↓at4, ↓at5, ↓xSl, ↓xNo, ↓xInt, ↓xPart, ↓xCutT, ↓xCutL, ↓xCB, ↓xLenT, ↓xLenL, ↓xIntI, ↓xTupT, ↓xTupL, ↓xLstT, ↓xLstL, ↓xIsiT, ↓xIsiI, ↓xIsiB, ↓xIsiS, ↓xMax2, ↓xMin2, ↓xSum, ↓xAll, ↓xApp, ↓xFld, ↓xFldS, ↓xGFd, ↓xCall, ↓xMeth, ↓xProp, ↓xNeg, ↓xNegI, if_true, if_false, Bool.false_eq_true, Bool.true_eq_false, reduceIte, Bool.not_true, Bool.not_false, decide_eq_true_eq, Bool.not_eq_true', decide_eq_false_iff_not, not_true_eq_false, not_false_eq_true, and_true, true_and, true_implies, List.length_cons, List.length_nil, Nat.zero_le, decide_true, decide_false, decide_not, ↓suIx0, ↓suIx1, ↓suIx2, ↓suIx3, ↓rwIx0, ↓rwIx1, ↓rwIx2, ↓rwIx3, ↓rwIx4, ↓rwIx5, ↓rwNo, ↓ddG, ↓ddS, ↓ddP, ↓ddGo, ↓liN, ↓liNe, reduceCtorEq, List.map_cons]; exact fin q
def S_fitting_row : DSp := fun ds M Q _ => ∃ (r : List Rw) (m : Int) (l : List Int) (s k : Int), ds = [rl r, .int m, tI l, .int s, .int k] ∧ Q (optR (fit r m l s k)) M
theorem x_fitting_row {r : List Rw} {m : Int} {l : List Int} {s k : Int} {M : Mp} {Q : DK} {dx : DX} : S_fitting_row [rl r, .int m, tI l, .int s, .int k] M Q dx = Q (optR (fit r m l s k)) M :=
  propext ⟨fun ⟨_, _, _, _, _, e, h⟩ => by simp only [List.cons.injEq, D.tup.injEq, D.int.injEq, ints_inj, rl_inj, and_true] at e; obtain ⟨rfl, rfl, rfl, rfl, rfl⟩ := e; exact h, fun h => ⟨_, _, _, _, _, rfl, h⟩⟩
structure FitI (r : List Rw) (m : Int) (l : List Int) (s k : Int) (M : Mp) (seen : List Rw) (ρ : Rh) (M' : Mp) : Prop where
  mem : M' = M
  no : ∀ x ∈ seen, fits m (frontI l) s k x = false
  rho : ∃ a b, ρ = [some (rl r), some (.int m), some (tI l), some (.int s), some (.int k), some (.int (frontI l)), a, b]
theorem b_fitting_row {ds M Q dx} (h : S_fitting_row ds M Q dx) : d_fitting_row S_front_of S_can_be_done (endD Q) (startD ["rule", "mood", "line", "singles", "left", "front", "row", "seen"] ds) M := by
  obtain ⟨r, m, l, s, k, rfl, q⟩ := h
  show d_fitting_row _ _ (endD Q) [some (rl r), some (.int m), some (tI l), some (.int s), some (.int k), none, none, none] M
  unfold d_fitting_row
  simp only [↓xSeq, ↓xNx, ↓xRt, ↓xBk, ↓xCt, ↓xEndNx, ↓xEndRt, ↓xNext, ↓xBreak, ↓xCont, ↓xDrop, ↓xRet, ↓xRetN, ↓xNever, ↓xIfS, ↓xPut0, ↓xPutS, ↓xSet, ↓xAug, ↓xAsg, ↓xUn2, ↓xUn1, ↓xPar, ↓xNm, ↓xNl, ↓xCn, ↓xSq, ↓xSqL, ↓xV0, ↓xVS, ↓xC, ↓xFrz, ↓xFrz1, ↓xOp, ↓xBl, ↓xB, ↓xChain, ↓xAnd, ↓xOr, ↓xNot, ↓xAndV, ↓xOrV, ↓xNotV, ↓xIf, ↓xNil, ↓xCons, ↓xTup, ↓xLst, ↓xLstO, ↓xOpt, ↓xAddI, ↓xAddT, ↓xAddL, ↓xSub, ↓xIAdd, ↓xFdiv, ↓xMod, ↓xPow, ↓xMul, ↓xLt, ↓xLe, ↓xGt, ↓xGe, ↓xEqI, ↓xNeI, ↓xEqB, ↓xNeB, ↓xIsBB, ↓xIsNN, ↓xIsTN, ↓xIsLN, ↓xIsIN, ↓xIsSN, ↓xIsRN, ↓xNoBB, ↓xNoNN, ↓xNoTN, ↓xNoLN, ↓xNoIN, ↓xNoSN, ↓xNoRN, ↓xInT, ↓xIx, ↓xIxT, ↓xIxL, ↓at0, ↓at1, ↓at2, ↓at3, ↓at4, ↓at5, ↓xSl, ↓xNo, ↓xInt, ↓xPart, ↓xCutT, ↓xCutL, ↓xCB, ↓xLenT, ↓xLenL, ↓xIntI, ↓xTupT, ↓xTupL, ↓xLstT, ↓xLstL, ↓xIsiT, ↓xIsiI, ↓xIsiB, ↓xIsiS, ↓xMax2, ↓xMin2, ↓xSum, ↓xAll, ↓xApp, ↓xFld, ↓xFldS, ↓xGFd, ↓xCall, ↓xMeth, ↓xProp, ↓xNeg, ↓xNegI, if_true, if_false, Bool.false_eq_true, Bool.true_eq_false, reduceIte, Bool.not_true, Bool.not_false, decide_eq_true_eq, Bool.not_eq_true', decide_eq_false_iff_not, not_true_eq_false, not_false_eq_true, and_true, true_and, true_implies, List.length_cons, List.length_nil, Nat.zero_le, decide_true, decide_false, decide_not, ↓suIx0, ↓suIx1, ↓suIx2, ↓suIx3, ↓rwIx0, ↓rwIx1, ↓rwIx2, ↓rwIx3, ↓rwIx4, ↓rwIx5, ↓rwNo, ↓ddG, ↓ddS, ↓ddP, ↓ddGo, ↓liN, ↓liNe, ↓x_front_of]
  refine for_sq Rw.d r (x := rl r) (fun Q q => by simp only [↓xSeq, ↓xNx, ↓xRt, ↓xBk, ↓xCt, ↓xEndNx, ↓xEndRt, ↓xNext, ↓xBreak, ↓xCont, ↓xDrop, ↓xRet, ↓xRetN, ↓xNever, ↓xIfS, ↓xPut0, ↓xPutS, ↓xSet, ↓xAug, ↓xAsg, ↓xUn2, ↓xUn1, ↓xPar, ↓xNm, ↓xNl, ↓xCn, ↓xSq, ↓xSqL, ↓xV0, ↓xVS, ↓xC, ↓xFrz, ↓xFrz1, ↓xOp, ↓xBl, ↓xB, ↓xChain, ↓xAnd, ↓xOr, ↓xNot, ↓xAndV, ↓xOrV, ↓xNotV, ↓xIf, ↓xNil, ↓xCons, ↓xTup, ↓xLst, ↓xLstO, ↓xOpt, ↓xAddI, ↓xAddT, ↓xAddL, ↓xSub, ↓xIAdd, ↓xFdiv, ↓xMod, ↓xPow, ↓xMul, ↓xLt, ↓xLe, ↓xGt, ↓xGe, ↓xEqI, ↓xNeI, ↓xEqB, ↓xNeB, ↓xIsBB, ↓xIsNN, ↓xIsTN, ↓xIsLN, ↓xIsIN, ↓xIsSN, ↓xIsRN, ↓xNoBB, ↓xNoNN, ↓xNoTN, ↓xNoLN, ↓xNoIN, ↓xNoSN, ↓xNoRN, ↓xInT, ↓xIx, ↓xIxT, ↓xIxL, ↓at0, ↓at1, ↓at2, ↓at3, ↓at4, ↓at5, ↓xSl, ↓xNo, ↓xInt, ↓xPart, ↓xCutT, ↓xCutL, ↓xCB, ↓xLenT, ↓xLenL, ↓xIntI, ↓xTupT, ↓xTupL, ↓xLstT, ↓xLstL, ↓xIsiT, ↓xIsiI, ↓xIsiB, ↓xIsiS, ↓xMax2, ↓xMin2, ↓xSum, ↓xAll, ↓xApp, ↓xFld, ↓xFldS, ↓xGFd, ↓xCall, ↓xMeth, ↓xProp, ↓xNeg, ↓xNegI, if_true, if_false, Bool.false_eq_true, Bool.true_eq_false, reduceIte, Bool.not_true, Bool.not_false, decide_eq_true_eq, Bool.not_eq_true', decide_eq_false_iff_not, not_true_eq_false, not_false_eq_true, and_true, true_and, true_implies, List.length_cons, List.length_nil, Nat.zero_le, decide_true, decide_false, decide_not, ↓suIx0, ↓suIx1, ↓suIx2, ↓suIx3, ↓rwIx0, ↓rwIx1, ↓rwIx2, ↓rwIx3, ↓rwIx4, ↓rwIx5, ↓rwNo, ↓ddG, ↓ddS, ↓ddP, ↓ddGo, ↓liN, ↓liNe]; exact q) rfl (FitI r m l s k M) ⟨rfl, by simp, none, none, rfl⟩ (fun _ _ _ _ => rfl) (fun seen x rest ρ M' e ⟨hM, hn, a, b, hρ⟩ => ?_) (fun ρ M' ⟨hM, hn, a, b, hρ⟩ => ?_)
  · subst hM hρ
    have yes : fits m (frontI l) s k x = true → ∃ M'', Sub M'' M' ∧ Q x.d M'' := fun hf => ⟨M', Sub.refl, by
      have : fit r m l s k = some x := by
        unfold fit
        rw [e, List.find?_append, List.find?_eq_none.mpr (by simpa using hn)]
        simp [hf]
      rw [this] at q
      exact q⟩
    have no : fits m (frontI l) s k x = false → ∀ c d : Option D, FitI r m l s k M' (seen ++ [x]) [some (rl r), some (.int m), some (tI l), some (.int s), some (.int k), some (.int (frontI l)), c, d] M' := fun hf c d => ⟨rfl, fun y hy => by
      rcases List.mem_append.mp hy with h | h
      · exact hn y h
      · rw [List.mem_singleton.mp h]; exact hf, c, d, rfl⟩
    simp only [↓xSeq, ↓xNx, ↓xRt, ↓xBk, ↓xCt, ↓xEndNx, ↓xEndRt, ↓xNext, ↓xBreak, ↓xCont, ↓xDrop, ↓xRet, ↓xRetN, ↓xNever, ↓xIfS, ↓xPut0, ↓xPutS, ↓xSet, ↓xAug, ↓xAsg, ↓xUn2, ↓xUn1, ↓xPar, ↓xNm, ↓xNl, ↓xCn, ↓xSq, ↓xSqL, ↓xV0, ↓xVS, ↓xC, ↓xFrz, ↓xFrz1, ↓xOp, ↓xBl, ↓xB, ↓xChain, ↓xAnd, ↓xOr, ↓xNot, ↓xAndV, ↓xOrV, ↓xNotV, ↓xIf, ↓xNil, ↓xCons, ↓xTup, ↓xLst, ↓xLstO, ↓xOpt, ↓xAddI, ↓xAddT, ↓xAddL, ↓xSub, ↓xIAdd, ↓xFdiv, ↓xMod, ↓xPow, ↓xMul, ↓xLt, ↓xLe, ↓xGt, ↓xGe, ↓xEqI, ↓xNeI, ↓xEqB, ↓xNeB, ↓xIsBB, ↓xIsNN, ↓xIsTN, ↓xIsLN, ↓xIsIN, ↓xIsSN, ↓xIsRN, ↓xNoBB, ↓xNoNN, ↓xNoTN, ↓xNoLN, ↓xNoIN, ↓xNoSN, ↓xNoRN, ↓xInT, ↓xIx, ↓xIxT, ↓xIxL, ↓at0, ↓at1, ↓at2, ↓at3, ↓at4, ↓at5, ↓xSl, ↓xNo, ↓xInt, ↓xPart, ↓xCutT, ↓xCutL, ↓xCB, ↓xLenT, ↓xLenL, ↓xIntI, ↓xTupT, ↓xTupL, ↓xLstT, ↓xLstL, ↓xIsiT, ↓xIsiI, ↓xIsiB, ↓xIsiS, ↓xMax2, ↓xMin2, ↓xSum, ↓xAll, ↓xApp, ↓xFld, ↓xFldS, ↓xGFd, ↓xCall, ↓xMeth, ↓xProp, ↓xNeg, ↓xNegI, if_true, if_false, Bool.false_eq_true, Bool.true_eq_false, reduceIte, Bool.not_true, Bool.not_false, decide_eq_true_eq, Bool.not_eq_true', decide_eq_false_iff_not, not_true_eq_false, not_false_eq_true, and_true, true_and, true_implies, List.length_cons, List.length_nil, Nat.zero_le, decide_true, decide_false, decide_not, ↓suIx0, ↓suIx1, ↓suIx2, ↓suIx3, ↓rwIx0, ↓rwIx1, ↓rwIx2, ↓rwIx3, ↓rwIx4, ↓rwIx5, ↓rwNo, ↓ddG, ↓ddS, ↓ddP, ↓ddGo, ↓liN, ↓liNe, ↓x_can_be_done]
    simp only [fits] at yes no
    by_cases h1 : x.f0 ≤ frontI l
    · by_cases h2 : frontI l ≤ x.f1
      · by_cases h3 : x.l0 ≤ k
        · by_cases h4 : k ≤ x.l1
          · by_cases h5 : x.mood = m
            · by_cases h6 : x.w0 ≤ s
              · by_cases h7 : s ≤ x.w1
                · cases hc : can x.deed (frontI l) k s
                  · simp only [h1, h2, h3, h4, h5, h6, h7, hc, ↓xSeq, ↓xNx, ↓xRt, ↓xBk, ↓xCt, ↓xEndNx, ↓xEndRt, ↓xNext, ↓xBreak, ↓xCont, ↓xDrop, ↓xRet, ↓xRetN, ↓xNever, ↓xIfS, ↓xPut0, ↓xPutS, ↓xSet, ↓xAug, ↓xAsg, ↓xUn2, ↓xUn1, ↓xPar, ↓xNm, ↓xNl, ↓xCn, ↓xSq, ↓xSqL, ↓xV0, ↓xVS, ↓xC, ↓xFrz, ↓xFrz1, ↓xOp, ↓xBl, ↓xB, ↓xChain, ↓xAnd, ↓xOr, ↓xNot, ↓xAndV, ↓xOrV, ↓xNotV, ↓xIf, ↓xNil, ↓xCons, ↓xTup, ↓xLst, ↓xLstO, ↓xOpt, ↓xAddI, ↓xAddT, ↓xAddL, ↓xSub, ↓xIAdd, ↓xFdiv, ↓xMod, ↓xPow, ↓xMul, ↓xLt, ↓xLe, ↓xGt, ↓xGe, ↓xEqI, ↓xNeI, ↓xEqB, ↓xNeB, ↓xIsBB, ↓xIsNN, ↓xIsTN, ↓xIsLN, ↓xIsIN, ↓xIsSN, ↓xIsRN, ↓xNoBB, ↓xNoNN, ↓xNoTN, ↓xNoLN, ↓xNoIN, ↓xNoSN, ↓xNoRN, ↓xInT, ↓xIx, ↓xIxT, ↓xIxL, ↓at0, ↓at1, ↓at2, ↓at3, ↓at4, ↓at5, ↓xSl, ↓xNo, ↓xInt, ↓xPart, ↓xCutT, ↓xCutL, ↓xCB, ↓xLenT, ↓xLenL, ↓xIntI, ↓xTupT, ↓xTupL, ↓xLstT, ↓xLstL, ↓xIsiT, ↓xIsiI, ↓xIsiB, ↓xIsiS, ↓xMax2, ↓xMin2, ↓xSum, ↓xAll, ↓xApp, ↓xFld, ↓xFldS, ↓xGFd, ↓xCall, ↓xMeth, ↓xProp, ↓xNeg, ↓xNegI, if_true, if_false, Bool.false_eq_true, Bool.true_eq_false, reduceIte, Bool.not_true, Bool.not_false, decide_eq_true_eq, Bool.not_eq_true', decide_eq_false_iff_not, not_true_eq_false, not_false_eq_true, and_true, true_and, true_implies, List.length_cons, List.length_nil, Nat.zero_le, decide_true, decide_false, decide_not, ↓suIx0, ↓suIx1, ↓suIx2, ↓suIx3, ↓rwIx0, ↓rwIx1, ↓rwIx2, ↓rwIx3, ↓rwIx4, ↓rwIx5, ↓rwNo, ↓ddG, ↓ddS, ↓ddP, ↓ddGo, ↓liN, ↓liNe, ↓x_can_be_done]
                    exact no (by simp [h1, h2, h3, h4, h5, h6, h7, hc]) _ _
                  · simp only [h1, h2, h3, h4, h5, h6, h7, hc, ↓xSeq, ↓xNx, ↓xRt, ↓xBk, ↓xCt, ↓xEndNx, ↓xEndRt, ↓xNext, ↓xBreak, ↓xCont, ↓xDrop, ↓xRet, ↓xRetN, ↓xNever, ↓xIfS, ↓xPut0, ↓xPutS, ↓xSet, ↓xAug, ↓xAsg, ↓xUn2, ↓xUn1, ↓xPar, ↓xNm, ↓xNl, ↓xCn, ↓xSq, ↓xSqL, ↓xV0, ↓xVS, ↓xC, ↓xFrz, ↓xFrz1, ↓xOp, ↓xBl, ↓xB, ↓xChain, ↓xAnd, ↓xOr, ↓xNot, ↓xAndV, ↓xOrV, ↓xNotV, ↓xIf, ↓xNil, ↓xCons, ↓xTup, ↓xLst, ↓xLstO, ↓xOpt, ↓xAddI, ↓xAddT, ↓xAddL, ↓xSub, ↓xIAdd, ↓xFdiv, ↓xMod, ↓xPow, ↓xMul, ↓xLt, ↓xLe, ↓xGt, ↓xGe, ↓xEqI, ↓xNeI, ↓xEqB, ↓xNeB, ↓xIsBB, ↓xIsNN, ↓xIsTN, ↓xIsLN, ↓xIsIN, ↓xIsSN, ↓xIsRN, ↓xNoBB, ↓xNoNN, ↓xNoTN, ↓xNoLN, ↓xNoIN, ↓xNoSN, ↓xNoRN, ↓xInT, ↓xIx, ↓xIxT, ↓xIxL, ↓at0, ↓at1, ↓at2, ↓at3, ↓at4, ↓at5, ↓xSl, ↓xNo, ↓xInt, ↓xPart, ↓xCutT, ↓xCutL, ↓xCB, ↓xLenT, ↓xLenL, ↓xIntI, ↓xTupT, ↓xTupL, ↓xLstT, ↓xLstL, ↓xIsiT, ↓xIsiI, ↓xIsiB, ↓xIsiS, ↓xMax2, ↓xMin2, ↓xSum, ↓xAll, ↓xApp, ↓xFld, ↓xFldS, ↓xGFd, ↓xCall, ↓xMeth, ↓xProp, ↓xNeg, ↓xNegI, if_true, if_false, Bool.false_eq_true, Bool.true_eq_false, reduceIte, Bool.not_true, Bool.not_false, decide_eq_true_eq, Bool.not_eq_true', decide_eq_false_iff_not, not_true_eq_false, not_false_eq_true, and_true, true_and, true_implies, List.length_cons, List.length_nil, Nat.zero_le, decide_true, decide_false, decide_not, ↓suIx0, ↓suIx1, ↓suIx2, ↓suIx3, ↓rwIx0, ↓rwIx1, ↓rwIx2, ↓rwIx3, ↓rwIx4, ↓rwIx5, ↓rwNo, ↓ddG, ↓ddS, ↓ddP, ↓ddGo, ↓liN, ↓liNe, ↓x_can_be_done]
                    exact yes (by simp [h1, h2, h3, h4, h5, h6, h7, hc])
                · simp only [h1, h2, h3, h4, h5, h6, h7, ↓xSeq, ↓xNx, ↓xRt, ↓xBk, ↓xCt, ↓xEndNx, ↓xEndRt, ↓xNext, ↓xBreak, ↓xCont, ↓xDrop, ↓xRet, ↓xRetN, ↓xNever, ↓xIfS, ↓xPut0, ↓xPutS, ↓xSet, ↓xAug, ↓xAsg, ↓xUn2, ↓xUn1, ↓xPar, ↓xNm, ↓xNl, ↓xCn, ↓xSq, ↓xSqL, ↓xV0, ↓xVS, ↓xC, ↓xFrz, ↓xFrz1, ↓xOp, ↓xBl, ↓xB, ↓xChain, ↓xAnd, ↓xOr, ↓xNot, ↓xAndV, ↓xOrV, ↓xNotV, ↓xIf, ↓xNil, ↓xCons, ↓xTup, ↓xLst, ↓xLstO, ↓xOpt, ↓xAddI, ↓xAddT, ↓xAddL, ↓xSub, ↓xIAdd, ↓xFdiv, ↓xMod, ↓xPow, ↓xMul, ↓xLt, ↓xLe, ↓xGt, ↓xGe, ↓xEqI, ↓xNeI, ↓xEqB, ↓xNeB, ↓xIsBB, ↓xIsNN, ↓xIsTN, ↓xIsLN, ↓xIsIN, ↓xIsSN, ↓xIsRN, ↓xNoBB, ↓xNoNN, ↓xNoTN, ↓xNoLN, ↓xNoIN, ↓xNoSN, ↓xNoRN, ↓xInT, ↓xIx, ↓xIxT, ↓xIxL, ↓at0, ↓at1, ↓at2, ↓at3, ↓at4, ↓at5, ↓xSl, ↓xNo, ↓xInt, ↓xPart, ↓xCutT, ↓xCutL, ↓xCB, ↓xLenT, ↓xLenL, ↓xIntI, ↓xTupT, ↓xTupL, ↓xLstT, ↓xLstL, ↓xIsiT, ↓xIsiI, ↓xIsiB, ↓xIsiS, ↓xMax2, ↓xMin2, ↓xSum, ↓xAll, ↓xApp, ↓xFld, ↓xFldS, ↓xGFd, ↓xCall, ↓xMeth, ↓xProp, ↓xNeg, ↓xNegI, if_true, if_false, Bool.false_eq_true, Bool.true_eq_false, reduceIte, Bool.not_true, Bool.not_false, decide_eq_true_eq, Bool.not_eq_true', decide_eq_false_iff_not, not_true_eq_false, not_false_eq_true, and_true, true_and, true_implies, List.length_cons, List.length_nil, Nat.zero_le, decide_true, decide_false, decide_not, ↓suIx0, ↓suIx1, ↓suIx2, ↓suIx3, ↓rwIx0, ↓rwIx1, ↓rwIx2, ↓rwIx3, ↓rwIx4, ↓rwIx5, ↓rwNo, ↓ddG, ↓ddS, ↓ddP, ↓ddGo, ↓liN, ↓liNe, ↓x_can_be_done]
                  exact no (by simp [h7]) _ _
              · simp only [h1, h2, h3, h4, h5, h6, ↓xSeq, ↓xNx, ↓xRt, ↓xBk, ↓xCt, ↓xEndNx, ↓xEndRt, ↓xNext, ↓xBreak, ↓xCont, ↓xDrop, ↓xRet, ↓xRetN, ↓xNever, ↓xIfS, ↓xPut0, ↓xPutS, ↓xSet, ↓xAug, ↓xAsg, ↓xUn2, ↓xUn1, ↓xPar, ↓xNm, ↓xNl, ↓xCn, ↓xSq, ↓xSqL, ↓xV0, ↓xVS, ↓xC, ↓xFrz, ↓xFrz1, ↓xOp, ↓xBl, ↓xB, ↓xChain, ↓xAnd, ↓xOr, ↓xNot, ↓xAndV, ↓xOrV, ↓xNotV, ↓xIf, ↓xNil, ↓xCons, ↓xTup, ↓xLst, ↓xLstO, ↓xOpt, ↓xAddI, ↓xAddT, ↓xAddL, ↓xSub, ↓xIAdd, ↓xFdiv, ↓xMod, ↓xPow, ↓xMul, ↓xLt, ↓xLe, ↓xGt, ↓xGe, ↓xEqI, ↓xNeI, ↓xEqB, ↓xNeB, ↓xIsBB, ↓xIsNN, ↓xIsTN, ↓xIsLN, ↓xIsIN, ↓xIsSN, ↓xIsRN, ↓xNoBB, ↓xNoNN, ↓xNoTN, ↓xNoLN, ↓xNoIN, ↓xNoSN, ↓xNoRN, ↓xInT, ↓xIx, ↓xIxT, ↓xIxL, ↓at0, ↓at1, ↓at2, ↓at3, ↓at4, ↓at5, ↓xSl, ↓xNo, ↓xInt, ↓xPart, ↓xCutT, ↓xCutL, ↓xCB, ↓xLenT, ↓xLenL, ↓xIntI, ↓xTupT, ↓xTupL, ↓xLstT, ↓xLstL, ↓xIsiT, ↓xIsiI, ↓xIsiB, ↓xIsiS, ↓xMax2, ↓xMin2, ↓xSum, ↓xAll, ↓xApp, ↓xFld, ↓xFldS, ↓xGFd, ↓xCall, ↓xMeth, ↓xProp, ↓xNeg, ↓xNegI, if_true, if_false, Bool.false_eq_true, Bool.true_eq_false, reduceIte, Bool.not_true, Bool.not_false, decide_eq_true_eq, Bool.not_eq_true', decide_eq_false_iff_not, not_true_eq_false, not_false_eq_true, and_true, true_and, true_implies, List.length_cons, List.length_nil, Nat.zero_le, decide_true, decide_false, decide_not, ↓suIx0, ↓suIx1, ↓suIx2, ↓suIx3, ↓rwIx0, ↓rwIx1, ↓rwIx2, ↓rwIx3, ↓rwIx4, ↓rwIx5, ↓rwNo, ↓ddG, ↓ddS, ↓ddP, ↓ddGo, ↓liN, ↓liNe, ↓x_can_be_done]
                exact no (by simp [h6]) _ _
            · simp only [h1, h2, h3, h4, h5, ↓xSeq, ↓xNx, ↓xRt, ↓xBk, ↓xCt, ↓xEndNx, ↓xEndRt, ↓xNext, ↓xBreak, ↓xCont, ↓xDrop, ↓xRet, ↓xRetN, ↓xNever, ↓xIfS, ↓xPut0, ↓xPutS, ↓xSet, ↓xAug, ↓xAsg, ↓xUn2, ↓xUn1, ↓xPar, ↓xNm, ↓xNl, ↓xCn, ↓xSq, ↓xSqL, ↓xV0, ↓xVS, ↓xC, ↓xFrz, ↓xFrz1, ↓xOp, ↓xBl, ↓xB, ↓xChain, ↓xAnd, ↓xOr, ↓xNot, ↓xAndV, ↓xOrV, ↓xNotV, ↓xIf, ↓xNil, ↓xCons, ↓xTup, ↓xLst, ↓xLstO, ↓xOpt, ↓xAddI, ↓xAddT, ↓xAddL, ↓xSub, ↓xIAdd, ↓xFdiv, ↓xMod, ↓xPow, ↓xMul, ↓xLt, ↓xLe, ↓xGt, ↓xGe, ↓xEqI, ↓xNeI, ↓xEqB, ↓xNeB, ↓xIsBB, ↓xIsNN, ↓xIsTN, ↓xIsLN, ↓xIsIN, ↓xIsSN, ↓xIsRN, ↓xNoBB, ↓xNoNN, ↓xNoTN, ↓xNoLN, ↓xNoIN, ↓xNoSN, ↓xNoRN, ↓xInT, ↓xIx, ↓xIxT, ↓xIxL, ↓at0, ↓at1, ↓at2, ↓at3, ↓at4, ↓at5, ↓xSl, ↓xNo, ↓xInt, ↓xPart, ↓xCutT, ↓xCutL, ↓xCB, ↓xLenT, ↓xLenL, ↓xIntI, ↓xTupT, ↓xTupL, ↓xLstT, ↓xLstL, ↓xIsiT, ↓xIsiI, ↓xIsiB, ↓xIsiS, ↓xMax2, ↓xMin2, ↓xSum, ↓xAll, ↓xApp, ↓xFld, ↓xFldS, ↓xGFd, ↓xCall, ↓xMeth, ↓xProp, ↓xNeg, ↓xNegI, if_true, if_false, Bool.false_eq_true, Bool.true_eq_false, reduceIte, Bool.not_true, Bool.not_false, decide_eq_true_eq, Bool.not_eq_true', decide_eq_false_iff_not, not_true_eq_false, not_false_eq_true, and_true, true_and, true_implies, List.length_cons, List.length_nil, Nat.zero_le, decide_true, decide_false, decide_not, ↓suIx0, ↓suIx1, ↓suIx2, ↓suIx3, ↓rwIx0, ↓rwIx1, ↓rwIx2, ↓rwIx3, ↓rwIx4, ↓rwIx5, ↓rwNo, ↓ddG, ↓ddS, ↓ddP, ↓ddGo, ↓liN, ↓liNe, ↓x_can_be_done]
              exact no (by simp [h5]) _ _
          · simp only [h1, h2, h3, h4, ↓xSeq, ↓xNx, ↓xRt, ↓xBk, ↓xCt, ↓xEndNx, ↓xEndRt, ↓xNext, ↓xBreak, ↓xCont, ↓xDrop, ↓xRet, ↓xRetN, ↓xNever, ↓xIfS, ↓xPut0, ↓xPutS, ↓xSet, ↓xAug, ↓xAsg, ↓xUn2, ↓xUn1, ↓xPar, ↓xNm, ↓xNl, ↓xCn, ↓xSq, ↓xSqL, ↓xV0, ↓xVS, ↓xC, ↓xFrz, ↓xFrz1, ↓xOp, ↓xBl, ↓xB, ↓xChain, ↓xAnd, ↓xOr, ↓xNot, ↓xAndV, ↓xOrV, ↓xNotV, ↓xIf, ↓xNil, ↓xCons, ↓xTup, ↓xLst, ↓xLstO, ↓xOpt, ↓xAddI, ↓xAddT, ↓xAddL, ↓xSub, ↓xIAdd, ↓xFdiv, ↓xMod, ↓xPow, ↓xMul, ↓xLt, ↓xLe, ↓xGt, ↓xGe, ↓xEqI, ↓xNeI, ↓xEqB, ↓xNeB, ↓xIsBB, ↓xIsNN, ↓xIsTN, ↓xIsLN, ↓xIsIN, ↓xIsSN, ↓xIsRN, ↓xNoBB, ↓xNoNN, ↓xNoTN, ↓xNoLN, ↓xNoIN, ↓xNoSN, ↓xNoRN, ↓xInT, ↓xIx, ↓xIxT, ↓xIxL, ↓at0, ↓at1, ↓at2, ↓at3, ↓at4, ↓at5, ↓xSl, ↓xNo, ↓xInt, ↓xPart, ↓xCutT, ↓xCutL, ↓xCB, ↓xLenT, ↓xLenL, ↓xIntI, ↓xTupT, ↓xTupL, ↓xLstT, ↓xLstL, ↓xIsiT, ↓xIsiI, ↓xIsiB, ↓xIsiS, ↓xMax2, ↓xMin2, ↓xSum, ↓xAll, ↓xApp, ↓xFld, ↓xFldS, ↓xGFd, ↓xCall, ↓xMeth, ↓xProp, ↓xNeg, ↓xNegI, if_true, if_false, Bool.false_eq_true, Bool.true_eq_false, reduceIte, Bool.not_true, Bool.not_false, decide_eq_true_eq, Bool.not_eq_true', decide_eq_false_iff_not, not_true_eq_false, not_false_eq_true, and_true, true_and, true_implies, List.length_cons, List.length_nil, Nat.zero_le, decide_true, decide_false, decide_not, ↓suIx0, ↓suIx1, ↓suIx2, ↓suIx3, ↓rwIx0, ↓rwIx1, ↓rwIx2, ↓rwIx3, ↓rwIx4, ↓rwIx5, ↓rwNo, ↓ddG, ↓ddS, ↓ddP, ↓ddGo, ↓liN, ↓liNe, ↓x_can_be_done]
            split <;> exact no (by simp [h4]) _ _
        · simp only [h1, h2, h3, ↓xSeq, ↓xNx, ↓xRt, ↓xBk, ↓xCt, ↓xEndNx, ↓xEndRt, ↓xNext, ↓xBreak, ↓xCont, ↓xDrop, ↓xRet, ↓xRetN, ↓xNever, ↓xIfS, ↓xPut0, ↓xPutS, ↓xSet, ↓xAug, ↓xAsg, ↓xUn2, ↓xUn1, ↓xPar, ↓xNm, ↓xNl, ↓xCn, ↓xSq, ↓xSqL, ↓xV0, ↓xVS, ↓xC, ↓xFrz, ↓xFrz1, ↓xOp, ↓xBl, ↓xB, ↓xChain, ↓xAnd, ↓xOr, ↓xNot, ↓xAndV, ↓xOrV, ↓xNotV, ↓xIf, ↓xNil, ↓xCons, ↓xTup, ↓xLst, ↓xLstO, ↓xOpt, ↓xAddI, ↓xAddT, ↓xAddL, ↓xSub, ↓xIAdd, ↓xFdiv, ↓xMod, ↓xPow, ↓xMul, ↓xLt, ↓xLe, ↓xGt, ↓xGe, ↓xEqI, ↓xNeI, ↓xEqB, ↓xNeB, ↓xIsBB, ↓xIsNN, ↓xIsTN, ↓xIsLN, ↓xIsIN, ↓xIsSN, ↓xIsRN, ↓xNoBB, ↓xNoNN, ↓xNoTN, ↓xNoLN, ↓xNoIN, ↓xNoSN, ↓xNoRN, ↓xInT, ↓xIx, ↓xIxT, ↓xIxL, ↓at0, ↓at1, ↓at2, ↓at3, ↓at4, ↓at5, ↓xSl, ↓xNo, ↓xInt, ↓xPart, ↓xCutT, ↓xCutL, ↓xCB, ↓xLenT, ↓xLenL, ↓xIntI, ↓xTupT, ↓xTupL, ↓xLstT, ↓xLstL, ↓xIsiT, ↓xIsiI, ↓xIsiB, ↓xIsiS, ↓xMax2, ↓xMin2, ↓xSum, ↓xAll, ↓xApp, ↓xFld, ↓xFldS, ↓xGFd, ↓xCall, ↓xMeth, ↓xProp, ↓xNeg, ↓xNegI, if_true, if_false, Bool.false_eq_true, Bool.true_eq_false, reduceIte, Bool.not_true, Bool.not_false, decide_eq_true_eq, Bool.not_eq_true', decide_eq_false_iff_not, not_true_eq_false, not_false_eq_true, and_true, true_and, true_implies, List.length_cons, List.length_nil, Nat.zero_le, decide_true, decide_false, decide_not, ↓suIx0, ↓suIx1, ↓suIx2, ↓suIx3, ↓rwIx0, ↓rwIx1, ↓rwIx2, ↓rwIx3, ↓rwIx4, ↓rwIx5, ↓rwNo, ↓ddG, ↓ddS, ↓ddP, ↓ddGo, ↓liN, ↓liNe, ↓x_can_be_done]
          split <;> exact no (by simp [h3]) _ _
      · simp only [h1, h2, ↓xSeq, ↓xNx, ↓xRt, ↓xBk, ↓xCt, ↓xEndNx, ↓xEndRt, ↓xNext, ↓xBreak, ↓xCont, ↓xDrop, ↓xRet, ↓xRetN, ↓xNever, ↓xIfS, ↓xPut0, ↓xPutS, ↓xSet, ↓xAug, ↓xAsg, ↓xUn2, ↓xUn1, ↓xPar, ↓xNm, ↓xNl, ↓xCn, ↓xSq, ↓xSqL, ↓xV0, ↓xVS, ↓xC, ↓xFrz, ↓xFrz1, ↓xOp, ↓xBl, ↓xB, ↓xChain, ↓xAnd, ↓xOr, ↓xNot, ↓xAndV, ↓xOrV, ↓xNotV, ↓xIf, ↓xNil, ↓xCons, ↓xTup, ↓xLst, ↓xLstO, ↓xOpt, ↓xAddI, ↓xAddT, ↓xAddL, ↓xSub, ↓xIAdd, ↓xFdiv, ↓xMod, ↓xPow, ↓xMul, ↓xLt, ↓xLe, ↓xGt, ↓xGe, ↓xEqI, ↓xNeI, ↓xEqB, ↓xNeB, ↓xIsBB, ↓xIsNN, ↓xIsTN, ↓xIsLN, ↓xIsIN, ↓xIsSN, ↓xIsRN, ↓xNoBB, ↓xNoNN, ↓xNoTN, ↓xNoLN, ↓xNoIN, ↓xNoSN, ↓xNoRN, ↓xInT, ↓xIx, ↓xIxT, ↓xIxL, ↓at0, ↓at1, ↓at2, ↓at3, ↓at4, ↓at5, ↓xSl, ↓xNo, ↓xInt, ↓xPart, ↓xCutT, ↓xCutL, ↓xCB, ↓xLenT, ↓xLenL, ↓xIntI, ↓xTupT, ↓xTupL, ↓xLstT, ↓xLstL, ↓xIsiT, ↓xIsiI, ↓xIsiB, ↓xIsiS, ↓xMax2, ↓xMin2, ↓xSum, ↓xAll, ↓xApp, ↓xFld, ↓xFldS, ↓xGFd, ↓xCall, ↓xMeth, ↓xProp, ↓xNeg, ↓xNegI, if_true, if_false, Bool.false_eq_true, Bool.true_eq_false, reduceIte, Bool.not_true, Bool.not_false, decide_eq_true_eq, Bool.not_eq_true', decide_eq_false_iff_not, not_true_eq_false, not_false_eq_true, and_true, true_and, true_implies, List.length_cons, List.length_nil, Nat.zero_le, decide_true, decide_false, decide_not, ↓suIx0, ↓suIx1, ↓suIx2, ↓suIx3, ↓rwIx0, ↓rwIx1, ↓rwIx2, ↓rwIx3, ↓rwIx4, ↓rwIx5, ↓rwNo, ↓ddG, ↓ddS, ↓ddP, ↓ddGo, ↓liN, ↓liNe, ↓x_can_be_done]
        split <;> exact no (by simp [h2]) _ _
    · simp only [h1, ↓xSeq, ↓xNx, ↓xRt, ↓xBk, ↓xCt, ↓xEndNx, ↓xEndRt, ↓xNext, ↓xBreak, ↓xCont, ↓xDrop, ↓xRet, ↓xRetN, ↓xNever, ↓xIfS, ↓xPut0, ↓xPutS, ↓xSet, ↓xAug, ↓xAsg, ↓xUn2, ↓xUn1, ↓xPar, ↓xNm, ↓xNl, ↓xCn, ↓xSq, ↓xSqL, ↓xV0, ↓xVS, ↓xC, ↓xFrz, ↓xFrz1, ↓xOp, ↓xBl, ↓xB, ↓xChain, ↓xAnd, ↓xOr, ↓xNot, ↓xAndV, ↓xOrV, ↓xNotV, ↓xIf, ↓xNil, ↓xCons, ↓xTup, ↓xLst, ↓xLstO, ↓xOpt, ↓xAddI, ↓xAddT, ↓xAddL, ↓xSub, ↓xIAdd, ↓xFdiv, ↓xMod, ↓xPow, ↓xMul, ↓xLt, ↓xLe, ↓xGt, ↓xGe, ↓xEqI, ↓xNeI, ↓xEqB, ↓xNeB, ↓xIsBB, ↓xIsNN, ↓xIsTN, ↓xIsLN, ↓xIsIN, ↓xIsSN, ↓xIsRN, ↓xNoBB, ↓xNoNN, ↓xNoTN, ↓xNoLN, ↓xNoIN, ↓xNoSN, ↓xNoRN, ↓xInT, ↓xIx, ↓xIxT, ↓xIxL, ↓at0, ↓at1, ↓at2, ↓at3, ↓at4, ↓at5, ↓xSl, ↓xNo, ↓xInt, ↓xPart, ↓xCutT, ↓xCutL, ↓xCB, ↓xLenT, ↓xLenL, ↓xIntI, ↓xTupT, ↓xTupL, ↓xLstT, ↓xLstL, ↓xIsiT, ↓xIsiI, ↓xIsiB, ↓xIsiS, ↓xMax2, ↓xMin2, ↓xSum, ↓xAll, ↓xApp, ↓xFld, ↓xFldS, ↓xGFd, ↓xCall, ↓xMeth, ↓xProp, ↓xNeg, ↓xNegI, if_true, if_false, Bool.false_eq_true, Bool.true_eq_false, reduceIte, Bool.not_true, Bool.not_false, decide_eq_true_eq, Bool.not_eq_true', decide_eq_false_iff_not, not_true_eq_false, not_false_eq_true, and_true, true_and, true_implies, List.length_cons, List.length_nil, Nat.zero_le, decide_true, decide_false, decide_not, ↓suIx0, ↓suIx1, ↓suIx2, ↓suIx3, ↓rwIx0, ↓rwIx1, ↓rwIx2, ↓rwIx3, ↓rwIx4, ↓rwIx5, ↓rwNo, ↓ddG, ↓ddS, ↓ddP, ↓ddGo, ↓liN, ↓liNe, ↓x_can_be_done]
      split <;> exact no (by simp [h1]) _ _
  · subst hM hρ
    simp only [↓xSeq, ↓xNx, ↓xRt, ↓xBk, ↓xCt, ↓xEndNx, ↓xEndRt, ↓xNext, ↓xBreak, ↓xCont, ↓xDrop, ↓xRet, ↓xRetN, ↓xNever, ↓xIfS, ↓xPut0, ↓xPutS, ↓xSet, ↓xAug, ↓xAsg, ↓xUn2, ↓xUn1, ↓xPar, ↓xNm, ↓xNl, ↓xCn, ↓xSq, ↓xSqL, ↓xV0, ↓xVS, ↓xC, ↓xFrz, ↓xFrz1, ↓xOp, ↓xBl, ↓xB, ↓xChain, ↓xAnd, ↓xOr, ↓xNot, ↓xAndV, ↓xOrV, ↓xNotV, ↓xIf, ↓xNil, ↓xCons, ↓xTup, ↓xLst, ↓xLstO, ↓xOpt, ↓xAddI, ↓xAddT, ↓xAddL, ↓xSub, ↓xIAdd, ↓xFdiv, ↓xMod, ↓xPow, ↓xMul, ↓xLt, ↓xLe, ↓xGt, ↓xGe, ↓xEqI, ↓xNeI, ↓xEqB, ↓xNeB, ↓xIsBB, ↓xIsNN, ↓xIsTN, ↓xIsLN, ↓xIsIN, ↓xIsSN, ↓xIsRN, ↓xNoBB, ↓xNoNN, ↓xNoTN, ↓xNoLN, ↓xNoIN, ↓xNoSN, ↓xNoRN, ↓xInT, ↓xIx, ↓xIxT, ↓xIxL, ↓at0, ↓at1, ↓at2, ↓at3, ↓at4, ↓at5, ↓xSl, ↓xNo, ↓xInt, ↓xPart, ↓xCutT, ↓xCutL, ↓xCB, ↓xLenT, ↓xLenL, ↓xIntI, ↓xTupT, ↓xTupL, ↓xLstT, ↓xLstL, ↓xIsiT, ↓xIsiI, ↓xIsiB, ↓xIsiS, ↓xMax2, ↓xMin2, ↓xSum, ↓xAll, ↓xApp, ↓xFld, ↓xFldS, ↓xGFd, ↓xCall, ↓xMeth, ↓xProp, ↓xNeg, ↓xNegI, if_true, if_false, Bool.false_eq_true, Bool.true_eq_false, reduceIte, Bool.not_true, Bool.not_false, decide_eq_true_eq, Bool.not_eq_true', decide_eq_false_iff_not, not_true_eq_false, not_false_eq_true, and_true, true_and, true_implies, List.length_cons, List.length_nil, Nat.zero_le, decide_true, decide_false, decide_not, ↓suIx0, ↓suIx1, ↓suIx2, ↓suIx3, ↓rwIx0, ↓rwIx1, ↓rwIx2, ↓rwIx3, ↓rwIx4, ↓rwIx5, ↓rwNo, ↓ddG, ↓ddS, ↓ddP, ↓ddGo, ↓liN, ↓liNe]
    have : fit r m l s k = none := List.find?_eq_none.mpr (by simpa using hn)
    rw [this] at q
    exact ⟨M', Sub.refl, q⟩

def S_seated : DSp := fun ds M Q _ => ∃ (d : Dd) (l : List Int) (s k : Int), ds = [.str d.s, tI l, .int s, .int k] ∧ (l.length ≤ 1000 ∧ (d = .single ∨ l ≠ [])) ∧ Q (.tup [ddD (seat d l s k).deed, tI (seat d l s k).line, .int (seat d l s k).singles, .int (seat d l s k).left]) M
theorem x_seated {d : Dd} {l : List Int} {s k : Int} {M : Mp} {Q : DK} {dx : DX} : S_seated [.str d.s, tI l, .int s, .int k] M Q dx = ((l.length ≤ 1000 ∧ (d = .single ∨ l ≠ [])) ∧ Q (.tup [ddD (seat d l s k).deed, tI (seat d l s k).line, .int (seat d l s k).singles, .int (seat d l s k).left]) M) :=
  propext ⟨fun ⟨_, _, _, _, e, h⟩ => by simp only [List.cons.injEq, D.tup.injEq, D.str.injEq, Dd.inj, D.int.injEq, ints_inj, and_true] at e; obtain ⟨rfl, rfl, rfl, rfl⟩ := e; exact h, fun h => ⟨_, _, _, _, rfl, h⟩⟩
theorem le3 : (0 + 1 + 1 + 1 + 1 ≤ sizeLine) := by decide
theorem le5 : (0 + 1 + 1 + 1 + 1 + 1 ≤ sizeLine) := by decide
theorem le6 : (0 + 1 + 1 + 1 + 1 + 1 + 1 ≤ sizeLine) := by decide
theorem le2 : (0 + 1 + 1 ≤ sizeLine) := by decide
theorem leT : (0 + 1 + 1 + 1 ≤ sizeLine) := by decide
theorem le1 : (0 + 1 ≤ sizeLine) := by decide
theorem b_seated {ds M Q dx} (h : S_seated ds M Q dx) : d_seated (endD Q) (startD ["deed", "line", "singles", "left"] ds) M := by
  obtain ⟨d, l, s, k, rfl, ⟨hl, hd⟩, q⟩ := h
  show d_seated (endD Q) [some (.str d.s), some (tI l), some (.int s), some (.int k)] M
  unfold d_seated
  cases d with
  | single => simp only [↓xSeq, ↓xNx, ↓xRt, ↓xBk, ↓xCt, ↓xEndNx, ↓xEndRt, ↓xNext, ↓xBreak, ↓xCont, ↓xDrop, ↓xRet, ↓xRetN, ↓xNever, ↓xIfS, ↓xPut0, ↓xPutS, ↓xSet, ↓xAug, ↓xAsg, ↓xUn2, ↓xUn1, ↓xPar, ↓xNm, ↓xNl, ↓xCn, ↓xSq, ↓xSqL, ↓xV0, ↓xVS, ↓xC, ↓xFrz, ↓xFrz1, ↓xOp, ↓xBl, ↓xB, ↓xChain, ↓xAnd, ↓xOr, ↓xNot, ↓xAndV, ↓xOrV, ↓xNotV, ↓xIf, ↓xNil, ↓xCons, ↓xTup, ↓xLst, ↓xLstO, ↓xOpt, ↓xAddI, ↓xAddT, ↓xAddL, ↓xSub, ↓xIAdd, ↓xFdiv, ↓xMod, ↓xPow, ↓xMul, ↓xLt, ↓xLe, ↓xGt, ↓xGe, ↓xEqI, ↓xNeI, ↓xEqB, ↓xNeB, ↓xIsBB, ↓xIsNN, ↓xIsTN, ↓xIsLN, ↓xIsIN, ↓xIsSN, ↓xIsRN, ↓xNoBB, ↓xNoNN, ↓xNoTN, ↓xNoLN, ↓xNoIN, ↓xNoSN, ↓xNoRN, ↓xInT, ↓xIx, ↓xIxT, ↓xIxL, ↓at0, ↓at1, ↓at2, ↓at3, ↓at4, ↓at5, ↓xSl, ↓xNo, ↓xInt, ↓xPart, ↓xCutT, ↓xCutL, ↓xCB, ↓xLenT, ↓xLenL, ↓xIntI, ↓xTupT, ↓xTupL, ↓xLstT, ↓xLstL, ↓xIsiT, ↓xIsiI, ↓xIsiB, ↓xIsiS, ↓xMax2, ↓xMin2, ↓xSum, ↓xAll, ↓xApp, ↓xFld, ↓xFldS, ↓xGFd, ↓xCall, ↓xMeth, ↓xProp, ↓xNeg, ↓xNegI, if_true, if_false, Bool.false_eq_true, Bool.true_eq_false, reduceIte, Bool.not_true, Bool.not_false, decide_eq_true_eq, Bool.not_eq_true', decide_eq_false_iff_not, not_true_eq_false, not_false_eq_true, and_true, true_and, true_implies, List.length_cons, List.length_nil, Nat.zero_le, decide_true, decide_false, decide_not, ↓suIx0, ↓suIx1, ↓suIx2, ↓suIx3, ↓rwIx0, ↓rwIx1, ↓rwIx2, ↓rwIx3, ↓rwIx4, ↓rwIx5, ↓rwNo, ↓ddG, ↓ddS, ↓ddP, ↓ddGo, ↓liN, ↓liNe, reduceCtorEq, le2, le3]; exact fin q
  | group =>
    cases l with
    | nil => rcases hd with h | h; cases h; exact absurd rfl h
    | cons x l => simp only [↓xSeq, ↓xNx, ↓xRt, ↓xBk, ↓xCt, ↓xEndNx, ↓xEndRt, ↓xNext, ↓xBreak, ↓xCont, ↓xDrop, ↓xRet, ↓xRetN, ↓xNever, ↓xIfS, ↓xPut0, ↓xPutS, ↓xSet, ↓xAug, ↓xAsg, ↓xUn2, ↓xUn1, ↓xPar, ↓xNm, ↓xNl, ↓xCn, ↓xSq, ↓xSqL, ↓xV0, ↓xVS, ↓xC, ↓xFrz, ↓xFrz1, ↓xOp, ↓xBl, ↓xB, ↓xChain, ↓xAnd, ↓xOr, ↓xNot, ↓xAndV, ↓xOrV, ↓xNotV, ↓xIf, ↓xNil, ↓xCons, ↓xTup, ↓xLst, ↓xLstO, ↓xOpt, ↓xAddI, ↓xAddT, ↓xAddL, ↓xSub, ↓xIAdd, ↓xFdiv, ↓xMod, ↓xPow, ↓xMul, ↓xLt, ↓xLe, ↓xGt, ↓xGe, ↓xEqI, ↓xNeI, ↓xEqB, ↓xNeB, ↓xIsBB, ↓xIsNN, ↓xIsTN, ↓xIsLN, ↓xIsIN, ↓xIsSN, ↓xIsRN, ↓xNoBB, ↓xNoNN, ↓xNoTN, ↓xNoLN, ↓xNoIN, ↓xNoSN, ↓xNoRN, ↓xInT, ↓xIx, ↓xIxT, ↓xIxL, ↓at0, ↓at1, ↓at2, ↓at3, ↓at4, ↓at5, ↓xSl, ↓xNo, ↓xInt, ↓xPart, ↓xCutT, ↓xCutL, ↓xCB, ↓xLenT, ↓xLenL, ↓xIntI, ↓xTupT, ↓xTupL, ↓xLstT, ↓xLstL, ↓xIsiT, ↓xIsiI, ↓xIsiB, ↓xIsiS, ↓xMax2, ↓xMin2, ↓xSum, ↓xAll, ↓xApp, ↓xFld, ↓xFldS, ↓xGFd, ↓xCall, ↓xMeth, ↓xProp, ↓xNeg, ↓xNegI, if_true, if_false, Bool.false_eq_true, Bool.true_eq_false, reduceIte, Bool.not_true, Bool.not_false, decide_eq_true_eq, Bool.not_eq_true', decide_eq_false_iff_not, not_true_eq_false, not_false_eq_true, and_true, true_and, true_implies, List.length_cons, List.length_nil, Nat.zero_le, decide_true, decide_false, decide_not, ↓suIx0, ↓suIx1, ↓suIx2, ↓suIx3, ↓rwIx0, ↓rwIx1, ↓rwIx2, ↓rwIx3, ↓rwIx4, ↓rwIx5, ↓rwNo, ↓ddG, ↓ddS, ↓ddP, ↓ddGo, ↓liN, ↓liNe, reduceCtorEq, le2, le3, List.map_cons, cut1]; exact fin q
  | part =>
    cases l with
    | nil => rcases hd with h | h; cases h; exact absurd rfl h
    | cons x l =>
      simp only [↓xSeq, ↓xNx, ↓xRt, ↓xBk, ↓xCt, ↓xEndNx, ↓xEndRt, ↓xNext, ↓xBreak, ↓xCont, ↓xDrop, ↓xRet, ↓xRetN, ↓xNever, ↓xIfS, ↓xPut0, ↓xPutS, ↓xSet, ↓xAug, ↓xAsg, ↓xUn2, ↓xUn1, ↓xPar, ↓xNm, ↓xNl, ↓xCn, ↓xSq, ↓xSqL, ↓xV0, ↓xVS, ↓xC, ↓xFrz, ↓xFrz1, ↓xOp, ↓xBl, ↓xB, ↓xChain, ↓xAnd, ↓xOr, ↓xNot, ↓xAndV, ↓xOrV, ↓xNotV, ↓xIf, ↓xNil, ↓xCons, ↓xTup, ↓xLst, ↓xLstO, ↓xOpt, ↓xAddI, ↓xAddT, ↓xAddL, ↓xSub, ↓xIAdd, ↓xFdiv, ↓xMod, ↓xPow, ↓xMul, ↓xLt, ↓xLe, ↓xGt, ↓xGe, ↓xEqI, ↓xNeI, ↓xEqB, ↓xNeB, ↓xIsBB, ↓xIsNN, ↓xIsTN, ↓xIsLN, ↓xIsIN, ↓xIsSN, ↓xIsRN, ↓xNoBB, ↓xNoNN, ↓xNoTN, ↓xNoLN, ↓xNoIN, ↓xNoSN, ↓xNoRN, ↓xInT, ↓xIx, ↓xIxT, ↓xIxL, ↓at0, ↓at1, ↓at2, ↓at3, ↓at4, ↓at5, ↓xSl, ↓xNo, ↓xInt, ↓xPart, ↓xCutT, ↓xCutL, ↓xCB, ↓xLenT, ↓xLenL, ↓xIntI, ↓xTupT, ↓xTupL, ↓xLstT, ↓xLstL, ↓xIsiT, ↓xIsiI, ↓xIsiB, ↓xIsiS, ↓xMax2, ↓xMin2, ↓xSum, ↓xAll, ↓xApp, ↓xFld, ↓xFldS, ↓xGFd, ↓xCall, ↓xMeth, ↓xProp, ↓xNeg, ↓xNegI, if_true, if_false, Bool.false_eq_true, Bool.true_eq_false, reduceIte, Bool.not_true, Bool.not_false, decide_eq_true_eq, Bool.not_eq_true', decide_eq_false_iff_not, not_true_eq_false, not_false_eq_true, and_true, true_and, true_implies, List.length_cons, List.length_nil, Nat.zero_le, decide_true, decide_false, decide_not, ↓suIx0, ↓suIx1, ↓suIx2, ↓suIx3, ↓rwIx0, ↓rwIx1, ↓rwIx2, ↓rwIx3, ↓rwIx4, ↓rwIx5, ↓rwNo, ↓ddG, ↓ddS, ↓ddP, ↓ddGo, ↓liN, ↓liNe, reduceCtorEq, le1, le2, le3, List.map_cons, cut1, List.length_append, List.length_map]
      exact ⟨line_le (by simp only [List.length_cons] at hl; omega), fin q⟩
  | go =>
    cases l with
    | nil => rcases hd with h | h; cases h; exact absurd rfl h
    | cons x l =>
      simp only [↓xSeq, ↓xNx, ↓xRt, ↓xBk, ↓xCt, ↓xEndNx, ↓xEndRt, ↓xNext, ↓xBreak, ↓xCont, ↓xDrop, ↓xRet, ↓xRetN, ↓xNever, ↓xIfS, ↓xPut0, ↓xPutS, ↓xSet, ↓xAug, ↓xAsg, ↓xUn2, ↓xUn1, ↓xPar, ↓xNm, ↓xNl, ↓xCn, ↓xSq, ↓xSqL, ↓xV0, ↓xVS, ↓xC, ↓xFrz, ↓xFrz1, ↓xOp, ↓xBl, ↓xB, ↓xChain, ↓xAnd, ↓xOr, ↓xNot, ↓xAndV, ↓xOrV, ↓xNotV, ↓xIf, ↓xNil, ↓xCons, ↓xTup, ↓xLst, ↓xLstO, ↓xOpt, ↓xAddI, ↓xAddT, ↓xAddL, ↓xSub, ↓xIAdd, ↓xFdiv, ↓xMod, ↓xPow, ↓xMul, ↓xLt, ↓xLe, ↓xGt, ↓xGe, ↓xEqI, ↓xNeI, ↓xEqB, ↓xNeB, ↓xIsBB, ↓xIsNN, ↓xIsTN, ↓xIsLN, ↓xIsIN, ↓xIsSN, ↓xIsRN, ↓xNoBB, ↓xNoNN, ↓xNoTN, ↓xNoLN, ↓xNoIN, ↓xNoSN, ↓xNoRN, ↓xInT, ↓xIx, ↓xIxT, ↓xIxL, ↓at0, ↓at1, ↓at2, ↓at3, ↓at4, ↓at5, ↓xSl, ↓xNo, ↓xInt, ↓xPart, ↓xCutT, ↓xCutL, ↓xCB, ↓xLenT, ↓xLenL, ↓xIntI, ↓xTupT, ↓xTupL, ↓xLstT, ↓xLstL, ↓xIsiT, ↓xIsiI, ↓xIsiB, ↓xIsiS, ↓xMax2, ↓xMin2, ↓xSum, ↓xAll, ↓xApp, ↓xFld, ↓xFldS, ↓xGFd, ↓xCall, ↓xMeth, ↓xProp, ↓xNeg, ↓xNegI, if_true, if_false, Bool.false_eq_true, Bool.true_eq_false, reduceIte, Bool.not_true, Bool.not_false, decide_eq_true_eq, Bool.not_eq_true', decide_eq_false_iff_not, not_true_eq_false, not_false_eq_true, and_true, true_and, true_implies, List.length_cons, List.length_nil, Nat.zero_le, decide_true, decide_false, decide_not, ↓suIx0, ↓suIx1, ↓suIx2, ↓suIx3, ↓rwIx0, ↓rwIx1, ↓rwIx2, ↓rwIx3, ↓rwIx4, ↓rwIx5, ↓rwNo, ↓ddG, ↓ddS, ↓ddP, ↓ddGo, ↓liN, ↓liNe, reduceCtorEq, le1, le2, le3, List.map_cons, cut1, List.length_append, List.length_map]
      exact ⟨line_le (by simp only [List.length_cons] at hl; omega), fin q⟩
def FS.d (f : FS) : D := .tup [.tup (f.deeds.map ddD), .int f.left, tI f.line, .int f.singles, .int f.mood]
def S_fill : DSp := fun ds M Q _ => ∃ (r : List Rw) (l : List Int) (s k m : Int), ds = [rl r, tI l, .int s, .int k, .int m] ∧ (l.length ≤ 900 ∧ k ≤ 90) ∧ Q (fill r l s k m).d M
theorem x_fill {r : List Rw} {l : List Int} {s k m : Int} {M : Mp} {Q : DK} {dx : DX} : S_fill [rl r, tI l, .int s, .int k, .int m] M Q dx = ((l.length ≤ 900 ∧ k ≤ 90) ∧ Q (fill r l s k m).d M) :=
  propext ⟨fun ⟨_, _, _, _, _, e, h⟩ => by simp only [List.cons.injEq, D.tup.injEq, D.int.injEq, ints_inj, rl_inj, and_true] at e; obtain ⟨rfl, rfl, rfl, rfl, rfl⟩ := e; exact h, fun h => ⟨_, _, _, _, _, rfl, h⟩⟩
structure FillW (r : List Rw) (M : Mp) (p : Addr) (out : FS) (n : Nat) (ρ : Rh) (M' : Mp) : Prop where
  ex : ∃ (s : FS) (k : D) (c : Option D), ρ = [some (rl r), some (tI s.line), some (.int s.singles), some k, some (.int s.mood), some (.int s.left), some (.ref p), some (optR (s.fit r)), c] ∧
    M' = upm M p (.lst (s.deeds.map ddD)) ∧ fillN r n s = out ∧ s.left.toNat ≤ n ∧ s.line.length ≤ 900 ∧ s.deeds.length + n ≤ 100
theorem deeds_map {s : List (Dd × Int)} {d : Dd × Int} : s.map ddD ++ [ddD d] = (s ++ [d]).map ddD := by rw [List.map_append]; rfl
theorem can_line {d : Dd} {l : List Int} {a s : Int} (h : can d (frontI l) a s = true) (hg : d ≠ .go) : d = .single ∨ l ≠ [] := by
  cases d with
  | single => exact .inl rfl
  | go => exact absurd rfl hg
  | group =>
    right; intro e; subst e
    have h : (decide ((0 : Int) < 0) && decide (0 ≤ a)) = true := h
    rw [Bool.and_eq_true, decide_eq_true_eq, decide_eq_true_eq] at h
    exact absurd h.1 (Int.lt_irrefl 0)
  | part =>
    right; intro e; subst e
    have h : (decide (a < 0) && decide (0 < a)) = true := h
    rw [Bool.and_eq_true, decide_eq_true_eq, decide_eq_true_eq] at h
    exact absurd h.1 (Int.not_lt.mpr (Int.le_of_lt h.2))
theorem b_fill {ds M Q dx} (h : S_fill ds M Q dx) : d_fill S_fitting_row S_seated (endD Q) (startD ["rule", "line", "singles", "seats", "mood", "left", "deeds", "row", "deed"] ds) M := by
  obtain ⟨r, l, s, k, m, rfl, ⟨hl, hk⟩, q⟩ := h
  show d_fill _ _ (endD Q) [some (rl r), some (tI l), some (.int s), some (.int k), some (.int m), none, none, none, none] M
  unfold d_fill
  simp only [↓xSeq, ↓xNx, ↓xRt, ↓xBk, ↓xCt, ↓xEndNx, ↓xEndRt, ↓xNext, ↓xBreak, ↓xCont, ↓xDrop, ↓xRet, ↓xRetN, ↓xNever, ↓xIfS, ↓xPut0, ↓xPutS, ↓xSet, ↓xAug, ↓xAsg, ↓xUn2, ↓xUn1, ↓xPar, ↓xNm, ↓xNl, ↓xCn, ↓xSq, ↓xSqL, ↓xV0, ↓xVS, ↓xC, ↓xFrz, ↓xFrz1, ↓xOp, ↓xBl, ↓xB, ↓xChain, ↓xAnd, ↓xOr, ↓xNot, ↓xAndV, ↓xOrV, ↓xNotV, ↓xIf, ↓xNil, ↓xCons, ↓xTup, ↓xLst, ↓xLstO, ↓xOpt, ↓xAddI, ↓xAddT, ↓xAddL, ↓xSub, ↓xIAdd, ↓xFdiv, ↓xMod, ↓xPow, ↓xMul, ↓xLt, ↓xLe, ↓xGt, ↓xGe, ↓xEqI, ↓xNeI, ↓xEqB, ↓xNeB, ↓xIsBB, ↓xIsNN, ↓xIsTN, ↓xIsLN, ↓xIsIN, ↓xIsSN, ↓xIsRN, ↓xNoBB, ↓xNoNN, ↓xNoTN, ↓xNoLN, ↓xNoIN, ↓xNoSN, ↓xNoRN, ↓xInT, ↓xIx, ↓xIxT, ↓xIxL, ↓at0, ↓at1, ↓at2, ↓at3, ↓at4, ↓at5, ↓xSl, ↓xNo, ↓xInt, ↓xPart, ↓xCutT, ↓xCutL, ↓xCB, ↓xLenT, ↓xLenL, ↓xIntI, ↓xTupT, ↓xTupL, ↓xLstT, ↓xLstL, ↓xIsiT, ↓xIsiI, ↓xIsiB, ↓xIsiS, ↓xMax2, ↓xMin2, ↓xSum, ↓xAll, ↓xApp, ↓xFld, ↓xFldS, ↓xGFd, ↓xCall, ↓xMeth, ↓xProp, ↓xNeg, ↓xNegI, if_true, if_false, Bool.false_eq_true, Bool.true_eq_false, reduceIte, Bool.not_true, Bool.not_false, decide_eq_true_eq, Bool.not_eq_true', decide_eq_false_iff_not, not_true_eq_false, not_false_eq_true, and_true, true_and, true_implies, List.length_cons, List.length_nil, Nat.zero_le, decide_true, decide_false, decide_not, ↓suIx0, ↓suIx1, ↓suIx2, ↓suIx3, ↓rwIx0, ↓rwIx1, ↓rwIx2, ↓rwIx3, ↓rwIx4, ↓rwIx5, ↓rwNo, ↓ddG, ↓ddS, ↓ddP, ↓ddGo, ↓liN, ↓liNe, ↓x_fitting_row]
  refine fun p hp => ⟨FillW r M p (fill r l s k m), ⟨k.toNat, ⟨⟨[], k, l, s, m⟩, .int k, none, rfl, rfl, rfl, Nat.le_refl _, hl, by simp only [List.length_nil]; omega⟩⟩, fun n ρ M' ⟨⟨f, kk, c, hρ, hM, ho, hn, hfl, hd⟩⟩ => ?_⟩
  subst hρ hM
  have done : ∀ (g : FS), g = fill r l s k m → g.deeds = f.deeds → ∃ M'', Sub M'' (upm M p (.lst (f.deeds.map ddD))) ∧ Q (.tup [.tup (f.deeds.map ddD), .int g.left, tI g.line, .int g.singles, .int g.mood]) M'' := fun g e1 e2 => by
    rw [← e2]
    refine ⟨M, sub_up hp, ?_⟩
    rw [← e1] at q
    exact q
  cases hf : f.fit r with
  | none =>
    have hout : f = fill r l s k m := by
      rw [← ho]; cases n <;> simp only [fillN, hf]
    simp only [↓xSeq, ↓xNx, ↓xRt, ↓xBk, ↓xCt, ↓xEndNx, ↓xEndRt, ↓xNext, ↓xBreak, ↓xCont, ↓xDrop, ↓xRet, ↓xRetN, ↓xNever, ↓xIfS, ↓xPut0, ↓xPutS, ↓xSet, ↓xAug, ↓xAsg, ↓xUn2, ↓xUn1, ↓xPar, ↓xNm, ↓xNl, ↓xCn, ↓xSq, ↓xSqL, ↓xV0, ↓xVS, ↓xC, ↓xFrz, ↓xFrz1, ↓xOp, ↓xBl, ↓xB, ↓xChain, ↓xAnd, ↓xOr, ↓xNot, ↓xAndV, ↓xOrV, ↓xNotV, ↓xIf, ↓xNil, ↓xCons, ↓xTup, ↓xLst, ↓xLstO, ↓xOpt, ↓xAddI, ↓xAddT, ↓xAddL, ↓xSub, ↓xIAdd, ↓xFdiv, ↓xMod, ↓xPow, ↓xMul, ↓xLt, ↓xLe, ↓xGt, ↓xGe, ↓xEqI, ↓xNeI, ↓xEqB, ↓xNeB, ↓xIsBB, ↓xIsNN, ↓xIsTN, ↓xIsLN, ↓xIsIN, ↓xIsSN, ↓xIsRN, ↓xNoBB, ↓xNoNN, ↓xNoTN, ↓xNoLN, ↓xNoIN, ↓xNoSN, ↓xNoRN, ↓xInT, ↓xIx, ↓xIxT, ↓xIxL, ↓at0, ↓at1, ↓at2, ↓at3, ↓at4, ↓at5, ↓xSl, ↓xNo, ↓xInt, ↓xPart, ↓xCutT, ↓xCutL, ↓xCB, ↓xLenT, ↓xLenL, ↓xIntI, ↓xTupT, ↓xTupL, ↓xLstT, ↓xLstL, ↓xIsiT, ↓xIsiI, ↓xIsiB, ↓xIsiS, ↓xMax2, ↓xMin2, ↓xSum, ↓xAll, ↓xApp, ↓xFld, ↓xFldS, ↓xGFd, ↓xCall, ↓xMeth, ↓xProp, ↓xNeg, ↓xNegI, if_true, if_false, Bool.false_eq_true, Bool.true_eq_false, reduceIte, Bool.not_true, Bool.not_false, decide_eq_true_eq, Bool.not_eq_true', decide_eq_false_iff_not, not_true_eq_false, not_false_eq_true, and_true, true_and, true_implies, List.length_cons, List.length_nil, Nat.zero_le, decide_true, decide_false, decide_not, ↓suIx0, ↓suIx1, ↓suIx2, ↓suIx3, ↓rwIx0, ↓rwIx1, ↓rwIx2, ↓rwIx3, ↓rwIx4, ↓rwIx5, ↓rwNo, ↓ddG, ↓ddS, ↓ddP, ↓ddGo, ↓liN, ↓liNe, optR, ↓xTupR upm_same, le5]
    exact done f hout rfl
  | some x =>
    by_cases hg : x.deed = .go
    · have hout : ({ f with mood := x.aft } : FS) = fill r l s k m := by
        rw [← ho]; cases n <;> simp only [fillN, hf, hg, if_true]
      simp only [↓xSeq, ↓xNx, ↓xRt, ↓xBk, ↓xCt, ↓xEndNx, ↓xEndRt, ↓xNext, ↓xBreak, ↓xCont, ↓xDrop, ↓xRet, ↓xRetN, ↓xNever, ↓xIfS, ↓xPut0, ↓xPutS, ↓xSet, ↓xAug, ↓xAsg, ↓xUn2, ↓xUn1, ↓xPar, ↓xNm, ↓xNl, ↓xCn, ↓xSq, ↓xSqL, ↓xV0, ↓xVS, ↓xC, ↓xFrz, ↓xFrz1, ↓xOp, ↓xBl, ↓xB, ↓xChain, ↓xAnd, ↓xOr, ↓xNot, ↓xAndV, ↓xOrV, ↓xNotV, ↓xIf, ↓xNil, ↓xCons, ↓xTup, ↓xLst, ↓xLstO, ↓xOpt, ↓xAddI, ↓xAddT, ↓xAddL, ↓xSub, ↓xIAdd, ↓xFdiv, ↓xMod, ↓xPow, ↓xMul, ↓xLt, ↓xLe, ↓xGt, ↓xGe, ↓xEqI, ↓xNeI, ↓xEqB, ↓xNeB, ↓xIsBB, ↓xIsNN, ↓xIsTN, ↓xIsLN, ↓xIsIN, ↓xIsSN, ↓xIsRN, ↓xNoBB, ↓xNoNN, ↓xNoTN, ↓xNoLN, ↓xNoIN, ↓xNoSN, ↓xNoRN, ↓xInT, ↓xIx, ↓xIxT, ↓xIxL, ↓at0, ↓at1, ↓at2, ↓at3, ↓at4, ↓at5, ↓xSl, ↓xNo, ↓xInt, ↓xPart, ↓xCutT, ↓xCutL, ↓xCB, ↓xLenT, ↓xLenL, ↓xIntI, ↓xTupT, ↓xTupL, ↓xLstT, ↓xLstL, ↓xIsiT, ↓xIsiI, ↓xIsiB, ↓xIsiS, ↓xMax2, ↓xMin2, ↓xSum, ↓xAll, ↓xApp, ↓xFld, ↓xFldS, ↓xGFd, ↓xCall, ↓xMeth, ↓xProp, ↓xNeg, ↓xNegI, if_true, if_false, Bool.false_eq_true, Bool.true_eq_false, reduceIte, Bool.not_true, Bool.not_false, decide_eq_true_eq, Bool.not_eq_true', decide_eq_false_iff_not, not_true_eq_false, not_false_eq_true, and_true, true_and, true_implies, List.length_cons, List.length_nil, Nat.zero_le, decide_true, decide_false, decide_not, ↓suIx0, ↓suIx1, ↓suIx2, ↓suIx3, ↓rwIx0, ↓rwIx1, ↓rwIx2, ↓rwIx3, ↓rwIx4, ↓rwIx5, ↓rwNo, ↓ddG, ↓ddS, ↓ddP, ↓ddGo, ↓liN, ↓liNe, optR, hg, ↓xTupR upm_same, le5]
      exact done { f with mood := x.aft } hout rfl
    · have hc := fit_can hf
      have hlt := next_left hf hg
      have hln := next_line hf hg
      cases n with
      | zero => omega
      | succ n =>
        have ho : fillN r n (f.next x) = fill r l s k m := by rw [← ho]; simp only [fillN, hf, hg, if_false]
        have h1 : f.line.length ≤ 1000 := by omega
        have h2 : (x.deed = .single ∨ f.line ≠ []) := can_line hc hg
        have h3 : f.deeds.length < sizeLine := Nat.lt_of_le_of_lt (by omega : f.deeds.length ≤ 100) (by decide)
        simp only [↓xSeq, ↓xNx, ↓xRt, ↓xBk, ↓xCt, ↓xEndNx, ↓xEndRt, ↓xNext, ↓xBreak, ↓xCont, ↓xDrop, ↓xRet, ↓xRetN, ↓xNever, ↓xIfS, ↓xPut0, ↓xPutS, ↓xSet, ↓xAug, ↓xAsg, ↓xUn2, ↓xUn1, ↓xPar, ↓xNm, ↓xNl, ↓xCn, ↓xSq, ↓xSqL, ↓xV0, ↓xVS, ↓xC, ↓xFrz, ↓xFrz1, ↓xOp, ↓xBl, ↓xB, ↓xChain, ↓xAnd, ↓xOr, ↓xNot, ↓xAndV, ↓xOrV, ↓xNotV, ↓xIf, ↓xNil, ↓xCons, ↓xTup, ↓xLst, ↓xLstO, ↓xOpt, ↓xAddI, ↓xAddT, ↓xAddL, ↓xSub, ↓xIAdd, ↓xFdiv, ↓xMod, ↓xPow, ↓xMul, ↓xLt, ↓xLe, ↓xGt, ↓xGe, ↓xEqI, ↓xNeI, ↓xEqB, ↓xNeB, ↓xIsBB, ↓xIsNN, ↓xIsTN, ↓xIsLN, ↓xIsIN, ↓xIsSN, ↓xIsRN, ↓xNoBB, ↓xNoNN, ↓xNoTN, ↓xNoLN, ↓xNoIN, ↓xNoSN, ↓xNoRN, ↓xInT, ↓xIx, ↓xIxT, ↓xIxL, ↓at0, ↓at1, ↓at2, ↓at3, ↓at4, ↓at5, ↓xSl, ↓xNo, ↓xInt, ↓xPart, ↓xCutT, ↓xCutL, ↓xCB, ↓xLenT, ↓xLenL, ↓xIntI, ↓xTupT, ↓xTupL, ↓xLstT, ↓xLstL, ↓xIsiT, ↓xIsiI, ↓xIsiB, ↓xIsiS, ↓xMax2, ↓xMin2, ↓xSum, ↓xAll, ↓xApp, ↓xFld, ↓xFldS, ↓xGFd, ↓xCall, ↓xMeth, ↓xProp, ↓xNeg, ↓xNegI, if_true, if_false, Bool.false_eq_true, Bool.true_eq_false, reduceIte, Bool.not_true, Bool.not_false, decide_eq_true_eq, Bool.not_eq_true', decide_eq_false_iff_not, not_true_eq_false, not_false_eq_true, and_true, true_and, true_implies, List.length_cons, List.length_nil, Nat.zero_le, decide_true, decide_false, decide_not, ↓suIx0, ↓suIx1, ↓suIx2, ↓suIx3, ↓rwIx0, ↓rwIx1, ↓rwIx2, ↓rwIx3, ↓rwIx4, ↓rwIx5, ↓rwNo, ↓ddG, ↓ddS, ↓ddP, ↓ddGo, ↓liN, ↓liNe, optR, hg, ↓x_fitting_row, ↓x_seated, List.length_map, ↓xAppA upm_same, ↓xAppB upm_same]
        refine ⟨⟨h1, h2⟩, h3, n, Nat.lt_succ_self n, ⟨f.next x, kk, some (ddD (seat x.deed f.line f.singles f.left).deed), rfl, ?_, ho, by omega, by omega, ?_⟩⟩
        · rw [upm_upm, deeds_map]; rfl
        · simp only [FS.next, List.length_append, List.length_cons, List.length_nil]; omega

/-! a beat -/
def Let.d (l : Let) : D := .tup [tI l.here, .int l.waiting, .tup [.int l.a0, .int l.a1]]
theorem cut_take (xs : List D) (k : Int) (h : 0 ≤ k) : cutD xs none (some k) = xs.take k.toNat := by
  obtain ⟨n, rfl⟩ := Int.eq_ofNat_of_zero_le h
  unfold cutD
  have e := HT.sIx_nat xs.length xs.length n
  rw [show HT.sIx xs.length xs.length (some (n : Int)) = min n xs.length from e, HT.sIx_none]
  simp
def S_let_in : DSp := fun ds M Q _ => ∃ (s : Su) (l : List Int) (k : Int) (c : Cm), ds = [s.d, tI l, .int k, c.d] ∧ (l.length ≤ 900 ∧ c.groups.length ≤ 900) ∧ Q (letIn s l k c).d M
theorem x_let_in {s : Su} {l : List Int} {k : Int} {c : Cm} {M : Mp} {Q : DK} {dx : DX} : S_let_in [s.d, tI l, .int k, c.d] M Q dx = ((l.length ≤ 900 ∧ c.groups.length ≤ 900) ∧ Q (letIn s l k c).d M) :=
  propext ⟨fun ⟨_, _, _, _, e, h⟩ => by simp only [List.cons.injEq, D.tup.injEq, D.int.injEq, ints_inj, Su.inj, Cm.inj, and_true] at e; obtain ⟨rfl, rfl, rfl, rfl⟩ := e; exact h, fun h => ⟨_, _, _, _, rfl, h⟩⟩
theorem b_let_in {ds M Q dx} (h : S_let_in ds M Q dx) : d_let_in (endD Q) (startD ["setup", "line", "singles", "comers", "groups", "more", "here", "waiting"] ds) M := by
  obtain ⟨s, l, k, c, rfl, ⟨hl, hc⟩, q⟩ := h
  show d_let_in (endD Q) [some s.d, some (tI l), some (.int k), some c.d, none, none, none, none] M
  unfold d_let_in
  unfold Cm.d
  have h1 : (0 : Int) ≤ max s.r0 (l.length : Int) := by omega
  have h2 : l.length + c.groups.length ≤ sizeLine := Nat.le_trans (by omega : l.length + c.groups.length ≤ 1800) (by decide)
  simp only [↓xSeq, ↓xNx, ↓xRt, ↓xBk, ↓xCt, ↓xEndNx, ↓xEndRt, ↓xNext, ↓xBreak, ↓xCont, ↓xDrop, ↓xRet, ↓xRetN, ↓xNever, ↓xIfS, ↓xPut0, ↓xPutS, ↓xSet, ↓xAug, ↓xAsg, ↓xUn2, ↓xUn1, ↓xPar, ↓xNm, ↓xNl, ↓xCn, ↓xSq, ↓xSqL, ↓xV0, ↓xVS, ↓xC, ↓xFrz, ↓xFrz1, ↓xOp, ↓xBl, ↓xB, ↓xChain, ↓xAnd, ↓xOr, ↓xNot, ↓xAndV, ↓xOrV, ↓xNotV, ↓xIf, ↓xNil, ↓xCons, ↓xTup, ↓xLst, ↓xLstO, ↓xOpt, ↓xAddI, ↓xAddT, ↓xAddL, ↓xSub, ↓xIAdd, ↓xFdiv, ↓xMod, ↓xPow, ↓xMul, ↓xLt, ↓xLe, ↓xGt, ↓xGe, ↓xEqI, ↓xNeI, ↓xEqB, ↓xNeB, ↓xIsBB, ↓xIsNN, ↓xIsTN, ↓xIsLN, ↓xIsIN, ↓xIsSN, ↓xIsRN, ↓xNoBB, ↓xNoNN, ↓xNoTN, ↓xNoLN, ↓xNoIN, ↓xNoSN, ↓xNoRN, ↓xInT, ↓xIx, ↓xIxT, ↓xIxL, ↓at0, ↓at1, ↓at2, ↓at3, ↓at4, ↓at5, ↓xSl, ↓xNo, ↓xInt, ↓xPart, ↓xCutT, ↓xCutL, ↓xCB, ↓xLenT, ↓xLenL, ↓xIntI, ↓xTupT, ↓xTupL, ↓xLstT, ↓xLstL, ↓xIsiT, ↓xIsiI, ↓xIsiB, ↓xIsiS, ↓xMax2, ↓xMin2, ↓xSum, ↓xAll, ↓xApp, ↓xFld, ↓xFldS, ↓xGFd, ↓xCall, ↓xMeth, ↓xProp, ↓xNeg, ↓xNegI, if_true, if_false, Bool.false_eq_true, Bool.true_eq_false, reduceIte, Bool.not_true, Bool.not_false, decide_eq_true_eq, Bool.not_eq_true', decide_eq_false_iff_not, not_true_eq_false, not_false_eq_true, and_true, true_and, true_implies, List.length_cons, List.length_nil, Nat.zero_le, decide_true, decide_false, decide_not, ↓suIx0, ↓suIx1, ↓suIx2, ↓suIx3, ↓rwIx0, ↓rwIx1, ↓rwIx2, ↓rwIx3, ↓rwIx4, ↓rwIx5, ↓rwNo, ↓ddG, ↓ddS, ↓ddP, ↓ddGo, ↓liN, ↓liNe, List.length_map, List.length_append, cut_take _ _ h1, h2, le2, leT]
  refine fin ?_
  have e : D.tup (List.take (max s.r0 (l.length : Int)).toNat (l.map D.int ++ c.groups.map D.int)) = tI (letIn s l k c).here := by
    show _ = D.tup (((l ++ c.groups).take (max s.r0 (l.length : Int)).toNat).map D.int)
    rw [List.map_take, List.map_append]
  have e2 : (List.take (max s.r0 (l.length : Int)).toNat (l.map D.int ++ c.groups.map D.int)).length = (letIn s l k c).here.length := by
    show _ = ((l ++ c.groups).take (max s.r0 (l.length : Int)).toNat).length
    rw [← List.map_append, ← List.map_take, List.length_map]
  rw [e, e2]
  exact q
def S_beat : DSp := fun ds M Q _ => ∃ (s : Su) (r : List Rw) (t : Stt) (c : Cm), ds = [s.d, rl r, t.d, c.d] ∧ (s.ok ∧ t.ok s ∧ c.groups.length ≤ 900) ∧ Q (.tup [(chair s r t c).d, (after s r t c).d]) M
theorem x_beat {s : Su} {r : List Rw} {t : Stt} {c : Cm} {M : Mp} {Q : DK} {dx : DX} : S_beat [s.d, rl r, t.d, c.d] M Q dx = ((s.ok ∧ t.ok s ∧ c.groups.length ≤ 900) ∧ Q (.tup [(chair s r t c).d, (after s r t c).d]) M) :=
  propext ⟨fun ⟨_, _, _, _, e, h⟩ => by simp only [List.cons.injEq, Stt.inj, rl_inj, Su.inj, Cm.inj, and_true] at e; obtain ⟨rfl, rfl, rfl, rfl⟩ := e; exact h, fun h => ⟨_, _, _, _, rfl, h⟩⟩
theorem b_beat {ds M Q dx} (h : S_beat ds M Q dx) : d_beat S_let_in S_fill (endD Q) (startD ["setup", "rule", "state", "comers", "turn", "line", "singles", "mood", "away", "deeds", "left", "lost"] ds) M := by
  obtain ⟨s, r, t, c, rfl, ⟨hs, ht, hc⟩, q⟩ := h
  show d_beat _ _ (endD Q) [some s.d, some (rl r), some t.d, some c.d, none, none, none, none, none, none, none, none] M
  unfold d_beat
  unfold Stt.d
  have h1 : t.line.length ≤ 900 := by have := ht.ln; omega
  have h2 : (letIn s t.line t.singles c).here.length ≤ 900 := by have := letIn_len s t.line t.singles c ht.ln hs.r2; omega
  have h3 : 0 < (s.seats.length : Int) := by have := hs.a1; omega
  obtain ⟨n, hn⟩ := Int.eq_ofNat_of_zero_le ht.t0
  have h4 : n < s.seats.length := by have := ht.t1; omega
  have h5 : s.seats[n]? = some s.seats[n] := List.getElem?_eq_getElem h4
  have h6 : (s.seats.map D.int)[n]? = some (.int s.seats[n]) := by rw [List.getElem?_map, h5]; rfl
  have h7 : s.seats[n] ≤ 90 := by have := (hs.a3 _ (List.getElem_mem h4)).2; omega
  have h8 : beatF s r t c = fill r (letIn s t.line t.singles c).here (letIn s t.line t.singles c).waiting s.seats[n] t.mood := by
    unfold beatF
    rw [hn, Int.toNat_natCast, h5]; rfl
  simp only [↓xSeq, ↓xNx, ↓xRt, ↓xBk, ↓xCt, ↓xEndNx, ↓xEndRt, ↓xNext, ↓xBreak, ↓xCont, ↓xDrop, ↓xRet, ↓xRetN, ↓xNever, ↓xIfS, ↓xPut0, ↓xPutS, ↓xSet, ↓xAug, ↓xAsg, ↓xUn2, ↓xUn1, ↓xPar, ↓xNm, ↓xNl, ↓xCn, ↓xSq, ↓xSqL, ↓xV0, ↓xVS, ↓xC, ↓xFrz, ↓xFrz1, ↓xOp, ↓xBl, ↓xB, ↓xChain, ↓xAnd, ↓xOr, ↓xNot, ↓xAndV, ↓xOrV, ↓xNotV, ↓xIf, ↓xNil, ↓xCons, ↓xTup, ↓xLst, ↓xLstO, ↓xOpt, ↓xAddI, ↓xAddT, ↓xAddL, ↓xSub, ↓xIAdd, ↓xFdiv, ↓xMod, ↓xPow, ↓xMul, ↓xLt, ↓xLe, ↓xGt, ↓xGe, ↓xEqI, ↓xNeI, ↓xEqB, ↓xNeB, ↓xIsBB, ↓xIsNN, ↓xIsTN, ↓xIsLN, ↓xIsIN, ↓xIsSN, ↓xIsRN, ↓xNoBB, ↓xNoNN, ↓xNoTN, ↓xNoLN, ↓xNoIN, ↓xNoSN, ↓xNoRN, ↓xInT, ↓xIx, ↓xIxT, ↓xIxL, ↓at0, ↓at1, ↓at2, ↓at3, ↓at4, ↓at5, ↓xSl, ↓xNo, ↓xInt, ↓xPart, ↓xCutT, ↓xCutL, ↓xCB, ↓xLenT, ↓xLenL, ↓xIntI, ↓xTupT, ↓xTupL, ↓xLstT, ↓xLstL, ↓xIsiT, ↓xIsiI, ↓xIsiB, ↓xIsiS, ↓xMax2, ↓xMin2, ↓xSum, ↓xAll, ↓xApp, ↓xFld, ↓xFldS, ↓xGFd, ↓xCall, ↓xMeth, ↓xProp, ↓xNeg, ↓xNegI, if_true, if_false, Bool.false_eq_true, Bool.true_eq_false, reduceIte, Bool.not_true, Bool.not_false, decide_eq_true_eq, Bool.not_eq_true', decide_eq_false_iff_not, not_true_eq_false, not_false_eq_true, and_true, true_and, true_implies, List.length_cons, List.length_nil, Nat.zero_le, decide_true, decide_false, decide_not, ↓suIx0, ↓suIx1, ↓suIx2, ↓suIx3, ↓rwIx0, ↓rwIx1, ↓rwIx2, ↓rwIx3, ↓rwIx4, ↓rwIx5, ↓rwNo, ↓ddG, ↓ddS, ↓ddP, ↓ddGo, ↓liN, ↓liNe, ↓x_let_in, Let.d, ↓x_fill, FS.d, h1, h2, hc, ↓atNat hn h6, h7, le2, le3, List.length_map, h3]
  rw [← h8]
  have q : ∃ M'', Sub M'' M ∧ Q (.tup [(chair s r t c).d, (after s r t c).d]) M'' := fin q
  unfold chair after at q
  by_cases g1 : (beatF s r t c).line = []
  · by_cases g2 : 0 < (beatF s r t c).singles
    · have e : lostF (beatF s r t c) = (beatF s r t c).left := if_pos (.inr g2)
      simp only [e] at q
      simp only [g1, g2, ↓xSeq, ↓xNx, ↓xRt, ↓xBk, ↓xCt, ↓xEndNx, ↓xEndRt, ↓xNext, ↓xBreak, ↓xCont, ↓xDrop, ↓xRet, ↓xRetN, ↓xNever, ↓xIfS, ↓xPut0, ↓xPutS, ↓xSet, ↓xAug, ↓xAsg, ↓xUn2, ↓xUn1, ↓xPar, ↓xNm, ↓xNl, ↓xCn, ↓xSq, ↓xSqL, ↓xV0, ↓xVS, ↓xC, ↓xFrz, ↓xFrz1, ↓xOp, ↓xBl, ↓xB, ↓xChain, ↓xAnd, ↓xOr, ↓xNot, ↓xAndV, ↓xOrV, ↓xNotV, ↓xIf, ↓xNil, ↓xCons, ↓xTup, ↓xLst, ↓xLstO, ↓xOpt, ↓xAddI, ↓xAddT, ↓xAddL, ↓xSub, ↓xIAdd, ↓xFdiv, ↓xMod, ↓xPow, ↓xMul, ↓xLt, ↓xLe, ↓xGt, ↓xGe, ↓xEqI, ↓xNeI, ↓xEqB, ↓xNeB, ↓xIsBB, ↓xIsNN, ↓xIsTN, ↓xIsLN, ↓xIsIN, ↓xIsSN, ↓xIsRN, ↓xNoBB, ↓xNoNN, ↓xNoTN, ↓xNoLN, ↓xNoIN, ↓xNoSN, ↓xNoRN, ↓xInT, ↓xIx, ↓xIxT, ↓xIxL, ↓at0, ↓at1, ↓at2, ↓at3, ↓at4, ↓at5, ↓xSl, ↓xNo, ↓xInt, ↓xPart, ↓xCutT, ↓xCutL, ↓xCB, ↓xLenT, ↓xLenL, ↓xIntI, ↓xTupT, ↓xTupL, ↓xLstT, ↓xLstL, ↓xIsiT, ↓xIsiI, ↓xIsiB, ↓xIsiS, ↓xMax2, ↓xMin2, ↓xSum, ↓xAll, ↓xApp, ↓xFld, ↓xFldS, ↓xGFd, ↓xCall, ↓xMeth, ↓xProp, ↓xNeg, ↓xNegI, if_true, if_false, Bool.false_eq_true, Bool.true_eq_false, reduceIte, Bool.not_true, Bool.not_false, decide_eq_true_eq, Bool.not_eq_true', decide_eq_false_iff_not, not_true_eq_false, not_false_eq_true, and_true, true_and, true_implies, List.length_cons, List.length_nil, Nat.zero_le, decide_true, decide_false, decide_not, ↓suIx0, ↓suIx1, ↓suIx2, ↓suIx3, ↓rwIx0, ↓rwIx1, ↓rwIx2, ↓rwIx3, ↓rwIx4, ↓rwIx5, ↓rwNo, ↓ddG, ↓ddS, ↓ddP, ↓ddGo, ↓liN, ↓liNe] at q ⊢; exact q
    · have e : lostF (beatF s r t c) = 0 := if_neg (by simp [g1, g2])
      simp only [e] at q
      simp only [g1, g2, ↓xSeq, ↓xNx, ↓xRt, ↓xBk, ↓xCt, ↓xEndNx, ↓xEndRt, ↓xNext, ↓xBreak, ↓xCont, ↓xDrop, ↓xRet, ↓xRetN, ↓xNever, ↓xIfS, ↓xPut0, ↓xPutS, ↓xSet, ↓xAug, ↓xAsg, ↓xUn2, ↓xUn1, ↓xPar, ↓xNm, ↓xNl, ↓xCn, ↓xSq, ↓xSqL, ↓xV0, ↓xVS, ↓xC, ↓xFrz, ↓xFrz1, ↓xOp, ↓xBl, ↓xB, ↓xChain, ↓xAnd, ↓xOr, ↓xNot, ↓xAndV, ↓xOrV, ↓xNotV, ↓xIf, ↓xNil, ↓xCons, ↓xTup, ↓xLst, ↓xLstO, ↓xOpt, ↓xAddI, ↓xAddT, ↓xAddL, ↓xSub, ↓xIAdd, ↓xFdiv, ↓xMod, ↓xPow, ↓xMul, ↓xLt, ↓xLe, ↓xGt, ↓xGe, ↓xEqI, ↓xNeI, ↓xEqB, ↓xNeB, ↓xIsBB, ↓xIsNN, ↓xIsTN, ↓xIsLN, ↓xIsIN, ↓xIsSN, ↓xIsRN, ↓xNoBB, ↓xNoNN, ↓xNoTN, ↓xNoLN, ↓xNoIN, ↓xNoSN, ↓xNoRN, ↓xInT, ↓xIx, ↓xIxT, ↓xIxL, ↓at0, ↓at1, ↓at2, ↓at3, ↓at4, ↓at5, ↓xSl, ↓xNo, ↓xInt, ↓xPart, ↓xCutT, ↓xCutL, ↓xCB, ↓xLenT, ↓xLenL, ↓xIntI, ↓xTupT, ↓xTupL, ↓xLstT, ↓xLstL, ↓xIsiT, ↓xIsiI, ↓xIsiB, ↓xIsiS, ↓xMax2, ↓xMin2, ↓xSum, ↓xAll, ↓xApp, ↓xFld, ↓xFldS, ↓xGFd, ↓xCall, ↓xMeth, ↓xProp, ↓xNeg, ↓xNegI, if_true, if_false, Bool.false_eq_true, Bool.true_eq_false, reduceIte, Bool.not_true, Bool.not_false, decide_eq_true_eq, Bool.not_eq_true', decide_eq_false_iff_not, not_true_eq_false, not_false_eq_true, and_true, true_and, true_implies, List.length_cons, List.length_nil, Nat.zero_le, decide_true, decide_false, decide_not, ↓suIx0, ↓suIx1, ↓suIx2, ↓suIx3, ↓rwIx0, ↓rwIx1, ↓rwIx2, ↓rwIx3, ↓rwIx4, ↓rwIx5, ↓rwNo, ↓ddG, ↓ddS, ↓ddP, ↓ddGo, ↓liN, ↓liNe] at q ⊢; exact q
  · have e : lostF (beatF s r t c) = (beatF s r t c).left := if_pos (.inl g1)
    simp only [e] at q
    simp only [g1, ↓xSeq, ↓xNx, ↓xRt, ↓xBk, ↓xCt, ↓xEndNx, ↓xEndRt, ↓xNext, ↓xBreak, ↓xCont, ↓xDrop, ↓xRet, ↓xRetN, ↓xNever, ↓xIfS, ↓xPut0, ↓xPutS, ↓xSet, ↓xAug, ↓xAsg, ↓xUn2, ↓xUn1, ↓xPar, ↓xNm, ↓xNl, ↓xCn, ↓xSq, ↓xSqL, ↓xV0, ↓xVS, ↓xC, ↓xFrz, ↓xFrz1, ↓xOp, ↓xBl, ↓xB, ↓xChain, ↓xAnd, ↓xOr, ↓xNot, ↓xAndV, ↓xOrV, ↓xNotV, ↓xIf, ↓xNil, ↓xCons, ↓xTup, ↓xLst, ↓xLstO, ↓xOpt, ↓xAddI, ↓xAddT, ↓xAddL, ↓xSub, ↓xIAdd, ↓xFdiv, ↓xMod, ↓xPow, ↓xMul, ↓xLt, ↓xLe, ↓xGt, ↓xGe, ↓xEqI, ↓xNeI, ↓xEqB, ↓xNeB, ↓xIsBB, ↓xIsNN, ↓xIsTN, ↓xIsLN, ↓xIsIN, ↓xIsSN, ↓xIsRN, ↓xNoBB, ↓xNoNN, ↓xNoTN, ↓xNoLN, ↓xNoIN, ↓xNoSN, ↓xNoRN, ↓xInT, ↓xIx, ↓xIxT, ↓xIxL, ↓at0, ↓at1, ↓at2, ↓at3, ↓at4, ↓at5, ↓xSl, ↓xNo, ↓xInt, ↓xPart, ↓xCutT, ↓xCutL, ↓xCB, ↓xLenT, ↓xLenL, ↓xIntI, ↓xTupT, ↓xTupL, ↓xLstT, ↓xLstL, ↓xIsiT, ↓xIsiI, ↓xIsiB, ↓xIsiS, ↓xMax2, ↓xMin2, ↓xSum, ↓xAll, ↓xApp, ↓xFld, ↓xFldS, ↓xGFd, ↓xCall, ↓xMeth, ↓xProp, ↓xNeg, ↓xNegI, if_true, if_false, Bool.false_eq_true, Bool.true_eq_false, reduceIte, Bool.not_true, Bool.not_false, decide_eq_true_eq, Bool.not_eq_true', decide_eq_false_iff_not, not_true_eq_false, not_false_eq_true, and_true, true_and, true_implies, List.length_cons, List.length_nil, Nat.zero_le, decide_true, decide_false, decide_not, ↓suIx0, ↓suIx1, ↓suIx2, ↓suIx3, ↓rwIx0, ↓rwIx1, ↓rwIx2, ↓rwIx3, ↓rwIx4, ↓rwIx5, ↓rwNo, ↓ddG, ↓ddS, ↓ddP, ↓ddGo, ↓liN, ↓liNe] at q ⊢; exact q

def cl (l : List Cm) : List D := l.map Cm.d
def afters (s : Su) (r : List Rw) : Stt → List Cm → Stt
  | t, [] => t
  | t, c :: cs => afters s r (after s r t c) cs
def chairs (s : Su) (r : List Rw) : Stt → List Cm → List Ch
  | _, [] => []
  | t, c :: cs => chair s r t c :: chairs s r (after s r t c) cs
theorem afters_ok {s : Su} {r : List Rw} (hs : s.ok) : ∀ (cs : List Cm) (t : Stt), t.ok s → (afters s r t cs).ok s
  | [], t, h => h
  | c :: cs, t, h => afters_ok hs cs _ (after_ok hs h)
theorem afters_append (s : Su) (r : List Rw) : ∀ (a b : List Cm) (t : Stt), afters s r t (a ++ b) = afters s r (afters s r t a) b
  | [], b, t => rfl
  | c :: a, b, t => afters_append s r a b _
theorem chairs_append (s : Su) (r : List Rw) : ∀ (a b : List Cm) (t : Stt), chairs s r t (a ++ b) = chairs s r t a ++ chairs s r (afters s r t a) b
  | [], b, t => rfl
  | c :: a, b, t => congrArg (chair s r t c :: ·) (chairs_append s r a b _)
theorem chairs_len (s : Su) (r : List Rw) : ∀ (a : List Cm) (t : Stt), (chairs s r t a).length = a.length
  | [], t => rfl
  | c :: a, t => congrArg (· + 1) (chairs_len s r a _)
/-- the row is a list or a tuple that is no longer changed -/
def S_run : DSp := fun ds M Q _ => ∃ (s : Su) (r : List Rw) (t : Stt) (cs : List Cm) (w : D), ds = [s.d, rl r, t.d, w] ∧ (w = .lst (cl cs) ∨ w = .tup (cl cs)) ∧ (s.ok ∧ t.ok s ∧ cs.length ≤ 9000 ∧ ∀ c ∈ cs, c.groups.length ≤ 900) ∧ Q (.tup [.lst ((chairs s r t cs).map Ch.d), (afters s r t cs).d]) M
structure RunI (s : Su) (r : List Rw) (t : Stt) (w : D) (M : Mp) (p : Addr) (seen : List Cm) (ρ : Rh) (M' : Mp) : Prop where
  ex : ∃ a b, ρ = [some s.d, some (rl r), some (afters s r t seen).d, some w, some (.ref p), a, b] ∧ M' = upm M p (.lst ((chairs s r t seen).map Ch.d))
theorem b_run {ds M Q dx} (h : S_run ds M Q dx) : d_run S_beat (endD Q) (startD ["setup", "rule", "state", "row", "chairs", "comers", "chair"] ds) M := by
  obtain ⟨s, r, t, cs, w, rfl, hw, ⟨hs, ht, hl, hc⟩, q⟩ := h
  show d_run _ (endD Q) [some s.d, some (rl r), some t.d, some w, none, none, none] M
  unfold d_run
  simp only [↓xSeq, ↓xNx, ↓xRt, ↓xBk, ↓xCt, ↓xEndNx, ↓xEndRt, ↓xNext, ↓xBreak, ↓xCont, ↓xDrop, ↓xRet, ↓xRetN, ↓xNever, ↓xIfS, ↓xPut0, ↓xPutS, ↓xSet, ↓xAug, ↓xAsg, ↓xUn2, ↓xUn1, ↓xPar, ↓xNm, ↓xNl, ↓xCn, ↓xSq, ↓xSqL, ↓xV0, ↓xVS, ↓xC, ↓xFrz, ↓xFrz1, ↓xOp, ↓xBl, ↓xB, ↓xChain, ↓xAnd, ↓xOr, ↓xNot, ↓xAndV, ↓xOrV, ↓xNotV, ↓xIf, ↓xNil, ↓xCons, ↓xTup, ↓xLst, ↓xLstO, ↓xOpt, ↓xAddI, ↓xAddT, ↓xAddL, ↓xSub, ↓xIAdd, ↓xFdiv, ↓xMod, ↓xPow, ↓xMul, ↓xLt, ↓xLe, ↓xGt, ↓xGe, ↓xEqI, ↓xNeI, ↓xEqB, ↓xNeB, ↓xIsBB, ↓xIsNN, ↓xIsTN, ↓xIsLN, ↓xIsIN, ↓xIsSN, ↓xIsRN, ↓xNoBB, ↓xNoNN, ↓xNoTN, ↓xNoLN, ↓xNoIN, ↓xNoSN, ↓xNoRN, ↓xInT, ↓xIx, ↓xIxT, ↓xIxL, ↓at0, ↓at1, ↓at2, ↓at3, ↓at4, ↓at5, ↓xSl, ↓xNo, ↓xInt, ↓xPart, ↓xCutT, ↓xCutL, ↓xCB, ↓xLenT, ↓xLenL, ↓xIntI, ↓xTupT, ↓xTupL, ↓xLstT, ↓xLstL, ↓xIsiT, ↓xIsiI, ↓xIsiB, ↓xIsiS, ↓xMax2, ↓xMin2, ↓xSum, ↓xAll, ↓xApp, ↓xFld, ↓xFldS, ↓xGFd, ↓xCall, ↓xMeth, ↓xProp, ↓xNeg, ↓xNegI, if_true, if_false, Bool.false_eq_true, Bool.true_eq_false, reduceIte, Bool.not_true, Bool.not_false, decide_eq_true_eq, Bool.not_eq_true', decide_eq_false_iff_not, not_true_eq_false, not_false_eq_true, and_true, true_and, true_implies, List.length_cons, List.length_nil, Nat.zero_le, decide_true, decide_false, decide_not, ↓suIx0, ↓suIx1, ↓suIx2, ↓suIx3, ↓rwIx0, ↓rwIx1, ↓rwIx2, ↓rwIx3, ↓rwIx4, ↓rwIx5, ↓rwNo, ↓ddG, ↓ddS, ↓ddP, ↓ddGo, ↓liN, ↓liNe]
  refine fun p hp => for_sq Cm.d cs (x := w) (fun Q q => by simp only [↓xSeq, ↓xNx, ↓xRt, ↓xBk, ↓xCt, ↓xEndNx, ↓xEndRt, ↓xNext, ↓xBreak, ↓xCont, ↓xDrop, ↓xRet, ↓xRetN, ↓xNever, ↓xIfS, ↓xPut0, ↓xPutS, ↓xSet, ↓xAug, ↓xAsg, ↓xUn2, ↓xUn1, ↓xPar, ↓xNm, ↓xNl, ↓xCn, ↓xSq, ↓xSqL, ↓xV0, ↓xVS, ↓xC, ↓xFrz, ↓xFrz1, ↓xOp, ↓xBl, ↓xB, ↓xChain, ↓xAnd, ↓xOr, ↓xNot, ↓xAndV, ↓xOrV, ↓xNotV, ↓xIf, ↓xNil, ↓xCons, ↓xTup, ↓xLst, ↓xLstO, ↓xOpt, ↓xAddI, ↓xAddT, ↓xAddL, ↓xSub, ↓xIAdd, ↓xFdiv, ↓xMod, ↓xPow, ↓xMul, ↓xLt, ↓xLe, ↓xGt, ↓xGe, ↓xEqI, ↓xNeI, ↓xEqB, ↓xNeB, ↓xIsBB, ↓xIsNN, ↓xIsTN, ↓xIsLN, ↓xIsIN, ↓xIsSN, ↓xIsRN, ↓xNoBB, ↓xNoNN, ↓xNoTN, ↓xNoLN, ↓xNoIN, ↓xNoSN, ↓xNoRN, ↓xInT, ↓xIx, ↓xIxT, ↓xIxL, ↓at0, ↓at1, ↓at2, ↓at3, ↓at4, ↓at5, ↓xSl, ↓xNo, ↓xInt, ↓xPart, ↓xCutT, ↓xCutL, ↓xCB, ↓xLenT, ↓xLenL, ↓xIntI, ↓xTupT, ↓xTupL, ↓xLstT, ↓xLstL, ↓xIsiT, ↓xIsiI, ↓xIsiB, ↓xIsiS, ↓xMax2, ↓xMin2, ↓xSum, ↓xAll, ↓xApp, ↓xFld, ↓xFldS, ↓xGFd, ↓xCall, ↓xMeth, ↓xProp, ↓xNeg, ↓xNegI, if_true, if_false, Bool.false_eq_true, Bool.true_eq_false, reduceIte, Bool.not_true, Bool.not_false, decide_eq_true_eq, Bool.not_eq_true', decide_eq_false_iff_not, not_true_eq_false, not_false_eq_true, and_true, true_and, true_implies, List.length_cons, List.length_nil, Nat.zero_le, decide_true, decide_false, decide_not, ↓suIx0, ↓suIx1, ↓suIx2, ↓suIx3, ↓rwIx0, ↓rwIx1, ↓rwIx2, ↓rwIx3, ↓rwIx4, ↓rwIx5, ↓rwNo, ↓ddG, ↓ddS, ↓ddP, ↓ddGo, ↓liN, ↓liNe]; exact q) (by rcases hw with rfl | rfl <;> rfl) (RunI s r t w M p) ⟨none, none, rfl, rfl⟩ (fun l ρ M' _ => by rcases hw with rfl | rfl <;> rfl) (fun l c rest ρ M' e ⟨a, b, hρ, hM⟩ => ?_) (fun ρ M' ⟨a, b, hρ, hM⟩ => ?_)
  · subst hρ hM
    have h1 := afters_ok hs l t ht (r := r)
    have h2 := hc c (by rw [e]; simp)
    have h3 : ((chairs s r t l).map Ch.d).length < sizeLine := by
      rw [List.length_map, chairs_len]
      refine Nat.lt_of_le_of_lt (?_ : l.length ≤ 9000) (by decide)
      have := congrArg List.length e
      simp at this
      omega
    simp only [↓xSeq, ↓xNx, ↓xRt, ↓xBk, ↓xCt, ↓xEndNx, ↓xEndRt, ↓xNext, ↓xBreak, ↓xCont, ↓xDrop, ↓xRet, ↓xRetN, ↓xNever, ↓xIfS, ↓xPut0, ↓xPutS, ↓xSet, ↓xAug, ↓xAsg, ↓xUn2, ↓xUn1, ↓xPar, ↓xNm, ↓xNl, ↓xCn, ↓xSq, ↓xSqL, ↓xV0, ↓xVS, ↓xC, ↓xFrz, ↓xFrz1, ↓xOp, ↓xBl, ↓xB, ↓xChain, ↓xAnd, ↓xOr, ↓xNot, ↓xAndV, ↓xOrV, ↓xNotV, ↓xIf, ↓xNil, ↓xCons, ↓xTup, ↓xLst, ↓xLstO, ↓xOpt, ↓xAddI, ↓xAddT, ↓xAddL, ↓xSub, ↓xIAdd, ↓xFdiv, ↓xMod, ↓xPow, ↓xMul, ↓xLt, ↓xLe, ↓xGt, ↓xGe, ↓xEqI, ↓xNeI, ↓xEqB, ↓xNeB, ↓xIsBB, ↓xIsNN, ↓xIsTN, ↓xIsLN, ↓xIsIN, ↓xIsSN, ↓xIsRN, ↓xNoBB, ↓xNoNN, ↓xNoTN, ↓xNoLN, ↓xNoIN, ↓xNoSN, ↓xNoRN, ↓xInT, ↓xIx, ↓xIxT, ↓xIxL, ↓at0, ↓at1, ↓at2, ↓at3, ↓at4, ↓at5, ↓xSl, ↓xNo, ↓xInt, ↓xPart, ↓xCutT, ↓xCutL, ↓xCB, ↓xLenT, ↓xLenL, ↓xIntI, ↓xTupT, ↓xTupL, ↓xLstT, ↓xLstL, ↓xIsiT, ↓xIsiI, ↓xIsiB, ↓xIsiS, ↓xMax2, ↓xMin2, ↓xSum, ↓xAll, ↓xApp, ↓xFld, ↓xFldS, ↓xGFd, ↓xCall, ↓xMeth, ↓xProp, ↓xNeg, ↓xNegI, if_true, if_false, Bool.false_eq_true, Bool.true_eq_false, reduceIte, Bool.not_true, Bool.not_false, decide_eq_true_eq, Bool.not_eq_true', decide_eq_false_iff_not, not_true_eq_false, not_false_eq_true, and_true, true_and, true_implies, List.length_cons, List.length_nil, Nat.zero_le, decide_true, decide_false, decide_not, ↓suIx0, ↓suIx1, ↓suIx2, ↓suIx3, ↓rwIx0, ↓rwIx1, ↓rwIx2, ↓rwIx3, ↓rwIx4, ↓rwIx5, ↓rwNo, ↓ddG, ↓ddS, ↓ddP, ↓ddGo, ↓liN, ↓liNe, ↓x_beat, ↓xAppA upm_same, ↓xAppB upm_same, upm_upm]
    refine ⟨⟨hs, h1, h2⟩, h3, ⟨some c.d, some (chair s r (afters s r t l) c).d, ?_, ?_⟩⟩
    · rw [afters_append]; rfl
    · rw [chairs_append, List.map_append]; rfl
  · subst hρ hM
    simp only [↓xSeq, ↓xNx, ↓xRt, ↓xBk, ↓xCt, ↓xEndNx, ↓xEndRt, ↓xNext, ↓xBreak, ↓xCont, ↓xDrop, ↓xRet, ↓xRetN, ↓xNever, ↓xIfS, ↓xPut0, ↓xPutS, ↓xSet, ↓xAug, ↓xAsg, ↓xUn2, ↓xUn1, ↓xPar, ↓xNm, ↓xNl, ↓xCn, ↓xSq, ↓xSqL, ↓xV0, ↓xVS, ↓xC, ↓xFrz, ↓xFrz1, ↓xOp, ↓xBl, ↓xB, ↓xChain, ↓xAnd, ↓xOr, ↓xNot, ↓xAndV, ↓xOrV, ↓xNotV, ↓xIf, ↓xNil, ↓xCons, ↓xTup, ↓xLst, ↓xLstO, ↓xOpt, ↓xAddI, ↓xAddT, ↓xAddL, ↓xSub, ↓xIAdd, ↓xFdiv, ↓xMod, ↓xPow, ↓xMul, ↓xLt, ↓xLe, ↓xGt, ↓xGe, ↓xEqI, ↓xNeI, ↓xEqB, ↓xNeB, ↓xIsBB, ↓xIsNN, ↓xIsTN, ↓xIsLN, ↓xIsIN, ↓xIsSN, ↓xIsRN, ↓xNoBB, ↓xNoNN, ↓xNoTN, ↓xNoLN, ↓xNoIN, ↓xNoSN, ↓xNoRN, ↓xInT, ↓xIx, ↓xIxT, ↓xIxL, ↓at0, ↓at1, ↓at2, ↓at3, ↓at4, ↓at5, ↓xSl, ↓xNo, ↓xInt, ↓xPart, ↓xCutT, ↓xCutL, ↓xCB, ↓xLenT, ↓xLenL, ↓xIntI, ↓xTupT, ↓xTupL, ↓xLstT, ↓xLstL, ↓xIsiT, ↓xIsiI, ↓xIsiB, ↓xIsiS, ↓xMax2, ↓xMin2, ↓xSum, ↓xAll, ↓xApp, ↓xFld, ↓xFldS, ↓xGFd, ↓xCall, ↓xMeth, ↓xProp, ↓xNeg, ↓xNegI, if_true, if_false, Bool.false_eq_true, Bool.true_eq_false, reduceIte, Bool.not_true, Bool.not_false, decide_eq_true_eq, Bool.not_eq_true', decide_eq_false_iff_not, not_true_eq_false, not_false_eq_true, and_true, true_and, true_implies, List.length_cons, List.length_nil, Nat.zero_le, decide_true, decide_false, decide_not, ↓suIx0, ↓suIx1, ↓suIx2, ↓suIx3, ↓rwIx0, ↓rwIx1, ↓rwIx2, ↓rwIx3, ↓rwIx4, ↓rwIx5, ↓rwNo, ↓ddG, ↓ddS, ↓ddP, ↓ddGo, ↓liN, ↓liNe, le2]
    exact ⟨M, sub_del hp, q⟩

end DL
/-! A lift. -/
namespace DL
open PySem PySem.Spec PyProof.Rows L2
/-! what stands at an address: looked up first, then gone on from -/
def insK (C : Addr) (o : Option MO) (k : List (Str × D) → Prop) : Prop := ∃ fs, o = some (.ins C fs) ∧ k fs
theorem xInsK {C : Addr} {fs : List (Str × D)} {k : List (Str × D) → Prop} : insK C (some (.ins C fs)) k = k fs := propext ⟨fun ⟨_, e, h⟩ => by cases e; exact h, fun h => ⟨_, rfl, h⟩⟩
def lsK (o : Option MO) (k : List D → Prop) : Prop := ∃ xs, o = some (.lst xs) ∧ k xs
theorem xLsK {xs : List D} {k : List D → Prop} : lsK (some (.lst xs)) k = k xs := propext ⟨fun ⟨_, e, h⟩ => by cases e; exact h, fun h => ⟨_, rfl, h⟩⟩
section
variable {ρ : Rh} {M : Mp} {Q : DK} {C a p : Addr} {f : Str} {y : D}
theorem insU {fs : List (Str × D)} {k : List (Str × D) → Prop} : insK C (upm M a (.ins C fs) a) k = k fs := by rw [upm_same, xInsK]
theorem insN {o : MO} {k : List (Str × D) → Prop} (h : a ≠ p) : insK C (upm M p o a) k = insK C (M a) k := by rw [upm_ne h]
theorem ins_at {fs : List (Str × D)} {k : List (Str × D) → Prop} (h : M a = some (.ins C fs)) : insK C (M a) k = k fs := by rw [h, xInsK]
theorem lsU {xs : List D} {k : List D → Prop} : lsK (upm M p (.lst xs) p) k = k xs := by rw [upm_same, xLsK]
theorem lsN {o : MO} {k : List D → Prop} (h : a ≠ p) : lsK (upm M p o a) k = lsK (M a) k := by rw [upm_ne h]
theorem ls_at {xs : List D} {k : List D → Prop} (h : M a = some (.lst xs)) : lsK (M a) k = k xs := by rw [h, xLsK]
theorem xFldX {Q : D → Prop} : fldK C (.ref a) f M Q = insK C (M a) fun fs => optK (fs.lookup f) Q :=
  propext ⟨fun ⟨_, fs, z, e, e1, e2, q⟩ => by cases e; exact ⟨fs, e1, z, e2, q⟩, fun ⟨fs, e1, z, e2, q⟩ => ⟨_, fs, z, rfl, e1, e2, q⟩⟩
theorem xFldWX {R : Mp → Prop} : fldW C (.ref a) f y M R = insK C (M a) fun fs => fs.length < 1000 ∧ R (upm M a (.ins C (putD f y fs))) :=
  propext ⟨fun ⟨_, fs, e, e1, q⟩ => by cases e; exact ⟨fs, e1, q⟩, fun ⟨fs, e1, q⟩ => ⟨_, fs, rfl, e1, q⟩⟩
theorem xAppAX {k : Addr → Prop} : appA (.ref p) M k = lsK (M p) fun _ => k p :=
  propext ⟨fun ⟨_, xs, e, e1, q⟩ => by cases e; exact ⟨xs, e1, q⟩, fun ⟨xs, e1, q⟩ => ⟨_, xs, rfl, e1, q⟩⟩
theorem xAppBX : appB p y M Q = lsK (M p) fun zs => zs.length < sizeLine ∧ Q .non (upm M p (.lst (zs ++ [y]))) := rfl
def popK (x : D) (M : Mp) (Q : DK) : Prop := ∃ p xs y, x = .ref p ∧ M p = some (.lst (xs ++ [y])) ∧ Q y (upm M p (.lst xs))
def lastK (zs : List D) (k : List D → D → Prop) : Prop := ∃ xs y, zs = xs ++ [y] ∧ k xs y
theorem xPop {d : DT} : dPop d ρ M Q = d ρ M fun x M1 => popK x M1 Q := rfl
theorem xPopK : popK (.ref p) M Q = lsK (M p) fun zs => lastK zs fun xs y => Q y (upm M p (.lst xs)) :=
  propext ⟨fun ⟨_, xs, y, e, e1, q⟩ => by cases e; exact ⟨_, e1, xs, y, rfl, q⟩, fun ⟨_, e1, xs, y, e, q⟩ => ⟨p, xs, y, rfl, by rw [e1, e], q⟩⟩
theorem xLast {xs : List D} {k : List D → D → Prop} : lastK (xs ++ [y]) k = k xs y :=
  propext ⟨fun ⟨_, _, e, q⟩ => by obtain ⟨e1, e2⟩ := List.append_inj' e rfl; cases e1; cases e2; exact q, fun q => ⟨_, _, rfl, q⟩⟩
theorem xMthX {m : Str} {k : Addr → Prop} : mthK C m (.ref a) M k = insK C (M a) fun fs => fs.lookup m = none ∧ k a :=
  propext ⟨fun ⟨_, fs, e, e1, q⟩ => by cases e; exact ⟨fs, e1, q⟩, fun ⟨fs, e1, q⟩ => ⟨_, fs, rfl, e1, q⟩⟩
theorem xPrpX {k : Addr → Prop} : prpK C (.ref a) M k = insK C (M a) fun _ => k a :=
  propext ⟨fun ⟨_, fs, e, e1, q⟩ => by cases e; exact ⟨fs, e1, q⟩, fun ⟨fs, e1, q⟩ => ⟨_, fs, rfl, e1, q⟩⟩
end
/-! a lift, in plain Lean -/
inductive Step where
  | beat (c : Cm)
  | rule (r : List Rw)
def Step.d : Step → D
  | .beat c => .tup [.str "beat", c.d]
  | .rule r => .tup [.str "rule", rl r]
theorem Step.inj {a b : Step} : a.d = b.d ↔ a = b := ⟨fun h => by
    cases a <;> cases b
    · simp only [Step.d, D.tup.injEq, List.cons.injEq, Cm.inj, and_true, true_and] at h; rw [h]
    · exact absurd (show ("beat" : Str) = "rule" by simp only [Step.d, D.tup.injEq, List.cons.injEq, D.str.injEq] at h; exact h.1) (by decide +kernel)
    · exact absurd (show ("rule" : Str) = "beat" by simp only [Step.d, D.tup.injEq, List.cons.injEq, D.str.injEq] at h; exact h.1) (by decide +kernel)
    · simp only [Step.d, D.tup.injEq, List.cons.injEq, rl_inj, and_true, true_and] at h; rw [h], fun h => h ▸ rfl⟩
structure LS where
  su : Su
  first : List Rw
  present : List Rw
  here : Stt
  done : List Step
  gone : List Ch
  earlier : List (List Rw × Stt)
def eaD (x : List Rw × Stt) : D := .tup [rl x.1, x.2.d]
def LS.fields (s : LS) (p q e : Addr) : List (Str × D) := [("setup", s.su.d), ("first", rl s.first), ("present", rl s.present), ("here", s.here.d), ("done", .ref p), ("gone", .ref q), ("earlier", .ref e)]
structure LiftAt (C : Addr) (M : Mp) (a p q e : Addr) (s : LS) : Prop where
  ins : M a = some (.ins C (s.fields p q e))
  don : M p = some (.lst (s.done.map Step.d))
  gon : M q = some (.lst (s.gone.map Ch.d))
  ear : M e = some (.lst (s.earlier.map eaD))
  pa : p ≠ a
  qa : q ≠ a
  ea : e ≠ a
  qp : q ≠ p
  ep : e ≠ p
  eq : e ≠ q
def Keeps (M M' : Mp) (xs : List Addr) : Prop := ∀ x o, M x = some o → x ∉ xs → M' x = some o
def LS.init (su : Su) (r : List Rw) : LS := ⟨su, r, r, st0, [], [], []⟩
def LS.act (s : LS) : Step → LS
  | .beat c => { s with here := after s.su s.present s.here c, done := s.done ++ [.beat c], gone := s.gone ++ [chair s.su s.present s.here c], earlier := s.earlier ++ [(s.present, s.here)] }
  | .rule r => { s with present := r, done := s.done ++ [.rule r], earlier := s.earlier ++ [(s.present, s.here)] }
def LS.answer (s : LS) : Step → D
  | .beat c => (chair s.su s.present s.here c).d
  | .rule _ => .non
/-- what keeps a lift sound -/
structure LS.ok (s : LS) : Prop where
  su : s.su.ok
  first : Rok s.first
  present : Rok s.present
  here : s.here.ok s.su
  done : s.done.length ≤ 5000
  gone : s.gone.length ≤ 5000
  earlier : s.earlier.length ≤ 5000
def Step.ok (s : Su) : Step → Prop
  | .beat c => c.ok s
  | .rule r => Rok r
theorem lk0 {s : LS} {p q e : Addr} {Q : D → Prop} : optK ((s.fields p q e).lookup ("setup" : Str)) Q = Q s.su.d := xOpt
theorem lk1 {s : LS} {p q e : Addr} {Q : D → Prop} : optK ((s.fields p q e).lookup ("first" : Str)) Q = Q (rl s.first) := xOpt
theorem lk2 {s : LS} {p q e : Addr} {Q : D → Prop} : optK ((s.fields p q e).lookup ("present" : Str)) Q = Q (rl s.present) := xOpt
theorem lk3 {s : LS} {p q e : Addr} {Q : D → Prop} : optK ((s.fields p q e).lookup ("here" : Str)) Q = Q s.here.d := xOpt
theorem lk4 {s : LS} {p q e : Addr} {Q : D → Prop} : optK ((s.fields p q e).lookup ("done" : Str)) Q = Q (.ref p) := xOpt
theorem lk5 {s : LS} {p q e : Addr} {Q : D → Prop} : optK ((s.fields p q e).lookup ("gone" : Str)) Q = Q (.ref q) := xOpt
theorem lk6 {s : LS} {p q e : Addr} {Q : D → Prop} : optK ((s.fields p q e).lookup ("earlier" : Str)) Q = Q (.ref e) := xOpt
theorem fl_len {s : LS} {p q e : Addr} : (s.fields p q e).length < 1000 := by show 7 < 1000; decide
theorem pt2 {s : LS} {p q e : Addr} {r : List Rw} : putD "present" (rl r) (s.fields p q e) = ({ s with present := r } : LS).fields p q e := rfl
theorem pt3 {s : LS} {p q e : Addr} {t : Stt} : putD "here" t.d (s.fields p q e) = ({ s with here := t } : LS).fields p q e := rfl
theorem pt4 {s : LS} {p q e a : Addr} : putD "done" (.ref a) (s.fields p q e) = s.fields a q e := rfl
theorem pt5 {s : LS} {p q e a : Addr} : putD "gone" (.ref a) (s.fields p q e) = s.fields p a e := rfl
theorem pt6 {s : LS} {p q e a : Addr} : putD "earlier" (.ref a) (s.fields p q e) = s.fields p q a := rfl
theorem LiftAt.ne {C a p q e : Addr} {M : Mp} {s : LS} (h : LiftAt C M a p q e s) : (p ≠ a ∧ a ≠ p) ∧ (q ≠ a ∧ a ≠ q) ∧ (e ≠ a ∧ a ≠ e) ∧ (q ≠ p ∧ p ≠ q) ∧ (e ≠ p ∧ p ≠ e) ∧ (e ≠ q ∧ q ≠ e) :=
  ⟨⟨h.pa, h.pa.symm⟩, ⟨h.qa, h.qa.symm⟩, ⟨h.ea, h.ea.symm⟩, ⟨h.qp, h.qp.symm⟩, ⟨h.ep, h.ep.symm⟩, ⟨h.eq, h.eq.symm⟩⟩
/-! reading -/
def S_lift0 (C : Addr) (f : LS → D) (c : LS → Prop) : DSp := fun ds M Q _ => ∃ a p q e s, ds = [.ref a] ∧ LiftAt C M a p q e s ∧ c s ∧ Q (f s) M
def S_state (C : Addr) : DSp := S_lift0 C (fun s => s.here.d) fun _ => True
def S_rule (C : Addr) : DSp := S_lift0 C (fun s => rl s.present) fun _ => True
def S_chairs (C : Addr) : DSp := S_lift0 C (fun s => .lst (s.gone.map Ch.d)) fun _ => True
def Step.cm : Step → Option Cm
  | .beat c => some c
  | .rule _ => none
def S_row (C : Addr) : DSp := S_lift0 C (fun s => .lst ((s.done.filterMap Step.cm).map Cm.d)) LS.ok
def S_lost (C : Addr) : DSp := S_lift0 C (fun s => .int (s.gone.map Ch.lost).sum) LS.ok
def S_waiting (C : Addr) : DSp := S_lift0 C (fun s => .tup [.int s.here.line.length, .int s.here.singles]) fun _ => True
def S_len (C : Addr) : DSp := S_lift0 C (fun s => .int s.gone.length) fun _ => True
theorem b_state {C ds M Q dx} (h : S_state C ds M Q dx) : d_Lift_state C (endD Q) (startD ["self"] ds) M := by
  obtain ⟨a, p, q, e, s, rfl, h, _, hq⟩ := h
  show d_Lift_state C (endD Q) [some (.ref a)] M
  unfold d_Lift_state
  simp only [↓xSeq, ↓xNx, ↓xRt, ↓xBk, ↓xCt, ↓xEndNx, ↓xEndRt, ↓xNext, ↓xBreak, ↓xCont, ↓xDrop, ↓xRet, ↓xRetN, ↓xNever, ↓xIfS, ↓xPut0, ↓xPutS, ↓xSet, ↓xAug, ↓xAsg, ↓xUn2, ↓xUn1, ↓xPar, ↓xNm, ↓xNl, ↓xCn, ↓xSq, ↓xSqL, ↓xV0, ↓xVS, ↓xC, ↓xFrz, ↓xFrz1, ↓xOp, ↓xBl, ↓xB, ↓xChain, ↓xAnd, ↓xOr, ↓xNot, ↓xAndV, ↓xOrV, ↓xNotV, ↓xIf, ↓xNil, ↓xCons, ↓xTup, ↓xLst, ↓xLstO, ↓xOpt, ↓xAddI, ↓xAddT, ↓xAddL, ↓xSub, ↓xIAdd, ↓xFdiv, ↓xMod, ↓xPow, ↓xMul, ↓xLt, ↓xLe, ↓xGt, ↓xGe, ↓xEqI, ↓xNeI, ↓xEqB, ↓xNeB, ↓xIsBB, ↓xIsNN, ↓xIsTN, ↓xIsLN, ↓xIsIN, ↓xIsSN, ↓xIsRN, ↓xNoBB, ↓xNoNN, ↓xNoTN, ↓xNoLN, ↓xNoIN, ↓xNoSN, ↓xNoRN, ↓xInT, ↓xIx, ↓xIxT, ↓xIxL, ↓at0, ↓at1, ↓at2, ↓at3, ↓at4, ↓at5, ↓xSl, ↓xNo, ↓xInt, ↓xPart, ↓xCutT, ↓xCutL, ↓xCB, ↓xLenT, ↓xLenL, ↓xIntI, ↓xTupT, ↓xTupL, ↓xLstT, ↓xLstL, ↓xIsiT, ↓xIsiI, ↓xIsiB, ↓xIsiS, ↓xMax2, ↓xMin2, ↓xSum, ↓xAll, ↓xApp, ↓xFld, ↓xFldS, ↓xGFd, ↓xCall, ↓xMeth, ↓xProp, ↓xNeg, ↓xNegI, if_true, if_false, Bool.false_eq_true, Bool.true_eq_false, reduceIte, Bool.not_true, Bool.not_false, decide_eq_true_eq, Bool.not_eq_true', decide_eq_false_iff_not, not_true_eq_false, not_false_eq_true, and_true, true_and, true_implies, List.length_cons, List.length_nil, Nat.zero_le, decide_true, decide_false, decide_not, ↓suIx0, ↓suIx1, ↓suIx2, ↓suIx3, ↓rwIx0, ↓rwIx1, ↓rwIx2, ↓rwIx3, ↓rwIx4, ↓rwIx5, ↓rwNo, ↓ddG, ↓ddS, ↓ddP, ↓ddGo, ↓liN, ↓liNe, ↓xFldX, ↓xFldWX, ↓xAppAX, ↓xAppBX, ↓xPop, ↓xPopK, ↓xLast, ↓xMthX, ↓xPrpX, ↓insU, ↓insN, ↓lsU, ↓lsN, ↓lk0, ↓lk1, ↓lk2, ↓lk3, ↓lk4, ↓lk5, ↓lk6, fl_len, pt2, pt3, pt4, pt5, pt6, ↓ins_at h.ins]
  exact fin hq
theorem b_rule {C ds M Q dx} (h : S_rule C ds M Q dx) : d_Lift_rule C (endD Q) (startD ["self"] ds) M := by
  obtain ⟨a, p, q, e, s, rfl, h, _, hq⟩ := h
  show d_Lift_rule C (endD Q) [some (.ref a)] M
  unfold d_Lift_rule
  simp only [↓xSeq, ↓xNx, ↓xRt, ↓xBk, ↓xCt, ↓xEndNx, ↓xEndRt, ↓xNext, ↓xBreak, ↓xCont, ↓xDrop, ↓xRet, ↓xRetN, ↓xNever, ↓xIfS, ↓xPut0, ↓xPutS, ↓xSet, ↓xAug, ↓xAsg, ↓xUn2, ↓xUn1, ↓xPar, ↓xNm, ↓xNl, ↓xCn, ↓xSq, ↓xSqL, ↓xV0, ↓xVS, ↓xC, ↓xFrz, ↓xFrz1, ↓xOp, ↓xBl, ↓xB, ↓xChain, ↓xAnd, ↓xOr, ↓xNot, ↓xAndV, ↓xOrV, ↓xNotV, ↓xIf, ↓xNil, ↓xCons, ↓xTup, ↓xLst, ↓xLstO, ↓xOpt, ↓xAddI, ↓xAddT, ↓xAddL, ↓xSub, ↓xIAdd, ↓xFdiv, ↓xMod, ↓xPow, ↓xMul, ↓xLt, ↓xLe, ↓xGt, ↓xGe, ↓xEqI, ↓xNeI, ↓xEqB, ↓xNeB, ↓xIsBB, ↓xIsNN, ↓xIsTN, ↓xIsLN, ↓xIsIN, ↓xIsSN, ↓xIsRN, ↓xNoBB, ↓xNoNN, ↓xNoTN, ↓xNoLN, ↓xNoIN, ↓xNoSN, ↓xNoRN, ↓xInT, ↓xIx, ↓xIxT, ↓xIxL, ↓at0, ↓at1, ↓at2, ↓at3, ↓at4, ↓at5, ↓xSl, ↓xNo, ↓xInt, ↓xPart, ↓xCutT, ↓xCutL, ↓xCB, ↓xLenT, ↓xLenL, ↓xIntI, ↓xTupT, ↓xTupL, ↓xLstT, ↓xLstL, ↓xIsiT, ↓xIsiI, ↓xIsiB, ↓xIsiS, ↓xMax2, ↓xMin2, ↓xSum, ↓xAll, ↓xApp, ↓xFld, ↓xFldS, ↓xGFd, ↓xCall, ↓xMeth, ↓xProp, ↓xNeg, ↓xNegI, if_true, if_false, Bool.false_eq_true, Bool.true_eq_false, reduceIte, Bool.not_true, Bool.not_false, decide_eq_true_eq, Bool.not_eq_true', decide_eq_false_iff_not, not_true_eq_false, not_false_eq_true, and_true, true_and, true_implies, List.length_cons, List.length_nil, Nat.zero_le, decide_true, decide_false, decide_not, ↓suIx0, ↓suIx1, ↓suIx2, ↓suIx3, ↓rwIx0, ↓rwIx1, ↓rwIx2, ↓rwIx3, ↓rwIx4, ↓rwIx5, ↓rwNo, ↓ddG, ↓ddS, ↓ddP, ↓ddGo, ↓liN, ↓liNe, ↓xFldX, ↓xFldWX, ↓xAppAX, ↓xAppBX, ↓xPop, ↓xPopK, ↓xLast, ↓xMthX, ↓xPrpX, ↓insU, ↓insN, ↓lsU, ↓lsN, ↓lk0, ↓lk1, ↓lk2, ↓lk3, ↓lk4, ↓lk5, ↓lk6, fl_len, pt2, pt3, pt4, pt5, pt6, ↓ins_at h.ins]
  exact fin hq
theorem b_chairs {C ds M Q dx} (h : S_chairs C ds M Q dx) : d_Lift_chairs C (endD Q) (startD ["self"] ds) M := by
  obtain ⟨a, p, q, e, s, rfl, h, _, hq⟩ := h
  show d_Lift_chairs C (endD Q) [some (.ref a)] M
  unfold d_Lift_chairs
  simp only [↓xSeq, ↓xNx, ↓xRt, ↓xBk, ↓xCt, ↓xEndNx, ↓xEndRt, ↓xNext, ↓xBreak, ↓xCont, ↓xDrop, ↓xRet, ↓xRetN, ↓xNever, ↓xIfS, ↓xPut0, ↓xPutS, ↓xSet, ↓xAug, ↓xAsg, ↓xUn2, ↓xUn1, ↓xPar, ↓xNm, ↓xNl, ↓xCn, ↓xSq, ↓xSqL, ↓xV0, ↓xVS, ↓xC, ↓xFrz, ↓xFrz1, ↓xOp, ↓xBl, ↓xB, ↓xChain, ↓xAnd, ↓xOr, ↓xNot, ↓xAndV, ↓xOrV, ↓xNotV, ↓xIf, ↓xNil, ↓xCons, ↓xTup, ↓xLst, ↓xLstO, ↓xOpt, ↓xAddI, ↓xAddT, ↓xAddL, ↓xSub, ↓xIAdd, ↓xFdiv, ↓xMod, ↓xPow, ↓xMul, ↓xLt, ↓xLe, ↓xGt, ↓xGe, ↓xEqI, ↓xNeI, ↓xEqB, ↓xNeB, ↓xIsBB, ↓xIsNN, ↓xIsTN, ↓xIsLN, ↓xIsIN, ↓xIsSN, ↓xIsRN, ↓xNoBB, ↓xNoNN, ↓xNoTN, ↓xNoLN, ↓xNoIN, ↓xNoSN, ↓xNoRN, ↓xInT, ↓xIx, ↓xIxT, ↓xIxL, ↓at0, ↓at1, ↓at2, ↓at3, ↓at4, ↓at5, ↓xSl, ↓xNo, ↓xInt, ↓xPart, ↓xCutT, ↓xCutL, ↓xCB, ↓xLenT, ↓xLenL, ↓xIntI, ↓xTupT, ↓xTupL, ↓xLstT, ↓xLstL, ↓xIsiT, ↓xIsiI, ↓xIsiB, ↓xIsiS, ↓xMax2, ↓xMin2, ↓xSum, ↓xAll, ↓xApp, ↓xFld, ↓xFldS, ↓xGFd, ↓xCall, ↓xMeth, ↓xProp, ↓xNeg, ↓xNegI, if_true, if_false, Bool.false_eq_true, Bool.true_eq_false, reduceIte, Bool.not_true, Bool.not_false, decide_eq_true_eq, Bool.not_eq_true', decide_eq_false_iff_not, not_true_eq_false, not_false_eq_true, and_true, true_and, true_implies, List.length_cons, List.length_nil, Nat.zero_le, decide_true, decide_false, decide_not, ↓suIx0, ↓suIx1, ↓suIx2, ↓suIx3, ↓rwIx0, ↓rwIx1, ↓rwIx2, ↓rwIx3, ↓rwIx4, ↓rwIx5, ↓rwNo, ↓ddG, ↓ddS, ↓ddP, ↓ddGo, ↓liN, ↓liNe, ↓xFldX, ↓xFldWX, ↓xAppAX, ↓xAppBX, ↓xPop, ↓xPopK, ↓xLast, ↓xMthX, ↓xPrpX, ↓insU, ↓insN, ↓lsU, ↓lsN, ↓lk0, ↓lk1, ↓lk2, ↓lk3, ↓lk4, ↓lk5, ↓lk6, fl_len, pt2, pt3, pt4, pt5, pt6, ↓ins_at h.ins, ↓xLstR h.gon]
  exact fin hq
theorem b_len {C ds M Q dx} (h : S_len C ds M Q dx) : d_Lift___len__ C (endD Q) (startD ["self"] ds) M := by
  obtain ⟨a, p, q, e, s, rfl, h, _, hq⟩ := h
  show d_Lift___len__ C (endD Q) [some (.ref a)] M
  unfold d_Lift___len__
  simp only [↓xSeq, ↓xNx, ↓xRt, ↓xBk, ↓xCt, ↓xEndNx, ↓xEndRt, ↓xNext, ↓xBreak, ↓xCont, ↓xDrop, ↓xRet, ↓xRetN, ↓xNever, ↓xIfS, ↓xPut0, ↓xPutS, ↓xSet, ↓xAug, ↓xAsg, ↓xUn2, ↓xUn1, ↓xPar, ↓xNm, ↓xNl, ↓xCn, ↓xSq, ↓xSqL, ↓xV0, ↓xVS, ↓xC, ↓xFrz, ↓xFrz1, ↓xOp, ↓xBl, ↓xB, ↓xChain, ↓xAnd, ↓xOr, ↓xNot, ↓xAndV, ↓xOrV, ↓xNotV, ↓xIf, ↓xNil, ↓xCons, ↓xTup, ↓xLst, ↓xLstO, ↓xOpt, ↓xAddI, ↓xAddT, ↓xAddL, ↓xSub, ↓xIAdd, ↓xFdiv, ↓xMod, ↓xPow, ↓xMul, ↓xLt, ↓xLe, ↓xGt, ↓xGe, ↓xEqI, ↓xNeI, ↓xEqB, ↓xNeB, ↓xIsBB, ↓xIsNN, ↓xIsTN, ↓xIsLN, ↓xIsIN, ↓xIsSN, ↓xIsRN, ↓xNoBB, ↓xNoNN, ↓xNoTN, ↓xNoLN, ↓xNoIN, ↓xNoSN, ↓xNoRN, ↓xInT, ↓xIx, ↓xIxT, ↓xIxL, ↓at0, ↓at1, ↓at2, ↓at3, ↓at4, ↓at5, ↓xSl, ↓xNo, ↓xInt, ↓xPart, ↓xCutT, ↓xCutL, ↓xCB, ↓xLenT, ↓xLenL, ↓xIntI, ↓xTupT, ↓xTupL, ↓xLstT, ↓xLstL, ↓xIsiT, ↓xIsiI, ↓xIsiB, ↓xIsiS, ↓xMax2, ↓xMin2, ↓xSum, ↓xAll, ↓xApp, ↓xFld, ↓xFldS, ↓xGFd, ↓xCall, ↓xMeth, ↓xProp, ↓xNeg, ↓xNegI, if_true, if_false, Bool.false_eq_true, Bool.true_eq_false, reduceIte, Bool.not_true, Bool.not_false, decide_eq_true_eq, Bool.not_eq_true', decide_eq_false_iff_not, not_true_eq_false, not_false_eq_true, and_true, true_and, true_implies, List.length_cons, List.length_nil, Nat.zero_le, decide_true, decide_false, decide_not, ↓suIx0, ↓suIx1, ↓suIx2, ↓suIx3, ↓rwIx0, ↓rwIx1, ↓rwIx2, ↓rwIx3, ↓rwIx4, ↓rwIx5, ↓rwNo, ↓ddG, ↓ddS, ↓ddP, ↓ddGo, ↓liN, ↓liNe, ↓xFldX, ↓xFldWX, ↓xAppAX, ↓xAppBX, ↓xPop, ↓xPopK, ↓xLast, ↓xMthX, ↓xPrpX, ↓insU, ↓insN, ↓lsU, ↓lsN, ↓lk0, ↓lk1, ↓lk2, ↓lk3, ↓lk4, ↓lk5, ↓lk6, fl_len, pt2, pt3, pt4, pt5, pt6, ↓ins_at h.ins, ↓xLenR h.gon, List.length_map]
  exact fin hq
theorem sttIx1 {s : Stt} {M : Mp} {Q : DK} : dIxV s.d (.int 1) M Q = Q (tI s.line) M := by rw [Stt.d, xIxT, at1]
theorem sttIx2 {s : Stt} {M : Mp} {Q : DK} : dIxV s.d (.int 2) M Q = Q (.int s.singles) M := by rw [Stt.d, xIxT, at2]
theorem b_waiting {C ds M Q dx} (h : S_waiting C ds M Q dx) : d_Lift_waiting C (endD Q) (startD ["self"] ds) M := by
  obtain ⟨a, p, q, e, s, rfl, h, _, hq⟩ := h
  show d_Lift_waiting C (endD Q) [some (.ref a)] M
  unfold d_Lift_waiting
  simp only [↓xSeq, ↓xNx, ↓xRt, ↓xBk, ↓xCt, ↓xEndNx, ↓xEndRt, ↓xNext, ↓xBreak, ↓xCont, ↓xDrop, ↓xRet, ↓xRetN, ↓xNever, ↓xIfS, ↓xPut0, ↓xPutS, ↓xSet, ↓xAug, ↓xAsg, ↓xUn2, ↓xUn1, ↓xPar, ↓xNm, ↓xNl, ↓xCn, ↓xSq, ↓xSqL, ↓xV0, ↓xVS, ↓xC, ↓xFrz, ↓xFrz1, ↓xOp, ↓xBl, ↓xB, ↓xChain, ↓xAnd, ↓xOr, ↓xNot, ↓xAndV, ↓xOrV, ↓xNotV, ↓xIf, ↓xNil, ↓xCons, ↓xTup, ↓xLst, ↓xLstO, ↓xOpt, ↓xAddI, ↓xAddT, ↓xAddL, ↓xSub, ↓xIAdd, ↓xFdiv, ↓xMod, ↓xPow, ↓xMul, ↓xLt, ↓xLe, ↓xGt, ↓xGe, ↓xEqI, ↓xNeI, ↓xEqB, ↓xNeB, ↓xIsBB, ↓xIsNN, ↓xIsTN, ↓xIsLN, ↓xIsIN, ↓xIsSN, ↓xIsRN, ↓xNoBB, ↓xNoNN, ↓xNoTN, ↓xNoLN, ↓xNoIN, ↓xNoSN, ↓xNoRN, ↓xInT, ↓xIx, ↓xIxT, ↓xIxL, ↓at0, ↓at1, ↓at2, ↓at3, ↓at4, ↓at5, ↓xSl, ↓xNo, ↓xInt, ↓xPart, ↓xCutT, ↓xCutL, ↓xCB, ↓xLenT, ↓xLenL, ↓xIntI, ↓xTupT, ↓xTupL, ↓xLstT, ↓xLstL, ↓xIsiT, ↓xIsiI, ↓xIsiB, ↓xIsiS, ↓xMax2, ↓xMin2, ↓xSum, ↓xAll, ↓xApp, ↓xFld, ↓xFldS, ↓xGFd, ↓xCall, ↓xMeth, ↓xProp, ↓xNeg, ↓xNegI, if_true, if_false, Bool.false_eq_true, Bool.true_eq_false, reduceIte, Bool.not_true, Bool.not_false, decide_eq_true_eq, Bool.not_eq_true', decide_eq_false_iff_not, not_true_eq_false, not_false_eq_true, and_true, true_and, true_implies, List.length_cons, List.length_nil, Nat.zero_le, decide_true, decide_false, decide_not, ↓suIx0, ↓suIx1, ↓suIx2, ↓suIx3, ↓rwIx0, ↓rwIx1, ↓rwIx2, ↓rwIx3, ↓rwIx4, ↓rwIx5, ↓rwNo, ↓ddG, ↓ddS, ↓ddP, ↓ddGo, ↓liN, ↓liNe, ↓xFldX, ↓xFldWX, ↓xAppAX, ↓xAppBX, ↓xPop, ↓xPopK, ↓xLast, ↓xMthX, ↓xPrpX, ↓insU, ↓insN, ↓lsU, ↓lsN, ↓lk0, ↓lk1, ↓lk2, ↓lk3, ↓lk4, ↓lk5, ↓lk6, fl_len, pt2, pt3, pt4, pt5, pt6, ↓ins_at h.ins, ↓sttIx1, ↓sttIx2, List.length_map, le2]
  exact fin hq
theorem chIx0 {s : Ch} {M : Mp} {Q : DK} : dIxV s.d (.int 0) M Q = Q (.tup (s.deeds.map ddD)) M := by rw [Ch.d, xIxT, at0]
theorem chIx2 {s : Ch} {M : Mp} {Q : DK} : dIxV s.d (.int 2) M Q = Q (.int s.lost) M := by rw [Ch.d, xIxT, at2]
theorem chIx3 {s : Ch} {M : Mp} {Q : DK} : dIxV s.d (.int 3) M Q = Q (.tup [.int s.a0, .int s.a1]) M := by rw [Ch.d, xIxT, at3]
theorem up_lv {M : Mp} {p q : Addr} {o : MO} {xs : List D} (h : M q = some (.lst xs)) (hp : M p = none) : sv (upm M p o) (.ref q) = some xs := by
  have : q ≠ p := fun e => by subst e; rw [hp] at h; cases h
  show lvO (upm M p o q) = _
  rw [upm_ne this, h]; rfl
theorem at_lv {M : Mp} {q : Addr} {xs : List D} (h : M q = some (.lst xs)) : sv M (.ref q) = some xs := by
  show lvO (M q) = _
  rw [h]; rfl
theorem b_lost {C ds M Q dx} (h : S_lost C ds M Q dx) : d_Lift_lost C (endD Q) (startD ["self", "chair"] ds) M := by
  obtain ⟨a, p, q, e, s, rfl, h, o, hq⟩ := h
  show d_Lift_lost C (endD Q) [some (.ref a), none] M
  unfold d_Lift_lost
  simp only [↓xSeq, ↓xNx, ↓xRt, ↓xBk, ↓xCt, ↓xEndNx, ↓xEndRt, ↓xNext, ↓xBreak, ↓xCont, ↓xDrop, ↓xRet, ↓xRetN, ↓xNever, ↓xIfS, ↓xPut0, ↓xPutS, ↓xSet, ↓xAug, ↓xAsg, ↓xUn2, ↓xUn1, ↓xPar, ↓xNm, ↓xNl, ↓xCn, ↓xSq, ↓xSqL, ↓xV0, ↓xVS, ↓xC, ↓xFrz, ↓xFrz1, ↓xOp, ↓xBl, ↓xB, ↓xChain, ↓xAnd, ↓xOr, ↓xNot, ↓xAndV, ↓xOrV, ↓xNotV, ↓xIf, ↓xNil, ↓xCons, ↓xTup, ↓xLst, ↓xLstO, ↓xOpt, ↓xAddI, ↓xAddT, ↓xAddL, ↓xSub, ↓xIAdd, ↓xFdiv, ↓xMod, ↓xPow, ↓xMul, ↓xLt, ↓xLe, ↓xGt, ↓xGe, ↓xEqI, ↓xNeI, ↓xEqB, ↓xNeB, ↓xIsBB, ↓xIsNN, ↓xIsTN, ↓xIsLN, ↓xIsIN, ↓xIsSN, ↓xIsRN, ↓xNoBB, ↓xNoNN, ↓xNoTN, ↓xNoLN, ↓xNoIN, ↓xNoSN, ↓xNoRN, ↓xInT, ↓xIx, ↓xIxT, ↓xIxL, ↓at0, ↓at1, ↓at2, ↓at3, ↓at4, ↓at5, ↓xSl, ↓xNo, ↓xInt, ↓xPart, ↓xCutT, ↓xCutL, ↓xCB, ↓xLenT, ↓xLenL, ↓xIntI, ↓xTupT, ↓xTupL, ↓xLstT, ↓xLstL, ↓xIsiT, ↓xIsiI, ↓xIsiB, ↓xIsiS, ↓xMax2, ↓xMin2, ↓xSum, ↓xAll, ↓xApp, ↓xFld, ↓xFldS, ↓xGFd, ↓xCall, ↓xMeth, ↓xProp, ↓xNeg, ↓xNegI, if_true, if_false, Bool.false_eq_true, Bool.true_eq_false, reduceIte, Bool.not_true, Bool.not_false, decide_eq_true_eq, Bool.not_eq_true', decide_eq_false_iff_not, not_true_eq_false, not_false_eq_true, and_true, true_and, true_implies, List.length_cons, List.length_nil, Nat.zero_le, decide_true, decide_false, decide_not, ↓suIx0, ↓suIx1, ↓suIx2, ↓suIx3, ↓rwIx0, ↓rwIx1, ↓rwIx2, ↓rwIx3, ↓rwIx4, ↓rwIx5, ↓rwNo, ↓ddG, ↓ddS, ↓ddP, ↓ddGo, ↓liN, ↓liNe, ↓xFldX, ↓xFldWX, ↓xAppAX, ↓xAppBX, ↓xPop, ↓xPopK, ↓xLast, ↓xMthX, ↓xPrpX, ↓insU, ↓insN, ↓lsU, ↓lsN, ↓lk0, ↓lk1, ↓lk2, ↓lk3, ↓lk4, ↓lk5, ↓lk6, fl_len, pt2, pt3, pt4, pt5, pt6]
  refine lc_map Ch.d s.gone (fun c => .int c.lost) (x := .ref q) (fun Q q => by simp only [↓xSeq, ↓xNx, ↓xRt, ↓xBk, ↓xCt, ↓xEndNx, ↓xEndRt, ↓xNext, ↓xBreak, ↓xCont, ↓xDrop, ↓xRet, ↓xRetN, ↓xNever, ↓xIfS, ↓xPut0, ↓xPutS, ↓xSet, ↓xAug, ↓xAsg, ↓xUn2, ↓xUn1, ↓xPar, ↓xNm, ↓xNl, ↓xCn, ↓xSq, ↓xSqL, ↓xV0, ↓xVS, ↓xC, ↓xFrz, ↓xFrz1, ↓xOp, ↓xBl, ↓xB, ↓xChain, ↓xAnd, ↓xOr, ↓xNot, ↓xAndV, ↓xOrV, ↓xNotV, ↓xIf, ↓xNil, ↓xCons, ↓xTup, ↓xLst, ↓xLstO, ↓xOpt, ↓xAddI, ↓xAddT, ↓xAddL, ↓xSub, ↓xIAdd, ↓xFdiv, ↓xMod, ↓xPow, ↓xMul, ↓xLt, ↓xLe, ↓xGt, ↓xGe, ↓xEqI, ↓xNeI, ↓xEqB, ↓xNeB, ↓xIsBB, ↓xIsNN, ↓xIsTN, ↓xIsLN, ↓xIsIN, ↓xIsSN, ↓xIsRN, ↓xNoBB, ↓xNoNN, ↓xNoTN, ↓xNoLN, ↓xNoIN, ↓xNoSN, ↓xNoRN, ↓xInT, ↓xIx, ↓xIxT, ↓xIxL, ↓at0, ↓at1, ↓at2, ↓at3, ↓at4, ↓at5, ↓xSl, ↓xNo, ↓xInt, ↓xPart, ↓xCutT, ↓xCutL, ↓xCB, ↓xLenT, ↓xLenL, ↓xIntI, ↓xTupT, ↓xTupL, ↓xLstT, ↓xLstL, ↓xIsiT, ↓xIsiI, ↓xIsiB, ↓xIsiS, ↓xMax2, ↓xMin2, ↓xSum, ↓xAll, ↓xApp, ↓xFld, ↓xFldS, ↓xGFd, ↓xCall, ↓xMeth, ↓xProp, ↓xNeg, ↓xNegI, if_true, if_false, Bool.false_eq_true, Bool.true_eq_false, reduceIte, Bool.not_true, Bool.not_false, decide_eq_true_eq, Bool.not_eq_true', decide_eq_false_iff_not, not_true_eq_false, not_false_eq_true, and_true, true_and, true_implies, List.length_cons, List.length_nil, Nat.zero_le, decide_true, decide_false, decide_not, ↓suIx0, ↓suIx1, ↓suIx2, ↓suIx3, ↓rwIx0, ↓rwIx1, ↓rwIx2, ↓rwIx3, ↓rwIx4, ↓rwIx5, ↓rwNo, ↓ddG, ↓ddS, ↓ddP, ↓ddGo, ↓liN, ↓liNe, ↓xFldX, ↓xFldWX, ↓xAppAX, ↓xAppBX, ↓xPop, ↓xPopK, ↓xLast, ↓xMthX, ↓xPrpX, ↓insU, ↓insN, ↓lsU, ↓lsN, ↓lk0, ↓lk1, ↓lk2, ↓lk3, ↓lk4, ↓lk5, ↓lk6, fl_len, pt2, pt3, pt4, pt5, pt6, ↓ins_at h.ins]; exact q) (at_lv h.gon) (fun p o hp => up_lv h.gon hp) (Nat.le_trans o.gone (by decide)) (fun p ys i hp hi => ⟨_, rfl, fun Q q => ?_⟩) ?_
  · show dIx _ _ [some (.ref a), some i.d] _ _
    simp only [↓xSeq, ↓xNx, ↓xRt, ↓xBk, ↓xCt, ↓xEndNx, ↓xEndRt, ↓xNext, ↓xBreak, ↓xCont, ↓xDrop, ↓xRet, ↓xRetN, ↓xNever, ↓xIfS, ↓xPut0, ↓xPutS, ↓xSet, ↓xAug, ↓xAsg, ↓xUn2, ↓xUn1, ↓xPar, ↓xNm, ↓xNl, ↓xCn, ↓xSq, ↓xSqL, ↓xV0, ↓xVS, ↓xC, ↓xFrz, ↓xFrz1, ↓xOp, ↓xBl, ↓xB, ↓xChain, ↓xAnd, ↓xOr, ↓xNot, ↓xAndV, ↓xOrV, ↓xNotV, ↓xIf, ↓xNil, ↓xCons, ↓xTup, ↓xLst, ↓xLstO, ↓xOpt, ↓xAddI, ↓xAddT, ↓xAddL, ↓xSub, ↓xIAdd, ↓xFdiv, ↓xMod, ↓xPow, ↓xMul, ↓xLt, ↓xLe, ↓xGt, ↓xGe, ↓xEqI, ↓xNeI, ↓xEqB, ↓xNeB, ↓xIsBB, ↓xIsNN, ↓xIsTN, ↓xIsLN, ↓xIsIN, ↓xIsSN, ↓xIsRN, ↓xNoBB, ↓xNoNN, ↓xNoTN, ↓xNoLN, ↓xNoIN, ↓xNoSN, ↓xNoRN, ↓xInT, ↓xIx, ↓xIxT, ↓xIxL, ↓at0, ↓at1, ↓at2, ↓at3, ↓at4, ↓at5, ↓xSl, ↓xNo, ↓xInt, ↓xPart, ↓xCutT, ↓xCutL, ↓xCB, ↓xLenT, ↓xLenL, ↓xIntI, ↓xTupT, ↓xTupL, ↓xLstT, ↓xLstL, ↓xIsiT, ↓xIsiI, ↓xIsiB, ↓xIsiS, ↓xMax2, ↓xMin2, ↓xSum, ↓xAll, ↓xApp, ↓xFld, ↓xFldS, ↓xGFd, ↓xCall, ↓xMeth, ↓xProp, ↓xNeg, ↓xNegI, if_true, if_false, Bool.false_eq_true, Bool.true_eq_false, reduceIte, Bool.not_true, Bool.not_false, decide_eq_true_eq, Bool.not_eq_true', decide_eq_false_iff_not, not_true_eq_false, not_false_eq_true, and_true, true_and, true_implies, List.length_cons, List.length_nil, Nat.zero_le, decide_true, decide_false, decide_not, ↓suIx0, ↓suIx1, ↓suIx2, ↓suIx3, ↓rwIx0, ↓rwIx1, ↓rwIx2, ↓rwIx3, ↓rwIx4, ↓rwIx5, ↓rwNo, ↓ddG, ↓ddS, ↓ddP, ↓ddGo, ↓liN, ↓liNe, ↓xFldX, ↓xFldWX, ↓xAppAX, ↓xAppBX, ↓xPop, ↓xPopK, ↓xLast, ↓xMthX, ↓xPrpX, ↓insU, ↓insN, ↓lsU, ↓lsN, ↓lk0, ↓lk1, ↓lk2, ↓lk3, ↓lk4, ↓lk5, ↓lk6, fl_len, pt2, pt3, pt4, pt5, pt6, ↓chIx2]
    exact q
  · have e : s.gone.map (fun c => D.int c.lost) = (s.gone.map Ch.lost).map D.int := by rw [List.map_map]; rfl
    rw [e]
    simp only [↓xSeq, ↓xNx, ↓xRt, ↓xBk, ↓xCt, ↓xEndNx, ↓xEndRt, ↓xNext, ↓xBreak, ↓xCont, ↓xDrop, ↓xRet, ↓xRetN, ↓xNever, ↓xIfS, ↓xPut0, ↓xPutS, ↓xSet, ↓xAug, ↓xAsg, ↓xUn2, ↓xUn1, ↓xPar, ↓xNm, ↓xNl, ↓xCn, ↓xSq, ↓xSqL, ↓xV0, ↓xVS, ↓xC, ↓xFrz, ↓xFrz1, ↓xOp, ↓xBl, ↓xB, ↓xChain, ↓xAnd, ↓xOr, ↓xNot, ↓xAndV, ↓xOrV, ↓xNotV, ↓xIf, ↓xNil, ↓xCons, ↓xTup, ↓xLst, ↓xLstO, ↓xOpt, ↓xAddI, ↓xAddT, ↓xAddL, ↓xSub, ↓xIAdd, ↓xFdiv, ↓xMod, ↓xPow, ↓xMul, ↓xLt, ↓xLe, ↓xGt, ↓xGe, ↓xEqI, ↓xNeI, ↓xEqB, ↓xNeB, ↓xIsBB, ↓xIsNN, ↓xIsTN, ↓xIsLN, ↓xIsIN, ↓xIsSN, ↓xIsRN, ↓xNoBB, ↓xNoNN, ↓xNoTN, ↓xNoLN, ↓xNoIN, ↓xNoSN, ↓xNoRN, ↓xInT, ↓xIx, ↓xIxT, ↓xIxL, ↓at0, ↓at1, ↓at2, ↓at3, ↓at4, ↓at5, ↓xSl, ↓xNo, ↓xInt, ↓xPart, ↓xCutT, ↓xCutL, ↓xCB, ↓xLenT, ↓xLenL, ↓xIntI, ↓xTupT, ↓xTupL, ↓xLstT, ↓xLstL, ↓xIsiT, ↓xIsiI, ↓xIsiB, ↓xIsiS, ↓xMax2, ↓xMin2, ↓xSum, ↓xAll, ↓xApp, ↓xFld, ↓xFldS, ↓xGFd, ↓xCall, ↓xMeth, ↓xProp, ↓xNeg, ↓xNegI, if_true, if_false, Bool.false_eq_true, Bool.true_eq_false, reduceIte, Bool.not_true, Bool.not_false, decide_eq_true_eq, Bool.not_eq_true', decide_eq_false_iff_not, not_true_eq_false, not_false_eq_true, and_true, true_and, true_implies, List.length_cons, List.length_nil, Nat.zero_le, decide_true, decide_false, decide_not, ↓suIx0, ↓suIx1, ↓suIx2, ↓suIx3, ↓rwIx0, ↓rwIx1, ↓rwIx2, ↓rwIx3, ↓rwIx4, ↓rwIx5, ↓rwNo, ↓ddG, ↓ddS, ↓ddP, ↓ddGo, ↓liN, ↓liNe, ↓xFldX, ↓xFldWX, ↓xAppAX, ↓xAppBX, ↓xPop, ↓xPopK, ↓xLast, ↓xMthX, ↓xPrpX, ↓insU, ↓insN, ↓lsU, ↓lsN, ↓lk0, ↓lk1, ↓lk2, ↓lk3, ↓lk4, ↓lk5, ↓lk6, fl_len, pt2, pt3, pt4, pt5, pt6]
    exact fin hq
def Step.isB : Step → Bool
  | .beat _ => true
  | .rule _ => false
def Step.arg : Step → D
  | .beat c => c.d
  | .rule r => rl r
theorem stIx0 {s : Step} {M : Mp} {Q : DK} : dIxV s.d (.int 0) M Q = Q (.str (if s.isB then "beat" else "rule")) M := by
  cases s <;> (simp only [Step.d]; rw [xIxT, at0]; rfl)
theorem stIx1 {s : Step} {M : Mp} {Q : DK} : dIxV s.d (.int 1) M Q = Q s.arg M := by
  cases s <;> (simp only [Step.d]; rw [xIxT, at1]; rfl)
theorem eqBR {b : Bool} {M : Mp} {Q : DK} : dEq (.str (if b then "beat" else "rule")) (.str "beat") M Q = Q (.bl b) M := by
  cases b <;> (rw [xEqS, true_and_eq ⟨by decide +kernel, by decide +kernel⟩]; rfl)
theorem eqRB {b : Bool} {M : Mp} {Q : DK} : dEq (.str (if b then "beat" else "rule")) (.str "rule") M Q = Q (.bl (!b)) M := by
  cases b <;> (rw [xEqS, true_and_eq ⟨by decide +kernel, by decide +kernel⟩]; rfl)
theorem rows_arg : ∀ l : List Step, (l.filter Step.isB).map Step.arg = (l.filterMap Step.cm).map Cm.d
  | [] => rfl
  | .beat c :: l => by
    show (c.d :: (l.filter Step.isB).map Step.arg) = c.d :: (l.filterMap Step.cm).map Cm.d
    rw [rows_arg l]
  | .rule r :: l => rows_arg l
theorem b_row {C ds M Q dx} (h : S_row C ds M Q dx) : d_Lift_row C (endD Q) (startD ["self", "step"] ds) M := by
  obtain ⟨a, p, q, e, s, rfl, h, o, hq⟩ := h
  show d_Lift_row C (endD Q) [some (.ref a), none] M
  unfold d_Lift_row
  simp only [↓xSeq, ↓xNx, ↓xRt, ↓xBk, ↓xCt, ↓xEndNx, ↓xEndRt, ↓xNext, ↓xBreak, ↓xCont, ↓xDrop, ↓xRet, ↓xRetN, ↓xNever, ↓xIfS, ↓xPut0, ↓xPutS, ↓xSet, ↓xAug, ↓xAsg, ↓xUn2, ↓xUn1, ↓xPar, ↓xNm, ↓xNl, ↓xCn, ↓xSq, ↓xSqL, ↓xV0, ↓xVS, ↓xC, ↓xFrz, ↓xFrz1, ↓xOp, ↓xBl, ↓xB, ↓xChain, ↓xAnd, ↓xOr, ↓xNot, ↓xAndV, ↓xOrV, ↓xNotV, ↓xIf, ↓xNil, ↓xCons, ↓xTup, ↓xLst, ↓xLstO, ↓xOpt, ↓xAddI, ↓xAddT, ↓xAddL, ↓xSub, ↓xIAdd, ↓xFdiv, ↓xMod, ↓xPow, ↓xMul, ↓xLt, ↓xLe, ↓xGt, ↓xGe, ↓xEqI, ↓xNeI, ↓xEqB, ↓xNeB, ↓xIsBB, ↓xIsNN, ↓xIsTN, ↓xIsLN, ↓xIsIN, ↓xIsSN, ↓xIsRN, ↓xNoBB, ↓xNoNN, ↓xNoTN, ↓xNoLN, ↓xNoIN, ↓xNoSN, ↓xNoRN, ↓xInT, ↓xIx, ↓xIxT, ↓xIxL, ↓at0, ↓at1, ↓at2, ↓at3, ↓at4, ↓at5, ↓xSl, ↓xNo, ↓xInt, ↓xPart, ↓xCutT, ↓xCutL, ↓xCB, ↓xLenT, ↓xLenL, ↓xIntI, ↓xTupT, ↓xTupL, ↓xLstT, ↓xLstL, ↓xIsiT, ↓xIsiI, ↓xIsiB, ↓xIsiS, ↓xMax2, ↓xMin2, ↓xSum, ↓xAll, ↓xApp, ↓xFld, ↓xFldS, ↓xGFd, ↓xCall, ↓xMeth, ↓xProp, ↓xNeg, ↓xNegI, if_true, if_false, Bool.false_eq_true, Bool.true_eq_false, reduceIte, Bool.not_true, Bool.not_false, decide_eq_true_eq, Bool.not_eq_true', decide_eq_false_iff_not, not_true_eq_false, not_false_eq_true, and_true, true_and, true_implies, List.length_cons, List.length_nil, Nat.zero_le, decide_true, decide_false, decide_not, ↓suIx0, ↓suIx1, ↓suIx2, ↓suIx3, ↓rwIx0, ↓rwIx1, ↓rwIx2, ↓rwIx3, ↓rwIx4, ↓rwIx5, ↓rwNo, ↓ddG, ↓ddS, ↓ddP, ↓ddGo, ↓liN, ↓liNe, ↓xFldX, ↓xFldWX, ↓xAppAX, ↓xAppBX, ↓xPop, ↓xPopK, ↓xLast, ↓xMthX, ↓xPrpX, ↓insU, ↓insN, ↓lsU, ↓lsN, ↓lk0, ↓lk1, ↓lk2, ↓lk3, ↓lk4, ↓lk5, ↓lk6, fl_len, pt2, pt3, pt4, pt5, pt6]
  refine lc_pure (C := fun M' => sv M' (.ref p) = some (s.done.map Step.d)) Step.d s.done Step.isB Step.arg (fun RR hr => ?_) (fun p o hp => up_lv h.don hp) (Nat.le_trans o.done (by decide)) (fun p ys i hp hi => ⟨[some (.ref a), some i.d], rfl, fun Q q => ?_, fun _ Q q => ?_⟩) ?_
  · unfold dIsq
    simp only [↓xSeq, ↓xNx, ↓xRt, ↓xBk, ↓xCt, ↓xEndNx, ↓xEndRt, ↓xNext, ↓xBreak, ↓xCont, ↓xDrop, ↓xRet, ↓xRetN, ↓xNever, ↓xIfS, ↓xPut0, ↓xPutS, ↓xSet, ↓xAug, ↓xAsg, ↓xUn2, ↓xUn1, ↓xPar, ↓xNm, ↓xNl, ↓xCn, ↓xSq, ↓xSqL, ↓xV0, ↓xVS, ↓xC, ↓xFrz, ↓xFrz1, ↓xOp, ↓xBl, ↓xB, ↓xChain, ↓xAnd, ↓xOr, ↓xNot, ↓xAndV, ↓xOrV, ↓xNotV, ↓xIf, ↓xNil, ↓xCons, ↓xTup, ↓xLst, ↓xLstO, ↓xOpt, ↓xAddI, ↓xAddT, ↓xAddL, ↓xSub, ↓xIAdd, ↓xFdiv, ↓xMod, ↓xPow, ↓xMul, ↓xLt, ↓xLe, ↓xGt, ↓xGe, ↓xEqI, ↓xNeI, ↓xEqB, ↓xNeB, ↓xIsBB, ↓xIsNN, ↓xIsTN, ↓xIsLN, ↓xIsIN, ↓xIsSN, ↓xIsRN, ↓xNoBB, ↓xNoNN, ↓xNoTN, ↓xNoLN, ↓xNoIN, ↓xNoSN, ↓xNoRN, ↓xInT, ↓xIx, ↓xIxT, ↓xIxL, ↓at0, ↓at1, ↓at2, ↓at3, ↓at4, ↓at5, ↓xSl, ↓xNo, ↓xInt, ↓xPart, ↓xCutT, ↓xCutL, ↓xCB, ↓xLenT, ↓xLenL, ↓xIntI, ↓xTupT, ↓xTupL, ↓xLstT, ↓xLstL, ↓xIsiT, ↓xIsiI, ↓xIsiB, ↓xIsiS, ↓xMax2, ↓xMin2, ↓xSum, ↓xAll, ↓xApp, ↓xFld, ↓xFldS, ↓xGFd, ↓xCall, ↓xMeth, ↓xProp, ↓xNeg, ↓xNegI, if_true, if_false, Bool.false_eq_true, Bool.true_eq_false, reduceIte, Bool.not_true, Bool.not_false, decide_eq_true_eq, Bool.not_eq_true', decide_eq_false_iff_not, not_true_eq_false, not_false_eq_true, and_true, true_and, true_implies, List.length_cons, List.length_nil, Nat.zero_le, decide_true, decide_false, decide_not, ↓suIx0, ↓suIx1, ↓suIx2, ↓suIx3, ↓rwIx0, ↓rwIx1, ↓rwIx2, ↓rwIx3, ↓rwIx4, ↓rwIx5, ↓rwNo, ↓ddG, ↓ddS, ↓ddP, ↓ddGo, ↓liN, ↓liNe, ↓xFldX, ↓xFldWX, ↓xAppAX, ↓xAppBX, ↓xPop, ↓xPopK, ↓xLast, ↓xMthX, ↓xPrpX, ↓insU, ↓insN, ↓lsU, ↓lsN, ↓lk0, ↓lk1, ↓lk2, ↓lk3, ↓lk4, ↓lk5, ↓lk6, fl_len, pt2, pt3, pt4, pt5, pt6, ↓ins_at h.ins]
    exact ⟨_, at_lv h.don, hr⟩
  · simp only [↓xSeq, ↓xNx, ↓xRt, ↓xBk, ↓xCt, ↓xEndNx, ↓xEndRt, ↓xNext, ↓xBreak, ↓xCont, ↓xDrop, ↓xRet, ↓xRetN, ↓xNever, ↓xIfS, ↓xPut0, ↓xPutS, ↓xSet, ↓xAug, ↓xAsg, ↓xUn2, ↓xUn1, ↓xPar, ↓xNm, ↓xNl, ↓xCn, ↓xSq, ↓xSqL, ↓xV0, ↓xVS, ↓xC, ↓xFrz, ↓xFrz1, ↓xOp, ↓xBl, ↓xB, ↓xChain, ↓xAnd, ↓xOr, ↓xNot, ↓xAndV, ↓xOrV, ↓xNotV, ↓xIf, ↓xNil, ↓xCons, ↓xTup, ↓xLst, ↓xLstO, ↓xOpt, ↓xAddI, ↓xAddT, ↓xAddL, ↓xSub, ↓xIAdd, ↓xFdiv, ↓xMod, ↓xPow, ↓xMul, ↓xLt, ↓xLe, ↓xGt, ↓xGe, ↓xEqI, ↓xNeI, ↓xEqB, ↓xNeB, ↓xIsBB, ↓xIsNN, ↓xIsTN, ↓xIsLN, ↓xIsIN, ↓xIsSN, ↓xIsRN, ↓xNoBB, ↓xNoNN, ↓xNoTN, ↓xNoLN, ↓xNoIN, ↓xNoSN, ↓xNoRN, ↓xInT, ↓xIx, ↓xIxT, ↓xIxL, ↓at0, ↓at1, ↓at2, ↓at3, ↓at4, ↓at5, ↓xSl, ↓xNo, ↓xInt, ↓xPart, ↓xCutT, ↓xCutL, ↓xCB, ↓xLenT, ↓xLenL, ↓xIntI, ↓xTupT, ↓xTupL, ↓xLstT, ↓xLstL, ↓xIsiT, ↓xIsiI, ↓xIsiB, ↓xIsiS, ↓xMax2, ↓xMin2, ↓xSum, ↓xAll, ↓xApp, ↓xFld, ↓xFldS, ↓xGFd, ↓xCall, ↓xMeth, ↓xProp, ↓xNeg, ↓xNegI, if_true, if_false, Bool.false_eq_true, Bool.true_eq_false, reduceIte, Bool.not_true, Bool.not_false, decide_eq_true_eq, Bool.not_eq_true', decide_eq_false_iff_not, not_true_eq_false, not_false_eq_true, and_true, true_and, true_implies, List.length_cons, List.length_nil, Nat.zero_le, decide_true, decide_false, decide_not, ↓suIx0, ↓suIx1, ↓suIx2, ↓suIx3, ↓rwIx0, ↓rwIx1, ↓rwIx2, ↓rwIx3, ↓rwIx4, ↓rwIx5, ↓rwNo, ↓ddG, ↓ddS, ↓ddP, ↓ddGo, ↓liN, ↓liNe, ↓xFldX, ↓xFldWX, ↓xAppAX, ↓xAppBX, ↓xPop, ↓xPopK, ↓xLast, ↓xMthX, ↓xPrpX, ↓insU, ↓insN, ↓lsU, ↓lsN, ↓lk0, ↓lk1, ↓lk2, ↓lk3, ↓lk4, ↓lk5, ↓lk6, fl_len, pt2, pt3, pt4, pt5, pt6, ↓stIx0, ↓eqBR]
    exact q
  · simp only [↓xSeq, ↓xNx, ↓xRt, ↓xBk, ↓xCt, ↓xEndNx, ↓xEndRt, ↓xNext, ↓xBreak, ↓xCont, ↓xDrop, ↓xRet, ↓xRetN, ↓xNever, ↓xIfS, ↓xPut0, ↓xPutS, ↓xSet, ↓xAug, ↓xAsg, ↓xUn2, ↓xUn1, ↓xPar, ↓xNm, ↓xNl, ↓xCn, ↓xSq, ↓xSqL, ↓xV0, ↓xVS, ↓xC, ↓xFrz, ↓xFrz1, ↓xOp, ↓xBl, ↓xB, ↓xChain, ↓xAnd, ↓xOr, ↓xNot, ↓xAndV, ↓xOrV, ↓xNotV, ↓xIf, ↓xNil, ↓xCons, ↓xTup, ↓xLst, ↓xLstO, ↓xOpt, ↓xAddI, ↓xAddT, ↓xAddL, ↓xSub, ↓xIAdd, ↓xFdiv, ↓xMod, ↓xPow, ↓xMul, ↓xLt, ↓xLe, ↓xGt, ↓xGe, ↓xEqI, ↓xNeI, ↓xEqB, ↓xNeB, ↓xIsBB, ↓xIsNN, ↓xIsTN, ↓xIsLN, ↓xIsIN, ↓xIsSN, ↓xIsRN, ↓xNoBB, ↓xNoNN, ↓xNoTN, ↓xNoLN, ↓xNoIN, ↓xNoSN, ↓xNoRN, ↓xInT, ↓xIx, ↓xIxT, ↓xIxL, ↓at0, ↓at1, ↓at2, ↓at3, ↓at4, ↓at5, ↓xSl, ↓xNo, ↓xInt, ↓xPart, ↓xCutT, ↓xCutL, ↓xCB, ↓xLenT, ↓xLenL, ↓xIntI, ↓xTupT, ↓xTupL, ↓xLstT, ↓xLstL, ↓xIsiT, ↓xIsiI, ↓xIsiB, ↓xIsiS, ↓xMax2, ↓xMin2, ↓xSum, ↓xAll, ↓xApp, ↓xFld, ↓xFldS, ↓xGFd, ↓xCall, ↓xMeth, ↓xProp, ↓xNeg, ↓xNegI, if_true, if_false, Bool.false_eq_true, Bool.true_eq_false, reduceIte, Bool.not_true, Bool.not_false, decide_eq_true_eq, Bool.not_eq_true', decide_eq_false_iff_not, not_true_eq_false, not_false_eq_true, and_true, true_and, true_implies, List.length_cons, List.length_nil, Nat.zero_le, decide_true, decide_false, decide_not, ↓suIx0, ↓suIx1, ↓suIx2, ↓suIx3, ↓rwIx0, ↓rwIx1, ↓rwIx2, ↓rwIx3, ↓rwIx4, ↓rwIx5, ↓rwNo, ↓ddG, ↓ddS, ↓ddP, ↓ddGo, ↓liN, ↓liNe, ↓xFldX, ↓xFldWX, ↓xAppAX, ↓xAppBX, ↓xPop, ↓xPopK, ↓xLast, ↓xMthX, ↓xPrpX, ↓insU, ↓insN, ↓lsU, ↓lsN, ↓lk0, ↓lk1, ↓lk2, ↓lk3, ↓lk4, ↓lk5, ↓lk6, fl_len, pt2, pt3, pt4, pt5, pt6, ↓stIx1]
    exact q
  · rw [rows_arg]
    exact fin hq
end DL

/-! A lift that is made, moved on, taken back, copied, compared. -/
namespace DL
open PySem PySem.Spec PyProof.Rows L2
theorem up_none {M : Mp} {a p : Addr} {o : MO} (h : upm M a o p = none) : p ≠ a ∧ M p = none := by
  by_cases e : p = a
  · subst e; rw [upm_same] at h; cases h
  · exact ⟨e, by rw [upm_ne e] at h; exact h⟩
theorem Keeps.refl {M : Mp} {xs : List Addr} : Keeps M M xs := fun _ _ h _ => h
theorem Keeps.trans {M M1 M2 : Mp} {xs : List Addr} (h : Keeps M M1 xs) (k : Keeps M1 M2 xs) : Keeps M M2 xs := fun x o e n => k x o (h x o e n) n
theorem Keeps.up {M M1 : Mp} {xs : List Addr} {p : Addr} {o : MO} (h : Keeps M M1 xs) (hp : p ∈ xs ∨ M p = none) : Keeps M (upm M1 p o) xs := fun x o' e n => by
  have : x ≠ p := fun e' => by
    subst e'
    rcases hp with hp | hp
    · exact n hp
    · rw [hp] at e; cases e
  rw [upm_ne this]
  exact h x o' e n
theorem ne_of {M : Mp} {a p : Addr} {o : MO} (h : M a = some o) (hp : M p = none) : p ≠ a ∧ a ≠ p := by
  have : p ≠ a := fun e => by
    subst e; rw [h] at hp; cases hp
  exact ⟨this, this.symm⟩
/-- another lift, another object stand where they stood -/
theorem LiftAt.keep {C a p q e : Addr} {M M' : Mp} {s : LS} {xs : List Addr} (h : LiftAt C M a p q e s) (k : Keeps M M' xs) (n : a ∉ xs ∧ p ∉ xs ∧ q ∉ xs ∧ e ∉ xs) : LiftAt C M' a p q e s :=
  ⟨k _ _ h.ins n.1, k _ _ h.don n.2.1, k _ _ h.gon n.2.2.1, k _ _ h.ear n.2.2.2, h.pa, h.qa, h.ea, h.qp, h.ep, h.eq⟩
def S_init (C : Addr) : DSp := fun ds M Q _ => ∃ a su r, ds = [.ref a, su.d, rl r] ∧ (su.ok ∧ Rok r) ∧ M a = some (.ins C []) ∧
  ∀ p q e M', LiftAt C M' a p q e (LS.init su r) → M p = none → M q = none → M e = none → Keeps M M' [a] → Q .non M'
theorem b_init {C ds M Q dx} (h : S_init C ds M Q dx) : d_Lift___init__ C S_check_both S_first_state (endD Q) (startD ["self", "setup", "rule"] ds) M := by
  obtain ⟨a, su, r, rfl, ⟨o1, o2⟩, hm, hq⟩ := h
  show d_Lift___init__ C _ _ (endD Q) [some (.ref a), some su.d, some (rl r)] M
  unfold d_Lift___init__
  simp only [↓xSeq, ↓xNx, ↓xRt, ↓xBk, ↓xCt, ↓xEndNx, ↓xEndRt, ↓xNext, ↓xBreak, ↓xCont, ↓xDrop, ↓xRet, ↓xRetN, ↓xNever, ↓xIfS, ↓xPut0, ↓xPutS, ↓xSet, ↓xAug, ↓xAsg, ↓xUn2, ↓xUn1, ↓xPar, ↓xNm, ↓xNl, ↓xCn, ↓xSq, ↓xSqL, ↓xV0, ↓xVS, ↓xC, ↓xFrz, ↓xFrz1, ↓xOp, ↓xBl, ↓xB, ↓xChain, ↓xAnd, ↓xOr, ↓xNot, ↓xAndV, ↓xOrV, ↓xNotV, ↓xIf, ↓xNil, ↓xCons, ↓xTup, ↓xLst, ↓xLstO, ↓xOpt, ↓xAddI, ↓xAddT, ↓xAddL, ↓xSub, ↓xIAdd, ↓xFdiv, ↓xMod, ↓xPow, ↓xMul, ↓xLt, ↓xLe, ↓xGt, ↓xGe, ↓xEqI, ↓xNeI, ↓xEqB, ↓xNeB, ↓xIsBB, ↓xIsNN, ↓xIsTN, ↓xIsLN, ↓xIsIN, ↓xIsSN, ↓xIsRN, ↓xNoBB, ↓xNoNN, ↓xNoTN, ↓xNoLN, ↓xNoIN, ↓xNoSN, ↓xNoRN, ↓xInT, ↓xIx, ↓xIxT, ↓xIxL, ↓at0, ↓at1, ↓at2, ↓at3, ↓at4, ↓at5, ↓xSl, ↓xNo, ↓xInt, ↓xPart, ↓xCutT, ↓xCutL, ↓xCB, ↓xLenT, ↓xLenL, ↓xIntI, ↓xTupT, ↓xTupL, ↓xLstT, ↓xLstL, ↓xIsiT, ↓xIsiI, ↓xIsiB, ↓xIsiS, ↓xMax2, ↓xMin2, ↓xSum, ↓xAll, ↓xApp, ↓xFld, ↓xFldS, ↓xGFd, ↓xCall, ↓xMeth, ↓xProp, ↓xNeg, ↓xNegI, if_true, if_false, Bool.false_eq_true, Bool.true_eq_false, reduceIte, Bool.not_true, Bool.not_false, decide_eq_true_eq, Bool.not_eq_true', decide_eq_false_iff_not, not_true_eq_false, not_false_eq_true, and_true, true_and, true_implies, List.length_cons, List.length_nil, Nat.zero_le, decide_true, decide_false, decide_not, ↓suIx0, ↓suIx1, ↓suIx2, ↓suIx3, ↓rwIx0, ↓rwIx1, ↓rwIx2, ↓rwIx3, ↓rwIx4, ↓rwIx5, ↓rwNo, ↓ddG, ↓ddS, ↓ddP, ↓ddGo, ↓liN, ↓liNe, ↓xFldX, ↓xFldWX, ↓xAppAX, ↓xAppBX, ↓xPop, ↓xPopK, ↓xLast, ↓xMthX, ↓xPrpX, ↓insU, ↓insN, ↓lsU, ↓lsN, ↓lk0, ↓lk1, ↓lk2, ↓lk3, ↓lk4, ↓lk5, ↓lk6, fl_len, pt2, pt3, pt4, pt5, pt6, ↓x_check_both, ↓x_first_state, ↓ins_at hm]
  refine ⟨⟨o1, o2⟩, by decide, by show 1 < 1000; decide, by show 2 < 1000; decide, by show 3 < 1000; decide, fun p hp => ?_⟩
  simp only [upm_upm] at hp ⊢
  obtain ⟨p1, p2⟩ := up_none hp
  have p1' := p1.symm
  simp only [↓xSeq, ↓xNx, ↓xRt, ↓xBk, ↓xCt, ↓xEndNx, ↓xEndRt, ↓xNext, ↓xBreak, ↓xCont, ↓xDrop, ↓xRet, ↓xRetN, ↓xNever, ↓xIfS, ↓xPut0, ↓xPutS, ↓xSet, ↓xAug, ↓xAsg, ↓xUn2, ↓xUn1, ↓xPar, ↓xNm, ↓xNl, ↓xCn, ↓xSq, ↓xSqL, ↓xV0, ↓xVS, ↓xC, ↓xFrz, ↓xFrz1, ↓xOp, ↓xBl, ↓xB, ↓xChain, ↓xAnd, ↓xOr, ↓xNot, ↓xAndV, ↓xOrV, ↓xNotV, ↓xIf, ↓xNil, ↓xCons, ↓xTup, ↓xLst, ↓xLstO, ↓xOpt, ↓xAddI, ↓xAddT, ↓xAddL, ↓xSub, ↓xIAdd, ↓xFdiv, ↓xMod, ↓xPow, ↓xMul, ↓xLt, ↓xLe, ↓xGt, ↓xGe, ↓xEqI, ↓xNeI, ↓xEqB, ↓xNeB, ↓xIsBB, ↓xIsNN, ↓xIsTN, ↓xIsLN, ↓xIsIN, ↓xIsSN, ↓xIsRN, ↓xNoBB, ↓xNoNN, ↓xNoTN, ↓xNoLN, ↓xNoIN, ↓xNoSN, ↓xNoRN, ↓xInT, ↓xIx, ↓xIxT, ↓xIxL, ↓at0, ↓at1, ↓at2, ↓at3, ↓at4, ↓at5, ↓xSl, ↓xNo, ↓xInt, ↓xPart, ↓xCutT, ↓xCutL, ↓xCB, ↓xLenT, ↓xLenL, ↓xIntI, ↓xTupT, ↓xTupL, ↓xLstT, ↓xLstL, ↓xIsiT, ↓xIsiI, ↓xIsiB, ↓xIsiS, ↓xMax2, ↓xMin2, ↓xSum, ↓xAll, ↓xApp, ↓xFld, ↓xFldS, ↓xGFd, ↓xCall, ↓xMeth, ↓xProp, ↓xNeg, ↓xNegI, if_true, if_false, Bool.false_eq_true, Bool.true_eq_false, reduceIte, Bool.not_true, Bool.not_false, decide_eq_true_eq, Bool.not_eq_true', decide_eq_false_iff_not, not_true_eq_false, not_false_eq_true, and_true, true_and, true_implies, List.length_cons, List.length_nil, Nat.zero_le, decide_true, decide_false, decide_not, ↓suIx0, ↓suIx1, ↓suIx2, ↓suIx3, ↓rwIx0, ↓rwIx1, ↓rwIx2, ↓rwIx3, ↓rwIx4, ↓rwIx5, ↓rwNo, ↓ddG, ↓ddS, ↓ddP, ↓ddGo, ↓liN, ↓liNe, ↓xFldX, ↓xFldWX, ↓xAppAX, ↓xAppBX, ↓xPop, ↓xPopK, ↓xLast, ↓xMthX, ↓xPrpX, ↓insU, ↓insN, ↓lsU, ↓lsN, ↓lk0, ↓lk1, ↓lk2, ↓lk3, ↓lk4, ↓lk5, ↓lk6, fl_len, pt2, pt3, pt4, pt5, pt6, ↓ins_at hm, p1, p1', ne_eq, not_false_eq_true]
  refine ⟨by show 4 < 1000; decide, fun q hq' => ?_⟩
  obtain ⟨q1, q2⟩ := up_none hq'
  obtain ⟨q3, q2⟩ := up_none q2
  obtain ⟨q4, q2⟩ := up_none q2
  have q1' := q1.symm
  have q3' := q3.symm
  simp only [↓xSeq, ↓xNx, ↓xRt, ↓xBk, ↓xCt, ↓xEndNx, ↓xEndRt, ↓xNext, ↓xBreak, ↓xCont, ↓xDrop, ↓xRet, ↓xRetN, ↓xNever, ↓xIfS, ↓xPut0, ↓xPutS, ↓xSet, ↓xAug, ↓xAsg, ↓xUn2, ↓xUn1, ↓xPar, ↓xNm, ↓xNl, ↓xCn, ↓xSq, ↓xSqL, ↓xV0, ↓xVS, ↓xC, ↓xFrz, ↓xFrz1, ↓xOp, ↓xBl, ↓xB, ↓xChain, ↓xAnd, ↓xOr, ↓xNot, ↓xAndV, ↓xOrV, ↓xNotV, ↓xIf, ↓xNil, ↓xCons, ↓xTup, ↓xLst, ↓xLstO, ↓xOpt, ↓xAddI, ↓xAddT, ↓xAddL, ↓xSub, ↓xIAdd, ↓xFdiv, ↓xMod, ↓xPow, ↓xMul, ↓xLt, ↓xLe, ↓xGt, ↓xGe, ↓xEqI, ↓xNeI, ↓xEqB, ↓xNeB, ↓xIsBB, ↓xIsNN, ↓xIsTN, ↓xIsLN, ↓xIsIN, ↓xIsSN, ↓xIsRN, ↓xNoBB, ↓xNoNN, ↓xNoTN, ↓xNoLN, ↓xNoIN, ↓xNoSN, ↓xNoRN, ↓xInT, ↓xIx, ↓xIxT, ↓xIxL, ↓at0, ↓at1, ↓at2, ↓at3, ↓at4, ↓at5, ↓xSl, ↓xNo, ↓xInt, ↓xPart, ↓xCutT, ↓xCutL, ↓xCB, ↓xLenT, ↓xLenL, ↓xIntI, ↓xTupT, ↓xTupL, ↓xLstT, ↓xLstL, ↓xIsiT, ↓xIsiI, ↓xIsiB, ↓xIsiS, ↓xMax2, ↓xMin2, ↓xSum, ↓xAll, ↓xApp, ↓xFld, ↓xFldS, ↓xGFd, ↓xCall, ↓xMeth, ↓xProp, ↓xNeg, ↓xNegI, if_true, if_false, Bool.false_eq_true, Bool.true_eq_false, reduceIte, Bool.not_true, Bool.not_false, decide_eq_true_eq, Bool.not_eq_true', decide_eq_false_iff_not, not_true_eq_false, not_false_eq_true, and_true, true_and, true_implies, List.length_cons, List.length_nil, Nat.zero_le, decide_true, decide_false, decide_not, ↓suIx0, ↓suIx1, ↓suIx2, ↓suIx3, ↓rwIx0, ↓rwIx1, ↓rwIx2, ↓rwIx3, ↓rwIx4, ↓rwIx5, ↓rwNo, ↓ddG, ↓ddS, ↓ddP, ↓ddGo, ↓liN, ↓liNe, ↓xFldX, ↓xFldWX, ↓xAppAX, ↓xAppBX, ↓xPop, ↓xPopK, ↓xLast, ↓xMthX, ↓xPrpX, ↓insU, ↓insN, ↓lsU, ↓lsN, ↓lk0, ↓lk1, ↓lk2, ↓lk3, ↓lk4, ↓lk5, ↓lk6, fl_len, pt2, pt3, pt4, pt5, pt6, q1, q1', q3, q3', p1, p1', ne_eq, not_false_eq_true]
  refine ⟨by show 5 < 1000; decide, fun e he => ?_⟩
  obtain ⟨e1, e2⟩ := up_none he
  obtain ⟨e3, e2⟩ := up_none e2
  obtain ⟨e4, e2⟩ := up_none e2
  obtain ⟨e5, e2⟩ := up_none e2
  obtain ⟨e6, e2⟩ := up_none e2
  have e1' := e1.symm
  have e3' := e3.symm
  have e5' := e5.symm
  simp only [↓xSeq, ↓xNx, ↓xRt, ↓xBk, ↓xCt, ↓xEndNx, ↓xEndRt, ↓xNext, ↓xBreak, ↓xCont, ↓xDrop, ↓xRet, ↓xRetN, ↓xNever, ↓xIfS, ↓xPut0, ↓xPutS, ↓xSet, ↓xAug, ↓xAsg, ↓xUn2, ↓xUn1, ↓xPar, ↓xNm, ↓xNl, ↓xCn, ↓xSq, ↓xSqL, ↓xV0, ↓xVS, ↓xC, ↓xFrz, ↓xFrz1, ↓xOp, ↓xBl, ↓xB, ↓xChain, ↓xAnd, ↓xOr, ↓xNot, ↓xAndV, ↓xOrV, ↓xNotV, ↓xIf, ↓xNil, ↓xCons, ↓xTup, ↓xLst, ↓xLstO, ↓xOpt, ↓xAddI, ↓xAddT, ↓xAddL, ↓xSub, ↓xIAdd, ↓xFdiv, ↓xMod, ↓xPow, ↓xMul, ↓xLt, ↓xLe, ↓xGt, ↓xGe, ↓xEqI, ↓xNeI, ↓xEqB, ↓xNeB, ↓xIsBB, ↓xIsNN, ↓xIsTN, ↓xIsLN, ↓xIsIN, ↓xIsSN, ↓xIsRN, ↓xNoBB, ↓xNoNN, ↓xNoTN, ↓xNoLN, ↓xNoIN, ↓xNoSN, ↓xNoRN, ↓xInT, ↓xIx, ↓xIxT, ↓xIxL, ↓at0, ↓at1, ↓at2, ↓at3, ↓at4, ↓at5, ↓xSl, ↓xNo, ↓xInt, ↓xPart, ↓xCutT, ↓xCutL, ↓xCB, ↓xLenT, ↓xLenL, ↓xIntI, ↓xTupT, ↓xTupL, ↓xLstT, ↓xLstL, ↓xIsiT, ↓xIsiI, ↓xIsiB, ↓xIsiS, ↓xMax2, ↓xMin2, ↓xSum, ↓xAll, ↓xApp, ↓xFld, ↓xFldS, ↓xGFd, ↓xCall, ↓xMeth, ↓xProp, ↓xNeg, ↓xNegI, if_true, if_false, Bool.false_eq_true, Bool.true_eq_false, reduceIte, Bool.not_true, Bool.not_false, decide_eq_true_eq, Bool.not_eq_true', decide_eq_false_iff_not, not_true_eq_false, not_false_eq_true, and_true, true_and, true_implies, List.length_cons, List.length_nil, Nat.zero_le, decide_true, decide_false, decide_not, ↓suIx0, ↓suIx1, ↓suIx2, ↓suIx3, ↓rwIx0, ↓rwIx1, ↓rwIx2, ↓rwIx3, ↓rwIx4, ↓rwIx5, ↓rwNo, ↓ddG, ↓ddS, ↓ddP, ↓ddGo, ↓liN, ↓liNe, ↓xFldX, ↓xFldWX, ↓xAppAX, ↓xAppBX, ↓xPop, ↓xPopK, ↓xLast, ↓xMthX, ↓xPrpX, ↓insU, ↓insN, ↓lsU, ↓lsN, ↓lk0, ↓lk1, ↓lk2, ↓lk3, ↓lk4, ↓lk5, ↓lk6, fl_len, pt2, pt3, pt4, pt5, pt6, e1, e1', e3, e3', e5, e5', q1, q1', q3, q3', p1, p1', ne_eq, not_false_eq_true]
  refine ⟨by show 6 < 1000; decide, fin (hq p q e _ ⟨?_, ?_, ?_, ?_, p1, q1, e1, q3, e5, e3⟩ p2 q2 e2 ?_)⟩
  · rw [upm_same]; rfl
  · rw [upm_ne p1, upm_ne e5', upm_ne p1, upm_ne q3', upm_ne p1, upm_same]; rfl
  · rw [upm_ne q1, upm_ne e3', upm_ne q1, upm_same]; rfl
  · rw [upm_ne e1, upm_same]; rfl
  · exact ((((((Keeps.refl.up (.inl (List.mem_singleton.mpr rfl))).up (.inr p2)).up (.inl (List.mem_singleton.mpr rfl))).up (.inr q2)).up (.inl (List.mem_singleton.mpr rfl))).up (.inr e2)).up (.inl (List.mem_singleton.mpr rfl))

theorem xIsComersL {s : Su} {g : List Int} {m : Int} {M : Mp} {Q : DK} {dx : DX} : S_is_comers [s.d, .tup [tI g, .int m]] M Q dx = ((s.ok ∧ (⟨g, m⟩ : Cm).ok s) ∧ Q (.bl true) M) := x_is_comers (c := ⟨g, m⟩)
theorem run_one {s : Su} {r : List Rw} {t : Stt} {c : Cm} {M : Mp} {Q : DK} {dx : DX} (h : (s.ok ∧ t.ok s ∧ c.groups.length ≤ 900) ∧ Q (.tup [.lst [(chair s r t c).d], (after s r t c).d]) M) : S_run [s.d, rl r, t.d, .lst [c.d]] M Q dx :=
  ⟨s, r, t, [c], .lst [c.d], rfl, .inl rfl, ⟨h.1.1, h.1.2.1, (by show 1 ≤ 9000; decide), fun x hx => by rw [List.mem_singleton.mp hx]; exact h.1.2.2⟩, h.2⟩
theorem x_run1 {s : Su} {r : List Rw} {t : Stt} {g : List Int} {m : Int} {M : Mp} {Q : DK} {dx : DX} : S_run [s.d, rl r, t.d, .lst [.tup [tI g, .int m]]] M Q dx =
    ((s.ok ∧ t.ok s ∧ g.length ≤ 900) ∧ Q (.tup [.lst [(chair s r t ⟨g, m⟩).d], (after s r t ⟨g, m⟩).d]) M) :=
  propext ⟨fun ⟨s', r', t', cs, w, e, hw, h, q⟩ => by
    simp only [List.cons.injEq, Su.inj, rl_inj, Stt.inj, and_true] at e
    obtain ⟨rfl, rfl, rfl, rfl⟩ := e
    have : cs = [⟨g, m⟩] := by
      rcases hw with hw | hw
      · have hw : [(⟨g, m⟩ : Cm)].map Cm.d = cs.map Cm.d := by injection hw
        exact (List.map_inj_right (fun _ _ h => Cm.inj.mp h) |>.mp hw).symm
      · cases hw
    subst this
    exact ⟨⟨h.1, h.2.1, h.2.2.2 _ (List.mem_singleton.mpr rfl)⟩, q⟩, fun h => run_one (c := ⟨g, m⟩) h⟩
def S_lbeat (C : Addr) : DSp := fun ds M Q _ => ∃ a p q e s c, ds = [.ref a, tI c.groups, .int c.more] ∧ LiftAt C M a p q e s ∧ s.ok ∧ c.ok s.su ∧ ∀ M', LiftAt C M' a p q e (s.act (.beat c)) → Keeps M M' [a, p, q, e] → Q (s.answer (.beat c)) M'
theorem len_line {n : Nat} (h : n ≤ 5000) : n < sizeLine := Nat.lt_of_le_of_lt h (by decide)
theorem comers_len {s : Su} {c : Cm} (hs : s.ok) (h : c.ok s) : c.groups.length ≤ 900 := by have := h.gl; have := hs.c2; omega
theorem b_lbeat {C ds M Q dx} (h : S_lbeat C ds M Q dx) : d_Lift_beat C S_is_comers S_run (endD Q) (startD ["self", "groups", "singles", "comers", "chairs", "after"] ds) M := by
  obtain ⟨a, p, q, e, s, c, rfl, h, o, oc, hq⟩ := h
  show d_Lift_beat C _ _ (endD Q) [some (.ref a), some (tI c.groups), some (.int c.more), none, none, none] M
  obtain ⟨⟨n1, n2⟩, ⟨n3, n4⟩, ⟨n5, n6⟩, ⟨n7, n8⟩, ⟨n9, n10⟩, ⟨n11, n12⟩⟩ := h.ne
  unfold d_Lift_beat
  simp only [↓xSeq, ↓xNx, ↓xRt, ↓xBk, ↓xCt, ↓xEndNx, ↓xEndRt, ↓xNext, ↓xBreak, ↓xCont, ↓xDrop, ↓xRet, ↓xRetN, ↓xNever, ↓xIfS, ↓xPut0, ↓xPutS, ↓xSet, ↓xAug, ↓xAsg, ↓xUn2, ↓xUn1, ↓xPar, ↓xNm, ↓xNl, ↓xCn, ↓xSq, ↓xSqL, ↓xV0, ↓xVS, ↓xC, ↓xFrz, ↓xFrz1, ↓xOp, ↓xBl, ↓xB, ↓xChain, ↓xAnd, ↓xOr, ↓xNot, ↓xAndV, ↓xOrV, ↓xNotV, ↓xIf, ↓xNil, ↓xCons, ↓xTup, ↓xLst, ↓xLstO, ↓xOpt, ↓xAddI, ↓xAddT, ↓xAddL, ↓xSub, ↓xIAdd, ↓xFdiv, ↓xMod, ↓xPow, ↓xMul, ↓xLt, ↓xLe, ↓xGt, ↓xGe, ↓xEqI, ↓xNeI, ↓xEqB, ↓xNeB, ↓xIsBB, ↓xIsNN, ↓xIsTN, ↓xIsLN, ↓xIsIN, ↓xIsSN, ↓xIsRN, ↓xNoBB, ↓xNoNN, ↓xNoTN, ↓xNoLN, ↓xNoIN, ↓xNoSN, ↓xNoRN, ↓xInT, ↓xIx, ↓xIxT, ↓xIxL, ↓at0, ↓at1, ↓at2, ↓at3, ↓at4, ↓at5, ↓xSl, ↓xNo, ↓xInt, ↓xPart, ↓xCutT, ↓xCutL, ↓xCB, ↓xLenT, ↓xLenL, ↓xIntI, ↓xTupT, ↓xTupL, ↓xLstT, ↓xLstL, ↓xIsiT, ↓xIsiI, ↓xIsiB, ↓xIsiS, ↓xMax2, ↓xMin2, ↓xSum, ↓xAll, ↓xApp, ↓xFld, ↓xFldS, ↓xGFd, ↓xCall, ↓xMeth, ↓xProp, ↓xNeg, ↓xNegI, if_true, if_false, Bool.false_eq_true, Bool.true_eq_false, reduceIte, Bool.not_true, Bool.not_false, decide_eq_true_eq, Bool.not_eq_true', decide_eq_false_iff_not, not_true_eq_false, not_false_eq_true, and_true, true_and, true_implies, List.length_cons, List.length_nil, Nat.zero_le, decide_true, decide_false, decide_not, ↓suIx0, ↓suIx1, ↓suIx2, ↓suIx3, ↓rwIx0, ↓rwIx1, ↓rwIx2, ↓rwIx3, ↓rwIx4, ↓rwIx5, ↓rwNo, ↓ddG, ↓ddS, ↓ddP, ↓ddGo, ↓liN, ↓liNe, ↓xFldX, ↓xFldWX, ↓xAppAX, ↓xAppBX, ↓xPop, ↓xPopK, ↓xLast, ↓xMthX, ↓xPrpX, ↓insU, ↓insN, ↓lsU, ↓lsN, ↓lk0, ↓lk1, ↓lk2, ↓lk3, ↓lk4, ↓lk5, ↓lk6, fl_len, pt2, pt3, pt4, pt5, pt6, ↓xIsComersL, ↓x_run1, ↓ins_at h.ins, ↓ls_at h.don, ↓ls_at h.gon, ↓ls_at h.ear, n1, n2, n3, n4, n5, n6, n7, n8, n9, n10, n11, n12, ne_eq, not_false_eq_true, le1, le2, List.length_map]
  refine ⟨⟨o.su, oc⟩, ⟨o.su, o.here, comers_len o.su oc⟩, len_line o.earlier, len_line o.done, len_line o.gone, fin (hq _ ⟨?_, ?_, ?_, ?_, n1, n3, n5, n7, n9, n11⟩ ?_)⟩
  · rw [upm_same]; rfl
  · rw [upm_ne n1, upm_ne n8, upm_same]
    show _ = some (MO.lst ((s.done ++ [Step.beat c]).map Step.d))
    rw [List.map_append]; rfl
  · rw [upm_ne n3, upm_same]
    show _ = some (MO.lst ((s.gone ++ [chair s.su s.present s.here c]).map Ch.d))
    rw [List.map_append]; rfl
  · rw [upm_ne n5, upm_ne n11, upm_ne n9, upm_same]
    show _ = some (MO.lst ((s.earlier ++ [(s.present, s.here)]).map eaD))
    rw [List.map_append]; rfl
  · exact (((Keeps.refl.up (.inl (by simp))).up (.inl (by simp))).up (.inl (by simp))).up (.inl (by simp))
def S_change (C : Addr) : DSp := fun ds M Q _ => ∃ a p q e s r, ds = [.ref a, rl r] ∧ LiftAt C M a p q e s ∧ s.ok ∧ Rok r ∧ ∀ M', LiftAt C M' a p q e (s.act (.rule r)) → Keeps M M' [a, p, q, e] → Q .non M'
theorem b_change {C ds M Q dx} (h : S_change C ds M Q dx) : d_Lift_change_rule C S_is_rule (endD Q) (startD ["self", "rule"] ds) M := by
  obtain ⟨a, p, q, e, s, r, rfl, h, o, oc, hq⟩ := h
  show d_Lift_change_rule C _ (endD Q) [some (.ref a), some (rl r)] M
  obtain ⟨⟨n1, n2⟩, ⟨n3, n4⟩, ⟨n5, n6⟩, ⟨n7, n8⟩, ⟨n9, n10⟩, ⟨n11, n12⟩⟩ := h.ne
  unfold d_Lift_change_rule
  simp only [↓xSeq, ↓xNx, ↓xRt, ↓xBk, ↓xCt, ↓xEndNx, ↓xEndRt, ↓xNext, ↓xBreak, ↓xCont, ↓xDrop, ↓xRet, ↓xRetN, ↓xNever, ↓xIfS, ↓xPut0, ↓xPutS, ↓xSet, ↓xAug, ↓xAsg, ↓xUn2, ↓xUn1, ↓xPar, ↓xNm, ↓xNl, ↓xCn, ↓xSq, ↓xSqL, ↓xV0, ↓xVS, ↓xC, ↓xFrz, ↓xFrz1, ↓xOp, ↓xBl, ↓xB, ↓xChain, ↓xAnd, ↓xOr, ↓xNot, ↓xAndV, ↓xOrV, ↓xNotV, ↓xIf, ↓xNil, ↓xCons, ↓xTup, ↓xLst, ↓xLstO, ↓xOpt, ↓xAddI, ↓xAddT, ↓xAddL, ↓xSub, ↓xIAdd, ↓xFdiv, ↓xMod, ↓xPow, ↓xMul, ↓xLt, ↓xLe, ↓xGt, ↓xGe, ↓xEqI, ↓xNeI, ↓xEqB, ↓xNeB, ↓xIsBB, ↓xIsNN, ↓xIsTN, ↓xIsLN, ↓xIsIN, ↓xIsSN, ↓xIsRN, ↓xNoBB, ↓xNoNN, ↓xNoTN, ↓xNoLN, ↓xNoIN, ↓xNoSN, ↓xNoRN, ↓xInT, ↓xIx, ↓xIxT, ↓xIxL, ↓at0, ↓at1, ↓at2, ↓at3, ↓at4, ↓at5, ↓xSl, ↓xNo, ↓xInt, ↓xPart, ↓xCutT, ↓xCutL, ↓xCB, ↓xLenT, ↓xLenL, ↓xIntI, ↓xTupT, ↓xTupL, ↓xLstT, ↓xLstL, ↓xIsiT, ↓xIsiI, ↓xIsiB, ↓xIsiS, ↓xMax2, ↓xMin2, ↓xSum, ↓xAll, ↓xApp, ↓xFld, ↓xFldS, ↓xGFd, ↓xCall, ↓xMeth, ↓xProp, ↓xNeg, ↓xNegI, if_true, if_false, Bool.false_eq_true, Bool.true_eq_false, reduceIte, Bool.not_true, Bool.not_false, decide_eq_true_eq, Bool.not_eq_true', decide_eq_false_iff_not, not_true_eq_false, not_false_eq_true, and_true, true_and, true_implies, List.length_cons, List.length_nil, Nat.zero_le, decide_true, decide_false, decide_not, ↓suIx0, ↓suIx1, ↓suIx2, ↓suIx3, ↓rwIx0, ↓rwIx1, ↓rwIx2, ↓rwIx3, ↓rwIx4, ↓rwIx5, ↓rwNo, ↓ddG, ↓ddS, ↓ddP, ↓ddGo, ↓liN, ↓liNe, ↓xFldX, ↓xFldWX, ↓xAppAX, ↓xAppBX, ↓xPop, ↓xPopK, ↓xLast, ↓xMthX, ↓xPrpX, ↓insU, ↓insN, ↓lsU, ↓lsN, ↓lk0, ↓lk1, ↓lk2, ↓lk3, ↓lk4, ↓lk5, ↓lk6, fl_len, pt2, pt3, pt4, pt5, pt6, ↓x_is_rule, ↓ins_at h.ins, ↓ls_at h.don, ↓ls_at h.gon, ↓ls_at h.ear, n1, n2, n3, n4, n5, n6, n7, n8, n9, n10, n11, n12, ne_eq, not_false_eq_true, le1, le2, List.length_map]
  refine ⟨oc, len_line o.earlier, len_line o.done, fin (hq _ ⟨?_, ?_, ?_, ?_, n1, n3, n5, n7, n9, n11⟩ ?_)⟩
  · rw [upm_same]; rfl
  · rw [upm_ne n1, upm_same]
    show _ = some (MO.lst ((s.done ++ [Step.rule r]).map Step.d))
    rw [List.map_append]; rfl
  · rw [upm_ne n3, upm_ne n7, upm_ne n12, h.gon]; rfl
  · rw [upm_ne n5, upm_ne n9, upm_same]
    show _ = some (MO.lst ((s.earlier ++ [(s.present, s.here)]).map eaD))
    rw [List.map_append]; rfl
  · exact ((Keeps.refl.up (.inl (by simp))).up (.inl (by simp))).up (.inl (by simp))
/-- undo, of what s.act x is -/
def S_undo (C : Addr) : DSp := fun ds M Q _ => ∃ a p q e s x, ds = [.ref a] ∧ LiftAt C M a p q e (LS.act s x) ∧ s.ok ∧ x.ok s.su ∧ ∀ M', LiftAt C M' a p q e s → Keeps M M' [a, p, q, e] → Q .non M'
theorem okAll_map {α : Type} {f : α → D} {n : Nat} : ∀ (l : List α), (∀ x ∈ l, D.ok n (f x) = true) → D.okAll n (l.map f) = true
  | [], _ => rfl
  | x :: l, h => by
    show (D.ok n (f x) && D.okAll n (l.map f)) = true
    rw [h x (List.mem_cons_self ..), okAll_map l fun y hy => h y (List.mem_cons_of_mem _ hy)]; rfl
theorem ok_ints' (n : Nat) (l : List Int) : D.okAll n (l.map D.int) = true := okAll_map l fun x _ => by cases n <;> rfl
theorem ok_rw {n : Nat} (r : Rw) : D.ok (n + 2) r.d = true := by
  have h := Dd.ok r.deed
  show (true && ((true && (true && true)) && ((true && (true && true)) && ((true && (true && true)) && (PyData.strOk r.deed.s && (true && true)))))) = true
  rw [h]; rfl
theorem ok_rl {n : Nat} (r : List Rw) : D.ok (n + 3) (rl r) = true := okAll_map r fun x _ => ok_rw x
theorem ok_su {n : Nat} (s : Su) : D.ok (n + 2) s.d = true := by
  show (D.okAll n (s.seats.map D.int) && (D.okAll n (s.sizes.map D.int) && ((true && (true && true)) && ((true && (true && true)) && true)))) = true
  rw [ok_ints', ok_ints']; rfl
theorem ok_st {n : Nat} (s : Stt) : D.ok (n + 2) s.d = true := by
  show (true && (D.okAll n (s.line.map D.int) && (true && (true && true)))) = true
  rw [ok_ints']; rfl
theorem ok_cm {n : Nat} (s : Cm) : D.ok (n + 2) s.d = true := by
  show (D.okAll n (s.groups.map D.int) && (true && true)) = true
  rw [ok_ints']; rfl
theorem ok_dd {n : Nat} (s : Dd × Int) : D.ok (n + 1) (ddD s) = true := by
  show (PyData.strOk s.1.s && (true && true)) = true
  rw [Dd.ok]; rfl
theorem ok_ch {n : Nat} (s : Ch) : D.ok (n + 3) s.d = true := by
  show (D.okAll (n + 1) (s.deeds.map ddD) && (true && (true && ((true && (true && true)) && true)))) = true
  rw [okAll_map s.deeds fun x _ => ok_dd x]; rfl
theorem ok_step {n : Nat} (s : Step) : D.ok (n + 4) s.d = true := by
  cases s with
  | beat c =>
    show (PyData.strOk "beat" && (D.ok (n + 3) c.d && true)) = true
    rw [ok_cm, show PyData.strOk "beat" = true by decide +kernel]; rfl
  | rule r =>
    show (PyData.strOk "rule" && (D.ok (n + 3) (rl r) && true)) = true
    rw [ok_rl, show PyData.strOk "rule" = true by decide +kernel]; rfl
theorem eqRL {M : Mp} {Q : DK} {p : Addr} {xs ys : List D} (h : M p = some (.lst xs)) : dEq (.ref p) (.lst ys) M Q = ((D.ok 60 (.lst xs) = true ∧ D.ok 60 (.lst ys) = true) ∧ Q (.bl (decide (xs = ys))) M) := by
  have e : rs M (.ref p) = .lst xs := by show rsO _ (M p) = _; rw [h]; rfl
  show ((D.ok 60 (rs M (.ref p)) = true ∧ D.ok 60 (.lst ys) = true) ∧ Q (.bl (decide (rs M (.ref p) = .lst ys))) M) = _
  rw [e]
  exact congrArg (fun b => (D.ok 60 (.lst xs) = true ∧ D.ok 60 (.lst ys) = true) ∧ Q (.bl b) M) (dec_eq ⟨fun h => by injection h, fun h => by rw [h]⟩)
theorem eqRR {M : Mp} {Q : DK} {p q : Addr} {xs ys : List D} (h : M p = some (.lst xs)) (h2 : M q = some (.lst ys)) : dEq (.ref p) (.ref q) M Q = ((D.ok 60 (.lst xs) = true ∧ D.ok 60 (.lst ys) = true) ∧ Q (.bl (decide (xs = ys))) M) := by
  have e : rs M (.ref p) = .lst xs := by show rsO _ (M p) = _; rw [h]; rfl
  have e2 : rs M (.ref q) = .lst ys := by show rsO _ (M q) = _; rw [h2]; rfl
  show ((D.ok 60 (rs M (.ref p)) = true ∧ D.ok 60 (rs M (.ref q)) = true) ∧ Q (.bl (decide (rs M (.ref p) = rs M (.ref q)))) M) = _
  rw [e, e2]
  exact congrArg (fun b => (D.ok 60 (.lst xs) = true ∧ D.ok 60 (.lst ys) = true) ∧ Q (.bl b) M) (dec_eq ⟨fun h => by injection h, fun h => by rw [h]⟩)
theorem map_snoc {α : Type} (f : α → D) (l : List α) (x : α) : (l ++ [x]).map f = l.map f ++ [f x] := by rw [List.map_append]; rfl
theorem xSq2 {u : DGs} {a b : D} {ρ : Rh} {M : Mp} {R : Rh → Mp → Prop} : gSq 2 u (.tup [a, b]) ρ M R = u [a, b] ρ M R := xSq.trans (true_and_eq rfl)
theorem b_undo {C ds M Q dx} (h : S_undo C ds M Q dx) : d_Lift_undo C (endD Q) (startD ["self", "step"] ds) M := by
  obtain ⟨a, p, q, e, s, x, rfl, h, o, ox, hq⟩ := h
  show d_Lift_undo C (endD Q) [some (.ref a), none] M
  obtain ⟨⟨n1, n2⟩, ⟨n3, n4⟩, ⟨n5, n6⟩, ⟨n7, n8⟩, ⟨n9, n10⟩, ⟨n11, n12⟩⟩ := h.ne
  have hd : (s.act x).done = s.done ++ [x] := by cases x <;> rfl
  have he : (s.act x).earlier = s.earlier ++ [(s.present, s.here)] := by cases x <;> rfl
  have h1 := h.don
  have h2 := h.ear
  have h3 := h.gon
  rw [hd, map_snoc] at h1
  rw [he, map_snoc] at h2
  have k1 : D.ok 60 (.lst (s.done.map Step.d ++ [x.d])) = true := by rw [← map_snoc]; exact okAll_map _ fun x _ => ok_step x
  have k2 : D.ok 60 (.lst []) = true := rfl
  have k3 : (s.done.map Step.d ++ [x.d] = []) = False := eq_false (by simp)
  unfold d_Lift_undo
  cases x with
  | beat c =>
    have h3 : M q = some (.lst (s.gone.map Ch.d ++ [(chair s.su s.present s.here c).d])) := by rw [← map_snoc]; exact h3
    simp only [↓xSeq, ↓xNx, ↓xRt, ↓xBk, ↓xCt, ↓xEndNx, ↓xEndRt, ↓xNext, ↓xBreak, ↓xCont, ↓xDrop, ↓xRet, ↓xRetN, ↓xNever, ↓xIfS, ↓xPut0, ↓xPutS, ↓xSet, ↓xAug, ↓xAsg, ↓xUn2, ↓xUn1, ↓xPar, ↓xNm, ↓xNl, ↓xCn, ↓xSq, ↓xSqL, ↓xV0, ↓xVS, ↓xC, ↓xFrz, ↓xFrz1, ↓xOp, ↓xBl, ↓xB, ↓xChain, ↓xAnd, ↓xOr, ↓xNot, ↓xAndV, ↓xOrV, ↓xNotV, ↓xIf, ↓xNil, ↓xCons, ↓xTup, ↓xLst, ↓xLstO, ↓xOpt, ↓xAddI, ↓xAddT, ↓xAddL, ↓xSub, ↓xIAdd, ↓xFdiv, ↓xMod, ↓xPow, ↓xMul, ↓xLt, ↓xLe, ↓xGt, ↓xGe, ↓xEqI, ↓xNeI, ↓xEqB, ↓xNeB, ↓xIsBB, ↓xIsNN, ↓xIsTN, ↓xIsLN, ↓xIsIN, ↓xIsSN, ↓xIsRN, ↓xNoBB, ↓xNoNN, ↓xNoTN, ↓xNoLN, ↓xNoIN, ↓xNoSN, ↓xNoRN, ↓xInT, ↓xIx, ↓xIxT, ↓xIxL, ↓at0, ↓at1, ↓at2, ↓at3, ↓at4, ↓at5, ↓xSl, ↓xNo, ↓xInt, ↓xPart, ↓xCutT, ↓xCutL, ↓xCB, ↓xLenT, ↓xLenL, ↓xIntI, ↓xTupT, ↓xTupL, ↓xLstT, ↓xLstL, ↓xIsiT, ↓xIsiI, ↓xIsiB, ↓xIsiS, ↓xMax2, ↓xMin2, ↓xSum, ↓xAll, ↓xApp, ↓xFld, ↓xFldS, ↓xGFd, ↓xCall, ↓xMeth, ↓xProp, ↓xNeg, ↓xNegI, if_true, if_false, Bool.false_eq_true, Bool.true_eq_false, reduceIte, Bool.not_true, Bool.not_false, decide_eq_true_eq, Bool.not_eq_true', decide_eq_false_iff_not, not_true_eq_false, not_false_eq_true, and_true, true_and, true_implies, List.length_cons, List.length_nil, Nat.zero_le, decide_true, decide_false, decide_not, ↓suIx0, ↓suIx1, ↓suIx2, ↓suIx3, ↓rwIx0, ↓rwIx1, ↓rwIx2, ↓rwIx3, ↓rwIx4, ↓rwIx5, ↓rwNo, ↓ddG, ↓ddS, ↓ddP, ↓ddGo, ↓liN, ↓liNe, ↓xFldX, ↓xFldWX, ↓xAppAX, ↓xAppBX, ↓xPop, ↓xPopK, ↓xLast, ↓xMthX, ↓xPrpX, ↓insU, ↓insN, ↓lsU, ↓lsN, ↓lk0, ↓lk1, ↓lk2, ↓lk3, ↓lk4, ↓lk5, ↓lk6, fl_len, pt2, pt3, pt4, pt5, pt6, ↓ins_at h.ins, ↓ls_at h1, ↓ls_at h2, ↓ls_at h3, ↓eqRL h1, k1, k2, k3, ↓stIx0, ↓eqBR, Step.isB, n1, n2, n3, n4, n5, n6, n7, n8, n9, n10, n11, n12, ne_eq, not_false_eq_true, le1, le2, List.length_map, eaD, ↓xSq2, Nat.zero_le, xLast]
    refine fin (hq _ ⟨?_, ?_, ?_, ?_, n1, n3, n5, n7, n9, n11⟩ ?_)
    · rw [upm_same]; rfl
    · rw [upm_ne n1, upm_ne n1, upm_ne n10, upm_ne n8, upm_same]
    · rw [upm_ne n3, upm_ne n3, upm_ne n12, upm_same]
    · rw [upm_ne n5, upm_ne n5, upm_same]
    · exact ((((Keeps.refl.up (.inl (by simp))).up (.inl (by simp))).up (.inl (by simp))).up (.inl (by simp))).up (.inl (by simp))
  | rule r =>
    simp only [↓xSeq, ↓xNx, ↓xRt, ↓xBk, ↓xCt, ↓xEndNx, ↓xEndRt, ↓xNext, ↓xBreak, ↓xCont, ↓xDrop, ↓xRet, ↓xRetN, ↓xNever, ↓xIfS, ↓xPut0, ↓xPutS, ↓xSet, ↓xAug, ↓xAsg, ↓xUn2, ↓xUn1, ↓xPar, ↓xNm, ↓xNl, ↓xCn, ↓xSq, ↓xSqL, ↓xV0, ↓xVS, ↓xC, ↓xFrz, ↓xFrz1, ↓xOp, ↓xBl, ↓xB, ↓xChain, ↓xAnd, ↓xOr, ↓xNot, ↓xAndV, ↓xOrV, ↓xNotV, ↓xIf, ↓xNil, ↓xCons, ↓xTup, ↓xLst, ↓xLstO, ↓xOpt, ↓xAddI, ↓xAddT, ↓xAddL, ↓xSub, ↓xIAdd, ↓xFdiv, ↓xMod, ↓xPow, ↓xMul, ↓xLt, ↓xLe, ↓xGt, ↓xGe, ↓xEqI, ↓xNeI, ↓xEqB, ↓xNeB, ↓xIsBB, ↓xIsNN, ↓xIsTN, ↓xIsLN, ↓xIsIN, ↓xIsSN, ↓xIsRN, ↓xNoBB, ↓xNoNN, ↓xNoTN, ↓xNoLN, ↓xNoIN, ↓xNoSN, ↓xNoRN, ↓xInT, ↓xIx, ↓xIxT, ↓xIxL, ↓at0, ↓at1, ↓at2, ↓at3, ↓at4, ↓at5, ↓xSl, ↓xNo, ↓xInt, ↓xPart, ↓xCutT, ↓xCutL, ↓xCB, ↓xLenT, ↓xLenL, ↓xIntI, ↓xTupT, ↓xTupL, ↓xLstT, ↓xLstL, ↓xIsiT, ↓xIsiI, ↓xIsiB, ↓xIsiS, ↓xMax2, ↓xMin2, ↓xSum, ↓xAll, ↓xApp, ↓xFld, ↓xFldS, ↓xGFd, ↓xCall, ↓xMeth, ↓xProp, ↓xNeg, ↓xNegI, if_true, if_false, Bool.false_eq_true, Bool.true_eq_false, reduceIte, Bool.not_true, Bool.not_false, decide_eq_true_eq, Bool.not_eq_true', decide_eq_false_iff_not, not_true_eq_false, not_false_eq_true, and_true, true_and, true_implies, List.length_cons, List.length_nil, Nat.zero_le, decide_true, decide_false, decide_not, ↓suIx0, ↓suIx1, ↓suIx2, ↓suIx3, ↓rwIx0, ↓rwIx1, ↓rwIx2, ↓rwIx3, ↓rwIx4, ↓rwIx5, ↓rwNo, ↓ddG, ↓ddS, ↓ddP, ↓ddGo, ↓liN, ↓liNe, ↓xFldX, ↓xFldWX, ↓xAppAX, ↓xAppBX, ↓xPop, ↓xPopK, ↓xLast, ↓xMthX, ↓xPrpX, ↓insU, ↓insN, ↓lsU, ↓lsN, ↓lk0, ↓lk1, ↓lk2, ↓lk3, ↓lk4, ↓lk5, ↓lk6, fl_len, pt2, pt3, pt4, pt5, pt6, ↓ins_at h.ins, ↓ls_at h1, ↓ls_at h2, ↓eqRL h1, k1, k2, k3, ↓stIx0, ↓eqBR, Step.isB, n1, n2, n3, n4, n5, n6, n7, n8, n9, n10, n11, n12, ne_eq, not_false_eq_true, le1, le2, List.length_map, eaD, ↓xSq2, Nat.zero_le, xLast]
    refine fin (hq _ ⟨?_, ?_, ?_, ?_, n1, n3, n5, n7, n9, n11⟩ ?_)
    · rw [upm_same]; rfl
    · rw [upm_ne n1, upm_ne n1, upm_ne n10, upm_same]
    · rw [upm_ne n3, upm_ne n3, upm_ne n12, upm_ne n7, h3]; rfl
    · rw [upm_ne n5, upm_ne n5, upm_same]
    · exact (((Keeps.refl.up (.inl (by simp))).up (.inl (by simp))).up (.inl (by simp))).up (.inl (by simp))
end DL

/-! Lifts copied and compared. -/
namespace DL
open PySem PySem.Spec PyProof.Rows L2
def S_copy (C : Addr) : DSp := fun ds M Q _ => ∃ a p q e s, ds = [.ref a] ∧ LiftAt C M a p q e s ∧ s.ok ∧
  ∀ a' p' q' e' M', LiftAt C M' a' p' q' e' s → M a' = none → M p' = none → M q' = none → M e' = none → Keeps M M' [] → Q (.ref a') M'
theorem lsoK {x : D} {xs : List D} {M : Mp} {Q : DK} (h : sv M x = some xs) : dListO [x] M Q = ∀ p, M p = none → Q (.ref p) (upm M p (.lst xs)) :=
  propext ⟨fun ⟨_, _, e, e1, q⟩ => by cases e; rw [h] at e1; cases e1; exact q, fun q => ⟨_, _, rfl, h, q⟩⟩
theorem at_ne {M : Mp} {q p : Addr} {o : MO} {xs : List D} (hp : q ≠ p) (h : sv M (.ref q) = some xs) : sv (upm M p o) (.ref q) = some xs := by
  show lvO (upm M p o q) = _
  rw [upm_ne hp]; exact h
theorem b_copy {C ds M Q dx} (h : S_copy C ds M Q dx) : d_Lift_copy C (S_init C) (endD Q) (startD ["self", "other"] ds) M := by
  obtain ⟨a, p, q, e, s, rfl, h, o, hq⟩ := h
  show d_Lift_copy C _ (endD Q) [some (.ref a), none] M
  unfold d_Lift_copy
  rw [xSeq, xSet, xMake]
  simp only [↓xSeq, ↓xNx, ↓xRt, ↓xBk, ↓xCt, ↓xEndNx, ↓xEndRt, ↓xNext, ↓xBreak, ↓xCont, ↓xDrop, ↓xRet, ↓xRetN, ↓xNever, ↓xIfS, ↓xPut0, ↓xPutS, ↓xSet, ↓xAug, ↓xAsg, ↓xUn2, ↓xUn1, ↓xPar, ↓xNm, ↓xNl, ↓xCn, ↓xSq, ↓xSqL, ↓xV0, ↓xVS, ↓xC, ↓xFrz, ↓xFrz1, ↓xOp, ↓xBl, ↓xB, ↓xChain, ↓xAnd, ↓xOr, ↓xNot, ↓xAndV, ↓xOrV, ↓xNotV, ↓xIf, ↓xNil, ↓xCons, ↓xTup, ↓xLst, ↓xLstO, ↓xOpt, ↓xAddI, ↓xAddT, ↓xAddL, ↓xSub, ↓xIAdd, ↓xFdiv, ↓xMod, ↓xPow, ↓xMul, ↓xLt, ↓xLe, ↓xGt, ↓xGe, ↓xEqI, ↓xNeI, ↓xEqB, ↓xNeB, ↓xIsBB, ↓xIsNN, ↓xIsTN, ↓xIsLN, ↓xIsIN, ↓xIsSN, ↓xIsRN, ↓xNoBB, ↓xNoNN, ↓xNoTN, ↓xNoLN, ↓xNoIN, ↓xNoSN, ↓xNoRN, ↓xInT, ↓xIx, ↓xIxT, ↓xIxL, ↓at0, ↓at1, ↓at2, ↓at3, ↓at4, ↓at5, ↓xSl, ↓xNo, ↓xInt, ↓xPart, ↓xCutT, ↓xCutL, ↓xCB, ↓xLenT, ↓xLenL, ↓xIntI, ↓xTupT, ↓xTupL, ↓xLstT, ↓xLstL, ↓xIsiT, ↓xIsiI, ↓xIsiB, ↓xIsiS, ↓xMax2, ↓xMin2, ↓xSum, ↓xAll, ↓xApp, ↓xFld, ↓xFldS, ↓xGFd, ↓xCall, ↓xMeth, ↓xProp, ↓xNeg, ↓xNegI, if_true, if_false, Bool.false_eq_true, Bool.true_eq_false, reduceIte, Bool.not_true, Bool.not_false, decide_eq_true_eq, Bool.not_eq_true', decide_eq_false_iff_not, not_true_eq_false, not_false_eq_true, and_true, true_and, true_implies, List.length_cons, List.length_nil, Nat.zero_le, decide_true, decide_false, decide_not, ↓suIx0, ↓suIx1, ↓suIx2, ↓suIx3, ↓rwIx0, ↓rwIx1, ↓rwIx2, ↓rwIx3, ↓rwIx4, ↓rwIx5, ↓rwNo, ↓ddG, ↓ddS, ↓ddP, ↓ddGo, ↓liN, ↓liNe, ↓xFldX, ↓xFldWX, ↓xAppAX, ↓xAppBX, ↓xPop, ↓xPopK, ↓xLast, ↓xMthX, ↓xPrpX, ↓insU, ↓insN, ↓lsU, ↓lsN, ↓lk0, ↓lk1, ↓lk2, ↓lk3, ↓lk4, ↓lk5, ↓lk6, fl_len, pt2, pt3, pt4, pt5, pt6, ↓ins_at h.ins]
  refine fun b hb => ⟨b, s.su, s.first, rfl, ⟨o.su, o.first⟩, upm_same, fun p0 q0 e0 M1 g gp gq ge kp => ⟨rfl, ?_⟩⟩
  have K0 : Keeps M M1 [] := fun x o' hx _ => kp x o' (by rw [upm_ne (ne_of hx hb).2]; exact hx) (by simp; exact (ne_of hx hb).2)
  have h' := h.keep K0 (by simp)
  obtain ⟨b1, b2⟩ := ne_of h.ins hb
  obtain ⟨b3, b4⟩ := ne_of h.don hb
  obtain ⟨b5, b6⟩ := ne_of h.gon hb
  obtain ⟨b7, b8⟩ := ne_of h.ear hb
  simp only [↓xSeq, ↓xNx, ↓xRt, ↓xBk, ↓xCt, ↓xEndNx, ↓xEndRt, ↓xNext, ↓xBreak, ↓xCont, ↓xDrop, ↓xRet, ↓xRetN, ↓xNever, ↓xIfS, ↓xPut0, ↓xPutS, ↓xSet, ↓xAug, ↓xAsg, ↓xUn2, ↓xUn1, ↓xPar, ↓xNm, ↓xNl, ↓xCn, ↓xSq, ↓xSqL, ↓xV0, ↓xVS, ↓xC, ↓xFrz, ↓xFrz1, ↓xOp, ↓xBl, ↓xB, ↓xChain, ↓xAnd, ↓xOr, ↓xNot, ↓xAndV, ↓xOrV, ↓xNotV, ↓xIf, ↓xNil, ↓xCons, ↓xTup, ↓xLst, ↓xLstO, ↓xOpt, ↓xAddI, ↓xAddT, ↓xAddL, ↓xSub, ↓xIAdd, ↓xFdiv, ↓xMod, ↓xPow, ↓xMul, ↓xLt, ↓xLe, ↓xGt, ↓xGe, ↓xEqI, ↓xNeI, ↓xEqB, ↓xNeB, ↓xIsBB, ↓xIsNN, ↓xIsTN, ↓xIsLN, ↓xIsIN, ↓xIsSN, ↓xIsRN, ↓xNoBB, ↓xNoNN, ↓xNoTN, ↓xNoLN, ↓xNoIN, ↓xNoSN, ↓xNoRN, ↓xInT, ↓xIx, ↓xIxT, ↓xIxL, ↓at0, ↓at1, ↓at2, ↓at3, ↓at4, ↓at5, ↓xSl, ↓xNo, ↓xInt, ↓xPart, ↓xCutT, ↓xCutL, ↓xCB, ↓xLenT, ↓xLenL, ↓xIntI, ↓xTupT, ↓xTupL, ↓xLstT, ↓xLstL, ↓xIsiT, ↓xIsiI, ↓xIsiB, ↓xIsiS, ↓xMax2, ↓xMin2, ↓xSum, ↓xAll, ↓xApp, ↓xFld, ↓xFldS, ↓xGFd, ↓xCall, ↓xMeth, ↓xProp, ↓xNeg, ↓xNegI, if_true, if_false, Bool.false_eq_true, Bool.true_eq_false, reduceIte, Bool.not_true, Bool.not_false, decide_eq_true_eq, Bool.not_eq_true', decide_eq_false_iff_not, not_true_eq_false, not_false_eq_true, and_true, true_and, true_implies, List.length_cons, List.length_nil, Nat.zero_le, decide_true, decide_false, decide_not, ↓suIx0, ↓suIx1, ↓suIx2, ↓suIx3, ↓rwIx0, ↓rwIx1, ↓rwIx2, ↓rwIx3, ↓rwIx4, ↓rwIx5, ↓rwNo, ↓ddG, ↓ddS, ↓ddP, ↓ddGo, ↓liN, ↓liNe, ↓xFldX, ↓xFldWX, ↓xAppAX, ↓xAppBX, ↓xPop, ↓xPopK, ↓xLast, ↓xMthX, ↓xPrpX, ↓insU, ↓insN, ↓lsU, ↓lsN, ↓lk0, ↓lk1, ↓lk2, ↓lk3, ↓lk4, ↓lk5, ↓lk6, fl_len, pt2, pt3, pt4, pt5, pt6, ↓ins_at h'.ins, ↓ins_at g.ins, b1, b2, b3, b4, b5, b6, b7, b8, ne_eq, not_false_eq_true, upm_upm]
  rw [lsoK (at_ne b4 (at_lv h'.don))]
  intro p' hp
  obtain ⟨p1, hp1⟩ := up_none hp
  have hp0 : M p' = none := by
    cases hh : M p' with
    | none => rfl
    | some o' => rw [K0 _ _ hh (by simp)] at hp1; cases hp1
  have p1' := p1.symm
  obtain ⟨p3, p4⟩ := ne_of h.ins hp0
  obtain ⟨p5, p6⟩ := ne_of h.gon hp0
  obtain ⟨p7, p8⟩ := ne_of h.ear hp0
  simp only [↓xSeq, ↓xNx, ↓xRt, ↓xBk, ↓xCt, ↓xEndNx, ↓xEndRt, ↓xNext, ↓xBreak, ↓xCont, ↓xDrop, ↓xRet, ↓xRetN, ↓xNever, ↓xIfS, ↓xPut0, ↓xPutS, ↓xSet, ↓xAug, ↓xAsg, ↓xUn2, ↓xUn1, ↓xPar, ↓xNm, ↓xNl, ↓xCn, ↓xSq, ↓xSqL, ↓xV0, ↓xVS, ↓xC, ↓xFrz, ↓xFrz1, ↓xOp, ↓xBl, ↓xB, ↓xChain, ↓xAnd, ↓xOr, ↓xNot, ↓xAndV, ↓xOrV, ↓xNotV, ↓xIf, ↓xNil, ↓xCons, ↓xTup, ↓xLst, ↓xLstO, ↓xOpt, ↓xAddI, ↓xAddT, ↓xAddL, ↓xSub, ↓xIAdd, ↓xFdiv, ↓xMod, ↓xPow, ↓xMul, ↓xLt, ↓xLe, ↓xGt, ↓xGe, ↓xEqI, ↓xNeI, ↓xEqB, ↓xNeB, ↓xIsBB, ↓xIsNN, ↓xIsTN, ↓xIsLN, ↓xIsIN, ↓xIsSN, ↓xIsRN, ↓xNoBB, ↓xNoNN, ↓xNoTN, ↓xNoLN, ↓xNoIN, ↓xNoSN, ↓xNoRN, ↓xInT, ↓xIx, ↓xIxT, ↓xIxL, ↓at0, ↓at1, ↓at2, ↓at3, ↓at4, ↓at5, ↓xSl, ↓xNo, ↓xInt, ↓xPart, ↓xCutT, ↓xCutL, ↓xCB, ↓xLenT, ↓xLenL, ↓xIntI, ↓xTupT, ↓xTupL, ↓xLstT, ↓xLstL, ↓xIsiT, ↓xIsiI, ↓xIsiB, ↓xIsiS, ↓xMax2, ↓xMin2, ↓xSum, ↓xAll, ↓xApp, ↓xFld, ↓xFldS, ↓xGFd, ↓xCall, ↓xMeth, ↓xProp, ↓xNeg, ↓xNegI, if_true, if_false, Bool.false_eq_true, Bool.true_eq_false, reduceIte, Bool.not_true, Bool.not_false, decide_eq_true_eq, Bool.not_eq_true', decide_eq_false_iff_not, not_true_eq_false, not_false_eq_true, and_true, true_and, true_implies, List.length_cons, List.length_nil, Nat.zero_le, decide_true, decide_false, decide_not, ↓suIx0, ↓suIx1, ↓suIx2, ↓suIx3, ↓rwIx0, ↓rwIx1, ↓rwIx2, ↓rwIx3, ↓rwIx4, ↓rwIx5, ↓rwNo, ↓ddG, ↓ddS, ↓ddP, ↓ddGo, ↓liN, ↓liNe, ↓xFldX, ↓xFldWX, ↓xAppAX, ↓xAppBX, ↓xPop, ↓xPopK, ↓xLast, ↓xMthX, ↓xPrpX, ↓insU, ↓insN, ↓lsU, ↓lsN, ↓lk0, ↓lk1, ↓lk2, ↓lk3, ↓lk4, ↓lk5, ↓lk6, fl_len, pt2, pt3, pt4, pt5, pt6, ↓ins_at h'.ins, ↓ins_at g.ins, b1, b2, b3, b4, b5, b6, b7, b8, p1, p1', p3, p4, p5, p6, p7, p8, ne_eq, not_false_eq_true, upm_upm]
  rw [lsoK (at_ne b6 (at_ne p6 (at_ne b6 (at_lv h'.gon))))]
  intro q' hq'
  obtain ⟨q1, hq1⟩ := up_none hq'
  obtain ⟨q2, hq1⟩ := up_none hq1
  obtain ⟨q3, hq1⟩ := up_none hq1
  have hq0 : M q' = none := by
    cases hh : M q' with
    | none => rfl
    | some o' => rw [K0 _ _ hh (by simp)] at hq1; cases hq1
  have q1' := q1.symm
  have q2' := q2.symm
  obtain ⟨q5, q6⟩ := ne_of h.ins hq0
  obtain ⟨q7, q8⟩ := ne_of h.ear hq0
  simp only [↓xSeq, ↓xNx, ↓xRt, ↓xBk, ↓xCt, ↓xEndNx, ↓xEndRt, ↓xNext, ↓xBreak, ↓xCont, ↓xDrop, ↓xRet, ↓xRetN, ↓xNever, ↓xIfS, ↓xPut0, ↓xPutS, ↓xSet, ↓xAug, ↓xAsg, ↓xUn2, ↓xUn1, ↓xPar, ↓xNm, ↓xNl, ↓xCn, ↓xSq, ↓xSqL, ↓xV0, ↓xVS, ↓xC, ↓xFrz, ↓xFrz1, ↓xOp, ↓xBl, ↓xB, ↓xChain, ↓xAnd, ↓xOr, ↓xNot, ↓xAndV, ↓xOrV, ↓xNotV, ↓xIf, ↓xNil, ↓xCons, ↓xTup, ↓xLst, ↓xLstO, ↓xOpt, ↓xAddI, ↓xAddT, ↓xAddL, ↓xSub, ↓xIAdd, ↓xFdiv, ↓xMod, ↓xPow, ↓xMul, ↓xLt, ↓xLe, ↓xGt, ↓xGe, ↓xEqI, ↓xNeI, ↓xEqB, ↓xNeB, ↓xIsBB, ↓xIsNN, ↓xIsTN, ↓xIsLN, ↓xIsIN, ↓xIsSN, ↓xIsRN, ↓xNoBB, ↓xNoNN, ↓xNoTN, ↓xNoLN, ↓xNoIN, ↓xNoSN, ↓xNoRN, ↓xInT, ↓xIx, ↓xIxT, ↓xIxL, ↓at0, ↓at1, ↓at2, ↓at3, ↓at4, ↓at5, ↓xSl, ↓xNo, ↓xInt, ↓xPart, ↓xCutT, ↓xCutL, ↓xCB, ↓xLenT, ↓xLenL, ↓xIntI, ↓xTupT, ↓xTupL, ↓xLstT, ↓xLstL, ↓xIsiT, ↓xIsiI, ↓xIsiB, ↓xIsiS, ↓xMax2, ↓xMin2, ↓xSum, ↓xAll, ↓xApp, ↓xFld, ↓xFldS, ↓xGFd, ↓xCall, ↓xMeth, ↓xProp, ↓xNeg, ↓xNegI, if_true, if_false, Bool.false_eq_true, Bool.true_eq_false, reduceIte, Bool.not_true, Bool.not_false, decide_eq_true_eq, Bool.not_eq_true', decide_eq_false_iff_not, not_true_eq_false, not_false_eq_true, and_true, true_and, true_implies, List.length_cons, List.length_nil, Nat.zero_le, decide_true, decide_false, decide_not, ↓suIx0, ↓suIx1, ↓suIx2, ↓suIx3, ↓rwIx0, ↓rwIx1, ↓rwIx2, ↓rwIx3, ↓rwIx4, ↓rwIx5, ↓rwNo, ↓ddG, ↓ddS, ↓ddP, ↓ddGo, ↓liN, ↓liNe, ↓xFldX, ↓xFldWX, ↓xAppAX, ↓xAppBX, ↓xPop, ↓xPopK, ↓xLast, ↓xMthX, ↓xPrpX, ↓insU, ↓insN, ↓lsU, ↓lsN, ↓lk0, ↓lk1, ↓lk2, ↓lk3, ↓lk4, ↓lk5, ↓lk6, fl_len, pt2, pt3, pt4, pt5, pt6, ↓ins_at h'.ins, ↓ins_at g.ins, b1, b2, b3, b4, b5, b6, b7, b8, p1, p1', p3, p4, p5, p6, p7, p8, q1, q1', q2, q2', q5, q6, q7, q8, ne_eq, not_false_eq_true, upm_upm]
  rw [lsoK (at_ne b8 (at_ne q8 (at_ne b8 (at_ne p8 (at_ne b8 (at_lv h'.ear))))))]
  intro e' he'
  obtain ⟨e1, he1⟩ := up_none he'
  obtain ⟨e2, he1⟩ := up_none he1
  obtain ⟨e3, he1⟩ := up_none he1
  obtain ⟨e4, he1⟩ := up_none he1
  obtain ⟨e5, he1⟩ := up_none he1
  have he0 : M e' = none := by
    cases hh : M e' with
    | none => rfl
    | some o' => rw [K0 _ _ hh (by simp)] at he1; cases he1
  have e1' := e1.symm
  have e2' := e2.symm
  have e4' := e4.symm
  simp only [↓xSeq, ↓xNx, ↓xRt, ↓xBk, ↓xCt, ↓xEndNx, ↓xEndRt, ↓xNext, ↓xBreak, ↓xCont, ↓xDrop, ↓xRet, ↓xRetN, ↓xNever, ↓xIfS, ↓xPut0, ↓xPutS, ↓xSet, ↓xAug, ↓xAsg, ↓xUn2, ↓xUn1, ↓xPar, ↓xNm, ↓xNl, ↓xCn, ↓xSq, ↓xSqL, ↓xV0, ↓xVS, ↓xC, ↓xFrz, ↓xFrz1, ↓xOp, ↓xBl, ↓xB, ↓xChain, ↓xAnd, ↓xOr, ↓xNot, ↓xAndV, ↓xOrV, ↓xNotV, ↓xIf, ↓xNil, ↓xCons, ↓xTup, ↓xLst, ↓xLstO, ↓xOpt, ↓xAddI, ↓xAddT, ↓xAddL, ↓xSub, ↓xIAdd, ↓xFdiv, ↓xMod, ↓xPow, ↓xMul, ↓xLt, ↓xLe, ↓xGt, ↓xGe, ↓xEqI, ↓xNeI, ↓xEqB, ↓xNeB, ↓xIsBB, ↓xIsNN, ↓xIsTN, ↓xIsLN, ↓xIsIN, ↓xIsSN, ↓xIsRN, ↓xNoBB, ↓xNoNN, ↓xNoTN, ↓xNoLN, ↓xNoIN, ↓xNoSN, ↓xNoRN, ↓xInT, ↓xIx, ↓xIxT, ↓xIxL, ↓at0, ↓at1, ↓at2, ↓at3, ↓at4, ↓at5, ↓xSl, ↓xNo, ↓xInt, ↓xPart, ↓xCutT, ↓xCutL, ↓xCB, ↓xLenT, ↓xLenL, ↓xIntI, ↓xTupT, ↓xTupL, ↓xLstT, ↓xLstL, ↓xIsiT, ↓xIsiI, ↓xIsiB, ↓xIsiS, ↓xMax2, ↓xMin2, ↓xSum, ↓xAll, ↓xApp, ↓xFld, ↓xFldS, ↓xGFd, ↓xCall, ↓xMeth, ↓xProp, ↓xNeg, ↓xNegI, if_true, if_false, Bool.false_eq_true, Bool.true_eq_false, reduceIte, Bool.not_true, Bool.not_false, decide_eq_true_eq, Bool.not_eq_true', decide_eq_false_iff_not, not_true_eq_false, not_false_eq_true, and_true, true_and, true_implies, List.length_cons, List.length_nil, Nat.zero_le, decide_true, decide_false, decide_not, ↓suIx0, ↓suIx1, ↓suIx2, ↓suIx3, ↓rwIx0, ↓rwIx1, ↓rwIx2, ↓rwIx3, ↓rwIx4, ↓rwIx5, ↓rwNo, ↓ddG, ↓ddS, ↓ddP, ↓ddGo, ↓liN, ↓liNe, ↓xFldX, ↓xFldWX, ↓xAppAX, ↓xAppBX, ↓xPop, ↓xPopK, ↓xLast, ↓xMthX, ↓xPrpX, ↓insU, ↓insN, ↓lsU, ↓lsN, ↓lk0, ↓lk1, ↓lk2, ↓lk3, ↓lk4, ↓lk5, ↓lk6, fl_len, pt2, pt3, pt4, pt5, pt6, ↓ins_at h'.ins, ↓ins_at g.ins, b1, b2, b3, b4, b5, b6, b7, b8, p1, p1', p3, p4, p5, p6, p7, p8, q1, q1', q2, q2', q5, q6, q7, q8, e1, e1', e2, e2', e4, e4', ne_eq, not_false_eq_true, upm_upm]
  refine fin (hq b p' q' e' _ ⟨?_, ?_, ?_, ?_, p1, q1, e1, q2, e4, e2⟩ hb hp0 hq0 he0 ?_)
  · rw [upm_same]; rfl
  · rw [upm_ne p1, upm_ne e4', upm_ne p1, upm_ne q2', upm_ne p1, upm_same]
  · rw [upm_ne q1, upm_ne e2', upm_ne q1, upm_same]
  · rw [upm_ne e1, upm_same]
  · exact (((((((K0.up (.inr hb)).up (.inr hp0)).up (.inr hb)).up (.inr hq0)).up (.inr hb)).up (.inr he0)).up (.inr hb))
/-! == -/
noncomputable def eqB (s t : LS) : Bool := @decide (s.done = t.done) (Classical.propDecidable _)
def S_eq (C : Addr) : DSp := fun ds M Q _ => ∃ a p q e s a' p' q' e' s', ds = [.ref a, .ref a'] ∧ LiftAt C M a p q e s ∧ LiftAt C M a' p' q' e' s' ∧ s.su = s'.su ∧ s.first = s'.first ∧ Q (.bl (eqB s s')) M
theorem eqSu {s t : Su} {M : Mp} {Q : DK} : dEq s.d t.d M Q = Q (.bl (decide (s.d = t.d))) M := true_and_eq ⟨ok_su s, ok_su t⟩
theorem eqRl {s t : List Rw} {M : Mp} {Q : DK} : dEq (rl s) (rl t) M Q = Q (.bl (decide (rl s = rl t))) M := true_and_eq ⟨ok_rl s, ok_rl t⟩
theorem isC_at {C a p q e : Addr} {s : LS} {M : Mp} {Q : DK} (h : LiftAt C M a p q e s) : dIsiC C [.ref a, .ref C] M Q = Q (.bl true) M := by
  have e : isC C M (.ref a) = some true := by show isO C (M a) = _; rw [h.ins]; exact if_pos rfl
  exact propext ⟨fun ⟨_, _, e1, e2, q⟩ => by cases e1; rw [e] at e2; cases e2; exact q, fun q => ⟨_, _, rfl, e, q⟩⟩
theorem steps_inj {a b : List Step} : a.map Step.d = b.map Step.d ↔ a = b := List.map_inj_right fun _ _ h => Step.inj.mp h
theorem b_eq {C ds M Q dx} (h : S_eq C ds M Q dx) : d_Lift___eq__ C (endD Q) (startD ["self", "other"] ds) M := by
  obtain ⟨a, p, q, e, s, a', p', q', e', s', rfl, h, h', i1, i2, hq⟩ := h
  show d_Lift___eq__ C (endD Q) [some (.ref a), some (.ref a')] M
  unfold d_Lift___eq__
  have k1 : D.ok 60 (.lst (s.done.map Step.d)) = true := okAll_map _ fun x _ => ok_step x
  have k2 : D.ok 60 (.lst (s'.done.map Step.d)) = true := okAll_map _ fun x _ => ok_step x
  simp only [↓xSeq, ↓xNx, ↓xRt, ↓xBk, ↓xCt, ↓xEndNx, ↓xEndRt, ↓xNext, ↓xBreak, ↓xCont, ↓xDrop, ↓xRet, ↓xRetN, ↓xNever, ↓xIfS, ↓xPut0, ↓xPutS, ↓xSet, ↓xAug, ↓xAsg, ↓xUn2, ↓xUn1, ↓xPar, ↓xNm, ↓xNl, ↓xCn, ↓xSq, ↓xSqL, ↓xV0, ↓xVS, ↓xC, ↓xFrz, ↓xFrz1, ↓xOp, ↓xBl, ↓xB, ↓xChain, ↓xAnd, ↓xOr, ↓xNot, ↓xAndV, ↓xOrV, ↓xNotV, ↓xIf, ↓xNil, ↓xCons, ↓xTup, ↓xLst, ↓xLstO, ↓xOpt, ↓xAddI, ↓xAddT, ↓xAddL, ↓xSub, ↓xIAdd, ↓xFdiv, ↓xMod, ↓xPow, ↓xMul, ↓xLt, ↓xLe, ↓xGt, ↓xGe, ↓xEqI, ↓xNeI, ↓xEqB, ↓xNeB, ↓xIsBB, ↓xIsNN, ↓xIsTN, ↓xIsLN, ↓xIsIN, ↓xIsSN, ↓xIsRN, ↓xNoBB, ↓xNoNN, ↓xNoTN, ↓xNoLN, ↓xNoIN, ↓xNoSN, ↓xNoRN, ↓xInT, ↓xIx, ↓xIxT, ↓xIxL, ↓at0, ↓at1, ↓at2, ↓at3, ↓at4, ↓at5, ↓xSl, ↓xNo, ↓xInt, ↓xPart, ↓xCutT, ↓xCutL, ↓xCB, ↓xLenT, ↓xLenL, ↓xIntI, ↓xTupT, ↓xTupL, ↓xLstT, ↓xLstL, ↓xIsiT, ↓xIsiI, ↓xIsiB, ↓xIsiS, ↓xMax2, ↓xMin2, ↓xSum, ↓xAll, ↓xApp, ↓xFld, ↓xFldS, ↓xGFd, ↓xCall, ↓xMeth, ↓xProp, ↓xNeg, ↓xNegI, if_true, if_false, Bool.false_eq_true, Bool.true_eq_false, reduceIte, Bool.not_true, Bool.not_false, decide_eq_true_eq, Bool.not_eq_true', decide_eq_false_iff_not, not_true_eq_false, not_false_eq_true, and_true, true_and, true_implies, List.length_cons, List.length_nil, Nat.zero_le, decide_true, decide_false, decide_not, ↓suIx0, ↓suIx1, ↓suIx2, ↓suIx3, ↓rwIx0, ↓rwIx1, ↓rwIx2, ↓rwIx3, ↓rwIx4, ↓rwIx5, ↓rwNo, ↓ddG, ↓ddS, ↓ddP, ↓ddGo, ↓liN, ↓liNe, ↓xFldX, ↓xFldWX, ↓xAppAX, ↓xAppBX, ↓xPop, ↓xPopK, ↓xLast, ↓xMthX, ↓xPrpX, ↓insU, ↓insN, ↓lsU, ↓lsN, ↓lk0, ↓lk1, ↓lk2, ↓lk3, ↓lk4, ↓lk5, ↓lk6, fl_len, pt2, pt3, pt4, pt5, pt6, ↓isC_at h', ↓ins_at h.ins, ↓ins_at h'.ins, ↓eqSu, ↓eqRl, i1, i2, ↓eqRR h.don h'.don, k1, k2]
  refine fin ?_
  rw [show decide (s.done.map Step.d = s'.done.map Step.d) = eqB s s' from @dec_eq _ _ _ (Classical.propDecidable _) steps_inj]
  exact hq
theorem eaD_inj {a b : List Rw × Stt} : eaD a = eaD b ↔ a = b := ⟨fun h => by
    cases a; cases b
    simp only [eaD, D.tup.injEq, List.cons.injEq, rl_inj, Stt.inj, and_true] at h
    rw [h.1, h.2], fun h => h ▸ rfl⟩
/-- one lift stands at an address -/
theorem LiftAt.uniq {C a p q e p' q' e' : Addr} {M : Mp} {s t : LS} (h : LiftAt C M a p q e s) (k : LiftAt C M a p' q' e' t) : p = p' ∧ q = q' ∧ e = e' ∧ s = t := by
  have e1 := h.ins.symm.trans k.ins
  simp only [Option.some.injEq, MO.ins.injEq, true_and, LS.fields, List.cons.injEq, Prod.mk.injEq, Su.inj, rl_inj, Stt.inj, D.ref.injEq, and_true] at e1
  obtain ⟨i1, i2, i3, i4, rfl, rfl, rfl⟩ := e1
  have e2 := h.don.symm.trans k.don
  have e3 := h.gon.symm.trans k.gon
  have e4 := h.ear.symm.trans k.ear
  simp only [Option.some.injEq, MO.lst.injEq] at e2 e3 e4
  rw [steps_inj] at e2
  rw [List.map_inj_right fun _ _ h => Ch.inj.mp h] at e3
  rw [List.map_inj_right fun _ _ h => eaD_inj.mp h] at e4
  refine ⟨rfl, rfl, rfl, ?_⟩
  cases s; cases t
  simp_all
theorem x_lift0 {C : Addr} {f : LS → D} {c : LS → Prop} {a p q e : Addr} {M : Mp} {s : LS} {Q : DK} {dx : DX} (h : LiftAt C M a p q e s) : S_lift0 C f c [.ref a] M Q dx = (c s ∧ Q (f s) M) :=
  propext ⟨fun ⟨_, _, _, _, t, e1, k, h1, h2⟩ => by cases e1; obtain ⟨_, _, _, rfl⟩ := h.uniq k; exact ⟨h1, h2⟩, fun ⟨h1, h2⟩ => ⟨_, _, _, _, _, rfl, h, h1, h2⟩⟩
theorem x_eq {C : Addr} {a p q e a' p' q' e' : Addr} {M : Mp} {s t : LS} {Q : DK} (h : LiftAt C M a p q e s) (k : LiftAt C M a' p' q' e' t) : dEqOwn C (S_eq C) (.ref a) (.ref a') M Q = (s.su = t.su ∧ s.first = t.first ∧ Q (.bl (eqB s t)) M) :=
  propext ⟨fun ⟨_, _, _, _, e1, e2, _, _, _, _, _, _, u, _, _, _, _, v, e3, h1, h2, q⟩ => by
    cases e1; cases e2; cases e3
    obtain ⟨_, _, _, rfl⟩ := h.uniq h1
    obtain ⟨_, _, _, rfl⟩ := k.uniq h2
    exact q, fun q => ⟨_, _, _, _, rfl, rfl, h.ins, k.ins, _, _, _, _, _, _, _, _, _, _, rfl, h, k, q⟩⟩
theorem x_len {C : Addr} {a p q e : Addr} {M : Mp} {s : LS} {Q : DK} (h : LiftAt C M a p q e s) (hl : s.gone.length ≤ 5000) : dLenI C (S_len C) [.ref a] M Q = Q (.int s.gone.length) M :=
  propext ⟨fun ⟨_, _, e1, _, _, _, _, _, u, e2, h1, _, n, e3, _, q⟩ => by
    cases e1; cases e2
    obtain ⟨_, _, _, rfl⟩ := h.uniq h1
    have : (s.gone.length : Int) = n := by injection e3
    rw [← this] at q; exact q, fun q => ⟨_, _, rfl, h.ins, _, _, _, _, _, rfl, h, trivial, _, rfl, by omega, q⟩⟩
/-! the law's own -/
def S_do (C : Addr) : DSp := fun ds M Q _ => ∃ a p q e s x, ds = [.ref a, Step.d x] ∧ LiftAt C M a p q e s ∧ s.ok ∧ x.ok s.su ∧ ∀ M', LiftAt C M' a p q e (s.act x) → Keeps M M' [a, p, q, e] → Q (s.answer x) M'
end DL

/-! Defs of the laws over data (printed by gen.py). -/
namespace DL
open PySem PySem.Spec PyProof.Rows L2
def d__law_cell_at : DS :=
  (dSeq (dIfS (dB (dOp dLt (dVar 1) (dCB (d1 lenV) (dCons (dVar 0) dNil)))) (dRet (dIx (dVar 0) (dVar 1))) dNext)
    (dRet (dC (.int 0))))
def d__law_draws : DS :=
  (dSeq (dSet 2 (dLstO dNil))
    (dSeq (dSet 3 (dOp dSub (dCB (d1 intV) (dCons (dVar 0) dNil)) (dOp dPow (dC (.int 10)) (dC (.int 18)))))
    (dSeq (dSet 4 (dOp dMod (dCB (d1 intV) (dCons (dVar 0) dNil)) (dOp dAdd (dOp dPow (dC (.int 10)) (dC (.int 40))) (dC (.int 121)))))
    (dSeq (dFor (dIr1 (dCons (dVar 1) dNil)) (gNm 5) (dSeq (dSet 6 (dOp dMod (dCB (d1 intV) (dCons (dOp dAdd (dOp dAdd (dOp dMul (dVar 4) (dC (.int 48271))) (dOp dMul (dOp dMul (dOp dAdd (dVar 5) (dC (.int 5))) (dOp dAdd (dVar 5) (dC (.int 5)))) (dC (.int 69621)))) (dC (.int 1))) dNil)) (dC (.int 2305843009213693951))))
    (dSeq (dSet 6 (dOp dMod (dCB (d1 intV) (dCons (dOp dAdd (dOp dMul (dVar 6) (dVar 6)) (dOp dMul (dC (.int 7)) (dVar 5))) dNil)) (dC (.int 2305843009213693921))))
    (dSeq (dSet 7 (dOp dMod (dCB (d1 intV) (dCons (dOp dFdiv (dVar 6) (dC (.int 64))) dNil)) (dC (.int 2520))))
    (dSeq (dIfS (dB (dOp dGt (dVar 3) (dC (.int 0)))) (dSeq (dSet 7 (dOp dMod (dCB (d1 intV) (dCons (dVar 3) dNil)) (dC (.int 2520))))
    (dSet 3 (dOp dFdiv (dVar 3) (dC (.int 2520))))) dNext)
    (dDrop (dApp (dVar 2) (dCons (dVar 7) dNil))))))))
    (dRet (dFrz 2))))))
def d__law_setup84 : DS :=
  (dSeq (dSet 1 (dCB (d1 tupV) (dCons (dLc (dIsq (dSl (dVar 0) (dPart (dC (.int 1))) (dPart (dOp dAdd (dC (.int 2)) (dOp dMod (dCB (d1 intV) (dCons (dIx (dVar 0) (dC (.int 0))) dNil)) (dC (.int 2))))))) (.one 3) [3] dYes (dOp dAdd (dC (.int 1)) (dOp dMod (dCB (d1 intV) (dCons (dVar 3) dNil)) (dC (.int 5))))) dNil)))
    (dSeq (dSet 2 (dLstO (dCons (dC (.int 1)) (dCons (dC (.int 2)) (dCons (dC (.int 3)) (dCons (dC (.int 4)) (dCons (dC (.int 5)) dNil)))))))
    (dSeq (dFor (dIsq (dSl (dVar 0) (dPart (dC (.int 3))) (dPart (dOp dSub (dC (.int 7)) (dOp dMod (dCB (d1 intV) (dCons (dOp dFdiv (dCB (d1 intV) (dCons (dIx (dVar 0) (dC (.int 0))) dNil)) (dC (.int 2))) dNil)) (dC (.int 3))))))) (gNm 3) (dDrop (dPopAt (dVar 2) (dCons (dOp dMod (dCB (d1 intV) (dCons (dVar 3) dNil)) (dCB (d1 lenV) (dCons (dVar 2) dNil))) dNil))))
    (dSeq (dSet 4 (dTup (dCons (dOp dAdd (dC (.int 1)) (dOp dMod (dCB (d1 intV) (dCons (dIx (dVar 0) (dC (.int 8))) dNil)) (dC (.int 3)))) (dCons (dOp dMod (dCB (d1 intV) (dCons (dIx (dVar 0) (dC (.int 9))) dNil)) (dC (.int 5))) dNil))))
    (dRet (dTup (dCons (dVar 1) (dCons (dCB (d1 tupV) (dCons (dVar 2) dNil)) (dCons (dVar 4) (dCons (dTup (dCons (dOp dMod (dCB (d1 intV) (dCons (dIx (dVar 0) (dC (.int 10))) dNil)) (dC (.int 3))) (dCons (dOp dMod (dCB (d1 intV) (dCons (dIx (dVar 0) (dC (.int 11))) dNil)) (dC (.int 3))) dNil))) dNil))))))))))
def d__law_comers : DS :=
  (dSeq (dSet 2 (dOp dMod (dCB (d1 intV) (dCons (dIx (dVar 1) (dC (.int 0))) dNil)) (dOp dAdd (dIx (dIx (dVar 0) (dC (.int 3))) (dC (.int 0))) (dC (.int 1)))))
    (dSeq (dSet 3 (dCB (d1 tupV) (dCons (dLc (dIsq (dSl (dVar 1) (dPart (dC (.int 1))) (dPart (dOp dAdd (dC (.int 1)) (dVar 2))))) (.one 4) [4] dYes (dIx (dIx (dVar 0) (dC (.int 1))) (dOp dMod (dCB (d1 intV) (dCons (dVar 4) dNil)) (dCB (d1 lenV) (dCons (dIx (dVar 0) (dC (.int 1))) dNil))))) dNil)))
    (dRet (dTup (dCons (dVar 3) (dCons (dOp dMod (dCB (d1 intV) (dCons (dIx (dVar 1) (dC (.int 3))) dNil)) (dOp dAdd (dIx (dIx (dVar 0) (dC (.int 3))) (dC (.int 1))) (dC (.int 1)))) dNil))))))
def d__law_range : DS :=
  (dSeq (dSet 1 (dOp dMod (dCB (d1 intV) (dCons (dOp dFdiv (dCB (d1 intV) (dCons (dVar 0) dNil)) (dC (.int 2))) dNil)) (dC (.int 10))))
    (dSeq (dIfS (dB (dOp dEq (dOp dMod (dCB (d1 intV) (dCons (dVar 0) dNil)) (dC (.int 2))) (dC (.int 0)))) (dRet (dTup (dCons (dC (.int 0)) (dCons (dC (.int 9)) dNil)))) dNext)
    (dRet (dTup (dCons (dVar 1) (dCons (dOp dAdd (dVar 1) (dOp dMod (dCB (d1 intV) (dCons (dOp dFdiv (dCB (d1 intV) (dCons (dVar 0) dNil)) (dC (.int 20))) dNil)) (dOp dSub (dC (.int 10)) (dVar 1)))) dNil))))))
def d__law_rule (S__law_range : DSp) : DS :=
  (dSeq (dSet 1 (dLstO dNil))
    (dSeq (dFor (dIr1 (dCons (dOp dMod (dCB (d1 intV) (dCons (dIx (dVar 0) (dC (.int 0))) dNil)) (dC (.int 4))) dNil)) (gNm 2) (dSeq (dAsg (dSl (dVar 0) (dPart (dOp dAdd (dC (.int 2)) (dOp dMul (dC (.int 6)) (dVar 2)))) (dPart (dOp dAdd (dC (.int 5)) (dOp dMul (dC (.int 6)) (dVar 2))))) (gSq 3 (gCn (gNm 3) (gCn (gNm 4) (gCn (gNm 5) gNl)))))
    (dSeq (dAsg (dSl (dVar 0) (dPart (dOp dAdd (dC (.int 5)) (dOp dMul (dC (.int 6)) (dVar 2)))) (dPart (dOp dAdd (dC (.int 8)) (dOp dMul (dC (.int 6)) (dVar 2))))) (gSq 3 (gCn (gNm 6) (gCn (gNm 7) (gCn (gNm 8) gNl)))))
    (dSeq (dSet 9 (dIx (dLst (dCons (dC (.str "group")) (dCons (dC (.str "single")) (dCons (dC (.str "part")) (dCons (dC (.str "go")) (dCons (dC (.str "group")) (dCons (dC (.str "single")) (dCons (dC (.str "part")) dNil)))))))) (dOp dMod (dCB (d1 intV) (dCons (dVar 7) dNil)) (dC (.int 7)))))
    (dSeq (dSet 10 (dIx (dLst (dCons (dC (.int 0)) (dCons (dC (.int 0)) (dCons (dC (.int 0)) (dCons (dC (.int 1)) (dCons (dC (.int 1)) (dCons (dC (.int 2)) dNil))))))) (dOp dMod (dCB (d1 intV) (dCons (dVar 3) dNil)) (dC (.int 6)))))
    (dSeq (dSet 11 (dIx (dLst (dCons (dC (.int 0)) (dCons (dC (.int 0)) (dCons (dC (.int 0)) (dCons (dC (.int 1)) (dCons (dC (.int 1)) (dCons (dC (.int 2)) dNil))))))) (dOp dMod (dCB (d1 intV) (dCons (dVar 8) dNil)) (dC (.int 6)))))
    (dSeq (dSet 12 (dTup (dCons (dCall S__law_range [] G0.dx (dCons (dVar 4) dNil)) (dCons (dCall S__law_range [] G0.dx (dCons (dVar 5) dNil)) (dCons (dCall S__law_range [] G0.dx (dCons (dVar 6) dNil)) dNil)))))
    (dDrop (dApp (dVar 1) (dCons (dOp dAdd (dOp dAdd (dTup (dCons (dVar 10) dNil)) (dVar 12)) (dTup (dCons (dVar 9) (dCons (dVar 11) dNil)))) dNil))))))))))
    (dSeq (dIfS (dB (dOp dGt (dOp dMod (dCB (d1 intV) (dCons (dIx (dVar 0) (dC (.int 1))) dNil)) (dC (.int 3))) (dC (.int 0)))) (dDrop (dApp (dVar 1) (dCons (dTup (dCons (dC (.int 0)) (dCons (dTup (dCons (dC (.int 0)) (dCons (dC (.int 9)) dNil))) (dCons (dTup (dCons (dC (.int 0)) (dCons (dC (.int 9)) dNil))) (dCons (dTup (dCons (dC (.int 0)) (dCons (dC (.int 9)) dNil))) (dCons (dIx (dLst (dCons (dC (.str "group")) (dCons (dC (.str "single")) dNil))) (dOp dMod (dCB (d1 intV) (dCons (dOp dFdiv (dCB (d1 intV) (dCons (dIx (dVar 0) (dC (.int 1))) dNil)) (dC (.int 3))) dNil)) (dC (.int 2)))) (dCons (dC (.int 0)) dNil))))))) dNil))) dNext)
    (dSeq (dIfS (dB (dOp dEq (dOp dMod (dCB (d1 intV) (dCons (dIx (dVar 0) (dC (.int 1))) dNil)) (dC (.int 3))) (dC (.int 2)))) (dDrop (dApp (dVar 1) (dCons (dTup (dCons (dC (.int 0)) (dCons (dTup (dCons (dC (.int 0)) (dCons (dC (.int 9)) dNil))) (dCons (dTup (dCons (dC (.int 0)) (dCons (dC (.int 9)) dNil))) (dCons (dTup (dCons (dC (.int 0)) (dCons (dC (.int 9)) dNil))) (dCons (dIx (dLst (dCons (dC (.str "single")) (dCons (dC (.str "group")) dNil))) (dOp dMod (dCB (d1 intV) (dCons (dOp dFdiv (dCB (d1 intV) (dCons (dIx (dVar 0) (dC (.int 1))) dNil)) (dC (.int 3))) dNil)) (dC (.int 2)))) (dCons (dC (.int 0)) dNil))))))) dNil))) dNext)
    (dRet (dCB (d1 tupV) (dCons (dVar 1) dNil)))))))
end DL

/-! What the laws' own defs answer. -/
namespace DL
open PySem PySem.Spec PyProof.Rows L2
def cellAt (l : List Int) (k : Int) : Int := (l[k.toNat]?).getD 0
theorem svl {M : Mp} {x : D} {xs : List D} (h : lv M x = some xs) : sv M x = some xs := by
  cases x <;> first | exact h | cases h
theorem ixS {M : Mp} {Q : DK} {x : D} {xs : List D} {i : Int} (e : sv M x = some xs) : dIxV x (.int i) M Q = optK (atI xs i) fun z => Q z M := by
  refine propext ⟨fun ⟨z, e1, _, q⟩ => ⟨z, ?_, q⟩, fun ⟨z, e1, q⟩ => ⟨z, ?_, trivial, q⟩⟩
  · have e1 : (sv M x).bind (fun xs => atI xs i) = some z := by cases x <;> exact e1
    rw [e] at e1; exact e1
  · have e1 : (sv M x).bind (fun xs => atI xs i) = some z := by rw [e]; exact e1
    cases x <;> exact e1
theorem lenS {M : Mp} {Q : DK} {x : D} {xs : List D} (e : sv M x = some xs) : d1 lenV [x] M Q = Q (.int xs.length) M := d1_eq (by unfold lenV; rw [e]; rfl)
theorem cutS {M : Mp} {x : D} {xs : List D} {l u : Option Int} {Q : D → Prop} (e : lv M x = some xs) : optK (cutM M l u x) Q = Q (.lst (cutD xs l u)) := by
  have : cutM M l u x = some (.lst (cutD xs l u)) := by
    have : (lv M x).map (fun xs => D.lst (cutD xs l u)) = some (.lst (cutD xs l u)) := by rw [e]; rfl
    cases x <;> first | exact this | cases e
  rw [this, xOpt]
theorem lv_keep {M M' : Mp} {x : D} {xs : List D} (k : Keeps M M' []) (h : lv M x = some xs) : lv M' x = some xs := by
  cases x with
  | ref a =>
    have h : lvO (M a) = some xs := h
    show lvO (M' a) = some xs
    cases e : M a with
    | none => rw [e] at h; cases h
    | some o => rw [k a o e List.not_mem_nil, ← e]; exact h
  | _ => first | exact h | cases h
def S_cell : DSp := fun ds M Q _ => ∃ (x : D) (l : List Int) (k : Int), ds = [x, .int k] ∧ lv M x = some (l.map D.int) ∧ 0 ≤ k ∧ Q (.int (cellAt l k)) M
theorem x_cell {M : Mp} {Q : DK} {dx : DX} {x : D} {l : List Int} {k : Int} (h : lv M x = some (l.map D.int)) (hk : 0 ≤ k) : S_cell [x, .int k] M Q dx = Q (.int (cellAt l k)) M :=
  propext ⟨fun ⟨_, m, _, e, h1, _, q⟩ => by
    cases e
    rw [h] at h1
    rw [ints_inj.mp (Option.some.inj h1)]; exact q, fun q => ⟨_, l, _, rfl, h, hk, q⟩⟩
theorem b_cell {ds M Q dx} (h : S_cell ds M Q dx) : d__law_cell_at (endD Q) (startD ["script", "k"] ds) M := by
  obtain ⟨x, l, k, rfl, hm, hk, q⟩ := h
  show d__law_cell_at (endD Q) [some x, some (.int k)] M
  unfold d__law_cell_at
  obtain ⟨n, rfl⟩ := Int.eq_ofNat_of_zero_le hk
  unfold cellAt at q
  rw [Int.toNat_natCast] at q
  by_cases h : n < l.length
  · have h1 : l[n]? = some l[n] := List.getElem?_eq_getElem h
    have h2 : (l.map D.int)[n]? = some (.int l[n]) := by rw [List.getElem?_map, h1]; rfl
    have h3 : ((n : Int) < (l.length : Int)) := by omega
    simp only [↓xSeq, ↓xNx, ↓xRt, ↓xBk, ↓xCt, ↓xEndNx, ↓xEndRt, ↓xNext, ↓xBreak, ↓xCont, ↓xDrop, ↓xRet, ↓xRetN, ↓xNever, ↓xIfS, ↓xPut0, ↓xPutS, ↓xSet, ↓xAug, ↓xAsg, ↓xUn2, ↓xUn1, ↓xPar, ↓xNm, ↓xNl, ↓xCn, ↓xSq, ↓xSqL, ↓xV0, ↓xVS, ↓xC, ↓xFrz, ↓xFrz1, ↓xOp, ↓xBl, ↓xB, ↓xChain, ↓xAnd, ↓xOr, ↓xNot, ↓xAndV, ↓xOrV, ↓xNotV, ↓xIf, ↓xNil, ↓xCons, ↓xTup, ↓xLst, ↓xLstO, ↓xOpt, ↓xAddI, ↓xAddT, ↓xAddL, ↓xSub, ↓xIAdd, ↓xFdiv, ↓xMod, ↓xPow, ↓xMul, ↓xLt, ↓xLe, ↓xGt, ↓xGe, ↓xEqI, ↓xNeI, ↓xEqB, ↓xNeB, ↓xIsBB, ↓xIsNN, ↓xIsTN, ↓xIsLN, ↓xIsIN, ↓xIsSN, ↓xIsRN, ↓xNoBB, ↓xNoNN, ↓xNoTN, ↓xNoLN, ↓xNoIN, ↓xNoSN, ↓xNoRN, ↓xInT, ↓xIx, ↓xIxT, ↓xIxL, ↓at0, ↓at1, ↓at2, ↓at3, ↓at4, ↓at5, ↓xSl, ↓xNo, ↓xInt, ↓xPart, ↓xCutT, ↓xCutL, ↓xCB, ↓xLenT, ↓xLenL, ↓xIntI, ↓xTupT, ↓xTupL, ↓xLstT, ↓xLstL, ↓xIsiT, ↓xIsiI, ↓xIsiB, ↓xIsiS, ↓xMax2, ↓xMin2, ↓xSum, ↓xAll, ↓xApp, ↓xFld, ↓xFldS, ↓xGFd, ↓xCall, ↓xMeth, ↓xProp, ↓xNeg, ↓xNegI, ↓suIx0, ↓suIx1, ↓suIx2, ↓suIx3, ↓rwIx0, ↓rwIx1, ↓rwIx2, ↓rwIx3, ↓rwIx4, ↓rwIx5, ↓rwNo, ↓ddG, ↓ddS, ↓ddP, ↓ddGo, ↓liN, ↓liNe, ↓xFldX, ↓xFldWX, ↓xAppAX, ↓xAppBX, ↓xPop, ↓xPopK, ↓xLast, ↓xMthX, ↓xPrpX, ↓insU, ↓insN, ↓lsU, ↓lsN, ↓lk0, ↓lk1, ↓lk2, ↓lk3, ↓lk4, ↓lk5, ↓lk6, if_true, if_false, Bool.false_eq_true, Bool.true_eq_false, reduceIte, Bool.not_true, Bool.not_false, decide_eq_true_eq, Bool.not_eq_true', decide_eq_false_iff_not, not_true_eq_false, not_false_eq_true, and_true, true_and, true_implies, List.length_cons, List.length_nil, Nat.zero_le, decide_true, decide_false, decide_not, fl_len, pt2, pt3, pt4, pt5, pt6, ↓lenS (svl hm), List.length_map, h3, ↓ixS (svl hm), ↓atNat rfl h2]
    rw [h1] at q
    exact fin q
  · have h3 : ¬ ((n : Int) < (l.length : Int)) := by omega
    simp only [↓xSeq, ↓xNx, ↓xRt, ↓xBk, ↓xCt, ↓xEndNx, ↓xEndRt, ↓xNext, ↓xBreak, ↓xCont, ↓xDrop, ↓xRet, ↓xRetN, ↓xNever, ↓xIfS, ↓xPut0, ↓xPutS, ↓xSet, ↓xAug, ↓xAsg, ↓xUn2, ↓xUn1, ↓xPar, ↓xNm, ↓xNl, ↓xCn, ↓xSq, ↓xSqL, ↓xV0, ↓xVS, ↓xC, ↓xFrz, ↓xFrz1, ↓xOp, ↓xBl, ↓xB, ↓xChain, ↓xAnd, ↓xOr, ↓xNot, ↓xAndV, ↓xOrV, ↓xNotV, ↓xIf, ↓xNil, ↓xCons, ↓xTup, ↓xLst, ↓xLstO, ↓xOpt, ↓xAddI, ↓xAddT, ↓xAddL, ↓xSub, ↓xIAdd, ↓xFdiv, ↓xMod, ↓xPow, ↓xMul, ↓xLt, ↓xLe, ↓xGt, ↓xGe, ↓xEqI, ↓xNeI, ↓xEqB, ↓xNeB, ↓xIsBB, ↓xIsNN, ↓xIsTN, ↓xIsLN, ↓xIsIN, ↓xIsSN, ↓xIsRN, ↓xNoBB, ↓xNoNN, ↓xNoTN, ↓xNoLN, ↓xNoIN, ↓xNoSN, ↓xNoRN, ↓xInT, ↓xIx, ↓xIxT, ↓xIxL, ↓at0, ↓at1, ↓at2, ↓at3, ↓at4, ↓at5, ↓xSl, ↓xNo, ↓xInt, ↓xPart, ↓xCutT, ↓xCutL, ↓xCB, ↓xLenT, ↓xLenL, ↓xIntI, ↓xTupT, ↓xTupL, ↓xLstT, ↓xLstL, ↓xIsiT, ↓xIsiI, ↓xIsiB, ↓xIsiS, ↓xMax2, ↓xMin2, ↓xSum, ↓xAll, ↓xApp, ↓xFld, ↓xFldS, ↓xGFd, ↓xCall, ↓xMeth, ↓xProp, ↓xNeg, ↓xNegI, ↓suIx0, ↓suIx1, ↓suIx2, ↓suIx3, ↓rwIx0, ↓rwIx1, ↓rwIx2, ↓rwIx3, ↓rwIx4, ↓rwIx5, ↓rwNo, ↓ddG, ↓ddS, ↓ddP, ↓ddGo, ↓liN, ↓liNe, ↓xFldX, ↓xFldWX, ↓xAppAX, ↓xAppBX, ↓xPop, ↓xPopK, ↓xLast, ↓xMthX, ↓xPrpX, ↓insU, ↓insN, ↓lsU, ↓lsN, ↓lk0, ↓lk1, ↓lk2, ↓lk3, ↓lk4, ↓lk5, ↓lk6, if_true, if_false, Bool.false_eq_true, Bool.true_eq_false, reduceIte, Bool.not_true, Bool.not_false, decide_eq_true_eq, Bool.not_eq_true', decide_eq_false_iff_not, not_true_eq_false, not_false_eq_true, and_true, true_and, true_implies, List.length_cons, List.length_nil, Nat.zero_le, decide_true, decide_false, decide_not, fl_len, pt2, pt3, pt4, pt5, pt6, ↓lenS (svl hm), List.length_map, h3]
    rw [List.getElem?_eq_none (by omega)] at q
    exact fin q
structure Drw (n : Nat) (L : List Int) : Prop where
  len : L.length = n
  pos : ∀ d ∈ L, 0 ≤ d
def S_draws : DSp := fun ds M Q _ => ∃ (c : Int) (n : Nat), ds = [.int c, .int n] ∧ n ≤ 1000 ∧ ∀ L, Drw n L → Q (.lst (L.map D.int)) M
structure DrwI (c : Int) (n : Nat) (M : Mp) (p : Addr) (k : Nat) (ρ : Rh) (M' : Mp) : Prop where
  ex : ∃ (L : List Int) (a b : Int) (x y z : Option D), ρ = [some (.int c), some (.int n), some (.ref p), some (.int a), some (.int b), x, y, z] ∧ M' = upm M p (.lst (L.map D.int)) ∧ Drw k L
theorem cm_r {i j : Int} (h : -(2 ^ 64) < j ∧ j < 2 ^ 64) : CMul i j := .inr h
theorem cm_l {i j : Int} (h : -(2 ^ 64) < i ∧ i < 2 ^ 64) : CMul i j := .inl h
theorem mod_lt {a b : Int} (h : 0 < b) : 0 ≤ a % b ∧ a % b < b := ⟨Int.emod_nonneg _ (by omega), Int.emod_lt_of_pos _ h⟩
theorem b_draws {ds M Q dx} (h : S_draws ds M Q dx) : d__law_draws (endD Q) (startD ["cell", "many", "draws", "rest", "seed", "k", "stir", "draw"] ds) M := by
  obtain ⟨c, n, rfl, hn, hq⟩ := h
  show d__law_draws (endD Q) [some (.int c), some (.int n), none, none, none, none, none, none] M
  unfold d__law_draws
  simp only [↓xSeq, ↓xNx, ↓xRt, ↓xBk, ↓xCt, ↓xEndNx, ↓xEndRt, ↓xNext, ↓xBreak, ↓xCont, ↓xDrop, ↓xRet, ↓xRetN, ↓xNever, ↓xIfS, ↓xPut0, ↓xPutS, ↓xSet, ↓xAug, ↓xAsg, ↓xUn2, ↓xUn1, ↓xPar, ↓xNm, ↓xNl, ↓xCn, ↓xSq, ↓xSqL, ↓xV0, ↓xVS, ↓xC, ↓xFrz, ↓xFrz1, ↓xOp, ↓xBl, ↓xB, ↓xChain, ↓xAnd, ↓xOr, ↓xNot, ↓xAndV, ↓xOrV, ↓xNotV, ↓xIf, ↓xNil, ↓xCons, ↓xTup, ↓xLst, ↓xLstO, ↓xOpt, ↓xAddI, ↓xAddT, ↓xAddL, ↓xSub, ↓xIAdd, ↓xFdiv, ↓xMod, ↓xPow, ↓xMul, ↓xLt, ↓xLe, ↓xGt, ↓xGe, ↓xEqI, ↓xNeI, ↓xEqB, ↓xNeB, ↓xIsBB, ↓xIsNN, ↓xIsTN, ↓xIsLN, ↓xIsIN, ↓xIsSN, ↓xIsRN, ↓xNoBB, ↓xNoNN, ↓xNoTN, ↓xNoLN, ↓xNoIN, ↓xNoSN, ↓xNoRN, ↓xInT, ↓xIx, ↓xIxT, ↓xIxL, ↓at0, ↓at1, ↓at2, ↓at3, ↓at4, ↓at5, ↓xSl, ↓xNo, ↓xInt, ↓xPart, ↓xCutT, ↓xCutL, ↓xCB, ↓xLenT, ↓xLenL, ↓xIntI, ↓xTupT, ↓xTupL, ↓xLstT, ↓xLstL, ↓xIsiT, ↓xIsiI, ↓xIsiB, ↓xIsiS, ↓xMax2, ↓xMin2, ↓xSum, ↓xAll, ↓xApp, ↓xFld, ↓xFldS, ↓xGFd, ↓xCall, ↓xMeth, ↓xProp, ↓xNeg, ↓xNegI, ↓suIx0, ↓suIx1, ↓suIx2, ↓suIx3, ↓rwIx0, ↓rwIx1, ↓rwIx2, ↓rwIx3, ↓rwIx4, ↓rwIx5, ↓rwNo, ↓ddG, ↓ddS, ↓ddP, ↓ddGo, ↓liN, ↓liNe, ↓xFldX, ↓xFldWX, ↓xAppAX, ↓xAppBX, ↓xPop, ↓xPopK, ↓xLast, ↓xMthX, ↓xPrpX, ↓insU, ↓insN, ↓lsU, ↓lsN, ↓lk0, ↓lk1, ↓lk2, ↓lk3, ↓lk4, ↓lk5, ↓lk6, if_true, if_false, Bool.false_eq_true, Bool.true_eq_false, reduceIte, Bool.not_true, Bool.not_false, decide_eq_true_eq, Bool.not_eq_true', decide_eq_false_iff_not, not_true_eq_false, not_false_eq_true, and_true, true_and, true_implies, List.length_cons, List.length_nil, Nat.zero_le, decide_true, decide_false, decide_not, fl_len, pt2, pt3, pt4, pt5, pt6]
  refine fun p hp => ⟨⟨by decide, by decide, by decide⟩, ⟨by decide, by decide, by decide⟩, by decide, ?_⟩
  refine for_range (n := n) (fun Q q => by simp only [↓xSeq, ↓xNx, ↓xRt, ↓xBk, ↓xCt, ↓xEndNx, ↓xEndRt, ↓xNext, ↓xBreak, ↓xCont, ↓xDrop, ↓xRet, ↓xRetN, ↓xNever, ↓xIfS, ↓xPut0, ↓xPutS, ↓xSet, ↓xAug, ↓xAsg, ↓xUn2, ↓xUn1, ↓xPar, ↓xNm, ↓xNl, ↓xCn, ↓xSq, ↓xSqL, ↓xV0, ↓xVS, ↓xC, ↓xFrz, ↓xFrz1, ↓xOp, ↓xBl, ↓xB, ↓xChain, ↓xAnd, ↓xOr, ↓xNot, ↓xAndV, ↓xOrV, ↓xNotV, ↓xIf, ↓xNil, ↓xCons, ↓xTup, ↓xLst, ↓xLstO, ↓xOpt, ↓xAddI, ↓xAddT, ↓xAddL, ↓xSub, ↓xIAdd, ↓xFdiv, ↓xMod, ↓xPow, ↓xMul, ↓xLt, ↓xLe, ↓xGt, ↓xGe, ↓xEqI, ↓xNeI, ↓xEqB, ↓xNeB, ↓xIsBB, ↓xIsNN, ↓xIsTN, ↓xIsLN, ↓xIsIN, ↓xIsSN, ↓xIsRN, ↓xNoBB, ↓xNoNN, ↓xNoTN, ↓xNoLN, ↓xNoIN, ↓xNoSN, ↓xNoRN, ↓xInT, ↓xIx, ↓xIxT, ↓xIxL, ↓at0, ↓at1, ↓at2, ↓at3, ↓at4, ↓at5, ↓xSl, ↓xNo, ↓xInt, ↓xPart, ↓xCutT, ↓xCutL, ↓xCB, ↓xLenT, ↓xLenL, ↓xIntI, ↓xTupT, ↓xTupL, ↓xLstT, ↓xLstL, ↓xIsiT, ↓xIsiI, ↓xIsiB, ↓xIsiS, ↓xMax2, ↓xMin2, ↓xSum, ↓xAll, ↓xApp, ↓xFld, ↓xFldS, ↓xGFd, ↓xCall, ↓xMeth, ↓xProp, ↓xNeg, ↓xNegI, ↓suIx0, ↓suIx1, ↓suIx2, ↓suIx3, ↓rwIx0, ↓rwIx1, ↓rwIx2, ↓rwIx3, ↓rwIx4, ↓rwIx5, ↓rwNo, ↓ddG, ↓ddS, ↓ddP, ↓ddGo, ↓liN, ↓liNe, ↓xFldX, ↓xFldWX, ↓xAppAX, ↓xAppBX, ↓xPop, ↓xPopK, ↓xLast, ↓xMthX, ↓xPrpX, ↓insU, ↓insN, ↓lsU, ↓lsN, ↓lk0, ↓lk1, ↓lk2, ↓lk3, ↓lk4, ↓lk5, ↓lk6, if_true, if_false, Bool.false_eq_true, Bool.true_eq_false, reduceIte, Bool.not_true, Bool.not_false, decide_eq_true_eq, Bool.not_eq_true', decide_eq_false_iff_not, not_true_eq_false, not_false_eq_true, and_true, true_and, true_implies, List.length_cons, List.length_nil, Nat.zero_le, decide_true, decide_false, decide_not, fl_len, pt2, pt3, pt4, pt5, pt6]; exact q) (by omega) (DrwI c n M p) ⟨[], _, _, _, _, _, rfl, rfl, rfl, by simp⟩ (fun k ρ M' hk ⟨L, a, b, x, y, z, hρ, hM, hL⟩ => ?_) (fun ρ M' ⟨L, a, b, x, y, z, hρ, hM, hL⟩ => ?_)
  · subst hρ hM
    have h5 : ((L.map D.int).length < sizeLine) := by rw [List.length_map, hL.len]; exact Nat.lt_of_lt_of_le (by omega : k < 1000) (by decide)
    have nx : ∀ (a b : Int) (x y : Option D) (d : Int), 0 ≤ d → DrwI c n M p (k + 1) [some (.int c), some (.int n), some (.ref p), some (.int a), some (.int b), x, y, some (.int d)] (upm M p (.lst (L.map D.int ++ [.int d]))) := fun a b x y d hd =>
      ⟨L ++ [d], a, b, x, y, _, rfl, by rw [map_snoc], by rw [List.length_append, hL.len]; rfl, fun e he => by
        rcases List.mem_append.mp he with h | h
        · exact hL.pos e h
        · rw [List.mem_singleton.mp h]; exact hd⟩
    simp only [↓xSeq, ↓xNx, ↓xRt, ↓xBk, ↓xCt, ↓xEndNx, ↓xEndRt, ↓xNext, ↓xBreak, ↓xCont, ↓xDrop, ↓xRet, ↓xRetN, ↓xNever, ↓xIfS, ↓xPut0, ↓xPutS, ↓xSet, ↓xAug, ↓xAsg, ↓xUn2, ↓xUn1, ↓xPar, ↓xNm, ↓xNl, ↓xCn, ↓xSq, ↓xSqL, ↓xV0, ↓xVS, ↓xC, ↓xFrz, ↓xFrz1, ↓xOp, ↓xBl, ↓xB, ↓xChain, ↓xAnd, ↓xOr, ↓xNot, ↓xAndV, ↓xOrV, ↓xNotV, ↓xIf, ↓xNil, ↓xCons, ↓xTup, ↓xLst, ↓xLstO, ↓xOpt, ↓xAddI, ↓xAddT, ↓xAddL, ↓xSub, ↓xIAdd, ↓xFdiv, ↓xMod, ↓xPow, ↓xMul, ↓xLt, ↓xLe, ↓xGt, ↓xGe, ↓xEqI, ↓xNeI, ↓xEqB, ↓xNeB, ↓xIsBB, ↓xIsNN, ↓xIsTN, ↓xIsLN, ↓xIsIN, ↓xIsSN, ↓xIsRN, ↓xNoBB, ↓xNoNN, ↓xNoTN, ↓xNoLN, ↓xNoIN, ↓xNoSN, ↓xNoRN, ↓xInT, ↓xIx, ↓xIxT, ↓xIxL, ↓at0, ↓at1, ↓at2, ↓at3, ↓at4, ↓at5, ↓xSl, ↓xNo, ↓xInt, ↓xPart, ↓xCutT, ↓xCutL, ↓xCB, ↓xLenT, ↓xLenL, ↓xIntI, ↓xTupT, ↓xTupL, ↓xLstT, ↓xLstL, ↓xIsiT, ↓xIsiI, ↓xIsiB, ↓xIsiS, ↓xMax2, ↓xMin2, ↓xSum, ↓xAll, ↓xApp, ↓xFld, ↓xFldS, ↓xGFd, ↓xCall, ↓xMeth, ↓xProp, ↓xNeg, ↓xNegI, ↓suIx0, ↓suIx1, ↓suIx2, ↓suIx3, ↓rwIx0, ↓rwIx1, ↓rwIx2, ↓rwIx3, ↓rwIx4, ↓rwIx5, ↓rwNo, ↓ddG, ↓ddS, ↓ddP, ↓ddGo, ↓liN, ↓liNe, ↓xFldX, ↓xFldWX, ↓xAppAX, ↓xAppBX, ↓xPop, ↓xPopK, ↓xLast, ↓xMthX, ↓xPrpX, ↓insU, ↓insN, ↓lsU, ↓lsN, ↓lk0, ↓lk1, ↓lk2, ↓lk3, ↓lk4, ↓lk5, ↓lk6, if_true, if_false, Bool.false_eq_true, Bool.true_eq_false, reduceIte, Bool.not_true, Bool.not_false, decide_eq_true_eq, Bool.not_eq_true', decide_eq_false_iff_not, not_true_eq_false, not_false_eq_true, and_true, true_and, true_implies, List.length_cons, List.length_nil, Nat.zero_le, decide_true, decide_false, decide_not, fl_len, pt2, pt3, pt4, pt5, pt6, h5, upm_upm]
    refine ⟨cm_r ⟨by decide, by decide⟩, cm_r (by omega), cm_r ⟨by decide, by decide⟩, by decide, cm_r ?_, cm_l ⟨by decide, by decide⟩, by decide, ⟨by decide, by decide⟩, by decide, ?_⟩
    · have := @mod_lt (b * 48271 + ((k : Int) + 5) * ((k : Int) + 5) * 69621 + 1) 2305843009213693951 (by decide)
      omega
    · split
      · exact ⟨by decide, ⟨by decide, by decide⟩, nx _ _ _ _ _ (mod_lt (by decide)).1⟩
      · exact nx _ _ _ _ _ (mod_lt (by decide)).1
  · subst hρ hM
    simp only [↓xSeq, ↓xNx, ↓xRt, ↓xBk, ↓xCt, ↓xEndNx, ↓xEndRt, ↓xNext, ↓xBreak, ↓xCont, ↓xDrop, ↓xRet, ↓xRetN, ↓xNever, ↓xIfS, ↓xPut0, ↓xPutS, ↓xSet, ↓xAug, ↓xAsg, ↓xUn2, ↓xUn1, ↓xPar, ↓xNm, ↓xNl, ↓xCn, ↓xSq, ↓xSqL, ↓xV0, ↓xVS, ↓xC, ↓xFrz, ↓xFrz1, ↓xOp, ↓xBl, ↓xB, ↓xChain, ↓xAnd, ↓xOr, ↓xNot, ↓xAndV, ↓xOrV, ↓xNotV, ↓xIf, ↓xNil, ↓xCons, ↓xTup, ↓xLst, ↓xLstO, ↓xOpt, ↓xAddI, ↓xAddT, ↓xAddL, ↓xSub, ↓xIAdd, ↓xFdiv, ↓xMod, ↓xPow, ↓xMul, ↓xLt, ↓xLe, ↓xGt, ↓xGe, ↓xEqI, ↓xNeI, ↓xEqB, ↓xNeB, ↓xIsBB, ↓xIsNN, ↓xIsTN, ↓xIsLN, ↓xIsIN, ↓xIsSN, ↓xIsRN, ↓xNoBB, ↓xNoNN, ↓xNoTN, ↓xNoLN, ↓xNoIN, ↓xNoSN, ↓xNoRN, ↓xInT, ↓xIx, ↓xIxT, ↓xIxL, ↓at0, ↓at1, ↓at2, ↓at3, ↓at4, ↓at5, ↓xSl, ↓xNo, ↓xInt, ↓xPart, ↓xCutT, ↓xCutL, ↓xCB, ↓xLenT, ↓xLenL, ↓xIntI, ↓xTupT, ↓xTupL, ↓xLstT, ↓xLstL, ↓xIsiT, ↓xIsiI, ↓xIsiB, ↓xIsiS, ↓xMax2, ↓xMin2, ↓xSum, ↓xAll, ↓xApp, ↓xFld, ↓xFldS, ↓xGFd, ↓xCall, ↓xMeth, ↓xProp, ↓xNeg, ↓xNegI, ↓suIx0, ↓suIx1, ↓suIx2, ↓suIx3, ↓rwIx0, ↓rwIx1, ↓rwIx2, ↓rwIx3, ↓rwIx4, ↓rwIx5, ↓rwNo, ↓ddG, ↓ddS, ↓ddP, ↓ddGo, ↓liN, ↓liNe, ↓xFldX, ↓xFldWX, ↓xAppAX, ↓xAppBX, ↓xPop, ↓xPopK, ↓xLast, ↓xMthX, ↓xPrpX, ↓insU, ↓insN, ↓lsU, ↓lsN, ↓lk0, ↓lk1, ↓lk2, ↓lk3, ↓lk4, ↓lk5, ↓lk6, if_true, if_false, Bool.false_eq_true, Bool.true_eq_false, reduceIte, Bool.not_true, Bool.not_false, decide_eq_true_eq, Bool.not_eq_true', decide_eq_false_iff_not, not_true_eq_false, not_false_eq_true, and_true, true_and, true_implies, List.length_cons, List.length_nil, Nat.zero_le, decide_true, decide_false, decide_not, fl_len, pt2, pt3, pt4, pt5, pt6]
    exact ⟨M, sub_del hp, hq L hL⟩
def S_range : DSp := fun ds M Q _ => ∃ d : Int, ds = [.int d] ∧ 0 ≤ d ∧ ∀ a b : Int, (0 ≤ a ∧ a ≤ b ∧ b ≤ 9) → Q (.tup [.int a, .int b]) M
theorem b_range {ds M Q dx} (h : S_range ds M Q dx) : d__law_range (endD Q) (startD ["draw", "low"] ds) M := by
  obtain ⟨d, rfl, hd, hq⟩ := h
  show d__law_range (endD Q) [some (.int d), none] M
  unfold d__law_range
  simp only [↓xSeq, ↓xNx, ↓xRt, ↓xBk, ↓xCt, ↓xEndNx, ↓xEndRt, ↓xNext, ↓xBreak, ↓xCont, ↓xDrop, ↓xRet, ↓xRetN, ↓xNever, ↓xIfS, ↓xPut0, ↓xPutS, ↓xSet, ↓xAug, ↓xAsg, ↓xUn2, ↓xUn1, ↓xPar, ↓xNm, ↓xNl, ↓xCn, ↓xSq, ↓xSqL, ↓xV0, ↓xVS, ↓xC, ↓xFrz, ↓xFrz1, ↓xOp, ↓xBl, ↓xB, ↓xChain, ↓xAnd, ↓xOr, ↓xNot, ↓xAndV, ↓xOrV, ↓xNotV, ↓xIf, ↓xNil, ↓xCons, ↓xTup, ↓xLst, ↓xLstO, ↓xOpt, ↓xAddI, ↓xAddT, ↓xAddL, ↓xSub, ↓xIAdd, ↓xFdiv, ↓xMod, ↓xPow, ↓xMul, ↓xLt, ↓xLe, ↓xGt, ↓xGe, ↓xEqI, ↓xNeI, ↓xEqB, ↓xNeB, ↓xIsBB, ↓xIsNN, ↓xIsTN, ↓xIsLN, ↓xIsIN, ↓xIsSN, ↓xIsRN, ↓xNoBB, ↓xNoNN, ↓xNoTN, ↓xNoLN, ↓xNoIN, ↓xNoSN, ↓xNoRN, ↓xInT, ↓xIx, ↓xIxT, ↓xIxL, ↓at0, ↓at1, ↓at2, ↓at3, ↓at4, ↓at5, ↓xSl, ↓xNo, ↓xInt, ↓xPart, ↓xCutT, ↓xCutL, ↓xCB, ↓xLenT, ↓xLenL, ↓xIntI, ↓xTupT, ↓xTupL, ↓xLstT, ↓xLstL, ↓xIsiT, ↓xIsiI, ↓xIsiB, ↓xIsiS, ↓xMax2, ↓xMin2, ↓xSum, ↓xAll, ↓xApp, ↓xFld, ↓xFldS, ↓xGFd, ↓xCall, ↓xMeth, ↓xProp, ↓xNeg, ↓xNegI, ↓suIx0, ↓suIx1, ↓suIx2, ↓suIx3, ↓rwIx0, ↓rwIx1, ↓rwIx2, ↓rwIx3, ↓rwIx4, ↓rwIx5, ↓rwNo, ↓ddG, ↓ddS, ↓ddP, ↓ddGo, ↓liN, ↓liNe, ↓xFldX, ↓xFldWX, ↓xAppAX, ↓xAppBX, ↓xPop, ↓xPopK, ↓xLast, ↓xMthX, ↓xPrpX, ↓insU, ↓insN, ↓lsU, ↓lsN, ↓lk0, ↓lk1, ↓lk2, ↓lk3, ↓lk4, ↓lk5, ↓lk6, if_true, if_false, Bool.false_eq_true, Bool.true_eq_false, reduceIte, Bool.not_true, Bool.not_false, decide_eq_true_eq, Bool.not_eq_true', decide_eq_false_iff_not, not_true_eq_false, not_false_eq_true, and_true, true_and, true_implies, List.length_cons, List.length_nil, Nat.zero_le, decide_true, decide_false, decide_not, fl_len, pt2, pt3, pt4, pt5, pt6, le2]
  obtain ⟨l0, l1⟩ := @mod_lt (d / 2) 10 (by decide)
  obtain ⟨m0, m1⟩ := @mod_lt (d / 20) (10 - d / 2 % 10) (by omega)
  refine ⟨⟨by decide, by decide⟩, by decide, by decide, ?_⟩
  split
  · exact fin (hq 0 9 (by decide))
  · exact ⟨⟨by decide, by decide⟩, by omega, fin (hq _ _ (by omega))⟩
theorem nthI {L : List Int} {n : Nat} (h : n < L.length) : ∃ x, x ∈ L ∧ (L.map D.int)[n]? = some (.int x) ∧ L[n]? = some x := ⟨L[n], List.getElem_mem h, by rw [List.getElem?_map, List.getElem?_eq_getElem h]; rfl, List.getElem?_eq_getElem h⟩
theorem cut_nat {xs : List D} {a b : Nat} : cutD xs (some (a : Int)) (some (b : Int)) = (xs.drop (min a xs.length)).take (min b xs.length - min a xs.length) := by
  unfold cutD
  rw [HT.sIx_nat, HT.sIx_nat]
theorem cut_ints {L : List Int} {a b : Nat} : cutD (L.map D.int) (some (a : Int)) (some (b : Int)) = ((L.drop (min a L.length)).take (min b L.length - min a L.length)).map D.int := by
  rw [cut_nat, List.length_map, List.map_take, List.map_drop]
def cutI (L : List Int) (a b : Nat) : List Int := (L.drop (min a L.length)).take (min b L.length - min a L.length)
theorem cutI_mem {L : List Int} {a b : Nat} {x : Int} (h : x ∈ cutI L a b) : x ∈ L := List.mem_of_mem_drop (List.mem_of_mem_take h)
theorem cutI_len {L : List Int} {a b : Nat} : (cutI L a b).length = min b L.length - min a L.length := by
  unfold cutI
  rw [List.length_take, List.length_drop]
  omega
theorem cutD_ints {L : List Int} {i j : Int} {a b : Nat} (hi : i = a) (hj : j = b) : cutD (L.map D.int) (some i) (some j) = (cutI L a b).map D.int := by
  subst hi hj
  rw [cut_ints]; rfl
def S_comers : DSp := fun ds M Q _ => ∃ (su : Su) (L : List Int), ds = [su.d, .lst (L.map D.int)] ∧ su.ok ∧ (4 ≤ L.length ∧ ∀ d ∈ L, 0 ≤ d) ∧ ∀ c : Cm, c.ok su → Q c.d M
theorem b_comers {ds M Q dx} (h : S_comers ds M Q dx) : d__law_comers (endD Q) (startD ["setup", "draws", "many", "sizes", "draw"] ds) M := by
  obtain ⟨su, L, rfl, hs, ⟨hl, hp⟩, hq⟩ := h
  show d__law_comers (endD Q) [some su.d, some (.lst (L.map D.int)), none, none, none] M
  unfold d__law_comers
  obtain ⟨x0, hx0, e0, _⟩ := nthI (L := L) (n := 0) (by omega)
  obtain ⟨x3, hx3, e3, _⟩ := nthI (L := L) (n := 3) (by omega)
  have c1 := hs.c1
  have c2 := hs.c2
  have c3 := hs.c3
  have c4 := hs.c4
  have b1 := hs.b1
  have m0 := @mod_lt x0 (su.c0 + 1) (by omega)
  have m3 := @mod_lt x3 (su.c1 + 1) (by omega)
  obtain ⟨n, hn⟩ := Int.eq_ofNat_of_zero_le m0.1
  simp only [↓xSeq, ↓xNx, ↓xRt, ↓xBk, ↓xCt, ↓xEndNx, ↓xEndRt, ↓xNext, ↓xBreak, ↓xCont, ↓xDrop, ↓xRet, ↓xRetN, ↓xNever, ↓xIfS, ↓xPut0, ↓xPutS, ↓xSet, ↓xAug, ↓xAsg, ↓xUn2, ↓xUn1, ↓xPar, ↓xNm, ↓xNl, ↓xCn, ↓xSq, ↓xSqL, ↓xV0, ↓xVS, ↓xC, ↓xFrz, ↓xFrz1, ↓xOp, ↓xBl, ↓xB, ↓xChain, ↓xAnd, ↓xOr, ↓xNot, ↓xAndV, ↓xOrV, ↓xNotV, ↓xIf, ↓xNil, ↓xCons, ↓xTup, ↓xLst, ↓xLstO, ↓xOpt, ↓xAddI, ↓xAddT, ↓xAddL, ↓xSub, ↓xIAdd, ↓xFdiv, ↓xMod, ↓xPow, ↓xMul, ↓xLt, ↓xLe, ↓xGt, ↓xGe, ↓xEqI, ↓xNeI, ↓xEqB, ↓xNeB, ↓xIsBB, ↓xIsNN, ↓xIsTN, ↓xIsLN, ↓xIsIN, ↓xIsSN, ↓xIsRN, ↓xNoBB, ↓xNoNN, ↓xNoTN, ↓xNoLN, ↓xNoIN, ↓xNoSN, ↓xNoRN, ↓xInT, ↓xIx, ↓xIxT, ↓xIxL, ↓at0, ↓at1, ↓at2, ↓at3, ↓at4, ↓at5, ↓xSl, ↓xNo, ↓xInt, ↓xPart, ↓xCutT, ↓xCutL, ↓xCB, ↓xLenT, ↓xLenL, ↓xIntI, ↓xTupT, ↓xTupL, ↓xLstT, ↓xLstL, ↓xIsiT, ↓xIsiI, ↓xIsiB, ↓xIsiS, ↓xMax2, ↓xMin2, ↓xSum, ↓xAll, ↓xApp, ↓xFld, ↓xFldS, ↓xGFd, ↓xCall, ↓xMeth, ↓xProp, ↓xNeg, ↓xNegI, ↓suIx0, ↓suIx1, ↓suIx2, ↓suIx3, ↓rwIx0, ↓rwIx1, ↓rwIx2, ↓rwIx3, ↓rwIx4, ↓rwIx5, ↓rwNo, ↓ddG, ↓ddS, ↓ddP, ↓ddGo, ↓liN, ↓liNe, ↓xFldX, ↓xFldWX, ↓xAppAX, ↓xAppBX, ↓xPop, ↓xPopK, ↓xLast, ↓xMthX, ↓xPrpX, ↓insU, ↓insN, ↓lsU, ↓lsN, ↓lk0, ↓lk1, ↓lk2, ↓lk3, ↓lk4, ↓lk5, ↓lk6, if_true, if_false, Bool.false_eq_true, Bool.true_eq_false, reduceIte, Bool.not_true, Bool.not_false, decide_eq_true_eq, Bool.not_eq_true', decide_eq_false_iff_not, not_true_eq_false, not_false_eq_true, and_true, true_and, true_implies, List.length_cons, List.length_nil, Nat.zero_le, decide_true, decide_false, decide_not, fl_len, pt2, pt3, pt4, pt5, pt6, ↓atNat (show (0 : Int) = (0 : Nat) from rfl) e0, ↓atNat (show (3 : Int) = (3 : Nat) from rfl) e3, hn]
  refine ⟨by omega, ?_⟩
  have ln : (0 : Int) < (su.sizes.length : Int) := by omega
  have pick : ∀ d : Int, ∃ x, x ∈ su.sizes ∧ (su.sizes.map D.int)[(d % (su.sizes.length : Int)).toNat]? = some (.int x) ∧ (su.sizes[(d % (su.sizes.length : Int)).toNat]?).getD 0 = x := fun d => by
    have := @mod_lt d (su.sizes.length : Int) ln
    obtain ⟨x, h1, h2, h3⟩ := nthI (L := su.sizes) (n := (d % (su.sizes.length : Int)).toNat) (by omega)
    exact ⟨x, h1, h2, by rw [h3]; rfl⟩
  refine lc_map D.int (cutI L 1 (1 + n)) (fun d => .int ((su.sizes[(d % (su.sizes.length : Int)).toNat]?).getD 0)) (x := .lst ((cutI L 1 (1 + n)).map D.int)) (fun Q q => ?_) rfl (fun p o hp => rfl) (line_le (by rw [cutI_len]; omega)) (fun p ys d hp hd => ⟨[some su.d, some (.lst (L.map D.int)), some (.int n), none, some (.int d)], rfl, fun Q q => ?_⟩) ?_
  · simp only [↓xSeq, ↓xNx, ↓xRt, ↓xBk, ↓xCt, ↓xEndNx, ↓xEndRt, ↓xNext, ↓xBreak, ↓xCont, ↓xDrop, ↓xRet, ↓xRetN, ↓xNever, ↓xIfS, ↓xPut0, ↓xPutS, ↓xSet, ↓xAug, ↓xAsg, ↓xUn2, ↓xUn1, ↓xPar, ↓xNm, ↓xNl, ↓xCn, ↓xSq, ↓xSqL, ↓xV0, ↓xVS, ↓xC, ↓xFrz, ↓xFrz1, ↓xOp, ↓xBl, ↓xB, ↓xChain, ↓xAnd, ↓xOr, ↓xNot, ↓xAndV, ↓xOrV, ↓xNotV, ↓xIf, ↓xNil, ↓xCons, ↓xTup, ↓xLst, ↓xLstO, ↓xOpt, ↓xAddI, ↓xAddT, ↓xAddL, ↓xSub, ↓xIAdd, ↓xFdiv, ↓xMod, ↓xPow, ↓xMul, ↓xLt, ↓xLe, ↓xGt, ↓xGe, ↓xEqI, ↓xNeI, ↓xEqB, ↓xNeB, ↓xIsBB, ↓xIsNN, ↓xIsTN, ↓xIsLN, ↓xIsIN, ↓xIsSN, ↓xIsRN, ↓xNoBB, ↓xNoNN, ↓xNoTN, ↓xNoLN, ↓xNoIN, ↓xNoSN, ↓xNoRN, ↓xInT, ↓xIx, ↓xIxT, ↓xIxL, ↓at0, ↓at1, ↓at2, ↓at3, ↓at4, ↓at5, ↓xSl, ↓xNo, ↓xInt, ↓xPart, ↓xCutT, ↓xCutL, ↓xCB, ↓xLenT, ↓xLenL, ↓xIntI, ↓xTupT, ↓xTupL, ↓xLstT, ↓xLstL, ↓xIsiT, ↓xIsiI, ↓xIsiB, ↓xIsiS, ↓xMax2, ↓xMin2, ↓xSum, ↓xAll, ↓xApp, ↓xFld, ↓xFldS, ↓xGFd, ↓xCall, ↓xMeth, ↓xProp, ↓xNeg, ↓xNegI, ↓suIx0, ↓suIx1, ↓suIx2, ↓suIx3, ↓rwIx0, ↓rwIx1, ↓rwIx2, ↓rwIx3, ↓rwIx4, ↓rwIx5, ↓rwNo, ↓ddG, ↓ddS, ↓ddP, ↓ddGo, ↓liN, ↓liNe, ↓xFldX, ↓xFldWX, ↓xAppAX, ↓xAppBX, ↓xPop, ↓xPopK, ↓xLast, ↓xMthX, ↓xPrpX, ↓insU, ↓insN, ↓lsU, ↓lsN, ↓lk0, ↓lk1, ↓lk2, ↓lk3, ↓lk4, ↓lk5, ↓lk6, if_true, if_false, Bool.false_eq_true, Bool.true_eq_false, reduceIte, Bool.not_true, Bool.not_false, decide_eq_true_eq, Bool.not_eq_true', decide_eq_false_iff_not, not_true_eq_false, not_false_eq_true, and_true, true_and, true_implies, List.length_cons, List.length_nil, Nat.zero_le, decide_true, decide_false, decide_not, fl_len, pt2, pt3, pt4, pt5, pt6]
    rw [cutD_ints (i := 1) (j := 1 + (n : Int)) (a := 1) (b := 1 + n) rfl (by omega)]
    exact q
  · obtain ⟨x, h1, h2, h3⟩ := pick d
    have h0 := @mod_lt d (su.sizes.length : Int) ln
    simp only [↓xSeq, ↓xNx, ↓xRt, ↓xBk, ↓xCt, ↓xEndNx, ↓xEndRt, ↓xNext, ↓xBreak, ↓xCont, ↓xDrop, ↓xRet, ↓xRetN, ↓xNever, ↓xIfS, ↓xPut0, ↓xPutS, ↓xSet, ↓xAug, ↓xAsg, ↓xUn2, ↓xUn1, ↓xPar, ↓xNm, ↓xNl, ↓xCn, ↓xSq, ↓xSqL, ↓xV0, ↓xVS, ↓xC, ↓xFrz, ↓xFrz1, ↓xOp, ↓xBl, ↓xB, ↓xChain, ↓xAnd, ↓xOr, ↓xNot, ↓xAndV, ↓xOrV, ↓xNotV, ↓xIf, ↓xNil, ↓xCons, ↓xTup, ↓xLst, ↓xLstO, ↓xOpt, ↓xAddI, ↓xAddT, ↓xAddL, ↓xSub, ↓xIAdd, ↓xFdiv, ↓xMod, ↓xPow, ↓xMul, ↓xLt, ↓xLe, ↓xGt, ↓xGe, ↓xEqI, ↓xNeI, ↓xEqB, ↓xNeB, ↓xIsBB, ↓xIsNN, ↓xIsTN, ↓xIsLN, ↓xIsIN, ↓xIsSN, ↓xIsRN, ↓xNoBB, ↓xNoNN, ↓xNoTN, ↓xNoLN, ↓xNoIN, ↓xNoSN, ↓xNoRN, ↓xInT, ↓xIx, ↓xIxT, ↓xIxL, ↓at0, ↓at1, ↓at2, ↓at3, ↓at4, ↓at5, ↓xSl, ↓xNo, ↓xInt, ↓xPart, ↓xCutT, ↓xCutL, ↓xCB, ↓xLenT, ↓xLenL, ↓xIntI, ↓xTupT, ↓xTupL, ↓xLstT, ↓xLstL, ↓xIsiT, ↓xIsiI, ↓xIsiB, ↓xIsiS, ↓xMax2, ↓xMin2, ↓xSum, ↓xAll, ↓xApp, ↓xFld, ↓xFldS, ↓xGFd, ↓xCall, ↓xMeth, ↓xProp, ↓xNeg, ↓xNegI, ↓suIx0, ↓suIx1, ↓suIx2, ↓suIx3, ↓rwIx0, ↓rwIx1, ↓rwIx2, ↓rwIx3, ↓rwIx4, ↓rwIx5, ↓rwNo, ↓ddG, ↓ddS, ↓ddP, ↓ddGo, ↓liN, ↓liNe, ↓xFldX, ↓xFldWX, ↓xAppAX, ↓xAppBX, ↓xPop, ↓xPopK, ↓xLast, ↓xMthX, ↓xPrpX, ↓insU, ↓insN, ↓lsU, ↓lsN, ↓lk0, ↓lk1, ↓lk2, ↓lk3, ↓lk4, ↓lk5, ↓lk6, if_true, if_false, Bool.false_eq_true, Bool.true_eq_false, reduceIte, Bool.not_true, Bool.not_false, decide_eq_true_eq, Bool.not_eq_true', decide_eq_false_iff_not, not_true_eq_false, not_false_eq_true, and_true, true_and, true_implies, List.length_cons, List.length_nil, Nat.zero_le, decide_true, decide_false, decide_not, fl_len, pt2, pt3, pt4, pt5, pt6, List.length_map, ln]
    rw [atNat (show d % (su.sizes.length : Int) = ((d % (su.sizes.length : Int)).toNat : Int) by omega) h2]
    rw [h3] at q
    exact q
  · have e : (cutI L 1 (1 + n)).map (fun d => D.int ((su.sizes[(d % (su.sizes.length : Int)).toNat]?).getD 0)) = ((cutI L 1 (1 + n)).map fun d => (su.sizes[(d % (su.sizes.length : Int)).toNat]?).getD 0).map D.int := by rw [List.map_map]; rfl
    rw [e]
    simp only [↓xSeq, ↓xNx, ↓xRt, ↓xBk, ↓xCt, ↓xEndNx, ↓xEndRt, ↓xNext, ↓xBreak, ↓xCont, ↓xDrop, ↓xRet, ↓xRetN, ↓xNever, ↓xIfS, ↓xPut0, ↓xPutS, ↓xSet, ↓xAug, ↓xAsg, ↓xUn2, ↓xUn1, ↓xPar, ↓xNm, ↓xNl, ↓xCn, ↓xSq, ↓xSqL, ↓xV0, ↓xVS, ↓xC, ↓xFrz, ↓xFrz1, ↓xOp, ↓xBl, ↓xB, ↓xChain, ↓xAnd, ↓xOr, ↓xNot, ↓xAndV, ↓xOrV, ↓xNotV, ↓xIf, ↓xNil, ↓xCons, ↓xTup, ↓xLst, ↓xLstO, ↓xOpt, ↓xAddI, ↓xAddT, ↓xAddL, ↓xSub, ↓xIAdd, ↓xFdiv, ↓xMod, ↓xPow, ↓xMul, ↓xLt, ↓xLe, ↓xGt, ↓xGe, ↓xEqI, ↓xNeI, ↓xEqB, ↓xNeB, ↓xIsBB, ↓xIsNN, ↓xIsTN, ↓xIsLN, ↓xIsIN, ↓xIsSN, ↓xIsRN, ↓xNoBB, ↓xNoNN, ↓xNoTN, ↓xNoLN, ↓xNoIN, ↓xNoSN, ↓xNoRN, ↓xInT, ↓xIx, ↓xIxT, ↓xIxL, ↓at0, ↓at1, ↓at2, ↓at3, ↓at4, ↓at5, ↓xSl, ↓xNo, ↓xInt, ↓xPart, ↓xCutT, ↓xCutL, ↓xCB, ↓xLenT, ↓xLenL, ↓xIntI, ↓xTupT, ↓xTupL, ↓xLstT, ↓xLstL, ↓xIsiT, ↓xIsiI, ↓xIsiB, ↓xIsiS, ↓xMax2, ↓xMin2, ↓xSum, ↓xAll, ↓xApp, ↓xFld, ↓xFldS, ↓xGFd, ↓xCall, ↓xMeth, ↓xProp, ↓xNeg, ↓xNegI, ↓suIx0, ↓suIx1, ↓suIx2, ↓suIx3, ↓rwIx0, ↓rwIx1, ↓rwIx2, ↓rwIx3, ↓rwIx4, ↓rwIx5, ↓rwNo, ↓ddG, ↓ddS, ↓ddP, ↓ddGo, ↓liN, ↓liNe, ↓xFldX, ↓xFldWX, ↓xAppAX, ↓xAppBX, ↓xPop, ↓xPopK, ↓xLast, ↓xMthX, ↓xPrpX, ↓insU, ↓insN, ↓lsU, ↓lsN, ↓lk0, ↓lk1, ↓lk2, ↓lk3, ↓lk4, ↓lk5, ↓lk6, if_true, if_false, Bool.false_eq_true, Bool.true_eq_false, reduceIte, Bool.not_true, Bool.not_false, decide_eq_true_eq, Bool.not_eq_true', decide_eq_false_iff_not, not_true_eq_false, not_false_eq_true, and_true, true_and, true_implies, List.length_cons, List.length_nil, Nat.zero_le, decide_true, decide_false, decide_not, fl_len, pt2, pt3, pt4, pt5, pt6, le2]
    refine ⟨by omega, fin (hq ⟨_, _⟩ ⟨?_, fun x hx => ?_, m3.1, (by show x3 % (su.c1 + 1) ≤ su.c1; omega)⟩)⟩
    · show ((((cutI L 1 (1 + n)).map fun d => (su.sizes[(d % (su.sizes.length : Int)).toNat]?).getD 0).length : Nat) : Int) ≤ su.c0
      rw [List.length_map, cutI_len]
      omega
    · have hx : x ∈ (cutI L 1 (1 + n)).map fun d => (su.sizes[(d % (su.sizes.length : Int)).toNat]?).getD 0 := hx
      obtain ⟨d, hd, rfl⟩ := List.mem_map.mp hx
      obtain ⟨y, h1, _, h3⟩ := pick d
      rw [h3]; exact h1

def S_lrule : DSp := fun ds M Q _ => ∃ (L : List Int), ds = [.lst (L.map D.int)] ∧ (20 ≤ L.length ∧ ∀ d ∈ L, 0 ≤ d) ∧ ∀ r, Rok r → r.length ≤ 5 → Q (rl r) M
structure RulI (L : List Int) (M : Mp) (p : Addr) (k : Nat) (ρ : Rh) (M' : Mp) : Prop where
  ex : ∃ (r : List Rw) (b c d e f g h i j l m : Option D), ρ = [some (.lst (L.map D.int)), some (.ref p), b, c, d, e, f, g, h, i, j, l, m] ∧ M' = upm M p (.lst (r.map Rw.d)) ∧ r.length = k ∧ ∀ x ∈ r, x.ok
theorem x_range {d : Int} {M : Mp} {Q : DK} {dx : DX} : S_range [.int d] M Q dx = (0 ≤ d ∧ ∀ a b : Int, (0 ≤ a ∧ a ≤ b ∧ b ≤ 9) → Q (.tup [.int a, .int b]) M) :=
  propext ⟨fun ⟨_, e, h⟩ => by cases e; exact h, fun h => ⟨_, rfl, h⟩⟩
theorem cut3 {L : List Int} {a : Nat} (h : a + 3 ≤ L.length) : ∃ x y z, x ∈ L ∧ y ∈ L ∧ z ∈ L ∧ cutI L a (a + 3) = [x, y, z] := by
  have e : (cutI L a (a + 3)).length = 3 := by rw [cutI_len]; omega
  match hh : cutI L a (a + 3), e with
  | [x, y, z], _ => exact ⟨x, y, z, cutI_mem (by rw [hh]; simp), cutI_mem (by rw [hh]; simp), cutI_mem (by rw [hh]; simp), rfl⟩
def deeds7 : List Dd := [.group, .single, .part, .go, .group, .single, .part]
theorem deed7 {i : Int} {Q : D → Prop} (h : 0 ≤ i ∧ i < 7) (q : ∀ d : Dd, Q (.str d.s)) : optK (atI [D.str "group", D.str "single", D.str "part", D.str "go", D.str "group", D.str "single", D.str "part"] i) Q := by
  have : i = 0 ∨ i = 1 ∨ i = 2 ∨ i = 3 ∨ i = 4 ∨ i = 5 ∨ i = 6 := by omega
  rcases this with h | h | h | h | h | h | h
  · rw [atNat (n := 0) h rfl]; exact q .group
  · rw [atNat (n := 1) h rfl]; exact q .single
  · rw [atNat (n := 2) h rfl]; exact q .part
  · rw [atNat (n := 3) h rfl]; exact q .go
  · rw [atNat (n := 4) h rfl]; exact q .group
  · rw [atNat (n := 5) h rfl]; exact q .single
  · rw [atNat (n := 6) h rfl]; exact q .part
theorem mood6 {i : Int} {Q : D → Prop} (h : 0 ≤ i ∧ i < 6) (q : ∀ d : Int, 0 ≤ d → d ≤ 2 → Q (.int d)) : optK (atI [D.int 0, D.int 0, D.int 0, D.int 1, D.int 1, D.int 2] i) Q := by
  have : i = 0 ∨ i = 1 ∨ i = 2 ∨ i = 3 ∨ i = 4 ∨ i = 5 := by omega
  rcases this with h | h | h | h | h | h
  · rw [atNat (n := 0) h rfl]; exact q 0 (by decide) (by decide)
  · rw [atNat (n := 1) h rfl]; exact q 0 (by decide) (by decide)
  · rw [atNat (n := 2) h rfl]; exact q 0 (by decide) (by decide)
  · rw [atNat (n := 3) h rfl]; exact q 1 (by decide) (by decide)
  · rw [atNat (n := 4) h rfl]; exact q 1 (by decide) (by decide)
  · rw [atNat (n := 5) h rfl]; exact q 2 (by decide) (by decide)
theorem gs2 {i : Int} {Q : D → Prop} (h : 0 ≤ i ∧ i < 2) (q : ∀ d : Dd, Q (.str d.s)) : optK (atI [D.str "group", D.str "single"] i) Q := by
  have : i = 0 ∨ i = 1 := by omega
  rcases this with h | h
  · rw [atNat (n := 0) h rfl]; exact q .group
  · rw [atNat (n := 1) h rfl]; exact q .single
theorem sg2 {i : Int} {Q : D → Prop} (h : 0 ≤ i ∧ i < 2) (q : ∀ d : Dd, Q (.str d.s)) : optK (atI [D.str "single", D.str "group"] i) Q := by
  have : i = 0 ∨ i = 1 := by omega
  rcases this with h | h
  · rw [atNat (n := 0) h rfl]; exact q .single
  · rw [atNat (n := 1) h rfl]; exact q .group
theorem wide_ok (d : Dd) : (⟨0, 0, 9, 0, 9, 0, 9, d, 0⟩ : Rw).ok := by constructor <;> simp
theorem xSq3L {u : DGs} {a b c : D} {ρ : Rh} {M : Mp} {R : Rh → Mp → Prop} : gSq 3 u (.lst [a, b, c]) ρ M R = u [a, b, c] ρ M R := xSqL.trans (true_and_eq rfl)
theorem b_lrule {ds M Q dx} (h : S_lrule ds M Q dx) : d__law_rule S_range (endD Q) (startD ["draws", "rows", "k", "mood", "front", "left", "waiting", "word", "after", "deed", "here", "there", "ranges"] ds) M := by
  obtain ⟨L, rfl, ⟨hl, hp⟩, hq⟩ := h
  show d__law_rule _ (endD Q) [some (.lst (L.map D.int)), none, none, none, none, none, none, none, none, none, none, none, none] M
  unfold d__law_rule
  obtain ⟨x0, hx0, e0, _⟩ := nthI (L := L) (n := 0) (by omega)
  obtain ⟨x1, hx1, e1, _⟩ := nthI (L := L) (n := 1) (by omega)
  obtain ⟨m0, m1⟩ := @mod_lt x0 4 (by decide)
  obtain ⟨n, hn⟩ := Int.eq_ofNat_of_zero_le m0
  simp only [↓xSeq, ↓xNx, ↓xRt, ↓xBk, ↓xCt, ↓xEndNx, ↓xEndRt, ↓xNext, ↓xBreak, ↓xCont, ↓xDrop, ↓xRet, ↓xRetN, ↓xNever, ↓xIfS, ↓xPut0, ↓xPutS, ↓xSet, ↓xAug, ↓xAsg, ↓xUn2, ↓xUn1, ↓xPar, ↓xNm, ↓xNl, ↓xCn, ↓xSq, ↓xSqL, ↓xV0, ↓xVS, ↓xC, ↓xFrz, ↓xFrz1, ↓xOp, ↓xBl, ↓xB, ↓xChain, ↓xAnd, ↓xOr, ↓xNot, ↓xAndV, ↓xOrV, ↓xNotV, ↓xIf, ↓xNil, ↓xCons, ↓xTup, ↓xLst, ↓xLstO, ↓xOpt, ↓xAddI, ↓xAddT, ↓xAddL, ↓xSub, ↓xIAdd, ↓xFdiv, ↓xMod, ↓xPow, ↓xMul, ↓xLt, ↓xLe, ↓xGt, ↓xGe, ↓xEqI, ↓xNeI, ↓xEqB, ↓xNeB, ↓xIsBB, ↓xIsNN, ↓xIsTN, ↓xIsLN, ↓xIsIN, ↓xIsSN, ↓xIsRN, ↓xNoBB, ↓xNoNN, ↓xNoTN, ↓xNoLN, ↓xNoIN, ↓xNoSN, ↓xNoRN, ↓xInT, ↓xIx, ↓xIxT, ↓xIxL, ↓at0, ↓at1, ↓at2, ↓at3, ↓at4, ↓at5, ↓xSl, ↓xNo, ↓xInt, ↓xPart, ↓xCutT, ↓xCutL, ↓xCB, ↓xLenT, ↓xLenL, ↓xIntI, ↓xTupT, ↓xTupL, ↓xLstT, ↓xLstL, ↓xIsiT, ↓xIsiI, ↓xIsiB, ↓xIsiS, ↓xMax2, ↓xMin2, ↓xSum, ↓xAll, ↓xApp, ↓xFld, ↓xFldS, ↓xGFd, ↓xCall, ↓xMeth, ↓xProp, ↓xNeg, ↓xNegI, ↓suIx0, ↓suIx1, ↓suIx2, ↓suIx3, ↓rwIx0, ↓rwIx1, ↓rwIx2, ↓rwIx3, ↓rwIx4, ↓rwIx5, ↓rwNo, ↓ddG, ↓ddS, ↓ddP, ↓ddGo, ↓liN, ↓liNe, ↓xFldX, ↓xFldWX, ↓xAppAX, ↓xAppBX, ↓xPop, ↓xPopK, ↓xLast, ↓xMthX, ↓xPrpX, ↓insU, ↓insN, ↓lsU, ↓lsN, ↓lk0, ↓lk1, ↓lk2, ↓lk3, ↓lk4, ↓lk5, ↓lk6, if_true, if_false, Bool.false_eq_true, Bool.true_eq_false, reduceIte, Bool.not_true, Bool.not_false, decide_eq_true_eq, Bool.not_eq_true', decide_eq_false_iff_not, not_true_eq_false, not_false_eq_true, and_true, true_and, true_implies, List.length_cons, List.length_nil, Nat.zero_le, decide_true, decide_false, decide_not, fl_len, pt2, pt3, pt4, pt5, pt6]
  refine fun p hpn => ?_
  refine for_range (n := n) (fun Q q => by simp only [↓xSeq, ↓xNx, ↓xRt, ↓xBk, ↓xCt, ↓xEndNx, ↓xEndRt, ↓xNext, ↓xBreak, ↓xCont, ↓xDrop, ↓xRet, ↓xRetN, ↓xNever, ↓xIfS, ↓xPut0, ↓xPutS, ↓xSet, ↓xAug, ↓xAsg, ↓xUn2, ↓xUn1, ↓xPar, ↓xNm, ↓xNl, ↓xCn, ↓xSq, ↓xSqL, ↓xV0, ↓xVS, ↓xC, ↓xFrz, ↓xFrz1, ↓xOp, ↓xBl, ↓xB, ↓xChain, ↓xAnd, ↓xOr, ↓xNot, ↓xAndV, ↓xOrV, ↓xNotV, ↓xIf, ↓xNil, ↓xCons, ↓xTup, ↓xLst, ↓xLstO, ↓xOpt, ↓xAddI, ↓xAddT, ↓xAddL, ↓xSub, ↓xIAdd, ↓xFdiv, ↓xMod, ↓xPow, ↓xMul, ↓xLt, ↓xLe, ↓xGt, ↓xGe, ↓xEqI, ↓xNeI, ↓xEqB, ↓xNeB, ↓xIsBB, ↓xIsNN, ↓xIsTN, ↓xIsLN, ↓xIsIN, ↓xIsSN, ↓xIsRN, ↓xNoBB, ↓xNoNN, ↓xNoTN, ↓xNoLN, ↓xNoIN, ↓xNoSN, ↓xNoRN, ↓xInT, ↓xIx, ↓xIxT, ↓xIxL, ↓at0, ↓at1, ↓at2, ↓at3, ↓at4, ↓at5, ↓xSl, ↓xNo, ↓xInt, ↓xPart, ↓xCutT, ↓xCutL, ↓xCB, ↓xLenT, ↓xLenL, ↓xIntI, ↓xTupT, ↓xTupL, ↓xLstT, ↓xLstL, ↓xIsiT, ↓xIsiI, ↓xIsiB, ↓xIsiS, ↓xMax2, ↓xMin2, ↓xSum, ↓xAll, ↓xApp, ↓xFld, ↓xFldS, ↓xGFd, ↓xCall, ↓xMeth, ↓xProp, ↓xNeg, ↓xNegI, ↓suIx0, ↓suIx1, ↓suIx2, ↓suIx3, ↓rwIx0, ↓rwIx1, ↓rwIx2, ↓rwIx3, ↓rwIx4, ↓rwIx5, ↓rwNo, ↓ddG, ↓ddS, ↓ddP, ↓ddGo, ↓liN, ↓liNe, ↓xFldX, ↓xFldWX, ↓xAppAX, ↓xAppBX, ↓xPop, ↓xPopK, ↓xLast, ↓xMthX, ↓xPrpX, ↓insU, ↓insN, ↓lsU, ↓lsN, ↓lk0, ↓lk1, ↓lk2, ↓lk3, ↓lk4, ↓lk5, ↓lk6, if_true, if_false, Bool.false_eq_true, Bool.true_eq_false, reduceIte, Bool.not_true, Bool.not_false, decide_eq_true_eq, Bool.not_eq_true', decide_eq_false_iff_not, not_true_eq_false, not_false_eq_true, and_true, true_and, true_implies, List.length_cons, List.length_nil, Nat.zero_le, decide_true, decide_false, decide_not, fl_len, pt2, pt3, pt4, pt5, pt6, ↓atNat (show (0 : Int) = (0 : Nat) from rfl) e0, hn]; exact ⟨by decide, q⟩) (by omega) (RulI L M p) ⟨[], none, none, none, none, none, none, none, none, none, none, none, rfl, rfl, rfl, by simp⟩ (fun k ρ M' hk ⟨r, b, c, d, e, f, g, h, i, j, l, m, hρ, hM, hr, ho⟩ => ?_) (fun ρ M' ⟨r, b, c, d, e, f, g, h, i, j, l, m, hρ, hM, hr, ho⟩ => ?_)
  · subst hρ hM
    obtain ⟨u1, u2, u3, i1, i2, i3, hc1⟩ := cut3 (L := L) (a := 2 + 6 * k) (by omega)
    obtain ⟨u4, u5, u6, i4, i5, i6, hc2⟩ := cut3 (L := L) (a := 5 + 6 * k) (by omega)
    simp only [↓xSeq, ↓xNx, ↓xRt, ↓xBk, ↓xCt, ↓xEndNx, ↓xEndRt, ↓xNext, ↓xBreak, ↓xCont, ↓xDrop, ↓xRet, ↓xRetN, ↓xNever, ↓xIfS, ↓xPut0, ↓xPutS, ↓xSet, ↓xAug, ↓xAsg, ↓xUn2, ↓xUn1, ↓xPar, ↓xNm, ↓xNl, ↓xCn, ↓xSq, ↓xSqL, ↓xV0, ↓xVS, ↓xC, ↓xFrz, ↓xFrz1, ↓xOp, ↓xBl, ↓xB, ↓xChain, ↓xAnd, ↓xOr, ↓xNot, ↓xAndV, ↓xOrV, ↓xNotV, ↓xIf, ↓xNil, ↓xCons, ↓xTup, ↓xLst, ↓xLstO, ↓xOpt, ↓xAddI, ↓xAddT, ↓xAddL, ↓xSub, ↓xIAdd, ↓xFdiv, ↓xMod, ↓xPow, ↓xMul, ↓xLt, ↓xLe, ↓xGt, ↓xGe, ↓xEqI, ↓xNeI, ↓xEqB, ↓xNeB, ↓xIsBB, ↓xIsNN, ↓xIsTN, ↓xIsLN, ↓xIsIN, ↓xIsSN, ↓xIsRN, ↓xNoBB, ↓xNoNN, ↓xNoTN, ↓xNoLN, ↓xNoIN, ↓xNoSN, ↓xNoRN, ↓xInT, ↓xIx, ↓xIxT, ↓xIxL, ↓at0, ↓at1, ↓at2, ↓at3, ↓at4, ↓at5, ↓xSl, ↓xNo, ↓xInt, ↓xPart, ↓xCutT, ↓xCutL, ↓xCB, ↓xLenT, ↓xLenL, ↓xIntI, ↓xTupT, ↓xTupL, ↓xLstT, ↓xLstL, ↓xIsiT, ↓xIsiI, ↓xIsiB, ↓xIsiS, ↓xMax2, ↓xMin2, ↓xSum, ↓xAll, ↓xApp, ↓xFld, ↓xFldS, ↓xGFd, ↓xCall, ↓xMeth, ↓xProp, ↓xNeg, ↓xNegI, ↓suIx0, ↓suIx1, ↓suIx2, ↓suIx3, ↓rwIx0, ↓rwIx1, ↓rwIx2, ↓rwIx3, ↓rwIx4, ↓rwIx5, ↓rwNo, ↓ddG, ↓ddS, ↓ddP, ↓ddGo, ↓liN, ↓liNe, ↓xFldX, ↓xFldWX, ↓xAppAX, ↓xAppBX, ↓xPop, ↓xPopK, ↓xLast, ↓xMthX, ↓xPrpX, ↓insU, ↓insN, ↓lsU, ↓lsN, ↓lk0, ↓lk1, ↓lk2, ↓lk3, ↓lk4, ↓lk5, ↓lk6, if_true, if_false, Bool.false_eq_true, Bool.true_eq_false, reduceIte, Bool.not_true, Bool.not_false, decide_eq_true_eq, Bool.not_eq_true', decide_eq_false_iff_not, not_true_eq_false, not_false_eq_true, and_true, true_and, true_implies, List.length_cons, List.length_nil, Nat.zero_le, decide_true, decide_false, decide_not, fl_len, pt2, pt3, pt4, pt5, pt6]
    refine ⟨cm_l (by decide), cm_l (by decide), ?_⟩
    rw [cutD_ints (a := 2 + 6 * k) (b := 2 + 6 * k + 3) (by omega) (by omega), hc1]
    simp only [↓xSeq, ↓xNx, ↓xRt, ↓xBk, ↓xCt, ↓xEndNx, ↓xEndRt, ↓xNext, ↓xBreak, ↓xCont, ↓xDrop, ↓xRet, ↓xRetN, ↓xNever, ↓xIfS, ↓xPut0, ↓xPutS, ↓xSet, ↓xAug, ↓xAsg, ↓xUn2, ↓xUn1, ↓xPar, ↓xNm, ↓xNl, ↓xCn, ↓xSq, ↓xSqL, ↓xV0, ↓xVS, ↓xC, ↓xFrz, ↓xFrz1, ↓xOp, ↓xBl, ↓xB, ↓xChain, ↓xAnd, ↓xOr, ↓xNot, ↓xAndV, ↓xOrV, ↓xNotV, ↓xIf, ↓xNil, ↓xCons, ↓xTup, ↓xLst, ↓xLstO, ↓xOpt, ↓xAddI, ↓xAddT, ↓xAddL, ↓xSub, ↓xIAdd, ↓xFdiv, ↓xMod, ↓xPow, ↓xMul, ↓xLt, ↓xLe, ↓xGt, ↓xGe, ↓xEqI, ↓xNeI, ↓xEqB, ↓xNeB, ↓xIsBB, ↓xIsNN, ↓xIsTN, ↓xIsLN, ↓xIsIN, ↓xIsSN, ↓xIsRN, ↓xNoBB, ↓xNoNN, ↓xNoTN, ↓xNoLN, ↓xNoIN, ↓xNoSN, ↓xNoRN, ↓xInT, ↓xIx, ↓xIxT, ↓xIxL, ↓at0, ↓at1, ↓at2, ↓at3, ↓at4, ↓at5, ↓xSl, ↓xNo, ↓xInt, ↓xPart, ↓xCutT, ↓xCutL, ↓xCB, ↓xLenT, ↓xLenL, ↓xIntI, ↓xTupT, ↓xTupL, ↓xLstT, ↓xLstL, ↓xIsiT, ↓xIsiI, ↓xIsiB, ↓xIsiS, ↓xMax2, ↓xMin2, ↓xSum, ↓xAll, ↓xApp, ↓xFld, ↓xFldS, ↓xGFd, ↓xCall, ↓xMeth, ↓xProp, ↓xNeg, ↓xNegI, ↓suIx0, ↓suIx1, ↓suIx2, ↓suIx3, ↓rwIx0, ↓rwIx1, ↓rwIx2, ↓rwIx3, ↓rwIx4, ↓rwIx5, ↓rwNo, ↓ddG, ↓ddS, ↓ddP, ↓ddGo, ↓liN, ↓liNe, ↓xFldX, ↓xFldWX, ↓xAppAX, ↓xAppBX, ↓xPop, ↓xPopK, ↓xLast, ↓xMthX, ↓xPrpX, ↓insU, ↓insN, ↓lsU, ↓lsN, ↓lk0, ↓lk1, ↓lk2, ↓lk3, ↓lk4, ↓lk5, ↓lk6, if_true, if_false, Bool.false_eq_true, Bool.true_eq_false, reduceIte, Bool.not_true, Bool.not_false, decide_eq_true_eq, Bool.not_eq_true', decide_eq_false_iff_not, not_true_eq_false, not_false_eq_true, and_true, true_and, true_implies, List.length_cons, List.length_nil, Nat.zero_le, decide_true, decide_false, decide_not, fl_len, pt2, pt3, pt4, pt5, pt6, List.map_cons, List.map_nil, ↓xSq3L]
    refine ⟨cm_l (by decide), cm_l (by decide), ?_⟩
    rw [cutD_ints (a := 5 + 6 * k) (b := 5 + 6 * k + 3) (by omega) (by omega), hc2]
    simp only [↓xSeq, ↓xNx, ↓xRt, ↓xBk, ↓xCt, ↓xEndNx, ↓xEndRt, ↓xNext, ↓xBreak, ↓xCont, ↓xDrop, ↓xRet, ↓xRetN, ↓xNever, ↓xIfS, ↓xPut0, ↓xPutS, ↓xSet, ↓xAug, ↓xAsg, ↓xUn2, ↓xUn1, ↓xPar, ↓xNm, ↓xNl, ↓xCn, ↓xSq, ↓xSqL, ↓xV0, ↓xVS, ↓xC, ↓xFrz, ↓xFrz1, ↓xOp, ↓xBl, ↓xB, ↓xChain, ↓xAnd, ↓xOr, ↓xNot, ↓xAndV, ↓xOrV, ↓xNotV, ↓xIf, ↓xNil, ↓xCons, ↓xTup, ↓xLst, ↓xLstO, ↓xOpt, ↓xAddI, ↓xAddT, ↓xAddL, ↓xSub, ↓xIAdd, ↓xFdiv, ↓xMod, ↓xPow, ↓xMul, ↓xLt, ↓xLe, ↓xGt, ↓xGe, ↓xEqI, ↓xNeI, ↓xEqB, ↓xNeB, ↓xIsBB, ↓xIsNN, ↓xIsTN, ↓xIsLN, ↓xIsIN, ↓xIsSN, ↓xIsRN, ↓xNoBB, ↓xNoNN, ↓xNoTN, ↓xNoLN, ↓xNoIN, ↓xNoSN, ↓xNoRN, ↓xInT, ↓xIx, ↓xIxT, ↓xIxL, ↓at0, ↓at1, ↓at2, ↓at3, ↓at4, ↓at5, ↓xSl, ↓xNo, ↓xInt, ↓xPart, ↓xCutT, ↓xCutL, ↓xCB, ↓xLenT, ↓xLenL, ↓xIntI, ↓xTupT, ↓xTupL, ↓xLstT, ↓xLstL, ↓xIsiT, ↓xIsiI, ↓xIsiB, ↓xIsiS, ↓xMax2, ↓xMin2, ↓xSum, ↓xAll, ↓xApp, ↓xFld, ↓xFldS, ↓xGFd, ↓xCall, ↓xMeth, ↓xProp, ↓xNeg, ↓xNegI, ↓suIx0, ↓suIx1, ↓suIx2, ↓suIx3, ↓rwIx0, ↓rwIx1, ↓rwIx2, ↓rwIx3, ↓rwIx4, ↓rwIx5, ↓rwNo, ↓ddG, ↓ddS, ↓ddP, ↓ddGo, ↓liN, ↓liNe, ↓xFldX, ↓xFldWX, ↓xAppAX, ↓xAppBX, ↓xPop, ↓xPopK, ↓xLast, ↓xMthX, ↓xPrpX, ↓insU, ↓insN, ↓lsU, ↓lsN, ↓lk0, ↓lk1, ↓lk2, ↓lk3, ↓lk4, ↓lk5, ↓lk6, if_true, if_false, Bool.false_eq_true, Bool.true_eq_false, reduceIte, Bool.not_true, Bool.not_false, decide_eq_true_eq, Bool.not_eq_true', decide_eq_false_iff_not, not_true_eq_false, not_false_eq_true, and_true, true_and, true_implies, List.length_cons, List.length_nil, Nat.zero_le, decide_true, decide_false, decide_not, fl_len, pt2, pt3, pt4, pt5, pt6, List.map_cons, List.map_nil, ↓xSq3L]
    refine ⟨by decide, by decide, deed7 (mod_lt (by decide)) fun dd => ?_⟩
    try simp only [↓xSeq, ↓xNx, ↓xRt, ↓xBk, ↓xCt, ↓xEndNx, ↓xEndRt, ↓xNext, ↓xBreak, ↓xCont, ↓xDrop, ↓xRet, ↓xRetN, ↓xNever, ↓xIfS, ↓xPut0, ↓xPutS, ↓xSet, ↓xAug, ↓xAsg, ↓xUn2, ↓xUn1, ↓xPar, ↓xNm, ↓xNl, ↓xCn, ↓xSq, ↓xSqL, ↓xV0, ↓xVS, ↓xC, ↓xFrz, ↓xFrz1, ↓xOp, ↓xBl, ↓xB, ↓xChain, ↓xAnd, ↓xOr, ↓xNot, ↓xAndV, ↓xOrV, ↓xNotV, ↓xIf, ↓xNil, ↓xCons, ↓xTup, ↓xLst, ↓xLstO, ↓xOpt, ↓xAddI, ↓xAddT, ↓xAddL, ↓xSub, ↓xIAdd, ↓xFdiv, ↓xMod, ↓xPow, ↓xMul, ↓xLt, ↓xLe, ↓xGt, ↓xGe, ↓xEqI, ↓xNeI, ↓xEqB, ↓xNeB, ↓xIsBB, ↓xIsNN, ↓xIsTN, ↓xIsLN, ↓xIsIN, ↓xIsSN, ↓xIsRN, ↓xNoBB, ↓xNoNN, ↓xNoTN, ↓xNoLN, ↓xNoIN, ↓xNoSN, ↓xNoRN, ↓xInT, ↓xIx, ↓xIxT, ↓xIxL, ↓at0, ↓at1, ↓at2, ↓at3, ↓at4, ↓at5, ↓xSl, ↓xNo, ↓xInt, ↓xPart, ↓xCutT, ↓xCutL, ↓xCB, ↓xLenT, ↓xLenL, ↓xIntI, ↓xTupT, ↓xTupL, ↓xLstT, ↓xLstL, ↓xIsiT, ↓xIsiI, ↓xIsiB, ↓xIsiS, ↓xMax2, ↓xMin2, ↓xSum, ↓xAll, ↓xApp, ↓xFld, ↓xFldS, ↓xGFd, ↓xCall, ↓xMeth, ↓xProp, ↓xNeg, ↓xNegI, ↓suIx0, ↓suIx1, ↓suIx2, ↓suIx3, ↓rwIx0, ↓rwIx1, ↓rwIx2, ↓rwIx3, ↓rwIx4, ↓rwIx5, ↓rwNo, ↓ddG, ↓ddS, ↓ddP, ↓ddGo, ↓liN, ↓liNe, ↓xFldX, ↓xFldWX, ↓xAppAX, ↓xAppBX, ↓xPop, ↓xPopK, ↓xLast, ↓xMthX, ↓xPrpX, ↓insU, ↓insN, ↓lsU, ↓lsN, ↓lk0, ↓lk1, ↓lk2, ↓lk3, ↓lk4, ↓lk5, ↓lk6, if_true, if_false, Bool.false_eq_true, Bool.true_eq_false, reduceIte, Bool.not_true, Bool.not_false, decide_eq_true_eq, Bool.not_eq_true', decide_eq_false_iff_not, not_true_eq_false, not_false_eq_true, and_true, true_and, true_implies, List.length_cons, List.length_nil, Nat.zero_le, decide_true, decide_false, decide_not, fl_len, pt2, pt3, pt4, pt5, pt6]
    refine ⟨by decide, by decide, mood6 (mod_lt (by decide)) fun mo h0 h1 => ?_⟩
    try simp only [↓xSeq, ↓xNx, ↓xRt, ↓xBk, ↓xCt, ↓xEndNx, ↓xEndRt, ↓xNext, ↓xBreak, ↓xCont, ↓xDrop, ↓xRet, ↓xRetN, ↓xNever, ↓xIfS, ↓xPut0, ↓xPutS, ↓xSet, ↓xAug, ↓xAsg, ↓xUn2, ↓xUn1, ↓xPar, ↓xNm, ↓xNl, ↓xCn, ↓xSq, ↓xSqL, ↓xV0, ↓xVS, ↓xC, ↓xFrz, ↓xFrz1, ↓xOp, ↓xBl, ↓xB, ↓xChain, ↓xAnd, ↓xOr, ↓xNot, ↓xAndV, ↓xOrV, ↓xNotV, ↓xIf, ↓xNil, ↓xCons, ↓xTup, ↓xLst, ↓xLstO, ↓xOpt, ↓xAddI, ↓xAddT, ↓xAddL, ↓xSub, ↓xIAdd, ↓xFdiv, ↓xMod, ↓xPow, ↓xMul, ↓xLt, ↓xLe, ↓xGt, ↓xGe, ↓xEqI, ↓xNeI, ↓xEqB, ↓xNeB, ↓xIsBB, ↓xIsNN, ↓xIsTN, ↓xIsLN, ↓xIsIN, ↓xIsSN, ↓xIsRN, ↓xNoBB, ↓xNoNN, ↓xNoTN, ↓xNoLN, ↓xNoIN, ↓xNoSN, ↓xNoRN, ↓xInT, ↓xIx, ↓xIxT, ↓xIxL, ↓at0, ↓at1, ↓at2, ↓at3, ↓at4, ↓at5, ↓xSl, ↓xNo, ↓xInt, ↓xPart, ↓xCutT, ↓xCutL, ↓xCB, ↓xLenT, ↓xLenL, ↓xIntI, ↓xTupT, ↓xTupL, ↓xLstT, ↓xLstL, ↓xIsiT, ↓xIsiI, ↓xIsiB, ↓xIsiS, ↓xMax2, ↓xMin2, ↓xSum, ↓xAll, ↓xApp, ↓xFld, ↓xFldS, ↓xGFd, ↓xCall, ↓xMeth, ↓xProp, ↓xNeg, ↓xNegI, ↓suIx0, ↓suIx1, ↓suIx2, ↓suIx3, ↓rwIx0, ↓rwIx1, ↓rwIx2, ↓rwIx3, ↓rwIx4, ↓rwIx5, ↓rwNo, ↓ddG, ↓ddS, ↓ddP, ↓ddGo, ↓liN, ↓liNe, ↓xFldX, ↓xFldWX, ↓xAppAX, ↓xAppBX, ↓xPop, ↓xPopK, ↓xLast, ↓xMthX, ↓xPrpX, ↓insU, ↓insN, ↓lsU, ↓lsN, ↓lk0, ↓lk1, ↓lk2, ↓lk3, ↓lk4, ↓lk5, ↓lk6, if_true, if_false, Bool.false_eq_true, Bool.true_eq_false, reduceIte, Bool.not_true, Bool.not_false, decide_eq_true_eq, Bool.not_eq_true', decide_eq_false_iff_not, not_true_eq_false, not_false_eq_true, and_true, true_and, true_implies, List.length_cons, List.length_nil, Nat.zero_le, decide_true, decide_false, decide_not, fl_len, pt2, pt3, pt4, pt5, pt6]
    refine ⟨by decide, by decide, mood6 (mod_lt (by decide)) fun af h2 h3 => ?_⟩
    have hlen : ((r.map Rw.d).length < sizeLine) := by rw [List.length_map]; exact Nat.lt_of_lt_of_le (by omega : r.length < 1000) (by decide)
    simp only [↓xSeq, ↓xNx, ↓xRt, ↓xBk, ↓xCt, ↓xEndNx, ↓xEndRt, ↓xNext, ↓xBreak, ↓xCont, ↓xDrop, ↓xRet, ↓xRetN, ↓xNever, ↓xIfS, ↓xPut0, ↓xPutS, ↓xSet, ↓xAug, ↓xAsg, ↓xUn2, ↓xUn1, ↓xPar, ↓xNm, ↓xNl, ↓xCn, ↓xSq, ↓xSqL, ↓xV0, ↓xVS, ↓xC, ↓xFrz, ↓xFrz1, ↓xOp, ↓xBl, ↓xB, ↓xChain, ↓xAnd, ↓xOr, ↓xNot, ↓xAndV, ↓xOrV, ↓xNotV, ↓xIf, ↓xNil, ↓xCons, ↓xTup, ↓xLst, ↓xLstO, ↓xOpt, ↓xAddI, ↓xAddT, ↓xAddL, ↓xSub, ↓xIAdd, ↓xFdiv, ↓xMod, ↓xPow, ↓xMul, ↓xLt, ↓xLe, ↓xGt, ↓xGe, ↓xEqI, ↓xNeI, ↓xEqB, ↓xNeB, ↓xIsBB, ↓xIsNN, ↓xIsTN, ↓xIsLN, ↓xIsIN, ↓xIsSN, ↓xIsRN, ↓xNoBB, ↓xNoNN, ↓xNoTN, ↓xNoLN, ↓xNoIN, ↓xNoSN, ↓xNoRN, ↓xInT, ↓xIx, ↓xIxT, ↓xIxL, ↓at0, ↓at1, ↓at2, ↓at3, ↓at4, ↓at5, ↓xSl, ↓xNo, ↓xInt, ↓xPart, ↓xCutT, ↓xCutL, ↓xCB, ↓xLenT, ↓xLenL, ↓xIntI, ↓xTupT, ↓xTupL, ↓xLstT, ↓xLstL, ↓xIsiT, ↓xIsiI, ↓xIsiB, ↓xIsiS, ↓xMax2, ↓xMin2, ↓xSum, ↓xAll, ↓xApp, ↓xFld, ↓xFldS, ↓xGFd, ↓xCall, ↓xMeth, ↓xProp, ↓xNeg, ↓xNegI, ↓suIx0, ↓suIx1, ↓suIx2, ↓suIx3, ↓rwIx0, ↓rwIx1, ↓rwIx2, ↓rwIx3, ↓rwIx4, ↓rwIx5, ↓rwNo, ↓ddG, ↓ddS, ↓ddP, ↓ddGo, ↓liN, ↓liNe, ↓xFldX, ↓xFldWX, ↓xAppAX, ↓xAppBX, ↓xPop, ↓xPopK, ↓xLast, ↓xMthX, ↓xPrpX, ↓insU, ↓insN, ↓lsU, ↓lsN, ↓lk0, ↓lk1, ↓lk2, ↓lk3, ↓lk4, ↓lk5, ↓lk6, if_true, if_false, Bool.false_eq_true, Bool.true_eq_false, reduceIte, Bool.not_true, Bool.not_false, decide_eq_true_eq, Bool.not_eq_true', decide_eq_false_iff_not, not_true_eq_false, not_false_eq_true, and_true, true_and, true_implies, List.length_cons, List.length_nil, Nat.zero_le, decide_true, decide_false, decide_not, fl_len, pt2, pt3, pt4, pt5, pt6, ↓x_range, leT, le1, le2, List.cons_append, List.nil_append, hlen, upm_upm]
    refine ⟨hp _ i2, fun a1 b1 g1 => ⟨hp _ i3, fun a2 b2 g2 => ⟨hp _ i4, fun a3 b3 g3 => ⟨by decide, by decide, ?_⟩⟩⟩⟩
    refine ⟨r ++ [⟨mo, a1, b1, a2, b2, a3, b3, dd, af⟩], _, _, _, _, _, _, _, _, _, _, _, rfl, by rw [map_snoc]; rfl, by rw [List.length_append, hr]; rfl, fun x hx => ?_⟩
    rcases List.mem_append.mp hx with h | h
    · exact ho x h
    · rw [List.mem_singleton.mp h]
      exact ⟨h0, h1, g1.1, g1.2.1, g1.2.2, g2.1, g2.2.1, g2.2.2, g3.1, g3.2.1, g3.2.2, h2, h3⟩
  · subst hρ hM
    obtain ⟨y0, y1⟩ := @mod_lt x1 3 (by decide)
    have hd : ∀ (k : Nat), k ≤ 5 → k < sizeLine := fun k h => Nat.lt_of_lt_of_le (by omega : k < 6) (by decide)
    have wide : ∀ d : Dd, D.tup [.int 0, .tup [.int 0, .int 9], .tup [.int 0, .int 9], .tup [.int 0, .int 9], .str d.s, .int 0] = (⟨0, 0, 9, 0, 9, 0, 9, d, 0⟩ : Rw).d := fun _ => rfl
    have out : ∀ r : List Rw, r.length ≤ 5 → (∀ x ∈ r, x.ok) → ∃ M'', Sub M'' (upm M p (.lst (r.map Rw.d))) ∧ Q (.tup (r.map Rw.d)) M'' := fun r h1 h2 => ⟨M, sub_up hpn, hq r ⟨by omega, h2⟩ h1⟩
    simp only [↓xSeq, ↓xNx, ↓xRt, ↓xBk, ↓xCt, ↓xEndNx, ↓xEndRt, ↓xNext, ↓xBreak, ↓xCont, ↓xDrop, ↓xRet, ↓xRetN, ↓xNever, ↓xIfS, ↓xPut0, ↓xPutS, ↓xSet, ↓xAug, ↓xAsg, ↓xUn2, ↓xUn1, ↓xPar, ↓xNm, ↓xNl, ↓xCn, ↓xSq, ↓xSqL, ↓xV0, ↓xVS, ↓xC, ↓xFrz, ↓xFrz1, ↓xOp, ↓xBl, ↓xB, ↓xChain, ↓xAnd, ↓xOr, ↓xNot, ↓xAndV, ↓xOrV, ↓xNotV, ↓xIf, ↓xNil, ↓xCons, ↓xTup, ↓xLst, ↓xLstO, ↓xOpt, ↓xAddI, ↓xAddT, ↓xAddL, ↓xSub, ↓xIAdd, ↓xFdiv, ↓xMod, ↓xPow, ↓xMul, ↓xLt, ↓xLe, ↓xGt, ↓xGe, ↓xEqI, ↓xNeI, ↓xEqB, ↓xNeB, ↓xIsBB, ↓xIsNN, ↓xIsTN, ↓xIsLN, ↓xIsIN, ↓xIsSN, ↓xIsRN, ↓xNoBB, ↓xNoNN, ↓xNoTN, ↓xNoLN, ↓xNoIN, ↓xNoSN, ↓xNoRN, ↓xInT, ↓xIx, ↓xIxT, ↓xIxL, ↓at0, ↓at1, ↓at2, ↓at3, ↓at4, ↓at5, ↓xSl, ↓xNo, ↓xInt, ↓xPart, ↓xCutT, ↓xCutL, ↓xCB, ↓xLenT, ↓xLenL, ↓xIntI, ↓xTupT, ↓xTupL, ↓xLstT, ↓xLstL, ↓xIsiT, ↓xIsiI, ↓xIsiB, ↓xIsiS, ↓xMax2, ↓xMin2, ↓xSum, ↓xAll, ↓xApp, ↓xFld, ↓xFldS, ↓xGFd, ↓xCall, ↓xMeth, ↓xProp, ↓xNeg, ↓xNegI, ↓suIx0, ↓suIx1, ↓suIx2, ↓suIx3, ↓rwIx0, ↓rwIx1, ↓rwIx2, ↓rwIx3, ↓rwIx4, ↓rwIx5, ↓rwNo, ↓ddG, ↓ddS, ↓ddP, ↓ddGo, ↓liN, ↓liNe, ↓xFldX, ↓xFldWX, ↓xAppAX, ↓xAppBX, ↓xPop, ↓xPopK, ↓xLast, ↓xMthX, ↓xPrpX, ↓insU, ↓insN, ↓lsU, ↓lsN, ↓lk0, ↓lk1, ↓lk2, ↓lk3, ↓lk4, ↓lk5, ↓lk6, if_true, if_false, Bool.false_eq_true, Bool.true_eq_false, reduceIte, Bool.not_true, Bool.not_false, decide_eq_true_eq, Bool.not_eq_true', decide_eq_false_iff_not, not_true_eq_false, not_false_eq_true, and_true, true_and, true_implies, List.length_cons, List.length_nil, Nat.zero_le, decide_true, decide_false, decide_not, fl_len, pt2, pt3, pt4, pt5, pt6, ↓atNat (show (1 : Int) = (1 : Nat) from rfl) e1, ↓xTupR upm_same, upm_upm, le2, le6, List.length_map]
    have more : ∀ d : Dd, ∀ r : List Rw, (∀ x ∈ r, x.ok) → ∀ x ∈ r ++ [(⟨0, 0, 9, 0, 9, 0, 9, d, 0⟩ : Rw)], x.ok := fun d r h x hx => by
      rcases List.mem_append.mp hx with h' | h'
      · exact h x h'
      · rw [List.mem_singleton.mp h']; exact wide_ok d
    refine ⟨by decide, ?_⟩
    split
    · refine ⟨⟨by decide, by decide⟩, by decide, gs2 (mod_lt (by decide)) fun d1 => ?_⟩
      simp only [↓xSeq, ↓xNx, ↓xRt, ↓xBk, ↓xCt, ↓xEndNx, ↓xEndRt, ↓xNext, ↓xBreak, ↓xCont, ↓xDrop, ↓xRet, ↓xRetN, ↓xNever, ↓xIfS, ↓xPut0, ↓xPutS, ↓xSet, ↓xAug, ↓xAsg, ↓xUn2, ↓xUn1, ↓xPar, ↓xNm, ↓xNl, ↓xCn, ↓xSq, ↓xSqL, ↓xV0, ↓xVS, ↓xC, ↓xFrz, ↓xFrz1, ↓xOp, ↓xBl, ↓xB, ↓xChain, ↓xAnd, ↓xOr, ↓xNot, ↓xAndV, ↓xOrV, ↓xNotV, ↓xIf, ↓xNil, ↓xCons, ↓xTup, ↓xLst, ↓xLstO, ↓xOpt, ↓xAddI, ↓xAddT, ↓xAddL, ↓xSub, ↓xIAdd, ↓xFdiv, ↓xMod, ↓xPow, ↓xMul, ↓xLt, ↓xLe, ↓xGt, ↓xGe, ↓xEqI, ↓xNeI, ↓xEqB, ↓xNeB, ↓xIsBB, ↓xIsNN, ↓xIsTN, ↓xIsLN, ↓xIsIN, ↓xIsSN, ↓xIsRN, ↓xNoBB, ↓xNoNN, ↓xNoTN, ↓xNoLN, ↓xNoIN, ↓xNoSN, ↓xNoRN, ↓xInT, ↓xIx, ↓xIxT, ↓xIxL, ↓at0, ↓at1, ↓at2, ↓at3, ↓at4, ↓at5, ↓xSl, ↓xNo, ↓xInt, ↓xPart, ↓xCutT, ↓xCutL, ↓xCB, ↓xLenT, ↓xLenL, ↓xIntI, ↓xTupT, ↓xTupL, ↓xLstT, ↓xLstL, ↓xIsiT, ↓xIsiI, ↓xIsiB, ↓xIsiS, ↓xMax2, ↓xMin2, ↓xSum, ↓xAll, ↓xApp, ↓xFld, ↓xFldS, ↓xGFd, ↓xCall, ↓xMeth, ↓xProp, ↓xNeg, ↓xNegI, ↓suIx0, ↓suIx1, ↓suIx2, ↓suIx3, ↓rwIx0, ↓rwIx1, ↓rwIx2, ↓rwIx3, ↓rwIx4, ↓rwIx5, ↓rwNo, ↓ddG, ↓ddS, ↓ddP, ↓ddGo, ↓liN, ↓liNe, ↓xFldX, ↓xFldWX, ↓xAppAX, ↓xAppBX, ↓xPop, ↓xPopK, ↓xLast, ↓xMthX, ↓xPrpX, ↓insU, ↓insN, ↓lsU, ↓lsN, ↓lk0, ↓lk1, ↓lk2, ↓lk3, ↓lk4, ↓lk5, ↓lk6, if_true, if_false, Bool.false_eq_true, Bool.true_eq_false, reduceIte, Bool.not_true, Bool.not_false, decide_eq_true_eq, Bool.not_eq_true', decide_eq_false_iff_not, not_true_eq_false, not_false_eq_true, and_true, true_and, true_implies, List.length_cons, List.length_nil, Nat.zero_le, decide_true, decide_false, decide_not, fl_len, pt2, pt3, pt4, pt5, pt6, ↓atNat (show (1 : Int) = (1 : Nat) from rfl) e1, ↓xTupR upm_same, upm_upm, le2, le6, List.length_map, wide, ← map_snoc]
      refine ⟨hd _ (by omega), by decide, ?_⟩
      split
      · refine ⟨⟨by decide, by decide⟩, by decide, sg2 (mod_lt (by decide)) fun d2 => ?_⟩
        simp only [↓xSeq, ↓xNx, ↓xRt, ↓xBk, ↓xCt, ↓xEndNx, ↓xEndRt, ↓xNext, ↓xBreak, ↓xCont, ↓xDrop, ↓xRet, ↓xRetN, ↓xNever, ↓xIfS, ↓xPut0, ↓xPutS, ↓xSet, ↓xAug, ↓xAsg, ↓xUn2, ↓xUn1, ↓xPar, ↓xNm, ↓xNl, ↓xCn, ↓xSq, ↓xSqL, ↓xV0, ↓xVS, ↓xC, ↓xFrz, ↓xFrz1, ↓xOp, ↓xBl, ↓xB, ↓xChain, ↓xAnd, ↓xOr, ↓xNot, ↓xAndV, ↓xOrV, ↓xNotV, ↓xIf, ↓xNil, ↓xCons, ↓xTup, ↓xLst, ↓xLstO, ↓xOpt, ↓xAddI, ↓xAddT, ↓xAddL, ↓xSub, ↓xIAdd, ↓xFdiv, ↓xMod, ↓xPow, ↓xMul, ↓xLt, ↓xLe, ↓xGt, ↓xGe, ↓xEqI, ↓xNeI, ↓xEqB, ↓xNeB, ↓xIsBB, ↓xIsNN, ↓xIsTN, ↓xIsLN, ↓xIsIN, ↓xIsSN, ↓xIsRN, ↓xNoBB, ↓xNoNN, ↓xNoTN, ↓xNoLN, ↓xNoIN, ↓xNoSN, ↓xNoRN, ↓xInT, ↓xIx, ↓xIxT, ↓xIxL, ↓at0, ↓at1, ↓at2, ↓at3, ↓at4, ↓at5, ↓xSl, ↓xNo, ↓xInt, ↓xPart, ↓xCutT, ↓xCutL, ↓xCB, ↓xLenT, ↓xLenL, ↓xIntI, ↓xTupT, ↓xTupL, ↓xLstT, ↓xLstL, ↓xIsiT, ↓xIsiI, ↓xIsiB, ↓xIsiS, ↓xMax2, ↓xMin2, ↓xSum, ↓xAll, ↓xApp, ↓xFld, ↓xFldS, ↓xGFd, ↓xCall, ↓xMeth, ↓xProp, ↓xNeg, ↓xNegI, ↓suIx0, ↓suIx1, ↓suIx2, ↓suIx3, ↓rwIx0, ↓rwIx1, ↓rwIx2, ↓rwIx3, ↓rwIx4, ↓rwIx5, ↓rwNo, ↓ddG, ↓ddS, ↓ddP, ↓ddGo, ↓liN, ↓liNe, ↓xFldX, ↓xFldWX, ↓xAppAX, ↓xAppBX, ↓xPop, ↓xPopK, ↓xLast, ↓xMthX, ↓xPrpX, ↓insU, ↓insN, ↓lsU, ↓lsN, ↓lk0, ↓lk1, ↓lk2, ↓lk3, ↓lk4, ↓lk5, ↓lk6, if_true, if_false, Bool.false_eq_true, Bool.true_eq_false, reduceIte, Bool.not_true, Bool.not_false, decide_eq_true_eq, Bool.not_eq_true', decide_eq_false_iff_not, not_true_eq_false, not_false_eq_true, and_true, true_and, true_implies, List.length_cons, List.length_nil, Nat.zero_le, decide_true, decide_false, decide_not, fl_len, pt2, pt3, pt4, pt5, pt6, ↓xTupR upm_same, upm_upm, le2, le6, List.length_map, wide, ← map_snoc]
        refine ⟨hd _ (by rw [List.length_append]; simp; omega), out _ ?_ (more _ _ (more _ _ ho))⟩
        simp only [List.length_append, List.length_cons, List.length_nil]; omega
      · exact out _ (by simp only [List.length_append, List.length_cons, List.length_nil]; omega) (more _ _ ho)
    · refine ⟨by decide, ?_⟩
      split
      · refine ⟨⟨by decide, by decide⟩, by decide, sg2 (mod_lt (by decide)) fun d2 => ?_⟩
        simp only [↓xSeq, ↓xNx, ↓xRt, ↓xBk, ↓xCt, ↓xEndNx, ↓xEndRt, ↓xNext, ↓xBreak, ↓xCont, ↓xDrop, ↓xRet, ↓xRetN, ↓xNever, ↓xIfS, ↓xPut0, ↓xPutS, ↓xSet, ↓xAug, ↓xAsg, ↓xUn2, ↓xUn1, ↓xPar, ↓xNm, ↓xNl, ↓xCn, ↓xSq, ↓xSqL, ↓xV0, ↓xVS, ↓xC, ↓xFrz, ↓xFrz1, ↓xOp, ↓xBl, ↓xB, ↓xChain, ↓xAnd, ↓xOr, ↓xNot, ↓xAndV, ↓xOrV, ↓xNotV, ↓xIf, ↓xNil, ↓xCons, ↓xTup, ↓xLst, ↓xLstO, ↓xOpt, ↓xAddI, ↓xAddT, ↓xAddL, ↓xSub, ↓xIAdd, ↓xFdiv, ↓xMod, ↓xPow, ↓xMul, ↓xLt, ↓xLe, ↓xGt, ↓xGe, ↓xEqI, ↓xNeI, ↓xEqB, ↓xNeB, ↓xIsBB, ↓xIsNN, ↓xIsTN, ↓xIsLN, ↓xIsIN, ↓xIsSN, ↓xIsRN, ↓xNoBB, ↓xNoNN, ↓xNoTN, ↓xNoLN, ↓xNoIN, ↓xNoSN, ↓xNoRN, ↓xInT, ↓xIx, ↓xIxT, ↓xIxL, ↓at0, ↓at1, ↓at2, ↓at3, ↓at4, ↓at5, ↓xSl, ↓xNo, ↓xInt, ↓xPart, ↓xCutT, ↓xCutL, ↓xCB, ↓xLenT, ↓xLenL, ↓xIntI, ↓xTupT, ↓xTupL, ↓xLstT, ↓xLstL, ↓xIsiT, ↓xIsiI, ↓xIsiB, ↓xIsiS, ↓xMax2, ↓xMin2, ↓xSum, ↓xAll, ↓xApp, ↓xFld, ↓xFldS, ↓xGFd, ↓xCall, ↓xMeth, ↓xProp, ↓xNeg, ↓xNegI, ↓suIx0, ↓suIx1, ↓suIx2, ↓suIx3, ↓rwIx0, ↓rwIx1, ↓rwIx2, ↓rwIx3, ↓rwIx4, ↓rwIx5, ↓rwNo, ↓ddG, ↓ddS, ↓ddP, ↓ddGo, ↓liN, ↓liNe, ↓xFldX, ↓xFldWX, ↓xAppAX, ↓xAppBX, ↓xPop, ↓xPopK, ↓xLast, ↓xMthX, ↓xPrpX, ↓insU, ↓insN, ↓lsU, ↓lsN, ↓lk0, ↓lk1, ↓lk2, ↓lk3, ↓lk4, ↓lk5, ↓lk6, if_true, if_false, Bool.false_eq_true, Bool.true_eq_false, reduceIte, Bool.not_true, Bool.not_false, decide_eq_true_eq, Bool.not_eq_true', decide_eq_false_iff_not, not_true_eq_false, not_false_eq_true, and_true, true_and, true_implies, List.length_cons, List.length_nil, Nat.zero_le, decide_true, decide_false, decide_not, fl_len, pt2, pt3, pt4, pt5, pt6, ↓xTupR upm_same, upm_upm, le2, le6, List.length_map, wide, ← map_snoc]
        exact ⟨hd _ (by omega), out _ (by simp only [List.length_append, List.length_cons, List.length_nil]; omega) (more _ _ ho)⟩
      · exact out _ (by omega) ho
theorem x_draws {M : Mp} {Q : DK} {dx : DX} {c i : Int} (n : Nat) (h : i = n) (hn : n ≤ 1000) : S_draws [.int c, .int i] M Q dx = ∀ L, Drw n L → Q (.lst (L.map D.int)) M :=
  propext ⟨fun ⟨_, m, e, _, q⟩ => by
    subst h
    have : (n : Int) = m := by injection e with _ e; injection e with e; injection e
    have : n = m := by omega
    subst this; exact q, fun q => ⟨_, n, by rw [h], hn, q⟩⟩
theorem x_lrule {M : Mp} {Q : DK} {dx : DX} {L : List Int} : S_lrule [.lst (L.map D.int)] M Q dx = ((20 ≤ L.length ∧ ∀ d ∈ L, 0 ≤ d) ∧ ∀ r, Rok r → r.length ≤ 5 → Q (rl r) M) :=
  propext ⟨fun ⟨_, e, q⟩ => by simp only [List.cons.injEq, D.lst.injEq, ints_inj, and_true] at e; rw [e]; exact q, fun q => ⟨_, rfl, q⟩⟩
theorem x_comers {M : Mp} {Q : DK} {dx : DX} {su : Su} {L : List Int} : S_comers [su.d, .lst (L.map D.int)] M Q dx = (su.ok ∧ (4 ≤ L.length ∧ ∀ d ∈ L, 0 ≤ d) ∧ ∀ c : Cm, c.ok su → Q c.d M) :=
  propext ⟨fun ⟨_, _, e, q⟩ => by simp only [List.cons.injEq, D.lst.injEq, ints_inj, Su.inj, and_true] at e; obtain ⟨rfl, rfl⟩ := e; exact q, fun q => ⟨_, _, rfl, q⟩⟩
end DL

/-! The drawn setup. -/
namespace DL
open PySem PySem.Spec PyProof.Rows L2
theorem popAt {d : DT} {t : DA} {ρ : Rh} {M : Mp} {Q : DK} {p : Addr} {xs : List D} {i : Int} {y : D} (hd : ∀ Q : DK, Q (.ref p) M → d ρ M Q) (hm : M p = some (.lst xs)) (ht : ∀ Q : DKs, Q [.int i] M → t ρ M Q) (h0 : 0 ≤ i) (h1 : i < 2 ^ 63) (hy : xs[i.toNat]? = some y)
    (q : Q y (upm M p (.lst (xs.eraseIdx i.toNat)))) : dPopAt d t ρ M Q := hd _ ⟨p, xs, rfl, hm, ht _ ⟨xs, i, y, rfl, hm, h0, h1, hy, q⟩⟩
def S_setup : DSp := fun ds M Q _ => ∃ (L : List Int), ds = [.lst (L.map D.int)] ∧ (12 ≤ L.length ∧ ∀ d ∈ L, 0 ≤ d) ∧ ∀ su : Su, su.ok → Q su.d M
structure SetI (L : List Int) (x : D) (M : Mp) (p : Addr) (l : List Int) (ρ : Rh) (M' : Mp) : Prop where
  ex : ∃ (z : List Int) (a b : Option D), ρ = [some (.lst (L.map D.int)), some x, some (.ref p), a, b] ∧ M' = upm M p (.lst (z.map D.int)) ∧ z.length + l.length = 5 ∧ z.Sublist [1, 2, 3, 4, 5]
theorem map_eraseIdx {α β : Type} (f : α → β) : ∀ (l : List α) (i : Nat), (l.map f).eraseIdx i = (l.eraseIdx i).map f
  | [], i => by cases i <;> rfl
  | x :: l, 0 => rfl
  | x :: l, i + 1 => congrArg (f x :: ·) (map_eraseIdx f l i)
theorem b_setup84 {ds M Q dx} (h : S_setup ds M Q dx) : d__law_setup84 (endD Q) (startD ["draws", "seats", "sizes", "draw", "rooms"] ds) M := by
  obtain ⟨L, rfl, ⟨hl, hp⟩, hq⟩ := h
  show d__law_setup84 (endD Q) [some (.lst (L.map D.int)), none, none, none, none] M
  unfold d__law_setup84
  obtain ⟨x0, hx0, e0, _⟩ := nthI (L := L) (n := 0) (by omega)
  obtain ⟨x8, hx8, e8, _⟩ := nthI (L := L) (n := 8) (by omega)
  obtain ⟨x9, hx9, e9, _⟩ := nthI (L := L) (n := 9) (by omega)
  obtain ⟨x10, hx10, e10, _⟩ := nthI (L := L) (n := 10) (by omega)
  obtain ⟨x11, hx11, e11, _⟩ := nthI (L := L) (n := 11) (by omega)
  obtain ⟨m0, m1⟩ := @mod_lt x0 2 (by decide)
  obtain ⟨n, hn⟩ := Int.eq_ofNat_of_zero_le m0
  obtain ⟨w0, w1⟩ := @mod_lt (x0 / 2) 3 (by decide)
  obtain ⟨w, hw⟩ := Int.eq_ofNat_of_zero_le w0
  simp only [↓xSeq, ↓xNx, ↓xRt, ↓xBk, ↓xCt, ↓xEndNx, ↓xEndRt, ↓xNext, ↓xBreak, ↓xCont, ↓xDrop, ↓xRet, ↓xRetN, ↓xNever, ↓xIfS, ↓xPut0, ↓xPutS, ↓xSet, ↓xAug, ↓xAsg, ↓xUn2, ↓xUn1, ↓xPar, ↓xNm, ↓xNl, ↓xCn, ↓xSq, ↓xSqL, ↓xV0, ↓xVS, ↓xC, ↓xFrz, ↓xFrz1, ↓xOp, ↓xBl, ↓xB, ↓xChain, ↓xAnd, ↓xOr, ↓xNot, ↓xAndV, ↓xOrV, ↓xNotV, ↓xIf, ↓xNil, ↓xCons, ↓xTup, ↓xLst, ↓xLstO, ↓xOpt, ↓xAddI, ↓xAddT, ↓xAddL, ↓xSub, ↓xIAdd, ↓xFdiv, ↓xMod, ↓xPow, ↓xMul, ↓xLt, ↓xLe, ↓xGt, ↓xGe, ↓xEqI, ↓xNeI, ↓xEqB, ↓xNeB, ↓xIsBB, ↓xIsNN, ↓xIsTN, ↓xIsLN, ↓xIsIN, ↓xIsSN, ↓xIsRN, ↓xNoBB, ↓xNoNN, ↓xNoTN, ↓xNoLN, ↓xNoIN, ↓xNoSN, ↓xNoRN, ↓xInT, ↓xIx, ↓xIxT, ↓xIxL, ↓at0, ↓at1, ↓at2, ↓at3, ↓at4, ↓at5, ↓xSl, ↓xNo, ↓xInt, ↓xPart, ↓xCutT, ↓xCutL, ↓xCB, ↓xLenT, ↓xLenL, ↓xIntI, ↓xTupT, ↓xTupL, ↓xLstT, ↓xLstL, ↓xIsiT, ↓xIsiI, ↓xIsiB, ↓xIsiS, ↓xMax2, ↓xMin2, ↓xSum, ↓xAll, ↓xApp, ↓xFld, ↓xFldS, ↓xGFd, ↓xCall, ↓xMeth, ↓xProp, ↓xNeg, ↓xNegI, ↓suIx0, ↓suIx1, ↓suIx2, ↓suIx3, ↓rwIx0, ↓rwIx1, ↓rwIx2, ↓rwIx3, ↓rwIx4, ↓rwIx5, ↓rwNo, ↓ddG, ↓ddS, ↓ddP, ↓ddGo, ↓liN, ↓liNe, ↓xFldX, ↓xFldWX, ↓xAppAX, ↓xAppBX, ↓xPop, ↓xPopK, ↓xLast, ↓xMthX, ↓xPrpX, ↓insU, ↓insN, ↓lsU, ↓lsN, ↓lk0, ↓lk1, ↓lk2, ↓lk3, ↓lk4, ↓lk5, ↓lk6, if_true, if_false, Bool.false_eq_true, Bool.true_eq_false, reduceIte, Bool.not_true, Bool.not_false, decide_eq_true_eq, Bool.not_eq_true', decide_eq_false_iff_not, not_true_eq_false, not_false_eq_true, and_true, true_and, true_implies, List.length_cons, List.length_nil, Nat.zero_le, decide_true, decide_false, decide_not, fl_len, pt2, pt3, pt4, pt5, pt6]
  refine lc_map D.int (cutI L 1 (2 + n)) (fun d => .int (1 + d % 5)) (x := .lst ((cutI L 1 (2 + n)).map D.int)) (fun Q q => ?_) rfl (fun p o hp => rfl) (line_le (by rw [cutI_len]; omega)) (fun p ys d hp hd => ⟨[some (.lst (L.map D.int)), none, none, some (.int d), none], rfl, fun Q q => ?_⟩) ?_
  · simp only [↓xSeq, ↓xNx, ↓xRt, ↓xBk, ↓xCt, ↓xEndNx, ↓xEndRt, ↓xNext, ↓xBreak, ↓xCont, ↓xDrop, ↓xRet, ↓xRetN, ↓xNever, ↓xIfS, ↓xPut0, ↓xPutS, ↓xSet, ↓xAug, ↓xAsg, ↓xUn2, ↓xUn1, ↓xPar, ↓xNm, ↓xNl, ↓xCn, ↓xSq, ↓xSqL, ↓xV0, ↓xVS, ↓xC, ↓xFrz, ↓xFrz1, ↓xOp, ↓xBl, ↓xB, ↓xChain, ↓xAnd, ↓xOr, ↓xNot, ↓xAndV, ↓xOrV, ↓xNotV, ↓xIf, ↓xNil, ↓xCons, ↓xTup, ↓xLst, ↓xLstO, ↓xOpt, ↓xAddI, ↓xAddT, ↓xAddL, ↓xSub, ↓xIAdd, ↓xFdiv, ↓xMod, ↓xPow, ↓xMul, ↓xLt, ↓xLe, ↓xGt, ↓xGe, ↓xEqI, ↓xNeI, ↓xEqB, ↓xNeB, ↓xIsBB, ↓xIsNN, ↓xIsTN, ↓xIsLN, ↓xIsIN, ↓xIsSN, ↓xIsRN, ↓xNoBB, ↓xNoNN, ↓xNoTN, ↓xNoLN, ↓xNoIN, ↓xNoSN, ↓xNoRN, ↓xInT, ↓xIx, ↓xIxT, ↓xIxL, ↓at0, ↓at1, ↓at2, ↓at3, ↓at4, ↓at5, ↓xSl, ↓xNo, ↓xInt, ↓xPart, ↓xCutT, ↓xCutL, ↓xCB, ↓xLenT, ↓xLenL, ↓xIntI, ↓xTupT, ↓xTupL, ↓xLstT, ↓xLstL, ↓xIsiT, ↓xIsiI, ↓xIsiB, ↓xIsiS, ↓xMax2, ↓xMin2, ↓xSum, ↓xAll, ↓xApp, ↓xFld, ↓xFldS, ↓xGFd, ↓xCall, ↓xMeth, ↓xProp, ↓xNeg, ↓xNegI, ↓suIx0, ↓suIx1, ↓suIx2, ↓suIx3, ↓rwIx0, ↓rwIx1, ↓rwIx2, ↓rwIx3, ↓rwIx4, ↓rwIx5, ↓rwNo, ↓ddG, ↓ddS, ↓ddP, ↓ddGo, ↓liN, ↓liNe, ↓xFldX, ↓xFldWX, ↓xAppAX, ↓xAppBX, ↓xPop, ↓xPopK, ↓xLast, ↓xMthX, ↓xPrpX, ↓insU, ↓insN, ↓lsU, ↓lsN, ↓lk0, ↓lk1, ↓lk2, ↓lk3, ↓lk4, ↓lk5, ↓lk6, if_true, if_false, Bool.false_eq_true, Bool.true_eq_false, reduceIte, Bool.not_true, Bool.not_false, decide_eq_true_eq, Bool.not_eq_true', decide_eq_false_iff_not, not_true_eq_false, not_false_eq_true, and_true, true_and, true_implies, List.length_cons, List.length_nil, Nat.zero_le, decide_true, decide_false, decide_not, fl_len, pt2, pt3, pt4, pt5, pt6, ↓atNat (show (0 : Int) = (0 : Nat) from rfl) e0, hn]
    rw [cutD_ints (i := 1) (j := 2 + (n : Int)) (a := 1) (b := 2 + n) rfl (by omega)]
    exact ⟨by decide, q⟩
  · simp only [↓xSeq, ↓xNx, ↓xRt, ↓xBk, ↓xCt, ↓xEndNx, ↓xEndRt, ↓xNext, ↓xBreak, ↓xCont, ↓xDrop, ↓xRet, ↓xRetN, ↓xNever, ↓xIfS, ↓xPut0, ↓xPutS, ↓xSet, ↓xAug, ↓xAsg, ↓xUn2, ↓xUn1, ↓xPar, ↓xNm, ↓xNl, ↓xCn, ↓xSq, ↓xSqL, ↓xV0, ↓xVS, ↓xC, ↓xFrz, ↓xFrz1, ↓xOp, ↓xBl, ↓xB, ↓xChain, ↓xAnd, ↓xOr, ↓xNot, ↓xAndV, ↓xOrV, ↓xNotV, ↓xIf, ↓xNil, ↓xCons, ↓xTup, ↓xLst, ↓xLstO, ↓xOpt, ↓xAddI, ↓xAddT, ↓xAddL, ↓xSub, ↓xIAdd, ↓xFdiv, ↓xMod, ↓xPow, ↓xMul, ↓xLt, ↓xLe, ↓xGt, ↓xGe, ↓xEqI, ↓xNeI, ↓xEqB, ↓xNeB, ↓xIsBB, ↓xIsNN, ↓xIsTN, ↓xIsLN, ↓xIsIN, ↓xIsSN, ↓xIsRN, ↓xNoBB, ↓xNoNN, ↓xNoTN, ↓xNoLN, ↓xNoIN, ↓xNoSN, ↓xNoRN, ↓xInT, ↓xIx, ↓xIxT, ↓xIxL, ↓at0, ↓at1, ↓at2, ↓at3, ↓at4, ↓at5, ↓xSl, ↓xNo, ↓xInt, ↓xPart, ↓xCutT, ↓xCutL, ↓xCB, ↓xLenT, ↓xLenL, ↓xIntI, ↓xTupT, ↓xTupL, ↓xLstT, ↓xLstL, ↓xIsiT, ↓xIsiI, ↓xIsiB, ↓xIsiS, ↓xMax2, ↓xMin2, ↓xSum, ↓xAll, ↓xApp, ↓xFld, ↓xFldS, ↓xGFd, ↓xCall, ↓xMeth, ↓xProp, ↓xNeg, ↓xNegI, ↓suIx0, ↓suIx1, ↓suIx2, ↓suIx3, ↓rwIx0, ↓rwIx1, ↓rwIx2, ↓rwIx3, ↓rwIx4, ↓rwIx5, ↓rwNo, ↓ddG, ↓ddS, ↓ddP, ↓ddGo, ↓liN, ↓liNe, ↓xFldX, ↓xFldWX, ↓xAppAX, ↓xAppBX, ↓xPop, ↓xPopK, ↓xLast, ↓xMthX, ↓xPrpX, ↓insU, ↓insN, ↓lsU, ↓lsN, ↓lk0, ↓lk1, ↓lk2, ↓lk3, ↓lk4, ↓lk5, ↓lk6, if_true, if_false, Bool.false_eq_true, Bool.true_eq_false, reduceIte, Bool.not_true, Bool.not_false, decide_eq_true_eq, Bool.not_eq_true', decide_eq_false_iff_not, not_true_eq_false, not_false_eq_true, and_true, true_and, true_implies, List.length_cons, List.length_nil, Nat.zero_le, decide_true, decide_false, decide_not, fl_len, pt2, pt3, pt4, pt5, pt6]
    exact ⟨by decide, q⟩
  · have e : (cutI L 1 (2 + n)).map (fun d => D.int (1 + d % 5)) = ((cutI L 1 (2 + n)).map fun d => 1 + d % 5).map D.int := by rw [List.map_map]; rfl
    rw [e]
    simp only [↓xSeq, ↓xNx, ↓xRt, ↓xBk, ↓xCt, ↓xEndNx, ↓xEndRt, ↓xNext, ↓xBreak, ↓xCont, ↓xDrop, ↓xRet, ↓xRetN, ↓xNever, ↓xIfS, ↓xPut0, ↓xPutS, ↓xSet, ↓xAug, ↓xAsg, ↓xUn2, ↓xUn1, ↓xPar, ↓xNm, ↓xNl, ↓xCn, ↓xSq, ↓xSqL, ↓xV0, ↓xVS, ↓xC, ↓xFrz, ↓xFrz1, ↓xOp, ↓xBl, ↓xB, ↓xChain, ↓xAnd, ↓xOr, ↓xNot, ↓xAndV, ↓xOrV, ↓xNotV, ↓xIf, ↓xNil, ↓xCons, ↓xTup, ↓xLst, ↓xLstO, ↓xOpt, ↓xAddI, ↓xAddT, ↓xAddL, ↓xSub, ↓xIAdd, ↓xFdiv, ↓xMod, ↓xPow, ↓xMul, ↓xLt, ↓xLe, ↓xGt, ↓xGe, ↓xEqI, ↓xNeI, ↓xEqB, ↓xNeB, ↓xIsBB, ↓xIsNN, ↓xIsTN, ↓xIsLN, ↓xIsIN, ↓xIsSN, ↓xIsRN, ↓xNoBB, ↓xNoNN, ↓xNoTN, ↓xNoLN, ↓xNoIN, ↓xNoSN, ↓xNoRN, ↓xInT, ↓xIx, ↓xIxT, ↓xIxL, ↓at0, ↓at1, ↓at2, ↓at3, ↓at4, ↓at5, ↓xSl, ↓xNo, ↓xInt, ↓xPart, ↓xCutT, ↓xCutL, ↓xCB, ↓xLenT, ↓xLenL, ↓xIntI, ↓xTupT, ↓xTupL, ↓xLstT, ↓xLstL, ↓xIsiT, ↓xIsiI, ↓xIsiB, ↓xIsiS, ↓xMax2, ↓xMin2, ↓xSum, ↓xAll, ↓xApp, ↓xFld, ↓xFldS, ↓xGFd, ↓xCall, ↓xMeth, ↓xProp, ↓xNeg, ↓xNegI, ↓suIx0, ↓suIx1, ↓suIx2, ↓suIx3, ↓rwIx0, ↓rwIx1, ↓rwIx2, ↓rwIx3, ↓rwIx4, ↓rwIx5, ↓rwNo, ↓ddG, ↓ddS, ↓ddP, ↓ddGo, ↓liN, ↓liNe, ↓xFldX, ↓xFldWX, ↓xAppAX, ↓xAppBX, ↓xPop, ↓xPopK, ↓xLast, ↓xMthX, ↓xPrpX, ↓insU, ↓insN, ↓lsU, ↓lsN, ↓lk0, ↓lk1, ↓lk2, ↓lk3, ↓lk4, ↓lk5, ↓lk6, if_true, if_false, Bool.false_eq_true, Bool.true_eq_false, reduceIte, Bool.not_true, Bool.not_false, decide_eq_true_eq, Bool.not_eq_true', decide_eq_false_iff_not, not_true_eq_false, not_false_eq_true, and_true, true_and, true_implies, List.length_cons, List.length_nil, Nat.zero_le, decide_true, decide_false, decide_not, fl_len, pt2, pt3, pt4, pt5, pt6, le5]
    refine fun p hpn => ?_
    refine for_sq D.int (cutI L 3 (7 - w)) (x := .lst ((cutI L 3 (7 - w)).map D.int)) (fun Q q => ?_) rfl (SetI L (tI ((cutI L 1 (2 + n)).map fun d => 1 + d % 5)) M p) ⟨[1, 2, 3, 4, 5], none, none, rfl, rfl, rfl, List.Sublist.refl _⟩ (fun _ _ _ _ => rfl) (fun l d rest ρ M' e ⟨z, a, b, hρ, hM, hz, hs⟩ => ?_) (fun ρ M' ⟨z, a, b, hρ, hM, hz, hs⟩ => ?_)
    · simp only [↓xSeq, ↓xNx, ↓xRt, ↓xBk, ↓xCt, ↓xEndNx, ↓xEndRt, ↓xNext, ↓xBreak, ↓xCont, ↓xDrop, ↓xRet, ↓xRetN, ↓xNever, ↓xIfS, ↓xPut0, ↓xPutS, ↓xSet, ↓xAug, ↓xAsg, ↓xUn2, ↓xUn1, ↓xPar, ↓xNm, ↓xNl, ↓xCn, ↓xSq, ↓xSqL, ↓xV0, ↓xVS, ↓xC, ↓xFrz, ↓xFrz1, ↓xOp, ↓xBl, ↓xB, ↓xChain, ↓xAnd, ↓xOr, ↓xNot, ↓xAndV, ↓xOrV, ↓xNotV, ↓xIf, ↓xNil, ↓xCons, ↓xTup, ↓xLst, ↓xLstO, ↓xOpt, ↓xAddI, ↓xAddT, ↓xAddL, ↓xSub, ↓xIAdd, ↓xFdiv, ↓xMod, ↓xPow, ↓xMul, ↓xLt, ↓xLe, ↓xGt, ↓xGe, ↓xEqI, ↓xNeI, ↓xEqB, ↓xNeB, ↓xIsBB, ↓xIsNN, ↓xIsTN, ↓xIsLN, ↓xIsIN, ↓xIsSN, ↓xIsRN, ↓xNoBB, ↓xNoNN, ↓xNoTN, ↓xNoLN, ↓xNoIN, ↓xNoSN, ↓xNoRN, ↓xInT, ↓xIx, ↓xIxT, ↓xIxL, ↓at0, ↓at1, ↓at2, ↓at3, ↓at4, ↓at5, ↓xSl, ↓xNo, ↓xInt, ↓xPart, ↓xCutT, ↓xCutL, ↓xCB, ↓xLenT, ↓xLenL, ↓xIntI, ↓xTupT, ↓xTupL, ↓xLstT, ↓xLstL, ↓xIsiT, ↓xIsiI, ↓xIsiB, ↓xIsiS, ↓xMax2, ↓xMin2, ↓xSum, ↓xAll, ↓xApp, ↓xFld, ↓xFldS, ↓xGFd, ↓xCall, ↓xMeth, ↓xProp, ↓xNeg, ↓xNegI, ↓suIx0, ↓suIx1, ↓suIx2, ↓suIx3, ↓rwIx0, ↓rwIx1, ↓rwIx2, ↓rwIx3, ↓rwIx4, ↓rwIx5, ↓rwNo, ↓ddG, ↓ddS, ↓ddP, ↓ddGo, ↓liN, ↓liNe, ↓xFldX, ↓xFldWX, ↓xAppAX, ↓xAppBX, ↓xPop, ↓xPopK, ↓xLast, ↓xMthX, ↓xPrpX, ↓insU, ↓insN, ↓lsU, ↓lsN, ↓lk0, ↓lk1, ↓lk2, ↓lk3, ↓lk4, ↓lk5, ↓lk6, if_true, if_false, Bool.false_eq_true, Bool.true_eq_false, reduceIte, Bool.not_true, Bool.not_false, decide_eq_true_eq, Bool.not_eq_true', decide_eq_false_iff_not, not_true_eq_false, not_false_eq_true, and_true, true_and, true_implies, List.length_cons, List.length_nil, Nat.zero_le, decide_true, decide_false, decide_not, fl_len, pt2, pt3, pt4, pt5, pt6, ↓atNat (show (0 : Int) = (0 : Nat) from rfl) e0, hw]
      rw [cutD_ints (i := 3) (j := 7 - (w : Int)) (a := 3) (b := 7 - w) rfl (by omega)]
      exact ⟨⟨by decide, by decide⟩, by decide, q⟩
    · subst hρ hM
      have hlen : l.length + (1 + rest.length) = min (7 - w) L.length - min 3 L.length := by
        rw [← cutI_len, e]; simp; omega
      have hz0 : (0 : Int) < (z.length : Int) := by omega
      obtain ⟨i0, i1⟩ := @mod_lt d (z.length : Int) hz0
      obtain ⟨y, _, hy, _⟩ := nthI (L := z) (n := (d % (z.length : Int)).toNat) (by omega)
      simp only [↓xSeq, ↓xNx, ↓xRt, ↓xBk, ↓xCt, ↓xEndNx, ↓xEndRt, ↓xNext, ↓xBreak, ↓xCont, ↓xDrop, ↓xRet, ↓xRetN, ↓xNever, ↓xIfS, ↓xPut0, ↓xPutS, ↓xSet, ↓xAug, ↓xAsg, ↓xUn2, ↓xUn1, ↓xPar, ↓xNm, ↓xNl, ↓xCn, ↓xSq, ↓xSqL, ↓xV0, ↓xVS, ↓xC, ↓xFrz, ↓xFrz1, ↓xOp, ↓xBl, ↓xB, ↓xChain, ↓xAnd, ↓xOr, ↓xNot, ↓xAndV, ↓xOrV, ↓xNotV, ↓xIf, ↓xNil, ↓xCons, ↓xTup, ↓xLst, ↓xLstO, ↓xOpt, ↓xAddI, ↓xAddT, ↓xAddL, ↓xSub, ↓xIAdd, ↓xFdiv, ↓xMod, ↓xPow, ↓xMul, ↓xLt, ↓xLe, ↓xGt, ↓xGe, ↓xEqI, ↓xNeI, ↓xEqB, ↓xNeB, ↓xIsBB, ↓xIsNN, ↓xIsTN, ↓xIsLN, ↓xIsIN, ↓xIsSN, ↓xIsRN, ↓xNoBB, ↓xNoNN, ↓xNoTN, ↓xNoLN, ↓xNoIN, ↓xNoSN, ↓xNoRN, ↓xInT, ↓xIx, ↓xIxT, ↓xIxL, ↓at0, ↓at1, ↓at2, ↓at3, ↓at4, ↓at5, ↓xSl, ↓xNo, ↓xInt, ↓xPart, ↓xCutT, ↓xCutL, ↓xCB, ↓xLenT, ↓xLenL, ↓xIntI, ↓xTupT, ↓xTupL, ↓xLstT, ↓xLstL, ↓xIsiT, ↓xIsiI, ↓xIsiB, ↓xIsiS, ↓xMax2, ↓xMin2, ↓xSum, ↓xAll, ↓xApp, ↓xFld, ↓xFldS, ↓xGFd, ↓xCall, ↓xMeth, ↓xProp, ↓xNeg, ↓xNegI, ↓suIx0, ↓suIx1, ↓suIx2, ↓suIx3, ↓rwIx0, ↓rwIx1, ↓rwIx2, ↓rwIx3, ↓rwIx4, ↓rwIx5, ↓rwNo, ↓ddG, ↓ddS, ↓ddP, ↓ddGo, ↓liN, ↓liNe, ↓xFldX, ↓xFldWX, ↓xAppAX, ↓xAppBX, ↓xPop, ↓xPopK, ↓xLast, ↓xMthX, ↓xPrpX, ↓insU, ↓insN, ↓lsU, ↓lsN, ↓lk0, ↓lk1, ↓lk2, ↓lk3, ↓lk4, ↓lk5, ↓lk6, if_true, if_false, Bool.false_eq_true, Bool.true_eq_false, reduceIte, Bool.not_true, Bool.not_false, decide_eq_true_eq, Bool.not_eq_true', decide_eq_false_iff_not, not_true_eq_false, not_false_eq_true, and_true, true_and, true_implies, List.length_cons, List.length_nil, Nat.zero_le, decide_true, decide_false, decide_not, fl_len, pt2, pt3, pt4, pt5, pt6]
      refine popAt (p := p) (xs := z.map D.int) (i := d % (z.length : Int)) (y := .int y) (fun Q q => by simp only [↓xSeq, ↓xNx, ↓xRt, ↓xBk, ↓xCt, ↓xEndNx, ↓xEndRt, ↓xNext, ↓xBreak, ↓xCont, ↓xDrop, ↓xRet, ↓xRetN, ↓xNever, ↓xIfS, ↓xPut0, ↓xPutS, ↓xSet, ↓xAug, ↓xAsg, ↓xUn2, ↓xUn1, ↓xPar, ↓xNm, ↓xNl, ↓xCn, ↓xSq, ↓xSqL, ↓xV0, ↓xVS, ↓xC, ↓xFrz, ↓xFrz1, ↓xOp, ↓xBl, ↓xB, ↓xChain, ↓xAnd, ↓xOr, ↓xNot, ↓xAndV, ↓xOrV, ↓xNotV, ↓xIf, ↓xNil, ↓xCons, ↓xTup, ↓xLst, ↓xLstO, ↓xOpt, ↓xAddI, ↓xAddT, ↓xAddL, ↓xSub, ↓xIAdd, ↓xFdiv, ↓xMod, ↓xPow, ↓xMul, ↓xLt, ↓xLe, ↓xGt, ↓xGe, ↓xEqI, ↓xNeI, ↓xEqB, ↓xNeB, ↓xIsBB, ↓xIsNN, ↓xIsTN, ↓xIsLN, ↓xIsIN, ↓xIsSN, ↓xIsRN, ↓xNoBB, ↓xNoNN, ↓xNoTN, ↓xNoLN, ↓xNoIN, ↓xNoSN, ↓xNoRN, ↓xInT, ↓xIx, ↓xIxT, ↓xIxL, ↓at0, ↓at1, ↓at2, ↓at3, ↓at4, ↓at5, ↓xSl, ↓xNo, ↓xInt, ↓xPart, ↓xCutT, ↓xCutL, ↓xCB, ↓xLenT, ↓xLenL, ↓xIntI, ↓xTupT, ↓xTupL, ↓xLstT, ↓xLstL, ↓xIsiT, ↓xIsiI, ↓xIsiB, ↓xIsiS, ↓xMax2, ↓xMin2, ↓xSum, ↓xAll, ↓xApp, ↓xFld, ↓xFldS, ↓xGFd, ↓xCall, ↓xMeth, ↓xProp, ↓xNeg, ↓xNegI, ↓suIx0, ↓suIx1, ↓suIx2, ↓suIx3, ↓rwIx0, ↓rwIx1, ↓rwIx2, ↓rwIx3, ↓rwIx4, ↓rwIx5, ↓rwNo, ↓ddG, ↓ddS, ↓ddP, ↓ddGo, ↓liN, ↓liNe, ↓xFldX, ↓xFldWX, ↓xAppAX, ↓xAppBX, ↓xPop, ↓xPopK, ↓xLast, ↓xMthX, ↓xPrpX, ↓insU, ↓insN, ↓lsU, ↓lsN, ↓lk0, ↓lk1, ↓lk2, ↓lk3, ↓lk4, ↓lk5, ↓lk6, if_true, if_false, Bool.false_eq_true, Bool.true_eq_false, reduceIte, Bool.not_true, Bool.not_false, decide_eq_true_eq, Bool.not_eq_true', decide_eq_false_iff_not, not_true_eq_false, not_false_eq_true, and_true, true_and, true_implies, List.length_cons, List.length_nil, Nat.zero_le, decide_true, decide_false, decide_not, fl_len, pt2, pt3, pt4, pt5, pt6]; exact q) upm_same (fun Q q => by simp only [↓xSeq, ↓xNx, ↓xRt, ↓xBk, ↓xCt, ↓xEndNx, ↓xEndRt, ↓xNext, ↓xBreak, ↓xCont, ↓xDrop, ↓xRet, ↓xRetN, ↓xNever, ↓xIfS, ↓xPut0, ↓xPutS, ↓xSet, ↓xAug, ↓xAsg, ↓xUn2, ↓xUn1, ↓xPar, ↓xNm, ↓xNl, ↓xCn, ↓xSq, ↓xSqL, ↓xV0, ↓xVS, ↓xC, ↓xFrz, ↓xFrz1, ↓xOp, ↓xBl, ↓xB, ↓xChain, ↓xAnd, ↓xOr, ↓xNot, ↓xAndV, ↓xOrV, ↓xNotV, ↓xIf, ↓xNil, ↓xCons, ↓xTup, ↓xLst, ↓xLstO, ↓xOpt, ↓xAddI, ↓xAddT, ↓xAddL, ↓xSub, ↓xIAdd, ↓xFdiv, ↓xMod, ↓xPow, ↓xMul, ↓xLt, ↓xLe, ↓xGt, ↓xGe, ↓xEqI, ↓xNeI, ↓xEqB, ↓xNeB, ↓xIsBB, ↓xIsNN, ↓xIsTN, ↓xIsLN, ↓xIsIN, ↓xIsSN, ↓xIsRN, ↓xNoBB, ↓xNoNN, ↓xNoTN, ↓xNoLN, ↓xNoIN, ↓xNoSN, ↓xNoRN, ↓xInT, ↓xIx, ↓xIxT, ↓xIxL, ↓at0, ↓at1, ↓at2, ↓at3, ↓at4, ↓at5, ↓xSl, ↓xNo, ↓xInt, ↓xPart, ↓xCutT, ↓xCutL, ↓xCB, ↓xLenT, ↓xLenL, ↓xIntI, ↓xTupT, ↓xTupL, ↓xLstT, ↓xLstL, ↓xIsiT, ↓xIsiI, ↓xIsiB, ↓xIsiS, ↓xMax2, ↓xMin2, ↓xSum, ↓xAll, ↓xApp, ↓xFld, ↓xFldS, ↓xGFd, ↓xCall, ↓xMeth, ↓xProp, ↓xNeg, ↓xNegI, ↓suIx0, ↓suIx1, ↓suIx2, ↓suIx3, ↓rwIx0, ↓rwIx1, ↓rwIx2, ↓rwIx3, ↓rwIx4, ↓rwIx5, ↓rwNo, ↓ddG, ↓ddS, ↓ddP, ↓ddGo, ↓liN, ↓liNe, ↓xFldX, ↓xFldWX, ↓xAppAX, ↓xAppBX, ↓xPop, ↓xPopK, ↓xLast, ↓xMthX, ↓xPrpX, ↓insU, ↓insN, ↓lsU, ↓lsN, ↓lk0, ↓lk1, ↓lk2, ↓lk3, ↓lk4, ↓lk5, ↓lk6, if_true, if_false, Bool.false_eq_true, Bool.true_eq_false, reduceIte, Bool.not_true, Bool.not_false, decide_eq_true_eq, Bool.not_eq_true', decide_eq_false_iff_not, not_true_eq_false, not_false_eq_true, and_true, true_and, true_implies, List.length_cons, List.length_nil, Nat.zero_le, decide_true, decide_false, decide_not, fl_len, pt2, pt3, pt4, pt5, pt6, ↓xLenR upm_same, List.length_map, hz0]; exact q) i0 (by omega) hy ?_
      refine ⟨z.eraseIdx (d % (z.length : Int)).toNat, _, _, rfl, ?_, ?_, ?_⟩
      · rw [upm_upm, map_eraseIdx]
      · rw [List.length_eraseIdx, if_pos (by omega), List.length_append]; simp; omega
      · exact (List.eraseIdx_sublist ..).trans hs
    · subst hρ hM
      have hlen : (cutI L 3 (7 - w)).length = 4 - w := by rw [cutI_len]; omega
      simp only [↓xSeq, ↓xNx, ↓xRt, ↓xBk, ↓xCt, ↓xEndNx, ↓xEndRt, ↓xNext, ↓xBreak, ↓xCont, ↓xDrop, ↓xRet, ↓xRetN, ↓xNever, ↓xIfS, ↓xPut0, ↓xPutS, ↓xSet, ↓xAug, ↓xAsg, ↓xUn2, ↓xUn1, ↓xPar, ↓xNm, ↓xNl, ↓xCn, ↓xSq, ↓xSqL, ↓xV0, ↓xVS, ↓xC, ↓xFrz, ↓xFrz1, ↓xOp, ↓xBl, ↓xB, ↓xChain, ↓xAnd, ↓xOr, ↓xNot, ↓xAndV, ↓xOrV, ↓xNotV, ↓xIf, ↓xNil, ↓xCons, ↓xTup, ↓xLst, ↓xLstO, ↓xOpt, ↓xAddI, ↓xAddT, ↓xAddL, ↓xSub, ↓xIAdd, ↓xFdiv, ↓xMod, ↓xPow, ↓xMul, ↓xLt, ↓xLe, ↓xGt, ↓xGe, ↓xEqI, ↓xNeI, ↓xEqB, ↓xNeB, ↓xIsBB, ↓xIsNN, ↓xIsTN, ↓xIsLN, ↓xIsIN, ↓xIsSN, ↓xIsRN, ↓xNoBB, ↓xNoNN, ↓xNoTN, ↓xNoLN, ↓xNoIN, ↓xNoSN, ↓xNoRN, ↓xInT, ↓xIx, ↓xIxT, ↓xIxL, ↓at0, ↓at1, ↓at2, ↓at3, ↓at4, ↓at5, ↓xSl, ↓xNo, ↓xInt, ↓xPart, ↓xCutT, ↓xCutL, ↓xCB, ↓xLenT, ↓xLenL, ↓xIntI, ↓xTupT, ↓xTupL, ↓xLstT, ↓xLstL, ↓xIsiT, ↓xIsiI, ↓xIsiB, ↓xIsiS, ↓xMax2, ↓xMin2, ↓xSum, ↓xAll, ↓xApp, ↓xFld, ↓xFldS, ↓xGFd, ↓xCall, ↓xMeth, ↓xProp, ↓xNeg, ↓xNegI, ↓suIx0, ↓suIx1, ↓suIx2, ↓suIx3, ↓rwIx0, ↓rwIx1, ↓rwIx2, ↓rwIx3, ↓rwIx4, ↓rwIx5, ↓rwNo, ↓ddG, ↓ddS, ↓ddP, ↓ddGo, ↓liN, ↓liNe, ↓xFldX, ↓xFldWX, ↓xAppAX, ↓xAppBX, ↓xPop, ↓xPopK, ↓xLast, ↓xMthX, ↓xPrpX, ↓insU, ↓insN, ↓lsU, ↓lsN, ↓lk0, ↓lk1, ↓lk2, ↓lk3, ↓lk4, ↓lk5, ↓lk6, if_true, if_false, Bool.false_eq_true, Bool.true_eq_false, reduceIte, Bool.not_true, Bool.not_false, decide_eq_true_eq, Bool.not_eq_true', decide_eq_false_iff_not, not_true_eq_false, not_false_eq_true, and_true, true_and, true_implies, List.length_cons, List.length_nil, Nat.zero_le, decide_true, decide_false, decide_not, fl_len, pt2, pt3, pt4, pt5, pt6, ↓atNat (show (0 : Int) = (0 : Nat) from rfl) e0, ↓atNat (show (8 : Int) = (8 : Nat) from rfl) e8, ↓atNat (show (9 : Int) = (9 : Nat) from rfl) e9, ↓atNat (show (10 : Int) = (10 : Nat) from rfl) e10, ↓atNat (show (11 : Int) = (11 : Nat) from rfl) e11, ↓xTupR upm_same, le2, le3]
      obtain ⟨q8, r8⟩ := @mod_lt x8 3 (by decide)
      obtain ⟨q9, r9⟩ := @mod_lt x9 5 (by decide)
      obtain ⟨q10, r10⟩ := @mod_lt x10 3 (by decide)
      obtain ⟨q11, r11⟩ := @mod_lt x11 3 (by decide)
      refine ⟨by decide, by decide, by decide, by decide, M, sub_up hpn, hq ⟨_, z, 1 + x8 % 3, x9 % 5, x10 % 3, x11 % 3⟩ ⟨?_, ?_, ?_, ?_, ?_, ?_, ?_, ?_, ?_, ?_, ?_, ?_, ?_, ?_, ?_⟩⟩
      · rw [List.length_map, cutI_len]; omega
      · rw [List.length_map, cutI_len]; omega
      · intro x hx
        obtain ⟨d, _, rfl⟩ := List.mem_map.mp hx
        have := @mod_lt d 5 (by decide)
        omega
      · show 1 ≤ z.length; omega
      · show z.length ≤ 3; omega
      · intro x hx
        have := hs.subset hx
        simp at this
        omega
      · exact List.Pairwise.sublist hs (by decide)
      all_goals (simp only []; omega)
theorem x_setup {M : Mp} {Q : DK} {dx : DX} {L : List Int} : S_setup [.lst (L.map D.int)] M Q dx = ((12 ≤ L.length ∧ ∀ d ∈ L, 0 ≤ d) ∧ ∀ su : Su, su.ok → Q su.d M) :=
  propext ⟨fun ⟨_, e, q⟩ => by simp only [List.cons.injEq, D.lst.injEq, ints_inj, and_true] at e; rw [e]; exact q, fun q => ⟨_, rfl, q⟩⟩
/-! changing a lift by a step -/
def d_do89 (C : Addr) : DS :=
  (dSeq (dIfS (dB (dOp dEq (dIx (dVar 1) (dC (.int 0))) (dC (.str "rule")))) (dRet (dMeth C "change_rule" (S_change C) [] G0.dx (dVar 0) (dCons (dIx (dVar 1) (dC (.int 1))) dNil))) dNext)
    (dRet (dMeth C "beat" (S_lbeat C) [] G0.dx (dVar 0) (dCons (dIx (dIx (dVar 1) (dC (.int 1))) (dC (.int 0))) (dCons (dIx (dIx (dVar 1) (dC (.int 1))) (dC (.int 1))) dNil)))))
theorem lkm {s : LS} {p q e : Addr} : (s.fields p q e).lookup ("beat" : Str) = none ∧ (s.fields p q e).lookup ("change_rule" : Str) = none ∧ (s.fields p q e).lookup ("undo" : Str) = none ∧ (s.fields p q e).lookup ("copy" : Str) = none ∧ (s.fields p q e).lookup ("row" : Str) = none ∧ (s.fields p q e).lookup ("chairs" : Str) = none ∧ (s.fields p q e).lookup ("state" : Str) = none ∧ (s.fields p q e).lookup ("rule" : Str) = none ∧ (s.fields p q e).lookup ("lost" : Str) = none := ⟨rfl, rfl, rfl, rfl, rfl, rfl, rfl, rfl, rfl⟩
theorem b_do89 {C ds M Q dx} (h : S_do C ds M Q dx) : d_do89 C (endD Q) (startD ["lift", "step"] ds) M := by
  obtain ⟨a, p, q, e, s, x, rfl, h, o, ox, hq⟩ := h
  show d_do89 C (endD Q) [some (.ref a), some x.d] M
  unfold d_do89
  cases x with
  | beat c =>
    simp only [↓xSeq, ↓xNx, ↓xRt, ↓xBk, ↓xCt, ↓xEndNx, ↓xEndRt, ↓xNext, ↓xBreak, ↓xCont, ↓xDrop, ↓xRet, ↓xRetN, ↓xNever, ↓xIfS, ↓xPut0, ↓xPutS, ↓xSet, ↓xAug, ↓xAsg, ↓xUn2, ↓xUn1, ↓xPar, ↓xNm, ↓xNl, ↓xCn, ↓xSq, ↓xSqL, ↓xV0, ↓xVS, ↓xC, ↓xFrz, ↓xFrz1, ↓xOp, ↓xBl, ↓xB, ↓xChain, ↓xAnd, ↓xOr, ↓xNot, ↓xAndV, ↓xOrV, ↓xNotV, ↓xIf, ↓xNil, ↓xCons, ↓xTup, ↓xLst, ↓xLstO, ↓xOpt, ↓xAddI, ↓xAddT, ↓xAddL, ↓xSub, ↓xIAdd, ↓xFdiv, ↓xMod, ↓xPow, ↓xMul, ↓xLt, ↓xLe, ↓xGt, ↓xGe, ↓xEqI, ↓xNeI, ↓xEqB, ↓xNeB, ↓xIsBB, ↓xIsNN, ↓xIsTN, ↓xIsLN, ↓xIsIN, ↓xIsSN, ↓xIsRN, ↓xNoBB, ↓xNoNN, ↓xNoTN, ↓xNoLN, ↓xNoIN, ↓xNoSN, ↓xNoRN, ↓xInT, ↓xIx, ↓xIxT, ↓xIxL, ↓at0, ↓at1, ↓at2, ↓at3, ↓at4, ↓at5, ↓xSl, ↓xNo, ↓xInt, ↓xPart, ↓xCutT, ↓xCutL, ↓xCB, ↓xLenT, ↓xLenL, ↓xIntI, ↓xTupT, ↓xTupL, ↓xLstT, ↓xLstL, ↓xIsiT, ↓xIsiI, ↓xIsiB, ↓xIsiS, ↓xMax2, ↓xMin2, ↓xSum, ↓xAll, ↓xApp, ↓xFld, ↓xFldS, ↓xGFd, ↓xCall, ↓xMeth, ↓xProp, ↓xNeg, ↓xNegI, ↓suIx0, ↓suIx1, ↓suIx2, ↓suIx3, ↓rwIx0, ↓rwIx1, ↓rwIx2, ↓rwIx3, ↓rwIx4, ↓rwIx5, ↓rwNo, ↓ddG, ↓ddS, ↓ddP, ↓ddGo, ↓liN, ↓liNe, ↓xFldX, ↓xFldWX, ↓xAppAX, ↓xAppBX, ↓xPop, ↓xPopK, ↓xLast, ↓xMthX, ↓xPrpX, ↓insU, ↓insN, ↓lsU, ↓lsN, ↓lk0, ↓lk1, ↓lk2, ↓lk3, ↓lk4, ↓lk5, ↓lk6, if_true, if_false, Bool.false_eq_true, Bool.true_eq_false, reduceIte, Bool.not_true, Bool.not_false, decide_eq_true_eq, Bool.not_eq_true', decide_eq_false_iff_not, not_true_eq_false, not_false_eq_true, and_true, true_and, true_implies, List.length_cons, List.length_nil, Nat.zero_le, decide_true, decide_false, decide_not, fl_len, pt2, pt3, pt4, pt5, pt6, ↓stIx0, ↓stIx1, ↓eqRB, Step.isB, Step.arg, ↓ins_at h.ins, lkm.1]
    have c0 : ∀ {M : Mp} {Q : DK}, dIxV c.d (.int 0) M Q = Q (tI c.groups) M := by intro M Q; rw [Cm.d, xIxT, at0]
    have c1 : ∀ {M : Mp} {Q : DK}, dIxV c.d (.int 1) M Q = Q (.int c.more) M := by intro M Q; rw [Cm.d, xIxT, at1]
    simp only [↓xSeq, ↓xNx, ↓xRt, ↓xBk, ↓xCt, ↓xEndNx, ↓xEndRt, ↓xNext, ↓xBreak, ↓xCont, ↓xDrop, ↓xRet, ↓xRetN, ↓xNever, ↓xIfS, ↓xPut0, ↓xPutS, ↓xSet, ↓xAug, ↓xAsg, ↓xUn2, ↓xUn1, ↓xPar, ↓xNm, ↓xNl, ↓xCn, ↓xSq, ↓xSqL, ↓xV0, ↓xVS, ↓xC, ↓xFrz, ↓xFrz1, ↓xOp, ↓xBl, ↓xB, ↓xChain, ↓xAnd, ↓xOr, ↓xNot, ↓xAndV, ↓xOrV, ↓xNotV, ↓xIf, ↓xNil, ↓xCons, ↓xTup, ↓xLst, ↓xLstO, ↓xOpt, ↓xAddI, ↓xAddT, ↓xAddL, ↓xSub, ↓xIAdd, ↓xFdiv, ↓xMod, ↓xPow, ↓xMul, ↓xLt, ↓xLe, ↓xGt, ↓xGe, ↓xEqI, ↓xNeI, ↓xEqB, ↓xNeB, ↓xIsBB, ↓xIsNN, ↓xIsTN, ↓xIsLN, ↓xIsIN, ↓xIsSN, ↓xIsRN, ↓xNoBB, ↓xNoNN, ↓xNoTN, ↓xNoLN, ↓xNoIN, ↓xNoSN, ↓xNoRN, ↓xInT, ↓xIx, ↓xIxT, ↓xIxL, ↓at0, ↓at1, ↓at2, ↓at3, ↓at4, ↓at5, ↓xSl, ↓xNo, ↓xInt, ↓xPart, ↓xCutT, ↓xCutL, ↓xCB, ↓xLenT, ↓xLenL, ↓xIntI, ↓xTupT, ↓xTupL, ↓xLstT, ↓xLstL, ↓xIsiT, ↓xIsiI, ↓xIsiB, ↓xIsiS, ↓xMax2, ↓xMin2, ↓xSum, ↓xAll, ↓xApp, ↓xFld, ↓xFldS, ↓xGFd, ↓xCall, ↓xMeth, ↓xProp, ↓xNeg, ↓xNegI, ↓suIx0, ↓suIx1, ↓suIx2, ↓suIx3, ↓rwIx0, ↓rwIx1, ↓rwIx2, ↓rwIx3, ↓rwIx4, ↓rwIx5, ↓rwNo, ↓ddG, ↓ddS, ↓ddP, ↓ddGo, ↓liN, ↓liNe, ↓xFldX, ↓xFldWX, ↓xAppAX, ↓xAppBX, ↓xPop, ↓xPopK, ↓xLast, ↓xMthX, ↓xPrpX, ↓insU, ↓insN, ↓lsU, ↓lsN, ↓lk0, ↓lk1, ↓lk2, ↓lk3, ↓lk4, ↓lk5, ↓lk6, if_true, if_false, Bool.false_eq_true, Bool.true_eq_false, reduceIte, Bool.not_true, Bool.not_false, decide_eq_true_eq, Bool.not_eq_true', decide_eq_false_iff_not, not_true_eq_false, not_false_eq_true, and_true, true_and, true_implies, List.length_cons, List.length_nil, Nat.zero_le, decide_true, decide_false, decide_not, fl_len, pt2, pt3, pt4, pt5, pt6, ↓c0, ↓c1, ↓stIx1, Step.arg]
    exact ⟨a, p, q, e, s, c, rfl, h, o, ox, fun M' h' k => fin (hq M' h' k)⟩
  | rule r =>
    simp only [↓xSeq, ↓xNx, ↓xRt, ↓xBk, ↓xCt, ↓xEndNx, ↓xEndRt, ↓xNext, ↓xBreak, ↓xCont, ↓xDrop, ↓xRet, ↓xRetN, ↓xNever, ↓xIfS, ↓xPut0, ↓xPutS, ↓xSet, ↓xAug, ↓xAsg, ↓xUn2, ↓xUn1, ↓xPar, ↓xNm, ↓xNl, ↓xCn, ↓xSq, ↓xSqL, ↓xV0, ↓xVS, ↓xC, ↓xFrz, ↓xFrz1, ↓xOp, ↓xBl, ↓xB, ↓xChain, ↓xAnd, ↓xOr, ↓xNot, ↓xAndV, ↓xOrV, ↓xNotV, ↓xIf, ↓xNil, ↓xCons, ↓xTup, ↓xLst, ↓xLstO, ↓xOpt, ↓xAddI, ↓xAddT, ↓xAddL, ↓xSub, ↓xIAdd, ↓xFdiv, ↓xMod, ↓xPow, ↓xMul, ↓xLt, ↓xLe, ↓xGt, ↓xGe, ↓xEqI, ↓xNeI, ↓xEqB, ↓xNeB, ↓xIsBB, ↓xIsNN, ↓xIsTN, ↓xIsLN, ↓xIsIN, ↓xIsSN, ↓xIsRN, ↓xNoBB, ↓xNoNN, ↓xNoTN, ↓xNoLN, ↓xNoIN, ↓xNoSN, ↓xNoRN, ↓xInT, ↓xIx, ↓xIxT, ↓xIxL, ↓at0, ↓at1, ↓at2, ↓at3, ↓at4, ↓at5, ↓xSl, ↓xNo, ↓xInt, ↓xPart, ↓xCutT, ↓xCutL, ↓xCB, ↓xLenT, ↓xLenL, ↓xIntI, ↓xTupT, ↓xTupL, ↓xLstT, ↓xLstL, ↓xIsiT, ↓xIsiI, ↓xIsiB, ↓xIsiS, ↓xMax2, ↓xMin2, ↓xSum, ↓xAll, ↓xApp, ↓xFld, ↓xFldS, ↓xGFd, ↓xCall, ↓xMeth, ↓xProp, ↓xNeg, ↓xNegI, ↓suIx0, ↓suIx1, ↓suIx2, ↓suIx3, ↓rwIx0, ↓rwIx1, ↓rwIx2, ↓rwIx3, ↓rwIx4, ↓rwIx5, ↓rwNo, ↓ddG, ↓ddS, ↓ddP, ↓ddGo, ↓liN, ↓liNe, ↓xFldX, ↓xFldWX, ↓xAppAX, ↓xAppBX, ↓xPop, ↓xPopK, ↓xLast, ↓xMthX, ↓xPrpX, ↓insU, ↓insN, ↓lsU, ↓lsN, ↓lk0, ↓lk1, ↓lk2, ↓lk3, ↓lk4, ↓lk5, ↓lk6, if_true, if_false, Bool.false_eq_true, Bool.true_eq_false, reduceIte, Bool.not_true, Bool.not_false, decide_eq_true_eq, Bool.not_eq_true', decide_eq_false_iff_not, not_true_eq_false, not_false_eq_true, and_true, true_and, true_implies, List.length_cons, List.length_nil, Nat.zero_le, decide_true, decide_false, decide_not, fl_len, pt2, pt3, pt4, pt5, pt6, ↓stIx0, ↓stIx1, ↓eqRB, Step.isB, Step.arg, ↓ins_at h.ins, lkm.2.1]
    exact ⟨a, p, q, e, s, r, rfl, h, o, ox, fun M' h' k => fin (hq M' h' k)⟩
end DL

/-! Several lifts and lists at once. -/
namespace DL
open PySem PySem.Spec PyProof.Rows L2
structure LA where
  a : Addr
  p : Addr
  q : Addr
  e : Addr
inductive Ob where
  | ls (p : Addr) (xs : List D)
  | lf (g : LA) (s : LS)
def Ob.adr : Ob → List Addr
  | .ls p _ => [p]
  | .lf g _ => [g.a, g.p, g.q, g.e]
def Ob.at (C : Addr) (M : Mp) : Ob → Prop
  | .ls p xs => M p = some (.lst xs)
  | .lf g s => LiftAt C M g.a g.p g.q g.e s
theorem Ob.some {C : Addr} {M : Mp} {o : Ob} (h : o.at C M) : ∀ x ∈ o.adr, ∃ y, M x = some y := by
  cases o with
  | ls p xs => intro x hx; rw [List.mem_singleton.mp hx]; exact ⟨_, h⟩
  | lf g s =>
    intro x hx
    simp only [Ob.adr, List.mem_cons, List.not_mem_nil, or_false] at hx
    have h : LiftAt C M g.a g.p g.q g.e s := h
    rcases hx with rfl | rfl | rfl | rfl
    · exact ⟨_, h.ins⟩
    · exact ⟨_, h.don⟩
    · exact ⟨_, h.gon⟩
    · exact ⟨_, h.ear⟩
theorem Ob.keep {C : Addr} {M M' : Mp} {o : Ob} {xs : List Addr} (h : o.at C M) (k : Keeps M M' xs) (n : ∀ x ∈ o.adr, x ∉ xs) : o.at C M' := by
  cases o with
  | ls p ys => exact k _ _ h (n _ (List.mem_singleton.mpr rfl))
  | lf g s => exact LiftAt.keep h k ⟨n _ (by simp [Ob.adr]), n _ (by simp [Ob.adr]), n _ (by simp [Ob.adr]), n _ (by simp [Ob.adr])⟩
structure Wd (C : Addr) (M : Mp) (os : List Ob) : Prop where
  at' : ∀ o ∈ os, o.at C M
  dis : os.Pairwise fun o o' => ∀ x ∈ o.adr, x ∉ o'.adr
theorem Wd.nil {C : Addr} {M : Mp} : Wd C M [] := ⟨fun _ h => absurd h List.not_mem_nil, List.Pairwise.nil⟩
theorem Wd.get {C : Addr} {M : Mp} {os : List Ob} (w : Wd C M os) (i : Nat) {o : Ob} (h : os[i]? = some o) : o.at C M := w.at' o (List.mem_of_getElem? h)
theorem Wd.lift {C : Addr} {M : Mp} {os : List Ob} (w : Wd C M os) (i : Nat) {g : LA} {s : LS} (h : os[i]? = some (.lf g s)) : LiftAt C M g.a g.p g.q g.e s := w.get i h
theorem Wd.lst {C : Addr} {M : Mp} {os : List Ob} (w : Wd C M os) (i : Nat) {p : Addr} {s : List D} (h : os[i]? = some (.ls p s)) : M p = some (.lst s) := w.get i h
theorem Wd.put {C : Addr} {M M' : Mp} (l : List Ob) {o o' : Ob} {r : List Ob} (w : Wd C M (l ++ o :: r)) (k : Keeps M M' o.adr) (h : o'.at C M') (e : o'.adr = o.adr) : Wd C M' (l ++ o' :: r) := by
  obtain ⟨h1, h2⟩ := w
  rw [List.pairwise_append, List.pairwise_cons] at h2
  obtain ⟨d1, ⟨d2, d3⟩, d4⟩ := h2
  refine ⟨fun x hx => ?_, ?_⟩
  · rcases List.mem_append.mp hx with hx | hx
    · exact Ob.keep (h1 x (List.mem_append_left _ hx)) k (d4 x hx o (List.mem_cons_self ..))
    · rcases List.mem_cons.mp hx with rfl | hx
      · exact h
      · exact Ob.keep (h1 x (List.mem_append_right _ (List.mem_cons_of_mem _ hx))) k fun y hy hn => d2 x hx y hn hy
  · rw [List.pairwise_append, List.pairwise_cons]
    refine ⟨d1, ⟨fun x hx => by rw [e]; exact d2 x hx, d3⟩, fun x hx y hy => ?_⟩
    rcases List.mem_cons.mp hy with rfl | hy
    · rw [e]; exact d4 x hx o (List.mem_cons_self ..)
    · exact d4 x hx y (List.mem_cons_of_mem _ hy)
theorem Wd.new {C : Addr} {M M' : Mp} {os : List Ob} {o : Ob} (w : Wd C M os) (k : Keeps M M' []) (h : o.at C M') (f : ∀ x ∈ o.adr, M x = none) : Wd C M' (o :: os) := by
  refine ⟨fun x hx => ?_, List.pairwise_cons.mpr ⟨fun x hx y hy hn => ?_, w.dis⟩⟩
  · rcases List.mem_cons.mp hx with rfl | hx
    · exact h
    · exact Ob.keep (w.at' x hx) k fun _ _ => List.not_mem_nil
  · obtain ⟨z, hz⟩ := Ob.some (w.at' x hx) y hn
    rw [f y hy] at hz; cases hz
theorem Wd.sub {C : Addr} {M : Mp} {os os' : List Ob} (w : Wd C M os) (h : os'.Sublist os) : Wd C M os' := ⟨fun o ho => w.at' o (h.subset ho), w.dis.sublist h⟩
theorem Wd.drop {C : Addr} {M : Mp} (l : List Ob) {o : Ob} {r : List Ob} (w : Wd C M (l ++ o :: r)) : Wd C M (l ++ r) := w.sub (List.Sublist.append_left (List.sublist_cons_self ..) l)
theorem Wd.perm {C : Addr} {M : Mp} {os os' : List Ob} (w : Wd C M os) (h : os.Perm os') : Wd C M os' :=
  ⟨fun o ho => w.at' o (h.mem_iff.mpr ho), (h.pairwise_iff (fun hd x hx hn => hd x hn hx)).mp w.dis⟩
/-! a lift through many steps -/
def LS.acts (s : LS) (xs : List Step) : LS := xs.foldl LS.act s
theorem acts_snoc (s : LS) (xs : List Step) (x : Step) : s.acts (xs ++ [x]) = (s.acts xs).act x := by unfold LS.acts; rw [List.foldl_append]; rfl
theorem act_su (s : LS) (x : Step) : (s.act x).su = s.su := by cases x <;> rfl
theorem act_first (s : LS) (x : Step) : (s.act x).first = s.first := by cases x <;> rfl
theorem act_done (s : LS) (x : Step) : (s.act x).done = s.done ++ [x] := by cases x <;> rfl
structure OkN (s : LS) (n : Nat) : Prop where
  su : s.su.ok
  first : Rok s.first
  present : Rok s.present
  here : s.here.ok s.su
  done : s.done.length ≤ n
  gone : s.gone.length ≤ n
  earlier : s.earlier.length ≤ n
theorem OkN.ok {s : LS} {n : Nat} (h : OkN s n) (hn : n ≤ 5000) : s.ok := ⟨h.su, h.first, h.present, h.here, Nat.le_trans h.done hn, Nat.le_trans h.gone hn, Nat.le_trans h.earlier hn⟩
theorem OkN.mono {s : LS} {n m : Nat} (h : OkN s n) (hn : n ≤ m) : OkN s m := ⟨h.su, h.first, h.present, h.here, Nat.le_trans h.done hn, Nat.le_trans h.gone hn, Nat.le_trans h.earlier hn⟩
theorem OkN.act {s : LS} {n : Nat} {x : Step} (h : OkN s n) (hx : x.ok s.su) : OkN (s.act x) (n + 1) := by
  have h1 := h.done
  have h2 := h.gone
  have h3 := h.earlier
  cases x with
  | beat c => exact ⟨h.su, h.first, h.present, after_ok h.su h.here, by simp [LS.act]; exact h1, by simp [LS.act]; exact h2, by simp [LS.act]; exact h3⟩
  | rule r => exact ⟨h.su, h.first, hx, h.here, by simp [LS.act]; exact h1, by simp [LS.act]; omega, by simp [LS.act]; exact h3⟩
theorem OkN.init {su : Su} {r : List Rw} (h : su.ok) (hr : Rok r) : OkN (LS.init su r) 0 :=
  ⟨h, hr, hr, ⟨Int.le_refl 0, by show (0 : Int) < su.seats.length; have := h.a1; omega, Nat.zero_le _⟩, Nat.le_refl _, Nat.le_refl _, Nat.le_refl _⟩
theorem acts_su (s : LS) : ∀ xs : List Step, (s.acts xs).su = s.su
  | [] => rfl
  | x :: xs => (acts_su (s.act x) xs).trans (act_su s x)
theorem acts_first (s : LS) : ∀ xs : List Step, (s.acts xs).first = s.first
  | [] => rfl
  | x :: xs => (acts_first (s.act x) xs).trans (act_first s x)
theorem acts_done : ∀ (xs : List Step) (s : LS), (s.acts xs).done = s.done ++ xs
  | [], s => (List.append_nil _).symm
  | x :: xs, s => by
    show ((s.act x).acts xs).done = _
    rw [acts_done xs, act_done, List.append_assoc]; rfl
theorem acts_okN : ∀ (xs : List Step) (s : LS) (n : Nat), OkN s n → (∀ x ∈ xs, x.ok s.su) → OkN (s.acts xs) (n + xs.length)
  | [], s, n, h, _ => h
  | x :: xs, s, n, h, hx => by
    have := acts_okN xs (s.act x) (n + 1) (h.act (hx x (List.mem_cons_self ..))) fun y hy => by rw [act_su]; exact hx y (List.mem_cons_of_mem _ hy)
    refine this.mono ?_
    rw [List.length_cons]; omega
/-! alike -/
section
variable {C a p q e a' p' q' e' : Addr} {M : Mp} {s t : LS} {Q : DK} {dx : DX}
theorem x_state (h : LiftAt C M a p q e s) : S_state C [.ref a] M Q dx = Q s.here.d M := (x_lift0 h).trans (true_and_eq trivial)
theorem x_prule (h : LiftAt C M a p q e s) : S_rule C [.ref a] M Q dx = Q (rl s.present) M := (x_lift0 h).trans (true_and_eq trivial)
theorem x_chairs (h : LiftAt C M a p q e s) : S_chairs C [.ref a] M Q dx = Q (.lst (s.gone.map Ch.d)) M := (x_lift0 h).trans (true_and_eq trivial)
theorem x_waiting (h : LiftAt C M a p q e s) : S_waiting C [.ref a] M Q dx = Q (.tup [.int s.here.line.length, .int s.here.singles]) M := (x_lift0 h).trans (true_and_eq trivial)
theorem x_row (h : LiftAt C M a p q e s) (o : s.ok) : S_row C [.ref a] M Q dx = Q (.lst ((s.done.filterMap Step.cm).map Cm.d)) M := (x_lift0 h).trans (true_and_eq o)
theorem x_lost (h : LiftAt C M a p q e s) (o : s.ok) : S_lost C [.ref a] M Q dx = Q (.int (s.gone.map Ch.lost).sum) M := (x_lift0 h).trans (true_and_eq o)
theorem eq_same {x : D} (h : D.ok 60 x = true) : dEq x x M Q = Q (.bl true) M := by
  have e : rs M x = x := by cases x <;> first | rfl | cases h
  have c : cmpOk M x x := by
    unfold cmpOk
    split
    · trivial
    · rw [e]; exact ⟨h, h⟩
  show (cmpOk M x x ∧ Q (.bl (decide (rs M x = rs M x))) M) = _
  rw [true_and_eq c, decide_eq_true rfl]
theorem ne_same {x : D} (h : D.ok 60 x = true) : dNe x x M Q = Q (.bl false) M := by
  have e : rs M x = x := by cases x <;> first | rfl | cases h
  have c : cmpOk M x x := by
    unfold cmpOk
    split
    · trivial
    · rw [e]; exact ⟨h, h⟩
  show (cmpOk M x x ∧ Q (.bl (!decide (rs M x = rs M x))) M) = _
  rw [true_and_eq c, decide_eq_true rfl]; rfl
end
def S_alike (C : Addr) : DSp := fun ds M Q _ => ∃ a p q e a' p' q' e' s, ds = [.ref a, .ref a'] ∧ LiftAt C M a p q e s ∧ LiftAt C M a' p' q' e' s ∧ s.ok ∧ Q (.bl true) M
theorem keeps_made {M M' : Mp} {a : Addr} {o : MO} (ha : M a = none) (k : Keeps (upm M a o) M' [a]) : Keeps M M' [] := fun x y hx _ => by
  have n := (ne_of hx ha).2
  exact k x y (by rw [upm_ne n]; exact hx) (by simpa using n)
theorem Wd.copy {C a p q e : Addr} {M M' : Mp} {os : List Ob} {s : LS} (w : Wd C M os) (h : LiftAt C M' a p q e s) (ha : M a = none) (hp : M p = none) (hq : M q = none) (he : M e = none) (k : Keeps M M' []) : Wd C M' (.lf ⟨a, p, q, e⟩ s :: os) :=
  w.new k h fun x hx => by
    simp only [Ob.adr, List.mem_cons, List.not_mem_nil, or_false] at hx
    rcases hx with rfl | rfl | rfl | rfl <;> assumption
theorem Wd.made {C a p q e : Addr} {M M' : Mp} {os : List Ob} {s : LS} {o : MO} (w : Wd C M os) (ha : M a = none) (h : LiftAt C M' a p q e s) (hp : upm M a o p = none) (hq : upm M a o q = none) (he : upm M a o e = none) (k : Keeps (upm M a o) M' [a]) : Wd C M' (.lf ⟨a, p, q, e⟩ s :: os) :=
  w.copy h ha (up_none hp).2 (up_none hq).2 (up_none he).2 (keeps_made ha k)
theorem Wd.list {C p : Addr} {M : Mp} {os : List Ob} {xs : List D} (w : Wd C M os) (hp : M p = none) : Wd C (upm M p (.lst xs)) (.ls p xs :: os) :=
  w.new (Keeps.refl.up (.inr hp)) upm_same fun x hx => by rw [List.mem_singleton.mp hx]; exact hp
theorem Wd.push {C p : Addr} {M : Mp} (l : List Ob) {r : List Ob} {xs ys : List D} (w : Wd C M (l ++ .ls p xs :: r)) : Wd C (upm M p (.lst ys)) (l ++ .ls p ys :: r) :=
  w.put l (Keeps.refl.up (.inl (List.mem_singleton.mpr rfl))) upm_same rfl
theorem Wd.act {C a p q e : Addr} {M M' : Mp} (l : List Ob) {r : List Ob} {s t : LS} (w : Wd C M (l ++ .lf ⟨a, p, q, e⟩ s :: r)) (h : LiftAt C M' a p q e t) (k : Keeps M M' [a, p, q, e]) : Wd C M' (l ++ .lf ⟨a, p, q, e⟩ t :: r) :=
  w.put l k h rfl
theorem x_alike {C a p q e a' p' q' e' : Addr} {M : Mp} {s : LS} {Q : DK} {dx : DX} (h : LiftAt C M a p q e s) (k : LiftAt C M a' p' q' e' s) (o : s.ok) : S_alike C [.ref a, .ref a'] M Q dx = Q (.bl true) M :=
  propext ⟨fun ⟨_, _, _, _, _, _, _, _, _, e, _, _, _, q⟩ => by cases e; exact q, fun q => ⟨_, _, _, _, _, _, _, _, _, rfl, h, k, o, q⟩⟩
theorem ixLs {M : Mp} {Q : DK} {p : Addr} {xs : List D} {i : Int} (h : M p = some (.lst xs)) : dIxV (.ref p) (.int i) M Q = optK (atI xs i) fun z => Q z M := by
  have e : sv M (.ref p) = some xs := by show lvO (M p) = _; rw [h]; rfl
  refine propext ⟨fun ⟨z, e1, _, q⟩ => ⟨z, ?_, q⟩, fun ⟨z, e1, q⟩ => ⟨z, ?_, trivial, q⟩⟩
  · have e1 : (sv M (.ref p)).bind (fun xs => atI xs i) = some z := e1
    rw [e] at e1; exact e1
  · show (sv M (.ref p)).bind (fun xs => atI xs i) = some z
    rw [e]; exact e1
/-- the answers of the first k steps -/
def LS.ans (s : LS) (xs : List Step) (k : Nat) : List D := (List.range k).map fun i => match xs[i]? with
  | some x => (s.acts (xs.take i)).answer x
  | none => .non
theorem ans_succ {s : LS} {xs : List Step} {k : Nat} {x : Step} (h : xs[k]? = some x) : s.ans xs (k + 1) = s.ans xs k ++ [(s.acts (xs.take k)).answer x] := by
  unfold LS.ans
  rw [List.range_succ, List.map_append]
  simp only [List.map_cons, List.map_nil, h]
theorem ans_at {s : LS} {xs : List Step} {k n : Nat} {x : Step} (h : xs[k]? = some x) (hk : k < n) : (s.ans xs n)[k]? = some ((s.acts (xs.take k)).answer x) := by
  unfold LS.ans
  rw [List.getElem?_map, List.getElem?_range hk]
  simp only [Option.map_some, h]
theorem ans_len {s : LS} {xs : List Step} {k : Nat} : (s.ans xs k).length = k := by unfold LS.ans; simp
theorem acts_take {s : LS} {xs : List Step} {k : Nat} {x : Step} (h : xs[k]? = some x) : s.acts (xs.take (k + 1)) = (s.acts (xs.take k)).act x := by
  rw [List.take_succ, h]; exact acts_snoc _ _ _
theorem ok_answer (s : LS) (x : Step) : D.ok 60 (s.answer x) = true := by
  cases x with
  | beat c => exact ok_ch _
  | rule r => rfl
theorem cut_nx {t : DS} {U bk ct : Rh → Mp → Prop} {rt : DK} {ρ : Rh} {M : Mp} (Mid : Rh → Mp → Prop) (h : ∀ K : Rh → Mp → Prop, (∀ ρ M, Mid ρ M → K ρ M) → t ⟨K, rt, bk, ct⟩ ρ M) (hm : ∀ ρ M, Mid ρ M → U ρ M) : t ⟨U, rt, bk, ct⟩ ρ M := h U hm
theorem eqB_same (s : LS) : eqB s s = true := @decide_eq_true _ (Classical.propDecidable _) rfl
theorem eqB_ne {s t : LS} (h : s.done ≠ t.done) : eqB s t = false := @decide_eq_false _ (Classical.propDecidable _) h
theorem lastAt {n : Nat} : ixN (n + 1) (-1) = some n := by
  unfold ixN
  rw [if_neg (by decide), if_pos (by omega)]
  congr 1
  omega
theorem set_last {α : Type} (l : List α) (x y : α) : (l ++ [x]).set l.length y = l ++ [y] := by
  rw [List.set_append_right _ _ (Nat.le_refl _), Nat.sub_self]; rfl

def gixK (o i y : D) (M : Mp) (R : Mp → Prop) : Prop := ∃ p xs k j, o = .ref p ∧ i = .int k ∧ M p = some (.lst xs) ∧ ixN xs.length k = some j ∧ R (upm M p (.lst (xs.set j y)))
theorem xGIx {d di : DT} {y : D} {ρ : Rh} {M : Mp} {R : Rh → Mp → Prop} : gIx d di y ρ M R = d ρ M fun o M1 => di ρ M1 fun i M2 => gixK o i y M2 fun M3 => R ρ M3 := rfl
theorem gixL {M : Mp} {p : Addr} {zs : List D} {y0 y : D} {R : Mp → Prop} (h : M p = some (.lst (zs ++ [y0]))) : gixK (.ref p) (.int (-1)) y M R = R (upm M p (.lst (zs ++ [y]))) := by
  have e0 : ixN (zs ++ [y0]).length (-1) = some zs.length := by rw [List.length_append]; exact lastAt
  refine propext ⟨fun ⟨_, xs, k, j, e1, e2, e3, e4, q⟩ => ?_, fun q => ⟨p, _, _, _, rfl, rfl, h, e0, by rw [set_last]; exact q⟩⟩
  cases e1; cases e2
  rw [h] at e3
  cases e3
  rw [e0] at e4
  cases e4
  rw [set_last] at q; exact q
end DL

/-! The end: defs with defaults, the law's own head. -/
namespace DL
open PySem PySem.Spec PyProof.Rows L2
theorem fnDD {P : Program} {w : World} {K : PySem.W.Frag} {mg : Str → Option Value} {base : Heap} {x qual : Str} {st : Stmt} {dvs : List V} {kws : List (Str × V)} {f : Addr} {fd : FuncData} {N ps : List Str} {k : Nat} {S : DSp}
    (F : FunD K x qual (defArgs st) (defBody st) (defScope st) dvs kws f fd) (sc : FnScope N ps (defScope st)) (len : ∀ ds M DQ dx, S ds M DQ dx → ds.length = ps.length) (d : DS)
    (hd : ∀ (cdv : Value) (A : Around) (outer : List Env) (s : Shared) (H : Hp) (E : XK), Room k (A.deeper (envOfC qual (defScope st) s.heap.objs.size f cdv)) → DSs (cxOf CX0 P w K mg base N qual (defScope st) f cdv A outer s H E).nox G0 (defBody st) d)
    (hb : ∀ ds M DQ dx, S ds M DQ dx → d (endD DQ) (startD N ds) M) : FnOk P w K mg base CX0 (k + 1) f fd ps (spD ⟨P, w, K⟩ S) := by
  refine F.ok (CX := CX0) sc (fun vs H Q E ⟨ds, M, DQ, dx, r, g, h, _, _⟩ => by rw [g.length]; exact len _ _ _ _ h) fun cdv A outer s H vs Q E hr ⟨ds, M, DQ, dx, r, g, h, p, px⟩ => ?_
  exact ⟨_, (hd cdv A outer s H E hr).nox, startD N ds, M, endD DQ, start_sr r g (fun _ _ _ _ _ _ z => z.elim), hb _ _ _ _ h, endD_sound p⟩
theorem dv_ints {R : Rx} {M : Mp} {H : Hp} : ∀ l : List Int, DvAll R M H (l.map V.int) (l.map D.int)
  | [] => .nil
  | x :: l => .cons (.int x) (dv_ints l)
theorem law_walk {l : PySem.W.OpenLaw} {k : Nat} {q : Program} {loose : List Str} {XP : (Str → Option Value) → Heap → Prop} {YP : World → Heap → Prop} {d : DefRec} {K : Params → PySem.W.Frag} {S : PySem.W.Frag → DSp} (hn : l.most = some 63) (hdf : d.params.defaults = []) (hr : Room k callerA)
    (hY : ∀ (w : World) (h : Heap), YP w h → (K w.params).In h)
    (F : ∀ (w : World) (mg : Str → Option Value) (fa : Addr) (h : Heap), (K w.params).In h → h.Ns mainGlobals mg → mg d.name = some (.ref fa) →
      ∃ fd : FuncData, (∀ (s : Shared) (u : Value), BindsTo s fd ⟨[u], []⟩ [("script", u)]) ∧ ∀ base : Heap, (K w.params).In base → base.Ns mainGlobals mg → FnOk l.prog w (K w.params) mg base CX0 k fa fd ["script"] (spD ⟨l.prog, w, K w.params⟩ (S (K w.params))))
    (hS : ∀ (K : PySem.W.Frag) (x : D) (l : List Int) (M : Mp), lv M x = some (l.map D.int) → l.length ≤ 63 → S K [x] M (fun v _ => v = .bl true) fun _ _ => False) :
    PySem.W.WalkO q loose XP YP l.row.toRowW d [] (fun f vs => PySem.call f vs) := by
  refine L2.walk_of (n := 63) (k := k) (x := "script") (CX := fun _ => CX0) (sp := fun w => spD ⟨l.prog, w, K w.params⟩ (S (K w.params))) hn (by decide) hdf hr hY F (fun w H a ns hl hO hs => ?_) fun _ _ _ _ _ z => z
  have post : ∀ {R : Rx} {M : Mp} {H : Hp}, Post R M H (fun v _ => v = .bl true) (fun v _ => v = .bl true) := fun {R M H} x M' v H' f r g e => by
    subst e; cases g; rfl
  rcases hs with h | ⟨o, its, n, h1, h2, h3, h4, h5, h6⟩
  · refine ⟨[.ref a], fun b => if b = a then some (.fro (ns.map D.int)) else none, _, fun _ _ => False, fun b o e => ?_, .cons (.ref a) .nil, hS _ (.ref a) ns _ ?_ hl, post, fun _ _ _ _ _ _ z => z.elim⟩
    · by_cases hb : b = a
      · subst hb
        have e : (if b = b then some (MO.fro (ns.map D.int)) else none) = some o := e
        rw [if_pos rfl] at e
        cases e
        exact ⟨_, h, dv_ints ns⟩
      · have e : (if b = a then some (MO.fro (ns.map D.int)) else none) = some o := e
        rw [if_neg hb] at e; cases e
    · show lvO (if a = a then _ else none) = _
      rw [if_pos rfl]; rfl
  · exact ⟨[.lsk (ns.map D.int)], fun _ => none, _, fun _ _ => False, fun b o e => (by cases e), .cons (.lsk h1 h2 h3 h4 h5 h6 (dv_ints ns)) .nil, hS _ _ ns _ rfl hl, post, fun _ _ _ _ _ _ z => z.elim⟩
theorem kit_same {K : PySem.W.Frag} {C : Addr} : PySem.W.kitOne K (.ref C) (.ref C) = some true := by
  unfold PySem.W.kitOne
  rw [if_pos (beq_self_eq_true _)]
theorem kit_of {K : PySem.W.Frag} {t : Value} {C : Addr} {cx : PySem.ClassData} {b : Bool} (h0 : (t == .ref C) = false) (h1 : PySem.W.clsIn K C = some cx) (h2 : PySem.W.typeIn K (.ref C) = some (.type "type")) (h3 : PySem.W.subIn K t (.ref C) = some b) : PySem.W.kitOne K t (.ref C) = some b := by
  unfold PySem.W.kitOne PySem.W.kitCls
  rw [h0, if_neg Bool.false_ne_true]
  simp only [h1, h2, h3]
  exact if_pos (by rw [show (some (Value.type "type") == some (Value.type "type")) = true from beq_self_eq_true _]; rfl)
end DL

/-! The laws' own beat over data (printed by gen.py). -/
namespace DL
open PySem PySem.Spec PyProof.Rows L2
def d__law_fits : DS :=
  (dSeq (dFor (dIsq (dLst (dCons (dTup (dCons (dVar 1) (dCons (dTup (dCons (dIx (dVar 0) (dC (.int 0))) (dCons (dIx (dVar 0) (dC (.int 0))) dNil))) dNil))) (dCons (dTup (dCons (dVar 2) (dCons (dIx (dVar 0) (dC (.int 1))) dNil))) (dCons (dTup (dCons (dVar 3) (dCons (dIx (dVar 0) (dC (.int 2))) dNil))) (dCons (dTup (dCons (dVar 4) (dCons (dIx (dVar 0) (dC (.int 3))) dNil))) dNil)))))) (gSq 2 (gCn (gNm 5) (gCn (gNm 6) gNl))) (dIfS (dOr (dB (dOp dLt (dVar 5) (dIx (dVar 6) (dC (.int 0))))) (dB (dOp dGt (dVar 5) (dIx (dVar 6) (dC (.int 1)))))) (dRet (dC (.bl false))) dNext))
    (dSeq (dIfS (dB (dOp dEq (dIx (dVar 0) (dC (.int 4))) (dC (.str "group")))) (dRet (dAndV (dOp dLt (dC (.int 0)) (dVar 2)) (dOp dLe (dVar 2) (dVar 3)))) dNext)
    (dSeq (dIfS (dB (dOp dEq (dIx (dVar 0) (dC (.int 4))) (dC (.str "single")))) (dRet (dAndV (dOp dGt (dVar 4) (dC (.int 0))) (dOp dGt (dVar 3) (dC (.int 0))))) dNext)
    (dRet (dOrV (dOp dEq (dIx (dVar 0) (dC (.int 4))) (dC (.str "go"))) (dAndV (dOp dGt (dVar 2) (dVar 3)) (dOp dGt (dVar 3) (dC (.int 0)))))))))
def d__law_beat (S__law_fits : DSp) : DS :=
  (dSeq (dAsg (dVar 2) (gSq 4 (gCn (gNm 4) (gCn (gNm 5) (gCn (gNm 6) (gCn (gNm 7) gNl))))))
    (dSeq (dSet 8 (dOp dSub (dIx (dIx (dVar 0) (dC (.int 2))) (dC (.int 0))) (dCB (d1 lenV) (dCons (dVar 5) dNil))))
    (dSeq (dSet 5 (dOp dAdd (dVar 5) (dSl (dIx (dVar 3) (dC (.int 0))) dNo (dPart (dVar 8)))))
    (dSeq (dSet 9 (dTup (dCons (dCB dMax2 (dCons (dC (.int 0)) (dCons (dOp dSub (dCB (d1 lenV) (dCons (dIx (dVar 3) (dC (.int 0))) dNil)) (dVar 8)) dNil))) (dCons (dCB dMax2 (dCons (dC (.int 0)) (dCons (dOp dSub (dOp dAdd (dVar 6) (dIx (dVar 3) (dC (.int 1)))) (dIx (dIx (dVar 0) (dC (.int 2))) (dC (.int 1)))) dNil))) dNil))))
    (dSeq (dSet 6 (dCB dMin2 (dCons (dIx (dIx (dVar 0) (dC (.int 2))) (dC (.int 1))) (dCons (dOp dAdd (dVar 6) (dIx (dVar 3) (dC (.int 1)))) dNil))))
    (dSeq (dSet 10 (dIx (dIx (dVar 0) (dC (.int 0))) (dVar 4)))
    (dSeq (dSet 11 (dLstO dNil))
    (dSeq (dFor (dIr1 (dCons (dC (.int 7)) dNil)) (gNm 12) (dSeq (dSet 13 (dIx (dOp dAdd (dVar 5) (dTup (dCons (dC (.int 0)) dNil))) (dC (.int 0))))
    (dSeq (dSet 14 (dLc (dIsq (dVar 1)) (.one 16) [16] (dB (dCall S__law_fits [] G0.dx (dCons (dVar 16) (dCons (dVar 7) (dCons (dVar 13) (dCons (dVar 10) (dCons (dVar 6) dNil))))))) (dVar 16)))
    (dSeq (dIfS (dB (dOp dEq (dVar 14) (dLst dNil))) dBreak dNext)
    (dSeq (dSet 7 (dIx (dIx (dVar 14) (dC (.int 0))) (dC (.int 5))))
    (dSeq (dIfS (dB (dOp dEq (dIx (dIx (dVar 14) (dC (.int 0))) (dC (.int 4))) (dC (.str "go")))) dBreak dNext)
    (dIfS (dB (dOp dEq (dIx (dIx (dVar 14) (dC (.int 0))) (dC (.int 4))) (dC (.str "group")))) (dSeq (dDrop (dApp (dVar 11) (dCons (dTup (dCons (dC (.str "group")) (dCons (dVar 13) dNil))) dNil)))
    (dSeq (dSet 5 (dSl (dVar 5) (dPart (dC (.int 1))) dNo))
    (dSet 10 (dOp dSub (dVar 10) (dVar 13))))) (dIfS (dB (dOp dEq (dIx (dIx (dVar 14) (dC (.int 0))) (dC (.int 4))) (dC (.str "single")))) (dSeq (dDrop (dApp (dVar 11) (dCons (dTup (dCons (dC (.str "single")) (dCons (dC (.int 1)) dNil))) dNil)))
    (dSeq (dSet 6 (dOp dSub (dVar 6) (dC (.int 1))))
    (dSet 10 (dOp dSub (dVar 10) (dC (.int 1)))))) (dSeq (dDrop (dApp (dVar 11) (dCons (dTup (dCons (dC (.str "part")) (dCons (dVar 10) dNil))) dNil)))
    (dSeq (dSet 5 (dOp dAdd (dTup (dCons (dOp dSub (dVar 13) (dVar 10)) dNil)) (dSl (dVar 5) (dPart (dC (.int 1))) dNo)))
    (dSet 10 (dC (.int 0)))))))))))))
    (dSeq (dSet 15 (dVar 10))
    (dSeq (dIfS (dAnd (dB (dOp dEq (dVar 5) (dTup dNil))) (dB (dOp dEq (dVar 6) (dC (.int 0))))) (dSet 15 (dC (.int 0))) dNext)
    (dRet (dTup (dCons (dTup (dCons (dCB (d1 tupV) (dCons (dVar 11) dNil)) (dCons (dVar 10) (dCons (dVar 15) (dCons (dVar 9) dNil))))) (dCons (dTup (dCons (dOp dMod (dCB (d1 intV) (dCons (dOp dAdd (dVar 4) (dC (.int 1))) dNil)) (dCB (d1 lenV) (dCons (dIx (dVar 0) (dC (.int 0))) dNil))) (dCons (dVar 5) (dCons (dVar 6) (dCons (dVar 7) dNil))))) dNil))))))))))))))
end DL

/-! The laws' own beat is the program's. -/
namespace DL
open PySem PySem.Spec PyProof.Rows L2
theorem ddGoE {d : Dd} {M : Mp} {Q : DK} : dEq (.str d.s) (.str "go") M Q = Q (.bl (decide (d = .go))) M := by
  rw [xEqS, true_and_eq ⟨d.ok, by decide +kernel⟩]
  exact congrArg (fun b => Q (.bl b) M) (dec_eq (Dd.inj (b := .go)))
def S_lfits : DSp := fun ds M Q _ => ∃ (r : Rw) (m f k s : Int), ds = [r.d, .int m, .int f, .int k, .int s] ∧ Q (.bl (fits m f s k r)) M
theorem x_lfits {r : Rw} {m f k s : Int} {M : Mp} {Q : DK} {dx : DX} : S_lfits [r.d, .int m, .int f, .int k, .int s] M Q dx = Q (.bl (fits m f s k r)) M :=
  propext ⟨fun ⟨_, _, _, _, _, e, h⟩ => by simp only [List.cons.injEq, Rw.inj, D.int.injEq, and_true] at e; obtain ⟨rfl, rfl, rfl, rfl, rfl⟩ := e; exact h, fun h => ⟨_, _, _, _, _, rfl, h⟩⟩
def bnd (r : Rw) (m f k s : Int) : List (Int × Int × Int) := [(m, r.mood, r.mood), (f, r.f0, r.f1), (k, r.l0, r.l1), (s, r.w0, r.w1)]
def bndD (p : Int × Int × Int) : D := .tup [.int p.1, .tup [.int p.2.1, .int p.2.2]]
structure FitsI (r : Rw) (m f k s : Int) (M : Mp) (seen : List (Int × Int × Int)) (ρ : Rh) (M' : Mp) : Prop where
  ex : ∃ x y, ρ = [some r.d, some (.int m), some (.int f), some (.int k), some (.int s), x, y]
  mem : M' = M
  all : ∀ p ∈ seen, p.2.1 ≤ p.1 ∧ p.1 ≤ p.2.2
theorem b_lfits {ds M Q dx} (h : S_lfits ds M Q dx) : d__law_fits (endD Q) (startD ["row", "mood", "front", "left", "singles", "value", "bounds"] ds) M := by
  obtain ⟨r, m, f, k, s, rfl, q⟩ := h
  show d__law_fits (endD Q) [some r.d, some (.int m), some (.int f), some (.int k), some (.int s), none, none] M
  unfold d__law_fits
  rw [xSeq]
  have no : (∃ p ∈ bnd r m f k s, ¬ (p.2.1 ≤ p.1 ∧ p.1 ≤ p.2.2)) → ∃ M'', Sub M'' M ∧ Q (.bl false) M'' := fun ⟨p, hp, hn⟩ => ⟨M, Sub.refl, by
    have : fits m f s k r = false := by
      simp only [bnd, List.mem_cons, List.not_mem_nil, or_false] at hp
      unfold fits
      rcases hp with rfl | rfl | rfl | rfl <;> simp only at hn
      · have : ¬ r.mood = m := fun e => hn ⟨by omega, by omega⟩
        simp [this]
      · by_cases h1 : r.f0 ≤ f
        · have : ¬ f ≤ r.f1 := fun e => hn ⟨h1, e⟩
          simp [this]
        · simp [h1]
      · by_cases h1 : r.l0 ≤ k
        · have : ¬ k ≤ r.l1 := fun e => hn ⟨h1, e⟩
          simp [this]
        · simp [h1]
      · by_cases h1 : r.w0 ≤ s
        · have : ¬ s ≤ r.w1 := fun e => hn ⟨h1, e⟩
          simp [this]
        · simp [h1]
    rw [this] at q
    exact q⟩
  refine for_sq bndD (bnd r m f k s) (x := .lst ((bnd r m f k s).map bndD)) (fun Q q => ?_) rfl (FitsI r m f k s M) ⟨⟨none, none, rfl⟩, rfl, by simp⟩ (fun _ _ _ _ => rfl) (fun l p rest ρ M' e ⟨⟨x, y, hρ⟩, hM, ha⟩ => ?_) (fun ρ M' ⟨⟨x, y, hρ⟩, hM, ha⟩ => ?_)
  · simp only [↓xSeq, ↓xNx, ↓xRt, ↓xBk, ↓xCt, ↓xEndNx, ↓xEndRt, ↓xNext, ↓xBreak, ↓xCont, ↓xDrop, ↓xRet, ↓xRetN, ↓xNever, ↓xIfS, ↓xPut0, ↓xPutS, ↓xSet, ↓xAug, ↓xAsg, ↓xUn2, ↓xUn1, ↓xPar, ↓xNm, ↓xNl, ↓xCn, ↓xSq, ↓xSqL, ↓xV0, ↓xVS, ↓xC, ↓xFrz, ↓xFrz1, ↓xOp, ↓xBl, ↓xB, ↓xChain, ↓xAnd, ↓xOr, ↓xNot, ↓xAndV, ↓xOrV, ↓xNotV, ↓xIf, ↓xNil, ↓xCons, ↓xTup, ↓xLst, ↓xLstO, ↓xOpt, ↓xAddI, ↓xAddT, ↓xAddL, ↓xSub, ↓xIAdd, ↓xFdiv, ↓xMod, ↓xPow, ↓xMul, ↓xLt, ↓xLe, ↓xGt, ↓xGe, ↓xEqI, ↓xNeI, ↓xEqB, ↓xNeB, ↓xIsBB, ↓xIsNN, ↓xIsTN, ↓xIsLN, ↓xIsIN, ↓xIsSN, ↓xIsRN, ↓xNoBB, ↓xNoNN, ↓xNoTN, ↓xNoLN, ↓xNoIN, ↓xNoSN, ↓xNoRN, ↓xInT, ↓xIx, ↓xIxT, ↓xIxL, ↓at0, ↓at1, ↓at2, ↓at3, ↓at4, ↓at5, ↓xSl, ↓xNo, ↓xInt, ↓xPart, ↓xCutT, ↓xCutL, ↓xCB, ↓xLenT, ↓xLenL, ↓xIntI, ↓xTupT, ↓xTupL, ↓xLstT, ↓xLstL, ↓xIsiT, ↓xIsiI, ↓xIsiB, ↓xIsiS, ↓xMax2, ↓xMin2, ↓xSum, ↓xAll, ↓xApp, ↓xFld, ↓xFldS, ↓xGFd, ↓xCall, ↓xMeth, ↓xProp, ↓xNeg, ↓xNegI, ↓suIx0, ↓suIx1, ↓suIx2, ↓suIx3, ↓rwIx0, ↓rwIx1, ↓rwIx2, ↓rwIx3, ↓rwIx4, ↓rwIx5, ↓rwNo, ↓ddG, ↓ddS, ↓ddP, ↓ddGo, ↓liN, ↓liNe, if_true, if_false, Bool.false_eq_true, Bool.true_eq_false, reduceIte, Bool.not_true, Bool.not_false, decide_eq_true_eq, Bool.not_eq_true', decide_eq_false_iff_not, not_true_eq_false, not_false_eq_true, and_true, true_and, true_implies, List.length_cons, List.length_nil, Nat.zero_le, decide_true, decide_false, decide_not, le2, le3]
    exact q
  · subst hρ hM
    have hp : p ∈ bnd r m f k s := by rw [e]; simp
    unfold bndD
    simp only [↓xSeq, ↓xNx, ↓xRt, ↓xBk, ↓xCt, ↓xEndNx, ↓xEndRt, ↓xNext, ↓xBreak, ↓xCont, ↓xDrop, ↓xRet, ↓xRetN, ↓xNever, ↓xIfS, ↓xPut0, ↓xPutS, ↓xSet, ↓xAug, ↓xAsg, ↓xUn2, ↓xUn1, ↓xPar, ↓xNm, ↓xNl, ↓xCn, ↓xSq, ↓xSqL, ↓xV0, ↓xVS, ↓xC, ↓xFrz, ↓xFrz1, ↓xOp, ↓xBl, ↓xB, ↓xChain, ↓xAnd, ↓xOr, ↓xNot, ↓xAndV, ↓xOrV, ↓xNotV, ↓xIf, ↓xNil, ↓xCons, ↓xTup, ↓xLst, ↓xLstO, ↓xOpt, ↓xAddI, ↓xAddT, ↓xAddL, ↓xSub, ↓xIAdd, ↓xFdiv, ↓xMod, ↓xPow, ↓xMul, ↓xLt, ↓xLe, ↓xGt, ↓xGe, ↓xEqI, ↓xNeI, ↓xEqB, ↓xNeB, ↓xIsBB, ↓xIsNN, ↓xIsTN, ↓xIsLN, ↓xIsIN, ↓xIsSN, ↓xIsRN, ↓xNoBB, ↓xNoNN, ↓xNoTN, ↓xNoLN, ↓xNoIN, ↓xNoSN, ↓xNoRN, ↓xInT, ↓xIx, ↓xIxT, ↓xIxL, ↓at0, ↓at1, ↓at2, ↓at3, ↓at4, ↓at5, ↓xSl, ↓xNo, ↓xInt, ↓xPart, ↓xCutT, ↓xCutL, ↓xCB, ↓xLenT, ↓xLenL, ↓xIntI, ↓xTupT, ↓xTupL, ↓xLstT, ↓xLstL, ↓xIsiT, ↓xIsiI, ↓xIsiB, ↓xIsiS, ↓xMax2, ↓xMin2, ↓xSum, ↓xAll, ↓xApp, ↓xFld, ↓xFldS, ↓xGFd, ↓xCall, ↓xMeth, ↓xProp, ↓xNeg, ↓xNegI, ↓suIx0, ↓suIx1, ↓suIx2, ↓suIx3, ↓rwIx0, ↓rwIx1, ↓rwIx2, ↓rwIx3, ↓rwIx4, ↓rwIx5, ↓rwNo, ↓ddG, ↓ddS, ↓ddP, ↓ddGo, ↓liN, ↓liNe, if_true, if_false, Bool.false_eq_true, Bool.true_eq_false, reduceIte, Bool.not_true, Bool.not_false, decide_eq_true_eq, Bool.not_eq_true', decide_eq_false_iff_not, not_true_eq_false, not_false_eq_true, and_true, true_and, true_implies, List.length_cons, List.length_nil, Nat.zero_le, decide_true, decide_false, decide_not]
    split
    · rename_i h1
      exact no ⟨p, hp, fun h => absurd h1 (Int.not_lt.mpr h.1)⟩
    · rename_i h1
      split
      · rename_i h2
        exact no ⟨p, hp, fun h => absurd h2 (Int.not_lt.mpr h.2)⟩
      · rename_i h2
        refine ⟨⟨_, _, rfl⟩, rfl, fun q hq => ?_⟩
        rcases List.mem_append.mp hq with h | h
        · exact ha q h
        · rw [List.mem_singleton.mp h]; exact ⟨Int.not_lt.mp h1, Int.not_lt.mp h2⟩
  · subst hρ hM
    have h1 := ha (m, r.mood, r.mood) (by simp [bnd])
    have h2 := ha (f, r.f0, r.f1) (by simp [bnd])
    have h3 := ha (k, r.l0, r.l1) (by simp [bnd])
    have h4 := ha (s, r.w0, r.w1) (by simp [bnd])
    have h5 : r.mood = m := by have := h1.1; have := h1.2; simp only at *; omega
    simp only at h2 h3 h4
    have e : fits m f s k r = can r.deed f k s := by
      unfold fits
      simp [h2.1, h2.2, h3.1, h3.2, h4.1, h4.2, h5]
    rw [e] at q
    have q : ∃ M'', Sub M'' M' ∧ Q (.bl (can r.deed f k s)) M'' := fin q
    simp only [↓xSeq, ↓xNx, ↓xRt, ↓xBk, ↓xCt, ↓xEndNx, ↓xEndRt, ↓xNext, ↓xBreak, ↓xCont, ↓xDrop, ↓xRet, ↓xRetN, ↓xNever, ↓xIfS, ↓xPut0, ↓xPutS, ↓xSet, ↓xAug, ↓xAsg, ↓xUn2, ↓xUn1, ↓xPar, ↓xNm, ↓xNl, ↓xCn, ↓xSq, ↓xSqL, ↓xV0, ↓xVS, ↓xC, ↓xFrz, ↓xFrz1, ↓xOp, ↓xBl, ↓xB, ↓xChain, ↓xAnd, ↓xOr, ↓xNot, ↓xAndV, ↓xOrV, ↓xNotV, ↓xIf, ↓xNil, ↓xCons, ↓xTup, ↓xLst, ↓xLstO, ↓xOpt, ↓xAddI, ↓xAddT, ↓xAddL, ↓xSub, ↓xIAdd, ↓xFdiv, ↓xMod, ↓xPow, ↓xMul, ↓xLt, ↓xLe, ↓xGt, ↓xGe, ↓xEqI, ↓xNeI, ↓xEqB, ↓xNeB, ↓xIsBB, ↓xIsNN, ↓xIsTN, ↓xIsLN, ↓xIsIN, ↓xIsSN, ↓xIsRN, ↓xNoBB, ↓xNoNN, ↓xNoTN, ↓xNoLN, ↓xNoIN, ↓xNoSN, ↓xNoRN, ↓xInT, ↓xIx, ↓xIxT, ↓xIxL, ↓at0, ↓at1, ↓at2, ↓at3, ↓at4, ↓at5, ↓xSl, ↓xNo, ↓xInt, ↓xPart, ↓xCutT, ↓xCutL, ↓xCB, ↓xLenT, ↓xLenL, ↓xIntI, ↓xTupT, ↓xTupL, ↓xLstT, ↓xLstL, ↓xIsiT, ↓xIsiI, ↓xIsiB, ↓xIsiS, ↓xMax2, ↓xMin2, ↓xSum, ↓xAll, ↓xApp, ↓xFld, ↓xFldS, ↓xGFd, ↓xCall, ↓xMeth, ↓xProp, ↓xNeg, ↓xNegI, ↓suIx0, ↓suIx1, ↓suIx2, ↓suIx3, ↓rwIx0, ↓rwIx1, ↓rwIx2, ↓rwIx3, ↓rwIx4, ↓rwIx5, ↓rwNo, ↓ddG, ↓ddS, ↓ddP, ↓ddGo, ↓liN, ↓liNe, if_true, if_false, Bool.false_eq_true, Bool.true_eq_false, reduceIte, Bool.not_true, Bool.not_false, decide_eq_true_eq, Bool.not_eq_true', decide_eq_false_iff_not, not_true_eq_false, not_false_eq_true, and_true, true_and, true_implies, List.length_cons, List.length_nil, Nat.zero_le, decide_true, decide_false, decide_not, ↓ddGoE]
    cases hd : r.deed <;> rw [hd] at q <;> simp only [can] at q <;> simp only [↓xSeq, ↓xNx, ↓xRt, ↓xBk, ↓xCt, ↓xEndNx, ↓xEndRt, ↓xNext, ↓xBreak, ↓xCont, ↓xDrop, ↓xRet, ↓xRetN, ↓xNever, ↓xIfS, ↓xPut0, ↓xPutS, ↓xSet, ↓xAug, ↓xAsg, ↓xUn2, ↓xUn1, ↓xPar, ↓xNm, ↓xNl, ↓xCn, ↓xSq, ↓xSqL, ↓xV0, ↓xVS, ↓xC, ↓xFrz, ↓xFrz1, ↓xOp, ↓xBl, ↓xB, ↓xChain, ↓xAnd, ↓xOr, ↓xNot, ↓xAndV, ↓xOrV, ↓xNotV, ↓xIf, ↓xNil, ↓xCons, ↓xTup, ↓xLst, ↓xLstO, ↓xOpt, ↓xAddI, ↓xAddT, ↓xAddL, ↓xSub, ↓xIAdd, ↓xFdiv, ↓xMod, ↓xPow, ↓xMul, ↓xLt, ↓xLe, ↓xGt, ↓xGe, ↓xEqI, ↓xNeI, ↓xEqB, ↓xNeB, ↓xIsBB, ↓xIsNN, ↓xIsTN, ↓xIsLN, ↓xIsIN, ↓xIsSN, ↓xIsRN, ↓xNoBB, ↓xNoNN, ↓xNoTN, ↓xNoLN, ↓xNoIN, ↓xNoSN, ↓xNoRN, ↓xInT, ↓xIx, ↓xIxT, ↓xIxL, ↓at0, ↓at1, ↓at2, ↓at3, ↓at4, ↓at5, ↓xSl, ↓xNo, ↓xInt, ↓xPart, ↓xCutT, ↓xCutL, ↓xCB, ↓xLenT, ↓xLenL, ↓xIntI, ↓xTupT, ↓xTupL, ↓xLstT, ↓xLstL, ↓xIsiT, ↓xIsiI, ↓xIsiB, ↓xIsiS, ↓xMax2, ↓xMin2, ↓xSum, ↓xAll, ↓xApp, ↓xFld, ↓xFldS, ↓xGFd, ↓xCall, ↓xMeth, ↓xProp, ↓xNeg, ↓xNegI, ↓suIx0, ↓suIx1, ↓suIx2, ↓suIx3, ↓rwIx0, ↓rwIx1, ↓rwIx2, ↓rwIx3, ↓rwIx4, ↓rwIx5, ↓rwNo, ↓ddG, ↓ddS, ↓ddP, ↓ddGo, ↓liN, ↓liNe, if_true, if_false, Bool.false_eq_true, Bool.true_eq_false, reduceIte, Bool.not_true, Bool.not_false, decide_eq_true_eq, Bool.not_eq_true', decide_eq_false_iff_not, not_true_eq_false, not_false_eq_true, and_true, true_and, true_implies, List.length_cons, List.length_nil, Nat.zero_le, decide_true, decide_false, decide_not, reduceCtorEq]
    · split <;> rename_i h <;> simpa [h] using q
    · split <;> rename_i h <;> simpa [h] using q
    · split <;> rename_i h <;> simpa [h] using q
    · exact q
structure Stt.okS (su : Su) (s : Stt) : Prop where
  ok : s.ok su
  ln : (s.line.length : Int) ≤ su.r0
  sg : s.singles ≤ su.r1
  s0 : 0 ≤ s.singles
theorem next_singles {rule : List Rw} {s : FS} {r : Rw} (h : s.fit rule = some r) (hg : r.deed ≠ .go) (h0 : 0 ≤ s.singles) : 0 ≤ (s.next r).singles ∧ (s.next r).singles ≤ s.singles := by
  have hc := fit_can h
  show 0 ≤ (seat r.deed s.line s.singles s.left).singles ∧ (seat r.deed s.line s.singles s.left).singles ≤ _
  cases hd : r.deed with
  | go => exact absurd hd hg
  | single =>
    rw [hd] at hc
    simp only [can, Bool.and_eq_true, decide_eq_true_eq] at hc
    simp only [seat]
    omega
  | _ => exact ⟨h0, Int.le_refl _⟩
theorem fillN_singles (rule : List Rw) : ∀ (n : Nat) (s : FS), 0 ≤ s.singles → 0 ≤ (fillN rule n s).singles ∧ (fillN rule n s).singles ≤ s.singles
  | 0, s, h => by unfold fillN; cases s.fit rule <;> exact ⟨h, Int.le_refl _⟩
  | n + 1, s, h => by
    unfold fillN
    cases hf : s.fit rule with
    | none => exact ⟨h, Int.le_refl _⟩
    | some r =>
      simp only
      split
      · exact ⟨h, Int.le_refl _⟩
      · rename_i hg
        obtain ⟨a, b⟩ := next_singles hf hg h
        obtain ⟨c, d⟩ := fillN_singles rule n _ a
        exact ⟨c, Int.le_trans d b⟩
theorem wait_ok {su : Su} {t : Stt} {c : Cm} (ht : 0 ≤ t.singles ∧ t.singles ≤ su.r1) (hr : 0 ≤ su.r1) (hc : 0 ≤ c.more) : 0 ≤ (letIn su t.line t.singles c).waiting ∧ (letIn su t.line t.singles c).waiting ≤ su.r1 := by
  simp only [letIn]
  omega
theorem beat_singles {su : Su} {rule : List Rw} {t : Stt} {c : Cm} (ht : 0 ≤ t.singles ∧ t.singles ≤ su.r1) (hr : 0 ≤ su.r1) (hc : 0 ≤ c.more) : 0 ≤ (beatF su rule t c).singles ∧ (beatF su rule t c).singles ≤ su.r1 := by
  obtain ⟨a, b⟩ := wait_ok ht hr hc
  obtain ⟨d, e⟩ := fillN_singles rule (((su.seats[t.turn.toNat]?).getD 0).toNat) ⟨[], (su.seats[t.turn.toNat]?).getD 0, (letIn su t.line t.singles c).here, (letIn su t.line t.singles c).waiting, t.mood⟩ a
  exact ⟨d, Int.le_trans e b⟩
theorem after_okS {su : Su} {rule : List Rw} {t : Stt} {c : Cm} (hs : su.ok) (ht : t.okS su) (hc : 0 ≤ c.more) : (after su rule t c).okS su := by
  obtain ⟨a, b⟩ := beat_singles (rule := rule) (c := c) ⟨ht.s0, ht.sg⟩ hs.r3 hc
  refine ⟨after_ok hs ht.ok, ?_, b, a⟩
  have h1 := fillN_line rule (((su.seats[t.turn.toNat]?).getD 0).toNat) ⟨[], (su.seats[t.turn.toNat]?).getD 0, (letIn su t.line t.singles c).here, (letIn su t.line t.singles c).waiting, t.mood⟩
  have h2 : ((letIn su t.line t.singles c).here.length : Int) ≤ su.r0 := by
    have := ht.ln
    have := hs.r1
    simp only [letIn, List.length_take]
    omega
  have h3 : (after su rule t c).line.length ≤ (letIn su t.line t.singles c).here.length := h1
  omega
theorem st0_okS {su : Su} (hs : su.ok) : st0.okS su := ⟨⟨Int.le_refl 0, by show (0 : Int) < su.seats.length; have := hs.a1; omega, Nat.zero_le _⟩, by have := hs.r1; show (0 : Int) ≤ su.r0; omega, hs.r3, Int.le_refl 0⟩
theorem frontD {l : List Int} {Q : D → Prop} : optK (atI (l.map D.int ++ [.int 0]) 0) Q = Q (.int (frontI l)) := by
  cases l with
  | nil => exact at0
  | cons x l => exact at0
def S_lawbeat : DSp := fun ds M Q _ => ∃ (s : Su) (r : List Rw) (t : Stt) (c : Cm), ds = [s.d, rl r, t.d, c.d] ∧ (s.ok ∧ t.okS s ∧ c.ok s ∧ Rok r) ∧ Q (.tup [(chair s r t c).d, (after s r t c).d]) M
theorem x_lawbeat {s : Su} {r : List Rw} {t : Stt} {c : Cm} {M : Mp} {Q : DK} {dx : DX} : S_lawbeat [s.d, rl r, t.d, c.d] M Q dx = ((s.ok ∧ t.okS s ∧ c.ok s ∧ Rok r) ∧ Q (.tup [(chair s r t c).d, (after s r t c).d]) M) :=
  propext ⟨fun ⟨_, _, _, _, e, h⟩ => by simp only [List.cons.injEq, Stt.inj, rl_inj, Su.inj, Cm.inj, and_true] at e; obtain ⟨rfl, rfl, rfl, rfl⟩ := e; exact h, fun h => ⟨_, _, _, _, rfl, h⟩⟩
def awayD (l : Let) : D := .tup [.int l.a0, .int l.a1]
/-- inside the loop -/
structure LbI (su : Su) (r : List Rw) (t : Stt) (c : Cm) (room : Int) (M : Mp) (p : Addr) (out : FS) (k : Nat) (ρ : Rh) (M' : Mp) : Prop where
  ex : ∃ (s : FS) (x y z : Option D) (n : Nat), ρ = [some su.d, some (rl r), some t.d, some c.d, some (.int t.turn), some (tI s.line), some (.int s.singles), some (.int s.mood), some (.int room), some (awayD (letIn su t.line t.singles c)), some (.int s.left), some (.ref p), x, y, z, none, none] ∧
    M' = upm M p (.lst (s.deeds.map ddD)) ∧ fillN r n s = out ∧ s.left.toNat ≤ n ∧ s.left.toNat + k ≤ 5 ∧ s.line.length ≤ 900 ∧ s.deeds.length ≤ k
/-- behind it -/
structure LbO (su : Su) (r : List Rw) (t : Stt) (c : Cm) (room : Int) (M : Mp) (p : Addr) (out : FS) (ρ : Rh) (M' : Mp) : Prop where
  ex : ∃ (x y z : Option D), ρ = [some su.d, some (rl r), some t.d, some c.d, some (.int t.turn), some (tI out.line), some (.int out.singles), some (.int out.mood), some (.int room), some (awayD (letIn su t.line t.singles c)), some (.int out.left), some (.ref p), x, y, z, none, none] ∧
    M' = upm M p (.lst (out.deeds.map ddD))
theorem filt {r : List Rw} {s : FS} : (r.filter (fits s.mood (frontI s.line) s.singles s.left)).head? = s.fit r := List.head?_filter
theorem eqLn {xs : List D} {M : Mp} {Q : DK} (h : D.ok 60 (.lst xs) = true) : dEq (.lst xs) (.lst []) M Q = Q (.bl (decide (xs = []))) M := by
  rw [xEqL, true_and_eq ⟨h, rfl⟩]
  exact congrArg (fun b => Q (.bl b) M) (dec_eq ⟨fun h => by injection h, fun h => by rw [h]⟩)
theorem ok_rws (l : List Rw) : D.ok 60 (.lst (l.map Rw.d)) = true := okAll_map _ fun x _ => ok_rw x
theorem b_lawbeat {ds M Q dx} (h : S_lawbeat ds M Q dx) : d__law_beat S_lfits (endD Q) (startD ["setup", "rule", "state", "comers", "turn", "line", "singles", "mood", "room", "away", "left", "deeds", "k", "front", "fitting", "lost", "row"] ds) M := by
  obtain ⟨su, r, t, c, rfl, ⟨hs, ht, hc, hr⟩, q⟩ := h
  show d__law_beat _ (endD Q) [some su.d, some (rl r), some t.d, some c.d, none, none, none, none, none, none, none, none, none, none, none, none, none] M
  unfold d__law_beat
  have c0 : ∀ {M : Mp} {Q : DK}, dIxV c.d (.int 0) M Q = Q (tI c.groups) M := by intro M Q; rw [Cm.d, xIxT, at0]
  have c1 : ∀ {M : Mp} {Q : DK}, dIxV c.d (.int 1) M Q = Q (.int c.more) M := by intro M Q; rw [Cm.d, xIxT, at1]
  have h1 := ht.ln
  have h2 := ht.sg
  have h3 : 0 < (su.seats.length : Int) := by have := hs.a1; omega
  obtain ⟨n, hn⟩ := Int.eq_ofNat_of_zero_le ht.ok.t0
  have h4 : n < su.seats.length := by have := ht.ok.t1; omega
  have h5 : su.seats[n]? = some su.seats[n] := List.getElem?_eq_getElem h4
  have h6 : (su.seats.map D.int)[n]? = some (.int su.seats[n]) := by rw [List.getElem?_map, h5]; rfl
  have h7 := hs.a3 _ (List.getElem_mem h4)
  have h8 : beatF su r t c = fill r (letIn su t.line t.singles c).here (letIn su t.line t.singles c).waiting su.seats[n] t.mood := by
    unfold beatF
    rw [hn, Int.toNat_natCast, h5]; rfl
  have hl3 := ht.ok.ln
  have hg : c.groups.length ≤ 900 := comers_len hs hc
  have hroom : (0 : Int) ≤ su.r0 - (t.line.length : Int) := by omega
  have hhere : t.line.map D.int ++ (c.groups.map D.int).take (su.r0 - (t.line.length : Int)).toNat = (letIn su t.line t.singles c).here.map D.int := by
    show _ = ((t.line ++ c.groups).take (max su.r0 (t.line.length : Int)).toNat).map D.int
    have e1 : (t.line ++ c.groups).take (max su.r0 (t.line.length : Int)).toNat = t.line ++ c.groups.take (su.r0 - (t.line.length : Int)).toNat := by
      rw [List.take_append, List.take_of_length_le (l := t.line) (by omega)]
      congr 2
      omega
    rw [e1, List.map_append, List.map_take]
  have haway : D.tup [.int (max 0 ((c.groups.length : Int) - (su.r0 - (t.line.length : Int)))), .int (max 0 (t.singles + c.more - su.r1))] = awayD (letIn su t.line t.singles c) := by
    have e1 : (letIn su t.line t.singles c).a0 = max 0 ((c.groups.length : Int) - (su.r0 - (t.line.length : Int))) := by
      simp only [letIn, List.length_take, List.length_append]
      omega
    have e2 : (letIn su t.line t.singles c).a1 = max 0 (t.singles + c.more - su.r1) := by
      simp only [letIn]
      omega
    unfold awayD
    rw [e1, e2]
  have hwait : min su.r1 (t.singles + c.more) = (letIn su t.line t.singles c).waiting := by
    simp only [letIn]
    omega
  have hlen : (t.line.map D.int ++ (c.groups.map D.int).take (su.r0 - (t.line.length : Int)).toNat).length ≤ sizeLine := by
    rw [hhere, List.length_map]
    have := letIn_len su t.line t.singles c hl3 hs.r2
    exact line_le (by omega)
  unfold Stt.d
  simp only [↓xSeq, ↓xNx, ↓xRt, ↓xBk, ↓xCt, ↓xEndNx, ↓xEndRt, ↓xNext, ↓xBreak, ↓xCont, ↓xDrop, ↓xRet, ↓xRetN, ↓xNever, ↓xIfS, ↓xPut0, ↓xPutS, ↓xSet, ↓xAug, ↓xAsg, ↓xUn2, ↓xUn1, ↓xPar, ↓xNm, ↓xNl, ↓xCn, ↓xSq, ↓xSqL, ↓xV0, ↓xVS, ↓xC, ↓xFrz, ↓xFrz1, ↓xOp, ↓xBl, ↓xB, ↓xChain, ↓xAnd, ↓xOr, ↓xNot, ↓xAndV, ↓xOrV, ↓xNotV, ↓xIf, ↓xNil, ↓xCons, ↓xTup, ↓xLst, ↓xLstO, ↓xOpt, ↓xAddI, ↓xAddT, ↓xAddL, ↓xSub, ↓xIAdd, ↓xFdiv, ↓xMod, ↓xPow, ↓xMul, ↓xLt, ↓xLe, ↓xGt, ↓xGe, ↓xEqI, ↓xNeI, ↓xEqB, ↓xNeB, ↓xIsBB, ↓xIsNN, ↓xIsTN, ↓xIsLN, ↓xIsIN, ↓xIsSN, ↓xIsRN, ↓xNoBB, ↓xNoNN, ↓xNoTN, ↓xNoLN, ↓xNoIN, ↓xNoSN, ↓xNoRN, ↓xInT, ↓xIx, ↓xIxT, ↓xIxL, ↓at0, ↓at1, ↓at2, ↓at3, ↓at4, ↓at5, ↓xSl, ↓xNo, ↓xInt, ↓xPart, ↓xCutT, ↓xCutL, ↓xCB, ↓xLenT, ↓xLenL, ↓xIntI, ↓xTupT, ↓xTupL, ↓xLstT, ↓xLstL, ↓xIsiT, ↓xIsiI, ↓xIsiB, ↓xIsiS, ↓xMax2, ↓xMin2, ↓xSum, ↓xAll, ↓xApp, ↓xFld, ↓xFldS, ↓xGFd, ↓xCall, ↓xMeth, ↓xProp, ↓xNeg, ↓xNegI, ↓suIx0, ↓suIx1, ↓suIx2, ↓suIx3, ↓rwIx0, ↓rwIx1, ↓rwIx2, ↓rwIx3, ↓rwIx4, ↓rwIx5, ↓rwNo, ↓ddG, ↓ddS, ↓ddP, ↓ddGo, ↓liN, ↓liNe, if_true, if_false, Bool.false_eq_true, Bool.true_eq_false, reduceIte, Bool.not_true, Bool.not_false, decide_eq_true_eq, Bool.not_eq_true', decide_eq_false_iff_not, not_true_eq_false, not_false_eq_true, and_true, true_and, true_implies, List.length_cons, List.length_nil, Nat.zero_le, decide_true, decide_false, decide_not, ↓c0, ↓c1, List.length_map, cut_take _ _ hroom, hlen, ↓atNat hn h6, le2]
  rw [hhere, haway, hwait]
  refine fun p hp => ?_
  refine cut_nx (t := dFor _ _ _) (LbO su r t c (su.r0 - (t.line.length : Int)) M p (beatF su r t c)) (fun K hK => ?_) (fun ρ M' ⟨x, y, z, hρ, hM⟩ => ?_)
  · refine for_range (n := 7) (fun Q q => by simp only [↓xSeq, ↓xNx, ↓xRt, ↓xBk, ↓xCt, ↓xEndNx, ↓xEndRt, ↓xNext, ↓xBreak, ↓xCont, ↓xDrop, ↓xRet, ↓xRetN, ↓xNever, ↓xIfS, ↓xPut0, ↓xPutS, ↓xSet, ↓xAug, ↓xAsg, ↓xUn2, ↓xUn1, ↓xPar, ↓xNm, ↓xNl, ↓xCn, ↓xSq, ↓xSqL, ↓xV0, ↓xVS, ↓xC, ↓xFrz, ↓xFrz1, ↓xOp, ↓xBl, ↓xB, ↓xChain, ↓xAnd, ↓xOr, ↓xNot, ↓xAndV, ↓xOrV, ↓xNotV, ↓xIf, ↓xNil, ↓xCons, ↓xTup, ↓xLst, ↓xLstO, ↓xOpt, ↓xAddI, ↓xAddT, ↓xAddL, ↓xSub, ↓xIAdd, ↓xFdiv, ↓xMod, ↓xPow, ↓xMul, ↓xLt, ↓xLe, ↓xGt, ↓xGe, ↓xEqI, ↓xNeI, ↓xEqB, ↓xNeB, ↓xIsBB, ↓xIsNN, ↓xIsTN, ↓xIsLN, ↓xIsIN, ↓xIsSN, ↓xIsRN, ↓xNoBB, ↓xNoNN, ↓xNoTN, ↓xNoLN, ↓xNoIN, ↓xNoSN, ↓xNoRN, ↓xInT, ↓xIx, ↓xIxT, ↓xIxL, ↓at0, ↓at1, ↓at2, ↓at3, ↓at4, ↓at5, ↓xSl, ↓xNo, ↓xInt, ↓xPart, ↓xCutT, ↓xCutL, ↓xCB, ↓xLenT, ↓xLenL, ↓xIntI, ↓xTupT, ↓xTupL, ↓xLstT, ↓xLstL, ↓xIsiT, ↓xIsiI, ↓xIsiB, ↓xIsiS, ↓xMax2, ↓xMin2, ↓xSum, ↓xAll, ↓xApp, ↓xFld, ↓xFldS, ↓xGFd, ↓xCall, ↓xMeth, ↓xProp, ↓xNeg, ↓xNegI, ↓suIx0, ↓suIx1, ↓suIx2, ↓suIx3, ↓rwIx0, ↓rwIx1, ↓rwIx2, ↓rwIx3, ↓rwIx4, ↓rwIx5, ↓rwNo, ↓ddG, ↓ddS, ↓ddP, ↓ddGo, ↓liN, ↓liNe, if_true, if_false, Bool.false_eq_true, Bool.true_eq_false, reduceIte, Bool.not_true, Bool.not_false, decide_eq_true_eq, Bool.not_eq_true', decide_eq_false_iff_not, not_true_eq_false, not_false_eq_true, and_true, true_and, true_implies, List.length_cons, List.length_nil, Nat.zero_le, decide_true, decide_false, decide_not]; exact q) (by decide) (LbI su r t c (su.r0 - (t.line.length : Int)) M p (beatF su r t c)) ⟨⟨[], su.seats[n], (letIn su t.line t.singles c).here, (letIn su t.line t.singles c).waiting, t.mood⟩, none, none, none, su.seats[n].toNat, rfl, rfl, ?_, Nat.le_refl _, ?_, ?_, Nat.le_refl _⟩ (fun k ρ M' hk ⟨s, x, y, z, m, hρ, hM, ho, hm, hk5, hln, hdl⟩ => ?_) (fun ρ M' ⟨s, x, y, z, m, hρ, hM, ho, hm, hk5, hln, hdl⟩ => by omega)
    · rw [h8]; rfl
    · show su.seats[n].toNat + 0 ≤ 5; omega
    · have := letIn_len su t.line t.singles c hl3 hs.r2
      show (letIn su t.line t.singles c).here.length ≤ 900
      omega
    · subst hρ hM
      have hsz : s.line.length + 1 ≤ sizeLine := line_le (by omega)
      simp only [↓xSeq, ↓xNx, ↓xRt, ↓xBk, ↓xCt, ↓xEndNx, ↓xEndRt, ↓xNext, ↓xBreak, ↓xCont, ↓xDrop, ↓xRet, ↓xRetN, ↓xNever, ↓xIfS, ↓xPut0, ↓xPutS, ↓xSet, ↓xAug, ↓xAsg, ↓xUn2, ↓xUn1, ↓xPar, ↓xNm, ↓xNl, ↓xCn, ↓xSq, ↓xSqL, ↓xV0, ↓xVS, ↓xC, ↓xFrz, ↓xFrz1, ↓xOp, ↓xBl, ↓xB, ↓xChain, ↓xAnd, ↓xOr, ↓xNot, ↓xAndV, ↓xOrV, ↓xNotV, ↓xIf, ↓xNil, ↓xCons, ↓xTup, ↓xLst, ↓xLstO, ↓xOpt, ↓xAddI, ↓xAddT, ↓xAddL, ↓xSub, ↓xIAdd, ↓xFdiv, ↓xMod, ↓xPow, ↓xMul, ↓xLt, ↓xLe, ↓xGt, ↓xGe, ↓xEqI, ↓xNeI, ↓xEqB, ↓xNeB, ↓xIsBB, ↓xIsNN, ↓xIsTN, ↓xIsLN, ↓xIsIN, ↓xIsSN, ↓xIsRN, ↓xNoBB, ↓xNoNN, ↓xNoTN, ↓xNoLN, ↓xNoIN, ↓xNoSN, ↓xNoRN, ↓xInT, ↓xIx, ↓xIxT, ↓xIxL, ↓at0, ↓at1, ↓at2, ↓at3, ↓at4, ↓at5, ↓xSl, ↓xNo, ↓xInt, ↓xPart, ↓xCutT, ↓xCutL, ↓xCB, ↓xLenT, ↓xLenL, ↓xIntI, ↓xTupT, ↓xTupL, ↓xLstT, ↓xLstL, ↓xIsiT, ↓xIsiI, ↓xIsiB, ↓xIsiS, ↓xMax2, ↓xMin2, ↓xSum, ↓xAll, ↓xApp, ↓xFld, ↓xFldS, ↓xGFd, ↓xCall, ↓xMeth, ↓xProp, ↓xNeg, ↓xNegI, ↓suIx0, ↓suIx1, ↓suIx2, ↓suIx3, ↓rwIx0, ↓rwIx1, ↓rwIx2, ↓rwIx3, ↓rwIx4, ↓rwIx5, ↓rwNo, ↓ddG, ↓ddS, ↓ddP, ↓ddGo, ↓liN, ↓liNe, if_true, if_false, Bool.false_eq_true, Bool.true_eq_false, reduceIte, Bool.not_true, Bool.not_false, decide_eq_true_eq, Bool.not_eq_true', decide_eq_false_iff_not, not_true_eq_false, not_false_eq_true, and_true, true_and, true_implies, List.length_cons, List.length_nil, Nat.zero_le, decide_true, decide_false, decide_not, List.length_append, List.length_map, hsz, ↓frontD, le1]
      refine lc_pure (C := fun M' => sv M' (rl r) = some (r.map Rw.d)) Rw.d r (fits s.mood (frontI s.line) s.singles s.left) Rw.d (fun RR h => ?_) (fun _ _ _ => rfl) (line_le (by have := hr.len; omega)) (fun p2 ys i hp hi => ⟨[some su.d, some (rl r), some t.d, some c.d, some (.int t.turn), some (tI s.line), some (.int s.singles), some (.int s.mood), some (.int (su.r0 - (t.line.length : Int))), some (awayD (letIn su t.line t.singles c)), some (.int s.left), some (.ref p), some (.int k), some (.int (frontI s.line)), z, none, some i.d], rfl, fun Q q => ?_, fun _ Q q => ?_⟩) ?_
      · exact ⟨_, rfl, _, rfl, h⟩
      · simp only [↓xSeq, ↓xNx, ↓xRt, ↓xBk, ↓xCt, ↓xEndNx, ↓xEndRt, ↓xNext, ↓xBreak, ↓xCont, ↓xDrop, ↓xRet, ↓xRetN, ↓xNever, ↓xIfS, ↓xPut0, ↓xPutS, ↓xSet, ↓xAug, ↓xAsg, ↓xUn2, ↓xUn1, ↓xPar, ↓xNm, ↓xNl, ↓xCn, ↓xSq, ↓xSqL, ↓xV0, ↓xVS, ↓xC, ↓xFrz, ↓xFrz1, ↓xOp, ↓xBl, ↓xB, ↓xChain, ↓xAnd, ↓xOr, ↓xNot, ↓xAndV, ↓xOrV, ↓xNotV, ↓xIf, ↓xNil, ↓xCons, ↓xTup, ↓xLst, ↓xLstO, ↓xOpt, ↓xAddI, ↓xAddT, ↓xAddL, ↓xSub, ↓xIAdd, ↓xFdiv, ↓xMod, ↓xPow, ↓xMul, ↓xLt, ↓xLe, ↓xGt, ↓xGe, ↓xEqI, ↓xNeI, ↓xEqB, ↓xNeB, ↓xIsBB, ↓xIsNN, ↓xIsTN, ↓xIsLN, ↓xIsIN, ↓xIsSN, ↓xIsRN, ↓xNoBB, ↓xNoNN, ↓xNoTN, ↓xNoLN, ↓xNoIN, ↓xNoSN, ↓xNoRN, ↓xInT, ↓xIx, ↓xIxT, ↓xIxL, ↓at0, ↓at1, ↓at2, ↓at3, ↓at4, ↓at5, ↓xSl, ↓xNo, ↓xInt, ↓xPart, ↓xCutT, ↓xCutL, ↓xCB, ↓xLenT, ↓xLenL, ↓xIntI, ↓xTupT, ↓xTupL, ↓xLstT, ↓xLstL, ↓xIsiT, ↓xIsiI, ↓xIsiB, ↓xIsiS, ↓xMax2, ↓xMin2, ↓xSum, ↓xAll, ↓xApp, ↓xFld, ↓xFldS, ↓xGFd, ↓xCall, ↓xMeth, ↓xProp, ↓xNeg, ↓xNegI, ↓suIx0, ↓suIx1, ↓suIx2, ↓suIx3, ↓rwIx0, ↓rwIx1, ↓rwIx2, ↓rwIx3, ↓rwIx4, ↓rwIx5, ↓rwNo, ↓ddG, ↓ddS, ↓ddP, ↓ddGo, ↓liN, ↓liNe, if_true, if_false, Bool.false_eq_true, Bool.true_eq_false, reduceIte, Bool.not_true, Bool.not_false, decide_eq_true_eq, Bool.not_eq_true', decide_eq_false_iff_not, not_true_eq_false, not_false_eq_true, and_true, true_and, true_implies, List.length_cons, List.length_nil, Nat.zero_le, decide_true, decide_false, decide_not, ↓x_lfits]; exact q
      · simp only [↓xSeq, ↓xNx, ↓xRt, ↓xBk, ↓xCt, ↓xEndNx, ↓xEndRt, ↓xNext, ↓xBreak, ↓xCont, ↓xDrop, ↓xRet, ↓xRetN, ↓xNever, ↓xIfS, ↓xPut0, ↓xPutS, ↓xSet, ↓xAug, ↓xAsg, ↓xUn2, ↓xUn1, ↓xPar, ↓xNm, ↓xNl, ↓xCn, ↓xSq, ↓xSqL, ↓xV0, ↓xVS, ↓xC, ↓xFrz, ↓xFrz1, ↓xOp, ↓xBl, ↓xB, ↓xChain, ↓xAnd, ↓xOr, ↓xNot, ↓xAndV, ↓xOrV, ↓xNotV, ↓xIf, ↓xNil, ↓xCons, ↓xTup, ↓xLst, ↓xLstO, ↓xOpt, ↓xAddI, ↓xAddT, ↓xAddL, ↓xSub, ↓xIAdd, ↓xFdiv, ↓xMod, ↓xPow, ↓xMul, ↓xLt, ↓xLe, ↓xGt, ↓xGe, ↓xEqI, ↓xNeI, ↓xEqB, ↓xNeB, ↓xIsBB, ↓xIsNN, ↓xIsTN, ↓xIsLN, ↓xIsIN, ↓xIsSN, ↓xIsRN, ↓xNoBB, ↓xNoNN, ↓xNoTN, ↓xNoLN, ↓xNoIN, ↓xNoSN, ↓xNoRN, ↓xInT, ↓xIx, ↓xIxT, ↓xIxL, ↓at0, ↓at1, ↓at2, ↓at3, ↓at4, ↓at5, ↓xSl, ↓xNo, ↓xInt, ↓xPart, ↓xCutT, ↓xCutL, ↓xCB, ↓xLenT, ↓xLenL, ↓xIntI, ↓xTupT, ↓xTupL, ↓xLstT, ↓xLstL, ↓xIsiT, ↓xIsiI, ↓xIsiB, ↓xIsiS, ↓xMax2, ↓xMin2, ↓xSum, ↓xAll, ↓xApp, ↓xFld, ↓xFldS, ↓xGFd, ↓xCall, ↓xMeth, ↓xProp, ↓xNeg, ↓xNegI, ↓suIx0, ↓suIx1, ↓suIx2, ↓suIx3, ↓rwIx0, ↓rwIx1, ↓rwIx2, ↓rwIx3, ↓rwIx4, ↓rwIx5, ↓rwNo, ↓ddG, ↓ddS, ↓ddP, ↓ddGo, ↓liN, ↓liNe, if_true, if_false, Bool.false_eq_true, Bool.true_eq_false, reduceIte, Bool.not_true, Bool.not_false, decide_eq_true_eq, Bool.not_eq_true', decide_eq_false_iff_not, not_true_eq_false, not_false_eq_true, and_true, true_and, true_implies, List.length_cons, List.length_nil, Nat.zero_le, decide_true, decide_false, decide_not]; exact q
      · have ef := @filt r s
        cases hf : r.filter (fits s.mood (frontI s.line) s.singles s.left) with
        | nil =>
          rw [hf] at ef
          have ef : s.fit r = none := ef.symm
          have hout : s = beatF su r t c := by rw [← ho]; cases m <;> simp only [fillN, ef]
          simp only [List.map_nil, ↓xSeq, ↓xNx, ↓xRt, ↓xBk, ↓xCt, ↓xEndNx, ↓xEndRt, ↓xNext, ↓xBreak, ↓xCont, ↓xDrop, ↓xRet, ↓xRetN, ↓xNever, ↓xIfS, ↓xPut0, ↓xPutS, ↓xSet, ↓xAug, ↓xAsg, ↓xUn2, ↓xUn1, ↓xPar, ↓xNm, ↓xNl, ↓xCn, ↓xSq, ↓xSqL, ↓xV0, ↓xVS, ↓xC, ↓xFrz, ↓xFrz1, ↓xOp, ↓xBl, ↓xB, ↓xChain, ↓xAnd, ↓xOr, ↓xNot, ↓xAndV, ↓xOrV, ↓xNotV, ↓xIf, ↓xNil, ↓xCons, ↓xTup, ↓xLst, ↓xLstO, ↓xOpt, ↓xAddI, ↓xAddT, ↓xAddL, ↓xSub, ↓xIAdd, ↓xFdiv, ↓xMod, ↓xPow, ↓xMul, ↓xLt, ↓xLe, ↓xGt, ↓xGe, ↓xEqI, ↓xNeI, ↓xEqB, ↓xNeB, ↓xIsBB, ↓xIsNN, ↓xIsTN, ↓xIsLN, ↓xIsIN, ↓xIsSN, ↓xIsRN, ↓xNoBB, ↓xNoNN, ↓xNoTN, ↓xNoLN, ↓xNoIN, ↓xNoSN, ↓xNoRN, ↓xInT, ↓xIx, ↓xIxT, ↓xIxL, ↓at0, ↓at1, ↓at2, ↓at3, ↓at4, ↓at5, ↓xSl, ↓xNo, ↓xInt, ↓xPart, ↓xCutT, ↓xCutL, ↓xCB, ↓xLenT, ↓xLenL, ↓xIntI, ↓xTupT, ↓xTupL, ↓xLstT, ↓xLstL, ↓xIsiT, ↓xIsiI, ↓xIsiB, ↓xIsiS, ↓xMax2, ↓xMin2, ↓xSum, ↓xAll, ↓xApp, ↓xFld, ↓xFldS, ↓xGFd, ↓xCall, ↓xMeth, ↓xProp, ↓xNeg, ↓xNegI, ↓suIx0, ↓suIx1, ↓suIx2, ↓suIx3, ↓rwIx0, ↓rwIx1, ↓rwIx2, ↓rwIx3, ↓rwIx4, ↓rwIx5, ↓rwNo, ↓ddG, ↓ddS, ↓ddP, ↓ddGo, ↓liN, ↓liNe, if_true, if_false, Bool.false_eq_true, Bool.true_eq_false, reduceIte, Bool.not_true, Bool.not_false, decide_eq_true_eq, Bool.not_eq_true', decide_eq_false_iff_not, not_true_eq_false, not_false_eq_true, and_true, true_and, true_implies, List.length_cons, List.length_nil, Nat.zero_le, decide_true, decide_false, decide_not, ↓eqLn (ok_rws [])]
          refine hK _ _ ?_
          rw [← hout]
          exact ⟨_, _, _, rfl, rfl⟩
        | cons x tl =>
          rw [hf] at ef
          have ef : s.fit r = some x := ef.symm
          have okx : D.ok 60 (.lst (x.d :: tl.map Rw.d)) = true := ok_rws (x :: tl)
          by_cases hg : x.deed = .go
          · have hout : ({ s with mood := x.aft } : FS) = beatF su r t c := by
              rw [← ho]; cases m <;> simp only [fillN, ef, hg, if_true]
            simp only [List.map_cons, ↓xSeq, ↓xNx, ↓xRt, ↓xBk, ↓xCt, ↓xEndNx, ↓xEndRt, ↓xNext, ↓xBreak, ↓xCont, ↓xDrop, ↓xRet, ↓xRetN, ↓xNever, ↓xIfS, ↓xPut0, ↓xPutS, ↓xSet, ↓xAug, ↓xAsg, ↓xUn2, ↓xUn1, ↓xPar, ↓xNm, ↓xNl, ↓xCn, ↓xSq, ↓xSqL, ↓xV0, ↓xVS, ↓xC, ↓xFrz, ↓xFrz1, ↓xOp, ↓xBl, ↓xB, ↓xChain, ↓xAnd, ↓xOr, ↓xNot, ↓xAndV, ↓xOrV, ↓xNotV, ↓xIf, ↓xNil, ↓xCons, ↓xTup, ↓xLst, ↓xLstO, ↓xOpt, ↓xAddI, ↓xAddT, ↓xAddL, ↓xSub, ↓xIAdd, ↓xFdiv, ↓xMod, ↓xPow, ↓xMul, ↓xLt, ↓xLe, ↓xGt, ↓xGe, ↓xEqI, ↓xNeI, ↓xEqB, ↓xNeB, ↓xIsBB, ↓xIsNN, ↓xIsTN, ↓xIsLN, ↓xIsIN, ↓xIsSN, ↓xIsRN, ↓xNoBB, ↓xNoNN, ↓xNoTN, ↓xNoLN, ↓xNoIN, ↓xNoSN, ↓xNoRN, ↓xInT, ↓xIx, ↓xIxT, ↓xIxL, ↓at0, ↓at1, ↓at2, ↓at3, ↓at4, ↓at5, ↓xSl, ↓xNo, ↓xInt, ↓xPart, ↓xCutT, ↓xCutL, ↓xCB, ↓xLenT, ↓xLenL, ↓xIntI, ↓xTupT, ↓xTupL, ↓xLstT, ↓xLstL, ↓xIsiT, ↓xIsiI, ↓xIsiB, ↓xIsiS, ↓xMax2, ↓xMin2, ↓xSum, ↓xAll, ↓xApp, ↓xFld, ↓xFldS, ↓xGFd, ↓xCall, ↓xMeth, ↓xProp, ↓xNeg, ↓xNegI, ↓suIx0, ↓suIx1, ↓suIx2, ↓suIx3, ↓rwIx0, ↓rwIx1, ↓rwIx2, ↓rwIx3, ↓rwIx4, ↓rwIx5, ↓rwNo, ↓ddG, ↓ddS, ↓ddP, ↓ddGo, ↓liN, ↓liNe, if_true, if_false, Bool.false_eq_true, Bool.true_eq_false, reduceIte, Bool.not_true, Bool.not_false, decide_eq_true_eq, Bool.not_eq_true', decide_eq_false_iff_not, not_true_eq_false, not_false_eq_true, and_true, true_and, true_implies, List.length_cons, List.length_nil, Nat.zero_le, decide_true, decide_false, decide_not, ↓eqLn okx, reduceCtorEq, ↓ddGoE, hg]
            refine hK _ _ ?_
            rw [← hout]
            exact ⟨_, _, _, rfl, rfl⟩
          · have hlt := next_left ef hg
            have hnl := next_line ef hg
            cases m with
            | zero => omega
            | succ m =>
              have ho : fillN r m (s.next x) = beatF su r t c := by rw [← ho]; simp only [fillN, ef, hg, if_false]
              have hds : s.deeds.length < sizeLine := Nat.lt_of_le_of_lt (by omega : s.deeds.length ≤ 100) (by decide)
              have hdn : (s.next x).deeds.length ≤ k + 1 := by simp only [FS.next, List.length_append, List.length_cons, List.length_nil]; omega
              have ltl : 1 + s.line.tail.length ≤ sizeLine := by
                rw [List.length_tail]
                exact line_le (by omega)
              have up : ∀ (u v w : Option D), LbI su r t c (su.r0 - (t.line.length : Int)) M p (beatF su r t c) (k + 1) [some su.d, some (rl r), some t.d, some c.d, some (.int t.turn), some (tI (s.next x).line), some (.int (s.next x).singles), some (.int (s.next x).mood), some (.int (su.r0 - (t.line.length : Int))), some (awayD (letIn su t.line t.singles c)), some (.int (s.next x).left), some (.ref p), u, v, w, none, none] (upm M p (.lst ((s.next x).deeds.map ddD))) :=
                fun u v w => ⟨s.next x, u, v, w, m, rfl, rfl, ho, by omega, by omega, by omega, hdn⟩
              have ed : (s.next x).deeds.map ddD = s.deeds.map ddD ++ [ddD (seat x.deed s.line s.singles s.left).deed] := map_snoc _ _ _
              rw [ed] at up
              unfold FS.next at up
              cases hd : x.deed with
              | go => exact absurd hd hg
              | group =>
                rw [hd] at up
                simp only [List.map_cons, ↓xSeq, ↓xNx, ↓xRt, ↓xBk, ↓xCt, ↓xEndNx, ↓xEndRt, ↓xNext, ↓xBreak, ↓xCont, ↓xDrop, ↓xRet, ↓xRetN, ↓xNever, ↓xIfS, ↓xPut0, ↓xPutS, ↓xSet, ↓xAug, ↓xAsg, ↓xUn2, ↓xUn1, ↓xPar, ↓xNm, ↓xNl, ↓xCn, ↓xSq, ↓xSqL, ↓xV0, ↓xVS, ↓xC, ↓xFrz, ↓xFrz1, ↓xOp, ↓xBl, ↓xB, ↓xChain, ↓xAnd, ↓xOr, ↓xNot, ↓xAndV, ↓xOrV, ↓xNotV, ↓xIf, ↓xNil, ↓xCons, ↓xTup, ↓xLst, ↓xLstO, ↓xOpt, ↓xAddI, ↓xAddT, ↓xAddL, ↓xSub, ↓xIAdd, ↓xFdiv, ↓xMod, ↓xPow, ↓xMul, ↓xLt, ↓xLe, ↓xGt, ↓xGe, ↓xEqI, ↓xNeI, ↓xEqB, ↓xNeB, ↓xIsBB, ↓xIsNN, ↓xIsTN, ↓xIsLN, ↓xIsIN, ↓xIsSN, ↓xIsRN, ↓xNoBB, ↓xNoNN, ↓xNoTN, ↓xNoLN, ↓xNoIN, ↓xNoSN, ↓xNoRN, ↓xInT, ↓xIx, ↓xIxT, ↓xIxL, ↓at0, ↓at1, ↓at2, ↓at3, ↓at4, ↓at5, ↓xSl, ↓xNo, ↓xInt, ↓xPart, ↓xCutT, ↓xCutL, ↓xCB, ↓xLenT, ↓xLenL, ↓xIntI, ↓xTupT, ↓xTupL, ↓xLstT, ↓xLstL, ↓xIsiT, ↓xIsiI, ↓xIsiB, ↓xIsiS, ↓xMax2, ↓xMin2, ↓xSum, ↓xAll, ↓xApp, ↓xFld, ↓xFldS, ↓xGFd, ↓xCall, ↓xMeth, ↓xProp, ↓xNeg, ↓xNegI, ↓suIx0, ↓suIx1, ↓suIx2, ↓suIx3, ↓rwIx0, ↓rwIx1, ↓rwIx2, ↓rwIx3, ↓rwIx4, ↓rwIx5, ↓rwNo, ↓ddG, ↓ddS, ↓ddP, ↓ddGo, ↓liN, ↓liNe, if_true, if_false, Bool.false_eq_true, Bool.true_eq_false, reduceIte, Bool.not_true, Bool.not_false, decide_eq_true_eq, Bool.not_eq_true', decide_eq_false_iff_not, not_true_eq_false, not_false_eq_true, and_true, true_and, true_implies, List.length_cons, List.length_nil, Nat.zero_le, decide_true, decide_false, decide_not, ↓eqLn okx, reduceCtorEq, ↓ddGoE, hd, hg, le2, ↓xAppA upm_same, ↓xAppB upm_same, List.length_map, hds, upm_upm, map_cut1]
                exact up _ _ _
              | single =>
                rw [hd] at up
                simp only [List.map_cons, ↓xSeq, ↓xNx, ↓xRt, ↓xBk, ↓xCt, ↓xEndNx, ↓xEndRt, ↓xNext, ↓xBreak, ↓xCont, ↓xDrop, ↓xRet, ↓xRetN, ↓xNever, ↓xIfS, ↓xPut0, ↓xPutS, ↓xSet, ↓xAug, ↓xAsg, ↓xUn2, ↓xUn1, ↓xPar, ↓xNm, ↓xNl, ↓xCn, ↓xSq, ↓xSqL, ↓xV0, ↓xVS, ↓xC, ↓xFrz, ↓xFrz1, ↓xOp, ↓xBl, ↓xB, ↓xChain, ↓xAnd, ↓xOr, ↓xNot, ↓xAndV, ↓xOrV, ↓xNotV, ↓xIf, ↓xNil, ↓xCons, ↓xTup, ↓xLst, ↓xLstO, ↓xOpt, ↓xAddI, ↓xAddT, ↓xAddL, ↓xSub, ↓xIAdd, ↓xFdiv, ↓xMod, ↓xPow, ↓xMul, ↓xLt, ↓xLe, ↓xGt, ↓xGe, ↓xEqI, ↓xNeI, ↓xEqB, ↓xNeB, ↓xIsBB, ↓xIsNN, ↓xIsTN, ↓xIsLN, ↓xIsIN, ↓xIsSN, ↓xIsRN, ↓xNoBB, ↓xNoNN, ↓xNoTN, ↓xNoLN, ↓xNoIN, ↓xNoSN, ↓xNoRN, ↓xInT, ↓xIx, ↓xIxT, ↓xIxL, ↓at0, ↓at1, ↓at2, ↓at3, ↓at4, ↓at5, ↓xSl, ↓xNo, ↓xInt, ↓xPart, ↓xCutT, ↓xCutL, ↓xCB, ↓xLenT, ↓xLenL, ↓xIntI, ↓xTupT, ↓xTupL, ↓xLstT, ↓xLstL, ↓xIsiT, ↓xIsiI, ↓xIsiB, ↓xIsiS, ↓xMax2, ↓xMin2, ↓xSum, ↓xAll, ↓xApp, ↓xFld, ↓xFldS, ↓xGFd, ↓xCall, ↓xMeth, ↓xProp, ↓xNeg, ↓xNegI, ↓suIx0, ↓suIx1, ↓suIx2, ↓suIx3, ↓rwIx0, ↓rwIx1, ↓rwIx2, ↓rwIx3, ↓rwIx4, ↓rwIx5, ↓rwNo, ↓ddG, ↓ddS, ↓ddP, ↓ddGo, ↓liN, ↓liNe, if_true, if_false, Bool.false_eq_true, Bool.true_eq_false, reduceIte, Bool.not_true, Bool.not_false, decide_eq_true_eq, Bool.not_eq_true', decide_eq_false_iff_not, not_true_eq_false, not_false_eq_true, and_true, true_and, true_implies, List.length_cons, List.length_nil, Nat.zero_le, decide_true, decide_false, decide_not, ↓eqLn okx, reduceCtorEq, ↓ddGoE, hd, hg, le2, ↓xAppA upm_same, ↓xAppB upm_same, List.length_map, hds, upm_upm, map_cut1]
                exact up _ _ _
              | part =>
                rw [hd] at up
                simp only [List.map_cons, ↓xSeq, ↓xNx, ↓xRt, ↓xBk, ↓xCt, ↓xEndNx, ↓xEndRt, ↓xNext, ↓xBreak, ↓xCont, ↓xDrop, ↓xRet, ↓xRetN, ↓xNever, ↓xIfS, ↓xPut0, ↓xPutS, ↓xSet, ↓xAug, ↓xAsg, ↓xUn2, ↓xUn1, ↓xPar, ↓xNm, ↓xNl, ↓xCn, ↓xSq, ↓xSqL, ↓xV0, ↓xVS, ↓xC, ↓xFrz, ↓xFrz1, ↓xOp, ↓xBl, ↓xB, ↓xChain, ↓xAnd, ↓xOr, ↓xNot, ↓xAndV, ↓xOrV, ↓xNotV, ↓xIf, ↓xNil, ↓xCons, ↓xTup, ↓xLst, ↓xLstO, ↓xOpt, ↓xAddI, ↓xAddT, ↓xAddL, ↓xSub, ↓xIAdd, ↓xFdiv, ↓xMod, ↓xPow, ↓xMul, ↓xLt, ↓xLe, ↓xGt, ↓xGe, ↓xEqI, ↓xNeI, ↓xEqB, ↓xNeB, ↓xIsBB, ↓xIsNN, ↓xIsTN, ↓xIsLN, ↓xIsIN, ↓xIsSN, ↓xIsRN, ↓xNoBB, ↓xNoNN, ↓xNoTN, ↓xNoLN, ↓xNoIN, ↓xNoSN, ↓xNoRN, ↓xInT, ↓xIx, ↓xIxT, ↓xIxL, ↓at0, ↓at1, ↓at2, ↓at3, ↓at4, ↓at5, ↓xSl, ↓xNo, ↓xInt, ↓xPart, ↓xCutT, ↓xCutL, ↓xCB, ↓xLenT, ↓xLenL, ↓xIntI, ↓xTupT, ↓xTupL, ↓xLstT, ↓xLstL, ↓xIsiT, ↓xIsiI, ↓xIsiB, ↓xIsiS, ↓xMax2, ↓xMin2, ↓xSum, ↓xAll, ↓xApp, ↓xFld, ↓xFldS, ↓xGFd, ↓xCall, ↓xMeth, ↓xProp, ↓xNeg, ↓xNegI, ↓suIx0, ↓suIx1, ↓suIx2, ↓suIx3, ↓rwIx0, ↓rwIx1, ↓rwIx2, ↓rwIx3, ↓rwIx4, ↓rwIx5, ↓rwNo, ↓ddG, ↓ddS, ↓ddP, ↓ddGo, ↓liN, ↓liNe, if_true, if_false, Bool.false_eq_true, Bool.true_eq_false, reduceIte, Bool.not_true, Bool.not_false, decide_eq_true_eq, Bool.not_eq_true', decide_eq_false_iff_not, not_true_eq_false, not_false_eq_true, and_true, true_and, true_implies, List.length_cons, List.length_nil, Nat.zero_le, decide_true, decide_false, decide_not, ↓eqLn okx, reduceCtorEq, ↓ddGoE, hd, hg, le1, le2, ↓xAppA upm_same, ↓xAppB upm_same, List.length_map, hds, upm_upm, map_cut1, List.length_append, ltl]
                exact up _ _ _
  · subst hρ hM
    have q : ∃ M'', Sub M'' (upm M p (.lst ((beatF su r t c).deeds.map ddD))) ∧ Q (.tup [(chair su r t c).d, (after su r t c).d]) M'' := ⟨M, sub_up hp, q⟩
    unfold chair after at q
    have hsg : ¬ (beatF su r t c).singles < 0 := by have := (beat_singles (rule := r) (c := c) ⟨ht.s0, ht.sg⟩ hs.r3 hc.m0).1; omega
    by_cases g1 : (beatF su r t c).line = []
    · by_cases g2 : (beatF su r t c).singles = 0
      · have e : lostF (beatF su r t c) = 0 := if_neg (by simp [g1, g2])
        simp only [e] at q
        simp only [↓xSeq, ↓xNx, ↓xRt, ↓xBk, ↓xCt, ↓xEndNx, ↓xEndRt, ↓xNext, ↓xBreak, ↓xCont, ↓xDrop, ↓xRet, ↓xRetN, ↓xNever, ↓xIfS, ↓xPut0, ↓xPutS, ↓xSet, ↓xAug, ↓xAsg, ↓xUn2, ↓xUn1, ↓xPar, ↓xNm, ↓xNl, ↓xCn, ↓xSq, ↓xSqL, ↓xV0, ↓xVS, ↓xC, ↓xFrz, ↓xFrz1, ↓xOp, ↓xBl, ↓xB, ↓xChain, ↓xAnd, ↓xOr, ↓xNot, ↓xAndV, ↓xOrV, ↓xNotV, ↓xIf, ↓xNil, ↓xCons, ↓xTup, ↓xLst, ↓xLstO, ↓xOpt, ↓xAddI, ↓xAddT, ↓xAddL, ↓xSub, ↓xIAdd, ↓xFdiv, ↓xMod, ↓xPow, ↓xMul, ↓xLt, ↓xLe, ↓xGt, ↓xGe, ↓xEqI, ↓xNeI, ↓xEqB, ↓xNeB, ↓xIsBB, ↓xIsNN, ↓xIsTN, ↓xIsLN, ↓xIsIN, ↓xIsSN, ↓xIsRN, ↓xNoBB, ↓xNoNN, ↓xNoTN, ↓xNoLN, ↓xNoIN, ↓xNoSN, ↓xNoRN, ↓xInT, ↓xIx, ↓xIxT, ↓xIxL, ↓at0, ↓at1, ↓at2, ↓at3, ↓at4, ↓at5, ↓xSl, ↓xNo, ↓xInt, ↓xPart, ↓xCutT, ↓xCutL, ↓xCB, ↓xLenT, ↓xLenL, ↓xIntI, ↓xTupT, ↓xTupL, ↓xLstT, ↓xLstL, ↓xIsiT, ↓xIsiI, ↓xIsiB, ↓xIsiS, ↓xMax2, ↓xMin2, ↓xSum, ↓xAll, ↓xApp, ↓xFld, ↓xFldS, ↓xGFd, ↓xCall, ↓xMeth, ↓xProp, ↓xNeg, ↓xNegI, ↓suIx0, ↓suIx1, ↓suIx2, ↓suIx3, ↓rwIx0, ↓rwIx1, ↓rwIx2, ↓rwIx3, ↓rwIx4, ↓rwIx5, ↓rwNo, ↓ddG, ↓ddS, ↓ddP, ↓ddGo, ↓liN, ↓liNe, if_true, if_false, Bool.false_eq_true, Bool.true_eq_false, reduceIte, Bool.not_true, Bool.not_false, decide_eq_true_eq, Bool.not_eq_true', decide_eq_false_iff_not, not_true_eq_false, not_false_eq_true, and_true, true_and, true_implies, List.length_cons, List.length_nil, Nat.zero_le, decide_true, decide_false, decide_not, g1, g2, ↓xTupR upm_same, List.length_map, h3, le2, le3] at q ⊢
        exact q
      · have e : lostF (beatF su r t c) = (beatF su r t c).left := if_pos (.inr (by omega))
        simp only [e] at q
        simp only [↓xSeq, ↓xNx, ↓xRt, ↓xBk, ↓xCt, ↓xEndNx, ↓xEndRt, ↓xNext, ↓xBreak, ↓xCont, ↓xDrop, ↓xRet, ↓xRetN, ↓xNever, ↓xIfS, ↓xPut0, ↓xPutS, ↓xSet, ↓xAug, ↓xAsg, ↓xUn2, ↓xUn1, ↓xPar, ↓xNm, ↓xNl, ↓xCn, ↓xSq, ↓xSqL, ↓xV0, ↓xVS, ↓xC, ↓xFrz, ↓xFrz1, ↓xOp, ↓xBl, ↓xB, ↓xChain, ↓xAnd, ↓xOr, ↓xNot, ↓xAndV, ↓xOrV, ↓xNotV, ↓xIf, ↓xNil, ↓xCons, ↓xTup, ↓xLst, ↓xLstO, ↓xOpt, ↓xAddI, ↓xAddT, ↓xAddL, ↓xSub, ↓xIAdd, ↓xFdiv, ↓xMod, ↓xPow, ↓xMul, ↓xLt, ↓xLe, ↓xGt, ↓xGe, ↓xEqI, ↓xNeI, ↓xEqB, ↓xNeB, ↓xIsBB, ↓xIsNN, ↓xIsTN, ↓xIsLN, ↓xIsIN, ↓xIsSN, ↓xIsRN, ↓xNoBB, ↓xNoNN, ↓xNoTN, ↓xNoLN, ↓xNoIN, ↓xNoSN, ↓xNoRN, ↓xInT, ↓xIx, ↓xIxT, ↓xIxL, ↓at0, ↓at1, ↓at2, ↓at3, ↓at4, ↓at5, ↓xSl, ↓xNo, ↓xInt, ↓xPart, ↓xCutT, ↓xCutL, ↓xCB, ↓xLenT, ↓xLenL, ↓xIntI, ↓xTupT, ↓xTupL, ↓xLstT, ↓xLstL, ↓xIsiT, ↓xIsiI, ↓xIsiB, ↓xIsiS, ↓xMax2, ↓xMin2, ↓xSum, ↓xAll, ↓xApp, ↓xFld, ↓xFldS, ↓xGFd, ↓xCall, ↓xMeth, ↓xProp, ↓xNeg, ↓xNegI, ↓suIx0, ↓suIx1, ↓suIx2, ↓suIx3, ↓rwIx0, ↓rwIx1, ↓rwIx2, ↓rwIx3, ↓rwIx4, ↓rwIx5, ↓rwNo, ↓ddG, ↓ddS, ↓ddP, ↓ddGo, ↓liN, ↓liNe, if_true, if_false, Bool.false_eq_true, Bool.true_eq_false, reduceIte, Bool.not_true, Bool.not_false, decide_eq_true_eq, Bool.not_eq_true', decide_eq_false_iff_not, not_true_eq_false, not_false_eq_true, and_true, true_and, true_implies, List.length_cons, List.length_nil, Nat.zero_le, decide_true, decide_false, decide_not, g1, g2, ↓xTupR upm_same, List.length_map, h3, le2, le3] at q ⊢
        exact q
    · have e : lostF (beatF su r t c) = (beatF su r t c).left := if_pos (.inl g1)
      simp only [e] at q
      simp only [↓xSeq, ↓xNx, ↓xRt, ↓xBk, ↓xCt, ↓xEndNx, ↓xEndRt, ↓xNext, ↓xBreak, ↓xCont, ↓xDrop, ↓xRet, ↓xRetN, ↓xNever, ↓xIfS, ↓xPut0, ↓xPutS, ↓xSet, ↓xAug, ↓xAsg, ↓xUn2, ↓xUn1, ↓xPar, ↓xNm, ↓xNl, ↓xCn, ↓xSq, ↓xSqL, ↓xV0, ↓xVS, ↓xC, ↓xFrz, ↓xFrz1, ↓xOp, ↓xBl, ↓xB, ↓xChain, ↓xAnd, ↓xOr, ↓xNot, ↓xAndV, ↓xOrV, ↓xNotV, ↓xIf, ↓xNil, ↓xCons, ↓xTup, ↓xLst, ↓xLstO, ↓xOpt, ↓xAddI, ↓xAddT, ↓xAddL, ↓xSub, ↓xIAdd, ↓xFdiv, ↓xMod, ↓xPow, ↓xMul, ↓xLt, ↓xLe, ↓xGt, ↓xGe, ↓xEqI, ↓xNeI, ↓xEqB, ↓xNeB, ↓xIsBB, ↓xIsNN, ↓xIsTN, ↓xIsLN, ↓xIsIN, ↓xIsSN, ↓xIsRN, ↓xNoBB, ↓xNoNN, ↓xNoTN, ↓xNoLN, ↓xNoIN, ↓xNoSN, ↓xNoRN, ↓xInT, ↓xIx, ↓xIxT, ↓xIxL, ↓at0, ↓at1, ↓at2, ↓at3, ↓at4, ↓at5, ↓xSl, ↓xNo, ↓xInt, ↓xPart, ↓xCutT, ↓xCutL, ↓xCB, ↓xLenT, ↓xLenL, ↓xIntI, ↓xTupT, ↓xTupL, ↓xLstT, ↓xLstL, ↓xIsiT, ↓xIsiI, ↓xIsiB, ↓xIsiS, ↓xMax2, ↓xMin2, ↓xSum, ↓xAll, ↓xApp, ↓xFld, ↓xFldS, ↓xGFd, ↓xCall, ↓xMeth, ↓xProp, ↓xNeg, ↓xNegI, ↓suIx0, ↓suIx1, ↓suIx2, ↓suIx3, ↓rwIx0, ↓rwIx1, ↓rwIx2, ↓rwIx3, ↓rwIx4, ↓rwIx5, ↓rwNo, ↓ddG, ↓ddS, ↓ddP, ↓ddGo, ↓liN, ↓liNe, if_true, if_false, Bool.false_eq_true, Bool.true_eq_false, reduceIte, Bool.not_true, Bool.not_false, decide_eq_true_eq, Bool.not_eq_true', decide_eq_false_iff_not, not_true_eq_false, not_false_eq_true, and_true, true_and, true_implies, List.length_cons, List.length_nil, Nat.zero_le, decide_true, decide_false, decide_not, g1, ↓xTupR upm_same, List.length_map, h3, le2, le3] at q ⊢
      exact q
end DL

/-! An instance compared with what is none. -/
namespace DL
open PySem PySem.Spec PyProof.Rows L2
section
variable {X : Cx} {G : Gx} {j k : Nat} {S : DSp} {C : Addr} {e : Expr} {pos p : Pos} {d : DT}
def plainT (t : String) : Prop := t = "NoneType" ∨ t = "tuple" ∨ t = "list"
theorem sub_of {K : PySem.W.Frag} {t : String} {C : Addr} (h : PySem.W.kitOne K (.type t) (.ref C) = some false) : PySem.W.subIn K (.type t) (.ref C) = some false := by
  unfold PySem.W.kitOne PySem.W.kitCls at h
  have e : (Value.type t == Value.ref C) = false := rfl
  rw [e, if_neg Bool.false_ne_true] at h
  by_cases hc : ((PySem.W.clsIn K C).isSome && PySem.W.typeIn K (.ref C) == some (.type "type")) = true
  · simp only [hc, if_true] at h; exact h
  · simp only [hc] at h; cases h
theorem plain_sub {K : PySem.W.Frag} {t : String} {C : Addr} (h : HasI K C) (ht : plainT t) : PySem.W.notFirst K C (.type t) = true := by
  have : PySem.W.subIn K (.type t) (.ref C) = some false := by
    rcases ht with rfl | rfl | rfl
    · exact sub_of h.non
    · exact sub_of h.tup
    · exact sub_of h.lst
  unfold PySem.W.notFirst
  rw [this]
  simp
/-- x == y of an instance and of none, a tuple, a list -/
def dEqOther (C : Addr) (S : DSp) : D2 := fun x y M Q => ∃ a fs t, x = .ref a ∧ M a = some (.ins C fs) ∧ tyn M y = some t ∧ plainT t ∧ S [.ref a, y] M Q (fun _ _ => False)
theorem od_eqOther (h : HasS X.prog X.w X.K X.mg X.base C "__eq__" k S) (hi : HasI X.K C) (hr : Room j X.A) (hk : k ≤ j) : OpD X (compareOp .Eq) (dEqOther C S) := by
  intro pins s σ H v w v' w' Q I rv rw' ⟨x, y, M, DQ, r, g1, g2, ⟨a, fs, t, e1, m1, ht, hp, q⟩, kp⟩
  subst e1
  cases g1
  cases rv
  obtain ⟨f, fd, ps, hs, hf, hb, F⟩ := h
  obtain ⟨dx, fv, h1, _, _⟩ := r a _ m1
  obtain ⟨mA, J, _⟩ := ins_get I.hok h1
  obtain ⟨od, J, _⟩ := J.look
  obtain ⟨P, kx, hP, _⟩ := L2.kit_of I rw' (tyn_sound r g2 ht)
  obtain ⟨m, hF⟩ := I.fr
  show wpAny _ _ (richCompare .Eq (.ref a) w') _ _ _
  refine PySem.W.cmp_K (op := .Eq) (tb := .type t) hr.units0 hF I.ok.mod.kin J (kx.ty _ _ I.kIn hP) (plain_sub hi hp) hs hf ?_
  refine wpAny_mono (run_fn (E := E0) (us := [.ref a, w']) (vs := [.ref a, w]) F (hr.mono hk) hb .nil no0 I (.cons rfl (.cons rw' .nil)) ⟨[.ref a, y], M, DQ, _, r, .cons (.ref a) (.cons g2 .nil), q, kp, fun _ _ _ _ _ _ z => z.elim⟩) (fun w2 s' z => ?_) fun _ _ z => z
  obtain ⟨z', H', I', rz, qz⟩ := z
  exact SlX.cmpback rz ⟨z', H', I', rz, qz⟩
end
def isPl : D → Prop
  | .non => True
  | .tup _ => True
  | .lst _ => True
  | _ => False
/-- == with whatever -/
def S_eqA (C : Addr) : DSp := fun ds M Q dx => S_eq C ds M Q dx ∨ ∃ a p q e s y, ds = [.ref a, y] ∧ LiftAt C M a p q e s ∧ isPl y ∧ Q (.bl false) M
theorem b_eqA {C ds M Q dx} (h : S_eqA C ds M Q dx) : d_Lift___eq__ C (endD Q) (startD ["self", "other"] ds) M := by
  rcases h with h | ⟨a, p, q, e, s, y, rfl, h, hy, hq⟩
  · exact b_eq h
  · show d_Lift___eq__ C (endD Q) [some (.ref a), some y] M
    unfold d_Lift___eq__
    have hi : ∀ Q : DK, Q (.bl false) M → dIsiC C [y, .ref C] M Q := fun Q q => ⟨y, false, rfl, (by cases y <;> first | rfl | exact hy.elim), q⟩
    simp only [↓xSeq, ↓xNx, ↓xRt, ↓xBk, ↓xCt, ↓xEndNx, ↓xEndRt, ↓xNext, ↓xBreak, ↓xCont, ↓xDrop, ↓xRet, ↓xRetN, ↓xNever, ↓xIfS, ↓xPut0, ↓xPutS, ↓xSet, ↓xAug, ↓xAsg, ↓xUn2, ↓xUn1, ↓xPar, ↓xNm, ↓xNl, ↓xCn, ↓xSq, ↓xSqL, ↓xV0, ↓xVS, ↓xC, ↓xFrz, ↓xFrz1, ↓xOp, ↓xBl, ↓xB, ↓xChain, ↓xAnd, ↓xOr, ↓xNot, ↓xAndV, ↓xOrV, ↓xNotV, ↓xIf, ↓xNil, ↓xCons, ↓xTup, ↓xLst, ↓xLstO, ↓xOpt, ↓xAddI, ↓xAddT, ↓xAddL, ↓xSub, ↓xIAdd, ↓xFdiv, ↓xMod, ↓xPow, ↓xMul, ↓xLt, ↓xLe, ↓xGt, ↓xGe, ↓xEqI, ↓xNeI, ↓xEqB, ↓xNeB, ↓xIsBB, ↓xIsNN, ↓xIsTN, ↓xIsLN, ↓xIsIN, ↓xIsSN, ↓xIsRN, ↓xNoBB, ↓xNoNN, ↓xNoTN, ↓xNoLN, ↓xNoIN, ↓xNoSN, ↓xNoRN, ↓xInT, ↓xIx, ↓xIxT, ↓xIxL, ↓at0, ↓at1, ↓at2, ↓at3, ↓at4, ↓at5, ↓xSl, ↓xNo, ↓xInt, ↓xPart, ↓xCutT, ↓xCutL, ↓xCB, ↓xLenT, ↓xLenL, ↓xIntI, ↓xTupT, ↓xTupL, ↓xLstT, ↓xLstL, ↓xIsiT, ↓xIsiI, ↓xIsiB, ↓xIsiS, ↓xMax2, ↓xMin2, ↓xSum, ↓xAll, ↓xApp, ↓xFld, ↓xFldS, ↓xGFd, ↓xCall, ↓xMeth, ↓xProp, ↓xNeg, ↓xNegI, ↓suIx0, ↓suIx1, ↓suIx2, ↓suIx3, ↓rwIx0, ↓rwIx1, ↓rwIx2, ↓rwIx3, ↓rwIx4, ↓rwIx5, ↓rwNo, ↓ddG, ↓ddS, ↓ddP, ↓ddGo, ↓liN, ↓liNe, ↓xFldX, ↓xFldWX, ↓xAppAX, ↓xAppBX, ↓xPop, ↓xPopK, ↓xLast, ↓xMthX, ↓xPrpX, ↓insU, ↓insN, ↓lsU, ↓lsN, ↓lk0, ↓lk1, ↓lk2, ↓lk3, ↓lk4, ↓lk5, ↓lk6, if_true, if_false, Bool.false_eq_true, Bool.true_eq_false, reduceIte, Bool.not_true, Bool.not_false, decide_eq_true_eq, Bool.not_eq_true', decide_eq_false_iff_not, not_true_eq_false, not_false_eq_true, and_true, true_and, true_implies, List.length_cons, List.length_nil, Nat.zero_le, decide_true, decide_false, decide_not, fl_len, pt2, pt3, pt4, pt5, pt6]
    refine hi _ ?_
    simp only [↓xSeq, ↓xNx, ↓xRt, ↓xBk, ↓xCt, ↓xEndNx, ↓xEndRt, ↓xNext, ↓xBreak, ↓xCont, ↓xDrop, ↓xRet, ↓xRetN, ↓xNever, ↓xIfS, ↓xPut0, ↓xPutS, ↓xSet, ↓xAug, ↓xAsg, ↓xUn2, ↓xUn1, ↓xPar, ↓xNm, ↓xNl, ↓xCn, ↓xSq, ↓xSqL, ↓xV0, ↓xVS, ↓xC, ↓xFrz, ↓xFrz1, ↓xOp, ↓xBl, ↓xB, ↓xChain, ↓xAnd, ↓xOr, ↓xNot, ↓xAndV, ↓xOrV, ↓xNotV, ↓xIf, ↓xNil, ↓xCons, ↓xTup, ↓xLst, ↓xLstO, ↓xOpt, ↓xAddI, ↓xAddT, ↓xAddL, ↓xSub, ↓xIAdd, ↓xFdiv, ↓xMod, ↓xPow, ↓xMul, ↓xLt, ↓xLe, ↓xGt, ↓xGe, ↓xEqI, ↓xNeI, ↓xEqB, ↓xNeB, ↓xIsBB, ↓xIsNN, ↓xIsTN, ↓xIsLN, ↓xIsIN, ↓xIsSN, ↓xIsRN, ↓xNoBB, ↓xNoNN, ↓xNoTN, ↓xNoLN, ↓xNoIN, ↓xNoSN, ↓xNoRN, ↓xInT, ↓xIx, ↓xIxT, ↓xIxL, ↓at0, ↓at1, ↓at2, ↓at3, ↓at4, ↓at5, ↓xSl, ↓xNo, ↓xInt, ↓xPart, ↓xCutT, ↓xCutL, ↓xCB, ↓xLenT, ↓xLenL, ↓xIntI, ↓xTupT, ↓xTupL, ↓xLstT, ↓xLstL, ↓xIsiT, ↓xIsiI, ↓xIsiB, ↓xIsiS, ↓xMax2, ↓xMin2, ↓xSum, ↓xAll, ↓xApp, ↓xFld, ↓xFldS, ↓xGFd, ↓xCall, ↓xMeth, ↓xProp, ↓xNeg, ↓xNegI, ↓suIx0, ↓suIx1, ↓suIx2, ↓suIx3, ↓rwIx0, ↓rwIx1, ↓rwIx2, ↓rwIx3, ↓rwIx4, ↓rwIx5, ↓rwNo, ↓ddG, ↓ddS, ↓ddP, ↓ddGo, ↓liN, ↓liNe, ↓xFldX, ↓xFldWX, ↓xAppAX, ↓xAppBX, ↓xPop, ↓xPopK, ↓xLast, ↓xMthX, ↓xPrpX, ↓insU, ↓insN, ↓lsU, ↓lsN, ↓lk0, ↓lk1, ↓lk2, ↓lk3, ↓lk4, ↓lk5, ↓lk6, if_true, if_false, Bool.false_eq_true, Bool.true_eq_false, reduceIte, Bool.not_true, Bool.not_false, decide_eq_true_eq, Bool.not_eq_true', decide_eq_false_iff_not, not_true_eq_false, not_false_eq_true, and_true, true_and, true_implies, List.length_cons, List.length_nil, Nat.zero_le, decide_true, decide_false, decide_not, fl_len, pt2, pt3, pt4, pt5, pt6]
    exact fin hq
theorem x_eqA {C : Addr} {a p q e a' p' q' e' : Addr} {M : Mp} {s t : LS} {Q : DK} (h : LiftAt C M a p q e s) (k : LiftAt C M a' p' q' e' t) (e1 : s.su = t.su) (e2 : s.first = t.first) : dEqOwn C (S_eqA C) (.ref a) (.ref a') M Q = Q (.bl (eqB s t)) M := by
  refine propext ⟨fun ⟨_, _, _, _, e1, e2, _, _, hs⟩ => ?_, fun q => ⟨_, _, _, _, rfl, rfl, h.ins, k.ins, .inl ⟨_, _, _, _, _, _, _, _, _, _, rfl, h, k, e1, e2, q⟩⟩⟩
  cases e1; cases e2
  rcases hs with ⟨_, _, _, _, u, _, _, _, _, v, e3, h1, h2, _, _, q⟩ | ⟨_, _, _, _, _, y, e3, _, hy, _⟩
  · cases e3
    obtain ⟨_, _, _, rfl⟩ := h.uniq h1
    obtain ⟨_, _, _, rfl⟩ := k.uniq h2
    exact q
  · cases e3; exact hy.elim
theorem x_eqO {C : Addr} {a p q e : Addr} {M : Mp} {s : LS} {Q : DK} {y : D} (h : LiftAt C M a p q e s) (hy : isPl y) : dEqOther C (S_eqA C) (.ref a) y M Q = Q (.bl false) M := by
  refine propext ⟨fun ⟨_, _, _, e1, _, _, _, hs⟩ => ?_, fun q' => ?_⟩
  · cases e1
    rcases hs with ⟨_, _, _, _, u, _, _, _, _, v, e3, h1, h2, _, _, q⟩ | ⟨_, _, _, _, _, y, e3, _, _, q⟩
    · cases e3; exact hy.elim
    · cases e3; exact q
  · have : ∃ t, tyn M y = some t ∧ plainT t := by
      cases y <;> first | exact ⟨_, rfl, .inl rfl⟩ | exact ⟨_, rfl, .inr (.inl rfl)⟩ | exact ⟨_, rfl, .inr (.inr rfl)⟩ | exact hy.elim
    obtain ⟨t, h1, h2⟩ := this
    exact ⟨_, _, t, rfl, h.ins, h1, h2, .inr ⟨_, _, _, _, _, _, rfl, h, hy, q'⟩⟩
end DL

/-! The laws' own model of a lift over data (printed by gen.py). -/
namespace DL
open PySem PySem.Spec PyProof.Rows L2
def d__law_moved (S__law_beat : DSp) : DS :=
  (dSeq (dAsg (dVar 0) (gSq 5 (gCn (gNm 2) (gCn (gNm 3) (gCn (gNm 4) (gCn (gNm 5) (gCn (gNm 6) gNl)))))))
    (dSeq (dIfS (dB (dOp dEq (dIx (dVar 1) (dC (.int 0))) (dC (.str "rule")))) (dRet (dTup (dCons (dVar 2) (dCons (dOp dAdd (dVar 3) (dLst (dCons (dIx (dVar 1) (dC (.int 1))) dNil))) (dCons (dOp dAdd (dVar 4) (dLst (dCons (dIx (dVar 4) (dNeg (dC (.int 1)))) dNil))) (dCons (dVar 5) (dCons (dOp dAdd (dVar 6) (dLst (dCons (dVar 1) dNil))) dNil))))))) dNext)
    (dSeq (dAsg (dCall S__law_beat [] G0.dx (dCons (dVar 2) (dCons (dIx (dVar 3) (dNeg (dC (.int 1)))) (dCons (dIx (dVar 4) (dNeg (dC (.int 1)))) (dCons (dIx (dVar 1) (dC (.int 1))) dNil))))) (gSq 2 (gCn (gNm 7) (gCn (gNm 8) gNl))))
    (dRet (dTup (dCons (dVar 2) (dCons (dOp dAdd (dVar 3) (dLst (dCons (dIx (dVar 3) (dNeg (dC (.int 1)))) dNil))) (dCons (dOp dAdd (dVar 4) (dLst (dCons (dVar 8) dNil))) (dCons (dOp dAdd (dVar 5) (dLst (dCons (dVar 7) dNil))) (dCons (dOp dAdd (dVar 6) (dLst (dCons (dVar 1) dNil))) dNil))))))))))
def d__law_undone : DS :=
  (dSeq (dAsg (dVar 0) (gSq 5 (gCn (gNm 1) (gCn (gNm 2) (gCn (gNm 3) (gCn (gNm 4) (gCn (gNm 5) gNl)))))))
    (dSeq (dIfS (dB (dOp dEq (dIx (dIx (dVar 5) (dNeg (dC (.int 1)))) (dC (.int 0))) (dC (.str "beat")))) (dSet 4 (dSl (dVar 4) dNo (dPart (dNeg (dC (.int 1)))))) dNext)
    (dRet (dTup (dCons (dVar 1) (dCons (dSl (dVar 2) dNo (dPart (dNeg (dC (.int 1))))) (dCons (dSl (dVar 3) dNo (dPart (dNeg (dC (.int 1))))) (dCons (dVar 4) (dCons (dSl (dVar 5) dNo (dPart (dNeg (dC (.int 1))))) dNil)))))))))
def d__law_new : DS :=
  (dRet (dTup (dCons (dVar 0) (dCons (dLst (dCons (dVar 1) dNil)) (dCons (dLst (dCons (dTup (dCons (dC (.int 0)) (dCons (dTup dNil) (dCons (dC (.int 0)) (dCons (dC (.int 0)) dNil))))) dNil)) (dCons (dLst dNil) (dCons (dLst dNil) dNil)))))))
def d__law_row_of : DS :=
  (dRet (dLc (dIsq (dIx (dVar 0) (dC (.int 4)))) (.one 1) [1] (dB (dOp dEq (dIx (dVar 1) (dC (.int 0))) (dC (.str "beat")))) (dIx (dVar 1) (dC (.int 1)))))
end DL

/-! The laws' own model of a lift. -/
namespace DL
open PySem PySem.Spec PyProof.Rows L2
def rulesD (s : LS) : List D := s.earlier.map (fun x => rl x.1) ++ [rl s.present]
def statesD (s : LS) : List D := s.earlier.map (fun x => x.2.d) ++ [s.here.d]
def modD (s : LS) : D := .tup [s.su.d, .lst (rulesD s), .lst (statesD s), .lst (s.gone.map Ch.d), .lst (s.done.map Step.d)]
theorem ixLast {n : Nat} : ixN (n + 1) (-1) = some n := lastAt
theorem atLast {l : List D} {x : D} {Q : D → Prop} : optK (atI (l ++ [x]) (-1)) Q = Q x := by
  have : atI (l ++ [x]) (-1) = some x := by
    unfold atI
    rw [List.length_append]
    show ((ixN (l.length + 1) (-1)).bind fun j => (l ++ [x])[j]?) = _
    rw [ixLast]
    show (l ++ [x])[l.length]? = some x
    rw [List.getElem?_append_right (Nat.le_refl _), Nat.sub_self]; rfl
  rw [this, xOpt]
theorem cutLast {l : List D} {x : D} : cutD (l ++ [x]) none (some (-1)) = l := by
  unfold cutD
  have e : HT.sIx (l ++ [x]).length (l ++ [x]).length (some (-1)) = l.length := by
    show (if (-1 : Int) < 0 then ((-1 : Int) + ((l ++ [x]).length : Int)).toNat else min (-1 : Int).toNat (l ++ [x]).length) = _
    rw [if_pos (by decide), List.length_append, List.length_singleton]
    omega
  rw [e, HT.sIx_none, Nat.sub_zero, List.drop_zero]
  simp
/-- how a lift came to stand as it does -/
structure Hs where
  su : Su
  r : List Rw
  xs : List Step
def Hs.s (h : Hs) : LS := (LS.init h.su h.r).acts h.xs
structure Hs.ok (h : Hs) (n : Nat) : Prop where
  su : h.su.ok
  r : Rok h.r
  xs : ∀ x ∈ h.xs, x.ok h.su
  len : h.xs.length ≤ n
def Hs.snoc (h : Hs) (x : Step) : Hs := ⟨h.su, h.r, h.xs ++ [x]⟩
theorem Hs.snoc_s (h : Hs) (x : Step) : (h.snoc x).s = h.s.act x := acts_snoc _ _ _
theorem Hs.su_s (h : Hs) : h.s.su = h.su := acts_su _ _
theorem Hs.first_s (h : Hs) : h.s.first = h.r := acts_first _ _
theorem Hs.done_s (h : Hs) : h.s.done = h.xs := (acts_done _ _).trans (List.nil_append _)
theorem Hs.ok.okN {h : Hs} {n : Nat} (o : h.ok n) : OkN h.s n := ((acts_okN h.xs _ 0 (OkN.init o.su o.r) o.xs).mono (by have := o.len; omega))
theorem Hs.ok.lsok {h : Hs} {n : Nat} (o : h.ok n) (hn : n ≤ 5000) : h.s.ok := o.okN.ok hn
theorem Hs.ok.mono {h : Hs} {n m : Nat} (o : h.ok n) (hn : n ≤ m) : h.ok m := ⟨o.su, o.r, o.xs, Nat.le_trans o.len hn⟩
theorem Hs.ok.snoc {h : Hs} {n : Nat} {x : Step} (o : h.ok n) (hx : x.ok h.su) : (h.snoc x).ok (n + 1) :=
  ⟨o.su, o.r, fun y hy => by
    rcases List.mem_append.mp hy with h' | h'
    · exact o.xs y h'
    · rw [List.mem_singleton.mp h']; exact hx, by show (h.xs ++ [x]).length ≤ n + 1; rw [List.length_append]; have := o.len; simp; omega⟩
/-- its last step taken away -/
theorem Hs.last (h : Hs) : h.xs = [] ∨ ∃ (g : Hs) (x : Step), h = g.snoc x := by
  rcases List.eq_nil_or_concat h.xs with e | ⟨l, x, e⟩
  · exact .inl e
  · refine .inr ⟨⟨h.su, h.r, l⟩, x, ?_⟩
    cases h
    simp only [Hs.snoc] at *
    rw [e]; simp
theorem Hs.ok.pre {g : Hs} {x : Step} {n : Nat} (o : (g.snoc x).ok n) : g.ok n ∧ x.ok g.su := by
  have h1 := o.len
  have e : (g.snoc x).xs.length = g.xs.length + 1 := by simp [Hs.snoc]
  exact ⟨⟨o.su, o.r, fun y hy => o.xs y (List.mem_append_left _ hy), by omega⟩, o.xs x (List.mem_append_right _ (List.mem_singleton.mpr rfl))⟩
theorem act_okS {s : LS} {x : Step} (hs : s.su.ok) (h : s.here.okS s.su) (hx : x.ok s.su) : (s.act x).here.okS s.su := by
  cases x with
  | beat c => exact after_okS hs h (show c.ok s.su from hx).m0
  | rule r => exact h
theorem acts_okS : ∀ (xs : List Step) (s : LS), s.su.ok → s.here.okS s.su → (∀ x ∈ xs, x.ok s.su) → (s.acts xs).here.okS s.su
  | [], s, _, h, _ => h
  | x :: xs, s, hs, h, hx => by
    have h1 := act_okS hs h (hx x (List.mem_cons_self ..))
    have := acts_okS xs (s.act x) (by rw [act_su]; exact hs) (by rw [act_su]; exact h1) (fun y hy => by rw [act_su]; exact hx y (List.mem_cons_of_mem _ hy))
    rw [act_su] at this
    exact this
theorem Hs.ok.okS {h : Hs} {n : Nat} (o : h.ok n) : h.s.here.okS h.su := acts_okS h.xs (LS.init h.su h.r) o.su (st0_okS o.su) o.xs
theorem act_earlier (s : LS) (x : Step) : (s.act x).earlier = s.earlier ++ [(s.present, s.here)] := by cases x <;> rfl
theorem rulesD_len (s : LS) : (rulesD s).length = s.earlier.length + 1 := by unfold rulesD; simp
theorem statesD_len (s : LS) : (statesD s).length = s.earlier.length + 1 := by unfold statesD; simp
theorem rulesD_act (s : LS) (x : Step) : rulesD (s.act x) = rulesD s ++ [rl (s.act x).present] := by
  unfold rulesD
  rw [act_earlier, List.map_append]; rfl
theorem statesD_act (s : LS) (x : Step) : statesD (s.act x) = statesD s ++ [(s.act x).here.d] := by
  unfold statesD
  rw [act_earlier, List.map_append]; rfl
def S_moved : DSp := fun ds M Q _ => ∃ (h : Hs) (x : Step) (n : Nat), ds = [modD h.s, x.d] ∧ (h.ok n ∧ x.ok h.su ∧ n ≤ 4000) ∧ Q (modD (h.s.act x)) M
theorem sz {n : Nat} (h : n ≤ 9000) : n ≤ sizeLine := Nat.le_trans h (by decide)
theorem b_moved {ds M Q dx} (h : S_moved ds M Q dx) : d__law_moved S_lawbeat (endD Q) (startD ["model", "step", "setup", "rules", "states", "chairs", "steps", "chair", "after"] ds) M := by
  obtain ⟨h, x, n, rfl, ⟨o, ox, hn⟩, q⟩ := h
  show d__law_moved _ (endD Q) [some (modD h.s), some x.d, none, none, none, none, none, none, none] M
  unfold d__law_moved
  have l1 := o.okN.earlier
  have l2 := o.okN.gone
  have l3 := o.okN.done
  have s1 : (rulesD h.s).length + 1 ≤ sizeLine := sz (by rw [rulesD_len]; omega)
  have s2 : (statesD h.s).length + 1 ≤ sizeLine := sz (by rw [statesD_len]; omega)
  have s3 : h.s.gone.length + 1 ≤ sizeLine := sz (by omega)
  have s4 : h.s.done.length + 1 ≤ sizeLine := sz (by omega)
  have a1 : ∀ {Q : D → Prop}, optK (atI (rulesD h.s) (-1)) Q = Q (rl h.s.present) := atLast
  have a2 : ∀ {Q : D → Prop}, optK (atI (statesD h.s) (-1)) Q = Q h.s.here.d := atLast
  have q : ∃ M'', Sub M'' M ∧ Q (modD (h.s.act x)) M'' := fin q
  unfold modD at q ⊢
  rw [rulesD_act, statesD_act] at q
  cases x with
  | rule r =>
    simp only [↓xSeq, ↓xNx, ↓xRt, ↓xBk, ↓xCt, ↓xEndNx, ↓xEndRt, ↓xNext, ↓xBreak, ↓xCont, ↓xDrop, ↓xRet, ↓xRetN, ↓xNever, ↓xIfS, ↓xPut0, ↓xPutS, ↓xSet, ↓xAug, ↓xAsg, ↓xUn2, ↓xUn1, ↓xPar, ↓xNm, ↓xNl, ↓xCn, ↓xSq, ↓xSqL, ↓xV0, ↓xVS, ↓xC, ↓xFrz, ↓xFrz1, ↓xOp, ↓xBl, ↓xB, ↓xChain, ↓xAnd, ↓xOr, ↓xNot, ↓xAndV, ↓xOrV, ↓xNotV, ↓xIf, ↓xNil, ↓xCons, ↓xTup, ↓xLst, ↓xLstO, ↓xOpt, ↓xAddI, ↓xAddT, ↓xAddL, ↓xSub, ↓xIAdd, ↓xFdiv, ↓xMod, ↓xPow, ↓xMul, ↓xLt, ↓xLe, ↓xGt, ↓xGe, ↓xEqI, ↓xNeI, ↓xEqB, ↓xNeB, ↓xIsBB, ↓xIsNN, ↓xIsTN, ↓xIsLN, ↓xIsIN, ↓xIsSN, ↓xIsRN, ↓xNoBB, ↓xNoNN, ↓xNoTN, ↓xNoLN, ↓xNoIN, ↓xNoSN, ↓xNoRN, ↓xInT, ↓xIx, ↓xIxT, ↓xIxL, ↓at0, ↓at1, ↓at2, ↓at3, ↓at4, ↓at5, ↓xSl, ↓xNo, ↓xInt, ↓xPart, ↓xCutT, ↓xCutL, ↓xCB, ↓xLenT, ↓xLenL, ↓xIntI, ↓xTupT, ↓xTupL, ↓xLstT, ↓xLstL, ↓xIsiT, ↓xIsiI, ↓xIsiB, ↓xIsiS, ↓xMax2, ↓xMin2, ↓xSum, ↓xAll, ↓xApp, ↓xFld, ↓xFldS, ↓xGFd, ↓xCall, ↓xMeth, ↓xProp, ↓xNeg, ↓xNegI, ↓suIx0, ↓suIx1, ↓suIx2, ↓suIx3, ↓rwIx0, ↓rwIx1, ↓rwIx2, ↓rwIx3, ↓rwIx4, ↓rwIx5, ↓rwNo, ↓ddG, ↓ddS, ↓ddP, ↓ddGo, ↓liN, ↓liNe, if_true, if_false, Bool.false_eq_true, Bool.true_eq_false, reduceIte, Bool.not_true, Bool.not_false, decide_eq_true_eq, Bool.not_eq_true', decide_eq_false_iff_not, not_true_eq_false, not_false_eq_true, and_true, true_and, true_implies, List.length_cons, List.length_nil, Nat.zero_le, decide_true, decide_false, decide_not, ↓stIx0, ↓stIx1, ↓eqRB, Step.isB, Step.arg, ↓a1, ↓a2, List.length_append, List.length_map, s1, s2, s3, s4, le1, le5]
    rw [← map_snoc]
    exact q
  | beat c =>
    have hs := h.su_s
    simp only [↓xSeq, ↓xNx, ↓xRt, ↓xBk, ↓xCt, ↓xEndNx, ↓xEndRt, ↓xNext, ↓xBreak, ↓xCont, ↓xDrop, ↓xRet, ↓xRetN, ↓xNever, ↓xIfS, ↓xPut0, ↓xPutS, ↓xSet, ↓xAug, ↓xAsg, ↓xUn2, ↓xUn1, ↓xPar, ↓xNm, ↓xNl, ↓xCn, ↓xSq, ↓xSqL, ↓xV0, ↓xVS, ↓xC, ↓xFrz, ↓xFrz1, ↓xOp, ↓xBl, ↓xB, ↓xChain, ↓xAnd, ↓xOr, ↓xNot, ↓xAndV, ↓xOrV, ↓xNotV, ↓xIf, ↓xNil, ↓xCons, ↓xTup, ↓xLst, ↓xLstO, ↓xOpt, ↓xAddI, ↓xAddT, ↓xAddL, ↓xSub, ↓xIAdd, ↓xFdiv, ↓xMod, ↓xPow, ↓xMul, ↓xLt, ↓xLe, ↓xGt, ↓xGe, ↓xEqI, ↓xNeI, ↓xEqB, ↓xNeB, ↓xIsBB, ↓xIsNN, ↓xIsTN, ↓xIsLN, ↓xIsIN, ↓xIsSN, ↓xIsRN, ↓xNoBB, ↓xNoNN, ↓xNoTN, ↓xNoLN, ↓xNoIN, ↓xNoSN, ↓xNoRN, ↓xInT, ↓xIx, ↓xIxT, ↓xIxL, ↓at0, ↓at1, ↓at2, ↓at3, ↓at4, ↓at5, ↓xSl, ↓xNo, ↓xInt, ↓xPart, ↓xCutT, ↓xCutL, ↓xCB, ↓xLenT, ↓xLenL, ↓xIntI, ↓xTupT, ↓xTupL, ↓xLstT, ↓xLstL, ↓xIsiT, ↓xIsiI, ↓xIsiB, ↓xIsiS, ↓xMax2, ↓xMin2, ↓xSum, ↓xAll, ↓xApp, ↓xFld, ↓xFldS, ↓xGFd, ↓xCall, ↓xMeth, ↓xProp, ↓xNeg, ↓xNegI, ↓suIx0, ↓suIx1, ↓suIx2, ↓suIx3, ↓rwIx0, ↓rwIx1, ↓rwIx2, ↓rwIx3, ↓rwIx4, ↓rwIx5, ↓rwNo, ↓ddG, ↓ddS, ↓ddP, ↓ddGo, ↓liN, ↓liNe, if_true, if_false, Bool.false_eq_true, Bool.true_eq_false, reduceIte, Bool.not_true, Bool.not_false, decide_eq_true_eq, Bool.not_eq_true', decide_eq_false_iff_not, not_true_eq_false, not_false_eq_true, and_true, true_and, true_implies, List.length_cons, List.length_nil, Nat.zero_le, decide_true, decide_false, decide_not, ↓stIx0, ↓stIx1, ↓eqRB, Step.isB, Step.arg, ↓a1, ↓a2, List.length_append, List.length_map, s1, s2, s3, s4, le1, le5, ↓x_lawbeat]
    rw [← map_snoc, ← map_snoc]
    refine ⟨⟨by rw [hs]; exact o.su, by rw [hs]; exact o.okS, by rw [hs]; exact ox, o.okN.present⟩, q⟩
def S_undone : DSp := fun ds M Q _ => ∃ (s : LS) (x : Step), ds = [modD (s.act x)] ∧ Q (modD s) M
theorem b_undone {ds M Q dx} (h : S_undone ds M Q dx) : d__law_undone (endD Q) (startD ["model", "setup", "rules", "states", "chairs", "steps"] ds) M := by
  obtain ⟨s, x, rfl, q⟩ := h
  show d__law_undone (endD Q) [some (modD (s.act x)), none, none, none, none, none] M
  unfold d__law_undone
  have q : ∃ M'', Sub M'' M ∧ Q (modD s) M'' := fin q
  have a1 : ∀ {Q : D → Prop}, optK (atI (s.done.map Step.d ++ [x.d]) (-1)) Q = Q x.d := atLast
  unfold modD at q ⊢
  rw [rulesD_act, statesD_act, act_done, act_su, map_snoc]
  cases x with
  | rule r =>
    simp only [↓xSeq, ↓xNx, ↓xRt, ↓xBk, ↓xCt, ↓xEndNx, ↓xEndRt, ↓xNext, ↓xBreak, ↓xCont, ↓xDrop, ↓xRet, ↓xRetN, ↓xNever, ↓xIfS, ↓xPut0, ↓xPutS, ↓xSet, ↓xAug, ↓xAsg, ↓xUn2, ↓xUn1, ↓xPar, ↓xNm, ↓xNl, ↓xCn, ↓xSq, ↓xSqL, ↓xV0, ↓xVS, ↓xC, ↓xFrz, ↓xFrz1, ↓xOp, ↓xBl, ↓xB, ↓xChain, ↓xAnd, ↓xOr, ↓xNot, ↓xAndV, ↓xOrV, ↓xNotV, ↓xIf, ↓xNil, ↓xCons, ↓xTup, ↓xLst, ↓xLstO, ↓xOpt, ↓xAddI, ↓xAddT, ↓xAddL, ↓xSub, ↓xIAdd, ↓xFdiv, ↓xMod, ↓xPow, ↓xMul, ↓xLt, ↓xLe, ↓xGt, ↓xGe, ↓xEqI, ↓xNeI, ↓xEqB, ↓xNeB, ↓xIsBB, ↓xIsNN, ↓xIsTN, ↓xIsLN, ↓xIsIN, ↓xIsSN, ↓xIsRN, ↓xNoBB, ↓xNoNN, ↓xNoTN, ↓xNoLN, ↓xNoIN, ↓xNoSN, ↓xNoRN, ↓xInT, ↓xIx, ↓xIxT, ↓xIxL, ↓at0, ↓at1, ↓at2, ↓at3, ↓at4, ↓at5, ↓xSl, ↓xNo, ↓xInt, ↓xPart, ↓xCutT, ↓xCutL, ↓xCB, ↓xLenT, ↓xLenL, ↓xIntI, ↓xTupT, ↓xTupL, ↓xLstT, ↓xLstL, ↓xIsiT, ↓xIsiI, ↓xIsiB, ↓xIsiS, ↓xMax2, ↓xMin2, ↓xSum, ↓xAll, ↓xApp, ↓xFld, ↓xFldS, ↓xGFd, ↓xCall, ↓xMeth, ↓xProp, ↓xNeg, ↓xNegI, ↓suIx0, ↓suIx1, ↓suIx2, ↓suIx3, ↓rwIx0, ↓rwIx1, ↓rwIx2, ↓rwIx3, ↓rwIx4, ↓rwIx5, ↓rwNo, ↓ddG, ↓ddS, ↓ddP, ↓ddGo, ↓liN, ↓liNe, if_true, if_false, Bool.false_eq_true, Bool.true_eq_false, reduceIte, Bool.not_true, Bool.not_false, decide_eq_true_eq, Bool.not_eq_true', decide_eq_false_iff_not, not_true_eq_false, not_false_eq_true, and_true, true_and, true_implies, List.length_cons, List.length_nil, Nat.zero_le, decide_true, decide_false, decide_not, ↓a1, ↓stIx0, ↓stIx1, ↓eqBR, Step.isB, xNegI, cutLast, le5]
    exact q
  | beat c =>
    have e : (s.act (.beat c)).gone.map Ch.d = s.gone.map Ch.d ++ [(chair s.su s.present s.here c).d] := map_snoc _ _ _
    rw [e]
    simp only [↓xSeq, ↓xNx, ↓xRt, ↓xBk, ↓xCt, ↓xEndNx, ↓xEndRt, ↓xNext, ↓xBreak, ↓xCont, ↓xDrop, ↓xRet, ↓xRetN, ↓xNever, ↓xIfS, ↓xPut0, ↓xPutS, ↓xSet, ↓xAug, ↓xAsg, ↓xUn2, ↓xUn1, ↓xPar, ↓xNm, ↓xNl, ↓xCn, ↓xSq, ↓xSqL, ↓xV0, ↓xVS, ↓xC, ↓xFrz, ↓xFrz1, ↓xOp, ↓xBl, ↓xB, ↓xChain, ↓xAnd, ↓xOr, ↓xNot, ↓xAndV, ↓xOrV, ↓xNotV, ↓xIf, ↓xNil, ↓xCons, ↓xTup, ↓xLst, ↓xLstO, ↓xOpt, ↓xAddI, ↓xAddT, ↓xAddL, ↓xSub, ↓xIAdd, ↓xFdiv, ↓xMod, ↓xPow, ↓xMul, ↓xLt, ↓xLe, ↓xGt, ↓xGe, ↓xEqI, ↓xNeI, ↓xEqB, ↓xNeB, ↓xIsBB, ↓xIsNN, ↓xIsTN, ↓xIsLN, ↓xIsIN, ↓xIsSN, ↓xIsRN, ↓xNoBB, ↓xNoNN, ↓xNoTN, ↓xNoLN, ↓xNoIN, ↓xNoSN, ↓xNoRN, ↓xInT, ↓xIx, ↓xIxT, ↓xIxL, ↓at0, ↓at1, ↓at2, ↓at3, ↓at4, ↓at5, ↓xSl, ↓xNo, ↓xInt, ↓xPart, ↓xCutT, ↓xCutL, ↓xCB, ↓xLenT, ↓xLenL, ↓xIntI, ↓xTupT, ↓xTupL, ↓xLstT, ↓xLstL, ↓xIsiT, ↓xIsiI, ↓xIsiB, ↓xIsiS, ↓xMax2, ↓xMin2, ↓xSum, ↓xAll, ↓xApp, ↓xFld, ↓xFldS, ↓xGFd, ↓xCall, ↓xMeth, ↓xProp, ↓xNeg, ↓xNegI, ↓suIx0, ↓suIx1, ↓suIx2, ↓suIx3, ↓rwIx0, ↓rwIx1, ↓rwIx2, ↓rwIx3, ↓rwIx4, ↓rwIx5, ↓rwNo, ↓ddG, ↓ddS, ↓ddP, ↓ddGo, ↓liN, ↓liNe, if_true, if_false, Bool.false_eq_true, Bool.true_eq_false, reduceIte, Bool.not_true, Bool.not_false, decide_eq_true_eq, Bool.not_eq_true', decide_eq_false_iff_not, not_true_eq_false, not_false_eq_true, and_true, true_and, true_implies, List.length_cons, List.length_nil, Nat.zero_le, decide_true, decide_false, decide_not, ↓a1, ↓stIx0, ↓stIx1, ↓eqBR, Step.isB, xNegI, cutLast, le5]
    exact q
def S_new : DSp := fun ds M Q _ => ∃ (su : Su) (r : List Rw), ds = [su.d, rl r] ∧ Q (modD (LS.init su r)) M
theorem x_new {su : Su} {r : List Rw} {M : Mp} {Q : DK} {dx : DX} : S_new [su.d, rl r] M Q dx = Q (modD (LS.init su r)) M :=
  propext ⟨fun ⟨_, _, e, h⟩ => by simp only [List.cons.injEq, Su.inj, rl_inj, and_true] at e; obtain ⟨rfl, rfl⟩ := e; exact h, fun h => ⟨_, _, rfl, h⟩⟩
theorem b_new {ds M Q dx} (h : S_new ds M Q dx) : d__law_new (endD Q) (startD ["setup", "rule"] ds) M := by
  obtain ⟨su, r, rfl, q⟩ := h
  show d__law_new (endD Q) [some su.d, some (rl r)] M
  unfold d__law_new
  simp only [↓xSeq, ↓xNx, ↓xRt, ↓xBk, ↓xCt, ↓xEndNx, ↓xEndRt, ↓xNext, ↓xBreak, ↓xCont, ↓xDrop, ↓xRet, ↓xRetN, ↓xNever, ↓xIfS, ↓xPut0, ↓xPutS, ↓xSet, ↓xAug, ↓xAsg, ↓xUn2, ↓xUn1, ↓xPar, ↓xNm, ↓xNl, ↓xCn, ↓xSq, ↓xSqL, ↓xV0, ↓xVS, ↓xC, ↓xFrz, ↓xFrz1, ↓xOp, ↓xBl, ↓xB, ↓xChain, ↓xAnd, ↓xOr, ↓xNot, ↓xAndV, ↓xOrV, ↓xNotV, ↓xIf, ↓xNil, ↓xCons, ↓xTup, ↓xLst, ↓xLstO, ↓xOpt, ↓xAddI, ↓xAddT, ↓xAddL, ↓xSub, ↓xIAdd, ↓xFdiv, ↓xMod, ↓xPow, ↓xMul, ↓xLt, ↓xLe, ↓xGt, ↓xGe, ↓xEqI, ↓xNeI, ↓xEqB, ↓xNeB, ↓xIsBB, ↓xIsNN, ↓xIsTN, ↓xIsLN, ↓xIsIN, ↓xIsSN, ↓xIsRN, ↓xNoBB, ↓xNoNN, ↓xNoTN, ↓xNoLN, ↓xNoIN, ↓xNoSN, ↓xNoRN, ↓xInT, ↓xIx, ↓xIxT, ↓xIxL, ↓at0, ↓at1, ↓at2, ↓at3, ↓at4, ↓at5, ↓xSl, ↓xNo, ↓xInt, ↓xPart, ↓xCutT, ↓xCutL, ↓xCB, ↓xLenT, ↓xLenL, ↓xIntI, ↓xTupT, ↓xTupL, ↓xLstT, ↓xLstL, ↓xIsiT, ↓xIsiI, ↓xIsiB, ↓xIsiS, ↓xMax2, ↓xMin2, ↓xSum, ↓xAll, ↓xApp, ↓xFld, ↓xFldS, ↓xGFd, ↓xCall, ↓xMeth, ↓xProp, ↓xNeg, ↓xNegI, ↓suIx0, ↓suIx1, ↓suIx2, ↓suIx3, ↓rwIx0, ↓rwIx1, ↓rwIx2, ↓rwIx3, ↓rwIx4, ↓rwIx5, ↓rwNo, ↓ddG, ↓ddS, ↓ddP, ↓ddGo, ↓liN, ↓liNe, if_true, if_false, Bool.false_eq_true, Bool.true_eq_false, reduceIte, Bool.not_true, Bool.not_false, decide_eq_true_eq, Bool.not_eq_true', decide_eq_false_iff_not, not_true_eq_false, not_false_eq_true, and_true, true_and, true_implies, List.length_cons, List.length_nil, Nat.zero_le, decide_true, decide_false, decide_not, le1, le3, le5]
  exact fin q
def S_rowof : DSp := fun ds M Q _ => ∃ (a b c d : D) (xs : List Step), ds = [.tup [a, b, c, d, .lst (xs.map Step.d)]] ∧ xs.length ≤ 9000 ∧ Q (.lst ((xs.filterMap Step.cm).map Cm.d)) M
theorem x_rowof {s : LS} {M : Mp} {Q : DK} {dx : DX} : S_rowof [modD s] M Q dx = (s.done.length ≤ 9000 ∧ Q (.lst ((s.done.filterMap Step.cm).map Cm.d)) M) :=
  propext ⟨fun ⟨_, _, _, _, xs, e, h⟩ => by
    simp only [modD, List.cons.injEq, D.tup.injEq, D.lst.injEq, steps_inj, and_true] at e
    rw [e.2.2.2.2]; exact h, fun h => ⟨_, _, _, _, _, rfl, h⟩⟩
theorem b_rowof {ds M Q dx} (h : S_rowof ds M Q dx) : d__law_row_of (endD Q) (startD ["model", "step"] ds) M := by
  obtain ⟨a, b, c, d, xs, rfl, hl, q⟩ := h
  show d__law_row_of (endD Q) [some (.tup [a, b, c, d, .lst (xs.map Step.d)]), none] M
  unfold d__law_row_of
  simp only [↓xSeq, ↓xNx, ↓xRt, ↓xBk, ↓xCt, ↓xEndNx, ↓xEndRt, ↓xNext, ↓xBreak, ↓xCont, ↓xDrop, ↓xRet, ↓xRetN, ↓xNever, ↓xIfS, ↓xPut0, ↓xPutS, ↓xSet, ↓xAug, ↓xAsg, ↓xUn2, ↓xUn1, ↓xPar, ↓xNm, ↓xNl, ↓xCn, ↓xSq, ↓xSqL, ↓xV0, ↓xVS, ↓xC, ↓xFrz, ↓xFrz1, ↓xOp, ↓xBl, ↓xB, ↓xChain, ↓xAnd, ↓xOr, ↓xNot, ↓xAndV, ↓xOrV, ↓xNotV, ↓xIf, ↓xNil, ↓xCons, ↓xTup, ↓xLst, ↓xLstO, ↓xOpt, ↓xAddI, ↓xAddT, ↓xAddL, ↓xSub, ↓xIAdd, ↓xFdiv, ↓xMod, ↓xPow, ↓xMul, ↓xLt, ↓xLe, ↓xGt, ↓xGe, ↓xEqI, ↓xNeI, ↓xEqB, ↓xNeB, ↓xIsBB, ↓xIsNN, ↓xIsTN, ↓xIsLN, ↓xIsIN, ↓xIsSN, ↓xIsRN, ↓xNoBB, ↓xNoNN, ↓xNoTN, ↓xNoLN, ↓xNoIN, ↓xNoSN, ↓xNoRN, ↓xInT, ↓xIx, ↓xIxT, ↓xIxL, ↓at0, ↓at1, ↓at2, ↓at3, ↓at4, ↓at5, ↓xSl, ↓xNo, ↓xInt, ↓xPart, ↓xCutT, ↓xCutL, ↓xCB, ↓xLenT, ↓xLenL, ↓xIntI, ↓xTupT, ↓xTupL, ↓xLstT, ↓xLstL, ↓xIsiT, ↓xIsiI, ↓xIsiB, ↓xIsiS, ↓xMax2, ↓xMin2, ↓xSum, ↓xAll, ↓xApp, ↓xFld, ↓xFldS, ↓xGFd, ↓xCall, ↓xMeth, ↓xProp, ↓xNeg, ↓xNegI, ↓suIx0, ↓suIx1, ↓suIx2, ↓suIx3, ↓rwIx0, ↓rwIx1, ↓rwIx2, ↓rwIx3, ↓rwIx4, ↓rwIx5, ↓rwNo, ↓ddG, ↓ddS, ↓ddP, ↓ddGo, ↓liN, ↓liNe, ↓xFldX, ↓xFldWX, ↓xAppAX, ↓xAppBX, ↓xPop, ↓xPopK, ↓xLast, ↓xMthX, ↓xPrpX, ↓insU, ↓insN, ↓lsU, ↓lsN, ↓lk0, ↓lk1, ↓lk2, ↓lk3, ↓lk4, ↓lk5, ↓lk6, if_true, if_false, Bool.false_eq_true, Bool.true_eq_false, reduceIte, Bool.not_true, Bool.not_false, decide_eq_true_eq, Bool.not_eq_true', decide_eq_false_iff_not, not_true_eq_false, not_false_eq_true, and_true, true_and, true_implies, List.length_cons, List.length_nil, Nat.zero_le, decide_true, decide_false, decide_not, fl_len, pt2, pt3, pt4, pt5, pt6]
  refine lc_pure (C := fun M' => sv M' (.lst (xs.map Step.d)) = some (xs.map Step.d)) Step.d xs Step.isB Step.arg (fun RR hr => ?_) (fun p o hp => rfl) (sz hl) (fun p ys i hp hi => ⟨[some (.tup [a, b, c, d, .lst (xs.map Step.d)]), some i.d], rfl, fun Q q => ?_, fun _ Q q => ?_⟩) ?_
  · unfold dIsq
    simp only [↓xSeq, ↓xNx, ↓xRt, ↓xBk, ↓xCt, ↓xEndNx, ↓xEndRt, ↓xNext, ↓xBreak, ↓xCont, ↓xDrop, ↓xRet, ↓xRetN, ↓xNever, ↓xIfS, ↓xPut0, ↓xPutS, ↓xSet, ↓xAug, ↓xAsg, ↓xUn2, ↓xUn1, ↓xPar, ↓xNm, ↓xNl, ↓xCn, ↓xSq, ↓xSqL, ↓xV0, ↓xVS, ↓xC, ↓xFrz, ↓xFrz1, ↓xOp, ↓xBl, ↓xB, ↓xChain, ↓xAnd, ↓xOr, ↓xNot, ↓xAndV, ↓xOrV, ↓xNotV, ↓xIf, ↓xNil, ↓xCons, ↓xTup, ↓xLst, ↓xLstO, ↓xOpt, ↓xAddI, ↓xAddT, ↓xAddL, ↓xSub, ↓xIAdd, ↓xFdiv, ↓xMod, ↓xPow, ↓xMul, ↓xLt, ↓xLe, ↓xGt, ↓xGe, ↓xEqI, ↓xNeI, ↓xEqB, ↓xNeB, ↓xIsBB, ↓xIsNN, ↓xIsTN, ↓xIsLN, ↓xIsIN, ↓xIsSN, ↓xIsRN, ↓xNoBB, ↓xNoNN, ↓xNoTN, ↓xNoLN, ↓xNoIN, ↓xNoSN, ↓xNoRN, ↓xInT, ↓xIx, ↓xIxT, ↓xIxL, ↓at0, ↓at1, ↓at2, ↓at3, ↓at4, ↓at5, ↓xSl, ↓xNo, ↓xInt, ↓xPart, ↓xCutT, ↓xCutL, ↓xCB, ↓xLenT, ↓xLenL, ↓xIntI, ↓xTupT, ↓xTupL, ↓xLstT, ↓xLstL, ↓xIsiT, ↓xIsiI, ↓xIsiB, ↓xIsiS, ↓xMax2, ↓xMin2, ↓xSum, ↓xAll, ↓xApp, ↓xFld, ↓xFldS, ↓xGFd, ↓xCall, ↓xMeth, ↓xProp, ↓xNeg, ↓xNegI, ↓suIx0, ↓suIx1, ↓suIx2, ↓suIx3, ↓rwIx0, ↓rwIx1, ↓rwIx2, ↓rwIx3, ↓rwIx4, ↓rwIx5, ↓rwNo, ↓ddG, ↓ddS, ↓ddP, ↓ddGo, ↓liN, ↓liNe, ↓xFldX, ↓xFldWX, ↓xAppAX, ↓xAppBX, ↓xPop, ↓xPopK, ↓xLast, ↓xMthX, ↓xPrpX, ↓insU, ↓insN, ↓lsU, ↓lsN, ↓lk0, ↓lk1, ↓lk2, ↓lk3, ↓lk4, ↓lk5, ↓lk6, if_true, if_false, Bool.false_eq_true, Bool.true_eq_false, reduceIte, Bool.not_true, Bool.not_false, decide_eq_true_eq, Bool.not_eq_true', decide_eq_false_iff_not, not_true_eq_false, not_false_eq_true, and_true, true_and, true_implies, List.length_cons, List.length_nil, Nat.zero_le, decide_true, decide_false, decide_not, fl_len, pt2, pt3, pt4, pt5, pt6]
    exact ⟨_, rfl, hr⟩
  · simp only [↓xSeq, ↓xNx, ↓xRt, ↓xBk, ↓xCt, ↓xEndNx, ↓xEndRt, ↓xNext, ↓xBreak, ↓xCont, ↓xDrop, ↓xRet, ↓xRetN, ↓xNever, ↓xIfS, ↓xPut0, ↓xPutS, ↓xSet, ↓xAug, ↓xAsg, ↓xUn2, ↓xUn1, ↓xPar, ↓xNm, ↓xNl, ↓xCn, ↓xSq, ↓xSqL, ↓xV0, ↓xVS, ↓xC, ↓xFrz, ↓xFrz1, ↓xOp, ↓xBl, ↓xB, ↓xChain, ↓xAnd, ↓xOr, ↓xNot, ↓xAndV, ↓xOrV, ↓xNotV, ↓xIf, ↓xNil, ↓xCons, ↓xTup, ↓xLst, ↓xLstO, ↓xOpt, ↓xAddI, ↓xAddT, ↓xAddL, ↓xSub, ↓xIAdd, ↓xFdiv, ↓xMod, ↓xPow, ↓xMul, ↓xLt, ↓xLe, ↓xGt, ↓xGe, ↓xEqI, ↓xNeI, ↓xEqB, ↓xNeB, ↓xIsBB, ↓xIsNN, ↓xIsTN, ↓xIsLN, ↓xIsIN, ↓xIsSN, ↓xIsRN, ↓xNoBB, ↓xNoNN, ↓xNoTN, ↓xNoLN, ↓xNoIN, ↓xNoSN, ↓xNoRN, ↓xInT, ↓xIx, ↓xIxT, ↓xIxL, ↓at0, ↓at1, ↓at2, ↓at3, ↓at4, ↓at5, ↓xSl, ↓xNo, ↓xInt, ↓xPart, ↓xCutT, ↓xCutL, ↓xCB, ↓xLenT, ↓xLenL, ↓xIntI, ↓xTupT, ↓xTupL, ↓xLstT, ↓xLstL, ↓xIsiT, ↓xIsiI, ↓xIsiB, ↓xIsiS, ↓xMax2, ↓xMin2, ↓xSum, ↓xAll, ↓xApp, ↓xFld, ↓xFldS, ↓xGFd, ↓xCall, ↓xMeth, ↓xProp, ↓xNeg, ↓xNegI, ↓suIx0, ↓suIx1, ↓suIx2, ↓suIx3, ↓rwIx0, ↓rwIx1, ↓rwIx2, ↓rwIx3, ↓rwIx4, ↓rwIx5, ↓rwNo, ↓ddG, ↓ddS, ↓ddP, ↓ddGo, ↓liN, ↓liNe, ↓xFldX, ↓xFldWX, ↓xAppAX, ↓xAppBX, ↓xPop, ↓xPopK, ↓xLast, ↓xMthX, ↓xPrpX, ↓insU, ↓insN, ↓lsU, ↓lsN, ↓lk0, ↓lk1, ↓lk2, ↓lk3, ↓lk4, ↓lk5, ↓lk6, if_true, if_false, Bool.false_eq_true, Bool.true_eq_false, reduceIte, Bool.not_true, Bool.not_false, decide_eq_true_eq, Bool.not_eq_true', decide_eq_false_iff_not, not_true_eq_false, not_false_eq_true, and_true, true_and, true_implies, List.length_cons, List.length_nil, Nat.zero_le, decide_true, decide_false, decide_not, fl_len, pt2, pt3, pt4, pt5, pt6, ↓stIx0, ↓eqBR]; exact q
  · simp only [↓xSeq, ↓xNx, ↓xRt, ↓xBk, ↓xCt, ↓xEndNx, ↓xEndRt, ↓xNext, ↓xBreak, ↓xCont, ↓xDrop, ↓xRet, ↓xRetN, ↓xNever, ↓xIfS, ↓xPut0, ↓xPutS, ↓xSet, ↓xAug, ↓xAsg, ↓xUn2, ↓xUn1, ↓xPar, ↓xNm, ↓xNl, ↓xCn, ↓xSq, ↓xSqL, ↓xV0, ↓xVS, ↓xC, ↓xFrz, ↓xFrz1, ↓xOp, ↓xBl, ↓xB, ↓xChain, ↓xAnd, ↓xOr, ↓xNot, ↓xAndV, ↓xOrV, ↓xNotV, ↓xIf, ↓xNil, ↓xCons, ↓xTup, ↓xLst, ↓xLstO, ↓xOpt, ↓xAddI, ↓xAddT, ↓xAddL, ↓xSub, ↓xIAdd, ↓xFdiv, ↓xMod, ↓xPow, ↓xMul, ↓xLt, ↓xLe, ↓xGt, ↓xGe, ↓xEqI, ↓xNeI, ↓xEqB, ↓xNeB, ↓xIsBB, ↓xIsNN, ↓xIsTN, ↓xIsLN, ↓xIsIN, ↓xIsSN, ↓xIsRN, ↓xNoBB, ↓xNoNN, ↓xNoTN, ↓xNoLN, ↓xNoIN, ↓xNoSN, ↓xNoRN, ↓xInT, ↓xIx, ↓xIxT, ↓xIxL, ↓at0, ↓at1, ↓at2, ↓at3, ↓at4, ↓at5, ↓xSl, ↓xNo, ↓xInt, ↓xPart, ↓xCutT, ↓xCutL, ↓xCB, ↓xLenT, ↓xLenL, ↓xIntI, ↓xTupT, ↓xTupL, ↓xLstT, ↓xLstL, ↓xIsiT, ↓xIsiI, ↓xIsiB, ↓xIsiS, ↓xMax2, ↓xMin2, ↓xSum, ↓xAll, ↓xApp, ↓xFld, ↓xFldS, ↓xGFd, ↓xCall, ↓xMeth, ↓xProp, ↓xNeg, ↓xNegI, ↓suIx0, ↓suIx1, ↓suIx2, ↓suIx3, ↓rwIx0, ↓rwIx1, ↓rwIx2, ↓rwIx3, ↓rwIx4, ↓rwIx5, ↓rwNo, ↓ddG, ↓ddS, ↓ddP, ↓ddGo, ↓liN, ↓liNe, ↓xFldX, ↓xFldWX, ↓xAppAX, ↓xAppBX, ↓xPop, ↓xPopK, ↓xLast, ↓xMthX, ↓xPrpX, ↓insU, ↓insN, ↓lsU, ↓lsN, ↓lk0, ↓lk1, ↓lk2, ↓lk3, ↓lk4, ↓lk5, ↓lk6, if_true, if_false, Bool.false_eq_true, Bool.true_eq_false, reduceIte, Bool.not_true, Bool.not_false, decide_eq_true_eq, Bool.not_eq_true', decide_eq_false_iff_not, not_true_eq_false, not_false_eq_true, and_true, true_and, true_implies, List.length_cons, List.length_nil, Nat.zero_le, decide_true, decide_false, decide_not, fl_len, pt2, pt3, pt4, pt5, pt6, ↓stIx1]; exact q
  · rw [rows_arg]
    exact fin q
end DL

/-! k85: lifts and models side by side. -/
namespace DL
open PySem PySem.Spec PyProof.Rows L2
theorem List.set_take_drop {α : Type} {l : List α} {i : Nat} {x y : α} (h : l[i]? = some x) : l = l.take i ++ x :: l.drop (i + 1) ∧ l.set i y = l.take i ++ y :: l.drop (i + 1) := by
  obtain ⟨hi, e⟩ := List.getElem?_eq_some_iff.mp h
  refine ⟨?_, ?_⟩
  · rw [← e, List.getElem_cons_drop, List.take_append_drop]
  · rw [List.set_eq_take_append_cons_drop, if_pos hi]
theorem Wd.setAt {C : Addr} {M M' : Mp} {os : List Ob} {i : Nat} {o o' : Ob} (w : Wd C M os) (hi : os[i]? = some o) (k : Keeps M M' o.adr) (h : o'.at C M') (e : o'.adr = o.adr) : Wd C M' (os.set i o') := by
  obtain ⟨e1, e2⟩ := List.set_take_drop (y := o') hi
  rw [e2]
  rw [e1] at w
  exact w.put _ k h e
theorem Wd.replaceAt {C : Addr} {M : Mp} {os : List Ob} {i : Nat} {o o' : Ob} (w : Wd C M (o' :: os)) (hi : os[i]? = some o) : Wd C M (os.set i o') := by
  obtain ⟨e1, e2⟩ := List.set_take_drop (y := o') hi
  rw [e2]
  rw [e1] at w
  have w : Wd C M ((o' :: os.take i) ++ o :: os.drop (i + 1)) := w
  have w := w.drop
  exact w.perm List.perm_middle.symm
/-- what is done to a lift -/
inductive UU where
  | step (x : Step)
  | undo
def UU.d : UU → D
  | .step x => x.d
  | .undo => .tup [.str "undo", .non]
def UU.ok (su : Su) : UU → Prop
  | .step x => x.ok su
  | .undo => True
def Hs.next (h : Hs) : UU → Hs
  | .step x => h.snoc x
  | .undo => ⟨h.su, h.r, h.xs.dropLast⟩
theorem next_snoc {g : Hs} {x : Step} : (g.snoc x).next .undo = g := by
  cases g
  simp [Hs.next, Hs.snoc]
theorem next_nil {h : Hs} (e : h.xs = []) : h.next .undo = h := by
  cases h
  simp only at e
  subst e; rfl
theorem Hs.ok.next {h : Hs} {n : Nat} {u : UU} (o : h.ok n) (hu : u.ok h.su) : (h.next u).ok (n + 1) := by
  cases u with
  | step x => exact o.snoc hu
  | undo => exact ⟨o.su, o.r, fun x hx => o.xs x (List.dropLast_subset _ hx), by have := o.len; show h.xs.dropLast.length ≤ n + 1; rw [List.length_dropLast]; omega⟩
theorem Hs.next_su (h : Hs) (u : UU) : (h.next u).su = h.su := by cases u <;> rfl
def S_do85 (C : Addr) : DSp := fun ds M Q _ => ∃ a p q e h u n, ds = [.ref a, modD (Hs.s h), UU.d u] ∧ LiftAt C M a p q e h.s ∧ (h.ok n ∧ n ≤ 4000 ∧ u.ok h.su) ∧ ∀ M', LiftAt C M' a p q e (h.next u).s → Keeps M M' [a, p, q, e] → Q (modD (h.next u).s) M'
theorem x_moved {h : Hs} {x : Step} {n : Nat} {M : Mp} {Q : DK} {dx : DX} (o : h.ok n ∧ x.ok h.su ∧ n ≤ 4000) (q : Q (modD (h.s.act x)) M) : S_moved [modD h.s, x.d] M Q dx := ⟨h, x, n, rfl, o, q⟩
def d_do85 (C : Addr) : DS :=
  (dSeq (dIfS (dAnd (dB (dOp dEq (dIx (dVar 2) (dC (.int 0))) (dC (.str "undo")))) (dB (dOp dEq (dIx (dVar 1) (dC (.int 4))) (dLst dNil)))) (dRet (dVar 1)) dNext)
    (dSeq (dIfS (dB (dOp dEq (dIx (dVar 2) (dC (.int 0))) (dC (.str "undo")))) (dSeq (dDrop (dMeth C "undo" (S_undo C) [] G0.dx (dVar 0) dNil))
    (dRet (dCall S_undone [] G0.dx (dCons (dVar 1) dNil)))) dNext)
    (dSeq (dIfS (dB (dOp dEq (dIx (dVar 2) (dC (.int 0))) (dC (.str "rule")))) (dDrop (dMeth C "change_rule" (S_change C) [] G0.dx (dVar 0) (dCons (dIx (dVar 2) (dC (.int 1))) dNil))) (dDrop (dMeth C "beat" (S_lbeat C) [] G0.dx (dVar 0) (dCons (dIx (dIx (dVar 2) (dC (.int 1))) (dC (.int 0))) (dCons (dIx (dIx (dVar 2) (dC (.int 1))) (dC (.int 1))) dNil)))))
    (dRet (dCall S_moved [] G0.dx (dCons (dVar 1) (dCons (dVar 2) dNil)))))))
theorem modIx4 {s : LS} {M : Mp} {Q : DK} : dIxV (modD s) (.int 4) M Q = Q (.lst (s.done.map Step.d)) M := by rw [modD, xIxT, at4]
theorem modIx3 {s : LS} {M : Mp} {Q : DK} : dIxV (modD s) (.int 3) M Q = Q (.lst (s.gone.map Ch.d)) M := by rw [modD, xIxT, at3]
theorem modIx2 {s : LS} {M : Mp} {Q : DK} : dIxV (modD s) (.int 2) M Q = Q (.lst (statesD s)) M := by rw [modD, xIxT, at2]
theorem modIx1 {s : LS} {M : Mp} {Q : DK} : dIxV (modD s) (.int 1) M Q = Q (.lst (rulesD s)) M := by rw [modD, xIxT, at1]
theorem modIx0 {s : LS} {M : Mp} {Q : DK} : dIxV (modD s) (.int 0) M Q = Q s.su.d M := by rw [modD, xIxT, at0]
theorem eqBU {b : Bool} {M : Mp} {Q : DK} : dEq (.str (if b then "beat" else "rule")) (.str "undo") M Q = Q (.bl false) M := by
  cases b <;> (rw [xEqS, true_and_eq ⟨by decide +kernel, by decide +kernel⟩]; rfl)
theorem eqUU {M : Mp} {Q : DK} : dEq (.str "undo") (.str "undo") M Q = Q (.bl true) M := by
  rw [xEqS, true_and_eq ⟨by decide +kernel, by decide +kernel⟩]; rfl
theorem eqLx {xs ys : List D} {M : Mp} {Q : DK} (h : D.ok 60 (.lst xs) = true) (k : D.ok 60 (.lst ys) = true) : dEq (.lst xs) (.lst ys) M Q = Q (.bl (decide (xs = ys))) M := by
  rw [xEqL, true_and_eq ⟨h, k⟩]
  exact congrArg (fun b => Q (.bl b) M) (dec_eq ⟨fun h => by injection h, fun h => by rw [h]⟩)
theorem ok_steps (l : List Step) : D.ok 60 (.lst (l.map Step.d)) = true := okAll_map _ fun x _ => ok_step x
theorem b_do85 {C ds M Q dx} (h : S_do85 C ds M Q dx) : d_do85 C (endD Q) (startD ["lift", "model", "step"] ds) M := by
  obtain ⟨a, p, q, e, h, u, n, rfl, hl, ⟨o, hn, ou⟩, hq⟩ := h
  show d_do85 C (endD Q) [some (.ref a), some (modD h.s), some u.d] M
  unfold d_do85
  have c0 : ∀ {c : Cm} {M : Mp} {Q : DK}, dIxV c.d (.int 0) M Q = Q (tI c.groups) M := by intro c M Q; rw [Cm.d, xIxT, at0]
  have c1 : ∀ {c : Cm} {M : Mp} {Q : DK}, dIxV c.d (.int 1) M Q = Q (.int c.more) M := by intro c M Q; rw [Cm.d, xIxT, at1]
  cases u with
  | step x =>
    have ou : x.ok h.su := ou
    have os : x.ok h.s.su := by rw [h.su_s]; exact ou
    have hq : ∀ M', LiftAt C M' a p q e (h.s.act x) → Keeps M M' [a, p, q, e] → Q (modD (h.s.act x)) M' := fun M' k1 k2 => by
      have := hq M'
      show Q (modD (h.s.act x)) M'
      rw [← h.snoc_s]
      exact this (by show LiftAt C M' a p q e (h.snoc x).s; rw [h.snoc_s]; exact k1) k2
    cases x with
    | rule r =>
      simp only [UU.d, ↓xSeq, ↓xNx, ↓xRt, ↓xBk, ↓xCt, ↓xEndNx, ↓xEndRt, ↓xNext, ↓xBreak, ↓xCont, ↓xDrop, ↓xRet, ↓xRetN, ↓xNever, ↓xIfS, ↓xPut0, ↓xPutS, ↓xSet, ↓xAug, ↓xAsg, ↓xUn2, ↓xUn1, ↓xPar, ↓xNm, ↓xNl, ↓xCn, ↓xSq, ↓xSqL, ↓xV0, ↓xVS, ↓xC, ↓xFrz, ↓xFrz1, ↓xOp, ↓xBl, ↓xB, ↓xChain, ↓xAnd, ↓xOr, ↓xNot, ↓xAndV, ↓xOrV, ↓xNotV, ↓xIf, ↓xNil, ↓xCons, ↓xTup, ↓xLst, ↓xLstO, ↓xOpt, ↓xAddI, ↓xAddT, ↓xAddL, ↓xSub, ↓xIAdd, ↓xFdiv, ↓xMod, ↓xPow, ↓xMul, ↓xLt, ↓xLe, ↓xGt, ↓xGe, ↓xEqI, ↓xNeI, ↓xEqB, ↓xNeB, ↓xIsBB, ↓xIsNN, ↓xIsTN, ↓xIsLN, ↓xIsIN, ↓xIsSN, ↓xIsRN, ↓xNoBB, ↓xNoNN, ↓xNoTN, ↓xNoLN, ↓xNoIN, ↓xNoSN, ↓xNoRN, ↓xInT, ↓xIx, ↓xIxT, ↓xIxL, ↓at0, ↓at1, ↓at2, ↓at3, ↓at4, ↓at5, ↓xSl, ↓xNo, ↓xInt, ↓xPart, ↓xCutT, ↓xCutL, ↓xCB, ↓xLenT, ↓xLenL, ↓xIntI, ↓xTupT, ↓xTupL, ↓xLstT, ↓xLstL, ↓xIsiT, ↓xIsiI, ↓xIsiB, ↓xIsiS, ↓xMax2, ↓xMin2, ↓xSum, ↓xAll, ↓xApp, ↓xFld, ↓xFldS, ↓xGFd, ↓xCall, ↓xMeth, ↓xProp, ↓xNeg, ↓xNegI, ↓suIx0, ↓suIx1, ↓suIx2, ↓suIx3, ↓rwIx0, ↓rwIx1, ↓rwIx2, ↓rwIx3, ↓rwIx4, ↓rwIx5, ↓rwNo, ↓ddG, ↓ddS, ↓ddP, ↓ddGo, ↓liN, ↓liNe, ↓xFldX, ↓xFldWX, ↓xAppAX, ↓xAppBX, ↓xPop, ↓xPopK, ↓xLast, ↓xMthX, ↓xPrpX, ↓insU, ↓insN, ↓lsU, ↓lsN, ↓lk0, ↓lk1, ↓lk2, ↓lk3, ↓lk4, ↓lk5, ↓lk6, if_true, if_false, Bool.false_eq_true, Bool.true_eq_false, reduceIte, Bool.not_true, Bool.not_false, decide_eq_true_eq, Bool.not_eq_true', decide_eq_false_iff_not, not_true_eq_false, not_false_eq_true, and_true, true_and, true_implies, List.length_cons, List.length_nil, Nat.zero_le, decide_true, decide_false, decide_not, fl_len, pt2, pt3, pt4, pt5, pt6, ↓stIx0, ↓stIx1, ↓eqBU, ↓eqRB, Step.isB, Step.arg, ↓ins_at hl.ins, lkm]
      exact ⟨a, p, q, e, h.s, r, rfl, hl, o.lsok (by omega), os, fun M' h' k => x_moved ⟨o, ou, hn⟩ (fin (hq M' h' k))⟩
    | beat c =>
      simp only [UU.d, ↓xSeq, ↓xNx, ↓xRt, ↓xBk, ↓xCt, ↓xEndNx, ↓xEndRt, ↓xNext, ↓xBreak, ↓xCont, ↓xDrop, ↓xRet, ↓xRetN, ↓xNever, ↓xIfS, ↓xPut0, ↓xPutS, ↓xSet, ↓xAug, ↓xAsg, ↓xUn2, ↓xUn1, ↓xPar, ↓xNm, ↓xNl, ↓xCn, ↓xSq, ↓xSqL, ↓xV0, ↓xVS, ↓xC, ↓xFrz, ↓xFrz1, ↓xOp, ↓xBl, ↓xB, ↓xChain, ↓xAnd, ↓xOr, ↓xNot, ↓xAndV, ↓xOrV, ↓xNotV, ↓xIf, ↓xNil, ↓xCons, ↓xTup, ↓xLst, ↓xLstO, ↓xOpt, ↓xAddI, ↓xAddT, ↓xAddL, ↓xSub, ↓xIAdd, ↓xFdiv, ↓xMod, ↓xPow, ↓xMul, ↓xLt, ↓xLe, ↓xGt, ↓xGe, ↓xEqI, ↓xNeI, ↓xEqB, ↓xNeB, ↓xIsBB, ↓xIsNN, ↓xIsTN, ↓xIsLN, ↓xIsIN, ↓xIsSN, ↓xIsRN, ↓xNoBB, ↓xNoNN, ↓xNoTN, ↓xNoLN, ↓xNoIN, ↓xNoSN, ↓xNoRN, ↓xInT, ↓xIx, ↓xIxT, ↓xIxL, ↓at0, ↓at1, ↓at2, ↓at3, ↓at4, ↓at5, ↓xSl, ↓xNo, ↓xInt, ↓xPart, ↓xCutT, ↓xCutL, ↓xCB, ↓xLenT, ↓xLenL, ↓xIntI, ↓xTupT, ↓xTupL, ↓xLstT, ↓xLstL, ↓xIsiT, ↓xIsiI, ↓xIsiB, ↓xIsiS, ↓xMax2, ↓xMin2, ↓xSum, ↓xAll, ↓xApp, ↓xFld, ↓xFldS, ↓xGFd, ↓xCall, ↓xMeth, ↓xProp, ↓xNeg, ↓xNegI, ↓suIx0, ↓suIx1, ↓suIx2, ↓suIx3, ↓rwIx0, ↓rwIx1, ↓rwIx2, ↓rwIx3, ↓rwIx4, ↓rwIx5, ↓rwNo, ↓ddG, ↓ddS, ↓ddP, ↓ddGo, ↓liN, ↓liNe, ↓xFldX, ↓xFldWX, ↓xAppAX, ↓xAppBX, ↓xPop, ↓xPopK, ↓xLast, ↓xMthX, ↓xPrpX, ↓insU, ↓insN, ↓lsU, ↓lsN, ↓lk0, ↓lk1, ↓lk2, ↓lk3, ↓lk4, ↓lk5, ↓lk6, if_true, if_false, Bool.false_eq_true, Bool.true_eq_false, reduceIte, Bool.not_true, Bool.not_false, decide_eq_true_eq, Bool.not_eq_true', decide_eq_false_iff_not, not_true_eq_false, not_false_eq_true, and_true, true_and, true_implies, List.length_cons, List.length_nil, Nat.zero_le, decide_true, decide_false, decide_not, fl_len, pt2, pt3, pt4, pt5, pt6, ↓stIx0, ↓stIx1, ↓eqBU, ↓eqRB, Step.isB, Step.arg, ↓ins_at hl.ins, lkm, ↓c0, ↓c1]
      exact ⟨a, p, q, e, h.s, c, rfl, hl, o.lsok (by omega), os, fun M' h' k => x_moved ⟨o, ou, hn⟩ (fin (hq M' h' k))⟩
  | undo =>
    rcases h.last with hx | ⟨g, x, rfl⟩
    · have hd : h.s.done = [] := by rw [h.done_s, hx]
      simp only [UU.d, ↓xSeq, ↓xNx, ↓xRt, ↓xBk, ↓xCt, ↓xEndNx, ↓xEndRt, ↓xNext, ↓xBreak, ↓xCont, ↓xDrop, ↓xRet, ↓xRetN, ↓xNever, ↓xIfS, ↓xPut0, ↓xPutS, ↓xSet, ↓xAug, ↓xAsg, ↓xUn2, ↓xUn1, ↓xPar, ↓xNm, ↓xNl, ↓xCn, ↓xSq, ↓xSqL, ↓xV0, ↓xVS, ↓xC, ↓xFrz, ↓xFrz1, ↓xOp, ↓xBl, ↓xB, ↓xChain, ↓xAnd, ↓xOr, ↓xNot, ↓xAndV, ↓xOrV, ↓xNotV, ↓xIf, ↓xNil, ↓xCons, ↓xTup, ↓xLst, ↓xLstO, ↓xOpt, ↓xAddI, ↓xAddT, ↓xAddL, ↓xSub, ↓xIAdd, ↓xFdiv, ↓xMod, ↓xPow, ↓xMul, ↓xLt, ↓xLe, ↓xGt, ↓xGe, ↓xEqI, ↓xNeI, ↓xEqB, ↓xNeB, ↓xIsBB, ↓xIsNN, ↓xIsTN, ↓xIsLN, ↓xIsIN, ↓xIsSN, ↓xIsRN, ↓xNoBB, ↓xNoNN, ↓xNoTN, ↓xNoLN, ↓xNoIN, ↓xNoSN, ↓xNoRN, ↓xInT, ↓xIx, ↓xIxT, ↓xIxL, ↓at0, ↓at1, ↓at2, ↓at3, ↓at4, ↓at5, ↓xSl, ↓xNo, ↓xInt, ↓xPart, ↓xCutT, ↓xCutL, ↓xCB, ↓xLenT, ↓xLenL, ↓xIntI, ↓xTupT, ↓xTupL, ↓xLstT, ↓xLstL, ↓xIsiT, ↓xIsiI, ↓xIsiB, ↓xIsiS, ↓xMax2, ↓xMin2, ↓xSum, ↓xAll, ↓xApp, ↓xFld, ↓xFldS, ↓xGFd, ↓xCall, ↓xMeth, ↓xProp, ↓xNeg, ↓xNegI, ↓suIx0, ↓suIx1, ↓suIx2, ↓suIx3, ↓rwIx0, ↓rwIx1, ↓rwIx2, ↓rwIx3, ↓rwIx4, ↓rwIx5, ↓rwNo, ↓ddG, ↓ddS, ↓ddP, ↓ddGo, ↓liN, ↓liNe, ↓xFldX, ↓xFldWX, ↓xAppAX, ↓xAppBX, ↓xPop, ↓xPopK, ↓xLast, ↓xMthX, ↓xPrpX, ↓insU, ↓insN, ↓lsU, ↓lsN, ↓lk0, ↓lk1, ↓lk2, ↓lk3, ↓lk4, ↓lk5, ↓lk6, if_true, if_false, Bool.false_eq_true, Bool.true_eq_false, reduceIte, Bool.not_true, Bool.not_false, decide_eq_true_eq, Bool.not_eq_true', decide_eq_false_iff_not, not_true_eq_false, not_false_eq_true, and_true, true_and, true_implies, List.length_cons, List.length_nil, Nat.zero_le, decide_true, decide_false, decide_not, fl_len, pt2, pt3, pt4, pt5, pt6, ↓eqUU, ↓modIx4, ↓eqLn (ok_steps _), hd, List.map_nil]
      have := hq M (by rw [next_nil hx]; exact hl) Keeps.refl
      rw [next_nil hx] at this
      exact fin this
    · obtain ⟨og, oxx⟩ := o.pre
      have hd : ¬ ((g.snoc x).s.done.map Step.d = []) := by
        rw [(g.snoc x).done_s]
        simp [Hs.snoc]
      simp only [UU.d, ↓xSeq, ↓xNx, ↓xRt, ↓xBk, ↓xCt, ↓xEndNx, ↓xEndRt, ↓xNext, ↓xBreak, ↓xCont, ↓xDrop, ↓xRet, ↓xRetN, ↓xNever, ↓xIfS, ↓xPut0, ↓xPutS, ↓xSet, ↓xAug, ↓xAsg, ↓xUn2, ↓xUn1, ↓xPar, ↓xNm, ↓xNl, ↓xCn, ↓xSq, ↓xSqL, ↓xV0, ↓xVS, ↓xC, ↓xFrz, ↓xFrz1, ↓xOp, ↓xBl, ↓xB, ↓xChain, ↓xAnd, ↓xOr, ↓xNot, ↓xAndV, ↓xOrV, ↓xNotV, ↓xIf, ↓xNil, ↓xCons, ↓xTup, ↓xLst, ↓xLstO, ↓xOpt, ↓xAddI, ↓xAddT, ↓xAddL, ↓xSub, ↓xIAdd, ↓xFdiv, ↓xMod, ↓xPow, ↓xMul, ↓xLt, ↓xLe, ↓xGt, ↓xGe, ↓xEqI, ↓xNeI, ↓xEqB, ↓xNeB, ↓xIsBB, ↓xIsNN, ↓xIsTN, ↓xIsLN, ↓xIsIN, ↓xIsSN, ↓xIsRN, ↓xNoBB, ↓xNoNN, ↓xNoTN, ↓xNoLN, ↓xNoIN, ↓xNoSN, ↓xNoRN, ↓xInT, ↓xIx, ↓xIxT, ↓xIxL, ↓at0, ↓at1, ↓at2, ↓at3, ↓at4, ↓at5, ↓xSl, ↓xNo, ↓xInt, ↓xPart, ↓xCutT, ↓xCutL, ↓xCB, ↓xLenT, ↓xLenL, ↓xIntI, ↓xTupT, ↓xTupL, ↓xLstT, ↓xLstL, ↓xIsiT, ↓xIsiI, ↓xIsiB, ↓xIsiS, ↓xMax2, ↓xMin2, ↓xSum, ↓xAll, ↓xApp, ↓xFld, ↓xFldS, ↓xGFd, ↓xCall, ↓xMeth, ↓xProp, ↓xNeg, ↓xNegI, ↓suIx0, ↓suIx1, ↓suIx2, ↓suIx3, ↓rwIx0, ↓rwIx1, ↓rwIx2, ↓rwIx3, ↓rwIx4, ↓rwIx5, ↓rwNo, ↓ddG, ↓ddS, ↓ddP, ↓ddGo, ↓liN, ↓liNe, ↓xFldX, ↓xFldWX, ↓xAppAX, ↓xAppBX, ↓xPop, ↓xPopK, ↓xLast, ↓xMthX, ↓xPrpX, ↓insU, ↓insN, ↓lsU, ↓lsN, ↓lk0, ↓lk1, ↓lk2, ↓lk3, ↓lk4, ↓lk5, ↓lk6, if_true, if_false, Bool.false_eq_true, Bool.true_eq_false, reduceIte, Bool.not_true, Bool.not_false, decide_eq_true_eq, Bool.not_eq_true', decide_eq_false_iff_not, not_true_eq_false, not_false_eq_true, and_true, true_and, true_implies, List.length_cons, List.length_nil, Nat.zero_le, decide_true, decide_false, decide_not, fl_len, pt2, pt3, pt4, pt5, pt6, ↓eqUU, ↓modIx4, ↓eqLn (ok_steps _), hd, ↓ins_at hl.ins, lkm]
      rw [g.snoc_s] at hl ⊢
      refine ⟨a, p, q, e, g.s, x, rfl, hl, og.lsok (by omega), by rw [g.su_s]; exact oxx, fun M' h' k => ⟨g.s, x, rfl, fin ?_⟩⟩
      have := hq M' (by rw [next_snoc]; exact h') k
      rw [next_snoc] at this
      exact this
/-! == of the models -/
noncomputable def eqF (s t : LS) : Bool := @decide (s.su = t.su ∧ s.first = t.first ∧ s.done = t.done) (Classical.propDecidable _)
def S_eqG (C : Addr) : DSp := fun ds M Q dx => (∃ a p q e s a' p' q' e' s', ds = [.ref a, .ref a'] ∧ LiftAt C M a p q e s ∧ LiftAt C M a' p' q' e' s' ∧ Q (.bl (eqF s s')) M) ∨ ∃ a p q e s y, ds = [.ref a, y] ∧ LiftAt C M a p q e s ∧ isPl y ∧ Q (.bl false) M
theorem eqF_cases (s t : LS) : eqF s t = (@decide (s.su = t.su) (Classical.propDecidable _) && (@decide (s.first = t.first) (Classical.propDecidable _) && @decide (s.done = t.done) (Classical.propDecidable _))) := by
  unfold eqF
  by_cases h1 : s.su = t.su <;> by_cases h2 : s.first = t.first <;> by_cases h3 : s.done = t.done <;> simp [h1, h2, h3]
theorem b_eqG {C ds M Q dx} (h : S_eqG C ds M Q dx) : d_Lift___eq__ C (endD Q) (startD ["self", "other"] ds) M := by
  rcases h with ⟨a, p, q, e, s, a', p', q', e', s', rfl, h, h', hq⟩ | ⟨a, p, q, e, s, y, rfl, h, hy, hq⟩
  · show d_Lift___eq__ C (endD Q) [some (.ref a), some (.ref a')] M
    unfold d_Lift___eq__
    have k1 := ok_steps s.done
    have k2 := ok_steps s'.done
    rw [eqF_cases] at hq
    simp only [↓xSeq, ↓xNx, ↓xRt, ↓xBk, ↓xCt, ↓xEndNx, ↓xEndRt, ↓xNext, ↓xBreak, ↓xCont, ↓xDrop, ↓xRet, ↓xRetN, ↓xNever, ↓xIfS, ↓xPut0, ↓xPutS, ↓xSet, ↓xAug, ↓xAsg, ↓xUn2, ↓xUn1, ↓xPar, ↓xNm, ↓xNl, ↓xCn, ↓xSq, ↓xSqL, ↓xV0, ↓xVS, ↓xC, ↓xFrz, ↓xFrz1, ↓xOp, ↓xBl, ↓xB, ↓xChain, ↓xAnd, ↓xOr, ↓xNot, ↓xAndV, ↓xOrV, ↓xNotV, ↓xIf, ↓xNil, ↓xCons, ↓xTup, ↓xLst, ↓xLstO, ↓xOpt, ↓xAddI, ↓xAddT, ↓xAddL, ↓xSub, ↓xIAdd, ↓xFdiv, ↓xMod, ↓xPow, ↓xMul, ↓xLt, ↓xLe, ↓xGt, ↓xGe, ↓xEqI, ↓xNeI, ↓xEqB, ↓xNeB, ↓xIsBB, ↓xIsNN, ↓xIsTN, ↓xIsLN, ↓xIsIN, ↓xIsSN, ↓xIsRN, ↓xNoBB, ↓xNoNN, ↓xNoTN, ↓xNoLN, ↓xNoIN, ↓xNoSN, ↓xNoRN, ↓xInT, ↓xIx, ↓xIxT, ↓xIxL, ↓at0, ↓at1, ↓at2, ↓at3, ↓at4, ↓at5, ↓xSl, ↓xNo, ↓xInt, ↓xPart, ↓xCutT, ↓xCutL, ↓xCB, ↓xLenT, ↓xLenL, ↓xIntI, ↓xTupT, ↓xTupL, ↓xLstT, ↓xLstL, ↓xIsiT, ↓xIsiI, ↓xIsiB, ↓xIsiS, ↓xMax2, ↓xMin2, ↓xSum, ↓xAll, ↓xApp, ↓xFld, ↓xFldS, ↓xGFd, ↓xCall, ↓xMeth, ↓xProp, ↓xNeg, ↓xNegI, ↓suIx0, ↓suIx1, ↓suIx2, ↓suIx3, ↓rwIx0, ↓rwIx1, ↓rwIx2, ↓rwIx3, ↓rwIx4, ↓rwIx5, ↓rwNo, ↓ddG, ↓ddS, ↓ddP, ↓ddGo, ↓liN, ↓liNe, ↓xFldX, ↓xFldWX, ↓xAppAX, ↓xAppBX, ↓xPop, ↓xPopK, ↓xLast, ↓xMthX, ↓xPrpX, ↓insU, ↓insN, ↓lsU, ↓lsN, ↓lk0, ↓lk1, ↓lk2, ↓lk3, ↓lk4, ↓lk5, ↓lk6, if_true, if_false, Bool.false_eq_true, Bool.true_eq_false, reduceIte, Bool.not_true, Bool.not_false, decide_eq_true_eq, Bool.not_eq_true', decide_eq_false_iff_not, not_true_eq_false, not_false_eq_true, and_true, true_and, true_implies, List.length_cons, List.length_nil, Nat.zero_le, decide_true, decide_false, decide_not, fl_len, pt2, pt3, pt4, pt5, pt6, ↓isC_at h', ↓ins_at h.ins, ↓ins_at h'.ins, ↓eqSu, ↓eqRl, ↓eqRR h.don h'.don, k1, k2]
    by_cases i1 : s.su = s'.su
    · by_cases i2 : s.first = s'.first
      · simp only [i1, i2, if_true, decide_true, Bool.true_and] at hq ⊢
        rw [show decide (s.done.map Step.d = s'.done.map Step.d) = @decide (s.done = s'.done) (Classical.propDecidable _) from @dec_eq _ _ _ (Classical.propDecidable _) steps_inj]
        exact fin hq
      · have j2 : ¬ rl s.first = rl s'.first := fun e => i2 (rl_inj.mp e)
        simp only [i1, i2, j2, if_true, if_false, decide_true, decide_false, Bool.true_and, Bool.false_and] at hq ⊢
        exact fin hq
    · have j1 : ¬ s.su.d = s'.su.d := fun e => i1 (Su.inj.mp e)
      simp only [i1, j1, if_false, decide_false, Bool.false_and] at hq ⊢
      exact fin hq
  · exact b_eqA (dx := dx) (.inr ⟨a, p, q, e, s, y, rfl, h, hy, hq⟩)
theorem x_eqG {C : Addr} {a p q e a' p' q' e' : Addr} {M : Mp} {s t : LS} {Q : DK} (h : LiftAt C M a p q e s) (k : LiftAt C M a' p' q' e' t) : dEqOwn C (S_eqG C) (.ref a) (.ref a') M Q = Q (.bl (eqF s t)) M := by
  refine propext ⟨fun ⟨_, _, _, _, e1, e2, _, _, hs⟩ => ?_, fun q => ⟨_, _, _, _, rfl, rfl, h.ins, k.ins, .inl ⟨_, _, _, _, _, _, _, _, _, _, rfl, h, k, q⟩⟩⟩
  cases e1; cases e2
  rcases hs with ⟨_, _, _, _, u, _, _, _, _, v, e3, h1, h2, q⟩ | ⟨_, _, _, _, _, y, e3, _, hy, _⟩
  · cases e3
    obtain ⟨_, _, _, rfl⟩ := h.uniq h1
    obtain ⟨_, _, _, rfl⟩ := k.uniq h2
    exact q
  · cases e3; exact hy.elim
theorem x_eqGO {C : Addr} {a p q e : Addr} {M : Mp} {s : LS} {Q : DK} {y : D} (h : LiftAt C M a p q e s) (hy : isPl y) : dEqOther C (S_eqG C) (.ref a) y M Q = Q (.bl false) M := by
  refine propext ⟨fun ⟨_, _, _, e1, _, _, _, hs⟩ => ?_, fun q' => ?_⟩
  · cases e1
    rcases hs with ⟨_, _, _, _, u, _, _, _, _, v, e3, h1, h2, q⟩ | ⟨_, _, _, _, _, y, e3, _, _, q⟩
    · cases e3; exact hy.elim
    · cases e3; exact q
  · have : ∃ t, tyn M y = some t ∧ plainT t := by
      cases y <;> first | exact ⟨_, rfl, .inl rfl⟩ | exact ⟨_, rfl, .inr (.inl rfl)⟩ | exact ⟨_, rfl, .inr (.inr rfl)⟩ | exact hy.elim
    obtain ⟨t, h1, h2⟩ := this
    exact ⟨_, _, t, rfl, h.ins, h1, h2, .inr ⟨_, _, _, _, _, _, rfl, h, hy, q'⟩⟩
/-- the first rule -/
theorem rules_head (h : Hs) : ∃ tl, rulesD h.s = rl h.r :: tl := by
  have gen : ∀ (xs : List Step) (s : LS) (r : List Rw), (∃ tl, rulesD s = rl r :: tl) → ∃ tl, rulesD (s.acts xs) = rl r :: tl := fun xs => by
    induction xs with
    | nil => intro s r h; exact h
    | cons x xs ih =>
      intro s r ⟨tl, h⟩
      refine ih (s.act x) r ⟨tl ++ [rl (s.act x).present], ?_⟩
      rw [rulesD_act, h]; rfl
  exact gen h.xs _ _ ⟨[], rfl⟩
def S_same : DSp := fun ds M Q _ => ∃ g h : Hs, ds = [modD g.s, modD h.s] ∧ Q (.bl (eqF g.s h.s)) M
def d_same : DS :=
  (dRet (dAndV (dOp dEq (dIx (dVar 0) (dC (.int 0))) (dIx (dVar 1) (dC (.int 0)))) (dAndV (dOp dEq (dIx (dIx (dVar 0) (dC (.int 1))) (dC (.int 0))) (dIx (dIx (dVar 1) (dC (.int 1))) (dC (.int 0)))) (dOp dEq (dIx (dVar 0) (dC (.int 4))) (dIx (dVar 1) (dC (.int 4)))))))
theorem modD_inj {g h : Hs} (e : modD g.s = modD h.s) : eqF g.s = eqF h.s ∧ ∀ t, eqF t g.s = eqF t h.s := by
  have e2 := e
  simp only [modD, D.tup.injEq, List.cons.injEq, D.lst.injEq, Su.inj, steps_inj, and_true] at e2
  obtain ⟨a, b, _, _, c⟩ := e2
  obtain ⟨t1, h1⟩ := rules_head g
  obtain ⟨t2, h2⟩ := rules_head h
  rw [h1, h2] at b
  have b : g.r = h.r := by
    have := (List.cons.inj b).1
    exact rl_inj.mp this
  have b : g.s.first = h.s.first := by rw [g.first_s, h.first_s, b]
  refine ⟨?_, fun t => ?_⟩
  · funext t; unfold eqF; rw [a, b, c]
  · unfold eqF; rw [a, b, c]
theorem x_same {g h : Hs} {M : Mp} {Q : DK} {dx : DX} : S_same [modD g.s, modD h.s] M Q dx = Q (.bl (eqF g.s h.s)) M :=
  propext ⟨fun ⟨g', h', e, q⟩ => by
    simp only [List.cons.injEq, and_true] at e
    rw [(modD_inj e.1).1, (modD_inj e.2).2]; exact q, fun q => ⟨g, h, rfl, q⟩⟩
theorem b_same {ds M Q dx} (h : S_same ds M Q dx) : d_same (endD Q) (startD ["one", "other"] ds) M := by
  obtain ⟨g, h, rfl, hq⟩ := h
  show d_same (endD Q) [some (modD g.s), some (modD h.s)] M
  unfold d_same
  obtain ⟨t1, h1⟩ := rules_head g
  obtain ⟨t2, h2⟩ := rules_head h
  rw [eqF_cases] at hq
  simp only [↓xSeq, ↓xNx, ↓xRt, ↓xBk, ↓xCt, ↓xEndNx, ↓xEndRt, ↓xNext, ↓xBreak, ↓xCont, ↓xDrop, ↓xRet, ↓xRetN, ↓xNever, ↓xIfS, ↓xPut0, ↓xPutS, ↓xSet, ↓xAug, ↓xAsg, ↓xUn2, ↓xUn1, ↓xPar, ↓xNm, ↓xNl, ↓xCn, ↓xSq, ↓xSqL, ↓xV0, ↓xVS, ↓xC, ↓xFrz, ↓xFrz1, ↓xOp, ↓xBl, ↓xB, ↓xChain, ↓xAnd, ↓xOr, ↓xNot, ↓xAndV, ↓xOrV, ↓xNotV, ↓xIf, ↓xNil, ↓xCons, ↓xTup, ↓xLst, ↓xLstO, ↓xOpt, ↓xAddI, ↓xAddT, ↓xAddL, ↓xSub, ↓xIAdd, ↓xFdiv, ↓xMod, ↓xPow, ↓xMul, ↓xLt, ↓xLe, ↓xGt, ↓xGe, ↓xEqI, ↓xNeI, ↓xEqB, ↓xNeB, ↓xIsBB, ↓xIsNN, ↓xIsTN, ↓xIsLN, ↓xIsIN, ↓xIsSN, ↓xIsRN, ↓xNoBB, ↓xNoNN, ↓xNoTN, ↓xNoLN, ↓xNoIN, ↓xNoSN, ↓xNoRN, ↓xInT, ↓xIx, ↓xIxT, ↓xIxL, ↓at0, ↓at1, ↓at2, ↓at3, ↓at4, ↓at5, ↓xSl, ↓xNo, ↓xInt, ↓xPart, ↓xCutT, ↓xCutL, ↓xCB, ↓xLenT, ↓xLenL, ↓xIntI, ↓xTupT, ↓xTupL, ↓xLstT, ↓xLstL, ↓xIsiT, ↓xIsiI, ↓xIsiB, ↓xIsiS, ↓xMax2, ↓xMin2, ↓xSum, ↓xAll, ↓xApp, ↓xFld, ↓xFldS, ↓xGFd, ↓xCall, ↓xMeth, ↓xProp, ↓xNeg, ↓xNegI, ↓suIx0, ↓suIx1, ↓suIx2, ↓suIx3, ↓rwIx0, ↓rwIx1, ↓rwIx2, ↓rwIx3, ↓rwIx4, ↓rwIx5, ↓rwNo, ↓ddG, ↓ddS, ↓ddP, ↓ddGo, ↓liN, ↓liNe, ↓xFldX, ↓xFldWX, ↓xAppAX, ↓xAppBX, ↓xPop, ↓xPopK, ↓xLast, ↓xMthX, ↓xPrpX, ↓insU, ↓insN, ↓lsU, ↓lsN, ↓lk0, ↓lk1, ↓lk2, ↓lk3, ↓lk4, ↓lk5, ↓lk6, if_true, if_false, Bool.false_eq_true, Bool.true_eq_false, reduceIte, Bool.not_true, Bool.not_false, decide_eq_true_eq, Bool.not_eq_true', decide_eq_false_iff_not, not_true_eq_false, not_false_eq_true, and_true, true_and, true_implies, List.length_cons, List.length_nil, Nat.zero_le, decide_true, decide_false, decide_not, fl_len, pt2, pt3, pt4, pt5, pt6, ↓modIx0, ↓modIx1, ↓modIx4, h1, h2, ↓eqSu, ↓eqRl, ↓eqLx (ok_steps _) (ok_steps _)]
  rw [← g.first_s, ← h.first_s]
  by_cases i1 : g.s.su = h.s.su
  · by_cases i2 : g.s.first = h.s.first
    · simp only [i1, i2, if_true, decide_true, Bool.true_and] at hq ⊢
      rw [show decide (g.s.done.map Step.d = h.s.done.map Step.d) = @decide (g.s.done = h.s.done) (Classical.propDecidable _) from @dec_eq _ _ _ (Classical.propDecidable _) steps_inj]
      exact fin hq
    · have j2 : ¬ rl g.s.first = rl h.s.first := fun e => i2 (rl_inj.mp e)
      simp only [i1, i2, j2, if_true, if_false, decide_true, decide_false, Bool.true_and, Bool.false_and] at hq ⊢
      exact fin hq
  · have j1 : ¬ g.s.su.d = h.s.su.d := fun e => i1 (Su.inj.mp e)
    simp only [i1, j1, if_false, decide_false, Bool.false_and] at hq ⊢
    exact fin hq
/-! all right -/
def liftsD (os : List (LA × Hs)) : List D := os.map fun o => .ref o.1.a
def modsD (os : List (LA × Hs)) : List D := os.map fun o => modD o.2.s
def obs (os : List (LA × Hs)) : List Ob := os.map fun o => .lf o.1 o.2.s
def S_right (C : Addr) : DSp := fun ds M Q _ => ∃ lp mp os n, ds = [.ref lp, .ref mp] ∧ M lp = some (.lst (liftsD os)) ∧ M mp = some (.lst (modsD os)) ∧ (∀ o ∈ os, LiftAt C M o.1.a o.1.p o.1.q o.1.e o.2.s) ∧ (os.length = 3 ∧ n ≤ 4000 ∧ ∀ o ∈ os, o.2.ok n) ∧ Q (.bl true) M
def d_right (C : Addr) : DS :=
  (dSeq (dFor (dIr1 (dCons (dC (.int 3)) dNil)) (gNm 2) (dSeq (dIfS (dOr (dB (dOp dNe (dMeth C "state" (S_state C) [] G0.dx (dIx (dVar 0) (dVar 2)) dNil) (dIx (dIx (dIx (dVar 1) (dVar 2)) (dC (.int 2))) (dNeg (dC (.int 1)))))) (dB (dOp dNe (dMeth C "chairs" (S_chairs C) [] G0.dx (dIx (dVar 0) (dVar 2)) dNil) (dIx (dIx (dVar 1) (dVar 2)) (dC (.int 3)))))) (dRet (dC (.bl false))) dNext)
    (dSeq (dIfS (dOr (dB (dOp dNe (dMeth C "row" (S_row C) [] G0.dx (dIx (dVar 0) (dVar 2)) dNil) (dCall S_rowof [] G0.dx (dCons (dIx (dVar 1) (dVar 2)) dNil)))) (dB (dOp dNe (dMeth C "rule" (S_rule C) [] G0.dx (dIx (dVar 0) (dVar 2)) dNil) (dIx (dIx (dIx (dVar 1) (dVar 2)) (dC (.int 1))) (dNeg (dC (.int 1))))))) (dRet (dC (.bl false))) dNext)
    (dSeq (dIfS (dOr (dB (dOp (dEqOther C (S_eqG C)) (dIx (dVar 0) (dVar 2)) (dC .non))) (dOr (dB (dOp (dEqOther C (S_eqG C)) (dIx (dVar 0) (dVar 2)) (dMeth C "state" (S_state C) [] G0.dx (dIx (dVar 0) (dVar 2)) dNil))) (dB (dOp (dEqOther C (S_eqG C)) (dIx (dVar 0) (dVar 2)) (dMeth C "chairs" (S_chairs C) [] G0.dx (dIx (dVar 0) (dVar 2)) dNil))))) (dRet (dC (.bl false))) dNext)
    (dFor (dIr1 (dCons (dC (.int 3)) dNil)) (gNm 3) (dSeq (dIfS (dAnd (dB (dOp dIsNot (dOp (dEqOwn C (S_eqG C)) (dIx (dVar 0) (dVar 2)) (dIx (dVar 0) (dVar 3))) (dC (.bl true)))) (dB (dCall S_same [] G0.dx (dCons (dIx (dVar 1) (dVar 2)) (dCons (dIx (dVar 1) (dVar 3)) dNil))))) (dRet (dC (.bl false))) dNext)
    (dIfS (dAnd (dB (dOp dIsNot (dOp (dEqOwn C (S_eqG C)) (dIx (dVar 0) (dVar 2)) (dIx (dVar 0) (dVar 3))) (dC (.bl false)))) (dNot (dB (dCall S_same [] G0.dx (dCons (dIx (dVar 1) (dVar 2)) (dCons (dIx (dVar 1) (dVar 3)) dNil)))))) (dRet (dC (.bl false))) dNext)))))))
    (dRet (dC (.bl true))))
structure RiI (lp mp : Addr) (M : Mp) (k : Nat) (ρ : Rh) (M' : Mp) : Prop where
  ex : ∃ x y, ρ = [some (.ref lp), some (.ref mp), x, y]
  mem : M' = M
structure RiJ (lp mp : Addr) (M : Mp) (i : Nat) (k : Nat) (ρ : Rh) (M' : Mp) : Prop where
  ex : ∃ y, ρ = [some (.ref lp), some (.ref mp), some (.int i), y]
  mem : M' = M
theorem mapAt {α β : Type} {f : α → β} {l : List α} {k : Nat} {o : α} (h : l[k]? = some o) : (l.map f)[k]? = some (f o) := by rw [List.getElem?_map, h]; rfl
theorem b_right {C ds M Q dx} (h : S_right C ds M Q dx) : d_right C (endD Q) (startD ["lifts", "models", "k", "n"] ds) M := by
  obtain ⟨lp, mp, os, n, rfl, hl, hm, ha, ⟨h3, hn, ho⟩, hq⟩ := h
  show d_right C (endD Q) [some (.ref lp), some (.ref mp), none, none] M
  unfold d_right
  rw [xSeq]
  refine for_range (n := 3) (fun Q q => by simp only [↓xSeq, ↓xNx, ↓xRt, ↓xBk, ↓xCt, ↓xEndNx, ↓xEndRt, ↓xNext, ↓xBreak, ↓xCont, ↓xDrop, ↓xRet, ↓xRetN, ↓xNever, ↓xIfS, ↓xPut0, ↓xPutS, ↓xSet, ↓xAug, ↓xAsg, ↓xUn2, ↓xUn1, ↓xPar, ↓xNm, ↓xNl, ↓xCn, ↓xSq, ↓xSqL, ↓xV0, ↓xVS, ↓xC, ↓xFrz, ↓xFrz1, ↓xOp, ↓xBl, ↓xB, ↓xChain, ↓xAnd, ↓xOr, ↓xNot, ↓xAndV, ↓xOrV, ↓xNotV, ↓xIf, ↓xNil, ↓xCons, ↓xTup, ↓xLst, ↓xLstO, ↓xOpt, ↓xAddI, ↓xAddT, ↓xAddL, ↓xSub, ↓xIAdd, ↓xFdiv, ↓xMod, ↓xPow, ↓xMul, ↓xLt, ↓xLe, ↓xGt, ↓xGe, ↓xEqI, ↓xNeI, ↓xEqB, ↓xNeB, ↓xIsBB, ↓xIsNN, ↓xIsTN, ↓xIsLN, ↓xIsIN, ↓xIsSN, ↓xIsRN, ↓xNoBB, ↓xNoNN, ↓xNoTN, ↓xNoLN, ↓xNoIN, ↓xNoSN, ↓xNoRN, ↓xInT, ↓xIx, ↓xIxT, ↓xIxL, ↓at0, ↓at1, ↓at2, ↓at3, ↓at4, ↓at5, ↓xSl, ↓xNo, ↓xInt, ↓xPart, ↓xCutT, ↓xCutL, ↓xCB, ↓xLenT, ↓xLenL, ↓xIntI, ↓xTupT, ↓xTupL, ↓xLstT, ↓xLstL, ↓xIsiT, ↓xIsiI, ↓xIsiB, ↓xIsiS, ↓xMax2, ↓xMin2, ↓xSum, ↓xAll, ↓xApp, ↓xFld, ↓xFldS, ↓xGFd, ↓xCall, ↓xMeth, ↓xProp, ↓xNeg, ↓xNegI, ↓suIx0, ↓suIx1, ↓suIx2, ↓suIx3, ↓rwIx0, ↓rwIx1, ↓rwIx2, ↓rwIx3, ↓rwIx4, ↓rwIx5, ↓rwNo, ↓ddG, ↓ddS, ↓ddP, ↓ddGo, ↓liN, ↓liNe, ↓xFldX, ↓xFldWX, ↓xAppAX, ↓xAppBX, ↓xPop, ↓xPopK, ↓xLast, ↓xMthX, ↓xPrpX, ↓insU, ↓insN, ↓lsU, ↓lsN, ↓lk0, ↓lk1, ↓lk2, ↓lk3, ↓lk4, ↓lk5, ↓lk6, if_true, if_false, Bool.false_eq_true, Bool.true_eq_false, reduceIte, Bool.not_true, Bool.not_false, decide_eq_true_eq, Bool.not_eq_true', decide_eq_false_iff_not, not_true_eq_false, not_false_eq_true, and_true, true_and, true_implies, List.length_cons, List.length_nil, Nat.zero_le, decide_true, decide_false, decide_not, fl_len, pt2, pt3, pt4, pt5, pt6]; exact q) (by decide) (RiI lp mp M) ⟨⟨none, none, rfl⟩, rfl⟩ (fun k ρ M' hk ⟨⟨x, y, hρ⟩, hM⟩ => ?_) (fun ρ M' ⟨⟨x, y, hρ⟩, hM⟩ => ?_)
  · subst hρ hM
    obtain ⟨o, hok⟩ : ∃ o, os[k]? = some o := ⟨os[k], List.getElem?_eq_getElem (by omega)⟩
    have hmem := List.mem_of_getElem? hok
    have la := ha o hmem
    have oo := ho o hmem
    have ols := oo.lsok (by omega : n ≤ 5000)
    have k1 : (liftsD os)[k]? = some (.ref o.1.a) := mapAt hok
    have k2 : (modsD os)[k]? = some (modD o.2.s) := mapAt hok
    have a1 : ∀ {Q : D → Prop}, optK (atI (rulesD o.2.s) (-1)) Q = Q (rl o.2.s.present) := atLast
    have a2 : ∀ {Q : D → Prop}, optK (atI (statesD o.2.s) (-1)) Q = Q o.2.s.here.d := atLast
    have g1 : D.ok 60 (.lst ((o.2.s.done.filterMap Step.cm).map Cm.d)) = true := okAll_map _ fun x _ => ok_cm x
    have g2 : D.ok 60 (.lst (o.2.s.gone.map Ch.d)) = true := okAll_map _ fun x _ => ok_ch x
    have g3 : o.2.s.done.length ≤ 9000 := by have := ols.done; omega
    simp only [↓xSeq, ↓xNx, ↓xRt, ↓xBk, ↓xCt, ↓xEndNx, ↓xEndRt, ↓xNext, ↓xBreak, ↓xCont, ↓xDrop, ↓xRet, ↓xRetN, ↓xNever, ↓xIfS, ↓xPut0, ↓xPutS, ↓xSet, ↓xAug, ↓xAsg, ↓xUn2, ↓xUn1, ↓xPar, ↓xNm, ↓xNl, ↓xCn, ↓xSq, ↓xSqL, ↓xV0, ↓xVS, ↓xC, ↓xFrz, ↓xFrz1, ↓xOp, ↓xBl, ↓xB, ↓xChain, ↓xAnd, ↓xOr, ↓xNot, ↓xAndV, ↓xOrV, ↓xNotV, ↓xIf, ↓xNil, ↓xCons, ↓xTup, ↓xLst, ↓xLstO, ↓xOpt, ↓xAddI, ↓xAddT, ↓xAddL, ↓xSub, ↓xIAdd, ↓xFdiv, ↓xMod, ↓xPow, ↓xMul, ↓xLt, ↓xLe, ↓xGt, ↓xGe, ↓xEqI, ↓xNeI, ↓xEqB, ↓xNeB, ↓xIsBB, ↓xIsNN, ↓xIsTN, ↓xIsLN, ↓xIsIN, ↓xIsSN, ↓xIsRN, ↓xNoBB, ↓xNoNN, ↓xNoTN, ↓xNoLN, ↓xNoIN, ↓xNoSN, ↓xNoRN, ↓xInT, ↓xIx, ↓xIxT, ↓xIxL, ↓at0, ↓at1, ↓at2, ↓at3, ↓at4, ↓at5, ↓xSl, ↓xNo, ↓xInt, ↓xPart, ↓xCutT, ↓xCutL, ↓xCB, ↓xLenT, ↓xLenL, ↓xIntI, ↓xTupT, ↓xTupL, ↓xLstT, ↓xLstL, ↓xIsiT, ↓xIsiI, ↓xIsiB, ↓xIsiS, ↓xMax2, ↓xMin2, ↓xSum, ↓xAll, ↓xApp, ↓xFld, ↓xFldS, ↓xGFd, ↓xCall, ↓xMeth, ↓xProp, ↓xNeg, ↓xNegI, ↓suIx0, ↓suIx1, ↓suIx2, ↓suIx3, ↓rwIx0, ↓rwIx1, ↓rwIx2, ↓rwIx3, ↓rwIx4, ↓rwIx5, ↓rwNo, ↓ddG, ↓ddS, ↓ddP, ↓ddGo, ↓liN, ↓liNe, ↓xFldX, ↓xFldWX, ↓xAppAX, ↓xAppBX, ↓xPop, ↓xPopK, ↓xLast, ↓xMthX, ↓xPrpX, ↓insU, ↓insN, ↓lsU, ↓lsN, ↓lk0, ↓lk1, ↓lk2, ↓lk3, ↓lk4, ↓lk5, ↓lk6, if_true, if_false, Bool.false_eq_true, Bool.true_eq_false, reduceIte, Bool.not_true, Bool.not_false, decide_eq_true_eq, Bool.not_eq_true', decide_eq_false_iff_not, not_true_eq_false, not_false_eq_true, and_true, true_and, true_implies, List.length_cons, List.length_nil, Nat.zero_le, decide_true, decide_false, decide_not, fl_len, pt2, pt3, pt4, pt5, pt6, ↓ixLs hl, ↓ixLs hm, ↓atNat rfl k1, ↓atNat rfl k2, ↓ins_at la.ins, lkm, ↓x_state la, ↓x_prule la, ↓x_chairs la, ↓x_row la ols, ↓modIx1, ↓modIx2, ↓modIx3, ↓a1, ↓a2, ↓xNegI, ↓ne_same (ok_st o.2.s.here), ↓ne_same (ok_rl o.2.s.present), ↓ne_same g1, ↓ne_same g2, ↓x_rowof, g3, ↓x_eqGO la (show isPl .non from trivial), ↓x_eqGO la (show isPl o.2.s.here.d from trivial), ↓x_eqGO la (show isPl (.lst (o.2.s.gone.map Ch.d)) from trivial)]
    refine for_range (n := 3) (fun Q q => by simp only [↓xSeq, ↓xNx, ↓xRt, ↓xBk, ↓xCt, ↓xEndNx, ↓xEndRt, ↓xNext, ↓xBreak, ↓xCont, ↓xDrop, ↓xRet, ↓xRetN, ↓xNever, ↓xIfS, ↓xPut0, ↓xPutS, ↓xSet, ↓xAug, ↓xAsg, ↓xUn2, ↓xUn1, ↓xPar, ↓xNm, ↓xNl, ↓xCn, ↓xSq, ↓xSqL, ↓xV0, ↓xVS, ↓xC, ↓xFrz, ↓xFrz1, ↓xOp, ↓xBl, ↓xB, ↓xChain, ↓xAnd, ↓xOr, ↓xNot, ↓xAndV, ↓xOrV, ↓xNotV, ↓xIf, ↓xNil, ↓xCons, ↓xTup, ↓xLst, ↓xLstO, ↓xOpt, ↓xAddI, ↓xAddT, ↓xAddL, ↓xSub, ↓xIAdd, ↓xFdiv, ↓xMod, ↓xPow, ↓xMul, ↓xLt, ↓xLe, ↓xGt, ↓xGe, ↓xEqI, ↓xNeI, ↓xEqB, ↓xNeB, ↓xIsBB, ↓xIsNN, ↓xIsTN, ↓xIsLN, ↓xIsIN, ↓xIsSN, ↓xIsRN, ↓xNoBB, ↓xNoNN, ↓xNoTN, ↓xNoLN, ↓xNoIN, ↓xNoSN, ↓xNoRN, ↓xInT, ↓xIx, ↓xIxT, ↓xIxL, ↓at0, ↓at1, ↓at2, ↓at3, ↓at4, ↓at5, ↓xSl, ↓xNo, ↓xInt, ↓xPart, ↓xCutT, ↓xCutL, ↓xCB, ↓xLenT, ↓xLenL, ↓xIntI, ↓xTupT, ↓xTupL, ↓xLstT, ↓xLstL, ↓xIsiT, ↓xIsiI, ↓xIsiB, ↓xIsiS, ↓xMax2, ↓xMin2, ↓xSum, ↓xAll, ↓xApp, ↓xFld, ↓xFldS, ↓xGFd, ↓xCall, ↓xMeth, ↓xProp, ↓xNeg, ↓xNegI, ↓suIx0, ↓suIx1, ↓suIx2, ↓suIx3, ↓rwIx0, ↓rwIx1, ↓rwIx2, ↓rwIx3, ↓rwIx4, ↓rwIx5, ↓rwNo, ↓ddG, ↓ddS, ↓ddP, ↓ddGo, ↓liN, ↓liNe, ↓xFldX, ↓xFldWX, ↓xAppAX, ↓xAppBX, ↓xPop, ↓xPopK, ↓xLast, ↓xMthX, ↓xPrpX, ↓insU, ↓insN, ↓lsU, ↓lsN, ↓lk0, ↓lk1, ↓lk2, ↓lk3, ↓lk4, ↓lk5, ↓lk6, if_true, if_false, Bool.false_eq_true, Bool.true_eq_false, reduceIte, Bool.not_true, Bool.not_false, decide_eq_true_eq, Bool.not_eq_true', decide_eq_false_iff_not, not_true_eq_false, not_false_eq_true, and_true, true_and, true_implies, List.length_cons, List.length_nil, Nat.zero_le, decide_true, decide_false, decide_not, fl_len, pt2, pt3, pt4, pt5, pt6]; exact q) (by decide) (RiJ lp mp M' k) ⟨⟨_, rfl⟩, rfl⟩ (fun i ρ M2 hi ⟨⟨y, hρ⟩, hM⟩ => ?_) (fun ρ M2 ⟨⟨y, hρ⟩, hM⟩ => ⟨⟨_, _, hρ⟩, hM⟩)
    subst hρ hM
    obtain ⟨o2, hok2⟩ : ∃ o, os[i]? = some o := ⟨os[i], List.getElem?_eq_getElem (by omega)⟩
    have la2 := ha o2 (List.mem_of_getElem? hok2)
    have k3 : (liftsD os)[i]? = some (.ref o2.1.a) := mapAt hok2
    have k4 : (modsD os)[i]? = some (modD o2.2.s) := mapAt hok2
    simp only [↓xSeq, ↓xNx, ↓xRt, ↓xBk, ↓xCt, ↓xEndNx, ↓xEndRt, ↓xNext, ↓xBreak, ↓xCont, ↓xDrop, ↓xRet, ↓xRetN, ↓xNever, ↓xIfS, ↓xPut0, ↓xPutS, ↓xSet, ↓xAug, ↓xAsg, ↓xUn2, ↓xUn1, ↓xPar, ↓xNm, ↓xNl, ↓xCn, ↓xSq, ↓xSqL, ↓xV0, ↓xVS, ↓xC, ↓xFrz, ↓xFrz1, ↓xOp, ↓xBl, ↓xB, ↓xChain, ↓xAnd, ↓xOr, ↓xNot, ↓xAndV, ↓xOrV, ↓xNotV, ↓xIf, ↓xNil, ↓xCons, ↓xTup, ↓xLst, ↓xLstO, ↓xOpt, ↓xAddI, ↓xAddT, ↓xAddL, ↓xSub, ↓xIAdd, ↓xFdiv, ↓xMod, ↓xPow, ↓xMul, ↓xLt, ↓xLe, ↓xGt, ↓xGe, ↓xEqI, ↓xNeI, ↓xEqB, ↓xNeB, ↓xIsBB, ↓xIsNN, ↓xIsTN, ↓xIsLN, ↓xIsIN, ↓xIsSN, ↓xIsRN, ↓xNoBB, ↓xNoNN, ↓xNoTN, ↓xNoLN, ↓xNoIN, ↓xNoSN, ↓xNoRN, ↓xInT, ↓xIx, ↓xIxT, ↓xIxL, ↓at0, ↓at1, ↓at2, ↓at3, ↓at4, ↓at5, ↓xSl, ↓xNo, ↓xInt, ↓xPart, ↓xCutT, ↓xCutL, ↓xCB, ↓xLenT, ↓xLenL, ↓xIntI, ↓xTupT, ↓xTupL, ↓xLstT, ↓xLstL, ↓xIsiT, ↓xIsiI, ↓xIsiB, ↓xIsiS, ↓xMax2, ↓xMin2, ↓xSum, ↓xAll, ↓xApp, ↓xFld, ↓xFldS, ↓xGFd, ↓xCall, ↓xMeth, ↓xProp, ↓xNeg, ↓xNegI, ↓suIx0, ↓suIx1, ↓suIx2, ↓suIx3, ↓rwIx0, ↓rwIx1, ↓rwIx2, ↓rwIx3, ↓rwIx4, ↓rwIx5, ↓rwNo, ↓ddG, ↓ddS, ↓ddP, ↓ddGo, ↓liN, ↓liNe, ↓xFldX, ↓xFldWX, ↓xAppAX, ↓xAppBX, ↓xPop, ↓xPopK, ↓xLast, ↓xMthX, ↓xPrpX, ↓insU, ↓insN, ↓lsU, ↓lsN, ↓lk0, ↓lk1, ↓lk2, ↓lk3, ↓lk4, ↓lk5, ↓lk6, if_true, if_false, Bool.false_eq_true, Bool.true_eq_false, reduceIte, Bool.not_true, Bool.not_false, decide_eq_true_eq, Bool.not_eq_true', decide_eq_false_iff_not, not_true_eq_false, not_false_eq_true, and_true, true_and, true_implies, List.length_cons, List.length_nil, Nat.zero_le, decide_true, decide_false, decide_not, fl_len, pt2, pt3, pt4, pt5, pt6, ↓ixLs hl, ↓ixLs hm, ↓atNat rfl k1, ↓atNat rfl k2, ↓atNat rfl k3, ↓atNat rfl k4, ↓x_eqG la la2, ↓x_same]
    cases eqF o.2.s o2.2.s with
    | true => simp only [↓xSeq, ↓xNx, ↓xRt, ↓xBk, ↓xCt, ↓xEndNx, ↓xEndRt, ↓xNext, ↓xBreak, ↓xCont, ↓xDrop, ↓xRet, ↓xRetN, ↓xNever, ↓xIfS, ↓xPut0, ↓xPutS, ↓xSet, ↓xAug, ↓xAsg, ↓xUn2, ↓xUn1, ↓xPar, ↓xNm, ↓xNl, ↓xCn, ↓xSq, ↓xSqL, ↓xV0, ↓xVS, ↓xC, ↓xFrz, ↓xFrz1, ↓xOp, ↓xBl, ↓xB, ↓xChain, ↓xAnd, ↓xOr, ↓xNot, ↓xAndV, ↓xOrV, ↓xNotV, ↓xIf, ↓xNil, ↓xCons, ↓xTup, ↓xLst, ↓xLstO, ↓xOpt, ↓xAddI, ↓xAddT, ↓xAddL, ↓xSub, ↓xIAdd, ↓xFdiv, ↓xMod, ↓xPow, ↓xMul, ↓xLt, ↓xLe, ↓xGt, ↓xGe, ↓xEqI, ↓xNeI, ↓xEqB, ↓xNeB, ↓xIsBB, ↓xIsNN, ↓xIsTN, ↓xIsLN, ↓xIsIN, ↓xIsSN, ↓xIsRN, ↓xNoBB, ↓xNoNN, ↓xNoTN, ↓xNoLN, ↓xNoIN, ↓xNoSN, ↓xNoRN, ↓xInT, ↓xIx, ↓xIxT, ↓xIxL, ↓at0, ↓at1, ↓at2, ↓at3, ↓at4, ↓at5, ↓xSl, ↓xNo, ↓xInt, ↓xPart, ↓xCutT, ↓xCutL, ↓xCB, ↓xLenT, ↓xLenL, ↓xIntI, ↓xTupT, ↓xTupL, ↓xLstT, ↓xLstL, ↓xIsiT, ↓xIsiI, ↓xIsiB, ↓xIsiS, ↓xMax2, ↓xMin2, ↓xSum, ↓xAll, ↓xApp, ↓xFld, ↓xFldS, ↓xGFd, ↓xCall, ↓xMeth, ↓xProp, ↓xNeg, ↓xNegI, ↓suIx0, ↓suIx1, ↓suIx2, ↓suIx3, ↓rwIx0, ↓rwIx1, ↓rwIx2, ↓rwIx3, ↓rwIx4, ↓rwIx5, ↓rwNo, ↓ddG, ↓ddS, ↓ddP, ↓ddGo, ↓liN, ↓liNe, ↓xFldX, ↓xFldWX, ↓xAppAX, ↓xAppBX, ↓xPop, ↓xPopK, ↓xLast, ↓xMthX, ↓xPrpX, ↓insU, ↓insN, ↓lsU, ↓lsN, ↓lk0, ↓lk1, ↓lk2, ↓lk3, ↓lk4, ↓lk5, ↓lk6, if_true, if_false, Bool.false_eq_true, Bool.true_eq_false, reduceIte, Bool.not_true, Bool.not_false, decide_eq_true_eq, Bool.not_eq_true', decide_eq_false_iff_not, not_true_eq_false, not_false_eq_true, and_true, true_and, true_implies, List.length_cons, List.length_nil, Nat.zero_le, decide_true, decide_false, decide_not, fl_len, pt2, pt3, pt4, pt5, pt6, reduceCtorEq]; exact ⟨⟨_, rfl⟩, rfl⟩
    | false => simp only [↓xSeq, ↓xNx, ↓xRt, ↓xBk, ↓xCt, ↓xEndNx, ↓xEndRt, ↓xNext, ↓xBreak, ↓xCont, ↓xDrop, ↓xRet, ↓xRetN, ↓xNever, ↓xIfS, ↓xPut0, ↓xPutS, ↓xSet, ↓xAug, ↓xAsg, ↓xUn2, ↓xUn1, ↓xPar, ↓xNm, ↓xNl, ↓xCn, ↓xSq, ↓xSqL, ↓xV0, ↓xVS, ↓xC, ↓xFrz, ↓xFrz1, ↓xOp, ↓xBl, ↓xB, ↓xChain, ↓xAnd, ↓xOr, ↓xNot, ↓xAndV, ↓xOrV, ↓xNotV, ↓xIf, ↓xNil, ↓xCons, ↓xTup, ↓xLst, ↓xLstO, ↓xOpt, ↓xAddI, ↓xAddT, ↓xAddL, ↓xSub, ↓xIAdd, ↓xFdiv, ↓xMod, ↓xPow, ↓xMul, ↓xLt, ↓xLe, ↓xGt, ↓xGe, ↓xEqI, ↓xNeI, ↓xEqB, ↓xNeB, ↓xIsBB, ↓xIsNN, ↓xIsTN, ↓xIsLN, ↓xIsIN, ↓xIsSN, ↓xIsRN, ↓xNoBB, ↓xNoNN, ↓xNoTN, ↓xNoLN, ↓xNoIN, ↓xNoSN, ↓xNoRN, ↓xInT, ↓xIx, ↓xIxT, ↓xIxL, ↓at0, ↓at1, ↓at2, ↓at3, ↓at4, ↓at5, ↓xSl, ↓xNo, ↓xInt, ↓xPart, ↓xCutT, ↓xCutL, ↓xCB, ↓xLenT, ↓xLenL, ↓xIntI, ↓xTupT, ↓xTupL, ↓xLstT, ↓xLstL, ↓xIsiT, ↓xIsiI, ↓xIsiB, ↓xIsiS, ↓xMax2, ↓xMin2, ↓xSum, ↓xAll, ↓xApp, ↓xFld, ↓xFldS, ↓xGFd, ↓xCall, ↓xMeth, ↓xProp, ↓xNeg, ↓xNegI, ↓suIx0, ↓suIx1, ↓suIx2, ↓suIx3, ↓rwIx0, ↓rwIx1, ↓rwIx2, ↓rwIx3, ↓rwIx4, ↓rwIx5, ↓rwNo, ↓ddG, ↓ddS, ↓ddP, ↓ddGo, ↓liN, ↓liNe, ↓xFldX, ↓xFldWX, ↓xAppAX, ↓xAppBX, ↓xPop, ↓xPopK, ↓xLast, ↓xMthX, ↓xPrpX, ↓insU, ↓insN, ↓lsU, ↓lsN, ↓lk0, ↓lk1, ↓lk2, ↓lk3, ↓lk4, ↓lk5, ↓lk6, if_true, if_false, Bool.false_eq_true, Bool.true_eq_false, reduceIte, Bool.not_true, Bool.not_false, decide_eq_true_eq, Bool.not_eq_true', decide_eq_false_iff_not, not_true_eq_false, not_false_eq_true, and_true, true_and, true_implies, List.length_cons, List.length_nil, Nat.zero_le, decide_true, decide_false, decide_not, fl_len, pt2, pt3, pt4, pt5, pt6, reduceCtorEq]; exact ⟨⟨_, rfl⟩, rfl⟩
  · subst hρ hM
    simp only [↓xSeq, ↓xNx, ↓xRt, ↓xBk, ↓xCt, ↓xEndNx, ↓xEndRt, ↓xNext, ↓xBreak, ↓xCont, ↓xDrop, ↓xRet, ↓xRetN, ↓xNever, ↓xIfS, ↓xPut0, ↓xPutS, ↓xSet, ↓xAug, ↓xAsg, ↓xUn2, ↓xUn1, ↓xPar, ↓xNm, ↓xNl, ↓xCn, ↓xSq, ↓xSqL, ↓xV0, ↓xVS, ↓xC, ↓xFrz, ↓xFrz1, ↓xOp, ↓xBl, ↓xB, ↓xChain, ↓xAnd, ↓xOr, ↓xNot, ↓xAndV, ↓xOrV, ↓xNotV, ↓xIf, ↓xNil, ↓xCons, ↓xTup, ↓xLst, ↓xLstO, ↓xOpt, ↓xAddI, ↓xAddT, ↓xAddL, ↓xSub, ↓xIAdd, ↓xFdiv, ↓xMod, ↓xPow, ↓xMul, ↓xLt, ↓xLe, ↓xGt, ↓xGe, ↓xEqI, ↓xNeI, ↓xEqB, ↓xNeB, ↓xIsBB, ↓xIsNN, ↓xIsTN, ↓xIsLN, ↓xIsIN, ↓xIsSN, ↓xIsRN, ↓xNoBB, ↓xNoNN, ↓xNoTN, ↓xNoLN, ↓xNoIN, ↓xNoSN, ↓xNoRN, ↓xInT, ↓xIx, ↓xIxT, ↓xIxL, ↓at0, ↓at1, ↓at2, ↓at3, ↓at4, ↓at5, ↓xSl, ↓xNo, ↓xInt, ↓xPart, ↓xCutT, ↓xCutL, ↓xCB, ↓xLenT, ↓xLenL, ↓xIntI, ↓xTupT, ↓xTupL, ↓xLstT, ↓xLstL, ↓xIsiT, ↓xIsiI, ↓xIsiB, ↓xIsiS, ↓xMax2, ↓xMin2, ↓xSum, ↓xAll, ↓xApp, ↓xFld, ↓xFldS, ↓xGFd, ↓xCall, ↓xMeth, ↓xProp, ↓xNeg, ↓xNegI, ↓suIx0, ↓suIx1, ↓suIx2, ↓suIx3, ↓rwIx0, ↓rwIx1, ↓rwIx2, ↓rwIx3, ↓rwIx4, ↓rwIx5, ↓rwNo, ↓ddG, ↓ddS, ↓ddP, ↓ddGo, ↓liN, ↓liNe, ↓xFldX, ↓xFldWX, ↓xAppAX, ↓xAppBX, ↓xPop, ↓xPopK, ↓xLast, ↓xMthX, ↓xPrpX, ↓insU, ↓insN, ↓lsU, ↓lsN, ↓lk0, ↓lk1, ↓lk2, ↓lk3, ↓lk4, ↓lk5, ↓lk6, if_true, if_false, Bool.false_eq_true, Bool.true_eq_false, reduceIte, Bool.not_true, Bool.not_false, decide_eq_true_eq, Bool.not_eq_true', decide_eq_false_iff_not, not_true_eq_false, not_false_eq_true, and_true, true_and, true_implies, List.length_cons, List.length_nil, Nat.zero_le, decide_true, decide_false, decide_not, fl_len, pt2, pt3, pt4, pt5, pt6]
    exact fin hq
end DL

namespace DL
open PySem PySem.Spec PyProof.Rows L2
def topS (i : Nat) : Stmt := PySem.Challenge.pw_fillchairs_k85_whole_lifts_and_copies.main.body.getD i (.Pass ⟨0, 0, 0, 0⟩)
structure Bi (mg : Str → Option Value) : Prop where
  all_ : mg "all" = none
  bool_ : mg "bool" = none
  int_ : mg "int" = none
  isinstance_ : mg "isinstance" = none
  len : mg "len" = none
  list_ : mg "list" = none
  max_ : mg "max" = none
  min_ : mg "min" = none
  range_ : mg "range" = none
  str_ : mg "str" = none
  tuple_ : mg "tuple" = none
  zip_ : mg "zip" = none
structure TLift (K : PySem.W.Frag) (C : Addr) : Prop where
  cl : Cls K C
  n_setup : NoAttr K C "setup"
  n_first : NoAttr K C "first"
  n_present : NoAttr K C "present"
  n_here : NoAttr K C "here"
  n_done : NoAttr K C "done"
  n_gone : NoAttr K C "gone"
  n_earlier : NoAttr K C "earlier"
/-! is_integer -/
abbrev s_is_integer : Stmt := topS 12
abbrev N_is_integer : List Str := ["thing"]
theorem sc_is_integer : FnScope N_is_integer ["thing"] (defScope s_is_integer) := ⟨rfl, rfl, rfl, by decide +kernel, rfl, by decide +kernel, by decide +kernel⟩
theorem w_is_integer {P : Program} {w : World} {K : PySem.W.Frag} {mg : Str → Option Value} {base : Heap} (b : Bi mg) {f : Addr} {cdv : Value} {A : Around} {outer : List Env} {s : Shared} {H : Hp} {E : XK} (hr : Room 1 (A.deeper (envOfC "is_integer" (defScope s_is_integer) s.heap.objs.size f cdv))) :
    DSs (cxOf CX0 P w K mg base N_is_integer "is_integer" (defScope s_is_integer) f cdv A outer s H E).nox G0 (defBody s_is_integer) (d_is_integer) :=
  (dss_one (ds_ret (de_and (de_callB cd_isi b.isinstance_ (by decide +kernel) (da_cons (de_var 0 rfl (.inl rfl)) (da_cons (de_bltn b.int_ (by decide +kernel)) da_nil))) (de_one (de_not (de_callB cd_isi b.isinstance_ (by decide +kernel) (da_cons (de_var 0 rfl (.inl rfl)) (da_cons (de_bltn b.bool_ (by decide +kernel)) da_nil))))))))
/-! is_number -/
abbrev s_is_number : Stmt := topS 13
abbrev N_is_number : List Str := ["thing", "low", "high"]
theorem sc_is_number : FnScope N_is_number ["thing", "low", "high"] (defScope s_is_number) := ⟨rfl, rfl, rfl, by decide +kernel, rfl, by decide +kernel, by decide +kernel⟩
theorem w_is_number {P : Program} {w : World} {K : PySem.W.Frag} {mg : Str → Option Value} {base : Heap} {S_is_integer : DSp} (h_is_integer : Has P w K mg base "is_integer" 2 S_is_integer) {f : Addr} {cdv : Value} {A : Around} {outer : List Env} {s : Shared} {H : Hp} {E : XK} (hr : Room 2 (A.deeper (envOfC "is_number" (defScope s_is_number) s.heap.objs.size f cdv))) :
    DSs (cxOf CX0 P w K mg base N_is_number "is_number" (defScope s_is_number) f cdv A outer s H E).nox G0 (defBody s_is_number) (d_is_number S_is_integer) :=
  (dss_one (ds_ret (de_and (de_callH h_is_integer hr (by decide) (da_cons (de_var 0 rfl (.inl rfl)) da_nil)) (de_one (de_chain od_le od_le (de_var 1 rfl (.inl rfl)) (de_var 0 rfl (.inl rfl)) (de_var 2 rfl (.inl rfl)))))))
/-! are_numbers -/
abbrev s_are_numbers : Stmt := topS 14
abbrev N_are_numbers : List Str := ["thing", "least", "most", "low", "high", "number"]
theorem sc_are_numbers : FnScope N_are_numbers ["thing", "least", "most", "low", "high"] (defScope s_are_numbers) := ⟨rfl, rfl, rfl, by decide +kernel, rfl, by decide +kernel, by decide +kernel⟩
theorem w_are_numbers {P : Program} {w : World} {K : PySem.W.Frag} {mg : Str → Option Value} {base : Heap} {S_is_number : DSp} (b : Bi mg) (h_is_number : Has P w K mg base "is_number" 3 S_is_number) {f : Addr} {cdv : Value} {A : Around} {outer : List Env} {s : Shared} {H : Hp} {E : XK} (hr : Room 3 (A.deeper (envOfC "are_numbers" (defScope s_are_numbers) s.heap.objs.size f cdv))) :
    DSs (cxOf CX0 P w K mg base N_are_numbers "are_numbers" (defScope s_are_numbers) f cdv A outer s H E).nox G0 (defBody s_are_numbers) (d_are_numbers S_is_number) :=
  (dss_cons (ds_if (dt_w (dw_or (dt_not (dt_val (de_callB cd_isi b.isinstance_ (by decide +kernel) (da_cons (de_var 0 rfl (.inl rfl)) (da_cons (de_bltn b.tuple_ (by decide +kernel)) da_nil))))) (dw_or1 (dt_not (dt_chain od_le od_le (de_var 1 rfl (.inl rfl)) (de_callB cd_len b.len (by decide +kernel) (da_cons (de_var 0 rfl (.inl rfl)) da_nil)) (de_var 2 rfl (.inl rfl))))))) (dss_one (ds_ret de_bl)) dss_nil)
    (dss_one (ds_ret (de_callB (cd_all rfl) b.all_ (by decide +kernel) (da_cons (de_lc (ct := (.one 5)) (own := [("number", 5)]) rfl sc_are_numbers.nd (di_seq (de_var 0 rfl (.inl rfl))) (blkOk_by (own := [("number", 5)]) (N := N_are_numbers) (sc := defScope s_are_numbers) (by decide +kernel)) (fun _ _ _ _ _ => pg_name (i := 5) sc_are_numbers.nd rfl (Or.inl rfl) (.inr rfl)) (fun _ _ _ _ _ => dts_nil) (fun _ _ _ _ _ => (de_callH h_is_number hr (by decide) (da_cons (de_var 5 rfl (.inl rfl)) (da_cons (de_var 3 rfl (.inr (.inl rfl))) (da_cons (de_var 4 rfl (.inr (.inl rfl))) da_nil)))))) da_nil)))))
/-! are_most -/
abbrev s_are_most : Stmt := topS 15
abbrev N_are_most : List Str := ["thing", "groups_low", "groups_high", "singles_high"]
theorem sc_are_most : FnScope N_are_most ["thing", "groups_low", "groups_high", "singles_high"] (defScope s_are_most) := ⟨rfl, rfl, rfl, by decide +kernel, rfl, by decide +kernel, by decide +kernel⟩
theorem w_are_most {P : Program} {w : World} {K : PySem.W.Frag} {mg : Str → Option Value} {base : Heap} {S_are_numbers : DSp} (h_are_numbers : Has P w K mg base "are_numbers" 4 S_are_numbers) {f : Addr} {cdv : Value} {A : Around} {outer : List Env} {s : Shared} {H : Hp} {E : XK} (hr : Room 4 (A.deeper (envOfC "are_most" (defScope s_are_most) s.heap.objs.size f cdv))) :
    DSs (cxOf CX0 P w K mg base N_are_most "are_most" (defScope s_are_most) f cdv A outer s H E).nox G0 (defBody s_are_most) (d_are_most S_are_numbers) :=
  (dss_cons (ds_if (dt_not (dt_val (de_callH h_are_numbers hr (by decide) (da_cons (de_var 0 rfl (.inl rfl)) (da_cons de_int (da_cons de_int (da_cons de_int (da_cons de_int da_nil)))))))) (dss_one (ds_ret de_bl)) dss_nil)
    (dss_one (ds_ret (de_and (de_chain od_le od_le (de_var 1 rfl (.inl rfl)) (de_ix (de_var 0 rfl (.inl rfl)) de_int) (de_var 2 rfl (.inl rfl))) (de_one (de_cmp od_le (de_ix (de_var 0 rfl (.inl rfl)) de_int) (de_var 3 rfl (.inl rfl)) (nomark _)))))))
/-! is_setup -/
abbrev s_is_setup : Stmt := topS 16
abbrev N_is_setup : List Str := ["thing", "seats", "sizes", "rooms", "comers", "one", "other"]
theorem sc_is_setup : FnScope N_is_setup ["thing"] (defScope s_is_setup) := ⟨rfl, rfl, rfl, by decide +kernel, rfl, by decide +kernel, by decide +kernel⟩
theorem w_is_setup {P : Program} {w : World} {K : PySem.W.Frag} {mg : Str → Option Value} {base : Heap} {S_are_numbers : DSp} {S_are_most : DSp} (b : Bi mg) (h_are_numbers : Has P w K mg base "are_numbers" 4 S_are_numbers) (h_are_most : Has P w K mg base "are_most" 5 S_are_most) {f : Addr} {cdv : Value} {A : Around} {outer : List Env} {s : Shared} {H : Hp} {E : XK} (hr : Room 5 (A.deeper (envOfC "is_setup" (defScope s_is_setup) s.heap.objs.size f cdv))) :
    DSs (cxOf CX0 P w K mg base N_is_setup "is_setup" (defScope s_is_setup) f cdv A outer s H E).nox G0 (defBody s_is_setup) (d_is_setup S_are_numbers S_are_most) :=
  (dss_cons (ds_if (dt_w (dw_or (dt_not (dt_val (de_callB cd_isi b.isinstance_ (by decide +kernel) (da_cons (de_var 0 rfl (.inl rfl)) (da_cons (de_bltn b.tuple_ (by decide +kernel)) da_nil))))) (dw_or1 (dt_cmp (od_ne hr) (de_callB cd_len b.len (by decide +kernel) (da_cons (de_var 0 rfl (.inl rfl)) da_nil)) de_int (nomark _))))) (dss_one (ds_ret de_bl)) dss_nil)
    (dss_cons (ds_asg (de_var 0 rfl (.inl rfl)) (dg_seq rfl (dgs_cons (dg_name 1 sc_is_setup.nd rfl (.inl rfl) (.inl rfl)) (dgs_cons (dg_name 2 sc_is_setup.nd rfl (.inl rfl) (.inl rfl)) (dgs_cons (dg_name 3 sc_is_setup.nd rfl (.inl rfl) (.inl rfl)) (dgs_cons (dg_name 4 sc_is_setup.nd rfl (.inl rfl) (.inl rfl)) dgs_nil))))))
    (dss_cons (ds_if (dt_w (dw_or (dt_not (dt_val (de_callH h_are_numbers hr (by decide) (da_cons (de_var 1 rfl (.inl rfl)) (da_cons de_int (da_cons de_int (da_cons de_int (da_cons de_int da_nil)))))))) (dw_or1 (dt_not (dt_val (de_callH h_are_numbers hr (by decide) (da_cons (de_var 2 rfl (.inl rfl)) (da_cons de_int (da_cons de_int (da_cons de_int (da_cons de_int da_nil))))))))))) (dss_one (ds_ret de_bl)) dss_nil)
    (dss_cons (ds_if (dt_not (dt_val (de_callB (cd_all rfl) b.all_ (by decide +kernel) (da_cons (de_lc (ct := (.tup [5, 6])) (own := [("one", 5), ("other", 6)]) rfl sc_is_setup.nd (di_zipT b.zip_ (da_cons (de_var 2 rfl (.inl rfl)) (da_cons (de_sl (de_var 2 rfl (.inl rfl)) (dp_some de_int) dp_none) da_nil)) rfl (fun h => RZ.pi_zipA (by rfl) b.zip_ h)) (blkOk_by (own := [("one", 5), ("other", 6)]) (N := N_is_setup) (sc := defScope s_is_setup) (by decide +kernel)) (fun _ _ _ _ _ => pg_tup rfl (pgs_cons (pg_name (i := 5) sc_is_setup.nd rfl (Or.inl rfl) (.inr rfl)) (pgs_cons (pg_name (i := 6) sc_is_setup.nd rfl (Or.inl rfl) (.inr rfl)) pgs_nil))) (fun _ _ _ _ _ => dts_nil) (fun _ _ _ _ _ => (de_cmp od_lt (de_var 5 rfl (.inl rfl)) (de_var 6 rfl (.inl rfl)) (nomark _)))) da_nil)))) (dss_one (ds_ret de_bl)) dss_nil)
    (dss_one (ds_ret (de_and (de_callH h_are_most hr (by decide) (da_cons (de_var 3 rfl (.inl rfl)) (da_cons de_int (da_cons de_int (da_cons de_int da_nil))))) (de_one (de_callH h_are_most hr (by decide) (da_cons (de_var 4 rfl (.inl rfl)) (da_cons de_int (da_cons de_int (da_cons de_int da_nil)))))))))))))
/-! is_range -/
abbrev s_is_range : Stmt := topS 17
abbrev N_is_range : List Str := ["thing"]
theorem sc_is_range : FnScope N_is_range ["thing"] (defScope s_is_range) := ⟨rfl, rfl, rfl, by decide +kernel, rfl, by decide +kernel, by decide +kernel⟩
theorem w_is_range {P : Program} {w : World} {K : PySem.W.Frag} {mg : Str → Option Value} {base : Heap} {S_are_numbers : DSp} (h_are_numbers : Has P w K mg base "are_numbers" 4 S_are_numbers) {f : Addr} {cdv : Value} {A : Around} {outer : List Env} {s : Shared} {H : Hp} {E : XK} (hr : Room 4 (A.deeper (envOfC "is_range" (defScope s_is_range) s.heap.objs.size f cdv))) :
    DSs (cxOf CX0 P w K mg base N_is_range "is_range" (defScope s_is_range) f cdv A outer s H E).nox G0 (defBody s_is_range) (d_is_range S_are_numbers) :=
  (dss_one (ds_ret (de_and (de_callH h_are_numbers hr (by decide) (da_cons (de_var 0 rfl (.inl rfl)) (da_cons de_int (da_cons de_int (da_cons de_int (da_cons de_int da_nil)))))) (de_one (de_cmp od_le (de_ix (de_var 0 rfl (.inl rfl)) de_int) (de_ix (de_var 0 rfl (.inl rfl)) de_int) (nomark _))))))
/-! is_rule_row -/
abbrev s_is_rule_row : Stmt := topS 18
abbrev N_is_rule_row : List Str := ["thing", "mood", "front", "left", "waiting", "deed", "after"]
theorem sc_is_rule_row : FnScope N_is_rule_row ["thing"] (defScope s_is_rule_row) := ⟨rfl, rfl, rfl, by decide +kernel, rfl, by decide +kernel, by decide +kernel⟩
theorem w_is_rule_row {P : Program} {w : World} {K : PySem.W.Frag} {mg : Str → Option Value} {base : Heap} {S_is_number : DSp} {S_is_range : DSp} (b : Bi mg) (h_is_number : Has P w K mg base "is_number" 3 S_is_number) (h_is_range : Has P w K mg base "is_range" 5 S_is_range) (v_DEEDS : HasV P w K mg "DEEDS" (.tup [(.str "group"), (.str "single"), (.str "part"), (.str "go")])) {f : Addr} {cdv : Value} {A : Around} {outer : List Env} {s : Shared} {H : Hp} {E : XK} (hr : Room 5 (A.deeper (envOfC "is_rule_row" (defScope s_is_rule_row) s.heap.objs.size f cdv))) :
    DSs (cxOf CX0 P w K mg base N_is_rule_row "is_rule_row" (defScope s_is_rule_row) f cdv A outer s H E).nox G0 (defBody s_is_rule_row) (d_is_rule_row S_is_number S_is_range) :=
  (dss_cons (ds_if (dt_w (dw_or (dt_not (dt_val (de_callB cd_isi b.isinstance_ (by decide +kernel) (da_cons (de_var 0 rfl (.inl rfl)) (da_cons (de_bltn b.tuple_ (by decide +kernel)) da_nil))))) (dw_or1 (dt_cmp (od_ne hr) (de_callB cd_len b.len (by decide +kernel) (da_cons (de_var 0 rfl (.inl rfl)) da_nil)) de_int (nomark _))))) (dss_one (ds_ret de_bl)) dss_nil)
    (dss_cons (ds_asg (de_var 0 rfl (.inl rfl)) (dg_seq rfl (dgs_cons (dg_name 1 sc_is_rule_row.nd rfl (.inl rfl) (.inl rfl)) (dgs_cons (dg_name 2 sc_is_rule_row.nd rfl (.inl rfl) (.inl rfl)) (dgs_cons (dg_name 3 sc_is_rule_row.nd rfl (.inl rfl) (.inl rfl)) (dgs_cons (dg_name 4 sc_is_rule_row.nd rfl (.inl rfl) (.inl rfl)) (dgs_cons (dg_name 5 sc_is_rule_row.nd rfl (.inl rfl) (.inl rfl)) (dgs_cons (dg_name 6 sc_is_rule_row.nd rfl (.inl rfl) (.inl rfl)) dgs_nil))))))))
    (dss_cons (ds_if (dt_w (dw_or (dt_not (dt_val (de_callH h_is_number hr (by decide) (da_cons (de_var 1 rfl (.inl rfl)) (da_cons de_int (da_cons de_int da_nil)))))) (dw_or1 (dt_not (dt_val (de_callH h_is_number hr (by decide) (da_cons (de_var 6 rfl (.inl rfl)) (da_cons de_int (da_cons de_int da_nil))))))))) (dss_one (ds_ret de_bl)) dss_nil)
    (dss_cons (ds_if (dt_w (dw_or (dt_not (dt_val (de_callH h_is_range hr (by decide) (da_cons (de_var 2 rfl (.inl rfl)) da_nil)))) (dw_or (dt_not (dt_val (de_callH h_is_range hr (by decide) (da_cons (de_var 3 rfl (.inl rfl)) da_nil)))) (dw_or1 (dt_not (dt_val (de_callH h_is_range hr (by decide) (da_cons (de_var 4 rfl (.inl rfl)) da_nil)))))))) (dss_one (ds_ret de_bl)) dss_nil)
    (dss_one (ds_ret (de_and (de_callB cd_isi b.isinstance_ (by decide +kernel) (da_cons (de_var 5 rfl (.inl rfl)) (da_cons (de_bltn b.str_ (by decide +kernel)) da_nil))) (de_one (de_cmp (od_in hr) (de_var 5 rfl (.inl rfl)) (de_globH v_DEEDS) (by rfl))))))))))
/-! is_rule -/
abbrev s_is_rule : Stmt := topS 19
abbrev N_is_rule : List Str := ["thing", "row"]
theorem sc_is_rule : FnScope N_is_rule ["thing"] (defScope s_is_rule) := ⟨rfl, rfl, rfl, by decide +kernel, rfl, by decide +kernel, by decide +kernel⟩
theorem w_is_rule {P : Program} {w : World} {K : PySem.W.Frag} {mg : Str → Option Value} {base : Heap} {S_is_rule_row : DSp} (b : Bi mg) (v_MOST_ROWS : HasV P w K mg "MOST_ROWS" (.int 8)) (h_is_rule_row : Has P w K mg base "is_rule_row" 6 S_is_rule_row) {f : Addr} {cdv : Value} {A : Around} {outer : List Env} {s : Shared} {H : Hp} {E : XK} (hr : Room 6 (A.deeper (envOfC "is_rule" (defScope s_is_rule) s.heap.objs.size f cdv))) :
    DSs (cxOf CX0 P w K mg base N_is_rule "is_rule" (defScope s_is_rule) f cdv A outer s H E).nox G0 (defBody s_is_rule) (d_is_rule S_is_rule_row) :=
  (dss_cons (ds_if (dt_w (dw_or (dt_not (dt_val (de_callB cd_isi b.isinstance_ (by decide +kernel) (da_cons (de_var 0 rfl (.inl rfl)) (da_cons (de_bltn b.tuple_ (by decide +kernel)) da_nil))))) (dw_or1 (dt_cmp od_gt (de_callB cd_len b.len (by decide +kernel) (da_cons (de_var 0 rfl (.inl rfl)) da_nil)) (de_globH v_MOST_ROWS) (nomark _))))) (dss_one (ds_ret de_bl)) dss_nil)
    (dss_one (ds_ret (de_callB (cd_all rfl) b.all_ (by decide +kernel) (da_cons (de_lc (ct := (.one 1)) (own := [("row", 1)]) rfl sc_is_rule.nd (di_seq (de_var 0 rfl (.inl rfl))) (blkOk_by (own := [("row", 1)]) (N := N_is_rule) (sc := defScope s_is_rule) (by decide +kernel)) (fun _ _ _ _ _ => pg_name (i := 1) sc_is_rule.nd rfl (Or.inl rfl) (.inr rfl)) (fun _ _ _ _ _ => dts_nil) (fun _ _ _ _ _ => (de_callH h_is_rule_row hr (by decide) (da_cons (de_var 1 rfl (.inl rfl)) da_nil)))) da_nil)))))
/-! check_setup -/
abbrev s_check_setup : Stmt := topS 20
abbrev N_check_setup : List Str := ["setup"]
theorem sc_check_setup : FnScope N_check_setup ["setup"] (defScope s_check_setup) := ⟨rfl, rfl, rfl, by decide +kernel, rfl, by decide +kernel, by decide +kernel⟩
theorem w_check_setup {P : Program} {w : World} {K : PySem.W.Frag} {mg : Str → Option Value} {base : Heap} {S_is_setup : DSp} (h_is_setup : Has P w K mg base "is_setup" 6 S_is_setup) {f : Addr} {cdv : Value} {A : Around} {outer : List Env} {s : Shared} {H : Hp} {E : XK} (hr : Room 6 (A.deeper (envOfC "check_setup" (defScope s_check_setup) s.heap.objs.size f cdv))) :
    DSs (cxOf CX0 P w K mg base N_check_setup "check_setup" (defScope s_check_setup) f cdv A outer s H E).nox G0 (defBody s_check_setup) (d_check_setup S_is_setup) :=
  (dss_one (ds_if (dt_not (dt_val (de_callH h_is_setup hr (by decide) (da_cons (de_var 0 rfl (.inl rfl)) da_nil)))) dss_never dss_nil))
/-! check_both -/
abbrev s_check_both : Stmt := topS 21
abbrev N_check_both : List Str := ["setup", "rule"]
theorem sc_check_both : FnScope N_check_both ["setup", "rule"] (defScope s_check_both) := ⟨rfl, rfl, rfl, by decide +kernel, rfl, by decide +kernel, by decide +kernel⟩
theorem w_check_both {P : Program} {w : World} {K : PySem.W.Frag} {mg : Str → Option Value} {base : Heap} {S_check_setup : DSp} {S_is_rule : DSp} (h_check_setup : Has P w K mg base "check_setup" 7 S_check_setup) (h_is_rule : Has P w K mg base "is_rule" 7 S_is_rule) {f : Addr} {cdv : Value} {A : Around} {outer : List Env} {s : Shared} {H : Hp} {E : XK} (hr : Room 7 (A.deeper (envOfC "check_both" (defScope s_check_both) s.heap.objs.size f cdv))) :
    DSs (cxOf CX0 P w K mg base N_check_both "check_both" (defScope s_check_both) f cdv A outer s H E).nox G0 (defBody s_check_both) (d_check_both S_check_setup S_is_rule) :=
  (dss_cons (ds_expr (de_callH h_check_setup hr (by decide) (da_cons (de_var 0 rfl (.inl rfl)) da_nil)))
    (dss_one (ds_if (dt_not (dt_val (de_callH h_is_rule hr (by decide) (da_cons (de_var 1 rfl (.inl rfl)) da_nil)))) dss_never dss_nil)))
/-! is_size -/
abbrev s_is_size : Stmt := topS 22
abbrev N_is_size : List Str := ["setup", "thing"]
theorem sc_is_size : FnScope N_is_size ["setup", "thing"] (defScope s_is_size) := ⟨rfl, rfl, rfl, by decide +kernel, rfl, by decide +kernel, by decide +kernel⟩
theorem w_is_size {P : Program} {w : World} {K : PySem.W.Frag} {mg : Str → Option Value} {base : Heap} {S_is_number : DSp} (h_is_number : Has P w K mg base "is_number" 3 S_is_number) {f : Addr} {cdv : Value} {A : Around} {outer : List Env} {s : Shared} {H : Hp} {E : XK} (hr : Room 3 (A.deeper (envOfC "is_size" (defScope s_is_size) s.heap.objs.size f cdv))) :
    DSs (cxOf CX0 P w K mg base N_is_size "is_size" (defScope s_is_size) f cdv A outer s H E).nox G0 (defBody s_is_size) (d_is_size S_is_number) :=
  (dss_one (ds_ret (de_and (de_callH h_is_number hr (by decide) (da_cons (de_var 1 rfl (.inl rfl)) (da_cons de_int (da_cons de_int da_nil)))) (de_one (de_cmp (od_in hr) (de_var 1 rfl (.inl rfl)) (de_ix (de_var 0 rfl (.inl rfl)) de_int) (by rfl))))))
/-! is_comers -/
abbrev s_is_comers : Stmt := topS 23
abbrev N_is_comers : List Str := ["setup", "thing", "groups", "singles", "size"]
theorem sc_is_comers : FnScope N_is_comers ["setup", "thing"] (defScope s_is_comers) := ⟨rfl, rfl, rfl, by decide +kernel, rfl, by decide +kernel, by decide +kernel⟩
theorem w_is_comers {P : Program} {w : World} {K : PySem.W.Frag} {mg : Str → Option Value} {base : Heap} {S_is_size : DSp} {S_is_number : DSp} (b : Bi mg) (h_is_size : Has P w K mg base "is_size" 4 S_is_size) (h_is_number : Has P w K mg base "is_number" 3 S_is_number) {f : Addr} {cdv : Value} {A : Around} {outer : List Env} {s : Shared} {H : Hp} {E : XK} (hr : Room 4 (A.deeper (envOfC "is_comers" (defScope s_is_comers) s.heap.objs.size f cdv))) :
    DSs (cxOf CX0 P w K mg base N_is_comers "is_comers" (defScope s_is_comers) f cdv A outer s H E).nox G0 (defBody s_is_comers) (d_is_comers S_is_size S_is_number) :=
  (dss_cons (ds_if (dt_w (dw_or (dt_not (dt_val (de_callB cd_isi b.isinstance_ (by decide +kernel) (da_cons (de_var 1 rfl (.inl rfl)) (da_cons (de_bltn b.tuple_ (by decide +kernel)) da_nil))))) (dw_or1 (dt_cmp (od_ne hr) (de_callB cd_len b.len (by decide +kernel) (da_cons (de_var 1 rfl (.inl rfl)) da_nil)) de_int (nomark _))))) (dss_one (ds_ret de_bl)) dss_nil)
    (dss_cons (ds_asg (de_var 1 rfl (.inl rfl)) (dg_seq rfl (dgs_cons (dg_name 2 sc_is_comers.nd rfl (.inl rfl) (.inl rfl)) (dgs_cons (dg_name 3 sc_is_comers.nd rfl (.inl rfl) (.inl rfl)) dgs_nil))))
    (dss_cons (ds_if (dt_w (dw_or (dt_not (dt_val (de_callB cd_isi b.isinstance_ (by decide +kernel) (da_cons (de_var 2 rfl (.inl rfl)) (da_cons (de_bltn b.tuple_ (by decide +kernel)) da_nil))))) (dw_or1 (dt_cmp od_gt (de_callB cd_len b.len (by decide +kernel) (da_cons (de_var 2 rfl (.inl rfl)) da_nil)) (de_ix (de_ix (de_var 0 rfl (.inr (.inl rfl))) de_int) de_int) (nomark _))))) (dss_one (ds_ret de_bl)) dss_nil)
    (dss_one (ds_ret (de_and (de_callB (cd_all rfl) b.all_ (by decide +kernel) (da_cons (de_lc (ct := (.one 4)) (own := [("size", 4)]) rfl sc_is_comers.nd (di_seq (de_var 2 rfl (.inl rfl))) (blkOk_by (own := [("size", 4)]) (N := N_is_comers) (sc := defScope s_is_comers) (by decide +kernel)) (fun _ _ _ _ _ => pg_name (i := 4) sc_is_comers.nd rfl (Or.inl rfl) (.inr rfl)) (fun _ _ _ _ _ => dts_nil) (fun _ _ _ _ _ => (de_callH h_is_size hr (by decide) (da_cons (de_var 0 rfl (.inr (.inl rfl))) (da_cons (de_var 4 rfl (.inl rfl)) da_nil))))) da_nil)) (de_one (de_callH h_is_number hr (by decide) (da_cons (de_var 3 rfl (.inl rfl)) (da_cons de_int (da_cons (de_ix (de_ix (de_var 0 rfl (.inr (.inl rfl))) de_int) de_int) da_nil)))))))))))
/-! first_state -/
abbrev s_first_state : Stmt := topS 26
abbrev N_first_state : List Str := []
theorem sc_first_state : FnScope N_first_state [] (defScope s_first_state) := ⟨rfl, rfl, rfl, by decide +kernel, rfl, by decide +kernel, by decide +kernel⟩
theorem w_first_state {P : Program} {w : World} {K : PySem.W.Frag} {mg : Str → Option Value} {base : Heap} (v_START : HasV P w K mg "START" (.tup [(.int 0), (.tup []), (.int 0), (.int 0)])) {f : Addr} {cdv : Value} {A : Around} {outer : List Env} {s : Shared} {H : Hp} {E : XK} (hr : Room 1 (A.deeper (envOfC "first_state" (defScope s_first_state) s.heap.objs.size f cdv))) :
    DSs (cxOf CX0 P w K mg base N_first_state "first_state" (defScope s_first_state) f cdv A outer s H E).nox G0 (defBody s_first_state) (d_first_state) :=
  (dss_one (ds_ret (de_globH v_START)))
/-! can_be_done -/
abbrev s_can_be_done : Stmt := topS 27
abbrev N_can_be_done : List Str := ["deed", "front", "left", "singles"]
theorem sc_can_be_done : FnScope N_can_be_done ["deed", "front", "left", "singles"] (defScope s_can_be_done) := ⟨rfl, rfl, rfl, by decide +kernel, rfl, by decide +kernel, by decide +kernel⟩
theorem w_can_be_done {P : Program} {w : World} {K : PySem.W.Frag} {mg : Str → Option Value} {base : Heap} {f : Addr} {cdv : Value} {A : Around} {outer : List Env} {s : Shared} {H : Hp} {E : XK} (hr : Room 1 (A.deeper (envOfC "can_be_done" (defScope s_can_be_done) s.heap.objs.size f cdv))) :
    DSs (cxOf CX0 P w K mg base N_can_be_done "can_be_done" (defScope s_can_be_done) f cdv A outer s H E).nox G0 (defBody s_can_be_done) (d_can_be_done) :=
  (dss_cons (ds_if (dt_cmp (od_eq hr) (de_var 0 rfl (.inl rfl)) de_str (nomark _)) (dss_one (ds_ret (de_chain od_lt od_le de_int (de_var 1 rfl (.inl rfl)) (de_var 2 rfl (.inl rfl))))) dss_nil)
    (dss_cons (ds_if (dt_cmp (od_eq hr) (de_var 0 rfl (.inl rfl)) de_str (nomark _)) (dss_one (ds_ret (de_and (de_cmp od_gt (de_var 3 rfl (.inl rfl)) de_int (nomark _)) (de_one (de_cmp od_gt (de_var 2 rfl (.inl rfl)) de_int (nomark _)))))) dss_nil)
    (dss_cons (ds_if (dt_cmp (od_eq hr) (de_var 0 rfl (.inl rfl)) de_str (nomark _)) (dss_one (ds_ret (de_chain od_gt od_gt (de_var 1 rfl (.inl rfl)) (de_var 2 rfl (.inl rfl)) de_int))) dss_nil)
    (dss_one (ds_ret de_bl)))))
/-! front_of -/
abbrev s_front_of : Stmt := topS 28
abbrev N_front_of : List Str := ["line"]
theorem sc_front_of : FnScope N_front_of ["line"] (defScope s_front_of) := ⟨rfl, rfl, rfl, by decide +kernel, rfl, by decide +kernel, by decide +kernel⟩
theorem w_front_of {P : Program} {w : World} {K : PySem.W.Frag} {mg : Str → Option Value} {base : Heap} {f : Addr} {cdv : Value} {A : Around} {outer : List Env} {s : Shared} {H : Hp} {E : XK} (hr : Room 1 (A.deeper (envOfC "front_of" (defScope s_front_of) s.heap.objs.size f cdv))) :
    DSs (cxOf CX0 P w K mg base N_front_of "front_of" (defScope s_front_of) f cdv A outer s H E).nox G0 (defBody s_front_of) (d_front_of) :=
  (dss_cons (ds_if (dt_cmp (od_eq hr) (de_var 0 rfl (.inl rfl)) (de_tup da_nil) (nomark _)) (dss_one (ds_ret de_int)) dss_nil)
    (dss_one (ds_ret (de_ix (de_var 0 rfl (.inl rfl)) de_int))))
/-! fitting_row -/
abbrev s_fitting_row : Stmt := topS 29
abbrev N_fitting_row : List Str := ["rule", "mood", "line", "singles", "left", "front", "row", "seen"]
theorem sc_fitting_row : FnScope N_fitting_row ["rule", "mood", "line", "singles", "left"] (defScope s_fitting_row) := ⟨rfl, rfl, rfl, by decide +kernel, rfl, by decide +kernel, by decide +kernel⟩
theorem w_fitting_row {P : Program} {w : World} {K : PySem.W.Frag} {mg : Str → Option Value} {base : Heap} {S_front_of : DSp} {S_can_be_done : DSp} (h_front_of : Has P w K mg base "front_of" 2 S_front_of) (h_can_be_done : Has P w K mg base "can_be_done" 2 S_can_be_done) {f : Addr} {cdv : Value} {A : Around} {outer : List Env} {s : Shared} {H : Hp} {E : XK} (hr : Room 2 (A.deeper (envOfC "fitting_row" (defScope s_fitting_row) s.heap.objs.size f cdv))) :
    DSs (cxOf CX0 P w K mg base N_fitting_row "fitting_row" (defScope s_fitting_row) f cdv A outer s H E).nox G0 (defBody s_fitting_row) (d_fitting_row S_front_of S_can_be_done) :=
  (dss_cons (ds_set 5 sc_fitting_row.nd (de_callH h_front_of hr (by decide) (da_cons (de_var 2 rfl (.inl rfl)) da_nil)) rfl (.inl rfl))
    (dss_cons (ds_for PassesOwn.never rfl (di_seq (de_var 0 rfl (.inl rfl))) (dg_name 6 sc_fitting_row.nd rfl (.inl rfl) (.inl rfl)) (dss_cons (ds_set 7 sc_fitting_row.nd (de_and (de_chain od_le od_le (de_ix (de_ix (de_var 6 rfl (.inl rfl)) de_int) de_int) (de_var 5 rfl (.inl rfl)) (de_ix (de_ix (de_var 6 rfl (.inl rfl)) de_int) de_int)) (de_one (de_chain od_le od_le (de_ix (de_ix (de_var 6 rfl (.inl rfl)) de_int) de_int) (de_var 4 rfl (.inl rfl)) (de_ix (de_ix (de_var 6 rfl (.inl rfl)) de_int) de_int)))) rfl (.inl rfl))
    (dss_one (ds_if (dt_w (dw_and (dt_cmp (od_eq hr) (de_ix (de_var 6 rfl (.inl rfl)) de_int) (de_var 1 rfl (.inl rfl)) (nomark _)) (dw_and (dt_val (de_var 7 rfl (.inl rfl))) (dw_and1 (dt_chain od_le od_le (de_ix (de_ix (de_var 6 rfl (.inl rfl)) de_int) de_int) (de_var 3 rfl (.inl rfl)) (de_ix (de_ix (de_var 6 rfl (.inl rfl)) de_int) de_int)))))) (dss_one (ds_if (dt_val (de_callH h_can_be_done hr (by decide) (da_cons (de_ix (de_var 6 rfl (.inl rfl)) de_int) (da_cons (de_var 5 rfl (.inl rfl)) (da_cons (de_var 4 rfl (.inl rfl)) (da_cons (de_var 3 rfl (.inl rfl)) da_nil)))))) (dss_one (ds_ret (de_var 6 rfl (.inl rfl)))) dss_nil)) dss_nil))))
    (dss_one (ds_ret de_non))))
/-! seated -/
abbrev s_seated : Stmt := topS 30
abbrev N_seated : List Str := ["deed", "line", "singles", "left"]
theorem sc_seated : FnScope N_seated ["deed", "line", "singles", "left"] (defScope s_seated) := ⟨rfl, rfl, rfl, by decide +kernel, rfl, by decide +kernel, by decide +kernel⟩
theorem w_seated {P : Program} {w : World} {K : PySem.W.Frag} {mg : Str → Option Value} {base : Heap} {f : Addr} {cdv : Value} {A : Around} {outer : List Env} {s : Shared} {H : Hp} {E : XK} (hr : Room 1 (A.deeper (envOfC "seated" (defScope s_seated) s.heap.objs.size f cdv))) :
    DSs (cxOf CX0 P w K mg base N_seated "seated" (defScope s_seated) f cdv A outer s H E).nox G0 (defBody s_seated) (d_seated) :=
  (dss_cons (ds_if (dt_cmp (od_eq hr) (de_var 0 rfl (.inl rfl)) de_str (nomark _)) (dss_one (ds_ret (de_tup (da_cons (de_tup (da_cons de_str (da_cons (de_ix (de_var 1 rfl (.inl rfl)) de_int) da_nil))) (da_cons (de_sl (de_var 1 rfl (.inl rfl)) (dp_some de_int) dp_none) (da_cons (de_var 2 rfl (.inl rfl)) (da_cons (de_op od_sub (de_var 3 rfl (.inl rfl)) (de_ix (de_var 1 rfl (.inl rfl)) de_int)) da_nil))))))) dss_nil)
    (dss_cons (ds_if (dt_cmp (od_eq hr) (de_var 0 rfl (.inl rfl)) de_str (nomark _)) (dss_one (ds_ret (de_tup (da_cons (de_tup (da_cons de_str (da_cons de_int da_nil))) (da_cons (de_var 1 rfl (.inl rfl)) (da_cons (de_op od_sub (de_var 2 rfl (.inl rfl)) de_int) (da_cons (de_op od_sub (de_var 3 rfl (.inl rfl)) de_int) da_nil))))))) dss_nil)
    (dss_one (ds_ret (de_tup (da_cons (de_tup (da_cons de_str (da_cons (de_var 3 rfl (.inl rfl)) da_nil))) (da_cons (de_op od_add (de_tup (da_cons (de_op od_sub (de_ix (de_var 1 rfl (.inl rfl)) de_int) (de_var 3 rfl (.inl rfl))) da_nil)) (de_sl (de_var 1 rfl (.inl rfl)) (dp_some de_int) dp_none)) (da_cons (de_var 2 rfl (.inl rfl)) (da_cons de_int da_nil)))))))))
/-! fill -/
abbrev s_fill : Stmt := topS 31
abbrev N_fill : List Str := ["rule", "line", "singles", "seats", "mood", "left", "deeds", "row", "deed"]
theorem sc_fill : FnScope N_fill ["rule", "line", "singles", "seats", "mood"] (defScope s_fill) := ⟨rfl, rfl, rfl, by decide +kernel, rfl, by decide +kernel, by decide +kernel⟩
theorem w_fill {P : Program} {w : World} {K : PySem.W.Frag} {mg : Str → Option Value} {base : Heap} {S_fitting_row : DSp} {S_seated : DSp} (h_fitting_row : Has P w K mg base "fitting_row" 3 S_fitting_row) (h_seated : Has P w K mg base "seated" 2 S_seated) (b : Bi mg) {f : Addr} {cdv : Value} {A : Around} {outer : List Env} {s : Shared} {H : Hp} {E : XK} (hr : Room 3 (A.deeper (envOfC "fill" (defScope s_fill) s.heap.objs.size f cdv))) :
    DSs (cxOf CX0 P w K mg base N_fill "fill" (defScope s_fill) f cdv A outer s H E).nox G0 (defBody s_fill) (d_fill S_fitting_row S_seated) :=
  (dss_cons (ds_set 5 sc_fill.nd (de_var 3 rfl (.inl rfl)) rfl (.inl rfl))
    (dss_cons (ds_set 6 sc_fill.nd (de_lstO da_nil) rfl (.inl rfl))
    (dss_cons (ds_set 7 sc_fill.nd (de_callH h_fitting_row hr (by decide) (da_cons (de_var 0 rfl (.inl rfl)) (da_cons (de_var 4 rfl (.inl rfl)) (da_cons (de_var 1 rfl (.inl rfl)) (da_cons (de_var 2 rfl (.inl rfl)) (da_cons (de_var 5 rfl (.inl rfl)) da_nil)))))) rfl (.inl rfl))
    (dss_cons (ds_while PassesOwn.never (dt_w (dw_and (dt_cmp od_isNot (de_var 7 rfl (.inl rfl)) de_non (nomark _)) (dw_and1 (dt_cmp (od_ne hr) (de_ix (de_var 7 rfl (.inl rfl)) de_int) de_str (nomark _))))) (dss_cons (ds_asg (de_callH h_seated hr (by decide) (da_cons (de_ix (de_var 7 rfl (.inl rfl)) de_int) (da_cons (de_var 1 rfl (.inl rfl)) (da_cons (de_var 2 rfl (.inl rfl)) (da_cons (de_var 5 rfl (.inl rfl)) da_nil))))) (dg_seq rfl (dgs_cons (dg_name 8 sc_fill.nd rfl (.inl rfl) (.inl rfl)) (dgs_cons (dg_name 1 sc_fill.nd rfl (.inl rfl) (.inl rfl)) (dgs_cons (dg_name 2 sc_fill.nd rfl (.inl rfl) (.inl rfl)) (dgs_cons (dg_name 5 sc_fill.nd rfl (.inl rfl) (.inl rfl)) dgs_nil))))))
    (dss_cons (ds_expr (de_app (de_var 6 rfl (.inl rfl)) (da_cons (de_var 8 rfl (.inl rfl)) da_nil)))
    (dss_cons (ds_set 4 sc_fill.nd (de_ix (de_var 7 rfl (.inl rfl)) de_int) rfl (.inl rfl))
    (dss_one (ds_set 7 sc_fill.nd (de_callH h_fitting_row hr (by decide) (da_cons (de_var 0 rfl (.inl rfl)) (da_cons (de_var 4 rfl (.inl rfl)) (da_cons (de_var 1 rfl (.inl rfl)) (da_cons (de_var 2 rfl (.inl rfl)) (da_cons (de_var 5 rfl (.inl rfl)) da_nil)))))) rfl (.inl rfl)))))))
    (dss_cons (ds_if (dt_cmp od_isNot (de_var 7 rfl (.inl rfl)) de_non (nomark _)) (dss_one (ds_set 4 sc_fill.nd (de_ix (de_var 7 rfl (.inl rfl)) de_int) rfl (.inl rfl))) dss_nil)
    (dss_one (ds_ret (de_tup (da_cons (de_callTy cd_tuple b.tuple_ (by decide +kernel) (da_cons (de_var 6 rfl (.inl rfl)) da_nil)) (da_cons (de_var 5 rfl (.inl rfl)) (da_cons (de_var 1 rfl (.inl rfl)) (da_cons (de_var 2 rfl (.inl rfl)) (da_cons (de_var 4 rfl (.inl rfl)) da_nil)))))))))))))
/-! let_in -/
abbrev s_let_in : Stmt := topS 32
abbrev N_let_in : List Str := ["setup", "line", "singles", "comers", "groups", "more", "here", "waiting"]
theorem sc_let_in : FnScope N_let_in ["setup", "line", "singles", "comers"] (defScope s_let_in) := ⟨rfl, rfl, rfl, by decide +kernel, rfl, by decide +kernel, by decide +kernel⟩
theorem w_let_in {P : Program} {w : World} {K : PySem.W.Frag} {mg : Str → Option Value} {base : Heap} (b : Bi mg) {f : Addr} {cdv : Value} {A : Around} {outer : List Env} {s : Shared} {H : Hp} {E : XK} (hr : Room 1 (A.deeper (envOfC "let_in" (defScope s_let_in) s.heap.objs.size f cdv))) :
    DSs (cxOf CX0 P w K mg base N_let_in "let_in" (defScope s_let_in) f cdv A outer s H E).nox G0 (defBody s_let_in) (d_let_in) :=
  (dss_cons (ds_asg (de_var 3 rfl (.inl rfl)) (dg_seq rfl (dgs_cons (dg_name 4 sc_let_in.nd rfl (.inl rfl) (.inl rfl)) (dgs_cons (dg_name 5 sc_let_in.nd rfl (.inl rfl) (.inl rfl)) dgs_nil))))
    (dss_cons (ds_set 6 sc_let_in.nd (de_sl (de_op od_add (de_var 1 rfl (.inl rfl)) (de_var 4 rfl (.inl rfl))) dp_none (dp_some (de_callB (cd_max2 rfl) b.max_ (by decide +kernel) (da_cons (de_ix (de_ix (de_var 0 rfl (.inl rfl)) de_int) de_int) (da_cons (de_callB cd_len b.len (by decide +kernel) (da_cons (de_var 1 rfl (.inl rfl)) da_nil)) da_nil))))) rfl (.inl rfl))
    (dss_cons (ds_set 7 sc_let_in.nd (de_callB (cd_min2 rfl) b.min_ (by decide +kernel) (da_cons (de_callB (cd_max2 rfl) b.max_ (by decide +kernel) (da_cons (de_ix (de_ix (de_var 0 rfl (.inl rfl)) de_int) de_int) (da_cons (de_var 2 rfl (.inl rfl)) da_nil))) (da_cons (de_op od_add (de_var 2 rfl (.inl rfl)) (de_var 5 rfl (.inl rfl))) da_nil))) rfl (.inl rfl))
    (dss_one (ds_ret (de_tup (da_cons (de_var 6 rfl (.inl rfl)) (da_cons (de_var 7 rfl (.inl rfl)) (da_cons (de_tup (da_cons (de_op od_sub (de_op od_add (de_callB cd_len b.len (by decide +kernel) (da_cons (de_var 1 rfl (.inl rfl)) da_nil)) (de_callB cd_len b.len (by decide +kernel) (da_cons (de_var 4 rfl (.inl rfl)) da_nil))) (de_callB cd_len b.len (by decide +kernel) (da_cons (de_var 6 rfl (.inl rfl)) da_nil))) (da_cons (de_op od_sub (de_op od_add (de_var 2 rfl (.inl rfl)) (de_var 5 rfl (.inl rfl))) (de_var 7 rfl (.inl rfl))) da_nil))) da_nil)))))))))
/-! beat -/
abbrev s_beat : Stmt := topS 33
abbrev N_beat : List Str := ["setup", "rule", "state", "comers", "turn", "line", "singles", "mood", "away", "deeds", "left", "lost"]
theorem sc_beat : FnScope N_beat ["setup", "rule", "state", "comers"] (defScope s_beat) := ⟨rfl, rfl, rfl, by decide +kernel, rfl, by decide +kernel, by decide +kernel⟩
theorem w_beat {P : Program} {w : World} {K : PySem.W.Frag} {mg : Str → Option Value} {base : Heap} {S_let_in : DSp} {S_fill : DSp} (h_let_in : Has P w K mg base "let_in" 2 S_let_in) (h_fill : Has P w K mg base "fill" 4 S_fill) (b : Bi mg) {f : Addr} {cdv : Value} {A : Around} {outer : List Env} {s : Shared} {H : Hp} {E : XK} (hr : Room 4 (A.deeper (envOfC "beat" (defScope s_beat) s.heap.objs.size f cdv))) :
    DSs (cxOf CX0 P w K mg base N_beat "beat" (defScope s_beat) f cdv A outer s H E).nox G0 (defBody s_beat) (d_beat S_let_in S_fill) :=
  (dss_cons (ds_asg (de_var 2 rfl (.inl rfl)) (dg_seq rfl (dgs_cons (dg_name 4 sc_beat.nd rfl (.inl rfl) (.inl rfl)) (dgs_cons (dg_name 5 sc_beat.nd rfl (.inl rfl) (.inl rfl)) (dgs_cons (dg_name 6 sc_beat.nd rfl (.inl rfl) (.inl rfl)) (dgs_cons (dg_name 7 sc_beat.nd rfl (.inl rfl) (.inl rfl)) dgs_nil))))))
    (dss_cons (ds_asg (de_callH h_let_in hr (by decide) (da_cons (de_var 0 rfl (.inl rfl)) (da_cons (de_var 5 rfl (.inl rfl)) (da_cons (de_var 6 rfl (.inl rfl)) (da_cons (de_var 3 rfl (.inl rfl)) da_nil))))) (dg_seq rfl (dgs_cons (dg_name 5 sc_beat.nd rfl (.inl rfl) (.inl rfl)) (dgs_cons (dg_name 6 sc_beat.nd rfl (.inl rfl) (.inl rfl)) (dgs_cons (dg_name 8 sc_beat.nd rfl (.inl rfl) (.inl rfl)) dgs_nil)))))
    (dss_cons (ds_asg (de_callH h_fill hr (by decide) (da_cons (de_var 1 rfl (.inl rfl)) (da_cons (de_var 5 rfl (.inl rfl)) (da_cons (de_var 6 rfl (.inl rfl)) (da_cons (de_ix (de_ix (de_var 0 rfl (.inl rfl)) de_int) (de_var 4 rfl (.inl rfl))) (da_cons (de_var 7 rfl (.inl rfl)) da_nil)))))) (dg_seq rfl (dgs_cons (dg_name 9 sc_beat.nd rfl (.inl rfl) (.inl rfl)) (dgs_cons (dg_name 10 sc_beat.nd rfl (.inl rfl) (.inl rfl)) (dgs_cons (dg_name 5 sc_beat.nd rfl (.inl rfl) (.inl rfl)) (dgs_cons (dg_name 6 sc_beat.nd rfl (.inl rfl) (.inl rfl)) (dgs_cons (dg_name 7 sc_beat.nd rfl (.inl rfl) (.inl rfl)) dgs_nil)))))))
    (dss_cons (ds_set 11 sc_beat.nd de_int rfl (.inl rfl))
    (dss_cons (ds_if (dt_w (dw_or (dt_cmp (od_ne hr) (de_var 5 rfl (.inl rfl)) (de_tup da_nil) (nomark _)) (dw_or1 (dt_cmp od_gt (de_var 6 rfl (.inl rfl)) de_int (nomark _))))) (dss_one (ds_set 11 sc_beat.nd (de_var 10 rfl (.inl rfl)) rfl (.inl rfl))) dss_nil)
    (dss_one (ds_ret (de_tup (da_cons (de_tup (da_cons (de_var 9 rfl (.inl rfl)) (da_cons (de_var 10 rfl (.inl rfl)) (da_cons (de_var 11 rfl (.inl rfl)) (da_cons (de_var 8 rfl (.inl rfl)) da_nil))))) (da_cons (de_tup (da_cons (de_op od_mod (de_op od_add (de_var 4 rfl (.inl rfl)) de_int) (de_callB cd_len b.len (by decide +kernel) (da_cons (de_ix (de_var 0 rfl (.inl rfl)) de_int) da_nil))) (da_cons (de_var 5 rfl (.inl rfl)) (da_cons (de_var 6 rfl (.inl rfl)) (da_cons (de_var 7 rfl (.inl rfl)) da_nil))))) da_nil))))))))))
/-! run -/
abbrev s_run : Stmt := topS 34
abbrev N_run : List Str := ["setup", "rule", "state", "row", "chairs", "comers", "chair"]
theorem sc_run : FnScope N_run ["setup", "rule", "state", "row"] (defScope s_run) := ⟨rfl, rfl, rfl, by decide +kernel, rfl, by decide +kernel, by decide +kernel⟩
theorem w_run {P : Program} {w : World} {K : PySem.W.Frag} {mg : Str → Option Value} {base : Heap} {S_beat : DSp} (h_beat : Has P w K mg base "beat" 5 S_beat) {f : Addr} {cdv : Value} {A : Around} {outer : List Env} {s : Shared} {H : Hp} {E : XK} (hr : Room 5 (A.deeper (envOfC "run" (defScope s_run) s.heap.objs.size f cdv))) :
    DSs (cxOf CX0 P w K mg base N_run "run" (defScope s_run) f cdv A outer s H E).nox G0 (defBody s_run) (d_run S_beat) :=
  (dss_cons (ds_set 4 sc_run.nd (de_lstO da_nil) rfl (.inl rfl))
    (dss_cons (ds_for PassesOwn.never rfl (di_seq (de_var 3 rfl (.inl rfl))) (dg_name 5 sc_run.nd rfl (.inl rfl) (.inl rfl)) (dss_cons (ds_asg (de_callH h_beat hr (by decide) (da_cons (de_var 0 rfl (.inl rfl)) (da_cons (de_var 1 rfl (.inl rfl)) (da_cons (de_var 2 rfl (.inl rfl)) (da_cons (de_var 5 rfl (.inl rfl)) da_nil))))) (dg_seq rfl (dgs_cons (dg_name 6 sc_run.nd rfl (.inl rfl) (.inl rfl)) (dgs_cons (dg_name 2 sc_run.nd rfl (.inl rfl) (.inl rfl)) dgs_nil))))
    (dss_one (ds_expr (de_app (de_var 4 rfl (.inl rfl)) (da_cons (de_var 6 rfl (.inl rfl)) da_nil))))))
    (dss_one (ds_ret (de_tup (da_cons (de_frz 4 rfl (.inl rfl)) (da_cons (de_var 2 rfl (.inl rfl)) da_nil)))))))
/-! Lift.__init__ -/
abbrev s_Lift___init__ : Stmt := inClass (topS 43) 0
abbrev N_Lift___init__ : List Str := ["self", "setup", "rule"]
theorem sc_Lift___init__ : FnScope N_Lift___init__ ["self", "setup", "rule"] (defScope s_Lift___init__) := ⟨rfl, rfl, rfl, by decide +kernel, rfl, by decide +kernel, by decide +kernel⟩
theorem w_Lift___init__ {P : Program} {w : World} {K : PySem.W.Frag} {mg : Str → Option Value} {base : Heap} {C_Lift : Addr} {S_check_both : DSp} {S_first_state : DSp} (h_check_both : Has P w K mg base "check_both" 8 S_check_both) (T_Lift : TLift K C_Lift) (h_first_state : Has P w K mg base "first_state" 2 S_first_state) {f : Addr} {cdv : Value} {A : Around} {outer : List Env} {s : Shared} {H : Hp} {E : XK} (hr : Room 8 (A.deeper (envOfC "Lift.__init__" (defScope s_Lift___init__) s.heap.objs.size f cdv))) :
    DSs (cxOf CX0 P w K mg base N_Lift___init__ "Lift.__init__" (defScope s_Lift___init__) f cdv A outer s H E).nox G0 (defBody s_Lift___init__) (d_Lift___init__ C_Lift S_check_both S_first_state) :=
  (dss_cons (ds_expr (de_callH h_check_both hr (by decide) (da_cons (de_var 1 rfl (.inl rfl)) (da_cons (de_var 2 rfl (.inl rfl)) da_nil))))
    (dss_cons (ds_fld T_Lift.cl T_Lift.n_setup (de_var 0 rfl (.inl rfl)) (de_var 1 rfl (.inl rfl)))
    (dss_cons (ds_fld T_Lift.cl T_Lift.n_first (de_var 0 rfl (.inl rfl)) (de_var 2 rfl (.inl rfl)))
    (dss_cons (ds_fld T_Lift.cl T_Lift.n_present (de_var 0 rfl (.inl rfl)) (de_var 2 rfl (.inl rfl)))
    (dss_cons (ds_fld T_Lift.cl T_Lift.n_here (de_var 0 rfl (.inl rfl)) (de_callH0 h_first_state hr (by decide)))
    (dss_cons (ds_fld T_Lift.cl T_Lift.n_done (de_var 0 rfl (.inl rfl)) (de_lstO da_nil))
    (dss_cons (ds_fld T_Lift.cl T_Lift.n_gone (de_var 0 rfl (.inl rfl)) (de_lstO da_nil))
    (dss_one (ds_fld T_Lift.cl T_Lift.n_earlier (de_var 0 rfl (.inl rfl)) (de_lstO da_nil))))))))))
/-! Lift.beat -/
abbrev s_Lift_beat : Stmt := inClass (topS 43) 1
abbrev N_Lift_beat : List Str := ["self", "groups", "singles", "comers", "chairs", "after"]
theorem sc_Lift_beat : FnScope N_Lift_beat ["self", "groups", "singles"] (defScope s_Lift_beat) := ⟨rfl, rfl, rfl, by decide +kernel, rfl, by decide +kernel, by decide +kernel⟩
theorem w_Lift_beat {P : Program} {w : World} {K : PySem.W.Frag} {mg : Str → Option Value} {base : Heap} {C_Lift : Addr} {S_is_comers : DSp} {S_run : DSp} (h_is_comers : Has P w K mg base "is_comers" 5 S_is_comers) (T_Lift : TLift K C_Lift) (h_run : Has P w K mg base "run" 6 S_run) {f : Addr} {cdv : Value} {A : Around} {outer : List Env} {s : Shared} {H : Hp} {E : XK} (hr : Room 6 (A.deeper (envOfC "Lift.beat" (defScope s_Lift_beat) s.heap.objs.size f cdv))) :
    DSs (cxOf CX0 P w K mg base N_Lift_beat "Lift.beat" (defScope s_Lift_beat) f cdv A outer s H E).nox G0 (defBody s_Lift_beat) (d_Lift_beat C_Lift S_is_comers S_run) :=
  (dss_cons (ds_set 3 sc_Lift_beat.nd (de_tup (da_cons (de_var 1 rfl (.inl rfl)) (da_cons (de_var 2 rfl (.inl rfl)) da_nil))) rfl (.inl rfl))
    (dss_cons (ds_if (dt_not (dt_val (de_callH h_is_comers hr (by decide) (da_cons (de_fld T_Lift.cl T_Lift.n_setup (de_var 0 rfl (.inl rfl))) (da_cons (de_var 3 rfl (.inl rfl)) da_nil))))) dss_never dss_nil)
    (dss_cons (ds_asg (de_callH h_run hr (by decide) (da_cons (de_fld T_Lift.cl T_Lift.n_setup (de_var 0 rfl (.inl rfl))) (da_cons (de_fld T_Lift.cl T_Lift.n_present (de_var 0 rfl (.inl rfl))) (da_cons (de_fld T_Lift.cl T_Lift.n_here (de_var 0 rfl (.inl rfl))) (da_cons (de_lst (da_cons (de_var 3 rfl (.inl rfl)) da_nil)) da_nil))))) (dg_seq rfl (dgs_cons (dg_name 4 sc_Lift_beat.nd rfl (.inl rfl) (.inl rfl)) (dgs_cons (dg_name 5 sc_Lift_beat.nd rfl (.inl rfl) (.inl rfl)) dgs_nil))))
    (dss_cons (ds_expr (de_app (de_fld T_Lift.cl T_Lift.n_earlier (de_var 0 rfl (.inl rfl))) (da_cons (de_tup (da_cons (de_fld T_Lift.cl T_Lift.n_present (de_var 0 rfl (.inl rfl))) (da_cons (de_fld T_Lift.cl T_Lift.n_here (de_var 0 rfl (.inl rfl))) da_nil))) da_nil)))
    (dss_cons (ds_expr (de_app (de_fld T_Lift.cl T_Lift.n_done (de_var 0 rfl (.inl rfl))) (da_cons (de_tup (da_cons de_str (da_cons (de_var 3 rfl (.inl rfl)) da_nil))) da_nil)))
    (dss_cons (ds_expr (de_app (de_fld T_Lift.cl T_Lift.n_gone (de_var 0 rfl (.inl rfl))) (da_cons (de_ix (de_var 4 rfl (.inl rfl)) de_int) da_nil)))
    (dss_cons (ds_fld T_Lift.cl T_Lift.n_here (de_var 0 rfl (.inl rfl)) (de_var 5 rfl (.inl rfl)))
    (dss_one (ds_ret (de_ix (de_var 4 rfl (.inl rfl)) de_int))))))))))
/-! Lift.change_rule -/
abbrev s_Lift_change_rule : Stmt := inClass (topS 43) 3
abbrev N_Lift_change_rule : List Str := ["self", "rule"]
theorem sc_Lift_change_rule : FnScope N_Lift_change_rule ["self", "rule"] (defScope s_Lift_change_rule) := ⟨rfl, rfl, rfl, by decide +kernel, rfl, by decide +kernel, by decide +kernel⟩
theorem w_Lift_change_rule {P : Program} {w : World} {K : PySem.W.Frag} {mg : Str → Option Value} {base : Heap} {C_Lift : Addr} {S_is_rule : DSp} (h_is_rule : Has P w K mg base "is_rule" 7 S_is_rule) (T_Lift : TLift K C_Lift) {f : Addr} {cdv : Value} {A : Around} {outer : List Env} {s : Shared} {H : Hp} {E : XK} (hr : Room 7 (A.deeper (envOfC "Lift.change_rule" (defScope s_Lift_change_rule) s.heap.objs.size f cdv))) :
    DSs (cxOf CX0 P w K mg base N_Lift_change_rule "Lift.change_rule" (defScope s_Lift_change_rule) f cdv A outer s H E).nox G0 (defBody s_Lift_change_rule) (d_Lift_change_rule C_Lift S_is_rule) :=
  (dss_cons (ds_if (dt_not (dt_val (de_callH h_is_rule hr (by decide) (da_cons (de_var 1 rfl (.inl rfl)) da_nil)))) dss_never dss_nil)
    (dss_cons (ds_expr (de_app (de_fld T_Lift.cl T_Lift.n_earlier (de_var 0 rfl (.inl rfl))) (da_cons (de_tup (da_cons (de_fld T_Lift.cl T_Lift.n_present (de_var 0 rfl (.inl rfl))) (da_cons (de_fld T_Lift.cl T_Lift.n_here (de_var 0 rfl (.inl rfl))) da_nil))) da_nil)))
    (dss_cons (ds_expr (de_app (de_fld T_Lift.cl T_Lift.n_done (de_var 0 rfl (.inl rfl))) (da_cons (de_tup (da_cons de_str (da_cons (de_var 1 rfl (.inl rfl)) da_nil))) da_nil)))
    (dss_one (ds_fld T_Lift.cl T_Lift.n_present (de_var 0 rfl (.inl rfl)) (de_var 1 rfl (.inl rfl)))))))
/-! Lift.undo -/
abbrev s_Lift_undo : Stmt := inClass (topS 43) 4
abbrev N_Lift_undo : List Str := ["self", "step"]
theorem sc_Lift_undo : FnScope N_Lift_undo ["self"] (defScope s_Lift_undo) := ⟨rfl, rfl, rfl, by decide +kernel, rfl, by decide +kernel, by decide +kernel⟩
theorem w_Lift_undo {P : Program} {w : World} {K : PySem.W.Frag} {mg : Str → Option Value} {base : Heap} {C_Lift : Addr} (T_Lift : TLift K C_Lift) {f : Addr} {cdv : Value} {A : Around} {outer : List Env} {s : Shared} {H : Hp} {E : XK} (hr : Room 1 (A.deeper (envOfC "Lift.undo" (defScope s_Lift_undo) s.heap.objs.size f cdv))) :
    DSs (cxOf CX0 P w K mg base N_Lift_undo "Lift.undo" (defScope s_Lift_undo) f cdv A outer s H E).nox G0 (defBody s_Lift_undo) (d_Lift_undo C_Lift) :=
  (dss_cons (ds_if (dt_cmp (od_eq hr) (de_fld T_Lift.cl T_Lift.n_done (de_var 0 rfl (.inl rfl))) (de_lst da_nil) (nomark _)) dss_never dss_nil)
    (dss_cons (ds_set 1 sc_Lift_undo.nd (de_pop (de_fld T_Lift.cl T_Lift.n_done (de_var 0 rfl (.inl rfl)))) rfl (.inl rfl))
    (dss_cons (ds_if (dt_cmp (od_eq hr) (de_ix (de_var 1 rfl (.inl rfl)) de_int) de_str (nomark _)) (dss_one (ds_expr (de_pop (de_fld T_Lift.cl T_Lift.n_gone (de_var 0 rfl (.inl rfl)))))) dss_nil)
    (dss_one (ds_asg (de_pop (de_fld T_Lift.cl T_Lift.n_earlier (de_var 0 rfl (.inl rfl)))) (dg_seq rfl (dgs_cons (dg_fld T_Lift.cl T_Lift.n_present (de_var 0 rfl (.inl rfl))) (dgs_cons (dg_fld T_Lift.cl T_Lift.n_here (de_var 0 rfl (.inl rfl))) dgs_nil))))))))
/-! Lift.row -/
abbrev s_Lift_row : Stmt := inClass (topS 43) 5
abbrev N_Lift_row : List Str := ["self", "step"]
theorem sc_Lift_row : FnScope N_Lift_row ["self"] (defScope s_Lift_row) := ⟨rfl, rfl, rfl, by decide +kernel, rfl, by decide +kernel, by decide +kernel⟩
theorem w_Lift_row {P : Program} {w : World} {K : PySem.W.Frag} {mg : Str → Option Value} {base : Heap} {C_Lift : Addr} (T_Lift : TLift K C_Lift) {f : Addr} {cdv : Value} {A : Around} {outer : List Env} {s : Shared} {H : Hp} {E : XK} (hr : Room 1 (A.deeper (envOfC "Lift.row" (defScope s_Lift_row) s.heap.objs.size f cdv))) :
    DSs (cxOf CX0 P w K mg base N_Lift_row "Lift.row" (defScope s_Lift_row) f cdv A outer s H E).nox G0 (defBody s_Lift_row) (d_Lift_row C_Lift) :=
  (dss_one (ds_ret (de_lc (ct := (.one 1)) (own := [("step", 1)]) rfl sc_Lift_row.nd (di_seq (de_fld T_Lift.cl T_Lift.n_done (de_var 0 rfl (.inl rfl)))) (blkOk_by (own := [("step", 1)]) (N := N_Lift_row) (sc := defScope s_Lift_row) (by decide +kernel)) (fun _ _ _ _ _ => pg_name (i := 1) sc_Lift_row.nd rfl (Or.inl rfl) (.inr rfl)) (fun _ _ _ _ _ => dts_one (dt_cmp (od_eq hr) (de_ix (de_var 1 rfl (.inl rfl)) de_int) de_str (nomark _))) (fun _ _ _ _ _ => (de_ix (de_var 1 rfl (.inl rfl)) de_int)))))
/-! Lift.chairs -/
abbrev s_Lift_chairs : Stmt := inClass (topS 43) 6
abbrev N_Lift_chairs : List Str := ["self"]
theorem sc_Lift_chairs : FnScope N_Lift_chairs ["self"] (defScope s_Lift_chairs) := ⟨rfl, rfl, rfl, by decide +kernel, rfl, by decide +kernel, by decide +kernel⟩
theorem w_Lift_chairs {P : Program} {w : World} {K : PySem.W.Frag} {mg : Str → Option Value} {base : Heap} {C_Lift : Addr} (T_Lift : TLift K C_Lift) (b : Bi mg) {f : Addr} {cdv : Value} {A : Around} {outer : List Env} {s : Shared} {H : Hp} {E : XK} (hr : Room 1 (A.deeper (envOfC "Lift.chairs" (defScope s_Lift_chairs) s.heap.objs.size f cdv))) :
    DSs (cxOf CX0 P w K mg base N_Lift_chairs "Lift.chairs" (defScope s_Lift_chairs) f cdv A outer s H E).nox G0 (defBody s_Lift_chairs) (d_Lift_chairs C_Lift) :=
  (dss_one (ds_ret (de_callTy cd_list b.list_ (by decide +kernel) (da_cons (de_fld T_Lift.cl T_Lift.n_gone (de_var 0 rfl (.inl rfl))) da_nil))))
/-! Lift.state -/
abbrev s_Lift_state : Stmt := inClass (topS 43) 7
abbrev N_Lift_state : List Str := ["self"]
theorem sc_Lift_state : FnScope N_Lift_state ["self"] (defScope s_Lift_state) := ⟨rfl, rfl, rfl, by decide +kernel, rfl, by decide +kernel, by decide +kernel⟩
theorem w_Lift_state {P : Program} {w : World} {K : PySem.W.Frag} {mg : Str → Option Value} {base : Heap} {C_Lift : Addr} (T_Lift : TLift K C_Lift) {f : Addr} {cdv : Value} {A : Around} {outer : List Env} {s : Shared} {H : Hp} {E : XK} (hr : Room 1 (A.deeper (envOfC "Lift.state" (defScope s_Lift_state) s.heap.objs.size f cdv))) :
    DSs (cxOf CX0 P w K mg base N_Lift_state "Lift.state" (defScope s_Lift_state) f cdv A outer s H E).nox G0 (defBody s_Lift_state) (d_Lift_state C_Lift) :=
  (dss_one (ds_ret (de_fld T_Lift.cl T_Lift.n_here (de_var 0 rfl (.inl rfl)))))
/-! Lift.rule -/
abbrev s_Lift_rule : Stmt := inClass (topS 43) 8
abbrev N_Lift_rule : List Str := ["self"]
theorem sc_Lift_rule : FnScope N_Lift_rule ["self"] (defScope s_Lift_rule) := ⟨rfl, rfl, rfl, by decide +kernel, rfl, by decide +kernel, by decide +kernel⟩
theorem w_Lift_rule {P : Program} {w : World} {K : PySem.W.Frag} {mg : Str → Option Value} {base : Heap} {C_Lift : Addr} (T_Lift : TLift K C_Lift) {f : Addr} {cdv : Value} {A : Around} {outer : List Env} {s : Shared} {H : Hp} {E : XK} (hr : Room 1 (A.deeper (envOfC "Lift.rule" (defScope s_Lift_rule) s.heap.objs.size f cdv))) :
    DSs (cxOf CX0 P w K mg base N_Lift_rule "Lift.rule" (defScope s_Lift_rule) f cdv A outer s H E).nox G0 (defBody s_Lift_rule) (d_Lift_rule C_Lift) :=
  (dss_one (ds_ret (de_fld T_Lift.cl T_Lift.n_present (de_var 0 rfl (.inl rfl)))))
/-! Lift.copy -/
abbrev s_Lift_copy : Stmt := inClass (topS 43) 12
abbrev N_Lift_copy : List Str := ["self", "other"]
theorem sc_Lift_copy : FnScope N_Lift_copy ["self"] (defScope s_Lift_copy) := ⟨rfl, rfl, rfl, by decide +kernel, rfl, by decide +kernel, by decide +kernel⟩
theorem w_Lift_copy {P : Program} {w : World} {K : PySem.W.Frag} {mg : Str → Option Value} {base : Heap} {C_Lift : Addr} {S_Lift___init__ : DSp} (T_Lift : TLift K C_Lift) (c_Lift_2 : HasC P w K mg base "Lift" C_Lift [] 9 S_Lift___init__) (b : Bi mg) {f : Addr} {cdv : Value} {A : Around} {outer : List Env} {s : Shared} {H : Hp} {E : XK} (hr : Room 10 (A.deeper (envOfC "Lift.copy" (defScope s_Lift_copy) s.heap.objs.size f cdv))) :
    DSs (cxOf CX0 P w K mg base N_Lift_copy "Lift.copy" (defScope s_Lift_copy) f cdv A outer s H E).nox G0 (defBody s_Lift_copy) (d_Lift_copy C_Lift S_Lift___init__) :=
  (dss_cons (ds_set 1 sc_Lift_copy.nd (de_makeH c_Lift_2 hr (by decide) (da_cons (de_fld T_Lift.cl T_Lift.n_setup (de_var 0 rfl (.inl rfl))) (da_cons (de_fld T_Lift.cl T_Lift.n_first (de_var 0 rfl (.inl rfl))) da_nil))) rfl (.inl rfl))
    (dss_cons (ds_fld T_Lift.cl T_Lift.n_present (de_var 1 rfl (.inl rfl)) (de_fld T_Lift.cl T_Lift.n_present (de_var 0 rfl (.inl rfl))))
    (dss_cons (ds_fld T_Lift.cl T_Lift.n_here (de_var 1 rfl (.inl rfl)) (de_fld T_Lift.cl T_Lift.n_here (de_var 0 rfl (.inl rfl))))
    (dss_cons (ds_fld T_Lift.cl T_Lift.n_done (de_var 1 rfl (.inl rfl)) (de_callTy cd_listO b.list_ (by decide +kernel) (da_cons (de_fld T_Lift.cl T_Lift.n_done (de_var 0 rfl (.inl rfl))) da_nil)))
    (dss_cons (ds_fld T_Lift.cl T_Lift.n_gone (de_var 1 rfl (.inl rfl)) (de_callTy cd_listO b.list_ (by decide +kernel) (da_cons (de_fld T_Lift.cl T_Lift.n_gone (de_var 0 rfl (.inl rfl))) da_nil)))
    (dss_cons (ds_fld T_Lift.cl T_Lift.n_earlier (de_var 1 rfl (.inl rfl)) (de_callTy cd_listO b.list_ (by decide +kernel) (da_cons (de_fld T_Lift.cl T_Lift.n_earlier (de_var 0 rfl (.inl rfl))) da_nil)))
    (dss_one (ds_ret (de_var 1 rfl (.inl rfl))))))))))
/-! Lift.__len__ -/
abbrev s_Lift___len__ : Stmt := inClass (topS 43) 14
abbrev N_Lift___len__ : List Str := ["self"]
theorem sc_Lift___len__ : FnScope N_Lift___len__ ["self"] (defScope s_Lift___len__) := ⟨rfl, rfl, rfl, by decide +kernel, rfl, by decide +kernel, by decide +kernel⟩
theorem w_Lift___len__ {P : Program} {w : World} {K : PySem.W.Frag} {mg : Str → Option Value} {base : Heap} {C_Lift : Addr} (T_Lift : TLift K C_Lift) (b : Bi mg) {f : Addr} {cdv : Value} {A : Around} {outer : List Env} {s : Shared} {H : Hp} {E : XK} (hr : Room 1 (A.deeper (envOfC "Lift.__len__" (defScope s_Lift___len__) s.heap.objs.size f cdv))) :
    DSs (cxOf CX0 P w K mg base N_Lift___len__ "Lift.__len__" (defScope s_Lift___len__) f cdv A outer s H E).nox G0 (defBody s_Lift___len__) (d_Lift___len__ C_Lift) :=
  (dss_one (ds_ret (de_callB cd_len b.len (by decide +kernel) (da_cons (de_fld T_Lift.cl T_Lift.n_gone (de_var 0 rfl (.inl rfl))) da_nil))))
/-! Lift.__eq__ -/
abbrev s_Lift___eq__ : Stmt := inClass (topS 43) 17
abbrev N_Lift___eq__ : List Str := ["self", "other"]
theorem sc_Lift___eq__ : FnScope N_Lift___eq__ ["self", "other"] (defScope s_Lift___eq__) := ⟨rfl, rfl, rfl, by decide +kernel, rfl, by decide +kernel, by decide +kernel⟩
theorem w_Lift___eq__ {P : Program} {w : World} {K : PySem.W.Frag} {mg : Str → Option Value} {base : Heap} {C_Lift : Addr} (i_Lift : HasI K C_Lift) (n_Lift : HasV P w K mg "Lift" (.ref C_Lift)) (b : Bi mg) (T_Lift : TLift K C_Lift) {f : Addr} {cdv : Value} {A : Around} {outer : List Env} {s : Shared} {H : Hp} {E : XK} (hr : Room 1 (A.deeper (envOfC "Lift.__eq__" (defScope s_Lift___eq__) s.heap.objs.size f cdv))) :
    DSs (cxOf CX0 P w K mg base N_Lift___eq__ "Lift.__eq__" (defScope s_Lift___eq__) f cdv A outer s H E).nox G0 (defBody s_Lift___eq__) (d_Lift___eq__ C_Lift) :=
  (dss_one (ds_ret (de_and (de_callB (cd_isC i_Lift) b.isinstance_ (by decide +kernel) (da_cons (de_var 1 rfl (.inl rfl)) (da_cons (de_globH n_Lift) da_nil))) (de_and (de_cmp (od_eq hr) (de_fld T_Lift.cl T_Lift.n_setup (de_var 0 rfl (.inl rfl))) (de_fld T_Lift.cl T_Lift.n_setup (de_var 1 rfl (.inl rfl))) (nomark _)) (de_and (de_cmp (od_eq hr) (de_fld T_Lift.cl T_Lift.n_first (de_var 0 rfl (.inl rfl))) (de_fld T_Lift.cl T_Lift.n_first (de_var 1 rfl (.inl rfl))) (nomark _)) (de_one (de_cmp (od_eq hr) (de_fld T_Lift.cl T_Lift.n_done (de_var 0 rfl (.inl rfl))) (de_fld T_Lift.cl T_Lift.n_done (de_var 1 rfl (.inl rfl))) (nomark _))))))))
/-! _law_cell_at -/
abbrev s__law_cell_at : Stmt := topS 45
abbrev N__law_cell_at : List Str := ["script", "k"]
theorem sc__law_cell_at : FnScope N__law_cell_at ["script", "k"] (defScope s__law_cell_at) := ⟨rfl, rfl, rfl, by decide +kernel, rfl, by decide +kernel, by decide +kernel⟩
theorem w__law_cell_at {P : Program} {w : World} {K : PySem.W.Frag} {mg : Str → Option Value} {base : Heap} (b : Bi mg) {f : Addr} {cdv : Value} {A : Around} {outer : List Env} {s : Shared} {H : Hp} {E : XK} (hr : Room 1 (A.deeper (envOfC "_law_cell_at" (defScope s__law_cell_at) s.heap.objs.size f cdv))) :
    DSs (cxOf CX0 P w K mg base N__law_cell_at "_law_cell_at" (defScope s__law_cell_at) f cdv A outer s H E).nox G0 (defBody s__law_cell_at) (d__law_cell_at) :=
  (dss_cons (ds_if (dt_cmp od_lt (de_var 1 rfl (.inl rfl)) (de_callB cd_len b.len (by decide +kernel) (da_cons (de_var 0 rfl (.inl rfl)) da_nil)) (nomark _)) (dss_one (ds_ret (de_ix (de_var 0 rfl (.inl rfl)) (de_var 1 rfl (.inl rfl))))) dss_nil)
    (dss_one (ds_ret de_int)))
/-! _law_draws -/
abbrev s__law_draws : Stmt := topS 46
abbrev N__law_draws : List Str := ["cell", "many", "draws", "rest", "seed", "k", "stir", "draw"]
theorem sc__law_draws : FnScope N__law_draws ["cell", "many"] (defScope s__law_draws) := ⟨rfl, rfl, rfl, by decide +kernel, rfl, by decide +kernel, by decide +kernel⟩
theorem w__law_draws {P : Program} {w : World} {K : PySem.W.Frag} {mg : Str → Option Value} {base : Heap} (b : Bi mg) {f : Addr} {cdv : Value} {A : Around} {outer : List Env} {s : Shared} {H : Hp} {E : XK} (hr : Room 1 (A.deeper (envOfC "_law_draws" (defScope s__law_draws) s.heap.objs.size f cdv))) :
    DSs (cxOf CX0 P w K mg base N__law_draws "_law_draws" (defScope s__law_draws) f cdv A outer s H E).nox G0 (defBody s__law_draws) (d__law_draws) :=
  (dss_cons (ds_set 2 sc__law_draws.nd (de_lstO da_nil) rfl (.inl rfl))
    (dss_cons (ds_set 3 sc__law_draws.nd (de_op od_sub (de_callTy cd_int b.int_ (by decide +kernel) (da_cons (de_var 0 rfl (.inl rfl)) da_nil)) (de_op od_pow de_int de_int)) rfl (.inl rfl))
    (dss_cons (ds_set 4 sc__law_draws.nd (de_op od_mod (de_callTy cd_int b.int_ (by decide +kernel) (da_cons (de_var 0 rfl (.inl rfl)) da_nil)) (de_op od_add (de_op od_pow de_int de_int) de_int)) rfl (.inl rfl))
    (dss_cons (ds_for PassesOwn.never rfl (di_range1 b.range_ (da_cons (de_var 1 rfl (.inl rfl)) da_nil)) (dg_name 5 sc__law_draws.nd rfl (.inl rfl) (.inl rfl)) (dss_cons (ds_set 6 sc__law_draws.nd (de_op od_mod (de_callTy cd_int b.int_ (by decide +kernel) (da_cons (de_op od_add (de_op od_add (de_op od_mul (de_var 4 rfl (.inl rfl)) de_int) (de_op od_mul (de_op od_mul (de_op od_add (de_var 5 rfl (.inl rfl)) de_int) (de_op od_add (de_var 5 rfl (.inl rfl)) de_int)) de_int)) de_int) da_nil)) de_int) rfl (.inl rfl))
    (dss_cons (ds_set 6 sc__law_draws.nd (de_op od_mod (de_callTy cd_int b.int_ (by decide +kernel) (da_cons (de_op od_add (de_op od_mul (de_var 6 rfl (.inl rfl)) (de_var 6 rfl (.inl rfl))) (de_op od_mul de_int (de_var 5 rfl (.inl rfl)))) da_nil)) de_int) rfl (.inl rfl))
    (dss_cons (ds_set 7 sc__law_draws.nd (de_op od_mod (de_callTy cd_int b.int_ (by decide +kernel) (da_cons (de_op od_fdiv (de_var 6 rfl (.inl rfl)) de_int) da_nil)) de_int) rfl (.inl rfl))
    (dss_cons (ds_if (dt_cmp od_gt (de_var 3 rfl (.inl rfl)) de_int (nomark _)) (dss_cons (ds_set 7 sc__law_draws.nd (de_op od_mod (de_callTy cd_int b.int_ (by decide +kernel) (da_cons (de_var 3 rfl (.inl rfl)) da_nil)) de_int) rfl (.inl rfl))
    (dss_one (ds_set 3 sc__law_draws.nd (de_op od_fdiv (de_var 3 rfl (.inl rfl)) de_int) rfl (.inl rfl)))) dss_nil)
    (dss_one (ds_expr (de_app (de_var 2 rfl (.inl rfl)) (da_cons (de_var 7 rfl (.inl rfl)) da_nil)))))))))
    (dss_one (ds_ret (de_frz 2 rfl (.inl rfl))))))))
/-! _law_setup -/
abbrev s__law_setup : Stmt := topS 47
abbrev N__law_setup : List Str := ["draws", "seats", "sizes", "draw", "rooms"]
theorem sc__law_setup : FnScope N__law_setup ["draws"] (defScope s__law_setup) := ⟨rfl, rfl, rfl, by decide +kernel, rfl, by decide +kernel, by decide +kernel⟩
theorem w__law_setup {P : Program} {w : World} {K : PySem.W.Frag} {mg : Str → Option Value} {base : Heap} (b : Bi mg) {f : Addr} {cdv : Value} {A : Around} {outer : List Env} {s : Shared} {H : Hp} {E : XK} (hr : Room 1 (A.deeper (envOfC "_law_setup" (defScope s__law_setup) s.heap.objs.size f cdv))) :
    DSs (cxOf CX0 P w K mg base N__law_setup "_law_setup" (defScope s__law_setup) f cdv A outer s H E).nox G0 (defBody s__law_setup) (d__law_setup84) :=
  (dss_cons (ds_set 1 sc__law_setup.nd (de_callTy cd_tuple b.tuple_ (by decide +kernel) (da_cons (de_lc (ct := (.one 3)) (own := [("draw", 3)]) rfl sc__law_setup.nd (di_seq (de_sl (de_var 0 rfl (.inl rfl)) (dp_some de_int) (dp_some (de_op od_add de_int (de_op od_mod (de_callTy cd_int b.int_ (by decide +kernel) (da_cons (de_ix (de_var 0 rfl (.inl rfl)) de_int) da_nil)) de_int))))) (blkOk_by (own := [("draw", 3)]) (N := N__law_setup) (sc := defScope s__law_setup) (by decide +kernel)) (fun _ _ _ _ _ => pg_name (i := 3) sc__law_setup.nd rfl (Or.inl rfl) (.inr rfl)) (fun _ _ _ _ _ => dts_nil) (fun _ _ _ _ _ => (de_op od_add de_int (de_op od_mod (de_callTy cd_int b.int_ (by decide +kernel) (da_cons (de_var 3 rfl (.inl rfl)) da_nil)) de_int)))) da_nil)) rfl (.inl rfl))
    (dss_cons (ds_set 2 sc__law_setup.nd (de_lstO (da_cons de_int (da_cons de_int (da_cons de_int (da_cons de_int (da_cons de_int da_nil)))))) rfl (.inl rfl))
    (dss_cons (ds_for PassesOwn.never rfl (di_seq (de_sl (de_var 0 rfl (.inl rfl)) (dp_some de_int) (dp_some (de_op od_sub de_int (de_op od_mod (de_callTy cd_int b.int_ (by decide +kernel) (da_cons (de_op od_fdiv (de_callTy cd_int b.int_ (by decide +kernel) (da_cons (de_ix (de_var 0 rfl (.inl rfl)) de_int) da_nil)) de_int) da_nil)) de_int))))) (dg_name 3 sc__law_setup.nd rfl (.inl rfl) (.inl rfl)) (dss_one (ds_expr (de_popAt (de_var 2 rfl (.inl rfl)) (da_cons (de_op od_mod (de_callTy cd_int b.int_ (by decide +kernel) (da_cons (de_var 3 rfl (.inl rfl)) da_nil)) (de_callB cd_len b.len (by decide +kernel) (da_cons (de_var 2 rfl (.inl rfl)) da_nil))) da_nil)))))
    (dss_cons (ds_set 4 sc__law_setup.nd (de_tup (da_cons (de_op od_add de_int (de_op od_mod (de_callTy cd_int b.int_ (by decide +kernel) (da_cons (de_ix (de_var 0 rfl (.inl rfl)) de_int) da_nil)) de_int)) (da_cons (de_op od_mod (de_callTy cd_int b.int_ (by decide +kernel) (da_cons (de_ix (de_var 0 rfl (.inl rfl)) de_int) da_nil)) de_int) da_nil))) rfl (.inl rfl))
    (dss_one (ds_ret (de_tup (da_cons (de_var 1 rfl (.inl rfl)) (da_cons (de_callTy cd_tuple b.tuple_ (by decide +kernel) (da_cons (de_var 2 rfl (.inl rfl)) da_nil)) (da_cons (de_var 4 rfl (.inl rfl)) (da_cons (de_tup (da_cons (de_op od_mod (de_callTy cd_int b.int_ (by decide +kernel) (da_cons (de_ix (de_var 0 rfl (.inl rfl)) de_int) da_nil)) de_int) (da_cons (de_op od_mod (de_callTy cd_int b.int_ (by decide +kernel) (da_cons (de_ix (de_var 0 rfl (.inl rfl)) de_int) da_nil)) de_int) da_nil))) da_nil)))))))))))
/-! _law_comers -/
abbrev s__law_comers : Stmt := topS 48
abbrev N__law_comers : List Str := ["setup", "draws", "many", "sizes", "draw"]
theorem sc__law_comers : FnScope N__law_comers ["setup", "draws"] (defScope s__law_comers) := ⟨rfl, rfl, rfl, by decide +kernel, rfl, by decide +kernel, by decide +kernel⟩
theorem w__law_comers {P : Program} {w : World} {K : PySem.W.Frag} {mg : Str → Option Value} {base : Heap} (b : Bi mg) {f : Addr} {cdv : Value} {A : Around} {outer : List Env} {s : Shared} {H : Hp} {E : XK} (hr : Room 1 (A.deeper (envOfC "_law_comers" (defScope s__law_comers) s.heap.objs.size f cdv))) :
    DSs (cxOf CX0 P w K mg base N__law_comers "_law_comers" (defScope s__law_comers) f cdv A outer s H E).nox G0 (defBody s__law_comers) (d__law_comers) :=
  (dss_cons (ds_set 2 sc__law_comers.nd (de_op od_mod (de_callTy cd_int b.int_ (by decide +kernel) (da_cons (de_ix (de_var 1 rfl (.inl rfl)) de_int) da_nil)) (de_op od_add (de_ix (de_ix (de_var 0 rfl (.inr (.inl rfl))) de_int) de_int) de_int)) rfl (.inl rfl))
    (dss_cons (ds_set 3 sc__law_comers.nd (de_callTy cd_tuple b.tuple_ (by decide +kernel) (da_cons (de_lc (ct := (.one 4)) (own := [("draw", 4)]) rfl sc__law_comers.nd (di_seq (de_sl (de_var 1 rfl (.inl rfl)) (dp_some de_int) (dp_some (de_op od_add de_int (de_var 2 rfl (.inl rfl)))))) (blkOk_by (own := [("draw", 4)]) (N := N__law_comers) (sc := defScope s__law_comers) (by decide +kernel)) (fun _ _ _ _ _ => pg_name (i := 4) sc__law_comers.nd rfl (Or.inl rfl) (.inr rfl)) (fun _ _ _ _ _ => dts_nil) (fun _ _ _ _ _ => (de_ix (de_ix (de_var 0 rfl (.inr (.inl rfl))) de_int) (de_op od_mod (de_callTy cd_int b.int_ (by decide +kernel) (da_cons (de_var 4 rfl (.inl rfl)) da_nil)) (de_callB cd_len b.len (by decide +kernel) (da_cons (de_ix (de_var 0 rfl (.inr (.inl rfl))) de_int) da_nil)))))) da_nil)) rfl (.inl rfl))
    (dss_one (ds_ret (de_tup (da_cons (de_var 3 rfl (.inl rfl)) (da_cons (de_op od_mod (de_callTy cd_int b.int_ (by decide +kernel) (da_cons (de_ix (de_var 1 rfl (.inl rfl)) de_int) da_nil)) (de_op od_add (de_ix (de_ix (de_var 0 rfl (.inr (.inl rfl))) de_int) de_int) de_int)) da_nil)))))))
/-! _law_range -/
abbrev s__law_range : Stmt := topS 49
abbrev N__law_range : List Str := ["draw", "low"]
theorem sc__law_range : FnScope N__law_range ["draw"] (defScope s__law_range) := ⟨rfl, rfl, rfl, by decide +kernel, rfl, by decide +kernel, by decide +kernel⟩
theorem w__law_range {P : Program} {w : World} {K : PySem.W.Frag} {mg : Str → Option Value} {base : Heap} (b : Bi mg) {f : Addr} {cdv : Value} {A : Around} {outer : List Env} {s : Shared} {H : Hp} {E : XK} (hr : Room 1 (A.deeper (envOfC "_law_range" (defScope s__law_range) s.heap.objs.size f cdv))) :
    DSs (cxOf CX0 P w K mg base N__law_range "_law_range" (defScope s__law_range) f cdv A outer s H E).nox G0 (defBody s__law_range) (d__law_range) :=
  (dss_cons (ds_set 1 sc__law_range.nd (de_op od_mod (de_callTy cd_int b.int_ (by decide +kernel) (da_cons (de_op od_fdiv (de_callTy cd_int b.int_ (by decide +kernel) (da_cons (de_var 0 rfl (.inl rfl)) da_nil)) de_int) da_nil)) de_int) rfl (.inl rfl))
    (dss_cons (ds_if (dt_cmp (od_eq hr) (de_op od_mod (de_callTy cd_int b.int_ (by decide +kernel) (da_cons (de_var 0 rfl (.inl rfl)) da_nil)) de_int) de_int (nomark _)) (dss_one (ds_ret (de_tup (da_cons de_int (da_cons de_int da_nil))))) dss_nil)
    (dss_one (ds_ret (de_tup (da_cons (de_var 1 rfl (.inl rfl)) (da_cons (de_op od_add (de_var 1 rfl (.inl rfl)) (de_op od_mod (de_callTy cd_int b.int_ (by decide +kernel) (da_cons (de_op od_fdiv (de_callTy cd_int b.int_ (by decide +kernel) (da_cons (de_var 0 rfl (.inl rfl)) da_nil)) de_int) da_nil)) (de_op od_sub de_int (de_var 1 rfl (.inl rfl))))) da_nil)))))))
/-! _law_rule -/
abbrev s__law_rule : Stmt := topS 50
abbrev N__law_rule : List Str := ["draws", "rows", "k", "mood", "front", "left", "waiting", "word", "after", "deed", "here", "there", "ranges"]
theorem sc__law_rule : FnScope N__law_rule ["draws"] (defScope s__law_rule) := ⟨rfl, rfl, rfl, by decide +kernel, rfl, by decide +kernel, by decide +kernel⟩
theorem w__law_rule {P : Program} {w : World} {K : PySem.W.Frag} {mg : Str → Option Value} {base : Heap} {S__law_range : DSp} (b : Bi mg) (h__law_range : Has P w K mg base "_law_range" 2 S__law_range) {f : Addr} {cdv : Value} {A : Around} {outer : List Env} {s : Shared} {H : Hp} {E : XK} (hr : Room 2 (A.deeper (envOfC "_law_rule" (defScope s__law_rule) s.heap.objs.size f cdv))) :
    DSs (cxOf CX0 P w K mg base N__law_rule "_law_rule" (defScope s__law_rule) f cdv A outer s H E).nox G0 (defBody s__law_rule) (d__law_rule S__law_range) :=
  (dss_cons (ds_set 1 sc__law_rule.nd (de_lstO da_nil) rfl (.inl rfl))
    (dss_cons (ds_for PassesOwn.never rfl (di_range1 b.range_ (da_cons (de_op od_mod (de_callTy cd_int b.int_ (by decide +kernel) (da_cons (de_ix (de_var 0 rfl (.inl rfl)) de_int) da_nil)) de_int) da_nil)) (dg_name 2 sc__law_rule.nd rfl (.inl rfl) (.inl rfl)) (dss_cons (ds_asg (de_sl (de_var 0 rfl (.inl rfl)) (dp_some (de_op od_add de_int (de_op od_mul de_int (de_var 2 rfl (.inl rfl))))) (dp_some (de_op od_add de_int (de_op od_mul de_int (de_var 2 rfl (.inl rfl)))))) (dg_seq rfl (dgs_cons (dg_name 3 sc__law_rule.nd rfl (.inl rfl) (.inl rfl)) (dgs_cons (dg_name 4 sc__law_rule.nd rfl (.inl rfl) (.inl rfl)) (dgs_cons (dg_name 5 sc__law_rule.nd rfl (.inl rfl) (.inl rfl)) dgs_nil)))))
    (dss_cons (ds_asg (de_sl (de_var 0 rfl (.inl rfl)) (dp_some (de_op od_add de_int (de_op od_mul de_int (de_var 2 rfl (.inl rfl))))) (dp_some (de_op od_add de_int (de_op od_mul de_int (de_var 2 rfl (.inl rfl)))))) (dg_seq rfl (dgs_cons (dg_name 6 sc__law_rule.nd rfl (.inl rfl) (.inl rfl)) (dgs_cons (dg_name 7 sc__law_rule.nd rfl (.inl rfl) (.inl rfl)) (dgs_cons (dg_name 8 sc__law_rule.nd rfl (.inl rfl) (.inl rfl)) dgs_nil)))))
    (dss_cons (ds_set 9 sc__law_rule.nd (de_ix (de_lst (da_cons de_str (da_cons de_str (da_cons de_str (da_cons de_str (da_cons de_str (da_cons de_str (da_cons de_str da_nil)))))))) (de_op od_mod (de_callTy cd_int b.int_ (by decide +kernel) (da_cons (de_var 7 rfl (.inl rfl)) da_nil)) de_int)) rfl (.inl rfl))
    (dss_cons (ds_set 10 sc__law_rule.nd (de_ix (de_lst (da_cons de_int (da_cons de_int (da_cons de_int (da_cons de_int (da_cons de_int (da_cons de_int da_nil))))))) (de_op od_mod (de_callTy cd_int b.int_ (by decide +kernel) (da_cons (de_var 3 rfl (.inl rfl)) da_nil)) de_int)) rfl (.inl rfl))
    (dss_cons (ds_set 11 sc__law_rule.nd (de_ix (de_lst (da_cons de_int (da_cons de_int (da_cons de_int (da_cons de_int (da_cons de_int (da_cons de_int da_nil))))))) (de_op od_mod (de_callTy cd_int b.int_ (by decide +kernel) (da_cons (de_var 8 rfl (.inl rfl)) da_nil)) de_int)) rfl (.inl rfl))
    (dss_cons (ds_set 12 sc__law_rule.nd (de_tup (da_cons (de_callH h__law_range hr (by decide) (da_cons (de_var 4 rfl (.inl rfl)) da_nil)) (da_cons (de_callH h__law_range hr (by decide) (da_cons (de_var 5 rfl (.inl rfl)) da_nil)) (da_cons (de_callH h__law_range hr (by decide) (da_cons (de_var 6 rfl (.inl rfl)) da_nil)) da_nil)))) rfl (.inl rfl))
    (dss_one (ds_expr (de_app (de_var 1 rfl (.inl rfl)) (da_cons (de_op od_add (de_op od_add (de_tup (da_cons (de_var 10 rfl (.inl rfl)) da_nil)) (de_var 12 rfl (.inl rfl))) (de_tup (da_cons (de_var 9 rfl (.inl rfl)) (da_cons (de_var 11 rfl (.inl rfl)) da_nil)))) da_nil)))))))))))
    (dss_cons (ds_if (dt_cmp od_gt (de_op od_mod (de_callTy cd_int b.int_ (by decide +kernel) (da_cons (de_ix (de_var 0 rfl (.inl rfl)) de_int) da_nil)) de_int) de_int (nomark _)) (dss_one (ds_expr (de_app (de_var 1 rfl (.inl rfl)) (da_cons (de_tup (da_cons de_int (da_cons (de_tup (da_cons de_int (da_cons de_int da_nil))) (da_cons (de_tup (da_cons de_int (da_cons de_int da_nil))) (da_cons (de_tup (da_cons de_int (da_cons de_int da_nil))) (da_cons (de_ix (de_lst (da_cons de_str (da_cons de_str da_nil))) (de_op od_mod (de_callTy cd_int b.int_ (by decide +kernel) (da_cons (de_op od_fdiv (de_callTy cd_int b.int_ (by decide +kernel) (da_cons (de_ix (de_var 0 rfl (.inl rfl)) de_int) da_nil)) de_int) da_nil)) de_int)) (da_cons de_int da_nil))))))) da_nil)))) dss_nil)
    (dss_cons (ds_if (dt_cmp (od_eq hr) (de_op od_mod (de_callTy cd_int b.int_ (by decide +kernel) (da_cons (de_ix (de_var 0 rfl (.inl rfl)) de_int) da_nil)) de_int) de_int (nomark _)) (dss_one (ds_expr (de_app (de_var 1 rfl (.inl rfl)) (da_cons (de_tup (da_cons de_int (da_cons (de_tup (da_cons de_int (da_cons de_int da_nil))) (da_cons (de_tup (da_cons de_int (da_cons de_int da_nil))) (da_cons (de_tup (da_cons de_int (da_cons de_int da_nil))) (da_cons (de_ix (de_lst (da_cons de_str (da_cons de_str da_nil))) (de_op od_mod (de_callTy cd_int b.int_ (by decide +kernel) (da_cons (de_op od_fdiv (de_callTy cd_int b.int_ (by decide +kernel) (da_cons (de_ix (de_var 0 rfl (.inl rfl)) de_int) da_nil)) de_int) da_nil)) de_int)) (da_cons de_int da_nil))))))) da_nil)))) dss_nil)
    (dss_one (ds_ret (de_callTy cd_tuple b.tuple_ (by decide +kernel) (da_cons (de_var 1 rfl (.inl rfl)) da_nil))))))))
/-! _law_fits -/
abbrev s__law_fits : Stmt := topS 51
abbrev N__law_fits : List Str := ["row", "mood", "front", "left", "singles", "value", "bounds"]
theorem sc__law_fits : FnScope N__law_fits ["row", "mood", "front", "left", "singles"] (defScope s__law_fits) := ⟨rfl, rfl, rfl, by decide +kernel, rfl, by decide +kernel, by decide +kernel⟩
theorem w__law_fits {P : Program} {w : World} {K : PySem.W.Frag} {mg : Str → Option Value} {base : Heap} {f : Addr} {cdv : Value} {A : Around} {outer : List Env} {s : Shared} {H : Hp} {E : XK} (hr : Room 1 (A.deeper (envOfC "_law_fits" (defScope s__law_fits) s.heap.objs.size f cdv))) :
    DSs (cxOf CX0 P w K mg base N__law_fits "_law_fits" (defScope s__law_fits) f cdv A outer s H E).nox G0 (defBody s__law_fits) (d__law_fits) :=
  (dss_cons (ds_for PassesOwn.never rfl (di_seq (de_lst (da_cons (de_tup (da_cons (de_var 1 rfl (.inl rfl)) (da_cons (de_tup (da_cons (de_ix (de_var 0 rfl (.inl rfl)) de_int) (da_cons (de_ix (de_var 0 rfl (.inl rfl)) de_int) da_nil))) da_nil))) (da_cons (de_tup (da_cons (de_var 2 rfl (.inl rfl)) (da_cons (de_ix (de_var 0 rfl (.inl rfl)) de_int) da_nil))) (da_cons (de_tup (da_cons (de_var 3 rfl (.inl rfl)) (da_cons (de_ix (de_var 0 rfl (.inl rfl)) de_int) da_nil))) (da_cons (de_tup (da_cons (de_var 4 rfl (.inl rfl)) (da_cons (de_ix (de_var 0 rfl (.inl rfl)) de_int) da_nil))) da_nil)))))) (dg_seq rfl (dgs_cons (dg_name 5 sc__law_fits.nd rfl (.inl rfl) (.inl rfl)) (dgs_cons (dg_name 6 sc__law_fits.nd rfl (.inl rfl) (.inl rfl)) dgs_nil))) (dss_one (ds_if (dt_w (dw_or (dt_cmp od_lt (de_var 5 rfl (.inl rfl)) (de_ix (de_var 6 rfl (.inl rfl)) de_int) (nomark _)) (dw_or1 (dt_cmp od_gt (de_var 5 rfl (.inl rfl)) (de_ix (de_var 6 rfl (.inl rfl)) de_int) (nomark _))))) (dss_one (ds_ret de_bl)) dss_nil)))
    (dss_cons (ds_if (dt_cmp (od_eq hr) (de_ix (de_var 0 rfl (.inl rfl)) de_int) de_str (nomark _)) (dss_one (ds_ret (de_and (de_cmp od_lt de_int (de_var 2 rfl (.inl rfl)) (nomark _)) (de_one (de_cmp od_le (de_var 2 rfl (.inl rfl)) (de_var 3 rfl (.inl rfl)) (nomark _)))))) dss_nil)
    (dss_cons (ds_if (dt_cmp (od_eq hr) (de_ix (de_var 0 rfl (.inl rfl)) de_int) de_str (nomark _)) (dss_one (ds_ret (de_and (de_cmp od_gt (de_var 4 rfl (.inl rfl)) de_int (nomark _)) (de_one (de_cmp od_gt (de_var 3 rfl (.inl rfl)) de_int (nomark _)))))) dss_nil)
    (dss_one (ds_ret (de_or (de_cmp (od_eq hr) (de_ix (de_var 0 rfl (.inl rfl)) de_int) de_str (nomark _)) (de_one (de_and (de_cmp od_gt (de_var 2 rfl (.inl rfl)) (de_var 3 rfl (.inl rfl)) (nomark _)) (de_one (de_cmp od_gt (de_var 3 rfl (.inl rfl)) de_int (nomark _)))))))))))
/-! _law_beat -/
abbrev s__law_beat : Stmt := topS 52
abbrev N__law_beat : List Str := ["setup", "rule", "state", "comers", "turn", "line", "singles", "mood", "room", "away", "left", "deeds", "k", "front", "fitting", "lost", "row"]
theorem sc__law_beat : FnScope N__law_beat ["setup", "rule", "state", "comers"] (defScope s__law_beat) := ⟨rfl, rfl, rfl, by decide +kernel, rfl, by decide +kernel, by decide +kernel⟩
theorem w__law_beat {P : Program} {w : World} {K : PySem.W.Frag} {mg : Str → Option Value} {base : Heap} {S__law_fits : DSp} (b : Bi mg) (h__law_fits : Has P w K mg base "_law_fits" 2 S__law_fits) {f : Addr} {cdv : Value} {A : Around} {outer : List Env} {s : Shared} {H : Hp} {E : XK} (hr : Room 2 (A.deeper (envOfC "_law_beat" (defScope s__law_beat) s.heap.objs.size f cdv))) :
    DSs (cxOf CX0 P w K mg base N__law_beat "_law_beat" (defScope s__law_beat) f cdv A outer s H E).nox G0 (defBody s__law_beat) (d__law_beat S__law_fits) :=
  (dss_cons (ds_asg (de_var 2 rfl (.inl rfl)) (dg_seq rfl (dgs_cons (dg_name 4 sc__law_beat.nd rfl (.inl rfl) (.inl rfl)) (dgs_cons (dg_name 5 sc__law_beat.nd rfl (.inl rfl) (.inl rfl)) (dgs_cons (dg_name 6 sc__law_beat.nd rfl (.inr rfl) (.inl rfl)) (dgs_cons (dg_name 7 sc__law_beat.nd rfl (.inr rfl) (.inl rfl)) dgs_nil))))))
    (dss_cons (ds_set 8 sc__law_beat.nd (de_op od_sub (de_ix (de_ix (de_var 0 rfl (.inl rfl)) de_int) de_int) (de_callB cd_len b.len (by decide +kernel) (da_cons (de_var 5 rfl (.inl rfl)) da_nil))) rfl (.inl rfl))
    (dss_cons (ds_set 5 sc__law_beat.nd (de_op od_add (de_var 5 rfl (.inl rfl)) (de_sl (de_ix (de_var 3 rfl (.inl rfl)) de_int) dp_none (dp_some (de_var 8 rfl (.inl rfl))))) rfl (.inl rfl))
    (dss_cons (ds_set 9 sc__law_beat.nd (de_tup (da_cons (de_callB (cd_max2 rfl) b.max_ (by decide +kernel) (da_cons de_int (da_cons (de_op od_sub (de_callB cd_len b.len (by decide +kernel) (da_cons (de_ix (de_var 3 rfl (.inl rfl)) de_int) da_nil)) (de_var 8 rfl (.inl rfl))) da_nil))) (da_cons (de_callB (cd_max2 rfl) b.max_ (by decide +kernel) (da_cons de_int (da_cons (de_op od_sub (de_op od_add (de_var 6 rfl (.inr (.inl rfl))) (de_ix (de_var 3 rfl (.inl rfl)) de_int)) (de_ix (de_ix (de_var 0 rfl (.inl rfl)) de_int) de_int)) da_nil))) da_nil))) rfl (.inl rfl))
    (dss_cons (ds_set 6 sc__law_beat.nd (de_callB (cd_min2 rfl) b.min_ (by decide +kernel) (da_cons (de_ix (de_ix (de_var 0 rfl (.inl rfl)) de_int) de_int) (da_cons (de_op od_add (de_var 6 rfl (.inr (.inl rfl))) (de_ix (de_var 3 rfl (.inl rfl)) de_int)) da_nil))) rfl (.inr rfl))
    (dss_cons (ds_set 10 sc__law_beat.nd (de_ix (de_ix (de_var 0 rfl (.inl rfl)) de_int) (de_var 4 rfl (.inl rfl))) rfl (.inr rfl))
    (dss_cons (ds_set 11 sc__law_beat.nd (de_lstO da_nil) rfl (.inl rfl))
    (dss_cons (ds_for PassesOwn.never rfl (di_range1 b.range_ (da_cons de_int da_nil)) (dg_name 12 sc__law_beat.nd rfl (.inl rfl) (.inl rfl)) (dss_cons (ds_set 13 sc__law_beat.nd (de_ix (de_op od_add (de_var 5 rfl (.inl rfl)) (de_tup (da_cons de_int da_nil))) de_int) rfl (.inr rfl))
    (dss_cons (ds_setLc (ct := (.one 16)) (own := [("row", 16)]) 14 rfl sc__law_beat.nd rfl rfl (sw_true rfl rfl rfl (by decide +kernel)) (di_seq (de_var 1 rfl (.inl rfl))) (blkOk_by (own := [("row", 16)]) (N := N__law_beat) (sc := defScope s__law_beat) (by decide +kernel)) (fun _ _ _ _ _ => pg_name (i := 16) sc__law_beat.nd rfl (Or.inl rfl) (.inr rfl)) (fun _ _ _ _ _ => dts_one (dt_val (de_callH h__law_fits hr (by decide) (da_cons (de_var 16 rfl (.inl rfl)) (da_cons (de_var 7 rfl (.inr (.inl rfl))) (da_cons (de_var 13 rfl (.inr (.inl rfl))) (da_cons (de_var 10 rfl (.inr (.inl rfl))) (da_cons (de_var 6 rfl (.inr (.inl rfl))) da_nil)))))))) (fun _ _ _ _ _ => (de_var 16 rfl (.inl rfl))))
    (dss_cons (ds_if (dt_cmp (od_eq hr) (de_var 14 rfl (.inl rfl)) (de_lst da_nil) (nomark _)) (dss_one ds_break) dss_nil)
    (dss_cons (ds_set 7 sc__law_beat.nd (de_ix (de_ix (de_var 14 rfl (.inl rfl)) de_int) de_int) rfl (.inr rfl))
    (dss_cons (ds_if (dt_cmp (od_eq hr) (de_ix (de_ix (de_var 14 rfl (.inl rfl)) de_int) de_int) de_str (nomark _)) (dss_one ds_break) dss_nil)
    (dss_one (ds_if (dt_cmp (od_eq hr) (de_ix (de_ix (de_var 14 rfl (.inl rfl)) de_int) de_int) de_str (nomark _)) (dss_cons (ds_expr (de_app (de_var 11 rfl (.inl rfl)) (da_cons (de_tup (da_cons de_str (da_cons (de_var 13 rfl (.inr (.inl rfl))) da_nil))) da_nil)))
    (dss_cons (ds_set 5 sc__law_beat.nd (de_sl (de_var 5 rfl (.inl rfl)) (dp_some de_int) dp_none) rfl (.inl rfl))
    (dss_one (ds_set 10 sc__law_beat.nd (de_op od_sub (de_var 10 rfl (.inr (.inl rfl))) (de_var 13 rfl (.inr (.inl rfl)))) rfl (.inr rfl))))) (dss_one (ds_if (dt_cmp (od_eq hr) (de_ix (de_ix (de_var 14 rfl (.inl rfl)) de_int) de_int) de_str (nomark _)) (dss_cons (ds_expr (de_app (de_var 11 rfl (.inl rfl)) (da_cons (de_tup (da_cons de_str (da_cons de_int da_nil))) da_nil)))
    (dss_cons (ds_set 6 sc__law_beat.nd (de_op od_sub (de_var 6 rfl (.inr (.inl rfl))) de_int) rfl (.inr rfl))
    (dss_one (ds_set 10 sc__law_beat.nd (de_op od_sub (de_var 10 rfl (.inr (.inl rfl))) de_int) rfl (.inr rfl))))) (dss_cons (ds_expr (de_app (de_var 11 rfl (.inl rfl)) (da_cons (de_tup (da_cons de_str (da_cons (de_var 10 rfl (.inr (.inl rfl))) da_nil))) da_nil)))
    (dss_cons (ds_set 5 sc__law_beat.nd (de_op od_add (de_tup (da_cons (de_op od_sub (de_var 13 rfl (.inr (.inl rfl))) (de_var 10 rfl (.inr (.inl rfl)))) da_nil)) (de_sl (de_var 5 rfl (.inl rfl)) (dp_some de_int) dp_none)) rfl (.inl rfl))
    (dss_one (ds_set 10 sc__law_beat.nd de_int rfl (.inr rfl)))))))))))))))
    (dss_cons (ds_set 15 sc__law_beat.nd (de_var 10 rfl (.inr (.inl rfl))) rfl (.inl rfl))
    (dss_cons (ds_if (dt_w (dw_and (dt_cmp (od_eq hr) (de_var 5 rfl (.inl rfl)) (de_tup da_nil) (nomark _)) (dw_and1 (dt_cmp (od_eq hr) (de_var 6 rfl (.inr (.inl rfl))) de_int (nomark _))))) (dss_one (ds_set 15 sc__law_beat.nd de_int rfl (.inl rfl))) dss_nil)
    (dss_one (ds_ret (de_tup (da_cons (de_tup (da_cons (de_callTy cd_tuple b.tuple_ (by decide +kernel) (da_cons (de_var 11 rfl (.inl rfl)) da_nil)) (da_cons (de_var 10 rfl (.inr (.inl rfl))) (da_cons (de_var 15 rfl (.inl rfl)) (da_cons (de_var 9 rfl (.inl rfl)) da_nil))))) (da_cons (de_tup (da_cons (de_op od_mod (de_callTy cd_int b.int_ (by decide +kernel) (da_cons (de_op od_add (de_var 4 rfl (.inl rfl)) de_int) da_nil)) (de_callB cd_len b.len (by decide +kernel) (da_cons (de_ix (de_var 0 rfl (.inl rfl)) de_int) da_nil))) (da_cons (de_var 5 rfl (.inl rfl)) (da_cons (de_var 6 rfl (.inr (.inl rfl))) (da_cons (de_var 7 rfl (.inr (.inl rfl))) da_nil))))) da_nil)))))))))))))))
/-! _law_moved -/
abbrev s__law_moved : Stmt := topS 53
abbrev N__law_moved : List Str := ["model", "step", "setup", "rules", "states", "chairs", "steps", "chair", "after"]
theorem sc__law_moved : FnScope N__law_moved ["model", "step"] (defScope s__law_moved) := ⟨rfl, rfl, rfl, by decide +kernel, rfl, by decide +kernel, by decide +kernel⟩
theorem w__law_moved {P : Program} {w : World} {K : PySem.W.Frag} {mg : Str → Option Value} {base : Heap} {S__law_beat : DSp} (h__law_beat : Has P w K mg base "_law_beat" 3 S__law_beat) {f : Addr} {cdv : Value} {A : Around} {outer : List Env} {s : Shared} {H : Hp} {E : XK} (hr : Room 3 (A.deeper (envOfC "_law_moved" (defScope s__law_moved) s.heap.objs.size f cdv))) :
    DSs (cxOf CX0 P w K mg base N__law_moved "_law_moved" (defScope s__law_moved) f cdv A outer s H E).nox G0 (defBody s__law_moved) (d__law_moved S__law_beat) :=
  (dss_cons (ds_asg (de_var 0 rfl (.inl rfl)) (dg_seq rfl (dgs_cons (dg_name 2 sc__law_moved.nd rfl (.inl rfl) (.inl rfl)) (dgs_cons (dg_name 3 sc__law_moved.nd rfl (.inl rfl) (.inl rfl)) (dgs_cons (dg_name 4 sc__law_moved.nd rfl (.inl rfl) (.inl rfl)) (dgs_cons (dg_name 5 sc__law_moved.nd rfl (.inl rfl) (.inl rfl)) (dgs_cons (dg_name 6 sc__law_moved.nd rfl (.inl rfl) (.inl rfl)) dgs_nil)))))))
    (dss_cons (ds_if (dt_cmp (od_eq hr) (de_ix (de_var 1 rfl (.inl rfl)) de_int) de_str (nomark _)) (dss_one (ds_ret (de_tup (da_cons (de_var 2 rfl (.inl rfl)) (da_cons (de_op od_add (de_var 3 rfl (.inl rfl)) (de_lst (da_cons (de_ix (de_var 1 rfl (.inl rfl)) de_int) da_nil))) (da_cons (de_op od_add (de_var 4 rfl (.inl rfl)) (de_lst (da_cons (de_ix (de_var 4 rfl (.inl rfl)) (de_neg de_int)) da_nil))) (da_cons (de_var 5 rfl (.inl rfl)) (da_cons (de_op od_add (de_var 6 rfl (.inl rfl)) (de_lst (da_cons (de_var 1 rfl (.inl rfl)) da_nil))) da_nil)))))))) dss_nil)
    (dss_cons (ds_asg (de_callH h__law_beat hr (by decide) (da_cons (de_var 2 rfl (.inl rfl)) (da_cons (de_ix (de_var 3 rfl (.inl rfl)) (de_neg de_int)) (da_cons (de_ix (de_var 4 rfl (.inl rfl)) (de_neg de_int)) (da_cons (de_ix (de_var 1 rfl (.inl rfl)) de_int) da_nil))))) (dg_seq rfl (dgs_cons (dg_name 7 sc__law_moved.nd rfl (.inl rfl) (.inl rfl)) (dgs_cons (dg_name 8 sc__law_moved.nd rfl (.inl rfl) (.inl rfl)) dgs_nil))))
    (dss_one (ds_ret (de_tup (da_cons (de_var 2 rfl (.inl rfl)) (da_cons (de_op od_add (de_var 3 rfl (.inl rfl)) (de_lst (da_cons (de_ix (de_var 3 rfl (.inl rfl)) (de_neg de_int)) da_nil))) (da_cons (de_op od_add (de_var 4 rfl (.inl rfl)) (de_lst (da_cons (de_var 8 rfl (.inl rfl)) da_nil))) (da_cons (de_op od_add (de_var 5 rfl (.inl rfl)) (de_lst (da_cons (de_var 7 rfl (.inl rfl)) da_nil))) (da_cons (de_op od_add (de_var 6 rfl (.inl rfl)) (de_lst (da_cons (de_var 1 rfl (.inl rfl)) da_nil))) da_nil)))))))))))
/-! _law_undone -/
abbrev s__law_undone : Stmt := topS 54
abbrev N__law_undone : List Str := ["model", "setup", "rules", "states", "chairs", "steps"]
theorem sc__law_undone : FnScope N__law_undone ["model"] (defScope s__law_undone) := ⟨rfl, rfl, rfl, by decide +kernel, rfl, by decide +kernel, by decide +kernel⟩
theorem w__law_undone {P : Program} {w : World} {K : PySem.W.Frag} {mg : Str → Option Value} {base : Heap} {f : Addr} {cdv : Value} {A : Around} {outer : List Env} {s : Shared} {H : Hp} {E : XK} (hr : Room 1 (A.deeper (envOfC "_law_undone" (defScope s__law_undone) s.heap.objs.size f cdv))) :
    DSs (cxOf CX0 P w K mg base N__law_undone "_law_undone" (defScope s__law_undone) f cdv A outer s H E).nox G0 (defBody s__law_undone) (d__law_undone) :=
  (dss_cons (ds_asg (de_var 0 rfl (.inl rfl)) (dg_seq rfl (dgs_cons (dg_name 1 sc__law_undone.nd rfl (.inl rfl) (.inl rfl)) (dgs_cons (dg_name 2 sc__law_undone.nd rfl (.inl rfl) (.inl rfl)) (dgs_cons (dg_name 3 sc__law_undone.nd rfl (.inl rfl) (.inl rfl)) (dgs_cons (dg_name 4 sc__law_undone.nd rfl (.inl rfl) (.inl rfl)) (dgs_cons (dg_name 5 sc__law_undone.nd rfl (.inl rfl) (.inl rfl)) dgs_nil)))))))
    (dss_cons (ds_if (dt_cmp (od_eq hr) (de_ix (de_ix (de_var 5 rfl (.inl rfl)) (de_neg de_int)) de_int) de_str (nomark _)) (dss_one (ds_set 4 sc__law_undone.nd (de_sl (de_var 4 rfl (.inl rfl)) dp_none (dp_some (de_neg de_int))) rfl (.inl rfl))) dss_nil)
    (dss_one (ds_ret (de_tup (da_cons (de_var 1 rfl (.inl rfl)) (da_cons (de_sl (de_var 2 rfl (.inl rfl)) dp_none (dp_some (de_neg de_int))) (da_cons (de_sl (de_var 3 rfl (.inl rfl)) dp_none (dp_some (de_neg de_int))) (da_cons (de_var 4 rfl (.inl rfl)) (da_cons (de_sl (de_var 5 rfl (.inl rfl)) dp_none (dp_some (de_neg de_int))) da_nil))))))))))
/-! _law_new -/
abbrev s__law_new : Stmt := topS 55
abbrev N__law_new : List Str := ["setup", "rule"]
theorem sc__law_new : FnScope N__law_new ["setup", "rule"] (defScope s__law_new) := ⟨rfl, rfl, rfl, by decide +kernel, rfl, by decide +kernel, by decide +kernel⟩
theorem w__law_new {P : Program} {w : World} {K : PySem.W.Frag} {mg : Str → Option Value} {base : Heap} {f : Addr} {cdv : Value} {A : Around} {outer : List Env} {s : Shared} {H : Hp} {E : XK} (hr : Room 1 (A.deeper (envOfC "_law_new" (defScope s__law_new) s.heap.objs.size f cdv))) :
    DSs (cxOf CX0 P w K mg base N__law_new "_law_new" (defScope s__law_new) f cdv A outer s H E).nox G0 (defBody s__law_new) (d__law_new) :=
  (dss_one (ds_ret (de_tup (da_cons (de_var 0 rfl (.inl rfl)) (da_cons (de_lst (da_cons (de_var 1 rfl (.inl rfl)) da_nil)) (da_cons (de_lst (da_cons (de_tup (da_cons de_int (da_cons (de_tup da_nil) (da_cons de_int (da_cons de_int da_nil))))) da_nil)) (da_cons (de_lst da_nil) (da_cons (de_lst da_nil) da_nil))))))))
/-! _law_row_of -/
abbrev s__law_row_of : Stmt := topS 56
abbrev N__law_row_of : List Str := ["model", "step"]
theorem sc__law_row_of : FnScope N__law_row_of ["model"] (defScope s__law_row_of) := ⟨rfl, rfl, rfl, by decide +kernel, rfl, by decide +kernel, by decide +kernel⟩
theorem w__law_row_of {P : Program} {w : World} {K : PySem.W.Frag} {mg : Str → Option Value} {base : Heap} {f : Addr} {cdv : Value} {A : Around} {outer : List Env} {s : Shared} {H : Hp} {E : XK} (hr : Room 1 (A.deeper (envOfC "_law_row_of" (defScope s__law_row_of) s.heap.objs.size f cdv))) :
    DSs (cxOf CX0 P w K mg base N__law_row_of "_law_row_of" (defScope s__law_row_of) f cdv A outer s H E).nox G0 (defBody s__law_row_of) (d__law_row_of) :=
  (dss_one (ds_ret (de_lc (ct := (.one 1)) (own := [("step", 1)]) rfl sc__law_row_of.nd (di_seq (de_ix (de_var 0 rfl (.inl rfl)) de_int)) (blkOk_by (own := [("step", 1)]) (N := N__law_row_of) (sc := defScope s__law_row_of) (by decide +kernel)) (fun _ _ _ _ _ => pg_name (i := 1) sc__law_row_of.nd rfl (Or.inl rfl) (.inr rfl)) (fun _ _ _ _ _ => dts_one (dt_cmp (od_eq hr) (de_ix (de_var 1 rfl (.inl rfl)) de_int) de_str (nomark _))) (fun _ _ _ _ _ => (de_ix (de_var 1 rfl (.inl rfl)) de_int)))))
/-! _law_do -/
abbrev s__law_do : Stmt := topS 57
abbrev N__law_do : List Str := ["lift", "model", "step"]
theorem sc__law_do : FnScope N__law_do ["lift", "model", "step"] (defScope s__law_do) := ⟨rfl, rfl, rfl, by decide +kernel, rfl, by decide +kernel, by decide +kernel⟩
def d__law_do (C_Lift : Addr) (S_Lift_undo : DSp) (S__law_undone : DSp) (S_Lift_change_rule : DSp) (S_Lift_beat : DSp) (S__law_moved : DSp) : DS :=
  (dSeq (dIfS (dAnd (dB (dOp dEq (dIx (dVar 2) (dC (.int 0))) (dC (.str "undo")))) (dB (dOp dEq (dIx (dVar 1) (dC (.int 4))) (dLst dNil)))) (dRet (dVar 1)) dNext)
    (dSeq (dIfS (dB (dOp dEq (dIx (dVar 2) (dC (.int 0))) (dC (.str "undo")))) (dSeq (dDrop (dMeth C_Lift "undo" S_Lift_undo [] G0.dx (dVar 0) dNil))
    (dRet (dCall S__law_undone [] G0.dx (dCons (dVar 1) dNil)))) dNext)
    (dSeq (dIfS (dB (dOp dEq (dIx (dVar 2) (dC (.int 0))) (dC (.str "rule")))) (dDrop (dMeth C_Lift "change_rule" S_Lift_change_rule [] G0.dx (dVar 0) (dCons (dIx (dVar 2) (dC (.int 1))) dNil))) (dDrop (dMeth C_Lift "beat" S_Lift_beat [] G0.dx (dVar 0) (dCons (dIx (dIx (dVar 2) (dC (.int 1))) (dC (.int 0))) (dCons (dIx (dIx (dVar 2) (dC (.int 1))) (dC (.int 1))) dNil)))))
    (dRet (dCall S__law_moved [] G0.dx (dCons (dVar 1) (dCons (dVar 2) dNil)))))))
theorem w__law_do {P : Program} {w : World} {K : PySem.W.Frag} {mg : Str → Option Value} {base : Heap} {C_Lift : Addr} {S_Lift_undo : DSp} {S__law_undone : DSp} {S_Lift_change_rule : DSp} {S_Lift_beat : DSp} {S__law_moved : DSp} (m_Lift_undo : HasM P w K mg base C_Lift "undo" 2 S_Lift_undo) (h__law_undone : Has P w K mg base "_law_undone" 2 S__law_undone) (m_Lift_change_rule : HasM P w K mg base C_Lift "change_rule" 8 S_Lift_change_rule) (m_Lift_beat : HasM P w K mg base C_Lift "beat" 7 S_Lift_beat) (h__law_moved : Has P w K mg base "_law_moved" 4 S__law_moved) {f : Addr} {cdv : Value} {A : Around} {outer : List Env} {s : Shared} {H : Hp} {E : XK} (hr : Room 8 (A.deeper (envOfC "_law_do" (defScope s__law_do) s.heap.objs.size f cdv))) :
    DSs (cxOf CX0 P w K mg base N__law_do "_law_do" (defScope s__law_do) f cdv A outer s H E).nox G0 (defBody s__law_do) (d__law_do C_Lift S_Lift_undo S__law_undone S_Lift_change_rule S_Lift_beat S__law_moved) :=
  (dss_cons (ds_if (dt_w (dw_and (dt_cmp (od_eq hr) (de_ix (de_var 2 rfl (.inl rfl)) de_int) de_str (nomark _)) (dw_and1 (dt_cmp (od_eq hr) (de_ix (de_var 1 rfl (.inl rfl)) de_int) (de_lst da_nil) (nomark _))))) (dss_one (ds_ret (de_var 1 rfl (.inl rfl)))) dss_nil)
    (dss_cons (ds_if (dt_cmp (od_eq hr) (de_ix (de_var 2 rfl (.inl rfl)) de_int) de_str (nomark _)) (dss_cons (ds_expr (de_methH0 m_Lift_undo hr (by decide) (de_var 0 rfl (.inl rfl))))
    (dss_one (ds_ret (de_callH h__law_undone hr (by decide) (da_cons (de_var 1 rfl (.inl rfl)) da_nil))))) dss_nil)
    (dss_cons (ds_if (dt_cmp (od_eq hr) (de_ix (de_var 2 rfl (.inl rfl)) de_int) de_str (nomark _)) (dss_one (ds_expr (de_methH m_Lift_change_rule hr (by decide) (de_var 0 rfl (.inl rfl)) (da_cons (de_ix (de_var 2 rfl (.inl rfl)) de_int) da_nil)))) (dss_one (ds_expr (de_methH m_Lift_beat hr (by decide) (de_var 0 rfl (.inl rfl)) (da_cons (de_ix (de_ix (de_var 2 rfl (.inl rfl)) de_int) de_int) (da_cons (de_ix (de_ix (de_var 2 rfl (.inl rfl)) de_int) de_int) da_nil))))))
    (dss_one (ds_ret (de_callH h__law_moved hr (by decide) (da_cons (de_var 1 rfl (.inl rfl)) (da_cons (de_var 2 rfl (.inl rfl)) da_nil))))))))
/-! _law_same -/
abbrev s__law_same : Stmt := topS 58
abbrev N__law_same : List Str := ["one", "other"]
theorem sc__law_same : FnScope N__law_same ["one", "other"] (defScope s__law_same) := ⟨rfl, rfl, rfl, by decide +kernel, rfl, by decide +kernel, by decide +kernel⟩
def d__law_same : DS :=
  (dRet (dAndV (dOp dEq (dIx (dVar 0) (dC (.int 0))) (dIx (dVar 1) (dC (.int 0)))) (dAndV (dOp dEq (dIx (dIx (dVar 0) (dC (.int 1))) (dC (.int 0))) (dIx (dIx (dVar 1) (dC (.int 1))) (dC (.int 0)))) (dOp dEq (dIx (dVar 0) (dC (.int 4))) (dIx (dVar 1) (dC (.int 4)))))))
theorem w__law_same {P : Program} {w : World} {K : PySem.W.Frag} {mg : Str → Option Value} {base : Heap} {f : Addr} {cdv : Value} {A : Around} {outer : List Env} {s : Shared} {H : Hp} {E : XK} (hr : Room 1 (A.deeper (envOfC "_law_same" (defScope s__law_same) s.heap.objs.size f cdv))) :
    DSs (cxOf CX0 P w K mg base N__law_same "_law_same" (defScope s__law_same) f cdv A outer s H E).nox G0 (defBody s__law_same) (d__law_same) :=
  (dss_one (ds_ret (de_and (de_cmp (od_eq hr) (de_ix (de_var 0 rfl (.inl rfl)) de_int) (de_ix (de_var 1 rfl (.inl rfl)) de_int) (nomark _)) (de_and (de_cmp (od_eq hr) (de_ix (de_ix (de_var 0 rfl (.inl rfl)) de_int) de_int) (de_ix (de_ix (de_var 1 rfl (.inl rfl)) de_int) de_int) (nomark _)) (de_one (de_cmp (od_eq hr) (de_ix (de_var 0 rfl (.inl rfl)) de_int) (de_ix (de_var 1 rfl (.inl rfl)) de_int) (nomark _)))))))
/-! _law_right -/
abbrev s__law_right : Stmt := topS 59
abbrev N__law_right : List Str := ["lifts", "models", "k", "n"]
theorem sc__law_right : FnScope N__law_right ["lifts", "models"] (defScope s__law_right) := ⟨rfl, rfl, rfl, by decide +kernel, rfl, by decide +kernel, by decide +kernel⟩
def d__law_right (C_Lift : Addr) (S_Lift_state : DSp) (S_Lift_chairs : DSp) (S_Lift_row : DSp) (S__law_row_of : DSp) (S_Lift_rule : DSp) (S_Lift___eq__ : DSp) (S__law_same : DSp) : DS :=
  (dSeq (dFor (dIr1 (dCons (dC (.int 3)) dNil)) (gNm 2) (dSeq (dIfS (dOr (dB (dOp dNe (dMeth C_Lift "state" S_Lift_state [] G0.dx (dIx (dVar 0) (dVar 2)) dNil) (dIx (dIx (dIx (dVar 1) (dVar 2)) (dC (.int 2))) (dNeg (dC (.int 1)))))) (dB (dOp dNe (dMeth C_Lift "chairs" S_Lift_chairs [] G0.dx (dIx (dVar 0) (dVar 2)) dNil) (dIx (dIx (dVar 1) (dVar 2)) (dC (.int 3)))))) (dRet (dC (.bl false))) dNext)
    (dSeq (dIfS (dOr (dB (dOp dNe (dMeth C_Lift "row" S_Lift_row [] G0.dx (dIx (dVar 0) (dVar 2)) dNil) (dCall S__law_row_of [] G0.dx (dCons (dIx (dVar 1) (dVar 2)) dNil)))) (dB (dOp dNe (dMeth C_Lift "rule" S_Lift_rule [] G0.dx (dIx (dVar 0) (dVar 2)) dNil) (dIx (dIx (dIx (dVar 1) (dVar 2)) (dC (.int 1))) (dNeg (dC (.int 1))))))) (dRet (dC (.bl false))) dNext)
    (dSeq (dIfS (dOr (dB (dOp (dEqOther C_Lift S_Lift___eq__) (dIx (dVar 0) (dVar 2)) (dC .non))) (dOr (dB (dOp (dEqOther C_Lift S_Lift___eq__) (dIx (dVar 0) (dVar 2)) (dMeth C_Lift "state" S_Lift_state [] G0.dx (dIx (dVar 0) (dVar 2)) dNil))) (dB (dOp (dEqOther C_Lift S_Lift___eq__) (dIx (dVar 0) (dVar 2)) (dMeth C_Lift "chairs" S_Lift_chairs [] G0.dx (dIx (dVar 0) (dVar 2)) dNil))))) (dRet (dC (.bl false))) dNext)
    (dFor (dIr1 (dCons (dC (.int 3)) dNil)) (gNm 3) (dSeq (dIfS (dAnd (dB (dOp dIsNot (dOp (dEqOwn C_Lift S_Lift___eq__) (dIx (dVar 0) (dVar 2)) (dIx (dVar 0) (dVar 3))) (dC (.bl true)))) (dB (dCall S__law_same [] G0.dx (dCons (dIx (dVar 1) (dVar 2)) (dCons (dIx (dVar 1) (dVar 3)) dNil))))) (dRet (dC (.bl false))) dNext)
    (dIfS (dAnd (dB (dOp dIsNot (dOp (dEqOwn C_Lift S_Lift___eq__) (dIx (dVar 0) (dVar 2)) (dIx (dVar 0) (dVar 3))) (dC (.bl false)))) (dNot (dB (dCall S__law_same [] G0.dx (dCons (dIx (dVar 1) (dVar 2)) (dCons (dIx (dVar 1) (dVar 3)) dNil)))))) (dRet (dC (.bl false))) dNext)))))))
    (dRet (dC (.bl true))))
theorem w__law_right {P : Program} {w : World} {K : PySem.W.Frag} {mg : Str → Option Value} {base : Heap} {C_Lift : Addr} {S_Lift_state : DSp} {S_Lift_chairs : DSp} {S_Lift_row : DSp} {S__law_row_of : DSp} {S_Lift_rule : DSp} {S_Lift___eq__ : DSp} {S__law_same : DSp} (b : Bi mg) (m_Lift_state : HasM P w K mg base C_Lift "state" 2 S_Lift_state) (m_Lift_chairs : HasM P w K mg base C_Lift "chairs" 2 S_Lift_chairs) (m_Lift_row : HasM P w K mg base C_Lift "row" 2 S_Lift_row) (h__law_row_of : Has P w K mg base "_law_row_of" 2 S__law_row_of) (m_Lift_rule : HasM P w K mg base C_Lift "rule" 2 S_Lift_rule) (m_Lift___eq__ : HasS P w K mg base C_Lift "__eq__" 2 S_Lift___eq__) (i_Lift : HasI K C_Lift) (n_Lift : HasV P w K mg "Lift" (.ref C_Lift)) (h__law_same : Has P w K mg base "_law_same" 2 S__law_same) {f : Addr} {cdv : Value} {A : Around} {outer : List Env} {s : Shared} {H : Hp} {E : XK} (hr : Room 3 (A.deeper (envOfC "_law_right" (defScope s__law_right) s.heap.objs.size f cdv))) :
    DSs (cxOf CX0 P w K mg base N__law_right "_law_right" (defScope s__law_right) f cdv A outer s H E).nox G0 (defBody s__law_right) (d__law_right C_Lift S_Lift_state S_Lift_chairs S_Lift_row S__law_row_of S_Lift_rule S_Lift___eq__ S__law_same) :=
  (dss_cons (ds_for PassesOwn.never rfl (di_range1 b.range_ (da_cons de_int da_nil)) (dg_name 2 sc__law_right.nd rfl (.inl rfl) (.inl rfl)) (dss_cons (ds_if (dt_w (dw_or (dt_cmp (od_ne hr) (de_methH0 m_Lift_state hr (by decide) (de_ix (de_var 0 rfl (.inl rfl)) (de_var 2 rfl (.inl rfl)))) (de_ix (de_ix (de_ix (de_var 1 rfl (.inl rfl)) (de_var 2 rfl (.inl rfl))) de_int) (de_neg de_int)) (nomark _)) (dw_or1 (dt_cmp (od_ne hr) (de_methH0 m_Lift_chairs hr (by decide) (de_ix (de_var 0 rfl (.inl rfl)) (de_var 2 rfl (.inl rfl)))) (de_ix (de_ix (de_var 1 rfl (.inl rfl)) (de_var 2 rfl (.inl rfl))) de_int) (nomark _))))) (dss_one (ds_ret de_bl)) dss_nil)
    (dss_cons (ds_if (dt_w (dw_or (dt_cmp (od_ne hr) (de_methH0 m_Lift_row hr (by decide) (de_ix (de_var 0 rfl (.inl rfl)) (de_var 2 rfl (.inl rfl)))) (de_callH h__law_row_of hr (by decide) (da_cons (de_ix (de_var 1 rfl (.inl rfl)) (de_var 2 rfl (.inl rfl))) da_nil)) (nomark _)) (dw_or1 (dt_cmp (od_ne hr) (de_methH0 m_Lift_rule hr (by decide) (de_ix (de_var 0 rfl (.inl rfl)) (de_var 2 rfl (.inl rfl)))) (de_ix (de_ix (de_ix (de_var 1 rfl (.inl rfl)) (de_var 2 rfl (.inl rfl))) de_int) (de_neg de_int)) (nomark _))))) (dss_one (ds_ret de_bl)) dss_nil)
    (dss_cons (ds_if (dt_w (dw_or (dt_cmp (od_eqOther m_Lift___eq__ i_Lift hr (by decide)) (de_ix (de_var 0 rfl (.inl rfl)) (de_var 2 rfl (.inl rfl))) de_non (nomark _)) (dw_or (dt_cmp (od_eqOther m_Lift___eq__ i_Lift hr (by decide)) (de_ix (de_var 0 rfl (.inl rfl)) (de_var 2 rfl (.inl rfl))) (de_methH0 m_Lift_state hr (by decide) (de_ix (de_var 0 rfl (.inl rfl)) (de_var 2 rfl (.inl rfl)))) (nomark _)) (dw_or1 (dt_cmp (od_eqOther m_Lift___eq__ i_Lift hr (by decide)) (de_ix (de_var 0 rfl (.inl rfl)) (de_var 2 rfl (.inl rfl))) (de_methH0 m_Lift_chairs hr (by decide) (de_ix (de_var 0 rfl (.inl rfl)) (de_var 2 rfl (.inl rfl)))) (nomark _)))))) (dss_one (ds_ret de_bl)) dss_nil)
    (dss_one (ds_for PassesOwn.never rfl (di_range1 b.range_ (da_cons de_int da_nil)) (dg_name 3 sc__law_right.nd rfl (.inl rfl) (.inl rfl)) (dss_cons (ds_if (dt_w (dw_and (dt_cmp od_isNot (de_cmp (od_eqOwn m_Lift___eq__ hr (by decide)) (de_ix (de_var 0 rfl (.inl rfl)) (de_var 2 rfl (.inl rfl))) (de_ix (de_var 0 rfl (.inl rfl)) (de_var 3 rfl (.inl rfl))) (nomark _)) de_bl (nomark _)) (dw_and1 (dt_val (de_callH h__law_same hr (by decide) (da_cons (de_ix (de_var 1 rfl (.inl rfl)) (de_var 2 rfl (.inl rfl))) (da_cons (de_ix (de_var 1 rfl (.inl rfl)) (de_var 3 rfl (.inl rfl))) da_nil))))))) (dss_one (ds_ret de_bl)) dss_nil)
    (dss_one (ds_if (dt_w (dw_and (dt_cmp od_isNot (de_cmp (od_eqOwn m_Lift___eq__ hr (by decide)) (de_ix (de_var 0 rfl (.inl rfl)) (de_var 2 rfl (.inl rfl))) (de_ix (de_var 0 rfl (.inl rfl)) (de_var 3 rfl (.inl rfl))) (nomark _)) de_bl (nomark _)) (dw_and1 (dt_not (dt_val (de_callH h__law_same hr (by decide) (da_cons (de_ix (de_var 1 rfl (.inl rfl)) (de_var 2 rfl (.inl rfl))) (da_cons (de_ix (de_var 1 rfl (.inl rfl)) (de_var 3 rfl (.inl rfl))) da_nil)))))))) (dss_one (ds_ret de_bl)) dss_nil)))))))))
    (dss_one (ds_ret de_bl)))
/-! law -/
abbrev s_law : Stmt := topS 60
abbrev N_law : List Str := ["script", "setup", "pick", "other", "rules", "lifts", "models", "cell", "draws", "step", "k", "n"]
theorem sc_law : FnScope N_law ["script"] (defScope s_law) := ⟨rfl, rfl, rfl, by decide +kernel, rfl, by decide +kernel, by decide +kernel⟩
def d_law (C_Lift : Addr) (S__law_setup : DSp) (S__law_draws : DSp) (S__law_cell_at : DSp) (S__law_rule : DSp) (S_Lift___init__ : DSp) (S_Lift_copy : DSp) (S__law_new : DSp) (S__law_comers : DSp) (S__law_do : DSp) (S__law_right : DSp) : DS :=
  (dSeq (dSet 1 (dCall S__law_setup [] G0.dx (dCons (dCall S__law_draws [] G0.dx (dCons (dCall S__law_cell_at [] G0.dx (dCons (dVar 0) (dCons (dC (.int 0)) dNil))) (dCons (dC (.int 12)) dNil))) dNil)))
    (dSeq (dSet 2 (dCall S__law_draws [] G0.dx (dCons (dCall S__law_cell_at [] G0.dx (dCons (dVar 0) (dCons (dC (.int 1)) dNil))) (dCons (dC (.int 24)) dNil))))
    (dSeq (dSet 3 (dVar 1))
    (dSeq (dIfS (dB (dOp dEq (dOp dMod (dCB (d1 intV) (dCons (dIx (dVar 2) (dC (.int 0))) dNil)) (dC (.int 3))) (dC (.int 1)))) (dSet 3 (dTup (dCons (dIx (dVar 1) (dC (.int 0))) (dCons (dIx (dVar 1) (dC (.int 1))) (dCons (dTup (dCons (dOp dAdd (dC (.int 1)) (dOp dMod (dCB (d1 intV) (dCons (dIx (dIx (dVar 1) (dC (.int 2))) (dC (.int 0))) dNil)) (dC (.int 3)))) (dCons (dIx (dIx (dVar 1) (dC (.int 2))) (dC (.int 1))) dNil))) (dCons (dIx (dVar 1) (dC (.int 3))) dNil)))))) dNext)
    (dSeq (dSet 4 (dLstO (dCons (dCall S__law_rule [] G0.dx (dCons (dSl (dVar 2) (dPart (dC (.int 1))) (dPart (dC (.int 21)))) dNil)) (dCons (dCall S__law_rule [] G0.dx (dCons (dSl (dVar 2) (dPart (dC (.int 1))) (dPart (dC (.int 21)))) dNil)) dNil))))
    (dSeq (dIfS (dB (dOp dEq (dOp dMod (dCB (d1 intV) (dCons (dIx (dVar 2) (dC (.int 21))) dNil)) (dC (.int 3))) (dC (.int 1)))) (dAsg (dCall S__law_rule [] G0.dx (dCons (dCall S__law_draws [] G0.dx (dCons (dCall S__law_cell_at [] G0.dx (dCons (dVar 0) (dCons (dC (.int 2)) dNil))) (dCons (dC (.int 20)) dNil))) dNil)) (gIx (dVar 4) (dC (.int 1)))) dNext)
    (dSeq (dSet 5 (dLstO (dCons (dMake C_Lift S_Lift___init__ [] G0.dx (dCons (dVar 1) (dCons (dIx (dVar 4) (dC (.int 0))) dNil))) (dCons (dMake C_Lift S_Lift___init__ [] G0.dx (dCons (dVar 3) (dCons (dIx (dVar 4) (dC (.int 1))) dNil))) (dCons (dMeth C_Lift "copy" S_Lift_copy [] G0.dx (dMake C_Lift S_Lift___init__ [] G0.dx (dCons (dVar 1) (dCons (dIx (dVar 4) (dC (.int 0))) dNil))) dNil) dNil)))))
    (dSeq (dSet 6 (dLstO (dCons (dCall S__law_new [] G0.dx (dCons (dVar 1) (dCons (dIx (dVar 4) (dC (.int 0))) dNil))) (dCons (dCall S__law_new [] G0.dx (dCons (dVar 3) (dCons (dIx (dVar 4) (dC (.int 1))) dNil))) (dCons (dCall S__law_new [] G0.dx (dCons (dVar 1) (dCons (dIx (dVar 4) (dC (.int 0))) dNil))) dNil)))))
    (dSeq (dFor (dIsq (dSl (dVar 0) (dPart (dC (.int 3))) (dPart (dC (.int 23))))) (gNm 7) (dSeq (dSet 8 (dCall S__law_draws [] G0.dx (dCons (dVar 7) (dCons (dC (.int 28)) dNil))))
    (dSeq (dSet 9 (dTup (dCons (dC (.str "beat")) (dCons (dCall S__law_comers [] G0.dx (dCons (dVar 1) (dCons (dVar 8) dNil))) dNil))))
    (dSeq (dIfS (dB (dOp dEq (dOp dMod (dCB (d1 intV) (dCons (dIx (dVar 8) (dC (.int 4))) dNil)) (dC (.int 5))) (dC (.int 1)))) (dSet 9 (dTup (dCons (dC (.str "rule")) (dCons (dCall S__law_rule [] G0.dx (dCons (dSl (dVar 8) (dPart (dC (.int 5))) (dPart (dC (.int 25)))) dNil)) dNil)))) dNext)
    (dSeq (dIfS (dB (dOp dEq (dOp dMod (dCB (d1 intV) (dCons (dIx (dVar 8) (dC (.int 4))) dNil)) (dC (.int 5))) (dC (.int 2)))) (dSet 9 (dTup (dCons (dC (.str "undo")) (dCons (dC .non) dNil)))) dNext)
    (dSeq (dFor (dIsq (dIx (dLst (dCons (dLst (dCons (dC (.int 0)) dNil)) (dCons (dLst (dCons (dC (.int 1)) dNil)) (dCons (dLst (dCons (dC (.int 2)) dNil)) (dCons (dLst (dCons (dC (.int 0)) (dCons (dC (.int 1)) dNil))) (dCons (dLst (dCons (dC (.int 1)) (dCons (dC (.int 2)) dNil))) (dCons (dLst (dCons (dC (.int 0)) (dCons (dC (.int 2)) dNil))) (dCons (dLst (dCons (dC (.int 0)) (dCons (dC (.int 1)) (dCons (dC (.int 2)) dNil)))) (dCons (dLst (dCons (dC (.int 2)) (dCons (dC (.int 1)) (dCons (dC (.int 0)) dNil)))) dNil))))))))) (dOp dMod (dCB (d1 intV) (dCons (dIx (dVar 8) (dC (.int 25))) dNil)) (dC (.int 8))))) (gNm 10) (dAsg (dCall S__law_do [] G0.dx (dCons (dIx (dVar 5) (dVar 10)) (dCons (dIx (dVar 6) (dVar 10)) (dCons (dVar 9) dNil)))) (gIx (dVar 6) (dVar 10))))
    (dSeq (dIfS (dB (dOp dEq (dOp dMod (dCB (d1 intV) (dCons (dIx (dVar 8) (dC (.int 26))) dNil)) (dC (.int 6))) (dC (.int 1)))) (dSeq (dSet 10 (dOp dMod (dCB (d1 intV) (dCons (dIx (dVar 8) (dC (.int 27))) dNil)) (dC (.int 3))))
    (dSeq (dSet 11 (dOp dMod (dCB (d1 intV) (dCons (dOp dFdiv (dCB (d1 intV) (dCons (dIx (dVar 8) (dC (.int 27))) dNil)) (dC (.int 3))) dNil)) (dC (.int 3))))
    (dSeq (dAsg (dMeth C_Lift "copy" S_Lift_copy [] G0.dx (dIx (dVar 5) (dVar 11)) dNil) (gIx (dVar 5) (dVar 10)))
    (dAsg (dIx (dVar 6) (dVar 11)) (gIx (dVar 6) (dVar 10)))))) dNext)
    (dIfS (dNot (dB (dCall S__law_right [] G0.dx (dCons (dVar 5) (dCons (dVar 6) dNil))))) (dRet (dC (.bl false))) dNext))))))))
    (dRet (dCall S__law_right [] G0.dx (dCons (dVar 5) (dCons (dVar 6) dNil)))))))))))))
theorem w_law {P : Program} {w : World} {K : PySem.W.Frag} {mg : Str → Option Value} {base : Heap} {C_Lift : Addr} {S__law_setup : DSp} {S__law_draws : DSp} {S__law_cell_at : DSp} {S__law_rule : DSp} {S_Lift___init__ : DSp} {S_Lift_copy : DSp} {S__law_new : DSp} {S__law_comers : DSp} {S__law_do : DSp} {S__law_right : DSp} (h__law_setup : Has P w K mg base "_law_setup" 2 S__law_setup) (h__law_draws : Has P w K mg base "_law_draws" 2 S__law_draws) (h__law_cell_at : Has P w K mg base "_law_cell_at" 2 S__law_cell_at) (b : Bi mg) (h__law_rule : Has P w K mg base "_law_rule" 3 S__law_rule) (c_Lift_2 : HasC P w K mg base "Lift" C_Lift [] 9 S_Lift___init__) (m_Lift_copy : HasM P w K mg base C_Lift "copy" 11 S_Lift_copy) (h__law_new : Has P w K mg base "_law_new" 2 S__law_new) (h__law_comers : Has P w K mg base "_law_comers" 2 S__law_comers) (h__law_do : Has P w K mg base "_law_do" 9 S__law_do) (h__law_right : Has P w K mg base "_law_right" 4 S__law_right) {f : Addr} {cdv : Value} {A : Around} {outer : List Env} {s : Shared} {H : Hp} {E : XK} (hr : Room 11 (A.deeper (envOfC "law" (defScope s_law) s.heap.objs.size f cdv))) :
    DSs (cxOf CX0 P w K mg base N_law "law" (defScope s_law) f cdv A outer s H E).nox G0 (defBody s_law) (d_law C_Lift S__law_setup S__law_draws S__law_cell_at S__law_rule S_Lift___init__ S_Lift_copy S__law_new S__law_comers S__law_do S__law_right) :=
  (dss_cons (ds_set 1 sc_law.nd (de_callH h__law_setup hr (by decide) (da_cons (de_callH h__law_draws hr (by decide) (da_cons (de_callH h__law_cell_at hr (by decide) (da_cons (de_var 0 rfl (.inl rfl)) (da_cons de_int da_nil))) (da_cons de_int da_nil))) da_nil)) rfl (.inl rfl))
    (dss_cons (ds_set 2 sc_law.nd (de_callH h__law_draws hr (by decide) (da_cons (de_callH h__law_cell_at hr (by decide) (da_cons (de_var 0 rfl (.inl rfl)) (da_cons de_int da_nil))) (da_cons de_int da_nil))) rfl (.inl rfl))
    (dss_cons (ds_set 3 sc_law.nd (de_var 1 rfl (.inl rfl)) rfl (.inl rfl))
    (dss_cons (ds_if (dt_cmp (od_eq hr) (de_op od_mod (de_callTy cd_int b.int_ (by decide +kernel) (da_cons (de_ix (de_var 2 rfl (.inl rfl)) de_int) da_nil)) de_int) de_int (nomark _)) (dss_one (ds_set 3 sc_law.nd (de_tup (da_cons (de_ix (de_var 1 rfl (.inl rfl)) de_int) (da_cons (de_ix (de_var 1 rfl (.inl rfl)) de_int) (da_cons (de_tup (da_cons (de_op od_add de_int (de_op od_mod (de_callTy cd_int b.int_ (by decide +kernel) (da_cons (de_ix (de_ix (de_var 1 rfl (.inl rfl)) de_int) de_int) da_nil)) de_int)) (da_cons (de_ix (de_ix (de_var 1 rfl (.inl rfl)) de_int) de_int) da_nil))) (da_cons (de_ix (de_var 1 rfl (.inl rfl)) de_int) da_nil))))) rfl (.inl rfl))) dss_nil)
    (dss_cons (ds_set 4 sc_law.nd (de_lstO (da_cons (de_callH h__law_rule hr (by decide) (da_cons (de_sl (de_var 2 rfl (.inl rfl)) (dp_some de_int) (dp_some de_int)) da_nil)) (da_cons (de_callH h__law_rule hr (by decide) (da_cons (de_sl (de_var 2 rfl (.inl rfl)) (dp_some de_int) (dp_some de_int)) da_nil)) da_nil))) rfl (.inl rfl))
    (dss_cons (ds_if (dt_cmp (od_eq hr) (de_op od_mod (de_callTy cd_int b.int_ (by decide +kernel) (da_cons (de_ix (de_var 2 rfl (.inl rfl)) de_int) da_nil)) de_int) de_int (nomark _)) (dss_one (ds_asg (de_callH h__law_rule hr (by decide) (da_cons (de_callH h__law_draws hr (by decide) (da_cons (de_callH h__law_cell_at hr (by decide) (da_cons (de_var 0 rfl (.inl rfl)) (da_cons de_int da_nil))) (da_cons de_int da_nil))) da_nil)) (dg_ix (de_var 4 rfl (.inl rfl)) de_int))) dss_nil)
    (dss_cons (ds_set 5 sc_law.nd (de_lstO (da_cons (de_makeH c_Lift_2 hr (by decide) (da_cons (de_var 1 rfl (.inl rfl)) (da_cons (de_ix (de_var 4 rfl (.inl rfl)) de_int) da_nil))) (da_cons (de_makeH c_Lift_2 hr (by decide) (da_cons (de_var 3 rfl (.inl rfl)) (da_cons (de_ix (de_var 4 rfl (.inl rfl)) de_int) da_nil))) (da_cons (de_methH0 m_Lift_copy hr (by decide) (de_makeH c_Lift_2 hr (by decide) (da_cons (de_var 1 rfl (.inl rfl)) (da_cons (de_ix (de_var 4 rfl (.inl rfl)) de_int) da_nil)))) da_nil)))) rfl (.inl rfl))
    (dss_cons (ds_set 6 sc_law.nd (de_lstO (da_cons (de_callH h__law_new hr (by decide) (da_cons (de_var 1 rfl (.inl rfl)) (da_cons (de_ix (de_var 4 rfl (.inl rfl)) de_int) da_nil))) (da_cons (de_callH h__law_new hr (by decide) (da_cons (de_var 3 rfl (.inl rfl)) (da_cons (de_ix (de_var 4 rfl (.inl rfl)) de_int) da_nil))) (da_cons (de_callH h__law_new hr (by decide) (da_cons (de_var 1 rfl (.inl rfl)) (da_cons (de_ix (de_var 4 rfl (.inl rfl)) de_int) da_nil))) da_nil)))) rfl (.inl rfl))
    (dss_cons (ds_for PassesOwn.never rfl (di_seq (de_sl (de_var 0 rfl (.inl rfl)) (dp_some de_int) (dp_some de_int))) (dg_name 7 sc_law.nd rfl (.inl rfl) (.inl rfl)) (dss_cons (ds_set 8 sc_law.nd (de_callH h__law_draws hr (by decide) (da_cons (de_var 7 rfl (.inl rfl)) (da_cons de_int da_nil))) rfl (.inl rfl))
    (dss_cons (ds_set 9 sc_law.nd (de_tup (da_cons de_str (da_cons (de_callH h__law_comers hr (by decide) (da_cons (de_var 1 rfl (.inl rfl)) (da_cons (de_var 8 rfl (.inl rfl)) da_nil))) da_nil))) rfl (.inl rfl))
    (dss_cons (ds_if (dt_cmp (od_eq hr) (de_op od_mod (de_callTy cd_int b.int_ (by decide +kernel) (da_cons (de_ix (de_var 8 rfl (.inl rfl)) de_int) da_nil)) de_int) de_int (nomark _)) (dss_one (ds_set 9 sc_law.nd (de_tup (da_cons de_str (da_cons (de_callH h__law_rule hr (by decide) (da_cons (de_sl (de_var 8 rfl (.inl rfl)) (dp_some de_int) (dp_some de_int)) da_nil)) da_nil))) rfl (.inl rfl))) dss_nil)
    (dss_cons (ds_if (dt_cmp (od_eq hr) (de_op od_mod (de_callTy cd_int b.int_ (by decide +kernel) (da_cons (de_ix (de_var 8 rfl (.inl rfl)) de_int) da_nil)) de_int) de_int (nomark _)) (dss_one (ds_set 9 sc_law.nd (de_tup (da_cons de_str (da_cons de_non da_nil))) rfl (.inl rfl))) dss_nil)
    (dss_cons (ds_for PassesOwn.never rfl (di_seq (de_ix (de_lst (da_cons (de_lst (da_cons de_int da_nil)) (da_cons (de_lst (da_cons de_int da_nil)) (da_cons (de_lst (da_cons de_int da_nil)) (da_cons (de_lst (da_cons de_int (da_cons de_int da_nil))) (da_cons (de_lst (da_cons de_int (da_cons de_int da_nil))) (da_cons (de_lst (da_cons de_int (da_cons de_int da_nil))) (da_cons (de_lst (da_cons de_int (da_cons de_int (da_cons de_int da_nil)))) (da_cons (de_lst (da_cons de_int (da_cons de_int (da_cons de_int da_nil)))) da_nil))))))))) (de_op od_mod (de_callTy cd_int b.int_ (by decide +kernel) (da_cons (de_ix (de_var 8 rfl (.inl rfl)) de_int) da_nil)) de_int))) (dg_name 10 sc_law.nd rfl (.inl rfl) (.inl rfl)) (dss_one (ds_asg (de_callH h__law_do hr (by decide) (da_cons (de_ix (de_var 5 rfl (.inl rfl)) (de_var 10 rfl (.inl rfl))) (da_cons (de_ix (de_var 6 rfl (.inl rfl)) (de_var 10 rfl (.inl rfl))) (da_cons (de_var 9 rfl (.inl rfl)) da_nil)))) (dg_ix (de_var 6 rfl (.inl rfl)) (de_var 10 rfl (.inl rfl))))))
    (dss_cons (ds_if (dt_cmp (od_eq hr) (de_op od_mod (de_callTy cd_int b.int_ (by decide +kernel) (da_cons (de_ix (de_var 8 rfl (.inl rfl)) de_int) da_nil)) de_int) de_int (nomark _)) (dss_cons (ds_set 10 sc_law.nd (de_op od_mod (de_callTy cd_int b.int_ (by decide +kernel) (da_cons (de_ix (de_var 8 rfl (.inl rfl)) de_int) da_nil)) de_int) rfl (.inl rfl))
    (dss_cons (ds_set 11 sc_law.nd (de_op od_mod (de_callTy cd_int b.int_ (by decide +kernel) (da_cons (de_op od_fdiv (de_callTy cd_int b.int_ (by decide +kernel) (da_cons (de_ix (de_var 8 rfl (.inl rfl)) de_int) da_nil)) de_int) da_nil)) de_int) rfl (.inl rfl))
    (dss_cons (ds_asg (de_methH0 m_Lift_copy hr (by decide) (de_ix (de_var 5 rfl (.inl rfl)) (de_var 11 rfl (.inl rfl)))) (dg_ix (de_var 5 rfl (.inl rfl)) (de_var 10 rfl (.inl rfl))))
    (dss_one (ds_asg (de_ix (de_var 6 rfl (.inl rfl)) (de_var 11 rfl (.inl rfl))) (dg_ix (de_var 6 rfl (.inl rfl)) (de_var 10 rfl (.inl rfl)))))))) dss_nil)
    (dss_one (ds_if (dt_not (dt_val (de_callH h__law_right hr (by decide) (da_cons (de_var 5 rfl (.inl rfl)) (da_cons (de_var 6 rfl (.inl rfl)) da_nil))))) (dss_one (ds_ret de_bl)) dss_nil)))))))))
    (dss_one (ds_ret (de_callH h__law_right hr (by decide) (da_cons (de_var 5 rfl (.inl rfl)) (da_cons (de_var 6 rfl (.inl rfl)) da_nil))))))))))))))
end DL

/-! k85: the law over data. -/
namespace DL
open PySem PySem.Spec PyProof.Rows L2
theorem gixAt {M : Mp} {p : Addr} {xs : List D} {k : Nat} {y : D} {R : Mp → Prop} (h : M p = some (.lst xs)) (hk : k < xs.length) (q : R (upm M p (.lst (xs.set k y)))) : gixK (.ref p) (.int k) y M R := by
  refine ⟨p, xs, k, k, rfl, rfl, h, ?_, q⟩
  unfold ixN
  rw [if_pos (Int.natCast_nonneg k), if_pos (by omega), Int.toNat_natCast]
theorem gix1 {M : Mp} {p : Addr} {a b y : D} {R : Mp → Prop} : gixK (.ref p) (.int 1) y (upm M p (.lst [a, b])) R = R (upm M p (.lst [a, y])) := by
  refine propext ⟨fun ⟨_, xs, k, j, e1, e2, e3, e4, q⟩ => ?_, fun q => ⟨p, [a, b], 1, 1, rfl, rfl, upm_same, rfl, by rw [upm_upm]; exact q⟩⟩
  cases e1; cases e2
  rw [upm_same] at e3
  cases e3
  cases e4
  rw [upm_upm] at q
  exact q
theorem pick8 {i : Int} (h : 0 ≤ i ∧ i < 8) : ∃ l : List Int, (∀ x ∈ l, 0 ≤ x ∧ x < 3) ∧ l.length ≤ 3 ∧ ∀ Q : D → Prop, Q (.lst (l.map D.int)) → optK (atI [D.lst [.int 0], D.lst [.int 1], D.lst [.int 2], D.lst [.int 0, .int 1], D.lst [.int 1, .int 2], D.lst [.int 0, .int 2], D.lst [.int 0, .int 1, .int 2], D.lst [.int 2, .int 1, .int 0]] i) Q := by
  have : i = 0 ∨ i = 1 ∨ i = 2 ∨ i = 3 ∨ i = 4 ∨ i = 5 ∨ i = 6 ∨ i = 7 := by omega
  rcases this with h | h | h | h | h | h | h | h
  · exact ⟨[0], by decide, by decide, fun Q q => by rw [atNat (n := 0) h rfl]; exact q⟩
  · exact ⟨[1], by decide, by decide, fun Q q => by rw [atNat (n := 1) h rfl]; exact q⟩
  · exact ⟨[2], by decide, by decide, fun Q q => by rw [atNat (n := 2) h rfl]; exact q⟩
  · exact ⟨[0, 1], by decide, by decide, fun Q q => by rw [atNat (n := 3) h rfl]; exact q⟩
  · exact ⟨[1, 2], by decide, by decide, fun Q q => by rw [atNat (n := 4) h rfl]; exact q⟩
  · exact ⟨[0, 2], by decide, by decide, fun Q q => by rw [atNat (n := 5) h rfl]; exact q⟩
  · exact ⟨[0, 1, 2], by decide, by decide, fun Q q => by rw [atNat (n := 6) h rfl]; exact q⟩
  · exact ⟨[2, 1, 0], by decide, by decide, fun Q q => by rw [atNat (n := 7) h rfl]; exact q⟩
/-- the comers of one setup are those of the other -/
structure Sim (a b : Su) : Prop where
  sizes : b.sizes = a.sizes
  c0 : b.c0 = a.c0
  c1 : b.c1 = a.c1
theorem UU.ok.sim {a b : Su} {u : UU} (h : u.ok a) (s : Sim a b) : u.ok b := by
  cases u with
  | undo => trivial
  | step x =>
    cases x with
    | rule r => exact h
    | beat c =>
      have h : c.ok a := h
      exact ⟨by rw [s.c0]; exact h.gl, fun x hx => by rw [s.sizes]; exact h.gi x hx, h.m0, by rw [s.c1]; exact h.m1⟩
/-- three lifts, their models -/
structure Trio (C : Addr) (su : Su) (lp mp : Addr) (os : List (LA × Hs)) (n : Nat) (M : Mp) : Prop where
  w : Wd C M (.ls mp (modsD os) :: .ls lp (liftsD os) :: obs os)
  len : os.length = 3
  ok : ∀ o ∈ os, o.2.ok n ∧ Sim su o.2.su
theorem set_same {α : Type} {l : List α} {k : Nat} {x : α} (h : l[k]? = some x) : l.set k x = l := by
  obtain ⟨hk, e⟩ := List.getElem?_eq_some_iff.mp h
  rw [← e]; exact List.set_getElem_self hk
theorem Trio.right {C : Addr} {su : Su} {lp mp : Addr} {os : List (LA × Hs)} {n : Nat} {M : Mp} {Q : DK} {dx : DX} (t : Trio C su lp mp os n M) (hn : n ≤ 4000) (q : Q (.bl true) M) : S_right C [.ref lp, .ref mp] M Q dx :=
  ⟨lp, mp, os, n, rfl, t.w.lst 1 rfl, t.w.lst 0 rfl, fun o ho => t.w.at' (.lf o.1 o.2.s) (List.mem_cons_of_mem _ (List.mem_cons_of_mem _ (List.mem_map.mpr ⟨o, ho, rfl⟩))), ⟨t.len, hn, fun o ho => (t.ok o ho).1⟩, q⟩
theorem Trio.mono {C : Addr} {su : Su} {lp mp : Addr} {os : List (LA × Hs)} {n m : Nat} {M : Mp} (t : Trio C su lp mp os n M) (h : n ≤ m) : Trio C su lp mp os m M := ⟨t.w, t.len, fun o ho => ⟨(t.ok o ho).1.mono h, (t.ok o ho).2⟩⟩
/-- one of them is moved -/
theorem Trio.move {C : Addr} {su : Su} {lp mp : Addr} {os : List (LA × Hs)} {n k : Nat} {M M' : Mp} {o : LA × Hs} {u : UU} (t : Trio C su lp mp os n M) (hk : os[k]? = some o) (hu : u.ok su) (h : LiftAt C M' o.1.a o.1.p o.1.q o.1.e (o.2.next u).s) (kp : Keeps M M' [o.1.a, o.1.p, o.1.q, o.1.e]) :
    M' mp = some (.lst (modsD os)) ∧ ∀ y, y = modD (o.2.next u).s → Trio C su lp mp (os.set k (o.1, o.2.next u)) (n + 1) (upm M' mp (.lst ((modsD os).set k y))) := by
  have hi : (Ob.ls mp (modsD os) :: Ob.ls lp (liftsD os) :: obs os)[k + 2]? = some (.lf o.1 o.2.s) := by
    show (obs os)[k]? = _
    exact mapAt hk
  have w1 := t.w.setAt (o' := .lf o.1 (o.2.next u).s) hi kp h rfl
  have w1 : Wd C M' (.ls mp (modsD os) :: .ls lp (liftsD os) :: (obs os).set k (.lf o.1 (o.2.next u).s)) := w1
  have e1 : (obs os).set k (.lf o.1 (o.2.next u).s) = obs (os.set k (o.1, o.2.next u)) := by unfold obs; rw [List.map_set]
  have e2 : liftsD (os.set k (o.1, o.2.next u)) = liftsD os := by
    unfold liftsD
    rw [List.map_set]
    exact set_same (x := D.ref o.1.a) (mapAt (f := fun o : LA × Hs => D.ref o.1.a) hk)
  rw [e1] at w1
  refine ⟨w1.lst 0 rfl, fun y hy => ⟨?_, by rw [List.length_set]; exact t.len, fun o' ho' => ?_⟩⟩
  · rw [hy, e2]
    have e3 : (modsD os).set k (modD (o.2.next u).s) = modsD (os.set k (o.1, o.2.next u)) := by unfold modsD; rw [List.map_set]
    rw [e3]
    exact Wd.push [] w1
  · rcases List.mem_or_eq_of_mem_set ho' with h1 | h1
    · exact ⟨(t.ok o' h1).1.mono (Nat.le_succ n), (t.ok o' h1).2⟩
    · subst h1
      have := t.ok o (List.mem_of_getElem? hk)
      exact ⟨this.1.next (hu.sim this.2), by rw [Hs.next_su]; exact this.2⟩
/-- one is put in another's place -/
theorem Trio.copy {C : Addr} {su : Su} {lp mp : Addr} {os : List (LA × Hs)} {n k : Nat} {M M' : Mp} {o o2 : LA × Hs} {g : LA} (t : Trio C su lp mp os n M) (hk : os[k]? = some o2) (ho : o ∈ os) (h : LiftAt C M' g.a g.p g.q g.e o.2.s)
    (f : M g.a = none ∧ M g.p = none ∧ M g.q = none ∧ M g.e = none) (kp : Keeps M M' []) :
    M' lp = some (.lst (liftsD os)) ∧ (upm M' lp (.lst ((liftsD os).set k (.ref g.a)))) mp = some (.lst (modsD os)) ∧
      Trio C su lp mp (os.set k (g, o.2)) n (upm (upm M' lp (.lst ((liftsD os).set k (.ref g.a)))) mp (.lst ((modsD os).set k (modD o.2.s)))) := by
  have w0 : Wd C M' (.lf ⟨g.a, g.p, g.q, g.e⟩ o.2.s :: .ls mp (modsD os) :: .ls lp (liftsD os) :: obs os) := t.w.copy h f.1 f.2.1 f.2.2.1 f.2.2.2 kp
  have hi : (Ob.ls mp (modsD os) :: Ob.ls lp (liftsD os) :: obs os)[k + 2]? = some (.lf o2.1 o2.2.s) := by
    show (obs os)[k]? = _
    exact mapAt hk
  have w1 : Wd C M' (.ls mp (modsD os) :: .ls lp (liftsD os) :: (obs os).set k (.lf g o.2.s)) := w0.replaceAt hi
  have e1 : (obs os).set k (.lf g o.2.s) = obs (os.set k (g, o.2)) := by unfold obs; rw [List.map_set]
  have e2 : (liftsD os).set k (.ref g.a) = liftsD (os.set k (g, o.2)) := by unfold liftsD; rw [List.map_set]
  have e3 : (modsD os).set k (modD o.2.s) = modsD (os.set k (g, o.2)) := by unfold modsD; rw [List.map_set]
  rw [e1] at w1
  have w2 : Wd C _ ([.ls mp (modsD os)] ++ .ls lp ((liftsD os).set k (.ref g.a)) :: obs (os.set k (g, o.2))) := Wd.push [.ls mp (modsD os)] w1
  refine ⟨w1.lst 1 rfl, w2.lst 0 rfl, ⟨?_, by rw [List.length_set]; exact t.len, fun o' ho' => ?_⟩⟩
  · rw [← e2, ← e3]
    exact Wd.push [] w2
  · rcases List.mem_or_eq_of_mem_set ho' with h1 | h1
    · exact t.ok o' h1
    · subst h1; exact t.ok o ho

theorem len_eqG {C : Addr} {ds : List D} {M : Mp} {Q : DK} {dx : DX} (h : S_eqG C ds M Q dx) : ds.length = 2 := by
  rcases h with ⟨_, _, _, _, _, _, _, _, _, _, rfl, _⟩ | ⟨_, _, _, _, _, _, rfl, _⟩ <;> rfl
def S_law85 : DSp := fun ds M Q _ => ∃ (scr : D) (l : List Int), ds = [scr] ∧ lv M scr = some (l.map D.int) ∧ ∀ M', Q (.bl true) M'
theorem law_S_law85 (x : D) (l : List Int) (M : Mp) (h : lv M x = some (l.map D.int)) (_ : l.length ≤ 63) : S_law85 [x] M (fun v _ => v = .bl true) fun _ _ => False := ⟨x, l, rfl, h, fun _ => rfl⟩
/-- the setup of the second lift -/
structure M1 (scr : D) (su : Su) (L : List Int) (M : Mp) (ρ : Rh) (M' : Mp) : Prop where
  ex : ∃ su2 : Su, su2.ok ∧ Sim su su2 ∧ ρ = [some scr, some su.d, some (.lst (L.map D.int)), some su2.d, none, none, none, none, none, none, none, none]
  mem : M' = M
structure M2 (scr : D) (su su2 : Su) (L : List Int) (M : Mp) (rp : Addr) (ρ : Rh) (M' : Mp) : Prop where
  ex : ∃ ra rb : List Rw, Rok ra ∧ Rok rb ∧ ρ = [some scr, some su.d, some (.lst (L.map D.int)), some su2.d, some (.ref rp), none, none, none, none, none, none, none] ∧ M' = upm M rp (.lst [rl ra, rl rb])
structure M3 (C : Addr) (scr : D) (su su2 : Su) (L : List Int) (rp lp mp : Addr) (l : List Int) (seen : List Int) (ρ : Rh) (M' : Mp) : Prop where
  ex : ∃ (os : List (LA × Hs)) (a b c d e : Option D), ρ = [some scr, some su.d, some (.lst (L.map D.int)), some su2.d, some (.ref rp), some (.ref lp), some (.ref mp), a, b, c, d, e] ∧ Trio C su lp mp os (3 * seen.length) M'
structure M4 (scr : D) (su su2 : Su) (L : List Int) (rp lp mp : Addr) (cell : Int) (L3 : List Int) (M : Mp) (ρ : Rh) (M' : Mp) : Prop where
  ex : ∃ (u : UU) (d e : Option D), u.ok su ∧ ρ = [some scr, some su.d, some (.lst (L.map D.int)), some su2.d, some (.ref rp), some (.ref lp), some (.ref mp), some (.int cell), some (.lst (L3.map D.int)), some u.d, d, e]
  mem : M' = M
structure M5 (C : Addr) (scr : D) (su su2 : Su) (L : List Int) (rp lp mp : Addr) (cell : Int) (L3 : List Int) (u : UU) (n : Nat) (seen : List Int) (ρ : Rh) (M' : Mp) : Prop where
  ex : ∃ (os : List (LA × Hs)) (d e : Option D), ρ = [some scr, some su.d, some (.lst (L.map D.int)), some su2.d, some (.ref rp), some (.ref lp), some (.ref mp), some (.int cell), some (.lst (L3.map D.int)), some u.d, d, e] ∧ Trio C su lp mp os (n + seen.length) M'
theorem x_do85 {C : Addr} {su : Su} {lp mp : Addr} {os : List (LA × Hs)} {n k : Nat} {M : Mp} {Q : DK} {dx : DX} {o : LA × Hs} {u : UU} (t : Trio C su lp mp os n M) (hn : n ≤ 4000) (hk : os[k]? = some o) (hu : u.ok su) (q : ∀ M', LiftAt C M' o.1.a o.1.p o.1.q o.1.e (o.2.next u).s → Keeps M M' [o.1.a, o.1.p, o.1.q, o.1.e] → Q (modD (o.2.next u).s) M') :
    S_do85 C [.ref o.1.a, modD o.2.s, u.d] M Q dx := by
  have hm := List.mem_of_getElem? hk
  have := t.ok o hm
  exact ⟨o.1.a, o.1.p, o.1.q, o.1.e, o.2, u, n, rfl, t.w.at' (.lf o.1 o.2.s) (List.mem_cons_of_mem _ (List.mem_cons_of_mem _ (List.mem_map.mpr ⟨o, hm, rfl⟩))), ⟨this.1, hn, hu.sim this.2⟩, q⟩
theorem b_law85 {C ds M Q dx} (h : S_law85 ds M Q dx) : d_law C S_setup S_draws S_cell S_lrule (S_init C) (S_copy C) S_new S_comers (S_do85 C) (S_right C) (endD Q) (startD ["script", "setup", "pick", "other", "rules", "lifts", "models", "cell", "draws", "step", "k", "n"] ds) M := by
  obtain ⟨scr, l, rfl, hs, hq⟩ := h
  show d_law C _ _ _ _ _ _ _ _ _ _ (endD Q) [some scr, none, none, none, none, none, none, none, none, none, none, none] M
  unfold d_law
  rw [xSeq, xSet]
  simp only [↓xNx, ↓xRt, ↓xBk, ↓xCt, ↓xEndNx, ↓xEndRt, ↓xNext, ↓xBreak, ↓xCont, ↓xDrop, ↓xRet, ↓xRetN, ↓xNever, ↓xIfS, ↓xPut0, ↓xPutS, ↓xSet, ↓xAug, ↓xAsg, ↓xUn2, ↓xUn1, ↓xPar, ↓xNm, ↓xNl, ↓xCn, ↓xSq, ↓xSqL, ↓xV0, ↓xVS, ↓xC, ↓xFrz, ↓xFrz1, ↓xOp, ↓xBl, ↓xB, ↓xChain, ↓xAnd, ↓xOr, ↓xNot, ↓xAndV, ↓xOrV, ↓xNotV, ↓xIf, ↓xNil, ↓xCons, ↓xTup, ↓xLst, ↓xLstO, ↓xOpt, ↓xAddI, ↓xAddT, ↓xAddL, ↓xSub, ↓xIAdd, ↓xFdiv, ↓xMod, ↓xPow, ↓xMul, ↓xLt, ↓xLe, ↓xGt, ↓xGe, ↓xEqI, ↓xNeI, ↓xEqB, ↓xNeB, ↓xIsBB, ↓xIsNN, ↓xIsTN, ↓xIsLN, ↓xIsIN, ↓xIsSN, ↓xIsRN, ↓xNoBB, ↓xNoNN, ↓xNoTN, ↓xNoLN, ↓xNoIN, ↓xNoSN, ↓xNoRN, ↓xInT, ↓xIx, ↓xIxT, ↓xIxL, ↓at0, ↓at1, ↓at2, ↓at3, ↓at4, ↓at5, ↓xSl, ↓xNo, ↓xInt, ↓xPart, ↓xCutT, ↓xCutL, ↓xCB, ↓xLenT, ↓xLenL, ↓xIntI, ↓xTupT, ↓xTupL, ↓xLstT, ↓xLstL, ↓xIsiT, ↓xIsiI, ↓xIsiB, ↓xIsiS, ↓xMax2, ↓xMin2, ↓xSum, ↓xAll, ↓xApp, ↓xFld, ↓xFldS, ↓xGFd, ↓xCall, ↓xMeth, ↓xProp, ↓xNeg, ↓xNegI, ↓suIx0, ↓suIx1, ↓suIx2, ↓suIx3, ↓rwIx0, ↓rwIx1, ↓rwIx2, ↓rwIx3, ↓rwIx4, ↓rwIx5, ↓rwNo, ↓ddG, ↓ddS, ↓ddP, ↓ddGo, ↓liN, ↓liNe, ↓xFldX, ↓xFldWX, ↓xAppAX, ↓xAppBX, ↓xPop, ↓xPopK, ↓xLast, ↓xMthX, ↓xPrpX, ↓insU, ↓insN, ↓lsU, ↓lsN, ↓lk0, ↓lk1, ↓lk2, ↓lk3, ↓lk4, ↓lk5, ↓lk6, if_true, if_false, Bool.false_eq_true, Bool.true_eq_false, reduceIte, Bool.not_true, Bool.not_false, decide_eq_true_eq, Bool.not_eq_true', decide_eq_false_iff_not, not_true_eq_false, not_false_eq_true, and_true, true_and, true_implies, List.length_cons, List.length_nil, Nat.zero_le, decide_true, decide_false, decide_not, fl_len, pt2, pt3, pt4, pt5, pt6, ↓x_cell hs (by decide : (0:Int) ≤ 0), ↓x_draws 12 (rfl : (12:Int) = (12:Nat)) (by decide), ↓x_setup]
  refine fun L0 hL0 => ⟨⟨Nat.le_of_eq hL0.len.symm, hL0.pos⟩, fun su hsu => ?_⟩
  rw [xSeq, xSet]
  simp only [↓xNx, ↓xRt, ↓xBk, ↓xCt, ↓xEndNx, ↓xEndRt, ↓xNext, ↓xBreak, ↓xCont, ↓xDrop, ↓xRet, ↓xRetN, ↓xNever, ↓xIfS, ↓xPut0, ↓xPutS, ↓xSet, ↓xAug, ↓xAsg, ↓xUn2, ↓xUn1, ↓xPar, ↓xNm, ↓xNl, ↓xCn, ↓xSq, ↓xSqL, ↓xV0, ↓xVS, ↓xC, ↓xFrz, ↓xFrz1, ↓xOp, ↓xBl, ↓xB, ↓xChain, ↓xAnd, ↓xOr, ↓xNot, ↓xAndV, ↓xOrV, ↓xNotV, ↓xIf, ↓xNil, ↓xCons, ↓xTup, ↓xLst, ↓xLstO, ↓xOpt, ↓xAddI, ↓xAddT, ↓xAddL, ↓xSub, ↓xIAdd, ↓xFdiv, ↓xMod, ↓xPow, ↓xMul, ↓xLt, ↓xLe, ↓xGt, ↓xGe, ↓xEqI, ↓xNeI, ↓xEqB, ↓xNeB, ↓xIsBB, ↓xIsNN, ↓xIsTN, ↓xIsLN, ↓xIsIN, ↓xIsSN, ↓xIsRN, ↓xNoBB, ↓xNoNN, ↓xNoTN, ↓xNoLN, ↓xNoIN, ↓xNoSN, ↓xNoRN, ↓xInT, ↓xIx, ↓xIxT, ↓xIxL, ↓at0, ↓at1, ↓at2, ↓at3, ↓at4, ↓at5, ↓xSl, ↓xNo, ↓xInt, ↓xPart, ↓xCutT, ↓xCutL, ↓xCB, ↓xLenT, ↓xLenL, ↓xIntI, ↓xTupT, ↓xTupL, ↓xLstT, ↓xLstL, ↓xIsiT, ↓xIsiI, ↓xIsiB, ↓xIsiS, ↓xMax2, ↓xMin2, ↓xSum, ↓xAll, ↓xApp, ↓xFld, ↓xFldS, ↓xGFd, ↓xCall, ↓xMeth, ↓xProp, ↓xNeg, ↓xNegI, ↓suIx0, ↓suIx1, ↓suIx2, ↓suIx3, ↓rwIx0, ↓rwIx1, ↓rwIx2, ↓rwIx3, ↓rwIx4, ↓rwIx5, ↓rwNo, ↓ddG, ↓ddS, ↓ddP, ↓ddGo, ↓liN, ↓liNe, ↓xFldX, ↓xFldWX, ↓xAppAX, ↓xAppBX, ↓xPop, ↓xPopK, ↓xLast, ↓xMthX, ↓xPrpX, ↓insU, ↓insN, ↓lsU, ↓lsN, ↓lk0, ↓lk1, ↓lk2, ↓lk3, ↓lk4, ↓lk5, ↓lk6, if_true, if_false, Bool.false_eq_true, Bool.true_eq_false, reduceIte, Bool.not_true, Bool.not_false, decide_eq_true_eq, Bool.not_eq_true', decide_eq_false_iff_not, not_true_eq_false, not_false_eq_true, and_true, true_and, true_implies, List.length_cons, List.length_nil, Nat.zero_le, decide_true, decide_false, decide_not, fl_len, pt2, pt3, pt4, pt5, pt6, ↓x_cell hs (by decide : (0:Int) ≤ 1), ↓x_draws 24 (rfl : (24:Int) = (24:Nat)) (by decide)]
  refine fun L hL => ?_
  have hLl := hL.len
  obtain ⟨x0, hx0, e0, _⟩ := nthI (L := L) (n := 0) (by omega)
  obtain ⟨x21, hx21, e21, _⟩ := nthI (L := L) (n := 21) (by omega)
  rw [xSeq, xSet]
  simp only [↓xNx, ↓xRt, ↓xBk, ↓xCt, ↓xEndNx, ↓xEndRt, ↓xNext, ↓xBreak, ↓xCont, ↓xDrop, ↓xRet, ↓xRetN, ↓xNever, ↓xIfS, ↓xPut0, ↓xPutS, ↓xSet, ↓xAug, ↓xAsg, ↓xUn2, ↓xUn1, ↓xPar, ↓xNm, ↓xNl, ↓xCn, ↓xSq, ↓xSqL, ↓xV0, ↓xVS, ↓xC, ↓xFrz, ↓xFrz1, ↓xOp, ↓xBl, ↓xB, ↓xChain, ↓xAnd, ↓xOr, ↓xNot, ↓xAndV, ↓xOrV, ↓xNotV, ↓xIf, ↓xNil, ↓xCons, ↓xTup, ↓xLst, ↓xLstO, ↓xOpt, ↓xAddI, ↓xAddT, ↓xAddL, ↓xSub, ↓xIAdd, ↓xFdiv, ↓xMod, ↓xPow, ↓xMul, ↓xLt, ↓xLe, ↓xGt, ↓xGe, ↓xEqI, ↓xNeI, ↓xEqB, ↓xNeB, ↓xIsBB, ↓xIsNN, ↓xIsTN, ↓xIsLN, ↓xIsIN, ↓xIsSN, ↓xIsRN, ↓xNoBB, ↓xNoNN, ↓xNoTN, ↓xNoLN, ↓xNoIN, ↓xNoSN, ↓xNoRN, ↓xInT, ↓xIx, ↓xIxT, ↓xIxL, ↓at0, ↓at1, ↓at2, ↓at3, ↓at4, ↓at5, ↓xSl, ↓xNo, ↓xInt, ↓xPart, ↓xCutT, ↓xCutL, ↓xCB, ↓xLenT, ↓xLenL, ↓xIntI, ↓xTupT, ↓xTupL, ↓xLstT, ↓xLstL, ↓xIsiT, ↓xIsiI, ↓xIsiB, ↓xIsiS, ↓xMax2, ↓xMin2, ↓xSum, ↓xAll, ↓xApp, ↓xFld, ↓xFldS, ↓xGFd, ↓xCall, ↓xMeth, ↓xProp, ↓xNeg, ↓xNegI, ↓suIx0, ↓suIx1, ↓suIx2, ↓suIx3, ↓rwIx0, ↓rwIx1, ↓rwIx2, ↓rwIx3, ↓rwIx4, ↓rwIx5, ↓rwNo, ↓ddG, ↓ddS, ↓ddP, ↓ddGo, ↓liN, ↓liNe, ↓xFldX, ↓xFldWX, ↓xAppAX, ↓xAppBX, ↓xPop, ↓xPopK, ↓xLast, ↓xMthX, ↓xPrpX, ↓insU, ↓insN, ↓lsU, ↓lsN, ↓lk0, ↓lk1, ↓lk2, ↓lk3, ↓lk4, ↓lk5, ↓lk6, if_true, if_false, Bool.false_eq_true, Bool.true_eq_false, reduceIte, Bool.not_true, Bool.not_false, decide_eq_true_eq, Bool.not_eq_true', decide_eq_false_iff_not, not_true_eq_false, not_false_eq_true, and_true, true_and, true_implies, List.length_cons, List.length_nil, Nat.zero_le, decide_true, decide_false, decide_not, fl_len, pt2, pt3, pt4, pt5, pt6]
  rw [xSeq]
  refine cut_nx (M1 scr su L M) (fun K hK => ?_) (fun ρ M' ⟨⟨su2, hsu2, hsim, hρ⟩, hM⟩ => ?_)
  · simp only [↓xSeq, ↓xNx, ↓xRt, ↓xBk, ↓xCt, ↓xEndNx, ↓xEndRt, ↓xNext, ↓xBreak, ↓xCont, ↓xDrop, ↓xRet, ↓xRetN, ↓xNever, ↓xIfS, ↓xPut0, ↓xPutS, ↓xSet, ↓xAug, ↓xAsg, ↓xUn2, ↓xUn1, ↓xPar, ↓xNm, ↓xNl, ↓xCn, ↓xSq, ↓xSqL, ↓xV0, ↓xVS, ↓xC, ↓xFrz, ↓xFrz1, ↓xOp, ↓xBl, ↓xB, ↓xChain, ↓xAnd, ↓xOr, ↓xNot, ↓xAndV, ↓xOrV, ↓xNotV, ↓xIf, ↓xNil, ↓xCons, ↓xTup, ↓xLst, ↓xLstO, ↓xOpt, ↓xAddI, ↓xAddT, ↓xAddL, ↓xSub, ↓xIAdd, ↓xFdiv, ↓xMod, ↓xPow, ↓xMul, ↓xLt, ↓xLe, ↓xGt, ↓xGe, ↓xEqI, ↓xNeI, ↓xEqB, ↓xNeB, ↓xIsBB, ↓xIsNN, ↓xIsTN, ↓xIsLN, ↓xIsIN, ↓xIsSN, ↓xIsRN, ↓xNoBB, ↓xNoNN, ↓xNoTN, ↓xNoLN, ↓xNoIN, ↓xNoSN, ↓xNoRN, ↓xInT, ↓xIx, ↓xIxT, ↓xIxL, ↓at0, ↓at1, ↓at2, ↓at3, ↓at4, ↓at5, ↓xSl, ↓xNo, ↓xInt, ↓xPart, ↓xCutT, ↓xCutL, ↓xCB, ↓xLenT, ↓xLenL, ↓xIntI, ↓xTupT, ↓xTupL, ↓xLstT, ↓xLstL, ↓xIsiT, ↓xIsiI, ↓xIsiB, ↓xIsiS, ↓xMax2, ↓xMin2, ↓xSum, ↓xAll, ↓xApp, ↓xFld, ↓xFldS, ↓xGFd, ↓xCall, ↓xMeth, ↓xProp, ↓xNeg, ↓xNegI, ↓suIx0, ↓suIx1, ↓suIx2, ↓suIx3, ↓rwIx0, ↓rwIx1, ↓rwIx2, ↓rwIx3, ↓rwIx4, ↓rwIx5, ↓rwNo, ↓ddG, ↓ddS, ↓ddP, ↓ddGo, ↓liN, ↓liNe, ↓xFldX, ↓xFldWX, ↓xAppAX, ↓xAppBX, ↓xPop, ↓xPopK, ↓xLast, ↓xMthX, ↓xPrpX, ↓insU, ↓insN, ↓lsU, ↓lsN, ↓lk0, ↓lk1, ↓lk2, ↓lk3, ↓lk4, ↓lk5, ↓lk6, if_true, if_false, Bool.false_eq_true, Bool.true_eq_false, reduceIte, Bool.not_true, Bool.not_false, decide_eq_true_eq, Bool.not_eq_true', decide_eq_false_iff_not, not_true_eq_false, not_false_eq_true, and_true, true_and, true_implies, List.length_cons, List.length_nil, Nat.zero_le, decide_true, decide_false, decide_not, fl_len, pt2, pt3, pt4, pt5, pt6, ↓atNat (show (0 : Int) = (0 : Nat) from rfl) e0, le2, Nat.reduceAdd, show (4 ≤ sizeLine) from by decide]
    refine ⟨by decide, ?_⟩
    split
    · refine ⟨by decide, hK _ _ ⟨⟨{ su with r0 := 1 + su.r0 % 3 }, ?_, ⟨rfl, rfl, rfl⟩, rfl⟩, rfl⟩⟩
      have := @mod_lt su.r0 3 (by decide)
      exact ⟨hsu.a1, hsu.a2, hsu.a3, hsu.b1, hsu.b2, hsu.b3, hsu.b4, by show 1 ≤ 1 + su.r0 % 3; omega, by show 1 + su.r0 % 3 ≤ 3; omega, hsu.r3, hsu.r4, hsu.c1, hsu.c2, hsu.c3, hsu.c4⟩
    · exact hK _ _ ⟨⟨su, hsu, ⟨rfl, rfl, rfl⟩, rfl⟩, rfl⟩
  · subst hρ hM
    have hcut : (20 ≤ (cutI L 1 21).length ∧ ∀ d ∈ cutI L 1 21, 0 ≤ d) := ⟨by rw [cutI_len]; omega, fun d hd => hL.pos d (cutI_mem hd)⟩
    rw [xSeq, xSet]
    simp only [↓xNx, ↓xRt, ↓xBk, ↓xCt, ↓xEndNx, ↓xEndRt, ↓xNext, ↓xBreak, ↓xCont, ↓xDrop, ↓xRet, ↓xRetN, ↓xNever, ↓xIfS, ↓xPut0, ↓xPutS, ↓xSet, ↓xAug, ↓xAsg, ↓xUn2, ↓xUn1, ↓xPar, ↓xNm, ↓xNl, ↓xCn, ↓xSq, ↓xSqL, ↓xV0, ↓xVS, ↓xC, ↓xFrz, ↓xFrz1, ↓xOp, ↓xBl, ↓xB, ↓xChain, ↓xAnd, ↓xOr, ↓xNot, ↓xAndV, ↓xOrV, ↓xNotV, ↓xIf, ↓xNil, ↓xCons, ↓xTup, ↓xLst, ↓xLstO, ↓xOpt, ↓xAddI, ↓xAddT, ↓xAddL, ↓xSub, ↓xIAdd, ↓xFdiv, ↓xMod, ↓xPow, ↓xMul, ↓xLt, ↓xLe, ↓xGt, ↓xGe, ↓xEqI, ↓xNeI, ↓xEqB, ↓xNeB, ↓xIsBB, ↓xIsNN, ↓xIsTN, ↓xIsLN, ↓xIsIN, ↓xIsSN, ↓xIsRN, ↓xNoBB, ↓xNoNN, ↓xNoTN, ↓xNoLN, ↓xNoIN, ↓xNoSN, ↓xNoRN, ↓xInT, ↓xIx, ↓xIxT, ↓xIxL, ↓at0, ↓at1, ↓at2, ↓at3, ↓at4, ↓at5, ↓xSl, ↓xNo, ↓xInt, ↓xPart, ↓xCutT, ↓xCutL, ↓xCB, ↓xLenT, ↓xLenL, ↓xIntI, ↓xTupT, ↓xTupL, ↓xLstT, ↓xLstL, ↓xIsiT, ↓xIsiI, ↓xIsiB, ↓xIsiS, ↓xMax2, ↓xMin2, ↓xSum, ↓xAll, ↓xApp, ↓xFld, ↓xFldS, ↓xGFd, ↓xCall, ↓xMeth, ↓xProp, ↓xNeg, ↓xNegI, ↓suIx0, ↓suIx1, ↓suIx2, ↓suIx3, ↓rwIx0, ↓rwIx1, ↓rwIx2, ↓rwIx3, ↓rwIx4, ↓rwIx5, ↓rwNo, ↓ddG, ↓ddS, ↓ddP, ↓ddGo, ↓liN, ↓liNe, ↓xFldX, ↓xFldWX, ↓xAppAX, ↓xAppBX, ↓xPop, ↓xPopK, ↓xLast, ↓xMthX, ↓xPrpX, ↓insU, ↓insN, ↓lsU, ↓lsN, ↓lk0, ↓lk1, ↓lk2, ↓lk3, ↓lk4, ↓lk5, ↓lk6, if_true, if_false, Bool.false_eq_true, Bool.true_eq_false, reduceIte, Bool.not_true, Bool.not_false, decide_eq_true_eq, Bool.not_eq_true', decide_eq_false_iff_not, not_true_eq_false, not_false_eq_true, and_true, true_and, true_implies, List.length_cons, List.length_nil, Nat.zero_le, decide_true, decide_false, decide_not, fl_len, pt2, pt3, pt4, pt5, pt6, ↓cutD_ints (L := L) (i := 1) (j := 21) (a := 1) (b := 21) rfl rfl, ↓x_lrule, hcut, le2]
    refine ⟨hcut.2, fun ra hra _ => ⟨hcut.2, fun rb hrb _ rp hrp => ?_⟩⟩
    rw [xSeq]
    refine cut_nx (M2 scr su su2 L M' rp) (fun K hK => ?_) (fun ρ M2 ⟨ra, rb, hra, hrb, hρ, hM⟩ => ?_)
    · simp only [↓xSeq, ↓xNx, ↓xRt, ↓xBk, ↓xCt, ↓xEndNx, ↓xEndRt, ↓xNext, ↓xBreak, ↓xCont, ↓xDrop, ↓xRet, ↓xRetN, ↓xNever, ↓xIfS, ↓xPut0, ↓xPutS, ↓xSet, ↓xAug, ↓xAsg, ↓xUn2, ↓xUn1, ↓xPar, ↓xNm, ↓xNl, ↓xCn, ↓xSq, ↓xSqL, ↓xV0, ↓xVS, ↓xC, ↓xFrz, ↓xFrz1, ↓xOp, ↓xBl, ↓xB, ↓xChain, ↓xAnd, ↓xOr, ↓xNot, ↓xAndV, ↓xOrV, ↓xNotV, ↓xIf, ↓xNil, ↓xCons, ↓xTup, ↓xLst, ↓xLstO, ↓xOpt, ↓xAddI, ↓xAddT, ↓xAddL, ↓xSub, ↓xIAdd, ↓xFdiv, ↓xMod, ↓xPow, ↓xMul, ↓xLt, ↓xLe, ↓xGt, ↓xGe, ↓xEqI, ↓xNeI, ↓xEqB, ↓xNeB, ↓xIsBB, ↓xIsNN, ↓xIsTN, ↓xIsLN, ↓xIsIN, ↓xIsSN, ↓xIsRN, ↓xNoBB, ↓xNoNN, ↓xNoTN, ↓xNoLN, ↓xNoIN, ↓xNoSN, ↓xNoRN, ↓xInT, ↓xIx, ↓xIxT, ↓xIxL, ↓at0, ↓at1, ↓at2, ↓at3, ↓at4, ↓at5, ↓xSl, ↓xNo, ↓xInt, ↓xPart, ↓xCutT, ↓xCutL, ↓xCB, ↓xLenT, ↓xLenL, ↓xIntI, ↓xTupT, ↓xTupL, ↓xLstT, ↓xLstL, ↓xIsiT, ↓xIsiI, ↓xIsiB, ↓xIsiS, ↓xMax2, ↓xMin2, ↓xSum, ↓xAll, ↓xApp, ↓xFld, ↓xFldS, ↓xGFd, ↓xCall, ↓xMeth, ↓xProp, ↓xNeg, ↓xNegI, ↓suIx0, ↓suIx1, ↓suIx2, ↓suIx3, ↓rwIx0, ↓rwIx1, ↓rwIx2, ↓rwIx3, ↓rwIx4, ↓rwIx5, ↓rwNo, ↓ddG, ↓ddS, ↓ddP, ↓ddGo, ↓liN, ↓liNe, ↓xFldX, ↓xFldWX, ↓xAppAX, ↓xAppBX, ↓xPop, ↓xPopK, ↓xLast, ↓xMthX, ↓xPrpX, ↓insU, ↓insN, ↓lsU, ↓lsN, ↓lk0, ↓lk1, ↓lk2, ↓lk3, ↓lk4, ↓lk5, ↓lk6, if_true, if_false, Bool.false_eq_true, Bool.true_eq_false, reduceIte, Bool.not_true, Bool.not_false, decide_eq_true_eq, Bool.not_eq_true', decide_eq_false_iff_not, not_true_eq_false, not_false_eq_true, and_true, true_and, true_implies, List.length_cons, List.length_nil, Nat.zero_le, decide_true, decide_false, decide_not, fl_len, pt2, pt3, pt4, pt5, pt6, ↓atNat (show (21 : Int) = (21 : Nat) from rfl) e21, ↓x_cell (lv_keep (Keeps.refl.up (.inr hrp)) hs) (by decide : (0:Int) ≤ 2), ↓x_draws 20 (rfl : (20:Int) = (20:Nat)) (by decide), ↓x_lrule, ↓xGIx, ↓gix1]
      refine ⟨by decide, ?_⟩
      split
      · exact fun L3 hL3 => ⟨⟨Nat.le_of_eq hL3.len.symm, hL3.pos⟩, fun rc hrc _ => hK _ _ ⟨ra, rc, hra, hrc, rfl, rfl⟩⟩
      · exact hK _ _ ⟨ra, rb, hra, hrb, rfl, rfl⟩
    · subst hρ hM
      have hs2 := lv_keep (Keeps.refl.up (.inr hrp) : Keeps M' (upm M' rp (.lst [rl ra, rl rb])) []) hs
      have w0 : Wd C (upm M' rp (.lst [rl ra, rl rb])) [.ls rp [rl ra, rl rb]] := Wd.nil.list hrp
      generalize upm M' rp (.lst [rl ra, rl rb]) = M0 at w0 hs2 ⊢
      rw [xSeq, xSet, xLstO, xCons, xMake]
      simp only [↓xNx, ↓xRt, ↓xBk, ↓xCt, ↓xEndNx, ↓xEndRt, ↓xNext, ↓xBreak, ↓xCont, ↓xDrop, ↓xRet, ↓xRetN, ↓xNever, ↓xIfS, ↓xPut0, ↓xPutS, ↓xSet, ↓xAug, ↓xAsg, ↓xUn2, ↓xUn1, ↓xPar, ↓xNm, ↓xNl, ↓xCn, ↓xSq, ↓xSqL, ↓xV0, ↓xVS, ↓xC, ↓xFrz, ↓xFrz1, ↓xOp, ↓xBl, ↓xB, ↓xChain, ↓xAnd, ↓xOr, ↓xNot, ↓xAndV, ↓xOrV, ↓xNotV, ↓xIf, ↓xNil, ↓xCons, ↓xTup, ↓xLst, ↓xLstO, ↓xOpt, ↓xAddI, ↓xAddT, ↓xAddL, ↓xSub, ↓xIAdd, ↓xFdiv, ↓xMod, ↓xPow, ↓xMul, ↓xLt, ↓xLe, ↓xGt, ↓xGe, ↓xEqI, ↓xNeI, ↓xEqB, ↓xNeB, ↓xIsBB, ↓xIsNN, ↓xIsTN, ↓xIsLN, ↓xIsIN, ↓xIsSN, ↓xIsRN, ↓xNoBB, ↓xNoNN, ↓xNoTN, ↓xNoLN, ↓xNoIN, ↓xNoSN, ↓xNoRN, ↓xInT, ↓xIx, ↓xIxT, ↓xIxL, ↓at0, ↓at1, ↓at2, ↓at3, ↓at4, ↓at5, ↓xSl, ↓xNo, ↓xInt, ↓xPart, ↓xCutT, ↓xCutL, ↓xCB, ↓xLenT, ↓xLenL, ↓xIntI, ↓xTupT, ↓xTupL, ↓xLstT, ↓xLstL, ↓xIsiT, ↓xIsiI, ↓xIsiB, ↓xIsiS, ↓xMax2, ↓xMin2, ↓xSum, ↓xAll, ↓xApp, ↓xFld, ↓xFldS, ↓xGFd, ↓xCall, ↓xMeth, ↓xProp, ↓xNeg, ↓xNegI, ↓suIx0, ↓suIx1, ↓suIx2, ↓suIx3, ↓rwIx0, ↓rwIx1, ↓rwIx2, ↓rwIx3, ↓rwIx4, ↓rwIx5, ↓rwNo, ↓ddG, ↓ddS, ↓ddP, ↓ddGo, ↓liN, ↓liNe, ↓xFldX, ↓xFldWX, ↓xAppAX, ↓xAppBX, ↓xPop, ↓xPopK, ↓xLast, ↓xMthX, ↓xPrpX, ↓insU, ↓insN, ↓lsU, ↓lsN, ↓lk0, ↓lk1, ↓lk2, ↓lk3, ↓lk4, ↓lk5, ↓lk6, if_true, if_false, Bool.false_eq_true, Bool.true_eq_false, reduceIte, Bool.not_true, Bool.not_false, decide_eq_true_eq, Bool.not_eq_true', decide_eq_false_iff_not, not_true_eq_false, not_false_eq_true, and_true, true_and, true_implies, List.length_cons, List.length_nil, Nat.zero_le, decide_true, decide_false, decide_not, fl_len, pt2, pt3, pt4, pt5, pt6, ↓ixLs (w0.lst 0 rfl)]
      refine fun a ha => ⟨a, su, ra, rfl, ⟨hsu, hra⟩, upm_same, fun p q e M1 g gp gq ge kp => ⟨rfl, ?_⟩⟩
      have w1 := w0.made ha g gp gq ge kp
      have hs3 := lv_keep (keeps_made ha kp) hs2
      clear g gp gq ge kp ha w0 hs2
      rw [xMake]
      simp only [↓xNx, ↓xRt, ↓xBk, ↓xCt, ↓xEndNx, ↓xEndRt, ↓xNext, ↓xBreak, ↓xCont, ↓xDrop, ↓xRet, ↓xRetN, ↓xNever, ↓xIfS, ↓xPut0, ↓xPutS, ↓xSet, ↓xAug, ↓xAsg, ↓xUn2, ↓xUn1, ↓xPar, ↓xNm, ↓xNl, ↓xCn, ↓xSq, ↓xSqL, ↓xV0, ↓xVS, ↓xC, ↓xFrz, ↓xFrz1, ↓xOp, ↓xBl, ↓xB, ↓xChain, ↓xAnd, ↓xOr, ↓xNot, ↓xAndV, ↓xOrV, ↓xNotV, ↓xIf, ↓xNil, ↓xCons, ↓xTup, ↓xLst, ↓xLstO, ↓xOpt, ↓xAddI, ↓xAddT, ↓xAddL, ↓xSub, ↓xIAdd, ↓xFdiv, ↓xMod, ↓xPow, ↓xMul, ↓xLt, ↓xLe, ↓xGt, ↓xGe, ↓xEqI, ↓xNeI, ↓xEqB, ↓xNeB, ↓xIsBB, ↓xIsNN, ↓xIsTN, ↓xIsLN, ↓xIsIN, ↓xIsSN, ↓xIsRN, ↓xNoBB, ↓xNoNN, ↓xNoTN, ↓xNoLN, ↓xNoIN, ↓xNoSN, ↓xNoRN, ↓xInT, ↓xIx, ↓xIxT, ↓xIxL, ↓at0, ↓at1, ↓at2, ↓at3, ↓at4, ↓at5, ↓xSl, ↓xNo, ↓xInt, ↓xPart, ↓xCutT, ↓xCutL, ↓xCB, ↓xLenT, ↓xLenL, ↓xIntI, ↓xTupT, ↓xTupL, ↓xLstT, ↓xLstL, ↓xIsiT, ↓xIsiI, ↓xIsiB, ↓xIsiS, ↓xMax2, ↓xMin2, ↓xSum, ↓xAll, ↓xApp, ↓xFld, ↓xFldS, ↓xGFd, ↓xCall, ↓xMeth, ↓xProp, ↓xNeg, ↓xNegI, ↓suIx0, ↓suIx1, ↓suIx2, ↓suIx3, ↓rwIx0, ↓rwIx1, ↓rwIx2, ↓rwIx3, ↓rwIx4, ↓rwIx5, ↓rwNo, ↓ddG, ↓ddS, ↓ddP, ↓ddGo, ↓liN, ↓liNe, ↓xFldX, ↓xFldWX, ↓xAppAX, ↓xAppBX, ↓xPop, ↓xPopK, ↓xLast, ↓xMthX, ↓xPrpX, ↓insU, ↓insN, ↓lsU, ↓lsN, ↓lk0, ↓lk1, ↓lk2, ↓lk3, ↓lk4, ↓lk5, ↓lk6, if_true, if_false, Bool.false_eq_true, Bool.true_eq_false, reduceIte, Bool.not_true, Bool.not_false, decide_eq_true_eq, Bool.not_eq_true', decide_eq_false_iff_not, not_true_eq_false, not_false_eq_true, and_true, true_and, true_implies, List.length_cons, List.length_nil, Nat.zero_le, decide_true, decide_false, decide_not, fl_len, pt2, pt3, pt4, pt5, pt6, ↓ixLs (w1.lst 1 rfl)]
      refine fun a2 ha => ⟨a2, su2, rb, rfl, ⟨hsu2, hrb⟩, upm_same, fun p2 q2 e2 M2 g gp gq ge kp => ⟨rfl, ?_⟩⟩
      have w2 := w1.made ha g gp gq ge kp
      have hs4 := lv_keep (keeps_made ha kp) hs3
      clear g gp gq ge kp ha w1 hs3
      rw [xMake]
      simp only [↓xNx, ↓xRt, ↓xBk, ↓xCt, ↓xEndNx, ↓xEndRt, ↓xNext, ↓xBreak, ↓xCont, ↓xDrop, ↓xRet, ↓xRetN, ↓xNever, ↓xIfS, ↓xPut0, ↓xPutS, ↓xSet, ↓xAug, ↓xAsg, ↓xUn2, ↓xUn1, ↓xPar, ↓xNm, ↓xNl, ↓xCn, ↓xSq, ↓xSqL, ↓xV0, ↓xVS, ↓xC, ↓xFrz, ↓xFrz1, ↓xOp, ↓xBl, ↓xB, ↓xChain, ↓xAnd, ↓xOr, ↓xNot, ↓xAndV, ↓xOrV, ↓xNotV, ↓xIf, ↓xNil, ↓xCons, ↓xTup, ↓xLst, ↓xLstO, ↓xOpt, ↓xAddI, ↓xAddT, ↓xAddL, ↓xSub, ↓xIAdd, ↓xFdiv, ↓xMod, ↓xPow, ↓xMul, ↓xLt, ↓xLe, ↓xGt, ↓xGe, ↓xEqI, ↓xNeI, ↓xEqB, ↓xNeB, ↓xIsBB, ↓xIsNN, ↓xIsTN, ↓xIsLN, ↓xIsIN, ↓xIsSN, ↓xIsRN, ↓xNoBB, ↓xNoNN, ↓xNoTN, ↓xNoLN, ↓xNoIN, ↓xNoSN, ↓xNoRN, ↓xInT, ↓xIx, ↓xIxT, ↓xIxL, ↓at0, ↓at1, ↓at2, ↓at3, ↓at4, ↓at5, ↓xSl, ↓xNo, ↓xInt, ↓xPart, ↓xCutT, ↓xCutL, ↓xCB, ↓xLenT, ↓xLenL, ↓xIntI, ↓xTupT, ↓xTupL, ↓xLstT, ↓xLstL, ↓xIsiT, ↓xIsiI, ↓xIsiB, ↓xIsiS, ↓xMax2, ↓xMin2, ↓xSum, ↓xAll, ↓xApp, ↓xFld, ↓xFldS, ↓xGFd, ↓xCall, ↓xMeth, ↓xProp, ↓xNeg, ↓xNegI, ↓suIx0, ↓suIx1, ↓suIx2, ↓suIx3, ↓rwIx0, ↓rwIx1, ↓rwIx2, ↓rwIx3, ↓rwIx4, ↓rwIx5, ↓rwNo, ↓ddG, ↓ddS, ↓ddP, ↓ddGo, ↓liN, ↓liNe, ↓xFldX, ↓xFldWX, ↓xAppAX, ↓xAppBX, ↓xPop, ↓xPopK, ↓xLast, ↓xMthX, ↓xPrpX, ↓insU, ↓insN, ↓lsU, ↓lsN, ↓lk0, ↓lk1, ↓lk2, ↓lk3, ↓lk4, ↓lk5, ↓lk6, if_true, if_false, Bool.false_eq_true, Bool.true_eq_false, reduceIte, Bool.not_true, Bool.not_false, decide_eq_true_eq, Bool.not_eq_true', decide_eq_false_iff_not, not_true_eq_false, not_false_eq_true, and_true, true_and, true_implies, List.length_cons, List.length_nil, Nat.zero_le, decide_true, decide_false, decide_not, fl_len, pt2, pt3, pt4, pt5, pt6, ↓ixLs (w2.lst 2 rfl)]
      refine fun a3 ha => ⟨a3, su, ra, rfl, ⟨hsu, hra⟩, upm_same, fun p3 q3 e3 M3 g gp gq ge kp => ⟨rfl, ?_⟩⟩
      have w3 := w2.made ha g gp gq ge kp
      have hs5 := lv_keep (keeps_made ha kp) hs4
      clear gp gq ge kp ha w2 hs4
      have o0 : (⟨su, ra, []⟩ : Hs).ok 0 := ⟨hsu, hra, fun _ h => absurd h List.not_mem_nil, Nat.le_refl _⟩
      have o1 : (⟨su2, rb, []⟩ : Hs).ok 0 := ⟨hsu2, hrb, fun _ h => absurd h List.not_mem_nil, Nat.le_refl _⟩
      simp only [↓xNx, ↓xRt, ↓xBk, ↓xCt, ↓xEndNx, ↓xEndRt, ↓xNext, ↓xBreak, ↓xCont, ↓xDrop, ↓xRet, ↓xRetN, ↓xNever, ↓xIfS, ↓xPut0, ↓xPutS, ↓xSet, ↓xAug, ↓xAsg, ↓xUn2, ↓xUn1, ↓xPar, ↓xNm, ↓xNl, ↓xCn, ↓xSq, ↓xSqL, ↓xV0, ↓xVS, ↓xC, ↓xFrz, ↓xFrz1, ↓xOp, ↓xBl, ↓xB, ↓xChain, ↓xAnd, ↓xOr, ↓xNot, ↓xAndV, ↓xOrV, ↓xNotV, ↓xIf, ↓xNil, ↓xCons, ↓xTup, ↓xLst, ↓xLstO, ↓xOpt, ↓xAddI, ↓xAddT, ↓xAddL, ↓xSub, ↓xIAdd, ↓xFdiv, ↓xMod, ↓xPow, ↓xMul, ↓xLt, ↓xLe, ↓xGt, ↓xGe, ↓xEqI, ↓xNeI, ↓xEqB, ↓xNeB, ↓xIsBB, ↓xIsNN, ↓xIsTN, ↓xIsLN, ↓xIsIN, ↓xIsSN, ↓xIsRN, ↓xNoBB, ↓xNoNN, ↓xNoTN, ↓xNoLN, ↓xNoIN, ↓xNoSN, ↓xNoRN, ↓xInT, ↓xIx, ↓xIxT, ↓xIxL, ↓at0, ↓at1, ↓at2, ↓at3, ↓at4, ↓at5, ↓xSl, ↓xNo, ↓xInt, ↓xPart, ↓xCutT, ↓xCutL, ↓xCB, ↓xLenT, ↓xLenL, ↓xIntI, ↓xTupT, ↓xTupL, ↓xLstT, ↓xLstL, ↓xIsiT, ↓xIsiI, ↓xIsiB, ↓xIsiS, ↓xMax2, ↓xMin2, ↓xSum, ↓xAll, ↓xApp, ↓xFld, ↓xFldS, ↓xGFd, ↓xCall, ↓xMeth, ↓xProp, ↓xNeg, ↓xNegI, ↓suIx0, ↓suIx1, ↓suIx2, ↓suIx3, ↓rwIx0, ↓rwIx1, ↓rwIx2, ↓rwIx3, ↓rwIx4, ↓rwIx5, ↓rwNo, ↓ddG, ↓ddS, ↓ddP, ↓ddGo, ↓liN, ↓liNe, ↓xFldX, ↓xFldWX, ↓xAppAX, ↓xAppBX, ↓xPop, ↓xPopK, ↓xLast, ↓xMthX, ↓xPrpX, ↓insU, ↓insN, ↓lsU, ↓lsN, ↓lk0, ↓lk1, ↓lk2, ↓lk3, ↓lk4, ↓lk5, ↓lk6, if_true, if_false, Bool.false_eq_true, Bool.true_eq_false, reduceIte, Bool.not_true, Bool.not_false, decide_eq_true_eq, Bool.not_eq_true', decide_eq_false_iff_not, not_true_eq_false, not_false_eq_true, and_true, true_and, true_implies, List.length_cons, List.length_nil, Nat.zero_le, decide_true, decide_false, decide_not, fl_len, pt2, pt3, pt4, pt5, pt6, ↓ins_at g.ins, lkm]
      refine ⟨a3, p3, q3, e3, (⟨su, ra, []⟩ : Hs).s, rfl, g, o0.lsok (by decide), fun a4 p4 q4 e4 M4 g4 ga gp gq ge kp => ?_⟩
      have w4 := (w3.copy g4 ga gp gq ge kp).drop [_]
      have hs6 := lv_keep kp hs5
      clear g g4 ga gp gq ge kp w3 hs5
      simp only [↓xNx, ↓xRt, ↓xBk, ↓xCt, ↓xEndNx, ↓xEndRt, ↓xNext, ↓xBreak, ↓xCont, ↓xDrop, ↓xRet, ↓xRetN, ↓xNever, ↓xIfS, ↓xPut0, ↓xPutS, ↓xSet, ↓xAug, ↓xAsg, ↓xUn2, ↓xUn1, ↓xPar, ↓xNm, ↓xNl, ↓xCn, ↓xSq, ↓xSqL, ↓xV0, ↓xVS, ↓xC, ↓xFrz, ↓xFrz1, ↓xOp, ↓xBl, ↓xB, ↓xChain, ↓xAnd, ↓xOr, ↓xNot, ↓xAndV, ↓xOrV, ↓xNotV, ↓xIf, ↓xNil, ↓xCons, ↓xTup, ↓xLst, ↓xLstO, ↓xOpt, ↓xAddI, ↓xAddT, ↓xAddL, ↓xSub, ↓xIAdd, ↓xFdiv, ↓xMod, ↓xPow, ↓xMul, ↓xLt, ↓xLe, ↓xGt, ↓xGe, ↓xEqI, ↓xNeI, ↓xEqB, ↓xNeB, ↓xIsBB, ↓xIsNN, ↓xIsTN, ↓xIsLN, ↓xIsIN, ↓xIsSN, ↓xIsRN, ↓xNoBB, ↓xNoNN, ↓xNoTN, ↓xNoLN, ↓xNoIN, ↓xNoSN, ↓xNoRN, ↓xInT, ↓xIx, ↓xIxT, ↓xIxL, ↓at0, ↓at1, ↓at2, ↓at3, ↓at4, ↓at5, ↓xSl, ↓xNo, ↓xInt, ↓xPart, ↓xCutT, ↓xCutL, ↓xCB, ↓xLenT, ↓xLenL, ↓xIntI, ↓xTupT, ↓xTupL, ↓xLstT, ↓xLstL, ↓xIsiT, ↓xIsiI, ↓xIsiB, ↓xIsiS, ↓xMax2, ↓xMin2, ↓xSum, ↓xAll, ↓xApp, ↓xFld, ↓xFldS, ↓xGFd, ↓xCall, ↓xMeth, ↓xProp, ↓xNeg, ↓xNegI, ↓suIx0, ↓suIx1, ↓suIx2, ↓suIx3, ↓rwIx0, ↓rwIx1, ↓rwIx2, ↓rwIx3, ↓rwIx4, ↓rwIx5, ↓rwNo, ↓ddG, ↓ddS, ↓ddP, ↓ddGo, ↓liN, ↓liNe, ↓xFldX, ↓xFldWX, ↓xAppAX, ↓xAppBX, ↓xPop, ↓xPopK, ↓xLast, ↓xMthX, ↓xPrpX, ↓insU, ↓insN, ↓lsU, ↓lsN, ↓lk0, ↓lk1, ↓lk2, ↓lk3, ↓lk4, ↓lk5, ↓lk6, if_true, if_false, Bool.false_eq_true, Bool.true_eq_false, reduceIte, Bool.not_true, Bool.not_false, decide_eq_true_eq, Bool.not_eq_true', decide_eq_false_iff_not, not_true_eq_false, not_false_eq_true, and_true, true_and, true_implies, List.length_cons, List.length_nil, Nat.zero_le, decide_true, decide_false, decide_not, fl_len, pt2, pt3, pt4, pt5, pt6, le3, show (0 + 1 + 1 + 1 ≤ sizeLine) from leT]
      refine fun lp hlp => ?_
      have w5 := w4.list (xs := [.ref a, .ref a2, .ref a4]) hlp
      have hs7 := lv_keep (Keeps.refl.up (.inr hlp) : Keeps M4 (upm M4 lp (.lst [.ref a, .ref a2, .ref a4])) []) hs6
      generalize upm M4 lp (.lst [.ref a, .ref a2, .ref a4]) = M5 at w5 hs7 ⊢
      rw [xSeq, xSet]
      simp only [↓xNx, ↓xRt, ↓xBk, ↓xCt, ↓xEndNx, ↓xEndRt, ↓xNext, ↓xBreak, ↓xCont, ↓xDrop, ↓xRet, ↓xRetN, ↓xNever, ↓xIfS, ↓xPut0, ↓xPutS, ↓xSet, ↓xAug, ↓xAsg, ↓xUn2, ↓xUn1, ↓xPar, ↓xNm, ↓xNl, ↓xCn, ↓xSq, ↓xSqL, ↓xV0, ↓xVS, ↓xC, ↓xFrz, ↓xFrz1, ↓xOp, ↓xBl, ↓xB, ↓xChain, ↓xAnd, ↓xOr, ↓xNot, ↓xAndV, ↓xOrV, ↓xNotV, ↓xIf, ↓xNil, ↓xCons, ↓xTup, ↓xLst, ↓xLstO, ↓xOpt, ↓xAddI, ↓xAddT, ↓xAddL, ↓xSub, ↓xIAdd, ↓xFdiv, ↓xMod, ↓xPow, ↓xMul, ↓xLt, ↓xLe, ↓xGt, ↓xGe, ↓xEqI, ↓xNeI, ↓xEqB, ↓xNeB, ↓xIsBB, ↓xIsNN, ↓xIsTN, ↓xIsLN, ↓xIsIN, ↓xIsSN, ↓xIsRN, ↓xNoBB, ↓xNoNN, ↓xNoTN, ↓xNoLN, ↓xNoIN, ↓xNoSN, ↓xNoRN, ↓xInT, ↓xIx, ↓xIxT, ↓xIxL, ↓at0, ↓at1, ↓at2, ↓at3, ↓at4, ↓at5, ↓xSl, ↓xNo, ↓xInt, ↓xPart, ↓xCutT, ↓xCutL, ↓xCB, ↓xLenT, ↓xLenL, ↓xIntI, ↓xTupT, ↓xTupL, ↓xLstT, ↓xLstL, ↓xIsiT, ↓xIsiI, ↓xIsiB, ↓xIsiS, ↓xMax2, ↓xMin2, ↓xSum, ↓xAll, ↓xApp, ↓xFld, ↓xFldS, ↓xGFd, ↓xCall, ↓xMeth, ↓xProp, ↓xNeg, ↓xNegI, ↓suIx0, ↓suIx1, ↓suIx2, ↓suIx3, ↓rwIx0, ↓rwIx1, ↓rwIx2, ↓rwIx3, ↓rwIx4, ↓rwIx5, ↓rwNo, ↓ddG, ↓ddS, ↓ddP, ↓ddGo, ↓liN, ↓liNe, ↓xFldX, ↓xFldWX, ↓xAppAX, ↓xAppBX, ↓xPop, ↓xPopK, ↓xLast, ↓xMthX, ↓xPrpX, ↓insU, ↓insN, ↓lsU, ↓lsN, ↓lk0, ↓lk1, ↓lk2, ↓lk3, ↓lk4, ↓lk5, ↓lk6, if_true, if_false, Bool.false_eq_true, Bool.true_eq_false, reduceIte, Bool.not_true, Bool.not_false, decide_eq_true_eq, Bool.not_eq_true', decide_eq_false_iff_not, not_true_eq_false, not_false_eq_true, and_true, true_and, true_implies, List.length_cons, List.length_nil, Nat.zero_le, decide_true, decide_false, decide_not, fl_len, pt2, pt3, pt4, pt5, pt6, ↓ixLs (w5.lst 4 rfl), ↓x_new, leT]
      refine fun mp hmp => ?_
      have w6 := w5.list (xs := [modD (LS.init su ra), modD (LS.init su2 rb), modD (LS.init su ra)]) hmp
      have hs8 := lv_keep (Keeps.refl.up (.inr hmp) : Keeps M5 (upm M5 mp (.lst [modD (LS.init su ra), modD (LS.init su2 rb), modD (LS.init su ra)])) []) hs7
      generalize upm M5 mp (.lst [modD (LS.init su ra), modD (LS.init su2 rb), modD (LS.init su ra)]) = M6 at w6 hs8 ⊢
      clear w5 w4 hs7 hs6 hlp hmp
      have tr : Trio C su lp mp [(⟨a, p, q, e⟩, ⟨su, ra, []⟩), (⟨a2, p2, q2, e2⟩, ⟨su2, rb, []⟩), (⟨a4, p4, q4, e4⟩, ⟨su, ra, []⟩)] 0 M6 := by
        refine ⟨?_, rfl, fun o ho => ?_⟩
        · have w7 := w6.sub (os' := [.ls mp _, .ls lp _, .lf ⟨a4, p4, q4, e4⟩ _, .lf ⟨a2, p2, q2, e2⟩ _, .lf ⟨a, p, q, e⟩ _]) (by
            exact (((((List.nil_sublist _).cons₂ _).cons₂ _).cons₂ _).cons₂ _).cons₂ _)
          exact w7.perm (((List.reverse_perm [Ob.lf ⟨a, p, q, e⟩ (LS.init su ra), Ob.lf ⟨a2, p2, q2, e2⟩ (LS.init su2 rb), Ob.lf ⟨a4, p4, q4, e4⟩ (LS.init su ra)]).cons _).cons _)
        · simp only [List.mem_cons, List.not_mem_nil, or_false] at ho
          rcases ho with rfl | rfl | rfl
          · exact ⟨o0, ⟨rfl, rfl, rfl⟩⟩
          · exact ⟨o1, hsim⟩
          · exact ⟨o0, ⟨rfl, rfl, rfl⟩⟩
      clear w6
      rw [xSeq]
      refine for_sq D.int (cutI l 3 23) (x := .lst ((cutI l 3 23).map D.int)) (fun Q q => ?_) rfl (DL.M3 C scr su su2 L rp lp mp l) ⟨_, none, none, none, none, none, rfl, tr⟩ (fun _ _ _ _ => rfl) (fun l1 cell rest ρ M7 el ⟨os, xa, xb, xc, xd, xe, hρ, tr⟩ => ?_) (fun ρ M7 ⟨os, xa, xb, xc, xd, xe, hρ, tr⟩ => ?_)
      · simp only [↓xSeq, ↓xNx, ↓xRt, ↓xBk, ↓xCt, ↓xEndNx, ↓xEndRt, ↓xNext, ↓xBreak, ↓xCont, ↓xDrop, ↓xRet, ↓xRetN, ↓xNever, ↓xIfS, ↓xPut0, ↓xPutS, ↓xSet, ↓xAug, ↓xAsg, ↓xUn2, ↓xUn1, ↓xPar, ↓xNm, ↓xNl, ↓xCn, ↓xSq, ↓xSqL, ↓xV0, ↓xVS, ↓xC, ↓xFrz, ↓xFrz1, ↓xOp, ↓xBl, ↓xB, ↓xChain, ↓xAnd, ↓xOr, ↓xNot, ↓xAndV, ↓xOrV, ↓xNotV, ↓xIf, ↓xNil, ↓xCons, ↓xTup, ↓xLst, ↓xLstO, ↓xOpt, ↓xAddI, ↓xAddT, ↓xAddL, ↓xSub, ↓xIAdd, ↓xFdiv, ↓xMod, ↓xPow, ↓xMul, ↓xLt, ↓xLe, ↓xGt, ↓xGe, ↓xEqI, ↓xNeI, ↓xEqB, ↓xNeB, ↓xIsBB, ↓xIsNN, ↓xIsTN, ↓xIsLN, ↓xIsIN, ↓xIsSN, ↓xIsRN, ↓xNoBB, ↓xNoNN, ↓xNoTN, ↓xNoLN, ↓xNoIN, ↓xNoSN, ↓xNoRN, ↓xInT, ↓xIx, ↓xIxT, ↓xIxL, ↓at0, ↓at1, ↓at2, ↓at3, ↓at4, ↓at5, ↓xSl, ↓xNo, ↓xInt, ↓xPart, ↓xCutT, ↓xCutL, ↓xCB, ↓xLenT, ↓xLenL, ↓xIntI, ↓xTupT, ↓xTupL, ↓xLstT, ↓xLstL, ↓xIsiT, ↓xIsiI, ↓xIsiB, ↓xIsiS, ↓xMax2, ↓xMin2, ↓xSum, ↓xAll, ↓xApp, ↓xFld, ↓xFldS, ↓xGFd, ↓xCall, ↓xMeth, ↓xProp, ↓xNeg, ↓xNegI, ↓suIx0, ↓suIx1, ↓suIx2, ↓suIx3, ↓rwIx0, ↓rwIx1, ↓rwIx2, ↓rwIx3, ↓rwIx4, ↓rwIx5, ↓rwNo, ↓ddG, ↓ddS, ↓ddP, ↓ddGo, ↓liN, ↓liNe, ↓xFldX, ↓xFldWX, ↓xAppAX, ↓xAppBX, ↓xPop, ↓xPopK, ↓xLast, ↓xMthX, ↓xPrpX, ↓insU, ↓insN, ↓lsU, ↓lsN, ↓lk0, ↓lk1, ↓lk2, ↓lk3, ↓lk4, ↓lk5, ↓lk6, if_true, if_false, Bool.false_eq_true, Bool.true_eq_false, reduceIte, Bool.not_true, Bool.not_false, decide_eq_true_eq, Bool.not_eq_true', decide_eq_false_iff_not, not_true_eq_false, not_false_eq_true, and_true, true_and, true_implies, List.length_cons, List.length_nil, Nat.zero_le, decide_true, decide_false, decide_not, fl_len, pt2, pt3, pt4, pt5, pt6]
        rw [cutS hs8, cutD_ints (i := 3) (j := 23) (a := 3) (b := 23) rfl rfl]
        exact q
      · subst hρ
        have hl20 : l1.length + 1 ≤ 20 := by
          have := congrArg List.length el
          rw [cutI_len] at this
          simp at this
          omega
        rw [xNm]
        simp only [↓xNx, ↓xRt, ↓xBk, ↓xCt, ↓xEndNx, ↓xEndRt, ↓xNext, ↓xBreak, ↓xCont, ↓xDrop, ↓xRet, ↓xRetN, ↓xNever, ↓xIfS, ↓xPut0, ↓xPutS, ↓xSet, ↓xAug, ↓xAsg, ↓xUn2, ↓xUn1, ↓xPar, ↓xNm, ↓xNl, ↓xCn, ↓xSq, ↓xSqL, ↓xV0, ↓xVS, ↓xC, ↓xFrz, ↓xFrz1, ↓xOp, ↓xBl, ↓xB, ↓xChain, ↓xAnd, ↓xOr, ↓xNot, ↓xAndV, ↓xOrV, ↓xNotV, ↓xIf, ↓xNil, ↓xCons, ↓xTup, ↓xLst, ↓xLstO, ↓xOpt, ↓xAddI, ↓xAddT, ↓xAddL, ↓xSub, ↓xIAdd, ↓xFdiv, ↓xMod, ↓xPow, ↓xMul, ↓xLt, ↓xLe, ↓xGt, ↓xGe, ↓xEqI, ↓xNeI, ↓xEqB, ↓xNeB, ↓xIsBB, ↓xIsNN, ↓xIsTN, ↓xIsLN, ↓xIsIN, ↓xIsSN, ↓xIsRN, ↓xNoBB, ↓xNoNN, ↓xNoTN, ↓xNoLN, ↓xNoIN, ↓xNoSN, ↓xNoRN, ↓xInT, ↓xIx, ↓xIxT, ↓xIxL, ↓at0, ↓at1, ↓at2, ↓at3, ↓at4, ↓at5, ↓xSl, ↓xNo, ↓xInt, ↓xPart, ↓xCutT, ↓xCutL, ↓xCB, ↓xLenT, ↓xLenL, ↓xIntI, ↓xTupT, ↓xTupL, ↓xLstT, ↓xLstL, ↓xIsiT, ↓xIsiI, ↓xIsiB, ↓xIsiS, ↓xMax2, ↓xMin2, ↓xSum, ↓xAll, ↓xApp, ↓xFld, ↓xFldS, ↓xGFd, ↓xCall, ↓xMeth, ↓xProp, ↓xNeg, ↓xNegI, ↓suIx0, ↓suIx1, ↓suIx2, ↓suIx3, ↓rwIx0, ↓rwIx1, ↓rwIx2, ↓rwIx3, ↓rwIx4, ↓rwIx5, ↓rwNo, ↓ddG, ↓ddS, ↓ddP, ↓ddGo, ↓liN, ↓liNe, ↓xFldX, ↓xFldWX, ↓xAppAX, ↓xAppBX, ↓xPop, ↓xPopK, ↓xLast, ↓xMthX, ↓xPrpX, ↓insU, ↓insN, ↓lsU, ↓lsN, ↓lk0, ↓lk1, ↓lk2, ↓lk3, ↓lk4, ↓lk5, ↓lk6, if_true, if_false, Bool.false_eq_true, Bool.true_eq_false, reduceIte, Bool.not_true, Bool.not_false, decide_eq_true_eq, Bool.not_eq_true', decide_eq_false_iff_not, not_true_eq_false, not_false_eq_true, and_true, true_and, true_implies, List.length_cons, List.length_nil, Nat.zero_le, decide_true, decide_false, decide_not, fl_len, pt2, pt3, pt4, pt5, pt6]
        rw [xSeq, xSet]
        simp only [↓xNx, ↓xRt, ↓xBk, ↓xCt, ↓xEndNx, ↓xEndRt, ↓xNext, ↓xBreak, ↓xCont, ↓xDrop, ↓xRet, ↓xRetN, ↓xNever, ↓xIfS, ↓xPut0, ↓xPutS, ↓xSet, ↓xAug, ↓xAsg, ↓xUn2, ↓xUn1, ↓xPar, ↓xNm, ↓xNl, ↓xCn, ↓xSq, ↓xSqL, ↓xV0, ↓xVS, ↓xC, ↓xFrz, ↓xFrz1, ↓xOp, ↓xBl, ↓xB, ↓xChain, ↓xAnd, ↓xOr, ↓xNot, ↓xAndV, ↓xOrV, ↓xNotV, ↓xIf, ↓xNil, ↓xCons, ↓xTup, ↓xLst, ↓xLstO, ↓xOpt, ↓xAddI, ↓xAddT, ↓xAddL, ↓xSub, ↓xIAdd, ↓xFdiv, ↓xMod, ↓xPow, ↓xMul, ↓xLt, ↓xLe, ↓xGt, ↓xGe, ↓xEqI, ↓xNeI, ↓xEqB, ↓xNeB, ↓xIsBB, ↓xIsNN, ↓xIsTN, ↓xIsLN, ↓xIsIN, ↓xIsSN, ↓xIsRN, ↓xNoBB, ↓xNoNN, ↓xNoTN, ↓xNoLN, ↓xNoIN, ↓xNoSN, ↓xNoRN, ↓xInT, ↓xIx, ↓xIxT, ↓xIxL, ↓at0, ↓at1, ↓at2, ↓at3, ↓at4, ↓at5, ↓xSl, ↓xNo, ↓xInt, ↓xPart, ↓xCutT, ↓xCutL, ↓xCB, ↓xLenT, ↓xLenL, ↓xIntI, ↓xTupT, ↓xTupL, ↓xLstT, ↓xLstL, ↓xIsiT, ↓xIsiI, ↓xIsiB, ↓xIsiS, ↓xMax2, ↓xMin2, ↓xSum, ↓xAll, ↓xApp, ↓xFld, ↓xFldS, ↓xGFd, ↓xCall, ↓xMeth, ↓xProp, ↓xNeg, ↓xNegI, ↓suIx0, ↓suIx1, ↓suIx2, ↓suIx3, ↓rwIx0, ↓rwIx1, ↓rwIx2, ↓rwIx3, ↓rwIx4, ↓rwIx5, ↓rwNo, ↓ddG, ↓ddS, ↓ddP, ↓ddGo, ↓liN, ↓liNe, ↓xFldX, ↓xFldWX, ↓xAppAX, ↓xAppBX, ↓xPop, ↓xPopK, ↓xLast, ↓xMthX, ↓xPrpX, ↓insU, ↓insN, ↓lsU, ↓lsN, ↓lk0, ↓lk1, ↓lk2, ↓lk3, ↓lk4, ↓lk5, ↓lk6, if_true, if_false, Bool.false_eq_true, Bool.true_eq_false, reduceIte, Bool.not_true, Bool.not_false, decide_eq_true_eq, Bool.not_eq_true', decide_eq_false_iff_not, not_true_eq_false, not_false_eq_true, and_true, true_and, true_implies, List.length_cons, List.length_nil, Nat.zero_le, decide_true, decide_false, decide_not, fl_len, pt2, pt3, pt4, pt5, pt6, ↓x_draws 28 (rfl : (28:Int) = (28:Nat)) (by decide)]
        refine fun L3 hL3 => ?_
        have hLl3 := hL3.len
        obtain ⟨y4, _, f4, _⟩ := nthI (L := L3) (n := 4) (by omega)
        obtain ⟨y25, _, f25, _⟩ := nthI (L := L3) (n := 25) (by omega)
        obtain ⟨y26, _, f26, _⟩ := nthI (L := L3) (n := 26) (by omega)
        obtain ⟨y27, _, f27, _⟩ := nthI (L := L3) (n := 27) (by omega)
        rw [xSeq, xSet]
        simp only [↓xNx, ↓xRt, ↓xBk, ↓xCt, ↓xEndNx, ↓xEndRt, ↓xNext, ↓xBreak, ↓xCont, ↓xDrop, ↓xRet, ↓xRetN, ↓xNever, ↓xIfS, ↓xPut0, ↓xPutS, ↓xSet, ↓xAug, ↓xAsg, ↓xUn2, ↓xUn1, ↓xPar, ↓xNm, ↓xNl, ↓xCn, ↓xSq, ↓xSqL, ↓xV0, ↓xVS, ↓xC, ↓xFrz, ↓xFrz1, ↓xOp, ↓xBl, ↓xB, ↓xChain, ↓xAnd, ↓xOr, ↓xNot, ↓xAndV, ↓xOrV, ↓xNotV, ↓xIf, ↓xNil, ↓xCons, ↓xTup, ↓xLst, ↓xLstO, ↓xOpt, ↓xAddI, ↓xAddT, ↓xAddL, ↓xSub, ↓xIAdd, ↓xFdiv, ↓xMod, ↓xPow, ↓xMul, ↓xLt, ↓xLe, ↓xGt, ↓xGe, ↓xEqI, ↓xNeI, ↓xEqB, ↓xNeB, ↓xIsBB, ↓xIsNN, ↓xIsTN, ↓xIsLN, ↓xIsIN, ↓xIsSN, ↓xIsRN, ↓xNoBB, ↓xNoNN, ↓xNoTN, ↓xNoLN, ↓xNoIN, ↓xNoSN, ↓xNoRN, ↓xInT, ↓xIx, ↓xIxT, ↓xIxL, ↓at0, ↓at1, ↓at2, ↓at3, ↓at4, ↓at5, ↓xSl, ↓xNo, ↓xInt, ↓xPart, ↓xCutT, ↓xCutL, ↓xCB, ↓xLenT, ↓xLenL, ↓xIntI, ↓xTupT, ↓xTupL, ↓xLstT, ↓xLstL, ↓xIsiT, ↓xIsiI, ↓xIsiB, ↓xIsiS, ↓xMax2, ↓xMin2, ↓xSum, ↓xAll, ↓xApp, ↓xFld, ↓xFldS, ↓xGFd, ↓xCall, ↓xMeth, ↓xProp, ↓xNeg, ↓xNegI, ↓suIx0, ↓suIx1, ↓suIx2, ↓suIx3, ↓rwIx0, ↓rwIx1, ↓rwIx2, ↓rwIx3, ↓rwIx4, ↓rwIx5, ↓rwNo, ↓ddG, ↓ddS, ↓ddP, ↓ddGo, ↓liN, ↓liNe, ↓xFldX, ↓xFldWX, ↓xAppAX, ↓xAppBX, ↓xPop, ↓xPopK, ↓xLast, ↓xMthX, ↓xPrpX, ↓insU, ↓insN, ↓lsU, ↓lsN, ↓lk0, ↓lk1, ↓lk2, ↓lk3, ↓lk4, ↓lk5, ↓lk6, if_true, if_false, Bool.false_eq_true, Bool.true_eq_false, reduceIte, Bool.not_true, Bool.not_false, decide_eq_true_eq, Bool.not_eq_true', decide_eq_false_iff_not, not_true_eq_false, not_false_eq_true, and_true, true_and, true_implies, List.length_cons, List.length_nil, Nat.zero_le, decide_true, decide_false, decide_not, fl_len, pt2, pt3, pt4, pt5, pt6, ↓x_comers, le2]
        refine ⟨hsu, ⟨by omega, hL3.pos⟩, fun c hc => ?_⟩
        rw [xSeq]
        refine cut_nx (DL.M4 scr su su2 L rp lp mp cell L3 M7) (fun K hK => ?_) (fun ρ M8 ⟨⟨u, xd, xe, hu, hρ⟩, hM⟩ => ?_)
        · simp only [↓xSeq, ↓xNx, ↓xRt, ↓xBk, ↓xCt, ↓xEndNx, ↓xEndRt, ↓xNext, ↓xBreak, ↓xCont, ↓xDrop, ↓xRet, ↓xRetN, ↓xNever, ↓xIfS, ↓xPut0, ↓xPutS, ↓xSet, ↓xAug, ↓xAsg, ↓xUn2, ↓xUn1, ↓xPar, ↓xNm, ↓xNl, ↓xCn, ↓xSq, ↓xSqL, ↓xV0, ↓xVS, ↓xC, ↓xFrz, ↓xFrz1, ↓xOp, ↓xBl, ↓xB, ↓xChain, ↓xAnd, ↓xOr, ↓xNot, ↓xAndV, ↓xOrV, ↓xNotV, ↓xIf, ↓xNil, ↓xCons, ↓xTup, ↓xLst, ↓xLstO, ↓xOpt, ↓xAddI, ↓xAddT, ↓xAddL, ↓xSub, ↓xIAdd, ↓xFdiv, ↓xMod, ↓xPow, ↓xMul, ↓xLt, ↓xLe, ↓xGt, ↓xGe, ↓xEqI, ↓xNeI, ↓xEqB, ↓xNeB, ↓xIsBB, ↓xIsNN, ↓xIsTN, ↓xIsLN, ↓xIsIN, ↓xIsSN, ↓xIsRN, ↓xNoBB, ↓xNoNN, ↓xNoTN, ↓xNoLN, ↓xNoIN, ↓xNoSN, ↓xNoRN, ↓xInT, ↓xIx, ↓xIxT, ↓xIxL, ↓at0, ↓at1, ↓at2, ↓at3, ↓at4, ↓at5, ↓xSl, ↓xNo, ↓xInt, ↓xPart, ↓xCutT, ↓xCutL, ↓xCB, ↓xLenT, ↓xLenL, ↓xIntI, ↓xTupT, ↓xTupL, ↓xLstT, ↓xLstL, ↓xIsiT, ↓xIsiI, ↓xIsiB, ↓xIsiS, ↓xMax2, ↓xMin2, ↓xSum, ↓xAll, ↓xApp, ↓xFld, ↓xFldS, ↓xGFd, ↓xCall, ↓xMeth, ↓xProp, ↓xNeg, ↓xNegI, ↓suIx0, ↓suIx1, ↓suIx2, ↓suIx3, ↓rwIx0, ↓rwIx1, ↓rwIx2, ↓rwIx3, ↓rwIx4, ↓rwIx5, ↓rwNo, ↓ddG, ↓ddS, ↓ddP, ↓ddGo, ↓liN, ↓liNe, ↓xFldX, ↓xFldWX, ↓xAppAX, ↓xAppBX, ↓xPop, ↓xPopK, ↓xLast, ↓xMthX, ↓xPrpX, ↓insU, ↓insN, ↓lsU, ↓lsN, ↓lk0, ↓lk1, ↓lk2, ↓lk3, ↓lk4, ↓lk5, ↓lk6, if_true, if_false, Bool.false_eq_true, Bool.true_eq_false, reduceIte, Bool.not_true, Bool.not_false, decide_eq_true_eq, Bool.not_eq_true', decide_eq_false_iff_not, not_true_eq_false, not_false_eq_true, and_true, true_and, true_implies, List.length_cons, List.length_nil, Nat.zero_le, decide_true, decide_false, decide_not, fl_len, pt2, pt3, pt4, pt5, pt6, ↓atNat (show (4 : Int) = (4 : Nat) from rfl) f4, ↓cutD_ints (L := L3) (i := 5) (j := 25) (a := 5) (b := 25) rfl rfl, ↓x_lrule, le2]
          refine ⟨by decide, ?_⟩
          split
          · exact ⟨⟨by rw [cutI_len]; omega, fun d hd => hL3.pos d (cutI_mem hd)⟩, fun r hr _ => hK _ _ ⟨⟨.step (.rule r), _, _, hr, rfl⟩, rfl⟩⟩
          · exact hK _ _ ⟨⟨.step (.beat c), _, _, hc, rfl⟩, rfl⟩
        · subst hρ hM
          rw [xSeq]
          refine cut_nx (DL.M4 scr su su2 L rp lp mp cell L3 M8) (fun K hK => ?_) (fun ρ M9 ⟨⟨u, xd, xe, hu, hρ⟩, hM⟩ => ?_)
          · simp only [↓xSeq, ↓xNx, ↓xRt, ↓xBk, ↓xCt, ↓xEndNx, ↓xEndRt, ↓xNext, ↓xBreak, ↓xCont, ↓xDrop, ↓xRet, ↓xRetN, ↓xNever, ↓xIfS, ↓xPut0, ↓xPutS, ↓xSet, ↓xAug, ↓xAsg, ↓xUn2, ↓xUn1, ↓xPar, ↓xNm, ↓xNl, ↓xCn, ↓xSq, ↓xSqL, ↓xV0, ↓xVS, ↓xC, ↓xFrz, ↓xFrz1, ↓xOp, ↓xBl, ↓xB, ↓xChain, ↓xAnd, ↓xOr, ↓xNot, ↓xAndV, ↓xOrV, ↓xNotV, ↓xIf, ↓xNil, ↓xCons, ↓xTup, ↓xLst, ↓xLstO, ↓xOpt, ↓xAddI, ↓xAddT, ↓xAddL, ↓xSub, ↓xIAdd, ↓xFdiv, ↓xMod, ↓xPow, ↓xMul, ↓xLt, ↓xLe, ↓xGt, ↓xGe, ↓xEqI, ↓xNeI, ↓xEqB, ↓xNeB, ↓xIsBB, ↓xIsNN, ↓xIsTN, ↓xIsLN, ↓xIsIN, ↓xIsSN, ↓xIsRN, ↓xNoBB, ↓xNoNN, ↓xNoTN, ↓xNoLN, ↓xNoIN, ↓xNoSN, ↓xNoRN, ↓xInT, ↓xIx, ↓xIxT, ↓xIxL, ↓at0, ↓at1, ↓at2, ↓at3, ↓at4, ↓at5, ↓xSl, ↓xNo, ↓xInt, ↓xPart, ↓xCutT, ↓xCutL, ↓xCB, ↓xLenT, ↓xLenL, ↓xIntI, ↓xTupT, ↓xTupL, ↓xLstT, ↓xLstL, ↓xIsiT, ↓xIsiI, ↓xIsiB, ↓xIsiS, ↓xMax2, ↓xMin2, ↓xSum, ↓xAll, ↓xApp, ↓xFld, ↓xFldS, ↓xGFd, ↓xCall, ↓xMeth, ↓xProp, ↓xNeg, ↓xNegI, ↓suIx0, ↓suIx1, ↓suIx2, ↓suIx3, ↓rwIx0, ↓rwIx1, ↓rwIx2, ↓rwIx3, ↓rwIx4, ↓rwIx5, ↓rwNo, ↓ddG, ↓ddS, ↓ddP, ↓ddGo, ↓liN, ↓liNe, ↓xFldX, ↓xFldWX, ↓xAppAX, ↓xAppBX, ↓xPop, ↓xPopK, ↓xLast, ↓xMthX, ↓xPrpX, ↓insU, ↓insN, ↓lsU, ↓lsN, ↓lk0, ↓lk1, ↓lk2, ↓lk3, ↓lk4, ↓lk5, ↓lk6, if_true, if_false, Bool.false_eq_true, Bool.true_eq_false, reduceIte, Bool.not_true, Bool.not_false, decide_eq_true_eq, Bool.not_eq_true', decide_eq_false_iff_not, not_true_eq_false, not_false_eq_true, and_true, true_and, true_implies, List.length_cons, List.length_nil, Nat.zero_le, decide_true, decide_false, decide_not, fl_len, pt2, pt3, pt4, pt5, pt6, ↓atNat (show (4 : Int) = (4 : Nat) from rfl) f4, le2]
            refine ⟨by decide, ?_⟩
            split
            · exact hK _ _ ⟨⟨.undo, _, _, trivial, rfl⟩, rfl⟩
            · exact hK _ _ ⟨⟨u, _, _, hu, rfl⟩, rfl⟩
          · subst hρ hM
            rw [xSeq]
            obtain ⟨ks, hks, hkl, hpick⟩ := pick8 (@mod_lt y25 8 (by decide))
            refine for_sq D.int ks (x := .lst (ks.map D.int)) (fun Q q => ?_) rfl (DL.M5 C scr su su2 L rp lp mp cell L3 u (3 * l1.length)) ⟨os, _, _, rfl, tr⟩ (fun _ _ _ _ => rfl) (fun l2 k rest2 ρ MA el2 ⟨os, xd, xe, hρ, tr⟩ => ?_) (fun ρ MA ⟨os, xd, xe, hρ, tr⟩ => ?_)
            · simp only [↓xSeq, ↓xNx, ↓xRt, ↓xBk, ↓xCt, ↓xEndNx, ↓xEndRt, ↓xNext, ↓xBreak, ↓xCont, ↓xDrop, ↓xRet, ↓xRetN, ↓xNever, ↓xIfS, ↓xPut0, ↓xPutS, ↓xSet, ↓xAug, ↓xAsg, ↓xUn2, ↓xUn1, ↓xPar, ↓xNm, ↓xNl, ↓xCn, ↓xSq, ↓xSqL, ↓xV0, ↓xVS, ↓xC, ↓xFrz, ↓xFrz1, ↓xOp, ↓xBl, ↓xB, ↓xChain, ↓xAnd, ↓xOr, ↓xNot, ↓xAndV, ↓xOrV, ↓xNotV, ↓xIf, ↓xNil, ↓xCons, ↓xTup, ↓xLst, ↓xLstO, ↓xOpt, ↓xAddI, ↓xAddT, ↓xAddL, ↓xSub, ↓xIAdd, ↓xFdiv, ↓xMod, ↓xPow, ↓xMul, ↓xLt, ↓xLe, ↓xGt, ↓xGe, ↓xEqI, ↓xNeI, ↓xEqB, ↓xNeB, ↓xIsBB, ↓xIsNN, ↓xIsTN, ↓xIsLN, ↓xIsIN, ↓xIsSN, ↓xIsRN, ↓xNoBB, ↓xNoNN, ↓xNoTN, ↓xNoLN, ↓xNoIN, ↓xNoSN, ↓xNoRN, ↓xInT, ↓xIx, ↓xIxT, ↓xIxL, ↓at0, ↓at1, ↓at2, ↓at3, ↓at4, ↓at5, ↓xSl, ↓xNo, ↓xInt, ↓xPart, ↓xCutT, ↓xCutL, ↓xCB, ↓xLenT, ↓xLenL, ↓xIntI, ↓xTupT, ↓xTupL, ↓xLstT, ↓xLstL, ↓xIsiT, ↓xIsiI, ↓xIsiB, ↓xIsiS, ↓xMax2, ↓xMin2, ↓xSum, ↓xAll, ↓xApp, ↓xFld, ↓xFldS, ↓xGFd, ↓xCall, ↓xMeth, ↓xProp, ↓xNeg, ↓xNegI, ↓suIx0, ↓suIx1, ↓suIx2, ↓suIx3, ↓rwIx0, ↓rwIx1, ↓rwIx2, ↓rwIx3, ↓rwIx4, ↓rwIx5, ↓rwNo, ↓ddG, ↓ddS, ↓ddP, ↓ddGo, ↓liN, ↓liNe, ↓xFldX, ↓xFldWX, ↓xAppAX, ↓xAppBX, ↓xPop, ↓xPopK, ↓xLast, ↓xMthX, ↓xPrpX, ↓insU, ↓insN, ↓lsU, ↓lsN, ↓lk0, ↓lk1, ↓lk2, ↓lk3, ↓lk4, ↓lk5, ↓lk6, if_true, if_false, Bool.false_eq_true, Bool.true_eq_false, reduceIte, Bool.not_true, Bool.not_false, decide_eq_true_eq, Bool.not_eq_true', decide_eq_false_iff_not, not_true_eq_false, not_false_eq_true, and_true, true_and, true_implies, List.length_cons, List.length_nil, Nat.zero_le, decide_true, decide_false, decide_not, fl_len, pt2, pt3, pt4, pt5, pt6, ↓atNat (show (25 : Int) = (25 : Nat) from rfl) f25, le1, le2, leT, show (0 + 1 + 1 + 1 + 1 + 1 + 1 + 1 + 1 ≤ sizeLine) from by decide]
              exact ⟨by decide, hpick _ q⟩
            · subst hρ
              have hk3 := hks k (by rw [el2]; simp)
              obtain ⟨n, rfl⟩ := Int.eq_ofNat_of_zero_le hk3.1
              have hl2 : l2.length + 1 ≤ 3 := by
                have := congrArg List.length el2
                simp at this
                omega
              obtain ⟨o, hok⟩ : ∃ o, os[n]? = some o := ⟨os[n]'(by have := tr.len; omega), List.getElem?_eq_getElem _⟩
              have k1 : (liftsD os)[n]? = some (.ref o.1.a) := mapAt hok
              have k2 : (modsD os)[n]? = some (modD o.2.s) := mapAt hok
              simp only [↓xSeq, ↓xNx, ↓xRt, ↓xBk, ↓xCt, ↓xEndNx, ↓xEndRt, ↓xNext, ↓xBreak, ↓xCont, ↓xDrop, ↓xRet, ↓xRetN, ↓xNever, ↓xIfS, ↓xPut0, ↓xPutS, ↓xSet, ↓xAug, ↓xAsg, ↓xUn2, ↓xUn1, ↓xPar, ↓xNm, ↓xNl, ↓xCn, ↓xSq, ↓xSqL, ↓xV0, ↓xVS, ↓xC, ↓xFrz, ↓xFrz1, ↓xOp, ↓xBl, ↓xB, ↓xChain, ↓xAnd, ↓xOr, ↓xNot, ↓xAndV, ↓xOrV, ↓xNotV, ↓xIf, ↓xNil, ↓xCons, ↓xTup, ↓xLst, ↓xLstO, ↓xOpt, ↓xAddI, ↓xAddT, ↓xAddL, ↓xSub, ↓xIAdd, ↓xFdiv, ↓xMod, ↓xPow, ↓xMul, ↓xLt, ↓xLe, ↓xGt, ↓xGe, ↓xEqI, ↓xNeI, ↓xEqB, ↓xNeB, ↓xIsBB, ↓xIsNN, ↓xIsTN, ↓xIsLN, ↓xIsIN, ↓xIsSN, ↓xIsRN, ↓xNoBB, ↓xNoNN, ↓xNoTN, ↓xNoLN, ↓xNoIN, ↓xNoSN, ↓xNoRN, ↓xInT, ↓xIx, ↓xIxT, ↓xIxL, ↓at0, ↓at1, ↓at2, ↓at3, ↓at4, ↓at5, ↓xSl, ↓xNo, ↓xInt, ↓xPart, ↓xCutT, ↓xCutL, ↓xCB, ↓xLenT, ↓xLenL, ↓xIntI, ↓xTupT, ↓xTupL, ↓xLstT, ↓xLstL, ↓xIsiT, ↓xIsiI, ↓xIsiB, ↓xIsiS, ↓xMax2, ↓xMin2, ↓xSum, ↓xAll, ↓xApp, ↓xFld, ↓xFldS, ↓xGFd, ↓xCall, ↓xMeth, ↓xProp, ↓xNeg, ↓xNegI, ↓suIx0, ↓suIx1, ↓suIx2, ↓suIx3, ↓rwIx0, ↓rwIx1, ↓rwIx2, ↓rwIx3, ↓rwIx4, ↓rwIx5, ↓rwNo, ↓ddG, ↓ddS, ↓ddP, ↓ddGo, ↓liN, ↓liNe, ↓xFldX, ↓xFldWX, ↓xAppAX, ↓xAppBX, ↓xPop, ↓xPopK, ↓xLast, ↓xMthX, ↓xPrpX, ↓insU, ↓insN, ↓lsU, ↓lsN, ↓lk0, ↓lk1, ↓lk2, ↓lk3, ↓lk4, ↓lk5, ↓lk6, if_true, if_false, Bool.false_eq_true, Bool.true_eq_false, reduceIte, Bool.not_true, Bool.not_false, decide_eq_true_eq, Bool.not_eq_true', decide_eq_false_iff_not, not_true_eq_false, not_false_eq_true, and_true, true_and, true_implies, List.length_cons, List.length_nil, Nat.zero_le, decide_true, decide_false, decide_not, fl_len, pt2, pt3, pt4, pt5, pt6, ↓ixLs (tr.w.lst 1 rfl), ↓ixLs (tr.w.lst 0 rfl), ↓atNat rfl k1, ↓atNat rfl k2]
              refine x_do85 tr (by omega) hok hu fun MB g kB => ?_
              obtain ⟨hm, hmv⟩ := tr.move hok hu g kB
              simp only [↓xSeq, ↓xNx, ↓xRt, ↓xBk, ↓xCt, ↓xEndNx, ↓xEndRt, ↓xNext, ↓xBreak, ↓xCont, ↓xDrop, ↓xRet, ↓xRetN, ↓xNever, ↓xIfS, ↓xPut0, ↓xPutS, ↓xSet, ↓xAug, ↓xAsg, ↓xUn2, ↓xUn1, ↓xPar, ↓xNm, ↓xNl, ↓xCn, ↓xSq, ↓xSqL, ↓xV0, ↓xVS, ↓xC, ↓xFrz, ↓xFrz1, ↓xOp, ↓xBl, ↓xB, ↓xChain, ↓xAnd, ↓xOr, ↓xNot, ↓xAndV, ↓xOrV, ↓xNotV, ↓xIf, ↓xNil, ↓xCons, ↓xTup, ↓xLst, ↓xLstO, ↓xOpt, ↓xAddI, ↓xAddT, ↓xAddL, ↓xSub, ↓xIAdd, ↓xFdiv, ↓xMod, ↓xPow, ↓xMul, ↓xLt, ↓xLe, ↓xGt, ↓xGe, ↓xEqI, ↓xNeI, ↓xEqB, ↓xNeB, ↓xIsBB, ↓xIsNN, ↓xIsTN, ↓xIsLN, ↓xIsIN, ↓xIsSN, ↓xIsRN, ↓xNoBB, ↓xNoNN, ↓xNoTN, ↓xNoLN, ↓xNoIN, ↓xNoSN, ↓xNoRN, ↓xInT, ↓xIx, ↓xIxT, ↓xIxL, ↓at0, ↓at1, ↓at2, ↓at3, ↓at4, ↓at5, ↓xSl, ↓xNo, ↓xInt, ↓xPart, ↓xCutT, ↓xCutL, ↓xCB, ↓xLenT, ↓xLenL, ↓xIntI, ↓xTupT, ↓xTupL, ↓xLstT, ↓xLstL, ↓xIsiT, ↓xIsiI, ↓xIsiB, ↓xIsiS, ↓xMax2, ↓xMin2, ↓xSum, ↓xAll, ↓xApp, ↓xFld, ↓xFldS, ↓xGFd, ↓xCall, ↓xMeth, ↓xProp, ↓xNeg, ↓xNegI, ↓suIx0, ↓suIx1, ↓suIx2, ↓suIx3, ↓rwIx0, ↓rwIx1, ↓rwIx2, ↓rwIx3, ↓rwIx4, ↓rwIx5, ↓rwNo, ↓ddG, ↓ddS, ↓ddP, ↓ddGo, ↓liN, ↓liNe, ↓xFldX, ↓xFldWX, ↓xAppAX, ↓xAppBX, ↓xPop, ↓xPopK, ↓xLast, ↓xMthX, ↓xPrpX, ↓insU, ↓insN, ↓lsU, ↓lsN, ↓lk0, ↓lk1, ↓lk2, ↓lk3, ↓lk4, ↓lk5, ↓lk6, if_true, if_false, Bool.false_eq_true, Bool.true_eq_false, reduceIte, Bool.not_true, Bool.not_false, decide_eq_true_eq, Bool.not_eq_true', decide_eq_false_iff_not, not_true_eq_false, not_false_eq_true, and_true, true_and, true_implies, List.length_cons, List.length_nil, Nat.zero_le, decide_true, decide_false, decide_not, fl_len, pt2, pt3, pt4, pt5, pt6, ↓xGIx]
              refine gixAt hm (by unfold modsD; rw [List.length_map]; have := tr.len; omega) ?_
              refine ⟨os.set n (o.1, o.2.next u), _, _, rfl, ?_⟩
              have := hmv _ rfl
              rw [List.length_append]
              exact this
            · subst hρ
              have tr := tr.mono (m := 3 * (l1.length + 1)) (by omega)
              rw [xNx, xSeq]
              refine cut_nx (DL.M5 C scr su su2 L rp lp mp cell L3 u (3 * (l1.length + 1)) []) (fun K hK => ?_) (fun ρ MB ⟨os, xd, xe, hρ, tr⟩ => ?_)
              · obtain ⟨p0, p1⟩ := @mod_lt y27 3 (by decide)
                obtain ⟨q0, q1⟩ := @mod_lt (y27 / 3) 3 (by decide)
                obtain ⟨kk, hkk⟩ := Int.eq_ofNat_of_zero_le p0
                obtain ⟨nn, hnn⟩ := Int.eq_ofNat_of_zero_le q0
                obtain ⟨o2, hok2⟩ : ∃ o, os[kk]? = some o := ⟨os[kk]'(by have := tr.len; omega), List.getElem?_eq_getElem _⟩
                obtain ⟨o, hok⟩ : ∃ o, os[nn]? = some o := ⟨os[nn]'(by have := tr.len; omega), List.getElem?_eq_getElem _⟩
                have hm := List.mem_of_getElem? hok
                have la : LiftAt C MA o.1.a o.1.p o.1.q o.1.e o.2.s := tr.w.at' (.lf o.1 o.2.s) (List.mem_cons_of_mem _ (List.mem_cons_of_mem _ (List.mem_map.mpr ⟨o, hm, rfl⟩)))
                have k1 : (liftsD os)[nn]? = some (.ref o.1.a) := mapAt hok
                have k2 : (modsD os)[nn]? = some (modD o.2.s) := mapAt hok
                simp only [↓xSeq, ↓xNx, ↓xRt, ↓xBk, ↓xCt, ↓xEndNx, ↓xEndRt, ↓xNext, ↓xBreak, ↓xCont, ↓xDrop, ↓xRet, ↓xRetN, ↓xNever, ↓xIfS, ↓xPut0, ↓xPutS, ↓xSet, ↓xAug, ↓xAsg, ↓xUn2, ↓xUn1, ↓xPar, ↓xNm, ↓xNl, ↓xCn, ↓xSq, ↓xSqL, ↓xV0, ↓xVS, ↓xC, ↓xFrz, ↓xFrz1, ↓xOp, ↓xBl, ↓xB, ↓xChain, ↓xAnd, ↓xOr, ↓xNot, ↓xAndV, ↓xOrV, ↓xNotV, ↓xIf, ↓xNil, ↓xCons, ↓xTup, ↓xLst, ↓xLstO, ↓xOpt, ↓xAddI, ↓xAddT, ↓xAddL, ↓xSub, ↓xIAdd, ↓xFdiv, ↓xMod, ↓xPow, ↓xMul, ↓xLt, ↓xLe, ↓xGt, ↓xGe, ↓xEqI, ↓xNeI, ↓xEqB, ↓xNeB, ↓xIsBB, ↓xIsNN, ↓xIsTN, ↓xIsLN, ↓xIsIN, ↓xIsSN, ↓xIsRN, ↓xNoBB, ↓xNoNN, ↓xNoTN, ↓xNoLN, ↓xNoIN, ↓xNoSN, ↓xNoRN, ↓xInT, ↓xIx, ↓xIxT, ↓xIxL, ↓at0, ↓at1, ↓at2, ↓at3, ↓at4, ↓at5, ↓xSl, ↓xNo, ↓xInt, ↓xPart, ↓xCutT, ↓xCutL, ↓xCB, ↓xLenT, ↓xLenL, ↓xIntI, ↓xTupT, ↓xTupL, ↓xLstT, ↓xLstL, ↓xIsiT, ↓xIsiI, ↓xIsiB, ↓xIsiS, ↓xMax2, ↓xMin2, ↓xSum, ↓xAll, ↓xApp, ↓xFld, ↓xFldS, ↓xGFd, ↓xCall, ↓xMeth, ↓xProp, ↓xNeg, ↓xNegI, ↓suIx0, ↓suIx1, ↓suIx2, ↓suIx3, ↓rwIx0, ↓rwIx1, ↓rwIx2, ↓rwIx3, ↓rwIx4, ↓rwIx5, ↓rwNo, ↓ddG, ↓ddS, ↓ddP, ↓ddGo, ↓liN, ↓liNe, ↓xFldX, ↓xFldWX, ↓xAppAX, ↓xAppBX, ↓xPop, ↓xPopK, ↓xLast, ↓xMthX, ↓xPrpX, ↓insU, ↓insN, ↓lsU, ↓lsN, ↓lk0, ↓lk1, ↓lk2, ↓lk3, ↓lk4, ↓lk5, ↓lk6, if_true, if_false, Bool.false_eq_true, Bool.true_eq_false, reduceIte, Bool.not_true, Bool.not_false, decide_eq_true_eq, Bool.not_eq_true', decide_eq_false_iff_not, not_true_eq_false, not_false_eq_true, and_true, true_and, true_implies, List.length_cons, List.length_nil, Nat.zero_le, decide_true, decide_false, decide_not, fl_len, pt2, pt3, pt4, pt5, pt6, ↓atNat (show (26 : Int) = (26 : Nat) from rfl) f26, ↓atNat (show (27 : Int) = (27 : Nat) from rfl) f27, hkk, hnn, ↓ixLs (tr.w.lst 1 rfl), ↓ixLs (tr.w.lst 0 rfl), ↓atNat rfl k1, ↓atNat rfl k2, ↓ins_at la.ins, lkm]
                refine ⟨by decide, ?_⟩
                split
                · refine ⟨by decide, ⟨by decide, by decide⟩, by decide, ?_⟩
                  refine ⟨o.1.a, o.1.p, o.1.q, o.1.e, _, rfl, la, (tr.ok o hm).1.lsok (by omega), fun a5 p5 q5 e5 MC g ga gp gq ge kp => ?_⟩
                  obtain ⟨t1, t2, t3⟩ := tr.copy (g := ⟨a5, p5, q5, e5⟩) hok2 hm g ⟨ga, gp, gq, ge⟩ kp
                  simp only [↓xSeq, ↓xNx, ↓xRt, ↓xBk, ↓xCt, ↓xEndNx, ↓xEndRt, ↓xNext, ↓xBreak, ↓xCont, ↓xDrop, ↓xRet, ↓xRetN, ↓xNever, ↓xIfS, ↓xPut0, ↓xPutS, ↓xSet, ↓xAug, ↓xAsg, ↓xUn2, ↓xUn1, ↓xPar, ↓xNm, ↓xNl, ↓xCn, ↓xSq, ↓xSqL, ↓xV0, ↓xVS, ↓xC, ↓xFrz, ↓xFrz1, ↓xOp, ↓xBl, ↓xB, ↓xChain, ↓xAnd, ↓xOr, ↓xNot, ↓xAndV, ↓xOrV, ↓xNotV, ↓xIf, ↓xNil, ↓xCons, ↓xTup, ↓xLst, ↓xLstO, ↓xOpt, ↓xAddI, ↓xAddT, ↓xAddL, ↓xSub, ↓xIAdd, ↓xFdiv, ↓xMod, ↓xPow, ↓xMul, ↓xLt, ↓xLe, ↓xGt, ↓xGe, ↓xEqI, ↓xNeI, ↓xEqB, ↓xNeB, ↓xIsBB, ↓xIsNN, ↓xIsTN, ↓xIsLN, ↓xIsIN, ↓xIsSN, ↓xIsRN, ↓xNoBB, ↓xNoNN, ↓xNoTN, ↓xNoLN, ↓xNoIN, ↓xNoSN, ↓xNoRN, ↓xInT, ↓xIx, ↓xIxT, ↓xIxL, ↓at0, ↓at1, ↓at2, ↓at3, ↓at4, ↓at5, ↓xSl, ↓xNo, ↓xInt, ↓xPart, ↓xCutT, ↓xCutL, ↓xCB, ↓xLenT, ↓xLenL, ↓xIntI, ↓xTupT, ↓xTupL, ↓xLstT, ↓xLstL, ↓xIsiT, ↓xIsiI, ↓xIsiB, ↓xIsiS, ↓xMax2, ↓xMin2, ↓xSum, ↓xAll, ↓xApp, ↓xFld, ↓xFldS, ↓xGFd, ↓xCall, ↓xMeth, ↓xProp, ↓xNeg, ↓xNegI, ↓suIx0, ↓suIx1, ↓suIx2, ↓suIx3, ↓rwIx0, ↓rwIx1, ↓rwIx2, ↓rwIx3, ↓rwIx4, ↓rwIx5, ↓rwNo, ↓ddG, ↓ddS, ↓ddP, ↓ddGo, ↓liN, ↓liNe, ↓xFldX, ↓xFldWX, ↓xAppAX, ↓xAppBX, ↓xPop, ↓xPopK, ↓xLast, ↓xMthX, ↓xPrpX, ↓insU, ↓insN, ↓lsU, ↓lsN, ↓lk0, ↓lk1, ↓lk2, ↓lk3, ↓lk4, ↓lk5, ↓lk6, if_true, if_false, Bool.false_eq_true, Bool.true_eq_false, reduceIte, Bool.not_true, Bool.not_false, decide_eq_true_eq, Bool.not_eq_true', decide_eq_false_iff_not, not_true_eq_false, not_false_eq_true, and_true, true_and, true_implies, List.length_cons, List.length_nil, Nat.zero_le, decide_true, decide_false, decide_not, fl_len, pt2, pt3, pt4, pt5, pt6, ↓xGIx]
                  refine gixAt t1 (by unfold liftsD; rw [List.length_map]; have := tr.len; omega) ?_
                  simp only [↓xSeq, ↓xNx, ↓xRt, ↓xBk, ↓xCt, ↓xEndNx, ↓xEndRt, ↓xNext, ↓xBreak, ↓xCont, ↓xDrop, ↓xRet, ↓xRetN, ↓xNever, ↓xIfS, ↓xPut0, ↓xPutS, ↓xSet, ↓xAug, ↓xAsg, ↓xUn2, ↓xUn1, ↓xPar, ↓xNm, ↓xNl, ↓xCn, ↓xSq, ↓xSqL, ↓xV0, ↓xVS, ↓xC, ↓xFrz, ↓xFrz1, ↓xOp, ↓xBl, ↓xB, ↓xChain, ↓xAnd, ↓xOr, ↓xNot, ↓xAndV, ↓xOrV, ↓xNotV, ↓xIf, ↓xNil, ↓xCons, ↓xTup, ↓xLst, ↓xLstO, ↓xOpt, ↓xAddI, ↓xAddT, ↓xAddL, ↓xSub, ↓xIAdd, ↓xFdiv, ↓xMod, ↓xPow, ↓xMul, ↓xLt, ↓xLe, ↓xGt, ↓xGe, ↓xEqI, ↓xNeI, ↓xEqB, ↓xNeB, ↓xIsBB, ↓xIsNN, ↓xIsTN, ↓xIsLN, ↓xIsIN, ↓xIsSN, ↓xIsRN, ↓xNoBB, ↓xNoNN, ↓xNoTN, ↓xNoLN, ↓xNoIN, ↓xNoSN, ↓xNoRN, ↓xInT, ↓xIx, ↓xIxT, ↓xIxL, ↓at0, ↓at1, ↓at2, ↓at3, ↓at4, ↓at5, ↓xSl, ↓xNo, ↓xInt, ↓xPart, ↓xCutT, ↓xCutL, ↓xCB, ↓xLenT, ↓xLenL, ↓xIntI, ↓xTupT, ↓xTupL, ↓xLstT, ↓xLstL, ↓xIsiT, ↓xIsiI, ↓xIsiB, ↓xIsiS, ↓xMax2, ↓xMin2, ↓xSum, ↓xAll, ↓xApp, ↓xFld, ↓xFldS, ↓xGFd, ↓xCall, ↓xMeth, ↓xProp, ↓xNeg, ↓xNegI, ↓suIx0, ↓suIx1, ↓suIx2, ↓suIx3, ↓rwIx0, ↓rwIx1, ↓rwIx2, ↓rwIx3, ↓rwIx4, ↓rwIx5, ↓rwNo, ↓ddG, ↓ddS, ↓ddP, ↓ddGo, ↓liN, ↓liNe, ↓xFldX, ↓xFldWX, ↓xAppAX, ↓xAppBX, ↓xPop, ↓xPopK, ↓xLast, ↓xMthX, ↓xPrpX, ↓insU, ↓insN, ↓lsU, ↓lsN, ↓lk0, ↓lk1, ↓lk2, ↓lk3, ↓lk4, ↓lk5, ↓lk6, if_true, if_false, Bool.false_eq_true, Bool.true_eq_false, reduceIte, Bool.not_true, Bool.not_false, decide_eq_true_eq, Bool.not_eq_true', decide_eq_false_iff_not, not_true_eq_false, not_false_eq_true, and_true, true_and, true_implies, List.length_cons, List.length_nil, Nat.zero_le, decide_true, decide_false, decide_not, fl_len, pt2, pt3, pt4, pt5, pt6, ↓xGIx, ↓ixLs t2, ↓atNat rfl k2]
                  refine gixAt t2 (by unfold modsD; rw [List.length_map]; have := tr.len; omega) ?_
                  exact hK _ _ ⟨_, _, _, rfl, t3⟩
                · exact hK _ _ ⟨os, _, _, rfl, tr⟩
              · subst hρ
                simp only [↓xSeq, ↓xNx, ↓xRt, ↓xBk, ↓xCt, ↓xEndNx, ↓xEndRt, ↓xNext, ↓xBreak, ↓xCont, ↓xDrop, ↓xRet, ↓xRetN, ↓xNever, ↓xIfS, ↓xPut0, ↓xPutS, ↓xSet, ↓xAug, ↓xAsg, ↓xUn2, ↓xUn1, ↓xPar, ↓xNm, ↓xNl, ↓xCn, ↓xSq, ↓xSqL, ↓xV0, ↓xVS, ↓xC, ↓xFrz, ↓xFrz1, ↓xOp, ↓xBl, ↓xB, ↓xChain, ↓xAnd, ↓xOr, ↓xNot, ↓xAndV, ↓xOrV, ↓xNotV, ↓xIf, ↓xNil, ↓xCons, ↓xTup, ↓xLst, ↓xLstO, ↓xOpt, ↓xAddI, ↓xAddT, ↓xAddL, ↓xSub, ↓xIAdd, ↓xFdiv, ↓xMod, ↓xPow, ↓xMul, ↓xLt, ↓xLe, ↓xGt, ↓xGe, ↓xEqI, ↓xNeI, ↓xEqB, ↓xNeB, ↓xIsBB, ↓xIsNN, ↓xIsTN, ↓xIsLN, ↓xIsIN, ↓xIsSN, ↓xIsRN, ↓xNoBB, ↓xNoNN, ↓xNoTN, ↓xNoLN, ↓xNoIN, ↓xNoSN, ↓xNoRN, ↓xInT, ↓xIx, ↓xIxT, ↓xIxL, ↓at0, ↓at1, ↓at2, ↓at3, ↓at4, ↓at5, ↓xSl, ↓xNo, ↓xInt, ↓xPart, ↓xCutT, ↓xCutL, ↓xCB, ↓xLenT, ↓xLenL, ↓xIntI, ↓xTupT, ↓xTupL, ↓xLstT, ↓xLstL, ↓xIsiT, ↓xIsiI, ↓xIsiB, ↓xIsiS, ↓xMax2, ↓xMin2, ↓xSum, ↓xAll, ↓xApp, ↓xFld, ↓xFldS, ↓xGFd, ↓xCall, ↓xMeth, ↓xProp, ↓xNeg, ↓xNegI, ↓suIx0, ↓suIx1, ↓suIx2, ↓suIx3, ↓rwIx0, ↓rwIx1, ↓rwIx2, ↓rwIx3, ↓rwIx4, ↓rwIx5, ↓rwNo, ↓ddG, ↓ddS, ↓ddP, ↓ddGo, ↓liN, ↓liNe, ↓xFldX, ↓xFldWX, ↓xAppAX, ↓xAppBX, ↓xPop, ↓xPopK, ↓xLast, ↓xMthX, ↓xPrpX, ↓insU, ↓insN, ↓lsU, ↓lsN, ↓lk0, ↓lk1, ↓lk2, ↓lk3, ↓lk4, ↓lk5, ↓lk6, if_true, if_false, Bool.false_eq_true, Bool.true_eq_false, reduceIte, Bool.not_true, Bool.not_false, decide_eq_true_eq, Bool.not_eq_true', decide_eq_false_iff_not, not_true_eq_false, not_false_eq_true, and_true, true_and, true_implies, List.length_cons, List.length_nil, Nat.zero_le, decide_true, decide_false, decide_not, fl_len, pt2, pt3, pt4, pt5, pt6]
                refine tr.right (by simp; omega) ?_
                simp only [↓xSeq, ↓xNx, ↓xRt, ↓xBk, ↓xCt, ↓xEndNx, ↓xEndRt, ↓xNext, ↓xBreak, ↓xCont, ↓xDrop, ↓xRet, ↓xRetN, ↓xNever, ↓xIfS, ↓xPut0, ↓xPutS, ↓xSet, ↓xAug, ↓xAsg, ↓xUn2, ↓xUn1, ↓xPar, ↓xNm, ↓xNl, ↓xCn, ↓xSq, ↓xSqL, ↓xV0, ↓xVS, ↓xC, ↓xFrz, ↓xFrz1, ↓xOp, ↓xBl, ↓xB, ↓xChain, ↓xAnd, ↓xOr, ↓xNot, ↓xAndV, ↓xOrV, ↓xNotV, ↓xIf, ↓xNil, ↓xCons, ↓xTup, ↓xLst, ↓xLstO, ↓xOpt, ↓xAddI, ↓xAddT, ↓xAddL, ↓xSub, ↓xIAdd, ↓xFdiv, ↓xMod, ↓xPow, ↓xMul, ↓xLt, ↓xLe, ↓xGt, ↓xGe, ↓xEqI, ↓xNeI, ↓xEqB, ↓xNeB, ↓xIsBB, ↓xIsNN, ↓xIsTN, ↓xIsLN, ↓xIsIN, ↓xIsSN, ↓xIsRN, ↓xNoBB, ↓xNoNN, ↓xNoTN, ↓xNoLN, ↓xNoIN, ↓xNoSN, ↓xNoRN, ↓xInT, ↓xIx, ↓xIxT, ↓xIxL, ↓at0, ↓at1, ↓at2, ↓at3, ↓at4, ↓at5, ↓xSl, ↓xNo, ↓xInt, ↓xPart, ↓xCutT, ↓xCutL, ↓xCB, ↓xLenT, ↓xLenL, ↓xIntI, ↓xTupT, ↓xTupL, ↓xLstT, ↓xLstL, ↓xIsiT, ↓xIsiI, ↓xIsiB, ↓xIsiS, ↓xMax2, ↓xMin2, ↓xSum, ↓xAll, ↓xApp, ↓xFld, ↓xFldS, ↓xGFd, ↓xCall, ↓xMeth, ↓xProp, ↓xNeg, ↓xNegI, ↓suIx0, ↓suIx1, ↓suIx2, ↓suIx3, ↓rwIx0, ↓rwIx1, ↓rwIx2, ↓rwIx3, ↓rwIx4, ↓rwIx5, ↓rwNo, ↓ddG, ↓ddS, ↓ddP, ↓ddGo, ↓liN, ↓liNe, ↓xFldX, ↓xFldWX, ↓xAppAX, ↓xAppBX, ↓xPop, ↓xPopK, ↓xLast, ↓xMthX, ↓xPrpX, ↓insU, ↓insN, ↓lsU, ↓lsN, ↓lk0, ↓lk1, ↓lk2, ↓lk3, ↓lk4, ↓lk5, ↓lk6, if_true, if_false, Bool.false_eq_true, Bool.true_eq_false, reduceIte, Bool.not_true, Bool.not_false, decide_eq_true_eq, Bool.not_eq_true', decide_eq_false_iff_not, not_true_eq_false, not_false_eq_true, and_true, true_and, true_implies, List.length_cons, List.length_nil, Nat.zero_le, decide_true, decide_false, decide_not, fl_len, pt2, pt3, pt4, pt5, pt6]
                exact ⟨os, _, _, _, _, _, rfl, by rw [List.length_append]; exact tr⟩
      · subst hρ
        rw [xNx, xRet]
        simp only [↓xSeq, ↓xNx, ↓xRt, ↓xBk, ↓xCt, ↓xEndNx, ↓xEndRt, ↓xNext, ↓xBreak, ↓xCont, ↓xDrop, ↓xRet, ↓xRetN, ↓xNever, ↓xIfS, ↓xPut0, ↓xPutS, ↓xSet, ↓xAug, ↓xAsg, ↓xUn2, ↓xUn1, ↓xPar, ↓xNm, ↓xNl, ↓xCn, ↓xSq, ↓xSqL, ↓xV0, ↓xVS, ↓xC, ↓xFrz, ↓xFrz1, ↓xOp, ↓xBl, ↓xB, ↓xChain, ↓xAnd, ↓xOr, ↓xNot, ↓xAndV, ↓xOrV, ↓xNotV, ↓xIf, ↓xNil, ↓xCons, ↓xTup, ↓xLst, ↓xLstO, ↓xOpt, ↓xAddI, ↓xAddT, ↓xAddL, ↓xSub, ↓xIAdd, ↓xFdiv, ↓xMod, ↓xPow, ↓xMul, ↓xLt, ↓xLe, ↓xGt, ↓xGe, ↓xEqI, ↓xNeI, ↓xEqB, ↓xNeB, ↓xIsBB, ↓xIsNN, ↓xIsTN, ↓xIsLN, ↓xIsIN, ↓xIsSN, ↓xIsRN, ↓xNoBB, ↓xNoNN, ↓xNoTN, ↓xNoLN, ↓xNoIN, ↓xNoSN, ↓xNoRN, ↓xInT, ↓xIx, ↓xIxT, ↓xIxL, ↓at0, ↓at1, ↓at2, ↓at3, ↓at4, ↓at5, ↓xSl, ↓xNo, ↓xInt, ↓xPart, ↓xCutT, ↓xCutL, ↓xCB, ↓xLenT, ↓xLenL, ↓xIntI, ↓xTupT, ↓xTupL, ↓xLstT, ↓xLstL, ↓xIsiT, ↓xIsiI, ↓xIsiB, ↓xIsiS, ↓xMax2, ↓xMin2, ↓xSum, ↓xAll, ↓xApp, ↓xFld, ↓xFldS, ↓xGFd, ↓xCall, ↓xMeth, ↓xProp, ↓xNeg, ↓xNegI, ↓suIx0, ↓suIx1, ↓suIx2, ↓suIx3, ↓rwIx0, ↓rwIx1, ↓rwIx2, ↓rwIx3, ↓rwIx4, ↓rwIx5, ↓rwNo, ↓ddG, ↓ddS, ↓ddP, ↓ddGo, ↓liN, ↓liNe, ↓xFldX, ↓xFldWX, ↓xAppAX, ↓xAppBX, ↓xPop, ↓xPopK, ↓xLast, ↓xMthX, ↓xPrpX, ↓insU, ↓insN, ↓lsU, ↓lsN, ↓lk0, ↓lk1, ↓lk2, ↓lk3, ↓lk4, ↓lk5, ↓lk6, if_true, if_false, Bool.false_eq_true, Bool.true_eq_false, reduceIte, Bool.not_true, Bool.not_false, decide_eq_true_eq, Bool.not_eq_true', decide_eq_false_iff_not, not_true_eq_false, not_false_eq_true, and_true, true_and, true_implies, List.length_cons, List.length_nil, Nat.zero_le, decide_true, decide_false, decide_not, fl_len, pt2, pt3, pt4, pt5, pt6]
        have hl20 : (cutI l 3 23).length ≤ 20 := by rw [cutI_len]; omega
        exact tr.right (by omega) (fin (hq _))

end DL
namespace DL
open PySem PySem.Spec PyProof.Rows L2
theorem all_mk {l : PySem.W.OpenLaw} {w : World} {K : PySem.W.Frag} {h : Heap} {mg : Str → Option Value} {fa : Addr} {C_Lift : Addr} {cx_Lift : PySem.ClassData} {T_kDEEDS : Addr} {od_kDEEDS : Option Addr} {m_kDEEDS : Nat} {sl_kDEEDS : Array (Option Value)} {t_kDEEDS_0 : Tok} {t_kDEEDS_1 : Tok} {t_kDEEDS_2 : Tok} {t_kDEEDS_3 : Tok} {t_kMOST_ROWS : Tok} {T_kSTART : Addr} {od_kSTART : Option Addr} {m_kSTART : Nat} {sl_kSTART : Array (Option Value)} {t_kSTART_0 : Tok} {T_kSTART_1 : Addr} {od_kSTART_1 : Option Addr} {m_kSTART_1 : Nat} {sl_kSTART_1 : Array (Option Value)} {t_kSTART_2 : Tok} {t_kSTART_3 : Tok} {f0 : Addr} {od0 an0 : Option Addr} {sl0 : Array (Option Value)} {oc0 kV0 dc0 pm0 cd0 ct0 : Value} {f1 : Addr} {od1 an1 : Option Addr} {sl1 : Array (Option Value)} {oc1 kV1 dc1 pm1 cd1 ct1 : Value} {f2 : Addr} {od2 an2 : Option Addr} {sl2 : Array (Option Value)} {oc2 kV2 dc2 pm2 cd2 ct2 : Value} {f3 : Addr} {od3 an3 : Option Addr} {sl3 : Array (Option Value)} {oc3 kV3 dc3 pm3 cd3 ct3 : Value} {f4 : Addr} {od4 an4 : Option Addr} {sl4 : Array (Option Value)} {oc4 kV4 dc4 pm4 cd4 ct4 : Value} {f5 : Addr} {od5 an5 : Option Addr} {sl5 : Array (Option Value)} {oc5 kV5 dc5 pm5 cd5 ct5 : Value} {f6 : Addr} {od6 an6 : Option Addr} {sl6 : Array (Option Value)} {oc6 kV6 dc6 pm6 cd6 ct6 : Value} {f7 : Addr} {od7 an7 : Option Addr} {sl7 : Array (Option Value)} {oc7 kV7 dc7 pm7 cd7 ct7 : Value} {f8 : Addr} {od8 an8 : Option Addr} {sl8 : Array (Option Value)} {oc8 kV8 dc8 pm8 cd8 ct8 : Value} {f9 : Addr} {od9 an9 : Option Addr} {sl9 : Array (Option Value)} {oc9 kV9 dc9 pm9 cd9 ct9 : Value} {f10 : Addr} {od10 an10 : Option Addr} {sl10 : Array (Option Value)} {oc10 kV10 dc10 pm10 cd10 ct10 : Value} {f11 : Addr} {od11 an11 : Option Addr} {sl11 : Array (Option Value)} {oc11 kV11 dc11 pm11 cd11 ct11 : Value} {f12 : Addr} {od12 an12 : Option Addr} {sl12 : Array (Option Value)} {oc12 kV12 dc12 pm12 cd12 ct12 : Value} {f13 : Addr} {od13 an13 : Option Addr} {sl13 : Array (Option Value)} {oc13 kV13 dc13 pm13 cd13 ct13 : Value} {f14 : Addr} {od14 an14 : Option Addr} {sl14 : Array (Option Value)} {oc14 kV14 dc14 pm14 cd14 ct14 : Value} {f15 : Addr} {od15 an15 : Option Addr} {sl15 : Array (Option Value)} {oc15 kV15 dc15 pm15 cd15 ct15 : Value} {f16 : Addr} {od16 an16 : Option Addr} {sl16 : Array (Option Value)} {oc16 kV16 dc16 pm16 cd16 ct16 : Value} {f17 : Addr} {od17 an17 : Option Addr} {sl17 : Array (Option Value)} {oc17 kV17 dc17 pm17 cd17 ct17 : Value} {f18 : Addr} {od18 an18 : Option Addr} {sl18 : Array (Option Value)} {oc18 kV18 dc18 pm18 cd18 ct18 : Value} {f19 : Addr} {od19 an19 : Option Addr} {sl19 : Array (Option Value)} {oc19 kV19 dc19 pm19 cd19 ct19 : Value} {f20 : Addr} {od20 an20 : Option Addr} {sl20 : Array (Option Value)} {oc20 kV20 dc20 pm20 cd20 ct20 : Value} {f21 : Addr} {od21 an21 : Option Addr} {sl21 : Array (Option Value)} {oc21 kV21 dc21 pm21 cd21 ct21 : Value} {f22 : Addr} {od22 an22 : Option Addr} {sl22 : Array (Option Value)} {oc22 kV22 dc22 pm22 cd22 ct22 : Value} {f23 : Addr} {od23 an23 : Option Addr} {sl23 : Array (Option Value)} {oc23 kV23 dc23 pm23 cd23 ct23 : Value} {f24 : Addr} {od24 an24 : Option Addr} {sl24 : Array (Option Value)} {oc24 kV24 dc24 pm24 cd24 ct24 : Value} {TD24 e24 : Addr} {oe24 : Value} {de24 : Option Addr} {me24 : Nat} {se24 : Array (Option Value)} {f25 : Addr} {od25 an25 : Option Addr} {sl25 : Array (Option Value)} {oc25 kV25 dc25 pm25 cd25 ct25 : Value} {f26 : Addr} {od26 an26 : Option Addr} {sl26 : Array (Option Value)} {oc26 kV26 dc26 pm26 cd26 ct26 : Value} {f27 : Addr} {od27 an27 : Option Addr} {sl27 : Array (Option Value)} {oc27 kV27 dc27 pm27 cd27 ct27 : Value} {f28 : Addr} {od28 an28 : Option Addr} {sl28 : Array (Option Value)} {oc28 kV28 dc28 pm28 cd28 ct28 : Value} {f29 : Addr} {od29 an29 : Option Addr} {sl29 : Array (Option Value)} {oc29 kV29 dc29 pm29 cd29 ct29 : Value} {f30 : Addr} {od30 an30 : Option Addr} {sl30 : Array (Option Value)} {oc30 kV30 dc30 pm30 cd30 ct30 : Value} {f31 : Addr} {od31 an31 : Option Addr} {sl31 : Array (Option Value)} {oc31 kV31 dc31 pm31 cd31 ct31 : Value} {f32 : Addr} {od32 an32 : Option Addr} {sl32 : Array (Option Value)} {oc32 kV32 dc32 pm32 cd32 ct32 : Value} {f33 : Addr} {od33 an33 : Option Addr} {sl33 : Array (Option Value)} {oc33 kV33 dc33 pm33 cd33 ct33 : Value} {f34 : Addr} {od34 an34 : Option Addr} {sl34 : Array (Option Value)} {oc34 kV34 dc34 pm34 cd34 ct34 : Value} {f35 : Addr} {od35 an35 : Option Addr} {sl35 : Array (Option Value)} {oc35 kV35 dc35 pm35 cd35 ct35 : Value} {f36 : Addr} {od36 an36 : Option Addr} {sl36 : Array (Option Value)} {oc36 kV36 dc36 pm36 cd36 ct36 : Value} {f37 : Addr} {od37 an37 : Option Addr} {sl37 : Array (Option Value)} {oc37 kV37 dc37 pm37 cd37 ct37 : Value} {f38 : Addr} {od38 an38 : Option Addr} {sl38 : Array (Option Value)} {oc38 kV38 dc38 pm38 cd38 ct38 : Value} {f39 : Addr} {od39 an39 : Option Addr} {sl39 : Array (Option Value)} {oc39 kV39 dc39 pm39 cd39 ct39 : Value} {f40 : Addr} {od40 an40 : Option Addr} {sl40 : Array (Option Value)} {oc40 kV40 dc40 pm40 cd40 ct40 : Value} {f41 : Addr} {od41 an41 : Option Addr} {sl41 : Array (Option Value)} {oc41 kV41 dc41 pm41 cd41 ct41 : Value} {f42 : Addr} {od42 an42 : Option Addr} {sl42 : Array (Option Value)} {oc42 kV42 dc42 pm42 cd42 ct42 : Value} {f43 : Addr} {od43 an43 : Option Addr} {sl43 : Array (Option Value)} {oc43 kV43 dc43 pm43 cd43 ct43 : Value} {f44 : Addr} {od44 an44 : Option Addr} {sl44 : Array (Option Value)} {oc44 kV44 dc44 pm44 cd44 ct44 : Value} {f45 : Addr} {od45 an45 : Option Addr} {sl45 : Array (Option Value)} {oc45 kV45 dc45 pm45 cd45 ct45 : Value} {f46 : Addr} {od46 an46 : Option Addr} {sl46 : Array (Option Value)} {oc46 kV46 dc46 pm46 cd46 ct46 : Value} (X : K.In h) (G : h.Ns mainGlobals mg) (hfa : mg "law" = some (.ref fa))
    (aC_Lift : PySem.W.nsIn K mainGlobals "Lift" = some (some (.ref C_Lift)))
    (pg_Lift : PySem.W.plainGet K C_Lift Str.empty = true)
    (hd_Lift : PySem.W.hasDictIn K C_Lift = true)
    (po_Lift : PySem.W.plainOver K C_Lift = true)
    (sa_Lift : PySem.W.findIn K (.ref C_Lift) "__setattr__" = some (some (.builtin "object.__setattr__")))
    (mk_Lift : PySem.W.makesIn K C_Lift = true)
    (kc_Lift : PySem.W.keepIn K (.ref C_Lift) = true)
    (n_Lift_setup : PySem.W.findIn K (.ref C_Lift) "setup" = some none)
    (n_Lift_first : PySem.W.findIn K (.ref C_Lift) "first" = some none)
    (n_Lift_present : PySem.W.findIn K (.ref C_Lift) "present" = some none)
    (n_Lift_here : PySem.W.findIn K (.ref C_Lift) "here" = some none)
    (n_Lift_done : PySem.W.findIn K (.ref C_Lift) "done" = some none)
    (n_Lift_gone : PySem.W.findIn K (.ref C_Lift) "gone" = some none)
    (n_Lift_earlier : PySem.W.findIn K (.ref C_Lift) "earlier" = some none)
    (ha_Lift : PySem.W.findIn K (.ref C_Lift) "__class__" = some (some (.builtin "object.__class__")))
    (hn_Lift : PySem.W.specialIn K (.builtin "object.__class__") "__get__" = some (some (.builtin "getset_descriptor.__get__")))
    (ht_Lift : PySem.W.takesIn K (.builtin "object.__class__") = some true)
    (hm_Lift : PySem.W.mroIn K C_Lift (.type "object") = some true)
    (cx1_Lift : PySem.W.clsIn K C_Lift = some cx_Lift)
    (cx2_Lift : PySem.W.typeIn K (.ref C_Lift) = some (.type "type"))
    (kn_Lift : PySem.W.subIn K (.type "NoneType") (.ref C_Lift) = some false)
    (kt_Lift : PySem.W.subIn K (.type "tuple") (.ref C_Lift) = some false)
    (kl_Lift : PySem.W.subIn K (.type "list") (.ref C_Lift) = some false)
    (z_all : PySem.W.nsIn K mainGlobals "all" = some none)
    (z_bool : PySem.W.nsIn K mainGlobals "bool" = some none)
    (z_int : PySem.W.nsIn K mainGlobals "int" = some none)
    (z_isinstance : PySem.W.nsIn K mainGlobals "isinstance" = some none)
    (z_len : PySem.W.nsIn K mainGlobals "len" = some none)
    (z_list : PySem.W.nsIn K mainGlobals "list" = some none)
    (z_max : PySem.W.nsIn K mainGlobals "max" = some none)
    (z_min : PySem.W.nsIn K mainGlobals "min" = some none)
    (z_range : PySem.W.nsIn K mainGlobals "range" = some none)
    (z_str : PySem.W.nsIn K mainGlobals "str" = some none)
    (z_tuple : PySem.W.nsIn K mainGlobals "tuple" = some none)
    (z_zip : PySem.W.nsIn K mainGlobals "zip" = some none)
    (lT_kDEEDS : K.lookup T_kDEEDS = some ⟨.type "tuple", od_kDEEDS, .seq #[.str "group" t_kDEEDS_0, .str "single" t_kDEEDS_1, .str "part" t_kDEEDS_2, .str "go" t_kDEEDS_3] m_kDEEDS, sl_kDEEDS⟩)
    (aK_DEEDS : PySem.W.nsIn K mainGlobals "DEEDS" = some (some (.ref T_kDEEDS)))
    (aK_MOST_ROWS : PySem.W.nsIn K mainGlobals "MOST_ROWS" = some (some (.int 8 t_kMOST_ROWS)))
    (lT_kSTART_1 : K.lookup T_kSTART_1 = some ⟨.type "tuple", od_kSTART_1, .seq #[] m_kSTART_1, sl_kSTART_1⟩)
    (lT_kSTART : K.lookup T_kSTART = some ⟨.type "tuple", od_kSTART, .seq #[.int 0 t_kSTART_0, .ref T_kSTART_1, .int 0 t_kSTART_2, .int 0 t_kSTART_3] m_kSTART, sl_kSTART⟩)
    (aK_START : PySem.W.nsIn K mainGlobals "START" = some (some (.ref T_kSTART)))
    (a0 : PySem.W.nsIn K mainGlobals "_law_setup" = some (some (.ref f0)))
    (l0 : K.lookup f0 = some ⟨oc0, od0, .func (PySem.W.fnOf "_law_setup" "_law_setup" (defArgs s__law_setup) (defBody s__law_setup) (defScope s__law_setup) .none kV0 dc0 pm0 an0 cd0 ct0), sl0⟩)
    (c0 : PySem.W.codeIn K cd0 "_law_setup" = true)
    (k0 : PySem.W.keepIn K (.ref f0) = true)
    (a1 : PySem.W.nsIn K mainGlobals "_law_draws" = some (some (.ref f1)))
    (l1 : K.lookup f1 = some ⟨oc1, od1, .func (PySem.W.fnOf "_law_draws" "_law_draws" (defArgs s__law_draws) (defBody s__law_draws) (defScope s__law_draws) .none kV1 dc1 pm1 an1 cd1 ct1), sl1⟩)
    (c1 : PySem.W.codeIn K cd1 "_law_draws" = true)
    (k1 : PySem.W.keepIn K (.ref f1) = true)
    (a2 : PySem.W.findIn K (.ref C_Lift) "__eq__" = some (some (.ref f2)))
    (i2 : PySem.W.isFn K (.ref f2) = true)
    (l2 : K.lookup f2 = some ⟨oc2, od2, .func (PySem.W.fnOf "__eq__" "Lift.__eq__" (defArgs s_Lift___eq__) (defBody s_Lift___eq__) (defScope s_Lift___eq__) .none kV2 dc2 pm2 an2 cd2 ct2), sl2⟩)
    (c2 : PySem.W.codeIn K cd2 "Lift.__eq__" = true)
    (k2 : PySem.W.keepIn K (.ref f2) = true)
    (a3 : PySem.W.findIn K (.ref C_Lift) "state" = some (some (.ref f3)))
    (i3 : PySem.W.isFn K (.ref f3) = true)
    (l3 : K.lookup f3 = some ⟨oc3, od3, .func (PySem.W.fnOf "state" "Lift.state" (defArgs s_Lift_state) (defBody s_Lift_state) (defScope s_Lift_state) .none kV3 dc3 pm3 an3 cd3 ct3), sl3⟩)
    (c3 : PySem.W.codeIn K cd3 "Lift.state" = true)
    (k3 : PySem.W.keepIn K (.ref f3) = true)
    (a4 : PySem.W.findIn K (.ref C_Lift) "chairs" = some (some (.ref f4)))
    (i4 : PySem.W.isFn K (.ref f4) = true)
    (l4 : K.lookup f4 = some ⟨oc4, od4, .func (PySem.W.fnOf "chairs" "Lift.chairs" (defArgs s_Lift_chairs) (defBody s_Lift_chairs) (defScope s_Lift_chairs) .none kV4 dc4 pm4 an4 cd4 ct4), sl4⟩)
    (c4 : PySem.W.codeIn K cd4 "Lift.chairs" = true)
    (k4 : PySem.W.keepIn K (.ref f4) = true)
    (a5 : PySem.W.findIn K (.ref C_Lift) "row" = some (some (.ref f5)))
    (i5 : PySem.W.isFn K (.ref f5) = true)
    (l5 : K.lookup f5 = some ⟨oc5, od5, .func (PySem.W.fnOf "row" "Lift.row" (defArgs s_Lift_row) (defBody s_Lift_row) (defScope s_Lift_row) .none kV5 dc5 pm5 an5 cd5 ct5), sl5⟩)
    (c5 : PySem.W.codeIn K cd5 "Lift.row" = true)
    (k5 : PySem.W.keepIn K (.ref f5) = true)
    (a6 : PySem.W.nsIn K mainGlobals "_law_row_of" = some (some (.ref f6)))
    (l6 : K.lookup f6 = some ⟨oc6, od6, .func (PySem.W.fnOf "_law_row_of" "_law_row_of" (defArgs s__law_row_of) (defBody s__law_row_of) (defScope s__law_row_of) .none kV6 dc6 pm6 an6 cd6 ct6), sl6⟩)
    (c6 : PySem.W.codeIn K cd6 "_law_row_of" = true)
    (k6 : PySem.W.keepIn K (.ref f6) = true)
    (a7 : PySem.W.findIn K (.ref C_Lift) "rule" = some (some (.ref f7)))
    (i7 : PySem.W.isFn K (.ref f7) = true)
    (l7 : K.lookup f7 = some ⟨oc7, od7, .func (PySem.W.fnOf "rule" "Lift.rule" (defArgs s_Lift_rule) (defBody s_Lift_rule) (defScope s_Lift_rule) .none kV7 dc7 pm7 an7 cd7 ct7), sl7⟩)
    (c7 : PySem.W.codeIn K cd7 "Lift.rule" = true)
    (k7 : PySem.W.keepIn K (.ref f7) = true)
    (a8 : PySem.W.nsIn K mainGlobals "_law_same" = some (some (.ref f8)))
    (l8 : K.lookup f8 = some ⟨oc8, od8, .func (PySem.W.fnOf "_law_same" "_law_same" (defArgs s__law_same) (defBody s__law_same) (defScope s__law_same) .none kV8 dc8 pm8 an8 cd8 ct8), sl8⟩)
    (c8 : PySem.W.codeIn K cd8 "_law_same" = true)
    (k8 : PySem.W.keepIn K (.ref f8) = true)
    (a9 : PySem.W.nsIn K mainGlobals "_law_right" = some (some (.ref f9)))
    (l9 : K.lookup f9 = some ⟨oc9, od9, .func (PySem.W.fnOf "_law_right" "_law_right" (defArgs s__law_right) (defBody s__law_right) (defScope s__law_right) .none kV9 dc9 pm9 an9 cd9 ct9), sl9⟩)
    (c9 : PySem.W.codeIn K cd9 "_law_right" = true)
    (k9 : PySem.W.keepIn K (.ref f9) = true)
    (a10 : PySem.W.nsIn K mainGlobals "_law_cell_at" = some (some (.ref f10)))
    (l10 : K.lookup f10 = some ⟨oc10, od10, .func (PySem.W.fnOf "_law_cell_at" "_law_cell_at" (defArgs s__law_cell_at) (defBody s__law_cell_at) (defScope s__law_cell_at) .none kV10 dc10 pm10 an10 cd10 ct10), sl10⟩)
    (c10 : PySem.W.codeIn K cd10 "_law_cell_at" = true)
    (k10 : PySem.W.keepIn K (.ref f10) = true)
    (a11 : PySem.W.nsIn K mainGlobals "_law_range" = some (some (.ref f11)))
    (l11 : K.lookup f11 = some ⟨oc11, od11, .func (PySem.W.fnOf "_law_range" "_law_range" (defArgs s__law_range) (defBody s__law_range) (defScope s__law_range) .none kV11 dc11 pm11 an11 cd11 ct11), sl11⟩)
    (c11 : PySem.W.codeIn K cd11 "_law_range" = true)
    (k11 : PySem.W.keepIn K (.ref f11) = true)
    (a12 : PySem.W.nsIn K mainGlobals "_law_rule" = some (some (.ref f12)))
    (l12 : K.lookup f12 = some ⟨oc12, od12, .func (PySem.W.fnOf "_law_rule" "_law_rule" (defArgs s__law_rule) (defBody s__law_rule) (defScope s__law_rule) .none kV12 dc12 pm12 an12 cd12 ct12), sl12⟩)
    (c12 : PySem.W.codeIn K cd12 "_law_rule" = true)
    (k12 : PySem.W.keepIn K (.ref f12) = true)
    (a13 : PySem.W.nsIn K mainGlobals "is_integer" = some (some (.ref f13)))
    (l13 : K.lookup f13 = some ⟨oc13, od13, .func (PySem.W.fnOf "is_integer" "is_integer" (defArgs s_is_integer) (defBody s_is_integer) (defScope s_is_integer) .none kV13 dc13 pm13 an13 cd13 ct13), sl13⟩)
    (c13 : PySem.W.codeIn K cd13 "is_integer" = true)
    (k13 : PySem.W.keepIn K (.ref f13) = true)
    (a14 : PySem.W.nsIn K mainGlobals "is_number" = some (some (.ref f14)))
    (l14 : K.lookup f14 = some ⟨oc14, od14, .func (PySem.W.fnOf "is_number" "is_number" (defArgs s_is_number) (defBody s_is_number) (defScope s_is_number) .none kV14 dc14 pm14 an14 cd14 ct14), sl14⟩)
    (c14 : PySem.W.codeIn K cd14 "is_number" = true)
    (k14 : PySem.W.keepIn K (.ref f14) = true)
    (a15 : PySem.W.nsIn K mainGlobals "are_numbers" = some (some (.ref f15)))
    (l15 : K.lookup f15 = some ⟨oc15, od15, .func (PySem.W.fnOf "are_numbers" "are_numbers" (defArgs s_are_numbers) (defBody s_are_numbers) (defScope s_are_numbers) .none kV15 dc15 pm15 an15 cd15 ct15), sl15⟩)
    (c15 : PySem.W.codeIn K cd15 "are_numbers" = true)
    (k15 : PySem.W.keepIn K (.ref f15) = true)
    (a16 : PySem.W.nsIn K mainGlobals "are_most" = some (some (.ref f16)))
    (l16 : K.lookup f16 = some ⟨oc16, od16, .func (PySem.W.fnOf "are_most" "are_most" (defArgs s_are_most) (defBody s_are_most) (defScope s_are_most) .none kV16 dc16 pm16 an16 cd16 ct16), sl16⟩)
    (c16 : PySem.W.codeIn K cd16 "are_most" = true)
    (k16 : PySem.W.keepIn K (.ref f16) = true)
    (a17 : PySem.W.nsIn K mainGlobals "is_setup" = some (some (.ref f17)))
    (l17 : K.lookup f17 = some ⟨oc17, od17, .func (PySem.W.fnOf "is_setup" "is_setup" (defArgs s_is_setup) (defBody s_is_setup) (defScope s_is_setup) .none kV17 dc17 pm17 an17 cd17 ct17), sl17⟩)
    (c17 : PySem.W.codeIn K cd17 "is_setup" = true)
    (k17 : PySem.W.keepIn K (.ref f17) = true)
    (a18 : PySem.W.nsIn K mainGlobals "check_setup" = some (some (.ref f18)))
    (l18 : K.lookup f18 = some ⟨oc18, od18, .func (PySem.W.fnOf "check_setup" "check_setup" (defArgs s_check_setup) (defBody s_check_setup) (defScope s_check_setup) .none kV18 dc18 pm18 an18 cd18 ct18), sl18⟩)
    (c18 : PySem.W.codeIn K cd18 "check_setup" = true)
    (k18 : PySem.W.keepIn K (.ref f18) = true)
    (a19 : PySem.W.nsIn K mainGlobals "is_range" = some (some (.ref f19)))
    (l19 : K.lookup f19 = some ⟨oc19, od19, .func (PySem.W.fnOf "is_range" "is_range" (defArgs s_is_range) (defBody s_is_range) (defScope s_is_range) .none kV19 dc19 pm19 an19 cd19 ct19), sl19⟩)
    (c19 : PySem.W.codeIn K cd19 "is_range" = true)
    (k19 : PySem.W.keepIn K (.ref f19) = true)
    (a20 : PySem.W.nsIn K mainGlobals "is_rule_row" = some (some (.ref f20)))
    (l20 : K.lookup f20 = some ⟨oc20, od20, .func (PySem.W.fnOf "is_rule_row" "is_rule_row" (defArgs s_is_rule_row) (defBody s_is_rule_row) (defScope s_is_rule_row) .none kV20 dc20 pm20 an20 cd20 ct20), sl20⟩)
    (c20 : PySem.W.codeIn K cd20 "is_rule_row" = true)
    (k20 : PySem.W.keepIn K (.ref f20) = true)
    (a21 : PySem.W.nsIn K mainGlobals "is_rule" = some (some (.ref f21)))
    (l21 : K.lookup f21 = some ⟨oc21, od21, .func (PySem.W.fnOf "is_rule" "is_rule" (defArgs s_is_rule) (defBody s_is_rule) (defScope s_is_rule) .none kV21 dc21 pm21 an21 cd21 ct21), sl21⟩)
    (c21 : PySem.W.codeIn K cd21 "is_rule" = true)
    (k21 : PySem.W.keepIn K (.ref f21) = true)
    (a22 : PySem.W.nsIn K mainGlobals "check_both" = some (some (.ref f22)))
    (l22 : K.lookup f22 = some ⟨oc22, od22, .func (PySem.W.fnOf "check_both" "check_both" (defArgs s_check_both) (defBody s_check_both) (defScope s_check_both) .none kV22 dc22 pm22 an22 cd22 ct22), sl22⟩)
    (c22 : PySem.W.codeIn K cd22 "check_both" = true)
    (k22 : PySem.W.keepIn K (.ref f22) = true)
    (a23 : PySem.W.nsIn K mainGlobals "first_state" = some (some (.ref f23)))
    (l23 : K.lookup f23 = some ⟨oc23, od23, .func (PySem.W.fnOf "first_state" "first_state" (defArgs s_first_state) (defBody s_first_state) (defScope s_first_state) .none kV23 dc23 pm23 an23 cd23 ct23), sl23⟩)
    (c23 : PySem.W.codeIn K cd23 "first_state" = true)
    (k23 : PySem.W.keepIn K (.ref f23) = true)
    (a24 : PySem.W.findIn K (.ref C_Lift) "__init__" = some (some (.ref f24)))
    (i24 : PySem.W.isFn K (.ref f24) = true)
    (l24 : K.lookup f24 = some ⟨oc24, od24, .func (PySem.W.fnOf "__init__" "Lift.__init__" (defArgs s_Lift___init__) (defBody s_Lift___init__) (defScope s_Lift___init__) (.ref TD24) kV24 dc24 pm24 an24 cd24 ct24), sl24⟩)
    (c24 : PySem.W.codeIn K cd24 "Lift.__init__" = true)
    (k24 : PySem.W.keepIn K (.ref f24) = true)
    (lD24 : K.lookup TD24 = some ⟨oe24, de24, .seq #[.ref e24] me24, se24⟩)
    (a25 : PySem.W.findIn K (.ref C_Lift) "copy" = some (some (.ref f25)))
    (i25 : PySem.W.isFn K (.ref f25) = true)
    (l25 : K.lookup f25 = some ⟨oc25, od25, .func (PySem.W.fnOf "copy" "Lift.copy" (defArgs s_Lift_copy) (defBody s_Lift_copy) (defScope s_Lift_copy) .none kV25 dc25 pm25 an25 cd25 ct25), sl25⟩)
    (c25 : PySem.W.codeIn K cd25 "Lift.copy" = true)
    (k25 : PySem.W.keepIn K (.ref f25) = true)
    (a26 : PySem.W.nsIn K mainGlobals "_law_new" = some (some (.ref f26)))
    (l26 : K.lookup f26 = some ⟨oc26, od26, .func (PySem.W.fnOf "_law_new" "_law_new" (defArgs s__law_new) (defBody s__law_new) (defScope s__law_new) .none kV26 dc26 pm26 an26 cd26 ct26), sl26⟩)
    (c26 : PySem.W.codeIn K cd26 "_law_new" = true)
    (k26 : PySem.W.keepIn K (.ref f26) = true)
    (a27 : PySem.W.nsIn K mainGlobals "_law_comers" = some (some (.ref f27)))
    (l27 : K.lookup f27 = some ⟨oc27, od27, .func (PySem.W.fnOf "_law_comers" "_law_comers" (defArgs s__law_comers) (defBody s__law_comers) (defScope s__law_comers) .none kV27 dc27 pm27 an27 cd27 ct27), sl27⟩)
    (c27 : PySem.W.codeIn K cd27 "_law_comers" = true)
    (k27 : PySem.W.keepIn K (.ref f27) = true)
    (a28 : PySem.W.nsIn K mainGlobals "_law_fits" = some (some (.ref f28)))
    (l28 : K.lookup f28 = some ⟨oc28, od28, .func (PySem.W.fnOf "_law_fits" "_law_fits" (defArgs s__law_fits) (defBody s__law_fits) (defScope s__law_fits) .none kV28 dc28 pm28 an28 cd28 ct28), sl28⟩)
    (c28 : PySem.W.codeIn K cd28 "_law_fits" = true)
    (k28 : PySem.W.keepIn K (.ref f28) = true)
    (a29 : PySem.W.nsIn K mainGlobals "_law_beat" = some (some (.ref f29)))
    (l29 : K.lookup f29 = some ⟨oc29, od29, .func (PySem.W.fnOf "_law_beat" "_law_beat" (defArgs s__law_beat) (defBody s__law_beat) (defScope s__law_beat) .none kV29 dc29 pm29 an29 cd29 ct29), sl29⟩)
    (c29 : PySem.W.codeIn K cd29 "_law_beat" = true)
    (k29 : PySem.W.keepIn K (.ref f29) = true)
    (a30 : PySem.W.nsIn K mainGlobals "_law_moved" = some (some (.ref f30)))
    (l30 : K.lookup f30 = some ⟨oc30, od30, .func (PySem.W.fnOf "_law_moved" "_law_moved" (defArgs s__law_moved) (defBody s__law_moved) (defScope s__law_moved) .none kV30 dc30 pm30 an30 cd30 ct30), sl30⟩)
    (c30 : PySem.W.codeIn K cd30 "_law_moved" = true)
    (k30 : PySem.W.keepIn K (.ref f30) = true)
    (a31 : PySem.W.findIn K (.ref C_Lift) "undo" = some (some (.ref f31)))
    (i31 : PySem.W.isFn K (.ref f31) = true)
    (l31 : K.lookup f31 = some ⟨oc31, od31, .func (PySem.W.fnOf "undo" "Lift.undo" (defArgs s_Lift_undo) (defBody s_Lift_undo) (defScope s_Lift_undo) .none kV31 dc31 pm31 an31 cd31 ct31), sl31⟩)
    (c31 : PySem.W.codeIn K cd31 "Lift.undo" = true)
    (k31 : PySem.W.keepIn K (.ref f31) = true)
    (a32 : PySem.W.nsIn K mainGlobals "_law_undone" = some (some (.ref f32)))
    (l32 : K.lookup f32 = some ⟨oc32, od32, .func (PySem.W.fnOf "_law_undone" "_law_undone" (defArgs s__law_undone) (defBody s__law_undone) (defScope s__law_undone) .none kV32 dc32 pm32 an32 cd32 ct32), sl32⟩)
    (c32 : PySem.W.codeIn K cd32 "_law_undone" = true)
    (k32 : PySem.W.keepIn K (.ref f32) = true)
    (a33 : PySem.W.findIn K (.ref C_Lift) "change_rule" = some (some (.ref f33)))
    (i33 : PySem.W.isFn K (.ref f33) = true)
    (l33 : K.lookup f33 = some ⟨oc33, od33, .func (PySem.W.fnOf "change_rule" "Lift.change_rule" (defArgs s_Lift_change_rule) (defBody s_Lift_change_rule) (defScope s_Lift_change_rule) .none kV33 dc33 pm33 an33 cd33 ct33), sl33⟩)
    (c33 : PySem.W.codeIn K cd33 "Lift.change_rule" = true)
    (k33 : PySem.W.keepIn K (.ref f33) = true)
    (a34 : PySem.W.nsIn K mainGlobals "let_in" = some (some (.ref f34)))
    (l34 : K.lookup f34 = some ⟨oc34, od34, .func (PySem.W.fnOf "let_in" "let_in" (defArgs s_let_in) (defBody s_let_in) (defScope s_let_in) .none kV34 dc34 pm34 an34 cd34 ct34), sl34⟩)
    (c34 : PySem.W.codeIn K cd34 "let_in" = true)
    (k34 : PySem.W.keepIn K (.ref f34) = true)
    (a35 : PySem.W.nsIn K mainGlobals "front_of" = some (some (.ref f35)))
    (l35 : K.lookup f35 = some ⟨oc35, od35, .func (PySem.W.fnOf "front_of" "front_of" (defArgs s_front_of) (defBody s_front_of) (defScope s_front_of) .none kV35 dc35 pm35 an35 cd35 ct35), sl35⟩)
    (c35 : PySem.W.codeIn K cd35 "front_of" = true)
    (k35 : PySem.W.keepIn K (.ref f35) = true)
    (a36 : PySem.W.nsIn K mainGlobals "can_be_done" = some (some (.ref f36)))
    (l36 : K.lookup f36 = some ⟨oc36, od36, .func (PySem.W.fnOf "can_be_done" "can_be_done" (defArgs s_can_be_done) (defBody s_can_be_done) (defScope s_can_be_done) .none kV36 dc36 pm36 an36 cd36 ct36), sl36⟩)
    (c36 : PySem.W.codeIn K cd36 "can_be_done" = true)
    (k36 : PySem.W.keepIn K (.ref f36) = true)
    (a37 : PySem.W.nsIn K mainGlobals "fitting_row" = some (some (.ref f37)))
    (l37 : K.lookup f37 = some ⟨oc37, od37, .func (PySem.W.fnOf "fitting_row" "fitting_row" (defArgs s_fitting_row) (defBody s_fitting_row) (defScope s_fitting_row) .none kV37 dc37 pm37 an37 cd37 ct37), sl37⟩)
    (c37 : PySem.W.codeIn K cd37 "fitting_row" = true)
    (k37 : PySem.W.keepIn K (.ref f37) = true)
    (a38 : PySem.W.nsIn K mainGlobals "seated" = some (some (.ref f38)))
    (l38 : K.lookup f38 = some ⟨oc38, od38, .func (PySem.W.fnOf "seated" "seated" (defArgs s_seated) (defBody s_seated) (defScope s_seated) .none kV38 dc38 pm38 an38 cd38 ct38), sl38⟩)
    (c38 : PySem.W.codeIn K cd38 "seated" = true)
    (k38 : PySem.W.keepIn K (.ref f38) = true)
    (a39 : PySem.W.nsIn K mainGlobals "fill" = some (some (.ref f39)))
    (l39 : K.lookup f39 = some ⟨oc39, od39, .func (PySem.W.fnOf "fill" "fill" (defArgs s_fill) (defBody s_fill) (defScope s_fill) .none kV39 dc39 pm39 an39 cd39 ct39), sl39⟩)
    (c39 : PySem.W.codeIn K cd39 "fill" = true)
    (k39 : PySem.W.keepIn K (.ref f39) = true)
    (a40 : PySem.W.nsIn K mainGlobals "beat" = some (some (.ref f40)))
    (l40 : K.lookup f40 = some ⟨oc40, od40, .func (PySem.W.fnOf "beat" "beat" (defArgs s_beat) (defBody s_beat) (defScope s_beat) .none kV40 dc40 pm40 an40 cd40 ct40), sl40⟩)
    (c40 : PySem.W.codeIn K cd40 "beat" = true)
    (k40 : PySem.W.keepIn K (.ref f40) = true)
    (a41 : PySem.W.nsIn K mainGlobals "run" = some (some (.ref f41)))
    (l41 : K.lookup f41 = some ⟨oc41, od41, .func (PySem.W.fnOf "run" "run" (defArgs s_run) (defBody s_run) (defScope s_run) .none kV41 dc41 pm41 an41 cd41 ct41), sl41⟩)
    (c41 : PySem.W.codeIn K cd41 "run" = true)
    (k41 : PySem.W.keepIn K (.ref f41) = true)
    (a42 : PySem.W.nsIn K mainGlobals "is_size" = some (some (.ref f42)))
    (l42 : K.lookup f42 = some ⟨oc42, od42, .func (PySem.W.fnOf "is_size" "is_size" (defArgs s_is_size) (defBody s_is_size) (defScope s_is_size) .none kV42 dc42 pm42 an42 cd42 ct42), sl42⟩)
    (c42 : PySem.W.codeIn K cd42 "is_size" = true)
    (k42 : PySem.W.keepIn K (.ref f42) = true)
    (a43 : PySem.W.nsIn K mainGlobals "is_comers" = some (some (.ref f43)))
    (l43 : K.lookup f43 = some ⟨oc43, od43, .func (PySem.W.fnOf "is_comers" "is_comers" (defArgs s_is_comers) (defBody s_is_comers) (defScope s_is_comers) .none kV43 dc43 pm43 an43 cd43 ct43), sl43⟩)
    (c43 : PySem.W.codeIn K cd43 "is_comers" = true)
    (k43 : PySem.W.keepIn K (.ref f43) = true)
    (a44 : PySem.W.findIn K (.ref C_Lift) "beat" = some (some (.ref f44)))
    (i44 : PySem.W.isFn K (.ref f44) = true)
    (l44 : K.lookup f44 = some ⟨oc44, od44, .func (PySem.W.fnOf "beat" "Lift.beat" (defArgs s_Lift_beat) (defBody s_Lift_beat) (defScope s_Lift_beat) .none kV44 dc44 pm44 an44 cd44 ct44), sl44⟩)
    (c44 : PySem.W.codeIn K cd44 "Lift.beat" = true)
    (k44 : PySem.W.keepIn K (.ref f44) = true)
    (a45 : PySem.W.nsIn K mainGlobals "_law_do" = some (some (.ref f45)))
    (l45 : K.lookup f45 = some ⟨oc45, od45, .func (PySem.W.fnOf "_law_do" "_law_do" (defArgs s__law_do) (defBody s__law_do) (defScope s__law_do) .none kV45 dc45 pm45 an45 cd45 ct45), sl45⟩)
    (c45 : PySem.W.codeIn K cd45 "_law_do" = true)
    (k45 : PySem.W.keepIn K (.ref f45) = true)
    (a46 : PySem.W.nsIn K mainGlobals "law" = some (some (.ref f46)))
    (l46 : K.lookup f46 = some ⟨oc46, od46, .func (PySem.W.fnOf "law" "law" (defArgs s_law) (defBody s_law) (defScope s_law) .none kV46 dc46 pm46 an46 cd46 ct46), sl46⟩)
    (c46 : PySem.W.codeIn K cd46 "law" = true)
    (k46 : PySem.W.keepIn K (.ref f46) = true) :
    ∃ fd : FuncData, (∀ (s : Shared) (v : Value), BindsTo s fd ⟨[v], []⟩ [("script", v)]) ∧ ∀ base : Heap, K.In base → base.Ns mainGlobals mg → FnOk l.prog w K mg base CX0 12 fa fd ["script"] (spD ⟨l.prog, w, K⟩ S_law85) := by
  have e := hfa.symm.trans (PySem.W.mg_of X G a46)
  have e : f46 = fa := by cases e; rfl
  subst e
  refine ⟨PySem.W.fnOf "law" "law" (defArgs s_law) (defBody s_law) (defScope s_law) .none kV46 dc46 pm46 an46 cd46 ct46, fun s v => .of_eq rfl, fun base _ _ => ?_⟩
  have Cl_Lift : Cls K C_Lift := ⟨pg_Lift, hd_Lift, po_Lift, sa_Lift⟩
  have T_Lift : TLift K C_Lift := ⟨Cl_Lift, n_Lift_setup, n_Lift_first, n_Lift_present, n_Lift_here, n_Lift_done, n_Lift_gone, n_Lift_earlier⟩
  have i_Lift : HasI K C_Lift := ⟨⟨Cl_Lift, ha_Lift, hn_Lift, ht_Lift, hm_Lift, kit_same⟩, kit_of rfl cx1_Lift cx2_Lift kn_Lift, kit_of rfl cx1_Lift cx2_Lift kt_Lift, kit_of rfl cx1_Lift cx2_Lift kl_Lift⟩
  have n_Lift : HasV l.prog w K mg "Lift" (.ref C_Lift) := ⟨_, .ref C_Lift, PySem.W.mg_of X G aC_Lift, rfl, fun _ _ => .ref _⟩
  have b : Bi mg := ⟨PySem.W.mg_none_of X G z_all, PySem.W.mg_none_of X G z_bool, PySem.W.mg_none_of X G z_int, PySem.W.mg_none_of X G z_isinstance, PySem.W.mg_none_of X G z_len, PySem.W.mg_none_of X G z_list, PySem.W.mg_none_of X G z_max, PySem.W.mg_none_of X G z_min, PySem.W.mg_none_of X G z_range, PySem.W.mg_none_of X G z_str, PySem.W.mg_none_of X G z_tuple, PySem.W.mg_none_of X G z_zip⟩
  have v_DEEDS : HasV l.prog w K mg "DEEDS" (.tup [(.str "group"), (.str "single"), (.str "part"), (.str "go")]) := ⟨.ref T_kDEEDS, .ref T_kDEEDS, PySem.W.mg_of X G aK_DEEDS, rfl, fun _ _ => .tupK lT_kDEEDS rfl rfl (show 4 ≤ sizeLine by decide) (show Vals [V.str "group", V.str "single", V.str "part", V.str "go"] [Value.str "group" t_kDEEDS_0, Value.str "single" t_kDEEDS_1, Value.str "part" t_kDEEDS_2, Value.str "go" t_kDEEDS_3] from .cons ⟨_, rfl⟩ (.cons ⟨_, rfl⟩ (.cons ⟨_, rfl⟩ (.cons ⟨_, rfl⟩ (.nil))))) (.cons (.str _) (.cons (.str _) (.cons (.str _) (.cons (.str _) (.nil)))))⟩
  have v_MOST_ROWS : HasV l.prog w K mg "MOST_ROWS" (.int 8) := ⟨.int 8 t_kMOST_ROWS, .int 8, PySem.W.mg_of X G aK_MOST_ROWS, ⟨_, rfl⟩, fun _ _ => .int _⟩
  have v_START : HasV l.prog w K mg "START" (.tup [(.int 0), (.tup []), (.int 0), (.int 0)]) := ⟨.ref T_kSTART, .ref T_kSTART, PySem.W.mg_of X G aK_START, rfl, fun _ _ => .tupK lT_kSTART rfl rfl (show 4 ≤ sizeLine by decide) (show Vals [V.int 0, V.ref T_kSTART_1, V.int 0, V.int 0] [Value.int 0 t_kSTART_0, Value.ref T_kSTART_1, Value.int 0 t_kSTART_2, Value.int 0 t_kSTART_3] from .cons ⟨_, rfl⟩ (.cons rfl (.cons ⟨_, rfl⟩ (.cons ⟨_, rfl⟩ (.nil))))) (.cons (.int _) (.cons (.tupK lT_kSTART_1 rfl rfl (show 0 ≤ sizeLine by decide) (show Vals [] [] from .nil) (.nil)) (.cons (.int _) (.cons (.int _) (.nil)))))⟩
  have F0 := fun_mk (st := s__law_setup) l0 c0 k0
  have B0 := F0.binds (ps := ["draws"]) fun _ _ _ _ _ _ us hl => match us, hl with | [_], _ => rfl
  have K0 := (fnD (S := S_setup) F0 sc__law_setup (fun ds M Q dx hs => by (repeat (first | (obtain ⟨e, _⟩ := hs; subst e; rfl) | (obtain ⟨_, hs⟩ := hs)))) _ (fun cdv A outer s H E hr => w__law_setup b hr) (fun ds M Q dx hs => b_setup84 hs) : FnOk l.prog w K mg base CX0 2 f0 _ ["draws"] (spD ⟨l.prog, w, K⟩ S_setup))
  have h__law_setup : Has l.prog w K mg base "_law_setup" 2 S_setup := ⟨_, _, _, PySem.W.mg_of X G a0, k0, B0, K0⟩
  have F1 := fun_mk (st := s__law_draws) l1 c1 k1
  have B1 := F1.binds (ps := ["cell", "many"]) fun _ _ _ _ _ _ us hl => match us, hl with | [_, _], _ => rfl
  have K1 := (fnD (S := S_draws) F1 sc__law_draws (fun ds M Q dx hs => by (repeat (first | (obtain ⟨e, _⟩ := hs; subst e; rfl) | (obtain ⟨_, hs⟩ := hs)))) _ (fun cdv A outer s H E hr => w__law_draws b hr) (fun ds M Q dx hs => b_draws hs) : FnOk l.prog w K mg base CX0 2 f1 _ ["cell", "many"] (spD ⟨l.prog, w, K⟩ S_draws))
  have h__law_draws : Has l.prog w K mg base "_law_draws" 2 S_draws := ⟨_, _, _, PySem.W.mg_of X G a1, k1, B1, K1⟩
  have F2 := fun_mk (st := s_Lift___eq__) l2 c2 k2
  have B2 := F2.binds (ps := ["self", "other"]) fun _ _ _ _ _ _ us hl => match us, hl with | [_, _], _ => rfl
  have K2 := (fnD (S := (S_eqG C_Lift)) F2 sc_Lift___eq__ (fun ds M Q dx hs => len_eqG hs) _ (fun cdv A outer s H E hr => w_Lift___eq__ i_Lift n_Lift b T_Lift hr) (fun ds M Q dx hs => b_eqG hs) : FnOk l.prog w K mg base CX0 2 f2 _ ["self", "other"] (spD ⟨l.prog, w, K⟩ (S_eqG C_Lift)))
  have m_Lift___eq__ : HasS l.prog w K mg base C_Lift "__eq__" 2 (S_eqG C_Lift) := ⟨_, _, _, a2, i2, B2, K2⟩
  have F3 := fun_mk (st := s_Lift_state) l3 c3 k3
  have B3 := F3.binds (ps := ["self"]) fun _ _ _ _ _ _ us hl => match us, hl with | [_], _ => rfl
  have K3 := (fnD (S := (S_state C_Lift)) F3 sc_Lift_state (fun ds M Q dx hs => by (repeat (first | (obtain ⟨e, _⟩ := hs; subst e; rfl) | (obtain ⟨_, hs⟩ := hs)))) _ (fun cdv A outer s H E hr => w_Lift_state T_Lift hr) (fun ds M Q dx hs => b_state hs) : FnOk l.prog w K mg base CX0 2 f3 _ ["self"] (spD ⟨l.prog, w, K⟩ (S_state C_Lift)))
  have m_Lift_state : HasM l.prog w K mg base C_Lift "state" 2 (S_state C_Lift) := ⟨Cl_Lift, _, _, _, ⟨a3, i3, k3⟩, B3, K3⟩
  have F4 := fun_mk (st := s_Lift_chairs) l4 c4 k4
  have B4 := F4.binds (ps := ["self"]) fun _ _ _ _ _ _ us hl => match us, hl with | [_], _ => rfl
  have K4 := (fnD (S := (S_chairs C_Lift)) F4 sc_Lift_chairs (fun ds M Q dx hs => by (repeat (first | (obtain ⟨e, _⟩ := hs; subst e; rfl) | (obtain ⟨_, hs⟩ := hs)))) _ (fun cdv A outer s H E hr => w_Lift_chairs T_Lift b hr) (fun ds M Q dx hs => b_chairs hs) : FnOk l.prog w K mg base CX0 2 f4 _ ["self"] (spD ⟨l.prog, w, K⟩ (S_chairs C_Lift)))
  have m_Lift_chairs : HasM l.prog w K mg base C_Lift "chairs" 2 (S_chairs C_Lift) := ⟨Cl_Lift, _, _, _, ⟨a4, i4, k4⟩, B4, K4⟩
  have F5 := fun_mk (st := s_Lift_row) l5 c5 k5
  have B5 := F5.binds (ps := ["self"]) fun _ _ _ _ _ _ us hl => match us, hl with | [_], _ => rfl
  have K5 := (fnD (S := (S_row C_Lift)) F5 sc_Lift_row (fun ds M Q dx hs => by (repeat (first | (obtain ⟨e, _⟩ := hs; subst e; rfl) | (obtain ⟨_, hs⟩ := hs)))) _ (fun cdv A outer s H E hr => w_Lift_row T_Lift hr) (fun ds M Q dx hs => b_row hs) : FnOk l.prog w K mg base CX0 2 f5 _ ["self"] (spD ⟨l.prog, w, K⟩ (S_row C_Lift)))
  have m_Lift_row : HasM l.prog w K mg base C_Lift "row" 2 (S_row C_Lift) := ⟨Cl_Lift, _, _, _, ⟨a5, i5, k5⟩, B5, K5⟩
  have F6 := fun_mk (st := s__law_row_of) l6 c6 k6
  have B6 := F6.binds (ps := ["model"]) fun _ _ _ _ _ _ us hl => match us, hl with | [_], _ => rfl
  have K6 := (fnD (S := S_rowof) F6 sc__law_row_of (fun ds M Q dx hs => by (repeat (first | (obtain ⟨e, _⟩ := hs; subst e; rfl) | (obtain ⟨_, hs⟩ := hs)))) _ (fun cdv A outer s H E hr => w__law_row_of  hr) (fun ds M Q dx hs => b_rowof hs) : FnOk l.prog w K mg base CX0 2 f6 _ ["model"] (spD ⟨l.prog, w, K⟩ S_rowof))
  have h__law_row_of : Has l.prog w K mg base "_law_row_of" 2 S_rowof := ⟨_, _, _, PySem.W.mg_of X G a6, k6, B6, K6⟩
  have F7 := fun_mk (st := s_Lift_rule) l7 c7 k7
  have B7 := F7.binds (ps := ["self"]) fun _ _ _ _ _ _ us hl => match us, hl with | [_], _ => rfl
  have K7 := (fnD (S := (S_rule C_Lift)) F7 sc_Lift_rule (fun ds M Q dx hs => by (repeat (first | (obtain ⟨e, _⟩ := hs; subst e; rfl) | (obtain ⟨_, hs⟩ := hs)))) _ (fun cdv A outer s H E hr => w_Lift_rule T_Lift hr) (fun ds M Q dx hs => b_rule hs) : FnOk l.prog w K mg base CX0 2 f7 _ ["self"] (spD ⟨l.prog, w, K⟩ (S_rule C_Lift)))
  have m_Lift_rule : HasM l.prog w K mg base C_Lift "rule" 2 (S_rule C_Lift) := ⟨Cl_Lift, _, _, _, ⟨a7, i7, k7⟩, B7, K7⟩
  have F8 := fun_mk (st := s__law_same) l8 c8 k8
  have B8 := F8.binds (ps := ["one", "other"]) fun _ _ _ _ _ _ us hl => match us, hl with | [_, _], _ => rfl
  have K8 := (fnD (S := S_same) F8 sc__law_same (fun ds M Q dx hs => by (repeat (first | (obtain ⟨e, _⟩ := hs; subst e; rfl) | (obtain ⟨_, hs⟩ := hs)))) _ (fun cdv A outer s H E hr => w__law_same  hr) (fun ds M Q dx hs => b_same hs) : FnOk l.prog w K mg base CX0 2 f8 _ ["one", "other"] (spD ⟨l.prog, w, K⟩ S_same))
  have h__law_same : Has l.prog w K mg base "_law_same" 2 S_same := ⟨_, _, _, PySem.W.mg_of X G a8, k8, B8, K8⟩
  have F9 := fun_mk (st := s__law_right) l9 c9 k9
  have B9 := F9.binds (ps := ["lifts", "models"]) fun _ _ _ _ _ _ us hl => match us, hl with | [_, _], _ => rfl
  have K9 := (fnD (S := (S_right C_Lift)) F9 sc__law_right (fun ds M Q dx hs => by (repeat (first | (obtain ⟨e, _⟩ := hs; subst e; rfl) | (obtain ⟨_, hs⟩ := hs)))) _ (fun cdv A outer s H E hr => w__law_right b m_Lift_state m_Lift_chairs m_Lift_row h__law_row_of m_Lift_rule m_Lift___eq__ i_Lift n_Lift h__law_same hr) (fun ds M Q dx hs => b_right hs) : FnOk l.prog w K mg base CX0 4 f9 _ ["lifts", "models"] (spD ⟨l.prog, w, K⟩ (S_right C_Lift)))
  have h__law_right : Has l.prog w K mg base "_law_right" 4 (S_right C_Lift) := ⟨_, _, _, PySem.W.mg_of X G a9, k9, B9, K9⟩
  have F10 := fun_mk (st := s__law_cell_at) l10 c10 k10
  have B10 := F10.binds (ps := ["script", "k"]) fun _ _ _ _ _ _ us hl => match us, hl with | [_, _], _ => rfl
  have K10 := (fnD (S := S_cell) F10 sc__law_cell_at (fun ds M Q dx hs => by (repeat (first | (obtain ⟨e, _⟩ := hs; subst e; rfl) | (obtain ⟨_, hs⟩ := hs)))) _ (fun cdv A outer s H E hr => w__law_cell_at b hr) (fun ds M Q dx hs => b_cell hs) : FnOk l.prog w K mg base CX0 2 f10 _ ["script", "k"] (spD ⟨l.prog, w, K⟩ S_cell))
  have h__law_cell_at : Has l.prog w K mg base "_law_cell_at" 2 S_cell := ⟨_, _, _, PySem.W.mg_of X G a10, k10, B10, K10⟩
  have F11 := fun_mk (st := s__law_range) l11 c11 k11
  have B11 := F11.binds (ps := ["draw"]) fun _ _ _ _ _ _ us hl => match us, hl with | [_], _ => rfl
  have K11 := (fnD (S := S_range) F11 sc__law_range (fun ds M Q dx hs => by (repeat (first | (obtain ⟨e, _⟩ := hs; subst e; rfl) | (obtain ⟨_, hs⟩ := hs)))) _ (fun cdv A outer s H E hr => w__law_range b hr) (fun ds M Q dx hs => b_range hs) : FnOk l.prog w K mg base CX0 2 f11 _ ["draw"] (spD ⟨l.prog, w, K⟩ S_range))
  have h__law_range : Has l.prog w K mg base "_law_range" 2 S_range := ⟨_, _, _, PySem.W.mg_of X G a11, k11, B11, K11⟩
  have F12 := fun_mk (st := s__law_rule) l12 c12 k12
  have B12 := F12.binds (ps := ["draws"]) fun _ _ _ _ _ _ us hl => match us, hl with | [_], _ => rfl
  have K12 := (fnD (S := S_lrule) F12 sc__law_rule (fun ds M Q dx hs => by (repeat (first | (obtain ⟨e, _⟩ := hs; subst e; rfl) | (obtain ⟨_, hs⟩ := hs)))) _ (fun cdv A outer s H E hr => w__law_rule b h__law_range hr) (fun ds M Q dx hs => b_lrule hs) : FnOk l.prog w K mg base CX0 3 f12 _ ["draws"] (spD ⟨l.prog, w, K⟩ S_lrule))
  have h__law_rule : Has l.prog w K mg base "_law_rule" 3 S_lrule := ⟨_, _, _, PySem.W.mg_of X G a12, k12, B12, K12⟩
  have F13 := fun_mk (st := s_is_integer) l13 c13 k13
  have B13 := F13.binds (ps := ["thing"]) fun _ _ _ _ _ _ us hl => match us, hl with | [_], _ => rfl
  have K13 := (fnD (S := S_is_integer) F13 sc_is_integer (fun ds M Q dx hs => by (repeat (first | (obtain ⟨e, _⟩ := hs; subst e; rfl) | (obtain ⟨_, hs⟩ := hs)))) _ (fun cdv A outer s H E hr => w_is_integer b hr) (fun ds M Q dx hs => b_is_integer hs) : FnOk l.prog w K mg base CX0 2 f13 _ ["thing"] (spD ⟨l.prog, w, K⟩ S_is_integer))
  have h_is_integer : Has l.prog w K mg base "is_integer" 2 S_is_integer := ⟨_, _, _, PySem.W.mg_of X G a13, k13, B13, K13⟩
  have F14 := fun_mk (st := s_is_number) l14 c14 k14
  have B14 := F14.binds (ps := ["thing", "low", "high"]) fun _ _ _ _ _ _ us hl => match us, hl with | [_, _, _], _ => rfl
  have K14 := (fnD (S := S_is_number) F14 sc_is_number (fun ds M Q dx hs => by (repeat (first | (obtain ⟨e, _⟩ := hs; subst e; rfl) | (obtain ⟨_, hs⟩ := hs)))) _ (fun cdv A outer s H E hr => w_is_number h_is_integer hr) (fun ds M Q dx hs => b_is_number hs) : FnOk l.prog w K mg base CX0 3 f14 _ ["thing", "low", "high"] (spD ⟨l.prog, w, K⟩ S_is_number))
  have h_is_number : Has l.prog w K mg base "is_number" 3 S_is_number := ⟨_, _, _, PySem.W.mg_of X G a14, k14, B14, K14⟩
  have F15 := fun_mk (st := s_are_numbers) l15 c15 k15
  have B15 := F15.binds (ps := ["thing", "least", "most", "low", "high"]) fun _ _ _ _ _ _ us hl => match us, hl with | [_, _, _, _, _], _ => rfl
  have K15 := (fnD (S := S_are_numbers) F15 sc_are_numbers (fun ds M Q dx hs => by (repeat (first | (obtain ⟨e, _⟩ := hs; subst e; rfl) | (obtain ⟨_, hs⟩ := hs)))) _ (fun cdv A outer s H E hr => w_are_numbers b h_is_number hr) (fun ds M Q dx hs => b_are_numbers hs) : FnOk l.prog w K mg base CX0 4 f15 _ ["thing", "least", "most", "low", "high"] (spD ⟨l.prog, w, K⟩ S_are_numbers))
  have h_are_numbers : Has l.prog w K mg base "are_numbers" 4 S_are_numbers := ⟨_, _, _, PySem.W.mg_of X G a15, k15, B15, K15⟩
  have F16 := fun_mk (st := s_are_most) l16 c16 k16
  have B16 := F16.binds (ps := ["thing", "groups_low", "groups_high", "singles_high"]) fun _ _ _ _ _ _ us hl => match us, hl with | [_, _, _, _], _ => rfl
  have K16 := (fnD (S := S_are_most) F16 sc_are_most (fun ds M Q dx hs => by (repeat (first | (obtain ⟨e, _⟩ := hs; subst e; rfl) | (obtain ⟨_, hs⟩ := hs)))) _ (fun cdv A outer s H E hr => w_are_most h_are_numbers hr) (fun ds M Q dx hs => b_are_most hs) : FnOk l.prog w K mg base CX0 5 f16 _ ["thing", "groups_low", "groups_high", "singles_high"] (spD ⟨l.prog, w, K⟩ S_are_most))
  have h_are_most : Has l.prog w K mg base "are_most" 5 S_are_most := ⟨_, _, _, PySem.W.mg_of X G a16, k16, B16, K16⟩
  have F17 := fun_mk (st := s_is_setup) l17 c17 k17
  have B17 := F17.binds (ps := ["thing"]) fun _ _ _ _ _ _ us hl => match us, hl with | [_], _ => rfl
  have K17 := (fnD (S := S_is_setup) F17 sc_is_setup (fun ds M Q dx hs => by (repeat (first | (obtain ⟨e, _⟩ := hs; subst e; rfl) | (obtain ⟨_, hs⟩ := hs)))) _ (fun cdv A outer s H E hr => w_is_setup b h_are_numbers h_are_most hr) (fun ds M Q dx hs => b_is_setup hs) : FnOk l.prog w K mg base CX0 6 f17 _ ["thing"] (spD ⟨l.prog, w, K⟩ S_is_setup))
  have h_is_setup : Has l.prog w K mg base "is_setup" 6 S_is_setup := ⟨_, _, _, PySem.W.mg_of X G a17, k17, B17, K17⟩
  have F18 := fun_mk (st := s_check_setup) l18 c18 k18
  have B18 := F18.binds (ps := ["setup"]) fun _ _ _ _ _ _ us hl => match us, hl with | [_], _ => rfl
  have K18 := (fnD (S := S_check_setup) F18 sc_check_setup (fun ds M Q dx hs => by (repeat (first | (obtain ⟨e, _⟩ := hs; subst e; rfl) | (obtain ⟨_, hs⟩ := hs)))) _ (fun cdv A outer s H E hr => w_check_setup h_is_setup hr) (fun ds M Q dx hs => b_check_setup hs) : FnOk l.prog w K mg base CX0 7 f18 _ ["setup"] (spD ⟨l.prog, w, K⟩ S_check_setup))
  have h_check_setup : Has l.prog w K mg base "check_setup" 7 S_check_setup := ⟨_, _, _, PySem.W.mg_of X G a18, k18, B18, K18⟩
  have F19 := fun_mk (st := s_is_range) l19 c19 k19
  have B19 := F19.binds (ps := ["thing"]) fun _ _ _ _ _ _ us hl => match us, hl with | [_], _ => rfl
  have K19 := (fnD (S := S_is_range) F19 sc_is_range (fun ds M Q dx hs => by (repeat (first | (obtain ⟨e, _⟩ := hs; subst e; rfl) | (obtain ⟨_, hs⟩ := hs)))) _ (fun cdv A outer s H E hr => w_is_range h_are_numbers hr) (fun ds M Q dx hs => b_is_range hs) : FnOk l.prog w K mg base CX0 5 f19 _ ["thing"] (spD ⟨l.prog, w, K⟩ S_is_range))
  have h_is_range : Has l.prog w K mg base "is_range" 5 S_is_range := ⟨_, _, _, PySem.W.mg_of X G a19, k19, B19, K19⟩
  have F20 := fun_mk (st := s_is_rule_row) l20 c20 k20
  have B20 := F20.binds (ps := ["thing"]) fun _ _ _ _ _ _ us hl => match us, hl with | [_], _ => rfl
  have K20 := (fnD (S := S_is_rule_row) F20 sc_is_rule_row (fun ds M Q dx hs => by (repeat (first | (obtain ⟨e, _⟩ := hs; subst e; rfl) | (obtain ⟨_, hs⟩ := hs)))) _ (fun cdv A outer s H E hr => w_is_rule_row b h_is_number h_is_range v_DEEDS hr) (fun ds M Q dx hs => b_is_rule_row hs) : FnOk l.prog w K mg base CX0 6 f20 _ ["thing"] (spD ⟨l.prog, w, K⟩ S_is_rule_row))
  have h_is_rule_row : Has l.prog w K mg base "is_rule_row" 6 S_is_rule_row := ⟨_, _, _, PySem.W.mg_of X G a20, k20, B20, K20⟩
  have F21 := fun_mk (st := s_is_rule) l21 c21 k21
  have B21 := F21.binds (ps := ["thing"]) fun _ _ _ _ _ _ us hl => match us, hl with | [_], _ => rfl
  have K21 := (fnD (S := S_is_rule) F21 sc_is_rule (fun ds M Q dx hs => by (repeat (first | (obtain ⟨e, _⟩ := hs; subst e; rfl) | (obtain ⟨_, hs⟩ := hs)))) _ (fun cdv A outer s H E hr => w_is_rule b v_MOST_ROWS h_is_rule_row hr) (fun ds M Q dx hs => b_is_rule hs) : FnOk l.prog w K mg base CX0 7 f21 _ ["thing"] (spD ⟨l.prog, w, K⟩ S_is_rule))
  have h_is_rule : Has l.prog w K mg base "is_rule" 7 S_is_rule := ⟨_, _, _, PySem.W.mg_of X G a21, k21, B21, K21⟩
  have F22 := fun_mk (st := s_check_both) l22 c22 k22
  have B22 := F22.binds (ps := ["setup", "rule"]) fun _ _ _ _ _ _ us hl => match us, hl with | [_, _], _ => rfl
  have K22 := (fnD (S := S_check_both) F22 sc_check_both (fun ds M Q dx hs => by (repeat (first | (obtain ⟨e, _⟩ := hs; subst e; rfl) | (obtain ⟨_, hs⟩ := hs)))) _ (fun cdv A outer s H E hr => w_check_both h_check_setup h_is_rule hr) (fun ds M Q dx hs => b_check_both hs) : FnOk l.prog w K mg base CX0 8 f22 _ ["setup", "rule"] (spD ⟨l.prog, w, K⟩ S_check_both))
  have h_check_both : Has l.prog w K mg base "check_both" 8 S_check_both := ⟨_, _, _, PySem.W.mg_of X G a22, k22, B22, K22⟩
  have F23 := fun_mk (st := s_first_state) l23 c23 k23
  have B23 := F23.binds (ps := []) fun _ _ _ _ _ _ us hl => match us, hl with | [], _ => rfl
  have K23 := (fnD (S := S_first_state) F23 sc_first_state (fun ds M Q dx hs => by (repeat (first | (obtain ⟨e, _⟩ := hs; subst e; rfl) | (obtain ⟨_, hs⟩ := hs)))) _ (fun cdv A outer s H E hr => w_first_state v_START hr) (fun ds M Q dx hs => b_first_state hs) : FnOk l.prog w K mg base CX0 2 f23 _ [] (spD ⟨l.prog, w, K⟩ S_first_state))
  have h_first_state : Has l.prog w K mg base "first_state" 2 S_first_state := ⟨_, _, _, PySem.W.mg_of X G a23, k23, B23, K23⟩
  have F24 : FunD K "__init__" "Lift.__init__" (defArgs s_Lift___init__) (defBody s_Lift___init__) (defScope s_Lift___init__) [V.ref e24] [] f24 (PySem.W.fnOf "__init__" "Lift.__init__" (defArgs s_Lift___init__) (defBody s_Lift___init__) (defScope s_Lift___init__) (.ref TD24) kV24 dc24 pm24 an24 cd24 ct24) := ⟨⟨_, _, _, _, _, _, _, _, _, _, rfl, l24, c24, .inr ⟨List.cons_ne_nil _ _, _, _, _, _, rfl, lD24, rfl, .cons rfl .nil⟩, .inl rfl⟩, k24⟩
  have B24 : Binds K (PySem.W.fnOf "__init__" "Lift.__init__" (defArgs s_Lift___init__) (defBody s_Lift___init__) (defScope s_Lift___init__) (.ref TD24) kV24 dc24 pm24 an24 cd24 ct24) ["self", "setup", "rule"] [] := by
    obtain ⟨ds, h1, h2⟩ := F24.binds1 (ps := ["self", "setup", "rule"]) 3 1 (List.cons_ne_nil _ _) rfl (fun T kV doc pm an cdv ct us its h1 h2 => match us, its, h1, h2 with | [_, _, _], [_], _, _ => ⟨_, rfl, rfl⟩)
    cases h1; exact h2
  have K24 := (fnDD (S := (S_init C_Lift)) F24 sc_Lift___init__ (fun ds M Q dx hs => by (repeat (first | (obtain ⟨e, _⟩ := hs; subst e; rfl) | (obtain ⟨_, hs⟩ := hs)))) _ (fun cdv A outer s H E hr => w_Lift___init__ h_check_both T_Lift h_first_state hr) (fun ds M Q dx hs => b_init hs) : FnOk l.prog w K mg base CX0 9 f24 _ ["self", "setup", "rule"] (spD ⟨l.prog, w, K⟩ (S_init C_Lift)))
  have c_Lift_2 : HasC l.prog w K mg base "Lift" C_Lift [] 9 (S_init C_Lift) := ⟨PySem.W.mg_of X G aC_Lift, _, _, _, _, [], ⟨mk_Lift, a24, i24, kc_Lift⟩, B24, .nil, fun _ _ => .nil, K24⟩
  have F25 := fun_mk (st := s_Lift_copy) l25 c25 k25
  have B25 := F25.binds (ps := ["self"]) fun _ _ _ _ _ _ us hl => match us, hl with | [_], _ => rfl
  have K25 := (fnD (S := (S_copy C_Lift)) F25 sc_Lift_copy (fun ds M Q dx hs => by (repeat (first | (obtain ⟨e, _⟩ := hs; subst e; rfl) | (obtain ⟨_, hs⟩ := hs)))) _ (fun cdv A outer s H E hr => w_Lift_copy T_Lift c_Lift_2 b hr) (fun ds M Q dx hs => b_copy hs) : FnOk l.prog w K mg base CX0 11 f25 _ ["self"] (spD ⟨l.prog, w, K⟩ (S_copy C_Lift)))
  have m_Lift_copy : HasM l.prog w K mg base C_Lift "copy" 11 (S_copy C_Lift) := ⟨Cl_Lift, _, _, _, ⟨a25, i25, k25⟩, B25, K25⟩
  have F26 := fun_mk (st := s__law_new) l26 c26 k26
  have B26 := F26.binds (ps := ["setup", "rule"]) fun _ _ _ _ _ _ us hl => match us, hl with | [_, _], _ => rfl
  have K26 := (fnD (S := S_new) F26 sc__law_new (fun ds M Q dx hs => by (repeat (first | (obtain ⟨e, _⟩ := hs; subst e; rfl) | (obtain ⟨_, hs⟩ := hs)))) _ (fun cdv A outer s H E hr => w__law_new  hr) (fun ds M Q dx hs => b_new hs) : FnOk l.prog w K mg base CX0 2 f26 _ ["setup", "rule"] (spD ⟨l.prog, w, K⟩ S_new))
  have h__law_new : Has l.prog w K mg base "_law_new" 2 S_new := ⟨_, _, _, PySem.W.mg_of X G a26, k26, B26, K26⟩
  have F27 := fun_mk (st := s__law_comers) l27 c27 k27
  have B27 := F27.binds (ps := ["setup", "draws"]) fun _ _ _ _ _ _ us hl => match us, hl with | [_, _], _ => rfl
  have K27 := (fnD (S := S_comers) F27 sc__law_comers (fun ds M Q dx hs => by (repeat (first | (obtain ⟨e, _⟩ := hs; subst e; rfl) | (obtain ⟨_, hs⟩ := hs)))) _ (fun cdv A outer s H E hr => w__law_comers b hr) (fun ds M Q dx hs => b_comers hs) : FnOk l.prog w K mg base CX0 2 f27 _ ["setup", "draws"] (spD ⟨l.prog, w, K⟩ S_comers))
  have h__law_comers : Has l.prog w K mg base "_law_comers" 2 S_comers := ⟨_, _, _, PySem.W.mg_of X G a27, k27, B27, K27⟩
  have F28 := fun_mk (st := s__law_fits) l28 c28 k28
  have B28 := F28.binds (ps := ["row", "mood", "front", "left", "singles"]) fun _ _ _ _ _ _ us hl => match us, hl with | [_, _, _, _, _], _ => rfl
  have K28 := (fnD (S := S_lfits) F28 sc__law_fits (fun ds M Q dx hs => by (repeat (first | (obtain ⟨e, _⟩ := hs; subst e; rfl) | (obtain ⟨_, hs⟩ := hs)))) _ (fun cdv A outer s H E hr => w__law_fits  hr) (fun ds M Q dx hs => b_lfits hs) : FnOk l.prog w K mg base CX0 2 f28 _ ["row", "mood", "front", "left", "singles"] (spD ⟨l.prog, w, K⟩ S_lfits))
  have h__law_fits : Has l.prog w K mg base "_law_fits" 2 S_lfits := ⟨_, _, _, PySem.W.mg_of X G a28, k28, B28, K28⟩
  have F29 := fun_mk (st := s__law_beat) l29 c29 k29
  have B29 := F29.binds (ps := ["setup", "rule", "state", "comers"]) fun _ _ _ _ _ _ us hl => match us, hl with | [_, _, _, _], _ => rfl
  have K29 := (fnD (S := S_lawbeat) F29 sc__law_beat (fun ds M Q dx hs => by (repeat (first | (obtain ⟨e, _⟩ := hs; subst e; rfl) | (obtain ⟨_, hs⟩ := hs)))) _ (fun cdv A outer s H E hr => w__law_beat b h__law_fits hr) (fun ds M Q dx hs => b_lawbeat hs) : FnOk l.prog w K mg base CX0 3 f29 _ ["setup", "rule", "state", "comers"] (spD ⟨l.prog, w, K⟩ S_lawbeat))
  have h__law_beat : Has l.prog w K mg base "_law_beat" 3 S_lawbeat := ⟨_, _, _, PySem.W.mg_of X G a29, k29, B29, K29⟩
  have F30 := fun_mk (st := s__law_moved) l30 c30 k30
  have B30 := F30.binds (ps := ["model", "step"]) fun _ _ _ _ _ _ us hl => match us, hl with | [_, _], _ => rfl
  have K30 := (fnD (S := S_moved) F30 sc__law_moved (fun ds M Q dx hs => by (repeat (first | (obtain ⟨e, _⟩ := hs; subst e; rfl) | (obtain ⟨_, hs⟩ := hs)))) _ (fun cdv A outer s H E hr => w__law_moved h__law_beat hr) (fun ds M Q dx hs => b_moved hs) : FnOk l.prog w K mg base CX0 4 f30 _ ["model", "step"] (spD ⟨l.prog, w, K⟩ S_moved))
  have h__law_moved : Has l.prog w K mg base "_law_moved" 4 S_moved := ⟨_, _, _, PySem.W.mg_of X G a30, k30, B30, K30⟩
  have F31 := fun_mk (st := s_Lift_undo) l31 c31 k31
  have B31 := F31.binds (ps := ["self"]) fun _ _ _ _ _ _ us hl => match us, hl with | [_], _ => rfl
  have K31 := (fnD (S := (S_undo C_Lift)) F31 sc_Lift_undo (fun ds M Q dx hs => by (repeat (first | (obtain ⟨e, _⟩ := hs; subst e; rfl) | (obtain ⟨_, hs⟩ := hs)))) _ (fun cdv A outer s H E hr => w_Lift_undo T_Lift hr) (fun ds M Q dx hs => b_undo hs) : FnOk l.prog w K mg base CX0 2 f31 _ ["self"] (spD ⟨l.prog, w, K⟩ (S_undo C_Lift)))
  have m_Lift_undo : HasM l.prog w K mg base C_Lift "undo" 2 (S_undo C_Lift) := ⟨Cl_Lift, _, _, _, ⟨a31, i31, k31⟩, B31, K31⟩
  have F32 := fun_mk (st := s__law_undone) l32 c32 k32
  have B32 := F32.binds (ps := ["model"]) fun _ _ _ _ _ _ us hl => match us, hl with | [_], _ => rfl
  have K32 := (fnD (S := S_undone) F32 sc__law_undone (fun ds M Q dx hs => by (repeat (first | (obtain ⟨e, _⟩ := hs; subst e; rfl) | (obtain ⟨_, hs⟩ := hs)))) _ (fun cdv A outer s H E hr => w__law_undone  hr) (fun ds M Q dx hs => b_undone hs) : FnOk l.prog w K mg base CX0 2 f32 _ ["model"] (spD ⟨l.prog, w, K⟩ S_undone))
  have h__law_undone : Has l.prog w K mg base "_law_undone" 2 S_undone := ⟨_, _, _, PySem.W.mg_of X G a32, k32, B32, K32⟩
  have F33 := fun_mk (st := s_Lift_change_rule) l33 c33 k33
  have B33 := F33.binds (ps := ["self", "rule"]) fun _ _ _ _ _ _ us hl => match us, hl with | [_, _], _ => rfl
  have K33 := (fnD (S := (S_change C_Lift)) F33 sc_Lift_change_rule (fun ds M Q dx hs => by (repeat (first | (obtain ⟨e, _⟩ := hs; subst e; rfl) | (obtain ⟨_, hs⟩ := hs)))) _ (fun cdv A outer s H E hr => w_Lift_change_rule h_is_rule T_Lift hr) (fun ds M Q dx hs => b_change hs) : FnOk l.prog w K mg base CX0 8 f33 _ ["self", "rule"] (spD ⟨l.prog, w, K⟩ (S_change C_Lift)))
  have m_Lift_change_rule : HasM l.prog w K mg base C_Lift "change_rule" 8 (S_change C_Lift) := ⟨Cl_Lift, _, _, _, ⟨a33, i33, k33⟩, B33, K33⟩
  have F34 := fun_mk (st := s_let_in) l34 c34 k34
  have B34 := F34.binds (ps := ["setup", "line", "singles", "comers"]) fun _ _ _ _ _ _ us hl => match us, hl with | [_, _, _, _], _ => rfl
  have K34 := (fnD (S := S_let_in) F34 sc_let_in (fun ds M Q dx hs => by (repeat (first | (obtain ⟨e, _⟩ := hs; subst e; rfl) | (obtain ⟨_, hs⟩ := hs)))) _ (fun cdv A outer s H E hr => w_let_in b hr) (fun ds M Q dx hs => b_let_in hs) : FnOk l.prog w K mg base CX0 2 f34 _ ["setup", "line", "singles", "comers"] (spD ⟨l.prog, w, K⟩ S_let_in))
  have h_let_in : Has l.prog w K mg base "let_in" 2 S_let_in := ⟨_, _, _, PySem.W.mg_of X G a34, k34, B34, K34⟩
  have F35 := fun_mk (st := s_front_of) l35 c35 k35
  have B35 := F35.binds (ps := ["line"]) fun _ _ _ _ _ _ us hl => match us, hl with | [_], _ => rfl
  have K35 := (fnD (S := S_front_of) F35 sc_front_of (fun ds M Q dx hs => by (repeat (first | (obtain ⟨e, _⟩ := hs; subst e; rfl) | (obtain ⟨_, hs⟩ := hs)))) _ (fun cdv A outer s H E hr => w_front_of  hr) (fun ds M Q dx hs => b_front_of hs) : FnOk l.prog w K mg base CX0 2 f35 _ ["line"] (spD ⟨l.prog, w, K⟩ S_front_of))
  have h_front_of : Has l.prog w K mg base "front_of" 2 S_front_of := ⟨_, _, _, PySem.W.mg_of X G a35, k35, B35, K35⟩
  have F36 := fun_mk (st := s_can_be_done) l36 c36 k36
  have B36 := F36.binds (ps := ["deed", "front", "left", "singles"]) fun _ _ _ _ _ _ us hl => match us, hl with | [_, _, _, _], _ => rfl
  have K36 := (fnD (S := S_can_be_done) F36 sc_can_be_done (fun ds M Q dx hs => by (repeat (first | (obtain ⟨e, _⟩ := hs; subst e; rfl) | (obtain ⟨_, hs⟩ := hs)))) _ (fun cdv A outer s H E hr => w_can_be_done  hr) (fun ds M Q dx hs => b_can_be_done hs) : FnOk l.prog w K mg base CX0 2 f36 _ ["deed", "front", "left", "singles"] (spD ⟨l.prog, w, K⟩ S_can_be_done))
  have h_can_be_done : Has l.prog w K mg base "can_be_done" 2 S_can_be_done := ⟨_, _, _, PySem.W.mg_of X G a36, k36, B36, K36⟩
  have F37 := fun_mk (st := s_fitting_row) l37 c37 k37
  have B37 := F37.binds (ps := ["rule", "mood", "line", "singles", "left"]) fun _ _ _ _ _ _ us hl => match us, hl with | [_, _, _, _, _], _ => rfl
  have K37 := (fnD (S := S_fitting_row) F37 sc_fitting_row (fun ds M Q dx hs => by (repeat (first | (obtain ⟨e, _⟩ := hs; subst e; rfl) | (obtain ⟨_, hs⟩ := hs)))) _ (fun cdv A outer s H E hr => w_fitting_row h_front_of h_can_be_done hr) (fun ds M Q dx hs => b_fitting_row hs) : FnOk l.prog w K mg base CX0 3 f37 _ ["rule", "mood", "line", "singles", "left"] (spD ⟨l.prog, w, K⟩ S_fitting_row))
  have h_fitting_row : Has l.prog w K mg base "fitting_row" 3 S_fitting_row := ⟨_, _, _, PySem.W.mg_of X G a37, k37, B37, K37⟩
  have F38 := fun_mk (st := s_seated) l38 c38 k38
  have B38 := F38.binds (ps := ["deed", "line", "singles", "left"]) fun _ _ _ _ _ _ us hl => match us, hl with | [_, _, _, _], _ => rfl
  have K38 := (fnD (S := S_seated) F38 sc_seated (fun ds M Q dx hs => by (repeat (first | (obtain ⟨e, _⟩ := hs; subst e; rfl) | (obtain ⟨_, hs⟩ := hs)))) _ (fun cdv A outer s H E hr => w_seated  hr) (fun ds M Q dx hs => b_seated hs) : FnOk l.prog w K mg base CX0 2 f38 _ ["deed", "line", "singles", "left"] (spD ⟨l.prog, w, K⟩ S_seated))
  have h_seated : Has l.prog w K mg base "seated" 2 S_seated := ⟨_, _, _, PySem.W.mg_of X G a38, k38, B38, K38⟩
  have F39 := fun_mk (st := s_fill) l39 c39 k39
  have B39 := F39.binds (ps := ["rule", "line", "singles", "seats", "mood"]) fun _ _ _ _ _ _ us hl => match us, hl with | [_, _, _, _, _], _ => rfl
  have K39 := (fnD (S := S_fill) F39 sc_fill (fun ds M Q dx hs => by (repeat (first | (obtain ⟨e, _⟩ := hs; subst e; rfl) | (obtain ⟨_, hs⟩ := hs)))) _ (fun cdv A outer s H E hr => w_fill h_fitting_row h_seated b hr) (fun ds M Q dx hs => b_fill hs) : FnOk l.prog w K mg base CX0 4 f39 _ ["rule", "line", "singles", "seats", "mood"] (spD ⟨l.prog, w, K⟩ S_fill))
  have h_fill : Has l.prog w K mg base "fill" 4 S_fill := ⟨_, _, _, PySem.W.mg_of X G a39, k39, B39, K39⟩
  have F40 := fun_mk (st := s_beat) l40 c40 k40
  have B40 := F40.binds (ps := ["setup", "rule", "state", "comers"]) fun _ _ _ _ _ _ us hl => match us, hl with | [_, _, _, _], _ => rfl
  have K40 := (fnD (S := S_beat) F40 sc_beat (fun ds M Q dx hs => by (repeat (first | (obtain ⟨e, _⟩ := hs; subst e; rfl) | (obtain ⟨_, hs⟩ := hs)))) _ (fun cdv A outer s H E hr => w_beat h_let_in h_fill b hr) (fun ds M Q dx hs => b_beat hs) : FnOk l.prog w K mg base CX0 5 f40 _ ["setup", "rule", "state", "comers"] (spD ⟨l.prog, w, K⟩ S_beat))
  have h_beat : Has l.prog w K mg base "beat" 5 S_beat := ⟨_, _, _, PySem.W.mg_of X G a40, k40, B40, K40⟩
  have F41 := fun_mk (st := s_run) l41 c41 k41
  have B41 := F41.binds (ps := ["setup", "rule", "state", "row"]) fun _ _ _ _ _ _ us hl => match us, hl with | [_, _, _, _], _ => rfl
  have K41 := (fnD (S := S_run) F41 sc_run (fun ds M Q dx hs => by (repeat (first | (obtain ⟨e, _⟩ := hs; subst e; rfl) | (obtain ⟨_, hs⟩ := hs)))) _ (fun cdv A outer s H E hr => w_run h_beat hr) (fun ds M Q dx hs => b_run hs) : FnOk l.prog w K mg base CX0 6 f41 _ ["setup", "rule", "state", "row"] (spD ⟨l.prog, w, K⟩ S_run))
  have h_run : Has l.prog w K mg base "run" 6 S_run := ⟨_, _, _, PySem.W.mg_of X G a41, k41, B41, K41⟩
  have F42 := fun_mk (st := s_is_size) l42 c42 k42
  have B42 := F42.binds (ps := ["setup", "thing"]) fun _ _ _ _ _ _ us hl => match us, hl with | [_, _], _ => rfl
  have K42 := (fnD (S := S_is_size) F42 sc_is_size (fun ds M Q dx hs => by (repeat (first | (obtain ⟨e, _⟩ := hs; subst e; rfl) | (obtain ⟨_, hs⟩ := hs)))) _ (fun cdv A outer s H E hr => w_is_size h_is_number hr) (fun ds M Q dx hs => b_is_size hs) : FnOk l.prog w K mg base CX0 4 f42 _ ["setup", "thing"] (spD ⟨l.prog, w, K⟩ S_is_size))
  have h_is_size : Has l.prog w K mg base "is_size" 4 S_is_size := ⟨_, _, _, PySem.W.mg_of X G a42, k42, B42, K42⟩
  have F43 := fun_mk (st := s_is_comers) l43 c43 k43
  have B43 := F43.binds (ps := ["setup", "thing"]) fun _ _ _ _ _ _ us hl => match us, hl with | [_, _], _ => rfl
  have K43 := (fnD (S := S_is_comers) F43 sc_is_comers (fun ds M Q dx hs => by (repeat (first | (obtain ⟨e, _⟩ := hs; subst e; rfl) | (obtain ⟨_, hs⟩ := hs)))) _ (fun cdv A outer s H E hr => w_is_comers b h_is_size h_is_number hr) (fun ds M Q dx hs => b_is_comers hs) : FnOk l.prog w K mg base CX0 5 f43 _ ["setup", "thing"] (spD ⟨l.prog, w, K⟩ S_is_comers))
  have h_is_comers : Has l.prog w K mg base "is_comers" 5 S_is_comers := ⟨_, _, _, PySem.W.mg_of X G a43, k43, B43, K43⟩
  have F44 := fun_mk (st := s_Lift_beat) l44 c44 k44
  have B44 := F44.binds (ps := ["self", "groups", "singles"]) fun _ _ _ _ _ _ us hl => match us, hl with | [_, _, _], _ => rfl
  have K44 := (fnD (S := (S_lbeat C_Lift)) F44 sc_Lift_beat (fun ds M Q dx hs => by (repeat (first | (obtain ⟨e, _⟩ := hs; subst e; rfl) | (obtain ⟨_, hs⟩ := hs)))) _ (fun cdv A outer s H E hr => w_Lift_beat h_is_comers T_Lift h_run hr) (fun ds M Q dx hs => b_lbeat hs) : FnOk l.prog w K mg base CX0 7 f44 _ ["self", "groups", "singles"] (spD ⟨l.prog, w, K⟩ (S_lbeat C_Lift)))
  have m_Lift_beat : HasM l.prog w K mg base C_Lift "beat" 7 (S_lbeat C_Lift) := ⟨Cl_Lift, _, _, _, ⟨a44, i44, k44⟩, B44, K44⟩
  have F45 := fun_mk (st := s__law_do) l45 c45 k45
  have B45 := F45.binds (ps := ["lift", "model", "step"]) fun _ _ _ _ _ _ us hl => match us, hl with | [_, _, _], _ => rfl
  have K45 := (fnD (S := (S_do85 C_Lift)) F45 sc__law_do (fun ds M Q dx hs => by (repeat (first | (obtain ⟨e, _⟩ := hs; subst e; rfl) | (obtain ⟨_, hs⟩ := hs)))) _ (fun cdv A outer s H E hr => w__law_do m_Lift_undo h__law_undone m_Lift_change_rule m_Lift_beat h__law_moved hr) (fun ds M Q dx hs => b_do85 hs) : FnOk l.prog w K mg base CX0 9 f45 _ ["lift", "model", "step"] (spD ⟨l.prog, w, K⟩ (S_do85 C_Lift)))
  have h__law_do : Has l.prog w K mg base "_law_do" 9 (S_do85 C_Lift) := ⟨_, _, _, PySem.W.mg_of X G a45, k45, B45, K45⟩
  have F46 := fun_mk (st := s_law) l46 c46 k46
  have B46 := F46.binds (ps := ["script"]) fun _ _ _ _ _ _ us hl => match us, hl with | [_], _ => rfl
  have K46 := (fnD (S := S_law85) F46 sc_law (fun ds M Q dx hs => by (repeat (first | (obtain ⟨e, _⟩ := hs; subst e; rfl) | (obtain ⟨_, hs⟩ := hs)))) _ (fun cdv A outer s H E hr => w_law h__law_setup h__law_draws h__law_cell_at b h__law_rule c_Lift_2 m_Lift_copy h__law_new h__law_comers h__law_do h__law_right hr) (fun ds M Q dx hs => b_law85 hs) : FnOk l.prog w K mg base CX0 12 f46 _ ["script"] (spD ⟨l.prog, w, K⟩ S_law85))
  exact K46
end DL

open PySem PySem.W PyProof.Rows
set_option maxRecDepth 100000 in
set_option maxHeartbeats 0 in
theorem PySem.Challenge.cw_fillchairs_k85_whole_lifts_and_copies_holds : PySem.Challenge.rw_fillchairs_k85_whole_lifts_and_copies.Holds := by
  w_on; o_law; k_head; (case hw => w_witness2)
  k_fill
  refine DL.law_walk (l := PySem.Challenge.rw_fillchairs_k85_whole_lifts_and_copies) (k := 12) (S := fun K => DL.S_law85) rfl rfl ⟨rfl, by decide, by decide⟩ (fun w h Y => PySem.W.kIn_of Y) ?F ?S
  case S => exact fun _ x l M h hl => DL.law_S_law85 x l M h hl
  case F =>
    intro w mg fa h KX G hmg
    refine' DL.all_mk KX G hmg ?aC_Lift ?pg_Lift ?hd_Lift ?po_Lift ?sa_Lift ?mk_Lift ?kc_Lift ?n_Lift_setup ?n_Lift_first ?n_Lift_present ?n_Lift_here ?n_Lift_done ?n_Lift_gone ?n_Lift_earlier ?ha_Lift ?hn_Lift ?ht_Lift ?hm_Lift ?cx1_Lift ?cx2_Lift ?kn_Lift ?kt_Lift ?kl_Lift ?z_all ?z_bool ?z_int ?z_isinstance ?z_len ?z_list ?z_max ?z_min ?z_range ?z_str ?z_tuple ?z_zip ?lT_kDEEDS ?aK_DEEDS ?aK_MOST_ROWS ?lT_kSTART_1 ?lT_kSTART ?aK_START ?a0 ?l0 ?c0 ?k0 ?a1 ?l1 ?c1 ?k1 ?a2 ?i2 ?l2 ?c2 ?k2 ?a3 ?i3 ?l3 ?c3 ?k3 ?a4 ?i4 ?l4 ?c4 ?k4 ?a5 ?i5 ?l5 ?c5 ?k5 ?a6 ?l6 ?c6 ?k6 ?a7 ?i7 ?l7 ?c7 ?k7 ?a8 ?l8 ?c8 ?k8 ?a9 ?l9 ?c9 ?k9 ?a10 ?l10 ?c10 ?k10 ?a11 ?l11 ?c11 ?k11 ?a12 ?l12 ?c12 ?k12 ?a13 ?l13 ?c13 ?k13 ?a14 ?l14 ?c14 ?k14 ?a15 ?l15 ?c15 ?k15 ?a16 ?l16 ?c16 ?k16 ?a17 ?l17 ?c17 ?k17 ?a18 ?l18 ?c18 ?k18 ?a19 ?l19 ?c19 ?k19 ?a20 ?l20 ?c20 ?k20 ?a21 ?l21 ?c21 ?k21 ?a22 ?l22 ?c22 ?k22 ?a23 ?l23 ?c23 ?k23 ?a24 ?i24 ?l24 ?c24 ?k24 ?lD24 ?a25 ?i25 ?l25 ?c25 ?k25 ?a26 ?l26 ?c26 ?k26 ?a27 ?l27 ?c27 ?k27 ?a28 ?l28 ?c28 ?k28 ?a29 ?l29 ?c29 ?k29 ?a30 ?l30 ?c30 ?k30 ?a31 ?i31 ?l31 ?c31 ?k31 ?a32 ?l32 ?c32 ?k32 ?a33 ?i33 ?l33 ?c33 ?k33 ?a34 ?l34 ?c34 ?k34 ?a35 ?l35 ?c35 ?k35 ?a36 ?l36 ?c36 ?k36 ?a37 ?l37 ?c37 ?k37 ?a38 ?l38 ?c38 ?k38 ?a39 ?l39 ?c39 ?k39 ?a40 ?l40 ?c40 ?k40 ?a41 ?l41 ?c41 ?k41 ?a42 ?l42 ?c42 ?k42 ?a43 ?l43 ?c43 ?k43 ?a44 ?i44 ?l44 ?c44 ?k44 ?a45 ?l45 ?c45 ?k45 ?a46 ?l46 ?c46 ?k46
    (case aK_DEEDS => k_is)
    (case aK_MOST_ROWS => k_is)
    (case aK_START => k_is)
    (case lT_kDEEDS => k_is)
    (case lT_kSTART => k_is)
    (case lT_kSTART_1 => k_is)
    (case aC_Lift => k_is)
    (case pg_Lift => k_is)
    (case hd_Lift => k_is)
    (case po_Lift => k_is)
    (case sa_Lift => k_is)
    (case mk_Lift => k_is)
    (case kc_Lift => k_is)
    (case n_Lift_setup => k_is)
    (case n_Lift_first => k_is)
    (case n_Lift_present => k_is)
    (case n_Lift_here => k_is)
    (case n_Lift_done => k_is)
    (case n_Lift_gone => k_is)
    (case n_Lift_earlier => k_is)
    (case ha_Lift => k_is)
    (case hn_Lift => k_is)
    (case ht_Lift => k_is)
    (case hm_Lift => k_is)
    (case cx1_Lift => k_is)
    (case cx2_Lift => k_is)
    (case kn_Lift => k_is)
    (case kt_Lift => k_is)
    (case kl_Lift => k_is)
    (case z_all => k_is)
    (case z_bool => k_is)
    (case z_int => k_is)
    (case z_isinstance => k_is)
    (case z_len => k_is)
    (case z_list => k_is)
    (case z_max => k_is)
    (case z_min => k_is)
    (case z_range => k_is)
    (case z_str => k_is)
    (case z_tuple => k_is)
    (case z_zip => k_is)
    (case a0 => k_is)
    (case l0 => k_is)
    (case c0 => k_is)
    (case k0 => k_is)
    (case a1 => k_is)
    (case l1 => k_is)
    (case c1 => k_is)
    (case k1 => k_is)
    (case a2 => k_is)
    (case i2 => k_is)
    (case l2 => k_is)
    (case c2 => k_is)
    (case k2 => k_is)
    (case a3 => k_is)
    (case i3 => k_is)
    (case l3 => k_is)
    (case c3 => k_is)
    (case k3 => k_is)
    (case a4 => k_is)
    (case i4 => k_is)
    (case l4 => k_is)
    (case c4 => k_is)
    (case k4 => k_is)
    (case a5 => k_is)
    (case i5 => k_is)
    (case l5 => k_is)
    (case c5 => k_is)
    (case k5 => k_is)
    (case a6 => k_is)
    (case l6 => k_is)
    (case c6 => k_is)
    (case k6 => k_is)
    (case a7 => k_is)
    (case i7 => k_is)
    (case l7 => k_is)
    (case c7 => k_is)
    (case k7 => k_is)
    (case a8 => k_is)
    (case l8 => k_is)
    (case c8 => k_is)
    (case k8 => k_is)
    (case a9 => k_is)
    (case l9 => k_is)
    (case c9 => k_is)
    (case k9 => k_is)
    (case a10 => k_is)
    (case l10 => k_is)
    (case c10 => k_is)
    (case k10 => k_is)
    (case a11 => k_is)
    (case l11 => k_is)
    (case c11 => k_is)
    (case k11 => k_is)
    (case a12 => k_is)
    (case l12 => k_is)
    (case c12 => k_is)
    (case k12 => k_is)
    (case a13 => k_is)
    (case l13 => k_is)
    (case c13 => k_is)
    (case k13 => k_is)
    (case a14 => k_is)
    (case l14 => k_is)
    (case c14 => k_is)
    (case k14 => k_is)
    (case a15 => k_is)
    (case l15 => k_is)
    (case c15 => k_is)
    (case k15 => k_is)
    (case a16 => k_is)
    (case l16 => k_is)
    (case c16 => k_is)
    (case k16 => k_is)
    (case a17 => k_is)
    (case l17 => k_is)
    (case c17 => k_is)
    (case k17 => k_is)
    (case a18 => k_is)
    (case l18 => k_is)
    (case c18 => k_is)
    (case k18 => k_is)
    (case a19 => k_is)
    (case l19 => k_is)
    (case c19 => k_is)
    (case k19 => k_is)
    (case a20 => k_is)
    (case l20 => k_is)
    (case c20 => k_is)
    (case k20 => k_is)
    (case a21 => k_is)
    (case l21 => k_is)
    (case c21 => k_is)
    (case k21 => k_is)
    (case a22 => k_is)
    (case l22 => k_is)
    (case c22 => k_is)
    (case k22 => k_is)
    (case a23 => k_is)
    (case l23 => k_is)
    (case c23 => k_is)
    (case k23 => k_is)
    (case a24 => k_is)
    (case i24 => k_is)
    (case l24 => k_is)
    (case c24 => k_is)
    (case k24 => k_is)
    (case lD24 => k_is)
    (case a25 => k_is)
    (case i25 => k_is)
    (case l25 => k_is)
    (case c25 => k_is)
    (case k25 => k_is)
    (case a26 => k_is)
    (case l26 => k_is)
    (case c26 => k_is)
    (case k26 => k_is)
    (case a27 => k_is)
    (case l27 => k_is)
    (case c27 => k_is)
    (case k27 => k_is)
    (case a28 => k_is)
    (case l28 => k_is)
    (case c28 => k_is)
    (case k28 => k_is)
    (case a29 => k_is)
    (case l29 => k_is)
    (case c29 => k_is)
    (case k29 => k_is)
    (case a30 => k_is)
    (case l30 => k_is)
    (case c30 => k_is)
    (case k30 => k_is)
    (case a31 => k_is)
    (case i31 => k_is)
    (case l31 => k_is)
    (case c31 => k_is)
    (case k31 => k_is)
    (case a32 => k_is)
    (case l32 => k_is)
    (case c32 => k_is)
    (case k32 => k_is)
    (case a33 => k_is)
    (case i33 => k_is)
    (case l33 => k_is)
    (case c33 => k_is)
    (case k33 => k_is)
    (case a34 => k_is)
    (case l34 => k_is)
    (case c34 => k_is)
    (case k34 => k_is)
    (case a35 => k_is)
    (case l35 => k_is)
    (case c35 => k_is)
    (case k35 => k_is)
    (case a36 => k_is)
    (case l36 => k_is)
    (case c36 => k_is)
    (case k36 => k_is)
    (case a37 => k_is)
    (case l37 => k_is)
    (case c37 => k_is)
    (case k37 => k_is)
    (case a38 => k_is)
    (case l38 => k_is)
    (case c38 => k_is)
    (case k38 => k_is)
    (case a39 => k_is)
    (case l39 => k_is)
    (case c39 => k_is)
    (case k39 => k_is)
    (case a40 => k_is)
    (case l40 => k_is)
    (case c40 => k_is)
    (case k40 => k_is)
    (case a41 => k_is)
    (case l41 => k_is)
    (case c41 => k_is)
    (case k41 => k_is)
    (case a42 => k_is)
    (case l42 => k_is)
    (case c42 => k_is)
    (case k42 => k_is)
    (case a43 => k_is)
    (case l43 => k_is)
    (case c43 => k_is)
    (case k43 => k_is)
    (case a44 => k_is)
    (case i44 => k_is)
    (case l44 => k_is)
    (case c44 => k_is)
    (case k44 => k_is)
    (case a45 => k_is)
    (case l45 => k_is)
    (case c45 => k_is)
    (case k45 => k_is)
    (case a46 => k_is)
    (case l46 => k_is)
    (case c46 => k_is)
    (case k46 => k_is)
#print axioms PySem.Challenge.cw_fillchairs_k85_whole_lifts_and_copies_holds

