import PyProof.Rows.All
import Wide.All
import OpenK.AllK
import Wide.FinOn
import HandS.ForMost
import HandS.ForExc
import HandS.IsInst
import HandS.Style
import HandS.Wide
import HandS.Conv
import PySem.Challenge.RW_cliprow_k01_pasted
set_option Elab.async false
set_option linter.all false
set_option maxRecDepth 100000
/-! The data layer, part a: plain data, what stands for it in a heap, results, the judgements. -/
namespace CL
open PySem PySem.Spec PyProof.Rows L2

/-- plain data: an instance by its class's number and its fields in order; a def by its number; the script -/
inductive D where
  | non | bl (b : Bool) | int (i : Int) | str (x : Str) | lst (xs : List D) | tup (xs : List D) | dct | ins (c : Nat) (fs : List D) | fn (i : Nat) | scr (ns : List Int)
/-- the text's own addresses -/
structure Tx where
  K : PySem.W.Frag
  cls : Nat → Addr
  exc : Nat → Addr
  fna : Nat → Addr
/-- the fields of the classes: Forth, Either, Lacks, Grown -/
def FL : Nat → List Str
  | 0 => ["clippings", "marks"]
  | 1 => ["clippings", "marks"]
  | 2 => ["place"]
  | 3 => ["deeds", "marks"]
  | _ => []
/-- a result -/
inductive Rs (α : Type) where
  | ok (a : α) | exc (c : Nat) | stuck
def Rs.bnd {α β : Type} (x : Rs α) (f : α → Rs β) : Rs β := match x with
  | .ok a => f a
  | .exc c => .exc c
  | .stuck => .stuck
def ofO {α : Type} : Option α → Rs α
  | some a => .ok a
  | none => .stuck
theorem bnd_ok {α β : Type} (a : α) (f : α → Rs β) : (Rs.ok a).bnd f = f a := rfl
theorem bnd_exc {α β : Type} (c : Nat) (f : α → Rs β) : (Rs.exc c).bnd f = .exc c := rfl
theorem bnd_stuck {α β : Type} (f : α → Rs β) : (Rs.stuck : Rs α).bnd f = .stuck := rfl

/-! ### heaps -/
def Ex (H H' : Hp) : Prop := ∀ a o, H a = some o → H' a = some o
theorem Ex.refl (H : Hp) : Ex H H := fun _ _ h => h
theorem Ex.trans {H H1 H2 : Hp} (a : Ex H H1) (b : Ex H1 H2) : Ex H H2 := fun x o h => b x o (a x o h)
theorem Ex.new {H : Hp} {p : Addr} {o : HO} (h : H p = none) : Ex H (upd H p o) := fun a u e => by
  rw [upd_ne (ne_of_none e h)]
  exact e
theorem Ex.both {F H : Hp} {p : Addr} {o : HO} (e : Ex F H) : Ex (upd F p o) (upd H p o) := fun a u ha => by
  by_cases h : a = p
  · subst h
    rw [upd_same] at ha ⊢
    exact ha
  · rw [upd_ne h] at ha ⊢
    exact e a u ha
theorem Ex.right {F H : Hp} {p : Addr} {o : HO} (e : Ex F H) (h : F p = none) : Ex F (upd H p o) := fun a u ha => by
  rw [upd_ne (ne_of_none ha h)]
  exact e a u ha
theorem Ex.left {F H : Hp} {p : Addr} {o : HO} (e : Ex F H) (h : H p = some o) : Ex (upd F p o) H := fun a u ha => by
  by_cases q : a = p
  · subst q
    rw [upd_same] at ha
    rw [h, ha]
  · rw [upd_ne q] at ha
    exact e a u ha
theorem Ex.back {H H' : Hp} {p : Addr} (e : Ex H H') (h : H' p = none) : H p = none := by
  cases q : H p with
  | none => rfl
  | some o =>
    rw [e p o q] at h
    cases h
theorem Ex.rd {H H' : Hp} {a : Addr} {u : HO} (e : Ex H H') (h : Rd H a u) : Rd H' a u := by
  rcases h with h | ⟨o, h⟩
  · exact Or.inl (e a _ h)
  · exact Or.inr ⟨o, e a _ h⟩
theorem Ex.sq {K : PySem.W.Frag} {H H' : Hp} {a : Addr} {xs : List V} (e : Ex H H') (h : SqL K H a xs) : SqL K H' a xs := by
  rcases h with h | h
  · exact Or.inl (e.rd h)
  · exact Or.inr h
/-- both heaps have grown, by new things alone -/
structure Up (F H F' H' : Hp) : Prop where
  f : Ex F F'
  h : Ex H H'
  s : Ex F' H'
  n : ∀ a o, F a = none → F' a = some o → H a = none
theorem Up.refl {F H : Hp} (e : Ex F H) : Up F H F H := ⟨Ex.refl F, Ex.refl H, e, fun a o h1 h2 => by rw [h1] at h2; cases h2⟩
theorem Up.trans {F H F1 H1 F2 H2 : Hp} (a : Up F H F1 H1) (b : Up F1 H1 F2 H2) : Up F H F2 H2 :=
  ⟨a.f.trans b.f, a.h.trans b.h, b.s, fun x o h1 h2 => by
    cases q : F1 x with
    | none => exact a.h.back (b.n x o q h2)
    | some u => exact a.n x u h1 q⟩
/-- the heap alone has grown -/
theorem Up.heap {F H H' : Hp} (e : Ex F H) (h : Ex H H') : Up F H F H' := ⟨Ex.refl F, h, e.trans h, fun a o h1 h2 => by rw [h1] at h2; cases h2⟩
/-- a new thing, known -/
theorem Up.new {F H : Hp} {p : Addr} {o : HO} (e : Ex F H) (h : H p = none) : Up F H (upd F p o) (upd H p o) :=
  ⟨Ex.new (e.back h), Ex.new h, e.both, fun a u h1 h2 => by
    by_cases q : a = p
    · rw [q]; exact h
    · rw [upd_ne q, h1] at h2; cases h2⟩
/-- a new thing, not known -/
theorem Up.newO {F H : Hp} {p : Addr} {o : HO} (e : Ex F H) (h : H p = none) : Up F H F (upd H p o) := Up.heap e (Ex.new h)
/-- a thing of the heap that was new becomes known -/
theorem Up.know {F0 H0 F H : Hp} {p : Addr} {o : HO} (u : Up F0 H0 F H) (h : H p = some o) (h0 : H0 p = none) (hf : F p = none) : Up F0 H0 (upd F p o) H :=
  ⟨fun a x e => by rw [upd_ne (ne_of_none (u.f a x e) hf)]; exact u.f a x e, u.h, u.s.left h, fun a x h1 h2 => by
    by_cases q : a = p
    · rw [q]; exact h0
    · rw [upd_ne q] at h2; exact u.n a x h1 h2⟩
/-- a thing that was new changes -/
theorem Up.mut {F0 H0 F H : Hp} {p : Addr} {o : HO} (u : Up F0 H0 F H) (h0 : H0 p = none) (hf : F p = none) : Up F0 H0 F (upd H p o) :=
  ⟨u.f, u.h.right h0, u.s.right hf, u.n⟩
/-- what is known of an address that stood and was not known stays unknown -/
theorem Up.hid {F H F' H' : Hp} {p : Addr} {o : HO} (u : Up F H F' H') (hf : F p = none) (hp : H p = some o) : F' p = none := by
  cases q : F' p with
  | none => rfl
  | some x =>
    have := u.n p x hf q
    rw [hp] at this
    cases this

/-! ### what stands for a datum -/
mutual
inductive Rp (T : Tx) (F : Hp) : V → D → Prop
  | non : Rp T F .non .non
  | bl (b : Bool) : Rp T F (.bl b) (.bl b)
  | int (i : Int) : Rp T F (.int i) (.int i)
  | str (x : Str) : Rp T F (.str x) (.str x)
  | lst {a : Addr} {xs : List V} {ds : List D} : Rd F a (.lst xs) → RpAll T F xs ds → Rp T F (.ref a) (.lst ds)
  | tup {a : Addr} {xs : List V} {ds : List D} : F a = some (.tup xs) → RpAll T F xs ds → Rp T F (.ref a) (.tup ds)
  | dct {a : Addr} : F a = some (.dK []) → Rp T F (.ref a) .dct
  | ins {a dx : Addr} {c : Nat} {fs : List (Str × V)} {ds : List D} : F a = some (.ins (T.cls c) dx fs) → fs.map (·.1) = FL c → RpAll T F (fs.map (·.2)) ds → Rp T F (.ref a) (.ins c ds)
  | fn (i : Nat) : Rp T F (.ref (T.fna i)) (.fn i)
  | scr {a : Addr} {ns : List Int} : SqL T.K F a (ns.map V.int) → Rp T F (.ref a) (.scr ns)
inductive RpAll (T : Tx) (F : Hp) : List V → List D → Prop
  | nil : RpAll T F [] []
  | cons {v : V} {vs : List V} {d : D} {ds : List D} : Rp T F v d → RpAll T F vs ds → RpAll T F (v :: vs) (d :: ds)
end
mutual
theorem Rp.mono {T : Tx} {F F' : Hp} (e : Ex F F') : ∀ {v : V} {d : D}, Rp T F v d → Rp T F' v d
  | _, _, .non => .non
  | _, _, .bl b => .bl b
  | _, _, .int i => .int i
  | _, _, .str x => .str x
  | _, _, .lst h a => .lst (e.rd h) (RpAll.mono e a)
  | _, _, .tup h a => .tup (e _ _ h) (RpAll.mono e a)
  | _, _, .dct h => .dct (e _ _ h)
  | _, _, .ins h n a => .ins (e _ _ h) n (RpAll.mono e a)
  | _, _, .fn i => .fn i
  | _, _, .scr h => .scr (e.sq h)
theorem RpAll.mono {T : Tx} {F F' : Hp} (e : Ex F F') : ∀ {vs : List V} {ds : List D}, RpAll T F vs ds → RpAll T F' vs ds
  | _, _, .nil => .nil
  | _, _, .cons h t => .cons (Rp.mono e h) (RpAll.mono e t)
end
section
variable {T : Tx} {F F' : Hp}
theorem RpAll.length : ∀ {vs : List V} {ds : List D}, RpAll T F vs ds → vs.length = ds.length
  | _, _, .nil => rfl
  | _, _, .cons _ t => by simp [t.length]
theorem RpAll.get : ∀ {vs : List V} {ds : List D} {i : Nat} {d : D}, RpAll T F vs ds → ds[i]? = some d → ∃ v, vs[i]? = some v ∧ Rp T F v d
  | _, _, _, _, .nil, h => by simp at h
  | _, _, 0, _, .cons h _, e => by simp at e; subst e; exact ⟨_, rfl, h⟩
  | _, _, i + 1, d, .cons _ t, e => by
    obtain ⟨v, h1, h2⟩ := RpAll.get (i := i) (d := d) t (by simpa using e)
    exact ⟨v, by simpa using h1, h2⟩
theorem RpAll.getV : ∀ {vs : List V} {ds : List D} {i : Nat} {v : V}, RpAll T F vs ds → vs[i]? = some v → ∃ d, ds[i]? = some d ∧ Rp T F v d
  | _, _, _, _, .nil, h => by simp at h
  | _, _, 0, _, .cons h _, e => by simp at e; subst e; exact ⟨_, rfl, h⟩
  | _, _, i + 1, d, .cons _ t, e => by
    obtain ⟨v, h1, h2⟩ := RpAll.getV (i := i) t (by simpa using e)
    exact ⟨v, by simpa using h1, h2⟩
theorem RpAll.append : ∀ {vs us : List V} {ds es : List D}, RpAll T F vs ds → RpAll T F us es → RpAll T F (vs ++ us) (ds ++ es)
  | _, _, _, _, .nil, h => h
  | _, _, _, _, .cons r t, h => .cons r (RpAll.append t h)
theorem RpAll.take : ∀ {vs : List V} {ds : List D} (n : Nat), RpAll T F vs ds → RpAll T F (vs.take n) (ds.take n)
  | _, _, 0, _ => .nil
  | _, _, _ + 1, .nil => .nil
  | _, _, n + 1, .cons r t => .cons r (RpAll.take n t)
theorem RpAll.drop : ∀ {vs : List V} {ds : List D} (n : Nat), RpAll T F vs ds → RpAll T F (vs.drop n) (ds.drop n)
  | _, _, 0, h => h
  | _, _, _ + 1, .nil => .nil
  | _, _, n + 1, .cons _ t => RpAll.drop n t
theorem RpAll.reverse {vs : List V} {ds : List D} (h : RpAll T F vs ds) : RpAll T F vs.reverse ds.reverse := by
  induction vs generalizing ds with
  | nil => cases h; exact .nil
  | cons v vs ih =>
    cases h with
    | cons r t =>
      rw [List.reverse_cons, List.reverse_cons]
      exact (ih t).append (.cons r .nil)
theorem RpAll.rep {vs : List V} {ds : List D} (h : RpAll T F vs ds) : ∀ k : Nat, RpAll T F (List.replicate k vs).flatten (List.replicate k ds).flatten
  | 0 => .nil
  | k + 1 => by
    rw [List.replicate_succ, List.replicate_succ, List.flatten_cons, List.flatten_cons]
    exact h.append (RpAll.rep h k)
theorem RpAll.set : ∀ {vs : List V} {ds : List D} {v : V} {d : D} (i : Nat), RpAll T F vs ds → Rp T F v d → RpAll T F (vs.set i v) (ds.set i d)
  | _, _, _, _, _, .nil, _ => .nil
  | _, _, _, _, 0, .cons _ t, r => .cons r t
  | _, _, _, _, i + 1, .cons q t, r => .cons q (RpAll.set i t r)
theorem RpAll.dropLast : ∀ {vs : List V} {ds : List D}, RpAll T F vs ds → RpAll T F vs.dropLast ds.dropLast
  | _, _, .nil => .nil
  | _, _, .cons _ .nil => .nil
  | _, _, .cons r (.cons q t) => .cons r (RpAll.dropLast (.cons q t))
theorem RpAll.ints {vs : List V} : ∀ {ns : List Int}, RpAll T F vs (ns.map D.int) → vs = ns.map V.int := by
  induction vs with
  | nil => intro ns h; cases ns with
    | nil => rfl
    | cons n ns => cases h
  | cons v vs ih => intro ns h; cases ns with
    | nil => cases h
    | cons n ns =>
      cases h with
      | cons r t =>
        cases r
        rw [ih t]
        rfl
theorem rpAll_ints : ∀ ns : List Int, RpAll T F (ns.map V.int) (ns.map D.int)
  | [] => .nil
  | n :: ns => .cons (.int n) (rpAll_ints ns)
theorem RpAll.bls {vs : List V} : ∀ {bs : List Bool}, RpAll T F vs (bs.map D.bl) → vs = bs.map V.bl := by
  induction vs with
  | nil => intro ns h; cases ns with
    | nil => rfl
    | cons n ns => cases h
  | cons v vs ih => intro ns h; cases ns with
    | nil => cases h
    | cons n ns =>
      cases h with
      | cons r t =>
        cases r
        rw [ih t]
        rfl
end

/-! ### the slots -/
/-- what is known of a slot: nothing, a shared datum, a list of the def's own that may change -/
inductive Sd where
  | no | sh (d : D) | ow (ds : List D)
structure R (T : Tx) (F H : Hp) (s : L2.St) (z : List Sd) : Prop where
  ex : Ex F H
  sh : ∀ (i : Nat) (d : D), z[i]? = some (.sh d) → ∃ v, s[i]? = some (some v) ∧ Rp T F v d
  ow : ∀ (i : Nat) (ds : List D), z[i]? = some (.ow ds) → ∃ p xs, s[i]? = some (some (.ref p)) ∧ H p = some (.lst xs) ∧ F p = none ∧ RpAll T F xs ds
  ap : ∀ (i j : Nat) (p : Addr) (ds es : List D), z[i]? = some (.ow ds) → z[j]? = some (.ow es) → s[i]? = some (some (.ref p)) → s[j]? = some (some (.ref p)) → i = j
  len : z.length = s.length
section
variable {T : Tx} {F H F' H' : Hp} {s : L2.St} {z : List Sd}
theorem R.up (r : R T F H s z) (u : Up F H F' H') : R T F' H' s z :=
  ⟨u.s, fun i d h => let ⟨v, a, b⟩ := r.sh i d h; ⟨v, a, b.mono u.f⟩, fun i ds h => let ⟨p, xs, a, b, c, d⟩ := r.ow i ds h; ⟨p, xs, a, u.h _ _ b, u.hid c b, d.mono u.f⟩, r.ap, r.len⟩
/-- all own lists seen as data -/
def frz (z : List Sd) : List Sd := z.map fun x => match x with
  | .ow ds => .sh (.lst ds)
  | x => x
theorem R.frz (r : R T F H s z) : R T H H s (frz z) := by
  refine ⟨Ex.refl H, fun i d h => ?_, fun i ds h => ?_, fun i j p ds es h => ?_, by unfold CL.frz; rw [List.length_map]; exact r.len⟩
  · unfold CL.frz at h
    rw [List.getElem?_map] at h
    cases q : z[i]? with
    | none => rw [q] at h; cases h
    | some x =>
      rw [q] at h
      cases x with
      | no => cases h
      | sh d' =>
        cases h
        obtain ⟨v, a, b⟩ := r.sh i _ q
        exact ⟨v, a, b.mono r.ex⟩
      | ow ds =>
        cases h
        obtain ⟨p, xs, a, b, c, d⟩ := r.ow i _ q
        exact ⟨_, a, .lst (.inl b) (d.mono r.ex)⟩
  · unfold CL.frz at h
    rw [List.getElem?_map] at h
    cases q : z[i]? with
    | none => rw [q] at h; cases h
    | some x => rw [q] at h; cases x <;> cases h
  · unfold CL.frz at h
    rw [List.getElem?_map] at h
    cases q : z[i]? with
    | none => rw [q] at h; cases h
    | some x => rw [q] at h; cases x <;> cases h
/-- a slot is stored: a datum -/
theorem R.set {i : Nat} {v : V} {d : D} (r : R T F H s z) (h : Rp T F v d) : R T F H (s.set i (some v)) (z.set i (.sh d)) := by
  refine ⟨r.ex, fun j e q => ?_, fun j ds q => ?_, fun j k p ds es q1 q2 q3 q4 => ?_, by rw [List.length_set, List.length_set]; exact r.len⟩
  · by_cases hj : i = j
    · subst hj
      have hl : i < z.length := by
        have := (List.getElem?_eq_some_iff.mp q).1
        rwa [List.length_set] at this
      rw [List.getElem?_set_self hl] at q
      cases q
      exact ⟨v, List.getElem?_set_self (by rw [← r.len]; exact hl), h⟩
    · rw [List.getElem?_set_ne hj] at q ⊢
      exact r.sh j e q
  · by_cases hj : i = j
    · subst hj
      have hl : i < z.length := by
        have := (List.getElem?_eq_some_iff.mp q).1
        rwa [List.length_set] at this
      rw [List.getElem?_set_self hl] at q
      cases q
    · rw [List.getElem?_set_ne hj] at q ⊢
      exact r.ow j ds q
  · have no : ∀ {j : Nat} {ds : List D}, (z.set i (Sd.sh d))[j]? = some (.ow ds) → i ≠ j := fun {j ds} q hj => by
      subst hj
      have hl : i < z.length := by
        have := (List.getElem?_eq_some_iff.mp q).1
        rwa [List.length_set] at this
      rw [List.getElem?_set_self hl] at q
      cases q
    have n1 := no q1
    have n2 := no q2
    rw [List.getElem?_set_ne n1] at q1 q3
    rw [List.getElem?_set_ne n2] at q2 q4
    exact r.ap j k p ds es q1 q2 q3 q4
/-- .. a list of the def's own -/
theorem R.setO {i : Nat} {p : Addr} {xs : List V} {ds : List D} (r : R T F H s z) (hp : H p = some (.lst xs)) (hf : F p = none) (h : RpAll T F xs ds)
    (ap : ∀ (j : Nat) (es : List D), j ≠ i → z[j]? = some (.ow es) → s[j]? ≠ some (some (.ref p))) : R T F H (s.set i (some (.ref p))) (z.set i (.ow ds)) := by
  have at_ : ∀ {j : Nat} {x : Sd}, (z.set i (Sd.ow ds))[j]? = some x → (i = j ∧ x = .ow ds ∧ i < z.length) ∨ (i ≠ j ∧ z[j]? = some x) := fun {j x} q => by
    by_cases hj : i = j
    · subst hj
      have hl : i < z.length := by
        have := (List.getElem?_eq_some_iff.mp q).1
        rwa [List.length_set] at this
      rw [List.getElem?_set_self hl] at q
      cases q
      exact .inl ⟨rfl, rfl, hl⟩
    · rw [List.getElem?_set_ne hj] at q
      exact .inr ⟨hj, q⟩
  refine ⟨r.ex, fun j e q => ?_, fun j es q => ?_, fun j k a es fs q1 q2 q3 q4 => ?_, by rw [List.length_set, List.length_set]; exact r.len⟩
  · rcases at_ q with ⟨_, z1, _⟩ | ⟨n, q⟩
    · cases z1
    · rw [List.getElem?_set_ne n]
      exact r.sh j e q
  · rcases at_ q with ⟨e, z1, hl⟩ | ⟨n, q⟩
    · cases z1
      subst e
      exact ⟨p, xs, List.getElem?_set_self (by rw [← r.len]; exact hl), hp, hf, h⟩
    · rw [List.getElem?_set_ne n]
      exact r.ow j es q
  · rcases at_ q1 with ⟨e1, _, hl⟩ | ⟨n1, q1⟩
    · subst e1
      rcases at_ q2 with ⟨e2, _, _⟩ | ⟨n2, q2⟩
      · exact e2
      · rw [List.getElem?_set_self (by rw [← r.len]; exact hl)] at q3
        rw [List.getElem?_set_ne n2] at q4
        cases q3
        exact absurd q4 (ap k fs (Ne.symm n2) q2)
    · rcases at_ q2 with ⟨e2, _, hl⟩ | ⟨n2, q2⟩
      · subst e2
        rw [List.getElem?_set_self (by rw [← r.len]; exact hl)] at q4
        rw [List.getElem?_set_ne n1] at q3
        cases q4
        exact absurd q3 (ap j es (Ne.symm n1) q1)
      · rw [List.getElem?_set_ne n1] at q3
        rw [List.getElem?_set_ne n2] at q4
        exact r.ap j k a es fs q1 q2 q3 q4
/-- an own list changes -/
theorem R.chg {i : Nat} {p : Addr} {xs ys : List V} {ds es : List D} (r : R T F H s z) (hz : z[i]? = some (.ow ds)) (hs : s[i]? = some (some (.ref p))) (h : RpAll T F ys es) :
    R T F (upd H p (.lst ys)) s (z.set i (.ow es)) := by
  have hl : i < z.length := (List.getElem?_eq_some_iff.mp hz).1
  obtain ⟨p', xs', e1, hp, hf, _⟩ := r.ow i ds hz
  rw [hs] at e1
  cases e1
  have at_ : ∀ {j : Nat} {x : Sd}, (z.set i (Sd.ow es))[j]? = some x → (i = j ∧ x = .ow es) ∨ (i ≠ j ∧ z[j]? = some x) := fun {j x} q => by
    by_cases hj : i = j
    · subst hj
      rw [List.getElem?_set_self hl] at q
      cases q
      exact .inl ⟨rfl, rfl⟩
    · rw [List.getElem?_set_ne hj] at q
      exact .inr ⟨hj, q⟩
  have un : ∀ {j : Nat} {fs : List D}, (z.set i (Sd.ow es))[j]? = some (.ow fs) → ∃ gs, z[j]? = some (.ow gs) := fun {j fs} q => by
    rcases at_ q with ⟨e, z1⟩ | ⟨n, q⟩
    · subst e; exact ⟨ds, hz⟩
    · exact ⟨fs, q⟩
  refine ⟨r.ex.right hf, fun j e q => ?_, fun j fs q => ?_, fun j k a fs gs q1 q2 q3 q4 => ?_, by rw [List.length_set]; exact r.len⟩
  · rcases at_ q with ⟨_, z1⟩ | ⟨n, q⟩
    · cases z1
    · exact r.sh j e q
  · rcases at_ q with ⟨e, z1⟩ | ⟨n, q⟩
    · subst e
      cases z1
      exact ⟨p, ys, hs, upd_same, hf, h⟩
    · obtain ⟨q', xs2, a, b, c, d⟩ := r.ow j fs q
      refine ⟨q', xs2, a, ?_, c, d⟩
      rw [upd_ne]
      · exact b
      · rintro rfl
        exact n (r.ap i j q' ds fs hz q hs a)
  · obtain ⟨fs', q1⟩ := un q1
    obtain ⟨gs', q2⟩ := un q2
    exact r.ap j k a fs' gs' q1 q2 q3 q4
/-- an own list becomes a shared datum -/
theorem R.know {i : Nat} {p : Addr} {xs : List V} {ds : List D} (r : R T F H s z) (hz : z[i]? = some (.ow ds)) (hs : s[i]? = some (some (.ref p))) (hp : H p = some (.lst xs)) (hx : RpAll T F xs ds) :
    R T (upd F p (.lst xs)) H s (z.set i (.sh (.lst ds))) := by
  have hl : i < z.length := (List.getElem?_eq_some_iff.mp hz).1
  obtain ⟨p', xs', e1, hp', hf, _⟩ := r.ow i ds hz
  rw [hs] at e1
  cases e1
  have eF : Ex F (upd F p (.lst xs)) := Ex.new hf
  refine ⟨r.ex.left hp, fun j e q => ?_, fun j fs q => ?_, fun j k a fs gs q1 q2 q3 q4 => ?_, by rw [List.length_set]; exact r.len⟩
  · by_cases hj : i = j
    · subst hj
      rw [List.getElem?_set_self hl] at q
      cases q
      exact ⟨_, hs, .lst (.inl upd_same) (hx.mono eF)⟩
    · rw [List.getElem?_set_ne hj] at q
      obtain ⟨v, a, b⟩ := r.sh j e q
      exact ⟨v, a, b.mono eF⟩
  · by_cases hj : i = j
    · subst hj
      rw [List.getElem?_set_self hl] at q
      cases q
    · rw [List.getElem?_set_ne hj] at q
      obtain ⟨q', xs2, a, b, c, d⟩ := r.ow j fs q
      refine ⟨q', xs2, a, b, ?_, d.mono eF⟩
      rw [upd_ne]
      · exact c
      · rintro rfl
        exact hj (r.ap i j q' ds fs hz q hs a)
  · have no : ∀ {j : Nat} {fs : List D}, (z.set i (Sd.sh (.lst ds)))[j]? = some (.ow fs) → z[j]? = some (.ow fs) := fun {j fs} q => by
      by_cases hj : i = j
      · subst hj
        rw [List.getElem?_set_self hl] at q
        cases q
      · rw [List.getElem?_set_ne hj] at q
        exact q
    exact r.ap j k a fs gs (no q1) (no q2) q3 q4
end
end CL


set_option Elab.async false
set_option linter.all false
set_option maxRecDepth 100000
/-! The data layer, part b: results and wishes, judgements, expressions. -/
namespace CL
open PySem PySem.Spec L2

/-! ### what stands for a result -/
structure Rl (β α : Type) where
  r : Hp → Hp → Hp → β → α → Prop
  mono : ∀ {H H1 F2 H2 : Hp} {v : β} {x : α}, Ex H H1 → r H1 F2 H2 v x → r H F2 H2 v x
def Post {β α : Type} (T : Tx) (E : XK) (L : Rl β α) (F H : Hp) (Q : β → Hp → Prop) : Rs α → Prop
  | .ok d => ∀ v F' H', Up F H F' H' → L.r H F' H' v d → Q v H'
  | .exc c => ∀ H', Ex H H' → E (.ref (T.exc c)) none H'
  | .stuck => False
section
variable {T : Tx} {E : XK} {F H F1 H1 : Hp}
theorem Post.up {β α : Type} {L : Rl β α} {Q : β → Hp → Prop} {x : Rs α} (h : Post T E L F H Q x) (u : Up F H F1 H1) : Post T E L F1 H1 Q x := by
  cases x with
  | ok d => exact fun v F' H' u' r => h v F' H' (u.trans u') (L.mono u.h r)
  | exc c => exact fun H' e => h H' (u.h.trans e)
  | stuck => exact h
theorem Post.bnd {β α β2 α2 : Type} {L : Rl β α} {L2 : Rl β2 α2} {Q : β → Hp → Prop} {Q2 : β2 → Hp → Prop} {a : Rs α} {k : α → Rs α2} (h : Post T E L2 F H Q2 (a.bnd k))
    (step : ∀ x v F1 H1, Up F H F1 H1 → L.r H F1 H1 v x → Post T E L2 F1 H1 Q2 (k x) → Q v H1) : Post T E L F H Q a := by
  cases a with
  | ok d => exact fun v F' H' u r => step d v F' H' u r (Post.up (L := L2) h u)
  | exc c => exact h
  | stuck => exact h
theorem Post.mapQ {β α : Type} {L : Rl β α} {Q Q' : β → Hp → Prop} {x : Rs α} (h : Post T E L F H Q x) (k : ∀ v H', Q v H' → Q' v H') : Post T E L F H Q' x := by
  cases x with
  | ok d => exact fun v F' H' u r => k _ _ (h v F' H' u r)
  | exc c => exact h
  | stuck => exact h
theorem Post.ofO {β α : Type} {L : Rl β α} {Q : β → Hp → Prop} {x : Option α} (h : Post T E L F H Q (ofO x)) : ∃ d, x = some d ∧ ∀ v F' H', Up F H F' H' → L.r H F' H' v d → Q v H' := by
  cases x with
  | none => exact h.elim
  | some d => exact ⟨d, rfl, h⟩
end
def lV (T : Tx) : Rl V D := ⟨fun _ F _ v d => Rp T F v d, fun _ h => h⟩
def lA (T : Tx) : Rl (List V) (List D) := ⟨fun _ F _ v d => RpAll T F v d, fun _ h => h⟩
def lB : Rl Bool Bool := ⟨fun _ _ _ v d => v = d, fun _ h => h⟩
def lO : Rl (Option Int) (Option Int) := ⟨fun _ _ _ v d => v = d, fun _ h => h⟩
/-- a new list of one's own -/
def lL (T : Tx) : Rl V (List D) := ⟨fun H F H' v ds => ∃ p xs, v = .ref p ∧ H p = none ∧ F p = none ∧ H' p = some (.lst xs) ∧ RpAll T F xs ds,
  fun e ⟨p, xs, a, b, c, d⟩ => ⟨p, xs, a, e.back b, c, d⟩⟩
/-- a list that is read now -/
def lI (T : Tx) : Rl V (List D) := ⟨fun _ F H' v ds => ∃ a xs, v = .ref a ∧ Rd H' a (.lst xs) ∧ RpAll T F xs ds, fun _ h => h⟩

def tG {β α : Type} (T : Tx) (E : XK) (L : Rl β α) (m : List Sd → Rs α) : L2.St → Hp → (β → Hp → Prop) → Prop := fun s H Q => ∃ F z, R T F H s z ∧ Post T E L F H Q (m z)
abbrev M := List Sd → Rs D
abbrev ML := List Sd → Rs (List D)
abbrev MB := List Sd → Rs Bool
def DE (T : Tx) (X : Cx) (E : XK) (e : Expr) (m : M) : Prop := PE X e (tG T E (lV T) m)
def DT (T : Tx) (X : Cx) (E : XK) (e : Expr) (m : MB) : Prop := PT X e (tG T E lB m)
def DW (T : Tx) (X : Cx) (E : XK) (e : Expr) (m : MB) : Prop := PW X e (tG T E lB m)
def DA (T : Tx) (X : Cx) (E : XK) (es : List Expr) (m : ML) : Prop := PA X es (tG T E (lA T) m)
def DL (T : Tx) (X : Cx) (E : XK) (e : Expr) (m : ML) : Prop := PE X e (tG T E (lL T) m)
def DI (T : Tx) (X : Cx) (E : XK) (e : Expr) (m : ML) : Prop := PE X e (tG T E (lI T) m)
def DO (T : Tx) (X : Cx) (E : XK) (e : Option Expr) (m : List Sd → Rs (Option Int)) : Prop := PO X e (tG T E lO m)

section
variable {X : Cx}
theorem pe_imp {e : Expr} {t t' : TE} (h : PE X e t) (i : ∀ s H Q, t' s H Q → t s H Q) : PE X e t' := ⟨fun pins s σ H Q I q => h.run pins s σ H Q I (i _ _ _ q)⟩
theorem pt_imp {e : Expr} {t t' : TT} (h : PT X e t) (i : ∀ s H Q, t' s H Q → t s H Q) : PT X e t' := ⟨fun pins s σ H Q I q => h.run pins s σ H Q I (i _ _ _ q)⟩
theorem pw_imp {e : Expr} {t t' : TT} (h : PW X e t) (i : ∀ s H Q, t' s H Q → t s H Q) : PW X e t' := ⟨fun wh pins s σ H Q I q => h.run wh pins s σ H Q I (i _ _ _ q)⟩
theorem pa_imp {e : List Expr} {t t' : TA} (h : PA X e t) (i : ∀ s H Q, t' s H Q → t s H Q) : PA X e t' := ⟨fun pos pins s σ H Q I q => h.run pos pins s σ H Q I (i _ _ _ q)⟩
theorem po_imp {e : Option Expr} {t t' : TO} (h : PO X e t) (i : ∀ s H Q, t' s H Q → t s H Q) : PO X e t' := ⟨fun pins s σ H Q I q => h.run pins s σ H Q I (i _ _ _ q)⟩
theorem ps_imp {e : Stmt} {t t' : TS} (h : PS X e t) (i : ∀ D s H, t' D s H → t D s H) : PS X e t' := ⟨fun pins s σ H D I q => h.run pins s σ H D I (i _ _ _ q)⟩
theorem pss_imp {e : List Stmt} {t t' : TS} (h : PSs X e t) (i : ∀ D s H, t' D s H → t D s H) : PSs X e t' := ⟨fun pins s σ H D I q => h.run pins s σ H D I (i _ _ _ q)⟩
theorem pe_alt {e : Expr} {t t' : TE} (h : PE X e t) (h' : PE X e t') : PE X e (fun s H Q => t s H Q ∨ t' s H Q) := ⟨fun pins s σ H Q I q => q.elim (h.run pins s σ H Q I) (h'.run pins s σ H Q I)⟩
end

section
variable {T : Tx} {X : Cx} {E : XK} {a b c e : Expr} {es : List Expr} {pos : Pos} {ma mb mc m : M} {mes mi ml : ML}

/-! ### names, constants -/
def mVar (i : Nat) : M := fun z => match z[i]? with
  | some (.sh d) => .ok d
  | _ => .stuck
theorem de_var (i : Nat) {x : Str} {pos : Pos} (hN : X.N[i]? = some x := by rfl) (hv : Vis X.env.scope x := by first | exact Or.inl rfl | exact Or.inr (Or.inl rfl) | exact Or.inr (Or.inr rfl)) (hd : (x == ("__debug__" : Str)) = false := by decide)
    (hcd : (x == ("__classdict__" : Str)) = false := by decide) : DE T X E (.Name x pos) (mVar i) := pe_imp (pe_var hN hv hd hcd) fun s H Q ⟨F, z, r, h⟩ => by
  unfold mVar at h
  split at h
  · rename_i d e
    obtain ⟨v, h1, h2⟩ := r.sh i d e
    exact ⟨v, h1, h v F H (Up.refl r.ex) h2⟩
  · exact h.elim
def mC (d : D) : M := fun _ => .ok d
theorem de_const {v : V} {d : D} (h : PE X e (tC v)) (r : ∀ F, Rp T F v d) : DE T X E e (mC d) := pe_imp h fun s H Q ⟨F, z, q, h⟩ => h v F H (Up.refl q.ex) (r F)
theorem de_int {i j pos} : DE T X E (.Constant (.int i) j pos) (mC (.int i)) := de_const pe_int fun _ => .int i
theorem de_bl {b j pos} : DE T X E (.Constant (.bool b) j pos) (mC (.bl b)) := de_const pe_bl fun _ => .bl b
theorem de_non {j pos} : DE T X E (.Constant .none j pos) (mC .non) := de_const pe_non fun _ => .non
theorem de_str {x j pos} : DE T X E (.Constant (.str x) j pos) (mC (.str x)) := de_const pe_str fun _ => .str x
/-- a def of the module as a value -/
theorem de_fn (i : Nat) {x : Str} {pos : Pos} (hg : Gl X x) (hm : X.mg x = some (.ref (T.fna i))) (hd : (x == ("__debug__" : Str)) = false := by decide) : DE T X E (.Name x pos) (mC (.fn i)) :=
  de_const (pe_glob (v := .ref (T.fna i)) hg hm rfl hd) fun _ => .fn i

/-! ### operators -/
def OpD (T : Tx) (r : R2) (f : D → D → Option D) : Prop := ∀ (F H : Hp) (v w : V) (x y d : D) (Q : VK), Ex F H → Rp T F v x → Rp T F w y → f x y = some d → (∀ u F' H', Up F H F' H' → Rp T F' u d → Q u H') → r v w H Q
def mBin (f : D → D → Option D) (ma mb : M) : M := fun z => (ma z).bnd fun x => (mb z).bnd fun y => ofO (f x y)
theorem op_read {r : R2} {f : D → D → Option D} (hd : OpD T r f) : ∀ s H Q, tG T E (lV T) (mBin f ma mb) s H Q → tOp r (tG T E (lV T) ma) (tG T E (lV T) mb) s H Q := fun s H Q ⟨F, z, q, h⟩ =>
  ⟨F, z, q, Post.bnd (L := lV T) h fun x v F1 H1 u1 rx h1 => ⟨F1, z, q.up u1, Post.bnd (L := lV T) h1 fun y w F2 H2 u2 ry h2 => by
    obtain ⟨d, e, k⟩ := Post.ofO h2
    exact hd F2 H2 v w x y d Q u2.s (Rp.mono u2.f rx) ry e k⟩⟩
theorem de_op {op : Operator} {r : R2} {f : D → D → Option D} (ho : OpR X (binaryOp op) r) (hd : OpD T r f) (ha : DE T X E a ma) (hb : DE T X E b mb) : DE T X E (.BinOp a op b pos) (mBin f ma mb) :=
  pe_imp (pe_op ho ha hb) (op_read hd)
theorem de_cmp {op : CmpOp} {r : R2} {f : D → D → Option D} (ho : OpR X (compareOp op) r) (hd : OpD T r f) (ha : DE T X E a ma) (hb : DE T X E b mb) (hm : behindInMarks op b = false := by rfl) : DE T X E (.Compare a [op] [b] pos) (mBin f ma mb) :=
  pe_imp (pe_cmpR ho ha hb hm) (op_read hd)
theorem OpD.or1 {r r' : R2} {f : D → D → Option D} (h : OpD T r f) : OpD T (fun x y H Q => r x y H Q ∨ r' x y H Q) f := fun F H v w x y d Q e rx ry ef k => .inl (h F H v w x y d Q e rx ry ef k)
theorem OpD.or2 {r r' : R2} {f : D → D → Option D} (h : OpD T r' f) : OpD T (fun x y H Q => r x y H Q ∨ r' x y H Q) f := fun F H v w x y d Q e rx ry ef k => .inr (h F H v w x y d Q e rx ry ef k)
/-- ints to a flat value -/
theorem opd_I0 {g : Int → Int → V} {f : D → D → Option D} (hf : ∀ x y d, f x y = some d → ∃ i j, x = .int i ∧ y = .int j ∧ ∀ F, Rp T F (g i j) d) : OpD T (rI0 g) f := fun F H v w x y d Q e rx ry ef k => by
  obtain ⟨i, j, rfl, rfl, h⟩ := hf x y d ef
  cases rx
  cases ry
  exact ⟨i, j, rfl, rfl, k _ F H (Up.refl e) (h F)⟩
theorem opd_I {C : Int → Int → Prop} {g : Int → Int → V} {f : D → D → Option D} (hf : ∀ x y d, f x y = some d → ∃ i j, x = .int i ∧ y = .int j ∧ C i j ∧ ∀ F, Rp T F (g i j) d) : OpD T (rI C g) f := fun F H v w x y d Q e rx ry ef k => by
  obtain ⟨i, j, rfl, rfl, hc, h⟩ := hf x y d ef
  cases rx
  cases ry
  exact ⟨i, j, rfl, rfl, hc, k _ F H (Up.refl e) (h F)⟩
def intD (g : Int → Int → D) : D → D → Option D
  | .int i, .int j => some (g i j)
  | _, _ => none
theorem intD_some {g : Int → Int → D} {x y d : D} (h : intD g x y = some d) : ∃ i j, x = .int i ∧ y = .int j ∧ g i j = d := by
  cases x <;> cases y <;> first | (cases h; exact ⟨_, _, rfl, rfl, rfl⟩) | cases h
def intC (C : Int → Int → Bool) (g : Int → Int → D) : D → D → Option D
  | .int i, .int j => if C i j then some (g i j) else none
  | _, _ => none
theorem intC_some {C : Int → Int → Bool} {g : Int → Int → D} {x y d : D} (h : intC C g x y = some d) : ∃ i j, x = .int i ∧ y = .int j ∧ C i j = true ∧ g i j = d := by
  cases x <;> cases y <;> first | cases h | skip
  rename_i i j
  simp only [intC] at h
  by_cases hc : C i j = true
  · rw [if_pos hc] at h
    exact ⟨i, j, rfl, rfl, hc, Option.some.inj h⟩
  · rw [if_neg hc] at h
    cases h
def subD : D → D → Option D := intD fun i j => .int (i - j)
theorem opd_sub : OpD T (rI0 fun i j => .int (i - j)) subD := opd_I0 fun x y d h => let ⟨i, j, a, b, c⟩ := intD_some h; ⟨i, j, a, b, fun F => c ▸ .int _⟩
theorem de_sub (ha : DE T X E a ma) (hb : DE T X E b mb) : DE T X E (.BinOp a .Sub b pos) (mBin subD ma mb) := de_op op_sub opd_sub ha hb
def fdivD : D → D → Option D := intC (fun _ j => decide (0 < j ∧ j.natAbs.log2 < 9000)) fun i j => .int (i / j)
theorem opd_fdiv : OpD T (rI CDivW fun i j => .int (i / j)) fdivD := opd_I fun x y d h => let ⟨i, j, a, b, c, e⟩ := intC_some h; ⟨i, j, a, b, of_decide_eq_true (p := 0 < j ∧ j.natAbs.log2 < 9000) c, fun F => e ▸ .int _⟩
theorem de_fdiv (ha : DE T X E a ma) (hb : DE T X E b mb) : DE T X E (.BinOp a .FloorDiv b pos) (mBin fdivD ma mb) := de_op op_fdivW opd_fdiv ha hb
def modD : D → D → Option D := intC (fun _ j => decide (0 < j)) fun i j => .int (i % j)
theorem opd_mod : OpD T (rI (fun _ j => 0 < j) fun i j => .int (i % j)) modD := opd_I fun x y d h => let ⟨i, j, a, b, c, e⟩ := intC_some h; ⟨i, j, a, b, of_decide_eq_true c, fun F => e ▸ .int _⟩
theorem de_mod (ha : DE T X E a ma) (hb : DE T X E b mb) : DE T X E (.BinOp a .Mod b pos) (mBin modD ma mb) := de_op op_mod opd_mod ha hb
def powD : D → D → Option D := intC (fun i j => decide (0 ≤ j ∧ j ≤ 1000000 ∧ i.natAbs < 2 ^ 64)) fun i j => .int (i ^ j.toNat)
theorem opd_pow : OpD T (rI CPow fun i j => .int (i ^ j.toNat)) powD := opd_I fun x y d h => let ⟨i, j, a, b, c, e⟩ := intC_some h; ⟨i, j, a, b, of_decide_eq_true (p := 0 ≤ j ∧ j ≤ 1000000 ∧ i.natAbs < 2 ^ 64) c, fun F => e ▸ .int _⟩
theorem de_pow (ha : DE T X E a ma) (hb : DE T X E b mb) : DE T X E (.BinOp a .Pow b pos) (mBin powD ma mb) := de_op op_pow opd_pow ha hb

/-! ### list + list, list * int where the list is read (also a locked one) -/
def rCatR : R2 := fun x y H Q => ∃ l b xs zs, x = .ref l ∧ y = .ref b ∧ Rd H l (.lst xs) ∧ Rd H b (.lst zs) ∧ xs.length + zs.length ≤ sizeLine ∧ ∀ p, H p = none → Q (.ref p) (upd H p (.lst (xs ++ zs)))
theorem op_catR : OpR X (binaryOp .Add) rCatR := by
  intro pins s σ H x y v u Q I rx ry h
  obtain ⟨l, b, xs, zs, rfl, rfl, hH, hB, hz, q⟩ := h
  cases rx
  cases ry
  obtain ⟨z, its, n, r, e⟩ := hH.ok I.hok
  obtain ⟨z2, its2, n2, r2, e2⟩ := hB.ok I.hok
  have hl := r.length
  have hl2 := r2.length
  refine PySem.P.add_list e e2 ?_ (by rw [List.size_toArray, List.size_toArray]; omega)
  have ea : its.toArray ++ its2.toArray = (its ++ its2).toArray := by simp
  rw [ea]
  exact ⟨.ref _, _, I.lnew (t' := s.toks) (r.append r2) (by rw [List.length_append]; omega), rfl, q _ I.fresh⟩
def addD : D → D → Option D
  | .int i, .int j => some (.int (i + j))
  | .lst xs, .lst ys => if xs.length + ys.length ≤ sizeLine then some (.lst (xs ++ ys)) else none
  | _, _ => none
theorem opd_add : OpD T (fun x y H Q => rI0 (fun i j => .int (i + j)) x y H Q ∨ rCatR x y H Q) addD := fun F H v w x y d Q e rx ry ef k => by
  cases x <;> cases y <;> first | cases ef | skip
  · cases rx
    cases ry
    exact .inl ⟨_, _, rfl, rfl, k _ F H (Up.refl e) (.int _)⟩
  · cases rx with
    | lst h1 a1 =>
      cases ry with
      | lst h2 a2 =>
        rename_i xs ys _ _ _ _
        simp only [addD] at ef
        by_cases hz : xs.length + ys.length ≤ sizeLine
        · rw [if_pos hz] at ef
          cases ef
          refine .inr ⟨_, _, _, _, rfl, rfl, e.rd h1, e.rd h2, ?_, fun p hp => ?_⟩
          · rw [a1.length, a2.length]
            exact hz
          · refine k _ (upd F p _) _ (Up.new e hp) (.lst (.inl upd_same) ?_)
            exact (a1.append a2).mono (Ex.new (e.back hp))
        · rw [if_neg hz] at ef
          cases ef
theorem de_add (ha : DE T X E a ma) (hb : DE T X E b mb) : DE T X E (.BinOp a .Add b pos) (mBin addD ma mb) := de_op (op_add.or op_catR) opd_add ha hb
def rRepR : R2 := fun x y H Q => ∃ l k xs, x = .ref l ∧ y = .int k ∧ H l = some (.lst xs) ∧ -(2 ^ 63) ≤ k ∧ k < 2 ^ 63 ∧ xs.length * k.toNat ≤ sizeLine ∧
  ∀ p, H p = none → Q (.ref p) (upd H p (.lst (List.replicate k.toNat xs).flatten))
/-- the left factor small, or the right one -/
def mulOk (i j : Int) : Bool := decide ((-(2 ^ 64) < i ∧ i < 2 ^ 64) ∨ (-(2 ^ 64) < j ∧ j < 2 ^ 64))
def mulD : D → D → Option D := intC mulOk fun i j => .int (i * j)
theorem opd_mul : OpD T (rI CMul fun i j => .int (i * j)) mulD := opd_I fun x y d h => let ⟨i, j, a, b, c, e⟩ := intC_some h; ⟨i, j, a, b, of_decide_eq_true (p := (-(2 ^ 64) < i ∧ i < 2 ^ 64) ∨ (-(2 ^ 64) < j ∧ j < 2 ^ 64)) c, fun F => e ▸ .int _⟩
theorem de_mul (ha : DE T X E a ma) (hb : DE T X E b mb) : DE T X E (.BinOp a .Mult b pos) (mBin mulD ma mb) := de_op op_mul opd_mul ha hb

/-! ### unary -/
def mUn (f : D → Option D) (ma : M) : M := fun z => (ma z).bnd fun x => ofO (f x)
def negD : D → Option D
  | .int i => some (.int (-i))
  | _ => none
theorem de_neg (ha : DE T X E a ma) : DE T X E (.UnaryOp .USub a pos) (mUn negD ma) := pe_imp (pe_un un_neg ha) fun s H Q ⟨F, z, q, h⟩ =>
  ⟨F, z, q, Post.bnd (L := lV T) h fun x v F1 H1 u1 rx h1 => by
    obtain ⟨d, e, k⟩ := Post.ofO h1
    cases x <;> first | cases e | skip
    cases rx
    exact ⟨_, rfl, k _ F1 H1 (Up.refl u1.s) (.int _)⟩⟩

/-! ### comparisons of ints -/
def ltD : D → D → Option D := intD fun i j => .bl (decide (i < j))
def leD : D → D → Option D := intD fun i j => .bl (decide (i ≤ j))
def gtD : D → D → Option D := intD fun i j => .bl (decide (j < i))
def geD : D → D → Option D := intD fun i j => .bl (decide (j ≤ i))
theorem opd_lt : OpD T (rI0 fun i j => .bl (decide (i < j))) ltD := opd_I0 fun x y d h => let ⟨i, j, a, b, c⟩ := intD_some h; ⟨i, j, a, b, fun F => c ▸ .bl _⟩
theorem opd_le : OpD T (rI0 fun i j => .bl (decide (i ≤ j))) leD := opd_I0 fun x y d h => let ⟨i, j, a, b, c⟩ := intD_some h; ⟨i, j, a, b, fun F => c ▸ .bl _⟩
theorem opd_gt : OpD T (rI0 fun i j => .bl (decide (j < i))) gtD := opd_I0 fun x y d h => let ⟨i, j, a, b, c⟩ := intD_some h; ⟨i, j, a, b, fun F => c ▸ .bl _⟩
theorem opd_ge : OpD T (rI0 fun i j => .bl (decide (j ≤ i))) geD := opd_I0 fun x y d h => let ⟨i, j, a, b, c⟩ := intD_some h; ⟨i, j, a, b, fun F => c ▸ .bl _⟩
theorem de_lt (ha : DE T X E a ma) (hb : DE T X E b mb) : DE T X E (.Compare a [.Lt] [b] pos) (mBin ltD ma mb) := de_cmp op_lt opd_lt ha hb (nomark _)
theorem de_le (ha : DE T X E a ma) (hb : DE T X E b mb) : DE T X E (.Compare a [.LtE] [b] pos) (mBin leD ma mb) := de_cmp op_le opd_le ha hb (nomark _)
theorem de_gt (ha : DE T X E a ma) (hb : DE T X E b mb) : DE T X E (.Compare a [.Gt] [b] pos) (mBin gtD ma mb) := de_cmp op_gt opd_gt ha hb (nomark _)
theorem de_ge (ha : DE T X E a ma) (hb : DE T X E b mb) : DE T X E (.Compare a [.GtE] [b] pos) (mBin geD ma mb) := de_cmp op_ge opd_ge ha hb (nomark _)

/-! ### == at any depth -/
mutual
def toPy : D → Option PyData
  | .non => some .none
  | .bl b => some (.bool b)
  | .int i => some (.int i)
  | .str x => some (.str x)
  | .lst xs => (toPyAll xs).map .list
  | .tup xs => (toPyAll xs).map .tuple
  | .dct => none
  | .ins _ _ => none
  | .fn _ => none
  | .scr _ => none
def toPyAll : List D → Option (List PyData)
  | [] => some []
  | x :: xs => (toPy x).bind fun p => (toPyAll xs).map fun ps => p :: ps
end
mutual
theorem Rp.dp {K : PySem.W.Frag} {F : Hp} : ∀ (d : D) {v : V} {p : PyData}, Rp T F v d → toPy d = some p → Dp K F v p
  | .non, _, _, h, e => by cases h; simp only [toPy] at e; cases e; exact .non
  | .bl b, _, _, h, e => by cases h; simp only [toPy] at e; cases e; exact .bl b
  | .int i, _, _, h, e => by cases h; simp only [toPy] at e; cases e; exact .int i
  | .str x, _, _, h, e => by cases h; simp only [toPy] at e; cases e; exact .str x
  | .lst xs, _, _, h, e => by
    cases h with
    | lst h a =>
      simp only [toPy] at e
      cases q : toPyAll xs with
      | none => rw [q] at e; cases e
      | some ps => rw [q] at e; cases e; exact .lst (.inl h) (RpAll.dp xs a q)
  | .tup xs, _, _, h, e => by
    cases h with
    | tup h a =>
      simp only [toPy] at e
      cases q : toPyAll xs with
      | none => rw [q] at e; cases e
      | some ps => rw [q] at e; cases e; exact .tup (.inl (.inl h)) (RpAll.dp xs a q)
  | .dct, _, _, _, e => by simp only [toPy] at e; cases e
  | .ins _ _, _, _, _, e => by simp only [toPy] at e; cases e
  | .fn _, _, _, _, e => by simp only [toPy] at e; cases e
  | .scr _, _, _, _, e => by simp only [toPy] at e; cases e
theorem RpAll.dp {K : PySem.W.Frag} {F : Hp} : ∀ (ds : List D) {vs : List V} {ps : List PyData}, RpAll T F vs ds → toPyAll ds = some ps → DpAll K F vs ps
  | [], _, _, h, e => by cases h; simp only [toPyAll] at e; cases e; exact .nil
  | d :: ds, _, _, h, e => by
    cases h with
    | cons r t =>
      simp only [toPyAll] at e
      cases q : toPy d with
      | none => rw [q] at e; cases e
      | some p =>
        rw [q] at e
        cases q2 : toPyAll ds with
        | none => rw [q2] at e; cases e
        | some ps2 => rw [q2] at e; cases e; exact .cons (Rp.dp d r q) (RpAll.dp ds t q2)
end
def eqD (x y : D) : Option Bool := match toPy x, toPy y with
  | some p, some q => if SeqAt.shaped p && SeqAt.shaped q then some (PyData.eqv p q) else none
  | _, _ => none
theorem eqD_some {x y : D} {b : Bool} (h : eqD x y = some b) : ∃ p q, toPy x = some p ∧ toPy y = some q ∧ SeqAt.shaped p = true ∧ SeqAt.shaped q = true ∧ PyData.eqv p q = b := by
  unfold eqD at h
  split at h
  · rename_i p q h1 h2
    split at h
    · rename_i hs
      rw [Bool.and_eq_true] at hs
      exact ⟨p, q, h1, h2, hs.1, hs.2, Option.some.inj h⟩
    · cases h
  · cases h
theorem Dp.ex {K : PySem.W.Frag} {F H : Hp} {v : V} {d : D} {p : PyData} (e : Ex F H) (h : Rp T F v d) (q : toPy d = some p) : Dp K H v p := Rp.dp d (h.mono e) q
def eqB (x y : D) : Option D := (eqD x y).map fun b => .bl b
def neB (x y : D) : Option D := (eqD x y).map fun b => .bl (!b)
theorem opd_eq {K : PySem.W.Frag} : OpD T (rEqD K) eqB := fun F H v w x y d Q e rx ry ef k => by
  unfold eqB at ef
  cases q : eqD x y with
  | none => rw [q] at ef; cases ef
  | some b =>
    rw [q] at ef
    cases ef
    obtain ⟨p, p2, h1, h2, h3, h4, h5⟩ := eqD_some q
    refine ⟨p, p2, Dp.ex e rx h1, Dp.ex e ry h2, h3, h4, ?_⟩
    rw [h5]
    exact k _ F H (Up.refl e) (.bl b)
theorem opd_ne {K : PySem.W.Frag} : OpD T (rNeD K) neB := fun F H v w x y d Q e rx ry ef k => by
  unfold neB at ef
  cases q : eqD x y with
  | none => rw [q] at ef; cases ef
  | some b =>
    rw [q] at ef
    cases ef
    obtain ⟨p, p2, h1, h2, h3, h4, h5⟩ := eqD_some q
    refine ⟨p, p2, Dp.ex e rx h1, Dp.ex e ry h2, h3, h4, ?_⟩
    rw [h5]
    exact k _ F H (Up.refl e) (.bl _)
theorem de_eq {n : Nat} (hr : Room n X.A) (ha : DE T X E a ma) (hb : DE T X E b mb) : DE T X E (.Compare a [.Eq] [b] pos) (mBin eqB ma mb) := de_cmp (op_eqD hr.units) opd_eq ha hb (nomark _)
theorem de_ne {n : Nat} (hr : Room n X.A) (ha : DE T X E a ma) (hb : DE T X E b mb) : DE T X E (.Compare a [.NotEq] [b] pos) (mBin neB ma mb) := de_cmp (op_neD hr.units) opd_ne ha hb (nomark _)

/-! ### in, not in over flat things -/
def flatD : D → Bool
  | .non => true
  | .bl _ => true
  | .int _ => true
  | .str _ => true
  | _ => false
def eqF : D → D → Bool
  | .non, .non => true
  | .bl a, .bl b => a == b
  | .bl a, .int b => (if a then 1 else 0) == b
  | .int a, .bl b => a == (if b then 1 else 0)
  | .int a, .int b => a == b
  | .str a, .str b => a == b
  | _, _ => false
theorem Rp.flat {F : Hp} {v : V} {d : D} (h : Rp T F v d) (f : flatD d = true) : flatV v = true := by cases h <;> first | rfl | cases f
theorem Rp.eqF {F F' : Hp} {v w : V} {x y : D} (h : Rp T F v x) (k : Rp T F' w y) (fx : flatD x = true) (fy : flatD y = true) : eqV v w = eqF x y := by
  cases h <;> first | exact absurd (show false = true from fx) Bool.false_ne_true | skip
  all_goals (cases k <;> first | rfl | exact absurd (show false = true from fy) Bool.false_ne_true)
theorem RpAll.flat {F : Hp} : ∀ {vs : List V} {ds : List D}, RpAll T F vs ds → ds.all flatD = true → vs.all flatV = true
  | _, _, .nil, _ => rfl
  | _, _, .cons r t, f => by
    rw [List.all_cons, Bool.and_eq_true] at f ⊢
    exact ⟨r.flat f.1, RpAll.flat t f.2⟩
theorem RpAll.inV {F F' : Hp} {v : V} {x : D} (h : Rp T F' v x) (fx : flatD x = true) : ∀ {vs : List V} {ds : List D}, RpAll T F vs ds → ds.all flatD = true → inV v vs = ds.any fun y => CL.eqF y x
  | _, _, .nil, _ => rfl
  | _, _, .cons r t, f => by
    rw [List.all_cons, Bool.and_eq_true] at f
    have ih := RpAll.inV h fx t f.2
    unfold L2.inV at ih ⊢
    rw [List.any_cons, List.any_cons, ih, Rp.eqF r h f.1 fx]
def inD (neg : Bool) (x y : D) : Option D :=
  let go (ds : List D) : Option D := if flatD x && ds.all flatD then some (.bl (if neg then !ds.any fun y => eqF y x else ds.any fun y => eqF y x)) else none
  match y with
  | .lst ds => go ds
  | .tup ds => go ds
  | _ => none
theorem opd_in {K : PySem.W.Frag} {neg : Bool} : OpD T (rIn K neg) (inD neg) := fun F H v w x y d Q e rx ry ef k => by
  have go : ∀ (p : Addr) (vs : List V) (ds : List D), (SqL K H p vs ∨ SqT K H p vs) → RpAll T F vs ds → (if (flatD x && ds.all flatD) = true then some (D.bl (if neg then !ds.any fun y => eqF y x else ds.any fun y => eqF y x)) else none) = some d → rIn K neg v (.ref p) H Q := fun p vs ds hs ha ef => by
    split at ef
    · rename_i hf
      rw [Bool.and_eq_true] at hf
      cases ef
      refine ⟨p, vs, rfl, hs, rx.flat hf.1, ha.flat hf.2, ?_⟩
      rw [RpAll.inV rx hf.1 ha hf.2]
      exact k _ F H (Up.refl e) (.bl _)
    · cases ef
  cases y <;> first | cases ef | skip
  · cases ry with
    | lst h a => exact go _ _ _ (.inl (.inl (e.rd h))) a ef
  · cases ry with
    | tup h a => exact go _ _ _ (.inr (.inl (.inl (e _ _ h)))) a ef
theorem de_in (ha : DE T X E a ma) (hb : DE T X E b mb) (hm : behindInMarks .In b = false := by rfl) : DE T X E (.Compare a [.In] [b] pos) (mBin (inD false) ma mb) := de_cmp op_in_seq opd_in ha hb hm
theorem de_notIn (ha : DE T X E a ma) (hb : DE T X E b mb) (hm : behindInMarks .NotIn b = false := by rfl) : DE T X E (.Compare a [.NotIn] [b] pos) (mBin (inD true) ma mb) := de_cmp op_notIn_seq opd_in ha hb hm

/-! ### is None, is True -/
def isN : D → Bool
  | .non => true
  | _ => false
def isD (neg : Bool) (x y : D) : Option D := match y with
  | .non => some (.bl (if neg then !isN x else isN x))
  | .bl b => match x with
    | .bl a => some (.bl (if neg then !decide (a = b) else decide (a = b)))
    | _ => none
  | _ => none
theorem Rp.isN {F : Hp} {v : V} {d : D} (h : Rp T F v d) : decide (v = .non) = CL.isN d := by cases h <;> rfl
theorem opd_is : OpD T (fun x y H Q => (y = .non ∧ Q (.bl (decide (x = .non))) H) ∨ rIsB x y H Q) (isD false) := fun F H v w x y d Q e rx ry ef k => by
  cases y <;> first | cases ef | skip
  · cases ry
    refine .inl ⟨rfl, ?_⟩
    rw [rx.isN]
    exact k _ F H (Up.refl e) (.bl _)
  · cases ry
    cases x <;> first | cases ef | skip
    cases rx
    exact .inr ⟨_, _, rfl, rfl, k _ F H (Up.refl e) (.bl _)⟩
theorem opd_isNot : OpD T (fun x y H Q => (y = .non ∧ Q (.bl (!decide (x = .non))) H) ∨ rNotB x y H Q) (isD true) := fun F H v w x y d Q e rx ry ef k => by
  cases y <;> first | cases ef | skip
  · cases ry
    refine .inl ⟨rfl, ?_⟩
    rw [rx.isN]
    exact k _ F H (Up.refl e) (.bl _)
  · cases ry
    cases x <;> first | cases ef | skip
    cases rx
    exact .inr ⟨_, _, rfl, rfl, k _ F H (Up.refl e) (.bl _)⟩
theorem de_is (ha : DE T X E a ma) (hb : DE T X E b mb) : DE T X E (.Compare a [.Is] [b] pos) (mBin (isD false) ma mb) := de_cmp (op_isN.or op_isBl) opd_is ha hb (nomark _)
theorem de_isNot (ha : DE T X E a ma) (hb : DE T X E b mb) : DE T X E (.Compare a [.IsNot] [b] pos) (mBin (isD true) ma mb) := de_cmp (op_notN.or op_notBl) opd_isNot ha hb (nomark _)

/-! ### a < b < c -/
def mChain (f g : D → D → Option D) (ma mb mc : M) : M := fun z => (ma z).bnd fun x => (mb z).bnd fun y => (ofO (f x y)).bnd fun u => match u with
  | .bl true => (mc z).bnd fun w => ofO (g y w)
  | .bl false => .ok (.bl false)
  | _ => .stuck
theorem de_chain {op op' : CmpOp} {r r' : R2} {f g : D → D → Option D} (ho : OpR X (compareOp op) r) (ho' : OpR X (compareOp op') r') (hf : OpD T r f) (hg : OpD T r' g) (ha : DE T X E a ma) (hb : DE T X E b mb) (hc : DE T X E c mc)
    (hm : lastMarks [op, op'] [b, c] = false := by with_unfolding_all rfl) : DE T X E (.Compare a [op, op'] [b, c] pos) (mChain f g ma mb mc) := pe_imp (pe_chain ho ho' ha hb hc hm) fun s H Q ⟨F, z, q, h⟩ =>
  ⟨F, z, q, Post.bnd (L := lV T) h fun x v F1 H1 u1 rx h1 => ⟨F1, z, q.up u1, Post.bnd (L := lV T) h1 fun y w F2 H2 u2 ry h2 => by
    cases q2 : f x y with
    | none => rw [q2] at h2; exact h2.elim
    | some d =>
      rw [q2] at h2
      refine hf F2 H2 v w x y d _ u2.s (rx.mono u2.f) ry q2 fun t F3 H3 u3 rt => ?_
      cases d <;> first | exact h2.elim | skip
      cases rt
      rename_i k
      refine ⟨k, rfl, ?_⟩
      cases k with
      | false =>
        refine iteF ?_
        exact h2 _ F3 H3 u3 (.bl false)
      | true =>
        refine iteT ?_
        have h3 : Post T E (lV T) F2 H2 Q ((mc z).bnd fun w => ofO (g y w)) := h2
        refine ⟨F3, z, ((q.up u1).up u2).up u3, Post.bnd (L := lV T) (h3.up u3) fun w3 v3 F4 H4 u4 rw3 h4 => ?_⟩
        obtain ⟨d, e, k⟩ := Post.ofO h4
        exact hg F4 H4 w v3 y w3 d Q u4.s ((ry.mono u3.f).mono u4.f) rw3 e k⟩⟩

/-! ### and, or, not as values (bools) -/
def mAnd (ma mb : M) : M := fun z => (ma z).bnd fun x => match x with
  | .bl true => mb z
  | .bl false => .ok (.bl false)
  | _ => .stuck
def mOr (ma mb : M) : M := fun z => (ma z).bnd fun x => match x with
  | .bl true => .ok (.bl true)
  | .bl false => mb z
  | _ => .stuck
def notD : D → Option D
  | .bl b => some (.bl (!b))
  | _ => none
theorem de_one {op} (h : DE T X E a ma) : DE T X E (.BoolOp op [a] pos) ma := pe_one h
theorem de_and {rest : List Expr} (ha : DE T X E a ma) (hb : DE T X E (.BoolOp .And (b :: rest) pos) mb) : DE T X E (.BoolOp .And (a :: b :: rest) pos) (mAnd ma mb) := pe_imp (pe_and ha hb) fun s H Q ⟨F, z, q, h⟩ =>
  ⟨F, z, q, Post.bnd (L := lV T) h fun x v F1 H1 u1 rx h1 => by
    cases x <;> first | exact h1.elim | skip
    cases rx
    rename_i k
    refine ⟨k, rfl, ?_⟩
    cases k with
    | false => exact iteF (h1 _ F1 H1 (Up.refl u1.s) (.bl false))
    | true => exact iteT ⟨F1, z, q.up u1, h1⟩⟩
theorem de_or {rest : List Expr} (ha : DE T X E a ma) (hb : DE T X E (.BoolOp .Or (b :: rest) pos) mb) : DE T X E (.BoolOp .Or (a :: b :: rest) pos) (mOr ma mb) := pe_imp (pe_or ha hb) fun s H Q ⟨F, z, q, h⟩ =>
  ⟨F, z, q, Post.bnd (L := lV T) h fun x v F1 H1 u1 rx h1 => by
    cases x <;> first | exact h1.elim | skip
    cases rx
    rename_i k
    refine ⟨k, rfl, ?_⟩
    cases k with
    | false => exact iteF ⟨F1, z, q.up u1, h1⟩
    | true => exact iteT (h1 _ F1 H1 (Up.refl u1.s) (.bl true))⟩
theorem de_not (ha : DE T X E a ma) : DE T X E (.UnaryOp .Not a pos) (mUn notD ma) := pe_imp (pe_not ha) fun s H Q ⟨F, z, q, h⟩ =>
  ⟨F, z, q, Post.bnd (L := lV T) h fun x v F1 H1 u1 rx h1 => by
    obtain ⟨d, e, k⟩ := Post.ofO h1
    cases x <;> first | cases e | skip
    cases rx
    exact ⟨_, rfl, k _ F1 H1 (Up.refl u1.s) (.bl _)⟩⟩

/-! ### tests -/
def asB : D → Option Bool
  | .bl b => some b
  | _ => none
def bV (ma : M) : MB := fun z => (ma z).bnd fun x => ofO (asB x)
theorem dt_val (ha : DE T X E e ma) (he : ∀ whole, isTrue e X.env whole = (do let v ← whole; standAt e.pos; holding [v] (truthy v)) := by intro _; rfl) : DT T X E e (bV ma) := pt_imp (pt_val ha he) fun s H Q ⟨F, z, q, h⟩ =>
  ⟨F, z, q, Post.bnd (L := lV T) h fun x v F1 H1 u1 rx h1 => by
    obtain ⟨d, e, k⟩ := Post.ofO h1
    cases x <;> first | cases e | skip
    cases rx
    exact ⟨_, rfl, k _ F1 H1 (Up.refl u1.s) rfl⟩⟩
/-- a comparison as a test -/
theorem dt_cmp {op : CmpOp} {r : R2} {f : D → D → Option D} (ho : OpR X (compareOp op) r) (hd : OpD T r f) (ha : DE T X E a ma) (hb : DE T X E b mb) (hm : behindInMarks op b = false := by rfl) : DT T X E (.Compare a [op] [b] pos) (bV (mBin f ma mb)) :=
  pt_imp (pt_cmpR ho ha hb hm) fun s H Q ⟨F, z, q, h⟩ => op_read hd s H _ ⟨F, z, q, Post.bnd (L := lV T) h fun x v F1 H1 u1 rx h1 => by
    obtain ⟨d, e, k⟩ := Post.ofO h1
    cases x <;> first | cases e | skip
    cases rx
    exact ⟨_, rfl, k _ F1 H1 (Up.refl u1.s) rfl⟩⟩
theorem dt_chain {op op' : CmpOp} {r r' : R2} {f g : D → D → Option D} (ho : OpR X (compareOp op) r) (ho' : OpR X (compareOp op') r') (hf : OpD T r f) (hg : OpD T r' g) (ha : DE T X E a ma) (hb : DE T X E b mb) (hc : DE T X E c mc)
    (hm : lastMarks [op, op'] [b, c] = false := by with_unfolding_all rfl) : DT T X E (.Compare a [op, op'] [b, c] pos) (bV (mChain f g ma mb mc)) :=
  pt_imp (pt_chain ho ho' ha hb hc hm) fun s H Q ⟨F, z, q, h⟩ => by
    have h' : Post T E (lV T) F H (fun x H' => ∃ k, x = .bl k ∧ Q k H') (mChain f g ma mb mc z) := Post.bnd (L := lV T) h fun x v F1 H1 u1 rx h1 => by
      obtain ⟨d, e, k⟩ := Post.ofO h1
      cases x <;> first | cases e | skip
      cases rx
      exact ⟨_, rfl, k _ F1 H1 (Up.refl u1.s) rfl⟩
    refine ⟨F, z, q, Post.bnd (L := lV T) h' fun x v F1 H1 u1 rx h1 => ⟨F1, z, q.up u1, Post.bnd (L := lV T) h1 fun y w F2 H2 u2 ry h2 => ?_⟩⟩
    cases q2 : f x y with
    | none => rw [q2] at h2; exact h2.elim
    | some d =>
      rw [q2] at h2
      refine hf F2 H2 v w x y d _ u2.s (rx.mono u2.f) ry q2 fun t F3 H3 u3 rt => ?_
      cases d <;> first | exact h2.elim | skip
      cases rt
      rename_i k
      refine ⟨k, rfl, ?_⟩
      cases k with
      | false =>
        refine iteF ?_
        exact h2 _ F3 H3 u3 (.bl false)
      | true =>
        refine iteT ?_
        have h3 : Post T E (lV T) F2 H2 _ ((mc z).bnd fun w => ofO (g y w)) := h2
        refine ⟨F3, z, ((q.up u1).up u2).up u3, Post.bnd (L := lV T) (h3.up u3) fun w3 v3 F4 H4 u4 rw3 h4 => ?_⟩
        obtain ⟨d, e, k⟩ := Post.ofO h4
        exact hg F4 H4 w v3 y w3 d _ u4.s ((ry.mono u3.f).mono u4.f) rw3 e k
def bNot (a : MB) : MB := fun z => (a z).bnd fun x => .ok (!x)
def bAnd (a b : MB) : MB := fun z => (a z).bnd fun x => if x then b z else .ok false
def bOr (a b : MB) : MB := fun z => (a z).bnd fun x => if x then .ok true else b z
variable {ba bb : MB}
theorem dt_not (ha : DT T X E a ba) : DT T X E (.UnaryOp .Not a pos) (bNot ba) := pt_imp (pt_not ha) fun s H Q ⟨F, z, q, h⟩ =>
  ⟨F, z, q, Post.bnd (L := lB) h fun x v F1 H1 u1 rx h1 => by
    cases rx
    exact h1 _ F1 H1 (Up.refl u1.s) rfl⟩
theorem dw_and1 (ha : DT T X E a ba) : DW T X E (.BoolOp .And [a] pos) ba := pw_and1 ha
theorem dw_or1 (ha : DT T X E a ba) : DW T X E (.BoolOp .Or [a] pos) ba := pw_or1 ha
theorem dw_and {rest : List Expr} (ha : DT T X E a ba) (hb : DW T X E (.BoolOp .And (b :: rest) pos) bb) : DW T X E (.BoolOp .And (a :: b :: rest) pos) (bAnd ba bb) := pw_imp (pw_and ha hb) fun s H Q ⟨F, z, q, h⟩ =>
  ⟨F, z, q, Post.bnd (L := lB) h fun x v F1 H1 u1 rx h1 => by
    cases rx
    cases x with
    | false => exact iteF (h1 _ F1 H1 (Up.refl u1.s) rfl)
    | true => exact iteT ⟨F1, z, q.up u1, h1⟩⟩
theorem dw_or {rest : List Expr} (ha : DT T X E a ba) (hb : DW T X E (.BoolOp .Or (b :: rest) pos) bb) : DW T X E (.BoolOp .Or (a :: b :: rest) pos) (bOr ba bb) := pw_imp (pw_or ha hb) fun s H Q ⟨F, z, q, h⟩ =>
  ⟨F, z, q, Post.bnd (L := lB) h fun x v F1 H1 u1 rx h1 => by
    cases rx
    cases x with
    | true => exact iteT (h1 _ F1 H1 (Up.refl u1.s) rfl)
    | false => exact iteF ⟨F1, z, q.up u1, h1⟩⟩
theorem dt_w (h : DW T X E e ba) : DT T X E e ba := PW.pt h

/-! ### a if t else b -/
def mIf (t : MB) (ma mb : M) : M := fun z => (t z).bnd fun x => if x then ma z else mb z
theorem de_if (hc : DT T X E c ba) (ha : DE T X E a ma) (hb : DE T X E b mb) : DE T X E (.IfExp c a b pos) (mIf ba ma mb) := pe_imp (pe_ifExp hc ha hb) fun s H Q ⟨F, z, q, h⟩ =>
  ⟨F, z, q, Post.bnd (L := lB) h fun x v F1 H1 u1 rx h1 => by
    cases rx
    cases x with
    | true => exact iteT ⟨F1, z, q.up u1, h1⟩
    | false => exact iteF ⟨F1, z, q.up u1, h1⟩⟩

/-! ### arguments, displays -/
def aNil : ML := fun _ => .ok []
def aCons (m : M) (ms : ML) : ML := fun z => (m z).bnd fun x => (ms z).bnd fun xs => .ok (x :: xs)
theorem da_nil : DA T X E [] aNil := pa_imp pa_nil fun s H Q ⟨F, z, q, h⟩ => h _ F H (Up.refl q.ex) .nil
theorem da_cons (ha : DE T X E e m) (hr : DA T X E es mes) (hs : starEach (e :: es) X.env = (false, eval e X.env) :: starEach es X.env := by rfl) : DA T X E (e :: es) (aCons m mes) := pa_imp (pa_cons ha hr hs) fun s H Q ⟨F, z, q, h⟩ =>
  ⟨F, z, q, Post.bnd (L := lV T) h fun x v F1 H1 u1 rx h1 => ⟨F1, z, q.up u1, Post.bnd (L := lA T) h1 fun xs vs F2 H2 u2 rxs h2 => h2 _ F2 H2 (Up.refl u2.s) (.cons (rx.mono u2.f) rxs)⟩⟩
def tupD (xs : List D) : Option D := if xs.length ≤ sizeLine then some (.tup xs) else none
def lstD (xs : List D) : Option (List D) := if xs.length ≤ sizeLine then some xs else none
def mTup (ms : ML) : M := fun z => (ms z).bnd fun xs => ofO (tupD xs)
theorem de_tup {x1} (h : DA T X E es mes) : DE T X E (.Tuple es x1 pos) (mTup mes) := pe_imp (pe_tup h) fun s H Q ⟨F, z, q, h⟩ =>
  ⟨F, z, q, Post.bnd (L := lA T) h fun xs vs F1 H1 u1 rxs h1 => by
    obtain ⟨d, e, k⟩ := Post.ofO h1
    unfold tupD at e
    split at e
    · rename_i hz
      cases e
      refine ⟨by rw [rxs.length]; exact hz, fun p hp => k _ (upd F1 p _) _ (Up.new u1.s hp) (.tup upd_same (rxs.mono (Ex.new (u1.s.back hp))))⟩
    · cases e⟩
def mLst (ms : ML) : ML := fun z => (ms z).bnd fun xs => ofO (lstD xs)
theorem lstD_some {xs ys : List D} (h : lstD xs = some ys) : xs.length ≤ sizeLine ∧ xs = ys := by
  unfold lstD at h
  split at h
  · rename_i hz
    exact ⟨hz, Option.some.inj h⟩
  · cases h
theorem dl_lst (h : DA T X E es mes) : DL T X E (.List es pos) (mLst mes) := pe_imp (pe_lst h) fun s H Q ⟨F, z, q, h⟩ =>
  ⟨F, z, q, Post.bnd (L := lA T) h fun xs vs F1 H1 u1 rxs h1 => by
    obtain ⟨d, e, k⟩ := Post.ofO h1
    obtain ⟨hz, rfl⟩ := lstD_some e
    exact ⟨by rw [rxs.length]; exact hz, fun p hp => k _ F1 _ (Up.newO u1.s hp) ⟨p, vs, rfl, hp, u1.s.back hp, upd_same, rxs⟩⟩⟩
/-- a new list as a datum, as a list to be read -/
def mL (ml : ML) : M := fun z => (ml z).bnd fun xs => .ok (.lst xs)
theorem de_l (h : DL T X E e ml) : DE T X E e (mL ml) := pe_imp h fun s H Q ⟨F, z, q, h⟩ =>
  ⟨F, z, q, by
    unfold mL at h
    cases em : ml z with
    | stuck => rw [em] at h; exact h
    | exc c => rw [em] at h; exact h
    | ok xs =>
      rw [em] at h
      intro v F1 H1 u1 rx
      obtain ⟨p, vs, rfl, h0, hf, hp, ha⟩ := rx
      exact h _ (upd F1 p (.lst vs)) H1 (u1.know hp h0 hf) (.lst (.inl upd_same) (ha.mono (Ex.new hf)))⟩
end
end CL


set_option Elab.async false
set_option linter.all false
set_option maxRecDepth 100000
/-! The data layer, part c: lists that are read, subscripts, built-ins, calls. -/
namespace CL
open PySem PySem.Spec L2
section
variable {T : Tx} {X : Cx} {E : XK} {a b c e : Expr} {es : List Expr} {pos : Pos} {ma mb mc m : M} {mes mi mj ml : ML} {ba bb : MB}

/-! ### a list that is read now -/
def asL : D → Option (List D)
  | .lst xs => some xs
  | _ => none
def iE (m : M) : ML := fun z => (m z).bnd fun x => ofO (asL x)
theorem di_e (h : DE T X E e m) : DI T X E e (iE m) := pe_imp h fun s H Q ⟨F, z, q, h⟩ =>
  ⟨F, z, q, Post.bnd (L := lV T) h fun x v F1 H1 u1 rx h1 => by
    obtain ⟨d, e, k⟩ := Post.ofO h1
    cases x <;> first | cases e | skip
    cases rx with
    | lst hr ha => exact k _ F1 H1 (Up.refl u1.s) ⟨_, _, rfl, u1.s.rd hr, ha⟩⟩
theorem di_l (h : DL T X E e ml) : DI T X E e ml := pe_imp h fun s H Q ⟨F, z, q, h⟩ =>
  ⟨F, z, q, by
    cases em : ml z with
    | stuck => rw [em] at h; exact h
    | exc c => rw [em] at h; exact h
    | ok xs =>
      rw [em] at h
      intro v F1 H1 u1 rx
      obtain ⟨p, vs, rfl, h0, hf, hp, ha⟩ := rx
      exact h _ F1 H1 u1 ⟨p, vs, rfl, .inl hp, ha⟩⟩
def iOw (i : Nat) : ML := fun z => match z[i]? with
  | some (.ow ds) => .ok ds
  | _ => .stuck
theorem di_own (i : Nat) {x : Str} {pos : Pos} (hN : X.N[i]? = some x := by rfl) (hv : Vis X.env.scope x := by first | exact Or.inl rfl | exact Or.inr (Or.inl rfl) | exact Or.inr (Or.inr rfl)) (hd : (x == ("__debug__" : Str)) = false := by decide)
    (hcd : (x == ("__classdict__" : Str)) = false := by decide) : DI T X E (.Name x pos) (iOw i) := pe_imp (pe_var hN hv hd hcd) fun s H Q ⟨F, z, r, h⟩ => by
  unfold iOw at h
  split at h
  · rename_i ds e
    obtain ⟨p, xs, h1, h2, h3, h4⟩ := r.ow i ds e
    exact ⟨_, h1, h _ F H (Up.refl r.ex) ⟨p, xs, rfl, .inl h2, h4⟩⟩
  · exact h.elim
/-- flat answers: the own lists may be read as data -/
def mz (m : M) : M := fun z => (m (frz z)).bnd fun x => if flatD x then .ok x else .stuck
theorem Rp.flatAny {F F' : Hp} {v : V} {d : D} (h : Rp T F v d) (f : flatD d = true) : Rp T F' v d := by
  cases h <;> first | exact absurd (show false = true from f) Bool.false_ne_true | constructor
theorem de_z (h : DE T X E e m) : DE T X E e (mz m) := pe_imp h fun s H Q ⟨F, z, q, h⟩ =>
  ⟨H, frz z, q.frz, by
    unfold mz at h
    cases em : m (frz z) with
    | stuck => rw [em] at h; exact h
    | exc c => rw [em] at h; exact h
    | ok x =>
      rw [em] at h
      intro v F1 H1 u1 rx
      have h' : Post T E (lV T) F H Q (if flatD x = true then .ok x else .stuck) := h
      by_cases hf : flatD x = true
      · rw [if_pos hf] at h'
        exact h' v F H1 (Up.heap q.ex u1.h) (rx.flatAny hf)
      · rw [if_neg hf] at h'
        exact h'.elim⟩
def bz (t : MB) : MB := fun z => t (frz z)
theorem dt_z (h : DT T X E e ba) : DT T X E e (bz ba) := pt_imp h fun s H Q ⟨F, z, q, h⟩ =>
  ⟨H, frz z, q.frz, by
    unfold bz at h
    cases em : ba (frz z) with
    | stuck => rw [em] at h; exact h
    | exc c => rw [em] at h; exact h
    | ok x =>
      rw [em] at h
      exact fun v F1 H1 u1 rx => h v F H1 (Up.heap q.ex u1.h) rx⟩

/-! ### subscripts -/
theorem atI_rp {F : Hp} {vs : List V} {ds : List D} {i : Int} {d : D} (h : RpAll T F vs ds) (e : atI ds i = some d) : ∃ v, atI vs i = some v ∧ Rp T F v d := by
  unfold atI at e ⊢
  rw [h.length]
  cases q : ixN ds.length i with
  | none => rw [q] at e; cases e
  | some j =>
    rw [q] at e
    exact h.get e
def ixL (xs : List D) : D → Option D
  | .int i => atI xs i
  | _ => none
def ixD (x y : D) : Option D := match x with
  | .lst xs => ixL xs y
  | .tup xs => ixL xs y
  | _ => none
theorem ixL_some {xs : List D} {y d : D} (h : ixL xs y = some d) : ∃ i, y = .int i ∧ atI xs i = some d := by
  cases y <;> first | cases h | exact ⟨_, rfl, h⟩
theorem opd_ix {K : PySem.W.Frag} : OpD T (fun x y H Q => rIxL K x y H Q ∨ rIxT K x y H Q) ixD := fun F H v w x y d Q e rx ry ef k => by
  cases x <;> first | cases ef | skip
  · obtain ⟨i, rfl, ha⟩ := ixL_some ef
    cases rx with
    | lst h1 h2 =>
      cases ry
      obtain ⟨u, e1, e2⟩ := atI_rp h2 ha
      exact .inl ⟨_, _, _, u, rfl, rfl, .inl (e.rd h1), e1, k _ F H (Up.refl e) e2⟩
  · obtain ⟨i, rfl, ha⟩ := ixL_some ef
    cases rx with
    | tup h1 h2 =>
      cases ry
      obtain ⟨u, e1, e2⟩ := atI_rp h2 ha
      exact .inr ⟨_, _, _, u, rfl, rfl, .inl (.inl (e _ _ h1)), e1, k _ F H (Up.refl e) e2⟩
theorem de_ix (ha : DE T X E a ma) (hb : DE T X E b mb) (hs : PlainIx b := by exact fun _ _ => rfl) : DE T X E (.Subscript a b pos) (mBin ixD ma mb) := pe_imp (pe_ix (ix_list.or ix_tup) ha hb hs) (op_read opd_ix)
def mIxI (mi : ML) (mb : M) : M := fun z => (mi z).bnd fun xs => (mb z).bnd fun y => ofO (ixL xs y)
theorem de_ixI (ha : DI T X E a mi) (hb : DE T X E b mb) (hs : PlainIx b := by exact fun _ _ => rfl) : DE T X E (.Subscript a b pos) (mIxI mi mb) := pe_imp (pe_ix ix_list ha hb hs) fun s H Q ⟨F, z, q, h⟩ =>
  ⟨F, z, q, Post.bnd (L := lI T) h fun xs v F1 H1 u1 rx h1 => by
    obtain ⟨p, vs, rfl, hr, hA⟩ := rx
    refine ⟨F1, z, q.up u1, Post.bnd (L := lV T) h1 fun y w F2 H2 u2 ry h2 => ?_⟩
    obtain ⟨d, e, k⟩ := Post.ofO h2
    obtain ⟨i, rfl, hat⟩ := ixL_some e
    cases ry
    obtain ⟨u, e1, e2⟩ := atI_rp hA hat
    exact ⟨_, _, _, u, rfl, rfl, .inl (u2.h.rd hr), e1, k _ F2 H2 (Up.refl u2.s) (e2.mono u2.f)⟩⟩
/-- a part of a slice -/
def asI : D → Option Int
  | .int i => some i
  | _ => none
theorem asI_some {x : D} {i : Int} (h : asI x = some i) : x = .int i := by
  cases x <;> cases h
  rfl
def oNone : List Sd → Rs (Option Int) := fun _ => .ok none
def oSome (m : M) : List Sd → Rs (Option Int) := fun z => (m z).bnd fun x => (ofO (asI x)).bnd fun i => .ok (some i)
variable {mo mp : List Sd → Rs (Option Int)}
theorem do_none : DO T X E none oNone := po_imp po_none fun s H Q ⟨F, z, q, h⟩ => h _ F H (Up.refl q.ex) rfl
theorem do_some (h : DE T X E e m) : DO T X E (some e) (oSome m) := po_imp (po_some h) fun s H Q ⟨F, z, q, h⟩ =>
  ⟨F, z, q, Post.bnd (L := lV T) h fun x v F1 H1 u1 rx h1 => by
    cases qx : asI x with
    | none => rw [qx] at h1; exact h1.elim
    | some i =>
      rw [qx] at h1
      cases asI_some qx
      cases rx
      exact ⟨i, rfl, h1 _ F1 H1 (Up.refl u1.s) rfl⟩⟩
def cutD (xs : List D) (lo hi : Option Int) : List D := (xs.drop (HT.sIx xs.length 0 lo)).take (HT.sIx xs.length xs.length hi - HT.sIx xs.length 0 lo)
theorem RpAll.cut {F : Hp} {vs : List V} {ds : List D} (h : RpAll T F vs ds) (lo hi : Option Int) : RpAll T F (cutV vs lo hi) (cutD ds lo hi) := by
  unfold cutV cutD
  rw [h.length]
  exact (h.drop _).take _
def mCut (mi : ML) (mo mp : List Sd → Rs (Option Int)) : ML := fun z => (mi z).bnd fun xs => (mo z).bnd fun lo => (mp z).bnd fun hi => .ok (cutD xs lo hi)
variable {lo hi : Option Expr} {p2 : Pos}
theorem dl_cut (he : DI T X E e mi) (hl : DO T X E lo mo) (hh : DO T X E hi mp) : DL T X E (.Subscript e (.Slice lo hi none p2) pos) (mCut mi mo mp) := pe_imp (pe_slice sl_list he hl hh) fun s H Q ⟨F, z, q, h⟩ =>
  ⟨F, z, q, Post.bnd (L := lI T) h fun xs v F1 H1 u1 rx h1 => by
    obtain ⟨p, vs, rfl, hr, hA⟩ := rx
    refine ⟨F1, z, q.up u1, Post.bnd (L := lO) h1 fun y w F2 H2 u2 ry h2 => ?_⟩
    refine ⟨F2, z, (q.up u1).up u2, Post.bnd (L := lO) h2 fun y2 w2 F3 H3 u3 ry2 h3 => ?_⟩
    cases ry
    cases ry2
    refine ⟨_, _, rfl, .inl (u3.h.rd (u2.h.rd hr)), fun l hl => h3 _ F3 _ (Up.newO u3.s hl) ⟨l, _, rfl, hl, u3.s.back hl, upd_same, ((hA.mono u2.f).mono u3.f).cut _ _⟩⟩⟩
def asT : D → Option (List D)
  | .tup xs => some xs
  | _ => none
def cutT (xs : List D) (lo hi : Option Int) : Option D := if HT.sIx xs.length 0 lo = 0 ∧ HT.sIx xs.length xs.length hi = xs.length then none else some (.tup (cutD xs lo hi))
def mCutT (m : M) (mo mp : List Sd → Rs (Option Int)) : M := fun z => (m z).bnd fun x => (ofO (asT x)).bnd fun xs => (mo z).bnd fun lo => (mp z).bnd fun hi => ofO (cutT xs lo hi)
theorem de_cutT (he : DE T X E e m) (hl : DO T X E lo mo) (hh : DO T X E hi mp) : DE T X E (.Subscript e (.Slice lo hi none p2) pos) (mCutT m mo mp) := pe_imp (pe_slice sl_tup he hl hh) fun s H Q ⟨F, z, q, h⟩ =>
  ⟨F, z, q, Post.bnd (L := lV T) h fun x v F1 H1 u1 rx h1 => by
    cases x <;> first | exact h1.elim | skip
    rename_i xs
    cases rx with
    | tup hr hA =>
      refine ⟨F1, z, q.up u1, Post.bnd (L := lO) h1 fun y w F2 H2 u2 ry h2 => ?_⟩
      refine ⟨F2, z, (q.up u1).up u2, Post.bnd (L := lO) h2 fun y2 w2 F3 H3 u3 ry2 h3 => ?_⟩
      cases ry
      cases ry2
      obtain ⟨d, e, k⟩ := Post.ofO h3
      unfold cutT at e
      split at e
      · cases e
      · rename_i hc
        cases e
        refine ⟨_, _, rfl, .inl (.inl (u3.s _ _ (u3.f _ _ (u2.f _ _ hr)))), ?_, fun l hl => k _ (upd F3 l _) _ (Up.new u3.s hl) (.tup upd_same ?_)⟩
        · rw [hA.length]
          exact hc
        · exact (((hA.mono u2.f).mono u3.f).cut _ _).mono (Ex.new (u3.s.back hl))⟩
def mRev (mi : ML) : ML := fun z => (mi z).bnd fun xs => .ok xs.reverse
theorem dl_rev {k : Nat} {q1 q2 q3 : Pos} (he : DI T X E e mi) : DL T X E (.Subscript e (.Slice none none (some (.UnaryOp .USub (.Constant (.int 1) k q1) q2)) q3) pos) (mRev mi) := pe_imp (pe_revL he) fun s H Q ⟨F, z, q, h⟩ =>
  ⟨F, z, q, Post.bnd (L := lI T) h fun xs v F1 H1 u1 rx h1 => by
    obtain ⟨p, vs, rfl, hr, hA⟩ := rx
    exact ⟨_, _, rfl, .inl hr, fun l hl => h1 _ F1 _ (Up.newO u1.s hl) ⟨l, _, rfl, hl, u1.s.back hl, upd_same, hA.reverse⟩⟩⟩

/-! ### list + list, list * int -/
def mCat (mi mj : ML) : ML := fun z => (mi z).bnd fun xs => (mj z).bnd fun ys => ofO (lstD (xs ++ ys))
theorem dl_cat (ha : DI T X E a mi) (hb : DI T X E b mj) : DL T X E (.BinOp a .Add b pos) (mCat mi mj) := pe_imp (pe_op op_catR ha hb) fun s H Q ⟨F, z, q, h⟩ =>
  ⟨F, z, q, Post.bnd (L := lI T) h fun xs v F1 H1 u1 rx h1 => by
    obtain ⟨p, vs, rfl, hr, hA⟩ := rx
    refine ⟨F1, z, q.up u1, Post.bnd (L := lI T) h1 fun ys w F2 H2 u2 ry h2 => ?_⟩
    obtain ⟨p2, vs2, rfl, hr2, hA2⟩ := ry
    obtain ⟨d, e, k⟩ := Post.ofO h2
    obtain ⟨hz, rfl⟩ := lstD_some e
    rw [List.length_append] at hz
    refine ⟨_, _, _, _, rfl, rfl, u2.h.rd hr, hr2, by rw [hA.length, hA2.length]; exact hz, fun l hl => k _ F2 _ (Up.newO u2.s hl) ⟨l, _, rfl, hl, u2.s.back hl, upd_same, (hA.mono u2.f).append hA2⟩⟩⟩
def repL (xs : List D) : D → Option (List D)
  | .int k => if -(2 ^ 63) ≤ k ∧ k < 2 ^ 63 ∧ xs.length * k.toNat ≤ sizeLine then some (List.replicate k.toNat xs).flatten else none
  | _ => none
def mRep (mi : ML) (mb : M) : ML := fun z => (mi z).bnd fun xs => (mb z).bnd fun y => ofO (repL xs y)
theorem op_repR : OpR X (binaryOp .Mult) (fun x y H Q => ∃ l k xs, x = .ref l ∧ y = .int k ∧ Rd H l (.lst xs) ∧ -(2 ^ 63) ≤ k ∧ k < 2 ^ 63 ∧ xs.length * k.toNat ≤ sizeLine ∧ ∀ p, H p = none → Q (.ref p) (upd H p (.lst (List.replicate k.toNat xs).flatten))) := by
  intro pins s σ H x y v u Q I rx ry h
  obtain ⟨l, k, xs, rfl, rfl, hH, h1, h2, hz, q⟩ := h
  cases rx
  obtain ⟨t, rfl⟩ := ry
  obtain ⟨z, its, n, r, e⟩ := hH.ok I.hok
  have hl := r.length
  have hlen : its.toArray.size * k.toNat ≤ sizeLine := by rw [List.size_toArray, ← hl]; exact hz
  have hcap : ¬ its.toArray.size * k.toNat > (2 ^ 63 - 1) / 8 := by
    have : (sizeLine : Nat) ≤ (2 ^ 63 - 1) / 8 := by decide
    omega
  have hfit : ¬ (!Builtin.List.listFitsIndex k) = true := by
    rw [fitsIndex_both h1 h2]
    exact Bool.false_ne_true
  have hlong : ¬ Builtin.List.listTooLong (its.toArray.size * k.toNat) = true := by
    rw [notLongL hlen]
    exact Bool.false_ne_true
  have hnew : List.foldl (fun x1 x2 => x1 ++ x2) #[] (List.replicate (if its.toArray.isEmpty = true then 0 else k.toNat) its.toArray) = (List.replicate k.toNat its).flatten.toArray := by
    have f0 : ∀ m : Nat, List.foldl (fun x1 x2 => x1 ++ x2) #[] (List.replicate m its.toArray) = (List.replicate m its).flatten.toArray := fun m => by
      have := foldl_rep its m []
      rw [List.nil_append] at this
      exact this
    rw [f0]
    cases its with
    | nil => simp
    | cons a r' => rw [if_neg (by simp)]
  refine wpAny_binaryOp_repeat_ref (T := "list") (U := "int") (by decide) ⟨_, e, rfl⟩ (fun s' => typeIs_int s' k t) noFill_list_mul F.fills_int_mul F.slot_int_rmul repeat_list F.slot_int_index.lookup
    (call_meets F.slot_int_rmul (typeIs_int s k t) F.entry_int_rmul (F.args_int_rmul_2 _ _) (int___rmul___int_list k t l its.toArray n)
      ⟨e, rfl, ⟨_, e, rfl⟩, call_meets F.slot_list_mul ⟨_, e, rfl⟩ F.entry_list_mul (F.args_list_mul_2 _ _) (AutoListH.list___mul___list_int_3 l its.toArray n k t hfit hcap hlong) ⟨e, ?_⟩⟩)
  rw [hnew]
  exact ⟨.ref _, _, I.lnew (t' := s.toks) (r.rep k.toNat) (by rw [PyProof.Rows.lm_len_rep_flat, Nat.mul_comm]; exact hz), rfl, q _ I.fresh⟩
theorem dl_rep (ha : DI T X E a mi) (hb : DE T X E b mb) : DL T X E (.BinOp a .Mult b pos) (mRep mi mb) := pe_imp (pe_op op_repR ha hb) fun s H Q ⟨F, z, q, h⟩ =>
  ⟨F, z, q, Post.bnd (L := lI T) h fun xs v F1 H1 u1 rx h1 => by
    obtain ⟨p, vs, rfl, hr, hA⟩ := rx
    refine ⟨F1, z, q.up u1, Post.bnd (L := lV T) h1 fun y w F2 H2 u2 ry h2 => ?_⟩
    obtain ⟨d, e, k⟩ := Post.ofO h2
    cases y <;> first | cases e | skip
    rename_i n
    cases ry
    simp only [repL] at e
    split at e
    · rename_i hc
      cases e
      refine ⟨_, _, _, rfl, rfl, u2.h.rd hr, hc.1, hc.2.1, by rw [hA.length]; exact hc.2.2, fun l hl => k _ F2 _ (Up.newO u2.s hl) ⟨l, _, rfl, hl, u2.s.back hl, upd_same, (hA.mono u2.f).rep _⟩⟩
    · cases e⟩

/-! ### built-ins -/
variable {x : Str} {p : Pos}
def lenD : D → Option D
  | .lst xs => some (.int xs.length)
  | .tup xs => some (.int xs.length)
  | _ => none
theorem de_len (hm : X.mg "len" = none) (ha : DE T X E e m) (hg : Gl X "len" := by rfl) (he : starEach [e] X.env = (false, eval e X.env) :: starEach [] X.env := by rfl) : DE T X E (.Call (.Name "len" p) [e] [] pos) (mUn lenD m) :=
  pe_imp (pe_callB call_len_seq hg hm PySem.boot_len (pa_cons ha pa_nil he) (by decide) (by decide) he) fun s H Q ⟨F, z, q, h⟩ =>
  ⟨F, z, q, Post.bnd (L := lV T) h fun x v F1 H1 u1 rx h1 => by
    obtain ⟨d, e, k⟩ := Post.ofO h1
    cases x <;> first | cases e | skip
    · cases rx with
      | lst hr hA => exact ⟨_, _, rfl, .inl (.inl (u1.s.rd hr)), by rw [hA.length]; exact k _ F1 H1 (Up.refl u1.s) (.int _)⟩
    · cases rx with
      | tup hr hA => exact ⟨_, _, rfl, .inr (.inl (.inl (u1.s _ _ hr))), by rw [hA.length]; exact k _ F1 H1 (Up.refl u1.s) (.int _)⟩⟩
def mLenI (mi : ML) : M := fun z => (mi z).bnd fun xs => .ok (.int xs.length)
theorem de_lenI (hm : X.mg "len" = none) (ha : DI T X E e mi) (hg : Gl X "len" := by rfl) (he : starEach [e] X.env = (false, eval e X.env) :: starEach [] X.env := by rfl) : DE T X E (.Call (.Name "len" p) [e] [] pos) (mLenI mi) :=
  pe_imp (pe_callB call_len_seq hg hm PySem.boot_len (pa_cons ha pa_nil he) (by decide) (by decide) he) fun s H Q ⟨F, z, q, h⟩ =>
  ⟨F, z, q, Post.bnd (L := lI T) h fun xs v F1 H1 u1 rx h1 => by
    obtain ⟨p, vs, rfl, hr, hA⟩ := rx
    exact ⟨_, _, rfl, .inl (.inl hr), by rw [hA.length]; exact h1 _ F1 H1 (Up.refl u1.s) (.int _)⟩⟩
/-- all, any of a list of truths -/
def asBs : List D → Option (List Bool)
  | [] => some []
  | .bl b :: xs => (asBs xs).map fun bs => b :: bs
  | _ :: _ => none
theorem asBs_some : ∀ {xs : List D} {bs : List Bool}, asBs xs = some bs → xs = bs.map D.bl
  | [], _, h => by cases h; rfl
  | x :: xs, bs, h => by
    cases x <;> first | cases h | skip
    simp only [asBs] at h
    cases q : asBs xs with
    | none => rw [q] at h; cases h
    | some cs => rw [q] at h; cases h; rw [asBs_some q]; rfl
def mAll (mi : ML) : M := fun z => (mi z).bnd fun xs => (ofO (asBs xs)).bnd fun bs => .ok (.bl (bs.all id))
def mAny (mi : ML) : M := fun z => (mi z).bnd fun xs => (ofO (asBs xs)).bnd fun bs => .ok (.bl (bs.any id))
theorem de_all (hc : X.calm = true) (hm : X.mg "all" = none) (ha : DI T X E e mi) (hg : Gl X "all" := by rfl) (he : starEach [e] X.env = (false, eval e X.env) :: starEach [] X.env := by rfl) : DE T X E (.Call (.Name "all" p) [e] [] pos) (mAll mi) :=
  pe_imp (pe_callB (cr_all hc) hg hm (by decide +kernel) (pa_cons ha pa_nil he) (by decide) (by decide) he) fun s H Q ⟨F, z, q, h⟩ =>
  ⟨F, z, q, Post.bnd (L := lI T) h fun xs v F1 H1 u1 rx h1 => by
    obtain ⟨p, vs, rfl, hr, hA⟩ := rx
    cases qb : asBs xs with
    | none => rw [qb] at h1; exact h1.elim
    | some bs =>
      rw [qb] at h1
      rw [asBs_some qb] at hA
      have := hA.bls
      subst this
      exact ⟨_, bs, rfl, .inl hr, h1 _ F1 H1 (Up.refl u1.s) (.bl _)⟩⟩
theorem de_any (hc : X.calm = true) (hm : X.mg "any" = none) (ha : DI T X E e mi) (hg : Gl X "any" := by rfl) (he : starEach [e] X.env = (false, eval e X.env) :: starEach [] X.env := by rfl) : DE T X E (.Call (.Name "any" p) [e] [] pos) (mAny mi) :=
  pe_imp (pe_callB (cr_any hc) hg hm (by decide +kernel) (pa_cons ha pa_nil he) (by decide) (by decide) he) fun s H Q ⟨F, z, q, h⟩ =>
  ⟨F, z, q, Post.bnd (L := lI T) h fun xs v F1 H1 u1 rx h1 => by
    obtain ⟨p, vs, rfl, hr, hA⟩ := rx
    cases qb : asBs xs with
    | none => rw [qb] at h1; exact h1.elim
    | some bs =>
      rw [qb] at h1
      rw [asBs_some qb] at hA
      have := hA.bls
      subst this
      exact ⟨_, bs, rfl, .inl hr, h1 _ F1 H1 (Up.refl u1.s) (.bl _)⟩⟩
def asIs : List D → Option (List Int)
  | [] => some []
  | .int b :: xs => (asIs xs).map fun bs => b :: bs
  | _ :: _ => none
theorem asIs_some : ∀ {xs : List D} {bs : List Int}, asIs xs = some bs → xs = bs.map D.int
  | [], _, h => by cases h; rfl
  | x :: xs, bs, h => by
    cases x <;> first | cases h | skip
    simp only [asIs] at h
    cases q : asIs xs with
    | none => rw [q] at h; cases h
    | some cs => rw [q] at h; cases h; rw [asIs_some q]; rfl
theorem asIs_map : ∀ ns : List Int, asIs (ns.map D.int) = some ns
  | [] => rfl
  | n :: ns => by rw [List.map_cons]; simp only [asIs]; rw [asIs_map ns]; rfl
theorem asBs_map : ∀ ns : List Bool, asBs (ns.map D.bl) = some ns
  | [] => rfl
  | n :: ns => by rw [List.map_cons]; simp only [asBs]; rw [asBs_map ns]; rfl
def mSum (mi : ML) : M := fun z => (mi z).bnd fun xs => (ofO (asIs xs)).bnd fun ns => .ok (.int ns.sum)
theorem de_sum (hc : X.calm = true) (hm : X.mg "sum" = none) (ha : DI T X E e mi) (hg : Gl X "sum" := by rfl) (he : starEach [e] X.env = (false, eval e X.env) :: starEach [] X.env := by rfl) : DE T X E (.Call (.Name "sum" p) [e] [] pos) (mSum mi) :=
  pe_imp (pe_callB (cr_sum hc) hg hm (by decide +kernel) (pa_cons ha pa_nil he) (by decide) (by decide) he) fun s H Q ⟨F, z, q, h⟩ =>
  ⟨F, z, q, Post.bnd (L := lI T) h fun xs v F1 H1 u1 rx h1 => by
    obtain ⟨p, vs, rfl, hr, hA⟩ := rx
    cases qb : asIs xs with
    | none => rw [qb] at h1; exact h1.elim
    | some ns =>
      rw [qb] at h1
      rw [asIs_some qb] at hA
      have := hA.ints
      subst this
      exact ⟨_, ns, rfl, .inl hr, h1 _ F1 H1 (Up.refl u1.s) (.int _)⟩⟩
def absD : D → Option D
  | .int i => some (.int (if i < 0 then -i else i))
  | _ => none
theorem de_abs (hm : X.mg "abs" = none) (ha : DE T X E e m) (hg : Gl X "abs" := by rfl) (he : starEach [e] X.env = (false, eval e X.env) :: starEach [] X.env := by rfl) : DE T X E (.Call (.Name "abs" p) [e] [] pos) (mUn absD m) :=
  pe_imp (pe_callB call_abs hg hm (by decide +kernel) (pa_cons ha pa_nil he) (by decide) (by decide) he) fun s H Q ⟨F, z, q, h⟩ =>
  ⟨F, z, q, Post.bnd (L := lV T) h fun x v F1 H1 u1 rx h1 => by
    obtain ⟨d, e, k⟩ := Post.ofO h1
    cases x <;> first | cases e | skip
    cases rx
    exact ⟨_, rfl, k _ F1 H1 (Up.refl u1.s) (.int _)⟩⟩
/-- a built-in of two ints -/
def max2 : D → D → Option D := intD fun i j => .int (if j > i then j else i)
def min2 : D → D → Option D := intD fun i j => .int (if j < i then j else i)
theorem de_max2 (hc : X.calm = true) (hm : X.mg "max" = none) (ha : DE T X E a ma) (hb : DE T X E b mb) (hg : Gl X "max" := by rfl) (he : starEach [a, b] X.env = (false, eval a X.env) :: starEach [b] X.env := by rfl) (he2 : starEach [b] X.env = (false, eval b X.env) :: starEach [] X.env := by rfl)
    (hpl : (backTo pos (starEach [b] X.env)).any (·.1) = false := by rfl) : DE T X E (.Call (.Name "max" p) [a, b] [] pos) (mBin max2 ma mb) :=
  pe_imp (pe_callB (call_max2 hc) hg hm (by decide +kernel) (pa_cons ha (pa_cons hb pa_nil he2) he) (by decide) (by decide) he hpl) fun s H Q ⟨F, z, q, h⟩ =>
  ⟨F, z, q, Post.bnd (L := lV T) h fun x v F1 H1 u1 rx h1 => ⟨F1, z, q.up u1, Post.bnd (L := lV T) h1 fun y w F2 H2 u2 ry h2 => by
    obtain ⟨d, e, k⟩ := Post.ofO h2
    obtain ⟨i, j, rfl, rfl, rfl⟩ := intD_some e
    cases rx
    cases ry
    exact ⟨i, j, rfl, k _ F2 H2 (Up.refl u2.s) (.int _)⟩⟩⟩
theorem de_min2 (hc : X.calm = true) (hm : X.mg "min" = none) (ha : DE T X E a ma) (hb : DE T X E b mb) (hg : Gl X "min" := by rfl) (he : starEach [a, b] X.env = (false, eval a X.env) :: starEach [b] X.env := by rfl) (he2 : starEach [b] X.env = (false, eval b X.env) :: starEach [] X.env := by rfl)
    (hpl : (backTo pos (starEach [b] X.env)).any (·.1) = false := by rfl) : DE T X E (.Call (.Name "min" p) [a, b] [] pos) (mBin min2 ma mb) :=
  pe_imp (pe_callB (call_min2 hc) hg hm (by decide +kernel) (pa_cons ha (pa_cons hb pa_nil he2) he) (by decide) (by decide) he hpl) fun s H Q ⟨F, z, q, h⟩ =>
  ⟨F, z, q, Post.bnd (L := lV T) h fun x v F1 H1 u1 rx h1 => ⟨F1, z, q.up u1, Post.bnd (L := lV T) h1 fun y w F2 H2 u2 ry h2 => by
    obtain ⟨d, e, k⟩ := Post.ofO h2
    obtain ⟨i, j, rfl, rfl, rfl⟩ := intD_some e
    cases rx
    cases ry
    exact ⟨i, j, rfl, k _ F2 H2 (Up.refl u2.s) (.int _)⟩⟩⟩
/-- list(x) -/
def mListI (mi : ML) : ML := mi
theorem dl_listI (hm : X.mg "list" = none) (ha : DI T X E e mi) (hg : Gl X "list" := by rfl) (he : starEach [e] X.env = (false, eval e X.env) :: starEach [] X.env := by rfl) : DL T X E (.Call (.Name "list" p) [e] [] pos) mi :=
  pe_imp (pe_callTy call_list_of hg hm (by decide +kernel) (pa_cons ha pa_nil he) (by decide) (by decide) he) fun s H Q ⟨F, z, q, h⟩ =>
  ⟨F, z, q, by
    cases em : mi z with
    | stuck => rw [em] at h; exact h
    | exc c => rw [em] at h; exact h
    | ok xs =>
      rw [em] at h
      intro v F1 H1 u1 rx
      obtain ⟨p, vs, rfl, hr, hA⟩ := rx
      exact ⟨_, _, rfl, .inl (.inl hr), fun l hl => h _ F1 _ (u1.trans (Up.newO u1.s hl)) ⟨l, vs, rfl, u1.h.back hl, u1.s.back hl, upd_same, hA⟩⟩⟩
def asSeq : D → Option (List D)
  | .lst xs => some xs
  | .tup xs => some xs
  | _ => none
def mSeq (m : M) : ML := fun z => (m z).bnd fun x => ofO (asSeq x)
theorem dl_list (hm : X.mg "list" = none) (ha : DE T X E e m) (hg : Gl X "list" := by rfl) (he : starEach [e] X.env = (false, eval e X.env) :: starEach [] X.env := by rfl) : DL T X E (.Call (.Name "list" p) [e] [] pos) (mSeq m) :=
  pe_imp (pe_callTy call_list_of hg hm (by decide +kernel) (pa_cons ha pa_nil he) (by decide) (by decide) he) fun s H Q ⟨F, z, q, h⟩ =>
  ⟨F, z, q, Post.bnd (L := lV T) h fun x v F1 H1 u1 rx h1 => by
    obtain ⟨d, e, k⟩ := Post.ofO h1
    cases x <;> first | cases e | skip
    · cases rx with
      | lst hr hA => exact ⟨_, _, rfl, .inl (.inl (u1.s.rd hr)), fun l hl => k _ F1 _ (Up.newO u1.s hl) ⟨l, _, rfl, hl, u1.s.back hl, upd_same, hA⟩⟩
    · cases rx with
      | tup hr hA => exact ⟨_, _, rfl, .inr (.inl (.inl (u1.s _ _ hr))), fun l hl => k _ F1 _ (Up.newO u1.s hl) ⟨l, _, rfl, hl, u1.s.back hl, upd_same, hA⟩⟩⟩
/-- isinstance(x, a built-in type) -/
inductive BT where
  | int | bool | list | tuple | str
def BT.nm : BT → String
  | .int => "int"
  | .bool => "bool"
  | .list => "list"
  | .tuple => "tuple"
  | .str => "str"
def isB : BT → D → Option Bool
  | .int, .int _ => some true
  | .int, .bl _ => some true
  | .bool, .bl _ => some true
  | .list, .lst _ => some true
  | .tuple, .tup _ => some true
  | .str, .str _ => some true
  | _, .ins _ _ => none
  | _, .fn _ => none
  | _, .scr _ => none
  | _, _ => some false
def tyN : D → String
  | .non => "NoneType"
  | .bl _ => "bool"
  | .int _ => "int"
  | .str _ => "str"
  | .lst _ => "list"
  | .tup _ => "tuple"
  | .dct => "dict"
  | .ins _ _ => ""
  | .fn _ => ""
  | .scr _ => ""
theorem isB_kit {t : BT} {d : D} {b : Bool} (h : isB t d = some b) : kitB (tyN d) t.nm = some b := by
  cases t <;> cases d <;> first | cases h | skip
  all_goals (simp only [tyN, BT.nm]; decide +kernel)
theorem Rp.ty {K : PySem.W.Frag} {F H : Hp} {v : V} {d : D} {t : BT} {b : Bool} (e : Ex F H) (h : Rp T F v d) (hb : isB t d = some b) : TyX K H v (.type (tyN d)) := by
  cases h with
  | non => exact .base .non
  | bl b => exact .base (.bl b)
  | int i => exact .base (.int i)
  | str x => exact .base (.str x)
  | lst hr _ =>
    rcases hr with hr | ⟨o, hr⟩
    · exact .base (.lst (e _ _ hr))
    · exact .base (.frz (e _ _ hr))
  | tup hr _ => exact .base (.tup (e _ _ hr))
  | dct hr => exact .base (.dK (e _ _ hr))
  | ins _ _ _ => cases t <;> cases hb
  | fn _ => cases t <;> cases hb
  | scr _ => cases t <;> cases hb
def isTy (t : BT) (d : D) : Option D := (isB t d).map fun b => .bl b
theorem de_isTy (t : BT) {x : Str} {px : Pos} (hm : X.mg "isinstance" = none) (ha : DE T X E e m) (hx : Gl X x) (hmx : X.mg x = none) (hv : bootBuiltins x = some (.type t.nm)) (hn : x ≠ "__name__" := by decide) (hdx : (x == ("__debug__" : Str)) = false := by decide)
    (hg : Gl X "isinstance" := by rfl) (he : starEach [e, .Name x px] X.env = (false, eval e X.env) :: starEach [.Name x px] X.env := by rfl) :
    DE T X E (.Call (.Name "isinstance" p) [e, .Name x px] [] pos) (mUn (isTy t) m) :=
  pe_imp (pe_callB call_isi hg hm (by decide +kernel) (pa_cons ha (pa_cons (pe_bltn (v := .ty t.nm) hx hmx hv rfl hn hdx) pa_nil rfl) he) (by decide) (by decide) he rfl) fun s H Q ⟨F, z, q, h⟩ =>
  ⟨F, z, q, Post.bnd (L := lV T) h fun x v F1 H1 u1 rx h1 => by
    obtain ⟨d, e, k⟩ := Post.ofO h1
    unfold isTy at e
    cases qb : isB t x with
    | none => rw [qb] at e; cases e
    | some b =>
      rw [qb] at e
      cases e
      exact ⟨v, _, _, _, b, rfl, .ty t.nm, rx.ty u1.s qb, kit_ty (isB_kit qb), k _ F1 H1 (Up.refl u1.s) (.bl b)⟩⟩

/-! ### calls of the text's own defs -/
def spD (T : Tx) (n : Nat) (f : List D → Rs D) : Sp := fun vs H Q E => ∃ F ds, Ex F H ∧ RpAll T F vs ds ∧ ds.length = n ∧ Post T E (lV T) F H Q (f ds)
def spL (T : Tx) (n : Nat) (f : List D → Rs (List D)) : Sp := fun vs H Q E => ∃ F ds, Ex F H ∧ RpAll T F vs ds ∧ ds.length = n ∧ Post T E (lL T) F H Q (f ds)
structure DefG (P : Program) (w : World) (K : PySem.W.Frag) (mg : Str → Option Value) (base : Heap) (CX : CXT) (k : Nat) (x : Str) (sp : Sp) : Prop where
  ex : ∃ f fd ps, FnOk P w K mg base CX k f fd ps sp ∧ mg x = some (.ref f) ∧ PySem.W.keepIn K (.ref f) = true ∧ Binds K fd ps []
theorem passN {X : Cx} {E : XK} : Passes CX0 X E := fun _ _ _ _ _ _ _ h => h.elim
variable {CX : CXT} {j k : Nat} {sp : Sp} {ta : TA}
theorem pe_cal (c : DefG X.prog X.w X.K X.mg X.base CX k x sp) (hr : Room j X.A) (hk : k ≤ j) (hp : Passes CX X E) (hg : Gl X x) (ha : PA X (e :: es) ta) (hdb : (x == ("__debug__" : Str)) = false := by decide)
    (he : starEach (e :: es) X.env = (false, eval e X.env) :: starEach es X.env := by rfl) (hpl : (backTo pos (starEach es X.env)).any (·.1) = false := by rfl) : PE X (.Call (.Name x p) (e :: es) [] pos) (tCall sp [] E ta) := by
  obtain ⟨f, fd, ps, F, hm, kp, b⟩ := c.ex
  exact pe_call F (hr.mono hk) hg hm kp b .nil hp ha hdb he hpl
theorem pe_cal0 (c : DefG X.prog X.w X.K X.mg X.base CX k x sp) (hr : Room j X.A) (hk : k ≤ j) (hp : Passes CX X E) (hg : Gl X x) (hdb : (x == ("__debug__" : Str)) = false := by decide) : PE X (.Call (.Name x p) [] [] pos) (tCall sp [] E tNil) := by
  obtain ⟨f, fd, ps, F, hm, kp, b⟩ := c.ex
  exact pe_call0 F (hr.mono hk) hg hm kp b .nil hp hdb
def mCall {α : Type} (n : Nat) (f : List D → Rs α) (ms : ML) : List Sd → Rs α := fun z => (ms z).bnd fun ds => if ds.length = n then f ds else .stuck
theorem call_read {β α : Type} {L : Rl β α} {n : Nat} {f : List D → Rs α} {F : Hp} {s : L2.St} {H : Hp} {z : List Sd} {Q : β → Hp → Prop} {ms : ML} (h : Post T E L F H Q (mCall n f ms z)) :
    Post T E (lA T) F H (fun vs H1 => ∃ F1 ds, Ex F1 H1 ∧ RpAll T F1 vs ds ∧ ds.length = n ∧ Post T E L F1 H1 Q (f ds)) (ms z) :=
  Post.bnd (L := lA T) h fun ds vs F1 H1 u1 rx h1 => by
    by_cases hn : ds.length = n
    · rw [if_pos hn] at h1
      exact ⟨F1, ds, u1.s, rx, hn, h1⟩
    · rw [if_neg hn] at h1
      exact h1.elim
theorem de_call {n : Nat} {f : List D → Rs D} (c : DefG X.prog X.w X.K X.mg X.base CX k x (spD T n f)) (hr : Room j X.A) (hk : k ≤ j) (hp : Passes CX X E) (ha : DA T X E (e :: es) mes) (hg : Gl X x := by rfl) (hdb : (x == ("__debug__" : Str)) = false := by decide)
    (he : starEach (e :: es) X.env = (false, eval e X.env) :: starEach es X.env := by rfl) (hpl : (backTo pos (starEach es X.env)).any (·.1) = false := by rfl) : DE T X E (.Call (.Name x p) (e :: es) [] pos) (mCall n f mes) :=
  pe_imp (pe_cal c hr hk hp hg ha hdb he hpl) fun s H Q ⟨F, z, q, h⟩ => ⟨F, z, q, Post.mapQ (call_read (s := s) h) fun vs H1 h1 => by
    show spD T n f (vs ++ []) H1 Q E
    rw [List.append_nil]
    exact h1⟩
theorem dl_call {n : Nat} {f : List D → Rs (List D)} (c : DefG X.prog X.w X.K X.mg X.base CX k x (spL T n f)) (hr : Room j X.A) (hk : k ≤ j) (hp : Passes CX X E) (ha : DA T X E (e :: es) mes) (hg : Gl X x := by rfl) (hdb : (x == ("__debug__" : Str)) = false := by decide)
    (he : starEach (e :: es) X.env = (false, eval e X.env) :: starEach es X.env := by rfl) (hpl : (backTo pos (starEach es X.env)).any (·.1) = false := by rfl) : DL T X E (.Call (.Name x p) (e :: es) [] pos) (mCall n f mes) :=
  pe_imp (pe_cal c hr hk hp hg ha hdb he hpl) fun s H Q ⟨F, z, q, h⟩ => ⟨F, z, q, Post.mapQ (call_read (s := s) h) fun vs H1 h1 => by
    show spL T n f (vs ++ []) H1 Q E
    rw [List.append_nil]
    exact h1⟩
theorem de_call0 {f : List D → Rs D} (c : DefG X.prog X.w X.K X.mg X.base CX k x (spD T 0 f)) (hr : Room j X.A) (hk : k ≤ j) (hp : Passes CX X E) (hg : Gl X x := by rfl) (hdb : (x == ("__debug__" : Str)) = false := by decide) :
    DE T X E (.Call (.Name x p) [] [] pos) (fun _ => f []) :=
  pe_imp (pe_cal0 c hr hk hp hg hdb) fun s H Q ⟨F, z, q, h⟩ => ⟨F, [], q.ex, .nil, rfl, h⟩
end
end CL


set_option Elab.async false
set_option linter.all false
set_option maxRecDepth 100000
/-! The data layer, part d: walks, targets, comprehensions. -/
namespace CL
open PySem PySem.Spec L2

/-! ### walks -/
structure ItD (T : Tx) (J : It) (F1 : Hp) (ds : List D) : Prop where
  go : ∀ (i : Nat) (F H : Hp), Ex F1 F → Ex F H → i < ds.length → J.go i H
  yl : ∀ (i : Nat) (F H : Hp) (x : V) (H' : Hp) (d : D), Ex F1 F → Ex F H → ds[i]? = some d → J.yld i H x H' → ∃ F', Up F H F' H' ∧ Rp T F' x d
  st : ∀ (i : Nat) (F H : Hp), Ex F1 F → Ex F H → ds.length ≤ i → J.stop i H
def lN (T : Tx) : Rl It (List D) := ⟨fun _ F _ J ds => ItD T J F ds, fun _ h => h⟩
def DN (T : Tx) (X : Cx) (E : XK) (tg iter : Expr) (mi : ML) : Prop := PI X tg iter (tG T E (lN T) mi)
theorem pi_imp {X : Cx} {tg e : Expr} {t t' : TI} (h : PI X tg e t) (i : ∀ s H Q, t' s H Q → t s H Q) : PI X tg e t' := ⟨fun pins s σ H Q I q => h.run pins s σ H Q I (i _ _ _ q)⟩
theorem pi_alt {X : Cx} {tg e : Expr} {t t' : TI} (h : PI X tg e t) (h' : PI X tg e t') : PI X tg e (fun s H Q => t s H Q ∨ t' s H Q) := ⟨fun pins s σ H Q I q => q.elim (h.run pins s σ H Q I) (h'.run pins s σ H Q I)⟩
section
variable {T : Tx} {X : Cx} {E : XK} {tg a b c e : Expr} {es : List Expr} {pos : Pos} {ma mb mc m : M} {mes mi mj ml : ML} {ba bb : MB}
theorem itd_list {K : PySem.W.Frag} {F : Hp} {a : Addr} {vs : List V} {ds : List D} (hr : Rd F a (.lst vs)) (hA : RpAll T F vs ds) : ItD T (Itl K a) F ds where
  go := fun i F1 H e1 e2 hi => by
    have hi' : i < vs.length := by rw [hA.length]; exact hi
    exact ⟨vs, vs[i], .inl (e2.rd (e1.rd hr)), List.getElem?_eq_getElem hi'⟩
  yl := fun i F1 H x H' d e1 e2 hd hy => by
    obtain ⟨rfl, hy⟩ := hy
    have h1 := hy vs (.inl (e2.rd (e1.rd hr)))
    obtain ⟨v, h2, h3⟩ := hA.get hd
    rw [h1] at h2
    cases h2
    exact ⟨F1, Up.refl e2, h3.mono e1⟩
  st := fun i F1 H e1 e2 hi => ⟨vs, .inl (e2.rd (e1.rd hr)), by rw [hA.length]; exact hi⟩
theorem itd_tup {K : PySem.W.Frag} {F : Hp} {a : Addr} {vs : List V} {ds : List D} (hr : F a = some (.tup vs)) (hA : RpAll T F vs ds) : ItD T (Itt K a) F ds where
  go := fun i F1 H e1 e2 hi => by
    have hi' : i < vs.length := by rw [hA.length]; exact hi
    exact ⟨vs, vs[i], .inl (.inl (e2 _ _ (e1 _ _ hr))), List.getElem?_eq_getElem hi'⟩
  yl := fun i F1 H x H' d e1 e2 hd hy => by
    obtain ⟨rfl, hy⟩ := hy
    have h1 := hy vs (.inl (.inl (e2 _ _ (e1 _ _ hr))))
    obtain ⟨v, h2, h3⟩ := hA.get hd
    rw [h1] at h2
    cases h2
    exact ⟨F1, Up.refl e2, h3.mono e1⟩
  st := fun i F1 H e1 e2 hi => ⟨vs, .inl (.inl (e2 _ _ (e1 _ _ hr))), by rw [hA.length]; exact hi⟩
/-- over a list or a tuple -/
theorem dn_seq (h : DE T X E e m) : DN T X E tg e (mSeq m) := pi_imp (pi_alt (pi_list h) (pi_tup h)) fun s H Q ⟨F, z, q, h⟩ => by
  unfold mSeq at h
  cases em : m z with
  | stuck => rw [em] at h; exact h.elim
  | exc c =>
    rw [em] at h
    exact .inl ⟨F, z, q, by rw [em]; exact h⟩
  | ok x =>
    rw [em] at h
    obtain ⟨d, e, k⟩ := Post.ofO h
    cases x <;> first | cases e | skip
    · refine .inl ⟨F, z, q, ?_⟩
      rw [em]
      intro v F1 H1 u1 rx
      cases rx with
      | lst hr hA => exact ⟨_, rfl, ⟨_, .inl (u1.s.rd hr)⟩, k _ F1 H1 u1 (itd_list hr hA)⟩
    · refine .inr ⟨F, z, q, ?_⟩
      rw [em]
      intro v F1 H1 u1 rx
      cases rx with
      | tup hr hA => exact ⟨_, rfl, ⟨_, .inl (.inl (u1.s _ _ hr))⟩, k _ F1 H1 u1 (itd_tup hr hA)⟩
def rgD (lo : Int) (n : Nat) : List D := (List.range n).map fun (i : Nat) => D.int (lo + (i : Nat))
theorem itd_range {F : Hp} {lo : Int} {n : Nat} : ItD T (Itr lo n) F (rgD lo n) where
  go := fun i F1 H e1 e2 hi => by
    unfold rgD at hi
    rw [List.length_map, List.length_range] at hi
    exact hi
  yl := fun i F1 H x H' d e1 e2 hd hy => by
    obtain ⟨rfl, rfl⟩ := hy
    unfold rgD at hd
    rw [List.getElem?_map] at hd
    cases q : (List.range n)[i]? with
    | none => rw [q] at hd; cases hd
    | some j =>
      rw [q] at hd
      have := (List.getElem?_eq_some_iff.mp q).2
      rw [List.getElem_range] at this
      subst this
      cases hd
      exact ⟨F1, Up.refl e2, .int _⟩
  st := fun i F1 H e1 e2 hi => by
    unfold rgD at hi
    rw [List.length_map, List.length_range] at hi
    exact hi
def rng1 : List D → Option (List D)
  | [.int j] => if -(2 ^ 62) ≤ j ∧ j < 2 ^ 62 then some (rgD 0 j.toNat) else none
  | _ => none
def rng2 : List D → Option (List D)
  | [.int i, .int j] => if -(2 ^ 62) ≤ i ∧ i < 2 ^ 62 ∧ -(2 ^ 62) ≤ j ∧ j < 2 ^ 62 then some (rgD i (j - i).toNat) else none
  | _ => none
theorem rng1_some {xs ds : List D} (h : rng1 xs = some ds) : ∃ j : Int, xs = [.int j] ∧ -(2 ^ 62) ≤ j ∧ j < 2 ^ 62 ∧ ds = rgD 0 j.toNat := by
  unfold rng1 at h
  split at h
  · rename_i j
    split at h
    · rename_i hc
      exact ⟨j, rfl, hc.1, hc.2, (Option.some.inj h).symm⟩
    · cases h
  · cases h
theorem rng2_some {xs ds : List D} (h : rng2 xs = some ds) : ∃ i j : Int, xs = [.int i, .int j] ∧ (-(2 ^ 62) ≤ i ∧ i < 2 ^ 62 ∧ -(2 ^ 62) ≤ j ∧ j < 2 ^ 62) ∧ ds = rgD i (j - i).toNat := by
  unfold rng2 at h
  split at h
  · rename_i i j
    split at h
    · rename_i hc
      exact ⟨i, j, rfl, hc, (Option.some.inj h).symm⟩
    · cases h
  · cases h
def mOf (f : List D → Option (List D)) (ms : ML) : ML := fun z => (ms z).bnd fun xs => ofO (f xs)
variable {p : Pos}
theorem RpAll.one {F : Hp} {vs : List V} {d : D} (h : RpAll T F vs [d]) : ∃ v, vs = [v] ∧ Rp T F v d := by
  cases h with
  | cons r t => cases t; exact ⟨_, rfl, r⟩
theorem RpAll.two {F : Hp} {vs : List V} {d d2 : D} (h : RpAll T F vs [d, d2]) : ∃ v w, vs = [v, w] ∧ Rp T F v d ∧ Rp T F w d2 := by
  cases h with
  | cons r t =>
    obtain ⟨w, rfl, r2⟩ := t.one
    exact ⟨_, w, rfl, r, r2⟩
theorem dn_range1 (hm : X.mg "range" = none) (ha : DA T X E [a] mes) (hg : Gl X "range" := by rfl) (hs : starEach [a] X.env = [(false, eval a X.env)] := by rfl) : DN T X E tg (.Call (.Name "range" p) [a] [] pos) (mOf rng1 mes) :=
  pi_imp (pi_range1 hg hm ha hs) fun s H Q ⟨F, z, q, h⟩ => ⟨F, z, q, Post.bnd (L := lA T) h fun xs vs F1 H1 u1 rx h1 => by
    obtain ⟨d, e, k⟩ := Post.ofO h1
    obtain ⟨j, rfl, h1, h2, rfl⟩ := rng1_some e
    obtain ⟨v, rfl, r⟩ := RpAll.one rx
    cases r
    exact ⟨j, rfl, h1, h2, k _ F1 H1 (Up.refl u1.s) itd_range⟩⟩
theorem dn_range2 (hm : X.mg "range" = none) (ha : DA T X E [a, b] mes) (hg : Gl X "range" := by rfl) (hs : starEach [a, b] X.env = [(false, eval a X.env), (false, eval b X.env)] := by rfl) (hs2 : starEach [b] X.env = [(false, eval b X.env)] := by rfl) :
    DN T X E tg (.Call (.Name "range" p) [a, b] [] pos) (mOf rng2 mes) :=
  pi_imp (pi_range2 hg hm ha hs hs2) fun s H Q ⟨F, z, q, h⟩ => ⟨F, z, q, Post.bnd (L := lA T) h fun xs vs F1 H1 u1 rx h1 => by
    obtain ⟨d, e, k⟩ := Post.ofO h1
    obtain ⟨i, j, rfl, hc, rfl⟩ := rng2_some e
    obtain ⟨v, w, rfl, r, r2⟩ := RpAll.two rx
    cases r
    cases r2
    exact ⟨i, j, rfl, hc, k _ F1 H1 (Up.refl u1.s) itd_range⟩⟩
/-- zip of two lists -/
def zipD : List D → List D → List D
  | x :: xs, y :: ys => .tup [x, y] :: zipD xs ys
  | _, _ => []
theorem zipD_get : ∀ {xs ys : List D} {i : Nat} {d : D}, (zipD xs ys)[i]? = some d → ∃ x y, xs[i]? = some x ∧ ys[i]? = some y ∧ d = .tup [x, y]
  | [], _, _, _, h => by simp [zipD] at h
  | _ :: _, [], _, _, h => by simp [zipD] at h
  | x :: xs, y :: ys, 0, d, h => by simp [zipD] at h; exact ⟨x, y, rfl, rfl, h.symm⟩
  | x :: xs, y :: ys, i + 1, d, h => by
    simp only [zipD, List.getElem?_cons_succ] at h ⊢
    exact zipD_get h
theorem zipD_length : ∀ (xs ys : List D), (zipD xs ys).length = min xs.length ys.length
  | [], _ => by simp [zipD]
  | _ :: _, [] => by simp [zipD]
  | x :: xs, y :: ys => by simp only [zipD, List.length_cons, zipD_length xs ys]; omega
def zip2 : List D → Option (List D)
  | [.lst xs, .lst ys] => some (zipD xs ys)
  | _ => none
theorem zip2_some {xs ds : List D} (h : zip2 xs = some ds) : ∃ us ws, xs = [.lst us, .lst ws] ∧ ds = zipD us ws := by
  unfold zip2 at h
  split at h
  · exact ⟨_, _, rfl, (Option.some.inj h).symm⟩
  · cases h
theorem itd_zip {K : PySem.W.Frag} {F : Hp} {a b : Addr} {vs ws : List V} {ds es : List D} (hr : Rd F a (.lst vs)) (hA : RpAll T F vs ds) (hr2 : Rd F b (.lst ws)) (hA2 : RpAll T F ws es) : ItD T (Itz K a b) F (zipD ds es) where
  go := fun i F1 H e1 e2 hi => by
    rw [zipD_length] at hi
    have h1 : i < vs.length := by rw [hA.length]; omega
    have h2 : i < ws.length := by rw [hA2.length]; omega
    exact ⟨vs, ws, vs[i], ws[i], .inl (e2.rd (e1.rd hr)), .inl (e2.rd (e1.rd hr2)), List.getElem?_eq_getElem h1, List.getElem?_eq_getElem h2⟩
  yl := fun i F1 H x H' d e1 e2 hd hy => by
    obtain ⟨t, u, w, rfl, ht, rfl, y1, y2⟩ := hy
    have h1 := y1 vs (.inl (e2.rd (e1.rd hr)))
    have h2 := y2 ws (.inl (e2.rd (e1.rd hr2)))
    obtain ⟨dx, dy, g1, g2, rfl⟩ := zipD_get hd
    obtain ⟨v1, h3, h4⟩ := hA.get g1
    obtain ⟨v2, h5, h6⟩ := hA2.get g2
    rw [h1] at h3
    rw [h2] at h5
    cases h3
    cases h5
    have eF := e1.trans (Ex.new (o := .tup [u, w]) (e2.back ht))
    exact ⟨upd F1 t _, Up.new e2 ht, .tup upd_same (.cons (h4.mono eF) (.cons (h6.mono eF) .nil))⟩
  st := fun i F1 H e1 e2 hi => by
    rw [zipD_length] at hi
    refine ⟨vs, ws, .inl (e2.rd (e1.rd hr)), .inl (e2.rd (e1.rd hr2)), ?_⟩
    rw [hA.length, hA2.length]
    omega
variable {elts : List Expr} {kk : Nat} {tpos : Pos}
theorem dn_zip (hm : X.mg "zip" = none) (ha : DA T X E [a, b] mes) (hg : Gl X "zip" := by rfl) (hs : starEach [a, b] X.env = (false, eval a X.env) :: starEach [b] X.env := by rfl) (hpl : (backTo pos (starEach [b] X.env)).any (·.1) = false := by rfl) :
    DN T X E (.Tuple elts kk tpos) (.Call (.Name "zip" p) [a, b] [] pos) (mOf zip2 mes) :=
  pi_imp (pi_zip hg hm ha hs hpl) fun s H Q ⟨F, z, q, h⟩ => ⟨F, z, q, Post.bnd (L := lA T) h fun xs vs F1 H1 u1 rx h1 => by
    obtain ⟨d, e, k⟩ := Post.ofO h1
    obtain ⟨us, ws, rfl, rfl⟩ := zip2_some e
    obtain ⟨v, w, rfl, r, r2⟩ := RpAll.two rx
    cases r with
    | lst hr hA =>
      cases r2 with
      | lst hr2 hA2 => exact ⟨_, _, _, _, rfl, .inl (u1.s.rd hr), .inl (u1.s.rd hr2), k _ F1 H1 (Up.refl u1.s) (itd_zip hr hA hr2 hA2)⟩⟩
/-- enumerate of a list -/
def enumD (n : Nat) : List D → List D
  | [] => []
  | x :: xs => .tup [.int (n : Nat), x] :: enumD (n + 1) xs
theorem enumD_get : ∀ {xs : List D} {n i : Nat} {d : D}, (enumD n xs)[i]? = some d → ∃ x, xs[i]? = some x ∧ d = .tup [.int ((n + i : Nat) : Int), x]
  | [], _, _, _, h => by simp [enumD] at h
  | x :: xs, n, 0, d, h => by simp [enumD] at h; exact ⟨x, rfl, h.symm⟩
  | x :: xs, n, i + 1, d, h => by
    simp only [enumD, List.getElem?_cons_succ] at h ⊢
    obtain ⟨y, h1, h2⟩ := enumD_get h
    exact ⟨y, h1, by rw [h2, show n + 1 + i = n + (i + 1) by omega]⟩
theorem enumD_length : ∀ (xs : List D) (n : Nat), (enumD n xs).length = xs.length
  | [], _ => rfl
  | x :: xs, n => by simp only [enumD, List.length_cons, enumD_length xs]
def enum1 : List D → Option (List D)
  | [.lst xs] => some (enumD 0 xs)
  | _ => none
theorem enum1_some {xs ds : List D} (h : enum1 xs = some ds) : ∃ us, xs = [.lst us] ∧ ds = enumD 0 us := by
  unfold enum1 at h
  split at h
  · exact ⟨_, rfl, (Option.some.inj h).symm⟩
  · cases h
theorem itd_enum {K : PySem.W.Frag} {F : Hp} {a : Addr} {vs : List V} {ds : List D} (hr : Rd F a (.lst vs)) (hA : RpAll T F vs ds) : ItD T (Ite K a) F (enumD 0 ds) where
  go := fun i F1 H e1 e2 hi => by
    rw [enumD_length] at hi
    have h1 : i < vs.length := by rw [hA.length]; omega
    exact ⟨vs, vs[i], .inl (e2.rd (e1.rd hr)), List.getElem?_eq_getElem h1⟩
  yl := fun i F1 H x H' d e1 e2 hd hy => by
    obtain ⟨t, u, rfl, ht, rfl, y1⟩ := hy
    have h1 := y1 vs (.inl (e2.rd (e1.rd hr)))
    obtain ⟨dx, g1, rfl⟩ := enumD_get hd
    obtain ⟨v1, h3, h4⟩ := hA.get g1
    rw [h1] at h3
    cases h3
    rw [Nat.zero_add]
    have eF := e1.trans (Ex.new (o := .tup [.int (i : Nat), u]) (e2.back ht))
    exact ⟨upd F1 t _, Up.new e2 ht, .tup upd_same (.cons (.int _) (.cons (h4.mono eF) .nil))⟩
  st := fun i F1 H e1 e2 hi => by
    rw [enumD_length] at hi
    exact ⟨vs, .inl (e2.rd (e1.rd hr)), by rw [hA.length]; exact hi⟩
theorem dn_enum (hm : X.mg "enumerate" = none) (ha : DA T X E [a] mes) (hg : Gl X "enumerate" := by rfl) (hs : starEach [a] X.env = [(false, eval a X.env)] := by rfl) :
    DN T X E (.Tuple elts kk tpos) (.Call (.Name "enumerate" p) [a] [] pos) (mOf enum1 mes) :=
  pi_imp (pi_enum hg hm ha hs) fun s H Q ⟨F, z, q, h⟩ => ⟨F, z, q, Post.bnd (L := lA T) h fun xs vs F1 H1 u1 rx h1 => by
    obtain ⟨d, e, k⟩ := Post.ofO h1
    obtain ⟨us, rfl, rfl⟩ := enum1_some e
    obtain ⟨v, rfl, r⟩ := RpAll.one rx
    cases r with
    | lst hr hA => exact ⟨_, _, rfl, .inl (u1.s.rd hr), k _ F1 H1 (Up.refl u1.s) (itd_enum hr hA)⟩⟩
/-- list(range(..)) -/
def rgOk (a b : Int) : Bool := decide (-(2 ^ 62) ≤ a ∧ a < 2 ^ 62 ∧ -(2 ^ 62) ≤ b ∧ b < 2 ^ 62 ∧ (b - a).toNat ≤ 2 ^ 24)
def mListRg (m : M) : ML := fun z => (m z).bnd fun x => (ofO (asI x)).bnd fun n => if rgOk 0 n then .ok (rgD 0 n.toNat) else .stuck
theorem rpAll_rg {F : Hp} (lo : Int) : ∀ l : List Nat, RpAll T F (l.map fun i => V.int (lo + (i : Nat))) (l.map fun i => D.int (lo + (i : Nat)))
  | [] => .nil
  | i :: l => .cons (.int _) (rpAll_rg lo l)
theorem dl_listRg (hc : X.calm = true) (hm : X.mg "list" = none) (hm2 : X.mg "range" = none) (ha : DE T X E a m) (hg : Gl X "list" := by rfl) (hg2 : Gl X "range" := by rfl) {p2 pos2 : Pos}
    (na : starEach [a] X.env = (false, eval a X.env) :: starEach [] X.env := by rfl) (nb : starEach [.Call (.Name "range" p2) [a] [] pos2] X.env = (false, eval (.Call (.Name "range" p2) [a] [] pos2) X.env) :: starEach [] X.env := by rfl) :
    DL T X E (.Call (.Name "list" p) [.Call (.Name "range" p2) [a] [] pos2] [] pos) (mListRg m) := pe_imp (pe_listRg hc hg hm (prg_1 hg2 hm2 ha na) nb) fun s H Q ⟨F, z, q, h⟩ =>
  ⟨F, z, q, Post.bnd (L := lV T) h fun x v F1 H1 u1 rx h1 => by
    cases qx : asI x with
    | none => rw [qx] at h1; exact h1.elim
    | some n =>
      rw [qx] at h1
      cases asI_some qx
      cases rx
      have h2 : Post T E (lL T) F1 H1 Q (if rgOk 0 n = true then .ok (rgD 0 n.toNat) else .stuck) := h1
      by_cases hb : rgOk 0 n = true
      · rw [if_pos hb] at h2
        refine ⟨n, rfl, of_decide_eq_true (p := -(2 ^ 62) ≤ (0 : Int) ∧ (0 : Int) < 2 ^ 62 ∧ -(2 ^ 62) ≤ n ∧ n < 2 ^ 62 ∧ (n - 0).toNat ≤ 2 ^ 24) hb, fun l hl => h2 _ F1 _ (Up.newO u1.s hl) ⟨l, _, rfl, hl, u1.s.back hl, upd_same, ?_⟩⟩
        unfold rgV rgD
        rw [Int.sub_zero]
        exact rpAll_rg 0 _
      · rw [if_neg hb] at h2
        exact h2.elim⟩

/-! ### targets: a name, names in a tuple -/
inductive Tg where
  | nm (i : Nat) | tp (is : List Nat)
def Tg.slots : Tg → List Nat
  | .nm i => [i]
  | .tp is => is
def setAll : List Nat → List D → List Sd → List Sd
  | i :: is, d :: ds, z => setAll is ds (z.set i (.sh d))
  | _, _, z => z
def setT : Tg → D → List Sd → Rs (List Sd)
  | .nm i, d, z => .ok (z.set i (.sh d))
  | .tp is, .tup ds, z => if ds.length = is.length then .ok (setAll is ds z) else .stuck
  | _, _, _ => .stuck
def setAllS : List Nat → List V → L2.St → L2.St
  | i :: is, d :: ds, z => setAllS is ds (z.set i (some d))
  | _, _, z => z
theorem R.setAll {F H : Hp} : ∀ {is : List Nat} {vs : List V} {ds : List D} {s : L2.St} {z : List Sd}, R T F H s z → RpAll T F vs ds → R T F H (setAllS is vs s) (setAll is ds z)
  | [], _, _, _, _, r, _ => by unfold setAllS CL.setAll; exact r
  | _ :: _, _, _, _, _, r, .nil => by unfold setAllS CL.setAll; exact r
  | i :: is, _, _, _, _, r, .cons h t => by
    unfold setAllS CL.setAll
    exact R.setAll (r.set h) t
/-- all but these slots are as they were -/
def ButS (is : List Nat) (s s' : L2.St) : Prop := s'.length = s.length ∧ ∀ j, j ∉ is → s'[j]? = s[j]?
theorem butS_setAll : ∀ {is : List Nat} {vs : List V} {s : L2.St}, ButS is s (setAllS is vs s)
  | [], _, _ => by unfold setAllS; exact ⟨rfl, fun _ _ => rfl⟩
  | _ :: _, [], _ => by unfold setAllS; exact ⟨rfl, fun _ _ => rfl⟩
  | i :: is, v :: vs, s => by
    unfold setAllS
    obtain ⟨h1, h2⟩ := butS_setAll (is := is) (vs := vs) (s := s.set i (some v))
    refine ⟨by rw [h1, List.length_set], fun j hj => ?_⟩
    rw [List.mem_cons, not_or] at hj
    rw [h2 j hj.2, List.getElem?_set_ne (Ne.symm hj.1)]
def tTg (T : Tx) (t : Tg) : TG := fun v s H Q => ∃ F z d z', R T F H s z ∧ Rp T F v d ∧ setT t d z = .ok z' ∧ ∀ s', R T F H s' z' → ButS t.slots s s' → Q s' H
def DG (T : Tx) (X : Cx) (tg : Expr) (t : Tg) : Prop := PG X tg (tTg T t)
theorem pg_imp {X : Cx} {tg : Expr} {t t' : TG} (h : PG X tg t) (i : ∀ v s H Q, t' v s H Q → t v s H Q) : PG X tg t' := ⟨fun pins s σ H v u Q I r q => h.run pins s σ H v u Q I r (i _ _ _ _ q)⟩
theorem dg_nm {i : Nat} {x : Str} (hN : X.N.Nodup) (hi : X.N[i]? = some x := by rfl) (hx : Loc X.env.scope x := by first | exact Or.inl rfl | exact Or.inr rfl) (hf : X.fn x = true ∨ X.env.scope.names.lookup x = some .local := by first | exact .inl rfl | exact .inr rfl | assumption) :
    DG T X (.Name x pos) (.nm i) := pg_imp (pg_name hN hi hx hf) fun v s H Q ⟨F, z, d, z', r, h, e, k⟩ => by
  cases e
  exact k _ (r.set h) (butS_setAll (is := [i]) (vs := [v]) (s := s))
/-- names one behind the other -/
def tNames (is : List Nat) : TGs := fun vs s H Q => vs.length = is.length ∧ Q (setAllS is vs s) H
def DGs (X : Cx) (tgs : List Expr) (is : List Nat) : Prop := PGs X tgs (tNames is)
theorem pgs_imp {X : Cx} {tg : List Expr} {t t' : TGs} (h : PGs X tg t) (i : ∀ v s H Q, t' v s H Q → t v s H Q) : PGs X tg t' := ⟨fun pins s σ H v u Q I r q => h.run pins s σ H v u Q I r (i _ _ _ _ q)⟩
theorem dgs_nil : DGs X [] [] := pgs_imp pgs_nil fun vs s H Q ⟨h, q⟩ => by
  cases vs with
  | nil => exact ⟨rfl, q⟩
  | cons v vs => cases h
theorem dgs_cons {i : Nat} {is : List Nat} {x : Str} {tgs : List Expr} (hN : X.N.Nodup) (hr : DGs X tgs is) (hi : X.N[i]? = some x := by rfl) (hx : Loc X.env.scope x := by first | exact Or.inl rfl | exact Or.inr rfl) (hf : X.fn x = true ∨ X.env.scope.names.lookup x = some .local := by first | exact .inl rfl | exact .inr rfl | assumption)
    (hs : (assignEach (.Name x pos :: tgs) X.env).map (·.2) = assign (.Name x pos) X.env :: (assignEach tgs X.env).map (·.2) := by rfl) : DGs X (.Name x pos :: tgs) (i :: is) := pgs_imp (pgs_cons (pg_name hN hi hx hf) hr hs) fun vs s H Q ⟨h, q⟩ => by
  cases vs with
  | nil => cases h
  | cons v vs => exact ⟨v, vs, rfl, by simpa using h, q⟩
theorem dg_tp {tgs : List Expr} {is : List Nat} {k : Nat} (hc : X.calm = true) (h : DGs X tgs is) (hn : (assignEach tgs X.env).length = is.length := by rfl) (hst : (assignEach tgs X.env).findIdx? (·.1) = none := by rfl) : DG T X (.Tuple tgs k pos) (.tp is) :=
  pg_imp (pg_tup hc h hn hst) fun v s H Q ⟨F, z, d, z', r, h, e, kk⟩ => by
  cases d <;> first | cases e | skip
  rename_i ds
  simp only [setT] at e
  split at e
  · rename_i hl
    cases e
    cases h with
    | tup hr hA =>
      have hl2 := hA.length
      exact ⟨_, _, rfl, .inl (.inl (r.ex _ _ hr)), by omega, by omega, kk _ (r.setAll hA) butS_setAll⟩
  · cases e

/-! ### comprehensions -/
def wipeD (z : List Sd) : List Nat → List Sd
  | [] => z
  | v :: vs => (wipeD z vs).set v .no
theorem R.setNo {F H : Hp} {s : L2.St} {z : List Sd} {i : Nat} (r : R T F H s z) : R T F H (s.set i none) (z.set i .no) := by
  have at_ : ∀ {j : Nat} {x : Sd}, (z.set i Sd.no)[j]? = some x → x ≠ .no → i ≠ j ∧ z[j]? = some x := fun {j x} q hx => by
    by_cases hj : i = j
    · subst hj
      have hl : i < z.length := by
        have := (List.getElem?_eq_some_iff.mp q).1
        rwa [List.length_set] at this
      rw [List.getElem?_set_self hl] at q
      cases q
      exact absurd rfl hx
    · rw [List.getElem?_set_ne hj] at q
      exact ⟨hj, q⟩
  refine ⟨r.ex, fun j e q => ?_, fun j es q => ?_, fun j k a es fs q1 q2 q3 q4 => ?_, by rw [List.length_set, List.length_set]; exact r.len⟩
  · obtain ⟨n, q⟩ := at_ q (by intro h; cases h)
    rw [List.getElem?_set_ne n]
    exact r.sh j e q
  · obtain ⟨n, q⟩ := at_ q (by intro h; cases h)
    rw [List.getElem?_set_ne n]
    exact r.ow j es q
  · obtain ⟨n1, q1⟩ := at_ q1 (by intro h; cases h)
    obtain ⟨n2, q2⟩ := at_ q2 (by intro h; cases h)
    rw [List.getElem?_set_ne n1] at q3
    rw [List.getElem?_set_ne n2] at q4
    exact r.ap j k a es fs q1 q2 q3 q4
theorem R.wipe {F H : Hp} {s : L2.St} {z : List Sd} (r : R T F H s z) : ∀ vs : List Nat, R T F H (wipe s vs) (wipeD z vs)
  | [] => r
  | v :: vs => by
    unfold L2.wipe wipeD
    exact (R.wipe r vs).setNo
theorem wipe_out {s : L2.St} {j : Nat} : ∀ {vs : List Nat}, j ∉ vs → (wipe s vs)[j]? = s[j]?
  | [], _ => rfl
  | v :: vs, h => by
    rw [List.mem_cons, not_or] at h
    unfold L2.wipe
    rw [List.getElem?_set_ne (Ne.symm h.1)]
    exact wipe_out h.2
theorem wipe_in {s : L2.St} {j : Nat} (hl : j < s.length) : ∀ {vs : List Nat}, j ∈ vs → (wipe s vs)[j]? = some none
  | [], h => by cases h
  | v :: vs, h => by
    unfold L2.wipe
    by_cases e : v = j
    · subst e
      rw [List.getElem?_set_self (by rw [wipe_length]; exact hl)]
    · rw [List.getElem?_set_ne e]
      exact wipe_in hl ((List.mem_cons.mp h).resolve_left (Ne.symm e))
theorem wipe_but {is vs : List Nat} {s s' : L2.St} (h : ButS is (wipe s vs) s') (hs : ∀ i ∈ is, i ∈ vs) : wipe s' vs = wipe s vs := by
  obtain ⟨h1, h2⟩ := h
  rw [wipe_length] at h1
  apply List.ext_getElem?
  intro j
  by_cases hj : j ∈ vs
  · by_cases hl : j < s.length
    · rw [wipe_in hl hj, wipe_in (by omega) hj]
    · rw [List.getElem?_eq_none (by rw [wipe_length]; omega), List.getElem?_eq_none (by rw [wipe_length]; omega)]
  · rw [wipe_out hj, h2 j (fun hi => hj (hs j hi))]
def noX {α : Type} : Rs α → Rs α
  | .exc _ => .stuck
  | x => x
def compD (t : Tg) (me : M) (z : List Sd) : List D → Rs (List D)
  | [] => .ok []
  | d :: ds => (setT t d z).bnd fun z1 => (noX (me z1)).bnd fun x => (compD t me z ds).bnd fun xs => .ok (x :: xs)
def mComp (t : Tg) (vs : List Nat) (mi : ML) (me : M) : ML := fun z => (mi z).bnd fun ds => if ds.length ≤ sizeLine then compD t me (wipeD z vs) ds else .stuck
theorem compD_ok {t : Tg} {me : M} {z : List Sd} {d : D} {ds full : List D} (h : compD t me z (d :: ds) = .ok full) : ∃ z1 x xs, setT t d z = .ok z1 ∧ me z1 = .ok x ∧ compD t me z ds = .ok xs ∧ full = x :: xs := by
  simp only [compD] at h
  cases h1 : setT t d z with
  | stuck => rw [h1] at h; cases h
  | exc c => rw [h1] at h; cases h
  | ok z1 =>
    rw [h1] at h
    cases h2 : me z1 with
    | stuck => rw [bnd_ok, h2] at h; cases h
    | exc c => rw [bnd_ok, h2] at h; cases h
    | ok x =>
      rw [bnd_ok, h2] at h
      cases h3 : compD t me z ds with
      | stuck => rw [h3] at h; cases h
      | exc c => rw [h3] at h; cases h
      | ok xs =>
        rw [h3] at h
        cases h
        exact ⟨z1, x, xs, rfl, h2, rfl, rfl⟩
theorem setT_noexc (t : Tg) (d : D) (z : List Sd) (c : Nat) : setT t d z ≠ .exc c := by
  intro h
  cases t with
  | nm i => cases h
  | tp is =>
    cases d <;> first | cases h | skip
    simp only [setT] at h
    split at h <;> cases h
theorem compD_noexc {t : Tg} {me : M} {z : List Sd} : ∀ (ds : List D) (c : Nat), compD t me z ds ≠ .exc c
  | [], c, h => by cases h
  | d :: ds, c, h => by
    simp only [compD] at h
    cases h1 : setT t d z with
    | stuck => rw [h1] at h; cases h
    | exc c' => exact setT_noexc t d z c' h1
    | ok z1 =>
      rw [h1, bnd_ok] at h
      cases h2 : me z1 with
      | stuck => rw [h2] at h; cases h
      | exc c => rw [h2] at h; cases h
      | ok x =>
        rw [h2] at h
        cases h3 : compD t me z ds with
        | stuck => rw [h3] at h; cases h
        | exc c' => exact compD_noexc ds c' h3
        | ok xs => rw [h3] at h; cases h
/-- the reading of a comprehension -/
theorem comp_read {t : Tg} {vs : List Nat} {me : M} (hs : ∀ i ∈ t.slots, i ∈ vs) : ∀ (s : L2.St) (H : Hp) (Q : VK), tG T E (lL T) (mComp t vs mi me) s H Q → tLc (tG T E (lN T) mi) (tTg T t) tYes (tG T E0 (lV T) me) vs s H Q := by
  rintro s H Q ⟨F, z, q, h⟩
  refine ⟨F, z, q, ?_⟩
  unfold mComp at h
  cases em : mi z with
  | stuck => rw [em] at h; exact h
  | exc c => rw [em] at h; exact h
  | ok ds =>
    rw [em] at h
    have h' : Post T E (lL T) F H Q (if ds.length ≤ sizeLine then compD t me (wipeD z vs) ds else .stuck) := h
    by_cases hz : ds.length ≤ sizeLine
    · rw [if_pos hz] at h'
      cases ec : compD t me (wipeD z vs) ds with
      | stuck => rw [ec] at h'; exact h'.elim
      | exc c => exact (compD_noexc ds c ec).elim
      | ok full =>
        rw [ec] at h'
        intro J F1 H1 u1 it Dd hD
        have qw : ∀ {F' H' : Hp}, Up F1 H1 F' H' → R T F' H' (wipe s vs) (wipeD z vs) := fun u => (q.wipe vs).up (u1.trans u)
        refine ⟨fun i m H' => m = ds.length - i ∧ i ≤ ds.length ∧ ∃ F' acc dacc rest, Up F1 H1 F' H' ∧ H' Dd = some (.lst acc) ∧ F' Dd = none ∧ RpAll T F' acc dacc ∧ dacc.length = i ∧ compD t me (wipeD z vs) (ds.drop i) = .ok rest ∧ full = dacc ++ rest,
          ⟨ds.length, by simp, Nat.zero_le _, F1, [], [], full, Up.newO u1.s hD, upd_same, u1.s.back hD, .nil, rfl, ec, rfl⟩, ?_⟩
        rintro i m H' ⟨rfl, hi, F', acc, dacc, rest, u', hacc, hf, hA, hl, hc, hfull⟩
        by_cases hlt : i < ds.length
        · have hd : ds[i]? = some ds[i] := List.getElem?_eq_getElem hlt
          have hdrop : ds.drop i = ds[i] :: ds.drop (i + 1) := List.drop_eq_getElem_cons hlt
          rw [hdrop] at hc
          obtain ⟨z1, x, xs, e1, e2, e3, e4⟩ := compD_ok hc
          refine .inr ⟨it.go i F' H' u'.f u'.s hlt, fun H'' => (∃ F' acc dacc rest, Up F1 H1 F' H'' ∧ H'' Dd = some (.lst acc) ∧ F' Dd = none ∧ RpAll T F' acc dacc ∧ dacc.length = i + 1 ∧ compD t me (wipeD z vs) (ds.drop (i + 1)) = .ok rest ∧ full = dacc ++ rest),
            fun H'' hn => ⟨ds.length - (i + 1), by omega, rfl, hlt, hn⟩, fun v H2 hy => ?_⟩
          obtain ⟨F2, u2, r2⟩ := it.yl i F' H' v H2 _ u'.f u'.s hd hy
          refine ⟨F2, wipeD z vs, ds[i], z1, qw (u'.trans u2), r2, e1, fun s' r' hb => ⟨wipe_but hb hs, ?_⟩⟩
          unfold tYes
          dsimp only
          rw [if_pos rfl]
          refine ⟨F2, z1, r', ?_⟩
          rw [e2]
          intro y F3 H3 u3 ry
          have hacc3 : H3 Dd = some (.lst acc) := u3.h _ _ (u2.h _ _ hacc)
          have hf3 : F3 Dd = none := u3.hid (u2.hid hf hacc) (u2.h _ _ hacc)
          refine ⟨acc, hacc3, by rw [hA.length, hl]; omega, F3, acc ++ [y], dacc ++ [x], xs, ((u'.trans u2).trans u3).mut hD hf3, upd_same, hf3, ((hA.mono u2.f).mono u3.f).append (.cons ry .nil), by rw [List.length_append, hl]; rfl, e3, by rw [hfull, e4, List.append_assoc]; rfl⟩
        · have ei : i = ds.length := by omega
          subst ei
          rw [List.drop_length] at hc
          cases hc
          rw [List.append_nil] at hfull
          subst hfull
          exact .inl ⟨it.st _ F' H' u'.f u'.s (Nat.le_refl _), h' _ F' H' (u1.trans u') ⟨Dd, acc, rfl, u1.h.back hD, hf, hacc, hA⟩⟩
    · rw [if_neg hz] at h'
      exact h'.elim
variable {elt iter : Expr} {scope : Scope} {own : List (Str × Nat)} {t : Tg} {me : M}
theorem dl_comp (hc : X.calm = true) (hN : X.N.Nodup) (hi : DN T X E tg iter mi) (ok : BlkOk X.N X.env.scope scope own)
    (hg : ∀ (s : Shared) (H : Hp) (C : Addr) (cl : List (Str × Addr)) (fp : List Addr), DG T (X.blk s H scope (compEnvC scope cl C X.env) fp) tg t)
    (he : ∀ (s : Shared) (H : Hp) (C : Addr) (cl : List (Str × Addr)) (fp : List Addr), DE T (X.blk s H scope (compEnvC scope cl C X.env) fp) E0 elt me)
    (hsl : ∀ i ∈ t.slots, i ∈ own.map (·.2)) (hs : ∀ x, foldedSetIterable iter X.env x = pure x := by intro _; rfl) :
    DL T X E (.ListComp elt [⟨tg, iter, [], 0⟩] scope pos) (mComp t (own.map (·.2)) mi me) :=
  pe_imp (pe_lc hc hN hi ok hg (fun _ _ _ _ _ => pts_nil) he hs) (comp_read hsl)
end
end CL


set_option Elab.async false
set_option linter.all false
set_option maxRecDepth 100000
/-! The data layer, part e: statements and defs. -/
namespace CL
open PySem PySem.Spec L2

/-- how a statement ends: on, with a datum, with a new list of one's own, out of the loop, to the next turn -/
inductive Fw where
  | nx (z : List Sd) | rt (d : D) | rl (ds : List D) | bk (z : List Sd) | ct (z : List Sd)
abbrev MS := List Sd → Rs Fw
/-- the state between two statements: F0, H0 the entry -/
structure Sx (T : Tx) (F0 H0 F H : Hp) (s : L2.St) (z : List Sd) : Prop where
  up : Up F0 H0 F H
  r : R T F H s z
  own : ∀ (i : Nat) (ds : List D) (p : Addr), z[i]? = some (.ow ds) → s[i]? = some (some (.ref p)) → H0 p = none
def PostS (T : Tx) (E : XK) (F0 H0 : Hp) (N : Ends) : Rs Fw → Prop
  | .ok (.nx z) => ∀ s F H, Sx T F0 H0 F H s z → N.nx s H
  | .ok (.bk z) => ∀ s F H, Sx T F0 H0 F H s z → N.bk s H
  | .ok (.ct z) => ∀ s F H, Sx T F0 H0 F H s z → N.ct s H
  | .ok (.rt d) => ∀ v F H, Up F0 H0 F H → Rp T F v d → N.rt v H
  | .ok (.rl ds) => ∀ p xs F H, Up F0 H0 F H → H0 p = none → F p = none → H p = some (.lst xs) → RpAll T F xs ds → N.rt (.ref p) H
  | .exc c => ∀ H, Ex H0 H → E (.ref (T.exc c)) none H
  | .stuck => False
def tS (T : Tx) (E : XK) (m : MS) : TS := fun N s H => ∃ F0 H0 F z, Sx T F0 H0 F H s z ∧ PostS T E F0 H0 N (m z)
def DS (T : Tx) (X : Cx) (E : XK) (st : Stmt) (m : MS) : Prop := PS X st (tS T E m)
def DSs (T : Tx) (X : Cx) (E : XK) (st : List Stmt) (m : MS) : Prop := PSs X st (tS T E m)

open Classical in
/-- the own lists become known -/
noncomputable def known (F H : Hp) (s : L2.St) (z : List Sd) : Hp := fun a => if ∃ (i : Nat) (ds : List D), z[i]? = some (.ow ds) ∧ s[i]? = some (some (.ref a)) then H a else F a
section
variable {T : Tx} {F0 H0 F H F1 H1 : Hp} {s : L2.St} {z : List Sd} {E : XK} {N : Ends}
theorem known_ex (r : R T F H s z) : Ex F (known F H s z) := fun a o h => by
  unfold known
  split
  · rename_i hc
    obtain ⟨i, ds, h1, h2⟩ := hc
    obtain ⟨p, xs, e1, e2, e3, e4⟩ := r.ow i ds h1
    rw [h2] at e1
    cases e1
    rw [h] at e3
    cases e3
  · exact h
theorem known_le (r : R T F H s z) : Ex (known F H s z) H := fun a o h => by
  unfold known at h
  split at h
  · exact h
  · exact r.ex a o h
theorem R.all (r : R T F H s z) : R T (known F H s z) H s (CL.frz z) := by
  refine ⟨known_le r, fun i d h => ?_, fun i ds h => ?_, fun i j p ds es h => ?_, by unfold CL.frz; rw [List.length_map]; exact r.len⟩
  · unfold CL.frz at h
    rw [List.getElem?_map] at h
    cases q : z[i]? with
    | none => rw [q] at h; cases h
    | some x =>
      rw [q] at h
      cases x with
      | no => cases h
      | sh d' =>
        cases h
        obtain ⟨v, a, b⟩ := r.sh i _ q
        exact ⟨v, a, b.mono (known_ex r)⟩
      | ow ds =>
        cases h
        obtain ⟨p, xs, a, b, c, d⟩ := r.ow i _ q
        refine ⟨_, a, .lst (.inl ?_) (d.mono (known_ex r))⟩
        unfold known
        rw [if_pos ⟨i, ds, q, a⟩]
        exact b
  · unfold CL.frz at h
    rw [List.getElem?_map] at h
    cases q : z[i]? with
    | none => rw [q] at h; cases h
    | some x => rw [q] at h; cases x <;> cases h
  · unfold CL.frz at h
    rw [List.getElem?_map] at h
    cases q : z[i]? with
    | none => rw [q] at h; cases h
    | some x => rw [q] at h; cases x <;> cases h
theorem Sx.known (x : Sx T F0 H0 F H s z) : Up F0 H0 (known F H s z) H :=
  ⟨x.up.f.trans (known_ex x.r), x.up.h, known_le x.r, fun a o h1 h2 => by
    unfold CL.known at h2
    split at h2
    · rename_i hc
      obtain ⟨i, ds, e1, e2⟩ := hc
      exact x.own i ds a e1 e2
    · exact x.up.n a o h1 h2⟩
theorem Sx.step (x : Sx T F0 H0 F H s z) (u : Up F H F1 H1) : Sx T F0 H0 F1 H1 s z := ⟨x.up.trans u, x.r.up u, x.own⟩
/-- a new entry: what is known now, and the old entry -/
def uni (F H0 : Hp) : Hp := fun a => match F a with
  | some o => some o
  | none => H0 a
theorem uni_none {a : Addr} (h : uni F H0 a = none) : F a = none ∧ H0 a = none := by
  unfold uni at h
  cases q : F a with
  | none => rw [q] at h; exact ⟨rfl, h⟩
  | some o => rw [q] at h; cases h
theorem uni_left : Ex F (uni F H0) := fun a o h => by
  unfold uni
  rw [h]
theorem uni_le (e1 : Ex F H) (e2 : Ex H0 H) : Ex (uni F H0) H := fun a o h => by
  unfold uni at h
  cases q : F a with
  | none => rw [q] at h; exact e2 a o h
  | some u => rw [q] at h; cases h; exact e1 a _ q
theorem uni_right (e1 : Ex F H) (e2 : Ex H0 H) : Ex H0 (uni F H0) := fun a o h => by
  unfold uni
  cases q : F a with
  | none => exact h
  | some u =>
    have h1 := e1 a u q
    rw [e2 a o h] at h1
    cases h1
    rfl
theorem Sx.base (x : Sx T F0 H0 F H s z) : Sx T F (uni F H0) F H s z :=
  ⟨⟨Ex.refl F, uni_le x.r.ex x.up.h, x.r.ex, fun a o h1 h2 => by rw [h1] at h2; cases h2⟩, x.r, fun i ds p h1 h2 => by
    obtain ⟨p', xs, e1, e2, e3, e4⟩ := x.r.ow i ds h1
    rw [h2] at e1
    cases e1
    unfold uni
    rw [e3]
    exact x.own i ds p h1 h2⟩
theorem Up.rebase (u : Up F0 H0 F H) (u' : Up F (uni F H0) F1 H1) : Up F0 H0 F1 H1 :=
  ⟨u.f.trans u'.f, (uni_right u.s u.h).trans u'.h, u'.s, fun a o h1 h2 => by
    cases q : F a with
    | none => exact (uni_none (u'.n a o q h2)).2
    | some y => exact u.n a y h1 q⟩
theorem Sx.rebase {s1 : L2.St} {z1 : List Sd} (u : Up F0 H0 F H) (x : Sx T F (uni F H0) F1 H1 s1 z1) : Sx T F0 H0 F1 H1 s1 z1 := ⟨u.rebase x.up, x.r, fun i ds p h1 h2 => (uni_none (x.own i ds p h1 h2)).2⟩
/-- where an expression is asked for within a statement -/
theorem PostS.bnd {β α : Type} {L : Rl β α} {Q : β → Hp → Prop} {a : Rs α} {k : α → Rs Fw} (x : Sx T F0 H0 F H s z) (h : PostS T E F0 H0 N (a.bnd k))
    (step : ∀ y v F1 H1, Up F H F1 H1 → L.r H F1 H1 v y → PostS T E F0 H0 N (k y) → Q v H1) : Post T E L F H Q a := by
  cases a with
  | ok d => exact fun v F' H' u r => step d v F' H' u r h
  | exc c => exact fun H' e => h H' (x.up.h.trans e)
  | stuck => exact h
end

section
variable {T : Tx} {X : Cx} {E : XK} {tg a b c e : Expr} {es : List Expr} {pos : Pos} {ma mb mc m : M} {mes mi mj ml : ML} {ba bb : MB} {m1 m2 : MS} {st : Stmt} {sts : List Stmt}

/-! ### blocks -/
def sNil : MS := fun z => .ok (.nx z)
def sSeq (m1 m2 : MS) : MS := fun z => (m1 z).bnd fun f => match f with
  | .nx z' => m2 z'
  | f => .ok f
theorem dss_nil : DSs T X E [] sNil := pss_imp pss_nil fun N s H ⟨F0, H0, F, z, x, h⟩ => h s F H x
theorem dss_cons (h1 : DS T X E st m1) (h2 : DSs T X E sts m2) : DSs T X E (st :: sts) (sSeq m1 m2) := pss_imp (pss_cons h1 h2) fun N s H ⟨F0, H0, F, z, x, h⟩ => by
  refine ⟨F0, H0, F, z, x, ?_⟩
  unfold sSeq at h
  cases em : m1 z with
  | stuck => rw [em] at h; exact h
  | exc c => rw [em] at h; exact h
  | ok f =>
    rw [em] at h
    cases f with
    | nx z' => exact fun s' F' H' x' => ⟨F0, H0, F', z', x', h⟩
    | rt d => exact h
    | rl ds => exact h
    | bk z' => exact h
    | ct z' => exact h
theorem dss_one (h1 : DS T X E st m1) : DSs T X E [st] m1 := pss_imp (pss_one h1) fun N s H h => h
theorem ds_pass : DS T X E (.Pass pos) sNil := ps_imp ps_pass fun N s H ⟨F0, H0, F, z, x, h⟩ => h s F H x
def sCont : MS := fun z => .ok (.ct z)
def sBrk : MS := fun z => .ok (.bk z)
theorem ds_cont : DS T X E (.Continue pos) sCont := ps_imp ps_continue fun N s H ⟨F0, H0, F, z, x, h⟩ => h s F H x
theorem ds_brk : DS T X E (.Break pos) sBrk := ps_imp ps_break fun N s H ⟨F0, H0, F, z, x, h⟩ => h s F H x

/-! ### return, expressions -/
def sRet (m : M) : MS := fun z => (m (frz z)).bnd fun d => .ok (.rt d)
theorem ds_ret (h : DE T X E e m) : DS T X E (.Return (some e) pos) (sRet m) := ps_imp (ps_ret h) fun N s H ⟨F0, H0, F, z, x, h⟩ =>
  ⟨known F H s z, frz z, x.r.all, PostS.bnd (L := lV T) (x := ⟨x.known, x.r.all, fun i ds p h => by
    unfold CL.frz at h
    rw [List.getElem?_map] at h
    cases q : z[i]? with
    | none => rw [q] at h; cases h
    | some y => rw [q] at h; cases y <;> cases h⟩) h fun y v F1 H1 u1 ry h1 => h1 v F1 H1 (x.known.trans u1) ry⟩
def sRetL (ml : ML) : MS := fun z => (ml z).bnd fun ds => .ok (.rl ds)
theorem ds_retL (h : DL T X E e ml) : DS T X E (.Return (some e) pos) (sRetL ml) := ps_imp (ps_ret h) fun N s H ⟨F0, H0, F, z, x, h⟩ =>
  ⟨F, z, x.r, PostS.bnd (L := lL T) (x := x) h fun y v F1 H1 u1 ry h1 => by
    obtain ⟨p, xs, rfl, h0, hf, hp, hA⟩ := ry
    exact h1 p xs F1 H1 (x.up.trans u1) (x.up.h.back h0) hf hp hA⟩
def sRetO (i : Nat) : MS := fun z => match z[i]? with
  | some (.ow ds) => .ok (.rl ds)
  | _ => .stuck
theorem ds_retO (i : Nat) {x : Str} {p2 : Pos} (hN : X.N[i]? = some x := by rfl) (hv : Vis X.env.scope x := by first | exact Or.inl rfl | exact Or.inr (Or.inl rfl) | exact Or.inr (Or.inr rfl)) (hd : (x == ("__debug__" : Str)) = false := by decide)
    (hcd : (x == ("__classdict__" : Str)) = false := by decide) : DS T X E (.Return (some (.Name x p2)) pos) (sRetO i) := ps_imp (ps_ret (pe_var hN hv hd hcd)) fun N s H ⟨F0, H0, F, z, x, h⟩ => by
  unfold sRetO at h
  split at h
  · rename_i ds e
    obtain ⟨p, xs, h1, h2, h3, h4⟩ := x.r.ow i ds e
    exact ⟨_, h1, h p xs F H x.up (x.own i ds p e h1) h3 h2 h4⟩
  · exact h.elim
def sRetN : MS := fun _ => .ok (.rt .non)
theorem ds_retN : DS T X E (.Return none pos) sRetN := ps_imp ps_retN fun N s H ⟨F0, H0, F, z, x, h⟩ => h _ F H x.up .non
def sExpr (m : M) : MS := fun z => (m z).bnd fun _ => .ok (.nx z)
theorem ds_expr (h : DE T X E e m) (hs : swapsWith e none pos.line X.env = pure false := by rfl) : DS T X E (.Expr e pos) (sExpr m) := ps_imp (ps_expr h hs) fun N s H ⟨F0, H0, F, z, x, h⟩ =>
  ⟨F, z, x.r, PostS.bnd (L := lV T) (x := x) h fun y v F1 H1 u1 ry h1 => h1 s F1 H1 (x.step u1)⟩

/-! ### x = e -/
theorem Sx.set {F0 H0 F H : Hp} {s : L2.St} {z : List Sd} {i : Nat} {v : V} {d : D} (x : Sx T F0 H0 F H s z) (h : Rp T F v d) : Sx T F0 H0 F H (s.set i (some v)) (z.set i (.sh d)) :=
  ⟨x.up, x.r.set h, fun j ds p h1 h2 => by
    by_cases hj : i = j
    · subst hj
      have hl : i < z.length := by
        have := (List.getElem?_eq_some_iff.mp h1).1
        rwa [List.length_set] at this
      rw [List.getElem?_set_self hl] at h1
      cases h1
    · rw [List.getElem?_set_ne hj] at h1 h2
      exact x.own j ds p h1 h2⟩
theorem Sx.setO {F0 H0 F H F1 H1 : Hp} {s : L2.St} {z : List Sd} {i : Nat} {p : Addr} {xs : List V} {ds : List D} (x : Sx T F0 H0 F H s z) (u : Up F H F1 H1) (h0 : H p = none) (hf : F1 p = none) (hp : H1 p = some (.lst xs)) (hA : RpAll T F1 xs ds) :
    Sx T F0 H0 F1 H1 (s.set i (some (.ref p))) (z.set i (.ow ds)) := by
  have x1 := x.step u
  refine ⟨x1.up, x1.r.setO hp hf hA fun j es hj hz hs => ?_, fun j es q h1 h2 => ?_⟩
  · obtain ⟨q, ys, e1, e2, _⟩ := x.r.ow j es hz
    rw [hs] at e1
    cases e1
    rw [h0] at e2
    cases e2
  · by_cases hj : i = j
    · subst hj
      have hl : i < s.length := by
        have := (List.getElem?_eq_some_iff.mp h2).1
        rwa [List.length_set] at this
      rw [List.getElem?_set_self hl] at h2
      cases h2
      exact x.up.h.back h0
    · rw [List.getElem?_set_ne hj] at h1 h2
      exact x.own j es q h1 h2
def sSet (i : Nat) (m : M) : MS := fun z => (m z).bnd fun d => .ok (.nx (z.set i (.sh d)))
theorem ds_set (i : Nat) {x : Str} {p2 : Pos} (hN : X.N.Nodup) (he : DE T X E e m) (hi : X.N[i]? = some x := by rfl) (hx : Loc X.env.scope x := by first | exact Or.inl rfl | exact Or.inr rfl) (hs : swapsWith e (some (.Name x p2)) pos.line X.env = pure false := by rfl)
    (hf : X.fn x = true ∨ X.env.scope.names.lookup x = some .local := by first | exact .inl rfl | exact .inr rfl | assumption) : DS T X E (.Assign [.Name x p2] e pos) (sSet i m) := ps_imp (ps_set hN hi hx he hs hf) fun N s H ⟨F0, H0, F, z, x, h⟩ =>
  ⟨F, z, x.r, PostS.bnd (L := lV T) (x := x) h fun y v F1 H1 u1 ry h1 => h1 _ F1 H1 ((x.step u1).set ry)⟩
def sSetO (i : Nat) (ml : ML) : MS := fun z => (ml z).bnd fun ds => .ok (.nx (z.set i (.ow ds)))
theorem ds_setO (i : Nat) {x : Str} {p2 : Pos} (hN : X.N.Nodup) (he : DL T X E e ml) (hi : X.N[i]? = some x := by rfl) (hx : Loc X.env.scope x := by first | exact Or.inl rfl | exact Or.inr rfl) (hs : swapsWith e (some (.Name x p2)) pos.line X.env = pure false := by rfl)
    (hf : X.fn x = true ∨ X.env.scope.names.lookup x = some .local := by first | exact .inl rfl | exact .inr rfl | assumption) : DS T X E (.Assign [.Name x p2] e pos) (sSetO i ml) := ps_imp (ps_set hN hi hx he hs hf) fun N s H ⟨F0, H0, F, z, x, h⟩ =>
  ⟨F, z, x.r, PostS.bnd (L := lL T) (x := x) h fun y v F1 H1 u1 ry h1 => by
    obtain ⟨p, xs, rfl, h0, hf, hp, hA⟩ := ry
    exact h1 _ F1 H1 (x.setO u1 h0 hf hp hA)⟩
variable {elt iter : Expr} {scope : Scope} {own : List (Str × Nat)} {t : Tg} {me : M}
/-- x = [..] on one line, x a local -/
theorem ds_setLcO (i : Nat) {y : Str} {py spos : Pos} (hc : X.calm = true) (hN : X.N.Nodup) (hi : DN T X E tg iter mi) (ok : BlkOk X.N X.env.scope scope own)
    (hg : ∀ (s : Shared) (H : Hp) (C : Addr) (cl : List (Str × Addr)) (fp : List Addr), DG T (X.blk s H scope (compEnvC scope cl C X.env) fp) tg t)
    (he : ∀ (s : Shared) (H : Hp) (C : Addr) (cl : List (Str × Addr)) (fp : List Addr), DE T (X.blk s H scope (compEnvC scope cl C X.env) fp) E0 elt me)
    (hsl : ∀ i ∈ t.slots, i ∈ own.map (·.2)) (hy : X.N[i]? = some y := by rfl) (hyl : X.env.scope.names.lookup y = some .local := by rfl)
    (hsw : swapsWith (.ListComp elt [⟨tg, iter, [], 0⟩] scope pos) (some (.Name y py)) spos.line X.env = pure true := by exact sw_true rfl rfl rfl (by decide +kernel)) (hs : ∀ x, foldedSetIterable iter X.env x = pure x := by intro _; rfl) :
    DS T X E (.Assign [.Name y py] (.ListComp elt [⟨tg, iter, [], 0⟩] scope pos) spos) (sSetO i (mComp t (own.map (·.2)) mi me)) :=
  ps_imp (ps_setLc hc hN hy hyl hsw hi ok hg (fun _ _ _ _ _ => pts_nil) he hs) fun N s H ⟨F0, H0, F, z, x, h⟩ => comp_read hsl s H _ ⟨F, z, x.r, PostS.bnd (L := lL T) (x := x) h fun y v F1 H1 u1 ry h1 => by
    obtain ⟨p, xs, rfl, h0, hf, hp, hA⟩ := ry
    exact h1 _ F1 H1 (x.setO u1 h0 hf hp hA)⟩
theorem ds_setLc (i : Nat) {y : Str} {py spos : Pos} (hc : X.calm = true) (hN : X.N.Nodup) (hi : DN T X E tg iter mi) (ok : BlkOk X.N X.env.scope scope own)
    (hg : ∀ (s : Shared) (H : Hp) (C : Addr) (cl : List (Str × Addr)) (fp : List Addr), DG T (X.blk s H scope (compEnvC scope cl C X.env) fp) tg t)
    (he : ∀ (s : Shared) (H : Hp) (C : Addr) (cl : List (Str × Addr)) (fp : List Addr), DE T (X.blk s H scope (compEnvC scope cl C X.env) fp) E0 elt me)
    (hsl : ∀ i ∈ t.slots, i ∈ own.map (·.2)) (hy : X.N[i]? = some y := by rfl) (hyl : X.env.scope.names.lookup y = some .local := by rfl)
    (hsw : swapsWith (.ListComp elt [⟨tg, iter, [], 0⟩] scope pos) (some (.Name y py)) spos.line X.env = pure true := by exact sw_true rfl rfl rfl (by decide +kernel)) (hs : ∀ x, foldedSetIterable iter X.env x = pure x := by intro _; rfl) :
    DS T X E (.Assign [.Name y py] (.ListComp elt [⟨tg, iter, [], 0⟩] scope pos) spos) (sSet i (mL (mComp t (own.map (·.2)) mi me))) :=
  ps_imp (ps_setLc hc hN hy hyl hsw hi ok hg (fun _ _ _ _ _ => pts_nil) he hs) fun N s H ⟨F0, H0, F, z, x, h⟩ => comp_read hsl s H _ ⟨F, z, x.r, by
    have h' : PostS T E F0 H0 N (((mComp t (own.map (·.2)) mi me z).bnd fun xs => .ok (.lst xs)).bnd fun d => .ok (.nx (z.set i (.sh d)))) := h
    cases em : mComp t (own.map (·.2)) mi me z with
    | stuck => rw [em] at h'; exact h'
    | exc c => rw [em] at h'; exact fun H' e => h' H' (x.up.h.trans e)
    | ok ds =>
      rw [em] at h'
      rintro v F1 H1 u1 ⟨p, xs, rfl, h0, hf, hp, hA⟩
      have u2 := u1.know hp h0 hf
      exact h' _ _ H1 ((x.step u2).set (.lst (.inl upd_same) (hA.mono (Ex.new hf))))⟩

/-! ### if -/
def sIf (t : MB) (m1 m2 : MS) : MS := fun z => (t z).bnd fun b => if b then m1 z else m2 z
theorem ds_if {bs cs : List Stmt} (ht : DT T X E c ba) (h1 : DSs T X E bs m1) (h2 : DSs T X E cs m2) : DS T X E (.If c bs cs pos) (sIf ba m1 m2) := ps_imp (ps_if ht h1 h2) fun N s H ⟨F0, H0, F, z, x, h⟩ =>
  ⟨F, z, x.r, PostS.bnd (L := lB) (x := x) h fun y v F1 H1 u1 ry h1 => by
    cases ry
    cases y with
    | true => exact iteT ⟨F0, H0, F1, z, x.step u1, h1⟩
    | false => exact iteF ⟨F0, H0, F1, z, x.step u1, h1⟩⟩

/-! ### a, b = e -/
theorem Sx.tgt {F0 H0 F H : Hp} {s s' : L2.St} {z z' : List Sd} {t : Tg} {d : D} (x : Sx T F0 H0 F H s z) (e : setT t d z = .ok z') (r : R T F H s' z') (hb : ButS t.slots s s') : Sx T F0 H0 F H s' z' := by
  refine ⟨x.up, r, fun j ds p h1 h2 => ?_⟩
  have key : ∀ {is : List Nat} {ds : List D} {z : List Sd} {j : Nat} {es : List D}, (setAll is ds z)[j]? = some (.ow es) → (ds.length = is.length → j ∉ is) ∧ z[j]? = some (.ow es) := by
    intro is
    induction is with
    | nil => intro ds z j es h; unfold setAll at h; exact ⟨fun _ => by simp, h⟩
    | cons i is ih =>
      intro ds z j es h
      cases ds with
      | nil => unfold setAll at h; exact ⟨fun q => (nomatch q), h⟩
      | cons d ds =>
        unfold setAll at h
        obtain ⟨a, b⟩ := ih h
        have hij : i ≠ j := by
          rintro rfl
          have hl : i < z.length := by
            have := (List.getElem?_eq_some_iff.mp b).1
            rwa [List.length_set] at this
          rw [List.getElem?_set_self hl] at b
          cases b
        rw [List.getElem?_set_ne hij] at b
        refine ⟨fun q => ?_, b⟩
        rw [List.mem_cons, not_or]
        exact ⟨Ne.symm hij, a (by simpa using q)⟩
  have fin : j ∉ t.slots ∧ z[j]? = some (.ow ds) := by
    cases t with
    | nm i =>
      cases e
      have := key (is := [i]) (ds := [d]) (z := z) (j := j) (es := ds) (by unfold setAll; unfold setAll; exact h1)
      exact ⟨this.1 rfl, this.2⟩
    | tp is =>
      cases d <;> first | cases e | skip
      simp only [setT] at e
      split at e
      · rename_i hl
        cases e
        have := key h1
        exact ⟨this.1 hl, this.2⟩
      · cases e
  rw [hb.2 j fin.1] at h2
  exact x.own j ds p fin.2 h2
def sAsg (t : Tg) (m : M) : MS := fun z => (m z).bnd fun d => (setT t d z).bnd fun z' => .ok (.nx z')
theorem ds_asg (he : DE T X E e m) (hg : DG T X tg t) (hs : swapsWithSole [tg] e pos.line X.env = pure false := by rfl) (hw : swappedStores [tg] e X.env = pure none := by rfl) (h1 : (assignEach [tg] X.env).map (·.2) = [assign tg X.env] := by rfl) :
    DS T X E (.Assign [tg] e pos) (sAsg t m) := ps_imp (ps_asg he hg hs hw h1) fun N s H ⟨F0, H0, F, z, x, h⟩ =>
  ⟨F, z, x.r, PostS.bnd (L := lV T) (x := x) h fun y v F1 H1 u1 ry h1 => by
    cases e : setT t y z with
    | stuck => rw [e] at h1; exact h1.elim
    | exc c => exact (setT_noexc _ _ _ _ e).elim
    | ok z' =>
      rw [e] at h1
      exact ⟨F1, z, y, z', x.r.up u1, ry, e, fun s' r' hb => h1 s' F1 H1 ((x.step u1).tgt e r' hb)⟩⟩
/-- a, b = x, y of local names -/
def sPar (i j : Nat) (ms : ML) : MS := fun z => (ms z).bnd fun ds => match ds with
  | [d, d2] => .ok (.nx ((z.set i (.sh d)).set j (.sh d2)))
  | _ => .stuck
theorem ds_par (i j : Nat) {x y : Str} {px py pt pt2 : Pos} {kt k2 : Nat} (hc : X.calm = true) (hN : X.N.Nodup) (ha : DA T X E [a, b] mes) (hi : X.N[i]? = some x := by rfl) (hj : X.N[j]? = some y := by rfl) (hij : i ≠ j := by decide)
    (hx : X.env.scope.names.lookup x = some .local := by rfl) (hy : X.env.scope.names.lookup y = some .local := by rfl)
    (hw : swappedStores [.Tuple [.Name x px, .Name y py] kt pt] (.Tuple [a, b] k2 pt2) X.env = pure (some [x, y]) := by rfl) (hs : swapsWithSole [.Tuple [.Name x px, .Name y py] kt pt] (.Tuple [a, b] k2 pt2) pos.line X.env = pure false := by rfl) :
    DS T X E (.Assign [.Tuple [.Name x px, .Name y py] kt pt] (.Tuple [a, b] k2 pt2) pos) (sPar i j mes) := ps_imp (ps_par hc hN hi hj hij hx hy ha hw hs) fun N s H ⟨F0, H0, F, z, x, h⟩ =>
  ⟨F, z, x.r, PostS.bnd (L := lA T) (x := x) h fun ds vs F1 H1 u1 ry h1 => by
    cases ry with
    | nil => exact h1.elim
    | cons r1 t1 =>
      cases t1 with
      | nil => exact h1.elim
      | cons r2 t2 =>
        cases t2 with
        | cons _ _ => exact h1.elim
        | nil => exact ⟨_, _, rfl, h1 _ F1 H1 (((x.step u1).set r1).set r2)⟩⟩
def sPar3 (i j l : Nat) (ms : ML) : MS := fun z => (ms z).bnd fun ds => match ds with
  | [d, d2, d3] => .ok (.nx (((z.set i (.sh d)).set j (.sh d2)).set l (.sh d3)))
  | _ => .stuck
/-- x += e of ints -/
def sAug (i : Nat) (f : D → D → Option D) (m : M) : MS := fun z => (mVar i z).bnd fun x => (m z).bnd fun y => (ofO (f x y)).bnd fun d => .ok (.nx (z.set i (.sh d)))
theorem ds_inc (i : Nat) {x : Str} {p2 : Pos} (hN : X.N.Nodup) (he : DE T X E e m) (hi : X.N[i]? = some x := by rfl) (hx : Loc X.env.scope x := by first | exact Or.inl rfl | exact Or.inr rfl) (hf : X.fn x = true ∨ X.env.scope.names.lookup x = some .local := by first | exact .inl rfl | exact .inr rfl | assumption) :
    DS T X E (.AugAssign (.Name x p2) .Add e pos) (sAug i (intD fun i j => .int (i + j)) m) := ps_imp (ps_aug hN hi hx he ip_add hf) fun N s H ⟨F0, H0, F, z, x, h⟩ => by
  unfold sAug mVar at h
  split at h
  · rename_i d e1
    obtain ⟨v, h1, h2⟩ := x.r.sh i d e1
    rw [bnd_ok] at h
    refine ⟨v, h1, F, z, x.r, PostS.bnd (L := lV T) (x := x) h fun y w F1 H1 u1 ry hy => ?_⟩
    cases q : intD (fun i j => D.int (i + j)) d y with
    | none => rw [q] at hy; exact hy.elim
    | some d2 =>
      rw [q] at hy
      obtain ⟨i1, j1, rfl, rfl, rfl⟩ := intD_some q
      cases h2
      cases ry
      exact ⟨i1, j1, rfl, rfl, hy _ F1 H1 ((x.step u1).set (.int _))⟩
  · exact h.elim

/-! ### lists of one's own, changed -/
theorem Sx.chg {F0 H0 F H : Hp} {s : L2.St} {z : List Sd} {i : Nat} {p : Addr} {ys : List V} {ds es : List D} (x : Sx T F0 H0 F H s z) (hz : z[i]? = some (.ow ds)) (hs : s[i]? = some (some (.ref p))) (h : RpAll T F ys es) :
    Sx T F0 H0 F (upd H p (.lst ys)) s (z.set i (.ow es)) := by
  obtain ⟨p', xs', e1, hp, hf, _⟩ := x.r.ow i ds hz
  rw [hs] at e1
  cases e1
  refine ⟨x.up.mut (x.own i ds p hz hs) hf, x.r.chg (xs := xs') hz hs h, fun j fs q h1 h2 => ?_⟩
  by_cases hj : i = j
  · subst hj
    exact x.own i ds q hz h2
  · rw [List.getElem?_set_ne hj] at h1
    exact x.own j fs q h1 h2
def sApp (i : Nat) (m : M) : MS := fun z => match z[i]? with
  | some (.ow ds) => (m z).bnd fun d => if ds.length < sizeLine then .ok (.nx (z.set i (.ow (ds ++ [d])))) else .stuck
  | _ => .stuck
variable {apos : Pos}
theorem ds_app (i : Nat) {x : Str} {p2 : Pos} (he : DE T X E e m) (hN : X.N[i]? = some x := by rfl) (hv : Vis X.env.scope x := by first | exact Or.inl rfl | exact Or.inr (Or.inl rfl) | exact Or.inr (Or.inr rfl)) (hd : (x == ("__debug__" : Str)) = false := by decide)
    (hcd : (x == ("__classdict__" : Str)) = false := by decide) {cpos : Pos} (hs1 : starEach [e] X.env = (false, eval e X.env) :: starEach [] X.env := by rfl)
    (hbase : attributeBase (.Name x p2) "append" X.env (eval (.Name x p2) X.env) = eval (.Name x p2) X.env := by rfl)
    (hfew : ((backTo cpos (starEach [e] X.env)).all (fun x => !x.1) && (backToKw cpos (keywordEach [] X.env)).all (fun x => x.1.isSome)
      && decide ([e].length + ([] : List Keyword).length + (if ([] : List Keyword).isEmpty then 0 else 1) < 30)) = true := by rfl) (hline : (apos.endLine == cpos.line) = true := by rfl) :
    DS T X E (.Expr (.Call (.Attribute (.Name x p2) "append" apos) [e] [] cpos) pos) (sApp i m) :=
  ps_imp (ps_expr (pe_bm PySem.F.plainAttrs_list PySem.F.slot_list_append PySem.F.type_list_append mt_append (pe_var hN hv hd hcd) (pa_cons he pa_nil hs1) hbase hfew hline hs1 rfl) rfl) fun N s H ⟨F0, H0, F, z, x, h⟩ => by
  unfold sApp at h
  split at h
  · rename_i ds e1
    obtain ⟨p, xs, h1, h2, h3, h4⟩ := x.r.ow i ds e1
    refine ⟨_, h1, .inl ⟨rfl, xs, .inl (.inl h2)⟩, F, z, x.r, PostS.bnd (L := lV T) (x := x) h fun y w F1 H1 u1 ry hy => ?_⟩
    by_cases hl : ds.length < sizeLine
    · rw [if_pos hl] at hy
      exact ⟨p, xs, w, rfl, rfl, u1.h _ _ h2, by rw [h4.length]; exact hl, hy _ F1 _ ((x.step u1).chg e1 h1 ((h4.mono u1.f).append (.cons ry .nil)))⟩
    · rw [if_neg hl] at hy
      exact hy.elim
  · exact h.elim
theorem mt_extendR : MtR X "list.extend" (fun x vs H Q => ∃ l b xs zs, x = .ref l ∧ vs = [.ref b] ∧ H l = some (.lst xs) ∧ Rd H b (.lst zs) ∧ xs.length + zs.length ≤ sizeLine ∧ Q .non (upd H l (.lst (xs ++ zs)))) := by
  intro pins s σ H x vs v us Q I rx rv h
  obtain ⟨l, b, xs, zs, rfl, rfl, hH, hB, hz, q⟩ := h
  cases rx
  obtain ⟨u, rfl, ru⟩ := rv.one
  cases ru
  obtain ⟨z, its, n, r, hl, e⟩ := I.lstM hH
  obtain ⟨z2, its2, n2, r2, e2⟩ := hB.ok I.hok
  have hl2 := r2.length
  have hsz : its.toArray.size + its2.toArray.size ≤ sizeLine := by rw [List.size_toArray, List.size_toArray]; omega
  have hlong : ¬ (!its.toArray.isEmpty && Builtin.List.listTooLong (its.toArray.size + its2.toArray.size)) = true := by
    rw [notLongL hsz, Bool.and_false]
    exact Bool.false_ne_true
  refine call_meets F.slot_list_extend ⟨_, e, rfl⟩ F.entry_list_extend (F.args_list_extend_2 _ _)
    (AutoSeq1.list_extend_list_list_0 l its.toArray n b its2.toArray n2 hlong (by rw [List.size_toArray]; omega) (by omega)) ⟨e, e2, ?_⟩
  refine ⟨.non, _, I.lset (its' := its ++ its2) hH e (by simp) (r.append r2) ?_, rfl, q⟩
  rw [List.length_append]
  omega
def sExt (i : Nat) (mi : ML) : MS := fun z => match z[i]? with
  | some (.ow ds) => (mi z).bnd fun es => if ds.length + es.length ≤ sizeLine then .ok (.nx (z.set i (.ow (ds ++ es)))) else .stuck
  | _ => .stuck
theorem ds_ext (i : Nat) {x : Str} {p2 : Pos} (he : DI T X E e mi) (hN : X.N[i]? = some x := by rfl) (hv : Vis X.env.scope x := by first | exact Or.inl rfl | exact Or.inr (Or.inl rfl) | exact Or.inr (Or.inr rfl)) (hd : (x == ("__debug__" : Str)) = false := by decide)
    (hcd : (x == ("__classdict__" : Str)) = false := by decide) {cpos : Pos} (hs1 : starEach [e] X.env = (false, eval e X.env) :: starEach [] X.env := by rfl)
    (hbase : attributeBase (.Name x p2) "extend" X.env (eval (.Name x p2) X.env) = eval (.Name x p2) X.env := by rfl)
    (hfew : ((backTo cpos (starEach [e] X.env)).all (fun x => !x.1) && (backToKw cpos (keywordEach [] X.env)).all (fun x => x.1.isSome)
      && decide ([e].length + ([] : List Keyword).length + (if ([] : List Keyword).isEmpty then 0 else 1) < 30)) = true := by rfl) (hline : (apos.endLine == cpos.line) = true := by rfl) :
    DS T X E (.Expr (.Call (.Attribute (.Name x p2) "extend" apos) [e] [] cpos) pos) (sExt i mi) :=
  ps_imp (ps_expr (pe_bm PySem.F.plainAttrs_list PySem.F.slot_list_extend PySem.F.type_list_extend mt_extendR (pe_var hN hv hd hcd) (pa_cons he pa_nil hs1) hbase hfew hline hs1 rfl) rfl) fun N s H ⟨F0, H0, F, z, x, h⟩ => by
  unfold sExt at h
  split at h
  · rename_i ds e1
    obtain ⟨p, xs, h1, h2, h3, h4⟩ := x.r.ow i ds e1
    refine ⟨_, h1, .inl ⟨rfl, xs, .inl (.inl h2)⟩, F, z, x.r, PostS.bnd (L := lI T) (x := x) h fun y w F1 H1 u1 ry hy => ?_⟩
    obtain ⟨b, zs, rfl, hr, hA⟩ := ry
    by_cases hl : ds.length + y.length ≤ sizeLine
    · rw [if_pos hl] at hy
      exact ⟨p, b, xs, zs, rfl, rfl, u1.h _ _ h2, hr, by rw [h4.length, hA.length]; exact hl, hy _ F1 _ ((x.step u1).chg e1 h1 ((h4.mono u1.f).append hA))⟩
    · rw [if_neg hl] at hy
      exact hy.elim
  · exact h.elim
/-- an own list is from here on a datum -/
def sFrz (i : Nat) (m : MS) : MS := fun z => match z[i]? with
  | some (.ow ds) => m (z.set i (.sh (.lst ds)))
  | _ => .stuck
theorem ds_frz (i : Nat) (h : DS T X E st m1) : DS T X E st (sFrz i m1) := ps_imp h fun N s H ⟨F0, H0, F, z, x, h⟩ => by
  unfold sFrz at h
  split at h
  · rename_i ds e1
    obtain ⟨p, xs, h1, h2, h3, h4⟩ := x.r.ow i ds e1
    refine ⟨F0, H0, _, _, ⟨x.up.know h2 (x.own i ds p e1 h1) h3, x.r.know e1 h1 h2 h4, fun j es q g1 g2 => ?_⟩, h⟩
    by_cases hj : i = j
    · subst hj
      rw [List.getElem?_set_self (List.getElem?_eq_some_iff.mp e1).1] at g1
      cases g1
    · rw [List.getElem?_set_ne hj] at g1
      exact x.own j es q g1 g2
  · exact h.elim

/-! ### loops -/
def forD (t : Tg) (m : MS) : List D → MS
  | [] => fun z => .ok (.nx z)
  | d :: ds => fun z => (setT t d z).bnd fun z1 => (m z1).bnd fun f => match f with
    | .nx z2 => forD t m ds z2
    | .ct z2 => forD t m ds z2
    | .bk z2 => .ok (.nx z2)
    | f => .ok f
def sFor (t : Tg) (mi : ML) (m : MS) : MS := fun z => (mi z).bnd fun ds => forD t m ds z
theorem ds_for {body : List Stmt} (hp : PassesOwn (model X.prog X.w) X.A X.env X.xe) (hc : X.calm = true) (hi : DN T X E tg iter mi) (hg : DG T X tg t) (hb : DSs T X E body m1) (hs : ∀ x, foldedSetIterable iter X.env x = pure x := by intro _; rfl) :
    DS T X E (.For tg iter body [] pos) (sFor t mi m1) := ps_imp (ps_for hp hc hi hg hb hs) fun N s H ⟨F0, H0, F, z, x, h⟩ =>
  ⟨F, z, x.r, PostS.bnd (L := lN T) (x := x) h fun ds J F1 H1 u1 it h1 => by
    refine ⟨fun i m s' H' => m = ds.length - i ∧ i ≤ ds.length ∧ ∃ F' z', Ex F1 F' ∧ Sx T F0 H0 F' H' s' z' ∧ PostS T E F0 H0 N (forD t m1 (ds.drop i) z'), ⟨ds.length, by simp, Nat.zero_le _, F1, z, Ex.refl F1, x.step u1, h1⟩, ?_⟩
    rintro i m s' H' ⟨rfl, hi, F', z', e', x', h'⟩
    by_cases hlt : i < ds.length
    · have hd : ds[i]? = some ds[i] := List.getElem?_eq_getElem hlt
      rw [List.drop_eq_getElem_cons hlt] at h'
      simp only [forD] at h'
      refine .inr ⟨it.go i F' H' e' x'.r.ex hlt, fun s2 H2 => ∃ F' z', Ex F1 F' ∧ Sx T F0 H0 F' H2 s2 z' ∧ PostS T E F0 H0 N (forD t m1 (ds.drop (i + 1)) z'), fun s2 H2 hn => ⟨ds.length - (i + 1), by omega, rfl, hlt, hn⟩, fun v H2 hy => ?_⟩
      obtain ⟨F2, u2, r2⟩ := it.yl i F' H' v H2 _ e' x'.r.ex hd hy
      cases es : setT t ds[i] z' with
      | stuck => rw [es] at h'; exact h'.elim
      | exc c => exact (setT_noexc _ _ _ _ es).elim
      | ok z1 =>
        rw [es, bnd_ok] at h'
        refine ⟨F2, z', ds[i], z1, x'.r.up u2, r2, es, fun s3 r3 hb3 => ?_⟩
        have x3 := (x'.step u2).tgt es r3 hb3
        have eF := e'.trans u2.f
        refine ⟨F2, uni F2 H0, F2, z1, x3.base, ?_⟩
        cases em : m1 z1 with
        | stuck => rw [em] at h'; exact h'.elim
        | exc c => rw [em] at h'; exact fun H4 e4 => h' H4 ((uni_right x3.up.s x3.up.h).trans e4)
        | ok f =>
          rw [em] at h'
          cases f with
          | nx z2 => exact fun s4 F4 H4 x4 => ⟨F4, z2, eF.trans x4.up.f, x4.rebase x3.up, h'⟩
          | ct z2 => exact fun s4 F4 H4 x4 => ⟨F4, z2, eF.trans x4.up.f, x4.rebase x3.up, h'⟩
          | bk z2 => exact fun s4 F4 H4 x4 => h' s4 F4 H4 (x4.rebase x3.up)
          | rt d => exact fun v F4 H4 u4 r4 => h' v F4 H4 (x3.up.rebase u4) r4
          | rl ds => exact fun p xs F4 H4 u4 g0 gf gp gA => h' p xs F4 H4 (x3.up.rebase u4) (uni_none g0).2 gf gp gA
    · have ei : i = ds.length := by omega
      subst ei
      rw [List.drop_length] at h'
      exact .inl ⟨it.st _ F' H' e' x'.r.ex (Nat.le_refl _), h' s' F' H' x'⟩⟩
/-- while, at most n turns -/
def whileD (t : MB) (m : MS) : Nat → MS
  | 0 => fun _ => .stuck
  | n + 1 => fun z => (t z).bnd fun b => if b then (m z).bnd fun f => (match f with
    | .nx z2 => whileD t m n z2
    | .ct z2 => whileD t m n z2
    | .bk z2 => .ok (.nx z2)
    | f => .ok f) else .ok (.nx z)
theorem ds_while (n : Nat) {body : List Stmt} (hp : PassesOwn (model X.prog X.w) X.A X.env X.xe) (ht : DT T X E c ba) (hb : DSs T X E body m1) : DS T X E (.While c body [] pos) (whileD ba m1 n) := ps_imp (ps_while hp ht hb) fun N s H ⟨F0, H0, F, z, x, h⟩ => by
  refine ⟨fun m s' H' => ∃ F' z', Sx T F0 H0 F' H' s' z' ∧ PostS T E F0 H0 N (whileD ba m1 m z'), ⟨n, F, z, x, h⟩, ?_⟩
  rintro m s' H' ⟨F', z', x', h'⟩
  cases m with
  | zero => exact h'.elim
  | succ m =>
    simp only [whileD] at h'
    refine ⟨F', z', x'.r, PostS.bnd (L := lB) (x := x') h' fun y v F1 H1 u1 ry h1 => ?_⟩
    cases ry
    cases y with
    | false =>
      rw [if_neg Bool.false_ne_true] at h1 ⊢
      exact h1 s' F1 H1 (x'.step u1)
    | true =>
      rw [if_pos rfl] at h1 ⊢
      refine ⟨fun s2 H2 => ∃ F' z', Sx T F0 H0 F' H2 s2 z' ∧ PostS T E F0 H0 N (whileD ba m1 m z'), fun s2 H2 hn => ⟨m, Nat.lt_succ_self m, hn⟩, F0, H0, F1, z', x'.step u1, ?_⟩
      cases em : m1 z' with
      | stuck => rw [em] at h1; exact h1.elim
      | exc c => rw [em] at h1; exact h1
      | ok f =>
        rw [em] at h1
        cases f with
        | nx z2 => exact fun s4 F4 H4 x4 => ⟨F4, z2, x4, h1⟩
        | ct z2 => exact fun s4 F4 H4 x4 => ⟨F4, z2, x4, h1⟩
        | bk z2 => exact fun s4 F4 H4 x4 => h1 s4 F4 H4 x4
        | rt d => exact h1
        | rl ds => exact h1

/-! ### defs -/
def st0 (n : Nat) (ds : List D) : List Sd := ds.map Sd.sh ++ List.replicate (n - ds.length) .no
def retD : Fw → Rs D
  | .rt d => .ok d
  | .nx _ => .ok .non
  | .rl ds => .ok (.lst ds)
  | _ => .stuck
def retL : Fw → Rs (List D)
  | .rl ds => .ok ds
  | _ => .stuck
def runF (n : Nat) (m : MS) (ds : List D) : Rs D := (noX (m (st0 n ds))).bnd retD
def runL (n : Nat) (m : MS) (ds : List D) : Rs (List D) := (noX (m (st0 n ds))).bnd retL
def runX (n : Nat) (m : MS) (ds : List D) : Rs D := (m (st0 n ds)).bnd retD
def runXL (n : Nat) (m : MS) (ds : List D) : Rs (List D) := (m (st0 n ds)).bnd retL
end
theorem r_start {T : Tx} {F H : Hp} {vs : List V} {ds : List D} {N : List Str} (e : Ex F H) (h : RpAll T F vs ds) : Sx T F H F H (L2.start N vs) (st0 N.length ds) := by
  have hl := h.length
  have key : ∀ {i : Nat} {x : Sd}, (st0 N.length ds)[i]? = some x → x = .no ∨ ∃ d, x = .sh d ∧ ds[i]? = some d := fun {i x} q => by
    unfold st0 at q
    by_cases hi : i < ds.length
    · rw [List.getElem?_append_left (by simpa using hi), List.getElem?_map, List.getElem?_eq_getElem hi] at q
      cases q
      exact .inr ⟨_, rfl, List.getElem?_eq_getElem hi⟩
    · rw [List.getElem?_append_right (by simpa using hi), List.getElem?_replicate] at q
      split at q
      · cases q; exact .inl rfl
      · cases q
  refine ⟨Up.refl e, ⟨e, fun i d q => ?_, fun i d q => ?_, fun i j p d d2 q => ?_, ?_⟩, fun i d p q => ?_⟩
  · rcases key q with q | ⟨d', q, hd⟩
    · cases q
    · cases q
      obtain ⟨v, h1, h2⟩ := h.get hd
      refine ⟨v, ?_, h2⟩
      unfold L2.start
      rw [List.getElem?_append_left (by rw [List.length_map]; exact (List.getElem?_eq_some_iff.mp h1).1), List.getElem?_map, h1]
      rfl
  · rcases key q with q | ⟨d', q, hd⟩ <;> cases q
  · rcases key q with q | ⟨d', q, hd⟩ <;> cases q
  · unfold st0 L2.start
    rw [List.length_append, List.length_append, List.length_map, List.length_map, List.length_replicate, List.length_replicate, hl]
  · rcases key q with q | ⟨d', q, hd⟩ <;> cases q
section
variable {P : Program} {w : World} {K : PySem.W.Frag} {mg : Str → Option Value} {base : Heap} {T : Tx}
theorem post_ret {E : XK} {F H : Hp} {Q : VK} {r : Rs Fw} (h : Post T E (lV T) F H Q (r.bnd retD)) : PostS T E F H { nx := fun _ H' => Q .non H', rt := Q } r := by
  cases r with
  | stuck => exact h
  | exc c => exact h
  | ok f =>
    cases f with
    | nx z => exact fun s F' H' x => h _ F' H' x.up .non
    | rt d => exact fun v F' H' u r => h v F' H' u r
    | rl ds => exact fun p xs F' H' u h0 hf hp hA => h _ (upd F' p (.lst xs)) H' (u.know hp h0 hf) (.lst (.inl upd_same) (hA.mono (Ex.new hf)))
    | bk z => exact h.elim
    | ct z => exact h.elim
theorem post_retL {E : XK} {F H : Hp} {Q : VK} {r : Rs Fw} (h : Post T E (lL T) F H Q (r.bnd retL)) : PostS T E F H { nx := fun _ H' => Q .non H', rt := Q } r := by
  cases r with
  | stuck => exact h
  | exc c => exact h
  | ok f =>
    cases f with
    | nx z => exact h.elim
    | rt d => exact h.elim
    | rl ds => exact fun p xs F' H' u h0 hf hp hA => h _ F' H' u ⟨p, xs, rfl, h0, hf, hp, hA⟩
    | bk z => exact h.elim
    | ct z => exact h.elim
theorem post_noX {E : XK} {F0 H0 : Hp} {N : Ends} {r : Rs Fw} (h : PostS T E F0 H0 N (noX r)) : PostS T E0 F0 H0 N r := by
  cases r with
  | stuck => exact h
  | exc c => exact h.elim
  | ok f => cases f <;> exact h
variable {x qual : Str} {st : Stmt} {f : Addr} {fd : FuncData} {N ps : List Str} {k : Nat} {m : MS}
/-- a def that raises nothing, by its body -/
theorem fn_D (F : Fun K x qual st f fd) (S : FnScope N ps (defScope st))
    (hb : ∀ (cdv : Value) (A : Around) (outer : List Env) (s : Shared) (H : Hp) (E : XK), Room k (A.deeper (PyProof.Rows.envOfC qual (defScope st) s.heap.objs.size f cdv)) → DSs T (cxOf CX0 P w K mg base N qual (defScope st) f cdv A outer s H E).nox E0 (defBody st) m) :
    FnOk P w K mg base CX0 (k + 1) f fd ps (spD T ps.length (runF N.length m)) := by
  refine F.ok S (fun vs H Q E h => ?_) (fun cdv A outer s H vs Q E hr h => ?_)
  · obtain ⟨F, ds, _, hA, hl, _⟩ := h
    rw [hA.length, hl]
  · obtain ⟨F, ds, e, hA, hl, h⟩ := h
    exact ⟨_, hb cdv A outer s H E hr, F, H, F, _, r_start e hA, post_noX (post_ret h)⟩
theorem fn_L (F : Fun K x qual st f fd) (S : FnScope N ps (defScope st))
    (hb : ∀ (cdv : Value) (A : Around) (outer : List Env) (s : Shared) (H : Hp) (E : XK), Room k (A.deeper (PyProof.Rows.envOfC qual (defScope st) s.heap.objs.size f cdv)) → DSs T (cxOf CX0 P w K mg base N qual (defScope st) f cdv A outer s H E).nox E0 (defBody st) m) :
    FnOk P w K mg base CX0 (k + 1) f fd ps (spL T ps.length (runL N.length m)) := by
  refine F.ok S (fun vs H Q E h => ?_) (fun cdv A outer s H vs Q E hr h => ?_)
  · obtain ⟨F, ds, _, hA, hl, _⟩ := h
    rw [hA.length, hl]
  · obtain ⟨F, ds, e, hA, hl, h⟩ := h
    exact ⟨_, hb cdv A outer s H E hr, F, H, F, _, r_start e hA, post_noX (post_retL h)⟩
/-- a def that may raise -/
theorem fn_X (F : Fun K x qual st f fd) (S : FnScope N ps (defScope st))
    (hb : ∀ (cdv : Value) (A : Around) (outer : List Env) (s : Shared) (H : Hp) (E : XK), Room k (A.deeper (PyProof.Rows.envOfC qual (defScope st) s.heap.objs.size f cdv)) → DSs T (cxOf (L2.CX P w) P w K mg base N qual (defScope st) f cdv A outer s H E) E (defBody st) m) :
    FnOk P w K mg base (L2.CX P w) (k + 1) f fd ps (spD T ps.length (runX N.length m)) := by
  refine F.okX S (fun vs H Q E h => ?_) (fun cdv A outer s H vs Q E hr h => ?_)
  · obtain ⟨F, ds, _, hA, hl, _⟩ := h
    rw [hA.length, hl]
  · obtain ⟨F, ds, e, hA, hl, h⟩ := h
    exact ⟨_, hb cdv A outer s H E hr, F, H, F, _, r_start e hA, post_ret h⟩
theorem fn_XL (F : Fun K x qual st f fd) (S : FnScope N ps (defScope st))
    (hb : ∀ (cdv : Value) (A : Around) (outer : List Env) (s : Shared) (H : Hp) (E : XK), Room k (A.deeper (PyProof.Rows.envOfC qual (defScope st) s.heap.objs.size f cdv)) → DSs T (cxOf (L2.CX P w) P w K mg base N qual (defScope st) f cdv A outer s H E) E (defBody st) m) :
    FnOk P w K mg base (L2.CX P w) (k + 1) f fd ps (spL T ps.length (runXL N.length m)) := by
  refine F.okX S (fun vs H Q E h => ?_) (fun cdv A outer s H vs Q E hr h => ?_)
  · obtain ⟨F, ds, _, hA, hl, _⟩ := h
    rw [hA.length, hl]
  · obtain ⟨F, ds, e, hA, hl, h⟩ := h
    exact ⟨_, hb cdv A outer s H E hr, F, H, F, _, r_start e hA, post_retL h⟩
end
end CL


set_option Elab.async false
set_option linter.all false
set_option maxRecDepth 100000
/-! The data layer, part f: the built-ins' names, raise. -/
namespace CL
open PySem PySem.Spec L2
/-- no name of a built-in is taken -/
structure Blt (mg : Str → Option Value) : Prop where
  len : mg "len" = none
  isinstance : mg "isinstance" = none
  int : mg "int" = none
  bool : mg "bool" = none
  list : mg "list" = none
  tuple : mg "tuple" = none
  str : mg "str" = none
  all : mg "all" = none
  any : mg "any" = none
  range : mg "range" = none
  sum : mg "sum" = none
  abs : mg "abs" = none
  max : mg "max" = none
  min : mg "min" = none
  zip : mg "zip" = none
  enumerate : mg "enumerate" = none
/-- an own exception class over ValueError -/
structure ExF (K : PySem.W.Frag) (mg : Str → Option Value) (x : Str) (C : Addr) : Prop where
  xP : PySem.W.excIn K C [.type "ValueError", .type "Exception", .type "BaseException", .type "object"] "ValueError.__new__" = true
  gP : mg x = some (.ref C)
  kP : PySem.W.keepIn K (.ref C) = true
  bP : PySem.W.subIn K (.ref C) (.type "BaseException") = some true
  tP : PySem.W.typeIn K (.ref C) = some (.type "type")
section
variable {T : Tx} {X : Cx} {E : XK}
def sRaise (c : Nat) : MS := fun _ => .exc c
theorem ds_raise (c : Nat) {x m : Str} {j : Nat} {p p2 pos pos2 : Pos} (hc : X.calm = true) (tk : Takes X (fun cls d _ H => E cls d H)) (e : ExF X.K X.mg x (T.exc c)) (hg : Gl X x := by rfl) (hdb : (x == ("__debug__" : Str)) = false := by decide) :
    DS T X E (.Raise (some (.Call (.Name x p) [.Constant (.str m) j p2] [] pos)) none pos2) (sRaise c) :=
  ps_imp (ps_raise hc tk (pmk_own PySem.F.excBase_ValueError e.xP e.gP e.kP (raises_own e.bP e.tP) hg hdb)) fun N s H ⟨F0, H0, F, z, x, h⟩ => h H x.up.h
end
end CL
namespace CL
open PySem PySem.Spec L2
/-! ### a datum or a new list -/
inductive Rv where
  | val (d : D) | own (ds : List D)
def lR (T : Tx) : Rl V Rv := ⟨fun H F H' v x => match x with
  | .val d => Rp T F v d
  | .own ds => ∃ p xs, v = .ref p ∧ H p = none ∧ F p = none ∧ H' p = some (.lst xs) ∧ RpAll T F xs ds, fun {H H1 F2 H2 v x} e h => by
    cases x with
    | val d => exact h
    | own ds => obtain ⟨p, xs, a, b, c, d⟩ := h; exact ⟨p, xs, a, e.back b, c, d⟩⟩
abbrev MR := List Sd → Rs Rv
def DR (T : Tx) (X : Cx) (E : XK) (e : Expr) (m : MR) : Prop := PE X e (tG T E (lR T) m)
def spR (T : Tx) (n : Nat) (f : List D → Rs Rv) : Sp := fun vs H Q E => ∃ F ds, Ex F H ∧ RpAll T F vs ds ∧ ds.length = n ∧ Post T E (lR T) F H Q (f ds)
section
variable {T : Tx} {X : Cx} {E : XK} {a b c e : Expr} {es : List Expr} {pos p : Pos} {m : M} {ml mes : ML} {ba : MB} {mr ms : MR} {x : Str} {CX : CXT} {j k : Nat}
def rE (m : M) : MR := fun z => (m z).bnd fun d => .ok (.val d)
def rL (m : ML) : MR := fun z => (m z).bnd fun d => .ok (.own d)
theorem dr_e (h : DE T X E e m) : DR T X E e (rE m) := pe_imp h fun s H Q ⟨F, z, q, h⟩ => ⟨F, z, q, Post.bnd (L := lV T) h fun y v F1 H1 u1 ry h1 => h1 v F1 H1 (Up.refl u1.s) ry⟩
theorem dr_l (h : DL T X E e ml) : DR T X E e (rL ml) := pe_imp h fun s H Q ⟨F, z, q, h⟩ => ⟨F, z, q, by
    unfold rL at h
    cases em : ml z with
    | stuck => rw [em] at h; exact h
    | exc c => rw [em] at h; exact h
    | ok ds => rw [em] at h; exact fun v F1 H1 u1 rx => h v F1 H1 u1 rx⟩
def rIf (t : MB) (ma mb : MR) : MR := fun z => (t z).bnd fun x => if x then ma z else mb z
theorem dr_if (hc : DT T X E c ba) (ha : DR T X E a mr) (hb : DR T X E b ms) : DR T X E (.IfExp c a b pos) (rIf ba mr ms) := pe_imp (pe_ifExp hc ha hb) fun s H Q ⟨F, z, q, h⟩ =>
  ⟨F, z, q, Post.bnd (L := lB) h fun x v F1 H1 u1 rx h1 => by
    cases rx
    cases x with
    | true => exact iteT ⟨F1, z, q.up u1, h1⟩
    | false => exact iteF ⟨F1, z, q.up u1, h1⟩⟩
theorem dr_call {n : Nat} {f : List D → Rs Rv} (c : DefG X.prog X.w X.K X.mg X.base CX k x (spR T n f)) (hr : Room j X.A) (hk : k ≤ j) (hp : Passes CX X E) (ha : DA T X E (e :: es) mes) (hg : Gl X x := by rfl) (hdb : (x == ("__debug__" : Str)) = false := by decide)
    (he : starEach (e :: es) X.env = (false, eval e X.env) :: starEach es X.env := by rfl) (hpl : (backTo pos (starEach es X.env)).any (·.1) = false := by rfl) : DR T X E (.Call (.Name x p) (e :: es) [] pos) (mCall n f mes) :=
  pe_imp (pe_cal c hr hk hp hg ha hdb he hpl) fun s H Q ⟨F, z, q, h⟩ => ⟨F, z, q, Post.mapQ (call_read (s := s) h) fun vs H1 h1 => by
    show spR T n f (vs ++ []) H1 Q E
    rw [List.append_nil]
    exact h1⟩
/-- .. as a datum -/
def rvD : Rv → D
  | .val d => d
  | .own ds => .lst ds
def mR (mr : MR) : M := fun z => (mr z).bnd fun x => .ok (rvD x)
theorem de_r (h : DR T X E e mr) : DE T X E e (mR mr) := pe_imp h fun s H Q ⟨F, z, q, h⟩ => ⟨F, z, q, by
    unfold mR at h
    cases em : mr z with
    | stuck => rw [em] at h; exact h
    | exc c => rw [em] at h; exact h
    | ok x =>
      rw [em] at h
      intro v F1 H1 u1 rx
      cases x with
      | val d => exact h v F1 H1 u1 rx
      | own ds =>
        obtain ⟨p, xs, rfl, h0, hf, hp, hA⟩ := rx
        exact h _ (upd F1 p (.lst xs)) H1 (u1.know hp h0 hf) (.lst (.inl upd_same) (hA.mono (Ex.new hf)))⟩
def rvS : Rv → Sd
  | .val d => .sh d
  | .own ds => .ow ds
def sSetR (i : Nat) (m : MR) : MS := fun z => (m z).bnd fun d => .ok (.nx (z.set i (rvS d)))
theorem ds_setR (i : Nat) {x : Str} {p2 : Pos} (hN : X.N.Nodup) (he : DR T X E e mr) (hi : X.N[i]? = some x := by rfl) (hx : Loc X.env.scope x := by first | exact Or.inl rfl | exact Or.inr rfl) (hs : swapsWith e (some (.Name x p2)) pos.line X.env = pure false := by rfl)
    (hf : X.fn x = true ∨ X.env.scope.names.lookup x = some .local := by first | exact .inl rfl | exact .inr rfl | assumption) : DS T X E (.Assign [.Name x p2] e pos) (sSetR i mr) := ps_imp (ps_set hN hi hx he hs hf) fun N s H ⟨F0, H0, F, z, x, h⟩ =>
  ⟨F, z, x.r, PostS.bnd (L := lR T) (x := x) h fun y v F1 H1 u1 ry h1 => by
    cases y with
    | val d => exact h1 _ F1 H1 ((x.step u1).set ry)
    | own ds =>
      obtain ⟨p, xs, rfl, h0, hf, hp, hA⟩ := ry
      exact h1 _ F1 H1 (x.setO u1 h0 hf hp hA)⟩
def sRetV (i : Nat) : MS := fun z => match z[i]? with
  | some (.ow ds) => .ok (.rl ds)
  | some (.sh d) => .ok (.rt d)
  | _ => .stuck
theorem ds_retV (i : Nat) {x : Str} {p2 : Pos} (hN : X.N[i]? = some x := by rfl) (hv : Vis X.env.scope x := by first | exact Or.inl rfl | exact Or.inr (Or.inl rfl) | exact Or.inr (Or.inr rfl)) (hd : (x == ("__debug__" : Str)) = false := by decide)
    (hcd : (x == ("__classdict__" : Str)) = false := by decide) : DS T X E (.Return (some (.Name x p2)) pos) (sRetV i) := ps_imp (ps_ret (pe_var hN hv hd hcd)) fun N s H ⟨F0, H0, F, z, x, h⟩ => by
  unfold sRetV at h
  split at h
  · rename_i ds e
    obtain ⟨p, xs, h1, h2, h3, h4⟩ := x.r.ow i ds e
    exact ⟨_, h1, h p xs F H x.up (x.own i ds p e h1) h3 h2 h4⟩
  · rename_i d e
    obtain ⟨v, h1, h2⟩ := x.r.sh i d e
    exact ⟨_, h1, h v F H x.up h2⟩
  · exact h.elim
def retR : Fw → Rs Rv
  | .rt d => .ok (.val d)
  | .nx _ => .ok (.val .non)
  | .rl ds => .ok (.own ds)
  | _ => .stuck
def runR (n : Nat) (m : MS) (ds : List D) : Rs Rv := (noX (m (st0 n ds))).bnd retR
end
section
variable {P : Program} {w : World} {K : PySem.W.Frag} {mg : Str → Option Value} {base : Heap} {T : Tx}
theorem post_retR {E : XK} {F H : Hp} {Q : VK} {r : Rs Fw} (h : Post T E (lR T) F H Q (r.bnd retR)) : PostS T E F H { nx := fun _ H' => Q .non H', rt := Q } r := by
  cases r with
  | stuck => exact h
  | exc c => exact h
  | ok f =>
    cases f with
    | nx z => exact fun s F' H' x => h _ F' H' x.up .non
    | rt d => exact fun v F' H' u r => h v F' H' u r
    | rl ds => exact fun p xs F' H' u h0 hf hp hA => h _ F' H' u ⟨p, xs, rfl, h0, hf, hp, hA⟩
    | bk z => exact h.elim
    | ct z => exact h.elim
variable {x qual : Str} {st : Stmt} {f : Addr} {fd : FuncData} {N ps : List Str} {k : Nat} {m : MS}
theorem fn_R (F : Fun K x qual st f fd) (S : FnScope N ps (defScope st))
    (hb : ∀ (cdv : Value) (A : Around) (outer : List Env) (s : Shared) (H : Hp) (E : XK), Room k (A.deeper (PyProof.Rows.envOfC qual (defScope st) s.heap.objs.size f cdv)) → DSs T (cxOf CX0 P w K mg base N qual (defScope st) f cdv A outer s H E).nox E0 (defBody st) m) :
    FnOk P w K mg base CX0 (k + 1) f fd ps (spR T ps.length (runR N.length m)) := by
  refine F.ok S (fun vs H Q E h => ?_) (fun cdv A outer s H vs Q E hr h => ?_)
  · obtain ⟨F, ds, _, hA, hl, _⟩ := h
    rw [hA.length, hl]
  · obtain ⟨F, ds, e, hA, hl, h⟩ := h
    exact ⟨_, hb cdv A outer s H E hr, F, H, F, _, r_start e hA, post_noX (post_retR h)⟩
theorem defG {CX : CXT} {sp : Sp} (G : FnOk P w K mg base CX k f fd ps sp) (F : Fun K x qual st f fd) (hm : mg x = some (.ref f)) (b : Binds K fd ps []) : DefG P w K mg base CX k x sp := ⟨f, fd, ps, G, hm, F.kp, b⟩
end
end CL
namespace CL
open PySem PySem.Spec L2
section
variable {T : Tx} {X : Cx} {E : XK} {a b : Expr} {pos : Pos} {m : M} {ml : ML}
/-- a, b = [..], y: a list of one's own and a datum -/
def sParO (i j : Nat) (ml : ML) (m : M) : MS := fun z => (ml z).bnd fun ds => (m z).bnd fun d => .ok (.nx ((z.set i (.ow ds)).set j (.sh d)))
theorem ds_parO (i j : Nat) {x y : Str} {px py pt pt2 : Pos} {kt k2 : Nat} (hc : X.calm = true) (hN : X.N.Nodup) (ha : DL T X E a ml) (hb : DE T X E b m) (hi : X.N[i]? = some x := by rfl) (hj : X.N[j]? = some y := by rfl) (hij : i ≠ j := by decide)
    (hx : X.env.scope.names.lookup x = some .local := by rfl) (hy : X.env.scope.names.lookup y = some .local := by rfl)
    (hw : swappedStores [.Tuple [.Name x px, .Name y py] kt pt] (.Tuple [a, b] k2 pt2) X.env = pure (some [x, y]) := by rfl) (hs : swapsWithSole [.Tuple [.Name x px, .Name y py] kt pt] (.Tuple [a, b] k2 pt2) pos.line X.env = pure false := by rfl)
    (he : starEach [a, b] X.env = (false, eval a X.env) :: starEach [b] X.env := by rfl) (he2 : starEach [b] X.env = (false, eval b X.env) :: starEach [] X.env := by rfl) :
    DS T X E (.Assign [.Tuple [.Name x px, .Name y py] kt pt] (.Tuple [a, b] k2 pt2) pos) (sParO i j ml m) := ps_imp (ps_par hc hN hi hj hij hx hy (pa_cons ha (pa_cons hb pa_nil he2) he) hw hs) fun N s H ⟨F0, H0, F, z, x, h⟩ =>
  ⟨F, z, x.r, PostS.bnd (L := lL T) (x := x) h fun ds v F1 H1 u1 ry h1 => by
    obtain ⟨p, xs, rfl, h0, hf, hp, hA⟩ := ry
    refine ⟨F1, z, x.r.up u1, PostS.bnd (L := lV T) (x := x.step u1) h1 fun d w F2 H2 u2 rw2 h2 => ?_⟩
    exact ⟨_, _, rfl, h2 _ F2 H2 ((x.setO (u1.trans u2) h0 (u2.hid hf hp) (u2.h _ _ hp) (hA.mono u2.f)).set rw2)⟩⟩
end
end CL


set_option Elab.async false
set_option linter.all false
set_option maxRecDepth 100000
/-! The data layer, part g: the script; slices with a step; three names at once. -/
namespace CL
open PySem PySem.Spec L2
section
variable {T : Tx} {X : Cx} {E : XK} {tg a b c e : Expr} {es : List Expr} {pos p p2 : Pos} {ma mb mc m : M} {mes mi mj ml : ML} {ba bb : MB} {lo hi : Option Expr} {mo mp mq : List Sd → Rs (Option Int)}
/-! ### the script -/
def asS : D → Option (List D)
  | .scr ns => some (ns.map D.int)
  | _ => none
theorem asS_some {d : D} {xs : List D} (h : asS d = some xs) : ∃ ns, d = .scr ns ∧ xs = ns.map D.int := by
  cases d with
  | scr ns => exact ⟨ns, rfl, (Option.some.inj h).symm⟩
  | _ => cases h
def mLenS (m : M) : M := fun z => (m z).bnd fun x => (ofO (asS x)).bnd fun xs => .ok (.int xs.length)
theorem de_lenS (hm : X.mg "len" = none) (ha : DE T X E e m) (hK : X.K = T.K := by rfl) (hg : Gl X "len" := by rfl) (he : starEach [e] X.env = (false, eval e X.env) :: starEach [] X.env := by rfl) : DE T X E (.Call (.Name "len" p) [e] [] pos) (mLenS m) :=
  pe_imp (pe_callB call_len_seq hg hm PySem.boot_len (pa_cons ha pa_nil he) (by decide) (by decide) he) fun s H Q ⟨F, z, q, h⟩ =>
  ⟨F, z, q, Post.bnd (L := lV T) h fun x v F1 H1 u1 rx h1 => by
    cases qx : asS x with
    | none => rw [qx] at h1; exact h1.elim
    | some xs =>
      rw [qx] at h1
      obtain ⟨ns, rfl, rfl⟩ := asS_some qx
      cases rx with
      | scr hr =>
        refine ⟨_, _, rfl, .inl (by rw [hK]; exact u1.s.sq hr), ?_⟩
        have := h1 (.int ((ns.map D.int).length : Nat)) F1 H1 (Up.refl u1.s) (.int _)
        rw [List.length_map] at this ⊢
        exact this⟩
def mCutS (m : M) (mo mp : List Sd → Rs (Option Int)) : ML := fun z => (m z).bnd fun x => (ofO (asS x)).bnd fun xs => (mo z).bnd fun lo => (mp z).bnd fun hi => .ok (cutD xs lo hi)
theorem dl_cutS (he : DE T X E e m) (hl : DO T X E lo mo) (hh : DO T X E hi mp) (hK : X.K = T.K := by rfl) : DL T X E (.Subscript e (.Slice lo hi none p2) pos) (mCutS m mo mp) := pe_imp (pe_slice sl_list he hl hh) fun s H Q ⟨F, z, q, h⟩ =>
  ⟨F, z, q, Post.bnd (L := lV T) h fun x v F1 H1 u1 rx h1 => by
    cases qx : asS x with
    | none => rw [qx] at h1; exact h1.elim
    | some xs =>
      rw [qx] at h1
      obtain ⟨ns, rfl, rfl⟩ := asS_some qx
      cases rx with
      | scr hr =>
        refine ⟨F1, z, q.up u1, Post.bnd (L := lO) h1 fun y w F2 H2 u2 ry h2 => ?_⟩
        refine ⟨F2, z, (q.up u1).up u2, Post.bnd (L := lO) h2 fun y2 w2 F3 H3 u3 ry2 h3 => ?_⟩
        cases ry
        cases ry2
        refine ⟨_, _, rfl, by rw [hK]; exact u3.h.sq (u2.h.sq (u1.s.sq hr)), fun l hl => h3 _ F3 _ (Up.newO u3.s hl) ⟨l, _, rfl, hl, u3.s.back hl, upd_same, (rpAll_ints ns).cut _ _⟩⟩⟩
theorem itd_sq {K : PySem.W.Frag} {F : Hp} {a : Addr} {vs : List V} {ds : List D} (hr : SqL K F a vs) (hA : RpAll T F vs ds) : ItD T (Itl K a) F ds where
  go := fun i F1 H e1 e2 hi => by
    have hi' : i < vs.length := by rw [hA.length]; exact hi
    exact ⟨vs, vs[i], e2.sq (e1.sq hr), List.getElem?_eq_getElem hi'⟩
  yl := fun i F1 H x H' d e1 e2 hd hy => by
    obtain ⟨rfl, hy⟩ := hy
    have h1 := hy vs (e2.sq (e1.sq hr))
    obtain ⟨v, h2, h3⟩ := hA.get hd
    rw [h1] at h2
    cases h2
    exact ⟨F1, Up.refl e2, h3.mono e1⟩
  st := fun i F1 H e1 e2 hi => ⟨vs, e2.sq (e1.sq hr), by rw [hA.length]; exact hi⟩
def mSeqS (m : M) : ML := fun z => (m z).bnd fun x => ofO (asS x)
theorem dn_scr (h : DE T X E e m) (hK : X.K = T.K := by rfl) : DN T X E tg e (mSeqS m) := pi_imp (pi_list h) fun s H Q ⟨F, z, q, h⟩ =>
  ⟨F, z, q, Post.bnd (L := lV T) h fun x v F1 H1 u1 rx h1 => by
    obtain ⟨xs, e, k⟩ := Post.ofO h1
    obtain ⟨ns, rfl, rfl⟩ := asS_some e
    cases rx with
    | scr hr => exact ⟨_, rfl, ⟨_, by rw [hK]; exact u1.s.sq hr⟩, k _ F1 H1 (Up.refl u1.s) (by rw [hK]; exact itd_sq hr (rpAll_ints ns))⟩⟩
/-- script != [] -/
def bNeS (m : M) (ml : ML) : MB := fun z => (m z).bnd fun x => (ofO (asS x)).bnd fun xs => (ml z).bnd fun ys => (ofO (eqD (.lst xs) (.lst ys))).bnd fun b => .ok (!b)
theorem dt_neS {n : Nat} (hr : Room n X.A) (ha : DE T X E a m) (hb : DL T X E b ml) (hK : X.K = T.K := by rfl) : DT T X E (.Compare a [.NotEq] [b] pos) (bNeS m ml) := pt_imp (pt_cmpR (op_neD hr.units) ha hb (nomark _)) fun s H Q ⟨F, z, q, h⟩ =>
  ⟨F, z, q, Post.bnd (L := lV T) h fun x v F1 H1 u1 rx h1 => by
    cases qx : asS x with
    | none => rw [qx] at h1; exact h1.elim
    | some xs =>
      rw [qx] at h1
      obtain ⟨ns, rfl, rfl⟩ := asS_some qx
      cases rx with
      | @scr sa _ hr =>
        refine ⟨F1, z, q.up u1, Post.bnd (L := lL T) h1 fun ys w F2 H2 u2 ry h2 => ?_⟩
        obtain ⟨l, vs, rfl, h0, hf, hp, hA⟩ := ry
        cases qe : eqD (.lst (ns.map D.int)) (.lst ys) with
        | none => rw [qe] at h2; exact h2.elim
        | some b =>
          rw [qe] at h2
          obtain ⟨d1, d2, e1, e2, e3, e4, e5⟩ := eqD_some qe
          have r1 : Dp X.K H2 (.ref sa) d1 := by
            simp only [toPy] at e1
            cases q1 : toPyAll (ns.map D.int) with
            | none => rw [q1] at e1; cases e1
            | some ps =>
              rw [q1] at e1
              cases e1
              exact .lst (by rw [hK]; exact u2.h.sq (u1.s.sq hr)) (RpAll.dp (T := T) (F := H2) _ (rpAll_ints ns) q1)
          have r2 : Dp X.K H2 (.ref l) d2 := Rp.dp (T := T) (F := H2) (.lst ys) (.lst (.inl hp) (hA.mono u2.s)) e2
          exact ⟨d1, d2, r1, r2, e3, e4, _, rfl, by rw [e5]; exact h2 _ F2 H2 (Up.refl u2.s) rfl⟩⟩

/-! ### slices with a step -/
def pickA {α : Type} (xs : List α) (lo hi st : Option Int) : List α := (sliceRange (sliceBounds lo hi st xs.length).1 (sliceBounds lo hi st xs.length).2.1 (sliceBounds lo hi st xs.length).2.2).filterMap (xs[·]?)
theorem vals_pick {xs : List V} {us : List Value} (r : Vals xs us) : ∀ is : List Nat, Vals (is.filterMap (xs[·]?)) (is.filterMap (us[·]?))
  | [] => .nil
  | i :: is => by
    rw [List.filterMap_cons, List.filterMap_cons]
    cases q : xs[i]? with
    | none =>
      rw [Vals.none_of r q]
      exact vals_pick r is
    | some x =>
      obtain ⟨u, h1, h2⟩ := r.get q
      rw [h1]
      exact .cons h2 (vals_pick r is)
theorem rp_pick {F : Hp} {xs : List V} {us : List D} (r : RpAll T F xs us) : ∀ is : List Nat, RpAll T F (is.filterMap (xs[·]?)) (is.filterMap (us[·]?))
  | [] => .nil
  | i :: is => by
    rw [List.filterMap_cons, List.filterMap_cons]
    cases q : us[i]? with
    | none =>
      have : xs[i]? = none := by
        rw [List.getElem?_eq_none_iff] at q ⊢
        rw [r.length]; exact q
      rw [this]
      exact rp_pick r is
    | some x =>
      obtain ⟨u, h1, h2⟩ := r.get q
      rw [h1]
      exact .cons h2 (rp_pick r is)
def tStepL (K : PySem.W.Frag) (te : TE) (tl th ts : TO) : TE := fun σ H Q => te σ H fun x H1 => tl σ H1 fun l H2 => th σ H2 fun u H3 => ts σ H3 fun st H4 => ∃ a xs, x = .ref a ∧ SqL K H4 a xs ∧ st ≠ some 0 ∧ (pickA xs l u st).length ≤ sizeLine ∧ ∀ p, H4 p = none → Q (.ref p) (upd H4 p (.lst (pickA xs l u st)))
theorem pe_stepL {e : Expr} {te : TE} {tl th ts : TO} {lo hi st : Option Expr} {p3 pos : Pos} (he : PE X e te) (hl : PO X lo tl) (hh : PO X hi th) (hst : PO X st ts)
    (hs : ∀ o i, subscripted (.Slice lo hi st p3) false o i = operate [o, i] (getItem o i) := by intros; with_unfolding_all rfl) : PE X (.Subscript e (.Slice lo hi st p3) pos) (tStepL X.K te tl th ts) := by
  refine ⟨fun pins s σ H Q I h => ?_⟩
  refine PyProof.Rows.Subscript_ (thn (he.run pins s σ H _ I h) fun v s1 ⟨x, H1, I1, r1, q1⟩ => ?_)
  refine wpAny_Slice (thn (hl.run pins s1 σ H1 _ I1 q1) fun vl s2 ⟨l, H2, I2, pl, q2⟩ => ?_)
  refine thn (hh.run pins s2 σ H2 _ I2 q2) fun vu s3 ⟨u, H3, I3, pu, q3⟩ => ?_
  refine thn (hst.run pins s3 σ H3 _ I3 q3) fun vs s4 ⟨o, H4, I4, ps, q4⟩ => ?_
  obtain ⟨a, xs, ex, hx, h0, hz0, q⟩ := q4
  subst ex
  cases r1
  have I5 : Inv X pins σ H4 { s4 with heap := s4.heap.push { cls := .type "slice", data := .fields #[vl, vu, vs] } } := I4.kept (t' := s4.toks) fun b ob q => Heap.get?_push_of_some _ q
  obtain ⟨its, r, ht, hz⟩ := I5.list hx
  have hlen := r.length
  show wpAny (model X.prog X.w) X.A (PyProof.Rows.subscriptTail e (.Slice lo hi st p3) (.ref a) (.ref s4.heap.objs.size)) (EP X pins σ Q) X.xe { s4 with heap := s4.heap.push { cls := .type "slice", data := .fields #[vl, vu, vs] } }
  refine PyProof.Rows.tail_any (ops := [.ref a, .ref s4.heap.objs.size]) ht.isList.typeIs (PySem.slot_list_getitem.lookup) ?_ (hs _ _)
  refine wpAny_getItem_list_slice ht.isList (Heap.IsSliceOf.new _ vl vu vs) pl pu ps h0 ?_ (by rw [List.size_toArray]; omega)
  have ep : slicePick its.toArray l u o = (pickA its l u o).toArray := by
    unfold slicePick pickA
    simp only [List.size_toArray, List.getElem?_toArray]
  rw [ep]
  have hv : Vals (pickA xs l u o) (pickA its l u o) := by
    unfold pickA
    rw [hlen]
    exact vals_pick r _
  refine ⟨.ref _, _, I5.laid (t' := s4.toks) (o := .lst (pickA xs l u o)) (fun b ob q => Heap.get?_push_of_some _ q) (Nat.le_refl _) ?_, rfl, q _ (I5.hok.fresh (Nat.le_refl _))⟩
  exact ⟨hz0, _, 0, hv, Heap.get?_push_size _ rfl⟩
def mStep (mi : ML) (mo mp mq : List Sd → Rs (Option Int)) : ML := fun z => (mi z).bnd fun xs => (mo z).bnd fun lo => (mp z).bnd fun hi => (mq z).bnd fun st => if st = some 0 then .stuck else ofO (lstD (pickA xs lo hi st))
theorem dl_step {st : Option Expr} {p3 : Pos} (he : DI T X E e mi) (hl : DO T X E lo mo) (hh : DO T X E hi mp) (hst : DO T X E st mq) (hs : ∀ o i, subscripted (.Slice lo hi st p3) false o i = operate [o, i] (getItem o i) := by intros; with_unfolding_all rfl) :
    DL T X E (.Subscript e (.Slice lo hi st p3) pos) (mStep mi mo mp mq) := pe_imp (pe_stepL he hl hh hst hs) fun s H Q ⟨F, z, q, h⟩ =>
  ⟨F, z, q, Post.bnd (L := lI T) h fun xs v F1 H1 u1 rx h1 => by
    obtain ⟨p, vs, rfl, hr, hA⟩ := rx
    refine ⟨F1, z, q.up u1, Post.bnd (L := lO) h1 fun y w F2 H2 u2 ry h2 => ?_⟩
    refine ⟨F2, z, (q.up u1).up u2, Post.bnd (L := lO) h2 fun y2 w2 F3 H3 u3 ry2 h3 => ?_⟩
    refine ⟨F3, z, ((q.up u1).up u2).up u3, Post.bnd (L := lO) h3 fun y3 w3 F4 H4 u4 ry3 h4 => ?_⟩
    cases ry
    cases ry2
    cases ry3
    by_cases h0 : y3 = some 0
    · rw [if_pos h0] at h4
      exact h4.elim
    · rw [if_neg h0] at h4
      obtain ⟨d, e, k⟩ := Post.ofO h4
      obtain ⟨hz, rfl⟩ := lstD_some e
      have hA4 := ((hA.mono u2.f).mono u3.f).mono u4.f
      have hp : RpAll T F4 (pickA vs y y2 y3) (pickA xs y y2 y3) := by
        unfold pickA
        rw [hA.length]
        exact rp_pick hA4 _
      exact ⟨_, _, rfl, .inl (u4.h.rd (u3.h.rd (u2.h.rd hr))), h0, by rw [hp.length]; exact hz, fun l hl => k _ F4 _ (Up.newO u4.s hl) ⟨l, _, rfl, hl, u4.s.back hl, upd_same, hp⟩⟩⟩
/-! ### a, b, c = x, y, z -/
theorem ds_par3 (i j l : Nat) {x y w : Str} {px py pw pt pt2 : Pos} {kt k2 : Nat} (hc : X.calm = true) (hN : X.N.Nodup) (ha : DA T X E [a, b, c] mes) (hi : X.N[i]? = some x := by rfl) (hj : X.N[j]? = some y := by rfl) (hl : X.N[l]? = some w := by rfl) (hij : i ≠ j := by decide) (hil : i ≠ l := by decide) (hjl : j ≠ l := by decide)
    (hx : X.env.scope.names.lookup x = some .local := by rfl) (hy : X.env.scope.names.lookup y = some .local := by rfl) (hz : X.env.scope.names.lookup w = some .local := by rfl)
    (hw : swappedStores [.Tuple [.Name x px, .Name y py, .Name w pw] kt pt] (.Tuple [a, b, c] k2 pt2) X.env = pure (some [x, y, w]) := by rfl) (hs : swapsWithSole [.Tuple [.Name x px, .Name y py, .Name w pw] kt pt] (.Tuple [a, b, c] k2 pt2) pos.line X.env = pure false := by rfl) :
    DS T X E (.Assign [.Tuple [.Name x px, .Name y py, .Name w pw] kt pt] (.Tuple [a, b, c] k2 pt2) pos) (sPar3 i j l mes) := ps_imp (ps_par3 hc hN hi hj hl hij hil hjl hx hy hz ha hw hs) fun N s H ⟨F0, H0, F, z, x, h⟩ =>
  ⟨F, z, x.r, PostS.bnd (L := lA T) (x := x) h fun ds vs F1 H1 u1 ry h1 => by
    cases ry with
    | nil => exact h1.elim
    | cons r1 t1 =>
      cases t1 with
      | nil => exact h1.elim
      | cons r2 t2 =>
        cases t2 with
        | nil => exact h1.elim
        | cons r3 t3 =>
          cases t3 with
          | cons _ _ => exact h1.elim
          | nil => exact ⟨_, _, _, rfl, h1 _ F1 H1 ((((x.step u1).set r1).set r2).set r3)⟩⟩
end
end CL


set_option Elab.async false
set_option linter.all false
set_option maxRecDepth 100000
set_option maxHeartbeats 4000000
namespace CL
open PySem PySem.Spec L2
/-! ### is_number -/
def m_is_number : MS :=
  (sRet (mAnd (mUn (isTy .int) (mVar 0)) (mUn notD (mUn (isTy .bool) (mVar 0)))))
def f_is_number : List D → Rs D := runF 1 m_is_number
/-! ### check_row -/
def m_check_row : MS :=
  (sIf (bOr (bNot (bV (mUn (isTy .list) (mVar 0)))) (bNot (bV (mAll (mComp (.nm 1) [1] (mSeq (mVar 0)) (mCall 1 f_is_number (aCons (mVar 1) aNil)))))))
  (sRaise 0)
  sNil)
def f_check_row : List D → Rs D := runX 2 m_check_row
/-! ### is_clipping -/
def m_is_clipping : MS :=
  (sSeq (sIf (bOr (bNot (bV (mUn (isTy .tuple) (mVar 1)))) (bOr (bV (mBin neB (mUn lenD (mVar 1)) (mC (.int 3)))) (bNot (bV (mAll (mComp (.nm 2) [2] (mSeq (mVar 1)) (mCall 1 f_is_number (aCons (mVar 2) aNil))))))))
  (sRet (mC (.bl false)))
  sNil)
  (sSeq (sAsg (.tp [3, 4, 5]) (mVar 1))
  (sSeq (sIf (bOr (bV (mBin ltD (mVar 4) (mC (.int 1)))) (bV (mBin (inD true) (mVar 5) (mTup (aCons (mC (.int 1)) (aCons (mUn negD (mC (.int 1))) aNil))))))
  (sRet (mC (.bl false)))
  sNil)
  (sRet (mAnd (mChain leD ltD (mC (.int 0)) (mVar 3) (mUn lenD (mVar 0))) (mChain leD ltD (mC (.int 0)) (mBin addD (mVar 3) (mBin mulD (mVar 5) (mBin subD (mVar 4) (mC (.int 1))))) (mUn lenD (mVar 0))))))))
def f_is_clipping : List D → Rs D := runF 6 m_is_clipping
/-! ### clipped -/
def m_clipped : MS :=
  (sSeq (sAsg (.tp [2, 3, 4]) (mVar 1))
  (sRetL (mComp (.nm 5) [5] (mOf rng1 (aCons (mVar 3) aNil)) (mBin ixD (mVar 0) (mBin addD (mVar 2) (mBin mulD (mVar 4) (mVar 5)))))))
def f_clipped : List D → Rs (List D) := runL 6 m_clipped
/-! ### pasted_of -/
def m_pasted_of : MS :=
  (sSeq (sSetO 2 (mLst aNil))
  (sSeq (sFor (.nm 3) (mSeq (mVar 1))
  (sExt 2 (mCall 2 f_clipped (aCons (mVar 0) (aCons (mVar 3) aNil)))))
  (sRetO 2)))
def f_pasted_of : List D → Rs (List D) := runL 4 m_pasted_of
/-! ### pasted -/
def m_pasted : MS :=
  (sSeq (sExpr (mCall 1 f_check_row (aCons (mVar 0) aNil)))
  (sSeq (sIf (bOr (bNot (bV (mUn (isTy .list) (mVar 1)))) (bNot (bV (mAll (mComp (.nm 2) [2] (mSeq (mVar 1)) (mCall 2 f_is_clipping (aCons (mVar 0) (aCons (mVar 2) aNil))))))))
  (sRaise 1)
  sNil)
  (sRetL (mCall 2 f_pasted_of (aCons (mVar 0) (aCons (mVar 1) aNil))))))
def f_pasted : List D → Rs (List D) := runXL 3 m_pasted
/-! ### is_deed -/
def m_is_deed : MS :=
  (sSeq (sIf (bOr (bNot (bV (mUn (isTy .tuple) (mVar 0)))) (bOr (bV (mBin (inD true) (mUn lenD (mVar 0)) (mTup (aCons (mC (.int 2)) (aCons (mC (.int 3)) aNil))))) (bNot (bV (mAll (mComp (.nm 2) [2] (mSeq (mCutT (mVar 0) (oSome (mC (.int 1))) oNone)) (mCall 1 f_is_number (aCons (mVar 2) aNil))))))))
  (sRet (mC (.bl false)))
  sNil)
  (sSeq (sIf (bV (mBin eqB (mUn lenD (mVar 0)) (mC (.int 2))))
  (sRet (mBin eqB (mBin ixD (mVar 0) (mC (.int 0))) (mC (.str "put"))))
  sNil)
  (sRet (mAnd (mBin eqB (mBin ixD (mVar 0) (mC (.int 0))) (mC (.str "copy"))) (mAnd (mChain leD ltD (mC (.int 0)) (mBin ixD (mVar 0) (mC (.int 1))) (mVar 1)) (mBin gtD (mBin ixD (mVar 0) (mC (.int 2))) (mC (.int 0))))))))
def f_is_deed : List D → Rs D := runF 3 m_is_deed
/-! ### grown_of -/
def m_grown_of : MS :=
  (sSeq (sSetO 1 (mLst aNil))
  (sSeq (sFor (.nm 2) (mSeq (mVar 0))
  (sSeq (sIf (bNot (bV (mCall 2 f_is_deed (aCons (mVar 2) (aCons (mLenI (iOw 1)) aNil)))))
  (sRet (mC .non))
  sNil)
  (sIf (bV (mBin eqB (mUn lenD (mVar 2)) (mC (.int 2))))
  (sApp 1 (mBin ixD (mVar 2) (mC (.int 1))))
  (sFor (.nm 3) (mOf rng1 (aCons (mBin ixD (mVar 2) (mC (.int 2))) aNil))
  (sApp 1 (mIxI (iOw 1) (mBin addD (mBin ixD (mVar 2) (mC (.int 1))) (mVar 3))))))))
  (sRetO 1)))
def f_grown_of : List D → Rs Rv := runR 4 m_grown_of
/-! ### grown -/
def m_grown : MS :=
  (sSeq (sSetR 1 (rIf (bV (mUn (isTy .list) (mVar 0))) (mCall 1 f_grown_of (aCons (mVar 0) aNil)) (rE (mC .non))))
  (sSeq (sIf (bz (bV (mBin (isD false) (mVar 1) (mC .non))))
  (sRaise 2)
  sNil)
  (sRetV 1)))
def f_grown : List D → Rs (List D) := runXL 2 m_grown
/-! ### _law_row -/
def m_law_row : MS :=
  (sSeq (sSet 2 (mBin ixD (mTup (aCons (mC (.int 2)) (aCons (mC (.int 3)) (aCons (mBin powD (mC (.int 10)) (mC (.int 30))) (aCons (mC (.int 5)) aNil))))) (mBin modD (mBin fdivD (mVar 1) (mC (.int 7))) (mC (.int 4)))))
  (sSeq (sIf (bV (mBin eqB (mVar 2) (mBin powD (mC (.int 10)) (mC (.int 30)))))
  (sRet (mL (mComp (.nm 3) [3] (mSeq (mVar 0)) (mBin mulD (mBin modD (mVar 3) (mVar 2)) (mBin subD (mC (.int 1)) (mBin mulD (mBin modD (mBin addD (mBin fdivD (mVar 3) (mVar 2)) (mBin fdivD (mVar 3) (mC (.int 7)))) (mC (.int 2))) (mC (.int 2))))))))
  sNil)
  (sRet (mL (mComp (.nm 3) [3] (mSeq (mVar 0)) (mBin subD (mBin modD (mVar 3) (mVar 2)) (mBin modD (mBin fdivD (mVar 1) (mC (.int 28))) (mC (.int 3)))))))))
def f_law_row : List D → Rs D := runF 4 m_law_row
/-! ### _law_clippings -/
def m_law_clippings : MS :=
  (sSeq (sSetO 2 (mLst aNil))
  (sSeq (sFor (.nm 3) (mSeq (mIf (bV (mBin neB (mVar 0) (mL (mLst aNil)))) (mVar 1) (mL (mLst aNil))))
  (sSeq (sPar 4 5 (aCons (mBin modD (mVar 3) (mUn lenD (mVar 0))) (aCons (mBin ixD (mTup (aCons (mC (.int 1)) (aCons (mUn negD (mC (.int 1))) aNil))) (mBin modD (mBin fdivD (mVar 3) (mC (.int 3))) (mC (.int 2)))) aNil)))
  (sSeq (sSet 6 (mIf (bV (mBin eqB (mVar 5) (mC (.int 1)))) (mBin subD (mUn lenD (mVar 0)) (mVar 4)) (mBin addD (mVar 4) (mC (.int 1)))))
  (sApp 2 (mTup (aCons (mVar 4) (aCons (mBin addD (mC (.int 1)) (mBin modD (mBin fdivD (mVar 3) (mC (.int 5))) (mVar 6))) (aCons (mVar 5) aNil))))))))
  (sRet (mVar 2))))
def f_law_clippings : List D → Rs D := runF 7 m_law_clippings
/-! ### _law_pasted -/
def m_law_pasted : MS :=
  (sSeq (sSetO 2 (mLst aNil))
  (sSeq (sFor (.tp [3, 4, 5]) (mSeq (mVar 1))
  (sSeq (sSet 6 (mVar 3))
  (whileD (bAnd (bV (mBin ltD (mLenI (iOw 2)) (mBin powD (mC (.int 10)) (mC (.int 6))))) (bV (mBin gtD (mVar 4) (mC (.int 0)))))
  (sSeq (sApp 2 (mBin ixD (mVar 0) (mVar 6)))
  (sPar 6 4 (aCons (mBin addD (mVar 6) (mVar 5)) (aCons (mBin subD (mVar 4) (mC (.int 1))) aNil)))) 2000000)))
  (sRet (mVar 2))))
def f_law_pasted : List D → Rs D := runF 7 m_law_pasted
/-! ### _law_numbers -/
def m_law_numbers : MS :=
  (sSeq (sIf (bNot (bV (mUn (isTy .list) (mVar 0))))
  (sRet (mC (.bl false)))
  sNil)
  (sRet (mAll (mComp (.nm 1) [1] (mSeq (mVar 0)) (mAnd (mUn (isTy .int) (mVar 1)) (mUn notD (mUn (isTy .bool) (mVar 1))))))))
def f_law_numbers : List D → Rs D := runF 2 m_law_numbers
/-! ### _law_grown -/
def m_law_grown : MS :=
  (sSeq (sSetO 1 (mLst aNil))
  (sSeq (sFor (.nm 2) (mSeq (mVar 0))
  (sSeq (sIf (bOr (bNot (bV (mUn (isTy .tuple) (mVar 2)))) (bOr (bV (mBin ltD (mUn lenD (mVar 2)) (mC (.int 2)))) (bNot (bV (mCall 1 f_law_numbers (aCons (mL (mSeq (mCutT (mVar 2) (oSome (mC (.int 1))) oNone))) aNil))))))
  (sRet (mC .non))
  sNil)
  (sIf (bAnd (bV (mBin eqB (mBin ixD (mVar 2) (mC (.int 0))) (mC (.str "put")))) (bV (mBin eqB (mUn lenD (mVar 2)) (mC (.int 2)))))
  (sSetO 1 (mCat (iOw 1) (mLst (aCons (mBin ixD (mVar 2) (mC (.int 1))) aNil))))
  (sIf (bAnd (bV (mBin eqB (mBin ixD (mVar 2) (mC (.int 0))) (mC (.str "copy")))) (bAnd (bV (mBin eqB (mUn lenD (mVar 2)) (mC (.int 3)))) (bAnd (bV (mChain leD ltD (mC (.int 0)) (mBin ixD (mVar 2) (mC (.int 1))) (mLenI (iOw 1)))) (bV (mBin gtD (mBin ixD (mVar 2) (mC (.int 2))) (mC (.int 0)))))))
  (sFor (.nm 3) (mOf rng2 (aCons (mBin ixD (mVar 2) (mC (.int 1))) (aCons (mBin addD (mBin ixD (mVar 2) (mC (.int 1))) (mBin ixD (mVar 2) (mC (.int 2)))) aNil)))
  (sApp 1 (mIxI (iOw 1) (mVar 3))))
  (sRet (mC .non))))))
  (sRet (mVar 1))))
def f_law_grown : List D → Rs D := runF 4 m_law_grown
/-! ### _law_deeds -/
def m_law_deeds : MS :=
  (sSeq (sParO 1 2 (mLst aNil) (mC (.int 0)))
  (sSeq (sFor (.nm 3) (mSeq (mVar 0))
  (sIf (bOr (bV (mBin eqB (mBin modD (mVar 3) (mC (.int 3))) (mC (.int 0)))) (bOr (bV (mBin eqB (mVar 2) (mC (.int 0)))) (bV (mBin gtD (mVar 2) (mC (.int 200))))))
  (sSeq (sApp 1 (mTup (aCons (mC (.str "put")) (aCons (mIf (bV (mBin eqB (mBin modD (mVar 3) (mC (.int 2))) (mC (.int 0)))) (mBin subD (mBin modD (mBin fdivD (mVar 3) (mC (.int 3))) (mC (.int 7))) (mC (.int 3))) (mVar 3)) aNil))))
  (sSet 2 (mBin addD (mVar 2) (mC (.int 1)))))
  (sSeq (sSet 4 (mBin addD (mC (.int 1)) (mBin modD (mBin addD (mBin fdivD (mBin fdivD (mVar 3) (mC (.int 3))) (mVar 2)) (mBin fdivD (mVar 3) (mC (.int 7)))) (mBin ixD (mTup (aCons (mC (.int 90)) (aCons (mC (.int 9)) (aCons (mC (.int 9)) (aCons (mC (.int 9)) aNil))))) (mBin modD (mBin fdivD (mVar 3) (mC (.int 2))) (mC (.int 4)))))))
  (sSeq (sApp 1 (mTup (aCons (mC (.str "copy")) (aCons (mBin modD (mBin fdivD (mVar 3) (mC (.int 3))) (mVar 2)) (aCons (mVar 4) aNil)))))
  (sSet 2 (mBin addD (mVar 2) (mVar 4)))))))
  (sRet (mVar 1))))
def f_law_deeds : List D → Rs D := runF 5 m_law_deeds
/-! ### _law_cells -/
def m_law_cells : MS :=
  (sSeq (sSet 1 (mL (mCutS (mVar 0) oNone (oSome (mC (.int 63))))))
  (sSeq (sIf (bV (mBin eqB (mBin modD (mBin fdivD (mSum (iE (mVar 1))) (mC (.int 11))) (mC (.int 13))) (mC (.int 4))))
  (sSet 1 (mL (mCat (iE (mVar 1)) (mComp (.nm 2) [2] (mSeq (mL (mCut (iE (mVar 1)) oNone (oSome (mC (.int 37)))))) (mBin addD (mBin fdivD (mVar 2) (mC (.int 3))) (mC (.int 977)))))))
  sNil)
  (sRet (mVar 1))))
def f_law_cells : List D → Rs D := runF 3 m_law_cells
/-! ### law -/
def m_law : MS :=
  (sSeq (sSet 0 (mCall 1 f_law_cells (aCons (mVar 0) aNil)))
  (sSeq (sSet 1 (mCall 2 f_law_row (aCons (mVar 0) (aCons (mSum (iE (mVar 0))) aNil))))
  (sSeq (sSet 2 (mCall 2 f_law_clippings (aCons (mVar 1) (aCons (mL (mCut (iE (mVar 0)) oNone (oSome (mC (.int 20))))) aNil))))
  (sSeq (sFor (.nm 3) (mSeq (mL (mLst (aCons (mVar 2) (aCons (mL (mRev (iE (mVar 2)))) (aCons (mL (mCut (iE (mVar 2)) oNone (oSome (mC (.int 1))))) (aCons (mL (mLst aNil)) aNil)))))))
  (sSeq (sSet 4 (mL (mLst (aCons (mL (mSeq (mVar 1))) (aCons (mL (mSeq (mVar 3))) aNil)))))
  (sSeq (sSetO 5 (mCall 2 f_pasted (aCons (mBin ixD (mVar 4) (mC (.int 0))) (aCons (mBin ixD (mVar 4) (mC (.int 1))) aNil))))
  (sSeq (sIf (bz (bOr (bNot (bV (mCall 1 f_law_numbers (aCons (mVar 5) aNil)))) (bOr (bV (mBin neB (mVar 5) (mCall 2 f_law_pasted (aCons (mVar 1) (aCons (mVar 3) aNil))))) (bV (mBin neB (mVar 4) (mL (mLst (aCons (mVar 1) (aCons (mVar 3) aNil)))))))))
  (sRet (mC (.bl false)))
  sNil)
  (sSeq (sApp 5 (mC (.int 0)))
  (sIf (bV (mBin neB (mL (mCall 2 f_pasted (aCons (mBin ixD (mVar 4) (mC (.int 0))) (aCons (mBin ixD (mVar 4) (mC (.int 1))) aNil)))) (mL (mCut (iOw 5) oNone (oSome (mUn negD (mC (.int 1))))))))
  (sRet (mC (.bl false)))
  sNil))))))
  (sSeq (sSet 6 (mCall 1 f_law_deeds (aCons (mVar 0) aNil)))
  (sSeq (sFor (.nm 3) (mSeq (mL (mLst (aCons (mVar 6) (aCons (mL (mCut (iE (mVar 6)) oNone (oSome (mBin fdivD (mUn lenD (mVar 6)) (mC (.int 2)))))) (aCons (mL (mLst aNil)) aNil))))))
  (sSeq (sSet 4 (mL (mSeq (mVar 3))))
  (sSeq (sSetO 5 (mCall 1 f_grown (aCons (mVar 4) aNil)))
  (sSeq (sIf (bz (bOr (bNot (bV (mCall 1 f_law_numbers (aCons (mVar 5) aNil)))) (bOr (bV (mBin neB (mVar 5) (mCall 1 f_law_grown (aCons (mVar 3) aNil)))) (bV (mBin neB (mVar 4) (mVar 3))))))
  (sRet (mC (.bl false)))
  sNil)
  (sSeq (sApp 5 (mC (.int 0)))
  (sIf (bV (mBin neB (mL (mCall 1 f_grown (aCons (mVar 4) aNil))) (mL (mCut (iOw 5) oNone (oSome (mUn negD (mC (.int 1))))))))
  (sRet (mC (.bl false)))
  sNil))))))
  (sRet (mAnd (mBin eqB (mL (mCall 2 f_pasted (aCons (mL (mLst aNil)) (aCons (mL (mLst aNil)) aNil)))) (mL (mLst aNil))) (mBin eqB (mL (mCall 1 f_grown (aCons (mL (mLst (aCons (mTup (aCons (mC (.str "put")) (aCons (mC (.int 4)) aNil))) (aCons (mTup (aCons (mC (.str "copy")) (aCons (mC (.int 0)) (aCons (mC (.int 3)) aNil)))) aNil)))) aNil))) (mL (mLst (aCons (mC (.int 4)) (aCons (mC (.int 4)) (aCons (mC (.int 4)) (aCons (mC (.int 4)) aNil)))))))))))))))
def f_law : List D → Rs D := runF 7 m_law
end CL


set_option Elab.async false
set_option linter.all false
set_option maxRecDepth 100000
namespace CL
open PySem L2
/-! ### plain kinds of data -/
def isNum : D → Bool
  | .int _ => true
  | _ => false
def okD : D → Bool
  | .ins _ _ => false
  | .fn _ => false
  | .scr _ => false
  | _ => true
/-! ### comprehensions -/
theorem compD_map {i : Nat} {me : M} {z : List Sd} {g : D → D} : ∀ (ds : List D), (∀ d ∈ ds, me (z.set i (.sh d)) = .ok (g d)) → compD (.nm i) me z ds = .ok (ds.map g)
  | [], _ => rfl
  | d :: ds, h => by
    simp only [compD, setT, bnd_ok]
    rw [h d List.mem_cons_self, compD_map ds fun x hx => h x (List.mem_cons_of_mem _ hx)]
    rfl
theorem mComp_map {i : Nat} {vs : List Nat} {mi : ML} {me : M} {z : List Sd} {ds : List D} (g : D → D) (hi : mi z = .ok ds) (hl : ds.length ≤ sizeLine) (h : ∀ d ∈ ds, me ((wipeD z vs).set i (.sh d)) = .ok (g d)) : mComp (.nm i) vs mi me z = .ok (ds.map g) := by
  unfold mComp
  rw [hi, bnd_ok, if_pos hl]
  exact compD_map ds h
theorem asBs_of {α : Type} (f : α → Bool) (l : List α) : asBs (l.map fun x => D.bl (f x)) = some (l.map f) := by
  have := asBs_map (l.map f)
  rw [List.map_map] at this
  exact this
theorem mAll_comp {i : Nat} {vs : List Nat} {mi : ML} {me : M} {z : List Sd} {ds : List D} (g : D → Bool) (hi : mi z = .ok ds) (hl : ds.length ≤ sizeLine) (h : ∀ d ∈ ds, me ((wipeD z vs).set i (.sh d)) = .ok (.bl (g d))) : mAll (mComp (.nm i) vs mi me) z = .ok (.bl (ds.all g)) := by
  unfold mAll
  rw [mComp_map (fun d => D.bl (g d)) hi hl h, bnd_ok, asBs_of]
  show Rs.ok (D.bl ((ds.map g).all id)) = _
  rw [List.all_map]
  rfl
theorem mAny_comp {i : Nat} {vs : List Nat} {mi : ML} {me : M} {z : List Sd} {ds : List D} (g : D → Bool) (hi : mi z = .ok ds) (hl : ds.length ≤ sizeLine) (h : ∀ d ∈ ds, me ((wipeD z vs).set i (.sh d)) = .ok (.bl (g d))) : mAny (mComp (.nm i) vs mi me) z = .ok (.bl (ds.any g)) := by
  unfold mAny
  rw [mComp_map (fun d => D.bl (g d)) hi hl h, bnd_ok, asBs_of]
  show Rs.ok (D.bl ((ds.map g).any id)) = _
  rw [List.any_map]
  rfl
/-! ### steps -/
theorem sSeq_nx {m1 m2 : MS} {z z' : List Sd} (h : m1 z = .ok (.nx z')) : sSeq m1 m2 z = m2 z' := by unfold sSeq; rw [h]; rfl
theorem sSeq_rt {m1 m2 : MS} {z : List Sd} {d : D} (h : m1 z = .ok (.rt d)) : sSeq m1 m2 z = .ok (.rt d) := by unfold sSeq; rw [h]; rfl
theorem sSeq_exc {m1 m2 : MS} {z : List Sd} {c : Nat} (h : m1 z = .exc c) : sSeq m1 m2 z = .exc c := by unfold sSeq; rw [h]; rfl
theorem sIf_t {t : MB} {m1 m2 : MS} {z : List Sd} (h : t z = .ok true) : sIf t m1 m2 z = m1 z := by unfold sIf; rw [h]; rfl
theorem sIf_f {t : MB} {m1 m2 : MS} {z : List Sd} (h : t z = .ok false) : sIf t m1 m2 z = m2 z := by unfold sIf; rw [h]; rfl
theorem sIf_b {t : MB} {m1 m2 : MS} {z : List Sd} {b : Bool} (h : t z = .ok b) : sIf t m1 m2 z = if b then m1 z else m2 z := by unfold sIf; rw [h]; rfl
theorem bOr_f {a b : MB} {z : List Sd} (h : a z = .ok false) : bOr a b z = b z := by unfold bOr; rw [h]; rfl
theorem bOr_t {a b : MB} {z : List Sd} (h : a z = .ok true) : bOr a b z = .ok true := by unfold bOr; rw [h]; rfl
theorem bAnd_t {a b : MB} {z : List Sd} (h : a z = .ok true) : bAnd a b z = b z := by unfold bAnd; rw [h]; rfl
theorem bAnd_f {a b : MB} {z : List Sd} (h : a z = .ok false) : bAnd a b z = .ok false := by unfold bAnd; rw [h]; rfl
theorem bNot_b {a : MB} {z : List Sd} {b : Bool} (h : a z = .ok b) : bNot a z = .ok (!b) := by unfold bNot; rw [h]; rfl
theorem bV_b {a : M} {z : List Sd} {b : Bool} (h : a z = .ok (.bl b)) : bV a z = .ok b := by unfold bV; rw [h]; rfl
theorem mBin_ok {f : D → D → Option D} {a b : M} {z : List Sd} {x y d : D} (ha : a z = .ok x) (hb : b z = .ok y) (h : f x y = some d) : mBin f a b z = .ok d := by unfold mBin; rw [ha, bnd_ok, hb, bnd_ok, h]; rfl
theorem mUn_ok {f : D → Option D} {a : M} {z : List Sd} {x d : D} (ha : a z = .ok x) (h : f x = some d) : mUn f a z = .ok d := by unfold mUn; rw [ha, bnd_ok, h]; rfl
theorem sFor_ok {t : Tg} {mi : ML} {m : MS} {z : List Sd} {ds : List D} (h : mi z = .ok ds) : sFor t mi m z = forD t m ds z := by unfold sFor; rw [h]; rfl
theorem sRet_ok {m : M} {z : List Sd} {d : D} (h : m (frz z) = .ok d) : sRet m z = .ok (.rt d) := by unfold sRet; rw [h]; rfl
theorem sRetL_ok {m : ML} {z : List Sd} {d : List D} (h : m z = .ok d) : sRetL m z = .ok (.rl d) := by unfold sRetL; rw [h]; rfl
theorem sSet_ok {i : Nat} {m : M} {z : List Sd} {d : D} (h : m z = .ok d) : sSet i m z = .ok (.nx (z.set i (.sh d))) := by unfold sSet; rw [h]; rfl
theorem sSetO_ok {i : Nat} {m : ML} {z : List Sd} {d : List D} (h : m z = .ok d) : sSetO i m z = .ok (.nx (z.set i (.ow d))) := by unfold sSetO; rw [h]; rfl
theorem sExpr_ok {m : M} {z : List Sd} {d : D} (h : m z = .ok d) : sExpr m z = .ok (.nx z) := by unfold sExpr; rw [h]; rfl
theorem sExpr_exc {m : M} {z : List Sd} {c : Nat} (h : m z = .exc c) : sExpr m z = .exc c := by unfold sExpr; rw [h]; rfl
theorem mCall_ok {α : Type} {n : Nat} {f : List D → Rs α} {ms : ML} {z : List Sd} {ds : List D} (h : ms z = .ok ds) (hn : ds.length = n) : mCall n f ms z = f ds := by unfold mCall; rw [h, bnd_ok, if_pos hn]
theorem sExt_ok {i : Nat} {mi : ML} {z : List Sd} {ds es : List D} (h0 : z[i]? = some (.ow ds)) (h : mi z = .ok es) (hl : ds.length + es.length ≤ sizeLine) : sExt i mi z = .ok (.nx (z.set i (.ow (ds ++ es)))) := by
  unfold sExt
  rw [h0]
  dsimp only
  rw [h, bnd_ok, if_pos hl]
theorem sApp_ok {i : Nat} {m : M} {z : List Sd} {ds : List D} {d : D} (h0 : z[i]? = some (.ow ds)) (h : m z = .ok d) (hl : ds.length < sizeLine) : sApp i m z = .ok (.nx (z.set i (.ow (ds ++ [d])))) := by
  unfold sApp
  rw [h0]
  dsimp only
  rw [h, bnd_ok, if_pos hl]
theorem mCall_is {α : Type} {n : Nat} {f : List D → Rs α} {ms : ML} {z : List Sd} {ds : List D} {r : Rs α} (h : ms z = .ok ds) (hn : ds.length = n) (hf : f ds = r) : mCall n f ms z = r := (mCall_ok h hn).trans hf
theorem forD_nx {t : Tg} {m : MS} {d : D} {ds : List D} {z z1 z2 : List Sd} (h1 : setT t d z = .ok z1) (h2 : m z1 = .ok (.nx z2)) : forD t m (d :: ds) z = forD t m ds z2 := by
  simp only [forD]
  rw [h1, bnd_ok, h2, bnd_ok]
theorem forD_rt {t : Tg} {m : MS} {d r : D} {ds : List D} {z z1 : List Sd} (h1 : setT t d z = .ok z1) (h2 : m z1 = .ok (.rt r)) : forD t m (d :: ds) z = .ok (.rt r) := by
  simp only [forD]
  rw [h1, bnd_ok, h2, bnd_ok]
theorem while_t {t : MB} {m : MS} {n : Nat} {z z2 : List Sd} (h : t z = .ok true) (h2 : m z = .ok (.nx z2)) : whileD t m (n + 1) z = whileD t m n z2 := by
  simp only [whileD]
  rw [h, bnd_ok, if_pos rfl, h2, bnd_ok]
theorem while_f {t : MB} {m : MS} {n : Nat} {z : List Sd} (h : t z = .ok false) : whileD t m (n + 1) z = .ok (.nx z) := by
  simp only [whileD]
  rw [h, bnd_ok, if_neg Bool.false_ne_true]
theorem runF_rt {n : Nat} {m : MS} {ds : List D} {d : D} (h : m (st0 n ds) = .ok (.rt d)) : runF n m ds = .ok d := by unfold runF; rw [h]; rfl
theorem runF_rl {n : Nat} {m : MS} {ds xs : List D} (h : m (st0 n ds) = .ok (.rl xs)) : runF n m ds = .ok (.lst xs) := by unfold runF; rw [h]; rfl
theorem runL_rl {n : Nat} {m : MS} {ds xs : List D} (h : m (st0 n ds) = .ok (.rl xs)) : runL n m ds = .ok xs := by unfold runL; rw [h]; rfl
theorem runXL_rl {n : Nat} {m : MS} {ds xs : List D} (h : m (st0 n ds) = .ok (.rl xs)) : runXL n m ds = .ok xs := by unfold runXL; rw [h]; rfl
theorem runXL_exc {n : Nat} {m : MS} {ds : List D} {c : Nat} (h : m (st0 n ds) = .exc c) : runXL n m ds = .exc c := by unfold runXL; rw [h]; rfl
theorem runX_rt {n : Nat} {m : MS} {ds : List D} {d : D} (h : m (st0 n ds) = .ok (.rt d)) : runX n m ds = .ok d := by unfold runX; rw [h]; rfl
theorem runR_rl {n : Nat} {m : MS} {ds xs : List D} (h : m (st0 n ds) = .ok (.rl xs)) : runR n m ds = .ok (.own xs) := by unfold runR; rw [h]; rfl
theorem runR_rt {n : Nat} {m : MS} {ds : List D} {d : D} (h : m (st0 n ds) = .ok (.rt d)) : runR n m ds = .ok (.val d) := by unfold runR; rw [h]; rfl
theorem mAnd_ok {a b : M} {z : List Sd} {x y : Bool} (ha : a z = .ok (.bl x)) (hb : b z = .ok (.bl y)) : mAnd a b z = .ok (.bl (x && y)) := by
  unfold mAnd
  rw [ha, bnd_ok]
  cases x with
  | true => exact hb
  | false => rfl
theorem mAnd_f {a b : M} {z : List Sd} (ha : a z = .ok (.bl false)) : mAnd a b z = .ok (.bl false) := by
  unfold mAnd
  rw [ha]
  rfl
theorem mAnd_t {a b : M} {z : List Sd} (ha : a z = .ok (.bl true)) : mAnd a b z = b z := by
  unfold mAnd
  rw [ha]
  rfl
theorem mOr_f {a b : M} {z : List Sd} (ha : a z = .ok (.bl false)) : mOr a b z = b z := by
  unfold mOr
  rw [ha]
  rfl
theorem mOr_t {a b : M} {z : List Sd} (ha : a z = .ok (.bl true)) : mOr a b z = .ok (.bl true) := by
  unfold mOr
  rw [ha]
  rfl
theorem chain_ll {a b c : M} {z : List Sd} {i j k : Int} (ha : a z = .ok (.int i)) (hb : b z = .ok (.int j)) (hc : c z = .ok (.int k)) : mChain leD ltD a b c z = .ok (.bl (decide (i ≤ j ∧ j < k))) := by
  unfold mChain
  rw [ha, bnd_ok, hb, bnd_ok]
  show (match D.bl (decide (i ≤ j)) with | .bl true => _ | .bl false => _ | _ => _) = _
  by_cases h : i ≤ j
  · rw [decide_eq_true h]
    show (c z).bnd _ = _
    rw [hc]
    show Rs.ok (D.bl (decide (j < k))) = _
    by_cases h2 : j < k
    · rw [decide_eq_true h2, decide_eq_true ⟨h, h2⟩]
    · rw [decide_eq_false h2, decide_eq_false fun q => h2 q.2]
  · rw [decide_eq_false h, decide_eq_false fun q => h q.1]
theorem chain_lt2 {a b c : M} {z : List Sd} {i j k : Int} (ha : a z = .ok (.int i)) (hb : b z = .ok (.int j)) (hc : c z = .ok (.int k)) : mChain ltD ltD a b c z = .ok (.bl (decide (i < j ∧ j < k))) := by
  unfold mChain
  rw [ha, bnd_ok, hb, bnd_ok]
  show (match D.bl (decide (i < j)) with | .bl true => _ | .bl false => _ | _ => _) = _
  by_cases h : i < j
  · rw [decide_eq_true h]
    show (c z).bnd _ = _
    rw [hc]
    show Rs.ok (D.bl (decide (j < k))) = _
    by_cases h2 : j < k
    · rw [decide_eq_true h2, decide_eq_true ⟨h, h2⟩]
    · rw [decide_eq_false h2, decide_eq_false fun q => h2 q.2]
  · rw [decide_eq_false h, decide_eq_false fun q => h q.1]
/-! ### is_number, check_row -/
theorem is_number_eq {d : D} (h : okD d = true) : f_is_number [d] = .ok (.bl (isNum d)) := by
  cases d <;> first | rfl | exact absurd (show false = true from h) Bool.false_ne_true
theorem check_row_eq {ds : List D} (h : ∀ d ∈ ds, okD d = true) (hl : ds.length ≤ sizeLine) : f_check_row [.lst ds] = if ds.all isNum then .ok .non else .exc 0 := by
  have e : mAll (mComp (.nm 1) [1] (mSeq (mVar 0)) (mCall 1 f_is_number (aCons (mVar 1) aNil))) [.sh (.lst ds), .no] = .ok (.bl (ds.all isNum)) :=
    mAll_comp isNum rfl hl fun d hd => is_number_eq (h d hd)
  simp only [f_check_row, runX, m_check_row, st0, List.length_cons, List.length_nil, List.map_cons, List.map_nil, List.replicate, List.cons_append, List.nil_append, sIf, bOr, bNot, bV, mUn, e]
  cases ds.all isNum <;> rfl
theorem check_row_not {d : D} (h : okD d = true) (hl : ∀ ds, d ≠ .lst ds) : f_check_row [d] = .exc 0 := by
  cases d <;> first | rfl | exact absurd (show false = true from h) Bool.false_ne_true | exact absurd rfl (hl _)
theorem ok_ints (ns : List Int) : ∀ d ∈ ns.map D.int, okD d = true := by
  intro d hd
  obtain ⟨n, _, rfl⟩ := List.mem_map.mp hd
  rfl
theorem all_ints (ns : List Int) : (ns.map D.int).all isNum = true := by
  rw [List.all_eq_true]
  intro d hd
  obtain ⟨n, _, rfl⟩ := List.mem_map.mp hd
  rfl
theorem check_row_ints {ns : List Int} (hl : ns.length ≤ sizeLine) : f_check_row [.lst (ns.map .int)] = .ok .non := by
  rw [check_row_eq (ok_ints ns) (by rw [List.length_map]; exact hl), all_ints]
  rfl
/-! ### is_clipping -/
def isClip (n : Nat) (d : D) : Bool := match d with
  | .tup [.int p, .int m, .int s] => decide (1 ≤ m ∧ (s = 1 ∨ s = -1) ∧ (0 ≤ p ∧ p < n) ∧ 0 ≤ p + s * (m - 1) ∧ p + s * (m - 1) < n)
  | _ => false
theorem isClip_num {n : Nat} {ds : List D} (h : ¬ (ds.length = 3 ∧ ds.all isNum = true)) : isClip n (.tup ds) = false := by
  unfold isClip
  split
  · rename_i p m s e
    cases e
    exact absurd ⟨rfl, rfl⟩ h
  · rfl
theorem nums3 {ds : List D} (h : ds.length = 3) (hn : ds.all isNum = true) : ∃ p m s, ds = [.int p, .int m, .int s] := by
  match ds, h with
  | [a, b, c], _ =>
    simp only [List.all_cons, List.all_nil, Bool.and_true, Bool.and_eq_true] at hn
    obtain ⟨ha, hb, hc⟩ := hn
    cases a <;> first | exact absurd (show false = true from ha) Bool.false_ne_true | skip
    cases b <;> first | exact absurd (show false = true from hb) Bool.false_ne_true | skip
    cases c <;> first | exact absurd (show false = true from hc) Bool.false_ne_true | skip
    exact ⟨_, _, _, rfl⟩
theorem eqD_int (i j : Int) : eqD (.int i) (.int j) = some (i == j) := rfl
theorem is_clipping_eq {sh : List D} {d : D} (h : okD d = true) (h2 : ∀ ds, d = .tup ds → (∀ x ∈ ds, okD x = true) ∧ ds.length ≤ sizeLine) : f_is_clipping [.lst sh, d] = .ok (.bl (isClip sh.length d)) := by
  cases d <;> first | rfl | exact absurd (show false = true from h) Bool.false_ne_true | skip
  rename_i ds
  obtain ⟨hk, hl⟩ := h2 ds rfl
  have e : mAll (mComp (.nm 2) [2] (mSeq (mVar 1)) (mCall 1 f_is_number (aCons (mVar 2) aNil))) [.sh (.lst sh), .sh (.tup ds), .no, .no, .no, .no] = .ok (.bl (ds.all isNum)) :=
    mAll_comp isNum rfl hl fun d hd => is_number_eq (hk d hd)
  by_cases h3 : ds.length = 3
  · cases hn : ds.all isNum with
    | false =>
      rw [isClip_num fun q => by rw [hn] at q; exact Bool.false_ne_true q.2]
      rw [hn] at e
      have e3 : ((ds.length : Int) == 3) = true := by rw [h3]; rfl
      simp [f_is_clipping, runF, m_is_clipping, Rs.bnd, ofO, noX, mVar, mC, mBin, mUn, mAnd, mOr, mIf, mChain, mTup, mLst, mL, aNil, aCons, tupD, lstD, bV, bNot, bAnd, bOr, asB, sSeq, sIf, sRet, sRetL, sRetO, sRetV, sRetN, sSet, sSetO, sSetR, sExpr, sNil, sAsg, sPar, sParO, sPar3, sAug, sApp, sExt, sRaise, setT, setAll, retD, retL, retR, rvS, rvD, rE, rL, rIf, mR, st0, frz, bz, mz, flatD, isTy, isB, lenD, mLenI, iOw, iE, asL, asI, asT, asSeq, mSeq, intD, ltD, leD, gtD, geD, subD, notD, negD, oNone, oSome, mIxI, ixD, ixL, mCall, isD, isN, wipeD, asS, sizeLine_eq, List.getElem?_cons_zero, List.getElem?_cons_succ, List.set_cons_zero, List.set_cons_succ, neB, eqD_int, e, e3]
    | true =>
      obtain ⟨p, m, s, rfl⟩ := nums3 h3 hn
      rw [hn] at e
      simp only [f_is_clipping, runF, m_is_clipping, st0, List.length_cons, List.length_nil, List.map_cons, List.map_nil, List.replicate, List.cons_append, List.nil_append, sSeq, sIf, bOr, bNot, bV, e]
      by_cases hm : m < 1
      · have hi : isClip sh.length (.tup [.int p, .int m, .int s]) = false := decide_eq_false (by omega)
        rw [hi]
        simp [Rs.bnd, ofO, noX, mVar, mC, mBin, mUn, mAnd, mOr, mIf, mChain, mTup, mLst, mL, aNil, aCons, tupD, lstD, bV, bNot, bAnd, bOr, asB, sSeq, sIf, sRet, sRetL, sRetO, sRetV, sRetN, sSet, sSetO, sSetR, sExpr, sNil, sAsg, sPar, sParO, sPar3, sAug, sApp, sExt, sRaise, setT, setAll, retD, retL, retR, rvS, rvD, rE, rL, rIf, mR, st0, frz, bz, mz, flatD, isTy, isB, lenD, mLenI, iOw, iE, asL, asI, asT, asSeq, mSeq, intD, ltD, leD, gtD, geD, subD, notD, negD, oNone, oSome, mIxI, ixD, ixL, mCall, isD, isN, wipeD, asS, sizeLine_eq, List.getElem?_cons_zero, List.getElem?_cons_succ, List.set_cons_zero, List.set_cons_succ, neB, eqD_int, hm]
      · by_cases hs : s = 1 ∨ s = -1
        · have hin : (inD true (.int s) (.tup [.int 1, .int (-1)])) = some (.bl false) := by
            rcases hs with rfl | rfl <;> rfl
          have hmul : mulOk s (m - 1) = true := decide_eq_true (.inl (by rcases hs with rfl | rfl <;> decide))
          have hi : isClip sh.length (.tup [.int p, .int m, .int s]) = (decide (0 ≤ p ∧ p < sh.length) && decide (0 ≤ p + s * (m - 1) ∧ p + s * (m - 1) < sh.length)) := by
            rw [← Bool.decide_and]
            refine decide_eq_decide.mpr ⟨fun q => q.2.2, fun q => ⟨by omega, hs, q⟩⟩
          rw [hi]
          by_cases h0 : 0 ≤ p
          · by_cases h1 : p < sh.length
            · by_cases h4 : 0 ≤ p + s * (m - 1)
              · simp [Rs.bnd, ofO, noX, mVar, mC, mBin, mUn, mAnd, mOr, mIf, mChain, mTup, mLst, mL, aNil, aCons, tupD, lstD, bV, bNot, bAnd, bOr, asB, sSeq, sIf, sRet, sRetL, sRetO, sRetV, sRetN, sSet, sSetO, sSetR, sExpr, sNil, sAsg, sPar, sParO, sPar3, sAug, sApp, sExt, sRaise, setT, setAll, retD, retL, retR, rvS, rvD, rE, rL, rIf, mR, st0, frz, bz, mz, flatD, isTy, isB, lenD, mLenI, iOw, iE, asL, asI, asT, asSeq, mSeq, intD, ltD, leD, gtD, geD, subD, notD, negD, oNone, oSome, mIxI, ixD, ixL, mCall, isD, isN, wipeD, asS, sizeLine_eq, List.getElem?_cons_zero, List.getElem?_cons_succ, List.set_cons_zero, List.set_cons_succ, neB, eqD_int, hm, hin, mulD, intC, hmul, addD, h0, h1, h4]
              · simp [Rs.bnd, ofO, noX, mVar, mC, mBin, mUn, mAnd, mOr, mIf, mChain, mTup, mLst, mL, aNil, aCons, tupD, lstD, bV, bNot, bAnd, bOr, asB, sSeq, sIf, sRet, sRetL, sRetO, sRetV, sRetN, sSet, sSetO, sSetR, sExpr, sNil, sAsg, sPar, sParO, sPar3, sAug, sApp, sExt, sRaise, setT, setAll, retD, retL, retR, rvS, rvD, rE, rL, rIf, mR, st0, frz, bz, mz, flatD, isTy, isB, lenD, mLenI, iOw, iE, asL, asI, asT, asSeq, mSeq, intD, ltD, leD, gtD, geD, subD, notD, negD, oNone, oSome, mIxI, ixD, ixL, mCall, isD, isN, wipeD, asS, sizeLine_eq, List.getElem?_cons_zero, List.getElem?_cons_succ, List.set_cons_zero, List.set_cons_succ, neB, eqD_int, hm, hin, mulD, intC, hmul, addD, h0, h1, h4]
            · simp [Rs.bnd, ofO, noX, mVar, mC, mBin, mUn, mAnd, mOr, mIf, mChain, mTup, mLst, mL, aNil, aCons, tupD, lstD, bV, bNot, bAnd, bOr, asB, sSeq, sIf, sRet, sRetL, sRetO, sRetV, sRetN, sSet, sSetO, sSetR, sExpr, sNil, sAsg, sPar, sParO, sPar3, sAug, sApp, sExt, sRaise, setT, setAll, retD, retL, retR, rvS, rvD, rE, rL, rIf, mR, st0, frz, bz, mz, flatD, isTy, isB, lenD, mLenI, iOw, iE, asL, asI, asT, asSeq, mSeq, intD, ltD, leD, gtD, geD, subD, notD, negD, oNone, oSome, mIxI, ixD, ixL, mCall, isD, isN, wipeD, asS, sizeLine_eq, List.getElem?_cons_zero, List.getElem?_cons_succ, List.set_cons_zero, List.set_cons_succ, neB, eqD_int, hm, hin, mulD, intC, hmul, addD, h0, h1]
          · simp [Rs.bnd, ofO, noX, mVar, mC, mBin, mUn, mAnd, mOr, mIf, mChain, mTup, mLst, mL, aNil, aCons, tupD, lstD, bV, bNot, bAnd, bOr, asB, sSeq, sIf, sRet, sRetL, sRetO, sRetV, sRetN, sSet, sSetO, sSetR, sExpr, sNil, sAsg, sPar, sParO, sPar3, sAug, sApp, sExt, sRaise, setT, setAll, retD, retL, retR, rvS, rvD, rE, rL, rIf, mR, st0, frz, bz, mz, flatD, isTy, isB, lenD, mLenI, iOw, iE, asL, asI, asT, asSeq, mSeq, intD, ltD, leD, gtD, geD, subD, notD, negD, oNone, oSome, mIxI, ixD, ixL, mCall, isD, isN, wipeD, asS, sizeLine_eq, List.getElem?_cons_zero, List.getElem?_cons_succ, List.set_cons_zero, List.set_cons_succ, neB, eqD_int, hm, hin, mulD, intC, hmul, addD, h0]
        · have hin : (inD true (.int s) (.tup [.int 1, .int (-1)])) = some (.bl true) := by
            have h1 : (1 : Int) ≠ s := fun q => hs (.inl q.symm)
            have h2 : (-1 : Int) ≠ s := fun q => hs (.inr q.symm)
            simp [inD, flatD, eqF, h1, h2]
          have hi : isClip sh.length (.tup [.int p, .int m, .int s]) = false := decide_eq_false fun q => hs q.2.1
          rw [hi]
          simp [Rs.bnd, ofO, noX, mVar, mC, mBin, mUn, mAnd, mOr, mIf, mChain, mTup, mLst, mL, aNil, aCons, tupD, lstD, bV, bNot, bAnd, bOr, asB, sSeq, sIf, sRet, sRetL, sRetO, sRetV, sRetN, sSet, sSetO, sSetR, sExpr, sNil, sAsg, sPar, sParO, sPar3, sAug, sApp, sExt, sRaise, setT, setAll, retD, retL, retR, rvS, rvD, rE, rL, rIf, mR, st0, frz, bz, mz, flatD, isTy, isB, lenD, mLenI, iOw, iE, asL, asI, asT, asSeq, mSeq, intD, ltD, leD, gtD, geD, subD, notD, negD, oNone, oSome, mIxI, ixD, ixL, mCall, isD, isN, wipeD, asS, sizeLine_eq, List.getElem?_cons_zero, List.getElem?_cons_succ, List.set_cons_zero, List.set_cons_succ, neB, eqD_int, hm, hin]
  · rw [isClip_num fun q => h3 q.1]
    have e3 : ((ds.length : Int) == 3) = false := beq_eq_false_iff_ne.mpr (by omega)
    simp [f_is_clipping, runF, m_is_clipping, Rs.bnd, ofO, noX, mVar, mC, mBin, mUn, mAnd, mOr, mIf, mChain, mTup, mLst, mL, aNil, aCons, tupD, lstD, bV, bNot, bAnd, bOr, asB, sSeq, sIf, sRet, sRetL, sRetO, sRetV, sRetN, sSet, sSetO, sSetR, sExpr, sNil, sAsg, sPar, sParO, sPar3, sAug, sApp, sExt, sRaise, setT, setAll, retD, retL, retR, rvS, rvD, rE, rL, rIf, mR, st0, frz, bz, mz, flatD, isTy, isB, lenD, mLenI, iOw, iE, asL, asI, asT, asSeq, mSeq, intD, ltD, leD, gtD, geD, subD, notD, negD, oNone, oSome, mIxI, ixD, ixL, mCall, isD, isN, wipeD, asS, sizeLine_eq, List.getElem?_cons_zero, List.getElem?_cons_succ, List.set_cons_zero, List.set_cons_succ, neB, eqD_int, e3]
/-! ### clipped, pasted_of, pasted -/
def clipL (sh : List D) (p m s : Int) : List D := (List.range m.toNat).map fun (i : Nat) => sh.getD (p + s * (i : Nat)).toNat .non
def clipD (sh : List D) : D → List D
  | .tup [.int p, .int m, .int s] => clipL sh p m s
  | _ => []
theorem isClip_iff {n : Nat} {p m s : Int} : isClip n (.tup [.int p, .int m, .int s]) = true ↔ (1 ≤ m ∧ (s = 1 ∨ s = -1) ∧ (0 ≤ p ∧ p < n) ∧ 0 ≤ p + s * (m - 1) ∧ p + s * (m - 1) < n) := decide_eq_true_iff
theorem isClip_shape {n : Nat} {d : D} (h : isClip n d = true) : ∃ p m s, d = .tup [.int p, .int m, .int s] := by
  unfold isClip at h
  split at h
  · exact ⟨_, _, _, rfl⟩
  · cases h
theorem clip_in {n : Nat} {p m s : Int} (h : isClip n (.tup [.int p, .int m, .int s]) = true) {i : Nat} (hi : i < m.toNat) : 0 ≤ p + s * (i : Nat) ∧ p + s * (i : Nat) < n := by
  obtain ⟨h1, hs, h2, h3, h4⟩ := isClip_iff.mp h
  rcases hs with rfl | rfl <;> omega
theorem clip_le {n : Nat} {p m s : Int} (h : isClip n (.tup [.int p, .int m, .int s]) = true) : m ≤ n := by
  obtain ⟨h1, hs, h2, h3, h4⟩ := isClip_iff.mp h
  rcases hs with rfl | rfl <;> omega
theorem atI_in {xs : List D} {i : Int} (h0 : 0 ≤ i) (h1 : i < xs.length) : atI xs i = some (xs.getD i.toNat .non) := by
  unfold atI ixN
  rw [if_pos h0, if_pos h1]
  have : i.toNat < xs.length := by omega
  show xs[i.toNat]? = _
  rw [List.getD_eq_getElem?_getD, List.getElem?_eq_getElem this]
  rfl
theorem mem_rgD {lo : Int} {n : Nat} {d : D} (h : d ∈ rgD lo n) : ∃ i : Nat, i < n ∧ d = .int (lo + i) := by
  unfold rgD at h
  obtain ⟨i, hi, rfl⟩ := List.mem_map.mp h
  exact ⟨i, List.mem_range.mp hi, rfl⟩
theorem rgD_length (lo : Int) (n : Nat) : (rgD lo n).length = n := by unfold rgD; rw [List.length_map, List.length_range]
theorem mulD_pm {s j : Int} (hs : s = 1 ∨ s = -1) : mulD (.int s) (.int j) = some (.int (s * j)) := by
  have h : mulOk s j = true := decide_eq_true (Or.inl (by rcases hs with rfl | rfl <;> decide))
  show (if mulOk s j = true then some (D.int (s * j)) else none) = _
  rw [if_pos h]
theorem clipped_eq {sh : List D} {p m s : Int} (h : isClip sh.length (.tup [.int p, .int m, .int s]) = true) (hl : sh.length ≤ sizeLine) : f_clipped [.lst sh, .tup [.int p, .int m, .int s]] = .ok (clipL sh p m s) := by
  have hm := clip_le h
  have hs : s = 1 ∨ s = -1 := (isClip_iff.mp h).2.1
  have hm1 : 1 ≤ m := (isClip_iff.mp h).1
  have hl2 : (sh.length : Int) ≤ 16777216 := by rw [sizeLine_eq] at hl; omega
  have er : rng1 [.int m] = some (rgD 0 m.toNat) := by
    simp only [rng1]
    rw [if_pos ⟨by omega, by omega⟩]
  have e : mComp (.nm 5) [5] (mOf rng1 (aCons (mVar 3) aNil)) (mBin ixD (mVar 0) (mBin addD (mVar 2) (mBin mulD (mVar 4) (mVar 5)))) [.sh (.lst sh), .sh (.tup [.int p, .int m, .int s]), .sh (.int p), .sh (.int m), .sh (.int s), .no]
      = .ok ((rgD 0 m.toNat).map fun d => match d with | .int i => sh.getD (p + s * i).toNat .non | _ => .non) := by
    refine mComp_map (ds := rgD 0 m.toNat) _ ?_ (by rw [rgD_length, sizeLine_eq]; omega) fun d hd => ?_
    · show ofO (rng1 [.int m]) = _
      rw [er]
      rfl
    · obtain ⟨i, hi, rfl⟩ := mem_rgD hd
      obtain ⟨g0, g1⟩ := clip_in h hi
      have hmul := mulD_pm (j := 0 + (i : Int)) hs
      have ha := atI_in (xs := sh) (i := p + s * (0 + (i : Int))) (by rw [Int.zero_add]; exact g0) (by rw [Int.zero_add]; exact g1)
      exact mBin_ok rfl (mBin_ok rfl (mBin_ok rfl rfl hmul) rfl) ha
  have e2 : ((rgD 0 m.toNat).map fun d => match d with | .int i => sh.getD (p + s * i).toNat .non | _ => .non) = clipL sh p m s := by
    unfold rgD clipL
    rw [List.map_map]
    apply List.map_congr_left
    intro i _
    show sh.getD (p + s * (0 + (i : Int))).toNat .non = _
    rw [Int.zero_add]
  rw [e2] at e
  refine runL_rl ?_
  unfold m_clipped
  rw [sSeq_nx (z' := [.sh (.lst sh), .sh (.tup [.int p, .int m, .int s]), .sh (.int p), .sh (.int m), .sh (.int s), .no]) rfl]
  exact sRetL_ok e
theorem clipL_length (sh : List D) (p m s : Int) : (clipL sh p m s).length = m.toNat := by unfold clipL; rw [List.length_map, List.length_range]
def pasteL (sh : List D) (cs : List D) : List D := cs.flatMap (clipD sh)
abbrev m_paste1 : MS := sExt 2 (mCall 2 f_clipped (aCons (mVar 0) (aCons (mVar 3) aNil)))
theorem paste_for {sh cs0 : List D} (hl : sh.length ≤ sizeLine) : ∀ (cs acc : List D) (x : Sd), (∀ c ∈ cs, isClip sh.length c = true) → acc.length + (pasteL sh cs).length ≤ sizeLine →
    ∃ x', forD (.nm 3) m_paste1 cs [.sh (.lst sh), .sh (.lst cs0), .ow acc, x] = .ok (.nx [.sh (.lst sh), .sh (.lst cs0), .ow (acc ++ pasteL sh cs), x'])
  | [], acc, x, _, _ => ⟨x, by simp [forD, pasteL]⟩
  | c :: cs, acc, x, hc, hz => by
    have h1 := hc c List.mem_cons_self
    obtain ⟨p, m, s, rfl⟩ := isClip_shape h1
    have e1 := clipped_eq h1 hl
    have hp : pasteL sh (.tup [.int p, .int m, .int s] :: cs) = clipL sh p m s ++ pasteL sh cs := by unfold pasteL; rw [List.flatMap_cons]; rfl
    rw [hp, List.length_append] at hz
    obtain ⟨x', ih⟩ := paste_for (cs0 := cs0) hl cs (acc ++ clipL sh p m s) (.sh (.tup [.int p, .int m, .int s])) (fun c h => hc c (List.mem_cons_of_mem _ h)) (by rw [List.length_append]; omega)
    refine ⟨x', ?_⟩
    have e2 : m_paste1 [.sh (.lst sh), .sh (.lst cs0), .ow acc, .sh (.tup [.int p, .int m, .int s])] = .ok (.nx [.sh (.lst sh), .sh (.lst cs0), .ow (acc ++ clipL sh p m s), .sh (.tup [.int p, .int m, .int s])]) := by
      have hz2 : acc.length + (clipL sh p m s).length ≤ sizeLine := by omega
      unfold m_paste1
      exact sExt_ok (ds := acc) (i := 2) rfl (mCall_is (ds := [.lst sh, .tup [.int p, .int m, .int s]]) rfl rfl e1) hz2
    rw [hp, ← List.append_assoc, ← ih]
    exact forD_nx rfl e2
theorem pasted_of_eq {sh cs : List D} (hl : sh.length ≤ sizeLine) (hc : ∀ c ∈ cs, isClip sh.length c = true) (hz : (pasteL sh cs).length ≤ sizeLine) : f_pasted_of [.lst sh, .lst cs] = .ok (pasteL sh cs) := by
  obtain ⟨x', e⟩ := paste_for (cs0 := cs) hl cs [] .no hc (by simpa using hz)
  rw [List.nil_append] at e
  refine runL_rl ?_
  unfold m_pasted_of
  exact (sSeq_nx (z' := [.sh (.lst sh), .sh (.lst cs), .ow [], .no]) rfl).trans ((sSeq_nx ((sFor_ok rfl).trans e)).trans rfl)
/-- what a clipping's test asks of a datum -/
def okC (d : D) : Prop := okD d = true ∧ ∀ ds, d = .tup ds → (∀ x ∈ ds, okD x = true) ∧ ds.length ≤ sizeLine
theorem isClip_ok {n : Nat} {d : D} (h : isClip n d = true) : okC d := by
  obtain ⟨p, m, s, rfl⟩ := isClip_shape h
  refine ⟨rfl, fun ds e => ?_⟩
  cases e
  refine ⟨fun x hx => ?_, by rw [sizeLine_eq]; show 3 ≤ 16777216; decide⟩
  simp only [List.mem_cons, List.not_mem_nil, or_false] at hx
  rcases hx with rfl | rfl | rfl <;> rfl
theorem pasted_eq {ns : List Int} {cs : List D} (hl : ns.length ≤ sizeLine) (hcl : cs.length ≤ sizeLine) (hc : ∀ c ∈ cs, isClip ns.length c = true) (hz : (pasteL (ns.map .int) cs).length ≤ sizeLine) : f_pasted [.lst (ns.map .int), .lst cs] = .ok (pasteL (ns.map .int) cs) := by
  have e : mAll (mComp (.nm 2) [2] (mSeq (mVar 1)) (mCall 2 f_is_clipping (aCons (mVar 0) (aCons (mVar 2) aNil)))) [.sh (.lst (ns.map .int)), .sh (.lst cs), .no] = .ok (.bl true) := by
    rw [mAll_comp (ds := cs) (isClip ns.length) rfl hcl fun d hd => ?_]
    · rw [List.all_eq_true.mpr hc]
    · have := is_clipping_eq (sh := ns.map .int) (isClip_ok (hc d hd)).1 (isClip_ok (hc d hd)).2
      rw [List.length_map] at this
      exact this
  have e2 : f_pasted_of [.lst (ns.map .int), .lst cs] = .ok (pasteL (ns.map .int) cs) := pasted_of_eq (by rw [List.length_map]; exact hl) (by rw [List.length_map]; exact hc) hz
  refine runXL_rl ?_
  unfold m_pasted
  have e3 : sExpr (mCall 1 f_check_row (aCons (mVar 0) aNil)) (st0 3 [.lst (ns.map .int), .lst cs]) = .ok (.nx [.sh (.lst (ns.map .int)), .sh (.lst cs), .no]) := sExpr_ok (mCall_is (ds := [.lst (ns.map .int)]) rfl rfl (check_row_ints hl))
  refine (sSeq_nx e3).trans ((sSeq_nx ((sIf_f ((bOr_f rfl).trans (bNot_b (bV_b e)))).trans rfl)).trans ?_)
  exact sRetL_ok (mCall_is (ds := [.lst (ns.map .int), .lst cs]) rfl rfl e2)
end CL


set_option Elab.async false
set_option linter.all false
set_option maxRecDepth 100000
namespace CL
open PySem L2
/-! ### is_deed -/
def isS (s : Str) : D → Bool
  | .str x => x == s
  | _ => false
/-- a flat datum whose text, if it is one, is a text -/
def headOk : D → Bool
  | .str x => PyData.strOk x
  | d => flatD d
theorem eqB_str {h : D} {s : Str} (f : headOk h = true) (hs : PyData.strOk s = true) : eqB h (.str s) = some (.bl (isS s h)) := by
  have sh : SeqAt.shaped (.str s) = true := by
    unfold SeqAt.shaped
    simp [PyData.canLay0, hs, PyData.depth]
  cases h <;> first | exact absurd (show false = true from f) Bool.false_ne_true | skip
  · simp [eqB, eqD, toPy, sh, SeqAt.shaped, PyData.canLay0, PyData.depth, hs, PyData.eqv, isS]
  · simp [eqB, eqD, toPy, sh, SeqAt.shaped, PyData.canLay0, PyData.depth, hs, PyData.eqv, isS]
  · simp [eqB, eqD, toPy, sh, SeqAt.shaped, PyData.canLay0, PyData.depth, hs, PyData.eqv, isS]
  · rename_i x
    have hx : PyData.strOk x = true := f
    simp [eqB, eqD, toPy, sh, SeqAt.shaped, PyData.canLay0, PyData.depth, hs, hx, PyData.eqv, isS]
theorem ok_put : PyData.strOk "put" = true := by decide +kernel
theorem ok_copy : PyData.strOk "copy" = true := by decide +kernel
def isDeed (n : Nat) (d : D) : Bool := match d with
  | .tup [h, .int _] => isS "put" h
  | .tup [h, .int p, .int m] => isS "copy" h && (decide (0 ≤ p ∧ p < n) && decide (0 < m))
  | _ => false
/-- what a deed's test asks of a datum -/
def okE (d : D) : Prop := okD d = true ∧ ∀ ds, d = .tup ds → ds.length ≤ sizeLine ∧ (∀ h, ds.head? = some h → headOk h = true) ∧ ∀ x ∈ ds.tail, okD x = true
theorem nums1 {b : D} (h : isNum b = true) : ∃ p, b = .int p := by
  cases b <;> first | exact absurd (show false = true from h) Bool.false_ne_true | exact ⟨_, rfl⟩
theorem isDeed_two {n : Nat} {a b : D} : isDeed n (.tup [a, b]) = (isNum b && isS "put" a) := by
  cases b <;> rfl
theorem isDeed_three {n : Nat} {a b c : D} (h : (isNum b && isNum c) = false) : isDeed n (.tup [a, b, c]) = false := by
  cases b <;> first | rfl | skip
  cases c <;> first | rfl | exact absurd (show true = false from h) (by decide)
theorem isDeed_long {n : Nat} {a b c d : D} {r : List D} : isDeed n (.tup (a :: b :: c :: d :: r)) = false := by
  cases b <;> first | rfl | skip
  cases c <;> rfl
abbrev t_deed : MB := bOr (bNot (bV (mUn (isTy .tuple) (mVar 0)))) (bOr (bV (mBin (inD true) (mUn lenD (mVar 0)) (mTup (aCons (mC (.int 2)) (aCons (mC (.int 3)) aNil))))) (bNot (bV (mAll (mComp (.nm 2) [2] (mSeq (mCutT (mVar 0) (oSome (mC (.int 1))) oNone)) (mCall 1 f_is_number (aCons (mVar 2) aNil)))))))
theorem mTup_ok {ms : ML} {z : List Sd} {ds : List D} (h : ms z = .ok ds) (hl : ds.length ≤ sizeLine) : mTup ms z = .ok (.tup ds) := by
  unfold mTup tupD
  rw [h, bnd_ok, if_pos hl]
  rfl
theorem le_line {n : Nat} (h : n ≤ 16777216) : n ≤ sizeLine := by rw [sizeLine_eq]; exact h
theorem deed_all {z : List Sd} {ds : List D} (h0 : z[0]? = some (.sh (.tup ds))) (hz : ds.length ≤ sizeLine) (h2 : 2 ≤ ds.length) (hk : ∀ x ∈ ds.tail, okD x = true) (hzl : 2 < z.length) :
    mAll (mComp (.nm 2) [2] (mSeq (mCutT (mVar 0) (oSome (mC (.int 1))) oNone)) (mCall 1 f_is_number (aCons (mVar 2) aNil))) z = .ok (.bl (ds.tail.all isNum)) := by
  have ec : cutT ds (some 1) none = some (.tup ds.tail) := by
    unfold cutT
    have e1 : HT.sIx ds.length 0 (some 1) = 1 := by
      rw [show (1 : Int) = ((1 : Nat) : Int) from rfl, HT.sIx_nat]
      omega
    rw [if_neg (by rw [e1]; omega)]
    unfold cutD
    rw [e1, HT.sIx_none, List.drop_one, List.take_of_length_le (by rw [List.length_tail]; omega)]
  have es : mSeq (mCutT (mVar 0) (oSome (mC (.int 1))) oNone) z = .ok ds.tail := by
    have ev : mVar 0 z = .ok (.tup ds) := by unfold mVar; rw [h0]
    unfold mSeq mCutT
    rw [ev, bnd_ok]
    show (ofO (cutT ds (some 1) none)).bnd _ = _
    rw [ec]
    rfl
  refine mAll_comp isNum es (by rw [List.length_tail]; omega) fun d hd => ?_
  have ev : mVar 2 ((wipeD z [2]).set 2 (.sh d)) = .ok d := by
    unfold mVar wipeD wipeD
    rw [List.getElem?_set_self (by rw [List.length_set]; exact hzl)]
  refine mCall_is (ds := [d]) ?_ rfl (is_number_eq (hk d hd))
  unfold aCons aNil
  rw [ev]
  rfl
theorem len_in {z : List Sd} {ds : List D} (h0 : z[0]? = some (.sh (.tup ds))) : bV (mBin (inD true) (mUn lenD (mVar 0)) (mTup (aCons (mC (.int 2)) (aCons (mC (.int 3)) aNil)))) z = .ok (!(decide (ds.length = 2) || decide (ds.length = 3))) := by
  have ev : mVar 0 z = .ok (.tup ds) := by unfold mVar; rw [h0]
  refine bV_b (mBin_ok (mUn_ok ev rfl) (mTup_ok rfl (le_line (by show 2 ≤ 16777216; decide))) ?_)
  have e1 : decide (ds.length = 2) = ((2 : Int) == (ds.length : Int)) := by
    rw [Bool.eq_iff_iff, decide_eq_true_iff, beq_iff_eq]; omega
  have e2 : decide (ds.length = 3) = ((3 : Int) == (ds.length : Int)) := by
    rw [Bool.eq_iff_iff, decide_eq_true_iff, beq_iff_eq]; omega
  rw [e1, e2]
  simp [inD, flatD, eqF]
theorem is_deed_eq {d : D} {n : Nat} (h : okE d) : f_is_deed [d, .int n] = .ok (.bl (isDeed n d)) := by
  obtain ⟨h1, h2⟩ := h
  cases d <;> first | rfl | exact absurd (show false = true from h1) Bool.false_ne_true | skip
  rename_i ds
  obtain ⟨hz, hh, hk⟩ := h2 ds rfl
  refine runF_rt ?_
  have el := len_in (z := st0 3 [.tup ds, .int n]) rfl
  match ds, hz, hh, hk, el with
  | [], hz, hh, hk, el => exact (sSeq_rt ((sIf_t ((bOr_f rfl).trans (bOr_t el))).trans rfl))
  | [a], hz, hh, hk, el => exact (sSeq_rt ((sIf_t ((bOr_f rfl).trans (bOr_t el))).trans rfl))
  | [a, b], hz, hh, hk, el =>
    have ea := deed_all (z := st0 3 [.tup [a, b], .int n]) rfl hz (Nat.le_refl 2) hk (by show 2 < 3; decide)
    have ha := hh a rfl
    rw [isDeed_two]
    cases hb : isNum b with
    | false =>
      rw [show ([a, b].tail.all isNum) = false by show (isNum b && true) = false; rw [hb]; rfl] at ea
      exact (sSeq_rt ((sIf_t ((bOr_f rfl).trans ((bOr_f el).trans (bNot_b (bV_b ea))))).trans rfl))
    | true =>
      rw [show ([a, b].tail.all isNum) = true by show (isNum b && true) = true; rw [hb]; rfl] at ea
      refine (sSeq_nx ((sIf_f ((bOr_f rfl).trans ((bOr_f el).trans (bNot_b (bV_b ea))))).trans rfl)).trans ?_
      refine sSeq_rt ((sIf_t rfl).trans (sRet_ok (mBin_ok (x := a) (y := .str "put") rfl rfl ?_)))
      rw [eqB_str ha ok_put]
      rfl
  | [a, b, c], hz, hh, hk, el =>
    have ea := deed_all (z := st0 3 [.tup [a, b, c], .int n]) rfl hz (by show 2 ≤ 3; decide) hk (by show 2 < 3; decide)
    have ha := hh a rfl
    cases hb : (isNum b && isNum c) with
    | false =>
      rw [show ([a, b, c].tail.all isNum) = false by show (isNum b && (isNum c && true)) = false; rw [Bool.and_true, hb]] at ea
      rw [isDeed_three hb]
      exact (sSeq_rt ((sIf_t ((bOr_f rfl).trans ((bOr_f el).trans (bNot_b (bV_b ea))))).trans rfl))
    | true =>
      rw [show ([a, b, c].tail.all isNum) = true by show (isNum b && (isNum c && true)) = true; rw [Bool.and_true, hb]] at ea
      refine (sSeq_nx ((sIf_f ((bOr_f rfl).trans ((bOr_f el).trans (bNot_b (bV_b ea))))).trans rfl)).trans ?_
      rw [Bool.and_eq_true] at hb
      obtain ⟨p, rfl⟩ := nums1 hb.1
      obtain ⟨m, rfl⟩ := nums1 hb.2
      refine (sSeq_nx ((sIf_f rfl).trans rfl)).trans (sRet_ok ?_)
      have e1 : mBin eqB (mBin ixD (mVar 0) (mC (.int 0))) (mC (.str "copy")) (frz (st0 3 [.tup [a, .int p, .int m], .int n])) = .ok (.bl (isS "copy" a)) := mBin_ok (x := a) (y := .str "copy") rfl rfl (eqB_str ha ok_copy)
      exact mAnd_ok e1 (mAnd_ok (chain_ll (i := 0) (j := p) (k := n) rfl rfl rfl) (mBin_ok (x := .int m) (y := .int 0) rfl rfl rfl))
  | a :: b :: c :: d :: r, hz, hh, hk, el =>
    have e4 : (!(decide ((a :: b :: c :: d :: r).length = 2) || decide ((a :: b :: c :: d :: r).length = 3))) = true := by
      rw [decide_eq_false (by simp), decide_eq_false (by simp)]; rfl
    rw [e4] at el
    rw [isDeed_long]
    exact (sSeq_rt ((sIf_t ((bOr_f rfl).trans (bOr_t el))).trans rfl))
/-! ### grown_of, grown -/
theorem mIxI_ok {mi : ML} {b : M} {z : List Sd} {xs : List D} {y d : D} (hi : mi z = .ok xs) (hb : b z = .ok y) (h : ixL xs y = some d) : mIxI mi b z = .ok d := by
  unfold mIxI
  rw [hi, bnd_ok, hb, bnd_ok, h]
  rfl
def copyN (acc : List D) (p : Int) : Nat → List D
  | 0 => acc
  | k + 1 => copyN acc p k ++ [(copyN acc p k).getD (p + (k : Nat)).toNat .non]
theorem copyN_length (acc : List D) (p : Int) : ∀ k, (copyN acc p k).length = acc.length + k
  | 0 => rfl
  | k + 1 => by simp only [copyN, List.length_append, copyN_length acc p k, List.length_cons, List.length_nil]; omega
def grow1 (acc : List D) : D → List D
  | .tup [_, v] => acc ++ [v]
  | .tup [_, .int p, .int m] => copyN acc p m.toNat
  | _ => acc
def cost : D → Nat
  | .tup [_, .int _, .int m] => m.toNat
  | _ => 1
def growO : List D → List D → Option (List D)
  | acc, [] => some acc
  | acc, d :: ds => if isDeed acc.length d then growO (grow1 acc d) ds else none
theorem isDeed_shape {n : Nat} {d : D} (h : isDeed n d = true) : (∃ v, d = .tup [.str "put", .int v]) ∨ ∃ p m, d = .tup [.str "copy", .int p, .int m] ∧ 0 ≤ p ∧ p < n ∧ 0 < m := by
  unfold isDeed at h
  split at h
  · rename_i a v
    cases a <;> first | exact absurd (show false = true from h) Bool.false_ne_true | skip
    rename_i x
    have e : x = "put" := eq_of_beq h
    subst e
    exact .inl ⟨_, rfl⟩
  · rename_i a p m
    rw [Bool.and_eq_true, Bool.and_eq_true, decide_eq_true_iff, decide_eq_true_iff] at h
    obtain ⟨h1, h2, h3⟩ := h
    cases a <;> first | exact absurd (show false = true from h1) Bool.false_ne_true | skip
    rename_i x
    have e : x = "copy" := eq_of_beq h1
    subst e
    exact .inr ⟨_, _, rfl, h2.1, h2.2, h3⟩
  · exact absurd h Bool.false_ne_true
theorem deed_ok {n : Nat} {d : D} (h : isDeed n d = true) : okE d := by
  rcases isDeed_shape h with ⟨v, rfl⟩ | ⟨p, m, rfl, _⟩
  · refine ⟨rfl, fun ds e => ?_⟩
    cases e
    exact ⟨le_line (by show 2 ≤ 16777216; decide), fun h e => by cases e; exact ok_put, fun x hx => by
      rw [List.tail_cons, List.mem_singleton] at hx
      subst hx
      rfl⟩
  · refine ⟨rfl, fun ds e => ?_⟩
    cases e
    exact ⟨le_line (by show 3 ≤ 16777216; decide), fun h e => by cases e; exact ok_copy, fun x hx => by
      simp only [List.tail_cons, List.mem_cons, List.not_mem_nil, or_false] at hx
      rcases hx with rfl | rfl <;> rfl⟩
abbrev m_copy1 : MS := sApp 1 (mIxI (iOw 1) (mBin addD (mBin ixD (mVar 2) (mC (.int 1))) (mVar 3)))
theorem copy_for {ds0 : D} {a : D} {p m : Int} {acc : List D} (h0 : 0 ≤ p) (h1 : p < acc.length) (hz : acc.length + m.toNat ≤ sizeLine) : ∀ (k j : Nat) (x : Sd), j + k = m.toNat →
    ∃ x', forD (.nm 3) m_copy1 ((List.range' j k).map fun (i : Nat) => D.int (0 + (i : Nat))) [.sh ds0, .ow (copyN acc p j), .sh (.tup [a, .int p, .int m]), x] = .ok (.nx [.sh ds0, .ow (copyN acc p m.toNat), .sh (.tup [a, .int p, .int m]), x'])
  | 0, j, x, e => ⟨x, by
      have : j = m.toNat := by omega
      subst this
      rfl⟩
  | k + 1, j, x, e => by
    obtain ⟨x', ih⟩ := copy_for h0 h1 hz k (j + 1) (.sh (.int (0 + (j : Nat)))) (by omega)
    refine ⟨x', ?_⟩
    have el := copyN_length acc p j
    have hat := atI_in (xs := copyN acc p j) (i := p + (0 + (j : Int))) (by omega) (by rw [el]; omega)
    have e2 : m_copy1 [.sh ds0, .ow (copyN acc p j), .sh (.tup [a, .int p, .int m]), .sh (.int (0 + (j : Nat)))] = .ok (.nx [.sh ds0, .ow (copyN acc p (j + 1)), .sh (.tup [a, .int p, .int m]), .sh (.int (0 + (j : Nat)))]) := by
      refine (sApp_ok (ds := copyN acc p j) rfl (d := (copyN acc p j).getD (p + (0 + (j : Int))).toNat .non) ?_ (by rw [el]; omega)).trans ?_
      · exact mIxI_ok (xs := copyN acc p j) rfl (mBin_ok (f := addD) (x := .int p) (y := .int (0 + (j : Nat))) (d := .int (p + (0 + (j : Int)))) rfl rfl rfl) hat
      · have e3 : copyN acc p (j + 1) = copyN acc p j ++ [(copyN acc p j).getD (p + (0 + (j : Int))).toNat .non] := by
          show copyN acc p j ++ [(copyN acc p j).getD (p + (j : Int)).toNat .non] = _
          rw [Int.zero_add]
        rw [e3]
        rfl
    rw [List.range'_succ, List.map_cons, ← ih]
    exact forD_nx rfl e2
abbrev m_grow1 : MS := sSeq (sIf (bNot (bV (mCall 2 f_is_deed (aCons (mVar 2) (aCons (mLenI (iOw 1)) aNil))))) (sRet (mC .non)) sNil)
  (sIf (bV (mBin eqB (mUn lenD (mVar 2)) (mC (.int 2)))) (sApp 1 (mBin ixD (mVar 2) (mC (.int 1)))) (sFor (.nm 3) (mOf rng1 (aCons (mBin ixD (mVar 2) (mC (.int 2))) aNil)) m_copy1))
theorem grow_turn {ds0 d : D} {acc : List D} {x : Sd} (hk : okE d) (hz : acc.length + cost d ≤ sizeLine) :
    if isDeed acc.length d then ∃ x', m_grow1 [.sh ds0, .ow acc, .sh d, x] = .ok (.nx [.sh ds0, .ow (grow1 acc d), .sh d, x']) else m_grow1 [.sh ds0, .ow acc, .sh d, x] = .ok (.rt .non) := by
  have e1 : bNot (bV (mCall 2 f_is_deed (aCons (mVar 2) (aCons (mLenI (iOw 1)) aNil)))) [.sh ds0, .ow acc, .sh d, x] = .ok (!isDeed acc.length d) := bNot_b (bV_b (mCall_is (ds := [d, .int (acc.length : Nat)]) rfl rfl (is_deed_eq hk)))
  cases hd : isDeed acc.length d with
  | false =>
    rw [hd] at e1
    rw [if_neg Bool.false_ne_true]
    exact sSeq_rt ((sIf_t e1).trans rfl)
  | true =>
    rw [hd] at e1
    rw [if_pos rfl]
    have e2 : sIf (bNot (bV (mCall 2 f_is_deed (aCons (mVar 2) (aCons (mLenI (iOw 1)) aNil))))) (sRet (mC .non)) sNil [.sh ds0, .ow acc, .sh d, x] = .ok (.nx [.sh ds0, .ow acc, .sh d, x]) := (sIf_f e1).trans rfl
    rcases isDeed_shape hd with ⟨v, rfl⟩ | ⟨p, m, rfl, h0, h1, h2⟩
    · exact ⟨x, (sSeq_nx e2).trans ((sIf_t rfl).trans (sApp_ok (ds := acc) rfl rfl (by have : cost (.tup [.str "put", .int v]) = 1 := rfl; omega)))⟩
    · have hc : cost (.tup [.str "copy", .int p, .int m]) = m.toNat := rfl
      rw [hc] at hz
      have er : rng1 [.int m] = some (rgD 0 m.toNat) := by
        have := hz
        rw [sizeLine_eq] at this
        simp only [rng1]
        rw [if_pos ⟨by omega, by omega⟩]
      obtain ⟨x', e3⟩ := copy_for (ds0 := ds0) (a := .str "copy") (acc := acc) h0 h1 hz m.toNat 0 x (by omega)
      refine ⟨x', (sSeq_nx e2).trans ((sIf_f rfl).trans ((sFor_ok (ds := rgD 0 m.toNat) ?_).trans ?_))⟩
      · show ofO (rng1 [.int m]) = _
        rw [er]
        rfl
      · unfold rgD
        rw [List.range_eq_range']
        exact e3
theorem grow_for {ds0 : D} : ∀ (ds acc : List D) (x y : Sd), (∀ d ∈ ds, okE d) → acc.length + (ds.map cost).sum ≤ sizeLine →
    match growO acc ds with
    | some xs => ∃ x' y', forD (.nm 2) m_grow1 ds [.sh ds0, .ow acc, x, y] = .ok (.nx [.sh ds0, .ow xs, x', y'])
    | none => forD (.nm 2) m_grow1 ds [.sh ds0, .ow acc, x, y] = .ok (.rt .non)
  | [], acc, x, y, _, _ => ⟨x, y, rfl⟩
  | d :: ds, acc, x, y, hk, hz => by
    rw [List.map_cons, List.sum_cons] at hz
    have t := grow_turn (ds0 := ds0) (d := d) (acc := acc) (x := y) (hk d List.mem_cons_self) (by omega)
    unfold growO
    cases hd : isDeed acc.length d with
    | false =>
      rw [hd, if_neg Bool.false_ne_true] at t
      rw [if_neg Bool.false_ne_true]
      exact forD_rt rfl t
    | true =>
      rw [hd, if_pos rfl] at t
      rw [if_pos rfl]
      obtain ⟨y', t⟩ := t
      have hl : (grow1 acc d).length ≤ acc.length + cost d := by
        rcases isDeed_shape hd with ⟨v, rfl⟩ | ⟨p, m, rfl, _⟩
        · show (acc ++ [_]).length ≤ acc.length + 1
          rw [List.length_append]
          exact Nat.le_refl _
        · show (copyN acc p m.toNat).length ≤ acc.length + m.toNat
          rw [copyN_length]
          exact Nat.le_refl _
      have ih := grow_for (ds0 := ds0) ds (grow1 acc d) (.sh d) y' (fun e h => hk e (List.mem_cons_of_mem _ h)) (by omega)
      have e : forD (.nm 2) m_grow1 (d :: ds) [.sh ds0, .ow acc, x, y] = forD (.nm 2) m_grow1 ds [.sh ds0, .ow (grow1 acc d), .sh d, y'] := forD_nx rfl t
      rw [e]
      exact ih
theorem grown_of_eq {ds : List D} (hk : ∀ d ∈ ds, okE d) (hz : (ds.map cost).sum ≤ sizeLine) : f_grown_of [.lst ds] = .ok (match growO [] ds with | some xs => .own xs | none => .val .non) := by
  have t := grow_for (ds0 := .lst ds) ds [] .no .no hk (by simpa using hz)
  cases hg : growO [] ds with
  | none =>
    rw [hg] at t
    exact runR_rt ((sSeq_nx (z' := [.sh (.lst ds), .ow [], .no, .no]) rfl).trans (sSeq_rt ((sFor_ok rfl).trans t)))
  | some xs =>
    rw [hg] at t
    obtain ⟨x', y', t⟩ := t
    exact runR_rl ((sSeq_nx (z' := [.sh (.lst ds), .ow [], .no, .no]) rfl).trans ((sSeq_nx ((sFor_ok rfl).trans t)).trans rfl))
theorem grown_eq {ds : List D} (hk : ∀ d ∈ ds, okE d) (hz : (ds.map cost).sum ≤ sizeLine) : f_grown [.lst ds] = match growO [] ds with | some xs => .ok xs | none => .exc 2 := by
  have e := grown_of_eq hk hz
  have e1 : rIf (bV (mUn (isTy .list) (mVar 0))) (mCall 1 f_grown_of (aCons (mVar 0) aNil)) (rE (mC .non)) (st0 2 [.lst ds]) = .ok (match growO [] ds with | some xs => .own xs | none => .val .non) :=
    (show _ = mCall 1 f_grown_of (aCons (mVar 0) aNil) (st0 2 [.lst ds]) from rfl).trans (mCall_is (ds := [.lst ds]) rfl rfl e)
  have e2 : sSetR 1 (rIf (bV (mUn (isTy .list) (mVar 0))) (mCall 1 f_grown_of (aCons (mVar 0) aNil)) (rE (mC .non))) (st0 2 [.lst ds]) = .ok (.nx [.sh (.lst ds), rvS (match growO [] ds with | some xs => .own xs | none => .val .non)]) := by
    unfold sSetR
    rw [e1]
    rfl
  cases hg : growO [] ds with
  | none =>
    rw [hg] at e2
    exact runXL_exc ((sSeq_nx e2).trans (sSeq_exc rfl))
  | some xs =>
    rw [hg] at e2
    exact runXL_rl ((sSeq_nx e2).trans rfl)
end CL


set_option Elab.async false
set_option linter.all false
set_option maxRecDepth 100000
namespace CL
open PySem L2
/-! ### equality of plain data -/
/-- of nesting at most k, texts sound -/
def pl (k : Nat) (d : D) : Prop := ∃ p, toPy d = some p ∧ p.canLay0 = true ∧ p.depth ≤ k
theorem pl.mono {k l : Nat} {d : D} (h : pl k d) (e : k ≤ l) : pl l d := let ⟨p, a, b, c⟩ := h; ⟨p, a, b, Nat.le_trans c e⟩
theorem pl_non {k : Nat} : pl k .non := ⟨.none, by simp [toPy], by simp [PyData.canLay0], by simp [PyData.depth]⟩
theorem pl_bl {k : Nat} {b : Bool} : pl k (.bl b) := ⟨.bool b, by simp [toPy], by simp [PyData.canLay0], by simp [PyData.depth]⟩
theorem pl_int {k : Nat} {i : Int} : pl k (.int i) := ⟨.int i, by simp [toPy], by simp [PyData.canLay0], by simp [PyData.depth]⟩
theorem pl_str {k : Nat} {x : Str} (h : PyData.strOk x = true) : pl k (.str x) := ⟨.str x, by simp [toPy], by simp [PyData.canLay0, h], by simp [PyData.depth]⟩
theorem pl_all {k : Nat} : ∀ {ds : List D}, (∀ d ∈ ds, pl k d) → ∃ ps, toPyAll ds = some ps ∧ PyData.canLayAll0 ps = true ∧ PyData.depthAll ps ≤ k
  | [], _ => ⟨[], by simp [toPyAll], by simp [PyData.canLayAll0], by simp [PyData.depthAll]⟩
  | d :: ds, h => by
    obtain ⟨p, a1, a2, a3⟩ := h d List.mem_cons_self
    obtain ⟨ps, b1, b2, b3⟩ := pl_all (ds := ds) fun x hx => h x (List.mem_cons_of_mem _ hx)
    refine ⟨p :: ps, by simp [toPyAll, a1, b1], by simp [PyData.canLayAll0, a2, b2], ?_⟩
    simp only [PyData.depthAll]
    omega
theorem pl_lst {k : Nat} {ds : List D} (h : ∀ d ∈ ds, pl k d) : pl (k + 1) (.lst ds) := by
  obtain ⟨ps, a, b, c⟩ := pl_all h
  exact ⟨.list ps, by simp [toPy, a], by simp [PyData.canLay0, b], by simp only [PyData.depth]; omega⟩
theorem pl_tup {k : Nat} {ds : List D} (h : ∀ d ∈ ds, pl k d) : pl (k + 1) (.tup ds) := by
  obtain ⟨ps, a, b, c⟩ := pl_all h
  exact ⟨.tuple ps, by simp [toPy, a], by simp [PyData.canLay0, b], by simp only [PyData.depth]; omega⟩
theorem pl_ints {k : Nat} (ns : List Int) : pl (k + 1) (.lst (ns.map D.int)) := pl_lst fun d hd => by
  obtain ⟨n, _, rfl⟩ := List.mem_map.mp hd
  exact pl_int
theorem eqD_pl {k l : Nat} {x y : D} (hx : pl k x) (hy : pl l y) (hk : k ≤ 64) (hl : l ≤ 64) : ∃ p q, toPy x = some p ∧ toPy y = some q ∧ eqD x y = some (PyData.eqv p q) := by
  obtain ⟨p, a1, a2, a3⟩ := hx
  obtain ⟨q, b1, b2, b3⟩ := hy
  refine ⟨p, q, a1, b1, ?_⟩
  unfold eqD
  rw [a1, b1]
  dsimp only
  rw [if_pos]
  unfold SeqAt.shaped
  rw [a2, b2, decide_eq_true (by omega), decide_eq_true (by omega)]
  rfl
theorem eqD_refl {k : Nat} {x : D} (hx : pl k x) (hk : k ≤ 64) : eqD x x = some true := by
  obtain ⟨p, q, a, b, c⟩ := eqD_pl hx hx hk hk
  rw [a] at b
  cases b
  obtain ⟨p', a1, a2, _⟩ := hx
  rw [a] at a1
  cases a1
  rw [c, SeqAt.eqv_refl p a2]
theorem eqB_refl {k : Nat} {x : D} (hx : pl k x) (hk : k ≤ 64) : eqB x x = some (.bl true) := by
  unfold eqB
  rw [eqD_refl hx hk]
  rfl
theorem neB_refl {k : Nat} {x : D} (hx : pl k x) (hk : k ≤ 64) : neB x x = some (.bl false) := by
  unfold neB
  rw [eqD_refl hx hk]
  rfl
/-! ### arithmetic -/
theorem fdivD_ok {i j : Int} (h0 : 0 < j) (h1 : j < 18446744073709551616) : fdivD (.int i) (.int j) = some (.int (i / j)) := by
  have h : decide (0 < j ∧ j.natAbs.log2 < 9000) = true := decide_eq_true ⟨h0, Nat.lt_of_lt_of_le (PySem.Flt.log2_lt_of (k := 64) (by decide) (by omega)) (by decide)⟩
  show (if decide (0 < j ∧ j.natAbs.log2 < 9000) = true then some (D.int (i / j)) else none) = _
  rw [if_pos h]
theorem modD_ok {i j : Int} (h0 : 0 < j) : modD (.int i) (.int j) = some (.int (i % j)) := by
  show (if decide (0 < j) = true then some (D.int (i % j)) else none) = _
  rw [if_pos (decide_eq_true h0)]
theorem cutD_to (xs : List D) (k : Nat) : cutD xs none (some (k : Int)) = xs.take k := by
  unfold cutD
  rw [HT.sIx_none, HT.sIx_nat, List.drop_zero, Nat.sub_zero]
  by_cases h : k ≤ xs.length
  · rw [Nat.min_eq_left h]
  · rw [Nat.min_eq_right (by omega), List.take_of_length_le (Nat.le_refl _), List.take_of_length_le (by omega)]
theorem cutD_from (xs : List D) (k : Nat) : cutD xs (some (k : Int)) none = xs.drop k := by
  unfold cutD
  rw [HT.sIx_none, HT.sIx_nat]
  by_cases h : k ≤ xs.length
  · rw [Nat.min_eq_left h, List.take_of_length_le (by rw [List.length_drop]; omega)]
  · rw [Nat.min_eq_right (by omega), List.drop_eq_nil_of_le (Nat.le_refl _), List.drop_eq_nil_of_le (by omega), List.take_nil]
theorem cutD_last (xs : List D) (d : D) : cutD (xs ++ [d]) none (some (-1)) = xs := by
  unfold cutD
  have e : HT.sIx (xs ++ [d]).length (xs ++ [d]).length (some (-1)) = xs.length := by
    show (if (-1 : Int) < 0 then ((-1 : Int) + ((xs ++ [d]).length : Int)).toNat else min (-1 : Int).toNat (xs ++ [d]).length) = _
    rw [if_pos (by decide), List.length_append, List.length_singleton]
    omega
  rw [e, HT.sIx_none, List.drop_zero, Nat.sub_zero, List.take_left']
  rfl
theorem mSum_ok {mi : ML} {z : List Sd} {ns : List Int} (h : mi z = .ok (ns.map D.int)) : mSum mi z = .ok (.int ns.sum) := by
  unfold mSum
  rw [h, bnd_ok, asIs_map]
  rfl
theorem mCat_ok {mi mj : ML} {z : List Sd} {xs ys : List D} (h1 : mi z = .ok xs) (h2 : mj z = .ok ys) (hl : xs.length + ys.length ≤ sizeLine) : mCat mi mj z = .ok (xs ++ ys) := by
  unfold mCat lstD
  rw [h1, bnd_ok, h2, bnd_ok, List.length_append, if_pos hl]
  rfl
theorem mulD_ok {i j : Int} (h : (-(2 ^ 64) < i ∧ i < 2 ^ 64) ∨ (-(2 ^ 64) < j ∧ j < 2 ^ 64)) : mulD (.int i) (.int j) = some (.int (i * j)) := by
  have h' : mulOk i j = true := decide_eq_true h
  show (if mulOk i j = true then some (D.int (i * j)) else none) = _
  rw [if_pos h']
theorem mL_ok {ml : ML} {z : List Sd} {xs : List D} (h : ml z = .ok xs) : mL ml z = .ok (.lst xs) := by
  unfold mL
  rw [h]
  rfl
theorem mLst_ok {ms : ML} {z : List Sd} {ds : List D} (h : ms z = .ok ds) (hl : ds.length ≤ sizeLine) : mLst ms z = .ok ds := by
  unfold mLst lstD
  rw [h, bnd_ok, if_pos hl]
  rfl
/-! ### _law_numbers -/
theorem law_numbers_eq {ds : List D} (h : ∀ d ∈ ds, okD d = true) (hl : ds.length ≤ sizeLine) : f_law_numbers [.lst ds] = .ok (.bl (ds.all isNum)) := by
  refine runF_rt ((sSeq_nx (z' := [.sh (.lst ds), .no]) rfl).trans (sRet_ok (mAll_comp isNum rfl hl fun d hd => ?_)))
  have := h d hd
  cases d <;> first | rfl | exact absurd (show false = true from this) Bool.false_ne_true
theorem law_numbers_ints {ns : List Int} (hl : ns.length ≤ sizeLine) : f_law_numbers [.lst (ns.map .int)] = .ok (.bl true) := by
  rw [law_numbers_eq (ok_ints ns) (by rw [List.length_map]; exact hl), all_ints]
/-! ### _law_pasted -/
abbrev t_lp : MB := bAnd (bV (mBin ltD (mLenI (iOw 2)) (mBin powD (mC (.int 10)) (mC (.int 6))))) (bV (mBin gtD (mVar 4) (mC (.int 0))))
abbrev m_lp1 : MS := sSeq (sApp 2 (mBin ixD (mVar 0) (mVar 6))) (sPar 6 4 (aCons (mBin addD (mVar 6) (mVar 5)) (aCons (mBin subD (mVar 4) (mC (.int 1))) aNil)))
theorem pow6 : powD (.int 10) (.int 6) = some (.int 1000000) := rfl
theorem lp_while {sh : List D} {c p : D} {s : Int} (hs : s = 1 ∨ s = -1) : ∀ (k n : Nat) (acc : List D) (at_ : Int), k < n → acc.length + k < 1000000 → (∀ i : Nat, i < k → 0 ≤ at_ + s * i ∧ at_ + s * i < sh.length) →
    whileD t_lp m_lp1 n [.sh (.lst sh), .sh c, .ow acc, .sh p, .sh (.int k), .sh (.int s), .sh (.int at_)] = .ok (.nx [.sh (.lst sh), .sh c, .ow (acc ++ (List.range k).map fun (i : Nat) => sh.getD (at_ + s * (i : Nat)).toNat .non), .sh p, .sh (.int 0), .sh (.int s), .sh (.int (at_ + s * k))])
  | 0, 0, _, _, h, _, _ => by omega
  | 0, n + 1, acc, at_, _, hz, _ => by
    have e : t_lp [.sh (.lst sh), .sh c, .ow acc, .sh p, .sh (.int (0 : Nat)), .sh (.int s), .sh (.int at_)] = .ok false := by
      refine (bAnd_t (bV_b ?_)).trans rfl
      refine mBin_ok (x := .int acc.length) (y := .int 1000000) rfl (mBin_ok rfl rfl pow6) ?_
      show some (D.bl (decide ((acc.length : Int) < 1000000))) = _
      rw [decide_eq_true (by omega)]
    refine (while_f e).trans ?_
    simp
  | k + 1, 0, _, _, h, _, _ => by omega
  | k + 1, n + 1, acc, at_, hk, hz, hi => by
    have e : t_lp [.sh (.lst sh), .sh c, .ow acc, .sh p, .sh (.int ((k + 1 : Nat) : Int)), .sh (.int s), .sh (.int at_)] = .ok true := by
      refine (bAnd_t (bV_b ?_)).trans (bV_b ?_)
      · refine mBin_ok (x := .int acc.length) (y := .int 1000000) rfl (mBin_ok rfl rfl pow6) ?_
        show some (D.bl (decide ((acc.length : Int) < 1000000))) = _
        rw [decide_eq_true (by omega)]
      · refine mBin_ok (x := .int ((k + 1 : Nat) : Int)) (y := .int 0) rfl rfl ?_
        show some (D.bl (decide ((0 : Int) < ((k + 1 : Nat) : Int)))) = _
        rw [decide_eq_true (by omega)]
    have h0 := hi 0 (by omega)
    rw [show s * ((0 : Nat) : Int) = 0 by simp, Int.add_zero] at h0
    have hat := atI_in (xs := sh) h0.1 h0.2
    have e1 : sApp 2 (mBin ixD (mVar 0) (mVar 6)) [.sh (.lst sh), .sh c, .ow acc, .sh p, .sh (.int ((k + 1 : Nat) : Int)), .sh (.int s), .sh (.int at_)] = .ok (.nx [.sh (.lst sh), .sh c, .ow (acc ++ [sh.getD at_.toNat .non]), .sh p, .sh (.int ((k + 1 : Nat) : Int)), .sh (.int s), .sh (.int at_)]) :=
      sApp_ok (ds := acc) rfl (mBin_ok (x := .lst sh) (y := .int at_) rfl rfl hat) (by rw [sizeLine_eq]; omega)
    have e2 : m_lp1 [.sh (.lst sh), .sh c, .ow acc, .sh p, .sh (.int ((k + 1 : Nat) : Int)), .sh (.int s), .sh (.int at_)] = .ok (.nx [.sh (.lst sh), .sh c, .ow (acc ++ [sh.getD at_.toNat .non]), .sh p, .sh (.int (k : Nat)), .sh (.int s), .sh (.int (at_ + s))]) := by
      refine (sSeq_nx e1).trans ?_
      show Rs.ok (Fw.nx [.sh (.lst sh), .sh c, .ow (acc ++ [sh.getD at_.toNat .non]), .sh p, .sh (.int (((k + 1 : Nat) : Int) - 1)), .sh (.int s), .sh (.int (at_ + s))]) = _
      rw [show (((k + 1 : Nat) : Int) - 1) = (k : Int) by omega]
    have step : ∀ i : Nat, at_ + s + s * (i : Nat) = at_ + s * ((i + 1 : Nat) : Int) := fun i => by
      rw [Int.natCast_add, Int.mul_add]
      simp
      omega
    have ih := lp_while (sh := sh) (c := c) (p := p) hs k n (acc ++ [sh.getD at_.toNat .non]) (at_ + s) (by omega) (by rw [List.length_append, List.length_singleton]; omega) fun i h => by
      rw [step]
      exact hi (i + 1) (by omega)
    refine (while_t e e2).trans (ih.trans ?_)
    rw [List.range_succ_eq_map, List.map_cons, List.map_map, List.append_assoc, step]
    have e3 : ((fun (i : Nat) => sh.getD (at_ + s * (i : Nat)).toNat D.non) ∘ Nat.succ) = fun (i : Nat) => sh.getD (at_ + s + s * (i : Nat)).toNat D.non := by
      funext i
      show sh.getD (at_ + s * ((i + 1 : Nat) : Int)).toNat D.non = _
      rw [← step]
    rw [e3]
    have e4 : at_ + s * ((0 : Nat) : Int) = at_ := by simp
    rw [e4]
    rfl
abbrev m_lpt : MS := sSeq (sSet 6 (mVar 3)) (whileD t_lp m_lp1 2000000)
theorem lp_for {sh : List D} {cs0 : D} : ∀ (cs acc : List D) (a b c d : Sd), (∀ e ∈ cs, isClip sh.length e = true) → acc.length + (pasteL sh cs).length < 1000000 →
    ∃ a' b' c' d', forD (.tp [3, 4, 5]) m_lpt cs [.sh (.lst sh), .sh cs0, .ow acc, a, b, c, d] = .ok (.nx [.sh (.lst sh), .sh cs0, .ow (acc ++ pasteL sh cs), a', b', c', d'])
  | [], acc, a, b, c, d, _, _ => ⟨a, b, c, d, by simp [forD, pasteL]⟩
  | e :: cs, acc, a, b, c, d, hc, hz => by
    have h1 := hc e List.mem_cons_self
    obtain ⟨p, m, s, rfl⟩ := isClip_shape h1
    have hp : pasteL sh (.tup [.int p, .int m, .int s] :: cs) = clipL sh p m s ++ pasteL sh cs := by unfold pasteL; rw [List.flatMap_cons]; rfl
    rw [hp, List.length_append, clipL_length] at hz
    have hm1 : 1 ≤ m := (isClip_iff.mp h1).1
    have hs : s = 1 ∨ s = -1 := (isClip_iff.mp h1).2.1
    have hmn : ((m.toNat : Nat) : Int) = m := by omega
    obtain ⟨a', b', c', d', ih⟩ := lp_for (cs0 := cs0) cs (acc ++ clipL sh p m s) (.sh (.int p)) (.sh (.int 0)) (.sh (.int s)) (.sh (.int (p + s * m))) (fun e h => hc e (List.mem_cons_of_mem _ h)) (by rw [List.length_append, clipL_length]; omega)
    refine ⟨a', b', c', d', ?_⟩
    have w := lp_while (sh := sh) (c := cs0) (p := .int p) hs m.toNat 2000000 acc p (by omega) (by omega) fun i hi => clip_in h1 hi
    have e2 : m_lpt [.sh (.lst sh), .sh cs0, .ow acc, .sh (.int p), .sh (.int m), .sh (.int s), d] = .ok (.nx [.sh (.lst sh), .sh cs0, .ow (acc ++ clipL sh p m s), .sh (.int p), .sh (.int 0), .sh (.int s), .sh (.int (p + s * m))]) := by
      refine (sSeq_nx (z' := [.sh (.lst sh), .sh cs0, .ow acc, .sh (.int p), .sh (.int m), .sh (.int s), .sh (.int p)]) rfl).trans ?_
      rw [hmn] at w
      exact w
    rw [hp, ← List.append_assoc, ← ih]
    exact forD_nx rfl e2
theorem law_pasted_eq {sh cs : List D} (hc : ∀ c ∈ cs, isClip sh.length c = true) (hz : (pasteL sh cs).length < 1000000) : f_law_pasted [.lst sh, .lst cs] = .ok (.lst (pasteL sh cs)) := by
  obtain ⟨a, b, c, d, e⟩ := lp_for (sh := sh) (cs0 := .lst cs) cs [] .no .no .no .no hc (by simpa using hz)
  rw [List.nil_append] at e
  refine runF_rt ?_
  exact (sSeq_nx (z' := [.sh (.lst sh), .sh (.lst cs), .ow [], .no, .no, .no, .no]) rfl).trans ((sSeq_nx ((sFor_ok rfl).trans e)).trans rfl)
end CL


set_option Elab.async false
set_option linter.all false
set_option maxRecDepth 100000
namespace CL
open PySem L2
/-! ### _law_cells, _law_row -/
theorem law_cells_eq (ns : List Int) (h : ns.length ≤ 63) : ∃ cs : List Int, f_law_cells [.scr ns] = .ok (.lst (cs.map .int)) ∧ cs.length ≤ 100 := by
  have e0 : cutD (ns.map D.int) none (some 63) = ns.map D.int := by
    rw [show (63 : Int) = ((63 : Nat) : Int) from rfl, cutD_to, List.take_of_length_le (by rw [List.length_map]; exact h)]
  have e1 : sSet 1 (mL (mCutS (mVar 0) oNone (oSome (mC (.int 63))))) (st0 3 [.scr ns]) = .ok (.nx [.sh (.scr ns), .sh (.lst (ns.map D.int)), .no]) := by
    refine sSet_ok (d := .lst (ns.map D.int)) ?_
    show Rs.ok (D.lst (cutD (ns.map D.int) none (some 63))) = _
    rw [e0]
  have e2 : bV (mBin eqB (mBin modD (mBin fdivD (mSum (iE (mVar 1))) (mC (.int 11))) (mC (.int 13))) (mC (.int 4))) [.sh (.scr ns), .sh (.lst (ns.map D.int)), .no] = .ok (ns.sum / 11 % 13 == 4) := by
    refine bV_b (mBin_ok (mBin_ok (mBin_ok (mSum_ok rfl) rfl (fdivD_ok (by decide) (by decide))) rfl (modD_ok (by decide))) rfl ?_)
    unfold eqB
    rw [eqD_int]
    rfl
  cases hb : (ns.sum / 11 % 13 == 4) with
  | false =>
    rw [hb] at e2
    exact ⟨ns, runF_rt ((sSeq_nx e1).trans ((sSeq_nx ((sIf_f e2).trans rfl)).trans rfl)), by omega⟩
  | true =>
    rw [hb] at e2
    refine ⟨ns ++ (ns.take 37).map fun c => c / 3 + 977, ?_, by rw [List.length_append, List.length_map, List.length_take]; omega⟩
    have e3 : cutD (ns.map D.int) none (some 37) = (ns.take 37).map D.int := by
      rw [show (37 : Int) = ((37 : Nat) : Int) from rfl, cutD_to, List.map_take]
    have e4 : mComp (.nm 2) [2] (mSeq (mL (mCut (iE (mVar 1)) oNone (oSome (mC (.int 37)))))) (mBin addD (mBin fdivD (mVar 2) (mC (.int 3))) (mC (.int 977))) [.sh (.scr ns), .sh (.lst (ns.map D.int)), .no] = .ok (((ns.take 37).map fun c => c / 3 + 977).map D.int) := by
      rw [mComp_map (ds := (ns.take 37).map D.int) (fun d => match d with | .int c => .int (c / 3 + 977) | _ => .non)]
      · rw [List.map_map, List.map_map]
        rfl
      · show Rs.ok (cutD (ns.map D.int) none (some 37)) = _
        rw [e3]
      · rw [List.length_map, List.length_take]
        exact le_line (by omega)
      · intro d hd
        obtain ⟨c, _, rfl⟩ := List.mem_map.mp hd
        exact mBin_ok (mBin_ok (x := .int c) rfl rfl (fdivD_ok (by decide) (by decide))) rfl rfl
    have e5 : sSet 1 (mL (mCat (iE (mVar 1)) (mComp (.nm 2) [2] (mSeq (mL (mCut (iE (mVar 1)) oNone (oSome (mC (.int 37)))))) (mBin addD (mBin fdivD (mVar 2) (mC (.int 3))) (mC (.int 977)))))) [.sh (.scr ns), .sh (.lst (ns.map D.int)), .no]
        = .ok (.nx [.sh (.scr ns), .sh (.lst ((ns ++ (ns.take 37).map fun c => c / 3 + 977).map D.int)), .no]) := by
      refine sSet_ok (d := .lst ((ns ++ (ns.take 37).map fun c => c / 3 + 977).map D.int)) ?_
      have ec : mCat (iE (mVar 1)) (mComp (.nm 2) [2] (mSeq (mL (mCut (iE (mVar 1)) oNone (oSome (mC (.int 37)))))) (mBin addD (mBin fdivD (mVar 2) (mC (.int 3))) (mC (.int 977)))) [.sh (.scr ns), .sh (.lst (ns.map D.int)), .no] = .ok ((ns ++ (ns.take 37).map fun c => c / 3 + 977).map D.int) :=
        (mCat_ok (xs := ns.map D.int) rfl e4 (by rw [List.length_map, List.length_map, List.length_map, List.length_take]; exact le_line (by omega))).trans (by rw [List.map_append])
      exact mL_ok ec
    exact runF_rt ((sSeq_nx e1).trans ((sSeq_nx ((sIf_t e2).trans e5)).trans rfl))
theorem pow30 : powD (.int 10) (.int 30) = some (.int 1000000000000000000000000000000) := rfl
theorem ix4 (a b c d : D) {k : Int} (h0 : 0 ≤ k) (h1 : k < 4) : ∃ x ∈ [a, b, c, d], ixD (.tup [a, b, c, d]) (.int k) = some x := by
  have : k = 0 ∨ k = 1 ∨ k = 2 ∨ k = 3 := by omega
  rcases this with rfl | rfl | rfl | rfl
  · exact ⟨a, by simp, rfl⟩
  · exact ⟨b, by simp, rfl⟩
  · exact ⟨c, by simp, rfl⟩
  · exact ⟨d, by simp, rfl⟩
theorem law_row_eq (cs : List Int) (code : Int) (h : cs.length ≤ 100) : ∃ r : List Int, f_law_row [.lst (cs.map .int), .int code] = .ok (.lst (r.map .int)) ∧ r.length = cs.length := by
  obtain ⟨x, hx, ex⟩ := ix4 (.int 2) (.int 3) (.int 1000000000000000000000000000000) (.int 5) (k := code / 7 % 4) (by omega) (by omega)
  have e1 : sSet 2 (mBin ixD (mTup (aCons (mC (.int 2)) (aCons (mC (.int 3)) (aCons (mBin powD (mC (.int 10)) (mC (.int 30))) (aCons (mC (.int 5)) aNil))))) (mBin modD (mBin fdivD (mVar 1) (mC (.int 7))) (mC (.int 4)))) (st0 4 [.lst (cs.map .int), .int code]) = .ok (.nx [.sh (.lst (cs.map .int)), .sh (.int code), .sh x, .no]) := by
    refine sSet_ok (d := x) (mBin_ok (mTup_ok (ds := [.int 2, .int 3, .int 1000000000000000000000000000000, .int 5]) ?_ (le_line (by show 4 ≤ 16777216; decide))) (mBin_ok (mBin_ok rfl rfl (fdivD_ok (by decide) (by decide))) rfl (modD_ok (by decide))) ex)
    rfl
  obtain ⟨n, hn, rfl⟩ : ∃ n : Int, (n = 2 ∨ n = 3 ∨ n = 1000000000000000000000000000000 ∨ n = 5) ∧ x = .int n := by
    simp only [List.mem_cons, List.not_mem_nil, or_false] at hx
    rcases hx with rfl | rfl | rfl | rfl
    · exact ⟨_, .inl rfl, rfl⟩
    · exact ⟨_, .inr (.inl rfl), rfl⟩
    · exact ⟨_, .inr (.inr (.inl rfl)), rfl⟩
    · exact ⟨_, .inr (.inr (.inr rfl)), rfl⟩
  have hpos : 0 < n := by rcases hn with rfl | rfl | rfl | rfl <;> decide
  have e2 : bV (mBin eqB (mVar 2) (mBin powD (mC (.int 10)) (mC (.int 30)))) [.sh (.lst (cs.map .int)), .sh (.int code), .sh (.int n), .no] = .ok (n == 1000000000000000000000000000000) :=
    bV_b (mBin_ok (x := .int n) (y := .int 1000000000000000000000000000000) rfl (mBin_ok rfl rfl pow30) (by unfold eqB; rw [eqD_int]; rfl))
  have hlen : (cs.map D.int).length ≤ sizeLine := by rw [List.length_map]; exact le_line (by omega)
  cases hb : (n == 1000000000000000000000000000000) with
  | true =>
    have hn2 : n = 1000000000000000000000000000000 := eq_of_beq hb
    rw [hb] at e2
    refine ⟨cs.map fun c => c % n * (1 - (c / n + c / 7) % 2 * 2), ?_, List.length_map _⟩
    have efd : ∀ c : Int, fdivD (.int c) (.int n) = some (.int (c / n)) := fun c => by
      rw [hn2]
      rfl
    refine runF_rt ((sSeq_nx e1).trans (sSeq_rt ((sIf_t e2).trans (sRet_ok ?_))))
    have ec := mComp_map (i := 3) (vs := [3]) (mi := mSeq (mVar 0)) (me := mBin mulD (mBin modD (mVar 3) (mVar 2)) (mBin subD (mC (.int 1)) (mBin mulD (mBin modD (mBin addD (mBin fdivD (mVar 3) (mVar 2)) (mBin fdivD (mVar 3) (mC (.int 7)))) (mC (.int 2))) (mC (.int 2))))) (z := [.sh (.lst (cs.map .int)), .sh (.int code), .sh (.int n), .no]) (ds := cs.map .int)
      (fun d => match d with | .int c => .int (c % n * (1 - (c / n + c / 7) % 2 * 2)) | _ => .non) rfl hlen fun d hd => by
        obtain ⟨c, _, rfl⟩ := List.mem_map.mp hd
        have b2 : -(2 ^ 64) < (1 - (c / n + c / 7) % 2 * 2) ∧ (1 - (c / n + c / 7) % 2 * 2) < 2 ^ 64 := by omega
        have b1 : -(2 ^ 64) < ((c / n + c / 7) % 2) ∧ ((c / n + c / 7) % 2) < 2 ^ 64 := by omega
        refine mBin_ok (x := .int (c % n)) (y := .int (1 - (c / n + c / 7) % 2 * 2)) (mBin_ok (x := .int c) (y := .int n) rfl rfl (modD_ok hpos)) (mBin_ok rfl (mBin_ok (x := .int ((c / n + c / 7) % 2)) (y := .int 2) (mBin_ok (mBin_ok (mBin_ok (x := .int c) (y := .int n) rfl rfl (efd c)) (mBin_ok (x := .int c) (y := .int 7) rfl rfl (fdivD_ok (by decide) (by decide))) rfl) rfl (modD_ok (by decide))) rfl (mulD_ok (.inl b1))) rfl) (mulD_ok (.inr b2))
    refine (mL_ok ec).trans ?_
    rw [List.map_map, List.map_map]
    rfl
  | false =>
    rw [hb] at e2
    refine ⟨cs.map fun c => c % n - code / 28 % 3, ?_, List.length_map _⟩
    refine runF_rt ((sSeq_nx e1).trans ((sSeq_nx ((sIf_f e2).trans rfl)).trans (sRet_ok ?_)))
    have ec := mComp_map (i := 3) (vs := [3]) (mi := mSeq (mVar 0)) (me := mBin subD (mBin modD (mVar 3) (mVar 2)) (mBin modD (mBin fdivD (mVar 1) (mC (.int 28))) (mC (.int 3)))) (z := [.sh (.lst (cs.map .int)), .sh (.int code), .sh (.int n), .no]) (ds := cs.map .int)
      (fun d => match d with | .int c => .int (c % n - code / 28 % 3) | _ => .non) rfl hlen fun d hd => by
        obtain ⟨c, _, rfl⟩ := List.mem_map.mp hd
        exact mBin_ok (mBin_ok (x := .int c) (y := .int n) rfl rfl (modD_ok hpos)) (mBin_ok (mBin_ok (x := .int code) (y := .int 28) rfl rfl (fdivD_ok (by decide) (by decide))) rfl (modD_ok (by decide))) rfl
    refine (mL_ok ec).trans ?_
    rw [List.map_map, List.map_map]
    rfl
end CL


set_option Elab.async false
set_option linter.all false
set_option maxRecDepth 100000
namespace CL
open PySem L2
/-! ### numbers all over -/
theorem num_getD {xs : List D} {i : Nat} (h : ∀ d ∈ xs, isNum d = true) (hi : i < xs.length) : isNum (xs.getD i .non) = true := by
  rw [List.getD_eq_getElem?_getD, List.getElem?_eq_getElem hi]
  exact h _ (List.getElem_mem hi)
theorem num_clip {sh : List D} {c : D} (h : ∀ d ∈ sh, isNum d = true) (hc : isClip sh.length c = true) : ∀ d ∈ clipD sh c, isNum d = true := by
  obtain ⟨p, m, s, rfl⟩ := isClip_shape hc
  intro d hd
  obtain ⟨i, hi, rfl⟩ := List.mem_map.mp (show d ∈ clipL sh p m s from hd)
  obtain ⟨g0, g1⟩ := clip_in hc (List.mem_range.mp hi)
  exact num_getD h (by omega)
theorem num_paste {sh cs : List D} (h : ∀ d ∈ sh, isNum d = true) (hc : ∀ c ∈ cs, isClip sh.length c = true) : ∀ d ∈ pasteL sh cs, isNum d = true := by
  intro d hd
  obtain ⟨c, h1, h2⟩ := List.mem_flatMap.mp hd
  exact num_clip h (hc c h1) d h2
theorem num_copy {acc : List D} {p : Int} (h : ∀ d ∈ acc, isNum d = true) (h0 : 0 ≤ p) (h1 : p < acc.length) : ∀ (k : Nat), ∀ d ∈ copyN acc p k, isNum d = true
  | 0, d, hd => h d hd
  | k + 1, d, hd => by
    have ih := num_copy h h0 h1 k
    rcases List.mem_append.mp hd with hd | hd
    · exact ih d hd
    · rw [List.mem_singleton] at hd
      subst hd
      exact num_getD ih (by rw [copyN_length]; omega)
theorem num_grow : ∀ {ds acc xs : List D}, growO acc ds = some xs → (∀ d ∈ acc, isNum d = true) → ∀ d ∈ xs, isNum d = true
  | [], acc, xs, h, ha => by
    cases h
    exact ha
  | d :: ds, acc, xs, h, ha => by
    unfold growO at h
    split at h
    · rename_i hd
      refine num_grow h ?_
      rcases isDeed_shape hd with ⟨v, rfl⟩ | ⟨p, m, rfl, h0, h1, _⟩
      · intro d hd
        rcases List.mem_append.mp (show d ∈ acc ++ [.int v] from hd) with hd | hd
        · exact ha d hd
        · rw [List.mem_singleton] at hd
          subst hd
          rfl
      · exact num_copy ha h0 h1 m.toNat
    · cases h
theorem num_all {xs : List D} (h : ∀ d ∈ xs, isNum d = true) : xs.all isNum = true := List.all_eq_true.mpr h
theorem num_ok {xs : List D} (h : ∀ d ∈ xs, isNum d = true) : ∀ d ∈ xs, okD d = true := fun d hd => by
  obtain ⟨i, rfl⟩ := nums1 (h d hd)
  rfl
theorem num_pl {xs : List D} (h : ∀ d ∈ xs, isNum d = true) : pl 1 (.lst xs) := pl_lst fun d hd => by
  obtain ⟨i, rfl⟩ := nums1 (h d hd)
  exact pl_int
theorem num_ints (ns : List Int) : ∀ d ∈ ns.map D.int, isNum d = true := List.all_eq_true.mp (all_ints ns)
theorem num_is {xs : List D} (h : ∀ d ∈ xs, isNum d = true) : ∃ ns : List Int, xs = ns.map D.int := by
  induction xs with
  | nil => exact ⟨[], rfl⟩
  | cons x xs ih =>
    obtain ⟨i, rfl⟩ := nums1 (h x List.mem_cons_self)
    obtain ⟨ns, e⟩ := ih fun d hd => h d (List.mem_cons_of_mem _ hd)
    exact ⟨i :: ns, by rw [e]; rfl⟩
/-! ### _law_clippings -/
def stepI (c : Int) : Int := if c / 3 % 2 = 0 then 1 else -1
def farI (n c : Int) : Int := if stepI c = 1 then n - c % n else c % n + 1
def clipOf (n c : Int) : D := .tup [.int (c % n), .int (1 + c / 5 % farI n c), .int (stepI c)]
theorem clipOf_clip {n : Nat} (h : 0 < n) (c : Int) : isClip n (clipOf n c) = true := by
  refine isClip_iff.mpr ?_
  have hp : 0 ≤ c % (n : Int) := Int.emod_nonneg _ (by omega)
  have hp2 : c % (n : Int) < n := Int.emod_lt_of_pos _ (by omega)
  unfold farI stepI
  by_cases hs : c / 3 % 2 = 0
  · rw [if_pos hs, if_pos rfl]
    have h1 : 0 ≤ c / 5 % ((n : Int) - c % n) := Int.emod_nonneg _ (by omega)
    have h2 : c / 5 % ((n : Int) - c % n) < (n : Int) - c % n := Int.emod_lt_of_pos _ (by omega)
    omega
  · rw [if_neg hs, if_neg (by decide)]
    have h1 : 0 ≤ c / 5 % (c % n + 1) := Int.emod_nonneg _ (by omega)
    have h2 : c / 5 % (c % n + 1) < c % n + 1 := Int.emod_lt_of_pos _ (by omega)
    omega
abbrev m_lc1 : MS := sSeq (sPar 4 5 (aCons (mBin modD (mVar 3) (mUn lenD (mVar 0))) (aCons (mBin ixD (mTup (aCons (mC (.int 1)) (aCons (mUn negD (mC (.int 1))) aNil))) (mBin modD (mBin fdivD (mVar 3) (mC (.int 3))) (mC (.int 2)))) aNil)))
  (sSeq (sSet 6 (mIf (bV (mBin eqB (mVar 5) (mC (.int 1)))) (mBin subD (mUn lenD (mVar 0)) (mVar 4)) (mBin addD (mVar 4) (mC (.int 1)))))
  (sApp 2 (mTup (aCons (mVar 4) (aCons (mBin addD (mC (.int 1)) (mBin modD (mBin fdivD (mVar 3) (mC (.int 5))) (mVar 6))) (aCons (mVar 5) aNil))))))
theorem aCons_ok {m : M} {ms : ML} {z : List Sd} {x : D} {xs : List D} (h1 : m z = .ok x) (h2 : ms z = .ok xs) : aCons m ms z = .ok (x :: xs) := by
  unfold aCons
  rw [h1, bnd_ok, h2]
  rfl
theorem sPar_ok {i j : Nat} {ms : ML} {z : List Sd} {x y : D} (h : ms z = .ok [x, y]) : sPar i j ms z = .ok (.nx ((z.set i (.sh x)).set j (.sh y))) := by
  unfold sPar
  rw [h]
  rfl
theorem mIf_t {t : MB} {a b : M} {z : List Sd} (h : t z = .ok true) : mIf t a b z = a z := by unfold mIf; rw [h]; rfl
theorem mIf_f {t : MB} {a b : M} {z : List Sd} (h : t z = .ok false) : mIf t a b z = b z := by unfold mIf; rw [h]; rfl
theorem lc_turn {sh : List D} {c0 : D} {acc : List D} {c : Int} {x4 x5 x6 : Sd} (hn : 0 < sh.length) (hl : acc.length < 1000) (hl2 : sh.length ≤ 1000) :
    ∃ a b d, m_lc1 [.sh (.lst sh), .sh c0, .ow acc, .sh (.int c), x4, x5, x6] = .ok (.nx [.sh (.lst sh), .sh c0, .ow (acc ++ [clipOf sh.length c]), .sh (.int c), a, b, d]) := by
  have hp : 0 ≤ c % (sh.length : Int) := Int.emod_nonneg _ (by omega)
  have hp2 : c % (sh.length : Int) < sh.length := Int.emod_lt_of_pos _ (by omega)
  have e1 : sPar 4 5 (aCons (mBin modD (mVar 3) (mUn lenD (mVar 0))) (aCons (mBin ixD (mTup (aCons (mC (.int 1)) (aCons (mUn negD (mC (.int 1))) aNil))) (mBin modD (mBin fdivD (mVar 3) (mC (.int 3))) (mC (.int 2)))) aNil)) [.sh (.lst sh), .sh c0, .ow acc, .sh (.int c), x4, x5, x6]
      = .ok (.nx [.sh (.lst sh), .sh c0, .ow acc, .sh (.int c), .sh (.int (c % sh.length)), .sh (.int (stepI c)), x6]) := by
    refine sPar_ok (x := .int (c % sh.length)) (y := .int (stepI c)) (aCons_ok (mBin_ok (x := .int c) (y := .int sh.length) rfl rfl (modD_ok (by omega))) (aCons_ok (mBin_ok (x := .tup [.int 1, .int (-1)]) (y := .int (c / 3 % 2)) (mTup_ok rfl (le_line (by show 2 ≤ 16777216; decide))) (mBin_ok (mBin_ok (x := .int c) rfl rfl (fdivD_ok (by decide) (by decide))) rfl (modD_ok (by decide))) ?_) rfl))
    have : c / 3 % 2 = 0 ∨ c / 3 % 2 = 1 := by omega
    unfold stepI
    rcases this with h | h <;> rw [h] <;> rfl
  have e2 : sSet 6 (mIf (bV (mBin eqB (mVar 5) (mC (.int 1)))) (mBin subD (mUn lenD (mVar 0)) (mVar 4)) (mBin addD (mVar 4) (mC (.int 1)))) [.sh (.lst sh), .sh c0, .ow acc, .sh (.int c), .sh (.int (c % sh.length)), .sh (.int (stepI c)), x6]
      = .ok (.nx [.sh (.lst sh), .sh c0, .ow acc, .sh (.int c), .sh (.int (c % sh.length)), .sh (.int (stepI c)), .sh (.int (farI sh.length c))]) := by
    refine sSet_ok (d := .int (farI sh.length c)) ?_
    have et : bV (mBin eqB (mVar 5) (mC (.int 1))) [.sh (.lst sh), .sh c0, .ow acc, .sh (.int c), .sh (.int (c % sh.length)), .sh (.int (stepI c)), x6] = .ok (stepI c == 1) := bV_b (mBin_ok (x := .int (stepI c)) (y := .int 1) rfl rfl (by unfold eqB; rw [eqD_int]; rfl))
    unfold farI
    by_cases hs : stepI c = 1
    · rw [if_pos hs]
      rw [show (stepI c == 1) = true by rw [hs]; rfl] at et
      exact (mIf_t et).trans rfl
    · rw [if_neg hs]
      rw [show (stepI c == 1) = false from beq_eq_false_iff_ne.mpr hs] at et
      exact (mIf_f et).trans rfl
  have hf : 0 < farI sh.length c := by
    unfold farI
    split <;> omega
  refine ⟨_, _, _, (sSeq_nx e1).trans ((sSeq_nx e2).trans (sApp_ok (ds := acc) (d := clipOf sh.length c) rfl (mTup_ok (aCons_ok rfl (aCons_ok (mBin_ok rfl (mBin_ok (mBin_ok (x := .int c) rfl rfl (fdivD_ok (by decide) (by decide))) (y := .int (farI sh.length c)) rfl (modD_ok hf)) rfl) (aCons_ok rfl rfl))) (le_line (by show 3 ≤ 16777216; decide))) (by rw [sizeLine_eq]; omega)))⟩
theorem lc_for {sh : List D} {c0 : D} (hn : 0 < sh.length) (hl2 : sh.length ≤ 1000) : ∀ (cs : List Int) (acc : List D) (a b c d : Sd), acc.length + cs.length < 1000 →
    ∃ a' b' c' d', forD (.nm 3) m_lc1 (cs.map .int) [.sh (.lst sh), .sh c0, .ow acc, a, b, c, d] = .ok (.nx [.sh (.lst sh), .sh c0, .ow (acc ++ cs.map (clipOf sh.length)), a', b', c', d'])
  | [], acc, a, b, c, d, _ => ⟨a, b, c, d, by simp [forD]⟩
  | x :: cs, acc, a, b, c, d, hz => by
    rw [List.length_cons] at hz
    obtain ⟨b1, c1, d1, e⟩ := lc_turn (sh := sh) (c0 := c0) (acc := acc) (c := x) (x4 := b) (x5 := c) (x6 := d) hn (by omega) hl2
    obtain ⟨a', b', c', d', ih⟩ := lc_for (c0 := c0) hn hl2 cs (acc ++ [clipOf sh.length x]) (.sh (.int x)) b1 c1 d1 (by rw [List.length_append, List.length_singleton]; omega)
    refine ⟨a', b', c', d', ?_⟩
    rw [List.append_assoc] at ih
    exact (forD_nx rfl e).trans ih
theorem law_clippings_eq (r cs : List Int) (hr : r.length ≤ 1000) (hc : cs.length < 1000) : ∃ cl : List D, f_law_clippings [.lst (r.map .int), .lst (cs.map .int)] = .ok (.lst cl) ∧ cl.length ≤ cs.length ∧ ∀ c ∈ cl, isClip r.length c = true := by
  have e1 : sSetO 2 (mLst aNil) (st0 7 [.lst (r.map .int), .lst (cs.map .int)]) = .ok (.nx [.sh (.lst (r.map .int)), .sh (.lst (cs.map .int)), .ow [], .no, .no, .no, .no]) := rfl
  have et : bV (mBin neB (mVar 0) (mL (mLst aNil))) [.sh (.lst (r.map .int)), .sh (.lst (cs.map .int)), .ow [], .no, .no, .no, .no] = .ok (!r.isEmpty) := by
    refine bV_b (mBin_ok (x := .lst (r.map .int)) (y := .lst []) rfl rfl ?_)
    cases r with
    | nil => rfl
    | cons x r =>
      obtain ⟨p, q, h1, h2, h3⟩ := eqD_pl (pl_ints (k := 0) (x :: r)) (pl_ints (k := 0) []) (by decide) (by decide)
      unfold neB
      rw [show (D.lst []) = D.lst (([] : List Int).map D.int) from rfl, h3]
      simp only [toPy, List.map_nil, toPyAll, Option.map_some, Option.some.injEq] at h2
      subst h2
      simp only [toPy, List.map_cons, toPyAll] at h1
      cases h4 : toPyAll (r.map D.int) with
      | none => rw [h4] at h1; cases h1
      | some ps =>
        rw [h4] at h1
        cases h1
        simp [PyData.eqv, PyData.eqvAll]
  cases r with
  | nil =>
    have e2 : mSeq (mIf (bV (mBin neB (mVar 0) (mL (mLst aNil)))) (mVar 1) (mL (mLst aNil))) [.sh (.lst (([] : List Int).map .int)), .sh (.lst (cs.map .int)), .ow [], .no, .no, .no, .no] = .ok [] := by
      unfold mSeq
      rw [mIf_f et]
      rfl
    exact ⟨[], runF_rt ((sSeq_nx e1).trans ((sSeq_nx ((sFor_ok e2).trans rfl)).trans rfl)), Nat.zero_le _, fun c h => by cases h⟩
  | cons x r =>
    have e2 : mSeq (mIf (bV (mBin neB (mVar 0) (mL (mLst aNil)))) (mVar 1) (mL (mLst aNil))) [.sh (.lst ((x :: r).map .int)), .sh (.lst (cs.map .int)), .ow [], .no, .no, .no, .no] = .ok (cs.map .int) := by
      unfold mSeq
      rw [mIf_t et]
      rfl
    obtain ⟨a, b, c, d, ef⟩ := lc_for (sh := (x :: r).map .int) (c0 := .lst (cs.map .int)) (by simp) (by rw [List.length_map]; exact hr) cs [] .no .no .no .no (by simpa using hc)
    rw [List.nil_append, List.length_map] at ef
    refine ⟨cs.map (clipOf (x :: r).length), runF_rt ((sSeq_nx e1).trans ((sSeq_nx ((sFor_ok e2).trans ef)).trans rfl)), by rw [List.length_map]; exact Nat.le_refl _, fun c h => ?_⟩
    obtain ⟨k, _, rfl⟩ := List.mem_map.mp h
    exact clipOf_clip (by simp) k
end CL


set_option Elab.async false
set_option linter.all false
set_option maxRecDepth 100000
namespace CL
open PySem L2
/-! ### growO -/
theorem growO_append : ∀ (a b acc : List D), growO acc (a ++ b) = (growO acc a).bind fun xs => growO xs b
  | [], b, acc => rfl
  | d :: a, b, acc => by
    show (if isDeed acc.length d = true then growO (grow1 acc d) (a ++ b) else none) = (if isDeed acc.length d = true then growO (grow1 acc d) a else none).bind fun xs => growO xs b
    split
    · exact growO_append a b (grow1 acc d)
    · rfl
theorem growO_take {ds xs : List D} (h : growO [] ds = some xs) (k : Nat) : ∃ ys, growO [] (ds.take k) = some ys := by
  have e : ds.take k ++ ds.drop k = ds := List.take_append_drop k ds
  rw [← e, growO_append] at h
  cases q : growO [] (ds.take k) with
  | none => rw [q] at h; cases h
  | some ys => exact ⟨ys, rfl⟩
theorem growO_ok : ∀ {ds acc xs : List D}, growO acc ds = some xs → ∀ d ∈ ds, okE d
  | [], _, _, _, d, hd => by cases hd
  | e :: ds, acc, xs, h, d, hd => by
    unfold growO at h
    split at h
    · rename_i he
      rcases List.mem_cons.mp hd with rfl | hd
      · exact deed_ok he
      · exact growO_ok h d hd
    · cases h
theorem pl_deed {n : Nat} {d : D} (h : isDeed n d = true) : pl 1 d := by
  rcases isDeed_shape h with ⟨v, rfl⟩ | ⟨p, m, rfl, _⟩
  · refine pl_tup fun x hx => ?_
    simp only [List.mem_cons, List.not_mem_nil, or_false] at hx
    rcases hx with rfl | rfl
    · exact pl_str ok_put
    · exact pl_int
  · refine pl_tup fun x hx => ?_
    simp only [List.mem_cons, List.not_mem_nil, or_false] at hx
    rcases hx with rfl | rfl | rfl
    · exact pl_str ok_copy
    · exact pl_int
    · exact pl_int
theorem growO_pl : ∀ {ds acc xs : List D}, growO acc ds = some xs → ∀ d ∈ ds, pl 1 d
  | [], _, _, _, d, hd => by cases hd
  | e :: ds, acc, xs, h, d, hd => by
    unfold growO at h
    split at h
    · rename_i he
      rcases List.mem_cons.mp hd with rfl | hd
      · exact pl_deed he
      · exact growO_pl h d hd
    · cases h
theorem growO_len : ∀ {ds acc xs : List D}, growO acc ds = some xs → xs.length = acc.length + (ds.map cost).sum
  | [], acc, xs, h => by
    cases h
    rfl
  | d :: ds, acc, xs, h => by
    unfold growO at h
    split at h
    · rename_i hd
      have ih := growO_len h
      rw [List.map_cons, List.sum_cons, ih]
      rcases isDeed_shape hd with ⟨v, rfl⟩ | ⟨p, m, rfl, _⟩
      · show (acc ++ [_]).length + _ = acc.length + (1 + _)
        rw [List.length_append, List.length_singleton]
        omega
      · show (copyN acc p m.toNat).length + _ = acc.length + (m.toNat + _)
        rw [copyN_length]
        omega
    · cases h
theorem cost_take (ds : List D) (k : Nat) : ((ds.take k).map cost).sum ≤ (ds.map cost).sum := by
  have e : ((ds.take k ++ ds.drop k).map cost).sum = (ds.map cost).sum := by rw [List.take_append_drop]
  rw [List.map_append, List.sum_append] at e
  omega
/-! ### _law_grown -/
abbrev m_lgcopy : MS := sApp 1 (mIxI (iOw 1) (mVar 3))
theorem lg_for {ds0 dd : D} {p : Int} {acc : List D} {mm : Nat} (h0 : 0 ≤ p) (h1 : p < acc.length) (hz : acc.length + mm ≤ sizeLine) : ∀ (k j : Nat) (x : Sd), j + k = mm →
    ∃ x', forD (.nm 3) m_lgcopy ((List.range' j k).map fun (i : Nat) => D.int (p + (i : Nat))) [.sh ds0, .ow (copyN acc p j), .sh dd, x] = .ok (.nx [.sh ds0, .ow (copyN acc p mm), .sh dd, x'])
  | 0, j, x, e => ⟨x, by
      have : j = mm := by omega
      subst this
      rfl⟩
  | k + 1, j, x, e => by
    obtain ⟨x', ih⟩ := lg_for h0 h1 hz k (j + 1) (.sh (.int (p + (j : Nat)))) (by omega)
    refine ⟨x', ?_⟩
    have el := copyN_length acc p j
    have hat := atI_in (xs := copyN acc p j) (i := p + (j : Int)) (by omega) (by rw [el]; omega)
    have e2 : m_lgcopy [.sh ds0, .ow (copyN acc p j), .sh dd, .sh (.int (p + (j : Nat)))] = .ok (.nx [.sh ds0, .ow (copyN acc p (j + 1)), .sh dd, .sh (.int (p + (j : Nat)))]) :=
      (sApp_ok (ds := copyN acc p j) rfl (d := (copyN acc p j).getD (p + (j : Int)).toNat .non) (mIxI_ok (xs := copyN acc p j) (y := .int (p + (j : Int))) rfl rfl hat) (by rw [el]; omega)).trans rfl
    rw [List.range'_succ, List.map_cons, ← ih]
    exact forD_nx rfl e2
abbrev t_lg : MB := bOr (bNot (bV (mUn (isTy .tuple) (mVar 2)))) (bOr (bV (mBin ltD (mUn lenD (mVar 2)) (mC (.int 2)))) (bNot (bV (mCall 1 f_law_numbers (aCons (mL (mSeq (mCutT (mVar 2) (oSome (mC (.int 1))) oNone))) aNil)))))
abbrev t_lgput : MB := bAnd (bV (mBin eqB (mBin ixD (mVar 2) (mC (.int 0))) (mC (.str "put")))) (bV (mBin eqB (mUn lenD (mVar 2)) (mC (.int 2))))
abbrev t_lgcopy : MB := bAnd (bV (mBin eqB (mBin ixD (mVar 2) (mC (.int 0))) (mC (.str "copy")))) (bAnd (bV (mBin eqB (mUn lenD (mVar 2)) (mC (.int 3)))) (bAnd (bV (mChain leD ltD (mC (.int 0)) (mBin ixD (mVar 2) (mC (.int 1))) (mLenI (iOw 1)))) (bV (mBin gtD (mBin ixD (mVar 2) (mC (.int 2))) (mC (.int 0))))))
abbrev m_lg1 : MS := sSeq (sIf t_lg (sRet (mC .non)) sNil)
  (sIf t_lgput (sSetO 1 (mCat (iOw 1) (mLst (aCons (mBin ixD (mVar 2) (mC (.int 1))) aNil))))
  (sIf t_lgcopy (sFor (.nm 3) (mOf rng2 (aCons (mBin ixD (mVar 2) (mC (.int 1))) (aCons (mBin addD (mBin ixD (mVar 2) (mC (.int 1))) (mBin ixD (mVar 2) (mC (.int 2)))) aNil))) m_lgcopy)
  (sRet (mC .non))))
theorem cut_tail {ds : List D} (h2 : 2 ≤ ds.length) : cutT ds (some 1) none = some (.tup ds.tail) := by
  unfold cutT
  have e1 : HT.sIx ds.length 0 (some 1) = 1 := by
    rw [show (1 : Int) = ((1 : Nat) : Int) from rfl, HT.sIx_nat]
    omega
  rw [if_neg (by rw [e1]; omega)]
  unfold cutD
  rw [e1, HT.sIx_none, List.drop_one, List.take_of_length_le (by rw [List.length_tail]; omega)]
theorem lg_num {ds0 : D} {acc ds : List D} {x : Sd} (h2 : 2 ≤ ds.length) (hz : ds.length ≤ sizeLine) (hk : ∀ x ∈ ds.tail, okD x = true) :
    t_lg [.sh ds0, .ow acc, .sh (.tup ds), x] = .ok (!ds.tail.all isNum) := by
  have es : mL (mSeq (mCutT (mVar 2) (oSome (mC (.int 1))) oNone)) [.sh ds0, .ow acc, .sh (.tup ds), x] = .ok (.lst ds.tail) := by
    show ((ofO (cutT ds (some 1) none)).bnd _).bnd _ = _
    rw [cut_tail h2]
    rfl
  have el : bV (mBin ltD (mUn lenD (mVar 2)) (mC (.int 2))) [.sh ds0, .ow acc, .sh (.tup ds), x] = .ok false := by
    refine bV_b (mBin_ok (x := .int ds.length) (y := .int 2) rfl rfl ?_)
    show some (D.bl (decide ((ds.length : Int) < 2))) = _
    rw [decide_eq_false (by omega)]
  exact (bOr_f rfl).trans ((bOr_f el).trans (bNot_b (bV_b (mCall_is (ds := [.lst ds.tail]) (aCons_ok es rfl) rfl (law_numbers_eq hk (by rw [List.length_tail]; omega))))))
theorem eq_len {z : List Sd} {ds : List D} {k : Int} (h : z[2]? = some (.sh (.tup ds))) : bV (mBin eqB (mUn lenD (mVar 2)) (mC (.int k))) z = .ok ((ds.length : Int) == k) := by
  have ev : mVar 2 z = .ok (.tup ds) := by unfold mVar; rw [h]
  exact bV_b (mBin_ok (mUn_ok ev rfl) rfl (by unfold eqB; rw [eqD_int]; rfl))
theorem eq_head {z : List Sd} {a : D} {ds : List D} {s : Str} (h : z[2]? = some (.sh (.tup (a :: ds)))) (ha : headOk a = true) (hs : PyData.strOk s = true) : bV (mBin eqB (mBin ixD (mVar 2) (mC (.int 0))) (mC (.str s))) z = .ok (isS s a) := by
  have ev : mVar 2 z = .ok (.tup (a :: ds)) := by unfold mVar; rw [h]
  exact bV_b (mBin_ok (x := a) (mBin_ok ev rfl (show atI (a :: ds) ((0 : Nat) : Int) = some a from atI_nat rfl)) rfl (eqB_str ha hs))
theorem put_copy {a : D} (h : isS "put" a = true) : isS "copy" a = false := by
  cases a <;> first | exact absurd (show false = true from h) Bool.false_ne_true | skip
  rename_i x
  have e : x = "put" := eq_of_beq h
  subst e
  decide +kernel
theorem lg_turn {ds0 d : D} {acc : List D} {x : Sd} (hk : okE d) (hz : acc.length + cost d ≤ sizeLine) :
    if isDeed acc.length d then ∃ x', m_lg1 [.sh ds0, .ow acc, .sh d, x] = .ok (.nx [.sh ds0, .ow (grow1 acc d), .sh d, x']) else m_lg1 [.sh ds0, .ow acc, .sh d, x] = .ok (.rt .non) := by
  obtain ⟨h1, h2⟩ := hk
  cases d <;> first | exact absurd (show false = true from h1) Bool.false_ne_true | exact (show m_lg1 _ = _ from rfl) | skip
  rename_i ds
  obtain ⟨hz1, hh, hk⟩ := h2 ds rfl
  match ds, hz1, hh, hk, hz with
  | [], _, _, _, _ => exact (show m_lg1 _ = _ from rfl)
  | [a], _, _, _, _ => exact (show m_lg1 _ = _ from rfl)
  | [a, b], hz1, hh, hk, hz =>
    have en := lg_num (ds0 := ds0) (acc := acc) (x := x) (ds := [a, b]) (Nat.le_refl 2) hz1 hk
    have ha := hh a rfl
    have ep := eq_head (z := [.sh ds0, .ow acc, .sh (.tup [a, b]), x]) rfl ha ok_put
    have ec := eq_head (z := [.sh ds0, .ow acc, .sh (.tup [a, b]), x]) rfl ha ok_copy
    rw [isDeed_two]
    cases hb : isNum b with
    | false =>
      rw [show ([a, b].tail.all isNum) = false by show (isNum b && true) = false; rw [hb]; rfl] at en
      exact (show m_lg1 _ = _ from sSeq_rt ((sIf_t en).trans rfl))
    | true =>
      rw [show ([a, b].tail.all isNum) = true by show (isNum b && true) = true; rw [hb]; rfl] at en
      have e1 : sIf t_lg (sRet (mC .non)) sNil [.sh ds0, .ow acc, .sh (.tup [a, b]), x] = .ok (.nx [.sh ds0, .ow acc, .sh (.tup [a, b]), x]) := (sIf_f en).trans rfl
      obtain ⟨v, rfl⟩ := nums1 hb
      have hc1 : cost (.tup [a, .int v]) = 1 := rfl
      cases hs : isS "put" a with
      | true =>
        rw [hs] at ep
        refine (show ∃ x', m_lg1 _ = _ from ⟨x, (sSeq_nx e1).trans ((sIf_t ((bAnd_t ep).trans rfl)).trans ?_)⟩)
        exact sSetO_ok (mCat_ok (xs := acc) (ys := [.int v]) rfl rfl (by rw [List.length_singleton]; omega))
      | false =>
        rw [hs] at ep
        refine (show m_lg1 _ = _ from (sSeq_nx e1).trans ((sIf_f (bAnd_f ep)).trans ?_))
        cases hs2 : isS "copy" a with
        | true =>
          rw [hs2] at ec
          exact (sIf_f ((bAnd_t ec).trans (bAnd_f rfl))).trans rfl
        | false =>
          rw [hs2] at ec
          exact (sIf_f (bAnd_f ec)).trans rfl
  | [a, b, c], hz1, hh, hk, hz =>
    have en := lg_num (ds0 := ds0) (acc := acc) (x := x) (ds := [a, b, c]) (by show 2 ≤ 3; decide) hz1 hk
    have ha := hh a rfl
    have ep := eq_head (z := [.sh ds0, .ow acc, .sh (.tup [a, b, c]), x]) rfl ha ok_put
    have ec := eq_head (z := [.sh ds0, .ow acc, .sh (.tup [a, b, c]), x]) rfl ha ok_copy
    cases hb : (isNum b && isNum c) with
    | false =>
      rw [show ([a, b, c].tail.all isNum) = false by show (isNum b && (isNum c && true)) = false; rw [Bool.and_true, hb]] at en
      rw [isDeed_three hb]
      exact (show m_lg1 _ = _ from sSeq_rt ((sIf_t en).trans rfl))
    | true =>
      rw [show ([a, b, c].tail.all isNum) = true by show (isNum b && (isNum c && true)) = true; rw [Bool.and_true, hb]] at en
      have e1 : sIf t_lg (sRet (mC .non)) sNil [.sh ds0, .ow acc, .sh (.tup [a, b, c]), x] = .ok (.nx [.sh ds0, .ow acc, .sh (.tup [a, b, c]), x]) := (sIf_f en).trans rfl
      rw [Bool.and_eq_true] at hb
      obtain ⟨p, rfl⟩ := nums1 hb.1
      obtain ⟨m, rfl⟩ := nums1 hb.2
      have hc1 : cost (.tup [a, .int p, .int m]) = m.toNat := rfl
      rw [hc1] at hz
      have eput : t_lgput [.sh ds0, .ow acc, .sh (.tup [a, .int p, .int m]), x] = .ok false := by
        cases hs : isS "put" a with
        | true =>
          rw [hs] at ep
          exact (bAnd_t ep).trans rfl
        | false =>
          rw [hs] at ep
          exact bAnd_f ep
      have e2 : m_lg1 [.sh ds0, .ow acc, .sh (.tup [a, .int p, .int m]), x] = sIf t_lgcopy (sFor (.nm 3) (mOf rng2 (aCons (mBin ixD (mVar 2) (mC (.int 1))) (aCons (mBin addD (mBin ixD (mVar 2) (mC (.int 1))) (mBin ixD (mVar 2) (mC (.int 2)))) aNil))) m_lgcopy) (sRet (mC .non)) [.sh ds0, .ow acc, .sh (.tup [a, .int p, .int m]), x] := (sSeq_nx e1).trans (sIf_f eput)
      have ech : bV (mChain leD ltD (mC (.int 0)) (mBin ixD (mVar 2) (mC (.int 1))) (mLenI (iOw 1))) [.sh ds0, .ow acc, .sh (.tup [a, .int p, .int m]), x] = .ok (decide (0 ≤ p ∧ p < acc.length)) := bV_b (chain_ll (i := 0) (j := p) (k := acc.length) rfl rfl rfl)
      have egt : bV (mBin gtD (mBin ixD (mVar 2) (mC (.int 2))) (mC (.int 0))) [.sh ds0, .ow acc, .sh (.tup [a, .int p, .int m]), x] = .ok (decide (0 < m)) := bV_b (mBin_ok (x := .int m) (y := .int 0) rfl rfl rfl)
      have et : t_lgcopy [.sh ds0, .ow acc, .sh (.tup [a, .int p, .int m]), x] = .ok (isDeed acc.length (.tup [a, .int p, .int m])) := by
        show _ = Rs.ok (isS "copy" a && (decide (0 ≤ p ∧ p < (acc.length : Int)) && decide (0 < m)))
        cases hs : isS "copy" a with
        | false =>
          rw [hs] at ec
          exact bAnd_f ec
        | true =>
          rw [hs] at ec
          refine (bAnd_t ec).trans ((bAnd_t rfl).trans ?_)
          cases hq : decide (0 ≤ p ∧ p < (acc.length : Int)) with
          | false =>
            rw [hq] at ech
            exact bAnd_f ech
          | true =>
            rw [hq] at ech
            exact (bAnd_t ech).trans egt
      cases hd : isDeed acc.length (.tup [a, .int p, .int m]) with
      | false =>
        rw [hd] at et
        exact (show m_lg1 _ = _ from e2.trans ((sIf_f et).trans rfl))
      | true =>
        rw [hd] at et
        rcases isDeed_shape hd with ⟨v, hv⟩ | ⟨p', m', hv, h0, h1, h2⟩
        · cases hv
        · cases hv
          have er : rng2 [.int p, .int (p + m)] = some (rgD p m.toNat) := by
            have := hz
            rw [sizeLine_eq] at this
            simp only [rng2]
            rw [if_pos ⟨by omega, by omega, by omega, by omega⟩, show p + m - p = m by omega]
          obtain ⟨x', e3⟩ := lg_for (ds0 := ds0) (dd := .tup [.str "copy", .int p, .int m]) (acc := acc) h0 h1 hz m.toNat 0 x (by omega)
          refine (show ∃ x', m_lg1 _ = _ from ⟨x', e2.trans ((sIf_t et).trans ((sFor_ok (ds := rgD p m.toNat) ?_).trans ?_))⟩)
          · show ofO (rng2 [.int p, .int (p + m)]) = _
            rw [er]
            rfl
          · unfold rgD
            rw [List.range_eq_range']
            exact e3
  | a :: b :: c :: e :: r, hz1, hh, hk, hz =>
    have en := lg_num (ds0 := ds0) (acc := acc) (x := x) (ds := a :: b :: c :: e :: r) (by simp) hz1 hk
    have ha := hh a rfl
    have ep := eq_head (z := [.sh ds0, .ow acc, .sh (.tup (a :: b :: c :: e :: r)), x]) rfl ha ok_put
    have ec := eq_head (z := [.sh ds0, .ow acc, .sh (.tup (a :: b :: c :: e :: r)), x]) rfl ha ok_copy
    rw [isDeed_long]
    cases hb : (a :: b :: c :: e :: r).tail.all isNum with
    | false =>
      rw [hb] at en
      exact (show m_lg1 _ = _ from sSeq_rt ((sIf_t en).trans rfl))
    | true =>
      rw [hb] at en
      have e1 : sIf t_lg (sRet (mC .non)) sNil [.sh ds0, .ow acc, .sh (.tup (a :: b :: c :: e :: r)), x] = .ok (.nx [.sh ds0, .ow acc, .sh (.tup (a :: b :: c :: e :: r)), x]) := (sIf_f en).trans rfl
      have l2 := eq_len (z := [.sh ds0, .ow acc, .sh (.tup (a :: b :: c :: e :: r)), x]) (k := 2) rfl
      have l3 := eq_len (z := [.sh ds0, .ow acc, .sh (.tup (a :: b :: c :: e :: r)), x]) (k := 3) rfl
      rw [show ((((a :: b :: c :: e :: r).length : Nat) : Int) == 2) = false from beq_eq_false_iff_ne.mpr (by simp only [List.length_cons]; omega)] at l2
      rw [show ((((a :: b :: c :: e :: r).length : Nat) : Int) == 3) = false from beq_eq_false_iff_ne.mpr (by simp only [List.length_cons]; omega)] at l3
      refine (show m_lg1 _ = _ from (sSeq_nx e1).trans ((sIf_f ?_).trans ((sIf_f ?_).trans rfl)))
      · cases hs : isS "put" a with
        | true =>
          rw [hs] at ep
          exact (bAnd_t ep).trans l2
        | false =>
          rw [hs] at ep
          exact bAnd_f ep
      · cases hs : isS "copy" a with
        | true =>
          rw [hs] at ec
          exact (bAnd_t ec).trans (bAnd_f l3)
        | false =>
          rw [hs] at ec
          exact bAnd_f ec
theorem lgrown_for {ds0 : D} : ∀ (ds acc : List D) (x y : Sd), (∀ d ∈ ds, okE d) → acc.length + (ds.map cost).sum ≤ sizeLine →
    match growO acc ds with
    | some xs => ∃ x' y', forD (.nm 2) m_lg1 ds [.sh ds0, .ow acc, x, y] = .ok (.nx [.sh ds0, .ow xs, x', y'])
    | none => forD (.nm 2) m_lg1 ds [.sh ds0, .ow acc, x, y] = .ok (.rt .non)
  | [], acc, x, y, _, _ => ⟨x, y, rfl⟩
  | d :: ds, acc, x, y, hk, hz => by
    rw [List.map_cons, List.sum_cons] at hz
    have t := lg_turn (ds0 := ds0) (d := d) (acc := acc) (x := y) (hk d List.mem_cons_self) (by omega)
    unfold growO
    cases hd : isDeed acc.length d with
    | false =>
      rw [hd, if_neg Bool.false_ne_true] at t
      rw [if_neg Bool.false_ne_true]
      exact forD_rt rfl t
    | true =>
      rw [hd, if_pos rfl] at t
      rw [if_pos rfl]
      obtain ⟨y', t⟩ := t
      have hl : (grow1 acc d).length ≤ acc.length + cost d := by
        rcases isDeed_shape hd with ⟨v, rfl⟩ | ⟨p, m, rfl, _⟩
        · show (acc ++ [_]).length ≤ acc.length + 1
          rw [List.length_append]
          exact Nat.le_refl _
        · show (copyN acc p m.toNat).length ≤ acc.length + m.toNat
          rw [copyN_length]
          exact Nat.le_refl _
      have ih := lgrown_for (ds0 := ds0) ds (grow1 acc d) (.sh d) y' (fun e h => hk e (List.mem_cons_of_mem _ h)) (by omega)
      have e : forD (.nm 2) m_lg1 (d :: ds) [.sh ds0, .ow acc, x, y] = forD (.nm 2) m_lg1 ds [.sh ds0, .ow (grow1 acc d), .sh d, y'] := forD_nx rfl t
      rw [e]
      exact ih
theorem law_grown_eq {ds : List D} (hk : ∀ d ∈ ds, okE d) (hz : (ds.map cost).sum ≤ sizeLine) : f_law_grown [.lst ds] = .ok (match growO [] ds with | some xs => .lst xs | none => .non) := by
  have t := lgrown_for (ds0 := .lst ds) ds [] .no .no hk (by simpa using hz)
  cases hg : growO [] ds with
  | none =>
    rw [hg] at t
    exact runF_rt ((sSeq_nx (z' := [.sh (.lst ds), .ow [], .no, .no]) rfl).trans (sSeq_rt ((sFor_ok rfl).trans t)))
  | some xs =>
    rw [hg] at t
    obtain ⟨x', y', t⟩ := t
    exact runF_rt ((sSeq_nx (z' := [.sh (.lst ds), .ow [], .no, .no]) rfl).trans ((sSeq_nx ((sFor_ok rfl).trans t)).trans rfl))
end CL


set_option Elab.async false
set_option linter.all false
set_option maxRecDepth 100000
namespace CL
open PySem L2
/-! ### _law_deeds -/
abbrev t_ld : MB := bOr (bV (mBin eqB (mBin modD (mVar 3) (mC (.int 3))) (mC (.int 0)))) (bOr (bV (mBin eqB (mVar 2) (mC (.int 0)))) (bV (mBin gtD (mVar 2) (mC (.int 200)))))
abbrev m_ldput : MS := sSeq (sApp 1 (mTup (aCons (mC (.str "put")) (aCons (mIf (bV (mBin eqB (mBin modD (mVar 3) (mC (.int 2))) (mC (.int 0)))) (mBin subD (mBin modD (mBin fdivD (mVar 3) (mC (.int 3))) (mC (.int 7))) (mC (.int 3))) (mVar 3)) aNil))))
  (sSet 2 (mBin addD (mVar 2) (mC (.int 1))))
abbrev m_ldcopy : MS := sSeq (sSet 4 (mBin addD (mC (.int 1)) (mBin modD (mBin addD (mBin fdivD (mBin fdivD (mVar 3) (mC (.int 3))) (mVar 2)) (mBin fdivD (mVar 3) (mC (.int 7)))) (mBin ixD (mTup (aCons (mC (.int 90)) (aCons (mC (.int 9)) (aCons (mC (.int 9)) (aCons (mC (.int 9)) aNil))))) (mBin modD (mBin fdivD (mVar 3) (mC (.int 2))) (mC (.int 4)))))))
  (sSeq (sApp 1 (mTup (aCons (mC (.str "copy")) (aCons (mBin modD (mBin fdivD (mVar 3) (mC (.int 3))) (mVar 2)) (aCons (mVar 4) aNil)))))
  (sSet 2 (mBin addD (mVar 2) (mVar 4))))
abbrev m_ld1 : MS := sIf t_ld m_ldput m_ldcopy
theorem ld_turn {C : D} {acc : List D} {many : Nat} {c : Int} {x : Sd} (hl : acc.length < 1000) (hm : many < 1000) :
    ∃ d x', m_ld1 [.sh C, .ow acc, .sh (.int many), .sh (.int c), x] = .ok (.nx [.sh C, .ow (acc ++ [d]), .sh (.int ((many + cost d : Nat) : Int)), .sh (.int c), x']) ∧ isDeed many d = true ∧ cost d ≤ 90 ∧ (200 < many → cost d = 1) := by
  have e1 : bV (mBin eqB (mBin modD (mVar 3) (mC (.int 3))) (mC (.int 0))) [.sh C, .ow acc, .sh (.int many), .sh (.int c), x] = .ok (c % 3 == 0) := bV_b (mBin_ok (mBin_ok (x := .int c) rfl rfl (modD_ok (by decide))) rfl (by unfold eqB; rw [eqD_int]; rfl))
  have e2 : bV (mBin eqB (mVar 2) (mC (.int 0))) [.sh C, .ow acc, .sh (.int many), .sh (.int c), x] = .ok ((many : Int) == 0) := bV_b (mBin_ok (x := .int many) rfl rfl (by unfold eqB; rw [eqD_int]; rfl))
  have e3 : bV (mBin gtD (mVar 2) (mC (.int 200))) [.sh C, .ow acc, .sh (.int many), .sh (.int c), x] = .ok (decide ((200 : Int) < many)) := bV_b (mBin_ok (x := .int many) (y := .int 200) rfl rfl rfl)
  by_cases hp : c % 3 = 0 ∨ many = 0 ∨ 200 < many
  · have et : t_ld [.sh C, .ow acc, .sh (.int many), .sh (.int c), x] = .ok true := by
      by_cases h1 : c % 3 = 0
      · rw [show (c % 3 == 0) = true by rw [h1]; rfl] at e1
        exact bOr_t e1
      · rw [show (c % 3 == 0) = false from beq_eq_false_iff_ne.mpr h1] at e1
        by_cases h2 : many = 0
        · rw [show ((many : Int) == 0) = true by rw [h2]; rfl] at e2
          exact (bOr_f e1).trans (bOr_t e2)
        · rw [show ((many : Int) == 0) = false from beq_eq_false_iff_ne.mpr (by omega)] at e2
          rw [decide_eq_true (by omega)] at e3
          exact (bOr_f e1).trans ((bOr_f e2).trans e3)
    obtain ⟨v, ev⟩ : ∃ v, mIf (bV (mBin eqB (mBin modD (mVar 3) (mC (.int 2))) (mC (.int 0)))) (mBin subD (mBin modD (mBin fdivD (mVar 3) (mC (.int 3))) (mC (.int 7))) (mC (.int 3))) (mVar 3) [.sh C, .ow acc, .sh (.int many), .sh (.int c), x] = .ok (.int v) := by
      have e4 : bV (mBin eqB (mBin modD (mVar 3) (mC (.int 2))) (mC (.int 0))) [.sh C, .ow acc, .sh (.int many), .sh (.int c), x] = .ok (c % 2 == 0) := bV_b (mBin_ok (mBin_ok (x := .int c) rfl rfl (modD_ok (by decide))) rfl (by unfold eqB; rw [eqD_int]; rfl))
      cases hb : (c % 2 == 0) with
      | true =>
        rw [hb] at e4
        exact ⟨c / 3 % 7 - 3, (mIf_t e4).trans (mBin_ok (mBin_ok (mBin_ok (x := .int c) rfl rfl (fdivD_ok (by decide) (by decide))) rfl (modD_ok (by decide))) rfl rfl)⟩
      | false =>
        rw [hb] at e4
        exact ⟨c, (mIf_f e4).trans rfl⟩
    refine ⟨.tup [.str "put", .int v], x, (sIf_t et).trans ((sSeq_nx (sApp_ok (ds := acc) rfl (mTup_ok (aCons_ok rfl (aCons_ok ev rfl)) (le_line (by show 2 ≤ 16777216; decide))) (by rw [sizeLine_eq]; omega))).trans rfl), by show (("put" : Str) == "put") = true; decide +kernel, by show 1 ≤ 90; decide, fun _ => rfl⟩
  · have h1 : c % 3 ≠ 0 := fun q => hp (.inl q)
    have h2 : many ≠ 0 := fun q => hp (.inr (.inl q))
    have h3 : ¬ 200 < many := fun q => hp (.inr (.inr q))
    have et : t_ld [.sh C, .ow acc, .sh (.int many), .sh (.int c), x] = .ok false := by
      rw [show (c % 3 == 0) = false from beq_eq_false_iff_ne.mpr h1] at e1
      rw [show ((many : Int) == 0) = false from beq_eq_false_iff_ne.mpr (by omega)] at e2
      rw [decide_eq_false (by omega)] at e3
      exact (bOr_f e1).trans ((bOr_f e2).trans e3)
    obtain ⟨y, hy, ey⟩ := ix4 (.int 90) (.int 9) (.int 9) (.int 9) (k := c / 2 % 4) (by omega) (by omega)
    obtain ⟨n, hn, rfl⟩ : ∃ n : Int, (n = 90 ∨ n = 9) ∧ y = .int n := by
      simp only [List.mem_cons, List.not_mem_nil, or_false] at hy
      rcases hy with rfl | rfl | rfl | rfl
      · exact ⟨_, .inl rfl, rfl⟩
      all_goals exact ⟨_, .inr rfl, rfl⟩
    have hn0 : 0 < n := by omega
    have e4 : sSet 4 (mBin addD (mC (.int 1)) (mBin modD (mBin addD (mBin fdivD (mBin fdivD (mVar 3) (mC (.int 3))) (mVar 2)) (mBin fdivD (mVar 3) (mC (.int 7)))) (mBin ixD (mTup (aCons (mC (.int 90)) (aCons (mC (.int 9)) (aCons (mC (.int 9)) (aCons (mC (.int 9)) aNil))))) (mBin modD (mBin fdivD (mVar 3) (mC (.int 2))) (mC (.int 4)))))) [.sh C, .ow acc, .sh (.int many), .sh (.int c), x]
        = .ok (.nx [.sh C, .ow acc, .sh (.int many), .sh (.int c), .sh (.int (1 + (c / 3 / many + c / 7) % n))]) := by
      refine sSet_ok (d := .int (1 + (c / 3 / many + c / 7) % n)) (mBin_ok rfl (mBin_ok (mBin_ok (mBin_ok (mBin_ok (x := .int c) rfl rfl (fdivD_ok (by decide) (by decide))) (y := .int many) rfl (fdivD_ok (by omega) (by omega))) (mBin_ok (x := .int c) rfl rfl (fdivD_ok (by decide) (by decide))) rfl) (mBin_ok (mTup_ok rfl (le_line (by show 4 ≤ 16777216; decide))) (mBin_ok (mBin_ok (x := .int c) rfl rfl (fdivD_ok (by decide) (by decide))) rfl (modD_ok (by decide))) ey) (modD_ok hn0)) rfl)
    have hq0 : 0 ≤ (c / 3 / many + c / 7) % n := Int.emod_nonneg _ (by omega)
    have hq1 : (c / 3 / many + c / 7) % n < n := Int.emod_lt_of_pos _ hn0
    have hp0 : 0 ≤ c / 3 % (many : Int) := Int.emod_nonneg _ (by omega)
    have hp1 : c / 3 % (many : Int) < many := Int.emod_lt_of_pos _ (by omega)
    generalize (c / 3 / many + c / 7) % n = q at e4 hq0 hq1
    have hc : cost (.tup [.str "copy", .int (c / 3 % (many : Int)), .int (1 + q)]) = (1 + q).toNat := rfl
    refine ⟨.tup [.str "copy", .int (c / 3 % (many : Int)), .int (1 + q)], .sh (.int (1 + q)), (sIf_f et).trans ((sSeq_nx e4).trans ((sSeq_nx (sApp_ok (ds := acc) rfl (mTup_ok (aCons_ok rfl (aCons_ok (mBin_ok (mBin_ok (x := .int c) rfl rfl (fdivD_ok (by decide) (by decide))) (y := .int many) rfl (modD_ok (by omega))) (aCons_ok rfl rfl))) (le_line (by show 3 ≤ 16777216; decide))) (by rw [sizeLine_eq]; omega))).trans ?_)), ?_, by rw [hc]; omega, fun h => absurd h h3⟩
    · rw [hc, show (((many + (1 + q).toNat : Nat)) : Int) = (many : Int) + (1 + q) by omega]
      rfl
    · show ((("copy" : Str) == "copy") && (decide (0 ≤ c / 3 % (many : Int) ∧ c / 3 % (many : Int) < many) && decide (0 < 1 + q))) = true
      rw [decide_eq_true ⟨hp0, hp1⟩, decide_eq_true (by omega)]
      decide +kernel
theorem ld_for {C : D} : ∀ (cs : List Int) (acc xs : List D) (a b : Sd), growO [] acc = some xs → xs.length ≤ 290 + acc.length → acc.length + cs.length ≤ 100 →
    ∃ ds ys m a' b', forD (.nm 3) m_ld1 (cs.map .int) [.sh C, .ow acc, .sh (.int xs.length), a, b] = .ok (.nx [.sh C, .ow ds, .sh (.int m), a', b']) ∧ growO [] ds = some ys ∧ ys.length ≤ 390 ∧ ds.length ≤ 100
  | [], acc, xs, a, b, hg, hl, hz => ⟨acc, xs, xs.length, a, b, rfl, hg, by rw [List.length_nil] at hz; omega, by rw [List.length_nil] at hz; omega⟩
  | c :: cs, acc, xs, a, b, hg, hl, hz => by
    rw [List.length_cons] at hz
    obtain ⟨d, b1, e, hd, h1, h2⟩ := ld_turn (C := C) (acc := acc) (many := xs.length) (c := c) (x := b) (by omega) (by omega)
    have hg2 : growO [] (acc ++ [d]) = some (grow1 xs d) := by
      rw [growO_append, hg]
      show growO xs [d] = _
      unfold growO
      rw [hd]
      rfl
    have hl2 : (grow1 xs d).length = xs.length + cost d := by
      have := growO_len hg2
      have q := growO_len hg
      rw [List.map_append, List.sum_append] at this
      simp only [List.map_cons, List.map_nil, List.sum_cons, List.sum_nil, List.length_nil] at this q
      omega
    have hl3 : (grow1 xs d).length ≤ 290 + (acc ++ [d]).length := by
      rw [hl2, List.length_append, List.length_singleton]
      by_cases h : 200 < xs.length
      · have := h2 h
        omega
      · omega
    obtain ⟨ds, ys, m, a', b', ih, r⟩ := ld_for (C := C) cs (acc ++ [d]) (grow1 xs d) (.sh (.int c)) b1 hg2 hl3 (by rw [List.length_append, List.length_singleton]; omega)
    rw [hl2] at ih
    exact ⟨ds, ys, m, a', b', (forD_nx rfl e).trans ih, r⟩
theorem law_deeds_eq (cs : List Int) (h : cs.length ≤ 100) : ∃ ds ys, f_law_deeds [.lst (cs.map .int)] = .ok (.lst ds) ∧ growO [] ds = some ys ∧ ys.length ≤ 390 ∧ ds.length ≤ 100 := by
  obtain ⟨ds, ys, m, a, b, e, r⟩ := ld_for (C := .lst (cs.map .int)) cs [] [] .no .no rfl (by simp) (by simpa using h)
  exact ⟨ds, ys, runF_rt ((sSeq_nx (z' := [.sh (.lst (cs.map .int)), .ow [], .sh (.int 0), .no, .no]) rfl).trans ((sSeq_nx ((sFor_ok rfl).trans e)).trans rfl)), r⟩
/-! ### the law -/
theorem pl_clip {n : Nat} {c : D} (h : isClip n c = true) : pl 1 c := by
  obtain ⟨p, m, s, rfl⟩ := isClip_shape h
  refine pl_tup fun x hx => ?_
  simp only [List.mem_cons, List.not_mem_nil, or_false] at hx
  rcases hx with rfl | rfl | rfl <;> exact pl_int
theorem paste_len {n : Nat} {sh : List D} (hn : sh.length = n) : ∀ {cs : List D}, (∀ c ∈ cs, isClip n c = true) → (pasteL sh cs).length ≤ cs.length * n
  | [], _ => by simp [pasteL]
  | c :: cs, h => by
    have h1 := h c List.mem_cons_self
    have ih := paste_len hn (cs := cs) fun e he => h e (List.mem_cons_of_mem _ he)
    obtain ⟨p, m, s, rfl⟩ := isClip_shape h1
    have hp : pasteL sh (.tup [.int p, .int m, .int s] :: cs) = clipL sh p m s ++ pasteL sh cs := by unfold pasteL; rw [List.flatMap_cons]; rfl
    have hm := clip_le h1
    rw [hp, List.length_append, clipL_length, List.length_cons, Nat.add_mul, Nat.one_mul]
    omega
abbrev t_k1a : MB := bOr (bNot (bV (mCall 1 f_law_numbers (aCons (mVar 5) aNil)))) (bOr (bV (mBin neB (mVar 5) (mCall 2 f_law_pasted (aCons (mVar 1) (aCons (mVar 3) aNil))))) (bV (mBin neB (mVar 4) (mL (mLst (aCons (mVar 1) (aCons (mVar 3) aNil)))))))
abbrev t_k1b : MB := bV (mBin neB (mL (mCall 2 f_pasted (aCons (mBin ixD (mVar 4) (mC (.int 0))) (aCons (mBin ixD (mVar 4) (mC (.int 1))) aNil)))) (mL (mCut (iOw 5) oNone (oSome (mUn negD (mC (.int 1)))))))
abbrev m_k1a : MS := sSeq (sSet 4 (mL (mLst (aCons (mL (mSeq (mVar 1))) (aCons (mL (mSeq (mVar 3))) aNil)))))
  (sSeq (sSetO 5 (mCall 2 f_pasted (aCons (mBin ixD (mVar 4) (mC (.int 0))) (aCons (mBin ixD (mVar 4) (mC (.int 1))) aNil))))
  (sSeq (sIf (bz t_k1a) (sRet (mC (.bl false))) sNil)
  (sSeq (sApp 5 (mC (.int 0))) (sIf t_k1b (sRet (mC (.bl false))) sNil))))
theorem k1_turn {S C : D} {r : List Int} {cs : List D} {x4 x5 x6 : Sd} (hr : r.length ≤ 100) (hc : ∀ c ∈ cs, isClip r.length c = true) (hl : cs.length ≤ 20) :
    ∃ a b, m_k1a [.sh S, .sh (.lst (r.map .int)), .sh C, .sh (.lst cs), x4, x5, x6] = .ok (.nx [.sh S, .sh (.lst (r.map .int)), .sh C, .sh (.lst cs), a, b, x6]) := by
  have hc' : ∀ c ∈ cs, isClip (r.map D.int).length c = true := by rw [List.length_map]; exact hc
  have hpl := paste_len (sh := r.map D.int) (List.length_map _) hc
  have hp2 : (pasteL (r.map D.int) cs).length ≤ 2000 := Nat.le_trans hpl (Nat.le_trans (Nat.mul_le_mul hl hr) (by decide))
  have hnum := num_paste (num_ints r) hc'
  have ep := pasted_eq (ns := r) (cs := cs) (le_line (by omega)) (le_line (by omega)) hc (le_line (by omega))
  have eq := law_pasted_eq (sh := r.map D.int) hc' (by omega)
  generalize hP : pasteL (r.map D.int) cs = P at *
  have plP : pl 1 (.lst P) := num_pl hnum
  have plH : pl 3 (.lst [.lst (r.map .int), .lst cs]) := pl_lst fun d hd => by
    simp only [List.mem_cons, List.not_mem_nil, or_false] at hd
    rcases hd with rfl | rfl
    · exact (pl_ints (k := 0) r).mono (by decide)
    · exact pl_lst fun c h => pl_clip (hc c h)
  have l2 : (2 : Nat) ≤ sizeLine := le_line (by decide)
  have e1 : sSet 4 (mL (mLst (aCons (mL (mSeq (mVar 1))) (aCons (mL (mSeq (mVar 3))) aNil)))) [.sh S, .sh (.lst (r.map .int)), .sh C, .sh (.lst cs), x4, x5, x6]
      = .ok (.nx [.sh S, .sh (.lst (r.map .int)), .sh C, .sh (.lst cs), .sh (.lst [.lst (r.map .int), .lst cs]), x5, x6]) := sSet_ok (mL_ok (mLst_ok rfl l2))
  have e2 : sSetO 5 (mCall 2 f_pasted (aCons (mBin ixD (mVar 4) (mC (.int 0))) (aCons (mBin ixD (mVar 4) (mC (.int 1))) aNil))) [.sh S, .sh (.lst (r.map .int)), .sh C, .sh (.lst cs), .sh (.lst [.lst (r.map .int), .lst cs]), x5, x6]
      = .ok (.nx [.sh S, .sh (.lst (r.map .int)), .sh C, .sh (.lst cs), .sh (.lst [.lst (r.map .int), .lst cs]), .ow P, x6]) := sSetO_ok (mCall_is (ds := [.lst (r.map .int), .lst cs]) rfl rfl ep)
  have e3 : bz t_k1a [.sh S, .sh (.lst (r.map .int)), .sh C, .sh (.lst cs), .sh (.lst [.lst (r.map .int), .lst cs]), .ow P, x6] = .ok false := by
    have n1 := law_numbers_eq (num_ok hnum) (le_line (by omega))
    rw [num_all hnum] at n1
    show t_k1a (frz [.sh S, .sh (.lst (r.map .int)), .sh C, .sh (.lst cs), .sh (.lst [.lst (r.map .int), .lst cs]), .ow P, x6]) = _
    exact (bOr_f (bNot_b (bV_b (mCall_is (ds := [.lst P]) rfl rfl n1)))).trans ((bOr_f (bV_b (mBin_ok (x := .lst P) (y := .lst P) rfl (mCall_is (ds := [.lst (r.map .int), .lst cs]) rfl rfl eq) (neB_refl plP (by decide))))).trans (bV_b (mBin_ok (x := .lst [.lst (r.map .int), .lst cs]) rfl (mL_ok (mLst_ok rfl l2)) (neB_refl plH (by decide)))))
  have e4 : sApp 5 (mC (.int 0)) [.sh S, .sh (.lst (r.map .int)), .sh C, .sh (.lst cs), .sh (.lst [.lst (r.map .int), .lst cs]), .ow P, x6]
      = .ok (.nx [.sh S, .sh (.lst (r.map .int)), .sh C, .sh (.lst cs), .sh (.lst [.lst (r.map .int), .lst cs]), .ow (P ++ [.int 0]), x6]) := sApp_ok (ds := P) rfl rfl (by rw [sizeLine_eq]; omega)
  have e5 : t_k1b [.sh S, .sh (.lst (r.map .int)), .sh C, .sh (.lst cs), .sh (.lst [.lst (r.map .int), .lst cs]), .ow (P ++ [.int 0]), x6] = .ok false := by
    refine bV_b (mBin_ok (x := .lst P) (y := .lst P) (mL_ok (mCall_is (ds := [.lst (r.map .int), .lst cs]) rfl rfl ep)) (mL_ok ?_) (neB_refl plP (by decide)))
    show Rs.ok (cutD (P ++ [.int 0]) none (some (-1))) = _
    rw [cutD_last]
  exact ⟨_, _, (sSeq_nx e1).trans ((sSeq_nx e2).trans ((sSeq_nx ((sIf_f e3).trans rfl)).trans ((sSeq_nx e4).trans ((sIf_f e5).trans rfl))))⟩
abbrev t_k1c : MB := bOr (bNot (bV (mCall 1 f_law_numbers (aCons (mVar 5) aNil)))) (bOr (bV (mBin neB (mVar 5) (mCall 1 f_law_grown (aCons (mVar 3) aNil)))) (bV (mBin neB (mVar 4) (mVar 3))))
abbrev t_k1d : MB := bV (mBin neB (mL (mCall 1 f_grown (aCons (mVar 4) aNil))) (mL (mCut (iOw 5) oNone (oSome (mUn negD (mC (.int 1)))))))
abbrev m_k1b : MS := sSeq (sSet 4 (mL (mSeq (mVar 3)))) (sSeq (sSetO 5 (mCall 1 f_grown (aCons (mVar 4) aNil)))
  (sSeq (sIf (bz t_k1c) (sRet (mC (.bl false))) sNil) (sSeq (sApp 5 (mC (.int 0))) (sIf t_k1d (sRet (mC (.bl false))) sNil))))
theorem k1_turn2 {S R C : D} {ds ys : List D} {x4 x5 x6 : Sd} (hg : growO [] ds = some ys) (hl : ys.length ≤ 390) :
    ∃ a b, m_k1b [.sh S, .sh R, .sh C, .sh (.lst ds), x4, x5, x6] = .ok (.nx [.sh S, .sh R, .sh C, .sh (.lst ds), a, b, x6]) := by
  have hk := growO_ok hg
  have hlen := growO_len hg
  have hz : (ds.map cost).sum ≤ sizeLine := le_line (by rw [List.length_nil] at hlen; omega)
  have hnum := num_grow hg (fun d h => by cases h)
  have ep := grown_eq hk hz
  have eq := law_grown_eq hk hz
  rw [hg] at ep eq
  have ply : pl 1 (.lst ys) := num_pl hnum
  have pld : pl 2 (.lst ds) := pl_lst (growO_pl hg)
  have e1 : sSet 4 (mL (mSeq (mVar 3))) [.sh S, .sh R, .sh C, .sh (.lst ds), x4, x5, x6] = .ok (.nx [.sh S, .sh R, .sh C, .sh (.lst ds), .sh (.lst ds), x5, x6]) := rfl
  have e2 : sSetO 5 (mCall 1 f_grown (aCons (mVar 4) aNil)) [.sh S, .sh R, .sh C, .sh (.lst ds), .sh (.lst ds), x5, x6] = .ok (.nx [.sh S, .sh R, .sh C, .sh (.lst ds), .sh (.lst ds), .ow ys, x6]) := sSetO_ok (mCall_is (ds := [.lst ds]) rfl rfl ep)
  have e3 : bz t_k1c [.sh S, .sh R, .sh C, .sh (.lst ds), .sh (.lst ds), .ow ys, x6] = .ok false := by
    have n1 := law_numbers_eq (num_ok hnum) (le_line (by omega))
    rw [num_all hnum] at n1
    show t_k1c (frz [.sh S, .sh R, .sh C, .sh (.lst ds), .sh (.lst ds), .ow ys, x6]) = _
    exact (bOr_f (bNot_b (bV_b (mCall_is (ds := [.lst ys]) rfl rfl n1)))).trans ((bOr_f (bV_b (mBin_ok (x := .lst ys) (y := .lst ys) rfl (mCall_is (ds := [.lst ds]) rfl rfl eq) (neB_refl ply (by decide))))).trans (bV_b (mBin_ok (x := .lst ds) (y := .lst ds) rfl rfl (neB_refl pld (by decide)))))
  have e4 : sApp 5 (mC (.int 0)) [.sh S, .sh R, .sh C, .sh (.lst ds), .sh (.lst ds), .ow ys, x6] = .ok (.nx [.sh S, .sh R, .sh C, .sh (.lst ds), .sh (.lst ds), .ow (ys ++ [.int 0]), x6]) := sApp_ok (ds := ys) rfl rfl (by rw [sizeLine_eq]; omega)
  have e5 : t_k1d [.sh S, .sh R, .sh C, .sh (.lst ds), .sh (.lst ds), .ow (ys ++ [.int 0]), x6] = .ok false := by
    refine bV_b (mBin_ok (x := .lst ys) (y := .lst ys) (mL_ok (mCall_is (ds := [.lst ds]) rfl rfl ep)) (mL_ok ?_) (neB_refl ply (by decide)))
    show Rs.ok (cutD (ys ++ [.int 0]) none (some (-1))) = _
    rw [cutD_last]
  exact ⟨_, _, (sSeq_nx e1).trans ((sSeq_nx e2).trans ((sSeq_nx ((sIf_f e3).trans rfl)).trans ((sSeq_nx e4).trans ((sIf_f e5).trans rfl))))⟩
theorem k1_end : ∀ z : List Sd, mAnd (mBin eqB (mL (mCall 2 f_pasted (aCons (mL (mLst aNil)) (aCons (mL (mLst aNil)) aNil)))) (mL (mLst aNil))) (mBin eqB (mL (mCall 1 f_grown (aCons (mL (mLst (aCons (mTup (aCons (mC (.str "put")) (aCons (mC (.int 4)) aNil))) (aCons (mTup (aCons (mC (.str "copy")) (aCons (mC (.int 0)) (aCons (mC (.int 3)) aNil)))) aNil)))) aNil))) (mL (mLst (aCons (mC (.int 4)) (aCons (mC (.int 4)) (aCons (mC (.int 4)) (aCons (mC (.int 4)) aNil))))))) z = .ok (.bl true) := by
  intro z
  have ep := pasted_eq (ns := []) (cs := []) (Nat.zero_le _) (Nat.zero_le _) (fun c h => by cases h) (Nat.zero_le _)
  have hg : growO [] [.tup [.str "put", .int 4], .tup [.str "copy", .int 0, .int 3]] = some [.int 4, .int 4, .int 4, .int 4] := by rfl
  have eg := grown_eq (growO_ok hg) (le_line (by show 4 ≤ 16777216; decide))
  rw [hg] at eg
  have l2 : (2 : Nat) ≤ sizeLine := le_line (by decide)
  have l3 : (3 : Nat) ≤ sizeLine := le_line (by decide)
  have l4 : (4 : Nat) ≤ sizeLine := le_line (by decide)
  refine mAnd_ok (x := true) (y := true) (mBin_ok (x := .lst []) (y := .lst []) (mL_ok (mCall_is (ds := [.lst [], .lst []]) rfl rfl ep)) rfl rfl) ?_
  refine mBin_ok (x := .lst [.int 4, .int 4, .int 4, .int 4]) (y := .lst [.int 4, .int 4, .int 4, .int 4]) (mL_ok (mCall_is (ds := [.lst [.tup [.str "put", .int 4], .tup [.str "copy", .int 0, .int 3]]]) (aCons_ok (mL_ok (mLst_ok (aCons_ok (mTup_ok rfl l2) (aCons_ok (mTup_ok rfl l3) rfl)) l2)) rfl) rfl eg)) (mL_ok (mLst_ok rfl l4)) (eqB_refl (k := 1) (num_pl ?_) (by decide))
  intro d hd
  simp only [List.mem_cons, List.not_mem_nil, or_false] at hd
  rcases hd with rfl | rfl | rfl | rfl <;> rfl
theorem law_true (ns : List Int) (h : ns.length ≤ 63) : f_law [.scr ns] = .ok (.bl true) := by
  obtain ⟨cs, ec, hc⟩ := law_cells_eq ns h
  obtain ⟨r, er, hr⟩ := law_row_eq cs cs.sum hc
  obtain ⟨cl, el, hl, hcl⟩ := law_clippings_eq r (cs.take 20) (by omega) (by rw [List.length_take]; omega)
  obtain ⟨ds, ys, ed, hg, hy, hd⟩ := law_deeds_eq cs hc
  rw [List.length_take] at hl
  have l4 : (4 : Nat) ≤ sizeLine := le_line (by decide)
  have l3 : (3 : Nat) ≤ sizeLine := le_line (by decide)
  refine runF_rt ?_
  have s1 : sSet 0 (mCall 1 f_law_cells (aCons (mVar 0) aNil)) (st0 7 [.scr ns]) = .ok (.nx [.sh (.lst (cs.map .int)), .no, .no, .no, .no, .no, .no]) := sSet_ok (mCall_is (ds := [.scr ns]) rfl rfl ec)
  have s2 : sSet 1 (mCall 2 f_law_row (aCons (mVar 0) (aCons (mSum (iE (mVar 0))) aNil))) [.sh (.lst (cs.map .int)), .no, .no, .no, .no, .no, .no] = .ok (.nx [.sh (.lst (cs.map .int)), .sh (.lst (r.map .int)), .no, .no, .no, .no, .no]) :=
    sSet_ok (mCall_is (ds := [.lst (cs.map .int), .int cs.sum]) (aCons_ok rfl (aCons_ok (mSum_ok rfl) rfl)) rfl er)
  have s3 : sSet 2 (mCall 2 f_law_clippings (aCons (mVar 1) (aCons (mL (mCut (iE (mVar 0)) oNone (oSome (mC (.int 20))))) aNil))) [.sh (.lst (cs.map .int)), .sh (.lst (r.map .int)), .no, .no, .no, .no, .no] = .ok (.nx [.sh (.lst (cs.map .int)), .sh (.lst (r.map .int)), .sh (.lst cl), .no, .no, .no, .no]) := by
    refine sSet_ok (mCall_is (ds := [.lst (r.map .int), .lst ((cs.take 20).map .int)]) (aCons_ok rfl (aCons_ok (mL_ok ?_) rfl)) rfl el)
    show Rs.ok (cutD (cs.map D.int) none (some 20)) = _
    rw [show (20 : Int) = ((20 : Nat) : Int) from rfl, cutD_to, List.map_take]
  have f1 : mSeq (mL (mLst (aCons (mVar 2) (aCons (mL (mRev (iE (mVar 2)))) (aCons (mL (mCut (iE (mVar 2)) oNone (oSome (mC (.int 1))))) (aCons (mL (mLst aNil)) aNil)))))) [.sh (.lst (cs.map .int)), .sh (.lst (r.map .int)), .sh (.lst cl), .no, .no, .no, .no] = .ok [.lst cl, .lst cl.reverse, .lst (cl.take 1), .lst []] := by
    have e : mL (mLst (aCons (mVar 2) (aCons (mL (mRev (iE (mVar 2)))) (aCons (mL (mCut (iE (mVar 2)) oNone (oSome (mC (.int 1))))) (aCons (mL (mLst aNil)) aNil))))) [.sh (.lst (cs.map .int)), .sh (.lst (r.map .int)), .sh (.lst cl), .no, .no, .no, .no] = .ok (.lst [.lst cl, .lst cl.reverse, .lst (cl.take 1), .lst []]) := by
      refine mL_ok (mLst_ok (aCons_ok rfl (aCons_ok rfl (aCons_ok (mL_ok ?_) rfl))) l4)
      show Rs.ok (cutD cl none (some 1)) = _
      rw [show (1 : Int) = ((1 : Nat) : Int) from rfl, cutD_to]
    unfold mSeq
    rw [e]
    rfl
  obtain ⟨a1, b1, t1⟩ := k1_turn (S := .lst (cs.map .int)) (C := .lst cl) (cs := cl) (x4 := .no) (x5 := .no) (x6 := .no) (by omega) hcl (by omega)
  obtain ⟨a2, b2, t2⟩ := k1_turn (S := .lst (cs.map .int)) (C := .lst cl) (cs := cl.reverse) (x4 := a1) (x5 := b1) (x6 := .no) (r := r) (by omega) (fun c hc => hcl c (List.mem_reverse.mp hc)) (by rw [List.length_reverse]; omega)
  obtain ⟨a3, b3, t3⟩ := k1_turn (S := .lst (cs.map .int)) (C := .lst cl) (cs := cl.take 1) (x4 := a2) (x5 := b2) (x6 := .no) (r := r) (by omega) (fun c hc => hcl c (List.mem_of_mem_take hc)) (by rw [List.length_take]; omega)
  obtain ⟨a4, b4, t4⟩ := k1_turn (S := .lst (cs.map .int)) (C := .lst cl) (cs := []) (x4 := a3) (x5 := b3) (x6 := .no) (r := r) (by omega) (fun c hc => by cases hc) (by decide)
  have s4 : sFor (.nm 3) (mSeq (mL (mLst (aCons (mVar 2) (aCons (mL (mRev (iE (mVar 2)))) (aCons (mL (mCut (iE (mVar 2)) oNone (oSome (mC (.int 1))))) (aCons (mL (mLst aNil)) aNil))))))) m_k1a [.sh (.lst (cs.map .int)), .sh (.lst (r.map .int)), .sh (.lst cl), .no, .no, .no, .no] = .ok (.nx [.sh (.lst (cs.map .int)), .sh (.lst (r.map .int)), .sh (.lst cl), .sh (.lst []), a4, b4, .no]) :=
    (sFor_ok f1).trans ((forD_nx rfl t1).trans ((forD_nx rfl t2).trans ((forD_nx rfl t3).trans ((forD_nx rfl t4).trans rfl))))
  have s5 : sSet 6 (mCall 1 f_law_deeds (aCons (mVar 0) aNil)) [.sh (.lst (cs.map .int)), .sh (.lst (r.map .int)), .sh (.lst cl), .sh (.lst []), a4, b4, .no] = .ok (.nx [.sh (.lst (cs.map .int)), .sh (.lst (r.map .int)), .sh (.lst cl), .sh (.lst []), a4, b4, .sh (.lst ds)]) := sSet_ok (mCall_is (ds := [.lst (cs.map .int)]) rfl rfl ed)
  have f2 : mSeq (mL (mLst (aCons (mVar 6) (aCons (mL (mCut (iE (mVar 6)) oNone (oSome (mBin fdivD (mUn lenD (mVar 6)) (mC (.int 2)))))) (aCons (mL (mLst aNil)) aNil))))) [.sh (.lst (cs.map .int)), .sh (.lst (r.map .int)), .sh (.lst cl), .sh (.lst []), a4, b4, .sh (.lst ds)] = .ok [.lst ds, .lst (ds.take (ds.length / 2)), .lst []] := by
    have eo : oSome (mBin fdivD (mUn lenD (mVar 6)) (mC (.int 2))) [.sh (.lst (cs.map .int)), .sh (.lst (r.map .int)), .sh (.lst cl), .sh (.lst []), a4, b4, .sh (.lst ds)] = .ok (some ((ds.length / 2 : Nat) : Int)) := by
      unfold oSome
      rw [mBin_ok (x := .int ds.length) (y := .int 2) rfl rfl (fdivD_ok (by decide) (by decide))]
      rfl
    have e : mL (mLst (aCons (mVar 6) (aCons (mL (mCut (iE (mVar 6)) oNone (oSome (mBin fdivD (mUn lenD (mVar 6)) (mC (.int 2)))))) (aCons (mL (mLst aNil)) aNil)))) [.sh (.lst (cs.map .int)), .sh (.lst (r.map .int)), .sh (.lst cl), .sh (.lst []), a4, b4, .sh (.lst ds)] = .ok (.lst [.lst ds, .lst (ds.take (ds.length / 2)), .lst []]) := by
      refine mL_ok (mLst_ok (aCons_ok rfl (aCons_ok (mL_ok ?_) rfl)) l3)
      unfold mCut
      rw [show iE (mVar 6) [.sh (.lst (cs.map .int)), .sh (.lst (r.map .int)), .sh (.lst cl), .sh (.lst []), a4, b4, .sh (.lst ds)] = .ok ds from rfl, bnd_ok, show oNone _ = .ok none from rfl, bnd_ok, eo, bnd_ok, cutD_to]
    unfold mSeq
    rw [e]
    rfl
  obtain ⟨zs, hzs⟩ := growO_take hg (ds.length / 2)
  have hzl : zs.length ≤ 390 := by
    have h1 := growO_len hzs
    have h2 := growO_len hg
    have h3 := cost_take ds (ds.length / 2)
    rw [List.length_nil] at h1 h2
    omega
  obtain ⟨a5, b5, t5⟩ := k1_turn2 (S := .lst (cs.map .int)) (R := .lst (r.map .int)) (C := .lst cl) (x4 := a4) (x5 := b4) (x6 := .sh (.lst ds)) hg hy
  obtain ⟨a6, b6, t6⟩ := k1_turn2 (S := .lst (cs.map .int)) (R := .lst (r.map .int)) (C := .lst cl) (x4 := a5) (x5 := b5) (x6 := .sh (.lst ds)) hzs hzl
  obtain ⟨a7, b7, t7⟩ := k1_turn2 (S := .lst (cs.map .int)) (R := .lst (r.map .int)) (C := .lst cl) (x4 := a6) (x5 := b6) (x6 := .sh (.lst ds)) (ds := []) (ys := []) rfl (Nat.zero_le _)
  have s6 : sFor (.nm 3) (mSeq (mL (mLst (aCons (mVar 6) (aCons (mL (mCut (iE (mVar 6)) oNone (oSome (mBin fdivD (mUn lenD (mVar 6)) (mC (.int 2)))))) (aCons (mL (mLst aNil)) aNil)))))) m_k1b [.sh (.lst (cs.map .int)), .sh (.lst (r.map .int)), .sh (.lst cl), .sh (.lst []), a4, b4, .sh (.lst ds)] = .ok (.nx [.sh (.lst (cs.map .int)), .sh (.lst (r.map .int)), .sh (.lst cl), .sh (.lst []), a7, b7, .sh (.lst ds)]) :=
    (sFor_ok f2).trans ((forD_nx rfl t5).trans ((forD_nx rfl t6).trans ((forD_nx rfl t7).trans rfl)))
  exact (sSeq_nx s1).trans ((sSeq_nx s2).trans ((sSeq_nx s3).trans ((sSeq_nx s4).trans ((sSeq_nx s5).trans ((sSeq_nx s6).trans (sRet_ok (k1_end _)))))))
end CL


set_option Elab.async false
set_option linter.all false
set_option maxRecDepth 100000
set_option maxHeartbeats 4000000
namespace CL
open PySem PySem.Spec L2
def topS (i : Nat) : Stmt := PySem.Challenge.pw_cliprow_k01_pasted.main.body.getD i (.Pass ⟨0, 0, 0, 0⟩)
section
variable {P : Program} {w : World} {mg : Str → Option Value} {base : Heap} {T : Tx}
/-! ### is_number -/
abbrev s_is_number : Stmt := (topS 6)
abbrev N_is_number : List Str := ["thing"]
theorem sc_is_number : FnScope N_is_number ["thing"] (defScope s_is_number) := ⟨rfl, rfl, rfl, by decide +kernel, rfl, by decide +kernel, by decide +kernel⟩
theorem ok_is_number {f : Addr} {fd : FuncData} (F : Fun T.K "is_number" "is_number" s_is_number f fd) (B : Blt mg)  :
    FnOk P w T.K mg base CX0 1 f fd ["thing"] (spD T 1 f_is_number) :=
  fn_D (N := N_is_number) (ps := ["thing"]) (k := 0) (m := m_is_number) F sc_is_number fun cdv A outer s H E hr =>
  (dss_one (ds_ret (de_and (de_isTy .int B.isinstance (de_var 0) rfl B.int (by decide +kernel)) (de_one (de_not (de_isTy .bool B.isinstance (de_var 0) rfl B.bool (by decide +kernel)))))))
/-! ### check_row -/
abbrev s_check_row : Stmt := (topS 7)
abbrev N_check_row : List Str := ["row", "sign"]
theorem sc_check_row : FnScope N_check_row ["row"] (defScope s_check_row) := ⟨rfl, rfl, rfl, by decide +kernel, rfl, by decide +kernel, by decide +kernel⟩
theorem ok_check_row {f : Addr} {fd : FuncData} (F : Fun T.K "check_row" "check_row" s_check_row f fd) (B : Blt mg) (c_is_number : DefG P w T.K mg base CX0 1 "is_number" (spD T 1 f_is_number)) (e_BadRow : ExF T.K mg "BadRow" (T.exc 0)) :
    FnOk P w T.K mg base (L2.CX P w) 2 f fd ["row"] (spD T 1 f_check_row) :=
  fn_X (N := N_check_row) (ps := ["row"]) (k := 1) (m := m_check_row) F sc_check_row fun cdv A outer s H E hr =>
  (dss_one (ds_if (dt_w (dw_or (dt_not (dt_val (de_isTy .list B.isinstance (de_var 0) rfl B.list (by decide +kernel)))) (dw_or1 (dt_not (dt_val (de_all rfl B.all (di_l (dl_comp (own := [("sign", 1)]) (t := (.nm 1)) rfl sc_check_row.nd (dn_seq (de_var 0)) (blkOk_by (own := [("sign", 1)]) (N := N_check_row) (sc := defScope s_check_row) (by decide +kernel)) (fun _ _ _ _ _ => (dg_nm (i := 1) sc_check_row.nd)) (fun _ _ _ _ _ => (de_call c_is_number hr (by decide) passN (da_cons (de_var 1) da_nil))) (by decide)))))))))
  (dss_one (ds_raise 0 rfl (takes_of rfl rfl rfl rfl) e_BadRow))
  dss_nil))
/-! ### is_clipping -/
abbrev s_is_clipping : Stmt := (topS 8)
abbrev N_is_clipping : List Str := ["sheet", "thing", "part", "place", "many", "step"]
theorem sc_is_clipping : FnScope N_is_clipping ["sheet", "thing"] (defScope s_is_clipping) := ⟨rfl, rfl, rfl, by decide +kernel, rfl, by decide +kernel, by decide +kernel⟩
theorem ok_is_clipping {f : Addr} {fd : FuncData} (F : Fun T.K "is_clipping" "is_clipping" s_is_clipping f fd) (B : Blt mg) (c_is_number : DefG P w T.K mg base CX0 1 "is_number" (spD T 1 f_is_number)) :
    FnOk P w T.K mg base CX0 2 f fd ["sheet", "thing"] (spD T 2 f_is_clipping) :=
  fn_D (N := N_is_clipping) (ps := ["sheet", "thing"]) (k := 1) (m := m_is_clipping) F sc_is_clipping fun cdv A outer s H E hr =>
  (dss_cons (ds_if (dt_w (dw_or (dt_not (dt_val (de_isTy .tuple B.isinstance (de_var 1) rfl B.tuple (by decide +kernel)))) (dw_or (dt_cmp (op_neD hr.units) opd_ne (de_len B.len (de_var 1)) de_int (nomark _)) (dw_or1 (dt_not (dt_val (de_all rfl B.all (di_l (dl_comp (own := [("part", 2)]) (t := (.nm 2)) rfl sc_is_clipping.nd (dn_seq (de_var 1)) (blkOk_by (own := [("part", 2)]) (N := N_is_clipping) (sc := defScope s_is_clipping) (by decide +kernel)) (fun _ _ _ _ _ => (dg_nm (i := 2) sc_is_clipping.nd)) (fun _ _ _ _ _ => (de_call c_is_number hr (by decide) passN (da_cons (de_var 2) da_nil))) (by decide))))))))))
  (dss_one (ds_ret de_bl))
  dss_nil)
  (dss_cons (ds_asg (de_var 1) (dg_tp rfl (dgs_cons (i := 3) sc_is_clipping.nd (dgs_cons (i := 4) sc_is_clipping.nd (dgs_cons (i := 5) sc_is_clipping.nd dgs_nil)))))
  (dss_cons (ds_if (dt_w (dw_or (dt_cmp op_lt opd_lt (de_var 4) de_int (nomark _)) (dw_or1 (dt_cmp op_notIn_seq opd_in (de_var 5) (de_tup (da_cons de_int (da_cons (de_neg de_int) da_nil))) rfl))))
  (dss_one (ds_ret de_bl))
  dss_nil)
  (dss_one (ds_ret (de_and (de_chain op_le op_lt opd_le opd_lt de_int (de_var 3) (de_len B.len (de_var 0))) (de_one (de_chain op_le op_lt opd_le opd_lt de_int (de_add (de_var 3) (de_mul (de_var 5) (de_sub (de_var 4) de_int))) (de_len B.len (de_var 0))))))))))
/-! ### clipped -/
abbrev s_clipped : Stmt := (topS 9)
abbrev N_clipped : List Str := ["sheet", "clipping", "place", "many", "step", "at"]
theorem sc_clipped : FnScope N_clipped ["sheet", "clipping"] (defScope s_clipped) := ⟨rfl, rfl, rfl, by decide +kernel, rfl, by decide +kernel, by decide +kernel⟩
theorem ok_clipped {f : Addr} {fd : FuncData} (F : Fun T.K "clipped" "clipped" s_clipped f fd) (B : Blt mg)  :
    FnOk P w T.K mg base CX0 1 f fd ["sheet", "clipping"] (spL T 2 f_clipped) :=
  fn_L (N := N_clipped) (ps := ["sheet", "clipping"]) (k := 0) (m := m_clipped) F sc_clipped fun cdv A outer s H E hr =>
  (dss_cons (ds_asg (de_var 1) (dg_tp rfl (dgs_cons (i := 2) sc_clipped.nd (dgs_cons (i := 3) sc_clipped.nd (dgs_cons (i := 4) sc_clipped.nd dgs_nil)))))
  (dss_one (ds_retL (dl_comp (own := [("at", 5)]) (t := (.nm 5)) rfl sc_clipped.nd (dn_range1 B.range (da_cons (de_var 3) da_nil)) (blkOk_by (own := [("at", 5)]) (N := N_clipped) (sc := defScope s_clipped) (by decide +kernel)) (fun _ _ _ _ _ => (dg_nm (i := 5) sc_clipped.nd)) (fun _ _ _ _ _ => (de_ix (de_var 0) (de_add (de_var 2) (de_mul (de_var 4) (de_var 5))))) (by decide)))))
/-! ### pasted_of -/
abbrev s_pasted_of : Stmt := (topS 10)
abbrev N_pasted_of : List Str := ["sheet", "clippings", "found", "clipping"]
theorem sc_pasted_of : FnScope N_pasted_of ["sheet", "clippings"] (defScope s_pasted_of) := ⟨rfl, rfl, rfl, by decide +kernel, rfl, by decide +kernel, by decide +kernel⟩
theorem ok_pasted_of {f : Addr} {fd : FuncData} (F : Fun T.K "pasted_of" "pasted_of" s_pasted_of f fd) (B : Blt mg) (c_clipped : DefG P w T.K mg base CX0 1 "clipped" (spL T 2 f_clipped)) :
    FnOk P w T.K mg base CX0 2 f fd ["sheet", "clippings"] (spL T 2 f_pasted_of) :=
  fn_L (N := N_pasted_of) (ps := ["sheet", "clippings"]) (k := 1) (m := m_pasted_of) F sc_pasted_of fun cdv A outer s H E hr =>
  (dss_cons (ds_setO 2 sc_pasted_of.nd (dl_lst da_nil))
  (dss_cons (ds_for PassesOwn.never rfl (dn_seq (de_var 1)) (dg_nm (i := 3) sc_pasted_of.nd)
  (dss_one (ds_ext 2 (di_l (dl_call c_clipped hr (by decide) passN (da_cons (de_var 0) (da_cons (de_var 3) da_nil)))))))
  (dss_one (ds_retO 2))))
/-! ### pasted -/
abbrev s_pasted : Stmt := (topS 11)
abbrev N_pasted : List Str := ["sheet", "clippings", "clipping"]
theorem sc_pasted : FnScope N_pasted ["sheet", "clippings"] (defScope s_pasted) := ⟨rfl, rfl, rfl, by decide +kernel, rfl, by decide +kernel, by decide +kernel⟩
theorem ok_pasted {f : Addr} {fd : FuncData} (F : Fun T.K "pasted" "pasted" s_pasted f fd) (B : Blt mg) (c_check_row : DefG P w T.K mg base (L2.CX P w) 2 "check_row" (spD T 1 f_check_row)) (c_pasted_of : DefG P w T.K mg base CX0 2 "pasted_of" (spL T 2 f_pasted_of)) (c_is_clipping : DefG P w T.K mg base CX0 2 "is_clipping" (spD T 2 f_is_clipping)) (e_BadClipping : ExF T.K mg "BadClipping" (T.exc 1)) :
    FnOk P w T.K mg base (L2.CX P w) 3 f fd ["sheet", "clippings"] (spL T 2 f_pasted) :=
  fn_XL (N := N_pasted) (ps := ["sheet", "clippings"]) (k := 2) (m := m_pasted) F sc_pasted fun cdv A outer s H E hr =>
  (dss_cons (ds_expr (de_call c_check_row hr (by decide) (passes_call (takes_of rfl rfl rfl rfl) (fun _ _ _ _ h => h)) (da_cons (de_var 0) da_nil)))
  (dss_cons (ds_if (dt_w (dw_or (dt_not (dt_val (de_isTy .list B.isinstance (de_var 1) rfl B.list (by decide +kernel)))) (dw_or1 (dt_not (dt_val (de_all rfl B.all (di_l (dl_comp (own := [("clipping", 2)]) (t := (.nm 2)) rfl sc_pasted.nd (dn_seq (de_var 1)) (blkOk_by (own := [("clipping", 2)]) (N := N_pasted) (sc := defScope s_pasted) (by decide +kernel)) (fun _ _ _ _ _ => (dg_nm (i := 2) sc_pasted.nd)) (fun _ _ _ _ _ => (de_call c_is_clipping hr (by decide) passN (da_cons (de_var 0) (da_cons (de_var 2) da_nil)))) (by decide)))))))))
  (dss_one (ds_raise 1 rfl (takes_of rfl rfl rfl rfl) e_BadClipping))
  dss_nil)
  (dss_one (ds_retL (dl_call c_pasted_of hr (by decide) passN (da_cons (de_var 0) (da_cons (de_var 1) da_nil)))))))
/-! ### is_deed -/
abbrev s_is_deed : Stmt := (topS 12)
abbrev N_is_deed : List Str := ["thing", "many", "part"]
theorem sc_is_deed : FnScope N_is_deed ["thing", "many"] (defScope s_is_deed) := ⟨rfl, rfl, rfl, by decide +kernel, rfl, by decide +kernel, by decide +kernel⟩
theorem ok_is_deed {f : Addr} {fd : FuncData} (F : Fun T.K "is_deed" "is_deed" s_is_deed f fd) (B : Blt mg) (c_is_number : DefG P w T.K mg base CX0 1 "is_number" (spD T 1 f_is_number)) :
    FnOk P w T.K mg base CX0 2 f fd ["thing", "many"] (spD T 2 f_is_deed) :=
  fn_D (N := N_is_deed) (ps := ["thing", "many"]) (k := 1) (m := m_is_deed) F sc_is_deed fun cdv A outer s H E hr =>
  (dss_cons (ds_if (dt_w (dw_or (dt_not (dt_val (de_isTy .tuple B.isinstance (de_var 0) rfl B.tuple (by decide +kernel)))) (dw_or (dt_cmp op_notIn_seq opd_in (de_len B.len (de_var 0)) (de_tup (da_cons de_int (da_cons de_int da_nil))) rfl) (dw_or1 (dt_not (dt_val (de_all rfl B.all (di_l (dl_comp (own := [("part", 2)]) (t := (.nm 2)) rfl sc_is_deed.nd (dn_seq (de_cutT (de_var 0) (do_some de_int) do_none)) (blkOk_by (own := [("part", 2)]) (N := N_is_deed) (sc := defScope s_is_deed) (by decide +kernel)) (fun _ _ _ _ _ => (dg_nm (i := 2) sc_is_deed.nd)) (fun _ _ _ _ _ => (de_call c_is_number hr (by decide) passN (da_cons (de_var 2) da_nil))) (by decide))))))))))
  (dss_one (ds_ret de_bl))
  dss_nil)
  (dss_cons (ds_if (dt_cmp (op_eqD hr.units) opd_eq (de_len B.len (de_var 0)) de_int (nomark _))
  (dss_one (ds_ret (de_eq hr (de_ix (de_var 0) de_int) de_str)))
  dss_nil)
  (dss_one (ds_ret (de_and (de_eq hr (de_ix (de_var 0) de_int) de_str) (de_and (de_chain op_le op_lt opd_le opd_lt de_int (de_ix (de_var 0) de_int) (de_var 1)) (de_one (de_gt (de_ix (de_var 0) de_int) de_int))))))))
/-! ### grown_of -/
abbrev s_grown_of : Stmt := (topS 13)
abbrev N_grown_of : List Str := ["deeds", "found", "deed", "at"]
theorem sc_grown_of : FnScope N_grown_of ["deeds"] (defScope s_grown_of) := ⟨rfl, rfl, rfl, by decide +kernel, rfl, by decide +kernel, by decide +kernel⟩
theorem ok_grown_of {f : Addr} {fd : FuncData} (F : Fun T.K "grown_of" "grown_of" s_grown_of f fd) (B : Blt mg) (c_is_deed : DefG P w T.K mg base CX0 2 "is_deed" (spD T 2 f_is_deed)) :
    FnOk P w T.K mg base CX0 3 f fd ["deeds"] (spR T 1 f_grown_of) :=
  fn_R (N := N_grown_of) (ps := ["deeds"]) (k := 2) (m := m_grown_of) F sc_grown_of fun cdv A outer s H E hr =>
  (dss_cons (ds_setO 1 sc_grown_of.nd (dl_lst da_nil))
  (dss_cons (ds_for PassesOwn.never rfl (dn_seq (de_var 0)) (dg_nm (i := 2) sc_grown_of.nd)
  (dss_cons (ds_if (dt_not (dt_val (de_call c_is_deed hr (by decide) passN (da_cons (de_var 2) (da_cons (de_lenI B.len (di_own 1)) da_nil)))))
  (dss_one (ds_ret de_non))
  dss_nil)
  (dss_one (ds_if (dt_cmp (op_eqD hr.units) opd_eq (de_len B.len (de_var 2)) de_int (nomark _))
  (dss_one (ds_app 1 (de_ix (de_var 2) de_int)))
  (dss_one (ds_for PassesOwn.never rfl (dn_range1 B.range (da_cons (de_ix (de_var 2) de_int) da_nil)) (dg_nm (i := 3) sc_grown_of.nd)
  (dss_one (ds_app 1 (de_ixI (di_own 1) (de_add (de_ix (de_var 2) de_int) (de_var 3)))))))))))
  (dss_one (ds_retO 1))))
/-! ### grown -/
abbrev s_grown : Stmt := (topS 14)
abbrev N_grown : List Str := ["deeds", "found"]
theorem sc_grown : FnScope N_grown ["deeds"] (defScope s_grown) := ⟨rfl, rfl, rfl, by decide +kernel, rfl, by decide +kernel, by decide +kernel⟩
theorem ok_grown {f : Addr} {fd : FuncData} (F : Fun T.K "grown" "grown" s_grown f fd) (B : Blt mg) (c_grown_of : DefG P w T.K mg base CX0 3 "grown_of" (spR T 1 f_grown_of)) (e_BadDeed : ExF T.K mg "BadDeed" (T.exc 2)) :
    FnOk P w T.K mg base (L2.CX P w) 4 f fd ["deeds"] (spL T 1 f_grown) :=
  fn_XL (N := N_grown) (ps := ["deeds"]) (k := 3) (m := m_grown) F sc_grown fun cdv A outer s H E hr =>
  (dss_cons (ds_setR 1 sc_grown.nd (dr_if (dt_val (de_isTy .list B.isinstance (de_var 0) rfl B.list (by decide +kernel))) (dr_call c_grown_of hr (by decide) passN (da_cons (de_var 0) da_nil)) (dr_e de_non)))
  (dss_cons (ds_if (dt_z (dt_cmp (op_isN.or op_isBl) opd_is (de_var 1) de_non (nomark _)))
  (dss_one (ds_raise 2 rfl (takes_of rfl rfl rfl rfl) e_BadDeed))
  dss_nil)
  (dss_one (ds_retV 1))))
/-! ### _law_row -/
abbrev s_law_row : Stmt := (topS 16)
abbrev N_law_row : List Str := ["_law_cells_here", "_law_code", "_law_size", "_law_cell"]
theorem sc_law_row : FnScope N_law_row ["_law_cells_here", "_law_code"] (defScope s_law_row) := ⟨rfl, rfl, rfl, by decide +kernel, rfl, by decide +kernel, by decide +kernel⟩
theorem ok_law_row {f : Addr} {fd : FuncData} (F : Fun T.K "_law_row" "_law_row" s_law_row f fd) (B : Blt mg)  :
    FnOk P w T.K mg base CX0 1 f fd ["_law_cells_here", "_law_code"] (spD T 2 f_law_row) :=
  fn_D (N := N_law_row) (ps := ["_law_cells_here", "_law_code"]) (k := 0) (m := m_law_row) F sc_law_row fun cdv A outer s H E hr =>
  (dss_cons (ds_set 2 sc_law_row.nd (de_ix (de_tup (da_cons de_int (da_cons de_int (da_cons (de_pow de_int de_int) (da_cons de_int da_nil))))) (de_mod (de_fdiv (de_var 1) de_int) de_int)))
  (dss_cons (ds_if (dt_cmp (op_eqD hr.units) opd_eq (de_var 2) (de_pow de_int de_int) (nomark _))
  (dss_one (ds_ret (de_l (dl_comp (own := [("_law_cell", 3)]) (t := (.nm 3)) rfl sc_law_row.nd (dn_seq (de_var 0)) (blkOk_by (own := [("_law_cell", 3)]) (N := N_law_row) (sc := defScope s_law_row) (by decide +kernel)) (fun _ _ _ _ _ => (dg_nm (i := 3) sc_law_row.nd)) (fun _ _ _ _ _ => (de_mul (de_mod (de_var 3) (de_var 2)) (de_sub de_int (de_mul (de_mod (de_add (de_fdiv (de_var 3) (de_var 2)) (de_fdiv (de_var 3) de_int)) de_int) de_int)))) (by decide)))))
  dss_nil)
  (dss_one (ds_ret (de_l (dl_comp (own := [("_law_cell", 3)]) (t := (.nm 3)) rfl sc_law_row.nd (dn_seq (de_var 0)) (blkOk_by (own := [("_law_cell", 3)]) (N := N_law_row) (sc := defScope s_law_row) (by decide +kernel)) (fun _ _ _ _ _ => (dg_nm (i := 3) sc_law_row.nd)) (fun _ _ _ _ _ => (de_sub (de_mod (de_var 3) (de_var 2)) (de_mod (de_fdiv (de_var 1) de_int) de_int))) (by decide)))))))
/-! ### _law_clippings -/
abbrev s_law_clippings : Stmt := (topS 17)
abbrev N_law_clippings : List Str := ["_law_sheet", "_law_cells_here", "_law_found", "_law_cell", "_law_place", "_law_step", "_law_far"]
theorem sc_law_clippings : FnScope N_law_clippings ["_law_sheet", "_law_cells_here"] (defScope s_law_clippings) := ⟨rfl, rfl, rfl, by decide +kernel, rfl, by decide +kernel, by decide +kernel⟩
theorem ok_law_clippings {f : Addr} {fd : FuncData} (F : Fun T.K "_law_clippings" "_law_clippings" s_law_clippings f fd) (B : Blt mg)  :
    FnOk P w T.K mg base CX0 1 f fd ["_law_sheet", "_law_cells_here"] (spD T 2 f_law_clippings) :=
  fn_D (N := N_law_clippings) (ps := ["_law_sheet", "_law_cells_here"]) (k := 0) (m := m_law_clippings) F sc_law_clippings fun cdv A outer s H E hr =>
  (dss_cons (ds_setO 2 sc_law_clippings.nd (dl_lst da_nil))
  (dss_cons (ds_for PassesOwn.never rfl (dn_seq (de_if (dt_cmp (op_neD hr.units) opd_ne (de_var 0) (de_l (dl_lst da_nil)) (nomark _)) (de_var 1) (de_l (dl_lst da_nil)))) (dg_nm (i := 3) sc_law_clippings.nd)
  (dss_cons (ds_par 4 5 rfl sc_law_clippings.nd (da_cons (de_mod (de_var 3) (de_len B.len (de_var 0))) (da_cons (de_ix (de_tup (da_cons de_int (da_cons (de_neg de_int) da_nil))) (de_mod (de_fdiv (de_var 3) de_int) de_int)) da_nil)))
  (dss_cons (ds_set 6 sc_law_clippings.nd (de_if (dt_cmp (op_eqD hr.units) opd_eq (de_var 5) de_int (nomark _)) (de_sub (de_len B.len (de_var 0)) (de_var 4)) (de_add (de_var 4) de_int)))
  (dss_one (ds_app 2 (de_tup (da_cons (de_var 4) (da_cons (de_add de_int (de_mod (de_fdiv (de_var 3) de_int) (de_var 6))) (da_cons (de_var 5) da_nil)))))))))
  (dss_one (ds_ret (de_var 2)))))
/-! ### _law_pasted -/
abbrev s_law_pasted : Stmt := (topS 18)
abbrev N_law_pasted : List Str := ["_law_sheet", "_law_clippings_here", "_law_found", "_law_place", "_law_many", "_law_step", "_law_at"]
theorem sc_law_pasted : FnScope N_law_pasted ["_law_sheet", "_law_clippings_here"] (defScope s_law_pasted) := ⟨rfl, rfl, rfl, by decide +kernel, rfl, by decide +kernel, by decide +kernel⟩
theorem ok_law_pasted {f : Addr} {fd : FuncData} (F : Fun T.K "_law_pasted" "_law_pasted" s_law_pasted f fd) (B : Blt mg)  :
    FnOk P w T.K mg base CX0 1 f fd ["_law_sheet", "_law_clippings_here"] (spD T 2 f_law_pasted) :=
  fn_D (N := N_law_pasted) (ps := ["_law_sheet", "_law_clippings_here"]) (k := 0) (m := m_law_pasted) F sc_law_pasted fun cdv A outer s H E hr =>
  (dss_cons (ds_setO 2 sc_law_pasted.nd (dl_lst da_nil))
  (dss_cons (ds_for PassesOwn.never rfl (dn_seq (de_var 1)) (dg_tp rfl (dgs_cons (i := 3) sc_law_pasted.nd (dgs_cons (i := 4) sc_law_pasted.nd (dgs_cons (i := 5) sc_law_pasted.nd dgs_nil))))
  (dss_cons (ds_set 6 sc_law_pasted.nd (de_var 3))
  (dss_one (ds_while 2000000 PassesOwn.never (dt_w (dw_and (dt_cmp op_lt opd_lt (de_lenI B.len (di_own 2)) (de_pow de_int de_int) (nomark _)) (dw_and1 (dt_cmp op_gt opd_gt (de_var 4) de_int (nomark _)))))
  (dss_cons (ds_app 2 (de_ix (de_var 0) (de_var 6)))
  (dss_one (ds_par 6 4 rfl sc_law_pasted.nd (da_cons (de_add (de_var 6) (de_var 5)) (da_cons (de_sub (de_var 4) de_int) da_nil)))))))))
  (dss_one (ds_ret (de_var 2)))))
/-! ### _law_numbers -/
abbrev s_law_numbers : Stmt := (topS 19)
abbrev N_law_numbers : List Str := ["_law_found", "_law_one"]
theorem sc_law_numbers : FnScope N_law_numbers ["_law_found"] (defScope s_law_numbers) := ⟨rfl, rfl, rfl, by decide +kernel, rfl, by decide +kernel, by decide +kernel⟩
theorem ok_law_numbers {f : Addr} {fd : FuncData} (F : Fun T.K "_law_numbers" "_law_numbers" s_law_numbers f fd) (B : Blt mg)  :
    FnOk P w T.K mg base CX0 1 f fd ["_law_found"] (spD T 1 f_law_numbers) :=
  fn_D (N := N_law_numbers) (ps := ["_law_found"]) (k := 0) (m := m_law_numbers) F sc_law_numbers fun cdv A outer s H E hr =>
  (dss_cons (ds_if (dt_not (dt_val (de_isTy .list B.isinstance (de_var 0) rfl B.list (by decide +kernel))))
  (dss_one (ds_ret de_bl))
  dss_nil)
  (dss_one (ds_ret (de_all rfl B.all (di_l (dl_comp (own := [("_law_one", 1)]) (t := (.nm 1)) rfl sc_law_numbers.nd (dn_seq (de_var 0)) (blkOk_by (own := [("_law_one", 1)]) (N := N_law_numbers) (sc := defScope s_law_numbers) (by decide +kernel)) (fun _ _ _ _ _ => (dg_nm (i := 1) sc_law_numbers.nd)) (fun _ _ _ _ _ => (de_and (de_isTy .int B.isinstance (de_var 1) rfl B.int (by decide +kernel)) (de_one (de_not (de_isTy .bool B.isinstance (de_var 1) rfl B.bool (by decide +kernel)))))) (by decide)))))))
/-! ### _law_grown -/
abbrev s_law_grown : Stmt := (topS 20)
abbrev N_law_grown : List Str := ["_law_deeds_here", "_law_found", "_law_deed", "_law_at"]
theorem sc_law_grown : FnScope N_law_grown ["_law_deeds_here"] (defScope s_law_grown) := ⟨rfl, rfl, rfl, by decide +kernel, rfl, by decide +kernel, by decide +kernel⟩
theorem ok_law_grown {f : Addr} {fd : FuncData} (F : Fun T.K "_law_grown" "_law_grown" s_law_grown f fd) (B : Blt mg) (c_law_numbers : DefG P w T.K mg base CX0 1 "_law_numbers" (spD T 1 f_law_numbers)) :
    FnOk P w T.K mg base CX0 2 f fd ["_law_deeds_here"] (spD T 1 f_law_grown) :=
  fn_D (N := N_law_grown) (ps := ["_law_deeds_here"]) (k := 1) (m := m_law_grown) F sc_law_grown fun cdv A outer s H E hr =>
  (dss_cons (ds_setO 1 sc_law_grown.nd (dl_lst da_nil))
  (dss_cons (ds_for PassesOwn.never rfl (dn_seq (de_var 0)) (dg_nm (i := 2) sc_law_grown.nd)
  (dss_cons (ds_if (dt_w (dw_or (dt_not (dt_val (de_isTy .tuple B.isinstance (de_var 2) rfl B.tuple (by decide +kernel)))) (dw_or (dt_cmp op_lt opd_lt (de_len B.len (de_var 2)) de_int (nomark _)) (dw_or1 (dt_not (dt_val (de_call c_law_numbers hr (by decide) passN (da_cons (de_l (dl_list B.list (de_cutT (de_var 2) (do_some de_int) do_none))) da_nil))))))))
  (dss_one (ds_ret de_non))
  dss_nil)
  (dss_one (ds_if (dt_w (dw_and (dt_cmp (op_eqD hr.units) opd_eq (de_ix (de_var 2) de_int) de_str (nomark _)) (dw_and1 (dt_cmp (op_eqD hr.units) opd_eq (de_len B.len (de_var 2)) de_int (nomark _)))))
  (dss_one (ds_setO 1 sc_law_grown.nd (dl_cat (di_own 1) (di_l (dl_lst (da_cons (de_ix (de_var 2) de_int) da_nil))))))
  (dss_one (ds_if (dt_w (dw_and (dt_cmp (op_eqD hr.units) opd_eq (de_ix (de_var 2) de_int) de_str (nomark _)) (dw_and (dt_cmp (op_eqD hr.units) opd_eq (de_len B.len (de_var 2)) de_int (nomark _)) (dw_and (dt_chain op_le op_lt opd_le opd_lt de_int (de_ix (de_var 2) de_int) (de_lenI B.len (di_own 1))) (dw_and1 (dt_cmp op_gt opd_gt (de_ix (de_var 2) de_int) de_int (nomark _)))))))
  (dss_one (ds_for PassesOwn.never rfl (dn_range2 B.range (da_cons (de_ix (de_var 2) de_int) (da_cons (de_add (de_ix (de_var 2) de_int) (de_ix (de_var 2) de_int)) da_nil))) (dg_nm (i := 3) sc_law_grown.nd)
  (dss_one (ds_app 1 (de_ixI (di_own 1) (de_var 3))))))
  (dss_one (ds_ret de_non))))))))
  (dss_one (ds_ret (de_var 1)))))
/-! ### _law_deeds -/
abbrev s_law_deeds : Stmt := (topS 21)
abbrev N_law_deeds : List Str := ["_law_script", "_law_found", "_law_many", "_law_cell", "_law_count"]
theorem sc_law_deeds : FnScope N_law_deeds ["_law_script"] (defScope s_law_deeds) := ⟨rfl, rfl, rfl, by decide +kernel, rfl, by decide +kernel, by decide +kernel⟩
theorem ok_law_deeds {f : Addr} {fd : FuncData} (F : Fun T.K "_law_deeds" "_law_deeds" s_law_deeds f fd) (B : Blt mg)  :
    FnOk P w T.K mg base CX0 1 f fd ["_law_script"] (spD T 1 f_law_deeds) :=
  fn_D (N := N_law_deeds) (ps := ["_law_script"]) (k := 0) (m := m_law_deeds) F sc_law_deeds fun cdv A outer s H E hr =>
  (dss_cons (ds_parO 1 2 rfl sc_law_deeds.nd (dl_lst da_nil) de_int)
  (dss_cons (ds_for PassesOwn.never rfl (dn_seq (de_var 0)) (dg_nm (i := 3) sc_law_deeds.nd)
  (dss_one (ds_if (dt_w (dw_or (dt_cmp (op_eqD hr.units) opd_eq (de_mod (de_var 3) de_int) de_int (nomark _)) (dw_or (dt_cmp (op_eqD hr.units) opd_eq (de_var 2) de_int (nomark _)) (dw_or1 (dt_cmp op_gt opd_gt (de_var 2) de_int (nomark _))))))
  (dss_cons (ds_app 1 (de_tup (da_cons de_str (da_cons (de_if (dt_cmp (op_eqD hr.units) opd_eq (de_mod (de_var 3) de_int) de_int (nomark _)) (de_sub (de_mod (de_fdiv (de_var 3) de_int) de_int) de_int) (de_var 3)) da_nil))))
  (dss_one (ds_set 2 sc_law_deeds.nd (de_add (de_var 2) de_int))))
  (dss_cons (ds_set 4 sc_law_deeds.nd (de_add de_int (de_mod (de_add (de_fdiv (de_fdiv (de_var 3) de_int) (de_var 2)) (de_fdiv (de_var 3) de_int)) (de_ix (de_tup (da_cons de_int (da_cons de_int (da_cons de_int (da_cons de_int da_nil))))) (de_mod (de_fdiv (de_var 3) de_int) de_int)))))
  (dss_cons (ds_app 1 (de_tup (da_cons de_str (da_cons (de_mod (de_fdiv (de_var 3) de_int) (de_var 2)) (da_cons (de_var 4) da_nil)))))
  (dss_one (ds_set 2 sc_law_deeds.nd (de_add (de_var 2) (de_var 4)))))))))
  (dss_one (ds_ret (de_var 1)))))
/-! ### _law_cells -/
abbrev s_law_cells : Stmt := (topS 22)
abbrev N_law_cells : List Str := ["_law_script", "_law_found", "_law_cell"]
theorem sc_law_cells : FnScope N_law_cells ["_law_script"] (defScope s_law_cells) := ⟨rfl, rfl, rfl, by decide +kernel, rfl, by decide +kernel, by decide +kernel⟩
theorem ok_law_cells {f : Addr} {fd : FuncData} (F : Fun T.K "_law_cells" "_law_cells" s_law_cells f fd) (B : Blt mg)  :
    FnOk P w T.K mg base CX0 1 f fd ["_law_script"] (spD T 1 f_law_cells) :=
  fn_D (N := N_law_cells) (ps := ["_law_script"]) (k := 0) (m := m_law_cells) F sc_law_cells fun cdv A outer s H E hr =>
  (dss_cons (ds_set 1 sc_law_cells.nd (de_l (dl_cutS (de_var 0) do_none (do_some de_int))))
  (dss_cons (ds_if (dt_cmp (op_eqD hr.units) opd_eq (de_mod (de_fdiv (de_sum rfl B.sum (di_e (de_var 1))) de_int) de_int) de_int (nomark _))
  (dss_one (ds_set 1 sc_law_cells.nd (de_l (dl_cat (di_e (de_var 1)) (di_l (dl_comp (own := [("_law_cell", 2)]) (t := (.nm 2)) rfl sc_law_cells.nd (dn_seq (de_l (dl_cut (di_e (de_var 1)) do_none (do_some de_int)))) (blkOk_by (own := [("_law_cell", 2)]) (N := N_law_cells) (sc := defScope s_law_cells) (by decide +kernel)) (fun _ _ _ _ _ => (dg_nm (i := 2) sc_law_cells.nd)) (fun _ _ _ _ _ => (de_add (de_fdiv (de_var 2) de_int) de_int)) (by decide)))))))
  dss_nil)
  (dss_one (ds_ret (de_var 1)))))
/-! ### law -/
abbrev s_law : Stmt := (topS 23)
abbrev N_law : List Str := ["_law_script", "_law_sheet", "_law_clippings_here", "_law_some", "_law_handed", "_law_found", "_law_deeds_here"]
theorem sc_law : FnScope N_law ["_law_script"] (defScope s_law) := ⟨rfl, rfl, rfl, by decide +kernel, rfl, by decide +kernel, by decide +kernel⟩
theorem ok_law {f : Addr} {fd : FuncData} (F : Fun T.K "law" "law" s_law f fd) (B : Blt mg) (c_law_cells : DefG P w T.K mg base CX0 1 "_law_cells" (spD T 1 f_law_cells)) (c_law_row : DefG P w T.K mg base CX0 1 "_law_row" (spD T 2 f_law_row)) (c_law_clippings : DefG P w T.K mg base CX0 1 "_law_clippings" (spD T 2 f_law_clippings)) (c_law_deeds : DefG P w T.K mg base CX0 1 "_law_deeds" (spD T 1 f_law_deeds)) (c_pasted : DefG P w T.K mg base (L2.CX P w) 3 "pasted" (spL T 2 f_pasted)) (c_grown : DefG P w T.K mg base (L2.CX P w) 4 "grown" (spL T 1 f_grown)) (c_law_numbers : DefG P w T.K mg base CX0 1 "_law_numbers" (spD T 1 f_law_numbers)) (c_law_pasted : DefG P w T.K mg base CX0 1 "_law_pasted" (spD T 2 f_law_pasted)) (c_law_grown : DefG P w T.K mg base CX0 2 "_law_grown" (spD T 1 f_law_grown)) :
    FnOk P w T.K mg base CX0 5 f fd ["_law_script"] (spD T 1 f_law) :=
  fn_D (N := N_law) (ps := ["_law_script"]) (k := 4) (m := m_law) F sc_law fun cdv A outer s H E hr =>
  (dss_cons (ds_set 0 sc_law.nd (de_call c_law_cells hr (by decide) passN (da_cons (de_var 0) da_nil)))
  (dss_cons (ds_set 1 sc_law.nd (de_call c_law_row hr (by decide) passN (da_cons (de_var 0) (da_cons (de_sum rfl B.sum (di_e (de_var 0))) da_nil))))
  (dss_cons (ds_set 2 sc_law.nd (de_call c_law_clippings hr (by decide) passN (da_cons (de_var 1) (da_cons (de_l (dl_cut (di_e (de_var 0)) do_none (do_some de_int))) da_nil))))
  (dss_cons (ds_for PassesOwn.never rfl (dn_seq (de_l (dl_lst (da_cons (de_var 2) (da_cons (de_l (dl_rev (di_e (de_var 2)))) (da_cons (de_l (dl_cut (di_e (de_var 2)) do_none (do_some de_int))) (da_cons (de_l (dl_lst da_nil)) da_nil))))))) (dg_nm (i := 3) sc_law.nd)
  (dss_cons (ds_set 4 sc_law.nd (de_l (dl_lst (da_cons (de_l (dl_list B.list (de_var 1))) (da_cons (de_l (dl_list B.list (de_var 3))) da_nil)))))
  (dss_cons (ds_setO 5 sc_law.nd (dl_call c_pasted hr (by decide) passL (da_cons (de_ix (de_var 4) de_int) (da_cons (de_ix (de_var 4) de_int) da_nil))))
  (dss_cons (ds_if (dt_z (dt_w (dw_or (dt_not (dt_val (de_call c_law_numbers hr (by decide) passN (da_cons (de_var 5) da_nil)))) (dw_or (dt_cmp (op_neD hr.units) opd_ne (de_var 5) (de_call c_law_pasted hr (by decide) passN (da_cons (de_var 1) (da_cons (de_var 3) da_nil))) (nomark _)) (dw_or1 (dt_cmp (op_neD hr.units) opd_ne (de_var 4) (de_l (dl_lst (da_cons (de_var 1) (da_cons (de_var 3) da_nil)))) (nomark _)))))))
  (dss_one (ds_ret de_bl))
  dss_nil)
  (dss_cons (ds_app 5 de_int)
  (dss_one (ds_if (dt_cmp (op_neD hr.units) opd_ne (de_l (dl_call c_pasted hr (by decide) passL (da_cons (de_ix (de_var 4) de_int) (da_cons (de_ix (de_var 4) de_int) da_nil)))) (de_l (dl_cut (di_own 5) do_none (do_some (de_neg de_int)))) (nomark _))
  (dss_one (ds_ret de_bl))
  dss_nil)))))))
  (dss_cons (ds_set 6 sc_law.nd (de_call c_law_deeds hr (by decide) passN (da_cons (de_var 0) da_nil)))
  (dss_cons (ds_for PassesOwn.never rfl (dn_seq (de_l (dl_lst (da_cons (de_var 6) (da_cons (de_l (dl_cut (di_e (de_var 6)) do_none (do_some (de_fdiv (de_len B.len (de_var 6)) de_int)))) (da_cons (de_l (dl_lst da_nil)) da_nil)))))) (dg_nm (i := 3) sc_law.nd)
  (dss_cons (ds_set 4 sc_law.nd (de_l (dl_list B.list (de_var 3))))
  (dss_cons (ds_setO 5 sc_law.nd (dl_call c_grown hr (by decide) passL (da_cons (de_var 4) da_nil)))
  (dss_cons (ds_if (dt_z (dt_w (dw_or (dt_not (dt_val (de_call c_law_numbers hr (by decide) passN (da_cons (de_var 5) da_nil)))) (dw_or (dt_cmp (op_neD hr.units) opd_ne (de_var 5) (de_call c_law_grown hr (by decide) passN (da_cons (de_var 3) da_nil)) (nomark _)) (dw_or1 (dt_cmp (op_neD hr.units) opd_ne (de_var 4) (de_var 3) (nomark _)))))))
  (dss_one (ds_ret de_bl))
  dss_nil)
  (dss_cons (ds_app 5 de_int)
  (dss_one (ds_if (dt_cmp (op_neD hr.units) opd_ne (de_l (dl_call c_grown hr (by decide) passL (da_cons (de_var 4) da_nil))) (de_l (dl_cut (di_own 5) do_none (do_some (de_neg de_int)))) (nomark _))
  (dss_one (ds_ret de_bl))
  dss_nil)))))))
  (dss_one (ds_ret (de_and (de_eq hr (de_l (dl_call c_pasted hr (by decide) passL (da_cons (de_l (dl_lst da_nil)) (da_cons (de_l (dl_lst da_nil)) da_nil)))) (de_l (dl_lst da_nil))) (de_one (de_eq hr (de_l (dl_call c_grown hr (by decide) passL (da_cons (de_l (dl_lst (da_cons (de_tup (da_cons de_str (da_cons de_int da_nil))) (da_cons (de_tup (da_cons de_str (da_cons de_int (da_cons de_int da_nil)))) da_nil)))) da_nil))) (de_l (dl_lst (da_cons de_int (da_cons de_int (da_cons de_int (da_cons de_int da_nil)))))))))))))))))
end
end CL


set_option Elab.async false
set_option linter.all false
set_option maxRecDepth 100000
set_option maxHeartbeats 4000000
namespace CL
open PySem PySem.Spec L2
def spLaw (K : PySem.W.Frag) : Sp := fun vs H Q _ => ∃ (a : Addr) (ns : List Int), vs = [.ref a] ∧ SqL K H a (ns.map V.int) ∧ ns.length ≤ 63 ∧ ∀ H', Q (.bl true) H'
theorem all_mk {l : PySem.W.OpenLaw} {w : World} {K : PySem.W.Frag} {h : Heap} {mg : Str → Option Value} {fa : Addr} (X : K.In h) (G : h.Ns mainGlobals mg) (hfa : mg "law" = some (.ref fa))
    {f0 : Addr} {od0 an0 : Option Addr} {sl0 : Array (Option Value)} {oc0 kV0 dc0 pm0 cd0 ct0 : Value}
    (a0 : PySem.W.nsIn K mainGlobals "is_number" = some (some (.ref f0)))
    (l0 : K.lookup f0 = some ⟨oc0, od0, .func (PySem.W.fnOf "is_number" "is_number" (defArgs s_is_number) (defBody s_is_number) (defScope s_is_number) .none kV0 dc0 pm0 an0 cd0 ct0), sl0⟩) (c0 : PySem.W.codeIn K cd0 "is_number" = true) (k0 : PySem.W.keepIn K (.ref f0) = true)
    {f1 : Addr} {od1 an1 : Option Addr} {sl1 : Array (Option Value)} {oc1 kV1 dc1 pm1 cd1 ct1 : Value}
    (a1 : PySem.W.nsIn K mainGlobals "check_row" = some (some (.ref f1)))
    (l1 : K.lookup f1 = some ⟨oc1, od1, .func (PySem.W.fnOf "check_row" "check_row" (defArgs s_check_row) (defBody s_check_row) (defScope s_check_row) .none kV1 dc1 pm1 an1 cd1 ct1), sl1⟩) (c1 : PySem.W.codeIn K cd1 "check_row" = true) (k1 : PySem.W.keepIn K (.ref f1) = true)
    {f2 : Addr} {od2 an2 : Option Addr} {sl2 : Array (Option Value)} {oc2 kV2 dc2 pm2 cd2 ct2 : Value}
    (a2 : PySem.W.nsIn K mainGlobals "is_clipping" = some (some (.ref f2)))
    (l2 : K.lookup f2 = some ⟨oc2, od2, .func (PySem.W.fnOf "is_clipping" "is_clipping" (defArgs s_is_clipping) (defBody s_is_clipping) (defScope s_is_clipping) .none kV2 dc2 pm2 an2 cd2 ct2), sl2⟩) (c2 : PySem.W.codeIn K cd2 "is_clipping" = true) (k2 : PySem.W.keepIn K (.ref f2) = true)
    {f3 : Addr} {od3 an3 : Option Addr} {sl3 : Array (Option Value)} {oc3 kV3 dc3 pm3 cd3 ct3 : Value}
    (a3 : PySem.W.nsIn K mainGlobals "clipped" = some (some (.ref f3)))
    (l3 : K.lookup f3 = some ⟨oc3, od3, .func (PySem.W.fnOf "clipped" "clipped" (defArgs s_clipped) (defBody s_clipped) (defScope s_clipped) .none kV3 dc3 pm3 an3 cd3 ct3), sl3⟩) (c3 : PySem.W.codeIn K cd3 "clipped" = true) (k3 : PySem.W.keepIn K (.ref f3) = true)
    {f4 : Addr} {od4 an4 : Option Addr} {sl4 : Array (Option Value)} {oc4 kV4 dc4 pm4 cd4 ct4 : Value}
    (a4 : PySem.W.nsIn K mainGlobals "pasted_of" = some (some (.ref f4)))
    (l4 : K.lookup f4 = some ⟨oc4, od4, .func (PySem.W.fnOf "pasted_of" "pasted_of" (defArgs s_pasted_of) (defBody s_pasted_of) (defScope s_pasted_of) .none kV4 dc4 pm4 an4 cd4 ct4), sl4⟩) (c4 : PySem.W.codeIn K cd4 "pasted_of" = true) (k4 : PySem.W.keepIn K (.ref f4) = true)
    {f5 : Addr} {od5 an5 : Option Addr} {sl5 : Array (Option Value)} {oc5 kV5 dc5 pm5 cd5 ct5 : Value}
    (a5 : PySem.W.nsIn K mainGlobals "pasted" = some (some (.ref f5)))
    (l5 : K.lookup f5 = some ⟨oc5, od5, .func (PySem.W.fnOf "pasted" "pasted" (defArgs s_pasted) (defBody s_pasted) (defScope s_pasted) .none kV5 dc5 pm5 an5 cd5 ct5), sl5⟩) (c5 : PySem.W.codeIn K cd5 "pasted" = true) (k5 : PySem.W.keepIn K (.ref f5) = true)
    {f6 : Addr} {od6 an6 : Option Addr} {sl6 : Array (Option Value)} {oc6 kV6 dc6 pm6 cd6 ct6 : Value}
    (a6 : PySem.W.nsIn K mainGlobals "is_deed" = some (some (.ref f6)))
    (l6 : K.lookup f6 = some ⟨oc6, od6, .func (PySem.W.fnOf "is_deed" "is_deed" (defArgs s_is_deed) (defBody s_is_deed) (defScope s_is_deed) .none kV6 dc6 pm6 an6 cd6 ct6), sl6⟩) (c6 : PySem.W.codeIn K cd6 "is_deed" = true) (k6 : PySem.W.keepIn K (.ref f6) = true)
    {f7 : Addr} {od7 an7 : Option Addr} {sl7 : Array (Option Value)} {oc7 kV7 dc7 pm7 cd7 ct7 : Value}
    (a7 : PySem.W.nsIn K mainGlobals "grown_of" = some (some (.ref f7)))
    (l7 : K.lookup f7 = some ⟨oc7, od7, .func (PySem.W.fnOf "grown_of" "grown_of" (defArgs s_grown_of) (defBody s_grown_of) (defScope s_grown_of) .none kV7 dc7 pm7 an7 cd7 ct7), sl7⟩) (c7 : PySem.W.codeIn K cd7 "grown_of" = true) (k7 : PySem.W.keepIn K (.ref f7) = true)
    {f8 : Addr} {od8 an8 : Option Addr} {sl8 : Array (Option Value)} {oc8 kV8 dc8 pm8 cd8 ct8 : Value}
    (a8 : PySem.W.nsIn K mainGlobals "grown" = some (some (.ref f8)))
    (l8 : K.lookup f8 = some ⟨oc8, od8, .func (PySem.W.fnOf "grown" "grown" (defArgs s_grown) (defBody s_grown) (defScope s_grown) .none kV8 dc8 pm8 an8 cd8 ct8), sl8⟩) (c8 : PySem.W.codeIn K cd8 "grown" = true) (k8 : PySem.W.keepIn K (.ref f8) = true)
    {f9 : Addr} {od9 an9 : Option Addr} {sl9 : Array (Option Value)} {oc9 kV9 dc9 pm9 cd9 ct9 : Value}
    (a9 : PySem.W.nsIn K mainGlobals "_law_row" = some (some (.ref f9)))
    (l9 : K.lookup f9 = some ⟨oc9, od9, .func (PySem.W.fnOf "_law_row" "_law_row" (defArgs s_law_row) (defBody s_law_row) (defScope s_law_row) .none kV9 dc9 pm9 an9 cd9 ct9), sl9⟩) (c9 : PySem.W.codeIn K cd9 "_law_row" = true) (k9 : PySem.W.keepIn K (.ref f9) = true)
    {f10 : Addr} {od10 an10 : Option Addr} {sl10 : Array (Option Value)} {oc10 kV10 dc10 pm10 cd10 ct10 : Value}
    (a10 : PySem.W.nsIn K mainGlobals "_law_clippings" = some (some (.ref f10)))
    (l10 : K.lookup f10 = some ⟨oc10, od10, .func (PySem.W.fnOf "_law_clippings" "_law_clippings" (defArgs s_law_clippings) (defBody s_law_clippings) (defScope s_law_clippings) .none kV10 dc10 pm10 an10 cd10 ct10), sl10⟩) (c10 : PySem.W.codeIn K cd10 "_law_clippings" = true) (k10 : PySem.W.keepIn K (.ref f10) = true)
    {f11 : Addr} {od11 an11 : Option Addr} {sl11 : Array (Option Value)} {oc11 kV11 dc11 pm11 cd11 ct11 : Value}
    (a11 : PySem.W.nsIn K mainGlobals "_law_pasted" = some (some (.ref f11)))
    (l11 : K.lookup f11 = some ⟨oc11, od11, .func (PySem.W.fnOf "_law_pasted" "_law_pasted" (defArgs s_law_pasted) (defBody s_law_pasted) (defScope s_law_pasted) .none kV11 dc11 pm11 an11 cd11 ct11), sl11⟩) (c11 : PySem.W.codeIn K cd11 "_law_pasted" = true) (k11 : PySem.W.keepIn K (.ref f11) = true)
    {f12 : Addr} {od12 an12 : Option Addr} {sl12 : Array (Option Value)} {oc12 kV12 dc12 pm12 cd12 ct12 : Value}
    (a12 : PySem.W.nsIn K mainGlobals "_law_numbers" = some (some (.ref f12)))
    (l12 : K.lookup f12 = some ⟨oc12, od12, .func (PySem.W.fnOf "_law_numbers" "_law_numbers" (defArgs s_law_numbers) (defBody s_law_numbers) (defScope s_law_numbers) .none kV12 dc12 pm12 an12 cd12 ct12), sl12⟩) (c12 : PySem.W.codeIn K cd12 "_law_numbers" = true) (k12 : PySem.W.keepIn K (.ref f12) = true)
    {f13 : Addr} {od13 an13 : Option Addr} {sl13 : Array (Option Value)} {oc13 kV13 dc13 pm13 cd13 ct13 : Value}
    (a13 : PySem.W.nsIn K mainGlobals "_law_grown" = some (some (.ref f13)))
    (l13 : K.lookup f13 = some ⟨oc13, od13, .func (PySem.W.fnOf "_law_grown" "_law_grown" (defArgs s_law_grown) (defBody s_law_grown) (defScope s_law_grown) .none kV13 dc13 pm13 an13 cd13 ct13), sl13⟩) (c13 : PySem.W.codeIn K cd13 "_law_grown" = true) (k13 : PySem.W.keepIn K (.ref f13) = true)
    {f14 : Addr} {od14 an14 : Option Addr} {sl14 : Array (Option Value)} {oc14 kV14 dc14 pm14 cd14 ct14 : Value}
    (a14 : PySem.W.nsIn K mainGlobals "_law_deeds" = some (some (.ref f14)))
    (l14 : K.lookup f14 = some ⟨oc14, od14, .func (PySem.W.fnOf "_law_deeds" "_law_deeds" (defArgs s_law_deeds) (defBody s_law_deeds) (defScope s_law_deeds) .none kV14 dc14 pm14 an14 cd14 ct14), sl14⟩) (c14 : PySem.W.codeIn K cd14 "_law_deeds" = true) (k14 : PySem.W.keepIn K (.ref f14) = true)
    {f15 : Addr} {od15 an15 : Option Addr} {sl15 : Array (Option Value)} {oc15 kV15 dc15 pm15 cd15 ct15 : Value}
    (a15 : PySem.W.nsIn K mainGlobals "_law_cells" = some (some (.ref f15)))
    (l15 : K.lookup f15 = some ⟨oc15, od15, .func (PySem.W.fnOf "_law_cells" "_law_cells" (defArgs s_law_cells) (defBody s_law_cells) (defScope s_law_cells) .none kV15 dc15 pm15 an15 cd15 ct15), sl15⟩) (c15 : PySem.W.codeIn K cd15 "_law_cells" = true) (k15 : PySem.W.keepIn K (.ref f15) = true)
    {f16 : Addr} {od16 an16 : Option Addr} {sl16 : Array (Option Value)} {oc16 kV16 dc16 pm16 cd16 ct16 : Value}
    (a16 : PySem.W.nsIn K mainGlobals "law" = some (some (.ref f16)))
    (l16 : K.lookup f16 = some ⟨oc16, od16, .func (PySem.W.fnOf "law" "law" (defArgs s_law) (defBody s_law) (defScope s_law) .none kV16 dc16 pm16 an16 cd16 ct16), sl16⟩) (c16 : PySem.W.codeIn K cd16 "law" = true) (k16 : PySem.W.keepIn K (.ref f16) = true)
    (z_len : PySem.W.nsIn K mainGlobals "len" = some none)
    (z_isinstance : PySem.W.nsIn K mainGlobals "isinstance" = some none)
    (z_int : PySem.W.nsIn K mainGlobals "int" = some none)
    (z_bool : PySem.W.nsIn K mainGlobals "bool" = some none)
    (z_list : PySem.W.nsIn K mainGlobals "list" = some none)
    (z_tuple : PySem.W.nsIn K mainGlobals "tuple" = some none)
    (z_str : PySem.W.nsIn K mainGlobals "str" = some none)
    (z_all : PySem.W.nsIn K mainGlobals "all" = some none)
    (z_any : PySem.W.nsIn K mainGlobals "any" = some none)
    (z_range : PySem.W.nsIn K mainGlobals "range" = some none)
    (z_sum : PySem.W.nsIn K mainGlobals "sum" = some none)
    (z_abs : PySem.W.nsIn K mainGlobals "abs" = some none)
    (z_max : PySem.W.nsIn K mainGlobals "max" = some none)
    (z_min : PySem.W.nsIn K mainGlobals "min" = some none)
    (z_zip : PySem.W.nsIn K mainGlobals "zip" = some none)
    (z_enumerate : PySem.W.nsIn K mainGlobals "enumerate" = some none)
    {C_BadRow : Addr} (g_BadRow : PySem.W.nsIn K mainGlobals "BadRow" = some (some (.ref C_BadRow))) (x_BadRow : PySem.W.excIn K C_BadRow [.type "ValueError", .type "Exception", .type "BaseException", .type "object"] "ValueError.__new__" = true)
    (p_BadRow : PySem.W.keepIn K (.ref C_BadRow) = true) (b_BadRow : PySem.W.subIn K (.ref C_BadRow) (.type "BaseException") = some true) (t_BadRow : PySem.W.typeIn K (.ref C_BadRow) = some (.type "type"))
    {C_BadClipping : Addr} (g_BadClipping : PySem.W.nsIn K mainGlobals "BadClipping" = some (some (.ref C_BadClipping))) (x_BadClipping : PySem.W.excIn K C_BadClipping [.type "ValueError", .type "Exception", .type "BaseException", .type "object"] "ValueError.__new__" = true)
    (p_BadClipping : PySem.W.keepIn K (.ref C_BadClipping) = true) (b_BadClipping : PySem.W.subIn K (.ref C_BadClipping) (.type "BaseException") = some true) (t_BadClipping : PySem.W.typeIn K (.ref C_BadClipping) = some (.type "type"))
    {C_BadDeed : Addr} (g_BadDeed : PySem.W.nsIn K mainGlobals "BadDeed" = some (some (.ref C_BadDeed))) (x_BadDeed : PySem.W.excIn K C_BadDeed [.type "ValueError", .type "Exception", .type "BaseException", .type "object"] "ValueError.__new__" = true)
    (p_BadDeed : PySem.W.keepIn K (.ref C_BadDeed) = true) (b_BadDeed : PySem.W.subIn K (.ref C_BadDeed) (.type "BaseException") = some true) (t_BadDeed : PySem.W.typeIn K (.ref C_BadDeed) = some (.type "type"))
    : ∃ fd : FuncData, (∀ (s : Shared) (v : Value), BindsTo s fd ⟨[v], []⟩ [("_law_script", v)]) ∧ ∀ base : Heap, K.In base → base.Ns mainGlobals mg → FnOk l.prog w K mg base CX0 5 fa fd ["_law_script"] (spLaw K) := by
  have e := hfa.symm.trans (PySem.W.mg_of X G a16)
  cases e
  have B : Blt mg := ⟨PySem.W.mg_none_of X G z_len, PySem.W.mg_none_of X G z_isinstance, PySem.W.mg_none_of X G z_int, PySem.W.mg_none_of X G z_bool, PySem.W.mg_none_of X G z_list, PySem.W.mg_none_of X G z_tuple, PySem.W.mg_none_of X G z_str, PySem.W.mg_none_of X G z_all, PySem.W.mg_none_of X G z_any, PySem.W.mg_none_of X G z_range, PySem.W.mg_none_of X G z_sum, PySem.W.mg_none_of X G z_abs, PySem.W.mg_none_of X G z_max, PySem.W.mg_none_of X G z_min, PySem.W.mg_none_of X G z_zip, PySem.W.mg_none_of X G z_enumerate⟩
  obtain ⟨T, hT⟩ : ∃ T : Tx, T = ⟨K, fun _ => 0, fun c => match c with | 0 => C_BadRow | 1 => C_BadClipping | 2 => C_BadDeed | _ => 0, fun _ => 0⟩ := ⟨_, rfl⟩
  have hK : T.K = K := by rw [hT]
  have e_BadRow : ExF T.K mg "BadRow" (T.exc 0) := by
    rw [hT]
    exact ⟨x_BadRow, PySem.W.mg_of X G g_BadRow, p_BadRow, b_BadRow, t_BadRow⟩
  have e_BadClipping : ExF T.K mg "BadClipping" (T.exc 1) := by
    rw [hT]
    exact ⟨x_BadClipping, PySem.W.mg_of X G g_BadClipping, p_BadClipping, b_BadClipping, t_BadClipping⟩
  have e_BadDeed : ExF T.K mg "BadDeed" (T.exc 2) := by
    rw [hT]
    exact ⟨x_BadDeed, PySem.W.mg_of X G g_BadDeed, p_BadDeed, b_BadDeed, t_BadDeed⟩
  have F0 := fun_mk (st := s_is_number) l0 c0 k0
  have b0 := F0.binds (ps := ["thing"]) fun _ _ _ _ _ _ us hl => match us, hl with | [_], _ => rfl
  rw [← hK] at F0 b0
  have F1 := fun_mk (st := s_check_row) l1 c1 k1
  have b1 := F1.binds (ps := ["row"]) fun _ _ _ _ _ _ us hl => match us, hl with | [_], _ => rfl
  rw [← hK] at F1 b1
  have F2 := fun_mk (st := s_is_clipping) l2 c2 k2
  have b2 := F2.binds (ps := ["sheet", "thing"]) fun _ _ _ _ _ _ us hl => match us, hl with | [_, _], _ => rfl
  rw [← hK] at F2 b2
  have F3 := fun_mk (st := s_clipped) l3 c3 k3
  have b3 := F3.binds (ps := ["sheet", "clipping"]) fun _ _ _ _ _ _ us hl => match us, hl with | [_, _], _ => rfl
  rw [← hK] at F3 b3
  have F4 := fun_mk (st := s_pasted_of) l4 c4 k4
  have b4 := F4.binds (ps := ["sheet", "clippings"]) fun _ _ _ _ _ _ us hl => match us, hl with | [_, _], _ => rfl
  rw [← hK] at F4 b4
  have F5 := fun_mk (st := s_pasted) l5 c5 k5
  have b5 := F5.binds (ps := ["sheet", "clippings"]) fun _ _ _ _ _ _ us hl => match us, hl with | [_, _], _ => rfl
  rw [← hK] at F5 b5
  have F6 := fun_mk (st := s_is_deed) l6 c6 k6
  have b6 := F6.binds (ps := ["thing", "many"]) fun _ _ _ _ _ _ us hl => match us, hl with | [_, _], _ => rfl
  rw [← hK] at F6 b6
  have F7 := fun_mk (st := s_grown_of) l7 c7 k7
  have b7 := F7.binds (ps := ["deeds"]) fun _ _ _ _ _ _ us hl => match us, hl with | [_], _ => rfl
  rw [← hK] at F7 b7
  have F8 := fun_mk (st := s_grown) l8 c8 k8
  have b8 := F8.binds (ps := ["deeds"]) fun _ _ _ _ _ _ us hl => match us, hl with | [_], _ => rfl
  rw [← hK] at F8 b8
  have F9 := fun_mk (st := s_law_row) l9 c9 k9
  have b9 := F9.binds (ps := ["_law_cells_here", "_law_code"]) fun _ _ _ _ _ _ us hl => match us, hl with | [_, _], _ => rfl
  rw [← hK] at F9 b9
  have F10 := fun_mk (st := s_law_clippings) l10 c10 k10
  have b10 := F10.binds (ps := ["_law_sheet", "_law_cells_here"]) fun _ _ _ _ _ _ us hl => match us, hl with | [_, _], _ => rfl
  rw [← hK] at F10 b10
  have F11 := fun_mk (st := s_law_pasted) l11 c11 k11
  have b11 := F11.binds (ps := ["_law_sheet", "_law_clippings_here"]) fun _ _ _ _ _ _ us hl => match us, hl with | [_, _], _ => rfl
  rw [← hK] at F11 b11
  have F12 := fun_mk (st := s_law_numbers) l12 c12 k12
  have b12 := F12.binds (ps := ["_law_found"]) fun _ _ _ _ _ _ us hl => match us, hl with | [_], _ => rfl
  rw [← hK] at F12 b12
  have F13 := fun_mk (st := s_law_grown) l13 c13 k13
  have b13 := F13.binds (ps := ["_law_deeds_here"]) fun _ _ _ _ _ _ us hl => match us, hl with | [_], _ => rfl
  rw [← hK] at F13 b13
  have F14 := fun_mk (st := s_law_deeds) l14 c14 k14
  have b14 := F14.binds (ps := ["_law_script"]) fun _ _ _ _ _ _ us hl => match us, hl with | [_], _ => rfl
  rw [← hK] at F14 b14
  have F15 := fun_mk (st := s_law_cells) l15 c15 k15
  have b15 := F15.binds (ps := ["_law_script"]) fun _ _ _ _ _ _ us hl => match us, hl with | [_], _ => rfl
  rw [← hK] at F15 b15
  have F16 := fun_mk (st := s_law) l16 c16 k16
  have b16 := F16.binds (ps := ["_law_script"]) fun _ _ _ _ _ _ us hl => match us, hl with | [_], _ => rfl
  rw [← hK] at F16 b16
  refine ⟨PySem.W.fnOf "law" "law" (defArgs s_law) (defBody s_law) (defScope s_law) .none kV16 dc16 pm16 an16 cd16 ct16, fun s v => .of_eq rfl, fun base _ _ => ?_⟩
  have G0 := ok_is_number (P := l.prog) (w := w) (mg := mg) (base := base) (T := T) F0 B 
  have c_is_number := defG G0 F0 (PySem.W.mg_of X G a0) b0
  have G3 := ok_clipped (P := l.prog) (w := w) (mg := mg) (base := base) (T := T) F3 B 
  have c_clipped := defG G3 F3 (PySem.W.mg_of X G a3) b3
  have G9 := ok_law_row (P := l.prog) (w := w) (mg := mg) (base := base) (T := T) F9 B 
  have c_law_row := defG G9 F9 (PySem.W.mg_of X G a9) b9
  have G10 := ok_law_clippings (P := l.prog) (w := w) (mg := mg) (base := base) (T := T) F10 B 
  have c_law_clippings := defG G10 F10 (PySem.W.mg_of X G a10) b10
  have G11 := ok_law_pasted (P := l.prog) (w := w) (mg := mg) (base := base) (T := T) F11 B 
  have c_law_pasted := defG G11 F11 (PySem.W.mg_of X G a11) b11
  have G12 := ok_law_numbers (P := l.prog) (w := w) (mg := mg) (base := base) (T := T) F12 B 
  have c_law_numbers := defG G12 F12 (PySem.W.mg_of X G a12) b12
  have G14 := ok_law_deeds (P := l.prog) (w := w) (mg := mg) (base := base) (T := T) F14 B 
  have c_law_deeds := defG G14 F14 (PySem.W.mg_of X G a14) b14
  have G15 := ok_law_cells (P := l.prog) (w := w) (mg := mg) (base := base) (T := T) F15 B 
  have c_law_cells := defG G15 F15 (PySem.W.mg_of X G a15) b15
  have G1 := ok_check_row (P := l.prog) (w := w) (mg := mg) (base := base) (T := T) F1 B c_is_number e_BadRow
  have c_check_row := defG G1 F1 (PySem.W.mg_of X G a1) b1
  have G2 := ok_is_clipping (P := l.prog) (w := w) (mg := mg) (base := base) (T := T) F2 B c_is_number
  have c_is_clipping := defG G2 F2 (PySem.W.mg_of X G a2) b2
  have G4 := ok_pasted_of (P := l.prog) (w := w) (mg := mg) (base := base) (T := T) F4 B c_clipped
  have c_pasted_of := defG G4 F4 (PySem.W.mg_of X G a4) b4
  have G6 := ok_is_deed (P := l.prog) (w := w) (mg := mg) (base := base) (T := T) F6 B c_is_number
  have c_is_deed := defG G6 F6 (PySem.W.mg_of X G a6) b6
  have G13 := ok_law_grown (P := l.prog) (w := w) (mg := mg) (base := base) (T := T) F13 B c_law_numbers
  have c_law_grown := defG G13 F13 (PySem.W.mg_of X G a13) b13
  have G5 := ok_pasted (P := l.prog) (w := w) (mg := mg) (base := base) (T := T) F5 B c_check_row c_pasted_of c_is_clipping e_BadClipping
  have c_pasted := defG G5 F5 (PySem.W.mg_of X G a5) b5
  have G7 := ok_grown_of (P := l.prog) (w := w) (mg := mg) (base := base) (T := T) F7 B c_is_deed
  have c_grown_of := defG G7 F7 (PySem.W.mg_of X G a7) b7
  have G8 := ok_grown (P := l.prog) (w := w) (mg := mg) (base := base) (T := T) F8 B c_grown_of e_BadDeed
  have c_grown := defG G8 F8 (PySem.W.mg_of X G a8) b8
  have G16 := ok_law (P := l.prog) (w := w) (mg := mg) (base := base) (T := T) F16 B c_law_cells c_law_row c_law_clippings c_law_deeds c_pasted c_grown c_law_numbers c_law_pasted c_law_grown
  rw [hK] at G16
  refine G16.imp fun vs H Q E q => ?_
  obtain ⟨a, ns, rfl, hS, hl, q⟩ := q
  refine ⟨H, [.scr ns], Ex.refl H, .cons (.scr (by rw [hK]; exact hS)) .nil, rfl, ?_⟩
  rw [law_true ns hl]
  intro v F1 H1 u r
  cases r
  exact q H1
end CL
open PySem PySem.W PyProof.Rows in
set_option maxRecDepth 100000 in
set_option maxHeartbeats 0 in
theorem PySem.Challenge.cw_cliprow_k01_pasted_holds : PySem.Challenge.rw_cliprow_k01_pasted.Holds := by
  w_on; o_law; k_head; (case hw => w_witness2)
  k_fill
  refine L2.walk_of (l := PySem.Challenge.rw_cliprow_k01_pasted) (n := 63) (k := 5) (x := "_law_script") (CX := fun _ => L2.CX0) (sp := fun w => CL.spLaw _) rfl (by decide) rfl ⟨rfl, by decide, by decide⟩ (fun w h Y => PySem.W.kIn_of Y) ?F (fun _ _ a ns hl _ hS => ⟨a, ns, rfl, hS, hl, fun _ => rfl⟩) (fun _ _ _ _ _ h => h)
  case F =>
    intro w mg fa h KX G hmg
    refine' CL.all_mk KX G hmg ?a0 ?l0 ?c0 ?k0 ?a1 ?l1 ?c1 ?k1 ?a2 ?l2 ?c2 ?k2 ?a3 ?l3 ?c3 ?k3 ?a4 ?l4 ?c4 ?k4 ?a5 ?l5 ?c5 ?k5 ?a6 ?l6 ?c6 ?k6 ?a7 ?l7 ?c7 ?k7 ?a8 ?l8 ?c8 ?k8 ?a9 ?l9 ?c9 ?k9 ?a10 ?l10 ?c10 ?k10 ?a11 ?l11 ?c11 ?k11 ?a12 ?l12 ?c12 ?k12 ?a13 ?l13 ?c13 ?k13 ?a14 ?l14 ?c14 ?k14 ?a15 ?l15 ?c15 ?k15 ?a16 ?l16 ?c16 ?k16 ?z_len ?z_isinstance ?z_int ?z_bool ?z_list ?z_tuple ?z_str ?z_all ?z_any ?z_range ?z_sum ?z_abs ?z_max ?z_min ?z_zip ?z_enumerate ?g_BadRow ?x_BadRow ?p_BadRow ?b_BadRow ?t_BadRow ?g_BadClipping ?x_BadClipping ?p_BadClipping ?b_BadClipping ?t_BadClipping ?g_BadDeed ?x_BadDeed ?p_BadDeed ?b_BadDeed ?t_BadDeed
    (case a0 => k_is)
    (case l0 => k_is)
    (case c0 => k_is)
    (case k0 => k_is)
    (case a1 => k_is)
    (case l1 => k_is)
    (case c1 => k_is)
    (case k1 => k_is)
    (case a2 => k_is)
    (case l2 => k_is)
    (case c2 => k_is)
    (case k2 => k_is)
    (case a3 => k_is)
    (case l3 => k_is)
    (case c3 => k_is)
    (case k3 => k_is)
    (case a4 => k_is)
    (case l4 => k_is)
    (case c4 => k_is)
    (case k4 => k_is)
    (case a5 => k_is)
    (case l5 => k_is)
    (case c5 => k_is)
    (case k5 => k_is)
    (case a6 => k_is)
    (case l6 => k_is)
    (case c6 => k_is)
    (case k6 => k_is)
    (case a7 => k_is)
    (case l7 => k_is)
    (case c7 => k_is)
    (case k7 => k_is)
    (case a8 => k_is)
    (case l8 => k_is)
    (case c8 => k_is)
    (case k8 => k_is)
    (case a9 => k_is)
    (case l9 => k_is)
    (case c9 => k_is)
    (case k9 => k_is)
    (case a10 => k_is)
    (case l10 => k_is)
    (case c10 => k_is)
    (case k10 => k_is)
    (case a11 => k_is)
    (case l11 => k_is)
    (case c11 => k_is)
    (case k11 => k_is)
    (case a12 => k_is)
    (case l12 => k_is)
    (case c12 => k_is)
    (case k12 => k_is)
    (case a13 => k_is)
    (case l13 => k_is)
    (case c13 => k_is)
    (case k13 => k_is)
    (case a14 => k_is)
    (case l14 => k_is)
    (case c14 => k_is)
    (case k14 => k_is)
    (case a15 => k_is)
    (case l15 => k_is)
    (case c15 => k_is)
    (case k15 => k_is)
    (case a16 => k_is)
    (case l16 => k_is)
    (case c16 => k_is)
    (case k16 => k_is)
    (case z_len => k_is)
    (case z_isinstance => k_is)
    (case z_int => k_is)
    (case z_bool => k_is)
    (case z_list => k_is)
    (case z_tuple => k_is)
    (case z_str => k_is)
    (case z_all => k_is)
    (case z_any => k_is)
    (case z_range => k_is)
    (case z_sum => k_is)
    (case z_abs => k_is)
    (case z_max => k_is)
    (case z_min => k_is)
    (case z_zip => k_is)
    (case z_enumerate => k_is)
    (case g_BadRow => k_is)
    (case x_BadRow => k_exc)
    (case p_BadRow => k_is)
    (case b_BadRow => k_is)
    (case t_BadRow => k_is)
    (case g_BadClipping => k_is)
    (case x_BadClipping => k_exc)
    (case p_BadClipping => k_is)
    (case b_BadClipping => k_is)
    (case t_BadClipping => k_is)
    (case g_BadDeed => k_is)
    (case x_BadDeed => k_exc)
    (case p_BadDeed => k_is)
    (case b_BadDeed => k_is)
    (case t_BadDeed => k_is)

