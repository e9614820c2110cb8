import PyProof.Rows.All
import Wide.All
import OpenK.AllK
import Wide.FinOn
import HandS.ForMost
import HandS.ForExc
import HandS.IsInst
import HandS.Style
import HandS.Wide
import HandS.Lambda
import HandS.Nested
import HandS.ExcCtx
import HandS.HotCalls
import HandS.ExcIs
import HandS.CallLocal
import HandS.EndTab
import HandS.Conv
import HandS.TupLe
import HandS.Flow
import HandS.SetFor
import HandS.Strs
import HandS.Zip
import PySem.Challenge.RW_cliprow_k09_handed_stays
set_option Elab.async false
set_option linter.all false
set_option maxRecDepth 100000
/-! The data layer, part a: plain data, what stands for it in a heap, results, the judgements. -/
namespace CL
open PySem PySem.Spec PyProof.Rows L2

/-- plain data: an instance by its class's number and its fields in order; a def by its number; the script -/
inductive D where
  | non | bl (b : Bool) | int (i : Int) | str (x : Str) | lst (xs : List D) | tup (xs : List D) | dct | ins (c : Nat) (fs : List D) | fn (i : Nat) | scr (ns : List Int) | lam (i : Nat) (cs : List D)
/-- the text's own addresses -/
structure Tx where
  K : PySem.W.Frag
  cls : Nat → Addr
  exc : Nat → Addr
  fna : Nat → Addr
  /-- the exception that is handled, its class; the lambdas' own words -/
  er : V → Nat → Prop
  lq : Nat → Str
  lp : Nat → Arguments
  lb : Nat → Expr
  ls : Nat → Scope
  lf : Nat → List Str
  /-- the tables of code objects, the name that their code objects bear -/
  tabs : List (Addr × Str)
/-- the fields of the classes: Forth, Either, Lacks, Grown -/
def FL : Nat → List Str
  | 0 => ["clippings", "marks"]
  | 1 => ["clippings", "marks"]
  | 2 => ["place"]
  | 3 => ["deeds", "marks"]
  | _ => []
/-- a result -/
inductive Rs (α : Type) where
  | ok (a : α) | exc (c : Nat) | stuck
def Rs.bnd {α β : Type} (x : Rs α) (f : α → Rs β) : Rs β := match x with
  | .ok a => f a
  | .exc c => .exc c
  | .stuck => .stuck
def ofO {α : Type} : Option α → Rs α
  | some a => .ok a
  | none => .stuck
theorem bnd_ok {α β : Type} (a : α) (f : α → Rs β) : (Rs.ok a).bnd f = f a := rfl
theorem bnd_exc {α β : Type} (c : Nat) (f : α → Rs β) : (Rs.exc c).bnd f = .exc c := rfl
theorem bnd_stuck {α β : Type} (f : α → Rs β) : (Rs.stuck : Rs α).bnd f = .stuck := rfl

/-! ### heaps -/
/-- what becomes of a thing: it stays; a table may grow -/
def Keeps : HO → Option HO → Prop
  | .tbl _, x => ∃ ps, x = some (.tbl ps)
  | o, x => x = some o
theorem keeps_refl {o : HO} {x : Option HO} (h : x = some o) : Keeps o x := by
  cases o <;> first | exact h | exact ⟨_, h⟩
theorem keeps_none {o : HO} (h : Keeps o none) : False := by
  cases o <;> first | (obtain ⟨_, h⟩ := h; cases h) | (exact nomatch (show none = some _ from h))
theorem keeps_ge {o : HO} {x y : Option HO} (h : Keeps o x) (k : ∀ u, x = some u → Keeps u y) : Keeps o y := by
  cases o <;> first | exact k _ h | (obtain ⟨ps, h⟩ := h; exact k (.tbl ps) h)
theorem keeps_both {o u : HO} {x : Option HO} (h : Keeps u x) (k : Keeps o x) : Keeps o (some u) := by
  obtain ⟨w, rfl⟩ : ∃ w, x = some w := by
    cases x with
    | none => exact (keeps_none h).elim
    | some w => exact ⟨w, rfl⟩
  cases u <;> cases o <;> first | exact ⟨_, rfl⟩ | skip
  all_goals first | exact (show some _ = some _ from h).symm.trans k | (obtain ⟨ps, h⟩ := h; exact (nomatch h.symm.trans (show some w = some _ from k))) | (obtain ⟨ps, k⟩ := k; exact (nomatch k.symm.trans (show some w = some _ from h)))
theorem keeps_some {o : HO} {x : Option HO} (h : Keeps o x) : ∃ u, x = some u := by
  cases x with
  | none => exact (keeps_none h).elim
  | some u => exact ⟨u, rfl⟩
def Ex (H H' : Hp) : Prop := ∀ a o, H a = some o → Keeps o (H' a)
theorem Ex.refl (H : Hp) : Ex H H := fun _ _ h => keeps_refl h
theorem Ex.trans {H H1 H2 : Hp} (a : Ex H H1) (b : Ex H1 H2) : Ex H H2 := fun x o h => keeps_ge (a x o h) fun u e => b x u e
theorem Ex.same {H H' : Hp} (h : ∀ a o, H a = some o → H' a = some o) : Ex H H' := fun a o e => keeps_refl (h a o e)
theorem Ex.extN {H H' : Hp} (h : LamX.ExtN H H') (t : ∀ a ps, H a = some (.tbl ps) → ∃ qs, H' a = some (.tbl qs)) : Ex H H' := fun a o e => by
  cases o <;> first | exact t a _ e | exact h a _ e (fun _ z => nomatch z)
theorem Ex.new {H : Hp} {p : Addr} {o : HO} (h : H p = none) : Ex H (upd H p o) := .same fun a u e => by
  rw [upd_ne (ne_of_none e h)]
  exact e
theorem Ex.both {F H : Hp} {p : Addr} {o : HO} (e : Ex F H) : Ex (upd F p o) (upd H p o) := fun a u ha => by
  by_cases h : a = p
  · subst h
    rw [upd_same] at ha ⊢
    exact keeps_refl ha
  · rw [upd_ne h] at ha ⊢
    exact e a u ha
theorem Ex.right {F H : Hp} {p : Addr} {o : HO} (e : Ex F H) (h : F p = none) : Ex F (upd H p o) := fun a u ha => by
  rw [upd_ne (ne_of_none ha h)]
  exact e a u ha
theorem Ex.left {F H : Hp} {p : Addr} {o : HO} (e : Ex F H) (h : H p = some o) : Ex (upd F p o) H := fun a u ha => by
  by_cases q : a = p
  · subst q
    rw [upd_same] at ha
    rw [h]
    exact keeps_refl ha
  · rw [upd_ne q] at ha
    exact e a u ha
theorem Ex.back {H H' : Hp} {p : Addr} (e : Ex H H') (h : H' p = none) : H p = none := by
  cases q : H p with
  | none => rfl
  | some o =>
    have := e p o q
    rw [h] at this
    exact (keeps_none this).elim
theorem Ex.rd {H H' : Hp} {a : Addr} {xs : List V} (e : Ex H H') (h : Rd H a (.lst xs)) : Rd H' a (.lst xs) := by
  rcases h with h | ⟨o, h⟩
  · exact Or.inl (e a _ h)
  · exact Or.inr ⟨o, e a _ h⟩
theorem Ex.sq {K : PySem.W.Frag} {H H' : Hp} {a : Addr} {xs : List V} (e : Ex H H') (h : SqL K H a xs) : SqL K H' a xs := by
  rcases h with h | h
  · exact Or.inl (e.rd h)
  · exact Or.inr h
/-- the heap has grown; the tables stay in order -/
structure Gr (T : Tx) (H H' : Hp) : Prop where
  ex : Ex H H'
  tb : LamX.Tabs T.tabs H → LamX.Tabs T.tabs H'
theorem Gr.rfl {T : Tx} {H : Hp} : Gr T H H := ⟨Ex.refl H, fun h => h⟩
theorem Gr.trans {T : Tx} {H H1 H2 : Hp} (a : Gr T H H1) (b : Gr T H1 H2) : Gr T H H2 := ⟨a.ex.trans b.ex, fun h => b.tb (a.tb h)⟩
theorem Gr.back {T : Tx} {H H' : Hp} {p : Addr} (e : Gr T H H') (h : H' p = none) : H p = none := e.ex.back h
theorem Gr.rd {T : Tx} {H H' : Hp} {a : Addr} {xs : List V} (e : Gr T H H') (h : Rd H a (.lst xs)) : Rd H' a (.lst xs) := e.ex.rd h
theorem Gr.sq {T : Tx} {K : PySem.W.Frag} {H H' : Hp} {a : Addr} {xs : List V} (e : Gr T H H') (h : SqL K H a xs) : SqL K H' a xs := e.ex.sq h
/-- all that stood stands -/
theorem Gr.same {T : Tx} {H H' : Hp} (h : ∀ a o, H a = some o → H' a = some o) : Gr T H H' := ⟨.same h, fun t => t.ext h⟩
theorem Gr.new {T : Tx} {H : Hp} {p : Addr} {o : HO} (h : H p = none) : Gr T H (upd H p o) := .same fun a u e => by
  rw [upd_ne (ne_of_none e h)]
  exact e
/-- a list changes -/
theorem tabs_lst {l : List (Addr × Str)} {H : Hp} {p : Addr} {xs ys : List V} (h : H p = some (.lst xs)) (t : LamX.Tabs l H) : LamX.Tabs l (upd H p (.lst ys)) := fun q hq => by
  obtain ⟨ps, h1, h2, h3⟩ := t q hq
  refine ⟨ps, ?_, h2, fun pos cv hc => ?_⟩
  · rw [upd_ne (ne_of h1 h (fun z => nomatch z))]
    exact h1
  · obtain ⟨c, e1, e2⟩ := h3 pos cv hc
    refine ⟨c, e1, ?_⟩
    rw [upd_ne (ne_of e2 h (fun z => nomatch z))]
    exact e2
/-- free, or a code object -/
def Nw (x : Option HO) : Prop := x = none ∨ ∃ o, x = some o ∧ ∀ xs, o ≠ .lst xs
theorem Nw.back {T : Tx} {H H' : Hp} {a : Addr} (e : Gr T H H') (h : Nw (H' a)) : Nw (H a) := by
  rcases h with h | ⟨o, h, n⟩
  · exact .inl (e.back h)
  · cases q : H a with
    | none => exact .inl rfl
    | some u =>
      refine .inr ⟨u, rfl, fun xs z => ?_⟩
      subst z
      have k : H' a = some (.lst xs) := e.ex a _ q
      rw [h] at k
      cases k
      exact n _ rfl
/-- both heaps have grown, by new things alone -/
structure Up (T : Tx) (F H F' H' : Hp) : Prop where
  f : Ex F F'
  h : Gr T H H'
  s : Ex F' H'
  n : ∀ a o, F a = none → F' a = some o → Nw (H a)
/-- a place where a def may be entered -/
structure En (T : Tx) (F H : Hp) : Prop where
  ex : Ex F H
  tb : LamX.Tabs T.tabs H
section
variable {T : Tx}
theorem Up.refl {F H : Hp} (e : Ex F H) : Up T F H F H := ⟨Ex.refl F, Gr.rfl, e, fun a o h1 h2 => by rw [h1] at h2; cases h2⟩
theorem Up.trans {F H F1 H1 F2 H2 : Hp} (a : Up T F H F1 H1) (b : Up T F1 H1 F2 H2) : Up T F H F2 H2 :=
  ⟨a.f.trans b.f, a.h.trans b.h, b.s, fun x o h1 h2 => by
    cases q : F1 x with
    | none => exact (b.n x o q h2).back a.h
    | some u => exact a.n x u h1 q⟩
/-- the heap alone has grown -/
theorem Up.heap {F H H' : Hp} (e : Ex F H) (h : Gr T H H') : Up T F H F H' := ⟨Ex.refl F, h, e.trans h.ex, fun a o h1 h2 => by rw [h1] at h2; cases h2⟩
/-- a new thing, known -/
theorem Up.new {F H : Hp} {p : Addr} {o : HO} (e : Ex F H) (h : H p = none) : Up T F H (upd F p o) (upd H p o) :=
  ⟨Ex.new (e.back h), Gr.new h, e.both, fun a u h1 h2 => by
    by_cases q : a = p
    · rw [q]; exact .inl h
    · rw [upd_ne q, h1] at h2; cases h2⟩
/-- a new thing, not known -/
theorem Up.newO {F H : Hp} {p : Addr} {o : HO} (e : Ex F H) (h : H p = none) : Up T F H F (upd H p o) := Up.heap e (Gr.new h)
/-- a thing of the heap that was new becomes known -/
theorem Up.know {F0 H0 F H : Hp} {p : Addr} {o : HO} (u : Up T F0 H0 F H) (h : H p = some o) (h0 : H0 p = none) (hf : F p = none) : Up T F0 H0 (upd F p o) H :=
  ⟨u.f.right (u.f.back hf), u.h, u.s.left h, fun a x h1 h2 => by
    by_cases q : a = p
    · rw [q]; exact .inl h0
    · rw [upd_ne q] at h2; exact u.n a x h1 h2⟩
/-- a list that was new changes -/
theorem Up.mut {F0 H0 F H : Hp} {p : Addr} {xs ys : List V} (u : Up T F0 H0 F H) (h0 : H0 p = none) (hf : F p = none) (hp : H p = some (.lst xs)) : Up T F0 H0 F (upd H p (.lst ys)) :=
  ⟨u.f, ⟨u.h.ex.right h0, fun t => tabs_lst hp (u.h.tb t)⟩, u.s.right hf, u.n⟩
/-- what is known of an address that stood and was not known stays unknown -/
theorem Up.hid {F H F' H' : Hp} {p : Addr} {xs : List V} (u : Up T F H F' H') (hf : F p = none) (hp : H p = some (.lst xs)) : F' p = none := by
  cases q : F' p with
  | none => rfl
  | some x =>
    rcases u.n p x hf q with z | ⟨o, z, n⟩
    · rw [hp] at z; cases z
    · rw [hp] at z; cases z; exact (n _ rfl).elim
end

/-! ### what stands for a datum -/
/-- the lambda i at f, its code at c, its cells -/
def LamO (T : Tx) (i : Nat) (f c : Addr) (cl : List (Str × Addr)) : HO := .ext fun h => ∃ pm ctv, h.get? f = some (PySem.W.kla_obj "<lambda>" (T.lq i) (T.lp i) (T.lb i) (T.ls i) cl pm c ctv)
/-- the captured names fr, in the cells cl, hold vs -/
structure CellsR (F : Hp) (cl : List (Str × Addr)) (fr : List Str) (vs : List V) : Prop where
  len : vs.length = fr.length
  has : ∀ (j : Nat) (y : Str) (v : V), fr[j]? = some y → vs[j]? = some v → ∃ c oc u, cl.lookup y = some c ∧ F c = some (.frz oc (.own 0)) ∧ oc.data = .cell (some u) ∧ RelV v u
  all : ∀ y c, cl.lookup y = some c → y ∈ fr
  inj : ∀ x y c, cl.lookup x = some c → cl.lookup y = some c → x = y
theorem CellsR.mono {F F' : Hp} (e : Ex F F') {cl : List (Str × Addr)} {fr : List Str} {vs : List V} (h : CellsR F cl fr vs) : CellsR F' cl fr vs :=
  ⟨h.len, fun j y v a b => let ⟨c, oc, u, h1, h2, h3, h4⟩ := h.has j y v a b; ⟨c, oc, u, h1, e _ _ h2, h3, h4⟩, h.all, h.inj⟩
mutual
inductive Rp (T : Tx) (F : Hp) : V → D → Prop
  | non : Rp T F .non .non
  | bl (b : Bool) : Rp T F (.bl b) (.bl b)
  | int (i : Int) : Rp T F (.int i) (.int i)
  | str (x : Str) : Rp T F (.str x) (.str x)
  | lst {a : Addr} {xs : List V} {ds : List D} : Rd F a (.lst xs) → RpAll T F xs ds → Rp T F (.ref a) (.lst ds)
  | tup {a : Addr} {xs : List V} {ds : List D} : F a = some (.tup xs) → RpAll T F xs ds → Rp T F (.ref a) (.tup ds)
  | dct {a : Addr} : F a = some (.dK []) → Rp T F (.ref a) .dct
  | ins {a dx : Addr} {c : Nat} {fs : List (Str × V)} {ds : List D} : F a = some (.ins (T.cls c) dx fs) → fs.map (·.1) = FL c → RpAll T F (fs.map (·.2)) ds → Rp T F (.ref a) (.ins c ds)
  | fn (i : Nat) : Rp T F (.ref (T.fna i)) (.fn i)
  | scr {a : Addr} {ns : List Int} : SqL T.K F a (ns.map V.int) → Rp T F (.ref a) (.scr ns)
  | lam {f c : Addr} {i : Nat} {cl : List (Str × Addr)} {vs : List V} {ds : List D} : F f = some (LamO T i f c cl) → F c = some (LamX.CodeO c (T.lq i)) → CellsR F cl (T.lf i) vs → RpAll T F vs ds → Rp T F (.ref f) (.lam i ds)
inductive RpAll (T : Tx) (F : Hp) : List V → List D → Prop
  | nil : RpAll T F [] []
  | cons {v : V} {vs : List V} {d : D} {ds : List D} : Rp T F v d → RpAll T F vs ds → RpAll T F (v :: vs) (d :: ds)
end
mutual
theorem Rp.mono {T : Tx} {F F' : Hp} (e : Ex F F') : ∀ {v : V} {d : D}, Rp T F v d → Rp T F' v d
  | _, _, .non => .non
  | _, _, .bl b => .bl b
  | _, _, .int i => .int i
  | _, _, .str x => .str x
  | _, _, .lst h a => .lst (e.rd h) (RpAll.mono e a)
  | _, _, .tup h a => .tup (e _ _ h) (RpAll.mono e a)
  | _, _, .dct h => .dct (e _ _ h)
  | _, _, .ins h n a => .ins (e _ _ h) n (RpAll.mono e a)
  | _, _, .fn i => .fn i
  | _, _, .scr h => .scr (e.sq h)
  | _, _, .lam h k c a => .lam (e _ _ h) (e _ _ k) (c.mono e) (RpAll.mono e a)
theorem RpAll.mono {T : Tx} {F F' : Hp} (e : Ex F F') : ∀ {vs : List V} {ds : List D}, RpAll T F vs ds → RpAll T F' vs ds
  | _, _, .nil => .nil
  | _, _, .cons h t => .cons (Rp.mono e h) (RpAll.mono e t)
end
section
variable {T : Tx} {F F' : Hp}
theorem RpAll.length : ∀ {vs : List V} {ds : List D}, RpAll T F vs ds → vs.length = ds.length
  | _, _, .nil => rfl
  | _, _, .cons _ t => by simp [t.length]
theorem RpAll.get : ∀ {vs : List V} {ds : List D} {i : Nat} {d : D}, RpAll T F vs ds → ds[i]? = some d → ∃ v, vs[i]? = some v ∧ Rp T F v d
  | _, _, _, _, .nil, h => by simp at h
  | _, _, 0, _, .cons h _, e => by simp at e; subst e; exact ⟨_, rfl, h⟩
  | _, _, i + 1, d, .cons _ t, e => by
    obtain ⟨v, h1, h2⟩ := RpAll.get (i := i) (d := d) t (by simpa using e)
    exact ⟨v, by simpa using h1, h2⟩
theorem RpAll.getV : ∀ {vs : List V} {ds : List D} {i : Nat} {v : V}, RpAll T F vs ds → vs[i]? = some v → ∃ d, ds[i]? = some d ∧ Rp T F v d
  | _, _, _, _, .nil, h => by simp at h
  | _, _, 0, _, .cons h _, e => by simp at e; subst e; exact ⟨_, rfl, h⟩
  | _, _, i + 1, d, .cons _ t, e => by
    obtain ⟨v, h1, h2⟩ := RpAll.getV (i := i) t (by simpa using e)
    exact ⟨v, by simpa using h1, h2⟩
theorem RpAll.append : ∀ {vs us : List V} {ds es : List D}, RpAll T F vs ds → RpAll T F us es → RpAll T F (vs ++ us) (ds ++ es)
  | _, _, _, _, .nil, h => h
  | _, _, _, _, .cons r t, h => .cons r (RpAll.append t h)
theorem RpAll.take : ∀ {vs : List V} {ds : List D} (n : Nat), RpAll T F vs ds → RpAll T F (vs.take n) (ds.take n)
  | _, _, 0, _ => .nil
  | _, _, _ + 1, .nil => .nil
  | _, _, n + 1, .cons r t => .cons r (RpAll.take n t)
theorem RpAll.drop : ∀ {vs : List V} {ds : List D} (n : Nat), RpAll T F vs ds → RpAll T F (vs.drop n) (ds.drop n)
  | _, _, 0, h => h
  | _, _, _ + 1, .nil => .nil
  | _, _, n + 1, .cons _ t => RpAll.drop n t
theorem RpAll.reverse {vs : List V} {ds : List D} (h : RpAll T F vs ds) : RpAll T F vs.reverse ds.reverse := by
  induction vs generalizing ds with
  | nil => cases h; exact .nil
  | cons v vs ih =>
    cases h with
    | cons r t =>
      rw [List.reverse_cons, List.reverse_cons]
      exact (ih t).append (.cons r .nil)
theorem RpAll.rep {vs : List V} {ds : List D} (h : RpAll T F vs ds) : ∀ k : Nat, RpAll T F (List.replicate k vs).flatten (List.replicate k ds).flatten
  | 0 => .nil
  | k + 1 => by
    rw [List.replicate_succ, List.replicate_succ, List.flatten_cons, List.flatten_cons]
    exact h.append (RpAll.rep h k)
theorem RpAll.set : ∀ {vs : List V} {ds : List D} {v : V} {d : D} (i : Nat), RpAll T F vs ds → Rp T F v d → RpAll T F (vs.set i v) (ds.set i d)
  | _, _, _, _, _, .nil, _ => .nil
  | _, _, _, _, 0, .cons _ t, r => .cons r t
  | _, _, _, _, i + 1, .cons q t, r => .cons q (RpAll.set i t r)
theorem RpAll.dropLast : ∀ {vs : List V} {ds : List D}, RpAll T F vs ds → RpAll T F vs.dropLast ds.dropLast
  | _, _, .nil => .nil
  | _, _, .cons _ .nil => .nil
  | _, _, .cons r (.cons q t) => .cons r (RpAll.dropLast (.cons q t))
theorem RpAll.ints {vs : List V} : ∀ {ns : List Int}, RpAll T F vs (ns.map D.int) → vs = ns.map V.int := by
  induction vs with
  | nil => intro ns h; cases ns with
    | nil => rfl
    | cons n ns => cases h
  | cons v vs ih => intro ns h; cases ns with
    | nil => cases h
    | cons n ns =>
      cases h with
      | cons r t =>
        cases r
        rw [ih t]
        rfl
theorem rpAll_ints : ∀ ns : List Int, RpAll T F (ns.map V.int) (ns.map D.int)
  | [] => .nil
  | n :: ns => .cons (.int n) (rpAll_ints ns)
theorem RpAll.bls {vs : List V} : ∀ {bs : List Bool}, RpAll T F vs (bs.map D.bl) → vs = bs.map V.bl := by
  induction vs with
  | nil => intro ns h; cases ns with
    | nil => rfl
    | cons n ns => cases h
  | cons v vs ih => intro ns h; cases ns with
    | nil => cases h
    | cons n ns =>
      cases h with
      | cons r t =>
        cases r
        rw [ih t]
        rfl
end

/-! ### the slots -/
/-- what is known of a slot: nothing, a shared datum, a list of the def's own that may change, an own holder (an instance, a list) of such lists -/
inductive Sd where
  | no | sh (d : D) | ow (ds : List D) | ob (k : Option Nat) (fs : List (List D)) | er (c : Nat)
def HoldAt (T : Tx) (F : Hp) : Option Nat → Addr → List Addr → Prop
  | none, a, ps => F a = some (.lst (ps.map V.ref))
  | some c, a, ps => ∃ dx, F a = some (.ins (T.cls c) dx ((FL c).zip (ps.map V.ref))) ∧ ps.length = (FL c).length
/-- the own lists of a slot -/
def OA (T : Tx) (F : Hp) (v : V) : Sd → Addr → Prop
  | .ow _, p => v = .ref p
  | .ob k _, p => ∃ a ps, v = .ref a ∧ HoldAt T F k a ps ∧ p ∈ ps
  | _, _ => False
def Lists (T : Tx) (F H : Hp) (ps : List Addr) (fs : List (List D)) : Prop := ps.length = fs.length ∧ ∀ (j : Nat) (p : Addr) (ds : List D), ps[j]? = some p → fs[j]? = some ds → ∃ xs, H p = some (.lst xs) ∧ F p = none ∧ RpAll T F xs ds
def SlotOk (T : Tx) (F H : Hp) (v : V) : Sd → Prop
  | .no => True
  | .sh d => Rp T F v d
  | .ow ds => ∃ p xs, v = .ref p ∧ H p = some (.lst xs) ∧ F p = none ∧ RpAll T F xs ds
  | .ob k fs => ∃ a ps, v = .ref a ∧ HoldAt T F k a ps ∧ ps.Nodup ∧ Lists T F H ps fs
  | .er c => T.er v c
/-- a holder of lists as a datum -/
def obD (k : Option Nat) (fs : List (List D)) : D := match k with
  | none => .lst (fs.map D.lst)
  | some c => .ins c (fs.map D.lst)
section
variable {T : Tx} {F H F' H' : Hp} {s : L2.St} {z : List Sd}
theorem HoldAt.mono {k : Option Nat} {a : Addr} {ps : List Addr} (e : Ex F F') (h : HoldAt T F k a ps) : HoldAt T F' k a ps := by
  cases k with
  | none => exact e _ _ h
  | some c => obtain ⟨dx, h1, h2⟩ := h; exact ⟨dx, e _ _ h1, h2⟩
theorem refs_inj : ∀ {ps qs : List Addr}, ps.map V.ref = qs.map V.ref → ps = qs
  | [], [], _ => rfl
  | [], _ :: _, h => by cases h
  | _ :: _, [], h => by cases h
  | p :: ps, q :: qs, h => by
    rw [List.map_cons, List.map_cons, List.cons.injEq] at h
    obtain ⟨h1, h2⟩ := h
    cases h1
    rw [refs_inj h2]
theorem zip_snd {l : List Str} : ∀ {vs : List V}, vs.length = l.length → (l.zip vs).map (·.2) = vs := by
  induction l with
  | nil => intro vs h; cases vs with
    | nil => rfl
    | cons v vs => cases h
  | cons x l ih => intro vs h; cases vs with
    | nil => cases h
    | cons v vs => rw [List.zip_cons_cons, List.map_cons, ih (by simpa using h)]
theorem zip_fst {l : List Str} : ∀ {vs : List V}, vs.length = l.length → (l.zip vs).map (·.1) = l := by
  induction l with
  | nil => intro vs h; cases vs with
    | nil => rfl
    | cons v vs => cases h
  | cons x l ih => intro vs h; cases vs with
    | nil => cases h
    | cons v vs => rw [List.zip_cons_cons, List.map_cons, ih (by simpa using h)]
theorem HoldAt.uniq {k : Option Nat} {a : Addr} {ps qs : List Addr} (h : HoldAt T F k a ps) (h' : HoldAt T F k a qs) : ps = qs := by
  cases k with
  | none =>
    have g : F a = some (.lst (ps.map V.ref)) := h
    have g' : F a = some (.lst (qs.map V.ref)) := h'
    rw [g] at g'
    injection g' with g'
    injection g' with g'
    exact refs_inj g'
  | some c =>
    obtain ⟨dx, h1, h2⟩ := h
    obtain ⟨dx', h3, h4⟩ := h'
    rw [h1] at h3
    injection h3 with h3
    injection h3 with _ _ h3
    have e1 := zip_snd (l := FL c) (vs := ps.map V.ref) (by rw [List.length_map]; exact h2)
    have e2 := zip_snd (l := FL c) (vs := qs.map V.ref) (by rw [List.length_map]; exact h4)
    rw [h3, e2] at e1
    exact (refs_inj e1).symm
theorem lists_rp {ps : List Addr} : ∀ {fs : List (List D)}, ps.length = fs.length → (∀ (j : Nat) (p : Addr) (ds : List D), ps[j]? = some p → fs[j]? = some ds → ∃ xs, F p = some (.lst xs) ∧ RpAll T F xs ds) → RpAll T F (ps.map V.ref) (fs.map D.lst) := by
  induction ps with
  | nil => intro fs h _; cases fs with
    | nil => exact .nil
    | cons f fs => cases h
  | cons p ps ih => intro fs h k; cases fs with
    | nil => cases h
    | cons f fs =>
      obtain ⟨xs, h1, h2⟩ := k 0 p f rfl rfl
      exact .cons (.lst (.inl h1) h2) (ih (by simpa using h) fun j p ds e1 e2 => k (j + 1) p ds e1 e2)
theorem hold_rp {k : Option Nat} {a : Addr} {ps : List Addr} {fs : List (List D)} (h : HoldAt T F k a ps) (hl : ps.length = fs.length) (hx : ∀ (j : Nat) (p : Addr) (ds : List D), ps[j]? = some p → fs[j]? = some ds → ∃ xs, F p = some (.lst xs) ∧ RpAll T F xs ds) :
    Rp T F (.ref a) (obD k fs) := by
  cases k with
  | none => exact .lst (.inl h) (lists_rp hl hx)
  | some c =>
    obtain ⟨dx, h1, h2⟩ := h
    have hv : (ps.map V.ref).length = (FL c).length := by rw [List.length_map]; exact h2
    exact .ins h1 (zip_fst hv) (by rw [zip_snd hv]; exact lists_rp hl hx)
theorem OA.mono {v : V} {x : Sd} {p : Addr} (e : Ex F F') (h : OA T F v x p) : OA T F' v x p := by
  cases x with
  | no => exact h
  | sh d => exact h
  | ow ds => exact h
  | er c => exact h
  | ob k fs => obtain ⟨a, ps, h1, h2, h3⟩ := h; exact ⟨a, ps, h1, h2.mono e, h3⟩
theorem SlotOk.oa {v : V} {x : Sd} {p : Addr} (h : SlotOk T F H v x) (o : OA T F v x p) : (∃ xs, H p = some (.lst xs)) ∧ F p = none := by
  cases x with
  | no => exact o.elim
  | sh d => exact o.elim
  | er c => exact o.elim
  | ow ds =>
    obtain ⟨q, xs, h1, h2, h3, h4⟩ := h
    have o' : v = .ref p := o
    rw [h1] at o'
    cases o'
    exact ⟨⟨xs, h2⟩, h3⟩
  | ob k fs =>
    obtain ⟨a, ps, h1, h2, h3, h4, h5⟩ := h
    obtain ⟨a', qs, e1, e2, e3⟩ := o
    rw [h1] at e1
    cases e1
    cases h2.uniq e2
    obtain ⟨j, hj⟩ := List.getElem?_of_mem e3
    have hl : j < fs.length := by rw [← h4]; exact (List.getElem?_eq_some_iff.mp hj).1
    obtain ⟨xs, g1, g2, _⟩ := h5 j p _ hj (List.getElem?_eq_getElem hl)
    exact ⟨⟨xs, g1⟩, g2⟩
theorem SlotOk.down {v : V} {x : Sd} {p : Addr} (h : SlotOk T F H v x) (e : Ex F F') (o : OA T F' v x p) : OA T F v x p := by
  cases x with
  | no => exact o
  | sh d => exact o
  | ow ds => exact o
  | er c => exact o
  | ob k fs =>
    obtain ⟨a, ps, h1, h2, h3, h4, h5⟩ := h
    obtain ⟨a', qs, e1, e2, e3⟩ := o
    rw [h1] at e1
    cases e1
    cases (h2.mono e).uniq e2
    exact ⟨a, ps, h1, h2, e3⟩
/-- nothing of the slot's own is touched -/
theorem SlotOk.keep {v : V} {x : Sd} (h : SlotOk T F H v x) (e : Ex F F') (k : ∀ p xs, OA T F v x p → H p = some (.lst xs) → F p = none → H' p = some (.lst xs) ∧ F' p = none) : SlotOk T F' H' v x := by
  cases x with
  | no => exact h
  | sh d => exact Rp.mono e h
  | er c => exact h
  | ow ds =>
    obtain ⟨q, xs, h1, h2, h3, h4⟩ := h
    obtain ⟨g1, g2⟩ := k q xs h1 h2 h3
    exact ⟨q, xs, h1, g1, g2, h4.mono e⟩
  | ob kk fs =>
    obtain ⟨a, ps, h1, h2, h3, h4, h5⟩ := h
    refine ⟨a, ps, h1, h2.mono e, h3, h4, fun j p ds e1 e2 => ?_⟩
    obtain ⟨xs, g1, g2, g3⟩ := h5 j p ds e1 e2
    obtain ⟨g4, g5⟩ := k p xs ⟨a, ps, h1, h2, List.mem_of_getElem? e1⟩ g1 g2
    exact ⟨xs, g4, g5, g3.mono e⟩
theorem SlotOk.up {v : V} {x : Sd} (h : SlotOk T F H v x) (u : Up T F H F' H') : SlotOk T F' H' v x := h.keep u.f fun p xs _ h1 h2 => ⟨u.h.ex _ _ h1, u.hid h2 h1⟩
end
structure R (T : Tx) (F H : Hp) (s : L2.St) (z : List Sd) : Prop where
  ex : Ex F H
  sl : ∀ (i : Nat) (x : Sd), z[i]? = some x → x ≠ .no → ∃ v, s[i]? = some (some v) ∧ SlotOk T F H v x
  ap : ∀ (i j : Nat) (x y : Sd) (v w : V) (p : Addr), z[i]? = some x → z[j]? = some y → s[i]? = some (some v) → s[j]? = some (some w) → OA T F v x p → OA T F w y p → i = j
  len : z.length = s.length
  tb : LamX.Tabs T.tabs H
theorem set_at {z : List Sd} {i j : Nat} {x y : Sd} (q : (z.set i x)[j]? = some y) : (i = j ∧ y = x ∧ i < z.length) ∨ (i ≠ j ∧ z[j]? = some y) := by
  by_cases hj : i = j
  · subst hj
    have hl : i < z.length := by
      have := (List.getElem?_eq_some_iff.mp q).1
      rwa [List.length_set] at this
    rw [List.getElem?_set_self hl] at q
    cases q
    exact .inl ⟨rfl, rfl, hl⟩
  · rw [List.getElem?_set_ne hj] at q
    exact .inr ⟨hj, q⟩
section
variable {T : Tx} {F H F' H' : Hp} {s : L2.St} {z : List Sd}
theorem R.en (r : R T F H s z) : En T F H := ⟨r.ex, r.tb⟩
theorem R.sh (r : R T F H s z) (i : Nat) (d : D) (h : z[i]? = some (.sh d)) : ∃ v, s[i]? = some (some v) ∧ Rp T F v d := r.sl i _ h (by intro e; cases e)
theorem R.ow (r : R T F H s z) (i : Nat) (ds : List D) (h : z[i]? = some (.ow ds)) : ∃ p xs, s[i]? = some (some (.ref p)) ∧ H p = some (.lst xs) ∧ F p = none ∧ RpAll T F xs ds := by
  obtain ⟨v, h1, p, xs, rfl, h3⟩ := r.sl i _ h (by intro e; cases e)
  exact ⟨p, xs, h1, h3⟩
theorem R.ob (r : R T F H s z) (i : Nat) (k : Option Nat) (fs : List (List D)) (h : z[i]? = some (.ob k fs)) : ∃ a ps, s[i]? = some (some (.ref a)) ∧ HoldAt T F k a ps ∧ ps.Nodup ∧ Lists T F H ps fs := by
  obtain ⟨v, h1, p, xs, rfl, h3⟩ := r.sl i _ h (by intro e; cases e)
  exact ⟨p, xs, h1, h3⟩
theorem R.ok (r : R T F H s z) {i : Nat} {x : Sd} {v : V} (h : z[i]? = some x) (hs : s[i]? = some (some v)) : SlotOk T F H v x := by
  by_cases hx : x = .no
  · subst hx; exact True.intro
  · obtain ⟨w, h1, h2⟩ := r.sl i x h hx
    rw [hs] at h1
    cases h1
    exact h2
theorem R.up (r : R T F H s z) (u : Up T F H F' H') : R T F' H' s z :=
  ⟨u.s, fun i x h hn => let ⟨v, a, b⟩ := r.sl i x h hn; ⟨v, a, b.up u⟩, fun i j x y v w p h1 h2 h3 h4 o1 o2 => r.ap i j x y v w p h1 h2 h3 h4 ((r.ok h1 h3).down u.f o1) ((r.ok h2 h4).down u.f o2), r.len, u.h.tb r.tb⟩
/-- all own lists seen as data -/
def frzS : Sd → Sd
  | .ow ds => .sh (.lst ds)
  | .ob k fs => .sh (obD k fs)
  | x => x
def frz (z : List Sd) : List Sd := z.map frzS
theorem frzS_oa {v : V} {x : Sd} {p : Addr} (h : OA T F v (frzS x) p) : False := by cases x <;> exact h
theorem frz_at {i : Nat} {y : Sd} (h : (frz z)[i]? = some y) : ∃ x, z[i]? = some x ∧ y = frzS x := by
  unfold CL.frz at h
  rw [List.getElem?_map] at h
  cases q : z[i]? with
  | none => rw [q] at h; cases h
  | some x => rw [q] at h; exact ⟨x, rfl, (Option.some.inj h).symm⟩
/-- .. where the own lists are known -/
theorem SlotOk.frz {v : V} {x : Sd} (h : SlotOk T F H v x) (e : Ex F F') (k : ∀ p xs, OA T F v x p → H p = some (.lst xs) → F' p = some (.lst xs)) : SlotOk T F' H' v (frzS x) := by
  cases x with
  | no => exact h
  | sh d => exact Rp.mono e h
  | er c => exact h
  | ow ds =>
    obtain ⟨q, xs, rfl, h2, h3, h4⟩ := h
    exact .lst (.inl (k q xs rfl h2)) (h4.mono e)
  | ob kk fs =>
    obtain ⟨a, ps, rfl, h2, h3, h4, h5⟩ := h
    refine hold_rp (h2.mono e) h4 fun j p ds e1 e2 => ?_
    obtain ⟨xs, g1, g2, g3⟩ := h5 j p ds e1 e2
    exact ⟨xs, k p xs ⟨a, ps, rfl, h2, List.mem_of_getElem? e1⟩ g1, g3.mono e⟩
theorem R.frzG (r : R T F H s z) (e1 : Ex F F') (e2 : Ex F' H) (k : ∀ (i : Nat) (x : Sd) (v : V) (p : Addr) (xs : List V), z[i]? = some x → s[i]? = some (some v) → OA T F v x p → H p = some (.lst xs) → F' p = some (.lst xs)) : R T F' H s (frz z) := by
  refine ⟨e2, fun i y h hn => ?_, fun i j x y v w p h1 h2 h3 h4 o1 o2 => ?_, by unfold CL.frz; rw [List.length_map]; exact r.len, r.tb⟩
  · obtain ⟨x, hx, rfl⟩ := frz_at h
    have hx0 : x ≠ .no := by rintro rfl; exact hn rfl
    obtain ⟨v, h1, h2⟩ := r.sl i x hx hx0
    exact ⟨v, h1, h2.frz e1 fun p xs o g => k i x v p xs hx h1 o g⟩
  · obtain ⟨x', hx, rfl⟩ := frz_at h1
    exact (frzS_oa o1).elim
theorem R.frz (r : R T F H s z) : R T H H s (frz z) := r.frzG r.ex (Ex.refl H) fun _ _ _ _ _ _ _ _ h => h
theorem get_set_self {s : L2.St} {z : List Sd} (hl : z.length = s.length) {i : Nat} {v : Option V} (h : i < z.length) : (s.set i v)[i]? = some v := List.getElem?_set_self (by rw [← hl]; exact h)
/-- a slot is stored -/
theorem R.setG {i : Nat} {v : V} {x : Sd} (r : R T F H s z) (h : SlotOk T F H v x) (ap : ∀ (j : Nat) (y : Sd) (w : V) (p : Addr), j ≠ i → z[j]? = some y → s[j]? = some (some w) → OA T F v x p → OA T F w y p → False) : R T F H (s.set i (some v)) (z.set i x) := by
  refine ⟨r.ex, fun j y q hn => ?_, fun j k y1 y2 v1 v2 p q1 q2 q3 q4 o1 o2 => ?_, by rw [List.length_set, List.length_set]; exact r.len, r.tb⟩
  · rcases set_at q with ⟨rfl, rfl, hl⟩ | ⟨n, q⟩
    · exact ⟨v, get_set_self r.len hl, h⟩
    · rw [List.getElem?_set_ne n]
      exact r.sl j y q hn
  · rcases set_at q1 with ⟨rfl, rfl, hl⟩ | ⟨n1, g1⟩
    · rcases set_at q2 with ⟨rfl, _, _⟩ | ⟨n2, q2⟩
      · rfl
      · rw [get_set_self r.len hl] at q3
        cases q3
        rw [List.getElem?_set_ne n2] at q4
        exact (ap k y2 v2 p (Ne.symm n2) q2 q4 o1 o2).elim
    · rcases set_at q2 with ⟨e2, e3, hl⟩ | ⟨n2, q2⟩
      · subst e2
        subst e3
        rw [get_set_self r.len hl] at q4
        cases q4
        rw [List.getElem?_set_ne n1] at q3
        exact (ap j y1 v1 p (Ne.symm n1) g1 q3 o2 o1).elim
      · rw [List.getElem?_set_ne n1] at q3
        rw [List.getElem?_set_ne n2] at q4
        exact r.ap j k y1 y2 v1 v2 p g1 q2 q3 q4 o1 o2
/-- .. a datum -/
theorem R.set {i : Nat} {v : V} {d : D} (r : R T F H s z) (h : Rp T F v d) : R T F H (s.set i (some v)) (z.set i (.sh d)) := r.setG (x := .sh d) h fun _ _ _ _ _ _ _ o => o.elim
/-- .. a list of the def's own -/
theorem R.setO {i : Nat} {p : Addr} {xs : List V} {ds : List D} (r : R T F H s z) (hp : H p = some (.lst xs)) (hf : F p = none) (h : RpAll T F xs ds)
    (ap : ∀ (j : Nat) (y : Sd) (w : V), j ≠ i → z[j]? = some y → s[j]? = some (some w) → OA T F w y p → False) : R T F H (s.set i (some (.ref p))) (z.set i (.ow ds)) :=
  r.setG (x := .ow ds) ⟨p, xs, rfl, hp, hf, h⟩ fun j y w q n h1 h2 o1 o2 => by
    have o1' : V.ref p = .ref q := o1
    cases o1'
    exact ap j y w n h1 h2 o2
/-- an own list changes -/
theorem R.chgG {i : Nat} {p : Addr} {v : V} {x x' : Sd} {ys : List V} (r : R T F H s z) (hz : z[i]? = some x) (hs : s[i]? = some (some v)) (o : OA T F v x p) (h : SlotOk T F (upd H p (.lst ys)) v x') (ho : ∀ q, OA T F v x' q → OA T F v x q) :
    R T F (upd H p (.lst ys)) s (z.set i x') := by
  have hl : i < z.length := (List.getElem?_eq_some_iff.mp hz).1
  obtain ⟨⟨xs, hp⟩, hf⟩ := (r.ok hz hs).oa o
  have un : ∀ {j : Nat} {y : Sd} {w : V} {q : Addr}, (z.set i x')[j]? = some y → s[j]? = some (some w) → OA T F w y q → ∃ y', z[j]? = some y' ∧ OA T F w y' q := fun {j y w q} g1 g2 o1 => by
    rcases set_at g1 with ⟨rfl, rfl, _⟩ | ⟨n, g1⟩
    · rw [hs] at g2
      cases g2
      exact ⟨x, hz, ho q o1⟩
    · exact ⟨y, g1, o1⟩
  refine ⟨r.ex.right hf, fun j y q hn => ?_, fun j k y1 y2 v1 v2 a q1 q2 q3 q4 o1 o2 => ?_, by rw [List.length_set]; exact r.len, tabs_lst hp r.tb⟩
  · rcases set_at q with ⟨rfl, rfl, _⟩ | ⟨n, q⟩
    · exact ⟨v, hs, h⟩
    · obtain ⟨w, h1, h2⟩ := r.sl j y q hn
      refine ⟨w, h1, h2.keep (Ex.refl F) fun a xs o' g1 g2 => ⟨?_, g2⟩⟩
      rw [upd_ne]
      · exact g1
      · rintro rfl
        exact n (r.ap i j x y v w a hz q hs h1 o o')
  · obtain ⟨z1, g1, p1⟩ := un q1 q3 o1
    obtain ⟨z2, g2, p2⟩ := un q2 q4 o2
    exact r.ap j k z1 z2 v1 v2 a g1 g2 q3 q4 p1 p2
theorem R.chg {i : Nat} {p : Addr} {xs ys : List V} {ds es : List D} (r : R T F H s z) (hz : z[i]? = some (.ow ds)) (hs : s[i]? = some (some (.ref p))) (h : RpAll T F ys es) :
    R T F (upd H p (.lst ys)) s (z.set i (.ow es)) := by
  obtain ⟨_, hf⟩ := (r.ok hz hs).oa (p := p) (show V.ref p = .ref p from rfl)
  exact r.chgG (p := p) hz hs (show V.ref p = .ref p from rfl) ⟨p, ys, rfl, upd_same, hf, h⟩ fun q o => o
/-- an own list of a holder -/
theorem R.chgOb {i j : Nat} {a p : Addr} {k : Option Nat} {fs : List (List D)} {ps : List Addr} {ys : List V} {es : List D} (r : R T F H s z) (hz : z[i]? = some (.ob k fs)) (hs : s[i]? = some (some (.ref a))) (hh : HoldAt T F k a ps) (hj : ps[j]? = some p) (h : RpAll T F ys es) :
    R T F (upd H p (.lst ys)) s (z.set i (.ob k (fs.set j es))) := by
  obtain ⟨a', ps', e1, e2, e3, e4, e5⟩ := r.ob i k fs hz
  rw [hs] at e1
  cases e1
  cases hh.uniq e2
  have ho : OA T F (.ref a) (.ob k fs) p := ⟨a, ps, rfl, hh, List.mem_of_getElem? hj⟩
  obtain ⟨_, hf⟩ := (r.ok hz hs).oa ho
  refine r.chgG (p := p) hz hs ho ⟨a, ps, rfl, hh, e3, by rw [List.length_set]; exact e4, fun m q ds g1 g2 => ?_⟩ fun q o => o
  by_cases hm : j = m
  · subst hm
    rw [hj] at g1
    cases g1
    have hl : j < fs.length := by
      have := (List.getElem?_eq_some_iff.mp g2).1
      rwa [List.length_set] at this
    rw [List.getElem?_set_self hl] at g2
    cases g2
    exact ⟨ys, upd_same, hf, h⟩
  · rw [List.getElem?_set_ne hm] at g2
    obtain ⟨xs, c1, c2, c3⟩ := e5 m q ds g1 g2
    refine ⟨xs, ?_, c2, c3⟩
    rw [upd_ne]
    · exact c1
    · rintro rfl
      exact hm ((List.getElem?_inj (List.getElem?_eq_some_iff.mp hj).1 e3).mp (hj.trans g1.symm))
/-- an own list becomes a shared datum -/
theorem R.know {i : Nat} {p : Addr} {xs : List V} {ds : List D} (r : R T F H s z) (hz : z[i]? = some (.ow ds)) (hs : s[i]? = some (some (.ref p))) (hp : H p = some (.lst xs)) (hx : RpAll T F xs ds) :
    R T (upd F p (.lst xs)) H s (z.set i (.sh (.lst ds))) := by
  obtain ⟨_, hf⟩ := (r.ok hz hs).oa (p := p) (show V.ref p = .ref p from rfl)
  have eF : Ex F (upd F p (.lst xs)) := Ex.new hf
  refine ⟨r.ex.left hp, fun j y q hn => ?_, fun j k y1 y2 v1 v2 a q1 q2 q3 q4 o1 o2 => ?_, by rw [List.length_set]; exact r.len, r.tb⟩
  · rcases set_at q with ⟨rfl, rfl, _⟩ | ⟨n, q⟩
    · exact ⟨_, hs, .lst (.inl upd_same) (hx.mono eF)⟩
    · obtain ⟨w, h1, h2⟩ := r.sl j y q hn
      refine ⟨w, h1, h2.keep eF fun a ys o' g1 g2 => ⟨g1, ?_⟩⟩
      rw [upd_ne]
      · exact g2
      · rintro rfl
        exact n (r.ap i j _ y _ w a hz q hs h1 (show V.ref a = .ref a from rfl) o')
  · rcases set_at q1 with ⟨rfl, rfl, _⟩ | ⟨n1, q1⟩
    · exact o1.elim
    · rcases set_at q2 with ⟨rfl, rfl, _⟩ | ⟨n2, q2⟩
      · exact o2.elim
      · exact r.ap j k y1 y2 v1 v2 a q1 q2 q3 q4 ((r.ok q1 q3).down eF o1) ((r.ok q2 q4).down eF o2)
end
end CL


set_option Elab.async false
set_option linter.all false
set_option maxRecDepth 100000
/-! The data layer, part b: results and wishes, judgements, expressions. -/
namespace CL
open PySem PySem.Spec L2

/-! ### what stands for a result -/
structure Rl (β α : Type) where
  r : Hp → Hp → Hp → β → α → Prop
  mono : ∀ {H H1 F2 H2 : Hp} {v : β} {x : α}, Ex H H1 → r H1 F2 H2 v x → r H F2 H2 v x
def Post {β α : Type} (T : Tx) (E : XK) (L : Rl β α) (F H : Hp) (Q : β → Hp → Prop) : Rs α → Prop
  | .ok d => ∀ v F' H', Up T F H F' H' → L.r H F' H' v d → Q v H'
  | .exc c => ∀ H', Gr T H H' → E (.ref (T.exc c)) none H'
  | .stuck => False
section
variable {T : Tx} {E : XK} {F H F1 H1 : Hp}
theorem Post.up {β α : Type} {L : Rl β α} {Q : β → Hp → Prop} {x : Rs α} (h : Post T E L F H Q x) (u : Up T F H F1 H1) : Post T E L F1 H1 Q x := by
  cases x with
  | ok d => exact fun v F' H' u' r => h v F' H' (u.trans u') (L.mono u.h.ex r)
  | exc c => exact fun H' e => h H' (u.h.trans e)
  | stuck => exact h
theorem Post.bnd {β α β2 α2 : Type} {L : Rl β α} {L2 : Rl β2 α2} {Q : β → Hp → Prop} {Q2 : β2 → Hp → Prop} {a : Rs α} {k : α → Rs α2} (h : Post T E L2 F H Q2 (a.bnd k))
    (step : ∀ x v F1 H1, Up T F H F1 H1 → L.r H F1 H1 v x → Post T E L2 F1 H1 Q2 (k x) → Q v H1) : Post T E L F H Q a := by
  cases a with
  | ok d => exact fun v F' H' u r => step d v F' H' u r (Post.up (L := L2) h u)
  | exc c => exact h
  | stuck => exact h
theorem Post.mapQ {β α : Type} {L : Rl β α} {Q Q' : β → Hp → Prop} {x : Rs α} (h : Post T E L F H Q x) (k : ∀ v H', Q v H' → Q' v H') : Post T E L F H Q' x := by
  cases x with
  | ok d => exact fun v F' H' u r => k _ _ (h v F' H' u r)
  | exc c => exact h
  | stuck => exact h
theorem Post.ofO {β α : Type} {L : Rl β α} {Q : β → Hp → Prop} {x : Option α} (h : Post T E L F H Q (ofO x)) : ∃ d, x = some d ∧ ∀ v F' H', Up T F H F' H' → L.r H F' H' v d → Q v H' := by
  cases x with
  | none => exact h.elim
  | some d => exact ⟨d, rfl, h⟩
end
def lV (T : Tx) : Rl V D := ⟨fun _ F _ v d => Rp T F v d, fun _ h => h⟩
def lA (T : Tx) : Rl (List V) (List D) := ⟨fun _ F _ v d => RpAll T F v d, fun _ h => h⟩
def lB : Rl Bool Bool := ⟨fun _ _ _ v d => v = d, fun _ h => h⟩
def lO : Rl (Option Int) (Option Int) := ⟨fun _ _ _ v d => v = d, fun _ h => h⟩
/-- a new list of one's own -/
def lL (T : Tx) : Rl V (List D) := ⟨fun H F H' v ds => ∃ p xs, v = .ref p ∧ H p = none ∧ F p = none ∧ H' p = some (.lst xs) ∧ RpAll T F xs ds,
  fun e ⟨p, xs, a, b, c, d⟩ => ⟨p, xs, a, e.back b, c, d⟩⟩
/-- a list that is read now -/
def lI (T : Tx) : Rl V (List D) := ⟨fun _ F H' v ds => ∃ a xs, v = .ref a ∧ Rd H' a (.lst xs) ∧ RpAll T F xs ds, fun _ h => h⟩

def tG {β α : Type} (T : Tx) (E : XK) (L : Rl β α) (m : List Sd → Rs α) : L2.St → Hp → (β → Hp → Prop) → Prop := fun s H Q => ∃ F z, R T F H s z ∧ Post T E L F H Q (m z)
abbrev M := List Sd → Rs D
abbrev ML := List Sd → Rs (List D)
abbrev MB := List Sd → Rs Bool
def DE (T : Tx) (X : Cx) (E : XK) (e : Expr) (m : M) : Prop := PE X e (tG T E (lV T) m)
def DT (T : Tx) (X : Cx) (E : XK) (e : Expr) (m : MB) : Prop := PT X e (tG T E lB m)
def DW (T : Tx) (X : Cx) (E : XK) (e : Expr) (m : MB) : Prop := PW X e (tG T E lB m)
def DA (T : Tx) (X : Cx) (E : XK) (es : List Expr) (m : ML) : Prop := PA X es (tG T E (lA T) m)
def DL (T : Tx) (X : Cx) (E : XK) (e : Expr) (m : ML) : Prop := PE X e (tG T E (lL T) m)
def DI (T : Tx) (X : Cx) (E : XK) (e : Expr) (m : ML) : Prop := PE X e (tG T E (lI T) m)
def DO (T : Tx) (X : Cx) (E : XK) (e : Option Expr) (m : List Sd → Rs (Option Int)) : Prop := PO X e (tG T E lO m)

section
variable {X : Cx}
theorem pe_imp {e : Expr} {t t' : TE} (h : PE X e t) (i : ∀ s H Q, t' s H Q → t s H Q) : PE X e t' := ⟨fun pins s σ H Q I q => h.run pins s σ H Q I (i _ _ _ q)⟩
theorem pt_imp {e : Expr} {t t' : TT} (h : PT X e t) (i : ∀ s H Q, t' s H Q → t s H Q) : PT X e t' := ⟨fun pins s σ H Q I q => h.run pins s σ H Q I (i _ _ _ q)⟩
theorem pw_imp {e : Expr} {t t' : TT} (h : PW X e t) (i : ∀ s H Q, t' s H Q → t s H Q) : PW X e t' := ⟨fun wh pins s σ H Q I q => h.run wh pins s σ H Q I (i _ _ _ q)⟩
theorem pa_imp {e : List Expr} {t t' : TA} (h : PA X e t) (i : ∀ s H Q, t' s H Q → t s H Q) : PA X e t' := ⟨fun pos pins s σ H Q I q => h.run pos pins s σ H Q I (i _ _ _ q)⟩
theorem po_imp {e : Option Expr} {t t' : TO} (h : PO X e t) (i : ∀ s H Q, t' s H Q → t s H Q) : PO X e t' := ⟨fun pins s σ H Q I q => h.run pins s σ H Q I (i _ _ _ q)⟩
theorem ps_imp {e : Stmt} {t t' : TS} (h : PS X e t) (i : ∀ D s H, t' D s H → t D s H) : PS X e t' := ⟨fun pins s σ H D I q => h.run pins s σ H D I (i _ _ _ q)⟩
theorem pss_imp {e : List Stmt} {t t' : TS} (h : PSs X e t) (i : ∀ D s H, t' D s H → t D s H) : PSs X e t' := ⟨fun pins s σ H D I q => h.run pins s σ H D I (i _ _ _ q)⟩
theorem pe_alt {e : Expr} {t t' : TE} (h : PE X e t) (h' : PE X e t') : PE X e (fun s H Q => t s H Q ∨ t' s H Q) := ⟨fun pins s σ H Q I q => q.elim (h.run pins s σ H Q I) (h'.run pins s σ H Q I)⟩
end

section
variable {T : Tx} {X : Cx} {E : XK} {a b c e : Expr} {es : List Expr} {pos : Pos} {ma mb mc m : M} {mes mi ml : ML}

/-! ### names, constants -/
def mVar (i : Nat) : M := fun z => match z[i]? with
  | some (.sh d) => .ok d
  | _ => .stuck
theorem de_var (i : Nat) {x : Str} {pos : Pos} (hN : X.N[i]? = some x := by rfl) (hv : Vis X.env.scope x := by first | exact Or.inl rfl | exact Or.inr (Or.inl rfl) | exact Or.inr (Or.inr rfl)) (hd : (x == ("__debug__" : Str)) = false := by decide)
    (hcd : (x == ("__classdict__" : Str)) = false := by decide) : DE T X E (.Name x pos) (mVar i) := pe_imp (pe_var hN hv hd hcd) fun s H Q ⟨F, z, r, h⟩ => by
  unfold mVar at h
  split at h
  · rename_i d e
    obtain ⟨v, h1, h2⟩ := r.sh i d e
    exact ⟨v, h1, h v F H (Up.refl r.ex) h2⟩
  · exact h.elim
def mC (d : D) : M := fun _ => .ok d
theorem de_const {v : V} {d : D} (h : PE X e (tC v)) (r : ∀ F, Rp T F v d) : DE T X E e (mC d) := pe_imp h fun s H Q ⟨F, z, q, h⟩ => h v F H (Up.refl q.ex) (r F)
theorem de_int {i j pos} : DE T X E (.Constant (.int i) j pos) (mC (.int i)) := de_const pe_int fun _ => .int i
theorem de_bl {b j pos} : DE T X E (.Constant (.bool b) j pos) (mC (.bl b)) := de_const pe_bl fun _ => .bl b
theorem de_non {j pos} : DE T X E (.Constant .none j pos) (mC .non) := de_const pe_non fun _ => .non
theorem de_str {x j pos} : DE T X E (.Constant (.str x) j pos) (mC (.str x)) := de_const pe_str fun _ => .str x
/-- a def of the module as a value -/
theorem de_fn (i : Nat) {x : Str} {pos : Pos} (hg : Gl X x) (hm : X.mg x = some (.ref (T.fna i))) (hd : (x == ("__debug__" : Str)) = false := by decide) : DE T X E (.Name x pos) (mC (.fn i)) :=
  de_const (pe_glob (v := .ref (T.fna i)) hg hm rfl hd) fun _ => .fn i

/-! ### operators -/
def OpD (T : Tx) (r : R2) (f : D → D → Option D) : Prop := ∀ (F H : Hp) (v w : V) (x y d : D) (Q : VK), Ex F H → Rp T F v x → Rp T F w y → f x y = some d → (∀ u F' H', Up T F H F' H' → Rp T F' u d → Q u H') → r v w H Q
def mBin (f : D → D → Option D) (ma mb : M) : M := fun z => (ma z).bnd fun x => (mb z).bnd fun y => ofO (f x y)
theorem op_read {r : R2} {f : D → D → Option D} (hd : OpD T r f) : ∀ s H Q, tG T E (lV T) (mBin f ma mb) s H Q → tOp r (tG T E (lV T) ma) (tG T E (lV T) mb) s H Q := fun s H Q ⟨F, z, q, h⟩ =>
  ⟨F, z, q, Post.bnd (L := lV T) h fun x v F1 H1 u1 rx h1 => ⟨F1, z, q.up u1, Post.bnd (L := lV T) h1 fun y w F2 H2 u2 ry h2 => by
    obtain ⟨d, e, k⟩ := Post.ofO h2
    exact hd F2 H2 v w x y d Q u2.s (Rp.mono u2.f rx) ry e k⟩⟩
theorem de_op {op : Operator} {r : R2} {f : D → D → Option D} (ho : OpR X (binaryOp op) r) (hd : OpD T r f) (ha : DE T X E a ma) (hb : DE T X E b mb) : DE T X E (.BinOp a op b pos) (mBin f ma mb) :=
  pe_imp (pe_op ho ha hb) (op_read hd)
theorem de_cmp {op : CmpOp} {r : R2} {f : D → D → Option D} (ho : OpR X (compareOp op) r) (hd : OpD T r f) (ha : DE T X E a ma) (hb : DE T X E b mb) (hm : behindInMarks op b = false := by rfl) : DE T X E (.Compare a [op] [b] pos) (mBin f ma mb) :=
  pe_imp (pe_cmpR ho ha hb hm) (op_read hd)
theorem OpD.or1 {r r' : R2} {f : D → D → Option D} (h : OpD T r f) : OpD T (fun x y H Q => r x y H Q ∨ r' x y H Q) f := fun F H v w x y d Q e rx ry ef k => .inl (h F H v w x y d Q e rx ry ef k)
theorem OpD.or2 {r r' : R2} {f : D → D → Option D} (h : OpD T r' f) : OpD T (fun x y H Q => r x y H Q ∨ r' x y H Q) f := fun F H v w x y d Q e rx ry ef k => .inr (h F H v w x y d Q e rx ry ef k)
/-- ints to a flat value -/
theorem opd_I0 {g : Int → Int → V} {f : D → D → Option D} (hf : ∀ x y d, f x y = some d → ∃ i j, x = .int i ∧ y = .int j ∧ ∀ F, Rp T F (g i j) d) : OpD T (rI0 g) f := fun F H v w x y d Q e rx ry ef k => by
  obtain ⟨i, j, rfl, rfl, h⟩ := hf x y d ef
  cases rx
  cases ry
  exact ⟨i, j, rfl, rfl, k _ F H (Up.refl e) (h F)⟩
theorem opd_I {C : Int → Int → Prop} {g : Int → Int → V} {f : D → D → Option D} (hf : ∀ x y d, f x y = some d → ∃ i j, x = .int i ∧ y = .int j ∧ C i j ∧ ∀ F, Rp T F (g i j) d) : OpD T (rI C g) f := fun F H v w x y d Q e rx ry ef k => by
  obtain ⟨i, j, rfl, rfl, hc, h⟩ := hf x y d ef
  cases rx
  cases ry
  exact ⟨i, j, rfl, rfl, hc, k _ F H (Up.refl e) (h F)⟩
def intD (g : Int → Int → D) : D → D → Option D
  | .int i, .int j => some (g i j)
  | _, _ => none
theorem intD_some {g : Int → Int → D} {x y d : D} (h : intD g x y = some d) : ∃ i j, x = .int i ∧ y = .int j ∧ g i j = d := by
  cases x <;> cases y <;> first | (cases h; exact ⟨_, _, rfl, rfl, rfl⟩) | cases h
def intC (C : Int → Int → Bool) (g : Int → Int → D) : D → D → Option D
  | .int i, .int j => if C i j then some (g i j) else none
  | _, _ => none
theorem intC_some {C : Int → Int → Bool} {g : Int → Int → D} {x y d : D} (h : intC C g x y = some d) : ∃ i j, x = .int i ∧ y = .int j ∧ C i j = true ∧ g i j = d := by
  cases x <;> cases y <;> first | cases h | skip
  rename_i i j
  simp only [intC] at h
  by_cases hc : C i j = true
  · rw [if_pos hc] at h
    exact ⟨i, j, rfl, rfl, hc, Option.some.inj h⟩
  · rw [if_neg hc] at h
    cases h
def subD : D → D → Option D := intD fun i j => .int (i - j)
theorem opd_sub : OpD T (rI0 fun i j => .int (i - j)) subD := opd_I0 fun x y d h => let ⟨i, j, a, b, c⟩ := intD_some h; ⟨i, j, a, b, fun F => c ▸ .int _⟩
theorem de_sub (ha : DE T X E a ma) (hb : DE T X E b mb) : DE T X E (.BinOp a .Sub b pos) (mBin subD ma mb) := de_op op_sub opd_sub ha hb
def fdivD : D → D → Option D := intC (fun _ j => decide (0 < j ∧ j.natAbs.log2 < 9000)) fun i j => .int (i / j)
theorem opd_fdiv : OpD T (rI CDivW fun i j => .int (i / j)) fdivD := opd_I fun x y d h => let ⟨i, j, a, b, c, e⟩ := intC_some h; ⟨i, j, a, b, of_decide_eq_true (p := 0 < j ∧ j.natAbs.log2 < 9000) c, fun F => e ▸ .int _⟩
theorem de_fdiv (ha : DE T X E a ma) (hb : DE T X E b mb) : DE T X E (.BinOp a .FloorDiv b pos) (mBin fdivD ma mb) := de_op op_fdivW opd_fdiv ha hb
def modD : D → D → Option D := intC (fun _ j => decide (0 < j)) fun i j => .int (i % j)
theorem opd_mod : OpD T (rI (fun _ j => 0 < j) fun i j => .int (i % j)) modD := opd_I fun x y d h => let ⟨i, j, a, b, c, e⟩ := intC_some h; ⟨i, j, a, b, of_decide_eq_true c, fun F => e ▸ .int _⟩
theorem de_mod (ha : DE T X E a ma) (hb : DE T X E b mb) : DE T X E (.BinOp a .Mod b pos) (mBin modD ma mb) := de_op op_mod opd_mod ha hb
def powD : D → D → Option D := intC (fun i j => decide (0 ≤ j ∧ j ≤ 1000000 ∧ i.natAbs < 2 ^ 64)) fun i j => .int (i ^ j.toNat)
theorem opd_pow : OpD T (rI CPow fun i j => .int (i ^ j.toNat)) powD := opd_I fun x y d h => let ⟨i, j, a, b, c, e⟩ := intC_some h; ⟨i, j, a, b, of_decide_eq_true (p := 0 ≤ j ∧ j ≤ 1000000 ∧ i.natAbs < 2 ^ 64) c, fun F => e ▸ .int _⟩
theorem de_pow (ha : DE T X E a ma) (hb : DE T X E b mb) : DE T X E (.BinOp a .Pow b pos) (mBin powD ma mb) := de_op op_pow opd_pow ha hb

/-! ### list + list, list * int where the list is read (also a locked one) -/
def rCatR : R2 := fun x y H Q => ∃ l b xs zs, x = .ref l ∧ y = .ref b ∧ Rd H l (.lst xs) ∧ Rd H b (.lst zs) ∧ xs.length + zs.length ≤ sizeLine ∧ ∀ p, H p = none → Q (.ref p) (upd H p (.lst (xs ++ zs)))
theorem op_catR : OpR X (binaryOp .Add) rCatR := by
  intro pins s σ H x y v u Q I rx ry h
  obtain ⟨l, b, xs, zs, rfl, rfl, hH, hB, hz, q⟩ := h
  cases rx
  cases ry
  obtain ⟨z, its, n, r, e⟩ := hH.ok I.hok
  obtain ⟨z2, its2, n2, r2, e2⟩ := hB.ok I.hok
  have hl := r.length
  have hl2 := r2.length
  refine PySem.P.add_list e e2 ?_ (by rw [List.size_toArray, List.size_toArray]; omega)
  have ea : its.toArray ++ its2.toArray = (its ++ its2).toArray := by simp
  rw [ea]
  exact ⟨.ref _, _, I.lnew (t' := s.toks) (r.append r2) (by rw [List.length_append]; omega), rfl, q _ I.fresh⟩
def addD : D → D → Option D
  | .int i, .int j => some (.int (i + j))
  | .lst xs, .lst ys => if xs.length + ys.length ≤ sizeLine then some (.lst (xs ++ ys)) else none
  | _, _ => none
theorem opd_add : OpD T (fun x y H Q => rI0 (fun i j => .int (i + j)) x y H Q ∨ rCatR x y H Q) addD := fun F H v w x y d Q e rx ry ef k => by
  cases x <;> cases y <;> first | cases ef | skip
  · cases rx
    cases ry
    exact .inl ⟨_, _, rfl, rfl, k _ F H (Up.refl e) (.int _)⟩
  · cases rx with
    | lst h1 a1 =>
      cases ry with
      | lst h2 a2 =>
        rename_i xs ys _ _ _ _
        simp only [addD] at ef
        by_cases hz : xs.length + ys.length ≤ sizeLine
        · rw [if_pos hz] at ef
          cases ef
          refine .inr ⟨_, _, _, _, rfl, rfl, e.rd h1, e.rd h2, ?_, fun p hp => ?_⟩
          · rw [a1.length, a2.length]
            exact hz
          · refine k _ (upd F p _) _ (Up.new e hp) (.lst (.inl upd_same) ?_)
            exact (a1.append a2).mono (Ex.new (e.back hp))
        · rw [if_neg hz] at ef
          cases ef
theorem de_add (ha : DE T X E a ma) (hb : DE T X E b mb) : DE T X E (.BinOp a .Add b pos) (mBin addD ma mb) := de_op (op_add.or op_catR) opd_add ha hb
def rRepR : R2 := fun x y H Q => ∃ l k xs, x = .ref l ∧ y = .int k ∧ H l = some (.lst xs) ∧ -(2 ^ 63) ≤ k ∧ k < 2 ^ 63 ∧ xs.length * k.toNat ≤ sizeLine ∧
  ∀ p, H p = none → Q (.ref p) (upd H p (.lst (List.replicate k.toNat xs).flatten))
/-- the left factor small, or the right one -/
def mulOk (i j : Int) : Bool := decide ((-(2 ^ 64) < i ∧ i < 2 ^ 64) ∨ (-(2 ^ 64) < j ∧ j < 2 ^ 64))
def mulD : D → D → Option D := intC mulOk fun i j => .int (i * j)
theorem opd_mul : OpD T (rI CMul fun i j => .int (i * j)) mulD := opd_I fun x y d h => let ⟨i, j, a, b, c, e⟩ := intC_some h; ⟨i, j, a, b, of_decide_eq_true (p := (-(2 ^ 64) < i ∧ i < 2 ^ 64) ∨ (-(2 ^ 64) < j ∧ j < 2 ^ 64)) c, fun F => e ▸ .int _⟩
theorem de_mul (ha : DE T X E a ma) (hb : DE T X E b mb) : DE T X E (.BinOp a .Mult b pos) (mBin mulD ma mb) := de_op op_mul opd_mul ha hb

/-! ### unary -/
def mUn (f : D → Option D) (ma : M) : M := fun z => (ma z).bnd fun x => ofO (f x)
def negD : D → Option D
  | .int i => some (.int (-i))
  | _ => none
theorem de_neg (ha : DE T X E a ma) : DE T X E (.UnaryOp .USub a pos) (mUn negD ma) := pe_imp (pe_un un_neg ha) fun s H Q ⟨F, z, q, h⟩ =>
  ⟨F, z, q, Post.bnd (L := lV T) h fun x v F1 H1 u1 rx h1 => by
    obtain ⟨d, e, k⟩ := Post.ofO h1
    cases x <;> first | cases e | skip
    cases rx
    exact ⟨_, rfl, k _ F1 H1 (Up.refl u1.s) (.int _)⟩⟩

/-! ### comparisons of ints -/
def ltD : D → D → Option D := intD fun i j => .bl (decide (i < j))
def leD : D → D → Option D := intD fun i j => .bl (decide (i ≤ j))
def gtD : D → D → Option D := intD fun i j => .bl (decide (j < i))
def geD : D → D → Option D := intD fun i j => .bl (decide (j ≤ i))
theorem opd_lt : OpD T (rI0 fun i j => .bl (decide (i < j))) ltD := opd_I0 fun x y d h => let ⟨i, j, a, b, c⟩ := intD_some h; ⟨i, j, a, b, fun F => c ▸ .bl _⟩
theorem opd_le : OpD T (rI0 fun i j => .bl (decide (i ≤ j))) leD := opd_I0 fun x y d h => let ⟨i, j, a, b, c⟩ := intD_some h; ⟨i, j, a, b, fun F => c ▸ .bl _⟩
theorem opd_gt : OpD T (rI0 fun i j => .bl (decide (j < i))) gtD := opd_I0 fun x y d h => let ⟨i, j, a, b, c⟩ := intD_some h; ⟨i, j, a, b, fun F => c ▸ .bl _⟩
theorem opd_ge : OpD T (rI0 fun i j => .bl (decide (j ≤ i))) geD := opd_I0 fun x y d h => let ⟨i, j, a, b, c⟩ := intD_some h; ⟨i, j, a, b, fun F => c ▸ .bl _⟩
theorem de_lt (ha : DE T X E a ma) (hb : DE T X E b mb) : DE T X E (.Compare a [.Lt] [b] pos) (mBin ltD ma mb) := de_cmp op_lt opd_lt ha hb (nomark _)
theorem de_le (ha : DE T X E a ma) (hb : DE T X E b mb) : DE T X E (.Compare a [.LtE] [b] pos) (mBin leD ma mb) := de_cmp op_le opd_le ha hb (nomark _)
theorem de_gt (ha : DE T X E a ma) (hb : DE T X E b mb) : DE T X E (.Compare a [.Gt] [b] pos) (mBin gtD ma mb) := de_cmp op_gt opd_gt ha hb (nomark _)
theorem de_ge (ha : DE T X E a ma) (hb : DE T X E b mb) : DE T X E (.Compare a [.GtE] [b] pos) (mBin geD ma mb) := de_cmp op_ge opd_ge ha hb (nomark _)

/-! ### == at any depth -/
mutual
def toPy : D → Option PyData
  | .non => some .none
  | .bl b => some (.bool b)
  | .int i => some (.int i)
  | .str x => some (.str x)
  | .lst xs => (toPyAll xs).map .list
  | .tup xs => (toPyAll xs).map .tuple
  | .dct => none
  | .ins _ _ => none
  | .fn _ => none
  | .scr _ => none
  | .lam _ _ => none
def toPyAll : List D → Option (List PyData)
  | [] => some []
  | x :: xs => (toPy x).bind fun p => (toPyAll xs).map fun ps => p :: ps
end
mutual
theorem Rp.dp {K : PySem.W.Frag} {F : Hp} : ∀ (d : D) {v : V} {p : PyData}, Rp T F v d → toPy d = some p → Dp K F v p
  | .non, _, _, h, e => by cases h; simp only [toPy] at e; cases e; exact .non
  | .bl b, _, _, h, e => by cases h; simp only [toPy] at e; cases e; exact .bl b
  | .int i, _, _, h, e => by cases h; simp only [toPy] at e; cases e; exact .int i
  | .str x, _, _, h, e => by cases h; simp only [toPy] at e; cases e; exact .str x
  | .lst xs, _, _, h, e => by
    cases h with
    | lst h a =>
      simp only [toPy] at e
      cases q : toPyAll xs with
      | none => rw [q] at e; cases e
      | some ps => rw [q] at e; cases e; exact .lst (.inl h) (RpAll.dp xs a q)
  | .tup xs, _, _, h, e => by
    cases h with
    | tup h a =>
      simp only [toPy] at e
      cases q : toPyAll xs with
      | none => rw [q] at e; cases e
      | some ps => rw [q] at e; cases e; exact .tup (.inl (.inl h)) (RpAll.dp xs a q)
  | .dct, _, _, _, e => by simp only [toPy] at e; cases e
  | .ins _ _, _, _, _, e => by simp only [toPy] at e; cases e
  | .fn _, _, _, _, e => by simp only [toPy] at e; cases e
  | .scr _, _, _, _, e => by simp only [toPy] at e; cases e
  | .lam _ _, _, _, _, e => by simp only [toPy] at e; cases e
theorem RpAll.dp {K : PySem.W.Frag} {F : Hp} : ∀ (ds : List D) {vs : List V} {ps : List PyData}, RpAll T F vs ds → toPyAll ds = some ps → DpAll K F vs ps
  | [], _, _, h, e => by cases h; simp only [toPyAll] at e; cases e; exact .nil
  | d :: ds, _, _, h, e => by
    cases h with
    | cons r t =>
      simp only [toPyAll] at e
      cases q : toPy d with
      | none => rw [q] at e; cases e
      | some p =>
        rw [q] at e
        cases q2 : toPyAll ds with
        | none => rw [q2] at e; cases e
        | some ps2 => rw [q2] at e; cases e; exact .cons (Rp.dp d r q) (RpAll.dp ds t q2)
end
def eqD (x y : D) : Option Bool := match toPy x, toPy y with
  | some p, some q => if SeqAt.shaped p && SeqAt.shaped q then some (PyData.eqv p q) else none
  | _, _ => none
theorem eqD_some {x y : D} {b : Bool} (h : eqD x y = some b) : ∃ p q, toPy x = some p ∧ toPy y = some q ∧ SeqAt.shaped p = true ∧ SeqAt.shaped q = true ∧ PyData.eqv p q = b := by
  unfold eqD at h
  split at h
  · rename_i p q h1 h2
    split at h
    · rename_i hs
      rw [Bool.and_eq_true] at hs
      exact ⟨p, q, h1, h2, hs.1, hs.2, Option.some.inj h⟩
    · cases h
  · cases h
theorem Dp.ex {K : PySem.W.Frag} {F H : Hp} {v : V} {d : D} {p : PyData} (e : Ex F H) (h : Rp T F v d) (q : toPy d = some p) : Dp K H v p := Rp.dp d (h.mono e) q
def eqB (x y : D) : Option D := (eqD x y).map fun b => .bl b
def neB (x y : D) : Option D := (eqD x y).map fun b => .bl (!b)
theorem opd_eq {K : PySem.W.Frag} : OpD T (rEqD K) eqB := fun F H v w x y d Q e rx ry ef k => by
  unfold eqB at ef
  cases q : eqD x y with
  | none => rw [q] at ef; cases ef
  | some b =>
    rw [q] at ef
    cases ef
    obtain ⟨p, p2, h1, h2, h3, h4, h5⟩ := eqD_some q
    refine ⟨p, p2, Dp.ex e rx h1, Dp.ex e ry h2, h3, h4, ?_⟩
    rw [h5]
    exact k _ F H (Up.refl e) (.bl b)
theorem opd_ne {K : PySem.W.Frag} : OpD T (rNeD K) neB := fun F H v w x y d Q e rx ry ef k => by
  unfold neB at ef
  cases q : eqD x y with
  | none => rw [q] at ef; cases ef
  | some b =>
    rw [q] at ef
    cases ef
    obtain ⟨p, p2, h1, h2, h3, h4, h5⟩ := eqD_some q
    refine ⟨p, p2, Dp.ex e rx h1, Dp.ex e ry h2, h3, h4, ?_⟩
    rw [h5]
    exact k _ F H (Up.refl e) (.bl _)
theorem de_eq {n : Nat} (hr : Room n X.A) (ha : DE T X E a ma) (hb : DE T X E b mb) : DE T X E (.Compare a [.Eq] [b] pos) (mBin eqB ma mb) := de_cmp (op_eqD hr.units) opd_eq ha hb (nomark _)
theorem de_ne {n : Nat} (hr : Room n X.A) (ha : DE T X E a ma) (hb : DE T X E b mb) : DE T X E (.Compare a [.NotEq] [b] pos) (mBin neB ma mb) := de_cmp (op_neD hr.units) opd_ne ha hb (nomark _)

/-! ### in, not in over flat things -/
def flatD : D → Bool
  | .non => true
  | .bl _ => true
  | .int _ => true
  | .str _ => true
  | _ => false
def eqF : D → D → Bool
  | .non, .non => true
  | .bl a, .bl b => a == b
  | .bl a, .int b => (if a then 1 else 0) == b
  | .int a, .bl b => a == (if b then 1 else 0)
  | .int a, .int b => a == b
  | .str a, .str b => a == b
  | _, _ => false
theorem Rp.flat {F : Hp} {v : V} {d : D} (h : Rp T F v d) (f : flatD d = true) : flatV v = true := by cases h <;> first | rfl | cases f
theorem Rp.eqF {F F' : Hp} {v w : V} {x y : D} (h : Rp T F v x) (k : Rp T F' w y) (fx : flatD x = true) (fy : flatD y = true) : eqV v w = eqF x y := by
  cases h <;> first | exact absurd (show false = true from fx) Bool.false_ne_true | skip
  all_goals (cases k <;> first | rfl | exact absurd (show false = true from fy) Bool.false_ne_true)
theorem RpAll.flat {F : Hp} : ∀ {vs : List V} {ds : List D}, RpAll T F vs ds → ds.all flatD = true → vs.all flatV = true
  | _, _, .nil, _ => rfl
  | _, _, .cons r t, f => by
    rw [List.all_cons, Bool.and_eq_true] at f ⊢
    exact ⟨r.flat f.1, RpAll.flat t f.2⟩
theorem RpAll.inV {F F' : Hp} {v : V} {x : D} (h : Rp T F' v x) (fx : flatD x = true) : ∀ {vs : List V} {ds : List D}, RpAll T F vs ds → ds.all flatD = true → inV v vs = ds.any fun y => CL.eqF y x
  | _, _, .nil, _ => rfl
  | _, _, .cons r t, f => by
    rw [List.all_cons, Bool.and_eq_true] at f
    have ih := RpAll.inV h fx t f.2
    unfold L2.inV at ih ⊢
    rw [List.any_cons, List.any_cons, ih, Rp.eqF r h f.1 fx]
def inD (neg : Bool) (x y : D) : Option D :=
  let go (ds : List D) : Option D := if flatD x && ds.all flatD then some (.bl (if neg then !ds.any fun y => eqF y x else ds.any fun y => eqF y x)) else none
  match y with
  | .lst ds => go ds
  | .tup ds => go ds
  | _ => none
theorem opd_in {K : PySem.W.Frag} {neg : Bool} : OpD T (rIn K neg) (inD neg) := fun F H v w x y d Q e rx ry ef k => by
  have go : ∀ (p : Addr) (vs : List V) (ds : List D), (SqL K H p vs ∨ SqT K H p vs) → RpAll T F vs ds → (if (flatD x && ds.all flatD) = true then some (D.bl (if neg then !ds.any fun y => eqF y x else ds.any fun y => eqF y x)) else none) = some d → rIn K neg v (.ref p) H Q := fun p vs ds hs ha ef => by
    split at ef
    · rename_i hf
      rw [Bool.and_eq_true] at hf
      cases ef
      refine ⟨p, vs, rfl, hs, rx.flat hf.1, ha.flat hf.2, ?_⟩
      rw [RpAll.inV rx hf.1 ha hf.2]
      exact k _ F H (Up.refl e) (.bl _)
    · cases ef
  cases y <;> first | cases ef | skip
  · cases ry with
    | lst h a => exact go _ _ _ (.inl (.inl (e.rd h))) a ef
  · cases ry with
    | tup h a => exact go _ _ _ (.inr (.inl (.inl (e _ _ h)))) a ef
theorem de_in (ha : DE T X E a ma) (hb : DE T X E b mb) (hm : behindInMarks .In b = false := by rfl) : DE T X E (.Compare a [.In] [b] pos) (mBin (inD false) ma mb) := de_cmp op_in_seq opd_in ha hb hm
theorem de_notIn (ha : DE T X E a ma) (hb : DE T X E b mb) (hm : behindInMarks .NotIn b = false := by rfl) : DE T X E (.Compare a [.NotIn] [b] pos) (mBin (inD true) ma mb) := de_cmp op_notIn_seq opd_in ha hb hm

/-! ### is None, is True -/
def isN : D → Bool
  | .non => true
  | _ => false
def isD (neg : Bool) (x y : D) : Option D := match y with
  | .non => some (.bl (if neg then !isN x else isN x))
  | .bl b => match x with
    | .bl a => some (.bl (if neg then !decide (a = b) else decide (a = b)))
    | _ => none
  | _ => none
theorem Rp.isN {F : Hp} {v : V} {d : D} (h : Rp T F v d) : decide (v = .non) = CL.isN d := by cases h <;> rfl
theorem opd_is : OpD T (fun x y H Q => (y = .non ∧ Q (.bl (decide (x = .non))) H) ∨ rIsB x y H Q) (isD false) := fun F H v w x y d Q e rx ry ef k => by
  cases y <;> first | cases ef | skip
  · cases ry
    refine .inl ⟨rfl, ?_⟩
    rw [rx.isN]
    exact k _ F H (Up.refl e) (.bl _)
  · cases ry
    cases x <;> first | cases ef | skip
    cases rx
    exact .inr ⟨_, _, rfl, rfl, k _ F H (Up.refl e) (.bl _)⟩
theorem opd_isNot : OpD T (fun x y H Q => (y = .non ∧ Q (.bl (!decide (x = .non))) H) ∨ rNotB x y H Q) (isD true) := fun F H v w x y d Q e rx ry ef k => by
  cases y <;> first | cases ef | skip
  · cases ry
    refine .inl ⟨rfl, ?_⟩
    rw [rx.isN]
    exact k _ F H (Up.refl e) (.bl _)
  · cases ry
    cases x <;> first | cases ef | skip
    cases rx
    exact .inr ⟨_, _, rfl, rfl, k _ F H (Up.refl e) (.bl _)⟩
theorem de_is (ha : DE T X E a ma) (hb : DE T X E b mb) : DE T X E (.Compare a [.Is] [b] pos) (mBin (isD false) ma mb) := de_cmp (op_isN.or op_isBl) opd_is ha hb (nomark _)
theorem de_isNot (ha : DE T X E a ma) (hb : DE T X E b mb) : DE T X E (.Compare a [.IsNot] [b] pos) (mBin (isD true) ma mb) := de_cmp (op_notN.or op_notBl) opd_isNot ha hb (nomark _)

/-! ### a < b < c -/
def mChain (f g : D → D → Option D) (ma mb mc : M) : M := fun z => (ma z).bnd fun x => (mb z).bnd fun y => (ofO (f x y)).bnd fun u => match u with
  | .bl true => (mc z).bnd fun w => ofO (g y w)
  | .bl false => .ok (.bl false)
  | _ => .stuck
theorem de_chain {op op' : CmpOp} {r r' : R2} {f g : D → D → Option D} (ho : OpR X (compareOp op) r) (ho' : OpR X (compareOp op') r') (hf : OpD T r f) (hg : OpD T r' g) (ha : DE T X E a ma) (hb : DE T X E b mb) (hc : DE T X E c mc)
    (hm : lastMarks [op, op'] [b, c] = false := by with_unfolding_all rfl) : DE T X E (.Compare a [op, op'] [b, c] pos) (mChain f g ma mb mc) := pe_imp (pe_chain ho ho' ha hb hc hm) fun s H Q ⟨F, z, q, h⟩ =>
  ⟨F, z, q, Post.bnd (L := lV T) h fun x v F1 H1 u1 rx h1 => ⟨F1, z, q.up u1, Post.bnd (L := lV T) h1 fun y w F2 H2 u2 ry h2 => by
    cases q2 : f x y with
    | none => rw [q2] at h2; exact h2.elim
    | some d =>
      rw [q2] at h2
      refine hf F2 H2 v w x y d _ u2.s (rx.mono u2.f) ry q2 fun t F3 H3 u3 rt => ?_
      cases d <;> first | exact h2.elim | skip
      cases rt
      rename_i k
      refine ⟨k, rfl, ?_⟩
      cases k with
      | false =>
        refine iteF ?_
        exact h2 _ F3 H3 u3 (.bl false)
      | true =>
        refine iteT ?_
        have h3 : Post T E (lV T) F2 H2 Q ((mc z).bnd fun w => ofO (g y w)) := h2
        refine ⟨F3, z, ((q.up u1).up u2).up u3, Post.bnd (L := lV T) (h3.up u3) fun w3 v3 F4 H4 u4 rw3 h4 => ?_⟩
        obtain ⟨d, e, k⟩ := Post.ofO h4
        exact hg F4 H4 w v3 y w3 d Q u4.s ((ry.mono u3.f).mono u4.f) rw3 e k⟩⟩

/-! ### and, or, not as values (bools) -/
def mAnd (ma mb : M) : M := fun z => (ma z).bnd fun x => match x with
  | .bl true => mb z
  | .bl false => .ok (.bl false)
  | _ => .stuck
def mOr (ma mb : M) : M := fun z => (ma z).bnd fun x => match x with
  | .bl true => .ok (.bl true)
  | .bl false => mb z
  | _ => .stuck
def notD : D → Option D
  | .bl b => some (.bl (!b))
  | _ => none
theorem de_one {op} (h : DE T X E a ma) : DE T X E (.BoolOp op [a] pos) ma := pe_one h
theorem de_and {rest : List Expr} (ha : DE T X E a ma) (hb : DE T X E (.BoolOp .And (b :: rest) pos) mb) : DE T X E (.BoolOp .And (a :: b :: rest) pos) (mAnd ma mb) := pe_imp (pe_and ha hb) fun s H Q ⟨F, z, q, h⟩ =>
  ⟨F, z, q, Post.bnd (L := lV T) h fun x v F1 H1 u1 rx h1 => by
    cases x <;> first | exact h1.elim | skip
    cases rx
    rename_i k
    refine ⟨k, rfl, ?_⟩
    cases k with
    | false => exact iteF (h1 _ F1 H1 (Up.refl u1.s) (.bl false))
    | true => exact iteT ⟨F1, z, q.up u1, h1⟩⟩
theorem de_or {rest : List Expr} (ha : DE T X E a ma) (hb : DE T X E (.BoolOp .Or (b :: rest) pos) mb) : DE T X E (.BoolOp .Or (a :: b :: rest) pos) (mOr ma mb) := pe_imp (pe_or ha hb) fun s H Q ⟨F, z, q, h⟩ =>
  ⟨F, z, q, Post.bnd (L := lV T) h fun x v F1 H1 u1 rx h1 => by
    cases x <;> first | exact h1.elim | skip
    cases rx
    rename_i k
    refine ⟨k, rfl, ?_⟩
    cases k with
    | false => exact iteF ⟨F1, z, q.up u1, h1⟩
    | true => exact iteT (h1 _ F1 H1 (Up.refl u1.s) (.bl true))⟩
theorem de_not (ha : DE T X E a ma) : DE T X E (.UnaryOp .Not a pos) (mUn notD ma) := pe_imp (pe_not ha) fun s H Q ⟨F, z, q, h⟩ =>
  ⟨F, z, q, Post.bnd (L := lV T) h fun x v F1 H1 u1 rx h1 => by
    obtain ⟨d, e, k⟩ := Post.ofO h1
    cases x <;> first | cases e | skip
    cases rx
    exact ⟨_, rfl, k _ F1 H1 (Up.refl u1.s) (.bl _)⟩⟩

/-! ### tests -/
def asB : D → Option Bool
  | .bl b => some b
  | _ => none
def bV (ma : M) : MB := fun z => (ma z).bnd fun x => ofO (asB x)
theorem dt_val (ha : DE T X E e ma) (he : ∀ whole, isTrue e X.env whole = (do let v ← whole; standAt e.pos; holding [v] (truthy v)) := by intro _; rfl) : DT T X E e (bV ma) := pt_imp (pt_val ha he) fun s H Q ⟨F, z, q, h⟩ =>
  ⟨F, z, q, Post.bnd (L := lV T) h fun x v F1 H1 u1 rx h1 => by
    obtain ⟨d, e, k⟩ := Post.ofO h1
    cases x <;> first | cases e | skip
    cases rx
    exact ⟨_, rfl, k _ F1 H1 (Up.refl u1.s) rfl⟩⟩
/-- a comparison as a test -/
theorem dt_cmp {op : CmpOp} {r : R2} {f : D → D → Option D} (ho : OpR X (compareOp op) r) (hd : OpD T r f) (ha : DE T X E a ma) (hb : DE T X E b mb) (hm : behindInMarks op b = false := by rfl) : DT T X E (.Compare a [op] [b] pos) (bV (mBin f ma mb)) :=
  pt_imp (pt_cmpR ho ha hb hm) fun s H Q ⟨F, z, q, h⟩ => op_read hd s H _ ⟨F, z, q, Post.bnd (L := lV T) h fun x v F1 H1 u1 rx h1 => by
    obtain ⟨d, e, k⟩ := Post.ofO h1
    cases x <;> first | cases e | skip
    cases rx
    exact ⟨_, rfl, k _ F1 H1 (Up.refl u1.s) rfl⟩⟩
theorem dt_chain {op op' : CmpOp} {r r' : R2} {f g : D → D → Option D} (ho : OpR X (compareOp op) r) (ho' : OpR X (compareOp op') r') (hf : OpD T r f) (hg : OpD T r' g) (ha : DE T X E a ma) (hb : DE T X E b mb) (hc : DE T X E c mc)
    (hm : lastMarks [op, op'] [b, c] = false := by with_unfolding_all rfl) : DT T X E (.Compare a [op, op'] [b, c] pos) (bV (mChain f g ma mb mc)) :=
  pt_imp (pt_chain ho ho' ha hb hc hm) fun s H Q ⟨F, z, q, h⟩ => by
    have h' : Post T E (lV T) F H (fun x H' => ∃ k, x = .bl k ∧ Q k H') (mChain f g ma mb mc z) := Post.bnd (L := lV T) h fun x v F1 H1 u1 rx h1 => by
      obtain ⟨d, e, k⟩ := Post.ofO h1
      cases x <;> first | cases e | skip
      cases rx
      exact ⟨_, rfl, k _ F1 H1 (Up.refl u1.s) rfl⟩
    refine ⟨F, z, q, Post.bnd (L := lV T) h' fun x v F1 H1 u1 rx h1 => ⟨F1, z, q.up u1, Post.bnd (L := lV T) h1 fun y w F2 H2 u2 ry h2 => ?_⟩⟩
    cases q2 : f x y with
    | none => rw [q2] at h2; exact h2.elim
    | some d =>
      rw [q2] at h2
      refine hf F2 H2 v w x y d _ u2.s (rx.mono u2.f) ry q2 fun t F3 H3 u3 rt => ?_
      cases d <;> first | exact h2.elim | skip
      cases rt
      rename_i k
      refine ⟨k, rfl, ?_⟩
      cases k with
      | false =>
        refine iteF ?_
        exact h2 _ F3 H3 u3 (.bl false)
      | true =>
        refine iteT ?_
        have h3 : Post T E (lV T) F2 H2 _ ((mc z).bnd fun w => ofO (g y w)) := h2
        refine ⟨F3, z, ((q.up u1).up u2).up u3, Post.bnd (L := lV T) (h3.up u3) fun w3 v3 F4 H4 u4 rw3 h4 => ?_⟩
        obtain ⟨d, e, k⟩ := Post.ofO h4
        exact hg F4 H4 w v3 y w3 d _ u4.s ((ry.mono u3.f).mono u4.f) rw3 e k
def bNot (a : MB) : MB := fun z => (a z).bnd fun x => .ok (!x)
def bAnd (a b : MB) : MB := fun z => (a z).bnd fun x => if x then b z else .ok false
def bOr (a b : MB) : MB := fun z => (a z).bnd fun x => if x then .ok true else b z
variable {ba bb : MB}
theorem dt_not (ha : DT T X E a ba) : DT T X E (.UnaryOp .Not a pos) (bNot ba) := pt_imp (pt_not ha) fun s H Q ⟨F, z, q, h⟩ =>
  ⟨F, z, q, Post.bnd (L := lB) h fun x v F1 H1 u1 rx h1 => by
    cases rx
    exact h1 _ F1 H1 (Up.refl u1.s) rfl⟩
theorem dw_and1 (ha : DT T X E a ba) : DW T X E (.BoolOp .And [a] pos) ba := pw_and1 ha
theorem dw_or1 (ha : DT T X E a ba) : DW T X E (.BoolOp .Or [a] pos) ba := pw_or1 ha
theorem dw_and {rest : List Expr} (ha : DT T X E a ba) (hb : DW T X E (.BoolOp .And (b :: rest) pos) bb) : DW T X E (.BoolOp .And (a :: b :: rest) pos) (bAnd ba bb) := pw_imp (pw_and ha hb) fun s H Q ⟨F, z, q, h⟩ =>
  ⟨F, z, q, Post.bnd (L := lB) h fun x v F1 H1 u1 rx h1 => by
    cases rx
    cases x with
    | false => exact iteF (h1 _ F1 H1 (Up.refl u1.s) rfl)
    | true => exact iteT ⟨F1, z, q.up u1, h1⟩⟩
theorem dw_or {rest : List Expr} (ha : DT T X E a ba) (hb : DW T X E (.BoolOp .Or (b :: rest) pos) bb) : DW T X E (.BoolOp .Or (a :: b :: rest) pos) (bOr ba bb) := pw_imp (pw_or ha hb) fun s H Q ⟨F, z, q, h⟩ =>
  ⟨F, z, q, Post.bnd (L := lB) h fun x v F1 H1 u1 rx h1 => by
    cases rx
    cases x with
    | true => exact iteT (h1 _ F1 H1 (Up.refl u1.s) rfl)
    | false => exact iteF ⟨F1, z, q.up u1, h1⟩⟩
theorem dt_w (h : DW T X E e ba) : DT T X E e ba := PW.pt h

/-! ### a if t else b -/
def mIf (t : MB) (ma mb : M) : M := fun z => (t z).bnd fun x => if x then ma z else mb z
theorem de_if (hc : DT T X E c ba) (ha : DE T X E a ma) (hb : DE T X E b mb) : DE T X E (.IfExp c a b pos) (mIf ba ma mb) := pe_imp (pe_ifExp hc ha hb) fun s H Q ⟨F, z, q, h⟩ =>
  ⟨F, z, q, Post.bnd (L := lB) h fun x v F1 H1 u1 rx h1 => by
    cases rx
    cases x with
    | true => exact iteT ⟨F1, z, q.up u1, h1⟩
    | false => exact iteF ⟨F1, z, q.up u1, h1⟩⟩

/-! ### arguments, displays -/
def aNil : ML := fun _ => .ok []
def aCons (m : M) (ms : ML) : ML := fun z => (m z).bnd fun x => (ms z).bnd fun xs => .ok (x :: xs)
theorem da_nil : DA T X E [] aNil := pa_imp pa_nil fun s H Q ⟨F, z, q, h⟩ => h _ F H (Up.refl q.ex) .nil
theorem da_cons (ha : DE T X E e m) (hr : DA T X E es mes) (hs : starEach (e :: es) X.env = (false, eval e X.env) :: starEach es X.env := by rfl) : DA T X E (e :: es) (aCons m mes) := pa_imp (pa_cons ha hr hs) fun s H Q ⟨F, z, q, h⟩ =>
  ⟨F, z, q, Post.bnd (L := lV T) h fun x v F1 H1 u1 rx h1 => ⟨F1, z, q.up u1, Post.bnd (L := lA T) h1 fun xs vs F2 H2 u2 rxs h2 => h2 _ F2 H2 (Up.refl u2.s) (.cons (rx.mono u2.f) rxs)⟩⟩
def tupD (xs : List D) : Option D := if xs.length ≤ sizeLine then some (.tup xs) else none
def lstD (xs : List D) : Option (List D) := if xs.length ≤ sizeLine then some xs else none
def mTup (ms : ML) : M := fun z => (ms z).bnd fun xs => ofO (tupD xs)
theorem de_tup {x1} (h : DA T X E es mes) : DE T X E (.Tuple es x1 pos) (mTup mes) := pe_imp (pe_tup h) fun s H Q ⟨F, z, q, h⟩ =>
  ⟨F, z, q, Post.bnd (L := lA T) h fun xs vs F1 H1 u1 rxs h1 => by
    obtain ⟨d, e, k⟩ := Post.ofO h1
    unfold tupD at e
    split at e
    · rename_i hz
      cases e
      refine ⟨by rw [rxs.length]; exact hz, fun p hp => k _ (upd F1 p _) _ (Up.new u1.s hp) (.tup upd_same (rxs.mono (Ex.new (u1.s.back hp))))⟩
    · cases e⟩
def mLst (ms : ML) : ML := fun z => (ms z).bnd fun xs => ofO (lstD xs)
theorem lstD_some {xs ys : List D} (h : lstD xs = some ys) : xs.length ≤ sizeLine ∧ xs = ys := by
  unfold lstD at h
  split at h
  · rename_i hz
    exact ⟨hz, Option.some.inj h⟩
  · cases h
theorem dl_lst (h : DA T X E es mes) : DL T X E (.List es pos) (mLst mes) := pe_imp (pe_lst h) fun s H Q ⟨F, z, q, h⟩ =>
  ⟨F, z, q, Post.bnd (L := lA T) h fun xs vs F1 H1 u1 rxs h1 => by
    obtain ⟨d, e, k⟩ := Post.ofO h1
    obtain ⟨hz, rfl⟩ := lstD_some e
    exact ⟨by rw [rxs.length]; exact hz, fun p hp => k _ F1 _ (Up.newO u1.s hp) ⟨p, vs, rfl, hp, u1.s.back hp, upd_same, rxs⟩⟩⟩
/-- a new list as a datum, as a list to be read -/
def mL (ml : ML) : M := fun z => (ml z).bnd fun xs => .ok (.lst xs)
theorem de_l (h : DL T X E e ml) : DE T X E e (mL ml) := pe_imp h fun s H Q ⟨F, z, q, h⟩ =>
  ⟨F, z, q, by
    unfold mL at h
    cases em : ml z with
    | stuck => rw [em] at h; exact h
    | exc c => rw [em] at h; exact h
    | ok xs =>
      rw [em] at h
      intro v F1 H1 u1 rx
      obtain ⟨p, vs, rfl, h0, hf, hp, ha⟩ := rx
      exact h _ (upd F1 p (.lst vs)) H1 (u1.know hp h0 hf) (.lst (.inl upd_same) (ha.mono (Ex.new hf)))⟩
end
end CL


set_option Elab.async false
set_option linter.all false
set_option maxRecDepth 100000
/-! The data layer, part c: lists that are read, subscripts, built-ins, calls. -/
namespace CL
open PySem PySem.Spec L2
section
variable {T : Tx} {X : Cx} {E : XK} {a b c e : Expr} {es : List Expr} {pos : Pos} {ma mb mc m : M} {mes mi mj ml : ML} {ba bb : MB}

/-! ### a list that is read now -/
def asL : D → Option (List D)
  | .lst xs => some xs
  | _ => none
def iE (m : M) : ML := fun z => (m z).bnd fun x => ofO (asL x)
theorem di_e (h : DE T X E e m) : DI T X E e (iE m) := pe_imp h fun s H Q ⟨F, z, q, h⟩ =>
  ⟨F, z, q, Post.bnd (L := lV T) h fun x v F1 H1 u1 rx h1 => by
    obtain ⟨d, e, k⟩ := Post.ofO h1
    cases x <;> first | cases e | skip
    cases rx with
    | lst hr ha => exact k _ F1 H1 (Up.refl u1.s) ⟨_, _, rfl, u1.s.rd hr, ha⟩⟩
theorem di_l (h : DL T X E e ml) : DI T X E e ml := pe_imp h fun s H Q ⟨F, z, q, h⟩ =>
  ⟨F, z, q, by
    cases em : ml z with
    | stuck => rw [em] at h; exact h
    | exc c => rw [em] at h; exact h
    | ok xs =>
      rw [em] at h
      intro v F1 H1 u1 rx
      obtain ⟨p, vs, rfl, h0, hf, hp, ha⟩ := rx
      exact h _ F1 H1 u1 ⟨p, vs, rfl, .inl hp, ha⟩⟩
def iOw (i : Nat) : ML := fun z => match z[i]? with
  | some (.ow ds) => .ok ds
  | _ => .stuck
theorem di_own (i : Nat) {x : Str} {pos : Pos} (hN : X.N[i]? = some x := by rfl) (hv : Vis X.env.scope x := by first | exact Or.inl rfl | exact Or.inr (Or.inl rfl) | exact Or.inr (Or.inr rfl)) (hd : (x == ("__debug__" : Str)) = false := by decide)
    (hcd : (x == ("__classdict__" : Str)) = false := by decide) : DI T X E (.Name x pos) (iOw i) := pe_imp (pe_var hN hv hd hcd) fun s H Q ⟨F, z, r, h⟩ => by
  unfold iOw at h
  split at h
  · rename_i ds e
    obtain ⟨p, xs, h1, h2, h3, h4⟩ := r.ow i ds e
    exact ⟨_, h1, h _ F H (Up.refl r.ex) ⟨p, xs, rfl, .inl h2, h4⟩⟩
  · exact h.elim
/-- flat answers: the own lists may be read as data -/
def mz (m : M) : M := fun z => (m (frz z)).bnd fun x => if flatD x then .ok x else .stuck
theorem Rp.flatAny {F F' : Hp} {v : V} {d : D} (h : Rp T F v d) (f : flatD d = true) : Rp T F' v d := by
  cases h <;> first | exact absurd (show false = true from f) Bool.false_ne_true | constructor
theorem de_z (h : DE T X E e m) : DE T X E e (mz m) := pe_imp h fun s H Q ⟨F, z, q, h⟩ =>
  ⟨H, frz z, q.frz, by
    unfold mz at h
    cases em : m (frz z) with
    | stuck => rw [em] at h; exact h
    | exc c => rw [em] at h; exact h
    | ok x =>
      rw [em] at h
      intro v F1 H1 u1 rx
      have h' : Post T E (lV T) F H Q (if flatD x = true then .ok x else .stuck) := h
      by_cases hf : flatD x = true
      · rw [if_pos hf] at h'
        exact h' v F H1 (Up.heap q.ex u1.h) (rx.flatAny hf)
      · rw [if_neg hf] at h'
        exact h'.elim⟩
def bz (t : MB) : MB := fun z => t (frz z)
theorem dt_z (h : DT T X E e ba) : DT T X E e (bz ba) := pt_imp h fun s H Q ⟨F, z, q, h⟩ =>
  ⟨H, frz z, q.frz, by
    unfold bz at h
    cases em : ba (frz z) with
    | stuck => rw [em] at h; exact h
    | exc c => rw [em] at h; exact h
    | ok x =>
      rw [em] at h
      exact fun v F1 H1 u1 rx => h v F H1 (Up.heap q.ex u1.h) rx⟩

/-! ### subscripts -/
theorem atI_rp {F : Hp} {vs : List V} {ds : List D} {i : Int} {d : D} (h : RpAll T F vs ds) (e : atI ds i = some d) : ∃ v, atI vs i = some v ∧ Rp T F v d := by
  unfold atI at e ⊢
  rw [h.length]
  cases q : ixN ds.length i with
  | none => rw [q] at e; cases e
  | some j =>
    rw [q] at e
    exact h.get e
def ixL (xs : List D) : D → Option D
  | .int i => atI xs i
  | _ => none
def ixD (x y : D) : Option D := match x with
  | .lst xs => ixL xs y
  | .tup xs => ixL xs y
  | _ => none
theorem ixL_some {xs : List D} {y d : D} (h : ixL xs y = some d) : ∃ i, y = .int i ∧ atI xs i = some d := by
  cases y <;> first | cases h | exact ⟨_, rfl, h⟩
theorem opd_ix {K : PySem.W.Frag} : OpD T (fun x y H Q => rIxL K x y H Q ∨ rIxT K x y H Q) ixD := fun F H v w x y d Q e rx ry ef k => by
  cases x <;> first | cases ef | skip
  · obtain ⟨i, rfl, ha⟩ := ixL_some ef
    cases rx with
    | lst h1 h2 =>
      cases ry
      obtain ⟨u, e1, e2⟩ := atI_rp h2 ha
      exact .inl ⟨_, _, _, u, rfl, rfl, .inl (e.rd h1), e1, k _ F H (Up.refl e) e2⟩
  · obtain ⟨i, rfl, ha⟩ := ixL_some ef
    cases rx with
    | tup h1 h2 =>
      cases ry
      obtain ⟨u, e1, e2⟩ := atI_rp h2 ha
      exact .inr ⟨_, _, _, u, rfl, rfl, .inl (.inl (e _ _ h1)), e1, k _ F H (Up.refl e) e2⟩
theorem de_ix (ha : DE T X E a ma) (hb : DE T X E b mb) (hs : PlainIx b := by exact fun _ _ => rfl) : DE T X E (.Subscript a b pos) (mBin ixD ma mb) := pe_imp (pe_ix (ix_list.or ix_tup) ha hb hs) (op_read opd_ix)
def mIxI (mi : ML) (mb : M) : M := fun z => (mi z).bnd fun xs => (mb z).bnd fun y => ofO (ixL xs y)
theorem de_ixI (ha : DI T X E a mi) (hb : DE T X E b mb) (hs : PlainIx b := by exact fun _ _ => rfl) : DE T X E (.Subscript a b pos) (mIxI mi mb) := pe_imp (pe_ix ix_list ha hb hs) fun s H Q ⟨F, z, q, h⟩ =>
  ⟨F, z, q, Post.bnd (L := lI T) h fun xs v F1 H1 u1 rx h1 => by
    obtain ⟨p, vs, rfl, hr, hA⟩ := rx
    refine ⟨F1, z, q.up u1, Post.bnd (L := lV T) h1 fun y w F2 H2 u2 ry h2 => ?_⟩
    obtain ⟨d, e, k⟩ := Post.ofO h2
    obtain ⟨i, rfl, hat⟩ := ixL_some e
    cases ry
    obtain ⟨u, e1, e2⟩ := atI_rp hA hat
    exact ⟨_, _, _, u, rfl, rfl, .inl (u2.h.rd hr), e1, k _ F2 H2 (Up.refl u2.s) (e2.mono u2.f)⟩⟩
/-- a part of a slice -/
def asI : D → Option Int
  | .int i => some i
  | _ => none
theorem asI_some {x : D} {i : Int} (h : asI x = some i) : x = .int i := by
  cases x <;> cases h
  rfl
def oNone : List Sd → Rs (Option Int) := fun _ => .ok none
def oSome (m : M) : List Sd → Rs (Option Int) := fun z => (m z).bnd fun x => (ofO (asI x)).bnd fun i => .ok (some i)
variable {mo mp : List Sd → Rs (Option Int)}
theorem do_none : DO T X E none oNone := po_imp po_none fun s H Q ⟨F, z, q, h⟩ => h _ F H (Up.refl q.ex) rfl
theorem do_some (h : DE T X E e m) : DO T X E (some e) (oSome m) := po_imp (po_some h) fun s H Q ⟨F, z, q, h⟩ =>
  ⟨F, z, q, Post.bnd (L := lV T) h fun x v F1 H1 u1 rx h1 => by
    cases qx : asI x with
    | none => rw [qx] at h1; exact h1.elim
    | some i =>
      rw [qx] at h1
      cases asI_some qx
      cases rx
      exact ⟨i, rfl, h1 _ F1 H1 (Up.refl u1.s) rfl⟩⟩
def cutD (xs : List D) (lo hi : Option Int) : List D := (xs.drop (HT.sIx xs.length 0 lo)).take (HT.sIx xs.length xs.length hi - HT.sIx xs.length 0 lo)
theorem RpAll.cut {F : Hp} {vs : List V} {ds : List D} (h : RpAll T F vs ds) (lo hi : Option Int) : RpAll T F (cutV vs lo hi) (cutD ds lo hi) := by
  unfold cutV cutD
  rw [h.length]
  exact (h.drop _).take _
def mCut (mi : ML) (mo mp : List Sd → Rs (Option Int)) : ML := fun z => (mi z).bnd fun xs => (mo z).bnd fun lo => (mp z).bnd fun hi => .ok (cutD xs lo hi)
variable {lo hi : Option Expr} {p2 : Pos}
theorem dl_cut (he : DI T X E e mi) (hl : DO T X E lo mo) (hh : DO T X E hi mp) : DL T X E (.Subscript e (.Slice lo hi none p2) pos) (mCut mi mo mp) := pe_imp (pe_slice sl_list he hl hh) fun s H Q ⟨F, z, q, h⟩ =>
  ⟨F, z, q, Post.bnd (L := lI T) h fun xs v F1 H1 u1 rx h1 => by
    obtain ⟨p, vs, rfl, hr, hA⟩ := rx
    refine ⟨F1, z, q.up u1, Post.bnd (L := lO) h1 fun y w F2 H2 u2 ry h2 => ?_⟩
    refine ⟨F2, z, (q.up u1).up u2, Post.bnd (L := lO) h2 fun y2 w2 F3 H3 u3 ry2 h3 => ?_⟩
    cases ry
    cases ry2
    refine ⟨_, _, rfl, .inl (u3.h.rd (u2.h.rd hr)), fun l hl => h3 _ F3 _ (Up.newO u3.s hl) ⟨l, _, rfl, hl, u3.s.back hl, upd_same, ((hA.mono u2.f).mono u3.f).cut _ _⟩⟩⟩
def asT : D → Option (List D)
  | .tup xs => some xs
  | _ => none
def cutT (xs : List D) (lo hi : Option Int) : Option D := if HT.sIx xs.length 0 lo = 0 ∧ HT.sIx xs.length xs.length hi = xs.length then none else some (.tup (cutD xs lo hi))
def mCutT (m : M) (mo mp : List Sd → Rs (Option Int)) : M := fun z => (m z).bnd fun x => (ofO (asT x)).bnd fun xs => (mo z).bnd fun lo => (mp z).bnd fun hi => ofO (cutT xs lo hi)
theorem de_cutT (he : DE T X E e m) (hl : DO T X E lo mo) (hh : DO T X E hi mp) : DE T X E (.Subscript e (.Slice lo hi none p2) pos) (mCutT m mo mp) := pe_imp (pe_slice sl_tup he hl hh) fun s H Q ⟨F, z, q, h⟩ =>
  ⟨F, z, q, Post.bnd (L := lV T) h fun x v F1 H1 u1 rx h1 => by
    cases x <;> first | exact h1.elim | skip
    rename_i xs
    cases rx with
    | tup hr hA =>
      refine ⟨F1, z, q.up u1, Post.bnd (L := lO) h1 fun y w F2 H2 u2 ry h2 => ?_⟩
      refine ⟨F2, z, (q.up u1).up u2, Post.bnd (L := lO) h2 fun y2 w2 F3 H3 u3 ry2 h3 => ?_⟩
      cases ry
      cases ry2
      obtain ⟨d, e, k⟩ := Post.ofO h3
      unfold cutT at e
      split at e
      · cases e
      · rename_i hc
        cases e
        refine ⟨_, _, rfl, .inl (.inl (u3.s _ _ (u3.f _ _ (u2.f _ _ hr)))), ?_, fun l hl => k _ (upd F3 l _) _ (Up.new u3.s hl) (.tup upd_same ?_)⟩
        · rw [hA.length]
          exact hc
        · exact (((hA.mono u2.f).mono u3.f).cut _ _).mono (Ex.new (u3.s.back hl))⟩
def mRev (mi : ML) : ML := fun z => (mi z).bnd fun xs => .ok xs.reverse
theorem dl_rev {k : Nat} {q1 q2 q3 : Pos} (he : DI T X E e mi) : DL T X E (.Subscript e (.Slice none none (some (.UnaryOp .USub (.Constant (.int 1) k q1) q2)) q3) pos) (mRev mi) := pe_imp (pe_revL he) fun s H Q ⟨F, z, q, h⟩ =>
  ⟨F, z, q, Post.bnd (L := lI T) h fun xs v F1 H1 u1 rx h1 => by
    obtain ⟨p, vs, rfl, hr, hA⟩ := rx
    exact ⟨_, _, rfl, .inl hr, fun l hl => h1 _ F1 _ (Up.newO u1.s hl) ⟨l, _, rfl, hl, u1.s.back hl, upd_same, hA.reverse⟩⟩⟩

/-! ### list + list, list * int -/
def mCat (mi mj : ML) : ML := fun z => (mi z).bnd fun xs => (mj z).bnd fun ys => ofO (lstD (xs ++ ys))
theorem dl_cat (ha : DI T X E a mi) (hb : DI T X E b mj) : DL T X E (.BinOp a .Add b pos) (mCat mi mj) := pe_imp (pe_op op_catR ha hb) fun s H Q ⟨F, z, q, h⟩ =>
  ⟨F, z, q, Post.bnd (L := lI T) h fun xs v F1 H1 u1 rx h1 => by
    obtain ⟨p, vs, rfl, hr, hA⟩ := rx
    refine ⟨F1, z, q.up u1, Post.bnd (L := lI T) h1 fun ys w F2 H2 u2 ry h2 => ?_⟩
    obtain ⟨p2, vs2, rfl, hr2, hA2⟩ := ry
    obtain ⟨d, e, k⟩ := Post.ofO h2
    obtain ⟨hz, rfl⟩ := lstD_some e
    rw [List.length_append] at hz
    refine ⟨_, _, _, _, rfl, rfl, u2.h.rd hr, hr2, by rw [hA.length, hA2.length]; exact hz, fun l hl => k _ F2 _ (Up.newO u2.s hl) ⟨l, _, rfl, hl, u2.s.back hl, upd_same, (hA.mono u2.f).append hA2⟩⟩⟩
def repL (xs : List D) : D → Option (List D)
  | .int k => if -(2 ^ 63) ≤ k ∧ k < 2 ^ 63 ∧ xs.length * k.toNat ≤ sizeLine then some (List.replicate k.toNat xs).flatten else none
  | _ => none
def mRep (mi : ML) (mb : M) : ML := fun z => (mi z).bnd fun xs => (mb z).bnd fun y => ofO (repL xs y)
theorem op_repR : OpR X (binaryOp .Mult) (fun x y H Q => ∃ l k xs, x = .ref l ∧ y = .int k ∧ Rd H l (.lst xs) ∧ -(2 ^ 63) ≤ k ∧ k < 2 ^ 63 ∧ xs.length * k.toNat ≤ sizeLine ∧ ∀ p, H p = none → Q (.ref p) (upd H p (.lst (List.replicate k.toNat xs).flatten))) := by
  intro pins s σ H x y v u Q I rx ry h
  obtain ⟨l, k, xs, rfl, rfl, hH, h1, h2, hz, q⟩ := h
  cases rx
  obtain ⟨t, rfl⟩ := ry
  obtain ⟨z, its, n, r, e⟩ := hH.ok I.hok
  have hl := r.length
  have hlen : its.toArray.size * k.toNat ≤ sizeLine := by rw [List.size_toArray, ← hl]; exact hz
  have hcap : ¬ its.toArray.size * k.toNat > (2 ^ 63 - 1) / 8 := by
    have : (sizeLine : Nat) ≤ (2 ^ 63 - 1) / 8 := by decide
    omega
  have hfit : ¬ (!Builtin.List.listFitsIndex k) = true := by
    rw [fitsIndex_both h1 h2]
    exact Bool.false_ne_true
  have hlong : ¬ Builtin.List.listTooLong (its.toArray.size * k.toNat) = true := by
    rw [notLongL hlen]
    exact Bool.false_ne_true
  have hnew : List.foldl (fun x1 x2 => x1 ++ x2) #[] (List.replicate (if its.toArray.isEmpty = true then 0 else k.toNat) its.toArray) = (List.replicate k.toNat its).flatten.toArray := by
    have f0 : ∀ m : Nat, List.foldl (fun x1 x2 => x1 ++ x2) #[] (List.replicate m its.toArray) = (List.replicate m its).flatten.toArray := fun m => by
      have := foldl_rep its m []
      rw [List.nil_append] at this
      exact this
    rw [f0]
    cases its with
    | nil => simp
    | cons a r' => rw [if_neg (by simp)]
  refine wpAny_binaryOp_repeat_ref (T := "list") (U := "int") (by decide) ⟨_, e, rfl⟩ (fun s' => typeIs_int s' k t) noFill_list_mul F.fills_int_mul F.slot_int_rmul repeat_list F.slot_int_index.lookup
    (call_meets F.slot_int_rmul (typeIs_int s k t) F.entry_int_rmul (F.args_int_rmul_2 _ _) (int___rmul___int_list k t l its.toArray n)
      ⟨e, rfl, ⟨_, e, rfl⟩, call_meets F.slot_list_mul ⟨_, e, rfl⟩ F.entry_list_mul (F.args_list_mul_2 _ _) (AutoListH.list___mul___list_int_3 l its.toArray n k t hfit hcap hlong) ⟨e, ?_⟩⟩)
  rw [hnew]
  exact ⟨.ref _, _, I.lnew (t' := s.toks) (r.rep k.toNat) (by rw [PyProof.Rows.lm_len_rep_flat, Nat.mul_comm]; exact hz), rfl, q _ I.fresh⟩
theorem dl_rep (ha : DI T X E a mi) (hb : DE T X E b mb) : DL T X E (.BinOp a .Mult b pos) (mRep mi mb) := pe_imp (pe_op op_repR ha hb) fun s H Q ⟨F, z, q, h⟩ =>
  ⟨F, z, q, Post.bnd (L := lI T) h fun xs v F1 H1 u1 rx h1 => by
    obtain ⟨p, vs, rfl, hr, hA⟩ := rx
    refine ⟨F1, z, q.up u1, Post.bnd (L := lV T) h1 fun y w F2 H2 u2 ry h2 => ?_⟩
    obtain ⟨d, e, k⟩ := Post.ofO h2
    cases y <;> first | cases e | skip
    rename_i n
    cases ry
    simp only [repL] at e
    split at e
    · rename_i hc
      cases e
      refine ⟨_, _, _, rfl, rfl, u2.h.rd hr, hc.1, hc.2.1, by rw [hA.length]; exact hc.2.2, fun l hl => k _ F2 _ (Up.newO u2.s hl) ⟨l, _, rfl, hl, u2.s.back hl, upd_same, (hA.mono u2.f).rep _⟩⟩
    · cases e⟩

/-! ### built-ins -/
variable {x : Str} {p : Pos}
def lenD : D → Option D
  | .lst xs => some (.int xs.length)
  | .tup xs => some (.int xs.length)
  | _ => none
theorem de_len (hm : X.mg "len" = none) (ha : DE T X E e m) (hg : Gl X "len" := by rfl) (he : starEach [e] X.env = (false, eval e X.env) :: starEach [] X.env := by rfl) : DE T X E (.Call (.Name "len" p) [e] [] pos) (mUn lenD m) :=
  pe_imp (pe_callB call_len_seq hg hm PySem.boot_len (pa_cons ha pa_nil he) (by decide) (by decide) he) fun s H Q ⟨F, z, q, h⟩ =>
  ⟨F, z, q, Post.bnd (L := lV T) h fun x v F1 H1 u1 rx h1 => by
    obtain ⟨d, e, k⟩ := Post.ofO h1
    cases x <;> first | cases e | skip
    · cases rx with
      | lst hr hA => exact ⟨_, _, rfl, .inl (.inl (u1.s.rd hr)), by rw [hA.length]; exact k _ F1 H1 (Up.refl u1.s) (.int _)⟩
    · cases rx with
      | tup hr hA => exact ⟨_, _, rfl, .inr (.inl (.inl (u1.s _ _ hr))), by rw [hA.length]; exact k _ F1 H1 (Up.refl u1.s) (.int _)⟩⟩
def mLenI (mi : ML) : M := fun z => (mi z).bnd fun xs => .ok (.int xs.length)
theorem de_lenI (hm : X.mg "len" = none) (ha : DI T X E e mi) (hg : Gl X "len" := by rfl) (he : starEach [e] X.env = (false, eval e X.env) :: starEach [] X.env := by rfl) : DE T X E (.Call (.Name "len" p) [e] [] pos) (mLenI mi) :=
  pe_imp (pe_callB call_len_seq hg hm PySem.boot_len (pa_cons ha pa_nil he) (by decide) (by decide) he) fun s H Q ⟨F, z, q, h⟩ =>
  ⟨F, z, q, Post.bnd (L := lI T) h fun xs v F1 H1 u1 rx h1 => by
    obtain ⟨p, vs, rfl, hr, hA⟩ := rx
    exact ⟨_, _, rfl, .inl (.inl hr), by rw [hA.length]; exact h1 _ F1 H1 (Up.refl u1.s) (.int _)⟩⟩
/-- all, any of a list of truths -/
def asBs : List D → Option (List Bool)
  | [] => some []
  | .bl b :: xs => (asBs xs).map fun bs => b :: bs
  | _ :: _ => none
theorem asBs_some : ∀ {xs : List D} {bs : List Bool}, asBs xs = some bs → xs = bs.map D.bl
  | [], _, h => by cases h; rfl
  | x :: xs, bs, h => by
    cases x <;> first | cases h | skip
    simp only [asBs] at h
    cases q : asBs xs with
    | none => rw [q] at h; cases h
    | some cs => rw [q] at h; cases h; rw [asBs_some q]; rfl
def mAll (mi : ML) : M := fun z => (mi z).bnd fun xs => (ofO (asBs xs)).bnd fun bs => .ok (.bl (bs.all id))
def mAny (mi : ML) : M := fun z => (mi z).bnd fun xs => (ofO (asBs xs)).bnd fun bs => .ok (.bl (bs.any id))
theorem de_all (hc : X.calm = true) (hm : X.mg "all" = none) (ha : DI T X E e mi) (hg : Gl X "all" := by rfl) (he : starEach [e] X.env = (false, eval e X.env) :: starEach [] X.env := by rfl) : DE T X E (.Call (.Name "all" p) [e] [] pos) (mAll mi) :=
  pe_imp (pe_callB (cr_all hc) hg hm (by decide +kernel) (pa_cons ha pa_nil he) (by decide) (by decide) he) fun s H Q ⟨F, z, q, h⟩ =>
  ⟨F, z, q, Post.bnd (L := lI T) h fun xs v F1 H1 u1 rx h1 => by
    obtain ⟨p, vs, rfl, hr, hA⟩ := rx
    cases qb : asBs xs with
    | none => rw [qb] at h1; exact h1.elim
    | some bs =>
      rw [qb] at h1
      rw [asBs_some qb] at hA
      have := hA.bls
      subst this
      exact ⟨_, bs, rfl, .inl hr, h1 _ F1 H1 (Up.refl u1.s) (.bl _)⟩⟩
theorem de_any (hc : X.calm = true) (hm : X.mg "any" = none) (ha : DI T X E e mi) (hg : Gl X "any" := by rfl) (he : starEach [e] X.env = (false, eval e X.env) :: starEach [] X.env := by rfl) : DE T X E (.Call (.Name "any" p) [e] [] pos) (mAny mi) :=
  pe_imp (pe_callB (cr_any hc) hg hm (by decide +kernel) (pa_cons ha pa_nil he) (by decide) (by decide) he) fun s H Q ⟨F, z, q, h⟩ =>
  ⟨F, z, q, Post.bnd (L := lI T) h fun xs v F1 H1 u1 rx h1 => by
    obtain ⟨p, vs, rfl, hr, hA⟩ := rx
    cases qb : asBs xs with
    | none => rw [qb] at h1; exact h1.elim
    | some bs =>
      rw [qb] at h1
      rw [asBs_some qb] at hA
      have := hA.bls
      subst this
      exact ⟨_, bs, rfl, .inl hr, h1 _ F1 H1 (Up.refl u1.s) (.bl _)⟩⟩
def asIs : List D → Option (List Int)
  | [] => some []
  | .int b :: xs => (asIs xs).map fun bs => b :: bs
  | _ :: _ => none
theorem asIs_some : ∀ {xs : List D} {bs : List Int}, asIs xs = some bs → xs = bs.map D.int
  | [], _, h => by cases h; rfl
  | x :: xs, bs, h => by
    cases x <;> first | cases h | skip
    simp only [asIs] at h
    cases q : asIs xs with
    | none => rw [q] at h; cases h
    | some cs => rw [q] at h; cases h; rw [asIs_some q]; rfl
theorem asIs_map : ∀ ns : List Int, asIs (ns.map D.int) = some ns
  | [] => rfl
  | n :: ns => by rw [List.map_cons]; simp only [asIs]; rw [asIs_map ns]; rfl
theorem asBs_map : ∀ ns : List Bool, asBs (ns.map D.bl) = some ns
  | [] => rfl
  | n :: ns => by rw [List.map_cons]; simp only [asBs]; rw [asBs_map ns]; rfl
def mSum (mi : ML) : M := fun z => (mi z).bnd fun xs => (ofO (asIs xs)).bnd fun ns => .ok (.int ns.sum)
theorem de_sum (hc : X.calm = true) (hm : X.mg "sum" = none) (ha : DI T X E e mi) (hg : Gl X "sum" := by rfl) (he : starEach [e] X.env = (false, eval e X.env) :: starEach [] X.env := by rfl) : DE T X E (.Call (.Name "sum" p) [e] [] pos) (mSum mi) :=
  pe_imp (pe_callB (cr_sum hc) hg hm (by decide +kernel) (pa_cons ha pa_nil he) (by decide) (by decide) he) fun s H Q ⟨F, z, q, h⟩ =>
  ⟨F, z, q, Post.bnd (L := lI T) h fun xs v F1 H1 u1 rx h1 => by
    obtain ⟨p, vs, rfl, hr, hA⟩ := rx
    cases qb : asIs xs with
    | none => rw [qb] at h1; exact h1.elim
    | some ns =>
      rw [qb] at h1
      rw [asIs_some qb] at hA
      have := hA.ints
      subst this
      exact ⟨_, ns, rfl, .inl hr, h1 _ F1 H1 (Up.refl u1.s) (.int _)⟩⟩
def absD : D → Option D
  | .int i => some (.int (if i < 0 then -i else i))
  | _ => none
theorem de_abs (hm : X.mg "abs" = none) (ha : DE T X E e m) (hg : Gl X "abs" := by rfl) (he : starEach [e] X.env = (false, eval e X.env) :: starEach [] X.env := by rfl) : DE T X E (.Call (.Name "abs" p) [e] [] pos) (mUn absD m) :=
  pe_imp (pe_callB call_abs hg hm (by decide +kernel) (pa_cons ha pa_nil he) (by decide) (by decide) he) fun s H Q ⟨F, z, q, h⟩ =>
  ⟨F, z, q, Post.bnd (L := lV T) h fun x v F1 H1 u1 rx h1 => by
    obtain ⟨d, e, k⟩ := Post.ofO h1
    cases x <;> first | cases e | skip
    cases rx
    exact ⟨_, rfl, k _ F1 H1 (Up.refl u1.s) (.int _)⟩⟩
/-- a built-in of two ints -/
def max2 : D → D → Option D := intD fun i j => .int (if j > i then j else i)
def min2 : D → D → Option D := intD fun i j => .int (if j < i then j else i)
theorem de_max2 (hc : X.calm = true) (hm : X.mg "max" = none) (ha : DE T X E a ma) (hb : DE T X E b mb) (hg : Gl X "max" := by rfl) (he : starEach [a, b] X.env = (false, eval a X.env) :: starEach [b] X.env := by rfl) (he2 : starEach [b] X.env = (false, eval b X.env) :: starEach [] X.env := by rfl)
    (hpl : (backTo pos (starEach [b] X.env)).any (·.1) = false := by rfl) : DE T X E (.Call (.Name "max" p) [a, b] [] pos) (mBin max2 ma mb) :=
  pe_imp (pe_callB (call_max2 hc) hg hm (by decide +kernel) (pa_cons ha (pa_cons hb pa_nil he2) he) (by decide) (by decide) he hpl) fun s H Q ⟨F, z, q, h⟩ =>
  ⟨F, z, q, Post.bnd (L := lV T) h fun x v F1 H1 u1 rx h1 => ⟨F1, z, q.up u1, Post.bnd (L := lV T) h1 fun y w F2 H2 u2 ry h2 => by
    obtain ⟨d, e, k⟩ := Post.ofO h2
    obtain ⟨i, j, rfl, rfl, rfl⟩ := intD_some e
    cases rx
    cases ry
    exact ⟨i, j, rfl, k _ F2 H2 (Up.refl u2.s) (.int _)⟩⟩⟩
theorem de_min2 (hc : X.calm = true) (hm : X.mg "min" = none) (ha : DE T X E a ma) (hb : DE T X E b mb) (hg : Gl X "min" := by rfl) (he : starEach [a, b] X.env = (false, eval a X.env) :: starEach [b] X.env := by rfl) (he2 : starEach [b] X.env = (false, eval b X.env) :: starEach [] X.env := by rfl)
    (hpl : (backTo pos (starEach [b] X.env)).any (·.1) = false := by rfl) : DE T X E (.Call (.Name "min" p) [a, b] [] pos) (mBin min2 ma mb) :=
  pe_imp (pe_callB (call_min2 hc) hg hm (by decide +kernel) (pa_cons ha (pa_cons hb pa_nil he2) he) (by decide) (by decide) he hpl) fun s H Q ⟨F, z, q, h⟩ =>
  ⟨F, z, q, Post.bnd (L := lV T) h fun x v F1 H1 u1 rx h1 => ⟨F1, z, q.up u1, Post.bnd (L := lV T) h1 fun y w F2 H2 u2 ry h2 => by
    obtain ⟨d, e, k⟩ := Post.ofO h2
    obtain ⟨i, j, rfl, rfl, rfl⟩ := intD_some e
    cases rx
    cases ry
    exact ⟨i, j, rfl, k _ F2 H2 (Up.refl u2.s) (.int _)⟩⟩⟩
/-- list(x) -/
def mListI (mi : ML) : ML := mi
theorem dl_listI (hm : X.mg "list" = none) (ha : DI T X E e mi) (hg : Gl X "list" := by rfl) (he : starEach [e] X.env = (false, eval e X.env) :: starEach [] X.env := by rfl) : DL T X E (.Call (.Name "list" p) [e] [] pos) mi :=
  pe_imp (pe_callTy call_list_of hg hm (by decide +kernel) (pa_cons ha pa_nil he) (by decide) (by decide) he) fun s H Q ⟨F, z, q, h⟩ =>
  ⟨F, z, q, by
    cases em : mi z with
    | stuck => rw [em] at h; exact h
    | exc c => rw [em] at h; exact h
    | ok xs =>
      rw [em] at h
      intro v F1 H1 u1 rx
      obtain ⟨p, vs, rfl, hr, hA⟩ := rx
      exact ⟨_, _, rfl, .inl (.inl hr), fun l hl => h _ F1 _ (u1.trans (Up.newO u1.s hl)) ⟨l, vs, rfl, u1.h.back hl, u1.s.back hl, upd_same, hA⟩⟩⟩
def asSeq : D → Option (List D)
  | .lst xs => some xs
  | .tup xs => some xs
  | _ => none
def mSeq (m : M) : ML := fun z => (m z).bnd fun x => ofO (asSeq x)
theorem dl_list (hm : X.mg "list" = none) (ha : DE T X E e m) (hg : Gl X "list" := by rfl) (he : starEach [e] X.env = (false, eval e X.env) :: starEach [] X.env := by rfl) : DL T X E (.Call (.Name "list" p) [e] [] pos) (mSeq m) :=
  pe_imp (pe_callTy call_list_of hg hm (by decide +kernel) (pa_cons ha pa_nil he) (by decide) (by decide) he) fun s H Q ⟨F, z, q, h⟩ =>
  ⟨F, z, q, Post.bnd (L := lV T) h fun x v F1 H1 u1 rx h1 => by
    obtain ⟨d, e, k⟩ := Post.ofO h1
    cases x <;> first | cases e | skip
    · cases rx with
      | lst hr hA => exact ⟨_, _, rfl, .inl (.inl (u1.s.rd hr)), fun l hl => k _ F1 _ (Up.newO u1.s hl) ⟨l, _, rfl, hl, u1.s.back hl, upd_same, hA⟩⟩
    · cases rx with
      | tup hr hA => exact ⟨_, _, rfl, .inr (.inl (.inl (u1.s _ _ hr))), fun l hl => k _ F1 _ (Up.newO u1.s hl) ⟨l, _, rfl, hl, u1.s.back hl, upd_same, hA⟩⟩⟩
/-- isinstance(x, a built-in type) -/
inductive BT where
  | int | bool | list | tuple | str
def BT.nm : BT → String
  | .int => "int"
  | .bool => "bool"
  | .list => "list"
  | .tuple => "tuple"
  | .str => "str"
def isB : BT → D → Option Bool
  | .int, .int _ => some true
  | .int, .bl _ => some true
  | .bool, .bl _ => some true
  | .list, .lst _ => some true
  | .tuple, .tup _ => some true
  | .str, .str _ => some true
  | _, .ins _ _ => none
  | _, .fn _ => none
  | _, .scr _ => none
  | _, .lam _ _ => none
  | _, _ => some false
def tyN : D → String
  | .non => "NoneType"
  | .bl _ => "bool"
  | .int _ => "int"
  | .str _ => "str"
  | .lst _ => "list"
  | .tup _ => "tuple"
  | .dct => "dict"
  | .ins _ _ => ""
  | .fn _ => ""
  | .scr _ => ""
  | .lam _ _ => ""
theorem isB_kit {t : BT} {d : D} {b : Bool} (h : isB t d = some b) : kitB (tyN d) t.nm = some b := by
  cases t <;> cases d <;> first | cases h | skip
  all_goals (simp only [tyN, BT.nm]; decide +kernel)
theorem Rp.ty {K : PySem.W.Frag} {F H : Hp} {v : V} {d : D} {t : BT} {b : Bool} (e : Ex F H) (h : Rp T F v d) (hb : isB t d = some b) : TyX K H v (.type (tyN d)) := by
  cases h with
  | non => exact .base .non
  | bl b => exact .base (.bl b)
  | int i => exact .base (.int i)
  | str x => exact .base (.str x)
  | lst hr _ =>
    rcases hr with hr | ⟨o, hr⟩
    · exact .base (.lst (e _ _ hr))
    · exact .base (.frz (e _ _ hr))
  | tup hr _ => exact .base (.tup (e _ _ hr))
  | dct hr => exact .base (.dK (e _ _ hr))
  | ins _ _ _ => cases t <;> cases hb
  | fn _ => cases t <;> cases hb
  | scr _ => cases t <;> cases hb
  | lam _ _ _ _ => cases t <;> cases hb
def isTy (t : BT) (d : D) : Option D := (isB t d).map fun b => .bl b
theorem de_isTy (t : BT) {x : Str} {px : Pos} (hm : X.mg "isinstance" = none) (ha : DE T X E e m) (hx : Gl X x) (hmx : X.mg x = none) (hv : bootBuiltins x = some (.type t.nm)) (hn : x ≠ "__name__" := by decide) (hdx : (x == ("__debug__" : Str)) = false := by decide)
    (hg : Gl X "isinstance" := by rfl) (he : starEach [e, .Name x px] X.env = (false, eval e X.env) :: starEach [.Name x px] X.env := by rfl) :
    DE T X E (.Call (.Name "isinstance" p) [e, .Name x px] [] pos) (mUn (isTy t) m) :=
  pe_imp (pe_callB call_isi hg hm (by decide +kernel) (pa_cons ha (pa_cons (pe_bltn (v := .ty t.nm) hx hmx hv rfl hn hdx) pa_nil rfl) he) (by decide) (by decide) he rfl) fun s H Q ⟨F, z, q, h⟩ =>
  ⟨F, z, q, Post.bnd (L := lV T) h fun x v F1 H1 u1 rx h1 => by
    obtain ⟨d, e, k⟩ := Post.ofO h1
    unfold isTy at e
    cases qb : isB t x with
    | none => rw [qb] at e; cases e
    | some b =>
      rw [qb] at e
      cases e
      exact ⟨v, _, _, _, b, rfl, .ty t.nm, rx.ty u1.s qb, kit_ty (isB_kit qb), k _ F1 H1 (Up.refl u1.s) (.bl b)⟩⟩

/-! ### calls of the text's own defs -/
def spD (T : Tx) (n : Nat) (f : List D → Rs D) : Sp := fun vs H Q E => ∃ F ds, En T F H ∧ RpAll T F vs ds ∧ ds.length = n ∧ Post T E (lV T) F H Q (f ds)
def spL (T : Tx) (n : Nat) (f : List D → Rs (List D)) : Sp := fun vs H Q E => ∃ F ds, En T F H ∧ RpAll T F vs ds ∧ ds.length = n ∧ Post T E (lL T) F H Q (f ds)
structure DefG (P : Program) (w : World) (K : PySem.W.Frag) (mg : Str → Option Value) (base : Heap) (CX : CXT) (k : Nat) (x : Str) (sp : Sp) : Prop where
  ex : ∃ f fd ps, FnOk P w K mg base CX k f fd ps sp ∧ mg x = some (.ref f) ∧ PySem.W.keepIn K (.ref f) = true ∧ Binds K fd ps []
theorem passM {X : Cx} {P : Program} {w : World} : Passes (L2N.CX P w) X E0 := fun _ _ _ _ _ _ _ ⟨_, _, _, _, _, _, _, _, _, _, _, _, z⟩ => z.elim
theorem passN {X : Cx} {E : XK} : Passes CX0 X E := fun _ _ _ _ _ _ _ h => h.elim
variable {CX : CXT} {j k : Nat} {sp : Sp} {ta : TA}
theorem pe_cal (c : DefG X.prog X.w X.K X.mg X.base CX k x sp) (hr : Room j X.A) (hk : k ≤ j) (hp : Passes CX X E) (hg : Gl X x) (ha : PA X (e :: es) ta) (hdb : (x == ("__debug__" : Str)) = false := by decide)
    (he : starEach (e :: es) X.env = (false, eval e X.env) :: starEach es X.env := by rfl) (hpl : (backTo pos (starEach es X.env)).any (·.1) = false := by rfl) : PE X (.Call (.Name x p) (e :: es) [] pos) (tCall sp [] E ta) := by
  obtain ⟨f, fd, ps, F, hm, kp, b⟩ := c.ex
  exact pe_call F (hr.mono hk) hg hm kp b .nil hp ha hdb he hpl
theorem pe_cal0 (c : DefG X.prog X.w X.K X.mg X.base CX k x sp) (hr : Room j X.A) (hk : k ≤ j) (hp : Passes CX X E) (hg : Gl X x) (hdb : (x == ("__debug__" : Str)) = false := by decide) : PE X (.Call (.Name x p) [] [] pos) (tCall sp [] E tNil) := by
  obtain ⟨f, fd, ps, F, hm, kp, b⟩ := c.ex
  exact pe_call0 F (hr.mono hk) hg hm kp b .nil hp hdb
def mCall {α : Type} (n : Nat) (f : List D → Rs α) (ms : ML) : List Sd → Rs α := fun z => (ms z).bnd fun ds => if ds.length = n then f ds else .stuck
theorem call_read {β α : Type} {L : Rl β α} {n : Nat} {f : List D → Rs α} {F : Hp} {s : L2.St} {H : Hp} {z : List Sd} {Q : β → Hp → Prop} {ms : ML} (t : LamX.Tabs T.tabs H) (h : Post T E L F H Q (mCall n f ms z)) :
    Post T E (lA T) F H (fun vs H1 => ∃ F1 ds, En T F1 H1 ∧ RpAll T F1 vs ds ∧ ds.length = n ∧ Post T E L F1 H1 Q (f ds)) (ms z) :=
  Post.bnd (L := lA T) h fun ds vs F1 H1 u1 rx h1 => by
    by_cases hn : ds.length = n
    · rw [if_pos hn] at h1
      exact ⟨F1, ds, ⟨u1.s, u1.h.tb t⟩, rx, hn, h1⟩
    · rw [if_neg hn] at h1
      exact h1.elim
theorem de_call {n : Nat} {f : List D → Rs D} (c : DefG X.prog X.w X.K X.mg X.base CX k x (spD T n f)) (hr : Room j X.A) (hk : k ≤ j) (hp : Passes CX X E) (ha : DA T X E (e :: es) mes) (hg : Gl X x := by rfl) (hdb : (x == ("__debug__" : Str)) = false := by decide)
    (he : starEach (e :: es) X.env = (false, eval e X.env) :: starEach es X.env := by rfl) (hpl : (backTo pos (starEach es X.env)).any (·.1) = false := by rfl) : DE T X E (.Call (.Name x p) (e :: es) [] pos) (mCall n f mes) :=
  pe_imp (pe_cal c hr hk hp hg ha hdb he hpl) fun s H Q ⟨F, z, q, h⟩ => ⟨F, z, q, Post.mapQ (call_read (s := s) q.tb h) fun vs H1 h1 => by
    show spD T n f (vs ++ []) H1 Q E
    rw [List.append_nil]
    exact h1⟩
theorem dl_call {n : Nat} {f : List D → Rs (List D)} (c : DefG X.prog X.w X.K X.mg X.base CX k x (spL T n f)) (hr : Room j X.A) (hk : k ≤ j) (hp : Passes CX X E) (ha : DA T X E (e :: es) mes) (hg : Gl X x := by rfl) (hdb : (x == ("__debug__" : Str)) = false := by decide)
    (he : starEach (e :: es) X.env = (false, eval e X.env) :: starEach es X.env := by rfl) (hpl : (backTo pos (starEach es X.env)).any (·.1) = false := by rfl) : DL T X E (.Call (.Name x p) (e :: es) [] pos) (mCall n f mes) :=
  pe_imp (pe_cal c hr hk hp hg ha hdb he hpl) fun s H Q ⟨F, z, q, h⟩ => ⟨F, z, q, Post.mapQ (call_read (s := s) q.tb h) fun vs H1 h1 => by
    show spL T n f (vs ++ []) H1 Q E
    rw [List.append_nil]
    exact h1⟩
theorem de_call0 {f : List D → Rs D} (c : DefG X.prog X.w X.K X.mg X.base CX k x (spD T 0 f)) (hr : Room j X.A) (hk : k ≤ j) (hp : Passes CX X E) (hg : Gl X x := by rfl) (hdb : (x == ("__debug__" : Str)) = false := by decide) :
    DE T X E (.Call (.Name x p) [] [] pos) (fun _ => f []) :=
  pe_imp (pe_cal0 c hr hk hp hg hdb) fun s H Q ⟨F, z, q, h⟩ => ⟨F, [], q.en, .nil, rfl, h⟩
end
end CL


set_option Elab.async false
set_option linter.all false
set_option maxRecDepth 100000
/-! The data layer, part d: walks, targets, comprehensions. -/
namespace CL
open PySem PySem.Spec L2

/-! ### walks -/
structure ItD (T : Tx) (J : It) (F1 : Hp) (ds : List D) : Prop where
  go : ∀ (i : Nat) (F H : Hp), Ex F1 F → Ex F H → i < ds.length → J.go i H
  yl : ∀ (i : Nat) (F H : Hp) (x : V) (H' : Hp) (d : D), Ex F1 F → Ex F H → ds[i]? = some d → J.yld i H x H' → ∃ F', Up T F H F' H' ∧ Rp T F' x d
  st : ∀ (i : Nat) (F H : Hp), Ex F1 F → Ex F H → ds.length ≤ i → J.stop i H
def lN (T : Tx) : Rl It (List D) := ⟨fun _ F _ J ds => ItD T J F ds, fun _ h => h⟩
def DN (T : Tx) (X : Cx) (E : XK) (tg iter : Expr) (mi : ML) : Prop := PI X tg iter (tG T E (lN T) mi)
theorem pi_imp {X : Cx} {tg e : Expr} {t t' : TI} (h : PI X tg e t) (i : ∀ s H Q, t' s H Q → t s H Q) : PI X tg e t' := ⟨fun pins s σ H Q I q => h.run pins s σ H Q I (i _ _ _ q)⟩
theorem pi_alt {X : Cx} {tg e : Expr} {t t' : TI} (h : PI X tg e t) (h' : PI X tg e t') : PI X tg e (fun s H Q => t s H Q ∨ t' s H Q) := ⟨fun pins s σ H Q I q => q.elim (h.run pins s σ H Q I) (h'.run pins s σ H Q I)⟩
section
variable {T : Tx} {X : Cx} {E : XK} {tg a b c e : Expr} {es : List Expr} {pos : Pos} {ma mb mc m : M} {mes mi mj ml : ML} {ba bb : MB}
theorem itd_list {K : PySem.W.Frag} {F : Hp} {a : Addr} {vs : List V} {ds : List D} (hr : Rd F a (.lst vs)) (hA : RpAll T F vs ds) : ItD T (Itl K a) F ds where
  go := fun i F1 H e1 e2 hi => by
    have hi' : i < vs.length := by rw [hA.length]; exact hi
    exact ⟨vs, vs[i], .inl (e2.rd (e1.rd hr)), List.getElem?_eq_getElem hi'⟩
  yl := fun i F1 H x H' d e1 e2 hd hy => by
    obtain ⟨rfl, hy⟩ := hy
    have h1 := hy vs (.inl (e2.rd (e1.rd hr)))
    obtain ⟨v, h2, h3⟩ := hA.get hd
    rw [h1] at h2
    cases h2
    exact ⟨F1, Up.refl e2, h3.mono e1⟩
  st := fun i F1 H e1 e2 hi => ⟨vs, .inl (e2.rd (e1.rd hr)), by rw [hA.length]; exact hi⟩
theorem itd_tup {K : PySem.W.Frag} {F : Hp} {a : Addr} {vs : List V} {ds : List D} (hr : F a = some (.tup vs)) (hA : RpAll T F vs ds) : ItD T (Itt K a) F ds where
  go := fun i F1 H e1 e2 hi => by
    have hi' : i < vs.length := by rw [hA.length]; exact hi
    exact ⟨vs, vs[i], .inl (.inl (e2 _ _ (e1 _ _ hr))), List.getElem?_eq_getElem hi'⟩
  yl := fun i F1 H x H' d e1 e2 hd hy => by
    obtain ⟨rfl, hy⟩ := hy
    have h1 := hy vs (.inl (.inl (e2 _ _ (e1 _ _ hr))))
    obtain ⟨v, h2, h3⟩ := hA.get hd
    rw [h1] at h2
    cases h2
    exact ⟨F1, Up.refl e2, h3.mono e1⟩
  st := fun i F1 H e1 e2 hi => ⟨vs, .inl (.inl (e2 _ _ (e1 _ _ hr))), by rw [hA.length]; exact hi⟩
/-- over a list or a tuple -/
theorem dn_seq (h : DE T X E e m) : DN T X E tg e (mSeq m) := pi_imp (pi_alt (pi_list h) (pi_tup h)) fun s H Q ⟨F, z, q, h⟩ => by
  unfold mSeq at h
  cases em : m z with
  | stuck => rw [em] at h; exact h.elim
  | exc c =>
    rw [em] at h
    exact .inl ⟨F, z, q, by rw [em]; exact h⟩
  | ok x =>
    rw [em] at h
    obtain ⟨d, e, k⟩ := Post.ofO h
    cases x <;> first | cases e | skip
    · refine .inl ⟨F, z, q, ?_⟩
      rw [em]
      intro v F1 H1 u1 rx
      cases rx with
      | lst hr hA => exact ⟨_, rfl, ⟨_, .inl (u1.s.rd hr)⟩, k _ F1 H1 u1 (itd_list hr hA)⟩
    · refine .inr ⟨F, z, q, ?_⟩
      rw [em]
      intro v F1 H1 u1 rx
      cases rx with
      | tup hr hA => exact ⟨_, rfl, ⟨_, .inl (.inl (u1.s _ _ hr))⟩, k _ F1 H1 u1 (itd_tup hr hA)⟩
def rgD (lo : Int) (n : Nat) : List D := (List.range n).map fun (i : Nat) => D.int (lo + (i : Nat))
theorem itd_range {F : Hp} {lo : Int} {n : Nat} : ItD T (Itr lo n) F (rgD lo n) where
  go := fun i F1 H e1 e2 hi => by
    unfold rgD at hi
    rw [List.length_map, List.length_range] at hi
    exact hi
  yl := fun i F1 H x H' d e1 e2 hd hy => by
    obtain ⟨rfl, rfl⟩ := hy
    unfold rgD at hd
    rw [List.getElem?_map] at hd
    cases q : (List.range n)[i]? with
    | none => rw [q] at hd; cases hd
    | some j =>
      rw [q] at hd
      have := (List.getElem?_eq_some_iff.mp q).2
      rw [List.getElem_range] at this
      subst this
      cases hd
      exact ⟨F1, Up.refl e2, .int _⟩
  st := fun i F1 H e1 e2 hi => by
    unfold rgD at hi
    rw [List.length_map, List.length_range] at hi
    exact hi
def rng1 : List D → Option (List D)
  | [.int j] => if -(2 ^ 62) ≤ j ∧ j < 2 ^ 62 then some (rgD 0 j.toNat) else none
  | _ => none
def rng2 : List D → Option (List D)
  | [.int i, .int j] => if -(2 ^ 62) ≤ i ∧ i < 2 ^ 62 ∧ -(2 ^ 62) ≤ j ∧ j < 2 ^ 62 then some (rgD i (j - i).toNat) else none
  | _ => none
theorem rng1_some {xs ds : List D} (h : rng1 xs = some ds) : ∃ j : Int, xs = [.int j] ∧ -(2 ^ 62) ≤ j ∧ j < 2 ^ 62 ∧ ds = rgD 0 j.toNat := by
  unfold rng1 at h
  split at h
  · rename_i j
    split at h
    · rename_i hc
      exact ⟨j, rfl, hc.1, hc.2, (Option.some.inj h).symm⟩
    · cases h
  · cases h
theorem rng2_some {xs ds : List D} (h : rng2 xs = some ds) : ∃ i j : Int, xs = [.int i, .int j] ∧ (-(2 ^ 62) ≤ i ∧ i < 2 ^ 62 ∧ -(2 ^ 62) ≤ j ∧ j < 2 ^ 62) ∧ ds = rgD i (j - i).toNat := by
  unfold rng2 at h
  split at h
  · rename_i i j
    split at h
    · rename_i hc
      exact ⟨i, j, rfl, hc, (Option.some.inj h).symm⟩
    · cases h
  · cases h
def mOf (f : List D → Option (List D)) (ms : ML) : ML := fun z => (ms z).bnd fun xs => ofO (f xs)
variable {p : Pos}
theorem RpAll.one {F : Hp} {vs : List V} {d : D} (h : RpAll T F vs [d]) : ∃ v, vs = [v] ∧ Rp T F v d := by
  cases h with
  | cons r t => cases t; exact ⟨_, rfl, r⟩
theorem RpAll.two {F : Hp} {vs : List V} {d d2 : D} (h : RpAll T F vs [d, d2]) : ∃ v w, vs = [v, w] ∧ Rp T F v d ∧ Rp T F w d2 := by
  cases h with
  | cons r t =>
    obtain ⟨w, rfl, r2⟩ := t.one
    exact ⟨_, w, rfl, r, r2⟩
theorem dn_range1 (hm : X.mg "range" = none) (ha : DA T X E [a] mes) (hg : Gl X "range" := by rfl) (hs : starEach [a] X.env = [(false, eval a X.env)] := by rfl) : DN T X E tg (.Call (.Name "range" p) [a] [] pos) (mOf rng1 mes) :=
  pi_imp (pi_range1 hg hm ha hs) fun s H Q ⟨F, z, q, h⟩ => ⟨F, z, q, Post.bnd (L := lA T) h fun xs vs F1 H1 u1 rx h1 => by
    obtain ⟨d, e, k⟩ := Post.ofO h1
    obtain ⟨j, rfl, h1, h2, rfl⟩ := rng1_some e
    obtain ⟨v, rfl, r⟩ := RpAll.one rx
    cases r
    exact ⟨j, rfl, h1, h2, k _ F1 H1 (Up.refl u1.s) itd_range⟩⟩
theorem dn_range2 (hm : X.mg "range" = none) (ha : DA T X E [a, b] mes) (hg : Gl X "range" := by rfl) (hs : starEach [a, b] X.env = [(false, eval a X.env), (false, eval b X.env)] := by rfl) (hs2 : starEach [b] X.env = [(false, eval b X.env)] := by rfl) :
    DN T X E tg (.Call (.Name "range" p) [a, b] [] pos) (mOf rng2 mes) :=
  pi_imp (pi_range2 hg hm ha hs hs2) fun s H Q ⟨F, z, q, h⟩ => ⟨F, z, q, Post.bnd (L := lA T) h fun xs vs F1 H1 u1 rx h1 => by
    obtain ⟨d, e, k⟩ := Post.ofO h1
    obtain ⟨i, j, rfl, hc, rfl⟩ := rng2_some e
    obtain ⟨v, w, rfl, r, r2⟩ := RpAll.two rx
    cases r
    cases r2
    exact ⟨i, j, rfl, hc, k _ F1 H1 (Up.refl u1.s) itd_range⟩⟩
/-- zip of two lists -/
def zipD : List D → List D → List D
  | x :: xs, y :: ys => .tup [x, y] :: zipD xs ys
  | _, _ => []
theorem zipD_get : ∀ {xs ys : List D} {i : Nat} {d : D}, (zipD xs ys)[i]? = some d → ∃ x y, xs[i]? = some x ∧ ys[i]? = some y ∧ d = .tup [x, y]
  | [], _, _, _, h => by simp [zipD] at h
  | _ :: _, [], _, _, h => by simp [zipD] at h
  | x :: xs, y :: ys, 0, d, h => by simp [zipD] at h; exact ⟨x, y, rfl, rfl, h.symm⟩
  | x :: xs, y :: ys, i + 1, d, h => by
    simp only [zipD, List.getElem?_cons_succ] at h ⊢
    exact zipD_get h
theorem zipD_length : ∀ (xs ys : List D), (zipD xs ys).length = min xs.length ys.length
  | [], _ => by simp [zipD]
  | _ :: _, [] => by simp [zipD]
  | x :: xs, y :: ys => by simp only [zipD, List.length_cons, zipD_length xs ys]; omega
def zip2 : List D → Option (List D)
  | [.lst xs, .lst ys] => some (zipD xs ys)
  | _ => none
theorem zip2_some {xs ds : List D} (h : zip2 xs = some ds) : ∃ us ws, xs = [.lst us, .lst ws] ∧ ds = zipD us ws := by
  unfold zip2 at h
  split at h
  · exact ⟨_, _, rfl, (Option.some.inj h).symm⟩
  · cases h
theorem itd_zip {K : PySem.W.Frag} {F : Hp} {a b : Addr} {vs ws : List V} {ds es : List D} (hr : Rd F a (.lst vs)) (hA : RpAll T F vs ds) (hr2 : Rd F b (.lst ws)) (hA2 : RpAll T F ws es) : ItD T (Itz K a b) F (zipD ds es) where
  go := fun i F1 H e1 e2 hi => by
    rw [zipD_length] at hi
    have h1 : i < vs.length := by rw [hA.length]; omega
    have h2 : i < ws.length := by rw [hA2.length]; omega
    exact ⟨vs, ws, vs[i], ws[i], .inl (e2.rd (e1.rd hr)), .inl (e2.rd (e1.rd hr2)), List.getElem?_eq_getElem h1, List.getElem?_eq_getElem h2⟩
  yl := fun i F1 H x H' d e1 e2 hd hy => by
    obtain ⟨t, u, w, rfl, ht, rfl, y1, y2⟩ := hy
    have h1 := y1 vs (.inl (e2.rd (e1.rd hr)))
    have h2 := y2 ws (.inl (e2.rd (e1.rd hr2)))
    obtain ⟨dx, dy, g1, g2, rfl⟩ := zipD_get hd
    obtain ⟨v1, h3, h4⟩ := hA.get g1
    obtain ⟨v2, h5, h6⟩ := hA2.get g2
    rw [h1] at h3
    rw [h2] at h5
    cases h3
    cases h5
    have eF := e1.trans (Ex.new (o := .tup [u, w]) (e2.back ht))
    exact ⟨upd F1 t _, Up.new e2 ht, .tup upd_same (.cons (h4.mono eF) (.cons (h6.mono eF) .nil))⟩
  st := fun i F1 H e1 e2 hi => by
    rw [zipD_length] at hi
    refine ⟨vs, ws, .inl (e2.rd (e1.rd hr)), .inl (e2.rd (e1.rd hr2)), ?_⟩
    rw [hA.length, hA2.length]
    omega
variable {elts : List Expr} {kk : Nat} {tpos : Pos}
theorem dn_zip (hm : X.mg "zip" = none) (ha : DA T X E [a, b] mes) (hg : Gl X "zip" := by rfl) (hs : starEach [a, b] X.env = (false, eval a X.env) :: starEach [b] X.env := by rfl) (hpl : (backTo pos (starEach [b] X.env)).any (·.1) = false := by rfl) :
    DN T X E (.Tuple elts kk tpos) (.Call (.Name "zip" p) [a, b] [] pos) (mOf zip2 mes) :=
  pi_imp (pi_zip hg hm ha hs hpl) fun s H Q ⟨F, z, q, h⟩ => ⟨F, z, q, Post.bnd (L := lA T) h fun xs vs F1 H1 u1 rx h1 => by
    obtain ⟨d, e, k⟩ := Post.ofO h1
    obtain ⟨us, ws, rfl, rfl⟩ := zip2_some e
    obtain ⟨v, w, rfl, r, r2⟩ := RpAll.two rx
    cases r with
    | lst hr hA =>
      cases r2 with
      | lst hr2 hA2 => exact ⟨_, _, _, _, rfl, .inl (u1.s.rd hr), .inl (u1.s.rd hr2), k _ F1 H1 (Up.refl u1.s) (itd_zip hr hA hr2 hA2)⟩⟩
/-- enumerate of a list -/
def enumD (n : Nat) : List D → List D
  | [] => []
  | x :: xs => .tup [.int (n : Nat), x] :: enumD (n + 1) xs
theorem enumD_get : ∀ {xs : List D} {n i : Nat} {d : D}, (enumD n xs)[i]? = some d → ∃ x, xs[i]? = some x ∧ d = .tup [.int ((n + i : Nat) : Int), x]
  | [], _, _, _, h => by simp [enumD] at h
  | x :: xs, n, 0, d, h => by simp [enumD] at h; exact ⟨x, rfl, h.symm⟩
  | x :: xs, n, i + 1, d, h => by
    simp only [enumD, List.getElem?_cons_succ] at h ⊢
    obtain ⟨y, h1, h2⟩ := enumD_get h
    exact ⟨y, h1, by rw [h2, show n + 1 + i = n + (i + 1) by omega]⟩
theorem enumD_length : ∀ (xs : List D) (n : Nat), (enumD n xs).length = xs.length
  | [], _ => rfl
  | x :: xs, n => by simp only [enumD, List.length_cons, enumD_length xs]
def enum1 : List D → Option (List D)
  | [.lst xs] => some (enumD 0 xs)
  | _ => none
theorem enum1_some {xs ds : List D} (h : enum1 xs = some ds) : ∃ us, xs = [.lst us] ∧ ds = enumD 0 us := by
  unfold enum1 at h
  split at h
  · exact ⟨_, rfl, (Option.some.inj h).symm⟩
  · cases h
theorem itd_enum {K : PySem.W.Frag} {F : Hp} {a : Addr} {vs : List V} {ds : List D} (hr : Rd F a (.lst vs)) (hA : RpAll T F vs ds) : ItD T (Ite K a) F (enumD 0 ds) where
  go := fun i F1 H e1 e2 hi => by
    rw [enumD_length] at hi
    have h1 : i < vs.length := by rw [hA.length]; omega
    exact ⟨vs, vs[i], .inl (e2.rd (e1.rd hr)), List.getElem?_eq_getElem h1⟩
  yl := fun i F1 H x H' d e1 e2 hd hy => by
    obtain ⟨t, u, rfl, ht, rfl, y1⟩ := hy
    have h1 := y1 vs (.inl (e2.rd (e1.rd hr)))
    obtain ⟨dx, g1, rfl⟩ := enumD_get hd
    obtain ⟨v1, h3, h4⟩ := hA.get g1
    rw [h1] at h3
    cases h3
    rw [Nat.zero_add]
    have eF := e1.trans (Ex.new (o := .tup [.int (i : Nat), u]) (e2.back ht))
    exact ⟨upd F1 t _, Up.new e2 ht, .tup upd_same (.cons (.int _) (.cons (h4.mono eF) .nil))⟩
  st := fun i F1 H e1 e2 hi => by
    rw [enumD_length] at hi
    exact ⟨vs, .inl (e2.rd (e1.rd hr)), by rw [hA.length]; exact hi⟩
theorem dn_enum (hm : X.mg "enumerate" = none) (ha : DA T X E [a] mes) (hg : Gl X "enumerate" := by rfl) (hs : starEach [a] X.env = [(false, eval a X.env)] := by rfl) :
    DN T X E (.Tuple elts kk tpos) (.Call (.Name "enumerate" p) [a] [] pos) (mOf enum1 mes) :=
  pi_imp (pi_enum hg hm ha hs) fun s H Q ⟨F, z, q, h⟩ => ⟨F, z, q, Post.bnd (L := lA T) h fun xs vs F1 H1 u1 rx h1 => by
    obtain ⟨d, e, k⟩ := Post.ofO h1
    obtain ⟨us, rfl, rfl⟩ := enum1_some e
    obtain ⟨v, rfl, r⟩ := RpAll.one rx
    cases r with
    | lst hr hA => exact ⟨_, _, rfl, .inl (u1.s.rd hr), k _ F1 H1 (Up.refl u1.s) (itd_enum hr hA)⟩⟩
/-- list(range(..)) -/
def rgOk (a b : Int) : Bool := decide (-(2 ^ 62) ≤ a ∧ a < 2 ^ 62 ∧ -(2 ^ 62) ≤ b ∧ b < 2 ^ 62 ∧ (b - a).toNat ≤ 2 ^ 24)
def mListRg (m : M) : ML := fun z => (m z).bnd fun x => (ofO (asI x)).bnd fun n => if rgOk 0 n then .ok (rgD 0 n.toNat) else .stuck
theorem rpAll_rg {F : Hp} (lo : Int) : ∀ l : List Nat, RpAll T F (l.map fun i => V.int (lo + (i : Nat))) (l.map fun i => D.int (lo + (i : Nat)))
  | [] => .nil
  | i :: l => .cons (.int _) (rpAll_rg lo l)
theorem dl_listRg (hc : X.calm = true) (hm : X.mg "list" = none) (hm2 : X.mg "range" = none) (ha : DE T X E a m) (hg : Gl X "list" := by rfl) (hg2 : Gl X "range" := by rfl) {p2 pos2 : Pos}
    (na : starEach [a] X.env = (false, eval a X.env) :: starEach [] X.env := by rfl) (nb : starEach [.Call (.Name "range" p2) [a] [] pos2] X.env = (false, eval (.Call (.Name "range" p2) [a] [] pos2) X.env) :: starEach [] X.env := by rfl) :
    DL T X E (.Call (.Name "list" p) [.Call (.Name "range" p2) [a] [] pos2] [] pos) (mListRg m) := pe_imp (pe_listRg hc hg hm (prg_1 hg2 hm2 ha na) nb) fun s H Q ⟨F, z, q, h⟩ =>
  ⟨F, z, q, Post.bnd (L := lV T) h fun x v F1 H1 u1 rx h1 => by
    cases qx : asI x with
    | none => rw [qx] at h1; exact h1.elim
    | some n =>
      rw [qx] at h1
      cases asI_some qx
      cases rx
      have h2 : Post T E (lL T) F1 H1 Q (if rgOk 0 n = true then .ok (rgD 0 n.toNat) else .stuck) := h1
      by_cases hb : rgOk 0 n = true
      · rw [if_pos hb] at h2
        refine ⟨n, rfl, of_decide_eq_true (p := -(2 ^ 62) ≤ (0 : Int) ∧ (0 : Int) < 2 ^ 62 ∧ -(2 ^ 62) ≤ n ∧ n < 2 ^ 62 ∧ (n - 0).toNat ≤ 2 ^ 24) hb, fun l hl => h2 _ F1 _ (Up.newO u1.s hl) ⟨l, _, rfl, hl, u1.s.back hl, upd_same, ?_⟩⟩
        unfold rgV rgD
        rw [Int.sub_zero]
        exact rpAll_rg 0 _
      · rw [if_neg hb] at h2
        exact h2.elim⟩

/-! ### targets: a name, names in a tuple -/
inductive Tg where
  | nm (i : Nat) | tp (is : List Nat)
def Tg.slots : Tg → List Nat
  | .nm i => [i]
  | .tp is => is
def setAll : List Nat → List D → List Sd → List Sd
  | i :: is, d :: ds, z => setAll is ds (z.set i (.sh d))
  | _, _, z => z
def setT : Tg → D → List Sd → Rs (List Sd)
  | .nm i, d, z => .ok (z.set i (.sh d))
  | .tp is, .tup ds, z => if ds.length = is.length then .ok (setAll is ds z) else .stuck
  | _, _, _ => .stuck
def setAllS : List Nat → List V → L2.St → L2.St
  | i :: is, d :: ds, z => setAllS is ds (z.set i (some d))
  | _, _, z => z
theorem R.setAll {F H : Hp} : ∀ {is : List Nat} {vs : List V} {ds : List D} {s : L2.St} {z : List Sd}, R T F H s z → RpAll T F vs ds → R T F H (setAllS is vs s) (setAll is ds z)
  | [], _, _, _, _, r, _ => by unfold setAllS CL.setAll; exact r
  | _ :: _, _, _, _, _, r, .nil => by unfold setAllS CL.setAll; exact r
  | i :: is, _, _, _, _, r, .cons h t => by
    unfold setAllS CL.setAll
    exact R.setAll (r.set h) t
/-- all but these slots are as they were -/
def ButS (is : List Nat) (s s' : L2.St) : Prop := s'.length = s.length ∧ ∀ j, j ∉ is → s'[j]? = s[j]?
theorem butS_setAll : ∀ {is : List Nat} {vs : List V} {s : L2.St}, ButS is s (setAllS is vs s)
  | [], _, _ => by unfold setAllS; exact ⟨rfl, fun _ _ => rfl⟩
  | _ :: _, [], _ => by unfold setAllS; exact ⟨rfl, fun _ _ => rfl⟩
  | i :: is, v :: vs, s => by
    unfold setAllS
    obtain ⟨h1, h2⟩ := butS_setAll (is := is) (vs := vs) (s := s.set i (some v))
    refine ⟨by rw [h1, List.length_set], fun j hj => ?_⟩
    rw [List.mem_cons, not_or] at hj
    rw [h2 j hj.2, List.getElem?_set_ne (Ne.symm hj.1)]
def tTg (T : Tx) (t : Tg) : TG := fun v s H Q => ∃ F z d z', R T F H s z ∧ Rp T F v d ∧ setT t d z = .ok z' ∧ ∀ s', R T F H s' z' → ButS t.slots s s' → Q s' H
def DG (T : Tx) (X : Cx) (tg : Expr) (t : Tg) : Prop := PG X tg (tTg T t)
theorem pg_imp {X : Cx} {tg : Expr} {t t' : TG} (h : PG X tg t) (i : ∀ v s H Q, t' v s H Q → t v s H Q) : PG X tg t' := ⟨fun pins s σ H v u Q I r q => h.run pins s σ H v u Q I r (i _ _ _ _ q)⟩
theorem dg_nm {i : Nat} {x : Str} (hN : X.N.Nodup) (hi : X.N[i]? = some x := by rfl) (hx : Loc X.env.scope x := by first | exact Or.inl rfl | exact Or.inr rfl) (hf : X.fn x = true ∨ X.env.scope.names.lookup x = some .local := by first | exact .inl rfl | exact .inr rfl | assumption) :
    DG T X (.Name x pos) (.nm i) := pg_imp (pg_name hN hi hx hf) fun v s H Q ⟨F, z, d, z', r, h, e, k⟩ => by
  cases e
  exact k _ (r.set h) (butS_setAll (is := [i]) (vs := [v]) (s := s))
/-- names one behind the other -/
def tNames (is : List Nat) : TGs := fun vs s H Q => vs.length = is.length ∧ Q (setAllS is vs s) H
def DGs (X : Cx) (tgs : List Expr) (is : List Nat) : Prop := PGs X tgs (tNames is)
theorem pgs_imp {X : Cx} {tg : List Expr} {t t' : TGs} (h : PGs X tg t) (i : ∀ v s H Q, t' v s H Q → t v s H Q) : PGs X tg t' := ⟨fun pins s σ H v u Q I r q => h.run pins s σ H v u Q I r (i _ _ _ _ q)⟩
theorem dgs_nil : DGs X [] [] := pgs_imp pgs_nil fun vs s H Q ⟨h, q⟩ => by
  cases vs with
  | nil => exact ⟨rfl, q⟩
  | cons v vs => cases h
theorem dgs_cons {i : Nat} {is : List Nat} {x : Str} {tgs : List Expr} (hN : X.N.Nodup) (hr : DGs X tgs is) (hi : X.N[i]? = some x := by rfl) (hx : Loc X.env.scope x := by first | exact Or.inl rfl | exact Or.inr rfl) (hf : X.fn x = true ∨ X.env.scope.names.lookup x = some .local := by first | exact .inl rfl | exact .inr rfl | assumption)
    (hs : (assignEach (.Name x pos :: tgs) X.env).map (·.2) = assign (.Name x pos) X.env :: (assignEach tgs X.env).map (·.2) := by rfl) : DGs X (.Name x pos :: tgs) (i :: is) := pgs_imp (pgs_cons (pg_name hN hi hx hf) hr hs) fun vs s H Q ⟨h, q⟩ => by
  cases vs with
  | nil => cases h
  | cons v vs => exact ⟨v, vs, rfl, by simpa using h, q⟩
theorem dg_tp {tgs : List Expr} {is : List Nat} {k : Nat} (hc : X.calm = true) (h : DGs X tgs is) (hn : (assignEach tgs X.env).length = is.length := by rfl) (hst : (assignEach tgs X.env).findIdx? (·.1) = none := by rfl) : DG T X (.Tuple tgs k pos) (.tp is) :=
  pg_imp (pg_tup hc h hn hst) fun v s H Q ⟨F, z, d, z', r, h, e, kk⟩ => by
  cases d <;> first | cases e | skip
  rename_i ds
  simp only [setT] at e
  split at e
  · rename_i hl
    cases e
    cases h with
    | tup hr hA =>
      have hl2 := hA.length
      exact ⟨_, _, rfl, .inl (.inl (r.ex _ _ hr)), by omega, by omega, kk _ (r.setAll hA) butS_setAll⟩
  · cases e

/-! ### comprehensions -/
def wipeD (z : List Sd) : List Nat → List Sd
  | [] => z
  | v :: vs => (wipeD z vs).set v .no
theorem R.setNo {F H : Hp} {s : L2.St} {z : List Sd} {i : Nat} (r : R T F H s z) : R T F H (s.set i none) (z.set i .no) := by
  refine ⟨r.ex, fun j y q hn => ?_, fun j k y1 y2 v1 v2 p q1 q2 q3 q4 o1 o2 => ?_, by rw [List.length_set, List.length_set]; exact r.len, r.tb⟩
  · rcases set_at q with ⟨_, e, _⟩ | ⟨n, q⟩
    · exact absurd e hn
    · rw [List.getElem?_set_ne n]
      exact r.sl j y q hn
  · rcases set_at q1 with ⟨_, e, _⟩ | ⟨n1, g1⟩
    · rw [e] at o1
      exact o1.elim
    · rcases set_at q2 with ⟨_, e, _⟩ | ⟨n2, g2⟩
      · rw [e] at o2
        exact o2.elim
      · rw [List.getElem?_set_ne n1] at q3
        rw [List.getElem?_set_ne n2] at q4
        exact r.ap j k y1 y2 v1 v2 p g1 g2 q3 q4 o1 o2
theorem R.wipe {F H : Hp} {s : L2.St} {z : List Sd} (r : R T F H s z) : ∀ vs : List Nat, R T F H (wipe s vs) (wipeD z vs)
  | [] => r
  | v :: vs => by
    unfold L2.wipe wipeD
    exact (R.wipe r vs).setNo
theorem wipe_out {s : L2.St} {j : Nat} : ∀ {vs : List Nat}, j ∉ vs → (wipe s vs)[j]? = s[j]?
  | [], _ => rfl
  | v :: vs, h => by
    rw [List.mem_cons, not_or] at h
    unfold L2.wipe
    rw [List.getElem?_set_ne (Ne.symm h.1)]
    exact wipe_out h.2
theorem wipe_in {s : L2.St} {j : Nat} (hl : j < s.length) : ∀ {vs : List Nat}, j ∈ vs → (wipe s vs)[j]? = some none
  | [], h => by cases h
  | v :: vs, h => by
    unfold L2.wipe
    by_cases e : v = j
    · subst e
      rw [List.getElem?_set_self (by rw [wipe_length]; exact hl)]
    · rw [List.getElem?_set_ne e]
      exact wipe_in hl ((List.mem_cons.mp h).resolve_left (Ne.symm e))
theorem wipe_but {is vs : List Nat} {s s' : L2.St} (h : ButS is (wipe s vs) s') (hs : ∀ i ∈ is, i ∈ vs) : wipe s' vs = wipe s vs := by
  obtain ⟨h1, h2⟩ := h
  rw [wipe_length] at h1
  apply List.ext_getElem?
  intro j
  by_cases hj : j ∈ vs
  · by_cases hl : j < s.length
    · rw [wipe_in hl hj, wipe_in (by omega) hj]
    · rw [List.getElem?_eq_none (by rw [wipe_length]; omega), List.getElem?_eq_none (by rw [wipe_length]; omega)]
  · rw [wipe_out hj, h2 j (fun hi => hj (hs j hi))]
def noX {α : Type} : Rs α → Rs α
  | .exc _ => .stuck
  | x => x
def compD (t : Tg) (me : M) (z : List Sd) : List D → Rs (List D)
  | [] => .ok []
  | d :: ds => (setT t d z).bnd fun z1 => (noX (me z1)).bnd fun x => (compD t me z ds).bnd fun xs => .ok (x :: xs)
def mComp (t : Tg) (vs : List Nat) (mi : ML) (me : M) : ML := fun z => (mi z).bnd fun ds => if ds.length ≤ sizeLine then compD t me (wipeD z vs) ds else .stuck
theorem compD_ok {t : Tg} {me : M} {z : List Sd} {d : D} {ds full : List D} (h : compD t me z (d :: ds) = .ok full) : ∃ z1 x xs, setT t d z = .ok z1 ∧ me z1 = .ok x ∧ compD t me z ds = .ok xs ∧ full = x :: xs := by
  simp only [compD] at h
  cases h1 : setT t d z with
  | stuck => rw [h1] at h; cases h
  | exc c => rw [h1] at h; cases h
  | ok z1 =>
    rw [h1] at h
    cases h2 : me z1 with
    | stuck => rw [bnd_ok, h2] at h; cases h
    | exc c => rw [bnd_ok, h2] at h; cases h
    | ok x =>
      rw [bnd_ok, h2] at h
      cases h3 : compD t me z ds with
      | stuck => rw [h3] at h; cases h
      | exc c => rw [h3] at h; cases h
      | ok xs =>
        rw [h3] at h
        cases h
        exact ⟨z1, x, xs, rfl, h2, rfl, rfl⟩
theorem setT_noexc (t : Tg) (d : D) (z : List Sd) (c : Nat) : setT t d z ≠ .exc c := by
  intro h
  cases t with
  | nm i => cases h
  | tp is =>
    cases d <;> first | cases h | skip
    simp only [setT] at h
    split at h <;> cases h
theorem compD_noexc {t : Tg} {me : M} {z : List Sd} : ∀ (ds : List D) (c : Nat), compD t me z ds ≠ .exc c
  | [], c, h => by cases h
  | d :: ds, c, h => by
    simp only [compD] at h
    cases h1 : setT t d z with
    | stuck => rw [h1] at h; cases h
    | exc c' => exact setT_noexc t d z c' h1
    | ok z1 =>
      rw [h1, bnd_ok] at h
      cases h2 : me z1 with
      | stuck => rw [h2] at h; cases h
      | exc c => rw [h2] at h; cases h
      | ok x =>
        rw [h2] at h
        cases h3 : compD t me z ds with
        | stuck => rw [h3] at h; cases h
        | exc c' => exact compD_noexc ds c' h3
        | ok xs => rw [h3] at h; cases h
/-- the reading of a comprehension -/
theorem comp_read {t : Tg} {vs : List Nat} {me : M} (hs : ∀ i ∈ t.slots, i ∈ vs) : ∀ (s : L2.St) (H : Hp) (Q : VK), tG T E (lL T) (mComp t vs mi me) s H Q → tLc (tG T E (lN T) mi) (tTg T t) tYes (tG T E0 (lV T) me) vs s H Q := by
  rintro s H Q ⟨F, z, q, h⟩
  refine ⟨F, z, q, ?_⟩
  unfold mComp at h
  cases em : mi z with
  | stuck => rw [em] at h; exact h
  | exc c => rw [em] at h; exact h
  | ok ds =>
    rw [em] at h
    have h' : Post T E (lL T) F H Q (if ds.length ≤ sizeLine then compD t me (wipeD z vs) ds else .stuck) := h
    by_cases hz : ds.length ≤ sizeLine
    · rw [if_pos hz] at h'
      cases ec : compD t me (wipeD z vs) ds with
      | stuck => rw [ec] at h'; exact h'.elim
      | exc c => exact (compD_noexc ds c ec).elim
      | ok full =>
        rw [ec] at h'
        intro J F1 H1 u1 it Dd hD
        have qw : ∀ {F' H' : Hp}, Up T F1 H1 F' H' → R T F' H' (wipe s vs) (wipeD z vs) := fun u => (q.wipe vs).up (u1.trans u)
        refine ⟨fun i m H' => m = ds.length - i ∧ i ≤ ds.length ∧ ∃ F' acc dacc rest, Up T F1 H1 F' H' ∧ H' Dd = some (.lst acc) ∧ F' Dd = none ∧ RpAll T F' acc dacc ∧ dacc.length = i ∧ compD t me (wipeD z vs) (ds.drop i) = .ok rest ∧ full = dacc ++ rest,
          ⟨ds.length, by simp, Nat.zero_le _, F1, [], [], full, Up.newO u1.s hD, upd_same, u1.s.back hD, .nil, rfl, ec, rfl⟩, ?_⟩
        rintro i m H' ⟨rfl, hi, F', acc, dacc, rest, u', hacc, hf, hA, hl, hc, hfull⟩
        by_cases hlt : i < ds.length
        · have hd : ds[i]? = some ds[i] := List.getElem?_eq_getElem hlt
          have hdrop : ds.drop i = ds[i] :: ds.drop (i + 1) := List.drop_eq_getElem_cons hlt
          rw [hdrop] at hc
          obtain ⟨z1, x, xs, e1, e2, e3, e4⟩ := compD_ok hc
          refine .inr ⟨it.go i F' H' u'.f u'.s hlt, fun H'' => (∃ F' acc dacc rest, Up T F1 H1 F' H'' ∧ H'' Dd = some (.lst acc) ∧ F' Dd = none ∧ RpAll T F' acc dacc ∧ dacc.length = i + 1 ∧ compD t me (wipeD z vs) (ds.drop (i + 1)) = .ok rest ∧ full = dacc ++ rest),
            fun H'' hn => ⟨ds.length - (i + 1), by omega, rfl, hlt, hn⟩, fun v H2 hy => ?_⟩
          obtain ⟨F2, u2, r2⟩ := it.yl i F' H' v H2 _ u'.f u'.s hd hy
          refine ⟨F2, wipeD z vs, ds[i], z1, qw (u'.trans u2), r2, e1, fun s' r' hb => ⟨wipe_but hb hs, ?_⟩⟩
          unfold tYes
          dsimp only
          rw [if_pos rfl]
          refine ⟨F2, z1, r', ?_⟩
          rw [e2]
          intro y F3 H3 u3 ry
          have hacc3 : H3 Dd = some (.lst acc) := u3.h.ex _ _ (u2.h.ex _ _ hacc)
          have hf3 : F3 Dd = none := u3.hid (u2.hid hf hacc) (u2.h.ex _ _ hacc)
          refine ⟨acc, hacc3, by rw [hA.length, hl]; omega, F3, acc ++ [y], dacc ++ [x], xs, ((u'.trans u2).trans u3).mut hD hf3 hacc3, upd_same, hf3, ((hA.mono u2.f).mono u3.f).append (.cons ry .nil), by rw [List.length_append, hl]; rfl, e3, by rw [hfull, e4, List.append_assoc]; rfl⟩
        · have ei : i = ds.length := by omega
          subst ei
          rw [List.drop_length] at hc
          cases hc
          rw [List.append_nil] at hfull
          subst hfull
          exact .inl ⟨it.st _ F' H' u'.f u'.s (Nat.le_refl _), h' _ F' H' (u1.trans u') ⟨Dd, acc, rfl, u1.h.back hD, hf, hacc, hA⟩⟩
    · rw [if_neg hz] at h'
      exact h'.elim
variable {elt iter : Expr} {scope : Scope} {own : List (Str × Nat)} {t : Tg} {me : M}
theorem dl_comp (hc : X.calm = true) (hN : X.N.Nodup) (hi : DN T X E tg iter mi) (ok : BlkOk X.N X.env.scope scope own)
    (hg : ∀ (s : Shared) (H : Hp) (C : Addr) (cl : List (Str × Addr)) (fp : List Addr), DG T (X.blk s H scope (compEnvC scope cl C X.env) fp) tg t)
    (he : ∀ (s : Shared) (H : Hp) (C : Addr) (cl : List (Str × Addr)) (fp : List Addr), DE T (X.blk s H scope (compEnvC scope cl C X.env) fp) E0 elt me)
    (hsl : ∀ i ∈ t.slots, i ∈ own.map (·.2)) (hs : ∀ x, foldedSetIterable iter X.env x = pure x := by intro _; rfl) :
    DL T X E (.ListComp elt [⟨tg, iter, [], 0⟩] scope pos) (mComp t (own.map (·.2)) mi me) :=
  pe_imp (pe_lc hc hN hi ok hg (fun _ _ _ _ _ => pts_nil) he hs) (comp_read hsl)
end
end CL


set_option Elab.async false
set_option linter.all false
set_option maxRecDepth 100000
/-! The data layer, part e: statements and defs. -/
namespace CL
open PySem PySem.Spec L2

/-- how a statement ends: on, with a datum, with a new list of one's own, out of the loop, to the next turn -/
inductive Fw where
  | nx (z : List Sd) | rt (d : D) | rl (ds : List D) | bk (z : List Sd) | ct (z : List Sd) | ro (k : Option Nat) (fs : List (List D))
abbrev MS := List Sd → Rs Fw
/-- the state between two statements: F0, H0 the entry -/
structure Sx (T : Tx) (F0 H0 F H : Hp) (s : L2.St) (z : List Sd) : Prop where
  up : Up T F0 H0 F H
  r : R T F H s z
  oa : ∀ (i : Nat) (y : Sd) (v : V) (p : Addr), z[i]? = some y → s[i]? = some (some v) → OA T F v y p → H0 p = none
theorem Sx.own {T : Tx} {F0 H0 F H : Hp} {s : L2.St} {z : List Sd} (x : Sx T F0 H0 F H s z) (i : Nat) (ds : List D) (p : Addr) (h1 : z[i]? = some (.ow ds)) (h2 : s[i]? = some (some (.ref p))) : H0 p = none := x.oa i _ _ p h1 h2 (show V.ref p = .ref p from rfl)
/-- a new holder of lists: what was free at the entry -/
def ObAt (T : Tx) (H0 F H : Hp) (k : Option Nat) (a : Addr) (fs : List (List D)) : Prop := ∃ ps, HoldAt T F k a ps ∧ ps.Nodup ∧ Lists T F H ps fs ∧ ∀ p ∈ ps, H0 p = none
def PostS (T : Tx) (E : XK) (F0 H0 : Hp) (N : Ends) : Rs Fw → Prop
  | .ok (.nx z) => ∀ s F H, Sx T F0 H0 F H s z → N.nx s H
  | .ok (.bk z) => ∀ s F H, Sx T F0 H0 F H s z → N.bk s H
  | .ok (.ct z) => ∀ s F H, Sx T F0 H0 F H s z → N.ct s H
  | .ok (.rt d) => ∀ v F H, Up T F0 H0 F H → Rp T F v d → N.rt v H
  | .ok (.rl ds) => ∀ p xs F H, Up T F0 H0 F H → H0 p = none → F p = none → H p = some (.lst xs) → RpAll T F xs ds → N.rt (.ref p) H
  | .ok (.ro k fs) => ∀ a F H, Up T F0 H0 F H → ObAt T H0 F H k a fs → N.rt (.ref a) H
  | .exc c => ∀ H, Gr T H0 H → E (.ref (T.exc c)) none H
  | .stuck => False
def tS (T : Tx) (E : XK) (m : MS) : TS := fun N s H => ∃ F0 H0 F z, Sx T F0 H0 F H s z ∧ PostS T E F0 H0 N (m z)
def DS (T : Tx) (X : Cx) (E : XK) (st : Stmt) (m : MS) : Prop := PS X st (tS T E m)
def DSs (T : Tx) (X : Cx) (E : XK) (st : List Stmt) (m : MS) : Prop := PSs X st (tS T E m)

open Classical in
/-- the own lists become known -/
noncomputable def known (T : Tx) (F H : Hp) (s : L2.St) (z : List Sd) : Hp := fun a => if ∃ (i : Nat) (y : Sd) (v : V), z[i]? = some y ∧ s[i]? = some (some v) ∧ OA T F v y a then H a else F a
section
variable {T : Tx} {F0 H0 F H F1 H1 : Hp} {s : L2.St} {z : List Sd} {E : XK} {N : Ends}
theorem known_ex (r : R T F H s z) : Ex F (known T F H s z) := fun a o h => by
  unfold known
  split
  · rename_i hc
    obtain ⟨i, y, v, h1, h2, h3⟩ := hc
    have := ((r.ok h1 h2).oa h3).2
    rw [h] at this
    cases this
  · exact keeps_refl h
theorem known_le (r : R T F H s z) : Ex (known T F H s z) H := fun a o h => by
  unfold known at h
  split at h
  · exact keeps_refl h
  · exact r.ex a o h
theorem R.all (r : R T F H s z) : R T (known T F H s z) H s (CL.frz z) := r.frzG (known_ex r) (known_le r) fun i x v p xs h1 h2 o h => by
  unfold known
  rw [if_pos ⟨i, x, v, h1, h2, o⟩]
  exact h
theorem Sx.known (x : Sx T F0 H0 F H s z) : Up T F0 H0 (known T F H s z) H :=
  ⟨x.up.f.trans (known_ex x.r), x.up.h, known_le x.r, fun a o h1 h2 => by
    unfold CL.known at h2
    split at h2
    · rename_i hc
      obtain ⟨i, y, v, e1, e2, e3⟩ := hc
      exact .inl (x.oa i y v a e1 e2 e3)
    · exact x.up.n a o h1 h2⟩
theorem Sx.step (x : Sx T F0 H0 F H s z) (u : Up T F H F1 H1) : Sx T F0 H0 F1 H1 s z := ⟨x.up.trans u, x.r.up u, fun i y v p h1 h2 o => x.oa i y v p h1 h2 ((x.r.ok h1 h2).down u.f o)⟩
/-- a new entry: the old entry, and what is known now -/
def uni (F H0 : Hp) : Hp := fun a => match H0 a with
  | some o => some o
  | none => F a
theorem uni_none {a : Addr} (h : uni F H0 a = none) : F a = none ∧ H0 a = none := by
  unfold uni at h
  cases q : H0 a with
  | none => rw [q] at h; exact ⟨h, rfl⟩
  | some o => rw [q] at h; cases h
theorem uni_in {a : Addr} {o : HO} (h : H0 a = some o) : uni F H0 a = some o := by unfold uni; rw [h]
theorem uni_out {a : Addr} (h : H0 a = none) : uni F H0 a = F a := by unfold uni; rw [h]
theorem uni_left (e1 : Ex F H) (e2 : Ex H0 H) : Ex F (uni F H0) := fun a o h => by
  cases q : H0 a with
  | none => rw [uni_out q]; exact keeps_refl h
  | some u => rw [uni_in q]; exact keeps_both (e2 a u q) (e1 a o h)
theorem uni_le (e1 : Ex F H) (e2 : Ex H0 H) : Ex (uni F H0) H := fun a o h => by
  cases q : H0 a with
  | none => rw [uni_out q] at h; exact e1 a o h
  | some u => rw [uni_in q] at h; cases h; exact e2 a _ q
theorem uni_right : Ex H0 (uni F H0) := .same fun a o h => uni_in h
theorem Sx.base (x : Sx T F0 H0 F H s z) : Sx T F (uni F H0) F H s z :=
  ⟨⟨Ex.refl F, ⟨uni_le x.r.ex x.up.h.ex, fun _ => x.r.tb⟩, x.r.ex, fun a o h1 h2 => by rw [h1] at h2; cases h2⟩, x.r, fun i y v p h1 h2 o => by
    rw [uni_out (x.oa i y v p h1 h2 o)]
    exact ((x.r.ok h1 h2).oa o).2⟩
theorem Up.rebase (u : Up T F0 H0 F H) (u' : Up T F (uni F H0) F1 H1) : Up T F0 H0 F1 H1 :=
  ⟨u.f.trans u'.f, ⟨uni_right.trans u'.h.ex, fun t => u'.h.tb (t.ext fun a o h => uni_in h)⟩, u'.s, fun a o h1 h2 => by
    cases q : F a with
    | none => exact (u'.n a o q h2).back (T := T) (.same fun a o h => uni_in h)
    | some y => exact u.n a y h1 q⟩
theorem Sx.rebase {s1 : L2.St} {z1 : List Sd} (u : Up T F0 H0 F H) (x : Sx T F (uni F H0) F1 H1 s1 z1) : Sx T F0 H0 F1 H1 s1 z1 := ⟨u.rebase x.up, x.r, fun i y v p h1 h2 o => (uni_none (x.oa i y v p h1 h2 o)).2⟩
/-- where an expression is asked for within a statement -/
theorem PostS.bnd {β α : Type} {L : Rl β α} {Q : β → Hp → Prop} {a : Rs α} {k : α → Rs Fw} (x : Sx T F0 H0 F H s z) (h : PostS T E F0 H0 N (a.bnd k))
    (step : ∀ y v F1 H1, Up T F H F1 H1 → L.r H F1 H1 v y → PostS T E F0 H0 N (k y) → Q v H1) : Post T E L F H Q a := by
  cases a with
  | ok d => exact fun v F' H' u r => step d v F' H' u r h
  | exc c => exact fun H' e => h H' (x.up.h.trans e)
  | stuck => exact h
end

section
variable {T : Tx} {X : Cx} {E : XK} {tg a b c e : Expr} {es : List Expr} {pos : Pos} {ma mb mc m : M} {mes mi mj ml : ML} {ba bb : MB} {m1 m2 : MS} {st : Stmt} {sts : List Stmt}

/-! ### blocks -/
def sNil : MS := fun z => .ok (.nx z)
def sSeq (m1 m2 : MS) : MS := fun z => (m1 z).bnd fun f => match f with
  | .nx z' => m2 z'
  | f => .ok f
theorem dss_nil : DSs T X E [] sNil := pss_imp pss_nil fun N s H ⟨F0, H0, F, z, x, h⟩ => h s F H x
theorem dss_cons (h1 : DS T X E st m1) (h2 : DSs T X E sts m2) : DSs T X E (st :: sts) (sSeq m1 m2) := pss_imp (pss_cons h1 h2) fun N s H ⟨F0, H0, F, z, x, h⟩ => by
  refine ⟨F0, H0, F, z, x, ?_⟩
  unfold sSeq at h
  cases em : m1 z with
  | stuck => rw [em] at h; exact h
  | exc c => rw [em] at h; exact h
  | ok f =>
    rw [em] at h
    cases f with
    | nx z' => exact fun s' F' H' x' => ⟨F0, H0, F', z', x', h⟩
    | rt d => exact h
    | rl ds => exact h
    | ro k fs => exact h
    | bk z' => exact h
    | ct z' => exact h
theorem dss_one (h1 : DS T X E st m1) : DSs T X E [st] m1 := pss_imp (pss_one h1) fun N s H h => h
theorem ds_pass : DS T X E (.Pass pos) sNil := ps_imp ps_pass fun N s H ⟨F0, H0, F, z, x, h⟩ => h s F H x
def sCont : MS := fun z => .ok (.ct z)
def sBrk : MS := fun z => .ok (.bk z)
theorem ds_cont : DS T X E (.Continue pos) sCont := ps_imp ps_continue fun N s H ⟨F0, H0, F, z, x, h⟩ => h s F H x
theorem ds_brk : DS T X E (.Break pos) sBrk := ps_imp ps_break fun N s H ⟨F0, H0, F, z, x, h⟩ => h s F H x

/-! ### return, expressions -/
def sRet (m : M) : MS := fun z => (m (frz z)).bnd fun d => .ok (.rt d)
theorem ds_ret (h : DE T X E e m) : DS T X E (.Return (some e) pos) (sRet m) := ps_imp (ps_ret h) fun N s H ⟨F0, H0, F, z, x, h⟩ =>
  ⟨known T F H s z, frz z, x.r.all, PostS.bnd (L := lV T) (x := ⟨x.known, x.r.all, fun i y v p h1 h2 o => by
    obtain ⟨w, _, rfl⟩ := frz_at h1
    exact (frzS_oa o).elim⟩) h fun y v F1 H1 u1 ry h1 => h1 v F1 H1 (x.known.trans u1) ry⟩
def sRetL (ml : ML) : MS := fun z => (ml z).bnd fun ds => .ok (.rl ds)
theorem ds_retL (h : DL T X E e ml) : DS T X E (.Return (some e) pos) (sRetL ml) := ps_imp (ps_ret h) fun N s H ⟨F0, H0, F, z, x, h⟩ =>
  ⟨F, z, x.r, PostS.bnd (L := lL T) (x := x) h fun y v F1 H1 u1 ry h1 => by
    obtain ⟨p, xs, rfl, h0, hf, hp, hA⟩ := ry
    exact h1 p xs F1 H1 (x.up.trans u1) (x.up.h.back h0) hf hp hA⟩
def sRetO (i : Nat) : MS := fun z => match z[i]? with
  | some (.ow ds) => .ok (.rl ds)
  | _ => .stuck
theorem ds_retO (i : Nat) {x : Str} {p2 : Pos} (hN : X.N[i]? = some x := by rfl) (hv : Vis X.env.scope x := by first | exact Or.inl rfl | exact Or.inr (Or.inl rfl) | exact Or.inr (Or.inr rfl)) (hd : (x == ("__debug__" : Str)) = false := by decide)
    (hcd : (x == ("__classdict__" : Str)) = false := by decide) : DS T X E (.Return (some (.Name x p2)) pos) (sRetO i) := ps_imp (ps_ret (pe_var hN hv hd hcd)) fun N s H ⟨F0, H0, F, z, x, h⟩ => by
  unfold sRetO at h
  split at h
  · rename_i ds e
    obtain ⟨p, xs, h1, h2, h3, h4⟩ := x.r.ow i ds e
    exact ⟨_, h1, h p xs F H x.up (x.own i ds p e h1) h3 h2 h4⟩
  · exact h.elim
def sRetN : MS := fun _ => .ok (.rt .non)
theorem ds_retN : DS T X E (.Return none pos) sRetN := ps_imp ps_retN fun N s H ⟨F0, H0, F, z, x, h⟩ => h _ F H x.up .non
def sExpr (m : M) : MS := fun z => (m z).bnd fun _ => .ok (.nx z)
theorem ds_expr (h : DE T X E e m) (hs : swapsWith e none pos.line X.env = pure false := by rfl) : DS T X E (.Expr e pos) (sExpr m) := ps_imp (ps_expr h hs) fun N s H ⟨F0, H0, F, z, x, h⟩ =>
  ⟨F, z, x.r, PostS.bnd (L := lV T) (x := x) h fun y v F1 H1 u1 ry h1 => h1 s F1 H1 (x.step u1)⟩

/-! ### x = e -/
theorem Sx.setG {F0 H0 F H : Hp} {s : L2.St} {z : List Sd} {i : Nat} {v : V} {y : Sd} (x : Sx T F0 H0 F H s z) (r : R T F H (s.set i (some v)) (z.set i y)) (h : ∀ p, OA T F v y p → H0 p = none) : Sx T F0 H0 F H (s.set i (some v)) (z.set i y) :=
  ⟨x.up, r, fun j w u p h1 h2 o => by
    rcases set_at h1 with ⟨rfl, rfl, hl⟩ | ⟨n, g1⟩
    · rw [get_set_self x.r.len hl] at h2
      cases h2
      exact h p o
    · rw [List.getElem?_set_ne n] at h2
      exact x.oa j w u p g1 h2 o⟩
theorem Sx.set {F0 H0 F H : Hp} {s : L2.St} {z : List Sd} {i : Nat} {v : V} {d : D} (x : Sx T F0 H0 F H s z) (h : Rp T F v d) : Sx T F0 H0 F H (s.set i (some v)) (z.set i (.sh d)) := x.setG (x.r.set h) fun p o => o.elim
/-- no slot has a list of its own that was free -/
theorem Sx.free {F0 H0 F H F1 H1 : Hp} {s : L2.St} {z : List Sd} {p : Addr} (x : Sx T F0 H0 F H s z) (u : Up T F H F1 H1) (h0 : H p = none) {j : Nat} {y : Sd} {w : V} (h1 : z[j]? = some y) (h2 : s[j]? = some (some w)) (o : OA T F1 w y p) : False := by
  obtain ⟨⟨xs, h3⟩, _⟩ := (x.r.ok h1 h2).oa ((x.r.ok h1 h2).down u.f o)
  rw [h0] at h3
  cases h3
theorem Sx.setO {F0 H0 F H F1 H1 : Hp} {s : L2.St} {z : List Sd} {i : Nat} {p : Addr} {xs : List V} {ds : List D} (x : Sx T F0 H0 F H s z) (u : Up T F H F1 H1) (h0 : H p = none) (hf : F1 p = none) (hp : H1 p = some (.lst xs)) (hA : RpAll T F1 xs ds) :
    Sx T F0 H0 F1 H1 (s.set i (some (.ref p))) (z.set i (.ow ds)) := by
  have x1 := x.step u
  refine x1.setG (x1.r.setO hp hf hA fun j y w _ g1 g2 o => x.free u h0 g1 g2 o) fun q o => ?_
  have o' : V.ref p = .ref q := o
  cases o'
  exact x.up.h.back h0
/-- .. a holder of lists -/
theorem Sx.setOb {F0 H0 F H F1 H1 : Hp} {s : L2.St} {z : List Sd} {i : Nat} {k : Option Nat} {a : Addr} {fs : List (List D)} (x : Sx T F0 H0 F H s z) (u : Up T F H F1 H1) (h : ObAt T H F1 H1 k a fs) :
    Sx T F0 H0 F1 H1 (s.set i (some (.ref a))) (z.set i (.ob k fs)) := by
  have x1 := x.step u
  obtain ⟨ps, h1, h2, h3, h4⟩ := h
  have un : ∀ {q : Addr}, OA T F1 (.ref a) (.ob k fs) q → q ∈ ps := fun {q} o => by
    obtain ⟨a', qs, e1, e2, e3⟩ := o
    cases e1
    cases h1.uniq e2
    exact e3
  exact x1.setG (x1.r.setG (x := .ob k fs) ⟨a, ps, rfl, h1, h2, h3⟩ fun j y w q _ g1 g2 o1 o2 => x.free u (h4 q (un o1)) g1 g2 o2) fun q o => x.up.h.back (h4 q (un o))
def sSet (i : Nat) (m : M) : MS := fun z => (m z).bnd fun d => .ok (.nx (z.set i (.sh d)))
theorem ds_set (i : Nat) {x : Str} {p2 : Pos} (hN : X.N.Nodup) (he : DE T X E e m) (hi : X.N[i]? = some x := by rfl) (hx : Loc X.env.scope x := by first | exact Or.inl rfl | exact Or.inr rfl) (hs : swapsWith e (some (.Name x p2)) pos.line X.env = pure false := by rfl)
    (hf : X.fn x = true ∨ X.env.scope.names.lookup x = some .local := by first | exact .inl rfl | exact .inr rfl | assumption) : DS T X E (.Assign [.Name x p2] e pos) (sSet i m) := ps_imp (ps_set hN hi hx he hs hf) fun N s H ⟨F0, H0, F, z, x, h⟩ =>
  ⟨F, z, x.r, PostS.bnd (L := lV T) (x := x) h fun y v F1 H1 u1 ry h1 => h1 _ F1 H1 ((x.step u1).set ry)⟩
def sSetO (i : Nat) (ml : ML) : MS := fun z => (ml z).bnd fun ds => .ok (.nx (z.set i (.ow ds)))
theorem ds_setO (i : Nat) {x : Str} {p2 : Pos} (hN : X.N.Nodup) (he : DL T X E e ml) (hi : X.N[i]? = some x := by rfl) (hx : Loc X.env.scope x := by first | exact Or.inl rfl | exact Or.inr rfl) (hs : swapsWith e (some (.Name x p2)) pos.line X.env = pure false := by rfl)
    (hf : X.fn x = true ∨ X.env.scope.names.lookup x = some .local := by first | exact .inl rfl | exact .inr rfl | assumption) : DS T X E (.Assign [.Name x p2] e pos) (sSetO i ml) := ps_imp (ps_set hN hi hx he hs hf) fun N s H ⟨F0, H0, F, z, x, h⟩ =>
  ⟨F, z, x.r, PostS.bnd (L := lL T) (x := x) h fun y v F1 H1 u1 ry h1 => by
    obtain ⟨p, xs, rfl, h0, hf, hp, hA⟩ := ry
    exact h1 _ F1 H1 (x.setO u1 h0 hf hp hA)⟩
variable {elt iter : Expr} {scope : Scope} {own : List (Str × Nat)} {t : Tg} {me : M}
/-- x = [..] on one line, x a local -/
theorem ds_setLcO (i : Nat) {y : Str} {py spos : Pos} (hc : X.calm = true) (hN : X.N.Nodup) (hi : DN T X E tg iter mi) (ok : BlkOk X.N X.env.scope scope own)
    (hg : ∀ (s : Shared) (H : Hp) (C : Addr) (cl : List (Str × Addr)) (fp : List Addr), DG T (X.blk s H scope (compEnvC scope cl C X.env) fp) tg t)
    (he : ∀ (s : Shared) (H : Hp) (C : Addr) (cl : List (Str × Addr)) (fp : List Addr), DE T (X.blk s H scope (compEnvC scope cl C X.env) fp) E0 elt me)
    (hsl : ∀ i ∈ t.slots, i ∈ own.map (·.2)) (hy : X.N[i]? = some y := by rfl) (hyl : X.env.scope.names.lookup y = some .local := by rfl)
    (hsw : swapsWith (.ListComp elt [⟨tg, iter, [], 0⟩] scope pos) (some (.Name y py)) spos.line X.env = pure true := by exact sw_true rfl rfl rfl (by decide +kernel)) (hs : ∀ x, foldedSetIterable iter X.env x = pure x := by intro _; rfl) :
    DS T X E (.Assign [.Name y py] (.ListComp elt [⟨tg, iter, [], 0⟩] scope pos) spos) (sSetO i (mComp t (own.map (·.2)) mi me)) :=
  ps_imp (ps_setLc hc hN hy hyl hsw hi ok hg (fun _ _ _ _ _ => pts_nil) he hs) fun N s H ⟨F0, H0, F, z, x, h⟩ => comp_read hsl s H _ ⟨F, z, x.r, PostS.bnd (L := lL T) (x := x) h fun y v F1 H1 u1 ry h1 => by
    obtain ⟨p, xs, rfl, h0, hf, hp, hA⟩ := ry
    exact h1 _ F1 H1 (x.setO u1 h0 hf hp hA)⟩
theorem ds_setLc (i : Nat) {y : Str} {py spos : Pos} (hc : X.calm = true) (hN : X.N.Nodup) (hi : DN T X E tg iter mi) (ok : BlkOk X.N X.env.scope scope own)
    (hg : ∀ (s : Shared) (H : Hp) (C : Addr) (cl : List (Str × Addr)) (fp : List Addr), DG T (X.blk s H scope (compEnvC scope cl C X.env) fp) tg t)
    (he : ∀ (s : Shared) (H : Hp) (C : Addr) (cl : List (Str × Addr)) (fp : List Addr), DE T (X.blk s H scope (compEnvC scope cl C X.env) fp) E0 elt me)
    (hsl : ∀ i ∈ t.slots, i ∈ own.map (·.2)) (hy : X.N[i]? = some y := by rfl) (hyl : X.env.scope.names.lookup y = some .local := by rfl)
    (hsw : swapsWith (.ListComp elt [⟨tg, iter, [], 0⟩] scope pos) (some (.Name y py)) spos.line X.env = pure true := by exact sw_true rfl rfl rfl (by decide +kernel)) (hs : ∀ x, foldedSetIterable iter X.env x = pure x := by intro _; rfl) :
    DS T X E (.Assign [.Name y py] (.ListComp elt [⟨tg, iter, [], 0⟩] scope pos) spos) (sSet i (mL (mComp t (own.map (·.2)) mi me))) :=
  ps_imp (ps_setLc hc hN hy hyl hsw hi ok hg (fun _ _ _ _ _ => pts_nil) he hs) fun N s H ⟨F0, H0, F, z, x, h⟩ => comp_read hsl s H _ ⟨F, z, x.r, by
    have h' : PostS T E F0 H0 N (((mComp t (own.map (·.2)) mi me z).bnd fun xs => .ok (.lst xs)).bnd fun d => .ok (.nx (z.set i (.sh d)))) := h
    cases em : mComp t (own.map (·.2)) mi me z with
    | stuck => rw [em] at h'; exact h'
    | exc c => rw [em] at h'; exact fun H' e => h' H' (x.up.h.trans e)
    | ok ds =>
      rw [em] at h'
      rintro v F1 H1 u1 ⟨p, xs, rfl, h0, hf, hp, hA⟩
      have u2 := u1.know hp h0 hf
      exact h' _ _ H1 ((x.step u2).set (.lst (.inl upd_same) (hA.mono (Ex.new hf))))⟩

/-! ### if -/
def sIf (t : MB) (m1 m2 : MS) : MS := fun z => (t z).bnd fun b => if b then m1 z else m2 z
theorem ds_if {bs cs : List Stmt} (ht : DT T X E c ba) (h1 : DSs T X E bs m1) (h2 : DSs T X E cs m2) : DS T X E (.If c bs cs pos) (sIf ba m1 m2) := ps_imp (ps_if ht h1 h2) fun N s H ⟨F0, H0, F, z, x, h⟩ =>
  ⟨F, z, x.r, PostS.bnd (L := lB) (x := x) h fun y v F1 H1 u1 ry h1 => by
    cases ry
    cases y with
    | true => exact iteT ⟨F0, H0, F1, z, x.step u1, h1⟩
    | false => exact iteF ⟨F0, H0, F1, z, x.step u1, h1⟩⟩

/-! ### a, b = e -/
theorem setAll_oa : ∀ {is : List Nat} {ds : List D} {z : List Sd} {j : Nat} {y : Sd}, (setAll is ds z)[j]? = some y → (∀ d, y ≠ .sh d) → (ds.length = is.length → j ∉ is) ∧ z[j]? = some y := by
  intro is
  induction is with
  | nil => intro ds z j y h _; unfold setAll at h; exact ⟨fun _ => by simp, h⟩
  | cons i is ih =>
    intro ds z j y h hy
    cases ds with
    | nil => unfold setAll at h; exact ⟨fun q => (nomatch q), h⟩
    | cons d ds =>
      unfold setAll at h
      obtain ⟨a, b⟩ := ih h hy
      rcases set_at b with ⟨_, e, _⟩ | ⟨n, b⟩
      · exact absurd e (hy d)
      · refine ⟨fun q => ?_, b⟩
        rw [List.mem_cons, not_or]
        exact ⟨Ne.symm n, a (by simpa using q)⟩
theorem Sx.tgt {F0 H0 F H : Hp} {s s' : L2.St} {z z' : List Sd} {t : Tg} {d : D} (x : Sx T F0 H0 F H s z) (e : setT t d z = .ok z') (r : R T F H s' z') (hb : ButS t.slots s s') : Sx T F0 H0 F H s' z' := by
  refine ⟨x.up, r, fun j y v p h1 h2 o => ?_⟩
  have hy : ∀ d, y ≠ .sh d := by rintro d rfl; exact o
  have fin : j ∉ t.slots ∧ z[j]? = some y := by
    cases t with
    | nm i =>
      cases e
      have := setAll_oa (is := [i]) (ds := [d]) (z := z) (j := j) (y := y) (by unfold setAll; unfold setAll; exact h1) hy
      exact ⟨this.1 rfl, this.2⟩
    | tp is =>
      cases d <;> first | cases e | skip
      simp only [setT] at e
      split at e
      · rename_i hl
        cases e
        have := setAll_oa h1 hy
        exact ⟨this.1 hl, this.2⟩
      · cases e
  rw [hb.2 j fin.1] at h2
  exact x.oa j y v p fin.2 h2 o
def sAsg (t : Tg) (m : M) : MS := fun z => (m z).bnd fun d => (setT t d z).bnd fun z' => .ok (.nx z')
theorem ds_asg (he : DE T X E e m) (hg : DG T X tg t) (hs : swapsWithSole [tg] e pos.line X.env = pure false := by rfl) (hw : swappedStores [tg] e X.env = pure none := by rfl) (h1 : (assignEach [tg] X.env).map (·.2) = [assign tg X.env] := by rfl) :
    DS T X E (.Assign [tg] e pos) (sAsg t m) := ps_imp (ps_asg he hg hs hw h1) fun N s H ⟨F0, H0, F, z, x, h⟩ =>
  ⟨F, z, x.r, PostS.bnd (L := lV T) (x := x) h fun y v F1 H1 u1 ry h1 => by
    cases e : setT t y z with
    | stuck => rw [e] at h1; exact h1.elim
    | exc c => exact (setT_noexc _ _ _ _ e).elim
    | ok z' =>
      rw [e] at h1
      exact ⟨F1, z, y, z', x.r.up u1, ry, e, fun s' r' hb => h1 s' F1 H1 ((x.step u1).tgt e r' hb)⟩⟩
/-- a, b = x, y of local names -/
def sPar (i j : Nat) (ms : ML) : MS := fun z => (ms z).bnd fun ds => match ds with
  | [d, d2] => .ok (.nx ((z.set i (.sh d)).set j (.sh d2)))
  | _ => .stuck
theorem ds_par (i j : Nat) {x y : Str} {px py pt pt2 : Pos} {kt k2 : Nat} (hc : X.calm = true) (hN : X.N.Nodup) (ha : DA T X E [a, b] mes) (hi : X.N[i]? = some x := by rfl) (hj : X.N[j]? = some y := by rfl) (hij : i ≠ j := by decide)
    (hx : X.env.scope.names.lookup x = some .local := by rfl) (hy : X.env.scope.names.lookup y = some .local := by rfl)
    (hw : swappedStores [.Tuple [.Name x px, .Name y py] kt pt] (.Tuple [a, b] k2 pt2) X.env = pure (some [x, y]) := by rfl) (hs : swapsWithSole [.Tuple [.Name x px, .Name y py] kt pt] (.Tuple [a, b] k2 pt2) pos.line X.env = pure false := by rfl) :
    DS T X E (.Assign [.Tuple [.Name x px, .Name y py] kt pt] (.Tuple [a, b] k2 pt2) pos) (sPar i j mes) := ps_imp (ps_par hc hN hi hj hij hx hy ha hw hs) fun N s H ⟨F0, H0, F, z, x, h⟩ =>
  ⟨F, z, x.r, PostS.bnd (L := lA T) (x := x) h fun ds vs F1 H1 u1 ry h1 => by
    cases ry with
    | nil => exact h1.elim
    | cons r1 t1 =>
      cases t1 with
      | nil => exact h1.elim
      | cons r2 t2 =>
        cases t2 with
        | cons _ _ => exact h1.elim
        | nil => exact ⟨_, _, rfl, h1 _ F1 H1 (((x.step u1).set r1).set r2)⟩⟩
def sPar3 (i j l : Nat) (ms : ML) : MS := fun z => (ms z).bnd fun ds => match ds with
  | [d, d2, d3] => .ok (.nx (((z.set i (.sh d)).set j (.sh d2)).set l (.sh d3)))
  | _ => .stuck
/-- x += e of ints -/
def sAug (i : Nat) (f : D → D → Option D) (m : M) : MS := fun z => (mVar i z).bnd fun x => (m z).bnd fun y => (ofO (f x y)).bnd fun d => .ok (.nx (z.set i (.sh d)))
theorem ds_inc (i : Nat) {x : Str} {p2 : Pos} (hN : X.N.Nodup) (he : DE T X E e m) (hi : X.N[i]? = some x := by rfl) (hx : Loc X.env.scope x := by first | exact Or.inl rfl | exact Or.inr rfl) (hf : X.fn x = true ∨ X.env.scope.names.lookup x = some .local := by first | exact .inl rfl | exact .inr rfl | assumption) :
    DS T X E (.AugAssign (.Name x p2) .Add e pos) (sAug i (intD fun i j => .int (i + j)) m) := ps_imp (ps_aug hN hi hx he ip_add hf) fun N s H ⟨F0, H0, F, z, x, h⟩ => by
  unfold sAug mVar at h
  split at h
  · rename_i d e1
    obtain ⟨v, h1, h2⟩ := x.r.sh i d e1
    rw [bnd_ok] at h
    refine ⟨v, h1, F, z, x.r, PostS.bnd (L := lV T) (x := x) h fun y w F1 H1 u1 ry hy => ?_⟩
    cases q : intD (fun i j => D.int (i + j)) d y with
    | none => rw [q] at hy; exact hy.elim
    | some d2 =>
      rw [q] at hy
      obtain ⟨i1, j1, rfl, rfl, rfl⟩ := intD_some q
      cases h2
      cases ry
      exact ⟨i1, j1, rfl, rfl, hy _ F1 H1 ((x.step u1).set (.int _))⟩
  · exact h.elim

/-! ### lists of one's own, changed -/
theorem Sx.chgG {F0 H0 F H : Hp} {s : L2.St} {z : List Sd} {i : Nat} {p : Addr} {v : V} {y y' : Sd} {ys : List V} (x : Sx T F0 H0 F H s z) (hz : z[i]? = some y) (hs : s[i]? = some (some v)) (o : OA T F v y p) (r : R T F (upd H p (.lst ys)) s (z.set i y')) (ho : ∀ q, OA T F v y' q → OA T F v y q) :
    Sx T F0 H0 F (upd H p (.lst ys)) s (z.set i y') := by
  obtain ⟨⟨_, hxs⟩, hf⟩ := (x.r.ok hz hs).oa o
  refine ⟨x.up.mut (x.oa i y v p hz hs o) hf hxs, r, fun j w u q h1 h2 o' => ?_⟩
  rcases set_at h1 with ⟨rfl, rfl, _⟩ | ⟨n, g1⟩
  · rw [hs] at h2
    cases h2
    exact x.oa i y v q hz hs (ho q o')
  · exact x.oa j w u q g1 h2 o'
theorem Sx.chg {F0 H0 F H : Hp} {s : L2.St} {z : List Sd} {i : Nat} {p : Addr} {ys : List V} {ds es : List D} (x : Sx T F0 H0 F H s z) (hz : z[i]? = some (.ow ds)) (hs : s[i]? = some (some (.ref p))) (h : RpAll T F ys es) :
    Sx T F0 H0 F (upd H p (.lst ys)) s (z.set i (.ow es)) := x.chgG hz hs (show V.ref p = .ref p from rfl) (x.r.chg (xs := ys) hz hs h) fun q o => o
theorem Sx.chgOb {F0 H0 F H : Hp} {s : L2.St} {z : List Sd} {i j : Nat} {a p : Addr} {k : Option Nat} {fs : List (List D)} {ps : List Addr} {ys : List V} {es : List D} (x : Sx T F0 H0 F H s z) (hz : z[i]? = some (.ob k fs)) (hs : s[i]? = some (some (.ref a))) (hh : HoldAt T F k a ps) (hj : ps[j]? = some p) (h : RpAll T F ys es) :
    Sx T F0 H0 F (upd H p (.lst ys)) s (z.set i (.ob k (fs.set j es))) := x.chgG hz hs (p := p) ⟨a, ps, rfl, hh, List.mem_of_getElem? hj⟩ (x.r.chgOb hz hs hh hj h) fun q o => o
def sApp (i : Nat) (m : M) : MS := fun z => match z[i]? with
  | some (.ow ds) => (m z).bnd fun d => if ds.length < sizeLine then .ok (.nx (z.set i (.ow (ds ++ [d])))) else .stuck
  | _ => .stuck
variable {apos : Pos}
theorem ds_app (i : Nat) {x : Str} {p2 : Pos} (he : DE T X E e m) (hN : X.N[i]? = some x := by rfl) (hv : Vis X.env.scope x := by first | exact Or.inl rfl | exact Or.inr (Or.inl rfl) | exact Or.inr (Or.inr rfl)) (hd : (x == ("__debug__" : Str)) = false := by decide)
    (hcd : (x == ("__classdict__" : Str)) = false := by decide) {cpos : Pos} (hs1 : starEach [e] X.env = (false, eval e X.env) :: starEach [] X.env := by rfl)
    (hbase : attributeBase (.Name x p2) "append" X.env (eval (.Name x p2) X.env) = eval (.Name x p2) X.env := by rfl)
    (hfew : ((backTo cpos (starEach [e] X.env)).all (fun x => !x.1) && (backToKw cpos (keywordEach [] X.env)).all (fun x => x.1.isSome)
      && decide ([e].length + ([] : List Keyword).length + (if ([] : List Keyword).isEmpty then 0 else 1) < 30)) = true := by rfl) (hline : (apos.endLine == cpos.line) = true := by rfl) :
    DS T X E (.Expr (.Call (.Attribute (.Name x p2) "append" apos) [e] [] cpos) pos) (sApp i m) :=
  ps_imp (ps_expr (pe_bm PySem.F.plainAttrs_list PySem.F.slot_list_append PySem.F.type_list_append mt_append (pe_var hN hv hd hcd) (pa_cons he pa_nil hs1) hbase hfew hline hs1 rfl) rfl) fun N s H ⟨F0, H0, F, z, x, h⟩ => by
  unfold sApp at h
  split at h
  · rename_i ds e1
    obtain ⟨p, xs, h1, h2, h3, h4⟩ := x.r.ow i ds e1
    refine ⟨_, h1, .inl ⟨rfl, xs, .inl (.inl h2)⟩, F, z, x.r, PostS.bnd (L := lV T) (x := x) h fun y w F1 H1 u1 ry hy => ?_⟩
    by_cases hl : ds.length < sizeLine
    · rw [if_pos hl] at hy
      exact ⟨p, xs, w, rfl, rfl, u1.h.ex _ _ h2, by rw [h4.length]; exact hl, hy _ F1 _ ((x.step u1).chg e1 h1 ((h4.mono u1.f).append (.cons ry .nil)))⟩
    · rw [if_neg hl] at hy
      exact hy.elim
  · exact h.elim
theorem mt_extendR : MtR X "list.extend" (fun x vs H Q => ∃ l b xs zs, x = .ref l ∧ vs = [.ref b] ∧ H l = some (.lst xs) ∧ Rd H b (.lst zs) ∧ xs.length + zs.length ≤ sizeLine ∧ Q .non (upd H l (.lst (xs ++ zs)))) := by
  intro pins s σ H x vs v us Q I rx rv h
  obtain ⟨l, b, xs, zs, rfl, rfl, hH, hB, hz, q⟩ := h
  cases rx
  obtain ⟨u, rfl, ru⟩ := rv.one
  cases ru
  obtain ⟨z, its, n, r, hl, e⟩ := I.lstM hH
  obtain ⟨z2, its2, n2, r2, e2⟩ := hB.ok I.hok
  have hl2 := r2.length
  have hsz : its.toArray.size + its2.toArray.size ≤ sizeLine := by rw [List.size_toArray, List.size_toArray]; omega
  have hlong : ¬ (!its.toArray.isEmpty && Builtin.List.listTooLong (its.toArray.size + its2.toArray.size)) = true := by
    rw [notLongL hsz, Bool.and_false]
    exact Bool.false_ne_true
  refine call_meets F.slot_list_extend ⟨_, e, rfl⟩ F.entry_list_extend (F.args_list_extend_2 _ _)
    (AutoSeq1.list_extend_list_list_0 l its.toArray n b its2.toArray n2 hlong (by rw [List.size_toArray]; omega) (by omega)) ⟨e, e2, ?_⟩
  refine ⟨.non, _, I.lset (its' := its ++ its2) hH e (by simp) (r.append r2) ?_, rfl, q⟩
  rw [List.length_append]
  omega
def sExt (i : Nat) (mi : ML) : MS := fun z => match z[i]? with
  | some (.ow ds) => (mi z).bnd fun es => if ds.length + es.length ≤ sizeLine then .ok (.nx (z.set i (.ow (ds ++ es)))) else .stuck
  | _ => .stuck
theorem ds_ext (i : Nat) {x : Str} {p2 : Pos} (he : DI T X E e mi) (hN : X.N[i]? = some x := by rfl) (hv : Vis X.env.scope x := by first | exact Or.inl rfl | exact Or.inr (Or.inl rfl) | exact Or.inr (Or.inr rfl)) (hd : (x == ("__debug__" : Str)) = false := by decide)
    (hcd : (x == ("__classdict__" : Str)) = false := by decide) {cpos : Pos} (hs1 : starEach [e] X.env = (false, eval e X.env) :: starEach [] X.env := by rfl)
    (hbase : attributeBase (.Name x p2) "extend" X.env (eval (.Name x p2) X.env) = eval (.Name x p2) X.env := by rfl)
    (hfew : ((backTo cpos (starEach [e] X.env)).all (fun x => !x.1) && (backToKw cpos (keywordEach [] X.env)).all (fun x => x.1.isSome)
      && decide ([e].length + ([] : List Keyword).length + (if ([] : List Keyword).isEmpty then 0 else 1) < 30)) = true := by rfl) (hline : (apos.endLine == cpos.line) = true := by rfl) :
    DS T X E (.Expr (.Call (.Attribute (.Name x p2) "extend" apos) [e] [] cpos) pos) (sExt i mi) :=
  ps_imp (ps_expr (pe_bm PySem.F.plainAttrs_list PySem.F.slot_list_extend PySem.F.type_list_extend mt_extendR (pe_var hN hv hd hcd) (pa_cons he pa_nil hs1) hbase hfew hline hs1 rfl) rfl) fun N s H ⟨F0, H0, F, z, x, h⟩ => by
  unfold sExt at h
  split at h
  · rename_i ds e1
    obtain ⟨p, xs, h1, h2, h3, h4⟩ := x.r.ow i ds e1
    refine ⟨_, h1, .inl ⟨rfl, xs, .inl (.inl h2)⟩, F, z, x.r, PostS.bnd (L := lI T) (x := x) h fun y w F1 H1 u1 ry hy => ?_⟩
    obtain ⟨b, zs, rfl, hr, hA⟩ := ry
    by_cases hl : ds.length + y.length ≤ sizeLine
    · rw [if_pos hl] at hy
      exact ⟨p, b, xs, zs, rfl, rfl, u1.h.ex _ _ h2, hr, by rw [h4.length, hA.length]; exact hl, hy _ F1 _ ((x.step u1).chg e1 h1 ((h4.mono u1.f).append hA))⟩
    · rw [if_neg hl] at hy
      exact hy.elim
  · exact h.elim
/-- an own list is from here on a datum -/
def sFrz (i : Nat) (m : MS) : MS := fun z => match z[i]? with
  | some (.ow ds) => m (z.set i (.sh (.lst ds)))
  | _ => .stuck
theorem ds_frz (i : Nat) (h : DS T X E st m1) : DS T X E st (sFrz i m1) := ps_imp h fun N s H ⟨F0, H0, F, z, x, h⟩ => by
  unfold sFrz at h
  split at h
  · rename_i ds e1
    obtain ⟨p, xs, h1, h2, h3, h4⟩ := x.r.ow i ds e1
    refine ⟨F0, H0, _, _, ⟨x.up.know h2 (x.own i ds p e1 h1) h3, x.r.know e1 h1 h2 h4, fun j y v q g1 g2 o => ?_⟩, h⟩
    rcases set_at g1 with ⟨rfl, rfl, _⟩ | ⟨n, g1⟩
    · exact o.elim
    · exact x.oa j y v q g1 g2 ((x.r.ok g1 g2).down (Ex.new h3) o)
  · exact h.elim

/-! ### loops -/
def forD (t : Tg) (m : MS) : List D → MS
  | [] => fun z => .ok (.nx z)
  | d :: ds => fun z => (setT t d z).bnd fun z1 => (m z1).bnd fun f => match f with
    | .nx z2 => forD t m ds z2
    | .ct z2 => forD t m ds z2
    | .bk z2 => .ok (.nx z2)
    | f => .ok f
def sFor (t : Tg) (mi : ML) (m : MS) : MS := fun z => (mi z).bnd fun ds => forD t m ds z
theorem ds_for {body : List Stmt} (hp : PassesOwn (model X.prog X.w) X.A X.env X.xe) (hc : X.calm = true) (hi : DN T X E tg iter mi) (hg : DG T X tg t) (hb : DSs T X E body m1) (hs : ∀ x, foldedSetIterable iter X.env x = pure x := by intro _; rfl) :
    DS T X E (.For tg iter body [] pos) (sFor t mi m1) := ps_imp (ps_for hp hc hi hg hb hs) fun N s H ⟨F0, H0, F, z, x, h⟩ =>
  ⟨F, z, x.r, PostS.bnd (L := lN T) (x := x) h fun ds J F1 H1 u1 it h1 => by
    refine ⟨fun i m s' H' => m = ds.length - i ∧ i ≤ ds.length ∧ ∃ F' z', Ex F1 F' ∧ Sx T F0 H0 F' H' s' z' ∧ PostS T E F0 H0 N (forD t m1 (ds.drop i) z'), ⟨ds.length, by simp, Nat.zero_le _, F1, z, Ex.refl F1, x.step u1, h1⟩, ?_⟩
    rintro i m s' H' ⟨rfl, hi, F', z', e', x', h'⟩
    by_cases hlt : i < ds.length
    · have hd : ds[i]? = some ds[i] := List.getElem?_eq_getElem hlt
      rw [List.drop_eq_getElem_cons hlt] at h'
      simp only [forD] at h'
      refine .inr ⟨it.go i F' H' e' x'.r.ex hlt, fun s2 H2 => ∃ F' z', Ex F1 F' ∧ Sx T F0 H0 F' H2 s2 z' ∧ PostS T E F0 H0 N (forD t m1 (ds.drop (i + 1)) z'), fun s2 H2 hn => ⟨ds.length - (i + 1), by omega, rfl, hlt, hn⟩, fun v H2 hy => ?_⟩
      obtain ⟨F2, u2, r2⟩ := it.yl i F' H' v H2 _ e' x'.r.ex hd hy
      cases es : setT t ds[i] z' with
      | stuck => rw [es] at h'; exact h'.elim
      | exc c => exact (setT_noexc _ _ _ _ es).elim
      | ok z1 =>
        rw [es, bnd_ok] at h'
        refine ⟨F2, z', ds[i], z1, x'.r.up u2, r2, es, fun s3 r3 hb3 => ?_⟩
        have x3 := (x'.step u2).tgt es r3 hb3
        have eF := e'.trans u2.f
        refine ⟨F2, uni F2 H0, F2, z1, x3.base, ?_⟩
        cases em : m1 z1 with
        | stuck => rw [em] at h'; exact h'.elim
        | exc c => rw [em] at h'; exact fun H4 e4 => h' H4 ((Gr.same fun a o h => uni_in h).trans e4)
        | ok f =>
          rw [em] at h'
          cases f with
          | nx z2 => exact fun s4 F4 H4 x4 => ⟨F4, z2, eF.trans x4.up.f, x4.rebase x3.up, h'⟩
          | ct z2 => exact fun s4 F4 H4 x4 => ⟨F4, z2, eF.trans x4.up.f, x4.rebase x3.up, h'⟩
          | bk z2 => exact fun s4 F4 H4 x4 => h' s4 F4 H4 (x4.rebase x3.up)
          | rt d => exact fun v F4 H4 u4 r4 => h' v F4 H4 (x3.up.rebase u4) r4
          | rl ds => exact fun p xs F4 H4 u4 g0 gf gp gA => h' p xs F4 H4 (x3.up.rebase u4) (uni_none g0).2 gf gp gA
          | ro k fs => exact fun a F4 H4 u4 ⟨ps, g1, g2, g3, g4⟩ => h' a F4 H4 (x3.up.rebase u4) ⟨ps, g1, g2, g3, fun p hp => (uni_none (g4 p hp)).2⟩
    · have ei : i = ds.length := by omega
      subst ei
      rw [List.drop_length] at h'
      exact .inl ⟨it.st _ F' H' e' x'.r.ex (Nat.le_refl _), h' s' F' H' x'⟩⟩
/-- while, at most n turns -/
def whileD (t : MB) (m : MS) : Nat → MS
  | 0 => fun _ => .stuck
  | n + 1 => fun z => (t z).bnd fun b => if b then (m z).bnd fun f => (match f with
    | .nx z2 => whileD t m n z2
    | .ct z2 => whileD t m n z2
    | .bk z2 => .ok (.nx z2)
    | f => .ok f) else .ok (.nx z)
theorem ds_while (n : Nat) {body : List Stmt} (hp : PassesOwn (model X.prog X.w) X.A X.env X.xe) (ht : DT T X E c ba) (hb : DSs T X E body m1) : DS T X E (.While c body [] pos) (whileD ba m1 n) := ps_imp (ps_while hp ht hb) fun N s H ⟨F0, H0, F, z, x, h⟩ => by
  refine ⟨fun m s' H' => ∃ F' z', Sx T F0 H0 F' H' s' z' ∧ PostS T E F0 H0 N (whileD ba m1 m z'), ⟨n, F, z, x, h⟩, ?_⟩
  rintro m s' H' ⟨F', z', x', h'⟩
  cases m with
  | zero => exact h'.elim
  | succ m =>
    simp only [whileD] at h'
    refine ⟨F', z', x'.r, PostS.bnd (L := lB) (x := x') h' fun y v F1 H1 u1 ry h1 => ?_⟩
    cases ry
    cases y with
    | false =>
      rw [if_neg Bool.false_ne_true] at h1 ⊢
      exact h1 s' F1 H1 (x'.step u1)
    | true =>
      rw [if_pos rfl] at h1 ⊢
      refine ⟨fun s2 H2 => ∃ F' z', Sx T F0 H0 F' H2 s2 z' ∧ PostS T E F0 H0 N (whileD ba m1 m z'), fun s2 H2 hn => ⟨m, Nat.lt_succ_self m, hn⟩, F0, H0, F1, z', x'.step u1, ?_⟩
      cases em : m1 z' with
      | stuck => rw [em] at h1; exact h1.elim
      | exc c => rw [em] at h1; exact h1
      | ok f =>
        rw [em] at h1
        cases f with
        | nx z2 => exact fun s4 F4 H4 x4 => ⟨F4, z2, x4, h1⟩
        | ct z2 => exact fun s4 F4 H4 x4 => ⟨F4, z2, x4, h1⟩
        | bk z2 => exact fun s4 F4 H4 x4 => h1 s4 F4 H4 x4
        | rt d => exact h1
        | rl ds => exact h1
        | ro k fs => exact h1

/-! ### defs -/
def st0 (n : Nat) (ds : List D) : List Sd := ds.map Sd.sh ++ List.replicate (n - ds.length) .no
def retD : Fw → Rs D
  | .rt d => .ok d
  | .nx _ => .ok .non
  | .rl ds => .ok (.lst ds)
  | .ro k fs => .ok (obD k fs)
  | _ => .stuck
def retL : Fw → Rs (List D)
  | .rl ds => .ok ds
  | _ => .stuck
def runF (n : Nat) (m : MS) (ds : List D) : Rs D := (noX (m (st0 n ds))).bnd retD
def runL (n : Nat) (m : MS) (ds : List D) : Rs (List D) := (noX (m (st0 n ds))).bnd retL
def runX (n : Nat) (m : MS) (ds : List D) : Rs D := (m (st0 n ds)).bnd retD
def runXL (n : Nat) (m : MS) (ds : List D) : Rs (List D) := (m (st0 n ds)).bnd retL
end
theorem r_start {T : Tx} {F H : Hp} {vs : List V} {ds : List D} {N : List Str} (e' : En T F H) (h : RpAll T F vs ds) : Sx T F H F H (L2.start N vs) (st0 N.length ds) := by
  have e := e'.ex
  have hl := h.length
  have key : ∀ {i : Nat} {x : Sd}, (st0 N.length ds)[i]? = some x → x = .no ∨ ∃ d, x = .sh d ∧ ds[i]? = some d := fun {i x} q => by
    unfold st0 at q
    by_cases hi : i < ds.length
    · rw [List.getElem?_append_left (by simpa using hi), List.getElem?_map, List.getElem?_eq_getElem hi] at q
      cases q
      exact .inr ⟨_, rfl, List.getElem?_eq_getElem hi⟩
    · rw [List.getElem?_append_right (by simpa using hi), List.getElem?_replicate] at q
      split at q
      · cases q; exact .inl rfl
      · cases q
  have noA : ∀ {i : Nat} {y : Sd} {v : V} {p : Addr}, (st0 N.length ds)[i]? = some y → OA T F v y p → False := fun {i y v p} q o => by
    rcases key q with q | ⟨d', q, hd⟩ <;> (subst q; exact o)
  refine ⟨Up.refl e, ⟨e, fun i y q hn => ?_, fun i j y1 y2 v1 v2 p q1 q2 q3 q4 o1 o2 => (noA q1 o1).elim, ?_, e'.tb⟩, fun i y v p q _ o => (noA q o).elim⟩
  · rcases key q with q | ⟨d', q, hd⟩
    · exact absurd q hn
    · subst q
      obtain ⟨v, h1, h2⟩ := h.get hd
      refine ⟨v, ?_, h2⟩
      unfold L2.start
      rw [List.getElem?_append_left (by rw [List.length_map]; exact (List.getElem?_eq_some_iff.mp h1).1), List.getElem?_map, h1]
      rfl
  · unfold st0 L2.start
    rw [List.length_append, List.length_append, List.length_map, List.length_map, List.length_replicate, List.length_replicate, hl]
section
variable {P : Program} {w : World} {K : PySem.W.Frag} {mg : Str → Option Value} {base : Heap} {T : Tx}
/-- a new holder becomes a datum -/
theorem ObAt.rp {H0 F H F0 : Hp} {k : Option Nat} {a : Addr} {fs : List (List D)} (u : Up T F0 H0 F H) (h : ObAt T H0 F H k a fs) : ∃ F', Up T F0 H0 F' H ∧ Rp T F' (.ref a) (obD k fs) := by
  obtain ⟨ps, h1, h2, ⟨h3, h5⟩, h4⟩ := h
  have st : ∀ p ∈ ps, ∃ xs, H p = some (.lst xs) ∧ F p = none := fun p hp => by
    obtain ⟨j, hj⟩ := List.getElem?_of_mem hp
    have hl : j < fs.length := by rw [← h3]; exact (List.getElem?_eq_some_iff.mp hj).1
    obtain ⟨xs, g1, g2, _⟩ := h5 j p _ hj (List.getElem?_eq_getElem hl)
    exact ⟨xs, g1, g2⟩
  let F' : Hp := fun q => if q ∈ ps then H q else F q
  have eF : Ex F F' := fun q o e => by
    show Keeps o (if q ∈ ps then H q else F q)
    split
    · exact u.s q o e
    · exact keeps_refl e
  have eH : Ex F' H := fun q o e => by
    have e' : (if q ∈ ps then H q else F q) = some o := e
    split at e'
    · exact keeps_refl e'
    · exact u.s q o e'
  refine ⟨F', ⟨u.f.trans eF, u.h, eH, fun q o e1 e2 => ?_⟩, hold_rp (h1.mono eF) h3 fun j p ds e1 e2 => ?_⟩
  · have e' : (if q ∈ ps then H q else F q) = some o := e2
    split at e'
    · rename_i hq
      exact .inl (h4 q hq)
    · exact u.n q o e1 e'
  · obtain ⟨xs, g1, g2, g3⟩ := h5 j p ds e1 e2
    refine ⟨xs, ?_, g3.mono eF⟩
    show (if p ∈ ps then H p else F p) = _
    rw [if_pos (List.mem_of_getElem? e1)]
    exact g1
theorem post_ret {E : XK} {F H : Hp} {Q : VK} {r : Rs Fw} (h : Post T E (lV T) F H Q (r.bnd retD)) : PostS T E F H { nx := fun _ H' => Q .non H', rt := Q } r := by
  cases r with
  | stuck => exact h
  | exc c => exact h
  | ok f =>
    cases f with
    | nx z => exact fun s F' H' x => h _ F' H' x.up .non
    | rt d => exact fun v F' H' u r => h v F' H' u r
    | rl ds => exact fun p xs F' H' u h0 hf hp hA => h _ (upd F' p (.lst xs)) H' (u.know hp h0 hf) (.lst (.inl upd_same) (hA.mono (Ex.new hf)))
    | ro k fs =>
      intro a F' H' u o
      obtain ⟨F2, u2, r2⟩ := o.rp u
      exact h _ F2 H' u2 r2
    | bk z => exact h.elim
    | ct z => exact h.elim
theorem post_retL {E : XK} {F H : Hp} {Q : VK} {r : Rs Fw} (h : Post T E (lL T) F H Q (r.bnd retL)) : PostS T E F H { nx := fun _ H' => Q .non H', rt := Q } r := by
  cases r with
  | stuck => exact h
  | exc c => exact h
  | ok f =>
    cases f with
    | nx z => exact h.elim
    | rt d => exact h.elim
    | rl ds => exact fun p xs F' H' u h0 hf hp hA => h _ F' H' u ⟨p, xs, rfl, h0, hf, hp, hA⟩
    | ro k fs => exact h.elim
    | bk z => exact h.elim
    | ct z => exact h.elim
theorem post_noX {E : XK} {F0 H0 : Hp} {N : Ends} {r : Rs Fw} (h : PostS T E F0 H0 N (noX r)) : PostS T E0 F0 H0 N r := by
  cases r with
  | stuck => exact h
  | exc c => exact h.elim
  | ok f => cases f <;> exact h
variable {x qual : Str} {st : Stmt} {f : Addr} {fd : FuncData} {N ps : List Str} {k : Nat} {m : MS}
/-- a def that raises nothing, by its body -/
theorem fn_D (F : Fun K x qual st f fd) (S : FnScope N ps (defScope st))
    (hb : ∀ (cdv : Value) (A : Around) (outer : List Env) (s : Shared) (H : Hp) (E : XK), Room k (A.deeper (PyProof.Rows.envOfC qual (defScope st) s.heap.objs.size f cdv)) → DSs T (cxOf CX0 P w K mg base N qual (defScope st) f cdv A outer s H E).nox E0 (defBody st) m) :
    FnOk P w K mg base CX0 (k + 1) f fd ps (spD T ps.length (runF N.length m)) := by
  refine F.ok S (fun vs H Q E h => ?_) (fun cdv A outer s H vs Q E hr h => ?_)
  · obtain ⟨F, ds, _, hA, hl, _⟩ := h
    rw [hA.length, hl]
  · obtain ⟨F, ds, e, hA, hl, h⟩ := h
    exact ⟨_, hb cdv A outer s H E hr, F, H, F, _, r_start e hA, post_noX (post_ret h)⟩
theorem fn_L (F : Fun K x qual st f fd) (S : FnScope N ps (defScope st))
    (hb : ∀ (cdv : Value) (A : Around) (outer : List Env) (s : Shared) (H : Hp) (E : XK), Room k (A.deeper (PyProof.Rows.envOfC qual (defScope st) s.heap.objs.size f cdv)) → DSs T (cxOf CX0 P w K mg base N qual (defScope st) f cdv A outer s H E).nox E0 (defBody st) m) :
    FnOk P w K mg base CX0 (k + 1) f fd ps (spL T ps.length (runL N.length m)) := by
  refine F.ok S (fun vs H Q E h => ?_) (fun cdv A outer s H vs Q E hr h => ?_)
  · obtain ⟨F, ds, _, hA, hl, _⟩ := h
    rw [hA.length, hl]
  · obtain ⟨F, ds, e, hA, hl, h⟩ := h
    exact ⟨_, hb cdv A outer s H E hr, F, H, F, _, r_start e hA, post_noX (post_retL h)⟩
/-- a def whose exceptions have no context -/
theorem okN {sp : Sp} (F : Fun K x qual st f fd) (S : FnScope N ps (defScope st)) (hl : ∀ vs H Q E, sp vs H Q E → vs.length = ps.length)
    (hb : ∀ (cdv : Value) (A : Around) (outer : List Env) (s : Shared) (H : Hp) (vs : List V) (Q : VK) (E : XK), Room k (A.deeper (PyProof.Rows.envOfC qual (defScope st) s.heap.objs.size f cdv)) → sp vs H Q E →
      ∃ t, PSs (cxOf (L2N.CX P w) P w K mg base N qual (defScope st) f cdv A outer s H E) (defBody st) t ∧ t { nx := fun _ H' => Q .non H', rt := Q } (L2.start N vs) H) : FnOk P w K mg base (L2N.CX P w) (k + 1) f fd ps sp := by
  obtain ⟨a1, a2, a3, a4, a5, a6, cv, a8, a9, e, l1, l2⟩ := F.ex
  subst e
  exact fn_of l1 l2 S hl fun A o s H vs Q E r q => hb cv A o s H vs Q E r q
/-- a def that may raise -/
theorem fn_X (F : Fun K x qual st f fd) (S : FnScope N ps (defScope st))
    (hb : ∀ (cdv : Value) (A : Around) (outer : List Env) (s : Shared) (H : Hp) (E : XK), Room k (A.deeper (PyProof.Rows.envOfC qual (defScope st) s.heap.objs.size f cdv)) → DSs T (cxOf (L2N.CX P w) P w K mg base N qual (defScope st) f cdv A outer s H E) E (defBody st) m) :
    FnOk P w K mg base (L2N.CX P w) (k + 1) f fd ps (spD T ps.length (runX N.length m)) := by
  refine okN F S (fun vs H Q E h => ?_) (fun cdv A outer s H vs Q E hr h => ?_)
  · obtain ⟨F, ds, _, hA, hl, _⟩ := h
    rw [hA.length, hl]
  · obtain ⟨F, ds, e, hA, hl, h⟩ := h
    exact ⟨_, hb cdv A outer s H E hr, F, H, F, _, r_start e hA, post_ret h⟩
theorem fn_XL (F : Fun K x qual st f fd) (S : FnScope N ps (defScope st))
    (hb : ∀ (cdv : Value) (A : Around) (outer : List Env) (s : Shared) (H : Hp) (E : XK), Room k (A.deeper (PyProof.Rows.envOfC qual (defScope st) s.heap.objs.size f cdv)) → DSs T (cxOf (L2N.CX P w) P w K mg base N qual (defScope st) f cdv A outer s H E) E (defBody st) m) :
    FnOk P w K mg base (L2N.CX P w) (k + 1) f fd ps (spL T ps.length (runXL N.length m)) := by
  refine okN F S (fun vs H Q E h => ?_) (fun cdv A outer s H vs Q E hr h => ?_)
  · obtain ⟨F, ds, _, hA, hl, _⟩ := h
    rw [hA.length, hl]
  · obtain ⟨F, ds, e, hA, hl, h⟩ := h
    exact ⟨_, hb cdv A outer s H E hr, F, H, F, _, r_start e hA, post_retL h⟩
end
end CL


set_option Elab.async false
set_option linter.all false
set_option maxRecDepth 100000
/-! The data layer, part f: the built-ins' names, raise. -/
namespace CL
open PySem PySem.Spec L2
/-- no name of a built-in is taken -/
structure Blt (mg : Str → Option Value) : Prop where
  len : mg "len" = none
  isinstance : mg "isinstance" = none
  int : mg "int" = none
  bool : mg "bool" = none
  list : mg "list" = none
  tuple : mg "tuple" = none
  str : mg "str" = none
  all : mg "all" = none
  any : mg "any" = none
  range : mg "range" = none
  sum : mg "sum" = none
  abs : mg "abs" = none
  max : mg "max" = none
  min : mg "min" = none
  zip : mg "zip" = none
  enumerate : mg "enumerate" = none
/-- an own exception class over ValueError -/
structure ExF (K : PySem.W.Frag) (mg : Str → Option Value) (x : Str) (C : Addr) : Prop where
  xP : PySem.W.excIn K C [.type "ValueError", .type "Exception", .type "BaseException", .type "object"] "ValueError.__new__" = true
  gP : mg x = some (.ref C)
  kP : PySem.W.keepIn K (.ref C) = true
  bP : PySem.W.subIn K (.ref C) (.type "BaseException") = some true
  tP : PySem.W.typeIn K (.ref C) = some (.type "type")
section
variable {T : Tx} {X : Cx} {E : XK}
def sRaise (c : Nat) : MS := fun _ => .exc c
theorem ds_raise (c : Nat) {x m : Str} {j : Nat} {p p2 pos pos2 : Pos} (hc : X.calm = true) (tk : L2N.Takes X (fun cls d _ H => E cls d H)) (e : ExF X.K X.mg x (T.exc c)) (hg : Gl X x := by rfl) (hdb : (x == ("__debug__" : Str)) = false := by decide) :
    DS T X E (.Raise (some (.Call (.Name x p) [.Constant (.str m) j p2] [] pos)) none pos2) (sRaise c) :=
  ps_imp (L2N.ps_raise hc tk (L2N.pmk_own PySem.F.excBase_ValueError e.xP e.gP e.kP (raises_own e.bP e.tP) hg hdb)) fun N s H ⟨F0, H0, F, z, x, h⟩ => h H x.up.h
end
end CL
namespace CL
open PySem PySem.Spec L2
/-! ### a datum or a new list -/
inductive Rv where
  | val (d : D) | own (ds : List D) | obj (k : Option Nat) (fs : List (List D))
def lR (T : Tx) : Rl V Rv := ⟨fun H F H' v x => match x with
  | .val d => Rp T F v d
  | .own ds => ∃ p xs, v = .ref p ∧ H p = none ∧ F p = none ∧ H' p = some (.lst xs) ∧ RpAll T F xs ds
  | .obj k fs => ∃ a, v = .ref a ∧ ObAt T H F H' k a fs, fun {H H1 F2 H2 v x} e h => by
    cases x with
    | val d => exact h
    | obj k fs => obtain ⟨a, h1, ps, h2, h3, h4, h5⟩ := h; exact ⟨a, h1, ps, h2, h3, h4, fun p hp => e.back (h5 p hp)⟩
    | own ds => obtain ⟨p, xs, a, b, c, d⟩ := h; exact ⟨p, xs, a, e.back b, c, d⟩⟩
abbrev MR := List Sd → Rs Rv
def DR (T : Tx) (X : Cx) (E : XK) (e : Expr) (m : MR) : Prop := PE X e (tG T E (lR T) m)
def spR (T : Tx) (n : Nat) (f : List D → Rs Rv) : Sp := fun vs H Q E => ∃ F ds, En T F H ∧ RpAll T F vs ds ∧ ds.length = n ∧ Post T E (lR T) F H Q (f ds)
section
variable {T : Tx} {X : Cx} {E : XK} {a b c e : Expr} {es : List Expr} {pos p : Pos} {m : M} {ml mes : ML} {ba : MB} {mr ms : MR} {x : Str} {CX : CXT} {j k : Nat}
def rE (m : M) : MR := fun z => (m z).bnd fun d => .ok (.val d)
def rL (m : ML) : MR := fun z => (m z).bnd fun d => .ok (.own d)
theorem dr_e (h : DE T X E e m) : DR T X E e (rE m) := pe_imp h fun s H Q ⟨F, z, q, h⟩ => ⟨F, z, q, Post.bnd (L := lV T) h fun y v F1 H1 u1 ry h1 => h1 v F1 H1 (Up.refl u1.s) ry⟩
theorem dr_l (h : DL T X E e ml) : DR T X E e (rL ml) := pe_imp h fun s H Q ⟨F, z, q, h⟩ => ⟨F, z, q, by
    unfold rL at h
    cases em : ml z with
    | stuck => rw [em] at h; exact h
    | exc c => rw [em] at h; exact h
    | ok ds => rw [em] at h; exact fun v F1 H1 u1 rx => h v F1 H1 u1 rx⟩
def rIf (t : MB) (ma mb : MR) : MR := fun z => (t z).bnd fun x => if x then ma z else mb z
theorem dr_if (hc : DT T X E c ba) (ha : DR T X E a mr) (hb : DR T X E b ms) : DR T X E (.IfExp c a b pos) (rIf ba mr ms) := pe_imp (pe_ifExp hc ha hb) fun s H Q ⟨F, z, q, h⟩ =>
  ⟨F, z, q, Post.bnd (L := lB) h fun x v F1 H1 u1 rx h1 => by
    cases rx
    cases x with
    | true => exact iteT ⟨F1, z, q.up u1, h1⟩
    | false => exact iteF ⟨F1, z, q.up u1, h1⟩⟩
theorem dr_call {n : Nat} {f : List D → Rs Rv} (c : DefG X.prog X.w X.K X.mg X.base CX k x (spR T n f)) (hr : Room j X.A) (hk : k ≤ j) (hp : Passes CX X E) (ha : DA T X E (e :: es) mes) (hg : Gl X x := by rfl) (hdb : (x == ("__debug__" : Str)) = false := by decide)
    (he : starEach (e :: es) X.env = (false, eval e X.env) :: starEach es X.env := by rfl) (hpl : (backTo pos (starEach es X.env)).any (·.1) = false := by rfl) : DR T X E (.Call (.Name x p) (e :: es) [] pos) (mCall n f mes) :=
  pe_imp (pe_cal c hr hk hp hg ha hdb he hpl) fun s H Q ⟨F, z, q, h⟩ => ⟨F, z, q, Post.mapQ (call_read (s := s) q.tb h) fun vs H1 h1 => by
    show spR T n f (vs ++ []) H1 Q E
    rw [List.append_nil]
    exact h1⟩
/-- .. as a datum -/
def rvD : Rv → D
  | .val d => d
  | .own ds => .lst ds
  | .obj k fs => obD k fs
def mR (mr : MR) : M := fun z => (mr z).bnd fun x => .ok (rvD x)
theorem de_r (h : DR T X E e mr) : DE T X E e (mR mr) := pe_imp h fun s H Q ⟨F, z, q, h⟩ => ⟨F, z, q, by
    unfold mR at h
    cases em : mr z with
    | stuck => rw [em] at h; exact h
    | exc c => rw [em] at h; exact h
    | ok x =>
      rw [em] at h
      intro v F1 H1 u1 rx
      cases x with
      | val d => exact h v F1 H1 u1 rx
      | own ds =>
        obtain ⟨p, xs, rfl, h0, hf, hp, hA⟩ := rx
        exact h _ (upd F1 p (.lst xs)) H1 (u1.know hp h0 hf) (.lst (.inl upd_same) (hA.mono (Ex.new hf)))
      | obj k fs =>
        obtain ⟨a, rfl, o⟩ := rx
        obtain ⟨F2, u2, r2⟩ := o.rp u1
        exact h _ F2 H1 u2 r2⟩
def rvS : Rv → Sd
  | .val d => .sh d
  | .own ds => .ow ds
  | .obj k fs => .ob k fs
def sSetR (i : Nat) (m : MR) : MS := fun z => (m z).bnd fun d => .ok (.nx (z.set i (rvS d)))
theorem ds_setR (i : Nat) {x : Str} {p2 : Pos} (hN : X.N.Nodup) (he : DR T X E e mr) (hi : X.N[i]? = some x := by rfl) (hx : Loc X.env.scope x := by first | exact Or.inl rfl | exact Or.inr rfl) (hs : swapsWith e (some (.Name x p2)) pos.line X.env = pure false := by rfl)
    (hf : X.fn x = true ∨ X.env.scope.names.lookup x = some .local := by first | exact .inl rfl | exact .inr rfl | assumption) : DS T X E (.Assign [.Name x p2] e pos) (sSetR i mr) := ps_imp (ps_set hN hi hx he hs hf) fun N s H ⟨F0, H0, F, z, x, h⟩ =>
  ⟨F, z, x.r, PostS.bnd (L := lR T) (x := x) h fun y v F1 H1 u1 ry h1 => by
    cases y with
    | val d => exact h1 _ F1 H1 ((x.step u1).set ry)
    | own ds =>
      obtain ⟨p, xs, rfl, h0, hf, hp, hA⟩ := ry
      exact h1 _ F1 H1 (x.setO u1 h0 hf hp hA)
    | obj k fs =>
      obtain ⟨a, rfl, o⟩ := ry
      exact h1 _ F1 H1 (x.setOb u1 o)⟩
/-- return of a datum, a new list or a new holder -/
def rvF : Rv → Fw
  | .val d => .rt d
  | .own ds => .rl ds
  | .obj k fs => .ro k fs
def sRetR (m : MR) : MS := fun z => (m z).bnd fun x => .ok (rvF x)
theorem ds_retR (h : DR T X E e mr) : DS T X E (.Return (some e) pos) (sRetR mr) := ps_imp (ps_ret h) fun N s H ⟨F0, H0, F, z, x, h⟩ =>
  ⟨F, z, x.r, PostS.bnd (L := lR T) (x := x) h fun y v F1 H1 u1 ry h1 => by
    cases y with
    | val d => exact h1 v F1 H1 (x.up.trans u1) ry
    | own ds =>
      obtain ⟨p, xs, rfl, h0, hf, hp, hA⟩ := ry
      exact h1 p xs F1 H1 (x.up.trans u1) (x.up.h.back h0) hf hp hA
    | obj k fs =>
      obtain ⟨a, rfl, ps, o1, o2, o3, o4⟩ := ry
      exact h1 a F1 H1 (x.up.trans u1) ⟨ps, o1, o2, o3, fun p hp => x.up.h.back (o4 p hp)⟩⟩
def sRetV (i : Nat) : MS := fun z => match z[i]? with
  | some (.ow ds) => .ok (.rl ds)
  | some (.sh d) => .ok (.rt d)
  | _ => .stuck
theorem ds_retV (i : Nat) {x : Str} {p2 : Pos} (hN : X.N[i]? = some x := by rfl) (hv : Vis X.env.scope x := by first | exact Or.inl rfl | exact Or.inr (Or.inl rfl) | exact Or.inr (Or.inr rfl)) (hd : (x == ("__debug__" : Str)) = false := by decide)
    (hcd : (x == ("__classdict__" : Str)) = false := by decide) : DS T X E (.Return (some (.Name x p2)) pos) (sRetV i) := ps_imp (ps_ret (pe_var hN hv hd hcd)) fun N s H ⟨F0, H0, F, z, x, h⟩ => by
  unfold sRetV at h
  split at h
  · rename_i ds e
    obtain ⟨p, xs, h1, h2, h3, h4⟩ := x.r.ow i ds e
    exact ⟨_, h1, h p xs F H x.up (x.own i ds p e h1) h3 h2 h4⟩
  · rename_i d e
    obtain ⟨v, h1, h2⟩ := x.r.sh i d e
    exact ⟨_, h1, h v F H x.up h2⟩
  · exact h.elim
def retR : Fw → Rs Rv
  | .rt d => .ok (.val d)
  | .nx _ => .ok (.val .non)
  | .rl ds => .ok (.own ds)
  | .ro k fs => .ok (.obj k fs)
  | _ => .stuck
def runR (n : Nat) (m : MS) (ds : List D) : Rs Rv := (noX (m (st0 n ds))).bnd retR
def runXR (n : Nat) (m : MS) (ds : List D) : Rs Rv := (m (st0 n ds)).bnd retR
end
section
variable {P : Program} {w : World} {K : PySem.W.Frag} {mg : Str → Option Value} {base : Heap} {T : Tx}
theorem post_retR {E : XK} {F H : Hp} {Q : VK} {r : Rs Fw} (h : Post T E (lR T) F H Q (r.bnd retR)) : PostS T E F H { nx := fun _ H' => Q .non H', rt := Q } r := by
  cases r with
  | stuck => exact h
  | exc c => exact h
  | ok f =>
    cases f with
    | nx z => exact fun s F' H' x => h _ F' H' x.up .non
    | rt d => exact fun v F' H' u r => h v F' H' u r
    | rl ds => exact fun p xs F' H' u h0 hf hp hA => h _ F' H' u ⟨p, xs, rfl, h0, hf, hp, hA⟩
    | ro k fs => exact fun a F' H' u o => h _ F' H' u ⟨a, rfl, o⟩
    | bk z => exact h.elim
    | ct z => exact h.elim
variable {x qual : Str} {st : Stmt} {f : Addr} {fd : FuncData} {N ps : List Str} {k : Nat} {m : MS}
theorem fn_R (F : Fun K x qual st f fd) (S : FnScope N ps (defScope st))
    (hb : ∀ (cdv : Value) (A : Around) (outer : List Env) (s : Shared) (H : Hp) (E : XK), Room k (A.deeper (PyProof.Rows.envOfC qual (defScope st) s.heap.objs.size f cdv)) → DSs T (cxOf CX0 P w K mg base N qual (defScope st) f cdv A outer s H E).nox E0 (defBody st) m) :
    FnOk P w K mg base CX0 (k + 1) f fd ps (spR T ps.length (runR N.length m)) := by
  refine F.ok S (fun vs H Q E h => ?_) (fun cdv A outer s H vs Q E hr h => ?_)
  · obtain ⟨F, ds, _, hA, hl, _⟩ := h
    rw [hA.length, hl]
  · obtain ⟨F, ds, e, hA, hl, h⟩ := h
    exact ⟨_, hb cdv A outer s H E hr, F, H, F, _, r_start e hA, post_noX (post_retR h)⟩
theorem fn_XR (F : Fun K x qual st f fd) (S : FnScope N ps (defScope st))
    (hb : ∀ (cdv : Value) (A : Around) (outer : List Env) (s : Shared) (H : Hp) (E : XK), Room k (A.deeper (PyProof.Rows.envOfC qual (defScope st) s.heap.objs.size f cdv)) → DSs T (cxOf (L2N.CX P w) P w K mg base N qual (defScope st) f cdv A outer s H E) E (defBody st) m) :
    FnOk P w K mg base (L2N.CX P w) (k + 1) f fd ps (spR T ps.length (runXR N.length m)) := by
  refine okN F S (fun vs H Q E h => ?_) (fun cdv A outer s H vs Q E hr h => ?_)
  · obtain ⟨F, ds, _, hA, hl, _⟩ := h
    rw [hA.length, hl]
  · obtain ⟨F, ds, e, hA, hl, h⟩ := h
    exact ⟨_, hb cdv A outer s H E hr, F, H, F, _, r_start e hA, post_retR h⟩
theorem defG {CX : CXT} {sp : Sp} (G : FnOk P w K mg base CX k f fd ps sp) (F : Fun K x qual st f fd) (hm : mg x = some (.ref f)) (b : Binds K fd ps []) : DefG P w K mg base CX k x sp := ⟨f, fd, ps, G, hm, F.kp, b⟩
end
end CL
namespace CL
open PySem PySem.Spec L2
section
variable {T : Tx} {X : Cx} {E : XK} {a b : Expr} {pos : Pos} {m : M} {ml : ML}
/-- a, b = [..], y: a list of one's own and a datum -/
def sParO (i j : Nat) (ml : ML) (m : M) : MS := fun z => (ml z).bnd fun ds => (m z).bnd fun d => .ok (.nx ((z.set i (.ow ds)).set j (.sh d)))
theorem ds_parO (i j : Nat) {x y : Str} {px py pt pt2 : Pos} {kt k2 : Nat} (hc : X.calm = true) (hN : X.N.Nodup) (ha : DL T X E a ml) (hb : DE T X E b m) (hi : X.N[i]? = some x := by rfl) (hj : X.N[j]? = some y := by rfl) (hij : i ≠ j := by decide)
    (hx : X.env.scope.names.lookup x = some .local := by rfl) (hy : X.env.scope.names.lookup y = some .local := by rfl)
    (hw : swappedStores [.Tuple [.Name x px, .Name y py] kt pt] (.Tuple [a, b] k2 pt2) X.env = pure (some [x, y]) := by rfl) (hs : swapsWithSole [.Tuple [.Name x px, .Name y py] kt pt] (.Tuple [a, b] k2 pt2) pos.line X.env = pure false := by rfl)
    (he : starEach [a, b] X.env = (false, eval a X.env) :: starEach [b] X.env := by rfl) (he2 : starEach [b] X.env = (false, eval b X.env) :: starEach [] X.env := by rfl) :
    DS T X E (.Assign [.Tuple [.Name x px, .Name y py] kt pt] (.Tuple [a, b] k2 pt2) pos) (sParO i j ml m) := ps_imp (ps_par hc hN hi hj hij hx hy (pa_cons ha (pa_cons hb pa_nil he2) he) hw hs) fun N s H ⟨F0, H0, F, z, x, h⟩ =>
  ⟨F, z, x.r, PostS.bnd (L := lL T) (x := x) h fun ds v F1 H1 u1 ry h1 => by
    obtain ⟨p, xs, rfl, h0, hf, hp, hA⟩ := ry
    refine ⟨F1, z, x.r.up u1, PostS.bnd (L := lV T) (x := x.step u1) h1 fun d w F2 H2 u2 rw2 h2 => ?_⟩
    exact ⟨_, _, rfl, h2 _ F2 H2 ((x.setO (u1.trans u2) h0 (u2.hid hf hp) (u2.h.ex _ _ hp) (hA.mono u2.f)).set rw2)⟩⟩
end
end CL


set_option Elab.async false
set_option linter.all false
set_option maxRecDepth 100000
/-! The data layer, part g: the script; slices with a step; three names at once. -/
namespace CL
open PySem PySem.Spec L2
section
variable {T : Tx} {X : Cx} {E : XK} {tg a b c e : Expr} {es : List Expr} {pos p p2 : Pos} {ma mb mc m : M} {mes mi mj ml : ML} {ba bb : MB} {lo hi : Option Expr} {mo mp mq : List Sd → Rs (Option Int)}
/-! ### the script -/
def asS : D → Option (List D)
  | .scr ns => some (ns.map D.int)
  | _ => none
theorem asS_some {d : D} {xs : List D} (h : asS d = some xs) : ∃ ns, d = .scr ns ∧ xs = ns.map D.int := by
  cases d with
  | scr ns => exact ⟨ns, rfl, (Option.some.inj h).symm⟩
  | _ => cases h
def mLenS (m : M) : M := fun z => (m z).bnd fun x => (ofO (asS x)).bnd fun xs => .ok (.int xs.length)
theorem de_lenS (hm : X.mg "len" = none) (ha : DE T X E e m) (hK : X.K = T.K := by rfl) (hg : Gl X "len" := by rfl) (he : starEach [e] X.env = (false, eval e X.env) :: starEach [] X.env := by rfl) : DE T X E (.Call (.Name "len" p) [e] [] pos) (mLenS m) :=
  pe_imp (pe_callB call_len_seq hg hm PySem.boot_len (pa_cons ha pa_nil he) (by decide) (by decide) he) fun s H Q ⟨F, z, q, h⟩ =>
  ⟨F, z, q, Post.bnd (L := lV T) h fun x v F1 H1 u1 rx h1 => by
    cases qx : asS x with
    | none => rw [qx] at h1; exact h1.elim
    | some xs =>
      rw [qx] at h1
      obtain ⟨ns, rfl, rfl⟩ := asS_some qx
      cases rx with
      | scr hr =>
        refine ⟨_, _, rfl, .inl (by rw [hK]; exact u1.s.sq hr), ?_⟩
        have := h1 (.int ((ns.map D.int).length : Nat)) F1 H1 (Up.refl u1.s) (.int _)
        rw [List.length_map] at this ⊢
        exact this⟩
def mCutS (m : M) (mo mp : List Sd → Rs (Option Int)) : ML := fun z => (m z).bnd fun x => (ofO (asS x)).bnd fun xs => (mo z).bnd fun lo => (mp z).bnd fun hi => .ok (cutD xs lo hi)
theorem dl_cutS (he : DE T X E e m) (hl : DO T X E lo mo) (hh : DO T X E hi mp) (hK : X.K = T.K := by rfl) : DL T X E (.Subscript e (.Slice lo hi none p2) pos) (mCutS m mo mp) := pe_imp (pe_slice sl_list he hl hh) fun s H Q ⟨F, z, q, h⟩ =>
  ⟨F, z, q, Post.bnd (L := lV T) h fun x v F1 H1 u1 rx h1 => by
    cases qx : asS x with
    | none => rw [qx] at h1; exact h1.elim
    | some xs =>
      rw [qx] at h1
      obtain ⟨ns, rfl, rfl⟩ := asS_some qx
      cases rx with
      | scr hr =>
        refine ⟨F1, z, q.up u1, Post.bnd (L := lO) h1 fun y w F2 H2 u2 ry h2 => ?_⟩
        refine ⟨F2, z, (q.up u1).up u2, Post.bnd (L := lO) h2 fun y2 w2 F3 H3 u3 ry2 h3 => ?_⟩
        cases ry
        cases ry2
        refine ⟨_, _, rfl, by rw [hK]; exact u3.h.sq (u2.h.sq (u1.s.sq hr)), fun l hl => h3 _ F3 _ (Up.newO u3.s hl) ⟨l, _, rfl, hl, u3.s.back hl, upd_same, (rpAll_ints ns).cut _ _⟩⟩⟩
theorem itd_sq {K : PySem.W.Frag} {F : Hp} {a : Addr} {vs : List V} {ds : List D} (hr : SqL K F a vs) (hA : RpAll T F vs ds) : ItD T (Itl K a) F ds where
  go := fun i F1 H e1 e2 hi => by
    have hi' : i < vs.length := by rw [hA.length]; exact hi
    exact ⟨vs, vs[i], e2.sq (e1.sq hr), List.getElem?_eq_getElem hi'⟩
  yl := fun i F1 H x H' d e1 e2 hd hy => by
    obtain ⟨rfl, hy⟩ := hy
    have h1 := hy vs (e2.sq (e1.sq hr))
    obtain ⟨v, h2, h3⟩ := hA.get hd
    rw [h1] at h2
    cases h2
    exact ⟨F1, Up.refl e2, h3.mono e1⟩
  st := fun i F1 H e1 e2 hi => ⟨vs, e2.sq (e1.sq hr), by rw [hA.length]; exact hi⟩
def mSeqS (m : M) : ML := fun z => (m z).bnd fun x => ofO (asS x)
theorem dn_scr (h : DE T X E e m) (hK : X.K = T.K := by rfl) : DN T X E tg e (mSeqS m) := pi_imp (pi_list h) fun s H Q ⟨F, z, q, h⟩ =>
  ⟨F, z, q, Post.bnd (L := lV T) h fun x v F1 H1 u1 rx h1 => by
    obtain ⟨xs, e, k⟩ := Post.ofO h1
    obtain ⟨ns, rfl, rfl⟩ := asS_some e
    cases rx with
    | scr hr => exact ⟨_, rfl, ⟨_, by rw [hK]; exact u1.s.sq hr⟩, k _ F1 H1 (Up.refl u1.s) (by rw [hK]; exact itd_sq hr (rpAll_ints ns))⟩⟩
/-- script != [] -/
def bNeS (m : M) (ml : ML) : MB := fun z => (m z).bnd fun x => (ofO (asS x)).bnd fun xs => (ml z).bnd fun ys => (ofO (eqD (.lst xs) (.lst ys))).bnd fun b => .ok (!b)
theorem dt_neS {n : Nat} (hr : Room n X.A) (ha : DE T X E a m) (hb : DL T X E b ml) (hK : X.K = T.K := by rfl) : DT T X E (.Compare a [.NotEq] [b] pos) (bNeS m ml) := pt_imp (pt_cmpR (op_neD hr.units) ha hb (nomark _)) fun s H Q ⟨F, z, q, h⟩ =>
  ⟨F, z, q, Post.bnd (L := lV T) h fun x v F1 H1 u1 rx h1 => by
    cases qx : asS x with
    | none => rw [qx] at h1; exact h1.elim
    | some xs =>
      rw [qx] at h1
      obtain ⟨ns, rfl, rfl⟩ := asS_some qx
      cases rx with
      | @scr sa _ hr =>
        refine ⟨F1, z, q.up u1, Post.bnd (L := lL T) h1 fun ys w F2 H2 u2 ry h2 => ?_⟩
        obtain ⟨l, vs, rfl, h0, hf, hp, hA⟩ := ry
        cases qe : eqD (.lst (ns.map D.int)) (.lst ys) with
        | none => rw [qe] at h2; exact h2.elim
        | some b =>
          rw [qe] at h2
          obtain ⟨d1, d2, e1, e2, e3, e4, e5⟩ := eqD_some qe
          have r1 : Dp X.K H2 (.ref sa) d1 := by
            simp only [toPy] at e1
            cases q1 : toPyAll (ns.map D.int) with
            | none => rw [q1] at e1; cases e1
            | some ps =>
              rw [q1] at e1
              cases e1
              exact .lst (by rw [hK]; exact u2.h.sq (u1.s.sq hr)) (RpAll.dp (T := T) (F := H2) _ (rpAll_ints ns) q1)
          have r2 : Dp X.K H2 (.ref l) d2 := Rp.dp (T := T) (F := H2) (.lst ys) (.lst (.inl hp) (hA.mono u2.s)) e2
          exact ⟨d1, d2, r1, r2, e3, e4, _, rfl, by rw [e5]; exact h2 _ F2 H2 (Up.refl u2.s) rfl⟩⟩

/-! ### slices with a step -/
def pickA {α : Type} (xs : List α) (lo hi st : Option Int) : List α := (sliceRange (sliceBounds lo hi st xs.length).1 (sliceBounds lo hi st xs.length).2.1 (sliceBounds lo hi st xs.length).2.2).filterMap (xs[·]?)
theorem vals_pick {xs : List V} {us : List Value} (r : Vals xs us) : ∀ is : List Nat, Vals (is.filterMap (xs[·]?)) (is.filterMap (us[·]?))
  | [] => .nil
  | i :: is => by
    rw [List.filterMap_cons, List.filterMap_cons]
    cases q : xs[i]? with
    | none =>
      rw [Vals.none_of r q]
      exact vals_pick r is
    | some x =>
      obtain ⟨u, h1, h2⟩ := r.get q
      rw [h1]
      exact .cons h2 (vals_pick r is)
theorem rp_pick {F : Hp} {xs : List V} {us : List D} (r : RpAll T F xs us) : ∀ is : List Nat, RpAll T F (is.filterMap (xs[·]?)) (is.filterMap (us[·]?))
  | [] => .nil
  | i :: is => by
    rw [List.filterMap_cons, List.filterMap_cons]
    cases q : us[i]? with
    | none =>
      have : xs[i]? = none := by
        rw [List.getElem?_eq_none_iff] at q ⊢
        rw [r.length]; exact q
      rw [this]
      exact rp_pick r is
    | some x =>
      obtain ⟨u, h1, h2⟩ := r.get q
      rw [h1]
      exact .cons h2 (rp_pick r is)
def tStepL (K : PySem.W.Frag) (te : TE) (tl th ts : TO) : TE := fun σ H Q => te σ H fun x H1 => tl σ H1 fun l H2 => th σ H2 fun u H3 => ts σ H3 fun st H4 => ∃ a xs, x = .ref a ∧ SqL K H4 a xs ∧ st ≠ some 0 ∧ (pickA xs l u st).length ≤ sizeLine ∧ ∀ p, H4 p = none → Q (.ref p) (upd H4 p (.lst (pickA xs l u st)))
theorem pe_stepL {e : Expr} {te : TE} {tl th ts : TO} {lo hi st : Option Expr} {p3 pos : Pos} (he : PE X e te) (hl : PO X lo tl) (hh : PO X hi th) (hst : PO X st ts)
    (hs : ∀ o i, subscripted (.Slice lo hi st p3) false o i = operate [o, i] (getItem o i) := by intros; with_unfolding_all rfl) : PE X (.Subscript e (.Slice lo hi st p3) pos) (tStepL X.K te tl th ts) := by
  refine ⟨fun pins s σ H Q I h => ?_⟩
  refine PyProof.Rows.Subscript_ (thn (he.run pins s σ H _ I h) fun v s1 ⟨x, H1, I1, r1, q1⟩ => ?_)
  refine wpAny_Slice (thn (hl.run pins s1 σ H1 _ I1 q1) fun vl s2 ⟨l, H2, I2, pl, q2⟩ => ?_)
  refine thn (hh.run pins s2 σ H2 _ I2 q2) fun vu s3 ⟨u, H3, I3, pu, q3⟩ => ?_
  refine thn (hst.run pins s3 σ H3 _ I3 q3) fun vs s4 ⟨o, H4, I4, ps, q4⟩ => ?_
  obtain ⟨a, xs, ex, hx, h0, hz0, q⟩ := q4
  subst ex
  cases r1
  have I5 : Inv X pins σ H4 { s4 with heap := s4.heap.push { cls := .type "slice", data := .fields #[vl, vu, vs] } } := I4.kept (t' := s4.toks) fun b ob q => Heap.get?_push_of_some _ q
  obtain ⟨its, r, ht, hz⟩ := I5.list hx
  have hlen := r.length
  show wpAny (model X.prog X.w) X.A (PyProof.Rows.subscriptTail e (.Slice lo hi st p3) (.ref a) (.ref s4.heap.objs.size)) (EP X pins σ Q) X.xe { s4 with heap := s4.heap.push { cls := .type "slice", data := .fields #[vl, vu, vs] } }
  refine PyProof.Rows.tail_any (ops := [.ref a, .ref s4.heap.objs.size]) ht.isList.typeIs (PySem.slot_list_getitem.lookup) ?_ (hs _ _)
  refine wpAny_getItem_list_slice ht.isList (Heap.IsSliceOf.new _ vl vu vs) pl pu ps h0 ?_ (by rw [List.size_toArray]; omega)
  have ep : slicePick its.toArray l u o = (pickA its l u o).toArray := by
    unfold slicePick pickA
    simp only [List.size_toArray, List.getElem?_toArray]
  rw [ep]
  have hv : Vals (pickA xs l u o) (pickA its l u o) := by
    unfold pickA
    rw [hlen]
    exact vals_pick r _
  refine ⟨.ref _, _, I5.laid (t' := s4.toks) (o := .lst (pickA xs l u o)) (fun b ob q => Heap.get?_push_of_some _ q) (Nat.le_refl _) ?_, rfl, q _ (I5.hok.fresh (Nat.le_refl _))⟩
  exact ⟨hz0, _, 0, hv, Heap.get?_push_size _ rfl⟩
def mStep (mi : ML) (mo mp mq : List Sd → Rs (Option Int)) : ML := fun z => (mi z).bnd fun xs => (mo z).bnd fun lo => (mp z).bnd fun hi => (mq z).bnd fun st => if st = some 0 then .stuck else ofO (lstD (pickA xs lo hi st))
theorem dl_step {st : Option Expr} {p3 : Pos} (he : DI T X E e mi) (hl : DO T X E lo mo) (hh : DO T X E hi mp) (hst : DO T X E st mq) (hs : ∀ o i, subscripted (.Slice lo hi st p3) false o i = operate [o, i] (getItem o i) := by intros; with_unfolding_all rfl) :
    DL T X E (.Subscript e (.Slice lo hi st p3) pos) (mStep mi mo mp mq) := pe_imp (pe_stepL he hl hh hst hs) fun s H Q ⟨F, z, q, h⟩ =>
  ⟨F, z, q, Post.bnd (L := lI T) h fun xs v F1 H1 u1 rx h1 => by
    obtain ⟨p, vs, rfl, hr, hA⟩ := rx
    refine ⟨F1, z, q.up u1, Post.bnd (L := lO) h1 fun y w F2 H2 u2 ry h2 => ?_⟩
    refine ⟨F2, z, (q.up u1).up u2, Post.bnd (L := lO) h2 fun y2 w2 F3 H3 u3 ry2 h3 => ?_⟩
    refine ⟨F3, z, ((q.up u1).up u2).up u3, Post.bnd (L := lO) h3 fun y3 w3 F4 H4 u4 ry3 h4 => ?_⟩
    cases ry
    cases ry2
    cases ry3
    by_cases h0 : y3 = some 0
    · rw [if_pos h0] at h4
      exact h4.elim
    · rw [if_neg h0] at h4
      obtain ⟨d, e, k⟩ := Post.ofO h4
      obtain ⟨hz, rfl⟩ := lstD_some e
      have hA4 := ((hA.mono u2.f).mono u3.f).mono u4.f
      have hp : RpAll T F4 (pickA vs y y2 y3) (pickA xs y y2 y3) := by
        unfold pickA
        rw [hA.length]
        exact rp_pick hA4 _
      exact ⟨_, _, rfl, .inl (u4.h.rd (u3.h.rd (u2.h.rd hr))), h0, by rw [hp.length]; exact hz, fun l hl => k _ F4 _ (Up.newO u4.s hl) ⟨l, _, rfl, hl, u4.s.back hl, upd_same, hp⟩⟩⟩
/-! ### a, b, c = x, y, z -/
theorem ds_par3 (i j l : Nat) {x y w : Str} {px py pw pt pt2 : Pos} {kt k2 : Nat} (hc : X.calm = true) (hN : X.N.Nodup) (ha : DA T X E [a, b, c] mes) (hi : X.N[i]? = some x := by rfl) (hj : X.N[j]? = some y := by rfl) (hl : X.N[l]? = some w := by rfl) (hij : i ≠ j := by decide) (hil : i ≠ l := by decide) (hjl : j ≠ l := by decide)
    (hx : X.env.scope.names.lookup x = some .local := by rfl) (hy : X.env.scope.names.lookup y = some .local := by rfl) (hz : X.env.scope.names.lookup w = some .local := by rfl)
    (hw : swappedStores [.Tuple [.Name x px, .Name y py, .Name w pw] kt pt] (.Tuple [a, b, c] k2 pt2) X.env = pure (some [x, y, w]) := by rfl) (hs : swapsWithSole [.Tuple [.Name x px, .Name y py, .Name w pw] kt pt] (.Tuple [a, b, c] k2 pt2) pos.line X.env = pure false := by rfl) :
    DS T X E (.Assign [.Tuple [.Name x px, .Name y py, .Name w pw] kt pt] (.Tuple [a, b, c] k2 pt2) pos) (sPar3 i j l mes) := ps_imp (ps_par3 hc hN hi hj hl hij hil hjl hx hy hz ha hw hs) fun N s H ⟨F0, H0, F, z, x, h⟩ =>
  ⟨F, z, x.r, PostS.bnd (L := lA T) (x := x) h fun ds vs F1 H1 u1 ry h1 => by
    cases ry with
    | nil => exact h1.elim
    | cons r1 t1 =>
      cases t1 with
      | nil => exact h1.elim
      | cons r2 t2 =>
        cases t2 with
        | nil => exact h1.elim
        | cons r3 t3 =>
          cases t3 with
          | cons _ _ => exact h1.elim
          | nil => exact ⟨_, _, _, rfl, h1 _ F1 H1 ((((x.step u1).set r1).set r2).set r3)⟩⟩
end
end CL


set_option Elab.async false
set_option linter.all false
set_option maxRecDepth 100000
/-! The data layer, part h: max of two tuples of ints. -/
namespace CL
open PySem PySem.Spec PyProof.Rows L2
section
variable {prog : Program} {w : World} {A : Around} {E : Value → Shared → Prop} {s : Shared}
abbrev Kept (s s' : Shared) : Prop := ∀ c o, s.heap.get? c = some o → s'.heap.get? c = some o
/-- the answer of b > a where the heap still has what it had -/
def GtAt (prog : Program) (w : World) (A : Around) (s : Shared) (a b : Value) (k : Bool) : Prop :=
  ∀ (s' : Shared) (Q E : Value → Shared → Prop), Kept s s' → Q (.bool k) s' → wpAny (model prog w) A (richCompare .Gt b a) Q E s'
section
variable {R : Result → Shared → Prop} {I S : Addr} {fp wr : List Addr} {n : Nat} {P : Nat → Value → Prop} {St : Nat → Heap → Prop}
/-- the last turn: nothing is left -/
theorem max_end (W : Walks prog w A.in1 I fp wr n P St) (hSw : S ∉ wr) {v : Value} {c : Nat} (hst : St n s.heap) (hS : s.heap.get? S = some { cls := .type "list", dict := none, data := .seq #[v, v] c, slots := #[] })
    (hR : ∀ h' tk, (∀ b o, b ∉ wr → b ≠ S → s.heap.get? b = some o → h'.get? b = some o) → R (.ok (.ret v)) { s with heap := h', toks := tk }) :
    codeAny (model prog w) A (.builtin "max.loop" ⟨[.ref I, .none, .ref S], []⟩) R s := by
  refine codeAny_builtin (F.entry_max_loop) ?_
  rw [Around.under_plainId (F.plain_max_loop) _]
  show wpAny _ A.in1 ((seqItems? (.ref S)) >>= _) _ _ s
  refine wpAny_bind (wpAny_seqItems hS (rfl) ?_)
  show wpAny _ A.in1 ((tryCatch (pyNext (.ref I)) _) >>= _) _ _ s
  refine wpAny_bind (wpAny_tryCatch (W.done s _ _ hst fun h' tk q => ?_))
  show wpAny _ A.in1 ((updateSeq S (fun _ => #[])) >>= _) _ _ _
  refine wpAny_bind (wpAny_updateSeq (q S _ hSw hS) rfl (wpAny_bind (wpAny_letGo (wpAny_pure (hR _ tk fun b o h1 h2 e => ?_)))))
  exact (Heap.get?_update_other _ _ (Ne.symm h2)).trans (q b o h1 e)
/-- the turn between: one item more -/
theorem max_mid (W : Walks prog w A.in1 I fp wr (n + 1) P St) (hSf : S ∉ fp) {a : Value} {c : Nat} {k : Bool} {s0 : Shared} (hst : St n s.heap) (hS : s.heap.get? S = some { cls := .type "list", dict := none, data := .seq #[a, a] c, slots := #[] })
    (hk : Kept s0 s) (hw : ∀ b ∈ wr, s0.heap.get? b = none) (hs0 : s0.heap.get? S = none) (hc : ∀ b, P n b → GtAt prog w A.in1 s0 a b k)
    (hR : ∀ b h' tk, P n b → (∀ b o, s0.heap.get? b = some o → h'.get? b = some o) → R (.ok (.ret (if k then b else a))) { s with heap := h', toks := tk }) :
    codeAny (model prog w) A (.builtin "max.loop" ⟨[.ref I, .none, .ref S], []⟩) R s := by
  have hSw : S ∉ wr := fun h => hSf (W.sub _ h)
  have nm : (toString "max" ++ toString ".loop" : String) = ("max.loop") := by decide
  have no : ∀ {b : Addr} {o : Obj}, s0.heap.get? b = some o → b ∉ wr ∧ b ≠ S := fun {b o} e => ⟨fun h => (by rw [hw b h] at e; cases e), fun h => (by rw [h, hs0] at e; cases e)⟩
  refine codeAny_builtin (F.entry_max_loop) ?_
  rw [Around.under_plainId (F.plain_max_loop) _]
  show wpAny _ A.in1 ((seqItems? (.ref S)) >>= _) _ _ s
  refine wpAny_bind (wpAny_seqItems hS (rfl) ?_)
  show wpAny _ A.in1 ((tryCatch (pyNext (.ref I)) _) >>= _) _ _ s
  refine wpAny_bind (wpAny_tryCatch (W.item n s _ _ (Nat.lt_succ_self n) hst fun v h' tk hP hst' q => ?_))
  have hS' := q S _ hSw hS
  have k2 : ∀ b o, s0.heap.get? b = some o → h'.get? b = some o := fun b o e => q b o (no e).1 (hk b o e)
  show wpAny _ A.in1 ((tryCatch (holding [v, v] (richCompare .Gt v a >>= _)) _) >>= _) _ _ _
  refine wpAny_bind (wpAny_tryCatch (wpAny_holding (wpAny_bind (hc v hP _ _ _ k2 ?_))))
  refine wpAny_bind (wpAny_holding (wpAny_truthy_bool (wpAny_bind (wpAny_letGo (wpAny_pure ?_)))))
  cases k with
  | true =>
    simp only [if_true]
    refine wpAny_bind (wpAny_updateSeq hS' rfl (wpAny_bind (wpAny_letGo ?_)))
    rw [nm]
    refine wpAny_pure ⟨plainId_quiet F.plain_max_loop _, max_end W hSw (v := v) (W.frame _ _ _ hst' fun b hb o e => ?_) (Heap.get?_update_self _ hS' rfl) fun h2 tk2 q2 => ?_⟩
    · exact (Heap.get?_update_other _ _ (fun h : S = b => hSf (h ▸ hb))).trans e
    · exact hR v h2 tk2 hP fun b o e => q2 b o (no e).1 (no e).2 ((Heap.get?_update_other _ _ (Ne.symm (no e).2)).trans (k2 b o e))
  | false =>
    simp only [Bool.false_eq_true, if_false]
    refine wpAny_bind (wpAny_letGo ?_)
    rw [nm]
    exact wpAny_pure ⟨plainId_quiet F.plain_max_loop _, max_end W hSw (v := a) hst' hS' fun h2 tk2 q2 => hR v h2 tk2 hP fun b o e => q2 b o (no e).1 (no e).2 (k2 b o e)⟩
/-- the first turn -/
theorem max_beg (W : Walks prog w A.in1 I fp wr 2 P St) (hSf : S ∉ fp) {c : Nat} {k : Bool} {s0 : Shared} (hst : St 0 s.heap) (hS : s.heap.get? S = some { cls := .type "list", dict := none, data := .seq #[] c, slots := #[] })
    (hk : Kept s0 s) (hw : ∀ b ∈ wr, s0.heap.get? b = none) (hs0 : s0.heap.get? S = none) (hc : ∀ a b, P 0 a → P 1 b → GtAt prog w A.in1 s0 a b k)
    (hR : ∀ a b h' tk, P 0 a → P 1 b → (∀ b o, s0.heap.get? b = some o → h'.get? b = some o) → R (.ok (.ret (if k then b else a))) { s with heap := h', toks := tk }) :
    codeAny (model prog w) A (.builtin "max.loop" ⟨[.ref I, .none, .ref S], []⟩) R s := by
  have hSw : S ∉ wr := fun h => hSf (W.sub _ h)
  have nm : (toString "max" ++ toString ".loop" : String) = ("max.loop") := by decide
  refine codeAny_builtin (F.entry_max_loop) ?_
  rw [Around.under_plainId (F.plain_max_loop) _]
  show wpAny _ A.in1 ((seqItems? (.ref S)) >>= _) _ _ s
  refine wpAny_bind (wpAny_seqItems hS (rfl) ?_)
  show wpAny _ A.in1 ((tryCatch (pyNext (.ref I)) _) >>= _) _ _ s
  refine wpAny_bind (wpAny_tryCatch (W.item 0 s _ _ (by decide) hst fun v h' tk hP hst' q => ?_))
  have hS' := q S _ hSw hS
  show wpAny _ A.in1 ((updateSeq S (fun _ => #[v, v])) >>= _) _ _ _
  refine wpAny_bind (wpAny_updateSeq hS' rfl ?_)
  rw [nm]
  refine wpAny_pure ⟨plainId_quiet F.plain_max_loop _, max_mid (n := 1) (s0 := s0) W hSf (W.frame _ _ _ hst' fun b hb o e => ?_) (Heap.get?_update_self _ hS' rfl) (fun b o e => ?_) hw hs0 (fun b hb => hc v b hP hb) fun b h2 tk2 hP2 q2 => hR v b h2 tk2 hP hP2 q2⟩
  · exact (Heap.get?_update_other _ _ (fun h : S = b => hSf (h ▸ hb))).trans e
  · have n1 : b ∉ wr := fun h => by rw [hw b h] at e; cases e
    have n2 : S ≠ b := fun h => by rw [← h, hs0] at e; cases e
    exact (Heap.get?_update_other _ _ n2).trans (q b o n1 (hk b o e))
end
theorem max_two_at {a b : Value} {k : Bool} {Q : Value → Shared → Prop} (hh : A.handled = none) (hc : GtAt prog w A.in1 s a b k)
    (h : ∀ h' tk, (∀ c o, s.heap.get? c = some o → h'.get? c = some o) → Q (if k then b else a) { s with heap := h', toks := tk }) :
    wpAny (model prog w) A (call (.builtin "max") [a, b]) Q E s := by
  have nm : (toString "max" ++ toString ".loop" : String) = ("max.loop") := by decide
  let s1 : Shared := { s with heap := s.heap.push { cls := .type "tuple", data := .seq #[a, b] } }
  have k1 : Kept s s1 := fun c o e => Heap.get?_push_of_some _ e
  have hT : s1.heap.IsTuple s.heap.objs.size #[a, b] := ⟨_, Heap.get?_push_size _ rfl, rfl, 0, rfl⟩
  refine call_function_tree F.kind_max F.plain_max F.entry_max
    (F.args_max2 _ _) ?_
  show wpAny _ A.in1 (Builtin.Builtins.bindParams "max" ["key", "default"] 0 ⟨[], []⟩
    >>= _) _ _ s
  refine wpAny_bind (wpAny_of_eq (show
    Builtin.Builtins.bindParams "max" ["key", "default"] 0 ⟨[], []⟩ = pure [none, none] from rfl) ?_)
  show wpAny _ A.in1 (newTuple [a, b]
    >>= _) _ _ s
  refine wpAny_bind (wpAny_newObj_type (wpAny_bind (wpAny_pyIter_tuple (s := s1) hT ?_)))
  have z1 : s1.heap.objs.size = s.heap.objs.size + 1 := Heap.size_push ..
  have W := Walks.tuple (prog := prog) (w := w) (A := A.in1) hh s1.heap.objs.size s.heap.objs.size (by rw [z1]; exact Nat.ne_of_lt (Nat.lt_succ_self _)) #[a, b]
  have old : ∀ {c : Addr}, s.heap.objs.size ≤ c → s.heap.get? c = none := fun {c} hc => by
    cases e : s.heap.get? c with
    | none => rfl
    | some o => exact absurd (Heap.lt_size e) (Nat.not_lt.mpr hc)
  refine wpAny_bind (wpAny_newObj_type ?_)
  rw [nm]
  refine wpAny_pure ⟨plainId_quiet F.plain_max_loop _, max_beg (s0 := s) W (fun hm => ?_) ?_ (Heap.get?_push_size _ rfl) (fun c o e => ?_) (fun c hc => ?_) (old ?_) (k := k) (fun x y hx hy => ?_) fun x y h' tk hx hy q => ?_⟩
  · rcases List.mem_cons.mp hm with e | hm
    · rw [Heap.size_push] at e
      exact absurd e (Nat.ne_of_gt (Nat.lt_succ_self _))
    · rcases List.mem_cons.mp hm with e | hm
      · rw [Heap.size_push, z1] at e
        exact absurd e (Nat.ne_of_gt (Nat.lt_succ_of_lt (Nat.lt_succ_self _)))
      · cases hm
  · exact W.frame _ _ _ ⟨⟨_, Heap.get?_push_size _ rfl, rfl, rfl⟩, hT.push _⟩ fun b _ o e => Heap.get?_push_of_some _ e
  · exact Heap.get?_push_of_some _ (Heap.get?_push_of_some _ (k1 c o e))
  · rcases List.mem_cons.mp hc with e | hc
    · rw [e]
      exact old (by rw [z1]; exact Nat.le_succ _)
    · cases hc
  · rw [Heap.size_push, z1]
    exact Nat.le_succ_of_le (Nat.le_succ _)
  · have ex : x = a := by simpa using hx.symm
    have ey : y = b := by simpa using hy.symm
    rw [ex, ey]
    exact hc
  · have ex : x = a := by simpa using hx.symm
    have ey : y = b := by simpa using hy.symm
    rw [ex, ey]
    exact h h' tk q
end
/-! ### on data -/
/-- t > u of two tuples of ints -/
def gtI : List Int → List Int → Bool
  | [], _ => false
  | _ :: _, [] => true
  | x :: xs, y :: ys => if x = y then gtI xs ys else decide (y < x)
theorem lexAt_gtI (ms ns : List Int) : ∀ (k i : Nat), min ms.length ns.length - i = k → i ≤ min ms.length ns.length →
    Ob.lexAt (fun j => decide (ms.getD j 0 = ns.getD j 0)) (fun j => decide (ns.getD j 0 < ms.getD j 0)) (decide (ms.length > ns.length)) i k = gtI (ms.drop i) (ns.drop i)
  | 0, i, hk, hi => by
    rw [Ob.lexAt_zero]
    by_cases h : ms.length > ns.length
    · have h1 : i = ns.length := by omega
      have h2 : i < ms.length := by omega
      rw [List.drop_eq_getElem_cons h2, List.drop_of_length_le (l := ns) (by omega), decide_eq_true h]
      rfl
    · have h1 : i = ms.length := by omega
      rw [List.drop_of_length_le (l := ms) (by omega), decide_eq_false h]
      rfl
  | k + 1, i, hk, hi => by
    have h1 : i < ms.length := by omega
    have h2 : i < ns.length := by omega
    rw [Ob.lexAt_succ, List.drop_eq_getElem_cons h1, List.drop_eq_getElem_cons h2, lexAt_gtI ms ns k (i + 1) (by omega) (by omega)]
    have e1 : ms.getD i 0 = ms[i] := by rw [List.getD_eq_getElem?_getD, List.getElem?_eq_getElem h1]; rfl
    have e2 : ns.getD i 0 = ns[i] := by rw [List.getD_eq_getElem?_getD, List.getElem?_eq_getElem h2]; rfl
    rw [e1, e2]
    show _ = (if ms[i] = ns[i] then gtI (ms.drop (i + 1)) (ns.drop (i + 1)) else decide (ns[i] < ms[i]))
    by_cases h : ms[i] = ns[i]
    · rw [if_pos h, if_pos (decide_eq_true h)]
    · rw [if_neg h, if_neg (by rw [decide_eq_false h]; exact Bool.false_ne_true)]
section
variable {T : Tx} {X : Cx} {E : XK} {a b : Expr} {ma mb : M} {pos p : Pos}
theorem call_maxT (hc : X.calm = true) (hu : X.A.units + 64 < cLine) : CallR X (.builtin "max") (fun xs H Q => ∃ a b ns ms, xs = [.ref a, .ref b] ∧ H a = some (.tup (ns.map V.int)) ∧ H b = some (.tup (ms.map V.int)) ∧ Q (if gtI ms ns then .ref b else .ref a) H) := by
  intro pins s σ H xs us Q I r h
  obtain ⟨a, b, ns, ms, rfl, ha, hb, q⟩ := h
  obtain ⟨u, w', rfl, r1, r2⟩ := vals2 r
  cases r1
  cases r2
  obtain ⟨its, v1, p1, _⟩ := I.tuple (.inl (.inl ha))
  obtain ⟨its2, v2, p2, _⟩ := I.tuple (.inl (.inl hb))
  have i1 : IntsAre its ns := Vals.ints v1
  have i2 : IntsAre its2 ms := Vals.ints v2
  have e1 : its.toArray.size = ns.length := by rw [List.size_toArray]; exact i1.length
  have e2 : its2.toArray.size = ms.length := by rw [List.size_toArray]; exact i2.length
  have at1 : ∀ j (h1 : j < its.toArray.size), ∃ t, its.toArray[j] = .int (ns.getD j 0) t :=
    fun j h1 => PyProof.Rows.IntsAre.int_at i1 _ _ (by simp at h1; simp [h1])
  have at2 : ∀ j (h1 : j < its2.toArray.size), ∃ t, its2.toArray[j] = .int (ms.getD j 0) t :=
    fun j h1 => PyProof.Rows.IntsAre.int_at i2 _ _ (by simp at h1; simp [h1])
  refine max_two_at (k := gtI ms ns) (I.ok.hd hc) (fun s' Q' E' hk hq => ?_) fun h' tk hk => ⟨_, H, I.kept hk, ?_, q⟩
  · have g1 : s'.heap.IsTuple a its.toArray := (let ⟨o, e, z⟩ := p1; ⟨o, hk a o e, z⟩)
    have g2 : s'.heap.IsTuple b its2.toArray := (let ⟨o, e, z⟩ := p2; ⟨o, hk b o e, z⟩)
    have R := Ob.RcOp.tuples_gt (A := X.A.in1) (s := s') (e := fun j => decide (ms.getD j 0 = ns.getD j 0)) (r := fun j => decide (ns.getD j 0 < ms.getD j 0)) g2 g1 (by show X.A.units + 1 < cLine; omega) (fun j h1 h2 => by
      obtain ⟨t, et⟩ := at2 j h1
      obtain ⟨t', et'⟩ := at1 j h2
      rw [et, et']
      have z : (ms.getD j 0 == ns.getD j 0) = decide (ms.getD j 0 = ns.getD j 0) := by
        by_cases q : ms.getD j 0 = ns.getD j 0
        · rw [decide_eq_true q]; exact beq_iff_eq.mpr q
        · rw [decide_eq_false q]; exact beq_eq_false_iff_ne.mpr q
      rw [← z]
      exact SeqAt.EqAt.int_int _ _ _ _) (fun j h1 h2 _ => by
      obtain ⟨t, et⟩ := at2 j h1
      obtain ⟨t', et'⟩ := at1 j h2
      rw [et, et']
      exact Ob.RcOp.gt_int _ _ _ _)
    refine R _ _ _ _ ?_
    rw [e1, e2, lexAt_gtI ms ns _ 0 (by omega) (Nat.zero_le _)]
    exact hq
  · cases gtI ms ns <;> rfl
/-- max of two tuples of ints -/
def maxT : D → D → Option D
  | .tup xs, .tup ys => (asIs xs).bind fun ns => (asIs ys).bind fun ms => some (if gtI ms ns then .tup ys else .tup xs)
  | _, _ => none
theorem de_maxT {n : Nat} (hc : X.calm = true) (hr : Room n X.A) (hm : X.mg "max" = none) (ha : DE T X E a ma) (hb : DE T X E b mb) (hg : Gl X "max" := by rfl) (he : starEach [a, b] X.env = (false, eval a X.env) :: starEach [b] X.env := by rfl) (he2 : starEach [b] X.env = (false, eval b X.env) :: starEach [] X.env := by rfl)
    (hpl : (backTo pos (starEach [b] X.env)).any (·.1) = false := by rfl) : DE T X E (.Call (.Name "max" p) [a, b] [] pos) (mBin maxT ma mb) :=
  pe_imp (pe_callB (call_maxT hc hr.units) hg hm (by decide +kernel) (pa_cons ha (pa_cons hb pa_nil he2) he) (by decide) (by decide) he hpl) fun s H Q ⟨F, z, q, h⟩ =>
  ⟨F, z, q, Post.bnd (L := lV T) h fun x v F1 H1 u1 rx h1 => ⟨F1, z, q.up u1, Post.bnd (L := lV T) h1 fun y w F2 H2 u2 ry h2 => by
    obtain ⟨d, e, k⟩ := Post.ofO h2
    cases x <;> first | cases e | skip
    cases y <;> first | cases e | skip
    rename_i xs ys
    simp only [maxT] at e
    cases q1 : asIs xs with
    | none => rw [q1] at e; cases e
    | some ns =>
      cases q2 : asIs ys with
      | none => rw [q1, q2] at e; cases e
      | some ms =>
        rw [q1, q2] at e
        rw [Option.bind_some, Option.bind_some] at e
        cases e
        have rx2 := rx.mono u2.f
        cases asIs_some q1
        cases asIs_some q2
        cases rx2 with
        | tup h1 a1 =>
          cases ry with
          | tup h2 a2 =>
            have b1 := a1.ints
            have b2 := a2.ints
            subst b1
            subst b2
            refine ⟨_, _, ns, ms, rfl, u2.s _ _ h1, u2.s _ _ h2, ?_⟩
            refine k _ F2 H2 (Up.refl u2.s) ?_
            cases gtI ms ns with
            | true => exact .tup h2 a2
            | false => exact .tup h1 a1⟩⟩
end
end CL


set_option Elab.async false
set_option linter.all false
set_option maxRecDepth 100000
/-! The data layer, part i: instances. -/
namespace CL
open PySem PySem.Spec PyProof.Rows L2
/-- the fields' names -/
inductive FN where
  | clippings | marks | place | deeds
def FN.nm : FN → Str
  | .clippings => "clippings"
  | .marks => "marks"
  | .place => "place"
  | .deeds => "deeds"
/-- a field's place among those of a class -/
def FN.ix : FN → Nat → Option Nat
  | .clippings, 0 => some 0
  | .clippings, 1 => some 0
  | .marks, 0 => some 1
  | .marks, 1 => some 1
  | .marks, 3 => some 1
  | .place, 2 => some 0
  | .deeds, 3 => some 0
  | _, _ => none
theorem FN.ix_at {n : FN} {c j : Nat} (h : n.ix c = some j) : (FL c)[j]? = some n.nm ∧ ∀ i, i < j → (FL c)[i]? ≠ some n.nm := by
  have key : ∀ (n : FN) (c : Fin 5) (j : Nat), n.ix c.1 = some j → (FL c.1)[j]? = some n.nm ∧ ∀ i, i < j → (FL c.1)[i]? ≠ some n.nm := by
    intro n c j h
    match n, c, h with
    | .clippings, 0, h => cases h; exact ⟨rfl, fun i hi => absurd hi (Nat.not_lt_zero _)⟩
    | .clippings, 1, h => cases h; exact ⟨rfl, fun i hi => absurd hi (Nat.not_lt_zero _)⟩
    | .marks, 0, h => cases h; exact ⟨rfl, fun i hi => by
      obtain rfl : i = 0 := by omega
      decide +kernel⟩
    | .marks, 1, h => cases h; exact ⟨rfl, fun i hi => by
      obtain rfl : i = 0 := by omega
      decide +kernel⟩
    | .marks, 3, h => cases h; exact ⟨rfl, fun i hi => by
      obtain rfl : i = 0 := by omega
      decide +kernel⟩
    | .place, 2, h => cases h; exact ⟨rfl, fun i hi => absurd hi (Nat.not_lt_zero _)⟩
    | .deeds, 3, h => cases h; exact ⟨rfl, fun i hi => absurd hi (Nat.not_lt_zero _)⟩
    | .clippings, 2, h => cases h
    | .clippings, 3, h => cases h
    | .clippings, 4, h => cases h
    | .marks, 2, h => cases h
    | .marks, 4, h => cases h
    | .place, 0, h => cases h
    | .place, 1, h => cases h
    | .place, 3, h => cases h
    | .place, 4, h => cases h
    | .deeds, 0, h => cases h
    | .deeds, 1, h => cases h
    | .deeds, 2, h => cases h
    | .deeds, 4, h => cases h
  by_cases hc : c < 5
  · exact key n ⟨c, hc⟩ j h
  · have : n.ix c = none := by
      match c, hc with
      | c + 5, _ => cases n <;> rfl
    rw [this] at h
    cases h
theorem FN.ix_lt {n : FN} {c j : Nat} (h : n.ix c = some j) : c < 4 := by
  by_cases hc : c < 4
  · exact hc
  · have : n.ix c = none := by
      match c, hc with
      | c + 4, _ => cases n <;> rfl
    rw [this] at h
    cases h
theorem lookup_at {f : Str} : ∀ {fs : List (Str × V)} {j : Nat} {v : V}, (fs.map (·.1))[j]? = some f → (∀ i, i < j → (fs.map (·.1))[i]? ≠ some f) → (fs.map (·.2))[j]? = some v → fs.lookup f = some v
  | [], _, _, h, _, _ => by simp at h
  | (x, y) :: fs, 0, v, h, _, h2 => by
    simp at h h2
    subst h
    subst h2
    rw [List.lookup_cons, beq_self_eq_true]
  | (x, y) :: fs, j + 1, v, h, hn, h2 => by
    have nx : (f == x) = false := by
      rw [beq_eq_false_iff_ne]
      rintro rfl
      exact hn 0 (Nat.succ_pos _) rfl
    rw [List.lookup_cons, nx]
    exact lookup_at (j := j) (by simpa using h) (fun i hi => hn (i + 1) (Nat.succ_lt_succ hi)) (by simpa using h2)
/-- what a law's text must have of its classes -/
structure Cl1 (T : Tx) (mg : Str → Option Value) (c : Nat) : Prop where
  cl : Cls T.K (T.cls c)
  na : ∀ n : FN, (n.ix c).isSome = true → NoAttr T.K (T.cls c) n.nm
  ha : PySem.W.findIn T.K (.ref (T.cls c)) "__class__" = some (some (.builtin "object.__class__"))
  hn : PySem.W.specialIn T.K (.builtin "object.__class__") "__get__" = some (some (.builtin "getset_descriptor.__get__"))
  tk : PySem.W.takesIn T.K (.builtin "object.__class__") = some true
  mr : PySem.W.mroIn T.K (T.cls c) (.type "object") = some true
  kt : ∀ b, b < 5 → PySem.W.kitOne T.K (.ref (T.cls c)) (.ref (T.cls b)) = some (b == 4 || c == b)
structure ClA (T : Tx) (mg : Str → Option Value) : Prop where
  at_ : ∀ c, c < 4 → Cl1 T mg c
  gAnswer : mg "Answer" = some (.ref (T.cls 4))
  gForth : mg "Forth" = some (.ref (T.cls 0))
  gEither : mg "Either" = some (.ref (T.cls 1))
  gLacks : mg "Lacks" = some (.ref (T.cls 2))
  gGrown : mg "Grown" = some (.ref (T.cls 3))
section
variable {T : Tx} {X : Cx} {E : XK} {a b c e o : Expr} {es : List Expr} {pos p p2 : Pos} {ma mb mc m : M} {mes mi mj ml : ML} {ba bb : MB} {x : Str} {j k : Nat}
/-! ### e.f -/
def fldD (n : FN) : D → Option D
  | .ins c fs => (n.ix c).bind fun j => fs[j]?
  | _ => none
theorem de_fld (n : FN) (C : ClA T X.mg) (he : DE T X E e m) (hK : X.K = T.K := by rfl) (hb : attributeBase e n.nm X.env (eval e X.env) = eval e X.env := by rfl) : DE T X E (.Attribute e n.nm pos) (mUn (fldD n) m) :=
  pe_imp (pe_fld he hb) fun s H Q ⟨F, z, q, h⟩ =>
  ⟨F, z, q, Post.bnd (L := lV T) h fun x v F1 H1 u1 rx h1 => by
    obtain ⟨d, e, k⟩ := Post.ofO h1
    cases x <;> first | cases e | skip
    rename_i c ds
    simp only [fldD] at e
    cases qj : n.ix c with
    | none => rw [qj] at e; cases e
    | some j =>
      rw [qj, Option.bind_some] at e
      cases rx with
      | ins hF hN hA =>
        obtain ⟨w, h2, h3⟩ := hA.get e
        obtain ⟨g1, g2⟩ := FN.ix_at qj
        have L := C.at_ c (FN.ix_lt qj)
        refine ⟨_, _, _, _, w, rfl, u1.s _ _ hF, by rw [hK]; exact L.cl, by rw [hK]; exact L.na n (by rw [qj]; rfl), ?_, k w F1 H1 (Up.refl u1.s) h3⟩
        exact lookup_at (by rw [hN]; exact g1) (by rw [hN]; exact g2) h2⟩
/-! ### isinstance(e, C) -/
def isC (b : Nat) : D → Option D
  | .ins c _ => if c < 4 ∧ b < 5 then some (.bl (b == 4 || c == b)) else none
  | _ => none
theorem de_isC (b : Nat) {x : Str} {px : Pos} (C : ClA T X.mg) (hm : X.mg "isinstance" = none) (ha : DE T X E e m) (hx : Gl X x) (hmx : X.mg x = some (.ref (T.cls b))) (hK : X.K = T.K := by rfl) (hdx : (x == ("__debug__" : Str)) = false := by decide)
    (hg : Gl X "isinstance" := by rfl) (he : starEach [e, .Name x px] X.env = (false, eval e X.env) :: starEach [.Name x px] X.env := by rfl) :
    DE T X E (.Call (.Name "isinstance" p) [e, .Name x px] [] pos) (mUn (isC b) m) :=
  pe_imp (pe_callB call_isi hg hm (by decide +kernel) (pa_cons ha (pa_cons (pe_glob (v := .ref (T.cls b)) hx hmx rfl hdx) pa_nil rfl) he) (by decide) (by decide) he rfl) fun s H Q ⟨F, z, q, h⟩ =>
  ⟨F, z, q, Post.bnd (L := lV T) h fun x v F1 H1 u1 rx h1 => by
    obtain ⟨d, e, k⟩ := Post.ofO h1
    cases x <;> first | cases e | skip
    rename_i c ds
    simp only [isC] at e
    split at e
    · rename_i hc
      cases e
      have L := C.at_ c hc.1
      cases rx with
      | ins hF hN hA =>
        refine ⟨_, _, _, _, _, rfl, .own _, .base (.ins (u1.s _ _ hF) ?_ ?_ ?_ ?_ ?_), ?_, k _ F1 H1 (Up.refl u1.s) (.bl _)⟩
        · rw [hK]; exact L.cl
        · rw [hK]; exact L.ha
        · rw [hK]; exact L.hn
        · rw [hK]; exact L.tk
        · rw [hK]; exact L.mr
        · rw [hK]; exact L.kt b hc.2
    · cases e⟩
/-! ### o.shows(..) -/
structure MethG (P : Program) (w : World) (T : Tx) (mg : Str → Option Value) (base : Heap) (k c : Nat) (sp : Sp) : Prop where
  ex : ∃ f fd ps, FnOk P w T.K mg base CX0 k f fd ps sp ∧ Meth T.K (T.cls c) "shows" f ∧ Binds T.K fd ps []
structure MethA (P : Program) (w : World) (T : Tx) (mg : Str → Option Value) (base : Heap) (k : Nat) (f0 f1 f2 f3 : List D → Rs D) : Prop where
  m0 : MethG P w T mg base k 0 (spD T 3 f0)
  m1 : MethG P w T mg base k 1 (spD T 3 f1)
  m2 : MethG P w T mg base k 2 (spD T 3 f2)
  m3 : MethG P w T mg base k 3 (spD T 2 f3)
def showR (f0 f1 f2 f3 : List D → Rs D) (d : D) (args : Rs (List D)) : Rs D := match d with
  | .ins 0 fs => args.bnd fun ds => if ds.length = 2 then f0 (.ins 0 fs :: ds) else .stuck
  | .ins 1 fs => args.bnd fun ds => if ds.length = 2 then f1 (.ins 1 fs :: ds) else .stuck
  | .ins 2 fs => args.bnd fun ds => if ds.length = 2 then f2 (.ins 2 fs :: ds) else .stuck
  | .ins 3 fs => args.bnd fun ds => if ds.length = 1 then f3 (.ins 3 fs :: ds) else .stuck
  | _ => .stuck
def mShow (f0 f1 f2 f3 : List D → Rs D) (m : M) (mes : ML) : M := fun z => (m z).bnd fun d => showR f0 f1 f2 f3 d (mes z)
theorem showR_cases (f0 f1 f2 f3 : List D → Rs D) (d : D) (args : Rs (List D)) : (∃ fs, d = .ins 0 fs ∧ showR f0 f1 f2 f3 d args = args.bnd fun ds => if ds.length = 2 then f0 (.ins 0 fs :: ds) else .stuck) ∨
    (∃ fs, d = .ins 1 fs ∧ showR f0 f1 f2 f3 d args = args.bnd fun ds => if ds.length = 2 then f1 (.ins 1 fs :: ds) else .stuck) ∨ (∃ fs, d = .ins 2 fs ∧ showR f0 f1 f2 f3 d args = args.bnd fun ds => if ds.length = 2 then f2 (.ins 2 fs :: ds) else .stuck) ∨
    (∃ fs, d = .ins 3 fs ∧ showR f0 f1 f2 f3 d args = args.bnd fun ds => if ds.length = 1 then f3 (.ins 3 fs :: ds) else .stuck) ∨ showR f0 f1 f2 f3 d args = .stuck := by
  unfold showR
  split
  · exact .inl ⟨_, rfl, rfl⟩
  · exact .inr (.inl ⟨_, rfl, rfl⟩)
  · exact .inr (.inr (.inl ⟨_, rfl, rfl⟩))
  · exact .inr (.inr (.inr (.inl ⟨_, rfl, rfl⟩)))
  · exact .inr (.inr (.inr (.inr rfl)))
theorem no_shows : ∀ c, c < 4 → ∀ fs : List (Str × V), fs.map (·.1) = FL c → fs.lookup ("shows" : Str) = none := by
  intro c hc fs h
  have : ("shows" : Str) ∉ FL c := by
    match c, hc with
    | 0, _ => decide +kernel
    | 1, _ => decide +kernel
    | 2, _ => decide +kernel
    | 3, _ => decide +kernel
  rw [← h] at this
  rw [List.lookup_eq_none_iff]
  intro q hq
  rw [bne_iff_ne]
  rintro e
  exact this (e ▸ List.mem_map_of_mem hq)
theorem de_shows {n : Nat} {f0 f1 f2 f3 : List D → Rs D} {apos : Pos} {pl : Sem Bool} (C : ClA T X.mg) (G : MethA X.prog X.w T X.mg X.base k f0 f1 f2 f3) (hr : Room j X.A) (hk : k ≤ j) (ho : DE T X E o m) (ha : DA T X E (e :: es) mes) (hK : X.K = T.K := by rfl)
    (hst : starEach (e :: es) X.env = (false, eval e X.env) :: starEach es X.env := by rfl) (hpl : (backTo pos (starEach es X.env)).any (·.1) = false := by rfl)
    (ht : eval (.Call (.Attribute o "shows" apos) (e :: es) [] pos) X.env = (do
      let ov ← eval o X.env
      standAt apos.atName
      let (f, first) ← holding [ov] (getMethod ov "shows" pl)
      callWith pos f first (backTo pos (starEach (e :: es) X.env)) (backToKw pos (keywordEach [] X.env))) := by rfl) : DE T X E (.Call (.Attribute o "shows" apos) (e :: es) [] pos) (mShow f0 f1 f2 f3 m mes) := by
  have go : ∀ (c : Nat) (nn : Nat) (ff : List D → Rs D), c < 4 → MethG X.prog X.w T X.mg X.base k c (spD T (nn + 1) ff) → PE X (.Call (.Attribute o "shows" apos) (e :: es) [] pos)
      (fun s H Q => ∃ F z, R T F H s z ∧ ((∃ ds0, m z = .ok (.ins c ds0) ∧ Post T E (lV T) F H Q ((mes z).bnd fun ds => if ds.length = nn then ff (.ins c ds0 :: ds) else .stuck)) ∨ ∃ xc, m z = .exc xc ∧ ∀ H', Gr T H H' → E (.ref (T.exc xc)) none H')) := by
    intro c nn ff hc g
    obtain ⟨f, fd, ps, G1, M1, b1⟩ := g.ex
    have L := C.at_ c hc
    have hcl : Cls X.K (T.cls c) := by rw [hK]; exact L.cl
    have hM : Meth X.K (T.cls c) "shows" f := by rw [hK]; exact M1
    have hG : FnOk X.prog X.w X.K X.mg X.base CX0 k f fd ps (spD T (nn + 1) ff) := by rw [hK]; exact G1
    have hb : Binds X.K fd ps [] := by rw [hK]; exact b1
    refine pe_imp (pe_meth (E := E) ho hcl hM hG (hr.mono hk) hb .nil passN ha hst hpl ht) fun s H Q ⟨F, z, q, h⟩ => ⟨F, z, q, ?_⟩
    rcases h with ⟨ds0, hm, h⟩ | ⟨xc, hm, h⟩
    · rw [hm]
      intro v F1 H1 u1 rx
      cases rx with
      | ins hF hN hA =>
        refine ⟨_, _, _, rfl, u1.s _ _ hF, no_shows c hc _ hN, F1, z, q.up u1, ?_⟩
        refine Post.bnd (L := lA T) (h.up u1) fun ds vs F2 H2 u2 rds h2 => ?_
        by_cases hl : ds.length = nn
        · rw [if_pos hl] at h2
          rw [List.append_nil]
          exact ⟨F2, .ins c ds0 :: ds, ⟨u2.s, u2.h.tb (u1.h.tb q.tb)⟩, .cons ((Rp.ins hF hN hA).mono u2.f) rds, by rw [List.length_cons, hl], h2⟩
        · rw [if_neg hl] at h2
          exact h2.elim
    · rw [hm]
      exact h
  refine pe_imp (pe_alt (pe_alt (go 0 2 f0 (by decide) G.m0) (go 1 2 f1 (by decide) G.m1)) (pe_alt (go 2 2 f2 (by decide) G.m2) (go 3 1 f3 (by decide) G.m3))) fun s H Q ⟨F, z, q, h⟩ => ?_
  unfold mShow at h
  cases em : m z with
  | stuck => rw [em] at h; exact h.elim
  | exc c =>
    rw [em] at h
    exact .inl (.inl ⟨F, z, q, .inr ⟨c, em, h⟩⟩)
  | ok d =>
    rw [em, bnd_ok] at h
    rcases showR_cases f0 f1 f2 f3 d (mes z) with ⟨fs, rfl, e⟩ | ⟨fs, rfl, e⟩ | ⟨fs, rfl, e⟩ | ⟨fs, rfl, e⟩ | e
    · rw [e] at h; exact .inl (.inl ⟨F, z, q, .inl ⟨fs, em, h⟩⟩)
    · rw [e] at h; exact .inl (.inr ⟨F, z, q, .inl ⟨fs, em, h⟩⟩)
    · rw [e] at h; exact .inr (.inl ⟨F, z, q, .inl ⟨fs, em, h⟩⟩)
    · rw [e] at h; exact .inr (.inr ⟨F, z, q, .inl ⟨fs, em, h⟩⟩)
    · rw [e] at h; exact h.elim
/-! ### C(..) -/
def spI2 (T : Tx) (c : Nat) (f1 f2 : Str) : Sp := fun vs H Q _ => ∃ x dx a1 a2 xs1 xs2, vs = [.ref x, .ref a1, .ref a2] ∧ H x = some (.ins (T.cls c) dx []) ∧ Rd H a1 (.lst xs1) ∧ Rd H a2 (.lst xs2) ∧
  ∀ p1 p2 H', H p1 = none → H p2 = none → p1 ≠ p2 → H' p1 = some (.lst xs1) → H' p2 = some (.lst xs2) → H' x = some (.ins (T.cls c) dx [(f1, .ref p1), (f2, .ref p2)]) → (∀ b o, b ≠ x → H b = some o → H' b = some o) → Q .non H'
def spI1 (T : Tx) (c : Nat) (f1 : Str) : Sp := fun vs H Q _ => ∃ x dx v, vs = [.ref x, v] ∧ H x = some (.ins (T.cls c) dx []) ∧ Q .non (upd H x (.ins (T.cls c) dx [(f1, v)]))
structure MkG (P : Program) (w : World) (T : Tx) (mg : Str → Option Value) (base : Heap) (c : Nat) (sp : Sp) : Prop where
  ex : ∃ f fd ps, Mk T.K (T.cls c) f ∧ FnOk P w T.K mg base CX0 1 f fd ps sp ∧ Binds T.K fd ps []
def mMk2 (c : Nat) (mi mj : ML) : MR := fun z => (mi z).bnd fun xs => (mj z).bnd fun ys => .ok (.obj (some c) [xs, ys])
theorem dr_mk2 {c : Nat} {f1 f2 : Str} (hf : FL c = [f1, f2]) (G : MkG X.prog X.w T X.mg X.base c (spI2 T c f1 f2)) (hmx : X.mg x = some (.ref (T.cls c))) (hr : Room j X.A) (hj : 2 ≤ j) (ha : DI T X E a mi) (hb : DI T X E b mj) (hK : X.K = T.K := by rfl) (hg : Gl X x := by rfl) (hdb : (x == ("__debug__" : Str)) = false := by decide)
    (he : starEach [a, b] X.env = (false, eval a X.env) :: starEach [b] X.env := by rfl) (he2 : starEach [b] X.env = (false, eval b X.env) :: starEach [] X.env := by rfl) (hpl : (backTo pos (starEach [b] X.env)).any (·.1) = false := by rfl) :
    DR T X E (.Call (.Name x p) [a, b] [] pos) (mMk2 c mi mj) := by
  obtain ⟨f, fd, ps, M, G1, b1⟩ := G.ex
  refine pe_imp (pe_make (E := E) (sp := spI2 T c f1 f2) (C := T.cls c) (f := f) (by rw [hK]; exact M) (by rw [hK]; exact G1) (hr.mono hj) hg hmx (by rw [hK]; exact b1) .nil passN (pa_cons ha (pa_cons hb pa_nil he2) he) hdb he hpl) fun s H Q ⟨F, z, q, h⟩ =>
    ⟨F, z, q, Post.bnd (L := lI T) h fun xs v F1 H1 u1 rx h1 => ⟨F1, z, q.up u1, Post.bnd (L := lI T) h1 fun ys w F2 H2 u2 ry h2 => ?_⟩⟩
  obtain ⟨a1, vs, rfl, r1, A1⟩ := rx
  obtain ⟨a2, ws, rfl, r2, A2⟩ := ry
  intro x dx nx ndx nex
  have n0 : ∀ b o, H2 b = some o → upd (upd H2 dx (.own x)) x (.ins (T.cls c) dx []) b = some o := fun b o e => by
    rw [upd_ne (ne_of_none e nx), upd_ne (ne_of_none e ndx)]
    exact e
  have n1 : Ex H2 (upd (upd H2 dx (.own x)) x (.ins (T.cls c) dx [])) := .same n0
  refine ⟨x, dx, a1, a2, vs, ws, rfl, upd_same, n1.rd (u2.h.rd r1), n1.rd r2, fun p1 p2 H' h3 h4 h5 h6 h7 h8 h9 => ⟨rfl, ?_⟩⟩
  have k1 : H2 p1 = none := n1.back h3
  have k2 : H2 p2 = none := n1.back h4
  have ne1 : p1 ≠ x := by rintro rfl; rw [upd_same] at h3; cases h3
  have ne2 : p2 ≠ x := by rintro rfl; rw [upd_same] at h4; cases h4
  have eH : Gr T H2 H' := .same fun b o e => h9 b o (ne_of_none e nx) (n0 b o e)
  have fx : F2 x = none := u2.s.back nx
  have eF : Ex F2 (upd F2 x (.ins (T.cls c) dx [(f1, .ref p1), (f2, .ref p2)])) := Ex.new fx
  refine h2 _ (upd F2 x (.ins (T.cls c) dx [(f1, .ref p1), (f2, .ref p2)])) H' ⟨eF, eH, fun b o e => ?_, fun b o e1 e2 => ?_⟩ ⟨x, rfl, [p1, p2], ⟨dx, ?_, by rw [hf]; rfl⟩, ?_, ⟨rfl, fun i q ds g1 g2 => ?_⟩, fun q hq => ?_⟩
  · by_cases hb : b = x
    · subst hb
      rw [upd_same] at e
      rw [h8]
      exact keeps_refl e
    · rw [upd_ne hb] at e
      exact (u2.s.trans eH.ex) b o e
  · by_cases hb : b = x
    · rw [hb]; exact .inl nx
    · rw [upd_ne hb, e1] at e2
      cases e2
  · rw [upd_same, hf]
    rfl
  · rw [List.nodup_cons]
    exact ⟨by rw [List.mem_singleton]; exact h5, List.nodup_cons.mpr ⟨by simp, List.nodup_nil⟩⟩
  · match i, g1, g2 with
    | 0, g1, g2 =>
      cases g1
      cases g2
      exact ⟨vs, h6, by rw [upd_ne ne1]; exact u2.s.back k1, (A1.mono u2.f).mono eF⟩
    | 1, g1, g2 =>
      cases g1
      cases g2
      exact ⟨ws, h7, by rw [upd_ne ne2]; exact u2.s.back k2, A2.mono eF⟩
    | i + 2, g1, g2 => cases g1
  · rcases List.mem_cons.mp hq with rfl | hq
    · exact k1
    · rw [List.mem_singleton] at hq
      rw [hq]
      exact k2
def mMk1 (c : Nat) (m : M) : M := fun z => (m z).bnd fun d => .ok (.ins c [d])
theorem de_mk1 {c : Nat} {f1 : Str} (hf : FL c = [f1]) (G : MkG X.prog X.w T X.mg X.base c (spI1 T c f1)) (hmx : X.mg x = some (.ref (T.cls c))) (hr : Room j X.A) (hj : 2 ≤ j) (ha : DE T X E a m) (hK : X.K = T.K := by rfl) (hg : Gl X x := by rfl) (hdb : (x == ("__debug__" : Str)) = false := by decide)
    (he : starEach [a] X.env = (false, eval a X.env) :: starEach [] X.env := by rfl) (hpl : (backTo pos (starEach [] X.env)).any (·.1) = false := by rfl) :
    DE T X E (.Call (.Name x p) [a] [] pos) (mMk1 c m) := by
  obtain ⟨f, fd, ps, M, G1, b1⟩ := G.ex
  refine pe_imp (pe_make (E := E) (sp := spI1 T c f1) (C := T.cls c) (f := f) (by rw [hK]; exact M) (by rw [hK]; exact G1) (hr.mono hj) hg hmx (by rw [hK]; exact b1) .nil passN (pa_cons ha pa_nil he) hdb he hpl) fun s H Q ⟨F, z, q, h⟩ =>
    ⟨F, z, q, Post.bnd (L := lV T) h fun d v F1 H1 u1 rx h1 => ?_⟩
  intro x dx nx ndx nex
  refine ⟨x, dx, v, rfl, upd_same, rfl, ?_⟩
  have fx : F1 x = none := u1.s.back nx
  have eF : Ex F1 (upd F1 x (.ins (T.cls c) dx [(f1, v)])) := Ex.new fx
  refine h1 _ (upd F1 x (.ins (T.cls c) dx [(f1, v)])) _ ⟨eF, .same fun b o e => ?_, fun b o e => ?_, fun b o e1 e2 => ?_⟩ (.ins upd_same (by rw [hf]; rfl) (.cons (rx.mono eF) .nil))
  · rw [upd_ne (ne_of_none e nx), upd_ne (ne_of_none e nx), upd_ne (ne_of_none e ndx)]
    exact e
  · by_cases hb : b = x
    · subst hb
      rw [upd_same] at e ⊢
      exact keeps_refl e
    · rw [upd_ne hb] at e
      have e' := u1.s b o e
      obtain ⟨y, ey⟩ := keeps_some e'
      rw [upd_ne hb, upd_ne hb, upd_ne (ne_of_none ey ndx)]
      exact e'
  · by_cases hb : b = x
    · rw [hb]; exact .inl nx
    · rw [upd_ne hb, e1] at e2
      cases e2
end
/-! ### __init__ -/
section
variable {P : Program} {w : World} {mg : Str → Option Value} {base : Heap} {T : Tx}
theorem put1 {f : Str} {v : V} : putF f v [] = [(f, v)] := rfl
theorem put2 {f g : Str} {u v : V} (h : ¬ f = g) : putF g v [(f, u)] = [(f, u), (g, v)] := by
  unfold putF
  rw [if_neg h]
  rfl
def tI2 (T : Tx) (c : Nat) (f1 f2 : Str) : TS := fun N s H => ∃ x dx a1 a2 xs1 xs2, s[0]? = some (some (.ref x)) ∧ s[1]? = some (some (.ref a1)) ∧ s[2]? = some (some (.ref a2)) ∧ H x = some (.ins (T.cls c) dx []) ∧ Rd H a1 (.lst xs1) ∧ Rd H a2 (.lst xs2) ∧
  ∀ p1 p2 H', H p1 = none → H p2 = none → p1 ≠ p2 → H' p1 = some (.lst xs1) → H' p2 = some (.lst xs2) → H' x = some (.ins (T.cls c) dx [(f1, .ref p1), (f2, .ref p2)]) → (∀ b o, b ≠ x → H b = some o → H' b = some o) → N.nx s H'
/-- self.f1 = list(a); self.f2 = list(b) -/
theorem pss_init2 {X : Cx} {c : Nat} {f1 f2 n0 n1 n2 : Str} {q1 q2 q3 q4 q5 q6 q7 q8 q9 q10 q11 q12 : Pos} (L : Cl1 T X.mg c) (na1 : NoAttr T.K (T.cls c) f1) (na2 : NoAttr T.K (T.cls c) f2) (hf : ¬ f1 = f2) (hm : X.mg "list" = none) (hK : X.K = T.K := by rfl) (hg : Gl X "list" := by rfl)
    (e0 : PE X (.Name n0 q1) (tVar 0)) (e1 : PE X (.Name n1 q4) (tVar 1)) (e0' : PE X (.Name n0 q7) (tVar 0)) (e2 : PE X (.Name n2 q10) (tVar 2))
    (s1 : swapsWith (.Call (.Name "list" q3) [.Name n1 q4] [] q5) (some (.Attribute (.Name n0 q1) f1 q2)) q6.line X.env = pure false := by rfl)
    (s2 : swapsWith (.Call (.Name "list" q9) [.Name n2 q10] [] q11) (some (.Attribute (.Name n0 q7) f2 q8)) q12.line X.env = pure false := by rfl)
    (h1 : starEach [.Name n1 q4] X.env = (false, eval (.Name n1 q4) X.env) :: starEach [] X.env := by rfl) (h2 : starEach [.Name n2 q10] X.env = (false, eval (.Name n2 q10) X.env) :: starEach [] X.env := by rfl) :
    PSs X [.Assign [.Attribute (.Name n0 q1) f1 q2] (.Call (.Name "list" q3) [.Name n1 q4] [] q5) q6, .Assign [.Attribute (.Name n0 q7) f2 q8] (.Call (.Name "list" q9) [.Name n2 q10] [] q11) q12] (tI2 T c f1 f2) := by
  refine pss_imp (pss_cons (ps_fld e0 (pe_callTy call_list_of hg hm (by decide +kernel) (pa_cons e1 pa_nil h1) (by decide) (by decide) h1) s1)
    (pss_one (ps_fld e0' (pe_callTy call_list_of hg hm (by decide +kernel) (pa_cons e2 pa_nil h2) (by decide) (by decide) h2) s2))) fun N s H h => ?_
  obtain ⟨x, dx, a1, a2, xs1, xs2, g0, g1, g2, hx, r1, r2, k⟩ := h
  have cl : Cls X.K (T.cls c) := by rw [hK]; exact L.cl
  refine ⟨_, g1, a1, xs1, rfl, .inl (.inl r1), fun p1 hp1 => ?_⟩
  have n1 : x ≠ p1 := ne_of_none hx hp1
  refine ⟨_, g0, x, T.cls c, dx, [], rfl, by rw [upd_ne n1]; exact hx, cl, by rw [hK]; exact na1, (by show 0 < 1000; decide), ?_⟩
  have r2' : Rd (upd (upd H p1 (.lst xs1)) x (.ins (T.cls c) dx (putF f1 (.ref p1) []))) a2 (.lst xs2) := by
    have hne : a2 ≠ x := by
      rintro rfl
      rcases r2 with r2 | ⟨o, r2⟩ <;> (rw [hx] at r2; cases r2)
    have := (Ex.new hp1 (o := .lst xs1)).rd r2
    rcases this with q | ⟨o, q⟩
    · exact .inl (by rw [upd_ne hne]; exact q)
    · exact .inr ⟨o, by rw [upd_ne hne]; exact q⟩
  refine ⟨_, g2, a2, xs2, rfl, .inl (.inl r2'), fun p2 hp2 => ?_⟩
  have n2 : p2 ≠ x := by rintro rfl; rw [upd_same] at hp2; cases hp2
  rw [upd_ne n2] at hp2
  have n3 : p2 ≠ p1 := by rintro rfl; rw [upd_same] at hp2; cases hp2
  rw [upd_ne n3] at hp2
  refine ⟨_, g0, x, T.cls c, dx, [(f1, .ref p1)], rfl, by rw [upd_ne n2.symm, upd_same]; rfl, cl, by rw [hK]; exact na2, (by show 1 < 1000; decide), ?_⟩
  refine k p1 p2 _ hp1 hp2 n3.symm ?_ ?_ ?_ fun b o hb e => ?_
  · rw [upd_ne n1.symm, upd_ne n3.symm, upd_ne n1.symm, upd_same]
  · rw [upd_ne n2, upd_same]
  · rw [upd_same, put2 hf]
  · rw [upd_ne hb, upd_ne (ne_of_none e hp2), upd_ne hb, upd_ne (ne_of_none e hp1)]
    exact e
def tI1 (T : Tx) (c : Nat) (f1 : Str) : TS := fun N s H => ∃ x dx v, s[0]? = some (some (.ref x)) ∧ s[1]? = some (some v) ∧ H x = some (.ins (T.cls c) dx []) ∧ N.nx s (upd H x (.ins (T.cls c) dx [(f1, v)]))
theorem pss_init1 {X : Cx} {c : Nat} {f1 n0 n1 : Str} {q1 q2 q4 q6 : Pos} (L : Cl1 T X.mg c) (na1 : NoAttr T.K (T.cls c) f1) (hK : X.K = T.K := by rfl)
    (e0 : PE X (.Name n0 q1) (tVar 0)) (e1 : PE X (.Name n1 q4) (tVar 1)) (s1 : swapsWith (.Name n1 q4) (some (.Attribute (.Name n0 q1) f1 q2)) q6.line X.env = pure false := by rfl) :
    PSs X [.Assign [.Attribute (.Name n0 q1) f1 q2] (.Name n1 q4) q6] (tI1 T c f1) := by
  refine pss_imp (pss_one (ps_fld e0 e1 s1)) fun N s H h => ?_
  obtain ⟨x, dx, v, g0, g1, hx, k⟩ := h
  exact ⟨_, g1, _, g0, x, T.cls c, dx, [], rfl, hx, by rw [hK]; exact L.cl, by rw [hK]; exact na1, (by show 0 < 1000; decide), k⟩
variable {x qual : Str} {st : Stmt} {f : Addr} {fd : FuncData} {n0 n1 n2 f1 f2 : Str} {c : Nat}
theorem fn_I2 (F : Fun T.K x qual st f fd) (S : FnScope [n0, n1, n2] [n0, n1, n2] (defScope st))
    (hb : ∀ (cdv : Value) (A : Around) (outer : List Env) (s : Shared) (H : Hp) (E : XK), PSs (cxOf CX0 P w T.K mg base [n0, n1, n2] qual (defScope st) f cdv A outer s H E).nox (defBody st) (tI2 T c f1 f2)) :
    FnOk P w T.K mg base CX0 1 f fd [n0, n1, n2] (spI2 T c f1 f2) := by
  refine F.ok S (fun vs H Q E h => ?_) (fun cdv A outer s H vs Q E hr h => ?_)
  · obtain ⟨x, dx, a1, a2, xs1, xs2, rfl, _⟩ := h
    rfl
  · obtain ⟨x, dx, a1, a2, xs1, xs2, rfl, hx, r1, r2, k⟩ := h
    exact ⟨_, hb cdv A outer s H E, x, dx, a1, a2, xs1, xs2, rfl, rfl, rfl, hx, r1, r2, k⟩
theorem fn_I1 (F : Fun T.K x qual st f fd) (S : FnScope [n0, n1] [n0, n1] (defScope st))
    (hb : ∀ (cdv : Value) (A : Around) (outer : List Env) (s : Shared) (H : Hp) (E : XK), PSs (cxOf CX0 P w T.K mg base [n0, n1] qual (defScope st) f cdv A outer s H E).nox (defBody st) (tI1 T c f1)) :
    FnOk P w T.K mg base CX0 1 f fd [n0, n1] (spI1 T c f1) := by
  refine F.ok S (fun vs H Q E h => ?_) (fun cdv A outer s H vs Q E hr h => ?_)
  · obtain ⟨x, dx, v, rfl, _⟩ := h
    rfl
  · obtain ⟨x, dx, v, rfl, hx, k⟩ := h
    exact ⟨_, hb cdv A outer s H E, x, dx, v, rfl, rfl, hx, k⟩
end
/-! ### x.f.append(e), x.f.pop() of an own instance -/
section
variable {T : Tx} {X : Cx} {E : XK} {e : Expr} {m : M} {apos pos p p2 : Pos} {x : Str}
/-- a field of the instance in a slot -/
def tP (T : Tx) (i : Nat) (n : FN) : TE := fun s H Q => ∃ a c ps j q, s[i]? = some (some (.ref a)) ∧ HoldAt T H (some c) a ps ∧ n.ix c = some j ∧ ps[j]? = some q ∧ Q (.ref q) H
theorem pe_part (i : Nat) (n : FN) (C : ClA T X.mg) {p2 p3 : Pos} (hK : X.K = T.K := by rfl) (hN : X.N[i]? = some x := by rfl) (hv : Vis X.env.scope x := by first | exact Or.inl rfl | exact Or.inr (Or.inl rfl) | exact Or.inr (Or.inr rfl)) (hd : (x == ("__debug__" : Str)) = false := by decide)
    (hcd : (x == ("__classdict__" : Str)) = false := by decide) (hb : attributeBase (.Name x p2) n.nm X.env (eval (.Name x p2) X.env) = eval (.Name x p2) X.env := by rfl) : PE X (.Attribute (.Name x p2) n.nm p3) (tP T i n) :=
  pe_imp (pe_fld (pe_var hN hv hd hcd) hb) fun s H Q ⟨a, c, ps, j, q, h1, ⟨dx, h2, h3⟩, h4, h5, k⟩ => by
    have L := C.at_ c (FN.ix_lt h4)
    obtain ⟨g1, g2⟩ := FN.ix_at h4
    have hv : (ps.map V.ref).length = (FL c).length := by rw [List.length_map]; exact h3
    refine ⟨_, h1, a, T.cls c, dx, _, .ref q, rfl, h2, by rw [hK]; exact L.cl, by rw [hK]; exact L.na n (by rw [h4]; rfl), ?_, k⟩
    exact lookup_at (by rw [zip_fst hv]; exact g1) (by rw [zip_fst hv]; exact g2) (by rw [zip_snd hv, List.getElem?_map, h5]; rfl)
/-- the field's list changes -/
def sChg (i : Nat) (n : FN) (g : List Sd → List D → Rs (List D)) : MS := fun z => match z[i]? with
  | some (.ob (some c) fs) => match n.ix c with
    | some j => match fs[j]? with
      | some ds => (g z ds).bnd fun es => .ok (.nx (z.set i (.ob (some c) (fs.set j es))))
      | none => .stuck
    | none => .stuck
  | _ => .stuck
theorem sChg_inv {F0 H0 : Hp} {N : Ends} {i : Nat} {n : FN} {g : List Sd → List D → Rs (List D)} {z : List Sd} (h : PostS T E F0 H0 N (sChg i n g z)) :
    ∃ c fs j ds, z[i]? = some (.ob (some c) fs) ∧ n.ix c = some j ∧ fs[j]? = some ds ∧ PostS T E F0 H0 N ((g z ds).bnd fun es => .ok (.nx (z.set i (.ob (some c) (fs.set j es))))) := by
  unfold sChg at h
  split at h
  · rename_i c fs e1
    split at h
    · rename_i j e2
      split at h
      · rename_i ds e3
        exact ⟨c, fs, j, ds, e1, e2, e3, h⟩
      · exact h.elim
    · exact h.elim
  · exact h.elim
def sAppF (i : Nat) (n : FN) (m : M) : MS := sChg i n fun z ds => (m z).bnd fun d => if ds.length < sizeLine then .ok (ds ++ [d]) else .stuck
theorem ds_appF (i : Nat) (n : FN) (C : ClA T X.mg) {p2 p3 cpos : Pos} (he : DE T X E e m) (hK : X.K = T.K := by rfl) (hN : X.N[i]? = some x := by rfl) (hv : Vis X.env.scope x := by first | exact Or.inl rfl | exact Or.inr (Or.inl rfl) | exact Or.inr (Or.inr rfl)) (hd : (x == ("__debug__" : Str)) = false := by decide)
    (hcd : (x == ("__classdict__" : Str)) = false := by decide) (hb : attributeBase (.Name x p2) n.nm X.env (eval (.Name x p2) X.env) = eval (.Name x p2) X.env := by rfl) (hs1 : starEach [e] X.env = (false, eval e X.env) :: starEach [] X.env := by rfl)
    (hbase : attributeBase (.Attribute (.Name x p2) n.nm p3) "append" X.env (eval (.Attribute (.Name x p2) n.nm p3) X.env) = eval (.Attribute (.Name x p2) n.nm p3) X.env := by rfl)
    (hfew : ((backTo cpos (starEach [e] X.env)).all (fun x => !x.1) && (backToKw cpos (keywordEach [] X.env)).all (fun x => x.1.isSome)
      && decide ([e].length + ([] : List Keyword).length + (if ([] : List Keyword).isEmpty then 0 else 1) < 30)) = true := by rfl) (hline : (apos.endLine == cpos.line) = true := by rfl) :
    DS T X E (.Expr (.Call (.Attribute (.Attribute (.Name x p2) n.nm p3) "append" apos) [e] [] cpos) pos) (sAppF i n m) :=
  ps_imp (ps_expr (pe_bm PySem.F.plainAttrs_list PySem.F.slot_list_append PySem.F.type_list_append mt_append (pe_part i n C hK hN hv hd hcd hb) (pa_cons he pa_nil hs1) hbase hfew hline hs1 rfl) rfl) fun N s H ⟨F0, H0, F, z, x, h⟩ => by
  obtain ⟨c, fs, j, ds, e1, e2, e3, h⟩ := sChg_inv h
  obtain ⟨a, ps, h1, h2, h3, h4, h5⟩ := x.r.ob i (some c) fs e1
  have hj : j < ps.length := by rw [h4]; exact (List.getElem?_eq_some_iff.mp e3).1
  obtain ⟨xs, c1, c2, c3⟩ := h5 j ps[j] ds (List.getElem?_eq_getElem hj) e3
  refine ⟨a, c, ps, j, ps[j], h1, h2.mono x.r.ex, e2, List.getElem?_eq_getElem hj, .inl ⟨rfl, xs, .inl (.inl c1)⟩, F, z, x.r, ?_⟩
  have h' : PostS T E F0 H0 N ((m z).bnd fun d => (if ds.length < sizeLine then Rs.ok (ds ++ [d]) else .stuck).bnd fun es => .ok (.nx (z.set i (.ob (some c) (fs.set j es))))) := by
    revert h
    cases m z with
    | ok d => exact fun h => h
    | exc d => exact fun h => h
    | stuck => exact fun h => h
  refine PostS.bnd (L := lV T) (x := x) h' fun y w F1 H1 u1 ry hy => ?_
  by_cases hl : ds.length < sizeLine
  · rw [if_pos hl] at hy
    exact ⟨ps[j], xs, w, rfl, rfl, u1.h.ex _ _ c1, by rw [c3.length]; exact hl, hy _ F1 _ ((x.step u1).chgOb e1 h1 (h2.mono u1.f) (List.getElem?_eq_getElem hj) ((c3.mono u1.f).append (.cons ry .nil)))⟩
  · rw [if_neg hl] at hy
    exact hy.elim
def sPopF (i : Nat) (n : FN) : MS := sChg i n fun _ ds => if ds.length = 0 then .stuck else .ok ds.dropLast
theorem ds_popF (i : Nat) (n : FN) (C : ClA T X.mg) {p2 p3 cpos : Pos} (hK : X.K = T.K := by rfl) (hN : X.N[i]? = some x := by rfl) (hv : Vis X.env.scope x := by first | exact Or.inl rfl | exact Or.inr (Or.inl rfl) | exact Or.inr (Or.inr rfl)) (hd : (x == ("__debug__" : Str)) = false := by decide)
    (hcd : (x == ("__classdict__" : Str)) = false := by decide) (hb : attributeBase (.Name x p2) n.nm X.env (eval (.Name x p2) X.env) = eval (.Name x p2) X.env := by rfl)
    (hbase : attributeBase (.Attribute (.Name x p2) n.nm p3) "pop" X.env (eval (.Attribute (.Name x p2) n.nm p3) X.env) = eval (.Attribute (.Name x p2) n.nm p3) X.env := by rfl) (hline : (apos.endLine == cpos.line) = true := by rfl) :
    DS T X E (.Expr (.Call (.Attribute (.Attribute (.Name x p2) n.nm p3) "pop" apos) [] [] cpos) pos) (sPopF i n) :=
  ps_imp (ps_expr (pe_bm0 PySem.F.plainAttrs_list PySem.F.slot_list_pop PySem.F.type_list_pop mt_pop (pe_part i n C hK hN hv hd hcd hb) hbase hline) rfl) fun N s H ⟨F0, H0, F, z, x, h⟩ => by
  obtain ⟨c, fs, j, ds, e1, e2, e3, h⟩ := sChg_inv h
  obtain ⟨a, ps, h1, h2, h3, h4, h5⟩ := x.r.ob i (some c) fs e1
  have hj : j < ps.length := by rw [h4]; exact (List.getElem?_eq_some_iff.mp e3).1
  obtain ⟨xs, c1, c2, c3⟩ := h5 j ps[j] ds (List.getElem?_eq_getElem hj) e3
  by_cases hl : ds.length = 0
  · rw [if_pos hl] at h
    exact h.elim
  · rw [if_neg hl] at h
    have hx : xs.length - 1 < xs.length := by have := c3.length; omega
    exact ⟨a, c, ps, j, ps[j], h1, h2.mono x.r.ex, e2, List.getElem?_eq_getElem hj, .inl ⟨rfl, xs, .inl (.inl c1)⟩, ps[j], xs, _, rfl, rfl, c1, List.getElem?_eq_getElem hx, h _ F _ (x.chgOb e1 h1 h2 (List.getElem?_eq_getElem hj) c3.dropLast)⟩
end
theorem fnok_lift {P : Program} {w : World} {K : PySem.W.Frag} {mg : Str → Option Value} {base : Heap} {CX : CXT} {k j : Nat} {f : Addr} {fd : FuncData} {ps : List Str} {sp : Sp} (G : FnOk P w K mg base CX k f fd ps sp) (h : k ≤ j) : FnOk P w K mg base CX j f fd ps sp :=
  { G with run := fun A outer s H args us vs Q E hr => G.run A outer s H args us vs Q E (hr.mono h) }
end CL


set_option Elab.async false
set_option linter.all false
set_option maxRecDepth 100000
/-! The data layer, part j: items set, own lists within a list, or by truth. -/
namespace CL
open PySem PySem.Spec PyProof.Rows L2
section
variable {T : Tx} {X : Cx} {E : XK} {a b c e o : Expr} {es : List Expr} {pos p p2 : Pos} {ma mb mc m : M} {mes mi mj ml : ML} {ba bb : MB} {x : Str} {j k : Nat}
/-! ### x[i] = e of an own list -/
def setI (ds : List D) (i d : D) : Option (List D) := match i with
  | .int k => (ixN ds.length k).map fun j => ds.set j d
  | _ => none
theorem setI_some {ds es : List D} {i d : D} (h : setI ds i d = some es) : ∃ k j, i = .int k ∧ ixN ds.length k = some j ∧ es = ds.set j d := by
  cases i <;> first | cases h | skip
  rename_i k
  simp only [setI] at h
  cases q : ixN ds.length k with
  | none => rw [q] at h; cases h
  | some j => rw [q] at h; cases h; exact ⟨k, j, rfl, q, rfl⟩
def sItem (i : Nat) (mi : M) (me : M) : MS := fun z => (me z).bnd fun d => match z[i]? with
  | some (.ow ds) => (mi z).bnd fun k => (ofO (setI ds k d)).bnd fun es => .ok (.nx (z.set i (.ow es)))
  | _ => .stuck
theorem ds_item (i : Nat) {px : Pos} {ix : Expr} {ps : Pos} {mx : M} (he : DE T X E e m) (hx : DE T X E ix mx) (hN : X.N[i]? = some x := by rfl) (hv : Vis X.env.scope x := by first | exact Or.inl rfl | exact Or.inr (Or.inl rfl) | exact Or.inr (Or.inr rfl)) (hd : (x == ("__debug__" : Str)) = false := by decide)
    (hcd : (x == ("__classdict__" : Str)) = false := by decide)
    (ha : ∀ v, assign (.Subscript (.Name x px) ix ps) X.env v = (do
      let ov ← holding [v] (eval (.Name x px) X.env)
      let iv ← holding [v, ov] (eval ix X.env)
      standAt ps
      holding [v, ov, iv] (setItem ov iv v)
      release [v, ov, iv] []) := by intro _; rfl)
    (hs : swapsWithSole [.Subscript (.Name x px) ix ps] e pos.line X.env = pure false := by rfl) (hw : swappedStores [.Subscript (.Name x px) ix ps] e X.env = pure none := by rfl)
    (h1 : (assignEach [.Subscript (.Name x px) ix ps] X.env).map (·.2) = [assign (.Subscript (.Name x px) ix ps) X.env] := by rfl) :
    DS T X E (.Assign [.Subscript (.Name x px) ix ps] e pos) (sItem i mx m) :=
  ps_imp (ps_asg he (pg_sub (pe_var hN hv hd hcd) hx set_list ha) hs hw h1) fun N s H ⟨F0, H0, F, z, x, h⟩ =>
  ⟨F, z, x.r, PostS.bnd (L := lV T) (x := x) h fun d v F1 H1 u1 rd h1 => by
    split at h1
    · rename_i ds e1
      have x1 := x.step u1
      obtain ⟨q, xs, g1, g2, g3, g4⟩ := x1.r.ow i ds e1
      refine ⟨_, g1, F1, z, x1.r, PostS.bnd (L := lV T) (x := x1) h1 fun kd w F2 H2 u2 rk h2 => ?_⟩
      cases qs : setI ds kd d with
      | none => rw [qs] at h2; exact h2.elim
      | some es =>
        rw [qs] at h2
        obtain ⟨k, j, rfl, hj, rfl⟩ := setI_some qs
        cases rk
        have g4' := g4.mono u2.f
        exact ⟨q, xs, k, j, rfl, rfl, u2.h.ex _ _ g2, by rw [g4.length]; exact hj, h2 _ F2 _ ((x1.step u2).chg e1 g1 (g4'.set j (rd.mono u2.f)))⟩
    · exact h1.elim⟩
/-- x[a], x[b] = (e1, e2) of an own list -/
def sSwap (i : Nat) (mx my : M) (ms : ML) : MS := fun z => (ms z).bnd fun ds2 => match ds2 with
  | [d1, d2] => (match z[i]? with
    | some (.ow ds) => (mx z).bnd fun k1 => (ofO (setI ds k1 d1)).bnd fun es => (my (z.set i (.ow es))).bnd fun k2 => (ofO (setI es k2 d2)).bnd fun fs => .ok (.nx (z.set i (.ow fs)))
    | _ => .stuck)
  | _ => .stuck
theorem ds_swap (i : Nat) {px py pt pt2 ps1 ps2 : Pos} {ix iy : Expr} {kt k2 : Nat} {mx my : M} (hc : X.calm = true) (he : DA T X E [a, b] mes) (hx : DE T X E ix mx) (hy : DE T X E iy my) (hN : X.N[i]? = some x := by rfl) (hv : Vis X.env.scope x := by first | exact Or.inl rfl | exact Or.inr (Or.inl rfl) | exact Or.inr (Or.inr rfl))
    (hd : (x == ("__debug__" : Str)) = false := by decide) (hcd : (x == ("__classdict__" : Str)) = false := by decide)
    (ha : ∀ v, assign (.Subscript (.Name x px) ix ps1) X.env v = (do
      let ov ← holding [v] (eval (.Name x px) X.env)
      let iv ← holding [v, ov] (eval ix X.env)
      standAt ps1
      holding [v, ov, iv] (setItem ov iv v)
      release [v, ov, iv] []) := by intro _; rfl)
    (hb : ∀ v, assign (.Subscript (.Name x py) iy ps2) X.env v = (do
      let ov ← holding [v] (eval (.Name x py) X.env)
      let iv ← holding [v, ov] (eval iy X.env)
      standAt ps2
      holding [v, ov, iv] (setItem ov iv v)
      release [v, ov, iv] []) := by intro _; rfl)
    (h2 : (assignEach [.Subscript (.Name x px) ix ps1, .Subscript (.Name x py) iy ps2] X.env).map (·.2) = assign (.Subscript (.Name x px) ix ps1) X.env :: (assignEach [.Subscript (.Name x py) iy ps2] X.env).map (·.2) := by rfl)
    (h3 : (assignEach [.Subscript (.Name x py) iy ps2] X.env).map (·.2) = assign (.Subscript (.Name x py) iy ps2) X.env :: (assignEach [] X.env).map (·.2) := by rfl)
    (hn : (assignEach [.Subscript (.Name x px) ix ps1, .Subscript (.Name x py) iy ps2] X.env).length = 2 := by rfl) (hst : (assignEach [.Subscript (.Name x px) ix ps1, .Subscript (.Name x py) iy ps2] X.env).findIdx? (·.1) = none := by rfl)
    (hs : swapsWithSole [.Tuple [.Subscript (.Name x px) ix ps1, .Subscript (.Name x py) iy ps2] kt pt] (.Tuple [a, b] k2 pt2) pos.line X.env = pure false := by rfl) (hw : swappedStores [.Tuple [.Subscript (.Name x px) ix ps1, .Subscript (.Name x py) iy ps2] kt pt] (.Tuple [a, b] k2 pt2) X.env = pure none := by rfl)
    (h1 : (assignEach [.Tuple [.Subscript (.Name x px) ix ps1, .Subscript (.Name x py) iy ps2] kt pt] X.env).map (·.2) = [assign (.Tuple [.Subscript (.Name x px) ix ps1, .Subscript (.Name x py) iy ps2] kt pt) X.env] := by rfl) :
    DS T X E (.Assign [.Tuple [.Subscript (.Name x px) ix ps1, .Subscript (.Name x py) iy ps2] kt pt] (.Tuple [a, b] k2 pt2) pos) (sSwap i mx my mes) :=
  ps_imp (ps_asg (pe_tup he) (pg_tup hc (pgs_cons (pg_sub (pe_var hN hv hd hcd) hx set_list ha) (pgs_cons (pg_sub (pe_var hN hv hd hcd) hy set_list hb) pgs_nil h3) h2) hn hst) hs hw h1) fun N s H ⟨F0, H0, F, z, x, h⟩ =>
  ⟨F, z, x.r, PostS.bnd (L := lA T) (x := x) h fun ds2 vs F1 H1 u1 rd h1 => by
    match ds2, rd, h1 with
    | [d1, d2], rd, h1 =>
      obtain ⟨v1, v2, rfl, r1, r2⟩ := rd.two
      refine ⟨(by show 2 ≤ sizeLine; rw [sizeLine_eq]; decide), fun t ht => ⟨t, [v1, v2], rfl, .inl (.inl upd_same), rfl, v1, [v2], rfl, ?_⟩⟩
      have u1' := u1.trans (Up.new (o := .tup [v1, v2]) u1.s ht)
      have eF1 : Ex F1 (upd F1 t (.tup [v1, v2])) := Ex.new (u1.s.back ht)
      simp only at h1
      split at h1
      · rename_i ds e1
        have x1 := x.step u1'
        obtain ⟨q, xs, g1, g2, g3, g4⟩ := x1.r.ow i ds e1
        refine ⟨_, g1, _, z, x1.r, PostS.bnd (L := lV T) (x := x1) h1 fun kd w F2 H2 u2 rk h2 => ?_⟩
        cases qs : setI ds kd d1 with
        | none => rw [qs] at h2; exact h2.elim
        | some es =>
          rw [qs, show ofO (some es) = Rs.ok es from rfl, bnd_ok] at h2
          obtain ⟨k, j, rfl, hj, rfl⟩ := setI_some qs
          cases rk
          have g4' := g4.mono u2.f
          have x2 := (x1.step u2).chg e1 g1 (g4'.set j ((r1.mono eF1).mono u2.f))
          refine ⟨q, xs, k, j, rfl, rfl, u2.h.ex _ _ g2, by rw [g4.length]; exact hj, v2, [], rfl, ?_⟩
          have hl : i < z.length := (List.getElem?_eq_some_iff.mp e1).1
          have e2 : (z.set i (.ow (ds.set j d1)))[i]? = some (.ow (ds.set j d1)) := List.getElem?_set_self hl
          refine ⟨_, g1, F2, _, x2.r, PostS.bnd (L := lV T) (x := x2) h2 fun kd2 w2 F3 H3 u3 rk2 h3 => ?_⟩
          cases qs2 : setI (ds.set j d1) kd2 d2 with
          | none => rw [qs2] at h3; exact h3.elim
          | some fs =>
            rw [qs2, show ofO (some fs) = Rs.ok fs from rfl, bnd_ok] at h3
            obtain ⟨k2, j2, rfl, hj2, rfl⟩ := setI_some qs2
            cases rk2
            obtain ⟨q', ys, c1, c2, c3, c4⟩ := x2.r.ow i _ e2
            rw [g1] at c1
            cases c1
            rw [upd_same] at c2
            cases c2
            have x3 := (x2.step u3).chg e2 g1 ((c4.mono u3.f).set j2 (((r2.mono eF1).mono u2.f).mono u3.f))
            rw [List.set_set] at x3
            exact ⟨q, _, k2, j2, rfl, rfl, u3.h.ex _ _ upd_same, by rw [c4.length]; exact hj2, rfl, h3 _ F3 _ x3⟩
      · exact h1.elim
    | [], rd, h1 => exact h1.elim
    | [_], rd, h1 => exact h1.elim
    | _ :: _ :: _ :: _, rd, h1 => exact h1.elim⟩
end
end CL


set_option Elab.async false
set_option linter.all false
set_option maxRecDepth 100000
/-! The data layer, part k: a list of two own lists, or by truth. -/
namespace CL
open PySem PySem.Spec PyProof.Rows L2
/-- the wish stays as it was asked at the start -/
theorem Post.bndU {T : Tx} {E : XK} {F H F1 H1 : Hp} {β α β2 α2 : Type} {L : Rl β α} {L2 : Rl β2 α2} {Q : β → Hp → Prop} {Q2 : β2 → Hp → Prop} {a : Rs α} {k : α → Rs α2} (u : Up T F H F1 H1) (h : Post T E L2 F H Q2 (a.bnd k))
    (step : ∀ x v F2 H2, Up T F1 H1 F2 H2 → L.r H1 F2 H2 v x → Post T E L2 F H Q2 (k x) → Q v H2) : Post T E L F1 H1 Q a := by
  cases a with
  | ok d => exact fun v F' H' u r => step d v F' H' u r h
  | exc c => exact fun H' e => h H' (u.h.trans e)
  | stuck => exact h
section
variable {T : Tx} {X : Cx} {E : XK} {a b c e o : Expr} {es : List Expr} {pos p p2 : Pos} {ma mb mc m : M} {mes mi mj ml : ML} {ba bb : MB} {x : Str} {j k : Nat}
/-! ### [a, b] of two new lists, as an own holder -/
def rLst2 (mi mj : ML) : MR := fun z => (mi z).bnd fun xs => (mj z).bnd fun ys => .ok (.obj none [xs, ys])
theorem dr_lst2 (ha : DL T X E a mi) (hb : DL T X E b mj) (he : starEach [a, b] X.env = (false, eval a X.env) :: starEach [b] X.env := by rfl) (he2 : starEach [b] X.env = (false, eval b X.env) :: starEach [] X.env := by rfl) :
    DR T X E (.List [a, b] pos) (rLst2 mi mj) :=
  pe_imp (pe_lst (pa_cons ha (pa_cons hb pa_nil he2) he)) fun s H Q ⟨F, z, q, h⟩ =>
    ⟨F, z, q, Post.bndU (L := lL T) (Up.refl q.ex) h fun xs v F1 H1 u1 rx h1 => ⟨F1, z, q.up u1, Post.bndU (L := lL T) u1 h1 fun ys w F2 H2 u2 ry h2 => by
      obtain ⟨p1, vs, rfl, a0, a1, a2, a3⟩ := rx
      obtain ⟨p2, ws, rfl, b0, b1, b2, b3⟩ := ry
      refine ⟨(by show 2 ≤ sizeLine; rw [sizeLine_eq]; decide), fun l hl => ?_⟩
      have hp1 : H2 p1 = some (.lst vs) := u2.h.ex _ _ a2
      have hf1 : F2 p1 = none := u2.hid a1 a2
      have n12 : p1 ≠ p2 := ne_of_none a2 b0
      have n1 : p1 ≠ l := ne_of_none hp1 hl
      have n2 : p2 ≠ l := ne_of_none b2 hl
      have eF : Ex F2 (upd F2 l (.lst [.ref p1, .ref p2])) := Ex.new (u2.s.back hl)
      refine h2 _ (upd F2 l (.lst [.ref p1, .ref p2])) _ ((u1.trans u2).trans (Up.new u2.s hl)) ⟨l, rfl, [p1, p2], upd_same, ?_, ⟨rfl, fun i q ds g1 g2 => ?_⟩, fun q hq => ?_⟩
      · rw [List.nodup_cons]
        exact ⟨by rw [List.mem_singleton]; exact n12, List.nodup_cons.mpr ⟨by simp, List.nodup_nil⟩⟩
      · match i, g1, g2 with
        | 0, g1, g2 =>
          cases g1
          cases g2
          exact ⟨vs, by rw [upd_ne n1]; exact hp1, by rw [upd_ne n1]; exact hf1, (a3.mono u2.f).mono eF⟩
        | 1, g1, g2 =>
          cases g1
          cases g2
          exact ⟨ws, by rw [upd_ne n2]; exact b2, by rw [upd_ne n2]; exact b1, b3.mono eF⟩
        | i + 2, g1, g2 => cases g1
      · rcases List.mem_cons.mp hq with rfl | hq
        · exact a0
        · rw [List.mem_singleton] at hq
          rw [hq]
          exact u1.h.back b0⟩⟩
/-- x[j] of an own holder -/
def iOb (i j : Nat) : ML := fun z => match z[i]? with
  | some (.ob none fs) => ofO fs[j]?
  | _ => .stuck
theorem atI_of {α : Type} {xs : List α} {j : Nat} {v : α} (h : xs[j]? = some v) : atI xs (j : Int) = some v := by
  have hl := (List.getElem?_eq_some_iff.mp h).1
  unfold atI ixN
  rw [if_pos (by omega), if_pos (by omega)]
  simpa using h
def tH (T : Tx) (i j : Nat) : TE := fun s H Q => ∃ a ps q, s[i]? = some (some (.ref a)) ∧ HoldAt T H none a ps ∧ ps[j]? = some q ∧ Q (.ref q) H
theorem pe_held (i j : Nat) {n : Int} (hn : n = (j : Int)) {px pc ps : Pos} {kc : Nat} (hN : X.N[i]? = some x := by rfl) (hv : Vis X.env.scope x := by first | exact Or.inl rfl | exact Or.inr (Or.inl rfl) | exact Or.inr (Or.inr rfl)) (hd : (x == ("__debug__" : Str)) = false := by decide)
    (hcd : (x == ("__classdict__" : Str)) = false := by decide) (hs : PlainIx (.Constant (.int n) kc pc) := by exact fun _ _ => rfl) : PE X (.Subscript (.Name x px) (.Constant (.int n) kc pc) ps) (tH T i j) :=
  pe_imp (pe_ix ix_list (pe_var hN hv hd hcd) pe_int hs) fun s H Q ⟨a, qs, q, h1, h2, h3, k⟩ => by
    refine ⟨_, h1, a, qs.map V.ref, n, .ref q, rfl, rfl, .inl (.inl h2), ?_, k⟩
    rw [hn]
    exact atI_of (by rw [List.getElem?_map, h3]; rfl)
theorem di_held (i j : Nat) {n : Int} (hn : n = (j : Int)) {px pc ps : Pos} {kc : Nat} (hN : X.N[i]? = some x := by rfl) (hv : Vis X.env.scope x := by first | exact Or.inl rfl | exact Or.inr (Or.inl rfl) | exact Or.inr (Or.inr rfl)) (hd : (x == ("__debug__" : Str)) = false := by decide)
    (hcd : (x == ("__classdict__" : Str)) = false := by decide) (hs : PlainIx (.Constant (.int n) kc pc) := by exact fun _ _ => rfl) : DI T X E (.Subscript (.Name x px) (.Constant (.int n) kc pc) ps) (iOb i j) :=
  pe_imp (pe_held (T := T) i j hn hN hv hd hcd hs) fun s H Q ⟨F, z, r, h⟩ => by
    unfold iOb at h
    split at h
    · rename_i fs e1
      obtain ⟨ds, e2, k⟩ := Post.ofO h
      obtain ⟨a, qs, h1, h2, h3, h4, h5⟩ := r.ob i none fs e1
      have hj : j < qs.length := by rw [h4]; exact (List.getElem?_eq_some_iff.mp e2).1
      obtain ⟨xs, c1, c2, c3⟩ := h5 j qs[j] ds (List.getElem?_eq_getElem hj) e2
      exact ⟨a, qs, qs[j], h1, h2.mono r.ex, List.getElem?_eq_getElem hj, k _ F H (Up.refl r.ex) ⟨qs[j], xs, rfl, .inl c1, c3⟩⟩
    · exact h.elim
def sAppI (i j : Nat) (m : M) : MS := fun z => match z[i]? with
  | some (.ob none fs) => match fs[j]? with
    | some ds => (m z).bnd fun d => if ds.length < sizeLine then .ok (.nx (z.set i (.ob none (fs.set j (ds ++ [d]))))) else .stuck
    | none => .stuck
  | _ => .stuck
theorem ds_appI (i j : Nat) {n : Int} (hn : n = (j : Int)) {px pc ps apos cpos : Pos} {kc : Nat} (he : DE T X E e m) (hN : X.N[i]? = some x := by rfl) (hv : Vis X.env.scope x := by first | exact Or.inl rfl | exact Or.inr (Or.inl rfl) | exact Or.inr (Or.inr rfl)) (hd : (x == ("__debug__" : Str)) = false := by decide)
    (hcd : (x == ("__classdict__" : Str)) = false := by decide) (hs : PlainIx (.Constant (.int n) kc pc) := by exact fun _ _ => rfl) (hs1 : starEach [e] X.env = (false, eval e X.env) :: starEach [] X.env := by rfl)
    (hbase : attributeBase (.Subscript (.Name x px) (.Constant (.int n) kc pc) ps) "append" X.env (eval (.Subscript (.Name x px) (.Constant (.int n) kc pc) ps) X.env) = eval (.Subscript (.Name x px) (.Constant (.int n) kc pc) ps) X.env := by rfl)
    (hfew : ((backTo cpos (starEach [e] X.env)).all (fun x => !x.1) && (backToKw cpos (keywordEach [] X.env)).all (fun x => x.1.isSome)
      && decide ([e].length + ([] : List Keyword).length + (if ([] : List Keyword).isEmpty then 0 else 1) < 30)) = true := by rfl) (hline : (apos.endLine == cpos.line) = true := by rfl) :
    DS T X E (.Expr (.Call (.Attribute (.Subscript (.Name x px) (.Constant (.int n) kc pc) ps) "append" apos) [e] [] cpos) pos) (sAppI i j m) :=
  ps_imp (ps_expr (pe_bm PySem.F.plainAttrs_list PySem.F.slot_list_append PySem.F.type_list_append mt_append (pe_held (T := T) i j hn hN hv hd hcd hs) (pa_cons he pa_nil hs1) hbase hfew hline hs1 rfl) rfl) fun N s H ⟨F0, H0, F, z, x, h⟩ => by
  unfold sAppI at h
  split at h
  · rename_i fs e1
    split at h
    · rename_i ds e3
      obtain ⟨a, ps, h1, h2, h3, h4, h5⟩ := x.r.ob i none fs e1
      have hj : j < ps.length := by rw [h4]; exact (List.getElem?_eq_some_iff.mp e3).1
      obtain ⟨xs, c1, c2, c3⟩ := h5 j ps[j] ds (List.getElem?_eq_getElem hj) e3
      refine ⟨a, ps, ps[j], h1, h2.mono x.r.ex, List.getElem?_eq_getElem hj, .inl ⟨rfl, xs, .inl (.inl c1)⟩, F, z, x.r, ?_⟩
      refine PostS.bnd (L := lV T) (x := x) h fun y w F1 H1 u1 ry hy => ?_
      by_cases hl : ds.length < sizeLine
      · rw [if_pos hl] at hy
        exact ⟨ps[j], xs, w, rfl, rfl, u1.h.ex _ _ c1, by rw [c3.length]; exact hl, hy _ F1 _ ((x.step u1).chgOb e1 h1 (h2.mono u1.f) (List.getElem?_eq_getElem hj) ((c3.mono u1.f).append (.cons ry .nil)))⟩
      · rw [if_neg hl] at hy
        exact hy.elim
    · exact h.elim
  · exact h.elim
/-! ### a or b by truth -/
def truD : D → Option Bool
  | .non => some false
  | .bl b => some b
  | .int i => some (i != 0)
  | .lst xs => some (!xs.isEmpty)
  | .tup xs => some (!xs.isEmpty)
  | _ => none
theorem Rp.tru {K : PySem.W.Frag} {F H : Hp} {v : V} {d : D} {k : Bool} (e : Ex F H) (h : Rp T F v d) (hk : truD d = some k) : TruV K v H k := by
  cases h <;> first | cases hk | skip
  · exact rfl
  · exact rfl
  · exact rfl
  · rename_i hr hA
    refine .inl ⟨_, .inl (e.rd hr), ?_⟩
    cases hA <;> rfl
  · rename_i hr hA
    refine .inr (.inl ⟨_, .inl (.inl (e _ _ hr)), ?_⟩)
    cases hA <;> rfl
def mOrT (ma mb : M) : M := fun z => (ma z).bnd fun x => (ofO (truD x)).bnd fun k => if k then .ok x else mb z
theorem de_orT {rest : List Expr} (ha : DE T X E a ma) (hb : DE T X E (.BoolOp .Or (b :: rest) pos) mb) : DE T X E (.BoolOp .Or (a :: b :: rest) pos) (mOrT ma mb) := pe_imp (pe_orT ha hb) fun s H Q ⟨F, z, q, h⟩ =>
  ⟨F, z, q, Post.bnd (L := lV T) h fun x v F1 H1 u1 rx h1 => by
    cases ek : truD x with
    | none => rw [ek] at h1; exact h1.elim
    | some k =>
      rw [ek] at h1
      refine ⟨k, rx.tru u1.s ek, ?_⟩
      cases k with
      | true => exact iteT (h1 _ F1 H1 (Up.refl u1.s) rx)
      | false => exact iteF ⟨F1, z, q.up u1, h1⟩⟩
end
end CL


set_option Elab.async false
set_option linter.all false
set_option maxRecDepth 100000
/-! The data layer, part l: try .. except, the error that is handled. -/
namespace CL
open PySem PySem.Spec PyProof.Rows L2
/-! ### the text's words while the error at a, of the class c, is handled -/
abbrev Tx.hot (T : Tx) (a : Addr) (c : Nat) : Tx := { T with er := fun v k => v = .ref a ∧ k = c }
/-- two readings that differ in the handled error alone -/
structure Tx.Like (T U : Tx) : Prop where
  K : T.K = U.K
  cls : T.cls = U.cls
  fna : T.fna = U.fna
  lq : T.lq = U.lq
  lp : T.lp = U.lp
  lb : T.lb = U.lb
  ls : T.ls = U.ls
  lf : T.lf = U.lf
  tabs : T.tabs = U.tabs
theorem Tx.hot_like (T : Tx) (a : Addr) (c : Nat) : T.Like (T.hot a c) := ⟨rfl, rfl, rfl, rfl, rfl, rfl, rfl, rfl, rfl⟩
theorem Tx.Like.symm {T U : Tx} (h : T.Like U) : U.Like T := ⟨h.K.symm, h.cls.symm, h.fna.symm, h.lq.symm, h.lp.symm, h.lb.symm, h.ls.symm, h.lf.symm, h.tabs.symm⟩
section
variable {T U : Tx} {F H F0 H0 : Hp} {s : L2.St} {z : List Sd}
mutual
theorem Rp.tx (l : T.Like U) : ∀ {v : V} {d : D}, Rp T F v d → Rp U F v d
  | _, _, .non => .non
  | _, _, .bl b => .bl b
  | _, _, .int i => .int i
  | _, _, .str x => .str x
  | _, _, .lst h a => .lst h (RpAll.tx l a)
  | _, _, .tup h a => .tup h (RpAll.tx l a)
  | _, _, .dct h => .dct h
  | _, _, .ins h n a => .ins (by rw [← l.cls]; exact h) n (RpAll.tx l a)
  | _, _, .fn i => by rw [l.fna]; exact .fn i
  | _, _, .scr h => .scr (by rw [← l.K]; exact h)
  | _, _, .lam h k c a => .lam (by rw [h]; unfold LamO; rw [l.lq, l.lp, l.lb, l.ls]) (by rw [← l.lq]; exact k) (by rw [← l.lf]; exact c) (RpAll.tx l a)
theorem RpAll.tx (l : T.Like U) : ∀ {vs : List V} {ds : List D}, RpAll T F vs ds → RpAll U F vs ds
  | _, _, .nil => .nil
  | _, _, .cons h t => .cons (Rp.tx l h) (RpAll.tx l t)
end
theorem HoldAt.tx (l : T.Like U) {k : Option Nat} {a : Addr} {ps : List Addr} (h : HoldAt T F k a ps) : HoldAt U F k a ps := by
  cases k with
  | none => exact h
  | some c => obtain ⟨dx, h1, h2⟩ := h; exact ⟨dx, by rw [← l.cls]; exact h1, h2⟩
theorem Lists.tx (l : T.Like U) {ps : List Addr} {fs : List (List D)} (h : Lists T F H ps fs) : Lists U F H ps fs :=
  ⟨h.1, fun j p ds e1 e2 => let ⟨xs, a, b, c⟩ := h.2 j p ds e1 e2; ⟨xs, a, b, c.tx l⟩⟩
theorem OA.tx (l : T.Like U) {v : V} {x : Sd} {p : Addr} (h : OA T F v x p) : OA U F v x p := by
  cases x with
  | no => exact h
  | sh d => exact h
  | ow ds => exact h
  | er c => exact h
  | ob k fs => obtain ⟨a, ps, h1, h2, h3⟩ := h; exact ⟨a, ps, h1, h2.tx l, h3⟩
def isEr : Sd → Bool
  | .er _ => true
  | _ => false
theorem SlotOk.tx (l : T.Like U) {v : V} {x : Sd} (hx : isEr x = false) (h : SlotOk T F H v x) : SlotOk U F H v x := by
  cases x with
  | no => exact h
  | sh d => exact Rp.tx l h
  | ow ds => obtain ⟨p, xs, a, b, c, d⟩ := h; exact ⟨p, xs, a, b, c, d.tx l⟩
  | er c => cases hx
  | ob k fs => obtain ⟨a, ps, b, c, d, e⟩ := h; exact ⟨a, ps, b, c.tx l, d, e.tx l⟩
def noEr (z : List Sd) : Bool := z.all fun x => !isEr x
theorem noEr_at {i : Nat} {x : Sd} (h : noEr z = true) (e : z[i]? = some x) : isEr x = false := by
  have := List.all_eq_true.mp h x (List.mem_of_getElem? e)
  simpa using this
theorem R.tx (l : T.Like U) (hz : noEr z = true) (r : R T F H s z) : R U F H s z :=
  ⟨r.ex, fun i x e hn => let ⟨v, a, b⟩ := r.sl i x e hn; ⟨v, a, b.tx l (noEr_at hz e)⟩,
    fun i j x y v w p h1 h2 h3 h4 o1 o2 => r.ap i j x y v w p h1 h2 h3 h4 (o1.tx l.symm) (o2.tx l.symm), r.len, by rw [← l.tabs]; exact r.tb⟩
theorem Up.tx {F H F' H' : Hp} (l : T.Like U) (u : Up T F H F' H') : Up U F H F' H' := ⟨u.f, ⟨u.h.ex, fun t => by rw [← l.tabs] at t ⊢; exact u.h.tb t⟩, u.s, u.n⟩
theorem Sx.tx (l : T.Like U) (hz : noEr z = true) (x : Sx T F0 H0 F H s z) : Sx U F0 H0 F H s z :=
  ⟨x.up.tx l, x.r.tx l hz, fun i y v p h1 h2 o => x.oa i y v p h1 h2 (o.tx l.symm)⟩
theorem ObAt.tx (l : T.Like U) {k : Option Nat} {a : Addr} {fs : List (List D)} (h : ObAt T H0 F H k a fs) : ObAt U H0 F H k a fs := by
  obtain ⟨ps, a, b, c, d⟩ := h
  exact ⟨ps, a.tx l, b, c.tx l, d⟩
/-- a slot is emptied -/
theorem Sx.setNo {i : Nat} (x : Sx T F0 H0 F H s z) : Sx T F0 H0 F H (s.set i none) (z.set i .no) :=
  ⟨x.up, x.r.setNo, fun j y v p h1 h2 o => by
    rcases set_at h1 with ⟨rfl, rfl, _⟩ | ⟨n, g1⟩
    · exact o.elim
    · rw [List.getElem?_set_ne n] at h2
      exact x.oa j y v p g1 h2 o⟩
/-- .. with what is left of the error's word -/
theorem Sx.unhot (l : T.Like U) {i : Nat} (hz : noEr (z.set i .no) = true) (x : Sx T F0 H0 F H s z) : Sx U F0 H0 F H (s.set i none) (z.set i .no) := x.setNo.tx l hz
theorem Sx.hot {a : Addr} {c i : Nat} (hz : noEr z = true) (x : Sx T F0 H0 F H s z) : Sx (T.hot a c) F0 H0 F H (s.set i (some (.ref a))) (z.set i (.er c)) := by
  have y := x.tx (T.hot_like a c) hz
  exact y.setG (y.r.setG (x := .er c) ⟨rfl, rfl⟩ fun _ _ _ _ _ _ _ o => o.elim) fun p o => o.elim
end

/-! ### expressions that may raise, in a try -/
/-- the wish about exceptions goes with the slots -/
def tGS {β α : Type} (T : Tx) (W : WX) (L : Rl β α) (m : List Sd → Rs α) : L2.St → Hp → (β → Hp → Prop) → Prop := fun s H Q => ∃ F z, R T F H s z ∧ Post T (WE W s) L F H Q (m z)
def DEs (T : Tx) (X : Cx) (W : WX) (e : Expr) (m : M) : Prop := PE X e (tGS T W (lV T) m)
/-- what is handled: the classes 0, 1, 2 -/
def outEr (i : Nat) : Fw → Rs Fw
  | .nx z => if noEr (z.set i .no) then .ok (.nx (z.set i .no)) else .stuck
  | .rt d => .ok (.rt d)
  | .rl ds => .ok (.rl ds)
  | .ro k fs => .ok (.ro k fs)
  | _ => .stuck
def sTry (m : M) (i : Nat) (ms : MS) : MS := fun z => match m z with
  | .ok _ => .ok (.nx z)
  | .exc c => if c < 3 ∧ noEr z = true then (noX (ms (z.set i (.er c)))).bnd (outEr i) else .stuck
  | .stuck => .stuck
theorem outEr_read {T U : Tx} (l : U.Like T) {E : XK} {F0 H0 : Hp} {N : Ends} {i : Nat} {r : Rs Fw} (h : PostS T E F0 H0 N ((noX r).bnd (outEr i))) :
    PostS U E0 F0 H0 { nx := fun σ' H' => N.nx (σ'.set i none) H', rt := N.rt, bk := fun σ' H' => N.bk (σ'.set i none) H', ct := fun σ' H' => N.ct (σ'.set i none) H' } r := by
  cases r with
  | stuck => exact h
  | exc c => exact h.elim
  | ok f =>
    cases f with
    | nx z =>
      intro s F H x
      have h' : PostS T E F0 H0 N (if noEr (z.set i .no) = true then .ok (.nx (z.set i .no)) else .stuck) := h
      by_cases hz : noEr (z.set i .no) = true
      · rw [if_pos hz] at h'
        exact h' _ F H (x.unhot l hz)
      · rw [if_neg hz] at h'
        exact h'.elim
    | rt d => exact fun v F H u r => h v F H (u.tx l) (r.tx l)
    | rl ds => exact fun p xs F H u a b c d => h p xs F H (u.tx l) a b c (d.tx l)
    | ro k fs => exact fun a F H u o => h a F H (u.tx l) (o.tx l)
    | bk z => exact h.elim
    | ct z => exact h.elim
section
variable {T : Tx} {X : Cx} {E : XK} {a b c e o : Expr} {es : List Expr} {pos p p2 : Pos} {ma mb mc m : M} {mes mi mj ml : ML} {ba bb : MB} {x : Str} {j k : Nat} {ms : MS}
theorem ds_try (i : Nat) {n : Str} {CE : Addr} {suite : List Stmt} {b₀ : Stmt} {np pos' ep : Pos} (hN : X.N.Nodup) (hx : Names X x (.ref CE)) (hE : ∀ c, c < 3 → PySem.W.exmOne X.K (.ref (T.exc c)) (.ref CE) = some true)
    (hb : ∀ (W : WX) (pn : List (Addr × Obj)) (xe : Value → Shared → Prop), L2N.Takes (X.tr pn xe) W → DEs T (X.tr pn xe) W e m)
    (hs : ∀ (a : Addr) (oe : Obj) (c : Nat) (pn : List (Addr × Obj)), c < 3 → L2N.Zn (.ref (T.exc c)) none oe → (∃ vs, oe.data = .fields vs) → DSs (T.hot a c) (X.suite a ((a, oe) :: pn)) E0 (b₀ :: suite) ms)
    (hi : X.N[i]? = some n := by rfl) (hst : X.stack = X.env :: X.outer := by rfl) (hf : X.env.frame = some X.env.locals := by rfl) (hl : X.env.kindOf n = some .local := by rfl)
    (hsw : ∀ (pn : List (Addr × Obj)) (xe : Value → Shared → Prop), swapsWith e none ep.line (X.tr pn xe).env = pure false := by intro _ _; rfl) :
    DS T X E (.Try [.Expr e ep] [.ExceptHandler (some (.Name x np)) (some n) (b₀ :: suite) pos'] [] [] pos) (sTry m i ms) := by
  refine ps_imp (L2N.ps_try_as (tb := fun W N s H => tGS T W (lV T) m s H fun _ H1 => N.nx s H1) (ts := fun a cls d N s H => ∃ c, c < 3 ∧ cls = .ref (T.exc c) ∧ d = none ∧ tS (T.hot a c) E0 ms N s H) (Wout := fun _ _ _ _ => False) hst hf hN hi hl hx ?_ (fun W pn xe tk _ => ?_) (fun a oe cls d pn hz hd => ?_)) ?_
  · intro u s' ⟨_, _, _, _, _, _, _, _, _, _, _, _, _, _, _, _, z⟩
    exact z.elim
  · exact pss_one (ps_expr (hb W pn xe tk) (hsw pn xe))
  · refine ⟨fun pins s σ H D I h => ?_⟩
    obtain ⟨c, hc, rfl, rfl, h⟩ := h
    exact (hs a oe c pn hc hz hd).run pins s σ H D I h
  · intro N s H ⟨F0, H0, F, z, x, h⟩
    refine ⟨F, z, x.r, ?_⟩
    unfold sTry at h
    cases em : m z with
    | stuck => rw [em] at h; exact h
    | ok d => rw [em] at h; exact fun v F1 H1 u r => h s F1 H1 (x.step u)
    | exc c =>
      rw [em] at h
      intro H1 e1
      have h' : PostS T E F0 H0 N (if c < 3 ∧ noEr z = true then (noX (ms (z.set i (.er c)))).bnd (outEr i) else .stuck) := h
      by_cases hc : c < 3 ∧ noEr z = true
      · rw [if_pos hc] at h'
        exact ⟨true, hE c hc.1, fun _ a _ => ⟨c, hc.1, rfl, rfl, F0, H0, F, _, (x.step (Up.heap x.r.ex e1)).hot hc.2, outEr_read (T.hot_like a c).symm h'⟩, fun q => (nomatch q)⟩
      · rw [if_neg hc] at h'
        exact h'.elim
/-- a call of a def of the text, in a try -/
theorem des_call {n : Nat} {f : List D → Rs D} {W : WX} (g : DefG X.prog X.w X.K X.mg X.base (L2N.CX X.prog X.w) k x (spD T n f)) (hr : Room j X.A) (hk : k ≤ j) (tk : L2N.Takes X W) (ha : DA T X E0 (e :: es) mes) (hm : ∀ z c, mes z ≠ .exc c := by intro _ _ h; cases h) (hg : Gl X x := by rfl) (hdb : (x == ("__debug__" : Str)) = false := by decide)
    (he : starEach (e :: es) X.env = (false, eval e X.env) :: starEach es X.env := by rfl) (hpl : (backTo pos (starEach es X.env)).any (·.1) = false := by rfl) : DEs T X W (.Call (.Name x p) (e :: es) [] pos) (mCall n f mes) := by
  obtain ⟨f, fd, ps, F, hmf, kp, b⟩ := g.ex
  refine pe_imp (pe_callS F (hr.mono hk) hg hmf kp b (fun σ => L2N.passAt tk σ) ha hdb he hpl) fun s H Q ⟨F, z, q, h⟩ => ⟨F, z, q, ?_⟩
  cases em : mes z with
  | stuck => unfold mCall at h; rw [em] at h; exact h
  | exc c => exact (hm z c em).elim
  | ok ds =>
    intro vs F1 H1 u1 rx
    have h1 := Post.up h u1
    unfold mCall at h1
    rw [em, bnd_ok] at h1
    by_cases hn : ds.length = n
    · rw [if_pos hn] at h1
      exact ⟨F1, ds, ⟨u1.s, u1.h.tb q.tb⟩, rx, hn, h1⟩
    · rw [if_neg hn] at h1
      exact h1.elim
/-! ### isinstance(error, ..) -/
structure ErA (T : Tx) (mg : Str → Option Value) : Prop where
  exC : ∀ c, c < 3 → ExcC T.K (T.exc c)
  kit : ∀ c, c < 3 → ∀ k, k < 3 → PySem.W.kitOne T.K (.ref (T.exc c)) (.ref (T.exc k)) = some (decide (c = k))
  kitV : ∀ c, c < 3 → PySem.W.kitOne T.K (.ref (T.exc c)) (.type "ValueError") = some true
def mIsE (i k : Nat) : M := fun z => match z[i]? with
  | some (.er c) => .ok (.bl (decide (c = k)))
  | _ => .stuck
def mIsV (i : Nat) : M := fun z => match z[i]? with
  | some (.er _) => .ok (.bl true)
  | _ => .stuck
theorem R.erAt {F H : Hp} {s : L2.St} {z : List Sd} {a : Addr} {c i k : Nat} (r : R (T.hot a c) F H s z) (h : z[i]? = some (.er k)) : s[i]? = some (some (.ref a)) ∧ k = c := by
  obtain ⟨v, h1, h2⟩ := r.sl i _ h (by intro e; cases e)
  have h2' : v = .ref a ∧ k = c := h2
  obtain ⟨rfl, rfl⟩ := h2'
  exact ⟨h1, rfl⟩
theorem de_isE (i k : Nat) {y : Str} {px py : Pos} {ad : Addr} {oe : Obj} {c : Nat} {pn : List (Addr × Obj)} (A : ErA T X.mg) (hK : X.K = T.K) (hc : c < 3) (hk : k < 3) (hz : L2N.Zn (.ref (T.exc c)) none oe) (hf : ∃ vs, oe.data = .fields vs) (hm : X.mg "isinstance" = none) (hmy : X.mg y = some (.ref (T.exc k))) (hy : Gl X y)
    (hN : X.N[i]? = some x := by rfl) (hv : Vis X.env.scope x := by first | exact Or.inl rfl | exact Or.inr (Or.inl rfl) | exact Or.inr (Or.inr rfl)) (hd : (x == ("__debug__" : Str)) = false := by decide) (hcd : (x == ("__classdict__" : Str)) = false := by decide) (hdy : (y == ("__debug__" : Str)) = false := by decide)
    (hg : Gl X "isinstance" := by rfl) : DE (T.hot ad c) (X.suite ad ((ad, oe) :: pn)) E (.Call (.Name "isinstance" p) [.Name x px, .Name y py] [] pos) (mIsE i k) :=
  pe_imp (pe_callB (X := X.suite ad ((ad, oe) :: pn)) (call_isE (X := X) (by rw [hK]; exact A.exC c hc) hz.zc hf) hg hm (by decide +kernel) (pa_cons (pe_var (X := X.suite ad ((ad, oe) :: pn)) (i := i) hN hv hd hcd) (pa_cons (pe_glob (X := X.suite ad ((ad, oe) :: pn)) (v := .ref (T.exc k)) hy hmy rfl hdy) pa_nil rfl) rfl) (by decide) (by decide) rfl rfl) fun s H Q ⟨F, z, r, h⟩ => by
    unfold mIsE at h
    split at h
    · rename_i c' e1
      obtain ⟨h1, rfl⟩ := r.erAt e1
      exact ⟨_, h1, .ref (T.exc k), .ref (T.exc k), decide (c' = k), rfl, fun u hu => hu, by rw [hK]; exact A.kit c' hc k hk, h _ F H (Up.refl r.ex) (.bl _)⟩
    · exact h.elim
theorem de_isV (i : Nat) {px py : Pos} {ad : Addr} {oe : Obj} {c : Nat} {pn : List (Addr × Obj)} (A : ErA T X.mg) (hK : X.K = T.K) (hc : c < 3) (hz : L2N.Zn (.ref (T.exc c)) none oe) (hf : ∃ vs, oe.data = .fields vs) (hm : X.mg "isinstance" = none) (hmy : X.mg "ValueError" = none)
    (hN : X.N[i]? = some x := by rfl) (hv : Vis X.env.scope x := by first | exact Or.inl rfl | exact Or.inr (Or.inl rfl) | exact Or.inr (Or.inr rfl)) (hd : (x == ("__debug__" : Str)) = false := by decide) (hcd : (x == ("__classdict__" : Str)) = false := by decide)
    (hy : Gl X "ValueError" := by rfl) (hg : Gl X "isinstance" := by rfl) : DE (T.hot ad c) (X.suite ad ((ad, oe) :: pn)) E (.Call (.Name "isinstance" p) [.Name x px, .Name "ValueError" py] [] pos) (mIsV i) :=
  pe_imp (pe_callB (X := X.suite ad ((ad, oe) :: pn)) (call_isE (X := X) (by rw [hK]; exact A.exC c hc) hz.zc hf) hg hm (by decide +kernel) (pa_cons (pe_var (X := X.suite ad ((ad, oe) :: pn)) (i := i) hN hv hd hcd) (pa_cons (pe_bltn (X := X.suite ad ((ad, oe) :: pn)) (v := .ty "ValueError") hy hmy (by decide +kernel) rfl) pa_nil rfl) rfl) (by decide) (by decide) rfl rfl) fun s H Q ⟨F, z, r, h⟩ => by
    unfold mIsV at h
    split at h
    · rename_i c' e1
      obtain ⟨h1, rfl⟩ := r.erAt e1
      exact ⟨_, h1, .ty "ValueError", .type "ValueError", true, rfl, fun u hu => hu, by rw [hK]; exact A.kitV c' hc, h _ F H (Up.refl r.ex) (.bl _)⟩
    · exact h.elim
theorem de_eqU (hu : X.A.units + 64 < cLine) (ha : DE T X E a ma) (hb : DE T X E b mb) : DE T X E (.Compare a [.Eq] [b] pos) (mBin eqB ma mb) := de_cmp (op_eqD hu) opd_eq ha hb (nomark _)
end
end CL


set_option Elab.async false
set_option linter.all false
set_option maxRecDepth 100000
/-! The data layer, part m: a comprehension over range while an error is handled. -/
namespace CL
open PySem PySem.Spec PyProof.Rows L2 L2H
section
variable {X : Cx}
/-- the block where p, the handled error, is pinned: it is a place where a walk may end -/
theorem hot_blk {Y : Cx} {q : List (Addr × Obj)} {xe : Value → Shared → Prop} {p : Addr × Obj} (h : Hot1 Y.A p) (hp : p ∈ q) : HotC (Y.tr q xe) := ⟨p, h, hp⟩
theorem pe_lcH {elt tg iter : Expr} {scope : Scope} {own : List (Str × Nat)} {pos : Pos} {wi : TI} {g : TG} {te : TE} (hh : HotC X) (hN : X.N.Nodup) (hi : PIH X tg iter wi) (ok : BlkOk X.N X.env.scope scope own)
    (hg : ∀ (s : Shared) (H : Hp) (C : Addr) (cl : List (Str × Addr)) (fp : List Addr), PG (X.blk s H scope (compEnvC scope cl C X.env) fp) tg g)
    (he : ∀ (s : Shared) (H : Hp) (C : Addr) (cl : List (Str × Addr)) (fp : List Addr), PE (X.blk s H scope (compEnvC scope cl C X.env) fp) elt te) (hs : ∀ x, foldedSetIterable iter X.env x = pure x) :
    PE X (.ListComp elt [⟨tg, iter, [], 0⟩] scope pos) (tLc wi g tYes te (own.map (·.2))) := by
  refine ⟨fun pins s σ H Q I h => ?_⟩
  rw [eval_ListComp]
  have fr : ∀ y ∈ scope.names, y.2 = .free → ∃ c, X.env.cells.lookup y.1 = some c := fun y hy e => (ok.free y hy e).elim (fun k => I.ok.has _ (.inl k)) fun k => I.ok.has _ (.inr k)
  refine wpAny_comprehension_free (use := none) rfl hs (closure_ok fr) ok.kind (fun y hy e => by rw [ok.uniq y hy, e]) (thn (hi.run pins s σ H _ I h) fun v sA hA => thn hA fun iv sB hB => ?_)
  obtain ⟨it, fp, tn, J, HB, rfl, IB, TT, stB, fB, qB⟩ := hB
  refine wpAny_newObj_type (newEnv_comp ?_) (by show 0 ≤ sizeLine; decide)
  obtain ⟨l, hl⟩ : ∃ l, sB.heap.objs.size = l := ⟨_, rfl⟩
  have nl : HB l = none := IB.hok.fresh (Nat.le_of_eq hl)
  obtain ⟨W, ⟨m0, w0⟩, turn⟩ := qB l nl
  -- the list that grows
  obtain ⟨sC, eC⟩ : ∃ sC : Shared, ({ sB with heap := sB.heap.push { cls := .type "list", data := .seq ([] : List Value).toArray } } : Shared) = sC := ⟨_, rfl⟩
  have hC : sC.heap = sB.heap.push { cls := .type "list", data := .seq ([] : List Value).toArray } := by rw [← eC]
  have kC : ∀ b o, sB.heap.get? b = some o → sC.heap.get? b = some o := fun b o e => by rw [hC]; exact Heap.get?_push_of_some _ e
  have IC : Inv X pins σ (upd HB l (.lst [])) sC := by
    rw [← eC]
    refine IB.laid (t' := sB.toks) (fun b o e => Heap.get?_push_of_some _ e) (Nat.le_of_eq hl) ⟨Nat.zero_le _, [], 0, .nil, ?_⟩
    rw [← hl]
    exact Heap.get?_push_size _ rfl
  have small : ∀ b ∈ fp, b < sB.heap.objs.size := fun b hb => let ⟨o, e, _⟩ := TT.obj _ _ stB b hb; Heap.lt_size e
  have fC : ∀ b ∈ fp, FpOk X pins (upd HB l (.lst [])) b ∧ b < sC.heap.objs.size := fun b hb => by
    have lt := small b hb
    have ne : b ≠ l := by rw [← hl]; exact Nat.ne_of_lt lt
    exact ⟨⟨by rw [upd_ne ne]; exact (fB b hb).1, (fB b hb).2⟩, by rw [hC, Heap.size_push]; exact Nat.lt_succ_of_lt lt⟩
  have stC : tn 0 sC.heap := TT.keep _ _ _ stB fun b _ o e => kC b o e
  obtain ⟨p, hot, hp⟩ := hh
  have pinC := IC.pin p (List.mem_append_left _ hp)
  have ID := block_start IC ok hN fC
  have bg := hg sC (upd HB l (.lst [])) sC.heap.objs.size (cellsFrom (sC.heap.objs.size + 1) scope.names (cloFrom X.env.cells scope.names [])) fp
  have be := he sC (upd HB l (.lst [])) sC.heap.objs.size (cellsFrom (sC.heap.objs.size + 1) scope.names (cloFrom X.env.cells scope.names [])) fp
  rw [eC]
  show codeAny _ _ (.compStart (.ListComp elt [⟨tg, iter, [], 0⟩] scope pos) 0 (.ref it) (.ref sB.heap.objs.size) (compEnvC scope (cellsFrom (sC.heap.objs.size + 1) scope.names (cloFrom X.env.cells scope.names [])) sC.heap.objs.size X.env)) (compPost (model X.prog X.w) X.A X.xe none _ (.ref sB.heap.objs.size) sC.heap.objs.size) { sC with heap := pushCells (sC.heap.push { cls := .type "dict", data := .dict #[] }) scope.names }
  rw [hl]
  obtain ⟨cE, ecE⟩ : ∃ cE, compEnvC scope (cellsFrom (sC.heap.objs.size + 1) scope.names (cloFrom X.env.cells scope.names [])) sC.heap.objs.size X.env = cE := ⟨_, rfl⟩
  rw [ecE] at ID bg be ⊢
  have eL : cE.locals = sC.heap.objs.size := by rw [← ecE]; rfl
  obtain ⟨HC, eHC⟩ : ∃ HC, upd HB l (.lst []) = HC := ⟨_, rfl⟩
  rw [eHC] at IC ID bg be w0 fC pinC
  obtain ⟨sD, eD⟩ : ∃ sD : Shared, ({ sC with heap := pushCells (sC.heap.push { cls := .type "dict", data := .dict #[] }) scope.names } : Shared) = sD := ⟨_, rfl⟩
  rw [eD] at ID ⊢
  have kD : ∀ b o, sC.heap.get? b = some o → sD.heap.get? b = some o := fun b o e => by rw [← eD]; exact pushCells_keeps _ _ _ _ (Heap.get?_push_of_some _ e)
  have stD : tn 0 sD.heap := TT.keep _ _ _ stC fun b _ o e => kD b o e
  -- the error stays pinned in the block
  have nLp : p.1 ≠ cE.locals := by
    rw [eL]
    exact Nat.ne_of_lt (Heap.lt_size pinC.1)
  have nSp : p.1 ∉ frs X.stack := fun z => by
    rcases List.mem_cons.mp (IC.stkSub _ z) with e | e
    · exact pinC.2.2.1 e
    · exact pinC.2.2.2.1 e
  let B : Cx := X.blk sC HC scope cE fp
  have ID' : Inv B [p] (wipe σ (own.map (·.2))) HC sD := ID.pins_of fun r hr => by
    rw [List.mem_singleton] at hr
    subst hr
    exact ⟨kD _ _ pinC.1, pinC.2.1, nLp, nSp, pinC.2.2.2.2⟩
  have nfp : ∀ b ∈ fp, b ≠ p.1 := fun b hb z => (fC b hb).1.2.2.2.2.2 p (List.mem_append_left _ hp) z.symm
  have stay : ∀ {H' : Hp} {σ' : L2.St} {s' : Shared} {q : List (Addr × Obj)} {xe : Value → Shared → Prop}, Inv (B.tr q xe) [] σ' H' s' → (∀ r ∈ q, r = p) → (∀ b ∈ fp, H' b = none) → ∀ b ∈ fp, FpOk (B.tr q xe) [] H' b := fun {H' σ' s' q xe} I' hq hn b hb =>
    ⟨hn b hb, (I'.ok.exf b hb).1, I'.ok.exfs b hb, .inl hb, fun x c e => (I'.ok.exf b hb).2 x c e, fun r hr z => nfp b hb (by
      rw [List.append_nil] at hr
      rw [← hq r hr]
      exact z.symm)⟩
  have ofB : ∀ {σ' : L2.St} {H' : Hp} {s' : Shared}, Inv B [p] σ' H' s' → Inv (B.tr [p] B.xe) [] σ' H' s' := fun I' => I'.toTry B.xe
  have toB : ∀ {σ' : L2.St} {H' : Hp} {s' : Shared}, Inv (B.tr [p] B.xe) [] σ' H' s' → B.Ok → Inv B [p] σ' H' s' := fun I' k => I'.ofTry (X := B) (pins := [p]) k
  have loop : codeAny (model X.prog X.w) X.A (.compLoop (.ListComp elt [⟨tg, iter, [], 0⟩] scope pos) 0 (.ref it) (.ref l) cE) (compPost (model X.prog X.w) X.A X.xe none (EP X pins σ Q) (.ref l) sC.heap.objs.size) sD := by
    refine compLoop_any (fun n s' => ∃ i H', Inv B [p] (wipe σ (own.map (·.2))) H' s' ∧ tn i s'.heap ∧ (∀ b ∈ fp, H' b = none) ∧ W i n H') ?_ m0 ⟨0, HC, ID', stD, fun b hb => (fC b hb).1.1, w0⟩
    rintro n s5 ⟨i, H5, I5, st5, n5, w5⟩
    have hot5 : HotC (B.tr [p] B.xe) := hot_blk hot List.mem_cons_self
    rcases turn i n H5 w5 with ⟨stop, qq⟩ | ⟨go, Nx, hNx, step⟩
    · refine thnF (TT.done (B.tr [p] B.xe) rfl rfl rfl hot5 i [] s5 _ H5 (fun _ _ => False) (ofB I5) (stay (ofB I5) (fun r hr => List.mem_singleton.mp hr) n5) st5 stop) fun r s6 ⟨er, I6⟩ => ?_
      subst er
      have I6' := toB I6 I5.ok
      have I7 : Inv X pins σ H5 s6 := IC.call' (ch := fp) I6'.os I6'.base I6'.hok I6'.bare fun b hb => ⟨(fC b hb).1.2.2.2.1, (fC b hb).1.2.1, (fC b hb).1.2.2.2.2.1, (fC b hb).1.2.2.2.2.2⟩
      have nC : H5 sC.heap.objs.size = none := by
        have z : H5 cE.locals = none := I6'.free
        rw [← eL]
        exact z
      obtain ⟨mm, hn, _⟩ := I6'.loc
      have hn' : s6.heap.Ns cE.locals mm := hn
      rw [eL] at hn'
      obtain ⟨f0, f1, f2, f3, f4, f5⟩ := IC.fpOk (Nat.le_refl _) nC
      exact ⟨mm, hn', fun h'' sb => ⟨.ref l, H5, I7.turned (t' := s6.toks) (fun b o hb e => (sb.2 b hb).trans e) f0 f1 f3 f4 f5, rfl, qq⟩⟩
    · refine thnF (TT.item (B.tr [p] B.xe) rfl rfl rfl hot5 i [] s5 _ H5 (fun _ _ => False) (ofB I5) (stay (ofB I5) (fun r hr => List.mem_singleton.mp hr) n5) st5 go) fun r s6 ⟨u, er, h6⟩ => ?_
      subst er
      refine thnF h6 fun _ s7 ⟨x, H7, I7, r7, y7, st7, n7⟩ => ?_
      have J7 : Inv (B.tr [p] B.xe) (pinsAt fp s7.heap) (wipe σ (own.map (·.2))) H7 s7 := (Inv.pinned I7 (stay I7 (fun r hr => List.mem_singleton.mp hr) n7) (TT.obj _ _ st7))
      have K7 : Inv B (p :: pinsAt fp s7.heap) (wipe σ (own.map (·.2))) H7 s7 := (toB I7 I5.ok).pins_of fun r hr => J7.pin r (by simpa using hr)
      refine thnF (bg.run _ s7 _ H7 x u _ K7 r7 (step x H7 y7)) fun _ s8 ⟨σ8, H8, I8, hw8, q8⟩ => ?_
      refine thnF ((pts_nil (X := B)).run _ s8 σ8 H8 _ I8 q8) fun b s9 ⟨H9, I9, q9⟩ => ?_
      cases b with
      | false =>
        simp only [Bool.false_eq_true, if_false] at q9 ⊢
        obtain ⟨m', hm, w'⟩ := hNx H9 q9
        have pin9 : ∀ b ∈ fp, ∀ o, s7.heap.get? b = some o → s9.heap.get? b = some o ∧ H9 b = none := fun b hb o e => let z := I9.pin (b, o) (List.mem_append_right _ (List.mem_cons_of_mem _ (mem_pinsAt hb e))); ⟨z.1, z.2.1⟩
        refine ⟨m', hm, i + 1, H9, ((I9.pins_of (pins' := [p]) fun r hr => I9.pin r (by rw [List.mem_singleton] at hr; rw [hr]; exact List.mem_append_right _ List.mem_cons_self)).weak (by rw [← hw8, wipe_length]) fun j v e => ?_), TT.keep _ _ _ st7 fun b hb o e => (pin9 b hb o e).1, fun b hb => ?_, w'⟩
        · rw [← hw8] at e
          exact (wipe_some e).1
        · obtain ⟨o, e, _⟩ := TT.obj _ _ st7 b hb
          exact (pin9 b hb o e).2
      | true =>
        simp only [if_true] at q9 ⊢
        refine thnF (be.run _ s9 σ8 H9 _ I9 q9) fun zz s10 ⟨yv, H10, I10, r10, acc, hD10, hz10, nx⟩ => ?_
        refine app_ok (X := B) I10 hD10 hz10 r10 fun s11 I11 => ?_
        obtain ⟨m', hm, w'⟩ := hNx _ nx
        have pin9 : ∀ b ∈ fp, ∀ o, s7.heap.get? b = some o → s11.heap.get? b = some o ∧ upd H10 l (.lst (acc ++ [yv])) b = none := fun b hb o e => let z := I11.pin (b, o) (List.mem_append_right _ (List.mem_cons_of_mem _ (mem_pinsAt hb e))); ⟨z.1, z.2.1⟩
        refine ⟨m', hm, i + 1, _, ((I11.pins_of (pins' := [p]) fun r hr => I11.pin r (by rw [List.mem_singleton] at hr; rw [hr]; exact List.mem_append_right _ List.mem_cons_self)).weak (by rw [← hw8, wipe_length]) fun j v e => ?_), TT.keep _ _ _ st7 fun b hb o e => (pin9 b hb o e).1, fun b hb => ?_, w'⟩
        · rw [← hw8] at e
          exact (wipe_some e).1
        · obtain ⟨o, e, _⟩ := TT.obj _ _ st7 b hb
          exact (pin9 b hb o e).2
  exact codeAny_compStart_list loop (TT.self X.A 0 _ _ _ stD loop)
end
section
variable {T : Tx} {X : Cx} {E : XK} {tg a b c e elt iter : Expr} {pos p : Pos} {me m : M} {mes mi : ML} {t : Tg} {scope : Scope} {own : List (Str × Nat)}
def DNH (T : Tx) (X : Cx) (E : XK) (tg iter : Expr) (mi : ML) : Prop := PIH X tg iter (tG T E (lN T) mi)
theorem dnh_range1 (hm : X.mg "range" = none) (ha : DA T X E [a] mes) (hg : Gl X "range" := by rfl) (hs : starEach [a] X.env = [(false, eval a X.env)] := by rfl) : DNH T X E tg (.Call (.Name "range" p) [a] [] pos) (mOf rng1 mes) :=
  ⟨fun pins s σ H R I h => (pi_range1H (tg := tg) hg hm ha hs).run pins s σ H R I (by
    obtain ⟨F, z, q, h⟩ := h
    exact ⟨F, z, q, Post.bnd (L := lA T) h fun xs vs F1 H1 u1 rx h1 => by
      obtain ⟨d, e, k⟩ := Post.ofO h1
      obtain ⟨j, rfl, h1, h2, rfl⟩ := rng1_some e
      obtain ⟨v, rfl, r⟩ := RpAll.one rx
      cases r
      exact ⟨j, rfl, h1, h2, k _ F1 H1 (Up.refl u1.s) itd_range⟩⟩)⟩
theorem dl_compH (hh : HotC X) (hN : X.N.Nodup) (hi : DNH T X E tg iter mi) (ok : BlkOk X.N X.env.scope scope own)
    (hg : ∀ (s : Shared) (H : Hp) (C : Addr) (cl : List (Str × Addr)) (fp : List Addr), DG T (X.blk s H scope (compEnvC scope cl C X.env) fp) tg t)
    (he : ∀ (s : Shared) (H : Hp) (C : Addr) (cl : List (Str × Addr)) (fp : List Addr), DE T (X.blk s H scope (compEnvC scope cl C X.env) fp) E0 elt me)
    (hsl : ∀ i ∈ t.slots, i ∈ own.map (·.2)) (hs : ∀ x, foldedSetIterable iter X.env x = pure x := by intro _; rfl) :
    DL T X E (.ListComp elt [⟨tg, iter, [], 0⟩] scope pos) (mComp t (own.map (·.2)) mi me) :=
  pe_imp (pe_lcH hh hN hi ok hg he hs) (comp_read hsl)
end
end CL


set_option Elab.async false
set_option linter.all false
set_option maxRecDepth 100000
/-! The data layer, part n: defs as values, called; {}. -/
namespace CL
open PySem PySem.Spec PyProof.Rows L2
section
variable {T : Tx} {X : Cx} {E : XK} {a b c e o fe : Expr} {es : List Expr} {pos p p2 : Pos} {ma mb mc m mf : M} {mes mi mj ml : ML} {x : Str} {j k : Nat}
theorem de_dct : DE T X E (.Dict [] [] pos) (mC .dct) := pe_imp pe_dnewK fun s H Q ⟨F, z, q, h⟩ p hp => h _ (upd F p (.dK [])) _ (Up.new q.ex hp) (.dct upd_same)
/-! ### promises in one form -/
theorem post_cx {P : Program} {w : World} {K : PySem.W.Frag} {mg : Str → Option Value} {base : Heap} {f : Addr} {fd : FuncData} {ps : List Str} {sp : Sp} {CX : CXT} (F : FnOk P w K mg base CX0 k f fd ps sp) : FnOk P w K mg base CX k f fd ps sp :=
  ⟨F.len, fun A outer s H args us vs Q E hr e0 hb hv hs => codeAny_mono (F.run A outer s H args us vs Q E hr e0 hb hv hs) fun r s' hq => by
    cases r with
    | error e => exact (show False from hq).elim
    | ok fl => cases fl <;> exact hq⟩
def rvO (r : Rs Rv) : Rs D := r.bnd fun x => .ok (rvD x)
def lsO (r : Rs (List D)) : Rs D := r.bnd fun x => .ok (.lst x)
theorem post_rv {F H : Hp} {Q : VK} {r : Rs Rv} (h : Post T E (lV T) F H Q (rvO r)) : Post T E (lR T) F H Q r := by
  cases r with
  | stuck => exact h
  | exc c => exact h
  | ok x =>
    intro v F1 H1 u1 rx
    cases x with
    | val d => exact h v F1 H1 u1 rx
    | own ds =>
      obtain ⟨p, xs, rfl, h0, hf, hp, hA⟩ := rx
      exact h _ (upd F1 p (.lst xs)) H1 (u1.know hp h0 hf) (.lst (.inl upd_same) (hA.mono (Ex.new hf)))
    | obj kk fs =>
      obtain ⟨a, rfl, o⟩ := rx
      obtain ⟨F2, u2, r2⟩ := o.rp u1
      exact h _ F2 H1 u2 r2
theorem post_ls {F H : Hp} {Q : VK} {r : Rs (List D)} (h : Post T E (lV T) F H Q (lsO r)) : Post T E (lL T) F H Q r := by
  cases r with
  | stuck => exact h
  | exc c => exact h
  | ok x =>
    intro v F1 H1 u1 rx
    obtain ⟨p, xs, rfl, h0, hf, hp, hA⟩ := rx
    exact h _ (upd F1 p (.lst xs)) H1 (u1.know hp h0 hf) (.lst (.inl upd_same) (hA.mono (Ex.new hf)))
/-- a def that may be called as a value: n parameters, what it does -/
structure CbOk (P : Program) (w : World) (T : Tx) (mg : Str → Option Value) (base : Heap) (k : Nat) (f : Addr) (n : Nat) (g : List D → Rs D) : Prop where
  ex : ∃ fd ps, FnOk P w T.K mg base (L2N.CX P w) k f fd ps (spD T n g) ∧ PySem.W.keepIn T.K (.ref f) = true ∧ Binds T.K fd ps []
section
variable {P : Program} {w : World} {mg : Str → Option Value} {base : Heap} {f : Addr} {fd : FuncData} {ps : List Str} {n : Nat}
theorem cb_D {CX : CXT} {g : List D → Rs D} (F : FnOk P w T.K mg base CX0 k f fd ps (spD T n g)) (kp : PySem.W.keepIn T.K (.ref f) = true) (b : Binds T.K fd ps []) : CbOk P w T mg base k f n g := ⟨fd, ps, post_cx F, kp, b⟩
theorem cb_X {g : List D → Rs D} (F : FnOk P w T.K mg base (L2N.CX P w) k f fd ps (spD T n g)) (kp : PySem.W.keepIn T.K (.ref f) = true) (b : Binds T.K fd ps []) : CbOk P w T mg base k f n g := ⟨fd, ps, F, kp, b⟩
theorem cb_XR {g : List D → Rs Rv} (F : FnOk P w T.K mg base (L2N.CX P w) k f fd ps (spR T n g)) (kp : PySem.W.keepIn T.K (.ref f) = true) (b : Binds T.K fd ps []) : CbOk P w T mg base k f n (fun ds => rvO (g ds)) :=
  ⟨fd, ps, F.imp fun vs H Q E ⟨F, ds, h1, h2, h3, h4⟩ => ⟨F, ds, h1, h2, h3, post_rv h4⟩, kp, b⟩
theorem cb_XL {g : List D → Rs (List D)} (F : FnOk P w T.K mg base (L2N.CX P w) k f fd ps (spL T n g)) (kp : PySem.W.keepIn T.K (.ref f) = true) (b : Binds T.K fd ps []) : CbOk P w T mg base k f n (fun ds => lsO (g ds)) :=
  ⟨fd, ps, F.imp fun vs H Q E ⟨F, ds, h1, h2, h3, h4⟩ => ⟨F, ds, h1, h2, h3, post_ls h4⟩, kp, b⟩
end
/-- what the defs do that are values here -/
abbrev CT := Nat → Option (Nat × (List D → Rs D))
structure CtOk (P : Program) (w : World) (T : Tx) (mg : Str → Option Value) (base : Heap) (k : Nat) (ct : CT) : Prop where
  at_ : ∀ i n g, ct i = some (n, g) → CbOk P w T mg base k (T.fna i) n g
def callD (ct : CT) (d : D) (args : Rs (List D)) : Rs D := match d with
  | .fn i => match ct i with
    | some (n, g) => args.bnd fun ds => if ds.length = n then g ds else .stuck
    | none => .stuck
  | _ => .stuck
theorem callD_inv {ct : CT} {d : D} {args : Rs (List D)} {F H : Hp} {Q : VK} (h : Post T E (lV T) F H Q (callD ct d args)) : ∃ i n g, d = .fn i ∧ ct i = some (n, g) ∧ Post T E (lV T) F H Q (args.bnd fun ds => if ds.length = n then g ds else .stuck) := by
  unfold callD at h
  split at h
  · rename_i i
    split at h
    · rename_i n g e
      exact ⟨i, n, g, rfl, e, h⟩
    · exact h.elim
  · exact h.elim
def mCallV (ct : CT) (mf : M) (mes : ML) : M := fun z => (mf z).bnd fun d => callD ct d (mes z)
theorem de_callV {ct : CT} (C : CtOk X.prog X.w T X.mg X.base k ct) (hr : Room j X.A) (hk : k ≤ j) (hp : Passes (L2N.CX X.prog X.w) X E) (hf : DE T X E fe mf) (ha : DA T X E (e :: es) mes) (hK : X.K = T.K := by rfl)
    (he : starEach (e :: es) X.env = (false, eval e X.env) :: starEach es X.env := by rfl) (hpl : (backTo pos (starEach es X.env)).any (·.1) = false := by rfl)
    (hcall : eval (.Call fe (e :: es) [] pos) X.env = (do let f ← eval fe X.env; callWith pos f [] (backTo pos (starEach (e :: es) X.env)) []) := by rfl) : DE T X E (.Call fe (e :: es) [] pos) (mCallV ct mf mes) := by
  refine ⟨fun pins s σ H Q I h => ?_⟩
  obtain ⟨F, z, q, h⟩ := h
  rw [hcall]
  refine wpAny_bind (thn (hf.run pins s σ H (fun v H1 => ∃ i n g F1, Rp T F1 v (.fn i) ∧ ct i = some (n, g) ∧ tG T E (lA T) mes σ H1 fun vs H2 => ∃ F2 ds, En T F2 H2 ∧ RpAll T F2 vs ds ∧ ds.length = n ∧ Post T E (lV T) F2 H2 Q (g ds)) I ⟨F, z, q, ?_⟩) fun u s1 ⟨v, H1, I1, r1, i, n, g, F1, rv, hct, q1⟩ => ?_)
  · cases em : mf z with
    | stuck => unfold mCallV at h; rw [em] at h; exact h
    | exc c => unfold mCallV at h; rw [em] at h; exact h
    | ok d =>
      intro v F1 H1 u1 rx
      have h1 := Post.up h u1
      unfold mCallV at h1
      rw [em, bnd_ok] at h1
      obtain ⟨i, n, g, rfl, e1, h2⟩ := callD_inv h1
      refine ⟨i, n, g, F1, rx, e1, F1, z, q.up u1, Post.bnd (L := lA T) h2 fun ds vs F2 H2 u2 ry h3 => ?_⟩
      by_cases hn : ds.length = n
      · rw [if_pos hn] at h3
        exact ⟨F2, ds, ⟨u2.s, u2.h.tb (u1.h.tb q.tb)⟩, ry, hn, h3⟩
      · rw [if_neg hn] at h3
        exact h3.elim
  · cases rv
    cases r1
    obtain ⟨fd, ps, Fn, kp, b⟩ := (C.at_ i n g hct).ex
    refine PySem.W.callWith_K (h₀ := X.base) I.ok.mod.kin (by rw [hK]; exact kp) (thn (ha.run pos pins s1 σ _ _ I1 q1) fun us s2 ⟨vs, H2, I2, r, F2, ds, a1, a2, a3, a4⟩ => ⟨I2.kIn, ?_⟩) he hpl
    refine run_fn (dvs := []) (ds := []) (E := E) (by rw [hK]; exact Fn) (hr.mono hk) (by rw [hK]; exact b) .nil hp I2 r ?_
    rw [List.append_nil]
    exact ⟨F2, ds, a1, a2, a3, a4⟩
end
end CL
namespace CL
open PySem PySem.Spec PyProof.Rows L2 L2H
theorem hotC_suite {X : Cx} {a : Addr} {oe : Obj} {cls : Value} {d : Option Addr} {pn : List (Addr × Obj)} (hz : L2N.Zn cls d oe) (hf : ∃ vs, oe.data = .fields vs) : HotC (X.suite a ((a, oe) :: pn)) := by
  obtain ⟨vs, hv⟩ := hf
  exact ⟨(a, oe), ⟨rfl, vs, hv, hz.2.2 vs hv⟩, List.mem_cons_self⟩
def NE {α : Type} (m : List Sd → Rs α) : Prop := ∀ z c, m z ≠ .exc c
theorem ne_nil : NE aNil := fun z c h => nomatch h
theorem ne_var (i : Nat) : NE (mVar i) := fun z c h => by
  unfold mVar at h
  split at h <;> cases h
theorem ne_cons {m : M} {mes : ML} (h1 : NE m) (h2 : NE mes) : NE (aCons m mes) := fun z c h => by
  unfold aCons at h
  cases e1 : m z with
  | stuck => rw [e1] at h; cases h
  | exc k => exact h1 z k e1
  | ok d =>
    rw [e1, bnd_ok] at h
    cases e2 : mes z with
    | stuck => rw [e2] at h; cases h
    | exc k => exact h2 z k e2
    | ok ds => rw [e2] at h; cases h
end CL


set_option Elab.async false
set_option linter.all false
set_option maxRecDepth 100000
/-! The data layer, part o: cells, told and hidden. -/
namespace CL
open PySem PySem.Spec PyProof.Rows L2
/-- some cells, with their objects -/
abbrev Cl := Addr → Option Obj
/-- the cells hidden; told -/
def wo (g : Cl) (H : Hp) : Hp := fun a => match g a with
  | some _ => none
  | none => H a
def wi (g : Cl) (H : Hp) : Hp := fun a => match g a with
  | some o => some (.frz o (.own 0))
  | none => H a
def HasG (g : Cl) (H : Hp) : Prop := ∀ a o, g a = some o → H a = some (.frz o (.own 0))
def FreeG (g : Cl) (H : Hp) : Prop := ∀ a o, g a = some o → H a = none
section
variable {g : Cl} {H H' F F' : Hp} {a : Addr} {o : Obj} {h h' B : Heap} {P : Program} {w : World} {fs : List Addr}
theorem wo_in (e : g a = some o) : wo g H a = none := by unfold wo; rw [e]
theorem wo_out (e : g a = none) : wo g H a = H a := by unfold wo; rw [e]
theorem wi_in (e : g a = some o) : wi g H a = some (.frz o (.own 0)) := by unfold wi; rw [e]
theorem wi_out (e : g a = none) : wi g H a = H a := by unfold wi; rw [e]
theorem wo_some {x : HO} (e : wo g H a = some x) : g a = none ∧ H a = some x := by
  cases q : g a with
  | none => rw [wo_out q] at e; exact ⟨rfl, e⟩
  | some o => rw [wo_in q] at e; cases e
theorem HasG.not (k : HasG g H) {x : HO} (e : H a = some x) (hx : ∀ o, x ≠ .frz o (.own 0)) : g a = none := by
  cases q : g a with
  | none => rfl
  | some o => rw [k a o q] at e; cases e; exact (hx _ rfl).elim
theorem FreeG.not (k : FreeG g H) {x : HO} (e : H a = some x) : g a = none := by
  cases q : g a with
  | none => rfl
  | some o => rw [k a o q] at e; cases e
theorem has_wi : HasG g (wi g H) := fun a o e => wi_in e
theorem free_wo : FreeG g (wo g H) := fun a o e => wo_in e
theorem hok_wo (k : HasG g H) (q : HOk P w H h) : HOk P w (wo g H) h := fun a x e => by
  obtain ⟨_, e⟩ := wo_some e
  exact (q a x e).stay (fun b u _ z => z) (fun b z => by rw [wo_out (k.not z fun _ y => nomatch y)]; exact z) fun b xs z => by rw [wo_out (k.not z fun _ y => nomatch y)]; exact z
theorem hok_wi (k : FreeG g H) (hg : ∀ a o, g a = some o → h.get? a = some o) (q : HOk P w H h) : HOk P w (wi g H) h := fun a x e => by
  cases z : g a with
  | some o =>
    rw [wi_in z] at e
    cases e
    exact ⟨hg a o z, o, hg a o z⟩
  | none =>
    rw [wi_out z] at e
    exact (q a x e).stay (fun b u _ z => z) (fun b z => by rw [wi_out (k.not z)]; exact z) fun b xs z => by rw [wi_out (k.not z)]; exact z
/-- a run where the cells were hidden, told -/
theorem un_in (k : HasG g H) (hg : ∀ a o, g a = some o → h.get? a = some o ∧ a ∉ fs) (u : Un fs [] (wo g H) H' h h') : Un fs [] H (wi g H') h h' ∧ FreeG g H' ∧ ∀ a o, g a = some o → h'.get? a = some o := by
  have fr : FreeG g H' := fun a o e => u.free a o (hg a o e).1 (wo_in e) (by simp)
  have nn : ∀ {b : Addr}, H b = none → g b = none := fun {b} e => by
    cases q : g b with
    | none => rfl
    | some o => rw [k b o q] at e; cases e
  refine ⟨⟨fun b o e n => u.keep b o e (by rw [wo_out (nn n)]; exact n), fun b o e n => u.slot b o e (by rw [wo_out (nn n)]; exact n), fun b o e n x => by rw [wi_out (nn n)]; exact u.free b o e (by rw [wo_out (nn n)]; exact n) x, u.there, fun b xs e => ?_, fun b o x e => ?_, fun b ps e => ?_⟩, fr, fun a o e => u.keep a o (hg a o e).1 (wo_in e) (hg a o e).2 (by simp)⟩
  · have q := k.not e fun _ y => nomatch y
    rw [wi_out q]
    exact u.tups b xs (by rw [wo_out q]; exact e)
  · cases q : g b with
    | none =>
      rw [wi_out q]
      exact u.frzs b o x (by rw [wo_out q]; exact e)
    | some o2 =>
      rw [wi_in q]
      rw [k b o2 q] at e
      exact e
  · have q := k.not e fun _ y => nomatch y
    rw [wi_out q]
    exact u.tbls b ps (by rw [wo_out q]; exact e)
theorem ub_in (k : HasG g H) (hg : ∀ a o, g a = some o → h.get? a = some o ∧ a ∉ fs) (u : UB fs (wo g H) H' h B h') : UB fs H (wi g H') h B h' ∧ FreeG g H' ∧ ∀ a o, g a = some o → B.get? a = some o := by
  have fr : FreeG g H' := fun a o e => u.free a o (hg a o e).1 (wo_in e)
  have nn : ∀ {b : Addr}, H b = none → g b = none := fun {b} e => by
    cases q : g b with
    | none => rfl
    | some o => rw [k b o q] at e; cases e
  refine ⟨⟨fun b o e n => u.keep b o e (by rw [wo_out (nn n)]; exact n), u.slot, fun b o e n => by rw [wi_out (nn n)]; exact u.free b o e (by rw [wo_out (nn n)]; exact n), u.there, fun b xs e => ?_, fun b o x e => ?_, fun b ps e => ?_⟩, fr, fun a o e => u.keep a o (hg a o e).1 (wo_in e) (hg a o e).2⟩
  · have q := k.not e fun _ y => nomatch y
    rw [wi_out q]
    exact u.tups b xs (by rw [wo_out q]; exact e)
  · cases q : g b with
    | none =>
      rw [wi_out q]
      exact u.frzs b o x (by rw [wo_out q]; exact e)
    | some o2 =>
      rw [wi_in q]
      rw [k b o2 q] at e
      exact e
  · have q := k.not e fun _ y => nomatch y
    rw [wi_out q]
    exact u.tbls b ps (by rw [wo_out q]; exact e)
/-- a run where the cells were told, hidden -/
theorem un_out (k : FreeG g H) (hok : HOk P w H' h') (hg : ∀ a o, g a = some o → h.get? a = some o ∧ a ∉ fs) (u : Un fs [] (wi g H) H' h h') : Un fs [] H (wo g H') h h' ∧ HasG g H' := by
  have hs : HasG g H' := fun a o e => u.frzs a o _ (wi_in e)
  refine ⟨⟨fun b o e n f x => ?_, fun b o e n f x => ?_, fun b o e n x => ?_, u.there, fun b xs e => ?_, fun b o x e => ?_, fun b ps e => ?_⟩, hs⟩
  · cases q : g b with
    | none => exact u.keep b o e (by rw [wi_out q]; exact n) f x
    | some o2 =>
      rw [(hg b o2 q).1] at e
      cases e
      exact (hok b _ (hs b o q)).1
  · cases q : g b with
    | none => exact u.slot b o e (by rw [wi_out q]; exact n) f x
    | some o2 => exact absurd f (hg b o2 q).2
  · cases q : g b with
    | none => rw [wo_out q]; exact u.free b o e (by rw [wi_out q]; exact n) x
    | some o2 => exact wo_in q
  · have q := k.not e
    have z := u.tups b xs (by rw [wi_out q]; exact e)
    rw [wo_out q]
    exact z
  · have q := k.not e
    rw [wo_out q]
    exact u.frzs b o x (by rw [wi_out q]; exact e)
  · have q := k.not e
    rw [wo_out q]
    exact u.tbls b ps (by rw [wi_out q]; exact e)
theorem ub_out (k : FreeG g H) (hok : HOk P w H' B) (hg : ∀ a o, g a = some o → h.get? a = some o ∧ a ∉ fs) (u : UB fs (wi g H) H' h B h') : UB fs H (wo g H') h B h' ∧ HasG g H' := by
  have hs : HasG g H' := fun a o e => u.frzs a o _ (wi_in e)
  refine ⟨⟨fun b o e n f => ?_, u.slot, fun b o e n => ?_, u.there, fun b xs e => ?_, fun b o x e => ?_, fun b ps e => ?_⟩, hs⟩
  · cases q : g b with
    | none => exact u.keep b o e (by rw [wi_out q]; exact n) f
    | some o2 =>
      rw [(hg b o2 q).1] at e
      cases e
      exact (hok b _ (hs b o q)).1
  · cases q : g b with
    | none => rw [wo_out q]; exact u.free b o e (by rw [wi_out q]; exact n)
    | some o2 => exact wo_in q
  · have q := k.not e
    rw [wo_out q]
    exact u.tups b xs (by rw [wi_out q]; exact e)
  · have q := k.not e
    rw [wo_out q]
    exact u.frzs b o x (by rw [wi_out q]; exact e)
  · have q := k.not e
    rw [wo_out q]
    exact u.tbls b ps (by rw [wi_out q]; exact e)
end
section
variable {g : Cl} {H : Hp} {P : Program} {w : World} {K : PySem.W.Frag} {mg : Str → Option Value} {base : Heap} {A : Around} {outer : List Env} {s s' : Shared} {Q Q' : VK} {E E' : XK} {r : Result}
theorem cr_in (k : HasG g H) (hg : ∀ a o, g a = some o → s.heap.get? a = some o ∧ a ∉ frs outer) (hq : ∀ v H', FreeG g H' → Q' v H' → Q v (wi g H')) (he : ∀ c d H', FreeG g H' → E' c d H' → E c d (wi g H')) (h : CR (L2N.CX P w) outer P w (wo g H) s Q' E' r s') : CR (L2N.CX P w) outer P w H s Q E r s' := by
  cases r with
  | error e =>
    obtain ⟨a, B, H', cls, d, h1, h2, h3, h4, h5, h6, h7, h8⟩ := h
    obtain ⟨u, f, kb⟩ := ub_in k hg h4
    refine ⟨a, B, wi g H', cls, d, h1, h2, hok_wi f kb h3, u, ?_, h6, h7, he cls d H' f h8⟩
    cases q : g a with
    | none => rw [wi_out q]; exact h5
    | some o =>
      have z := kb a o q
      rw [h2.2.1] at z
      cases z
  | ok fl =>
    cases fl with
    | ret u =>
      obtain ⟨v, H', a1, a2, a3, a4, a5, a6⟩ := h
      obtain ⟨u, f, kb⟩ := un_in k hg a3
      exact ⟨v, wi g H', a1, a2, u, hok_wi f kb a4, a5, hq v H' f a6⟩
    | next => exact h
    | brk => exact h
    | cont => exact h
theorem cr_out (k : FreeG g H) (hg : ∀ a o, g a = some o → s.heap.get? a = some o ∧ a ∉ frs outer) (hq : ∀ v H', HasG g H' → Q' v H' → Q v (wo g H')) (he : ∀ c d H', HasG g H' → E' c d H' → E c d (wo g H')) (h : CR (L2N.CX P w) outer P w (wi g H) s Q' E' r s') : CR (L2N.CX P w) outer P w H s Q E r s' := by
  cases r with
  | error e =>
    obtain ⟨a, B, H', cls, d, h1, h2, h3, h4, h5, h6, h7, h8⟩ := h
    obtain ⟨u, f⟩ := ub_out k h3 hg h4
    refine ⟨a, B, wo g H', cls, d, h1, h2, hok_wo f h3, u, ?_, h6, h7, he cls d H' f h8⟩
    cases q : g a with
    | none => rw [wo_out q]; exact h5
    | some o => exact wo_in q
  | ok fl =>
    cases fl with
    | ret u =>
      obtain ⟨v, H', a1, a2, a3, a4, a5, a6⟩ := h
      obtain ⟨u, f⟩ := un_out k a4 hg a3
      exact ⟨v, wo g H', a1, a2, u, hok_wo f a4, a5, hq v H' f a6⟩
    | next => exact h
    | brk => exact h
    | cont => exact h
theorem env_in (k : HasG g H) (e : Env0 P w K mg base A outer s H) : Env0 P w K mg base A outer s (wo g H) :=
  ⟨e.frames, e.mod, fun b o q => ⟨(e.bs b o q).1, by
    cases z : g b with
    | none => rw [wo_out z]; exact (e.bs b o q).2
    | some x => exact wo_in z⟩, e.bsz, e.funs, fun b hb => by
    cases z : g b with
    | none => rw [wo_out z]; exact e.frf b hb
    | some x => exact wo_in z, hok_wo k e.hok, e.bare⟩
theorem env_out (k : FreeG g H) (hg : ∀ a o, g a = some o → s.heap.get? a = some o ∧ a ∉ frs outer) (hb : ∀ a o, g a = some o → base.get? a = none) (e : Env0 P w K mg base A outer s H) : Env0 P w K mg base A outer s (wi g H) :=
  ⟨e.frames, e.mod, fun b o q => ⟨(e.bs b o q).1, by
    cases z : g b with
    | none => rw [wi_out z]; exact (e.bs b o q).2
    | some x => rw [hb b x z] at q; cases q⟩, e.bsz, e.funs, fun b hb' => by
    cases z : g b with
    | none => rw [wi_out z]; exact e.frf b hb'
    | some x => exact absurd hb' (hg b x z).2, hok_wi k (fun a o q => (hg a o q).1) e.hok, e.bare⟩
end
end CL


set_option Elab.async false
set_option linter.all false
set_option maxRecDepth 100000
/-! The data layer, part p: lambdas called. -/
namespace CL
open PySem PySem.Spec PyProof.Rows L2 NdefX
mutual
def noLam : D → Bool
  | .lst xs => noLamAll xs
  | .tup xs => noLamAll xs
  | .ins _ xs => noLamAll xs
  | .lam _ _ => false
  | _ => true
def noLamAll : List D → Bool
  | [] => true
  | x :: xs => noLam x && noLamAll xs
end
section
variable {T : Tx} {g : Cl} {F : Hp}
theorem rd_wo (hg : ∀ a o, g a = some o → F a = none ∨ F a = some (.frz o (.own 0))) {a : Addr} {xs : List V} (h : Rd F a (.lst xs)) : Rd (wo g F) a (.lst xs) := by
  have q : g a = none := by
    cases e : g a with
    | none => rfl
    | some o =>
      rcases h with h | ⟨o2, h⟩ <;> rcases hg a o e with z | z <;> rw [h] at z <;> cases z
  unfold L2.Rd
  rw [wo_out q]
  exact h
theorem some_wo (hg : ∀ a o, g a = some o → F a = none ∨ F a = some (.frz o (.own 0))) {a : Addr} {x : HO} (hx : ∀ o, x ≠ .frz o (.own 0)) (h : F a = some x) : wo g F a = some x := by
  have q : g a = none := by
    cases e : g a with
    | none => rfl
    | some o =>
      rcases hg a o e with z | z
      · rw [h] at z; cases z
      · rw [h] at z; cases z; exact (hx _ rfl).elim
  rw [wo_out q]
  exact h
mutual
theorem Rp.wo (hg : ∀ a o, g a = some o → F a = none ∨ F a = some (.frz o (.own 0))) : ∀ {v : V} {d : D}, Rp T F v d → noLam d = true → Rp T (CL.wo g F) v d
  | _, _, .non, _ => .non
  | _, _, .bl b, _ => .bl b
  | _, _, .int i, _ => .int i
  | _, _, .str x, _ => .str x
  | _, _, .lst h a, n => by rw [noLam] at n; exact .lst (rd_wo hg h) (RpAll.wo hg a n)
  | _, _, .tup h a, n => by rw [noLam] at n; exact .tup (some_wo hg (fun _ z => nomatch z) h) (RpAll.wo hg a n)
  | _, _, .dct h, _ => .dct (some_wo hg (fun _ z => nomatch z) h)
  | _, _, .ins h k a, n => by rw [noLam] at n; exact .ins (some_wo hg (fun _ z => nomatch z) h) k (RpAll.wo hg a n)
  | _, _, .fn i, _ => .fn i
  | _, _, .scr h, _ => .scr (h.elim (fun h => .inl (rd_wo hg h)) .inr)
  | _, _, .lam _ _ _ _, n => by rw [noLam] at n; cases n
theorem RpAll.wo (hg : ∀ a o, g a = some o → F a = none ∨ F a = some (.frz o (.own 0))) : ∀ {vs : List V} {ds : List D}, RpAll T F vs ds → noLamAll ds = true → RpAll T (CL.wo g F) vs ds
  | _, _, .nil, _ => .nil
  | _, _, .cons h t, n => by
    rw [noLamAll, Bool.and_eq_true] at n
    exact .cons (Rp.wo hg h n.1) (RpAll.wo hg t n.2)
end
/-- the cells of a lambda -/
def gOf (F : Hp) (cl : List (Str × Addr)) (fr : List Str) : Cl := fun a => if fr.any (fun y => decide (cl.lookup y = some a)) = true then (match F a with
  | some (.frz o (.own 0)) => some o
  | _ => none) else none
theorem gOf_some {cl : List (Str × Addr)} {fr : List Str} {a : Addr} {o : Obj} (h : gOf F cl fr a = some o) : (∃ y ∈ fr, cl.lookup y = some a) ∧ F a = some (.frz o (.own 0)) := by
  unfold gOf at h
  split at h
  · rename_i hy
    rw [List.any_eq_true] at hy
    obtain ⟨y, h1, h2⟩ := hy
    refine ⟨⟨y, h1, of_decide_eq_true h2⟩, ?_⟩
    split at h
    · rename_i e
      cases h
      exact e
    · cases h
  · cases h
theorem CellsR.at_ {cl : List (Str × Addr)} {fr : List Str} {vs : List V} (C : CellsR F cl fr vs) {y : Str} {c : Addr} (h : cl.lookup y = some c) : ∃ oc u, gOf F cl fr c = some oc ∧ oc.data = .cell (some u) := by
  have hy := C.all y c h
  obtain ⟨j, hj⟩ := List.getElem?_of_mem hy
  have hl : j < vs.length := by rw [C.len]; exact (List.getElem?_eq_some_iff.mp hj).1
  obtain ⟨c2, oc, u, h1, h2, h3, h4⟩ := C.has j y vs[j] hj (List.getElem?_eq_getElem hl)
  rw [h] at h1
  cases h1
  refine ⟨oc, u, ?_, h3⟩
  unfold gOf
  rw [if_pos (List.any_eq_true.mpr ⟨y, hy, decide_eq_true h⟩)]
  simp only [h2]
/-- the cells' values for the lambda's body -/
theorem CellsR.cellsAt {cl : List (Str × Addr)} {fr : List Str} {vs : List V} {H : Hp} {P : Program} {w : World} {h : Heap} (C : CellsR F cl fr vs) (e : Ex F H) (hok : HOk P w H h) : CellsAt cl fr (vs.map some) h (wo (gOf F cl fr) H) := by
  refine ⟨by rw [List.length_map]; exact C.len, fun y c hl => ?_, C.inj, fun i y hi => ?_⟩
  · obtain ⟨oc, u, h1, h2⟩ := C.at_ hl
    exact ⟨wo_in h1, some u, oc, (hok c _ (e c _ (gOf_some h1).2)).1, h2⟩
  · have hlt : i < vs.length := by rw [C.len]; exact (List.getElem?_eq_some_iff.mp hi).1
    obtain ⟨c, oc, u, h1, h2, h3, h4⟩ := C.has i y vs[i] hi (List.getElem?_eq_getElem hlt)
    refine ⟨c, h1, fun v hv => ?_⟩
    rw [List.getElem?_map, List.getElem?_eq_getElem hlt] at hv
    cases hv
    exact ⟨u, h4, oc, (hok c _ (e c _ h2)).1, h3⟩
end
/-! ### the run of a lambda -/
section
variable {P : Program} {w : World} {K : PySem.W.Frag} {mg : Str → Option Value} {base : Heap} {CX : CXT} {k : Nat} {N ps fr : List Str} {q : Str} {params : Arguments} {body : Expr} {scope : Scope} {cl : List (Str × Addr)} {c f : Addr} {A : Around} {outer : List Env} {s : Shared} {H : Hp} {vs : List V} {us : List Value} {ws : List (Option V)} {Q : VK} {E : XK} {t : TE}
abbrev lamF (q : Str) (params : Arguments) (scope : Scope) (cl : List (Str × Addr)) (c : Addr) : NF := ⟨"<lambda>", q, params, [], scope, cl, c⟩
theorem lam_run (S : NScope N ps fr scope) (hb : ∀ (pm ctv : Value) (us : List Value), us.length = ps.length → bindArgs (PySem.W.kla_fn "<lambda>" q params body scope cl pm (.ref c) ctv) ⟨us, []⟩ = pure (ps.zip us))
    (hr : Room (k + 1) A) (e0 : Env0 P w K mg base A outer s H) (hf : ∃ pm ctv, s.heap.get? f = some (PySem.W.kla_obj "<lambda>" q params body scope cl pm c ctv)) (hc : s.heap.CodeRec (.ref c) q) (C : CellsAt cl fr ws s.heap H) (hl : vs.length = ps.length) (r : Vals vs us)
    (hbody : Room k (A.deeper (envF (lamF q params scope cl c) f s.heap.objs.size)) → PE (ncx CX P w K mg base N (lamF q params scope cl c) f A outer s H E) body t) (h : t (startF N vs ws) H Q) :
    codeAny (model P w) A (.call (.ref f) ⟨us, []⟩) (CR CX outer P w H s Q E) s := by
  obtain ⟨pm, ctv, ho⟩ := hf
  have lim : s.heap.NoLimit := e0.mod.nolimit.keeps fun b o e => (e0.bs b o e).1
  refine PySem.W.kla_callFunE hr.depth ho rfl S.co S.gen rfl hc ?_
  rw [hb pm ctv us (by rw [← r.length]; exact hl)]
  refine wpAny_pure (wpAny_newFunctionEnv S.nocell (fun ⟨n, _⟩ hy => S.par n (List.of_mem_zip hy).1) (fun h₁ hns hsb => ⟨lim.fresh _ hsb, ?_⟩) S.kind)
  show codeAny _ _ (.expr body (envF (lamF q params scope cl c) f s.heap.objs.size)) _ _
  have kp : ∀ b o, s.heap.get? b = some o → h₁.get? b = some o := fun b o e => hsb.extBut b o (Nat.ne_of_lt (Heap.lt_size e)) (Heap.get?_push_of_some _ e)
  have I : Inv (ncx CX P w K mg base N (lamF q params scope cl c) f A outer s H E) [] (startF N vs ws) H { s with heap := h₁, toks := s.toks + (ps.zip us).length } := inv_startN (F := lamF q params scope cl c) S hr.hd e0 hl r C hns kp
  refine PySem.W.kla_codeExpr (wpAny_mono ((hbody (hr.deeper _)).run [] _ _ H Q I h) (fun v s' hq => ?_) fun e s' hq => hq)
  obtain ⟨w', H', J, rv, q⟩ := hq
  exact ⟨w', H', J.os, J.bare, J.base, J.hok, rv, q⟩
end
/-! ### what a lambda does -/
/-- args, then what is captured -/
def lamG (n : Nat) (fr : Nat) (m : M) (args caps : List D) : Rs D := if args.length = n ∧ caps.length = fr then m ((args ++ caps).map .sh) else .stuck
structure LmOk (P : Program) (w : World) (T : Tx) (mg : Str → Option Value) (base : Heap) (k i : Nat) (n : Nat) (m : M) : Prop where
  ex : ∃ ps : List Str, ps.length = n ∧ NScope (ps ++ T.lf i) ps (T.lf i) (T.ls i) ∧
    (∀ (cl : List (Str × Addr)) (pm cv ctv : Value) (us : List Value), us.length = ps.length → bindArgs (PySem.W.kla_fn "<lambda>" (T.lq i) (T.lp i) (T.lb i) (T.ls i) cl pm cv ctv) ⟨us, []⟩ = pure (ps.zip us)) ∧
    ∀ (cl : List (Str × Addr)) (c f : Addr) (A : Around) (outer : List Env) (s : Shared) (H : Hp) (E : XK), Room k (A.deeper (envF (lamF (T.lq i) (T.lp i) (T.ls i) cl c) f s.heap.objs.size)) →
      DE T (ncx (L2N.CX P w) P w T.K mg base (ps ++ T.lf i) (lamF (T.lq i) (T.lp i) (T.ls i) cl c) f A outer s H E) E (T.lb i) m
theorem r_lam {T : Tx} {F H : Hp} {vs ws : List V} {ds es : List D} {N : List Str} (e : Ex F H) (tb : LamX.Tabs T.tabs H) (h : RpAll T F vs ds) (k : RpAll T F ws es) (hN : N.length = vs.length + ws.length) : R T F H (startF N vs (ws.map some)) ((ds ++ es).map .sh) := by
  have hl := h.append k
  have hs : startF N vs (ws.map some) = (vs ++ ws).map some := by
    unfold startF
    rw [List.length_map, show N.length - vs.length - ws.length = 0 by omega]
    simp
  rw [hs]
  refine ⟨e, fun i x q hn => ?_, fun i j x y v w p h1 h2 h3 h4 o1 o2 => ?_, by rw [List.length_map, List.length_map, hl.length], tb⟩
  · rw [List.getElem?_map] at q
    cases z : (ds ++ es)[i]? with
    | none => rw [z] at q; cases q
    | some d =>
      rw [z] at q
      cases q
      obtain ⟨v, a, b⟩ := hl.get z
      exact ⟨v, by rw [List.getElem?_map, a]; rfl, b⟩
  · rw [List.getElem?_map] at h1
    cases z : (ds ++ es)[i]? with
    | none => rw [z] at h1; cases h1
    | some d => rw [z] at h1; cases h1; exact o1.elim
/-- the heaps grow within, the cells hidden: they grow without -/
theorem tabs_wo {g : Cl} {l : List (Addr × Str)} {H : Hp} (k : HasG g H) (t : LamX.Tabs l H) : LamX.Tabs l (wo g H) := fun p hp => by
  obtain ⟨ps, h1, h2, h3⟩ := t p hp
  refine ⟨ps, by rw [wo_out (k.not h1 fun _ z => nomatch z)]; exact h1, h2, fun pos cv hc => ?_⟩
  obtain ⟨c, e1, e2⟩ := h3 pos cv hc
  exact ⟨c, e1, by rw [wo_out (k.not e2 fun _ z => nomatch z)]; exact e2⟩
theorem tabs_wi {g : Cl} {l : List (Addr × Str)} {H : Hp} (k : FreeG g H) (t : LamX.Tabs l H) : LamX.Tabs l (wi g H) := t.ext fun a o e => by rw [wi_out (k.not e)]; exact e
theorem up_in {T : Tx} {g : Cl} {F H F' H' : Hp} (kF : HasG g F) (kH : HasG g H) (f : FreeG g H') (u : Up T (wo g F) (wo g H) F' H') : Up T F H (wi g F') (wi g H') ∧ Ex F' (wi g F') := by
  have fF : FreeG g F' := fun a o e => u.s.back (f a o e)
  have ex : ∀ {A B : Hp}, HasG g A → Ex (wo g A) B → Ex A (wi g B) := fun {A B} kA e a x h => by
    cases q : g a with
    | none =>
      rw [wi_out q]
      exact e a x (by rw [wo_out q]; exact h)
    | some o =>
      rw [wi_in q]
      rw [kA a o q] at h
      cases h
      exact rfl
  refine ⟨⟨ex kF u.f, ⟨ex kH u.h.ex, fun t => tabs_wi f (u.h.tb (tabs_wo kH t))⟩, fun a x h => ?_, fun a x h1 h2 => ?_⟩, fun a x h => ?_⟩
  · cases q : g a with
    | none => rw [wi_out q] at h ⊢; exact u.s a x h
    | some o => rw [wi_in q] at h ⊢; exact keeps_refl h
  · cases q : g a with
    | none =>
      rw [wi_out q] at h2
      have := u.n a x (by rw [wo_out q]; exact h1) h2
      rw [wo_out q] at this
      exact this
    | some o => rw [kF a o q] at h1; cases h1
  · rw [wi_out (fF.not h)]
    exact keeps_refl h
theorem lm_call {P : Program} {w : World} {T : Tx} {mg : Str → Option Value} {base : Heap} {k i n : Nat} {m : M} (L : LmOk P w T mg base k i n m) {A : Around} {outer : List Env} {s : Shared} {F H : Hp} {f : Addr} {vs : List V} {us : List Value} {args caps : List D} {Q : VK} {E : XK}
    (hr : Room (k + 1) A) (e0 : Env0 P w T.K mg base A outer s H) (en : En T F H) (hf : Rp T F (.ref f) (.lam i caps)) (hv : RpAll T F vs args) (r : Vals vs us) (na : noLamAll args = true) (nc : noLamAll caps = true)
    (h : Post T E (lV T) F H Q (lamG n (T.lf i).length m args caps)) : codeAny (model P w) A (.call (.ref f) ⟨us, []⟩) (CR (L2N.CX P w) outer P w H s Q E) s := by
  obtain ⟨ps, hps, S, hb, body⟩ := L.ex
  have e := en.ex
  unfold lamG at h
  by_cases hn : args.length = n ∧ caps.length = (T.lf i).length
  · rw [if_pos hn] at h
    cases hf with
    | lam hf hc C hA =>
      rename_i c cl cv
      let g := gOf F cl (T.lf i)
      have kF : HasG g F := fun a o q => (gOf_some q).2
      have kH : HasG g H := fun a o q => e a _ (kF a o q)
      have hg : ∀ a o, g a = some o → s.heap.get? a = some o ∧ a ∉ frs outer := fun a o q => ⟨(e0.hok a _ (kH a o q)).1, fun z => by
        have := e0.frf a z
        rw [kH a o q] at this
        cases this⟩
      have hg' : ∀ a o, g a = some o → F a = none ∨ F a = some (.frz o (.own 0)) := fun a o q => .inr (kF a o q)
      have lN : (ps ++ T.lf i).length = vs.length + cv.length := by
        rw [List.length_append, hv.length, hA.length, hps, hn.1, hn.2]
      have eW : Ex (wo g F) (wo g H) := fun a x q => by
        obtain ⟨q1, q2⟩ := wo_some q
        rw [wo_out q1]
        exact e a x q2
      refine codeAny_mono (lam_run (P := P) (w := w) (K := T.K) (mg := mg) (base := base) (CX := L2N.CX P w) (k := k) (N := ps ++ T.lf i) (H := wo g H) (ws := cv.map some) (vs := vs) (E := fun cl d H' => FreeG g H' → E cl d (wi g H')) (Q := fun v H' => FreeG g H' → Q v (wi g H')) S (fun pm ctv us hl => hb cl pm (.ref c) ctv us hl) hr (env_in kH e0) ?_ ?_ (C.cellsAt e e0.hok) (by rw [hv.length, hps, hn.1]) r (fun hr' => body cl c f A outer s (wo g H) _ hr') ⟨wo g F, (args ++ caps).map .sh, r_lam eW (tabs_wo kH en.tb) (hv.wo hg' na) (hA.wo hg' nc) lN, ?_⟩) fun r' s' hq => cr_in (Q' := fun v H' => FreeG g H' → Q v (wi g H')) (E' := fun cl d H' => FreeG g H' → E cl d (wi g H')) kH hg (fun v H' f q => q f) (fun cl d H' f q => q f) hq
      · obtain ⟨pm, ctv, ho⟩ := (e0.hok f _ (e f _ hf)).1
        exact ⟨pm, ctv, ho⟩
      · obtain ⟨oc, vs', tq, h1, h2, h3⟩ := (e0.hok c _ (e c _ hc)).1
        exact ⟨c, oc, vs', tq, rfl, h1, h2, h3⟩
      · cases em : m ((args ++ caps).map .sh) with
        | stuck => rw [em] at h; exact h
        | exc x =>
          rw [em] at h
          intro H' eH fr
          refine h (wi g H') ⟨fun a o q => ?_, fun t => tabs_wi fr (eH.tb (tabs_wo kH t))⟩
          cases z : g a with
          | none => rw [wi_out z]; exact eH.ex a o (by rw [wo_out z]; exact q)
          | some ob => rw [wi_in z]; rw [kH a ob z] at q; cases q; exact rfl
        | ok d =>
          rw [em] at h
          intro v F' H' u rv f
          obtain ⟨u1, e1⟩ := up_in kF kH f u
          exact h v _ _ u1 (rv.mono e1)
  · rw [if_neg hn] at h
    exact h.elim
end CL


set_option Elab.async false
set_option linter.all false
set_option maxRecDepth 100000
/-! The data layer, part q: whatever can be called, called. -/
namespace CL
open PySem PySem.Spec PyProof.Rows L2 NdefX
/-- the lambdas' tables: parameters, captured names, the body's mirror -/
abbrev LT := Nat → Option (Nat × Nat × M)
structure LtOk (P : Program) (w : World) (T : Tx) (mg : Str → Option Value) (base : Heap) (k : Nat) (lt : LT) : Prop where
  at_ : ∀ i n r m, lt i = some (n, r, m) → LmOk P w T mg base k i n m ∧ r = (T.lf i).length
def callC (ct : CT) (lt : LT) (d : D) (args : Rs (List D)) : Rs D := match d with
  | .fn i => match ct i with
    | some (n, g) => args.bnd fun ds => if ds.length = n then g ds else .stuck
    | none => .stuck
  | .lam i caps => match lt i with
    | some (n, r, m) => if noLamAll caps = true then args.bnd fun ds => if noLamAll ds = true then lamG n r m ds caps else .stuck else .stuck
    | none => .stuck
  | _ => .stuck
/-- the wish about exceptions may go with the slots -/
def tGE {β α : Type} (T : Tx) (Es : L2.St → XK) (L : Rl β α) (m : List Sd → Rs α) : L2.St → Hp → (β → Hp → Prop) → Prop := fun s H Q => ∃ F z, R T F H s z ∧ Post T (Es s) L F H Q (m z)
def mCallC (ct : CT) (lt : LT) (i : Nat) (mes : ML) : M := fun z => (mVar i z).bnd fun d => callC ct lt d (mes z)
section
variable {T : Tx} {X : Cx} {ct : CT} {lt : LT} {i j k : Nat} {Es : L2.St → XK} {e : Expr} {es : List Expr} {mes : ML} {x : Str} {p pos : Pos}
theorem callC_inv {E : XK} {d : D} {args : Rs (List D)} {F H : Hp} {Q : VK} (h : Post T E (lV T) F H Q (callC ct lt d args)) :
    (∃ i n g, d = .fn i ∧ ct i = some (n, g) ∧ Post T E (lV T) F H Q (args.bnd fun ds => if ds.length = n then g ds else .stuck)) ∨
    ∃ i caps n r m, d = .lam i caps ∧ lt i = some (n, r, m) ∧ noLamAll caps = true ∧ Post T E (lV T) F H Q (args.bnd fun ds => if noLamAll ds = true then lamG n r m ds caps else .stuck) := by
  unfold callC at h
  split at h
  · rename_i i
    split at h
    · rename_i n g e
      exact .inl ⟨i, n, g, rfl, e, h⟩
    · exact h.elim
  · rename_i i caps
    split at h
    · rename_i n r m e
      split at h
      · rename_i hn
        exact .inr ⟨i, caps, n, r, m, rfl, e, hn, h⟩
      · exact h.elim
    · exact h.elim
  · exact h.elim
theorem mVar_inv {E : XK} {F H : Hp} {Q : VK} {z : List Sd} {g : D → Rs D} (h : Post T E (lV T) F H Q ((mVar i z).bnd g)) : ∃ d, z[i]? = some (.sh d) ∧ Post T E (lV T) F H Q (g d) := by
  unfold mVar at h
  split at h
  · rename_i d e
    exact ⟨d, e, h⟩
  · exact h.elim
/-- a lambda, in the state of its call -/
theorem lam_there {P : Program} {w : World} {H : Hp} {h : Heap} {f c : Addr} {i : Nat} {cl : List (Str × Addr)} (hok : HOk P w H h) (e : H f = some (LamO T i f c cl)) : PySem.W.FnAt f h := by
  obtain ⟨pm, ctv, ho⟩ := (hok f _ e).1
  exact ⟨_, _, _, _, ho⟩
theorem run_lam {pins : List (Addr × Obj)} {σ : L2.St} {H F : Hp} {s : Shared} {Q : VK} {f : Addr} {us : List Value} {vs : List V} {caps ds : List D} {n : Nat} {m : M} (L : LmOk X.prog X.w T X.mg X.base k i n m) (hr : Room j X.A) (hk : k + 1 ≤ j) (hx : PassesAt (L2N.CX X.prog X.w) X σ (Es σ)) (hK : X.K = T.K)
    (I : Inv X pins σ H s) (en : En T F H) (hf : Rp T F (.ref f) (.lam i caps)) (hv : RpAll T F vs ds) (r : Vals vs us) (na : noLamAll ds = true) (nc : noLamAll caps = true) (h : Post T (Es σ) (lV T) F H Q (lamG n (T.lf i).length m ds caps)) :
    wpAny (model X.prog X.w) X.A (call (.ref f) us) (EP X pins σ Q) X.xe s := by
  have e0 := I.env0
  rw [hK] at e0
  refine wpAny_call (codeAny_mono (lm_call L (hr.mono hk) e0 en hf hv r na nc h) fun r s' hq => ?_)
  cases r with
  | error e => exact hx pins H s e s' I hq
  | ok fl => cases fl <;> first | exact I.after hq | exact False.elim hq
theorem pe_callC (hx : ∀ σ, PassesAt (L2N.CX X.prog X.w) X σ (Es σ)) (C : CtOk X.prog X.w T X.mg X.base k ct) (L : LtOk X.prog X.w T X.mg X.base k lt) (hr : Room j X.A) (hk : k + 1 ≤ j) (ha : PA X (e :: es) (tGE T Es (lA T) mes)) (hK : X.K = T.K := by rfl)
    (hN : X.N[i]? = some x := by rfl) (hv : Vis X.env.scope x := by first | exact Or.inl rfl | exact Or.inr (Or.inl rfl) | exact Or.inr (Or.inr rfl)) (hd : (x == ("__debug__" : Str)) = false := by decide) (hcd : (x == ("__classdict__" : Str)) = false := by decide)
    (he : starEach (e :: es) X.env = (false, eval e X.env) :: starEach es X.env := by rfl) (hpl : (backTo pos (starEach es X.env)).any (·.1) = false := by rfl) : PE X (.Call (.Name x p) (e :: es) [] pos) (tGE T Es (lV T) (mCallC ct lt i mes)) := by
  refine ⟨fun pins s σ H Q I h => ?_⟩
  obtain ⟨F, z, q, h⟩ := h
  obtain ⟨d, hz, h⟩ := mVar_inv h
  obtain ⟨v, h1, h2⟩ := q.sh i d hz
  refine wpAny_Call_Name_kw (thn ((pe_var (pos := p) hN hv hd hcd).run pins s σ H (fun v' H1 => v' = v ∧ H1 = H) I ⟨v, h1, rfl, rfl⟩) fun u s1 ⟨v', H1, I1, r1, q1⟩ => ?_)
  obtain ⟨rfl, rfl⟩ := q1
  rcases callC_inv h with ⟨i', n, g, rfl, e1, h3⟩ | ⟨i', caps, n, r, m, rfl, e1, nc, h3⟩
  · cases h2
    cases r1
    obtain ⟨fd, ps, Fn, kp, b⟩ := (C.at_ i' n g e1).ex
    refine PySem.W.callWith_K (h₀ := X.base) I.ok.mod.kin (by rw [hK]; exact kp) (thn (ha.run pos pins s1 σ _ (fun vs H2 => ∃ F2 ds, En T F2 H2 ∧ RpAll T F2 vs ds ∧ ds.length = n ∧ Post T (Es σ) (lV T) F2 H2 Q (g ds)) I1 ⟨F, z, q, Post.bnd (L := lA T) h3 fun ds vs F2 H2 u2 ry h4 => ?_⟩) fun us s2 ⟨vs, H2, I2, rv, F2, ds, a1, a2, a3, a4⟩ => ⟨I2.kIn, ?_⟩) he hpl
    · by_cases hn : ds.length = n
      · rw [if_pos hn] at h4
        exact ⟨F2, ds, ⟨u2.s, u2.h.tb q.tb⟩, ry, hn, h4⟩
      · rw [if_neg hn] at h4
        exact h4.elim
    · exact run_fnS (E := Es) (sp := spD T n g) (by rw [hK]; exact Fn) (hr.mono (Nat.le_of_succ_le hk)) (by rw [hK]; exact b) (hx σ) I2 rv ⟨F2, ds, a1, a2, a3, a4⟩
  · obtain ⟨Lm, hrl⟩ := L.at_ i' n r m e1
    have h2' := h2
    cases h2 with
    | lam hf hc hC hA =>
      cases r1
      refine PySem.W.callWith_F (first := []) (lam_there I1.hok (q.ex _ _ hf)) (thn (ha.run pos pins s1 σ _ (fun vs H2 => ∃ F2 ds, En T F2 H2 ∧ Ex F F2 ∧ RpAll T F2 vs ds ∧ noLamAll ds = true ∧ Post T (Es σ) (lV T) F2 H2 Q (lamG n r m ds caps)) I1 ⟨F, z, q, Post.bnd (L := lA T) h3 fun ds vs F2 H2 u2 ry h4 => ?_⟩) fun us s2 ⟨vs, H2, I2, rv, F2, ds, a1, a2, a3, a4, a5⟩ => ⟨lam_there I2.hok (a1.ex _ _ (a2 _ _ hf)), ?_⟩) he hpl
      · by_cases hn : noLamAll ds = true
        · rw [if_pos hn] at h4
          exact ⟨F2, ds, ⟨u2.s, u2.h.tb q.tb⟩, u2.f, ry, hn, h4⟩
        · rw [if_neg hn] at h4
          exact h4.elim
      · rw [hrl] at a5
        exact run_lam (Es := Es) Lm hr hk (hx σ) hK I2 a1 (h2'.mono a2) a3 rv a4 nc a5
theorem pe_callC0 (hx : ∀ σ, PassesAt (L2N.CX X.prog X.w) X σ (Es σ)) (L : LtOk X.prog X.w T X.mg X.base k lt) (hr : Room j X.A) (hk : k + 1 ≤ j) (hK : X.K = T.K := by rfl)
    (hN : X.N[i]? = some x := by rfl) (hv : Vis X.env.scope x := by first | exact Or.inl rfl | exact Or.inr (Or.inl rfl) | exact Or.inr (Or.inr rfl)) (hd : (x == ("__debug__" : Str)) = false := by decide) (hcd : (x == ("__classdict__" : Str)) = false := by decide) :
    PE X (.Call (.Name x p) [] [] pos) (tGE T Es (lV T) (mCallC (fun _ => none) lt i aNil)) := by
  refine ⟨fun pins s σ H Q I h => ?_⟩
  obtain ⟨F, z, q, h⟩ := h
  obtain ⟨d, hz, h⟩ := mVar_inv h
  obtain ⟨v, h1, h2⟩ := q.sh i d hz
  refine wpAny_Call_Name_kw (thn ((pe_var (pos := p) hN hv hd hcd).run pins s σ H (fun v' H1 => v' = v ∧ H1 = H) I ⟨v, h1, rfl, rfl⟩) fun u s1 ⟨v', H1, I1, r1, q1⟩ => ?_)
  obtain ⟨rfl, rfl⟩ := q1
  rcases callC_inv h with ⟨i', n, g, rfl, e1, h3⟩ | ⟨i', caps, n, r, m, rfl, e1, nc, h3⟩
  · cases e1
  · obtain ⟨Lm, hrl⟩ := L.at_ i' n r m e1
    have h2' := h2
    cases h2 with
    | lam hf hc hC hA =>
      cases r1
      refine PySem.W.callWith_F0 (first := []) (lam_there I1.hok (q.ex _ _ hf)) ?_
      have h4 : Post T (Es σ) (lV T) F H1 Q (lamG n r m [] caps) := by
        have h5 : Post T (Es σ) (lV T) F H1 Q (if noLamAll [] = true then lamG n r m [] caps else .stuck) := h3
        rw [if_pos (by rw [noLamAll])] at h5
        exact h5
      rw [hrl] at h4
      exact run_lam (Es := Es) Lm hr hk (hx σ) hK I1 q.en h2' .nil .nil (by rw [noLamAll]) nc h4
/-- in a try -/
theorem des_callC {W : WX} (tk : L2N.Takes X W) (C : CtOk X.prog X.w T X.mg X.base k ct) (L : LtOk X.prog X.w T X.mg X.base k lt) (hr : Room j X.A) (hk : k + 1 ≤ j) (ha : ∀ Es : L2.St → XK, PA X (e :: es) (tGE T Es (lA T) mes)) (hK : X.K = T.K := by rfl)
    (hN : X.N[i]? = some x := by rfl) (hv : Vis X.env.scope x := by first | exact Or.inl rfl | exact Or.inr (Or.inl rfl) | exact Or.inr (Or.inr rfl)) (hd : (x == ("__debug__" : Str)) = false := by decide) (hcd : (x == ("__classdict__" : Str)) = false := by decide)
    (he : starEach (e :: es) X.env = (false, eval e X.env) :: starEach es X.env := by rfl) (hpl : (backTo pos (starEach es X.env)).any (·.1) = false := by rfl) : DEs T X W (.Call (.Name x p) (e :: es) [] pos) (mCallC ct lt i mes) :=
  pe_callC (Es := WE W) (fun σ => L2N.passAt tk σ) C L hr hk (ha _) hK hN hv hd hcd he hpl
theorem des_callC0 {W : WX} (tk : L2N.Takes X W) (L : LtOk X.prog X.w T X.mg X.base k lt) (hr : Room j X.A) (hk : k + 1 ≤ j) (hK : X.K = T.K := by rfl)
    (hN : X.N[i]? = some x := by rfl) (hv : Vis X.env.scope x := by first | exact Or.inl rfl | exact Or.inr (Or.inl rfl) | exact Or.inr (Or.inr rfl)) (hd : (x == ("__debug__" : Str)) = false := by decide) (hcd : (x == ("__classdict__" : Str)) = false := by decide) :
    DEs T X W (.Call (.Name x p) [] [] pos) (mCallC (fun _ => none) lt i aNil) :=
  pe_callC0 (Es := WE W) (fun σ => L2N.passAt tk σ) L hr hk hK hN hv hd hcd
/-- arguments that raise nothing, for any wish -/
theorem da_any (ne : NE mes) (ha : DA T X E0 es mes) (Es : L2.St → XK) : PA X es (tGE T Es (lA T) mes) := pa_imp ha fun s H Q ⟨F, z, q, h⟩ => ⟨F, z, q, by
  cases em : mes z with
  | stuck => rw [em] at h; exact h
  | exc c => exact (ne z c em).elim
  | ok ds => rw [em] at h; exact h⟩
end
end CL


set_option Elab.async false
set_option linter.all false
set_option maxRecDepth 100000
/-! The data layer, part r: lambdas made. -/
namespace CL
open PySem PySem.Spec PyProof.Rows L2 NdefX LamX
/-- the making def's code object at c and its table at P -/
structure MkL (T : Tx) (X : Cx) (c P : Addr) : Prop where
  tb : TabB X.base X.mg c P
  code : X.env.code = .ref c
  mem : (P, X.env.qual ++ "<lambda>") ∈ T.tabs
  one : ∀ p ∈ T.tabs, p.1 = P → p.2 = X.env.qual ++ "<lambda>"
/-- the lambda i stands in the text -/
structure IsL (T : Tx) (X : Cx) (i : Nat) (params : Arguments) (body : Expr) (scope : Scope) : Prop where
  q : T.lq i = X.env.qual ++ "<lambda>"
  p : T.lp i = params
  b : T.lb i = body
  s : T.ls i = scope
  d : defaultsOf params X.env = ([], [])
  f : ∀ y ∈ scope.names, y.2 = .free → X.env.scope.names.lookup y.1 = some .cell ∨ X.env.scope.names.lookup y.1 = some .free
section
variable {T : Tx} {X : Cx} {i : Nat} {params : Arguments} {body : Expr} {scope : Scope} {c P : Addr} {pos : Pos}
theorem IsL.has (L : IsL T X i params body scope) (ok : X.Ok) : ∀ y ∈ scope.names, y.2 = .free → ∃ c, X.env.cells.lookup y.1 = some c := fun y hy e => (L.f y hy e).elim (fun k => ok.has _ (.inl k)) fun k => ok.has _ (.inr k)
/-- the reading: a new function; its code object is new, or one of the table's -/
def tMade (T : Tx) (i : Nat) (cl : List (Str × Addr)) : TE := fun _ H Q => Tabs T.tabs H ∧ ∀ (f c' : Addr) (H1 : Hp), Gr T H H1 → H f = none → H1 f = some (LamO T i f c' cl) → H1 c' = some (CodeO c' (T.lq i)) → Q (.ref f) H1
theorem pe_lam (M : MkL T X c P) (L : IsL T X i params body scope) : PE X (.Lambda params body scope pos) (tMade T i (cloFrom X.env.cells scope.names [])) := by
  refine ⟨fun pins s σ H Q I h => ?_⟩
  obtain ⟨tb, h⟩ := h
  obtain ⟨ps, hP, ht, ha⟩ := tb _ M.mem
  have fr := L.has I.ok
  have hP' : s.heap.get? P = some { cls := .none, data := .fields ps } := I.hok P _ hP
  have bP := M.tb.bm.keeps I.bk
  refine PySem.W.kla_eval L.d ?_
  -- the function is laid
  have lay : ∀ (H1 : Hp) (h' : Heap) (tk : Nat) (c' : Addr) (pm ctv : Value), Inv X pins σ H1 { s with heap := h', toks := tk } → s.heap.objs.size ≤ h'.objs.size → Gr T H H1 → H1 c' = some (CodeO c' (T.lq i)) →
      EP X pins σ Q (.ref h'.objs.size) { s with heap := h'.push (PySem.W.kla_obj "<lambda>" (X.env.qual ++ "<lambda>") params body scope (cloFrom X.env.cells scope.names []) pm c' ctv), toks := tk } := fun H1 h' tk c' pm ctv I1 hsz gr hc => by
    have nf : H1 h'.objs.size = none := I1.hok.fresh (Nat.le_refl _)
    have e : (h'.push (PySem.W.kla_obj "<lambda>" (X.env.qual ++ "<lambda>") params body scope (cloFrom X.env.cells scope.names []) pm c' ctv)).get? h'.objs.size = some (PySem.W.kla_obj "<lambda>" (T.lq i) (T.lp i) (T.lb i) (T.ls i) (cloFrom X.env.cells scope.names []) pm c' ctv) := by
      rw [L.q, L.p, L.b, L.s]
      exact Heap.get?_push_size _ rfl
    have I2 : Inv X pins σ (upd H1 h'.objs.size (LamO T i h'.objs.size c' (cloFrom X.env.cells scope.names []))) { s with heap := h'.push (PySem.W.kla_obj "<lambda>" (X.env.qual ++ "<lambda>") params body scope (cloFrom X.env.cells scope.names []) pm c' ctv), toks := tk } :=
      I1.laid (a := h'.objs.size) (t' := tk) (fun b u z => Heap.get?_push_of_some _ z) (Nat.le_refl _) ⟨⟨pm, ctv, e⟩, ⟨_, e⟩, fun h1 h2 ⟨p, t, z⟩ st => ⟨p, t, st _ z⟩⟩
    refine ⟨.ref h'.objs.size, _, I2, rfl, h h'.objs.size c' _ (gr.trans (Gr.new nf)) (I.hok.fresh hsz) upd_same ?_⟩
    rw [upd_ne (ne_of_none hc nf)]
    exact hc
  cases hc : codeAmong pos ps.toList with
  | none =>
    refine PySem.W.kla_makeFunction (mg := X.mg) (c := c) (P := P) (ps := ps) (closure_ok fr) I.ok.glob (I.mod.glob.keeps I.bk) M.code (M.tb.code.keeps I.bk) hP' ht hc M.tb.gP bP fun c' ctv h' tk hx hge hlt hrec htb => ?_
    obtain ⟨c2, oc, vs, t, e2, hoc, hd, hv⟩ := hrec
    cases e2
    have nC : H c' = none := I.hok.fresh hge
    have I1 := inv_table (t' := tk) (more := #[rawInt pos.line, rawInt pos.col, .ref c']) (h' := h') I hP (fun b o hb e => hx b o hb e) htb hge ⟨oc, vs, t, hoc, hd, hv⟩
    have eL : (ps ++ #[rawInt pos.line, rawInt pos.col, .ref c']).toList = ps.toList ++ [rawInt pos.line, rawInt pos.col, .ref c'] := by simp
    have kept : ∀ b o, H b = some o → b ≠ P → upd (upd H P (.tbl (ps ++ #[rawInt pos.line, rawInt pos.col, .ref c']))) c' (CodeO c' (X.env.qual ++ "<lambda>")) b = some o := fun b o e n => by
      rw [upd_ne (ne_of_none e nC), upd_ne n]
      exact e
    have atP : upd (upd H P (.tbl (ps ++ #[rawInt pos.line, rawInt pos.col, .ref c']))) c' (CodeO c' (X.env.qual ++ "<lambda>")) P = some (.tbl (ps ++ #[rawInt pos.line, rawInt pos.col, .ref c'])) := by
      rw [upd_ne (ne_of_none hP nC), upd_same]
    have nP : ∀ {b : Addr} {q : Str}, H b = some (CodeO b q) → b ≠ P := fun {b q} e z => by
      rw [z, hP] at e
      cases e
    refine lay _ h' tk c' _ ctv I1 (Nat.le_trans hge (Nat.le_of_lt hlt)) ⟨fun b o e => ?_, fun _ p hp => ?_⟩ (by rw [L.q]; exact upd_same)
    · by_cases n : b = P
      · subst n
        rw [hP] at e
        cases e
        exact ⟨_, atP⟩
      · exact keeps_refl (kept b o e n)
    · obtain ⟨qs, a1, a2, a3⟩ := tb p hp
      by_cases n : p.1 = P
      · rw [M.one p hp n, n]
        refine ⟨_, atP, by rw [eL]; exact PySem.TriplesOk_snoc _ _ _ _ ht, fun p' cv hcv => ?_⟩
        rw [eL] at hcv
        rcases among_app _ ht hcv with z | z
        · obtain ⟨c0, e1, e2⟩ := ha p' cv z
          exact ⟨c0, e1, kept _ _ e2 (nP e2)⟩
        · exact ⟨c', z, upd_same⟩
      · refine ⟨qs, kept _ _ a1 n, a2, fun p' cv hcv => ?_⟩
        obtain ⟨c0, e1, e2⟩ := a3 p' cv hcv
        exact ⟨c0, e1, kept _ _ e2 (nP e2)⟩
  | some cv =>
    obtain ⟨c', e, hco⟩ := ha pos cv hc
    subst e
    refine PySem.W.kla_makeFunctionHit (mg := X.mg) (c := c) (P := P) (ps := ps) (closure_ok fr) I.ok.glob (I.mod.glob.keeps I.bk) M.code (M.tb.code.keeps I.bk) hP' ht hc bP fun ctv h' tk hx hsz => ?_
    exact lay H h' tk c' _ ctv (I.kept fun b o e => hx b o e) hsz Gr.rfl (by rw [L.q]; exact hco)
theorem nocells {T : Tx} {F : Hp} {i : Nat} (h : T.lf i = []) : CellsR F [] (T.lf i) [] := by
  rw [h]
  exact ⟨rfl, fun j y v a _ => (nomatch a), fun y c a => (nomatch a), fun x y c a _ => (nomatch a)⟩
/-- nothing is captured -/
theorem de_lam0 {E : XK} (i : Nat) (M : MkL T X c P) (L : IsL T X i params body scope) (h0 : T.lf i = []) (hc : cloFrom X.env.cells scope.names [] = []) : DE T X E (.Lambda params body scope pos) (mC (.lam i [])) :=
  pe_imp (pe_lam M L) fun s H Q ⟨F, z, q, h⟩ => ⟨q.tb, fun f c' H1 gr nf hf hco => by
    rw [hc] at hf
    let F1 : Hp := fun a => if a = f ∨ a = c' then H1 a else F a
    have e1 : Ex F F1 := fun a o e => by
      show Keeps o (if a = f ∨ a = c' then H1 a else F a)
      split
      · exact (q.ex.trans gr.ex) a o e
      · exact keeps_refl e
    have e2 : Ex F1 H1 := fun a o e => by
      have e' : (if a = f ∨ a = c' then H1 a else F a) = some o := e
      split at e'
      · exact keeps_refl e'
      · exact (q.ex.trans gr.ex) a o e'
    refine h _ F1 H1 ⟨e1, gr, e2, fun a o n1 n2 => ?_⟩ (.lam (cl := []) (vs := []) (by show (if f = f ∨ f = c' then H1 f else F f) = _; rw [if_pos (.inl rfl)]; exact hf) (by show (if c' = f ∨ c' = c' then H1 c' else F c') = _; rw [if_pos (.inr rfl)]; exact hco) (nocells h0) .nil)
    have n2' : (if a = f ∨ a = c' then H1 a else F a) = some o := n2
    by_cases q1 : a = f
    · rw [q1]
      exact .inl nf
    · by_cases q2 : a = c'
      · rw [q2]
        exact Nw.back gr (.inr ⟨_, hco, fun _ z => nomatch z⟩)
      · rw [if_neg (by rintro (z | z); exact q1 z; exact q2 z), n1] at n2'
        cases n2'⟩
end
end CL


set_option Elab.async false
set_option linter.all false
set_option maxRecDepth 100000
/-! The data layer, part s: a lambda that captures, handed to a def. -/
namespace CL
open PySem PySem.Spec PyProof.Rows L2 NdefX LamX
def capsOf : List Nat → List Sd → Rs (List D)
  | [], _ => .ok []
  | j :: js, z => (mVar j z).bnd fun d => (capsOf js z).bnd fun ds => .ok (d :: ds)
theorem capsOf_ne : ∀ (js : List Nat) (z : List Sd) (c : Nat), capsOf js z ≠ .exc c
  | [], _, _ => fun h => nomatch h
  | j :: js, z, c => fun h => by
    unfold capsOf at h
    cases e1 : mVar j z with
    | stuck => rw [e1] at h; cases h
    | exc k => exact ne_var j z k e1
    | ok d =>
      rw [e1, bnd_ok] at h
      cases e2 : capsOf js z with
      | stuck => rw [e2] at h; cases h
      | exc k => exact capsOf_ne js z k e2
      | ok ds => rw [e2] at h; cases h
theorem capsOf_at : ∀ {js : List Nat} {z : List Sd} {ds : List D}, capsOf js z = .ok ds → ds.length = js.length ∧ ∀ (k j : Nat) (d : D), js[k]? = some j → ds[k]? = some d → z[j]? = some (.sh d)
  | [], z, ds, h => by cases h; exact ⟨rfl, fun k j d a => by simp at a⟩
  | j :: js, z, ds, h => by
    unfold capsOf at h
    cases e1 : mVar j z with
    | stuck => rw [e1] at h; cases h
    | exc k => rw [e1] at h; cases h
    | ok d =>
      rw [e1, bnd_ok] at h
      cases e2 : capsOf js z with
      | stuck => rw [e2] at h; cases h
      | exc k => rw [e2] at h; cases h
      | ok es =>
        rw [e2] at h
        cases h
        obtain ⟨a, b⟩ := capsOf_at e2
        refine ⟨by simp [a], fun k j' d' h1 h2 => ?_⟩
        cases k with
        | zero =>
          simp at h1 h2
          subst h1 h2
          unfold mVar at e1
          split at e1
          · rename_i e3
            cases e1
            exact e3
          · cases e1
        | succ k => exact b k j' d' (by simpa using h1) (by simpa using h2)
def mCallL (n : Nat) (f : List D → Rs D) (i : Nat) (js : List Nat) (mes : ML) : M := fun z => (capsOf js z).bnd fun caps => (mes z).bnd fun ds => if ds.length + 1 = n then (f (.lam i caps :: ds)).bnd fun r => if flatD r = true then .ok r else .stuck else .stuck
theorem gr_out {T : Tx} {g : Cl} {H H' : Hp} (f : FreeG g H) (k : HasG g H') (u : Gr T (wi g H) H') : Gr T H (wo g H') := by
  refine ⟨fun a o e => ?_, fun t => tabs_wo k (u.tb (tabs_wi f t))⟩
  have q := f.not e
  rw [wo_out q]
  exact u.ex a o (by rw [wi_out q]; exact e)
section
variable {T : Tx} {X : Cx} {E : XK} {i j k : Nat} {params : Arguments} {body : Expr} {scope : Scope} {c P : Addr} {p lpos pos : Pos} {es : List Expr} {mes : ML} {x : Str}
theorem de_callLam {n : Nat} {f : List D → Rs D} (i : Nat) (js : List Nat) (g : DefG X.prog X.w X.K X.mg X.base CX0 k x (spD T n f)) (hr : Room j X.A) (hk : k ≤ j) (hp : Passes (L2N.CX X.prog X.w) X E) (M : MkL T X c P) (L : IsL T X i params body scope) (ha : DA T X E es mes)
    (hjs : js.map (fun s => X.N[s]?) = (T.lf i).map some) (hfr : ∀ y ∈ T.lf i, (y, NameKind.free) ∈ scope.names) (hall : ∀ y ∈ scope.names, y.2 = .free → y.1 ∈ T.lf i) (hfn : ∀ y, X.fn y = true)
    (hg : Gl X x := by rfl) (hdb : (x == ("__debug__" : Str)) = false := by decide) (he : starEach (.Lambda params body scope lpos :: es) X.env = (false, eval (.Lambda params body scope lpos) X.env) :: starEach es X.env := by rfl) (hpl : (backTo pos (starEach es X.env)).any (·.1) = false := by rfl) :
    DE T X E (.Call (.Name x p) (.Lambda params body scope lpos :: es) [] pos) (mCallL n f i js mes) := by
  refine ⟨fun pins s σ H Q I h => ?_⟩
  obtain ⟨F, z, q, h⟩ := h
  unfold mCallL at h
  cases ecap : capsOf js z with
  | stuck => rw [ecap] at h; exact h.elim
  | exc c => exact (capsOf_ne _ _ _ ecap).elim
  | ok caps =>
    rw [ecap, bnd_ok] at h
    obtain ⟨cl1, cl2⟩ := capsOf_at ecap
    obtain ⟨fa, fd, ps, Fn, hm, kp, b⟩ := g.ex
    refine wpAny_Call_Name_kw (ld_glob I hg hm ?_ hdb)
    refine PySem.W.callWith_K (h₀ := X.base) I.ok.mod.kin kp (thn ((pa_cons (pe_lam (pos := lpos) M L) ha he).run pos pins s σ H (fun vs H2 => ∃ f' c' ds vs' F2, vs = .ref f' :: vs' ∧ H2 f' = some (LamO T i f' c' (cloFrom X.env.cells scope.names [])) ∧ H2 c' = some (CodeO c' (T.lq i)) ∧ Gr T H H2 ∧ Ex F2 H2 ∧ RpAll T F2 vs' ds ∧
      Post T E (lV T) F H Q (if ds.length + 1 = n then (f (.lam i caps :: ds)).bnd fun r => if flatD r = true then .ok r else .stuck else .stuck)) I ⟨q.tb, fun f' c' H1 gr nf hf hco => ⟨F, z, q.up (Up.heap q.ex gr), Post.bndU (L := lA T) (Up.heap q.ex gr) h fun ds vs F2 H2 u2 ry h2 => ?_⟩⟩) fun us s2 ⟨vs, H2, I2, rv, f', c', ds, vs', F2, e1, hf, hco, gr, eF, ry, h2⟩ => ⟨I2.kIn, ?_⟩) he hpl
    · exact ⟨f', c', ds, vs, F2, rfl, u2.h.ex _ _ hf, u2.h.ex _ _ hco, gr.trans u2.h, u2.s, ry, h2⟩
    · by_cases hn : ds.length + 1 = n
      · rw [if_pos hn] at h2
        have fr := L.has I.ok
        let gm : Cl := fun a => if (T.lf i).any (fun y => decide (X.env.cells.lookup y = some a)) = true then s2.heap.get? a else none
        have gs : ∀ {a : Addr} {o : Obj}, gm a = some o → (∃ y ∈ T.lf i, X.env.cells.lookup y = some a) ∧ s2.heap.get? a = some o := fun {a o} e => by
          have e' : (if (T.lf i).any (fun y => decide (X.env.cells.lookup y = some a)) = true then s2.heap.get? a else none) = some o := e
          split at e'
          · rename_i hy
            rw [List.any_eq_true] at hy
            obtain ⟨y, a1, a2⟩ := hy
            exact ⟨⟨y, a1, of_decide_eq_true a2⟩, e'⟩
          · cases e'
        have frG : FreeG gm H2 := fun a o e => let ⟨⟨y, _, a2⟩, _⟩ := gs e; I2.freeC y a a2
        have old : ∀ {a : Addr} {o : Obj}, gm a = some o → X.s_0.heap.objs.size ≤ a := fun {a o} e => let ⟨⟨y, _, a2⟩, _⟩ := gs e; I.ok.cab y a (hfn y) a2
        have hg2 : ∀ a o, gm a = some o → s2.heap.get? a = some o ∧ a ∉ frs X.stack := fun a o e => ⟨(gs e).2, fun hm => by
          obtain ⟨⟨y, _, a2⟩, _⟩ := gs e
          rcases List.mem_cons.mp (I2.stkSub a hm) with z1 | z1
          · exact I2.cne y a a2 z1
          · obtain ⟨_, o2, e2, _⟩ := I.ok.funs.mem z1
            exact absurd (Nat.lt_of_lt_of_le (Heap.lt_size e2) (old e)) (Nat.lt_irrefl _)⟩
        have hb2 : ∀ a o, gm a = some o → X.base.get? a = none := fun a o e => Heap.get?_none_of_le (Nat.le_trans I.ok.bsz (old e))
        -- what is captured
        have caps_ok : ∃ cv : List V, RpAll T F cv caps ∧ ∀ (m : Nat) (s0 : Nat) (v : V), js[m]? = some s0 → cv[m]? = some v → σ[s0]? = some (some v) := by
          have key : ∀ (js : List Nat) (caps : List D), caps.length = js.length → (∀ (k j : Nat) (d : D), js[k]? = some j → caps[k]? = some d → z[j]? = some (.sh d)) → ∃ cv : List V, RpAll T F cv caps ∧ ∀ (m : Nat) (s0 : Nat) (v : V), js[m]? = some s0 → cv[m]? = some v → σ[s0]? = some (some v) := by
            intro js
            induction js with
            | nil => intro caps hl _; cases caps with
              | nil => exact ⟨[], .nil, fun m s0 v a => by simp at a⟩
              | cons _ _ => cases hl
            | cons j0 js ih => intro caps hl hh; cases caps with
              | nil => cases hl
              | cons d0 caps =>
                obtain ⟨cv, b1, b2⟩ := ih caps (by simpa using hl) fun k j d a b => hh (k + 1) j d (by simpa using a) (by simpa using b)
                obtain ⟨v0, a1, a2⟩ := q.sh j0 d0 (hh 0 j0 d0 rfl rfl)
                refine ⟨v0 :: cv, .cons a2 b1, fun m s0 v c1 c2 => ?_⟩
                cases m with
                | zero => simp at c1 c2; subst c1 c2; exact a1
                | succ m => exact b2 m s0 v (by simpa using c1) (by simpa using c2)
          exact key js caps cl1 cl2
        obtain ⟨cv, rcv, hcv⟩ := caps_ok
        have lcv : cv.length = (T.lf i).length := by
          rw [rcv.length, cl1]
          have := congrArg List.length hjs
          simpa using this
        have cells : CellsR (wi gm H2) (cloFrom X.env.cells scope.names []) (T.lf i) cv := by
          refine ⟨lcv, fun m y v a1 a2 => ?_, fun y c1 a1 => ?_, fun x1 y1 c1 a1 a2 => I.ok.inj x1 y1 c1 (clo_cm fr a1) (clo_cm fr a2)⟩
          · have hy := List.mem_of_getElem? a1
            obtain ⟨s0, hs0, hNs⟩ : ∃ s0, js[m]? = some s0 ∧ X.N[s0]? = some y := by
              have e3 : (js.map (fun s => X.N[s]?))[m]? = ((T.lf i).map some)[m]? := by rw [hjs]
              rw [List.getElem?_map, List.getElem?_map, a1] at e3
              cases e4 : js[m]? with
              | none => rw [e4] at e3; cases e3
              | some s0 => rw [e4] at e3; exact ⟨s0, rfl, Option.some.inj e3⟩
            have hσ := hcv m s0 v hs0 a2
            obtain ⟨mm, hn1, hl⟩ := I2.loc
            have kind := L.f (y, .free) (hfr y hy) rfl
            have vis : Vis X.env.scope y := kind.elim (fun k => .inr (.inl k)) fun k => .inr (.inr k)
            obtain ⟨u, ru, lk⟩ := hl s0 y v hNs hσ vis
            rcases lk with ⟨k1, _⟩ | ⟨_, c1, e5, oc, e6, e7⟩
            · have k1' : X.env.scope.names.lookup y = some .local := k1
              rcases kind with k2 | k2 <;> (rw [show X.env.scope.names.lookup y = _ from k2] at k1'; cases k1')
            · refine ⟨c1, oc, u, clo_has fr (hfr y hy) e5, ?_, e7, ru⟩
              refine wi_in ?_
              show (if (T.lf i).any (fun y => decide (X.env.cells.lookup y = some c1)) = true then s2.heap.get? c1 else none) = some oc
              rw [if_pos (List.any_eq_true.mpr ⟨y, hy, decide_eq_true e5⟩)]
              exact e6
          · rcases cloFrom_mem (PySem.mem_of_lookup a1) with hm2 | ⟨h3, _⟩
            · cases hm2
            · exact hall _ h3 rfl
        have eFH : Ex F H2 := q.ex.trans gr.ex
        have eup : Ex H2 (wi gm H2) := .same fun a o e => by rw [wi_out (frG.not e)]; exact e
        have rl : Rp T (wi gm H2) (.ref f') (.lam i caps) := .lam (eup _ _ hf) (eup _ _ hco) cells (rcv.mono (eFH.trans eup))
        subst e1
        have sp1 : spD T n f (.ref f' :: vs') (wi gm H2) (fun v H' => HasG gm H' → Q v (wo gm H')) (fun cls d H' => HasG gm H' → E cls d (wo gm H')) := by
          refine ⟨wi gm H2, .lam i caps :: ds, ⟨Ex.refl _, tabs_wi frG (gr.tb q.tb)⟩, .cons rl (ry.mono (eF.trans eup)), by rw [List.length_cons]; exact hn, ?_⟩
          cases er : f (.lam i caps :: ds) with
          | stuck => rw [er] at h2; exact h2
          | exc xc =>
            rw [er] at h2
            exact fun H' g1 k1 => h2 _ (gr.trans (gr_out frG k1 g1))
          | ok d =>
            rw [er, bnd_ok] at h2
            by_cases hfl : flatD d = true
            · rw [if_pos hfl] at h2
              exact fun v F' H' u r k1 => h2 v F _ (Up.heap q.ex (gr.trans (gr_out frG k1 u.h))) (r.flatAny hfl)
            · rw [if_neg hfl] at h2
              exact h2.elim
        have Fn' := post_cx (CX := L2N.CX X.prog X.w) Fn
        have hl : us.length = ps.length := by rw [← rv.length]; exact Fn'.len _ _ _ _ sp1
        have bb := b s2 us I2.kIn (by simpa using hl)
        rw [List.append_nil] at bb
        refine wpAny_call (codeAny_mono (Fn'.run X.A X.stack s2 (wi gm H2) ⟨us, []⟩ us (.ref f' :: vs') _ _ (hr.mono hk) (env_out frG hg2 hb2 I2.env0) bb rv sp1) fun r s' hq => ?_)
        have hq' := cr_out (Q := Q) (E := E) frG hg2 (fun v H' k1 z1 => z1 k1) (fun cls d H' k1 z1 => z1 k1) hq
        cases r with
        | error e => exact hp pins σ H2 s2 e s' I2 hq'
        | ok fl => cases fl <;> first | exact I2.after hq' | exact False.elim hq'
      · rw [if_neg hn] at h2
        exact h2.elim
end
end CL


set_option Elab.async false
set_option linter.all false
set_option maxRecDepth 100000
/-! The data layer, part t: list.index, defs that make lambdas, the lambdas' places in the text. -/
namespace CL
open PySem PySem.Spec PyProof.Rows L2 NdefX LamX
section
variable {T : Tx} {X : Cx} {E : XK} {e : Expr} {m : M} {mi : ML} {x : Str} {i : Nat} {p2 apos pos : Pos}
/-! ### xs.index(v), flat things, v is there -/
def firstIx (d : D) : List D → Nat → Option Nat
  | [], _ => none
  | y :: ys, k => if eqF y d = true then some k else firstIx d ys (k + 1)
theorem firstIx_some {d : D} : ∀ {ys : List D} {k j : Nat}, firstIx d ys k = some j → ∃ m y, j = k + m ∧ ys[m]? = some y ∧ eqF y d = true ∧ ∀ (n : Nat) (z : D), n < m → ys[n]? = some z → eqF z d = false
  | [], k, j, h => by cases h
  | y :: ys, k, j, h => by
    unfold firstIx at h
    split at h
    · rename_i e
      cases h
      exact ⟨0, y, rfl, rfl, e, fun n z hn => absurd hn (Nat.not_lt_zero n)⟩
    · rename_i e
      obtain ⟨m, y', h1, h2, h3, h4⟩ := firstIx_some h
      refine ⟨m + 1, y', by omega, by simpa using h2, h3, fun n z hn hz => ?_⟩
      cases n with
      | zero => simp at hz; subst hz; simpa using e
      | succ n => exact h4 n z (by omega) (by simpa using hz)
def mIndex (i : Nat) (m : M) : M := fun z => (mVar i z).bnd fun x => match x with
  | .lst ys => (m z).bnd fun d => if flatD d && ys.all flatD then ofO ((firstIx d ys 0).map fun k => .int (k : Nat)) else .stuck
  | _ => .stuck
theorem de_index (i : Nat) {cpos : Pos} (he : DE T X E e m) (hN : X.N[i]? = some x := by rfl) (hv : Vis X.env.scope x := by first | exact Or.inl rfl | exact Or.inr (Or.inl rfl) | exact Or.inr (Or.inr rfl)) (hd : (x == ("__debug__" : Str)) = false := by decide)
    (hcd : (x == ("__classdict__" : Str)) = false := by decide) (hs1 : starEach [e] X.env = (false, eval e X.env) :: starEach [] X.env := by rfl)
    (hbase : attributeBase (.Name x p2) "index" X.env (eval (.Name x p2) X.env) = eval (.Name x p2) X.env := by rfl)
    (hfew : ((backTo cpos (starEach [e] X.env)).all (fun x => !x.1) && (backToKw cpos (keywordEach [] X.env)).all (fun x => x.1.isSome)
      && decide ([e].length + ([] : List Keyword).length + (if ([] : List Keyword).isEmpty then 0 else 1) < 30)) = true := by rfl) (hline : (apos.endLine == cpos.line) = true := by rfl) :
    DE T X E (.Call (.Attribute (.Name x p2) "index" apos) [e] [] cpos) (mIndex i m) :=
  pe_imp (pe_bm PySem.F.plainAttrs_list PySem.F.slot_list_index PySem.F.type_list_index mt_index (pe_var hN hv hd hcd) (pa_cons he pa_nil hs1) hbase hfew hline hs1 rfl) fun s H Q ⟨F, z, q, h⟩ => by
    obtain ⟨x, hz, h⟩ := mVar_inv h
    obtain ⟨v, h1, h2⟩ := q.sh i x hz
    cases x <;> first | exact h.elim | skip
    cases h2 with
    | lst hr hA =>
      refine ⟨_, h1, .inl ⟨rfl, _, .inl (q.ex.rd hr)⟩, F, z, q, Post.bnd (L := lV T) h fun d w F1 H1 u1 rx h3 => ?_⟩
      split at h3
      · rename_i hf
        rw [Bool.and_eq_true] at hf
        obtain ⟨dd, e1, k⟩ := Post.ofO h3
        rename_i ys a vs
        cases e2 : firstIx d ys 0 with
        | none => rw [e2] at e1; cases e1
        | some j =>
          rw [e2] at e1
          cases e1
          obtain ⟨mm, y, h4, h5, h6, h7⟩ := firstIx_some e2
          rw [Nat.zero_add] at h4
          subst h4
          have hA1 := hA.mono u1.f
          obtain ⟨zv, g1, g2⟩ := hA1.get h5
          have fy := List.all_eq_true.mp hf.2 y (List.mem_of_getElem? h5)
          refine ⟨a, vs, w, j, zv, rfl, rfl, .inl (u1.h.rd (q.ex.rd hr)), rx.flat hf.1, hA1.flat hf.2, g1, by rw [Rp.eqF g2 rx fy hf.1]; exact h6, fun n z' hn hz' => ?_, k _ F1 H1 (Up.refl u1.s) (.int _)⟩
          obtain ⟨d', g3, g4⟩ := hA1.getV hz'
          rw [Rp.eqF g4 rx (List.all_eq_true.mp hf.2 d' (List.mem_of_getElem? g3)) hf.1]
          exact h7 n d' hn g3
      · exact h3.elim
end
/-! ### a lambda's words -/
structure LamEq (T : Tx) (i : Nat) (q : Str) (params : Arguments) (body : Expr) (scope : Scope) (fr : List Str) : Prop where
  lq : T.lq i = q
  lp : T.lp i = params
  lb : T.lb i = body
  ls : T.ls i = scope
  lf : T.lf i = fr
theorem isL_of {T : Tx} {X : Cx} {i : Nat} {q : Str} {params : Arguments} {body : Expr} {scope : Scope} {fr : List Str} (e : LamEq T i q params body scope fr) (hq : q = X.env.qual ++ "<lambda>" := by rfl) (hd : defaultsOf params X.env = ([], []) := by rfl)
    (hf : scope.names.all (fun y => !decide (y.2 = .free) || decide (X.env.scope.names.lookup y.1 = some .cell) || decide (X.env.scope.names.lookup y.1 = some .free)) = true := by rfl) : IsL T X i params body scope :=
  ⟨e.lq.trans hq, e.lp, e.lb, e.ls, hd, fun y hy hk => by
    have := List.all_eq_true.mp hf y hy
    simp only [Bool.or_eq_true, Bool.not_eq_true', decide_eq_true_eq, decide_eq_false_iff_not] at this
    rcases this with (z | z) | z
    · exact absurd hk z
    · exact .inl z
    · exact .inr z⟩
theorem lm_mk {P : Program} {w : World} {T : Tx} {mg : Str → Option Value} {base : Heap} {k i n : Nat} {m : M} {q : Str} {params : Arguments} {body : Expr} {scope : Scope} {fr : List Str} (ps : List Str) (e : LamEq T i q params body scope fr) (hn : ps.length = n) (S : NScope (ps ++ fr) ps fr scope)
    (hb : ∀ (cl : List (Str × Addr)) (pm cv ctv : Value) (us : List Value), us.length = ps.length → bindArgs (PySem.W.kla_fn "<lambda>" q params body scope cl pm cv ctv) ⟨us, []⟩ = pure (ps.zip us))
    (hd : ∀ (cl : List (Str × Addr)) (c f : Addr) (A : Around) (outer : List Env) (s : Shared) (H : Hp) (E : XK), Room k (A.deeper (envF (lamF q params scope cl c) f s.heap.objs.size)) → DE T (ncx (L2N.CX P w) P w T.K mg base (ps ++ fr) (lamF q params scope cl c) f A outer s H E) E body m) : LmOk P w T mg base k i n m := by
  obtain ⟨rfl, rfl, rfl, rfl, rfl⟩ := e
  exact ⟨ps, hn, S, hb, hd⟩
/-- a def that raises nothing and makes lambdas: its code object is known -/
theorem fn_DT {P : Program} {w : World} {K : PySem.W.Frag} {mg : Str → Option Value} {base : Heap} {T : Tx} {x qual : Str} {st : Stmt} {f c : Addr} {fd : FuncData} {N ps : List Str} {k : Nat} {m : MS} (F : Fun K x qual st f fd) (S : FnScope N ps (defScope st)) (hc : fd.code = .ref c)
    (hb : ∀ (A : Around) (outer : List Env) (s : Shared) (H : Hp) (E : XK), Room k (A.deeper (PyProof.Rows.envOfC qual (defScope st) s.heap.objs.size f (.ref c))) → DSs T (cxOf CX0 P w K mg base N qual (defScope st) f (.ref c) A outer s H E).nox E0 (defBody st) m) :
    FnOk P w K mg base CX0 (k + 1) f fd ps (spD T ps.length (runF N.length m)) := by
  obtain ⟨a1, a2, a3, a4, a5, a6, cv, a8, a9, e, l1, l2⟩ := F.ex
  subst e
  have hcv : cv = .ref c := hc
  subst hcv
  refine fn_of l1 l2 S (fun vs H Q E h => ?_) fun A o s H vs Q E r h => ?_
  · obtain ⟨F, ds, _, hA, hl, _⟩ := h
    rw [hA.length, hl]
  · obtain ⟨F, ds, e, hA, hl, h⟩ := h
    exact ⟨_, PSs.nox (hb A o s H E r), F, H, F, _, r_start e hA, post_noX (post_ret h)⟩
/-! ### places -/
def noE : Expr := .Name "x" ⟨0, 0, 0, 0⟩
def noS : Stmt := .Pass ⟨0, 0, 0, 0⟩
def pForB (i : Nat) : Stmt → Stmt
  | .For _ _ b _ _ => b.getD i noS
  | _ => noS
def pIfT : Stmt → Expr
  | .If c _ _ _ => c
  | _ => noE
def pAsg : Stmt → Expr
  | .Assign _ v _ => v
  | _ => noE
def pExp : Stmt → Expr
  | .Expr v _ => v
  | _ => noE
def pCmp : Expr → Expr
  | .Compare a _ _ _ => a
  | _ => noE
def pUn : Expr → Expr
  | .UnaryOp _ a _ => a
  | _ => noE
def pArg (i : Nat) : Expr → Expr
  | .Call _ as _ _ => as.getD i noE
  | _ => noE
def pElt (i : Nat) : Expr → Expr
  | .List es _ => es.getD i noE
  | .Tuple es _ _ => es.getD i noE
  | _ => noE
def pBinR : Expr → Expr
  | .BinOp _ _ b _ => b
  | _ => noE
def lamP : Expr → Arguments
  | .Lambda p _ _ _ => p
  | _ => C8.fnArgs noS
def lamB : Expr → Expr
  | .Lambda _ b _ _ => b
  | _ => noE
def lamSc : Expr → Scope
  | .Lambda _ _ s _ => s
  | _ => C8.fnScope noS
end CL


set_option Elab.async false
set_option linter.all false
set_option maxRecDepth 100000
/-! The data layer, part u: x = own.pop(), x.f[i] = e, x.f.reverse(), a new list appended to and let go. -/
namespace CL
open PySem PySem.Spec PyProof.Rows L2
section
variable {T : Tx} {X : Cx} {E : XK} {a b c e o : Expr} {es : List Expr} {pos p p2 apos : Pos} {ma mb mc m : M} {mes mi mj ml : ML} {x : Str} {j k : Nat}
/-! ### y = x.pop() of an own list -/
def sPopV (i j : Nat) : MS := fun z => match z[i]? with
  | some (.ow ds) => (match ds.getLast? with
    | some d => .ok (.nx ((z.set i (.ow ds.dropLast)).set j (.sh d)))
    | none => .stuck)
  | _ => .stuck
theorem ds_popV (i j : Nat) {y : Str} {py cpos : Pos} (nd : X.N.Nodup) (hN : X.N[i]? = some x := by rfl) (hv : Vis X.env.scope x := by first | exact Or.inl rfl | exact Or.inr (Or.inl rfl) | exact Or.inr (Or.inr rfl)) (hd : (x == ("__debug__" : Str)) = false := by decide)
    (hcd : (x == ("__classdict__" : Str)) = false := by decide) (hbase : attributeBase (.Name x p2) "pop" X.env (eval (.Name x p2) X.env) = eval (.Name x p2) X.env := by rfl) (hline : (apos.endLine == cpos.line) = true := by rfl)
    (hj : X.N[j]? = some y := by rfl) (hy : Loc X.env.scope y := by first | exact Or.inl rfl | exact Or.inr rfl) (hs : swapsWith (.Call (.Attribute (.Name x p2) "pop" apos) [] [] cpos) (some (.Name y py)) pos.line X.env = pure false := by rfl)
    (hf : X.fn y = true ∨ X.env.scope.names.lookup y = some .local := by first | exact .inl rfl | exact .inr rfl | assumption) :
    DS T X E (.Assign [.Name y py] (.Call (.Attribute (.Name x p2) "pop" apos) [] [] cpos) pos) (sPopV i j) :=
  ps_imp (ps_set nd hj hy (pe_bm0 PySem.F.plainAttrs_list PySem.F.slot_list_pop PySem.F.type_list_pop mt_pop (pe_var hN hv hd hcd) hbase hline) hs hf) fun N s H ⟨F0, H0, F, z, x, h⟩ => by
  unfold sPopV at h
  split at h
  · rename_i ds e1
    obtain ⟨p, xs, h1, h2, h3, h4⟩ := x.r.ow i ds e1
    split at h
    · rename_i d e2
      have hl : ds.length ≠ 0 := fun q => by rw [List.length_eq_zero_iff.mp q] at e2; cases e2
      have hx : xs.length - 1 < xs.length := by have := h4.length; omega
      have ed : ds[xs.length - 1]? = some d := by rw [h4.length, ← List.getLast?_eq_getElem?]; exact e2
      obtain ⟨v, g1, g2⟩ := h4.get ed
      exact ⟨_, h1, .inl ⟨rfl, xs, .inl (.inl h2)⟩, p, xs, v, rfl, rfl, h2, g1, h _ F _ ((x.chg e1 h1 h4.dropLast).set g2)⟩
    · exact h.elim
  · exact h.elim
/-! ### x.f[i] = e of an own holder -/
def sItemF (i : Nat) (n : FN) (mx me : M) : MS := fun z => (me z).bnd fun d => sChg i n (fun z ds => (mx z).bnd fun k => ofO (setI ds k d)) z
theorem ds_itemF (i : Nat) (n : FN) (C : ClA T X.mg) {p3 : Pos} {ix : Expr} {ps : Pos} {mx : M} (he : DE T X E e m) (hx : DE T X E ix mx) (hK : X.K = T.K := by rfl) (hN : X.N[i]? = some x := by rfl) (hv : Vis X.env.scope x := by first | exact Or.inl rfl | exact Or.inr (Or.inl rfl) | exact Or.inr (Or.inr rfl)) (hd : (x == ("__debug__" : Str)) = false := by decide)
    (hcd : (x == ("__classdict__" : Str)) = false := by decide) (hb : attributeBase (.Name x p2) n.nm X.env (eval (.Name x p2) X.env) = eval (.Name x p2) X.env := by rfl)
    (ha : ∀ v, assign (.Subscript (.Attribute (.Name x p2) n.nm p3) ix ps) X.env v = (do
      let ov ← holding [v] (eval (.Attribute (.Name x p2) n.nm p3) X.env)
      let iv ← holding [v, ov] (eval ix X.env)
      standAt ps
      holding [v, ov, iv] (setItem ov iv v)
      release [v, ov, iv] []) := by intro _; rfl)
    (hs : swapsWithSole [.Subscript (.Attribute (.Name x p2) n.nm p3) ix ps] e pos.line X.env = pure false := by rfl) (hw : swappedStores [.Subscript (.Attribute (.Name x p2) n.nm p3) ix ps] e X.env = pure none := by rfl)
    (h1 : (assignEach [.Subscript (.Attribute (.Name x p2) n.nm p3) ix ps] X.env).map (·.2) = [assign (.Subscript (.Attribute (.Name x p2) n.nm p3) ix ps) X.env] := by rfl) :
    DS T X E (.Assign [.Subscript (.Attribute (.Name x p2) n.nm p3) ix ps] e pos) (sItemF i n mx m) :=
  ps_imp (ps_asg he (pg_sub (pe_part i n C hK hN hv hd hcd hb) hx set_list ha) hs hw h1) fun N s H ⟨F0, H0, F, z, x, h⟩ =>
  ⟨F, z, x.r, PostS.bnd (L := lV T) (x := x) h fun d v F1 H1 u1 rd h1 => by
    have x1 := x.step u1
    obtain ⟨c, fs, j, ds, e1, e2, e3, h⟩ := sChg_inv h1
    obtain ⟨a, qs, g1, g2, g3, g4, g5⟩ := x1.r.ob i (some c) fs e1
    have hj : j < qs.length := by rw [g4]; exact (List.getElem?_eq_some_iff.mp e3).1
    obtain ⟨xs, c1, c2, c3⟩ := g5 j qs[j] ds (List.getElem?_eq_getElem hj) e3
    have h' : PostS T E F0 H0 N ((mx z).bnd fun k => (ofO (setI ds k d)).bnd fun es => .ok (.nx (z.set i (.ob (some c) (fs.set j es))))) := by
      revert h
      cases mx z with
      | ok d => exact fun h => h
      | exc d => exact fun h => h
      | stuck => exact fun h => h
    refine ⟨a, c, qs, j, qs[j], g1, g2.mono x1.r.ex, e2, List.getElem?_eq_getElem hj, F1, z, x1.r, PostS.bnd (L := lV T) (x := x1) h' fun kd w F2 H2 u2 rk h2 => ?_⟩
    cases hq : setI ds kd d with
    | none => rw [hq] at h2; exact h2.elim
    | some es =>
      rw [hq] at h2
      obtain ⟨k, m, rfl, hm, rfl⟩ := setI_some hq
      cases rk
      exact ⟨qs[j], xs, k, m, rfl, rfl, u2.h.ex _ _ c1, by rw [c3.length]; exact hm, h2 _ F2 _ ((x1.step u2).chgOb e1 g1 (g2.mono u2.f) (List.getElem?_eq_getElem hj) ((c3.mono u2.f).set m (rd.mono u2.f)))⟩⟩
/-! ### x.f.reverse() of an own holder -/
def sRevF (i : Nat) (n : FN) : MS := sChg i n fun _ ds => .ok ds.reverse
theorem ds_revF (i : Nat) (n : FN) (C : ClA T X.mg) {p2 p3 cpos : Pos} (hK : X.K = T.K := by rfl) (hN : X.N[i]? = some x := by rfl) (hv : Vis X.env.scope x := by first | exact Or.inl rfl | exact Or.inr (Or.inl rfl) | exact Or.inr (Or.inr rfl)) (hd : (x == ("__debug__" : Str)) = false := by decide)
    (hcd : (x == ("__classdict__" : Str)) = false := by decide) (hb : attributeBase (.Name x p2) n.nm X.env (eval (.Name x p2) X.env) = eval (.Name x p2) X.env := by rfl)
    (hbase : attributeBase (.Attribute (.Name x p2) n.nm p3) "reverse" X.env (eval (.Attribute (.Name x p2) n.nm p3) X.env) = eval (.Attribute (.Name x p2) n.nm p3) X.env := by rfl) (hline : (apos.endLine == cpos.line) = true := by rfl) :
    DS T X E (.Expr (.Call (.Attribute (.Attribute (.Name x p2) n.nm p3) "reverse" apos) [] [] cpos) pos) (sRevF i n) :=
  ps_imp (ps_expr (pe_bm0 PySem.F.plainAttrs_list PySem.F.slot_list_reverse PySem.F.type_list_reverse mt_reverse (pe_part i n C hK hN hv hd hcd hb) hbase hline) rfl) fun N s H ⟨F0, H0, F, z, x, h⟩ => by
  obtain ⟨c, fs, j, ds, e1, e2, e3, h⟩ := sChg_inv h
  obtain ⟨a, ps, h1, h2, h3, h4, h5⟩ := x.r.ob i (some c) fs e1
  have hj : j < ps.length := by rw [h4]; exact (List.getElem?_eq_some_iff.mp e3).1
  obtain ⟨xs, c1, c2, c3⟩ := h5 j ps[j] ds (List.getElem?_eq_getElem hj) e3
  exact ⟨a, c, ps, j, ps[j], h1, h2.mono x.r.ex, e2, List.getElem?_eq_getElem hj, .inl ⟨rfl, xs, .inl (.inl c1)⟩, ps[j], xs, rfl, rfl, c1, h _ F _ (x.chgOb e1 h1 h2 (List.getElem?_eq_getElem hj) c3.reverse)⟩
end
end CL


set_option Elab.async false
set_option linter.all false
set_option maxRecDepth 100000
/-! The data layer, part v: a def that returns lambdas over its own cells. -/
namespace CL
open PySem PySem.Spec PyProof.Rows L2 NdefX LamX
/-! ### blocks that end by return; what the names hold then is known -/
abbrev TR := L2.St → Hp → (L2.St → VK) → Prop
structure PR (X : Cx) (st : List Stmt) (t : TR) : Prop where
  run : ∀ (pins : List (Addr × Obj)) (s : Shared) (σ : L2.St) (H : Hp) (Q : L2.St → VK), Inv X pins σ H s → t σ H Q → wpAny (model X.prog X.w) X.A (execs st X.env) (fun fl s' => ∃ u v σ' H', fl = .ret u ∧ Inv X pins σ' H' s' ∧ RelV v u ∧ Q σ' v H') X.xe s
def noEnds (n : L2.St → Hp → Prop) : Ends := { nx := n, rt := fun _ _ => False, bk := fun _ _ => False, ct := fun _ _ => False }
theorem pr_cons {X : Cx} {st : Stmt} {rest : List Stmt} {t : TS} {u : TR} (h1 : PS X st t) (h2 : PR X rest u) : PR X (st :: rest) (fun σ H Q => t (noEnds fun σ' H' => u σ' H' Q) σ H) := by
  refine ⟨fun pins s σ H Q I h => wpAny_execs_cons (thn (h1.run pins s σ H _ I h) fun f s1 q => ?_)⟩
  cases f with
  | next =>
    obtain ⟨σ', H', I', q⟩ := q
    exact h2.run pins s1 σ' H' Q I' q
  | ret v =>
    obtain ⟨_, _, _, _, _, q⟩ := q
    exact q.elim
  | brk =>
    obtain ⟨_, _, _, q⟩ := q
    exact q.elim
  | cont =>
    obtain ⟨_, _, _, q⟩ := q
    exact q.elim
theorem pr_ret {X : Cx} {e : Expr} {te : TE} {pos : Pos} (he : PE X e te) : PR X [.Return (some e) pos] (fun σ H Q => te σ H (Q σ)) :=
  ⟨fun pins s σ H Q I h => wpAny_execs_cons (wpAny_Return_some (thn (he.run pins s σ H _ I h) fun v s1 ⟨x, H1, I1, r1, q1⟩ => ⟨v, x, σ, H1, rfl, I1, r1, q1⟩))⟩
/-! ### the cells of the frame told at its end -/
structure CellsOf (X : Cx) (σ : L2.St) (H : Hp) (g : Cl) : Prop where
  ok : X.Ok
  free : FreeG g H
  at_ : ∀ (i : Nat) (y : Str) (v : V), X.N[i]? = some y → σ[i]? = some (some v) → X.env.scope.names.lookup y = some .cell → ∃ c oc u, X.env.cells.lookup y = some c ∧ g c = some oc ∧ oc.data = .cell (some u) ∧ RelV v u
theorem un_tell {fs : List Addr} {g : Cl} {H H' : Hp} {h h' : Heap} (nw : ∀ a o, g a = some o → h.get? a = none ∧ H a = none) (u : Un fs [] H H' h h') : Un fs [] H (wi g H') h h' := by
  have out : ∀ {b : Addr} {o : Obj}, h.get? b = some o → g b = none := fun {b o} e => by
    cases q : g b with
    | none => rfl
    | some x => rw [(nw b x q).1] at e; cases e
  have out2 : ∀ {b : Addr} {o : HO}, H b = some o → g b = none := fun {b o} e => by
    cases q : g b with
    | none => rfl
    | some x => rw [(nw b x q).2] at e; cases e
  exact ⟨u.keep, u.slot, fun b o e n x => by rw [wi_out (out e)]; exact u.free b o e n x, u.there, fun b xs e => by rw [wi_out (out2 e)]; exact u.tups b xs e, fun b o x e => by rw [wi_out (out2 e)]; exact u.frzs b o x e, fun b ps e => by rw [wi_out (out2 e)]; exact u.tbls b ps e⟩
/-- the cells' objects in the state of the end -/
def cellsNow (X : Cx) (h : Heap) : Cl := fun a => if X.env.scope.names.any (fun p => decide (X.env.cells.lookup p.1 = some a)) = true then h.get? a else none
theorem cellsNow_some {X : Cx} {h : Heap} {a : Addr} {o : Obj} (e : cellsNow X h a = some o) : (∃ y, X.env.cells.lookup y = some a) ∧ h.get? a = some o := by
  unfold cellsNow at e
  split at e
  · rename_i q
    rw [List.any_eq_true] at q
    obtain ⟨p, h1, h2⟩ := q
    exact ⟨⟨p.1, of_decide_eq_true h2⟩, e⟩
  · cases e
theorem cellsNow_of {X : Cx} {h : Heap} {y : Str} {c : Addr} {o : Obj} {k : NameKind} (hy : X.env.scope.names.lookup y = some k) (e : X.env.cells.lookup y = some c) (ho : h.get? c = some o) : cellsNow X h c = some o := by
  unfold cellsNow
  rw [if_pos (List.any_eq_true.mpr ⟨(y, k), PySem.mem_of_lookup hy, decide_eq_true e⟩)]
  exact ho
theorem cells_of_end {X : Cx} {pins : List (Addr × Obj)} {σ : L2.St} {H : Hp} {s : Shared} (I : Inv X pins σ H s) : CellsOf X σ H (cellsNow X s.heap) := by
  refine ⟨I.ok, fun a o e => ?_, fun i y v hN hσ hk => ?_⟩
  · obtain ⟨⟨y, hy⟩, _⟩ := cellsNow_some e
    exact I.freeC y a hy
  · obtain ⟨m, _, hl⟩ := I.loc
    obtain ⟨u, ru, lk⟩ := hl i y v hN hσ (.inr (.inl hk))
    rcases lk with ⟨k1, _⟩ | ⟨_, c1, e5, oc, e6, e7⟩
    · have k1' : X.env.scope.names.lookup y = some .local := k1
      rw [hk] at k1'
      cases k1'
    · exact ⟨c1, oc, u, e5, cellsNow_of hk e5 e6, e7, ru⟩
/-- a def whose cells live on -/
theorem fn_cells {P : Program} {w : World} {K : PySem.W.Frag} {mg : Str → Option Value} {base : Heap} {x qual : Str} {st : Stmt} {f c : Addr} {fd : FuncData} {N ps : List Str} {k : Nat} {sp : Sp} (F : Fun K x qual st f fd) (S : FnScope N ps (defScope st)) (hc : fd.code = .ref c)
    (len : ∀ vs H Q E, sp vs H Q E → vs.length = ps.length)
    (hb : ∀ (A : Around) (outer : List Env) (s : Shared) (H : Hp) (vs : List V) (Q : VK) (E : XK), Room k (A.deeper (PyProof.Rows.envOfC qual (defScope st) s.heap.objs.size f (.ref c))) → sp vs H Q E →
      ∃ t, PR (cxOf CX0 P w K mg base N qual (defScope st) f (.ref c) A outer s H E) (defBody st) t ∧
        t (L2.start N vs) H fun σ' v H' => ∀ g : Cl, CellsOf (cxOf CX0 P w K mg base N qual (defScope st) f (.ref c) A outer s H E) σ' H' g → Q v (wi g H')) :
    FnOk P w K mg base CX0 (k + 1) f fd ps sp := by
  obtain ⟨a1, a2, a3, a4, a5, a6, cv, a8, a9, e, l1, l2⟩ := F.ex
  subst e
  have hcv : cv = .ref c := hc
  subst hcv
  refine ⟨len, fun A outer s H args us vs Q E hr e0 hbd r hsp => ?_⟩
  have hl := len _ _ _ _ hsp
  have old : ∀ b o, base.get? b = some o → s.heap.get? b = some o := fun b o z => (e0.bs b o z).1
  have inK : K.In s.heap := e0.mod.kin.keeps old
  refine codeAny_call_function hr.depth (inK _ _ l1) rfl S.co S.gen rfl (PySem.W.codeRec_of inK l2) (hbd _ _ _ _ (wpAny_newFunctionEnv_cells S.kind (fun ⟨n, v⟩ hy => ?_) fun env he s1 xx => ?_))
  · exact (S.par n (List.of_mem_zip hy).1).elim .inl fun q => .inr ⟨q, PySem.W.cellsFrom_some _ _ _ (.inl q)⟩
  · subst he
    refine ⟨(e0.mod.nolimit.keeps old).keeps xx.toInCall.keep, codeAny_func ?_⟩
    obtain ⟨t, ht, hq⟩ := hb A outer s H vs Q E (hr.deeper _) hsp
    refine wpAny_mono (ht.run [] s1 (L2.start N vs) H _ (inv_start S hr.hd e0 hl r xx) hq) (fun fl s' z => ?_) fun _ _ z => z
    obtain ⟨u, v, σ', H', rfl, J, rv, q⟩ := z
    have C := cells_of_end J
    have nw : ∀ a o, cellsNow (cxOf CX0 P w K mg base N qual (defScope st) f (.ref c) A outer s H E) s'.heap a = some o → s.heap.get? a = none ∧ H a = none := fun a o z => by
      obtain ⟨⟨y, hy⟩, _⟩ := cellsNow_some z
      have hle : s.heap.objs.size ≤ a := J.ok.cab y a rfl hy
      exact ⟨Heap.get?_none_of_le hle, e0.hok.fresh hle⟩
    exact ⟨v, wi _ H', J.os, J.bare, un_tell nw J.base, hok_wi C.free (fun a o z => (cellsNow_some z).2) J.hok, rv, q _ C⟩
end CL


set_option Elab.async false
set_option linter.all false
set_option maxRecDepth 100000
/-! The data layer, part w: a list of lambdas over the def's own cells, returned. -/
namespace CL
open PySem PySem.Spec PyProof.Rows L2 NdefX LamX
/-- a lambda made: its number, its place, its code object's place, what it captures -/
abbrev Lq := Nat × Addr × Addr × List (Str × Addr)
structure Dr (T : Tx) (H0 H : Hp) (l : Addr) (qs : List Lq) : Prop where
  gr : Gr T H0 H
  nl : H0 l = none
  at_ : H l = some (.lst (qs.map fun q => .ref q.2.1))
  lam : ∀ q ∈ qs, H q.2.1 = some (LamO T q.1 q.2.1 q.2.2.1 q.2.2.2) ∧ H q.2.2.1 = some (CodeO q.2.2.1 (T.lq q.1)) ∧ H0 q.2.1 = none
theorem gr_mut {T : Tx} {H0 H : Hp} {l : Addr} {xs ys : List V} (g : Gr T H0 H) (nl : H0 l = none) (h : H l = some (.lst xs)) : Gr T H0 (upd H l (.lst ys)) :=
  (Up.mut (T := T) (F0 := fun _ => none) (F := fun _ => none) (ys := ys) ⟨fun a o e => (nomatch e), g, fun a o e => (nomatch e), fun a o _ e => (nomatch e)⟩ nl rfl h).h
theorem Dr.add {T : Tx} {H0 H H1 : Hp} {l f c : Addr} {qs : List Lq} {i : Nat} {cl : List (Str × Addr)} (d : Dr T H0 H l qs) (g : Gr T H H1) (nf : H f = none) (hf : H1 f = some (LamO T i f c cl)) (hc : H1 c = some (CodeO c (T.lq i))) :
    H1 l = some (.lst (qs.map fun q => .ref q.2.1)) ∧ Dr T H0 (upd H1 l (.lst ((qs.map fun q => .ref q.2.1) ++ [.ref f]))) l (qs ++ [(i, f, c, cl)]) := by
  have hl : H1 l = some (.lst (qs.map fun q => .ref q.2.1)) := g.ex _ _ d.at_
  have nx : ∀ {a : Addr} {φ : Heap → Prop}, H1 a = some (.ext φ) → a ≠ l := fun {a φ} e z => by
    rw [z, hl] at e
    cases e
  refine ⟨hl, gr_mut (d.gr.trans g) d.nl hl, d.nl, by rw [upd_same, List.map_append]; rfl, fun q hq => ?_⟩
  rcases List.mem_append.mp hq with h | h
  · obtain ⟨h1, h2, h3⟩ := d.lam q h
    have e1 : H1 q.2.1 = some (LamO T q.1 q.2.1 q.2.2.1 q.2.2.2) := g.ex _ _ h1
    have e2 : H1 q.2.2.1 = some (CodeO q.2.2.1 (T.lq q.1)) := g.ex _ _ h2
    exact ⟨by rw [upd_ne (nx e1)]; exact e1, by rw [upd_ne (nx e2)]; exact e2, h3⟩
  · rw [List.mem_singleton.mp h]
    exact ⟨by rw [upd_ne (nx hf)]; exact hf, by rw [upd_ne (nx hc)]; exact hc, d.gr.back nf⟩
theorem pr_imp {X : Cx} {st : List Stmt} {t u : TR} (h : PR X st t) (i : ∀ σ H Q, u σ H Q → t σ H Q) : PR X st u := ⟨fun pins s σ H Q I q => h.run pins s σ H Q I (i _ _ _ q)⟩
/-- what is to come: lambdas with these numbers and captures, then the list is returned -/
def tDr (T : Tx) (H0 : Hp) (sl : Nat) (is : List (Nat × List (Str × Addr))) : TR := fun σ H Q => ∃ l qs, Dr T H0 H l qs ∧ Tabs T.tabs H0 ∧ σ[sl]? = some (some (.ref l)) ∧ qs.length + is.length ≤ 1000 ∧
  ∀ H' qs', Dr T H0 H' l (qs ++ qs') → qs'.map (fun q => (q.1, q.2.2.2)) = is → Q σ (.ref l) H'
section
variable {T : Tx} {X : Cx} {H0 : Hp} {sl i : Nat} {is : List (Nat × List (Str × Addr))} {x : Str} {p p2 apos cpos pos lpos : Pos} {rest : List Stmt} {params : Arguments} {body : Expr} {scope : Scope} {c P : Addr}
theorem prd_ret (hN : X.N[sl]? = some x := by rfl) (hv : Vis X.env.scope x := by first | exact Or.inl rfl | exact Or.inr (Or.inl rfl) | exact Or.inr (Or.inr rfl)) (hd : (x == ("__debug__" : Str)) = false := by decide) (hcd : (x == ("__classdict__" : Str)) = false := by decide) :
    PR X [.Return (some (.Name x p)) pos] (tDr T H0 sl []) := pr_imp (pr_ret (pe_var hN hv hd hcd)) fun σ H Q ⟨l, qs, d, _, h1, _, k⟩ => ⟨_, h1, k H [] (by rw [List.append_nil]; exact d) rfl⟩
theorem prd_app (M : MkL T X c P) (L : IsL T X i params body scope) (hr : PR X rest (tDr T H0 sl is)) (hN : X.N[sl]? = some x := by rfl) (hv : Vis X.env.scope x := by first | exact Or.inl rfl | exact Or.inr (Or.inl rfl) | exact Or.inr (Or.inr rfl)) (hd : (x == ("__debug__" : Str)) = false := by decide) (hcd : (x == ("__classdict__" : Str)) = false := by decide)
    (hs1 : starEach [.Lambda params body scope lpos] X.env = (false, eval (.Lambda params body scope lpos) X.env) :: starEach [] X.env := by rfl)
    (hbase : attributeBase (.Name x p2) "append" X.env (eval (.Name x p2) X.env) = eval (.Name x p2) X.env := by rfl)
    (hfew : ((backTo cpos (starEach [.Lambda params body scope lpos] X.env)).all (fun x => !x.1) && (backToKw cpos (keywordEach [] X.env)).all (fun x => x.1.isSome)
      && decide ([Expr.Lambda params body scope lpos].length + ([] : List Keyword).length + (if ([] : List Keyword).isEmpty then 0 else 1) < 30)) = true := by rfl) (hline : (apos.endLine == cpos.line) = true := by rfl) :
    PR X (.Expr (.Call (.Attribute (.Name x p2) "append" apos) [.Lambda params body scope lpos] [] cpos) pos :: rest) (tDr T H0 sl ((i, cloFrom X.env.cells scope.names []) :: is)) :=
  pr_imp (pr_cons (ps_expr (pe_bm PySem.F.plainAttrs_list PySem.F.slot_list_append PySem.F.type_list_append mt_append (pe_var hN hv hd hcd) (pa_cons (pe_lam (pos := lpos) M L) pa_nil hs1) hbase hfew hline hs1 rfl) rfl) hr) fun σ H Q ⟨l, qs, d, tb, h1, hl, k⟩ =>
  ⟨_, h1, .inl ⟨rfl, _, .inl (.inl d.at_)⟩, d.gr.tb tb, fun f c' H1 g nf hf hc => by
    obtain ⟨e1, d1⟩ := d.add g nf hf hc
    have hz : (1000 : Nat) < sizeLine := by rw [sizeLine_eq]; decide
    refine ⟨l, _, .ref f, rfl, rfl, e1, by rw [List.length_map]; simp only [List.length_cons] at hl; omega, l, _, d1, tb, h1, by simp only [List.length_append, List.length_cons, List.length_nil] at hl ⊢; omega, fun H' qs' d2 e2 => k H' ((i, f, c', cloFrom X.env.cells scope.names []) :: qs') ?_ (by rw [List.map_cons, e2])⟩
    rw [List.append_assoc] at d2
    exact d2⟩
/-- the first one -/
def tDr1 (T : Tx) (H0 : Hp) (sl : Nat) (is : List (Nat × List (Str × Addr))) : TR := fun σ H Q => H = H0 ∧ Tabs T.tabs H0 ∧ sl < σ.length ∧ is.length ≤ 1000 ∧
  ∀ H' l qs', Dr T H0 H' l qs' → qs'.map (fun q => (q.1, q.2.2.2)) = is → Q (σ.set sl (some (.ref l))) (.ref l) H'
theorem prd_first {lp : Pos} (nd : X.N.Nodup) (M : MkL T X c P) (L : IsL T X i params body scope) (hr : PR X rest (tDr T H0 sl is)) (hi : X.N[sl]? = some x := by rfl) (hx : Loc X.env.scope x := by first | exact Or.inl rfl | exact Or.inr rfl)
    (hs1 : starEach [.Lambda params body scope lpos] X.env = (false, eval (.Lambda params body scope lpos) X.env) :: starEach [] X.env := by rfl)
    (hs : swapsWith (.List [.Lambda params body scope lpos] lp) (some (.Name x p2)) pos.line X.env = pure false := by rfl)
    (hf : X.fn x = true ∨ X.env.scope.names.lookup x = some .local := by first | exact .inl rfl | exact .inr rfl | assumption) :
    PR X (.Assign [.Name x p2] (.List [.Lambda params body scope lpos] lp) pos :: rest) (tDr1 T H0 sl ((i, cloFrom X.env.cells scope.names []) :: is)) :=
  pr_imp (pr_cons (ps_set nd hi hx (pe_lst (pa_cons (pe_lam (pos := lpos) M L) pa_nil hs1)) hs hf) hr) fun σ H Q ⟨e, tb, hl, hz, k⟩ => by
  subst e
  refine ⟨tb, fun f c' H1 g nf hf hc => ⟨(by show 1 ≤ sizeLine; rw [sizeLine_eq]; decide), fun l hl1 => ?_⟩⟩
  have nx : ∀ {a : Addr} {o : HO}, H1 a = some o → a ≠ l := fun {a o} e z => by
    rw [z, hl1] at e
    cases e
  have d : Dr T H (upd H1 l (.lst [.ref f])) l [(i, f, c', cloFrom X.env.cells scope.names [])] := ⟨g.trans (Gr.new hl1), g.back hl1, upd_same, fun q hq => by
    rw [List.mem_singleton.mp hq]
    exact ⟨by rw [upd_ne (nx hf)]; exact hf, by rw [upd_ne (nx hc)]; exact hc, nf⟩⟩
  exact ⟨l, _, d, tb, List.getElem?_set_self hl, by simp only [List.length_cons, List.length_nil] at hz ⊢; omega, fun H' qs' d2 e2 => k H' l _ d2 (by rw [List.map_append, e2]; rfl)⟩
end
end CL


set_option Elab.async false
set_option linter.all false
set_option maxRecDepth 100000
/-! The data layer, part x: .. as a def's promise. -/
namespace CL
open PySem PySem.Spec PyProof.Rows L2 NdefX LamX
def doorsF (is : List Nat) : List D → Rs (List D)
  | [d] => .ok (is.map fun i => .lam i [d])
  | _ => .stuck
theorem doors_end {T : Tx} {X : Cx} {F H0 H : Hp} {l : Addr} {qs : List Lq} {is : List Nat} {g : Cl} {σ : L2.St} {row : Str} {v : V} {d : D} {E : XK} {Q : VK} (en : En T F H0) (dr : Dr T H0 H l qs) (e : qs.map (fun q => (q.1, q.2.2.2)) = is.map fun i => (i, cloFrom X.env.cells (T.ls i).names []))
    (C : CellsOf X σ H g) (hN : X.N[0]? = some row) (hσ : σ[0]? = some (some v)) (hk : X.env.scope.names.lookup row = some .cell) (rv : Rp T F v d)
    (hlf : ∀ i ∈ is, T.lf i = [row] ∧ (row, NameKind.free) ∈ (T.ls i).names ∧ ∀ y ∈ (T.ls i).names, y.2 = .free → y.1 = row)
    (h : Post T E (lL T) F H0 Q (.ok (is.map fun i => .lam i [d]))) : Q (.ref l) (wi g H) := by
  let told : Addr → Prop := fun a => g a ≠ none ∨ ∃ q ∈ qs, a = q.2.1 ∨ a = q.2.2.1
  have dec : ∀ a, Decidable (told a) := fun a => Classical.propDecidable _
  let F' : Hp := fun a => @ite _ (told a) (dec a) (wi g H a) (F a)
  have inn : ∀ {a : Addr}, told a → F' a = wi g H a := fun {a} t => @if_pos _ (dec a) t _ _ _
  have out : ∀ {a : Addr}, ¬ told a → F' a = F a := fun {a} t => @if_neg _ (dec a) t _ _ _
  have gn : ∀ {a : Addr} {o : HO}, H a = some o → wi g H a = some o := fun {a o} z => by rw [wi_out (C.free.not z)]; exact z
  have grW : Gr T H0 (wi g H) := ⟨fun a o z => by
    have k := dr.gr.ex a o z
    cases q : H a with
    | none => exact absurd (dr.gr.back q) (by rw [z]; exact fun w => nomatch w)
    | some u => rw [gn q, ← q]; exact k, fun t => tabs_wi C.free (dr.gr.tb t)⟩
  have exW : Ex F (wi g H) := en.ex.trans grW.ex
  have e1 : Ex F F' := fun a o z => by
    by_cases t : told a
    · rw [inn t]
      exact exW a o z
    · rw [out t]
      exact keeps_refl z
  have e2 : Ex F' (wi g H) := fun a o z => by
    by_cases t : told a
    · rw [inn t] at z
      exact keeps_refl z
    · rw [out t] at z
      exact exW a o z
  have up : Up T F H0 F' (wi g H) := ⟨e1, grW, e2, fun a o z1 z2 => by
    by_cases t : told a
    · rcases t with t | ⟨q, hq, t | t⟩
      · cases w : g a with
        | none => exact absurd w t
        | some ob => exact .inl (dr.gr.back (C.free a ob w))
      · rw [t]
        exact .inl (dr.lam q hq).2.2
      · rw [t]
        exact Nw.back dr.gr (.inr ⟨_, (dr.lam q hq).2.1, fun _ z => nomatch z⟩)
    · rw [out t, z1] at z2
      cases z2⟩
  have lW : wi g H l = some (.lst (qs.map fun q => .ref q.2.1)) := gn dr.at_
  have lF : F' l = none := by
    have nt : ¬ told l := by
      rintro (t | ⟨q, hq, t | t⟩)
      · exact t (C.free.not dr.at_)
      · have := (dr.lam q hq).1
        rw [← t, dr.at_] at this
        cases this
      · have := (dr.lam q hq).2.1
        rw [← t, dr.at_] at this
        cases this
    rw [out nt]
    exact en.ex.back dr.nl
  refine h _ F' _ up ⟨l, _, rfl, dr.nl, lF, lW, ?_⟩
  -- the lambdas
  have key : ∀ (rs : List Lq) (js : List Nat), (∀ q ∈ rs, q ∈ qs) → (∀ j ∈ js, j ∈ is) → rs.map (fun q => (q.1, q.2.2.2)) = js.map (fun i => (i, cloFrom X.env.cells (T.ls i).names [])) → RpAll T F' (rs.map fun q => .ref q.2.1) (js.map fun i => .lam i [d]) := by
    intro rs
    induction rs with
    | nil => intro js _ _ e; cases js with
      | nil => exact .nil
      | cons _ _ => cases e
    | cons q rs ih => intro js h1 h2 e; cases js with
      | nil => cases e
      | cons j js =>
        rw [List.map_cons, List.map_cons] at e
        obtain ⟨e1', e2'⟩ := List.cons.inj e
        obtain ⟨e3, e4⟩ := Prod.mk.inj e1'
        have hq := h1 q List.mem_cons_self
        obtain ⟨a1, a2, a3⟩ := dr.lam q hq
        obtain ⟨b1, b2, b3⟩ := hlf j (h2 j List.mem_cons_self)
        obtain ⟨c, oc, u, k1, k2, k3, k4⟩ := C.at_ 0 row v hN hσ hk
        have free : ∀ y ∈ (T.ls j).names, y.2 = .free → ∃ c, X.env.cells.lookup y.1 = some c := fun y hy hf => by
          rw [b3 y hy hf]
          exact ⟨c, k1⟩
        have tf : F' q.2.1 = some (LamO T j q.2.1 q.2.2.1 (cloFrom X.env.cells (T.ls j).names [])) := by
          rw [inn (.inr ⟨q, hq, .inl rfl⟩), gn a1, e3, e4]
        have tc : F' q.2.2.1 = some (CodeO q.2.2.1 (T.lq j)) := by
          rw [inn (.inr ⟨q, hq, .inr rfl⟩), gn a2, e3]
        refine .cons (.lam (vs := [v]) tf tc ?_ (.cons (rv.mono e1) .nil)) (ih js (fun z hz => h1 z (List.mem_cons_of_mem _ hz)) (fun z hz => h2 z (List.mem_cons_of_mem _ hz)) e2')
        rw [b1]
        refine ⟨rfl, fun m y w z1 z2 => ?_, fun y c' z => ?_, fun x y c' z1 z2 => C.ok.inj x y c' (clo_cm free z1) (clo_cm free z2)⟩
        · cases m with
          | zero =>
            simp at z1 z2
            subst z1 z2
            exact ⟨c, oc, u, clo_has free b2 k1, by rw [inn (.inl (by rw [k2]; exact fun w => nomatch w)), wi_in k2], k3, k4⟩
          | succ m => simp at z1
        · rcases cloFrom_mem (PySem.mem_of_lookup z) with hm2 | ⟨h3, _⟩
          · cases hm2
          · exact List.mem_singleton.mpr (b3 (y, .free) h3 rfl)
  exact key qs is (fun _ h => h) (fun _ h => h) e
theorem fn_doors {P : Program} {w : World} {T : Tx} {mg : Str → Option Value} {base : Heap} {x qual : Str} {st : Stmt} {f c : Addr} {fd : FuncData} {N : List Str} {row : Str} {k : Nat} (is : List Nat) (F : Fun T.K x qual st f fd) (S : FnScope N [row] (defScope st)) (hc : fd.code = .ref c) (h2 : 1 < N.length) (hk : (defScope st).names.lookup row = some .cell) (hz : is.length ≤ 1000)
    (hlf : ∀ i ∈ is, T.lf i = [row] ∧ (row, NameKind.free) ∈ (T.ls i).names ∧ ∀ y ∈ (T.ls i).names, y.2 = .free → y.1 = row)
    (hb : ∀ (A : Around) (outer : List Env) (s : Shared) (H : Hp) (E : XK), Room k (A.deeper (PyProof.Rows.envOfC qual (defScope st) s.heap.objs.size f (.ref c))) →
      PR (cxOf CX0 P w T.K mg base N qual (defScope st) f (.ref c) A outer s H E) (defBody st) (tDr1 T H 1 (is.map fun i => (i, cloFrom (cxOf CX0 P w T.K mg base N qual (defScope st) f (.ref c) A outer s H E).env.cells (T.ls i).names [])))) :
    FnOk P w T.K mg base CX0 (k + 1) f fd [row] (spL T 1 (doorsF is)) := by
  refine fn_cells F S hc (fun vs H Q E h => ?_) fun A o s H vs Q E r h => ?_
  · obtain ⟨F, ds, _, hA, hl, _⟩ := h
    rw [hA.length, hl]
    rfl
  · obtain ⟨F1, ds, en, hA, hl, h⟩ := h
    match ds, hl, hA, h with
    | [d], _, .cons (v := v) rv .nil, h =>
      refine ⟨_, hb A o s H E r, rfl, en.tb, ?_, by rw [List.length_map]; exact hz, fun H' l qs' dr e g C => ?_⟩
      · unfold L2.start
        rw [List.length_append, List.length_map, List.length_replicate]
        simp only [List.length_cons, List.length_nil]
        omega
      · have hN : N[0]? = some row := by
          have := S.pre
          cases N with
          | nil => simp at h2
          | cons a N => simp at this; simp [this]
        exact doors_end en dr e C hN (by
          rw [List.getElem?_set_ne (by decide)]
          unfold L2.start
          rfl) hk rv hlf h
end CL


set_option Elab.async false
set_option linter.all false
set_option maxRecDepth 100000
/-! The data layer, part y: answers of calls that were handed own lists. -/
namespace CL
open PySem PySem.Spec PyProof.Rows L2
mutual
/-- no list within -/
def noLst : D → Bool
  | .lst _ => false
  | .scr _ => false
  | .lam _ _ => false
  | .tup xs => noLstAll xs
  | .ins _ xs => noLstAll xs
  | _ => true
def noLstAll : List D → Bool
  | [] => true
  | x :: xs => noLst x && noLstAll xs
end
/-- what is known: F, and what F1 knows beyond lists -/
def thin (F F1 : Hp) : Hp := fun a => match F a with
  | some o => some o
  | none => (match F1 a with
    | some (.lst _) => none
    | x => x)
section
variable {T : Tx} {F F1 H H1 : Hp}
theorem thin_at {a : Addr} {o : HO} (e : Ex F F1) (h : F1 a = some o) (n : ∀ xs, o ≠ .lst xs) (n2 : ∀ ps, o ≠ .tbl ps) : thin F F1 a = some o := by
  unfold thin
  cases q : F a with
  | none =>
    dsimp only
    rw [h]
    cases o <;> first | rfl | exact (n _ rfl).elim
  | some u =>
    have k := e a u q
    rw [h] at k
    cases u <;> first | exact k.symm ▸ rfl | (obtain ⟨ps, k⟩ := k; cases k; exact (n2 _ rfl).elim)
theorem thin_none {a : Addr} (h : F a = none) (h1 : F1 a = none) : thin F F1 a = none := by
  unfold thin
  rw [h]
  dsimp only
  rw [h1]
mutual
theorem Rp.thin (e : Ex F F1) : ∀ {v : V} {d : D}, Rp T F1 v d → noLst d = true → Rp T (CL.thin F F1) v d
  | _, _, .non, _ => .non
  | _, _, .bl b, _ => .bl b
  | _, _, .int i, _ => .int i
  | _, _, .str x, _ => .str x
  | _, _, .lst _ _, n => by rw [noLst] at n; cases n
  | _, _, .tup h a, n => by rw [noLst] at n; exact .tup (thin_at e h (fun _ z => nomatch z) fun _ z => nomatch z) (RpAll.thin e a n)
  | _, _, .dct h, _ => .dct (thin_at e h (fun _ z => nomatch z) fun _ z => nomatch z)
  | _, _, .ins h k a, n => by rw [noLst] at n; exact .ins (thin_at e h (fun _ z => nomatch z) fun _ z => nomatch z) k (RpAll.thin e a n)
  | _, _, .fn i, _ => .fn i
  | _, _, .scr _, n => by rw [noLst] at n; cases n
  | _, _, .lam _ _ _ _, n => by rw [noLst] at n; cases n
theorem RpAll.thin (e : Ex F F1) : ∀ {vs : List V} {ds : List D}, RpAll T F1 vs ds → noLstAll ds = true → RpAll T (CL.thin F F1) vs ds
  | _, _, .nil, _ => .nil
  | _, _, .cons h t, n => by
    rw [noLstAll, Bool.and_eq_true] at n
    exact .cons (Rp.thin e h n.1) (RpAll.thin e t n.2)
end
theorem up_thin (e : Ex F H) (u : Up T H H F1 H1) : Up T F H (thin F F1) H1 := by
  refine ⟨fun a o z => keeps_refl (by unfold thin; rw [z]), u.h, fun a o z => ?_, fun a o z1 z2 => ?_⟩
  · unfold thin at z
    cases q : F a with
    | some w =>
      rw [q] at z
      cases z
      exact (e.trans u.h.ex) a _ q
    | none =>
      rw [q] at z
      dsimp only at z
      split at z
      · cases z
      · exact u.s a o z
  · unfold thin at z2
    rw [z1] at z2
    dsimp only at z2
    split at z2
    · cases z2
    · rename_i hx
      cases q : H a with
      | none => exact .inl rfl
      | some w =>
        refine .inr ⟨w, rfl, fun xs z => ?_⟩
        subst z
        exact hx _ (show F1 a = some (.lst xs) from u.f a _ q)
end
section
variable {T : Tx} {X : Cx} {E : XK} {e : Expr} {m : M} {ml : ML} {mr : MR} {pos : Pos}
def mzN (m : M) : M := fun z => (m (frz z)).bnd fun x => if noLst x = true then .ok x else .stuck
theorem de_zN (h : DE T X E e m) : DE T X E e (mzN m) := pe_imp h fun s H Q ⟨F, z, q, h⟩ =>
  ⟨H, frz z, q.frz, by
    unfold mzN at h
    cases em : m (frz z) with
    | stuck => rw [em] at h; exact h
    | exc c => rw [em] at h; exact h
    | ok x =>
      rw [em, bnd_ok] at h
      intro v F1 H1 u1 rx
      by_cases hf : noLst x = true
      · rw [if_pos hf] at h
        exact h v _ H1 (up_thin q.ex u1) (Rp.thin (q.ex.trans u1.f) rx hf)
      · rw [if_neg hf] at h
        exact h.elim⟩
def lzN (ml : ML) : ML := fun z => (ml (frz z)).bnd fun xs => if noLstAll xs = true then .ok xs else .stuck
theorem dl_zN (h : DL T X E e ml) : DL T X E e (lzN ml) := pe_imp h fun s H Q ⟨F, z, q, h⟩ =>
  ⟨H, frz z, q.frz, by
    unfold lzN at h
    cases em : ml (frz z) with
    | stuck => rw [em] at h; exact h
    | exc c => rw [em] at h; exact h
    | ok x =>
      rw [em, bnd_ok] at h
      intro v F1 H1 u1 rx
      by_cases hf : noLstAll x = true
      · rw [if_pos hf] at h
        obtain ⟨p, xs, r1, r2, r3, r4, r5⟩ := rx
        exact h v _ H1 (up_thin q.ex u1) ⟨p, xs, r1, r2, thin_none (q.ex.back r2) r3, r4, r5.thin (q.ex.trans u1.f) hf⟩
      · rw [if_neg hf] at h
        exact h.elim⟩
def rvN : Rv → Bool
  | .val d => noLst d
  | .own ds => noLstAll ds
  | .obj (some _) fs => fs.all noLstAll
  | .obj none _ => false
def rzN (mr : MR) : MR := fun z => (mr (frz z)).bnd fun x => if rvN x = true then .ok x else .stuck
theorem dr_zN (h : DR T X E e mr) : DR T X E e (rzN mr) := pe_imp h fun s H Q ⟨F, z, q, h⟩ =>
  ⟨H, frz z, q.frz, by
    unfold rzN at h
    cases em : mr (frz z) with
    | stuck => rw [em] at h; exact h
    | exc c => rw [em] at h; exact h
    | ok x =>
      rw [em, bnd_ok] at h
      intro v F1 H1 u1 rx
      by_cases hf : rvN x = true
      · rw [if_pos hf] at h
        refine h v _ H1 (up_thin q.ex u1) ?_
        have ee := q.ex.trans u1.f
        cases x with
        | val d => exact Rp.thin ee rx hf
        | own ds =>
          obtain ⟨p, xs, r1, r2, r3, r4, r5⟩ := rx
          exact ⟨p, xs, r1, r2, thin_none (q.ex.back r2) r3, r4, r5.thin ee hf⟩
        | obj k fs =>
          cases k with
          | none => cases hf
          | some c =>
            obtain ⟨a, r1, ps, ⟨dx, r2, r3⟩, r6, ⟨r4, r5⟩, r7⟩ := rx
            refine ⟨a, r1, ps, ⟨dx, thin_at ee r2 (fun _ z => nomatch z) (fun _ z => nomatch z), r3⟩, r6, ⟨r4, fun j p ds e1 e2 => ?_⟩, r7⟩
            obtain ⟨xs, g1, g2, g3⟩ := r5 j p ds e1 e2
            exact ⟨xs, g1, thin_none (q.ex.back (r7 p (List.mem_of_getElem? e1))) g2, g3.thin ee (List.all_eq_true.mp hf ds (List.mem_of_getElem? e2))⟩
      · rw [if_neg hf] at h
        exact h.elim⟩
end
end CL


set_option Elab.async false
set_option linter.all false
set_option maxRecDepth 100000
/-! The data layer, part z: two answers stored at once, a field read now, a new list appended to and let go. -/
namespace CL
open PySem PySem.Spec PyProof.Rows L2
section
variable {T : Tx} {X : Cx} {E : XK} {a b e : Expr} {m : M} {ml : ML} {mr mr2 : MR} {apos pos p2 : Pos} {x : Str}
theorem Sx.setRv {F0 H0 F H F1 H1 : Hp} {s : L2.St} {z : List Sd} {i : Nat} {v : V} {y : Rv} (x : Sx T F0 H0 F H s z) (u : Up T F H F1 H1) (r : (lR T).r H F1 H1 v y) : Sx T F0 H0 F1 H1 (s.set i (some v)) (z.set i (rvS y)) := by
  cases y with
  | val d => exact (x.step u).set r
  | own ds =>
    obtain ⟨p, xs, rfl, h0, hf, hp, hA⟩ := r
    exact x.setO u h0 hf hp hA
  | obj k fs =>
    obtain ⟨a, rfl, o⟩ := r
    exact x.setOb u o
def sParR (i j : Nat) (mr mr2 : MR) : MS := fun z => (mr z).bnd fun x => (mr2 z).bnd fun y => .ok (.nx ((z.set i (rvS x)).set j (rvS y)))
theorem ds_parR (i j : Nat) {x y : Str} {px py pt pt2 : Pos} {kt k2 : Nat} (hc : X.calm = true) (hN : X.N.Nodup) (ha : DR T X E a mr) (hb : DR T X E b mr2) (hi : X.N[i]? = some x := by rfl) (hj : X.N[j]? = some y := by rfl) (hij : i ≠ j := by decide)
    (hx : X.env.scope.names.lookup x = some .local := by rfl) (hy : X.env.scope.names.lookup y = some .local := by rfl)
    (hw : swappedStores [.Tuple [.Name x px, .Name y py] kt pt] (.Tuple [a, b] k2 pt2) X.env = pure (some [x, y]) := by rfl) (hs : swapsWithSole [.Tuple [.Name x px, .Name y py] kt pt] (.Tuple [a, b] k2 pt2) pos.line X.env = pure false := by rfl)
    (he : starEach [a, b] X.env = (false, eval a X.env) :: starEach [b] X.env := by rfl) (he2 : starEach [b] X.env = (false, eval b X.env) :: starEach [] X.env := by rfl) :
    DS T X E (.Assign [.Tuple [.Name x px, .Name y py] kt pt] (.Tuple [a, b] k2 pt2) pos) (sParR i j mr mr2) := ps_imp (ps_par hc hN hi hj hij hx hy (pa_cons ha (pa_cons hb pa_nil he2) he) hw hs) fun N s H ⟨F0, H0, F, z, x, h⟩ =>
  ⟨F, z, x.r, PostS.bnd (L := lR T) (x := x) h fun y v F1 H1 u1 ry h1 =>
    ⟨F1, z, x.r.up u1, PostS.bnd (L := lR T) (x := x.step u1) h1 fun y2 w F2 H2 u2 rw2 h2 => ⟨_, _, rfl, h2 _ F2 H2 ((x.setRv u1 ry).setRv u2 rw2)⟩⟩⟩
/-! ### x.f of an own holder, read now -/
def iFld (i : Nat) (n : FN) : ML := fun z => match z[i]? with
  | some (.ob (some c) fs) => (match n.ix c with
    | some j => ofO fs[j]?
    | none => .stuck)
  | _ => .stuck
theorem di_fld (i : Nat) (n : FN) (C : ClA T X.mg) {p3 : Pos} (hK : X.K = T.K := by rfl) (hN : X.N[i]? = some x := by rfl) (hv : Vis X.env.scope x := by first | exact Or.inl rfl | exact Or.inr (Or.inl rfl) | exact Or.inr (Or.inr rfl)) (hd : (x == ("__debug__" : Str)) = false := by decide)
    (hcd : (x == ("__classdict__" : Str)) = false := by decide) (hb : attributeBase (.Name x p2) n.nm X.env (eval (.Name x p2) X.env) = eval (.Name x p2) X.env := by rfl) : DI T X E (.Attribute (.Name x p2) n.nm p3) (iFld i n) :=
  pe_imp (pe_part i n C hK hN hv hd hcd hb) fun s H Q ⟨F, z, r, h⟩ => by
    unfold iFld at h
    split at h
    · rename_i c fs e1
      split at h
      · rename_i j e2
        obtain ⟨ds, e3, k⟩ := Post.ofO h
        obtain ⟨a, qs, h1, h2, h3, h4, h5⟩ := r.ob i (some c) fs e1
        have hj : j < qs.length := by rw [h4]; exact (List.getElem?_eq_some_iff.mp e3).1
        obtain ⟨xs, c1, c2, c3⟩ := h5 j qs[j] ds (List.getElem?_eq_getElem hj) e3
        exact ⟨a, c, qs, j, qs[j], h1, h2.mono r.ex, e2, List.getElem?_eq_getElem hj, k _ F H (Up.refl r.ex) ⟨qs[j], xs, rfl, .inl c1, c3⟩⟩
      · exact h.elim
    · exact h.elim
/-! ### a new list appended to and let go -/
def sAppL (ml : ML) (m : M) : MS := fun z => (ml z).bnd fun xs => (m z).bnd fun _ => if xs.length < sizeLine then .ok (.nx z) else .stuck
theorem ds_appL {cpos : Pos} (hl : DL T X E a ml) (he : DE T X E e m) (hs1 : starEach [e] X.env = (false, eval e X.env) :: starEach [] X.env := by rfl)
    (hbase : attributeBase a "append" X.env (eval a X.env) = eval a X.env := by rfl)
    (hfew : ((backTo cpos (starEach [e] X.env)).all (fun x => !x.1) && (backToKw cpos (keywordEach [] X.env)).all (fun x => x.1.isSome)
      && decide ([e].length + ([] : List Keyword).length + (if ([] : List Keyword).isEmpty then 0 else 1) < 30)) = true := by rfl) (hline : (apos.endLine == cpos.line) = true := by rfl) :
    DS T X E (.Expr (.Call (.Attribute a "append" apos) [e] [] cpos) pos) (sAppL ml m) :=
  ps_imp (ps_expr (pe_bm PySem.F.plainAttrs_list PySem.F.slot_list_append PySem.F.type_list_append mt_append hl (pa_cons he pa_nil hs1) hbase hfew hline hs1 rfl) rfl) fun N s H ⟨F0, H0, F, z, x, h⟩ =>
  ⟨F, z, x.r, PostS.bnd (L := lL T) (x := x) h fun ds v F1 H1 u1 ry h1 => by
    obtain ⟨p, xs, rfl, h0, hf, hp, hA⟩ := ry
    refine ⟨.inl ⟨rfl, xs, .inl (.inl hp)⟩, F1, z, x.r.up u1, PostS.bnd (L := lV T) (x := x.step u1) h1 fun d w F2 H2 u2 rw2 h2 => ?_⟩
    by_cases hq : ds.length < sizeLine
    · rw [if_pos hq] at h2
      exact ⟨p, xs, w, rfl, rfl, u2.h.ex _ _ hp, by rw [hA.length]; exact hq, h2 _ F2 _ (x.step ((u1.trans u2).mut h0 (u2.hid hf hp) (u2.h.ex _ _ hp)))⟩
    · rw [if_neg hq] at h2
      exact h2.elim⟩
end
end CL


set_option Elab.async false
set_option linter.all false
set_option maxRecDepth 100000
set_option maxHeartbeats 4000000
/-! sorted(set(xs)) of a list of hI. -/
namespace L2
open PySem PySem.Spec PyProof.Rows
/-- the set object at its birth -/
abbrev set0 (w : World) : Obj := { cls := .type "set", dict := none, data := .set #[] 0 (.fresh 0 0 (!w.params.followText "set-order")) }
section
variable {P : Program} {w : World} {A : Around} {E : Value → Shared → Prop} {s : Shared}
theorem set_of_list {l : Addr} {xs : Array Value} (ns : List Int) {Q : Value → Shared → Prop} (calm : A.handled = none) (hl : s.heap.IsList l xs) (hI : IntsAre xs.toList ns) (few : ns.length + 1 < scanBound)
    (k : ∀ (h' : Heap) (tk c : Nat), SetR w h' s.heap.objs.size (fun j => decide (j ∈ ns)) c → c ≤ ns.length → (∀ b o, s.heap.get? b = some o → h'.get? b = some o) → Q (.ref s.heap.objs.size) { s with heap := h', toks := tk }) :
    wpAny (model P w) A (call (.type "set") [.ref l]) Q E s := by
  have size : xs.size = ns.length := by
    rw [← Array.length_toList]
    exact IntsAre.length hI
  obtain ⟨mc, mt, mro⟩ := F.called_set.mro
  have t1 := F.called_set.made
  have t2 := F.called_set.sub
  have t3 := F.called_set.notType
  have t4 := F.called_set.canCreate
  have t5 := F.typeCall_set_1 (.ref l)
  refine wpAny_call (codeAny_of_tree (show wpAny _ _ (callAny (.type "set") _) _ _ _ from wpAny_pure ⟨Code.quiet_builtin _ (by decide +kernel), codeAny_builtin F.entry_type_call ?_⟩))
  rw [Around.under_plain (weight_type_call_type "set" [.ref l] []) rfl]
  repeat (any_goals (first | assumption | wp_step))
  refine codeAny_mono (code_set_led1 (.ref l) (E := E) (Q₁ := fun v s₁ => v = .ref s.heap.objs.size ∧ s₁ = { s with heap := s.heap.push (set0 w) }) ⟨rfl, rfl⟩) fun r s₁ hr => ?_
  cases r with
  | error e => exact hr
  | ok fl =>
    cases fl with
    | ret v =>
      obtain ⟨rfl, rfl⟩ := hr
      have born : (s.heap.push (set0 w)).get? s.heap.objs.size = some (set0 w) := Heap.get?_push_size _ rfl
      have isSet : Shared.TypeIs { s with heap := s.heap.push (set0 w) } (.ref s.heap.objs.size) "set" := ⟨_, born, rfl⟩
      have t6 := F.called_set.init.lookup
      have t7 := F.called_set.init.bind (.ref s.heap.objs.size)
      repeat (any_goals (first | assumption | wp_step))
      refine codeAny_mono (codeAny_call_builtin (R := wants (fun r s₂ => r = .none ∧ ∃ h' tk c, s₂ = { s with heap := h', toks := tk } ∧ SetR w h' s.heap.objs.size (fun j => decide (j ∈ ns)) c ∧ c ≤ ns.length ∧ ∀ b o, s.heap.get? b = some o → h'.get? b = some o) E)
        F.called_set.init.plain F.entry_set_init (check_set_init_1 isSet ?_)) fun r₂ s₂ hr₂ => ?_
      · obtain ⟨⟨ocl, odi, oda, osl⟩, at_, c1, n, c2⟩ := hl
        simp only at c1 c2
        subst c1 c2
        have at1 : (s.heap.push (set0 w)).get? l = some { cls := .type "list", dict := odi, data := .seq xs n, slots := osl } := Heap.get?_push_of_some _ at_
        have u1 := F.sub_list_set
        have u2 := F.sub_list_frozenset
        have u3 : (Value.type "list" == Value.type "dict") = false := by decide
        have lst1 : (s.heap.push (set0 w)).IsList l xs := ⟨_, at1, rfl, n, rfl⟩
        unfold Builtin.«set.__init__» noKeywords Builtin.Frozenset.updateFrom
        generalize hit : pyIter = IT
        wp_walk
        subst hit
        refine wpAny_pyIter_list lst1 (wpAny_bind (wpAny_runValue ?_))
        have below : l < s.heap.objs.size := Heap.lt_size at_
        have calm3 : A.in1.in1.in1.handled = none := by simp [calm]
        have ne1 : l ≠ (s.heap.push (set0 w)).objs.size := by
          rw [Heap.size_push]
          exact Nat.ne_of_lt (Nat.lt_succ_of_lt below)
        have out : s.heap.objs.size ∉ [(s.heap.push (set0 w)).objs.size, l] := by
          rw [Heap.size_push]
          intro hm
          simp only [List.mem_cons, List.not_mem_nil, or_false] at hm
          exact hm.elim (Nat.ne_of_lt (Nat.lt_succ_self _)) (Nat.ne_of_gt below)
        have vals : ∀ (i : Nat) (v : Value), xs[i]? = some v → ∃ z t, ns[i]? = some z ∧ v = .int z t := fun i v hv => by
          have hi : i < ns.length := by rw [← size]; exact (Array.getElem?_eq_some_iff.mp hv).1
          obtain ⟨t, e⟩ := IntsAre.int_at hI i v (by rw [Array.getElem?_toList]; exact hv)
          refine ⟨ns[i], t, List.getElem?_eq_getElem hi, ?_⟩
          rw [e, List.getD_eq_getElem?_getD, List.getElem?_eq_getElem hi] <;> rfl
        refine set_update_ints ((Walks.list calm3 _ l ne1 xs).toS) s.heap.objs.size out ns size few vals (xs.size - 0) 0 _ (by omega) (Nat.zero_le _) ⟨⟨_, Heap.get?_push_size _ rfl, rfl, rfl⟩, lst1.push _⟩ ?start ?fin
        case start => exact ⟨0, Nat.le_refl 0, setR_new_at (Heap.get?_push_of_some _ born)⟩
        case fin =>
          rintro ⟨h', g2, d2, tk2, os2⟩ c2 mv le2 R2
          have e1 : g2 = s.gens := mv.gens
          have e2 : d2 = s.drawn := mv.drawn
          have e3 : os2 = s.os := mv.os
          subst e1 e2 e3
          show wpAny _ _ _ _ _ _
          refine wpAny_pure ?_
          show wpAny _ _ (ret Value.none) _ _ _
          refine wpAny_pure ⟨rfl, h', tk2, c2, rfl, R2, by rw [← size]; exact le2, fun b o e => mv.heap b o (fun hm => ?_) (Heap.get?_push_of_some _ (Heap.get?_push_of_some _ e))⟩
          have lt := Heap.lt_size e
          rw [Heap.size_push] at hm
          simp only [List.mem_cons, List.not_mem_nil, or_false] at hm
          exact hm.elim (Nat.ne_of_lt lt) (Nat.ne_of_lt (Nat.lt_succ_of_lt lt))
      · cases r₂ with
        | error e => exact hr₂
        | ok f2 =>
          cases f2 with
          | ret r =>
            obtain ⟨rfl, h', tk, c2, rfl, R2, le2, kp⟩ := hr₂
            repeat (any_goals (first | assumption | wp_step))
            exact k _ _ _ R2 le2 kp
          | _ => exact hr₂.elim
    | _ => exact hr.elim
end
end L2


set_option Elab.async false
set_option linter.all false
set_option maxRecDepth 100000
/-! The data layer: sorted(set(xs)). -/
namespace CL
open PySem PySem.Spec PyProof.Rows L2
/-! ### unlike numbers, rising -/
def insU (x : Int) : List Int → List Int
  | [] => [x]
  | y :: ys => if x < y then x :: y :: ys else if x = y then y :: ys else y :: insU x ys
def sortU (ns : List Int) : List Int := ns.foldr insU []
theorem insU_mem {x k : Int} : ∀ {l : List Int}, k ∈ insU x l ↔ k = x ∨ k ∈ l
  | [] => by simp [insU]
  | y :: ys => by
    unfold insU
    split
    · simp
    · split
      · rename_i h
        subst h
        simp
      · simp only [List.mem_cons, insU_mem (l := ys)]
        constructor
        · rintro (h | h | h) <;> simp [h]
        · rintro (h | h | h) <;> simp [h]
theorem insU_up {x : Int} : ∀ {l : List Int}, l.Pairwise (· < ·) → (insU x l).Pairwise (· < ·)
  | [], _ => by simp [insU]
  | y :: ys, h => by
    obtain ⟨h1, h2⟩ := List.pairwise_cons.mp h
    unfold insU
    split
    · rename_i hx
      exact List.pairwise_cons.mpr ⟨fun k hk => by
        rcases List.mem_cons.mp hk with rfl | hk
        · exact hx
        · exact Int.lt_trans hx (h1 k hk), h⟩
    · split
      · exact h
      · rename_i n1 n2
        refine List.pairwise_cons.mpr ⟨fun k hk => ?_, insU_up h2⟩
        rcases insU_mem.mp hk with rfl | hk
        · omega
        · exact h1 k hk
theorem sortU_up : ∀ ns : List Int, (sortU ns).Pairwise (· < ·)
  | [] => List.Pairwise.nil
  | x :: ns => insU_up (sortU_up ns)
theorem sortU_mem {k : Int} : ∀ {ns : List Int}, k ∈ sortU ns ↔ k ∈ ns
  | [] => Iff.rfl
  | x :: ns => by
    show k ∈ insU x (sortU ns) ↔ _
    rw [insU_mem, sortU_mem, List.mem_cons]
theorem up_one : ∀ {a b : List Int}, a.Pairwise (· < ·) → b.Pairwise (· < ·) → (∀ k, k ∈ a ↔ k ∈ b) → a = b
  | [], [], _, _, _ => rfl
  | [], y :: ys, _, _, h => by have := (h y).mpr List.mem_cons_self; cases this
  | x :: xs, [], _, _, h => by have := (h x).mp List.mem_cons_self; cases this
  | x :: xs, y :: ys, ha, hb, h => by
    obtain ⟨a1, a2⟩ := List.pairwise_cons.mp ha
    obtain ⟨b1, b2⟩ := List.pairwise_cons.mp hb
    have e : x = y := by
      rcases List.mem_cons.mp ((h x).mp List.mem_cons_self) with e | e
      · exact e
      · rcases List.mem_cons.mp ((h y).mpr List.mem_cons_self) with f | f
        · exact f.symm
        · have := b1 x e
          have := a1 y f
          omega
    subst e
    rw [up_one a2 b2 fun k => ?_]
    constructor
    · intro hk
      rcases List.mem_cons.mp ((h k).mp (List.mem_cons_of_mem _ hk)) with e | e
      · have := a1 k hk
        omega
      · exact e
    · intro hk
      rcases List.mem_cons.mp ((h k).mpr (List.mem_cons_of_mem _ hk)) with e | e
      · have := b1 k hk
        omega
      · exact e
/-! ### set(xs) -/
def rSetL (w : World) : List V → Hp → VK → Prop := fun vs H Q => ∃ (a : Addr) (ns : List Int), vs = [.ref a] ∧ Rd H a (.lst (ns.map V.int)) ∧ ns.length ≤ 1000 ∧ ∀ p c, H p = none → c ≤ ns.length → Q (.ref p) (upd H p (SetO w p (fun j => decide (j ∈ ns)) c))
theorem cr_setL {X : Cx} (hc : X.calm = true) : CallR X (.type "set") (rSetL X.w) := by
  intro pins s σ H vs us Q I r h
  obtain ⟨a, ns, rfl, hr, hn, q⟩ := h
  rw [Vals.ref1 r]
  obtain ⟨z, its, n, rv, e⟩ := hr.ok I.hok
  refine set_of_list ns (I.ok.hd hc) (xs := its.toArray) ⟨_, e, rfl, n, rfl⟩ (by simpa using RZ.intsAre_vals rv) (by unfold scanBound; omega) fun h' tk c R le kp => ?_
  exact ⟨.ref _, upd H s.heap.objs.size (SetO X.w s.heap.objs.size (fun j => decide (j ∈ ns)) c), I.laid (fun b u e => kp b u e) (Nat.le_refl _) (setO_new R), rfl, q _ c (I.hok.fresh (Nat.le_refl _)) le⟩
section
variable {T : Tx} {X : Cx} {E : XK} {e : Expr} {mi : ML} {p p2 q pos : Pos}
def mSortSet (mi : ML) : ML := fun z => (mi z).bnd fun xs => (ofO (asIs xs)).bnd fun ns => if ns.length < 60 then .ok ((sortU ns).map D.int) else .stuck
theorem rp_ints {F : Hp} : ∀ ns : List Int, RpAll T F (ns.map V.int) (ns.map D.int)
  | [] => .nil
  | n :: ns => .cons (.int n) (rp_ints ns)
theorem dl_sortSet (hc : X.calm = true) (hm : X.mg "sorted" = none) (hm2 : X.mg "set" = none) (ha : DI T X E e mi) (hg : Gl X "sorted" := by rfl) (hg2 : Gl X "set" := by rfl) (he : starEach [e] X.env = (false, eval e X.env) :: starEach [] X.env := by rfl)
    (he2 : starEach [.Call (.Name "set" p2) [e] [] q] X.env = (false, eval (.Call (.Name "set" p2) [e] [] q) X.env) :: starEach [] X.env := by rfl) :
    DL T X E (.Call (.Name "sorted" p) [.Call (.Name "set" p2) [e] [] q] [] pos) (mSortSet mi) :=
  pe_imp (pe_callB (cr_sortedSet hc) hg hm (by decide +kernel) (pa_cons (pe_callTy (cr_setL hc) hg2 hm2 (by decide +kernel) (pa_cons ha pa_nil he) (by decide) (by decide) he) pa_nil he2) (by decide) (by decide) he2) fun s H Q ⟨F, z, q, h⟩ =>
  ⟨F, z, q, Post.bnd (L := lI T) h fun xs v F1 H1 u1 rx h1 => by
    obtain ⟨a, vs, rfl, hr, hA⟩ := rx
    cases hq : asIs xs with
    | none => rw [hq] at h1; exact h1.elim
    | some ns =>
      rw [hq, show ofO (some ns) = Rs.ok ns from rfl, bnd_ok] at h1
      by_cases hl : ns.length < 60
      · rw [if_pos hl] at h1
        rw [asIs_some hq] at hA
        have hvs := hA.ints
        subst hvs
        refine ⟨a, ns, rfl, hr, by omega, fun p c hp hcn => ⟨p, _, c, rfl, upd_same, by omega, fun ms l hs hmem hlen hl1 => ?_⟩⟩
        have e1 : ms = sortU ns := up_one hs (sortU_up ns) fun k => by rw [hmem k, sortU_mem]; simp
        subst e1
        have lp : l ≠ p := fun z => by rw [z, upd_same] at hl1; cases hl1
        have hl2 : H1 l = none := by rw [upd_ne lp] at hl1; exact hl1
        refine h1 _ F1 _ ((Up.newO u1.s hp).trans (Up.newO ((Up.newO (T := T) u1.s hp).s) hl1)) ⟨l, _, rfl, hl2, u1.s.back hl2, upd_same, rp_ints _⟩
      · rw [if_neg hl] at h1
        exact h1.elim⟩
/-! ### tuple(xs) of a list -/
def mTupOf (m : M) : M := fun z => (m z).bnd fun x => match x with
  | .lst xs => .ok (.tup xs)
  | _ => .stuck
theorem de_tupOf {m : M} (hm : X.mg "tuple" = none) (ha : DE T X E e m) (hg : Gl X "tuple" := by rfl) (he : starEach [e] X.env = (false, eval e X.env) :: starEach [] X.env := by rfl) : DE T X E (.Call (.Name "tuple" p) [e] [] pos) (mTupOf m) :=
  pe_imp (pe_callTy call_tuple_of hg hm (by decide +kernel) (pa_cons ha pa_nil he) (by decide) (by decide) he) fun s H Q ⟨F, z, q, h⟩ =>
  ⟨F, z, q, Post.bnd (L := lV T) h fun x v F1 H1 u1 rx h1 => by
    cases x <;> first | exact h1.elim | skip
    cases rx with
    | lst hr hA => exact ⟨_, _, rfl, .inl ⟨.inl (u1.s.rd hr), fun l hl => h1 _ (upd F1 l (.tup _)) _ (Up.new u1.s hl) (.tup upd_same (hA.mono (Ex.new (u1.s.back hl))))⟩⟩⟩
end
end CL


set_option Elab.async false
set_option linter.all false
set_option maxRecDepth 100000
/-! The data layer, part ba: a def that is handed a lambda and a list that the lambda's answer hangs on (k08's _law_bent_right): its body. -/
namespace CL
open PySem PySem.Spec PyProof.Rows L2 NdefX LamX
/-- all but p stays; the tables are in order -/
structure But (T : Tx) (p : Addr) (H H' : Hp) : Prop where
  ex : ∀ a o, a ≠ p → H a = some o → Keeps o (H' a)
  tb : Tabs T.tabs H'
section
variable {T : Tx} {p : Addr} {H H1 H2 : Hp}
theorem But.gr (b : But T p H H1) (g : Gr T H1 H2) : But T p H H2 := ⟨fun a o n e => keeps_ge (b.ex a o n e) fun u z => g.ex a u z, g.tb b.tb⟩
theorem But.mut {xs ys : List V} (b : But T p H H1) (h : H1 p = some (.lst xs)) : But T p H (upd H1 p (.lst ys)) := ⟨fun a o n e => by rw [upd_ne n]; exact b.ex a o n e, tabs_lst h b.tb⟩
theorem But.back {xs : List V} (b : But T p H H1) (h : H p = some (.lst xs)) (h1 : H1 p = some (.lst xs)) : Gr T H H1 := ⟨fun a o e => by
  by_cases n : a = p
  · subst n
    rw [h] at e
    cases e
    exact keeps_refl h1
  · exact b.ex a o n e, fun _ => b.tb⟩
end
/-- what is handed in: the lambda at f whose captured data hang on the list at p -/
structure Bn (T : Tx) (lt : LT) (f p : Addr) (vb : V) (F H : Hp) (x0 : V) (xs : List V) (d0 : D) (ds : List D) (bad : D) (i : Nat) (cp : List D → List D) : Prop where
  en : En T F H
  fp : F p = none
  at_ : H p = some (.lst (x0 :: xs))
  all : RpAll T F (x0 :: xs) (d0 :: ds)
  bd : Rp T F vb bad
  ln : ds.length < 1000
  lam : ∀ ys es, RpAll T F ys es → Rp T (upd F p (.lst ys)) (.ref f) (.lam i (cp es))
  r0 : callC (fun _ => none) lt (.lam i (cp (d0 :: ds))) (.ok []) = .ok (.bl true)
  r1 : callC (fun _ => none) lt (.lam i (cp (d0 :: ds ++ [bad]))) (.ok []) = .ok (.bl false)
  r2 : callC (fun _ => none) lt (.lam i (cp (bad :: ds))) (.ok []) = .ok (.bl false)
def spBent (T : Tx) (lt : LT) : Sp := fun vs H Q _ => ∃ f p vb F x0 xs d0 ds bad i cp, vs = [.ref f, .ref p, vb] ∧ Bn T lt f p vb F H x0 xs d0 ds bad i cp ∧ ∀ H', Gr T H H' → Q (.bl true) H'
/-- the test, asked: its answer is b -/
def tAsk (T : Tx) (lt : LT) (b : Bool) (s : L2.St) (H : Hp) (k : Hp → Prop) : Prop := ∃ F z d, R T F H s z ∧ z[0]? = some (.sh d) ∧ callC (fun _ => none) lt d (.ok []) = .ok (.bl b) ∧ ∀ H', Gr T H H' → k H'
section
variable {T : Tx} {X : Cx} {lt : LT} {j k : Nat} {p pc pk pos : Pos} {kc : Nat} {ask : Str}
theorem passAtE {X : Cx} {P : Program} {w : World} {σ : L2.St} : PassesAt (L2N.CX P w) X σ E0 := fun _ _ _ _ _ _ ⟨_, _, _, _, _, _, _, _, _, _, _, _, z⟩ => z.elim
theorem de_ask (L : LtOk X.prog X.w T X.mg X.base k lt) (hr : Room j X.A) (hk : k + 1 ≤ j) (hK : X.K = T.K := by rfl)
    (hN : X.N[0]? = some ask := by rfl) (hv : Vis X.env.scope ask := by first | exact Or.inl rfl | exact Or.inr (Or.inl rfl) | exact Or.inr (Or.inr rfl)) (hd : (ask == ("__debug__" : Str)) = false := by decide) (hcd : (ask == ("__classdict__" : Str)) = false := by decide) :
    DE T X E0 (.Call (.Name ask p) [] [] pc) (mCallC (fun _ => none) lt 0 aNil) :=
  pe_callC0 (Es := fun _ => E0) (fun σ => passAtE) L hr hk hK hN hv hd hcd
/-- the answer is b: the test 'is not b' fails, 'is b' holds -/
theorem ask_read {s : L2.St} {H : Hp} {b : Bool} {Q : VK} (h : tAsk T lt b s H fun H' => Q (.bl b) H') : tG T E0 (lV T) (mCallC (fun _ => none) lt 0 aNil) s H Q := by
  obtain ⟨F, z, d, r, hz, hc, q⟩ := h
  refine ⟨F, z, r, ?_⟩
  have e : mCallC (fun _ => none) lt 0 aNil z = .ok (.bl b) := by
    unfold mCallC mVar
    rw [hz]
    exact hc
  rw [e]
  intro v F1 H1 u rv
  cases rv
  exact q H1 u.h
theorem ps_askIf (b : Bool) {e1 : Expr} {pr : Pos} {kr : Nat} (he : DE T X E0 e1 (mCallC (fun _ => none) lt 0 aNil)) :
    PS X (.If (.Compare e1 [.IsNot] [.Constant (.bool b) kc pk] pc) [.Return (some (.Constant (.bool false) kr p)) pr] [] pos) (fun N s H => tAsk T lt b s H fun H' => N.nx s H') :=
  ps_imp (ps_if (pt_cmpR (op_notN.or op_notBl) he (pe_bl (b := b)) (nomark _)) (pss_one (ps_ret (pe_bl (b := false)))) pss_nil) fun N s H h => by
    obtain ⟨F, z, d, r, hz, hc, q⟩ := h
    refine ask_read (b := b) ⟨F, z, d, r, hz, hc, fun H' g => ?_⟩
    refine .inr ⟨b, b, rfl, rfl, ?_⟩
    refine ⟨_, rfl, ?_⟩
    have e : (!decide (b = b)) = false := by simp
    rw [e]
    exact iteF (q H' g)
theorem ps_askRet {e1 : Expr} (he : DE T X E0 e1 (mCallC (fun _ => none) lt 0 aNil)) :
    PS X (.Return (some (.Compare e1 [.Is] [.Constant (.bool true) kc pk] pc)) pos) (fun N s H => tAsk T lt true s H fun H' => N.rt (.bl true) H') :=
  ps_imp (ps_ret (pe_cmpR (op_isN.or op_isBl) he (pe_bl (b := true)) (nomark _))) fun N s H h => by
    obtain ⟨F, z, d, r, hz, hc, q⟩ := h
    refine ask_read (b := true) ⟨F, z, d, r, hz, hc, fun H' g => ?_⟩
    exact .inr ⟨true, true, rfl, rfl, q H' g⟩
variable {pa pb pe1 cpos apos ps1 : Pos} {fl bd kp : Str}
def tBApp : TS := fun N s H => ∃ p xs vb, s[1]? = some (some (.ref p)) ∧ s[2]? = some (some vb) ∧ H p = some (.lst xs) ∧ xs.length < sizeLine ∧ N.nx s (upd H p (.lst (xs ++ [vb])))
theorem ps_bApp (hN1 : X.N[1]? = some fl := by rfl) (hv1 : Vis X.env.scope fl := by first | exact Or.inl rfl | exact Or.inr (Or.inl rfl) | exact Or.inr (Or.inr rfl)) (hd1 : (fl == ("__debug__" : Str)) = false := by decide) (hcd1 : (fl == ("__classdict__" : Str)) = false := by decide)
    (hN2 : X.N[2]? = some bd := by rfl) (hv2 : Vis X.env.scope bd := by first | exact Or.inl rfl | exact Or.inr (Or.inl rfl) | exact Or.inr (Or.inr rfl)) (hd2 : (bd == ("__debug__" : Str)) = false := by decide) (hcd2 : (bd == ("__classdict__" : Str)) = false := by decide)
    (hs1 : starEach [.Name bd pb] X.env = (false, eval (.Name bd pb) X.env) :: starEach [] X.env := by rfl)
    (hbase : attributeBase (.Name fl pa) "append" X.env (eval (.Name fl pa) X.env) = eval (.Name fl pa) X.env := by rfl)
    (hfew : ((backTo cpos (starEach [.Name bd pb] X.env)).all (fun x => !x.1) && (backToKw cpos (keywordEach [] X.env)).all (fun x => x.1.isSome)
      && decide ([Expr.Name bd pb].length + ([] : List Keyword).length + (if ([] : List Keyword).isEmpty then 0 else 1) < 30)) = true := by rfl) (hline : (apos.endLine == cpos.line) = true := by rfl) :
    PS X (.Expr (.Call (.Attribute (.Name fl pa) "append" apos) [.Name bd pb] [] cpos) pos) tBApp :=
  ps_imp (ps_expr (pe_bm PySem.F.plainAttrs_list PySem.F.slot_list_append PySem.F.type_list_append mt_append (pe_var hN1 hv1 hd1 hcd1) (pa_cons (pe_var hN2 hv2 hd2 hcd2) pa_nil hs1) hbase hfew hline hs1 rfl) rfl) fun N s H ⟨p, xs, vb, h1, h2, h3, h4, q⟩ =>
  ⟨_, h1, .inl ⟨rfl, xs, .inl (.inl h3)⟩, vb, h2, p, xs, vb, rfl, rfl, h3, h4, q⟩
def tBPop : TS := fun N s H => ∃ p xs y, s[1]? = some (some (.ref p)) ∧ H p = some (.lst (xs ++ [y])) ∧ N.nx s (upd H p (.lst xs))
theorem ps_bPop (hN1 : X.N[1]? = some fl := by rfl) (hv1 : Vis X.env.scope fl := by first | exact Or.inl rfl | exact Or.inr (Or.inl rfl) | exact Or.inr (Or.inr rfl)) (hd1 : (fl == ("__debug__" : Str)) = false := by decide) (hcd1 : (fl == ("__classdict__" : Str)) = false := by decide)
    (hbase : attributeBase (.Name fl pa) "pop" X.env (eval (.Name fl pa) X.env) = eval (.Name fl pa) X.env := by rfl) (hline : (apos.endLine == cpos.line) = true := by rfl) :
    PS X (.Expr (.Call (.Attribute (.Name fl pa) "pop" apos) [] [] cpos) pos) tBPop :=
  ps_imp (ps_expr (pe_bm0 PySem.F.plainAttrs_list PySem.F.slot_list_pop PySem.F.type_list_pop mt_pop (pe_var hN1 hv1 hd1 hcd1) hbase hline) rfl) fun N s H ⟨p, xs, y, h1, h3, q⟩ =>
  ⟨_, h1, .inl ⟨rfl, _, .inl (.inl h3)⟩, p, xs ++ [y], y, rfl, rfl, h3, by simp, by rw [List.dropLast_concat]; exact q⟩
theorem ix0 {x0 : V} {xs : List V} : ixN (x0 :: xs).length 0 = some 0 := by
  unfold ixN
  rw [if_pos (by omega), if_pos (by simp)]
  rfl
def tBItem : TS := fun N s H => ∃ p x y ys, s[1]? = some (some (.ref p)) ∧ s[3]? = some (some x) ∧ H p = some (.lst (y :: ys)) ∧ N.nx s (upd H p (.lst (x :: ys)))
theorem ps_bItem {kz : Nat} {pz : Pos} (hN1 : X.N[1]? = some fl := by rfl) (hv1 : Vis X.env.scope fl := by first | exact Or.inl rfl | exact Or.inr (Or.inl rfl) | exact Or.inr (Or.inr rfl)) (hd1 : (fl == ("__debug__" : Str)) = false := by decide) (hcd1 : (fl == ("__classdict__" : Str)) = false := by decide)
    (hN3 : X.N[3]? = some kp := by rfl) (hv3 : Vis X.env.scope kp := by first | exact Or.inl rfl | exact Or.inr (Or.inl rfl) | exact Or.inr (Or.inr rfl)) (hd3 : (kp == ("__debug__" : Str)) = false := by decide) (hcd3 : (kp == ("__classdict__" : Str)) = false := by decide)
    (ha : ∀ v, assign (.Subscript (.Name fl pa) (.Constant (.int 0) kz pz) ps1) X.env v = (do
      let ov ← holding [v] (eval (.Name fl pa) X.env)
      let iv ← holding [v, ov] (eval (.Constant (.int 0) kz pz) X.env)
      standAt ps1
      holding [v, ov, iv] (setItem ov iv v)
      release [v, ov, iv] []) := by intro _; rfl)
    (hs : swapsWithSole [.Subscript (.Name fl pa) (.Constant (.int 0) kz pz) ps1] (.Name kp pb) pos.line X.env = pure false := by rfl) (hw : swappedStores [.Subscript (.Name fl pa) (.Constant (.int 0) kz pz) ps1] (.Name kp pb) X.env = pure none := by rfl)
    (h1 : (assignEach [.Subscript (.Name fl pa) (.Constant (.int 0) kz pz) ps1] X.env).map (·.2) = [assign (.Subscript (.Name fl pa) (.Constant (.int 0) kz pz) ps1) X.env] := by rfl) :
    PS X (.Assign [.Subscript (.Name fl pa) (.Constant (.int 0) kz pz) ps1] (.Name kp pb) pos) tBItem :=
  ps_imp (ps_asg (pe_var hN3 hv3 hd3 hcd3) (pg_sub (pe_var hN1 hv1 hd1 hcd1) pe_int set_list ha) hs hw h1) fun N s H ⟨p, x, y, ys, g1, g3, hp, q⟩ =>
  ⟨x, g3, _, g1, p, y :: ys, 0, 0, rfl, rfl, hp, ix0, q⟩
def tBSwap : TS := fun N s H => ∃ p x0 xs vb, s[1]? = some (some (.ref p)) ∧ s[2]? = some (some vb) ∧ H p = some (.lst (x0 :: xs)) ∧ ∀ t, H t = none → N.nx (s.set 3 (some x0)) (upd (upd H t (.tup [x0, vb])) p (.lst (vb :: xs)))
theorem ps_bSwap {kz kz2 kt k2 : Nat} {pz pz2 pk1 pt pt2 pa2 ps2 : Pos} (hc : X.calm = true) (nd : X.N.Nodup) (hN1 : X.N[1]? = some fl := by rfl) (hv1 : Vis X.env.scope fl := by first | exact Or.inl rfl | exact Or.inr (Or.inl rfl) | exact Or.inr (Or.inr rfl)) (hd1 : (fl == ("__debug__" : Str)) = false := by decide) (hcd1 : (fl == ("__classdict__" : Str)) = false := by decide)
    (hN2 : X.N[2]? = some bd := by rfl) (hv2 : Vis X.env.scope bd := by first | exact Or.inl rfl | exact Or.inr (Or.inl rfl) | exact Or.inr (Or.inr rfl)) (hd2 : (bd == ("__debug__" : Str)) = false := by decide) (hcd2 : (bd == ("__classdict__" : Str)) = false := by decide)
    (hN3 : X.N[3]? = some kp := by rfl) (hl3 : Loc X.env.scope kp := by first | exact Or.inl rfl | exact Or.inr rfl) (hf : X.fn kp = true ∨ X.env.scope.names.lookup kp = some .local := by first | exact .inl rfl | exact .inr rfl | assumption)
    (hpx : PlainIx (.Constant (.int 0) kz2 pz2) := by exact fun _ _ => rfl)
    (he : starEach [.Subscript (.Name fl pa2) (.Constant (.int 0) kz2 pz2) ps2, .Name bd pb] X.env = (false, eval (.Subscript (.Name fl pa2) (.Constant (.int 0) kz2 pz2) ps2) X.env) :: starEach [.Name bd pb] X.env := by rfl)
    (he2 : starEach [.Name bd pb] X.env = (false, eval (.Name bd pb) X.env) :: starEach [] X.env := by rfl)
    (ha : ∀ v, assign (.Subscript (.Name fl pa) (.Constant (.int 0) kz pz) ps1) X.env v = (do
      let ov ← holding [v] (eval (.Name fl pa) X.env)
      let iv ← holding [v, ov] (eval (.Constant (.int 0) kz pz) X.env)
      standAt ps1
      holding [v, ov, iv] (setItem ov iv v)
      release [v, ov, iv] []) := by intro _; rfl)
    (h2 : (assignEach [.Name kp pk1, .Subscript (.Name fl pa) (.Constant (.int 0) kz pz) ps1] X.env).map (·.2) = assign (.Name kp pk1) X.env :: (assignEach [.Subscript (.Name fl pa) (.Constant (.int 0) kz pz) ps1] X.env).map (·.2) := by rfl)
    (h3 : (assignEach [.Subscript (.Name fl pa) (.Constant (.int 0) kz pz) ps1] X.env).map (·.2) = assign (.Subscript (.Name fl pa) (.Constant (.int 0) kz pz) ps1) X.env :: (assignEach [] X.env).map (·.2) := by rfl)
    (hn : (assignEach [.Name kp pk1, .Subscript (.Name fl pa) (.Constant (.int 0) kz pz) ps1] X.env).length = 2 := by rfl) (hst : (assignEach [.Name kp pk1, .Subscript (.Name fl pa) (.Constant (.int 0) kz pz) ps1] X.env).findIdx? (·.1) = none := by rfl)
    (hs : swapsWithSole [.Tuple [.Name kp pk1, .Subscript (.Name fl pa) (.Constant (.int 0) kz pz) ps1] kt pt] (.Tuple [.Subscript (.Name fl pa2) (.Constant (.int 0) kz2 pz2) ps2, .Name bd pb] k2 pt2) pos.line X.env = pure false := by rfl)
    (hw : swappedStores [.Tuple [.Name kp pk1, .Subscript (.Name fl pa) (.Constant (.int 0) kz pz) ps1] kt pt] (.Tuple [.Subscript (.Name fl pa2) (.Constant (.int 0) kz2 pz2) ps2, .Name bd pb] k2 pt2) X.env = pure none := by rfl)
    (h1 : (assignEach [.Tuple [.Name kp pk1, .Subscript (.Name fl pa) (.Constant (.int 0) kz pz) ps1] kt pt] X.env).map (·.2) = [assign (.Tuple [.Name kp pk1, .Subscript (.Name fl pa) (.Constant (.int 0) kz pz) ps1] kt pt) X.env] := by rfl) :
    PS X (.Assign [.Tuple [.Name kp pk1, .Subscript (.Name fl pa) (.Constant (.int 0) kz pz) ps1] kt pt] (.Tuple [.Subscript (.Name fl pa2) (.Constant (.int 0) kz2 pz2) ps2, .Name bd pb] k2 pt2) pos) tBSwap :=
  ps_imp (ps_asg (pe_tup (pa_cons (pe_ix ix_list (pe_var hN1 hv1 hd1 hcd1) pe_int hpx) (pa_cons (pe_var hN2 hv2 hd2 hcd2) pa_nil he2) he)) (pg_tup hc (pgs_cons (pg_name nd hN3 hl3 hf) (pgs_cons (pg_sub (pe_var hN1 hv1 hd1 hcd1) pe_int set_list ha) pgs_nil h3) h2) hn hst) hs hw h1) fun N s H ⟨p, x0, xs, vb, g1, g2, hp, q⟩ => by
    refine ⟨_, g1, p, x0 :: xs, 0, x0, rfl, rfl, .inl (.inl hp), atI_of (j := 0) rfl, vb, g2, (by show 2 ≤ sizeLine; rw [sizeLine_eq]; decide), fun t ht => ⟨t, [x0, vb], rfl, .inl (.inl upd_same), rfl, x0, [vb], rfl, vb, [], rfl, ?_⟩⟩
    refine ⟨_, ?_, p, x0 :: xs, 0, 0, rfl, rfl, ?_, ix0, rfl, q t ht⟩
    · rw [List.getElem?_set_ne (by decide)]
      exact g1
    · rw [upd_ne (ne_of_none hp ht)]
      exact hp
end
/-! ### the body -/
def tBody (T : Tx) (lt : LT) : TS :=
  tSeq (fun N s H => tAsk T lt true s H fun H' => N.nx s H') (tSeq tBApp (tSeq (fun N s H => tAsk T lt false s H fun H' => N.nx s H') (tSeq tBPop (tSeq tBSwap (tSeq (fun N s H => tAsk T lt false s H fun H' => N.nx s H') (tSeq tBItem (fun N s H => tAsk T lt true s H fun H' => N.rt (.bl true) H')))))))
section
variable {T : Tx} {lt : LT} {f p : Addr} {vb : V} {F H H1 : Hp} {x0 : V} {xs ys : List V} {d0 : D} {ds es : List D} {bad : D} {i : Nat} {cp : List D → List D} {k : Option V}
theorem Bn.r (b : Bn T lt f p vb F H x0 xs d0 ds bad i cp) (B : But T p H H1) (hp : H1 p = some (.lst ys)) (hA : RpAll T F ys es) : R T (upd F p (.lst ys)) H1 [some (.ref f), some (.ref p), some vb, k] [.sh (.lam i (cp es)), .no, .no, .no] := by
  refine ⟨fun a o e => ?_, fun j y h hn => ?_, fun i j y1 y2 v w q h1 h2 h3 h4 o1 o2 => ?_, rfl, B.tb⟩
  · by_cases n : a = p
    · subst n
      rw [upd_same] at e
      rw [hp]
      exact keeps_refl e
    · rw [upd_ne n] at e
      obtain ⟨u, hu⟩ := keeps_some (b.en.ex a o e)
      exact keeps_ge (b.en.ex a o e) fun u z => B.ex a u n z
  · match j, h with
    | 0, h =>
      cases h
      exact ⟨_, rfl, b.lam ys es hA⟩
    | 1, h => cases h; exact (hn rfl).elim
    | 2, h => cases h; exact (hn rfl).elim
    | 3, h => cases h; exact (hn rfl).elim
    | j + 4, h => cases h
  · match i, h1 with
    | 0, h1 => cases h1; exact o1.elim
    | 1, h1 => cases h1; exact o1.elim
    | 2, h1 => cases h1; exact o1.elim
    | 3, h1 => cases h1; exact o1.elim
    | i + 4, h1 => cases h1
theorem Bn.ask (b : Bn T lt f p vb F H x0 xs d0 ds bad i cp) (B : But T p H H1) (hp : H1 p = some (.lst ys)) (hA : RpAll T F ys es) {c : Bool} (hc : callC (fun _ => none) lt (.lam i (cp es)) (.ok []) = .ok (.bl c)) {K : Hp → Prop}
    (q : ∀ H', But T p H H' → H' p = some (.lst ys) → K H') : tAsk T lt c [some (.ref f), some (.ref p), some vb, k] H1 K :=
  ⟨_, _, _, b.r B hp hA, rfl, hc, fun H' g => q H' (B.gr g) (g.ex _ _ hp)⟩
theorem bent_read (b : Bn T lt f p vb F H x0 xs d0 ds bad i cp) {N : Ends} (q : ∀ H', Gr T H H' → N.rt (.bl true) H') : tBody T lt N [some (.ref f), some (.ref p), some vb, none] H := by
  have hz : (1001 : Nat) < sizeLine := by rw [sizeLine_eq]; decide
  have hxl : xs.length = ds.length := by have := b.all.length; simpa using this
  have hl := b.ln
  have hr : RpAll T F xs ds := by cases b.all with | cons _ t => exact t
  have B0 : But T p H H := ⟨fun a o _ e => keeps_refl e, b.en.tb⟩
  refine b.ask B0 b.at_ b.all b.r0 fun H1 B1 h1 => ?_
  refine ⟨p, _, vb, rfl, rfl, h1, by simp only [List.length_cons]; omega, ?_⟩
  refine b.ask (B1.mut h1) upd_same (b.all.append (.cons b.bd .nil)) b.r1 fun H2 B2 h2 => ?_
  refine ⟨p, _, vb, rfl, h2, ?_⟩
  refine ⟨p, x0, xs, vb, rfl, rfl, upd_same, fun t ht => ?_⟩
  have B3 : But T p H (upd H2 p (.lst (x0 :: xs))) := B2.mut h2
  have g4 : Gr T (upd H2 p (.lst (x0 :: xs))) (upd (upd H2 p (.lst (x0 :: xs))) t (.tup [x0, vb])) := Gr.new ht
  have h4 : upd (upd H2 p (.lst (x0 :: xs))) t (.tup [x0, vb]) p = some (.lst (x0 :: xs)) := g4.ex _ _ upd_same
  refine b.ask ((B3.gr g4).mut h4) upd_same (.cons b.bd hr) b.r2 fun H5 B5 h5 => ?_
  refine ⟨p, x0, vb, xs, rfl, rfl, h5, ?_⟩
  refine b.ask (B5.mut h5) upd_same b.all b.r0 fun H6 B6 h6 => ?_
  exact q H6 (B6.back b.at_ h6)
end
theorem fn_bent {P : Program} {w : World} {T : Tx} {mg : Str → Option Value} {base : Heap} {lt : LT} {x qual : Str} {st : Stmt} {f : Addr} {fd : FuncData} {n0 n1 n2 n3 : Str} {k : Nat} (F : Fun T.K x qual st f fd) (S : FnScope [n0, n1, n2, n3] [n0, n1, n2] (defScope st))
    (hb : ∀ (cdv : Value) (A : Around) (outer : List Env) (s : Shared) (H : Hp) (E : XK), Room k (A.deeper (PyProof.Rows.envOfC qual (defScope st) s.heap.objs.size f cdv)) → PSs (cxOf CX0 P w T.K mg base [n0, n1, n2, n3] qual (defScope st) f cdv A outer s H E).nox (defBody st) (tBody T lt)) :
    FnOk P w T.K mg base CX0 (k + 1) f fd [n0, n1, n2] (spBent T lt) := by
  refine F.ok S (fun vs H Q E h => ?_) (fun cdv A outer s H vs Q E hr h => ?_)
  · obtain ⟨f, p, vb, F, x0, xs, d0, ds, bad, i, cp, rfl, _⟩ := h
    rfl
  · obtain ⟨f, p, vb, F, x0, xs, d0, ds, bad, i, cp, rfl, b, q⟩ := h
    exact ⟨_, hb cdv A outer s H E hr, bent_read b q⟩
end CL


set_option Elab.async false
set_option linter.all false
set_option maxRecDepth 100000
/-! The data layer, part bb: .. its call: a lambda over an own holder, the holder's list, a bad thing. -/
namespace CL
open PySem PySem.Spec PyProof.Rows L2 NdefX LamX
/-- what is captured: shared data, and the own holder in slot ih -/
def cap1 (ih : Nat) (z : List Sd) (j : Nat) : Option D := match z[j]? with
  | some (.sh d) => some d
  | some (.ob k fs) => if j = ih then some (obD k fs) else none
  | _ => none
def capsA (ih : Nat) (z : List Sd) : List Nat → Option (List D)
  | [] => some []
  | j :: js => match cap1 ih z j, capsA ih z js with
    | some d, some ds => some (d :: ds)
    | _, _ => none
def askZ (lt : LT) (i ih : Nat) (js : List Nat) (z : List Sd) : Rs D := match capsA ih z js with
  | some caps => callC (fun _ => none) lt (.lam i caps) (.ok [])
  | none => .stuck
def isBl (b : Bool) : Rs D → Bool
  | .ok (.bl c) => c == b
  | _ => false
theorem isBl_eq {b : Bool} {r : Rs D} (h : isBl b r = true) : r = .ok (.bl b) := by
  unfold isBl at h
  split at h
  · rw [beq_iff_eq] at h
    rw [h]
  · cases h
def bentB (lt : LT) (i : Nat) (js : List Nat) (ih : Nat) (n : FN) (me : M) (z : List Sd) : Bool := match z[ih]? with
  | some (.ob (some c) fs) => (match n.ix c with
    | some jf => (match fs[jf]?, me z with
      | some (d0 :: ds), .ok bad => decide (ds.length < 1000) && (isBl true (askZ lt i ih js (z.set ih (.ob (some c) (fs.set jf (d0 :: ds))))) && (isBl false (askZ lt i ih js (z.set ih (.ob (some c) (fs.set jf (d0 :: ds ++ [bad])))))
          && isBl false (askZ lt i ih js (z.set ih (.ob (some c) (fs.set jf (bad :: ds)))))))
      | _, _ => false)
    | none => false)
  | _ => false
theorem bentB_inv {lt : LT} {i : Nat} {js : List Nat} {ih : Nat} {n : FN} {me : M} {z : List Sd} (h : bentB lt i js ih n me z = true) : ∃ c fs jf d0 ds bad, z[ih]? = some (.ob (some c) fs) ∧ n.ix c = some jf ∧ fs[jf]? = some (d0 :: ds) ∧ me z = .ok bad ∧ ds.length < 1000 ∧
    askZ lt i ih js (z.set ih (.ob (some c) (fs.set jf (d0 :: ds)))) = .ok (.bl true) ∧ askZ lt i ih js (z.set ih (.ob (some c) (fs.set jf (d0 :: ds ++ [bad])))) = .ok (.bl false) ∧ askZ lt i ih js (z.set ih (.ob (some c) (fs.set jf (bad :: ds)))) = .ok (.bl false) := by
  unfold bentB at h
  split at h
  · rename_i c fs e1
    split at h
    · rename_i jf e2
      split at h
      · rename_i d0 ds bad e3 e4
        rw [Bool.and_eq_true, Bool.and_eq_true, Bool.and_eq_true] at h
        exact ⟨c, fs, jf, d0, ds, bad, e1, e2, e3, e4, of_decide_eq_true h.1, isBl_eq h.2.1, isBl_eq h.2.2.1, isBl_eq h.2.2.2⟩
      · cases h
    · cases h
  · cases h
theorem capsA_at {ih : Nat} {z : List Sd} : ∀ {js : List Nat} {ds : List D}, capsA ih z js = some ds → ds.length = js.length ∧ ∀ (k j : Nat) (d : D), js[k]? = some j → ds[k]? = some d → cap1 ih z j = some d
  | [], ds, h => by cases h; exact ⟨rfl, fun k j d a => by simp at a⟩
  | j :: js, ds, h => by
    unfold capsA at h
    split at h
    · rename_i d es e1 e2
      cases h
      obtain ⟨a, b⟩ := capsA_at e2
      refine ⟨by simp [a], fun k j' d' h1 h2 => ?_⟩
      cases k with
      | zero =>
        simp at h1 h2
        subst h1 h2
        exact e1
      | succ k => exact b k j' d' (by simpa using h1) (by simpa using h2)
    · cases h
/-- the shape of what is captured does not hang on the list -/
theorem capsA_set {ih : Nat} {z : List Sd} {c : Nat} {gs gs' : List (List D)} (hz : ih < z.length) : ∀ {js : List Nat} {ds : List D}, capsA ih (z.set ih (.ob (some c) gs)) js = some ds → ∃ es, capsA ih (z.set ih (.ob (some c) gs')) js = some es
  | [], ds, h => ⟨[], rfl⟩
  | j :: js, ds, h => by
    unfold capsA at h
    split at h
    · rename_i d es e1 e2
      obtain ⟨es', h'⟩ := capsA_set (gs' := gs') hz e2
      have : ∃ d', cap1 ih (z.set ih (.ob (some c) gs')) j = some d' := by
        unfold cap1 at e1 ⊢
        by_cases hj : ih = j
        · subst hj
          rw [List.getElem?_set_self hz]
          exact ⟨_, if_pos rfl⟩
        · rw [List.getElem?_set_ne hj] at e1 ⊢
          exact ⟨d, e1⟩
      obtain ⟨d', hd⟩ := this
      refine ⟨d' :: es', ?_⟩
      unfold capsA
      rw [hd, h']
    · cases h
/-- what is known but p -/
def hid (p : Addr) (H : Hp) : Hp := fun a => if a = p then none else H a
theorem hid_p {p : Addr} {H : Hp} : hid p H p = none := if_pos rfl
theorem hid_ne {p a : Addr} {H : Hp} (n : a ≠ p) : hid p H a = H a := if_neg n
theorem ex_hid {p : Addr} {F H : Hp} (e : Ex F H) (h : F p = none) : Ex F (hid p H) := fun a o q => by
  rw [hid_ne (ne_of_none q h)]
  exact e a o q
theorem hid_ex {p : Addr} {H : Hp} : Ex (hid p H) H := fun a o q => by
  by_cases n : a = p
  · subst n; rw [hid_p] at q; cases q
  · rw [hid_ne n] at q; exact keeps_refl q
/-- True is answered, all stays -/
def tTrue (T : Tx) (c : List Sd → Bool) : TE := fun s H Q => ∃ F z, R T F H s z ∧ c z = true ∧ ∀ H', Gr T H H' → Q (.bl true) H'
section
variable {T : Tx} {X : Cx} {i j k : Nat} {params : Arguments} {body : Expr} {scope : Scope} {c P : Addr} {p p2 p3 lpos pos : Pos} {e : Expr} {me : M} {x y : Str} {lt : LT}
theorem pe_bent (i : Nat) (js : List Nat) (ih : Nat) (n : FN) (g : DefG X.prog X.w X.K X.mg X.base CX0 k x (spBent T lt)) (C : ClA T X.mg) (hr : Room j X.A) (hk : k ≤ j) (M : MkL T X c P) (L : IsL T X i params body scope) (he : DE T X E0 e me)
    (hjs : js.map (fun s => X.N[s]?) = (T.lf i).map some) (hfr : ∀ y ∈ T.lf i, (y, NameKind.free) ∈ scope.names) (hall : ∀ y ∈ scope.names, y.2 = .free → y.1 ∈ T.lf i) (hfn : ∀ y, X.fn y = true) (hK : X.K = T.K := by rfl)
    (hN : X.N[ih]? = some y := by rfl) (hv : Vis X.env.scope y := by first | exact Or.inl rfl | exact Or.inr (Or.inl rfl) | exact Or.inr (Or.inr rfl)) (hd : (y == ("__debug__" : Str)) = false := by decide)
    (hcd : (y == ("__classdict__" : Str)) = false := by decide) (hb : attributeBase (.Name y p2) n.nm X.env (eval (.Name y p2) X.env) = eval (.Name y p2) X.env := by rfl)
    (hg : Gl X x := by rfl) (hdb : (x == ("__debug__" : Str)) = false := by decide)
    (h0 : starEach (.Lambda params body scope lpos :: [.Attribute (.Name y p2) n.nm p3, e]) X.env = (false, eval (.Lambda params body scope lpos) X.env) :: starEach [.Attribute (.Name y p2) n.nm p3, e] X.env := by rfl)
    (h1 : starEach [.Attribute (.Name y p2) n.nm p3, e] X.env = (false, eval (.Attribute (.Name y p2) n.nm p3) X.env) :: starEach [e] X.env := by rfl) (h2 : starEach [e] X.env = (false, eval e X.env) :: starEach [] X.env := by rfl)
    (hpl : (backTo pos (starEach [.Attribute (.Name y p2) n.nm p3, e] X.env)).any (·.1) = false := by rfl) :
    PE X (.Call (.Name x p) [.Lambda params body scope lpos, .Attribute (.Name y p2) n.nm p3, e] [] pos) (tTrue T (bentB lt i js ih n me)) := by
  refine ⟨fun pins s σ H Q I h => ?_⟩
  obtain ⟨F, z, q, hB, hQ⟩ := h
  obtain ⟨cc, fs, jf, d0, ds, bad, b1, b2, b3, b4, b5, b6, b7, b8⟩ := bentB_inv hB
  obtain ⟨aH, qs, g1, g2, g3, g4, g5⟩ := q.ob ih (some cc) fs b1
  have hzl : ih < z.length := (List.getElem?_eq_some_iff.mp b1).1
  have hfl : jf < fs.length := (List.getElem?_eq_some_iff.mp b3).1
  have hqj : jf < qs.length := by rw [g4]; exact hfl
  obtain ⟨xs', c1, c2, c3⟩ := g5 jf qs[jf] (d0 :: ds) (List.getElem?_eq_getElem hqj) b3
  generalize hpp : qs[jf] = pp at c1 c2 c3
  have hqp : qs[jf]? = some pp := by rw [List.getElem?_eq_getElem hqj, hpp]
  obtain ⟨x0, xs, rfl⟩ : ∃ x0 xs, xs' = x0 :: xs := by cases c3 with | cons _ _ => exact ⟨_, _, rfl⟩
  -- the captured data as a function of the list
  have ecap : ∃ cp : List D → List D, ∀ es, capsA ih (z.set ih (.ob (some cc) (fs.set jf es))) js = some (cp es) := by
    have ex : ∃ dd, capsA ih (z.set ih (.ob (some cc) (fs.set jf (d0 :: ds)))) js = some dd := by
      unfold askZ at b6
      cases q6 : capsA ih (z.set ih (.ob (some cc) (fs.set jf (d0 :: ds)))) js with
      | none => rw [q6] at b6; cases b6
      | some dd => exact ⟨dd, rfl⟩
    obtain ⟨dd, hdd⟩ := ex
    exact ⟨fun es => (capsA ih (z.set ih (.ob (some cc) (fs.set jf es))) js).getD [], fun es => by
      obtain ⟨es', h'⟩ := capsA_set (gs' := fs.set jf es) hzl hdd
      show _ = some ((capsA ih (z.set ih (.ob (some cc) (fs.set jf es))) js).getD [])
      rw [h']
      rfl⟩
  obtain ⟨cp, hcp⟩ := ecap
  unfold askZ at b6 b7 b8
  rw [hcp] at b6 b7 b8
  obtain ⟨fa, fd, ps, Fn, hm, kp, b⟩ := g.ex
  refine wpAny_Call_Name_kw (ld_glob I hg hm ?_ hdb)
  refine PySem.W.callWith_K (h₀ := X.base) I.ok.mod.kin kp (thn ((pa_cons (pe_lam (pos := lpos) M L) (pa_cons (pe_part (T := T) ih n C hK hN hv hd hcd hb) (pa_cons he pa_nil h2) h1) h0).run pos pins s σ H (fun vs H2 => ∃ f' c' vb F2, vs = [.ref f', .ref pp, vb] ∧ H2 f' = some (LamO T i f' c' (cloFrom X.env.cells scope.names [])) ∧ H2 c' = some (CodeO c' (T.lq i)) ∧ Gr T H H2 ∧ Ex F2 H2 ∧ F2 pp = none ∧ Rp T F2 vb bad) I
    ⟨q.tb, fun f' c' H1 gr nf hf hco => ⟨aH, cc, qs, jf, pp, g1, (g2.mono q.ex).mono gr.ex, b2, hqp, F, z, q.up (Up.heap q.ex gr), ?_⟩⟩) fun us s2 ⟨vs, H2, I2, rv, f', c', vb, F2, e1, hf, hco, gr, eF, fp, rb⟩ => ⟨I2.kIn, ?_⟩) h0 hpl
  · rw [b4]
    intro v F' H' u rv
    exact ⟨f', c', v, F', rfl, u.h.ex _ _ hf, u.h.ex _ _ hco, gr.trans u.h, u.s, u.hid c2 (gr.ex _ _ c1), rv⟩
  · have fr := L.has I.ok
    let gm : Cl := fun a => if (T.lf i).any (fun y => decide (X.env.cells.lookup y = some a)) = true then s2.heap.get? a else none
    have gs : ∀ {a : Addr} {o : Obj}, gm a = some o → (∃ y ∈ T.lf i, X.env.cells.lookup y = some a) ∧ s2.heap.get? a = some o := fun {a o} e => by
      have e' : (if (T.lf i).any (fun y => decide (X.env.cells.lookup y = some a)) = true then s2.heap.get? a else none) = some o := e
      split at e'
      · rename_i hy
        rw [List.any_eq_true] at hy
        obtain ⟨y, a1, a2⟩ := hy
        exact ⟨⟨y, a1, of_decide_eq_true a2⟩, e'⟩
      · cases e'
    have frG : FreeG gm H2 := fun a o e => let ⟨⟨y, _, a2⟩, _⟩ := gs e; I2.freeC y a a2
    have old : ∀ {a : Addr} {o : Obj}, gm a = some o → X.s_0.heap.objs.size ≤ a := fun {a o} e => let ⟨⟨y, _, a2⟩, _⟩ := gs e; I.ok.cab y a (hfn y) a2
    have hg2 : ∀ a o, gm a = some o → s2.heap.get? a = some o ∧ a ∉ frs X.stack := fun a o e => ⟨(gs e).2, fun hm => by
      obtain ⟨⟨y, _, a2⟩, _⟩ := gs e
      rcases List.mem_cons.mp (I2.stkSub a hm) with z1 | z1
      · exact I2.cne y a a2 z1
      · obtain ⟨_, o2, e2, _⟩ := I.ok.funs.mem z1
        exact absurd (Nat.lt_of_lt_of_le (Heap.lt_size e2) (old e)) (Nat.lt_irrefl _)⟩
    have hb2 : ∀ a o, gm a = some o → X.base.get? a = none := fun a o e => Heap.get?_none_of_le (Nat.le_trans I.ok.bsz (old e))
    have eFH : Ex F H2 := q.ex.trans gr.ex
    have eup : Ex H2 (wi gm H2) := .same fun a o e => by rw [wi_out (frG.not e)]; exact e
    have hpW : wi gm H2 pp = some (.lst (x0 :: xs)) := eup _ _ (gr.ex _ _ c1)
    let Fc := hid pp (wi gm H2)
    have eFc : Ex F Fc := ex_hid (eFH.trans eup) c2
    have eF2 : Ex F2 Fc := ex_hid (eF.trans eup) fp
    have gn : ∀ {a : Addr} {o : HO}, wi gm H2 a = some o → (∀ ws, o ≠ .lst ws) → Fc a = some o := fun {a o} e nl => by
      show hid pp (wi gm H2) a = _
      rw [hid_ne]
      · exact e
      · rintro rfl
        rw [hpW] at e
        cases e
        exact nl _ rfl
    -- the captured values
    have slotv : ∀ (s0 : Nat) (d : D) (es : List D), cap1 ih (z.set ih (.ob (some cc) (fs.set jf es))) s0 = some d → ∃ v, σ[s0]? = some (some v) ∧ ∀ ys, RpAll T Fc ys es → Rp T (upd Fc pp (.lst ys)) v d := fun s0 d es hc => by
      unfold cap1 at hc
      by_cases hs : ih = s0
      · subst hs
        rw [List.getElem?_set_self hzl] at hc
        dsimp only at hc
        rw [if_pos rfl] at hc
        cases hc
        refine ⟨.ref aH, g1, fun ys hA => ?_⟩
        have eU : Ex Fc (upd Fc pp (.lst ys)) := Ex.new hid_p
        refine hold_rp ((g2.mono eFc).mono eU) (by rw [List.length_set]; exact g4) fun m pm dm w1 w2 => ?_
        by_cases hm : jf = m
        · subst hm
          rw [hqp] at w1
          cases w1
          rw [List.getElem?_set_self hfl] at w2
          cases w2
          exact ⟨ys, upd_same, hA.mono eU⟩
        · rw [List.getElem?_set_ne hm] at w2
          obtain ⟨xm, v1, v2, v3⟩ := g5 m pm dm w1 w2
          have npm : pm ≠ pp := by
            rintro rfl
            exact hm ((List.getElem?_inj hqj g3).mp (hqp.trans w1.symm))
          refine ⟨xm, ?_, (v3.mono eFc).mono eU⟩
          rw [upd_ne npm]
          show hid pp (wi gm H2) pm = _
          rw [hid_ne npm]
          exact eup _ _ (gr.ex _ _ v1)
      · rw [List.getElem?_set_ne hs] at hc
        split at hc
        · rename_i d' hz
          cases hc
          obtain ⟨v, a1, a2⟩ := q.sh s0 d hz
          exact ⟨v, a1, fun ys hA => (a2.mono eFc).mono (Ex.new hid_p)⟩
        · rw [if_neg (Ne.symm hs)] at hc
          cases hc
        · cases hc
    have caps_ok : ∀ es, ∃ cv : List V, cv.length = (cp es).length ∧ (∀ ys, RpAll T Fc ys es → RpAll T (upd Fc pp (.lst ys)) cv (cp es)) ∧ ∀ (m : Nat) (s0 : Nat) (v : V), js[m]? = some s0 → cv[m]? = some v → σ[s0]? = some (some v) := fun es => by
      have key : ∀ (js : List Nat) (caps : List D), caps.length = js.length → (∀ (k j : Nat) (d : D), js[k]? = some j → caps[k]? = some d → cap1 ih (z.set ih (.ob (some cc) (fs.set jf es))) j = some d) →
          ∃ cv : List V, cv.length = caps.length ∧ (∀ ys, RpAll T Fc ys es → RpAll T (upd Fc pp (.lst ys)) cv caps) ∧ ∀ (m : Nat) (s0 : Nat) (v : V), js[m]? = some s0 → cv[m]? = some v → σ[s0]? = some (some v) := by
        intro js
        induction js with
        | nil => intro caps hl _; cases caps with
          | nil => exact ⟨[], rfl, fun _ _ => .nil, fun m s0 v a => by simp at a⟩
          | cons _ _ => cases hl
        | cons j0 js ih' => intro caps hl hh; cases caps with
          | nil => cases hl
          | cons d0' caps =>
            obtain ⟨cv, w0, w1, w2⟩ := ih' caps (by simpa using hl) fun k j d a b => hh (k + 1) j d (by simpa using a) (by simpa using b)
            obtain ⟨v0, a1, a2⟩ := slotv j0 d0' es (hh 0 j0 d0' rfl rfl)
            refine ⟨v0 :: cv, by simp [w0], fun ys hA => .cons (a2 ys hA) (w1 ys hA), fun m s0 v r1 r2 => ?_⟩
            cases m with
            | zero => simp at r1 r2; subst r1 r2; exact a1
            | succ m => exact w2 m s0 v (by simpa using r1) (by simpa using r2)
      obtain ⟨l1, l2⟩ := capsA_at (hcp es)
      exact key js (cp es) l1 l2
    have hjl : js.length = (T.lf i).length := by
      have := congrArg List.length hjs
      simpa using this
    have cells : ∀ (cv : List V), cv.length = js.length → (∀ (m : Nat) (s0 : Nat) (v : V), js[m]? = some s0 → cv[m]? = some v → σ[s0]? = some (some v)) → CellsR Fc (cloFrom X.env.cells scope.names []) (T.lf i) cv := fun cv lcv hcv => by
      refine ⟨lcv.trans hjl, fun m y v a1 a2 => ?_, fun y c1 a1 => ?_, fun x1 y1 c1 a1 a2 => I.ok.inj x1 y1 c1 (clo_cm fr a1) (clo_cm fr a2)⟩
      · have hy := List.mem_of_getElem? a1
        obtain ⟨s0, hs0, hNs⟩ : ∃ s0, js[m]? = some s0 ∧ X.N[s0]? = some y := by
          have e3 : (js.map (fun s => X.N[s]?))[m]? = ((T.lf i).map some)[m]? := by rw [hjs]
          rw [List.getElem?_map, List.getElem?_map, a1] at e3
          cases e4 : js[m]? with
          | none => rw [e4] at e3; cases e3
          | some s0 => rw [e4] at e3; exact ⟨s0, rfl, Option.some.inj e3⟩
        have hσ := hcv m s0 v hs0 a2
        obtain ⟨mm, hn1, hl⟩ := I2.loc
        have kind := L.f (y, .free) (hfr y hy) rfl
        have vis : Vis X.env.scope y := kind.elim (fun k => .inr (.inl k)) fun k => .inr (.inr k)
        obtain ⟨u, ru, lk⟩ := hl s0 y v hNs hσ vis
        rcases lk with ⟨k1, _⟩ | ⟨_, c1, e5, oc, e6, e7⟩
        · have k1' : X.env.scope.names.lookup y = some .local := k1
          rcases kind with k2 | k2 <;> (rw [show X.env.scope.names.lookup y = _ from k2] at k1'; cases k1')
        · refine ⟨c1, oc, u, clo_has fr (hfr y hy) e5, ?_, e7, ru⟩
          refine gn (wi_in ?_) fun _ z => nomatch z
          show (if (T.lf i).any (fun y => decide (X.env.cells.lookup y = some c1)) = true then s2.heap.get? c1 else none) = some oc
          rw [if_pos (List.any_eq_true.mpr ⟨y, hy, decide_eq_true e5⟩)]
          exact e6
      · rcases cloFrom_mem (PySem.mem_of_lookup a1) with hm2 | ⟨h3, _⟩
        · cases hm2
        · exact hall _ h3 rfl
    subst e1
    have sp1 : spBent T lt [.ref f', .ref pp, vb] (wi gm H2) (fun v H' => HasG gm H' → Q v (wo gm H')) (fun cls d H' => HasG gm H' → E0 cls d (wo gm H')) := by
      refine ⟨f', pp, vb, Fc, x0, xs, d0, ds, bad, i, cp, rfl, ⟨⟨hid_ex, tabs_wi frG (gr.tb q.tb)⟩, hid_p, hpW, c3.mono eFc, rb.mono eF2, b5, fun ys es hA => ?_, b6, b7, b8⟩, fun H' g1 k1 => hQ _ (gr.trans (gr_out frG k1 g1))⟩
      obtain ⟨cv, w0, w1, w2⟩ := caps_ok es
      obtain ⟨l1, _⟩ := capsA_at (hcp es)
      have eU : Ex Fc (upd Fc pp (.lst ys)) := Ex.new hid_p
      exact .lam (eU _ _ (gn (eup _ _ hf) fun _ z => nomatch z)) (eU _ _ (gn (eup _ _ hco) fun _ z => nomatch z)) ((cells cv (w0.trans l1) w2).mono eU) (w1 ys hA)
    have Fn' := post_cx (CX := L2N.CX X.prog X.w) Fn
    have hl : us.length = ps.length := by rw [← rv.length]; exact Fn'.len _ _ _ _ sp1
    have bb := b s2 us I2.kIn (by simpa using hl)
    rw [List.append_nil] at bb
    refine wpAny_call (codeAny_mono (Fn'.run X.A X.stack s2 (wi gm H2) ⟨us, []⟩ us [.ref f', .ref pp, vb] _ _ (hr.mono hk) (env_out frG hg2 hb2 I2.env0) bb rv sp1) fun r s' hq => ?_)
    have hq' := cr_out (Q := Q) (E := E0) frG hg2 (fun v H' k1 z1 => z1 k1) (fun cls d H' k1 z1 => z1 k1) hq
    cases r with
    | error e => exact passM pins σ H2 s2 e s' I2 hq'
    | ok fl => cases fl <;> first | exact I2.after hq' | exact False.elim hq'
/-! ### as statements -/
variable {call : Expr} {ct : List Sd → Bool}
def tIfTrue (T : Tx) (c : List Sd → Bool) : TS := fun N s H => ∃ F z, R T F H s z ∧ c z = true ∧ ∀ H', Gr T H H' → N.nx s H'
def tRetTrue (T : Tx) (c : List Sd → Bool) : TS := fun N s H => ∃ F z, R T F H s z ∧ c z = true ∧ ∀ H', Gr T H H' → N.rt (.bl true) H'
/-- if not ..: return False -/
theorem ps_ifTrue {pc pr pf : Pos} {kr : Nat} (hc : PE X call (tTrue T ct)) (hT : ∀ whole, isTrue call X.env whole = (do let v ← whole; standAt call.pos; holding [v] (truthy v)) := by intro _; rfl) :
    PS X (.If (.UnaryOp .Not call pc) [.Return (some (.Constant (.bool false) kr pf)) pr] [] pos) (tIfTrue T ct) :=
  ps_imp (ps_if (pt_not (pt_val hc hT)) (pss_one (ps_ret (pe_bl (b := false)))) pss_nil) fun N s H ⟨F, z, r, h, q⟩ =>
    ⟨F, z, r, h, fun H' g => ⟨true, rfl, iteF (q H' g)⟩⟩
theorem ps_retTrue (hc : PE X call (tTrue T ct)) : PS X (.Return (some call) pos) (tRetTrue T ct) := ps_imp (ps_ret hc) fun N s H h => h
def sIfTrue (c : List Sd → Bool) : MS := fun z => if c z = true then .ok (.nx z) else .stuck
theorem ds_ifTrue {E : XK} {pc pr pf : Pos} {kr : Nat} (hc : PE X call (tTrue T ct)) (hT : ∀ whole, isTrue call X.env whole = (do let v ← whole; standAt call.pos; holding [v] (truthy v)) := by intro _; rfl) :
    DS T X E (.If (.UnaryOp .Not call pc) [.Return (some (.Constant (.bool false) kr pf)) pr] [] pos) (sIfTrue ct) := ps_imp (ps_ifTrue hc hT) fun N s H ⟨F0, H0, F, z, x, h⟩ => by
  unfold sIfTrue at h
  by_cases hz : ct z = true
  · rw [if_pos hz] at h
    exact ⟨F, z, x.r, hz, fun H' g => h s F H' (x.step (Up.heap x.r.ex g))⟩
  · rw [if_neg hz] at h
    exact h.elim
def sRetTrue (c : List Sd → Bool) : MS := fun z => if c z = true then .ok (.rt (.bl true)) else .stuck
theorem ds_retTrue {E : XK} (hc : PE X call (tTrue T ct)) : DS T X E (.Return (some call) pos) (sRetTrue ct) := ps_imp (ps_retTrue hc) fun N s H ⟨F0, H0, F, z, x, h⟩ => by
  unfold sRetTrue at h
  by_cases hz : ct z = true
  · rw [if_pos hz] at h
    exact ⟨F, z, x.r, hz, fun H' g => h _ F H' (x.up.trans (Up.heap x.r.ex g)) (.bl true)⟩
  · rw [if_neg hz] at h
    exact h.elim
/-! ### a def that is handed data and own holders and gives all back as it was -/
def spTrue (T : Tx) (n : Nat) (c : List Sd → Bool) : Sp := fun vs H Q _ => ∃ F z, R T F H (vs.map some) z ∧ z.length = n ∧ c z = true ∧ ∀ H', Gr T H H' → Q (.bl true) H'
/-- names, handed -/
def pickS : List Nat → List Sd → Option (List Sd)
  | [], _ => some []
  | j :: js, z => match z[j]?, pickS js z with
    | some x, some xs => some (x :: xs)
    | _, _ => none
theorem pickS_at : ∀ {js : List Nat} {z zs : List Sd}, pickS js z = some zs → zs.length = js.length ∧ ∀ (k j : Nat) (x : Sd), js[k]? = some j → zs[k]? = some x → z[j]? = some x
  | [], z, zs, h => by cases h; exact ⟨rfl, fun k j x a => by simp at a⟩
  | j :: js, z, zs, h => by
    unfold pickS at h
    split at h
    · rename_i x xs e1 e2
      cases h
      obtain ⟨a, b⟩ := pickS_at e2
      refine ⟨by simp [a], fun k j' x' h1 h2 => ?_⟩
      cases k with
      | zero => simp at h1 h2; subst h1 h2; exact e1
      | succ k => exact b k j' x' (by simpa using h1) (by simpa using h2)
    · cases h
def handB (js : List Nat) (c : List Sd → Bool) (z : List Sd) : Bool := match pickS js z with
  | some zs => decide js.Nodup && (zs.all (fun x => match x with | .no => false | _ => true) && c zs)
  | none => false
/-- names read one behind the other -/
def tVars (js : List Nat) : TA := fun s H Q => ∃ vs : List V, vs.length = js.length ∧ (∀ (k j : Nat) (v : V), js[k]? = some j → vs[k]? = some v → s[j]? = some (some v)) ∧ Q vs H
theorem pa_vnil : PA X [] (tVars []) := pa_imp pa_nil fun s H Q ⟨vs, h, _, q⟩ => by
  cases vs with
  | nil => exact q
  | cons _ _ => cases h
theorem pa_vcons (i : Nat) {es : List Expr} {js : List Nat} (hr : PA X es (tVars js)) (hN : X.N[i]? = some y := by rfl) (hv : Vis X.env.scope y := by first | exact Or.inl rfl | exact Or.inr (Or.inl rfl) | exact Or.inr (Or.inr rfl)) (hd : (y == ("__debug__" : Str)) = false := by decide)
    (hcd : (y == ("__classdict__" : Str)) = false := by decide) (hs : starEach (.Name y p :: es) X.env = (false, eval (.Name y p) X.env) :: starEach es X.env := by rfl) : PA X (.Name y p :: es) (tVars (i :: js)) :=
  pa_imp (pa_cons (pe_var hN hv hd hcd) hr hs) fun s H Q ⟨vs, h, k, q⟩ => by
    cases vs with
    | nil => cases h
    | cons v vs => exact ⟨v, k 0 i v rfl rfl, vs, by simpa using h, fun m j w a b => k (m + 1) j w (by simpa using a) (by simpa using b), q⟩
theorem pe_handT {nn : Nat} {js : List Nat} {es : List Expr} (g : DefG X.prog X.w X.K X.mg X.base CX0 k x (spTrue T nn ct)) (hr : Room j X.A) (hk : k ≤ j) (ha : PA X (e :: es) (tVars js)) (hn : js.length = nn) (hg : Gl X x := by rfl) (hdb : (x == ("__debug__" : Str)) = false := by decide)
    (he : starEach (e :: es) X.env = (false, eval e X.env) :: starEach es X.env := by rfl) (hpl : (backTo pos (starEach es X.env)).any (·.1) = false := by rfl) : PE X (.Call (.Name x p) (e :: es) [] pos) (tTrue T (handB js ct)) :=
  pe_imp (pe_cal (E := E0) g hr hk passN hg ha hdb he hpl) fun s H Q ⟨F, z, r, h, q⟩ => by
    unfold handB at h
    split at h
    · rename_i zs ep
      rw [Bool.and_eq_true, Bool.and_eq_true] at h
      obtain ⟨hnd, hno, hc⟩ := h
      have hnd := of_decide_eq_true hnd
      obtain ⟨l1, l2⟩ := pickS_at ep
      have nn : ∀ {m : Nat} {x : Sd}, zs[m]? = some x → x ≠ .no := fun {m x} e z => by
        have := List.all_eq_true.mp hno x (List.mem_of_getElem? e)
        rw [z] at this
        cases this
      have key : ∀ (js : List Nat) (zs : List Sd), zs.length = js.length → (∀ (k j : Nat) (x : Sd), js[k]? = some j → zs[k]? = some x → z[j]? = some x ∧ x ≠ .no) → ∃ vs : List V, vs.length = js.length ∧ ∀ (k j : Nat) (x : Sd), js[k]? = some j → zs[k]? = some x → ∃ v, vs[k]? = some v ∧ s[j]? = some (some v) ∧ SlotOk T F H v x := by
        intro js
        induction js with
        | nil => intro zs hl _; exact ⟨[], rfl, fun k j x a => by simp at a⟩
        | cons j0 js ih => intro zs hl hh; cases zs with
          | nil => cases hl
          | cons x0 zs =>
            obtain ⟨vs, w1, w2⟩ := ih zs (by simpa using hl) fun k j x a b => hh (k + 1) j x (by simpa using a) (by simpa using b)
            obtain ⟨a1, a2⟩ := hh 0 j0 x0 rfl rfl
            obtain ⟨v, b1, b2⟩ := r.sl j0 x0 a1 a2
            refine ⟨v :: vs, by simp [w1], fun k j x r1 r2 => ?_⟩
            cases k with
            | zero => simp at r1 r2; subst r1 r2; exact ⟨v, rfl, b1, b2⟩
            | succ k => simpa using w2 k j x (by simpa using r1) (by simpa using r2)
      obtain ⟨vs, lv, kv⟩ := key js zs l1 fun k j x a b => ⟨l2 k j x a b, nn b⟩
      have get : ∀ {m : Nat} {x : Sd}, zs[m]? = some x → ∃ j v, js[m]? = some j ∧ vs[m]? = some v ∧ z[j]? = some x ∧ s[j]? = some (some v) ∧ SlotOk T F H v x := fun {m x} e => by
        have hm : m < js.length := by rw [← l1]; exact (List.getElem?_eq_some_iff.mp e).1
        obtain ⟨v, e1, e2, e3⟩ := kv m js[m] x (List.getElem?_eq_getElem hm) e
        exact ⟨js[m], v, List.getElem?_eq_getElem hm, e1, l2 m _ x (List.getElem?_eq_getElem hm) e, e2, e3⟩
      have vat : ∀ {m : Nat} {v : V}, (vs.map some)[m]? = some (some v) → vs[m]? = some v := fun {m v} e => by
        rw [List.getElem?_map] at e
        cases qv : vs[m]? with
        | none => rw [qv] at e; cases e
        | some u => rw [qv] at e; cases e; rfl
      refine ⟨vs, lv, fun m j v a b => ?_, F, zs, ⟨r.ex, fun m x e hx => ?_, fun m m' x1 x2 v1 v2 pq e1 e2 e3 e4 o1 o2 => ?_, by rw [List.append_nil, List.length_map, l1, lv], r.tb⟩, by rw [l1]; exact hn, hc, q⟩
      · have hm : m < zs.length := by rw [l1]; exact (List.getElem?_eq_some_iff.mp a).1
        obtain ⟨v', e1, e2, _⟩ := kv m j zs[m] a (List.getElem?_eq_getElem hm)
        rw [b] at e1
        cases e1
        exact e2
      · obtain ⟨j, v, _, e2, _, _, e5⟩ := get e
        exact ⟨v, by rw [List.append_nil, List.getElem?_map, e2]; rfl, e5⟩
      · rw [List.append_nil] at e3 e4
        obtain ⟨j1, w1, f1, f2, f3, f4, f5⟩ := get e1
        obtain ⟨j2, w2, f1', f2', f3', f4', f5'⟩ := get e2
        have := vat e3
        rw [f2] at this
        cases this
        have := vat e4
        rw [f2'] at this
        cases this
        have ej := r.ap j1 j2 x1 x2 v1 v2 pq f3 f3' f4 f4' o1 o2
        subst ej
        exact (List.getElem?_inj (List.getElem?_eq_some_iff.mp f1).1 hnd).mp (f1.trans f1'.symm)
    · cases h
/-- a datum is stored, True must follow -/
def cSet (i : Nat) (m : M) (c : List Sd → Bool) (z : List Sd) : Bool := match m z with
  | .ok d => c (z.set i (.sh d))
  | _ => false
def cAnd (c c2 : List Sd → Bool) (z : List Sd) : Bool := c z && c2 z
theorem pss_tset {m : M} {rest : List Stmt} (i : Nat) {pn : Pos} (nd : X.N.Nodup) (he : DE T X E0 e m) (hr : PSs X rest (tRetTrue T ct)) (hi : X.N[i]? = some y := by rfl) (hx : Loc X.env.scope y := by first | exact Or.inl rfl | exact Or.inr rfl) (hs : swapsWith e (some (.Name y pn)) pos.line X.env = pure false := by rfl)
    (hf : X.fn y = true ∨ X.env.scope.names.lookup y = some .local := by first | exact .inl rfl | exact .inr rfl | assumption) : PSs X (.Assign [.Name y pn] e pos :: rest) (tRetTrue T (cSet i m ct)) :=
  pss_imp (pss_cons (ps_set nd hi hx he hs hf) hr) fun N s H ⟨F, z, r, h, q⟩ => by
    unfold cSet at h
    split at h
    · rename_i d em
      refine ⟨F, z, r, ?_⟩
      rw [em]
      intro v F1 H1 u rv
      exact ⟨F1, _, (r.up u).set rv, h, fun H' g => q H' (u.h.trans g)⟩
    · cases h
theorem pss_tif {c2 : List Sd → Bool} {st : Stmt} {rest : List Stmt} (h1 : PS X st (tIfTrue T ct)) (hr : PSs X rest (tRetTrue T c2)) : PSs X (st :: rest) (tRetTrue T (cAnd ct c2)) :=
  pss_imp (pss_cons h1 hr) fun N s H ⟨F, z, r, h, q⟩ => by
    unfold cAnd at h
    rw [Bool.and_eq_true] at h
    exact ⟨F, z, r, h.1, fun H' g => ⟨F, z, r.up (Up.heap r.ex g), h.2, fun H2 g2 => q H2 (g.trans g2)⟩⟩
end
/-- from the handed slots: the names that follow are not set -/
def cMore (n : Nat) (c : List Sd → Bool) (z : List Sd) : Bool := c (z ++ List.replicate n .no)
theorem fn_true {P : Program} {w : World} {T : Tx} {mg : Str → Option Value} {base : Heap} {x qual : Str} {st : Stmt} {f c : Addr} {fd : FuncData} {N ps : List Str} {k : Nat} {ct : List Sd → Bool} (F : Fun T.K x qual st f fd) (S : FnScope N ps (defScope st)) (hc : fd.code = .ref c)
    (hb : ∀ (A : Around) (outer : List Env) (s : Shared) (H : Hp) (E : XK), Room k (A.deeper (PyProof.Rows.envOfC qual (defScope st) s.heap.objs.size f (.ref c))) → PSs (cxOf CX0 P w T.K mg base N qual (defScope st) f (.ref c) A outer s H E).nox (defBody st) (tRetTrue T ct)) :
    FnOk P w T.K mg base CX0 (k + 1) f fd ps (spTrue T ps.length (cMore (N.length - ps.length) ct)) := by
  obtain ⟨a1, a2, a3, a4, a5, a6, cv, a8, a9, e, l1, l2⟩ := F.ex
  subst e
  have hcv : cv = .ref c := hc
  subst hcv
  refine fn_of l1 l2 S (fun vs H Q E h => ?_) fun A o s H vs Q E r h => ?_
  · obtain ⟨F, z, r, hl, _⟩ := h
    have := r.len
    rw [List.length_map] at this
    omega
  · obtain ⟨F, z, r1, hl, hc, q⟩ := h
    have hvl : z.length = vs.length := by have := r1.len; rwa [List.length_map] at this
    have es : L2.start N vs = vs.map some ++ List.replicate (N.length - ps.length) none := by
      unfold L2.start
      rw [← hl, hvl]
    refine ⟨_, PSs.nox (hb A o s H E r), F, z ++ List.replicate (N.length - ps.length) Sd.no, ?_, hc, q⟩
    have old : ∀ {i : Nat} {x : Sd}, (z ++ List.replicate (N.length - ps.length) Sd.no)[i]? = some x → x ≠ .no → z[i]? = some x := fun {i x} e n => by
      by_cases hi : i < z.length
      · rwa [List.getElem?_append_left hi] at e
      · rw [List.getElem?_append_right (by omega), List.getElem?_replicate] at e
        split at e
        · cases e; exact (n rfl).elim
        · cases e
    have olds : ∀ {i : Nat} {x : Sd} {v : V}, z[i]? = some x → (L2.start N vs)[i]? = some (some v) → (vs.map some)[i]? = some (some v) := fun {i x v} e e2 => by
      have hi : i < z.length := (List.getElem?_eq_some_iff.mp e).1
      rw [es, List.getElem?_append_left (by rw [List.length_map]; omega)] at e2
      exact e2
    refine ⟨r1.ex, fun i x e n => ?_, fun i j x y v w p h1 h2 h3 h4 o1 o2 => ?_, ?_, r1.tb⟩
    · obtain ⟨v, h1, h2⟩ := r1.sl i x (old e n) n
      refine ⟨v, ?_, h2⟩
      have hi : i < z.length := (List.getElem?_eq_some_iff.mp (old e n)).1
      rw [es, List.getElem?_append_left (by rw [List.length_map]; omega)]
      exact h1
    · have n1 : x ≠ .no := by rintro rfl; exact o1
      have n2 : y ≠ .no := by rintro rfl; exact o2
      exact r1.ap i j x y v w p (old h1 n1) (old h2 n2) (olds (old h1 n1) h3) (olds (old h2 n2) h4) o1 o2
    · rw [es, List.length_append, List.length_append, List.length_map, List.length_replicate, List.length_replicate, hvl]
end CL


set_option Elab.async false
set_option linter.all false
set_option maxRecDepth 100000
/-! The data layer, part bc: x, y = two answers where a name is a cell; places. -/
namespace CL
open PySem PySem.Spec PyProof.Rows L2
section
variable {T : Tx} {X : Cx} {E : XK} {a b : Expr} {mr mr2 : MR} {pos : Pos}
theorem ds_asgR (i j : Nat) {x y : Str} {px py pt pt2 : Pos} {kt k2 : Nat} (hc : X.calm = true) (hN : X.N.Nodup) (ha : DR T X E a mr) (hb : DR T X E b mr2) (hi : X.N[i]? = some x := by rfl) (hj : X.N[j]? = some y := by rfl)
    (hx : Loc X.env.scope x := by first | exact Or.inl rfl | exact Or.inr rfl) (hy : Loc X.env.scope y := by first | exact Or.inl rfl | exact Or.inr rfl)
    (hfx : X.fn x = true ∨ X.env.scope.names.lookup x = some .local := by first | exact .inl rfl | exact .inr rfl | assumption) (hfy : X.fn y = true ∨ X.env.scope.names.lookup y = some .local := by first | exact .inl rfl | exact .inr rfl | assumption)
    (he : starEach [a, b] X.env = (false, eval a X.env) :: starEach [b] X.env := by rfl) (he2 : starEach [b] X.env = (false, eval b X.env) :: starEach [] X.env := by rfl)
    (h2 : (assignEach [.Name x px, .Name y py] X.env).map (·.2) = assign (.Name x px) X.env :: (assignEach [.Name y py] X.env).map (·.2) := by rfl)
    (h3 : (assignEach [.Name y py] X.env).map (·.2) = assign (.Name y py) X.env :: (assignEach [] X.env).map (·.2) := by rfl)
    (hn : (assignEach [.Name x px, .Name y py] X.env).length = 2 := by rfl) (hst : (assignEach [.Name x px, .Name y py] X.env).findIdx? (·.1) = none := by rfl)
    (hs : swapsWithSole [.Tuple [.Name x px, .Name y py] kt pt] (.Tuple [a, b] k2 pt2) pos.line X.env = pure false := by rfl)
    (hw : swappedStores [.Tuple [.Name x px, .Name y py] kt pt] (.Tuple [a, b] k2 pt2) X.env = pure none := by rfl)
    (h1 : (assignEach [.Tuple [.Name x px, .Name y py] kt pt] X.env).map (·.2) = [assign (.Tuple [.Name x px, .Name y py] kt pt) X.env] := by rfl) :
    DS T X E (.Assign [.Tuple [.Name x px, .Name y py] kt pt] (.Tuple [a, b] k2 pt2) pos) (sParR i j mr mr2) :=
  ps_imp (ps_asg (pe_tup (pa_cons ha (pa_cons hb pa_nil he2) he)) (pg_tup hc (pgs_cons (pg_name hN hi hx hfx) (pgs_cons (pg_name hN hj hy hfy) pgs_nil h3) h2) hn hst) hs hw h1) fun N s H ⟨F0, H0, F, z, x, h⟩ =>
  ⟨F, z, x.r, PostS.bnd (L := lR T) (x := x) h fun y v F1 H1 u1 ry h1 =>
    ⟨F1, z, x.r.up u1, PostS.bnd (L := lR T) (x := x.step u1) h1 fun y2 w F2 H2 u2 rw2 h2 =>
      ⟨(by show 2 ≤ sizeLine; rw [sizeLine_eq]; decide), fun t ht => ⟨t, [v, w], rfl, .inl (.inl upd_same), rfl, v, [w], rfl, w, [], rfl, rfl, h2 _ F2 _ (((x.setRv u1 ry).setRv u2 rw2).step (Up.newO u2.s ht))⟩⟩⟩⟩
end
def pRet : Stmt → Expr
  | .Return (some v) _ => v
  | _ => noE
end CL


set_option Elab.async false
set_option linter.all false
set_option maxRecDepth 100000
set_option maxHeartbeats 4000000
namespace CL
open PySem PySem.Spec L2
/-! ### is_number -/
def m_is_number : MS :=
  (sRet (mAnd (mUn (isTy .int) (mVar 0)) (mUn notD (mUn (isTy .bool) (mVar 0)))))
def f_is_number : List D → Rs D := runF 1 m_is_number
/-! ### check_row -/
def m_check_row : MS :=
  (sIf (bOr (bNot (bV (mUn (isTy .list) (mVar 0)))) (bNot (bV (mAll (mComp (.nm 1) [1] (mSeq (mVar 0)) (mCall 1 f_is_number (aCons (mVar 1) aNil)))))))
  (sRaise 0)
  sNil)
def f_check_row : List D → Rs D := runX 2 m_check_row
/-! ### is_clipping -/
def m_is_clipping : MS :=
  (sSeq (sIf (bOr (bNot (bV (mUn (isTy .tuple) (mVar 1)))) (bOr (bV (mBin neB (mUn lenD (mVar 1)) (mC (.int 3)))) (bNot (bV (mAll (mComp (.nm 2) [2] (mSeq (mVar 1)) (mCall 1 f_is_number (aCons (mVar 2) aNil))))))))
  (sRet (mC (.bl false)))
  sNil)
  (sSeq (sAsg (.tp [3, 4, 5]) (mVar 1))
  (sSeq (sIf (bOr (bV (mBin ltD (mVar 4) (mC (.int 1)))) (bV (mBin (inD true) (mVar 5) (mTup (aCons (mC (.int 1)) (aCons (mUn negD (mC (.int 1))) aNil))))))
  (sRet (mC (.bl false)))
  sNil)
  (sRet (mAnd (mChain leD ltD (mC (.int 0)) (mVar 3) (mUn lenD (mVar 0))) (mChain leD ltD (mC (.int 0)) (mBin addD (mVar 3) (mBin mulD (mVar 5) (mBin subD (mVar 4) (mC (.int 1))))) (mUn lenD (mVar 0))))))))
def f_is_clipping : List D → Rs D := runF 6 m_is_clipping
/-! ### clipped -/
def m_clipped : MS :=
  (sSeq (sAsg (.tp [2, 3, 4]) (mVar 1))
  (sRetL (mComp (.nm 5) [5] (mOf rng1 (aCons (mVar 3) aNil)) (mBin ixD (mVar 0) (mBin addD (mVar 2) (mBin mulD (mVar 4) (mVar 5)))))))
def f_clipped : List D → Rs (List D) := runL 6 m_clipped
/-! ### pasted_of -/
def m_pasted_of : MS :=
  (sSeq (sSetO 2 (mLst aNil))
  (sSeq (sFor (.nm 3) (mSeq (mVar 1))
  (sExt 2 (mCall 2 f_clipped (aCons (mVar 0) (aCons (mVar 3) aNil)))))
  (sRetO 2)))
def f_pasted_of : List D → Rs (List D) := runL 4 m_pasted_of
/-! ### pasted -/
def m_pasted : MS :=
  (sSeq (sExpr (mCall 1 f_check_row (aCons (mVar 0) aNil)))
  (sSeq (sIf (bOr (bNot (bV (mUn (isTy .list) (mVar 1)))) (bNot (bV (mAll (mComp (.nm 2) [2] (mSeq (mVar 1)) (mCall 2 f_is_clipping (aCons (mVar 0) (aCons (mVar 2) aNil))))))))
  (sRaise 1)
  sNil)
  (sRetL (mCall 2 f_pasted_of (aCons (mVar 0) (aCons (mVar 1) aNil))))))
def f_pasted : List D → Rs (List D) := runXL 3 m_pasted
/-! ### is_deed -/
def m_is_deed : MS :=
  (sSeq (sIf (bOr (bNot (bV (mUn (isTy .tuple) (mVar 0)))) (bOr (bV (mBin (inD true) (mUn lenD (mVar 0)) (mTup (aCons (mC (.int 2)) (aCons (mC (.int 3)) aNil))))) (bNot (bV (mAll (mComp (.nm 2) [2] (mSeq (mCutT (mVar 0) (oSome (mC (.int 1))) oNone)) (mCall 1 f_is_number (aCons (mVar 2) aNil))))))))
  (sRet (mC (.bl false)))
  sNil)
  (sSeq (sIf (bV (mBin eqB (mUn lenD (mVar 0)) (mC (.int 2))))
  (sRet (mBin eqB (mBin ixD (mVar 0) (mC (.int 0))) (mC (.str "put"))))
  sNil)
  (sRet (mAnd (mBin eqB (mBin ixD (mVar 0) (mC (.int 0))) (mC (.str "copy"))) (mAnd (mChain leD ltD (mC (.int 0)) (mBin ixD (mVar 0) (mC (.int 1))) (mVar 1)) (mBin gtD (mBin ixD (mVar 0) (mC (.int 2))) (mC (.int 0))))))))
def f_is_deed : List D → Rs D := runF 3 m_is_deed
/-! ### grown_of -/
def m_grown_of : MS :=
  (sSeq (sSetO 1 (mLst aNil))
  (sSeq (sFor (.nm 2) (mSeq (mVar 0))
  (sSeq (sIf (bNot (bV (mCall 2 f_is_deed (aCons (mVar 2) (aCons (mLenI (iOw 1)) aNil)))))
  (sRet (mC .non))
  sNil)
  (sIf (bV (mBin eqB (mUn lenD (mVar 2)) (mC (.int 2))))
  (sApp 1 (mBin ixD (mVar 2) (mC (.int 1))))
  (sFor (.nm 3) (mOf rng1 (aCons (mBin ixD (mVar 2) (mC (.int 2))) aNil))
  (sApp 1 (mIxI (iOw 1) (mBin addD (mBin ixD (mVar 2) (mC (.int 1))) (mVar 3))))))))
  (sRetO 1)))
def f_grown_of : List D → Rs Rv := runR 4 m_grown_of
/-! ### grown -/
def m_grown : MS :=
  (sSeq (sSetR 1 (rIf (bV (mUn (isTy .list) (mVar 0))) (mCall 1 f_grown_of (aCons (mVar 0) aNil)) (rE (mC .non))))
  (sSeq (sIf (bz (bV (mBin (isD false) (mVar 1) (mC .non))))
  (sRaise 2)
  sNil)
  (sRetV 1)))
def f_grown : List D → Rs (List D) := runXL 2 m_grown
/-! ### stands -/
def m_stands : MS :=
  (sSeq (sSet 2 (mUn lenD (mVar 1)))
  (sRet (mAny (mComp (.nm 3) [3] (mOf rng1 (aCons (mBin addD (mBin subD (mUn lenD (mVar 0)) (mVar 2)) (mC (.int 1))) aNil)) (mBin eqB (mL (mCut (iE (mVar 0)) (oSome (mVar 3)) (oSome (mBin addD (mVar 3) (mVar 2))))) (mVar 1))))))
def f_stands : List D → Rs D := runF 4 m_stands
/-! ### spans -/
def m_spans : MS :=
  (sSeq (sSet 2 (mUn negD (mC (.int 1))))
  (sSeq (sFor (.nm 3) (mSeq (mVar 1))
  (sSeq (sIf (bNot (bV (mChain ltD ltD (mVar 2) (mVar 3) (mUn lenD (mVar 0)))))
  (sRet (mC .non))
  sNil)
  (sSet 2 (mVar 3))))
  (sRet (mL (mComp (.nm 4) [4] (mOf rng2 (aCons (mC (.int 1)) (aCons (mUn lenD (mVar 1)) aNil))) (mL (mCut (iE (mVar 0)) (oSome (mBin ixD (mVar 1) (mBin subD (mVar 4) (mC (.int 1))))) (oSome (mBin addD (mBin ixD (mVar 1) (mVar 4)) (mC (.int 1)))))))))))
def f_spans : List D → Rs D := runF 5 m_spans
/-! ### are_made -/
def m_are_made : MS :=
  (sSeq (sIf (bOr (bV (mBin neB (mUn lenD (mVar 2)) (mUn lenD (mVar 3)))) (bNot (bV (mAll (mComp (.nm 4) [4] (mSeq (mVar 2)) (mCall 2 f_is_clipping (aCons (mVar 0) (aCons (mVar 4) aNil))))))))
  (sRet (mC (.bl false)))
  sNil)
  (sRet (mBin eqB (mL (mCall 2 f_pasted_of (aCons (mVar 0) (aCons (mVar 2) aNil)))) (mVar 1))))
def f_are_made : List D → Rs D := runF 5 m_are_made
/-! ### Forth.shows -/
def m_Forth_shows : MS :=
  (sSeq (sIf (bOr (bNot (bV (mCall 4 f_are_made (aCons (mVar 1) (aCons (mVar 2) (aCons (mUn (fldD .clippings) (mVar 0)) (aCons (mUn (fldD .marks) (mVar 0)) aNil))))))) (bV (mAny (mComp (.tp [3, 4, 5]) [3, 4, 5] (mSeq (mUn (fldD .clippings) (mVar 0))) (mBin ltD (mVar 5) (mC (.int 0)))))))
  (sRet (mC (.bl false)))
  sNil)
  (sSeq (sSet 6 (mCall 2 f_spans (aCons (mVar 2) (aCons (mUn (fldD .marks) (mVar 0)) aNil))))
  (sRet (mAnd (mBin (isD true) (mVar 6) (mC .non)) (mUn notD (mAny (mComp (.nm 7) [7] (mSeq (mVar 6)) (mCall 2 f_stands (aCons (mVar 1) (aCons (mVar 7) aNil))))))))))
def f_Forth_shows : List D → Rs D := runF 8 m_Forth_shows
/-! ### Either.shows -/
def m_Either_shows : MS :=
  (sSeq (sIf (bNot (bV (mCall 4 f_are_made (aCons (mVar 1) (aCons (mVar 2) (aCons (mUn (fldD .clippings) (mVar 0)) (aCons (mUn (fldD .marks) (mVar 0)) aNil)))))))
  (sRet (mC (.bl false)))
  sNil)
  (sSeq (sSet 3 (mCall 2 f_spans (aCons (mVar 2) (aCons (mUn (fldD .marks) (mVar 0)) aNil))))
  (sRet (mAnd (mBin (isD true) (mVar 3) (mC .non)) (mUn notD (mAny (mComp (.nm 4) [4] (mSeq (mVar 3)) (mOr (mCall 2 f_stands (aCons (mVar 1) (aCons (mVar 4) aNil))) (mCall 2 f_stands (aCons (mVar 1) (aCons (mL (mRev (iE (mVar 4)))) aNil)))))))))))
def f_Either_shows : List D → Rs D := runF 5 m_Either_shows
/-! ### Lacks.shows -/
def m_Lacks_shows : MS :=
  (sRet (mAnd (mChain leD ltD (mC (.int 0)) (mUn (fldD .place) (mVar 0)) (mUn lenD (mVar 2))) (mBin (inD true) (mBin ixD (mVar 2) (mUn (fldD .place) (mVar 0))) (mVar 1))))
def f_Lacks_shows : List D → Rs D := runF 3 m_Lacks_shows
/-! ### Grown.shows -/
def m_Grown_shows : MS :=
  (sSeq (sIf (bOr (bV (mBin neB (mUn lenD (mUn (fldD .deeds) (mVar 0))) (mUn lenD (mUn (fldD .marks) (mVar 0))))) (bV (mBin neB (mR (mCall 1 f_grown_of (aCons (mUn (fldD .deeds) (mVar 0)) aNil))) (mVar 1))))
  (sRet (mC (.bl false)))
  sNil)
  (sSeq (sSet 2 (mCall 2 f_spans (aCons (mVar 1) (aCons (mUn (fldD .marks) (mVar 0)) aNil))))
  (sSeq (sIf (bV (mBin (isD false) (mVar 2) (mC .non)))
  (sRet (mC (.bl false)))
  sNil)
  (sSeq (sFor (.tp [3, 4]) (mOf zip2 (aCons (mUn (fldD .marks) (mVar 0)) (aCons (mVar 2) aNil)))
  (sIf (bV (mCall 2 f_stands (aCons (mL (mCut (iE (mVar 1)) oNone (oSome (mBin subD (mBin addD (mVar 3) (mUn lenD (mVar 4))) (mC (.int 1)))))) (aCons (mVar 4) aNil))))
  (sRet (mC (.bl false)))
  sNil))
  (sRet (mC (.bl true)))))))
def f_Grown_shows : List D → Rs D := runF 5 m_Grown_shows
/-! ### alike_many -/
def m_alike_many : MS :=
  (sSeq (sSet 5 (mC (.int 0)))
  (sSeq (whileD (bAnd (bV (mBin ltD (mBin addD (mVar 4) (mVar 5)) (mUn lenD (mVar 3)))) (bV (mChain leD ltD (mC (.int 0)) (mBin addD (mVar 1) (mBin mulD (mVar 2) (mVar 5))) (mUn lenD (mVar 0)))))
  (sSeq (sIf (bV (mBin neB (mBin ixD (mVar 0) (mBin addD (mVar 1) (mBin mulD (mVar 2) (mVar 5)))) (mBin ixD (mVar 3) (mBin addD (mVar 4) (mVar 5)))))
  (sRet (mVar 5))
  sNil)
  (sAug 5 (intD fun i j => .int (i + j)) (mC (.int 1)))) 2000000)
  (sRet (mVar 5))))
def f_alike_many : List D → Rs D := runF 6 m_alike_many
/-! ### making -/
def m_making : MS :=
  (sSeq (sSetO 3 (mLst aNil))
  (sSeq (sSetO 4 (mLst aNil))
  (sSeq (sSet 5 (mC (.int 0)))
  (sSeq (whileD (bV (mBin ltD (mVar 5) (mUn lenD (mVar 1))))
  (sSeq (sSet 6 (mTup (aCons (mC (.int 0)) (aCons (mC (.int 0)) (aCons (mC (.int 1)) aNil)))))
  (sSeq (sFor (.nm 7) (mOf rng1 (aCons (mUn lenD (mVar 0)) aNil))
  (sFor (.nm 8) (mSeq (mVar 2))
  (sSet 6 (mBin maxT (mVar 6) (mTup (aCons (mCall 5 f_alike_many (aCons (mVar 0) (aCons (mVar 7) (aCons (mVar 8) (aCons (mVar 1) (aCons (mVar 5) aNil)))))) (aCons (mVar 7) (aCons (mVar 8) aNil))))))))
  (sSeq (sIf (bV (mBin eqB (mBin ixD (mVar 6) (mC (.int 0))) (mC (.int 0))))
  (sRet (mTup (aCons (mC .non) (aCons (mVar 5) aNil))))
  sNil)
  (sSeq (sApp 3 (mTup (aCons (mBin ixD (mVar 6) (mC (.int 1))) (aCons (mBin ixD (mVar 6) (mC (.int 0))) (aCons (mBin ixD (mVar 6) (mC (.int 2))) aNil)))))
  (sSeq (sApp 4 (mVar 5))
  (sAug 5 (intD fun i j => .int (i + j)) (mBin ixD (mVar 6) (mC (.int 0))))))))) 2000000)
  (sRet (mTup (aCons (mVar 3) (aCons (mVar 4) aNil))))))))
def f_making : List D → Rs D := runF 9 m_making
/-! ### forth -/
def m_forth : MS :=
  (sSeq (sExpr (mCall 1 f_check_row (aCons (mVar 0) aNil)))
  (sSeq (sExpr (mCall 1 f_check_row (aCons (mVar 1) aNil)))
  (sSeq (sAsg (.tp [2, 3]) (mCall 3 f_making (aCons (mVar 0) (aCons (mVar 1) (aCons (mTup (aCons (mC (.int 1)) aNil)) aNil)))))
  (sSeq (sIf (bV (mBin (isD false) (mVar 2) (mC .non)))
  (sRetR (rE (mMk1 2 (mVar 3))))
  sNil)
  (sRetR (mMk2 0 (iE (mVar 2)) (iE (mVar 3))))))))
def f_forth : List D → Rs Rv := runXR 4 m_forth
/-! ### either -/
def m_either : MS :=
  (sSeq (sExpr (mCall 1 f_check_row (aCons (mVar 0) aNil)))
  (sSeq (sExpr (mCall 1 f_check_row (aCons (mVar 1) aNil)))
  (sSeq (sAsg (.tp [2, 3]) (mCall 3 f_making (aCons (mVar 0) (aCons (mVar 1) (aCons (mTup (aCons (mC (.int 1)) (aCons (mUn negD (mC (.int 1))) aNil))) aNil)))))
  (sSeq (sIf (bV (mBin (isD false) (mVar 2) (mC .non)))
  (sRetR (rE (mMk1 2 (mVar 3))))
  sNil)
  (sRetR (mMk2 1 (iE (mVar 2)) (iE (mVar 3))))))))
def f_either : List D → Rs Rv := runXR 4 m_either
/-! ### own -/
def m_own : MS :=
  (sSeq (sExpr (mCall 1 f_check_row (aCons (mVar 0) aNil)))
  (sSeq (sSetO 1 (mLst aNil))
  (sSeq (sSetO 2 (mLst aNil))
  (sSeq (sSet 3 (mC (.int 0)))
  (sSeq (whileD (bV (mBin ltD (mVar 3) (mUn lenD (mVar 0))))
  (sSeq (sSet 4 (mTup (aCons (mC (.int 0)) (aCons (mC (.int 0)) aNil))))
  (sSeq (sFor (.nm 5) (mOf rng1 (aCons (mVar 3) aNil))
  (sSet 4 (mBin maxT (mVar 4) (mTup (aCons (mCall 5 f_alike_many (aCons (mVar 0) (aCons (mVar 5) (aCons (mC (.int 1)) (aCons (mVar 0) (aCons (mVar 3) aNil)))))) (aCons (mVar 5) aNil))))))
  (sSeq (sApp 2 (mVar 3))
  (sIf (bV (mBin eqB (mBin ixD (mVar 4) (mC (.int 0))) (mC (.int 0))))
  (sSeq (sApp 1 (mTup (aCons (mC (.str "put")) (aCons (mBin ixD (mVar 0) (mVar 3)) aNil))))
  (sAug 3 (intD fun i j => .int (i + j)) (mC (.int 1))))
  (sSeq (sApp 1 (mTup (aCons (mC (.str "copy")) (aCons (mBin ixD (mVar 4) (mC (.int 1))) (aCons (mBin ixD (mVar 4) (mC (.int 0))) aNil)))))
  (sAug 3 (intD fun i j => .int (i + j)) (mBin ixD (mVar 4) (mC (.int 0))))))))) 2000000)
  (sRetR (mMk2 3 (iOw 1) (iOw 2))))))))
def f_own : List D → Rs Rv := runXR 6 m_own
end CL


set_option Elab.async false
set_option linter.all false
set_option maxRecDepth 100000
set_option maxHeartbeats 4000000
namespace CL
open PySem PySem.Spec L2
/-! ### _law_row -/
def m_law_row : MS :=
  (sSeq (sSet 2 (mBin ixD (mTup (aCons (mC (.int 2)) (aCons (mC (.int 3)) (aCons (mBin powD (mC (.int 10)) (mC (.int 30))) (aCons (mC (.int 5)) aNil))))) (mBin modD (mBin fdivD (mVar 1) (mC (.int 7))) (mC (.int 4)))))
  (sSeq (sIf (bV (mBin eqB (mVar 2) (mBin powD (mC (.int 10)) (mC (.int 30)))))
  (sRet (mL (mComp (.nm 3) [3] (mSeq (mVar 0)) (mBin mulD (mBin modD (mVar 3) (mVar 2)) (mBin subD (mC (.int 1)) (mBin mulD (mBin modD (mBin addD (mBin fdivD (mVar 3) (mVar 2)) (mBin fdivD (mVar 3) (mC (.int 7)))) (mC (.int 2))) (mC (.int 2))))))))
  sNil)
  (sRet (mL (mComp (.nm 3) [3] (mSeq (mVar 0)) (mBin subD (mBin modD (mVar 3) (mVar 2)) (mBin modD (mBin fdivD (mVar 1) (mC (.int 28))) (mC (.int 3)))))))))
def f_law_row : List D → Rs D := runF 4 m_law_row
/-! ### _law_clippings -/
def m_law_clippings : MS :=
  (sSeq (sSetO 2 (mLst aNil))
  (sSeq (sFor (.nm 3) (mSeq (mIf (bV (mBin neB (mVar 0) (mL (mLst aNil)))) (mVar 1) (mL (mLst aNil))))
  (sSeq (sPar 4 5 (aCons (mBin modD (mVar 3) (mUn lenD (mVar 0))) (aCons (mBin ixD (mTup (aCons (mC (.int 1)) (aCons (mUn negD (mC (.int 1))) aNil))) (mBin modD (mBin fdivD (mVar 3) (mC (.int 3))) (mC (.int 2)))) aNil)))
  (sSeq (sSet 6 (mIf (bV (mBin eqB (mVar 5) (mC (.int 1)))) (mBin subD (mUn lenD (mVar 0)) (mVar 4)) (mBin addD (mVar 4) (mC (.int 1)))))
  (sApp 2 (mTup (aCons (mVar 4) (aCons (mBin addD (mC (.int 1)) (mBin modD (mBin fdivD (mVar 3) (mC (.int 5))) (mVar 6))) (aCons (mVar 5) aNil))))))))
  (sRet (mVar 2))))
def f_law_clippings : List D → Rs D := runF 7 m_law_clippings
/-! ### _law_pasted -/
def m_law_pasted : MS :=
  (sSeq (sSetO 2 (mLst aNil))
  (sSeq (sFor (.tp [3, 4, 5]) (mSeq (mVar 1))
  (sSeq (sSet 6 (mVar 3))
  (whileD (bAnd (bV (mBin ltD (mLenI (iOw 2)) (mBin powD (mC (.int 10)) (mC (.int 6))))) (bV (mBin gtD (mVar 4) (mC (.int 0)))))
  (sSeq (sApp 2 (mBin ixD (mVar 0) (mVar 6)))
  (sPar 6 4 (aCons (mBin addD (mVar 6) (mVar 5)) (aCons (mBin subD (mVar 4) (mC (.int 1))) aNil)))) 2000000)))
  (sRet (mVar 2))))
def f_law_pasted : List D → Rs D := runF 7 m_law_pasted
/-! ### _law_numbers -/
def m_law_numbers : MS :=
  (sSeq (sIf (bNot (bV (mUn (isTy .list) (mVar 0))))
  (sRet (mC (.bl false)))
  sNil)
  (sRet (mAll (mComp (.nm 1) [1] (mSeq (mVar 0)) (mAnd (mUn (isTy .int) (mVar 1)) (mUn notD (mUn (isTy .bool) (mVar 1))))))))
def f_law_numbers : List D → Rs D := runF 2 m_law_numbers
/-! ### _law_rising -/
def m_law_rising : MS :=
  (sSeq (sIf (bV (mAny (mComp (.nm 2) [2] (mSeq (mVar 1)) (mUn notD (mChain leD ltD (mC (.int 0)) (mVar 2) (mUn lenD (mVar 0)))))))
  (sRet (mC (.bl false)))
  sNil)
  (sRet (mAll (mComp (.tp [3, 4]) [3, 4] (mOf zip2 (aCons (mVar 1) (aCons (mL (mCut (iE (mVar 1)) (oSome (mC (.int 1))) oNone)) aNil))) (mBin ltD (mVar 3) (mVar 4))))))
def f_law_rising : List D → Rs D := runF 5 m_law_rising
/-! ### _law_is_clipping -/
def m_law_is_clipping : MS :=
  (sSeq (sIf (bOr (bNot (bV (mUn (isTy .tuple) (mVar 1)))) (bOr (bV (mBin neB (mUn lenD (mVar 1)) (mC (.int 3)))) (bNot (bV (mCall 1 f_law_numbers (aCons (mL (mSeq (mVar 1))) aNil))))))
  (sRet (mC (.bl false)))
  sNil)
  (sSeq (sAsg (.tp [2, 3, 4]) (mVar 1))
  (sSeq (sIf (bOr (bV (mBin ltD (mVar 3) (mC (.int 1)))) (bAnd (bV (mBin neB (mVar 4) (mC (.int 1)))) (bV (mBin neB (mVar 4) (mUn negD (mC (.int 1)))))))
  (sRet (mC (.bl false)))
  sNil)
  (sSeq (sSet 5 (mBin addD (mVar 2) (mBin mulD (mVar 4) (mBin subD (mVar 3) (mC (.int 1))))))
  (sRet (mAnd (mBin leD (mC (.int 0)) (mBin min2 (mVar 2) (mVar 5))) (mBin ltD (mBin max2 (mVar 2) (mVar 5)) (mUn lenD (mVar 0)))))))))
def f_law_is_clipping : List D → Rs D := runF 6 m_law_is_clipping
/-! ### _law_fewest -/
def m_law_fewest : MS :=
  (sSeq (sIf (bOr (bV (mBin neB (mUn lenD (mVar 2)) (mUn lenD (mVar 3)))) (bNot (bV (mAll (mComp (.nm 5) [5] (mSeq (mVar 2)) (mCall 2 f_law_is_clipping (aCons (mVar 0) (aCons (mVar 5) aNil))))))))
  (sRet (mC (.bl false)))
  sNil)
  (sSeq (sIf (bAnd (bNot (bV (mVar 4))) (bV (mAny (mComp (.tp [6, 7, 8]) [6, 7, 8] (mSeq (mVar 2)) (mBin eqB (mVar 8) (mUn negD (mC (.int 1))))))))
  (sRet (mC (.bl false)))
  sNil)
  (sSeq (sIf (bOr (bV (mBin neB (mCall 2 f_law_pasted (aCons (mVar 0) (aCons (mVar 2) aNil))) (mVar 1))) (bNot (bV (mCall 2 f_law_rising (aCons (mVar 1) (aCons (mVar 3) aNil))))))
  (sRet (mC (.bl false)))
  sNil)
  (sSeq (sSet 9 (mIf (bV (mVar 4)) (mL (mLst (aCons (mVar 0) (aCons (mL (mRev (iE (mVar 0)))) aNil)))) (mL (mLst (aCons (mVar 0) aNil)))))
  (sSeq (sFor (.tp [10, 11]) (mOf zip2 (aCons (mVar 3) (aCons (mL (mCut (iE (mVar 3)) (oSome (mC (.int 1))) oNone)) aNil)))
  (sSeq (sSet 12 (mL (mCut (iE (mVar 1)) (oSome (mVar 10)) (oSome (mBin addD (mVar 11) (mC (.int 1)))))))
  (sFor (.nm 5) (mSeq (mVar 9))
  (sIf (bV (mAny (mComp (.nm 13) [13] (mOf rng1 (aCons (mUn lenD (mVar 5)) aNil)) (mBin eqB (mL (mCut (iE (mVar 5)) (oSome (mVar 13)) (oSome (mBin addD (mVar 13) (mUn lenD (mVar 12)))))) (mVar 12)))))
  (sRet (mC (.bl false)))
  sNil))))
  (sRet (mC (.bl true))))))))
def f_law_fewest : List D → Rs D := runF 14 m_law_fewest
/-! ### _law_lacks -/
def m_law_lacks : MS :=
  (sRet (mAnd (mChain leD ltD (mC (.int 0)) (mVar 2) (mUn lenD (mVar 1))) (mUn notD (mAny (mComp (.nm 3) [3] (mSeq (mVar 0)) (mBin eqB (mVar 3) (mBin ixD (mVar 1) (mVar 2))))))))
def f_law_lacks : List D → Rs D := runF 4 m_law_lacks
/-! ### _law_grown -/
def m_law_grown : MS :=
  (sSeq (sSetO 1 (mLst aNil))
  (sSeq (sFor (.nm 2) (mSeq (mVar 0))
  (sSeq (sIf (bOr (bNot (bV (mUn (isTy .tuple) (mVar 2)))) (bOr (bV (mBin ltD (mUn lenD (mVar 2)) (mC (.int 2)))) (bNot (bV (mCall 1 f_law_numbers (aCons (mL (mSeq (mCutT (mVar 2) (oSome (mC (.int 1))) oNone))) aNil))))))
  (sRet (mC .non))
  sNil)
  (sIf (bAnd (bV (mBin eqB (mBin ixD (mVar 2) (mC (.int 0))) (mC (.str "put")))) (bV (mBin eqB (mUn lenD (mVar 2)) (mC (.int 2)))))
  (sSetO 1 (mCat (iOw 1) (mLst (aCons (mBin ixD (mVar 2) (mC (.int 1))) aNil))))
  (sIf (bAnd (bV (mBin eqB (mBin ixD (mVar 2) (mC (.int 0))) (mC (.str "copy")))) (bAnd (bV (mBin eqB (mUn lenD (mVar 2)) (mC (.int 3)))) (bAnd (bV (mChain leD ltD (mC (.int 0)) (mBin ixD (mVar 2) (mC (.int 1))) (mLenI (iOw 1)))) (bV (mBin gtD (mBin ixD (mVar 2) (mC (.int 2))) (mC (.int 0)))))))
  (sFor (.nm 3) (mOf rng2 (aCons (mBin ixD (mVar 2) (mC (.int 1))) (aCons (mBin addD (mBin ixD (mVar 2) (mC (.int 1))) (mBin ixD (mVar 2) (mC (.int 2)))) aNil)))
  (sApp 1 (mIxI (iOw 1) (mVar 3))))
  (sRet (mC .non))))))
  (sRet (mVar 1))))
def f_law_grown : List D → Rs D := runF 4 m_law_grown
/-! ### _law_own -/
def m_law_own : MS :=
  (sSeq (sIf (bOr (bV (mBin neB (mUn lenD (mVar 1)) (mUn lenD (mVar 2)))) (bOr (bV (mBin neB (mCall 1 f_law_grown (aCons (mVar 1) aNil)) (mVar 0))) (bNot (bV (mCall 2 f_law_rising (aCons (mVar 0) (aCons (mVar 2) aNil)))))))
  (sRet (mC (.bl false)))
  sNil)
  (sSeq (sFor (.tp [3, 4]) (mOf zip2 (aCons (mVar 2) (aCons (mL (mCut (iE (mVar 2)) (oSome (mC (.int 1))) oNone)) aNil)))
  (sSeq (sSet 5 (mL (mCut (iE (mVar 0)) (oSome (mVar 3)) (oSome (mBin addD (mVar 4) (mC (.int 1)))))))
  (sIf (bV (mAny (mComp (.nm 6) [6] (mOf rng1 (aCons (mVar 3) aNil)) (mBin eqB (mL (mCut (iE (mVar 0)) (oSome (mVar 6)) (oSome (mBin addD (mVar 6) (mUn lenD (mVar 5)))))) (mVar 5)))))
  (sRet (mC (.bl false)))
  sNil)))
  (sRet (mC (.bl true)))))
def f_law_own : List D → Rs D := runF 7 m_law_own
/-! ### _law_cells -/
def m_law_cells : MS :=
  (sSeq (sSet 1 (mL (mCutS (mVar 0) oNone (oSome (mC (.int 63))))))
  (sSeq (sIf (bV (mBin eqB (mBin modD (mBin fdivD (mSum (iE (mVar 1))) (mC (.int 11))) (mC (.int 13))) (mC (.int 4))))
  (sSet 1 (mL (mCat (iE (mVar 1)) (mComp (.nm 2) [2] (mSeq (mL (mCut (iE (mVar 1)) oNone (oSome (mC (.int 37)))))) (mBin addD (mBin fdivD (mVar 2) (mC (.int 3))) (mC (.int 977)))))))
  sNil)
  (sRet (mVar 1))))
def f_law_cells : List D → Rs D := runF 3 m_law_cells
end CL


set_option Elab.async false
set_option linter.all false
set_option maxRecDepth 100000
namespace CL
open PySem L2
/-! ### plain kinds of data -/
def isNum : D → Bool
  | .int _ => true
  | _ => false
def okD : D → Bool
  | .ins _ _ => false
  | .fn _ => false
  | .scr _ => false
  | .lam _ _ => false
  | _ => true
/-! ### comprehensions -/
theorem compD_map {i : Nat} {me : M} {z : List Sd} {g : D → D} : ∀ (ds : List D), (∀ d ∈ ds, me (z.set i (.sh d)) = .ok (g d)) → compD (.nm i) me z ds = .ok (ds.map g)
  | [], _ => rfl
  | d :: ds, h => by
    simp only [compD, setT, bnd_ok]
    rw [h d List.mem_cons_self, compD_map ds fun x hx => h x (List.mem_cons_of_mem _ hx)]
    rfl
theorem mComp_map {i : Nat} {vs : List Nat} {mi : ML} {me : M} {z : List Sd} {ds : List D} (g : D → D) (hi : mi z = .ok ds) (hl : ds.length ≤ sizeLine) (h : ∀ d ∈ ds, me ((wipeD z vs).set i (.sh d)) = .ok (g d)) : mComp (.nm i) vs mi me z = .ok (ds.map g) := by
  unfold mComp
  rw [hi, bnd_ok, if_pos hl]
  exact compD_map ds h
theorem asBs_of {α : Type} (f : α → Bool) (l : List α) : asBs (l.map fun x => D.bl (f x)) = some (l.map f) := by
  have := asBs_map (l.map f)
  rw [List.map_map] at this
  exact this
theorem mAll_comp {i : Nat} {vs : List Nat} {mi : ML} {me : M} {z : List Sd} {ds : List D} (g : D → Bool) (hi : mi z = .ok ds) (hl : ds.length ≤ sizeLine) (h : ∀ d ∈ ds, me ((wipeD z vs).set i (.sh d)) = .ok (.bl (g d))) : mAll (mComp (.nm i) vs mi me) z = .ok (.bl (ds.all g)) := by
  unfold mAll
  rw [mComp_map (fun d => D.bl (g d)) hi hl h, bnd_ok, asBs_of]
  show Rs.ok (D.bl ((ds.map g).all id)) = _
  rw [List.all_map]
  rfl
theorem mAny_comp {i : Nat} {vs : List Nat} {mi : ML} {me : M} {z : List Sd} {ds : List D} (g : D → Bool) (hi : mi z = .ok ds) (hl : ds.length ≤ sizeLine) (h : ∀ d ∈ ds, me ((wipeD z vs).set i (.sh d)) = .ok (.bl (g d))) : mAny (mComp (.nm i) vs mi me) z = .ok (.bl (ds.any g)) := by
  unfold mAny
  rw [mComp_map (fun d => D.bl (g d)) hi hl h, bnd_ok, asBs_of]
  show Rs.ok (D.bl ((ds.map g).any id)) = _
  rw [List.any_map]
  rfl
/-! ### steps -/
theorem sSeq_nx {m1 m2 : MS} {z z' : List Sd} (h : m1 z = .ok (.nx z')) : sSeq m1 m2 z = m2 z' := by unfold sSeq; rw [h]; rfl
theorem sSeq_rt {m1 m2 : MS} {z : List Sd} {d : D} (h : m1 z = .ok (.rt d)) : sSeq m1 m2 z = .ok (.rt d) := by unfold sSeq; rw [h]; rfl
theorem sSeq_exc {m1 m2 : MS} {z : List Sd} {c : Nat} (h : m1 z = .exc c) : sSeq m1 m2 z = .exc c := by unfold sSeq; rw [h]; rfl
theorem sIf_t {t : MB} {m1 m2 : MS} {z : List Sd} (h : t z = .ok true) : sIf t m1 m2 z = m1 z := by unfold sIf; rw [h]; rfl
theorem sIf_f {t : MB} {m1 m2 : MS} {z : List Sd} (h : t z = .ok false) : sIf t m1 m2 z = m2 z := by unfold sIf; rw [h]; rfl
theorem sIf_b {t : MB} {m1 m2 : MS} {z : List Sd} {b : Bool} (h : t z = .ok b) : sIf t m1 m2 z = if b then m1 z else m2 z := by unfold sIf; rw [h]; rfl
theorem bOr_f {a b : MB} {z : List Sd} (h : a z = .ok false) : bOr a b z = b z := by unfold bOr; rw [h]; rfl
theorem bOr_t {a b : MB} {z : List Sd} (h : a z = .ok true) : bOr a b z = .ok true := by unfold bOr; rw [h]; rfl
theorem bAnd_t {a b : MB} {z : List Sd} (h : a z = .ok true) : bAnd a b z = b z := by unfold bAnd; rw [h]; rfl
theorem bAnd_f {a b : MB} {z : List Sd} (h : a z = .ok false) : bAnd a b z = .ok false := by unfold bAnd; rw [h]; rfl
theorem bNot_b {a : MB} {z : List Sd} {b : Bool} (h : a z = .ok b) : bNot a z = .ok (!b) := by unfold bNot; rw [h]; rfl
theorem bV_b {a : M} {z : List Sd} {b : Bool} (h : a z = .ok (.bl b)) : bV a z = .ok b := by unfold bV; rw [h]; rfl
theorem mBin_ok {f : D → D → Option D} {a b : M} {z : List Sd} {x y d : D} (ha : a z = .ok x) (hb : b z = .ok y) (h : f x y = some d) : mBin f a b z = .ok d := by unfold mBin; rw [ha, bnd_ok, hb, bnd_ok, h]; rfl
theorem mUn_ok {f : D → Option D} {a : M} {z : List Sd} {x d : D} (ha : a z = .ok x) (h : f x = some d) : mUn f a z = .ok d := by unfold mUn; rw [ha, bnd_ok, h]; rfl
theorem sFor_ok {t : Tg} {mi : ML} {m : MS} {z : List Sd} {ds : List D} (h : mi z = .ok ds) : sFor t mi m z = forD t m ds z := by unfold sFor; rw [h]; rfl
theorem sRet_ok {m : M} {z : List Sd} {d : D} (h : m (frz z) = .ok d) : sRet m z = .ok (.rt d) := by unfold sRet; rw [h]; rfl
theorem sRetL_ok {m : ML} {z : List Sd} {d : List D} (h : m z = .ok d) : sRetL m z = .ok (.rl d) := by unfold sRetL; rw [h]; rfl
theorem sSet_ok {i : Nat} {m : M} {z : List Sd} {d : D} (h : m z = .ok d) : sSet i m z = .ok (.nx (z.set i (.sh d))) := by unfold sSet; rw [h]; rfl
theorem sSetO_ok {i : Nat} {m : ML} {z : List Sd} {d : List D} (h : m z = .ok d) : sSetO i m z = .ok (.nx (z.set i (.ow d))) := by unfold sSetO; rw [h]; rfl
theorem sExpr_ok {m : M} {z : List Sd} {d : D} (h : m z = .ok d) : sExpr m z = .ok (.nx z) := by unfold sExpr; rw [h]; rfl
theorem sExpr_exc {m : M} {z : List Sd} {c : Nat} (h : m z = .exc c) : sExpr m z = .exc c := by unfold sExpr; rw [h]; rfl
theorem mCall_ok {α : Type} {n : Nat} {f : List D → Rs α} {ms : ML} {z : List Sd} {ds : List D} (h : ms z = .ok ds) (hn : ds.length = n) : mCall n f ms z = f ds := by unfold mCall; rw [h, bnd_ok, if_pos hn]
theorem sExt_ok {i : Nat} {mi : ML} {z : List Sd} {ds es : List D} (h0 : z[i]? = some (.ow ds)) (h : mi z = .ok es) (hl : ds.length + es.length ≤ sizeLine) : sExt i mi z = .ok (.nx (z.set i (.ow (ds ++ es)))) := by
  unfold sExt
  rw [h0]
  dsimp only
  rw [h, bnd_ok, if_pos hl]
theorem sApp_ok {i : Nat} {m : M} {z : List Sd} {ds : List D} {d : D} (h0 : z[i]? = some (.ow ds)) (h : m z = .ok d) (hl : ds.length < sizeLine) : sApp i m z = .ok (.nx (z.set i (.ow (ds ++ [d])))) := by
  unfold sApp
  rw [h0]
  dsimp only
  rw [h, bnd_ok, if_pos hl]
theorem mCall_is {α : Type} {n : Nat} {f : List D → Rs α} {ms : ML} {z : List Sd} {ds : List D} {r : Rs α} (h : ms z = .ok ds) (hn : ds.length = n) (hf : f ds = r) : mCall n f ms z = r := (mCall_ok h hn).trans hf
theorem forD_nx {t : Tg} {m : MS} {d : D} {ds : List D} {z z1 z2 : List Sd} (h1 : setT t d z = .ok z1) (h2 : m z1 = .ok (.nx z2)) : forD t m (d :: ds) z = forD t m ds z2 := by
  simp only [forD]
  rw [h1, bnd_ok, h2, bnd_ok]
theorem forD_rt {t : Tg} {m : MS} {d r : D} {ds : List D} {z z1 : List Sd} (h1 : setT t d z = .ok z1) (h2 : m z1 = .ok (.rt r)) : forD t m (d :: ds) z = .ok (.rt r) := by
  simp only [forD]
  rw [h1, bnd_ok, h2, bnd_ok]
theorem while_t {t : MB} {m : MS} {n : Nat} {z z2 : List Sd} (h : t z = .ok true) (h2 : m z = .ok (.nx z2)) : whileD t m (n + 1) z = whileD t m n z2 := by
  simp only [whileD]
  rw [h, bnd_ok, if_pos rfl, h2, bnd_ok]
theorem while_f {t : MB} {m : MS} {n : Nat} {z : List Sd} (h : t z = .ok false) : whileD t m (n + 1) z = .ok (.nx z) := by
  simp only [whileD]
  rw [h, bnd_ok, if_neg Bool.false_ne_true]
theorem runF_rt {n : Nat} {m : MS} {ds : List D} {d : D} (h : m (st0 n ds) = .ok (.rt d)) : runF n m ds = .ok d := by unfold runF; rw [h]; rfl
theorem runF_rl {n : Nat} {m : MS} {ds xs : List D} (h : m (st0 n ds) = .ok (.rl xs)) : runF n m ds = .ok (.lst xs) := by unfold runF; rw [h]; rfl
theorem runL_rl {n : Nat} {m : MS} {ds xs : List D} (h : m (st0 n ds) = .ok (.rl xs)) : runL n m ds = .ok xs := by unfold runL; rw [h]; rfl
theorem runXL_rl {n : Nat} {m : MS} {ds xs : List D} (h : m (st0 n ds) = .ok (.rl xs)) : runXL n m ds = .ok xs := by unfold runXL; rw [h]; rfl
theorem runXL_exc {n : Nat} {m : MS} {ds : List D} {c : Nat} (h : m (st0 n ds) = .exc c) : runXL n m ds = .exc c := by unfold runXL; rw [h]; rfl
theorem runX_rt {n : Nat} {m : MS} {ds : List D} {d : D} (h : m (st0 n ds) = .ok (.rt d)) : runX n m ds = .ok d := by unfold runX; rw [h]; rfl
theorem runR_rl {n : Nat} {m : MS} {ds xs : List D} (h : m (st0 n ds) = .ok (.rl xs)) : runR n m ds = .ok (.own xs) := by unfold runR; rw [h]; rfl
theorem runR_rt {n : Nat} {m : MS} {ds : List D} {d : D} (h : m (st0 n ds) = .ok (.rt d)) : runR n m ds = .ok (.val d) := by unfold runR; rw [h]; rfl
theorem mAnd_ok {a b : M} {z : List Sd} {x y : Bool} (ha : a z = .ok (.bl x)) (hb : b z = .ok (.bl y)) : mAnd a b z = .ok (.bl (x && y)) := by
  unfold mAnd
  rw [ha, bnd_ok]
  cases x with
  | true => exact hb
  | false => rfl
theorem mAnd_f {a b : M} {z : List Sd} (ha : a z = .ok (.bl false)) : mAnd a b z = .ok (.bl false) := by
  unfold mAnd
  rw [ha]
  rfl
theorem mAnd_t {a b : M} {z : List Sd} (ha : a z = .ok (.bl true)) : mAnd a b z = b z := by
  unfold mAnd
  rw [ha]
  rfl
theorem mOr_f {a b : M} {z : List Sd} (ha : a z = .ok (.bl false)) : mOr a b z = b z := by
  unfold mOr
  rw [ha]
  rfl
theorem mOr_t {a b : M} {z : List Sd} (ha : a z = .ok (.bl true)) : mOr a b z = .ok (.bl true) := by
  unfold mOr
  rw [ha]
  rfl
theorem chain_ll {a b c : M} {z : List Sd} {i j k : Int} (ha : a z = .ok (.int i)) (hb : b z = .ok (.int j)) (hc : c z = .ok (.int k)) : mChain leD ltD a b c z = .ok (.bl (decide (i ≤ j ∧ j < k))) := by
  unfold mChain
  rw [ha, bnd_ok, hb, bnd_ok]
  show (match D.bl (decide (i ≤ j)) with | .bl true => _ | .bl false => _ | _ => _) = _
  by_cases h : i ≤ j
  · rw [decide_eq_true h]
    show (c z).bnd _ = _
    rw [hc]
    show Rs.ok (D.bl (decide (j < k))) = _
    by_cases h2 : j < k
    · rw [decide_eq_true h2, decide_eq_true ⟨h, h2⟩]
    · rw [decide_eq_false h2, decide_eq_false fun q => h2 q.2]
  · rw [decide_eq_false h, decide_eq_false fun q => h q.1]
theorem chain_lt2 {a b c : M} {z : List Sd} {i j k : Int} (ha : a z = .ok (.int i)) (hb : b z = .ok (.int j)) (hc : c z = .ok (.int k)) : mChain ltD ltD a b c z = .ok (.bl (decide (i < j ∧ j < k))) := by
  unfold mChain
  rw [ha, bnd_ok, hb, bnd_ok]
  show (match D.bl (decide (i < j)) with | .bl true => _ | .bl false => _ | _ => _) = _
  by_cases h : i < j
  · rw [decide_eq_true h]
    show (c z).bnd _ = _
    rw [hc]
    show Rs.ok (D.bl (decide (j < k))) = _
    by_cases h2 : j < k
    · rw [decide_eq_true h2, decide_eq_true ⟨h, h2⟩]
    · rw [decide_eq_false h2, decide_eq_false fun q => h2 q.2]
  · rw [decide_eq_false h, decide_eq_false fun q => h q.1]
/-! ### is_number, check_row -/
theorem is_number_eq {d : D} (h : okD d = true) : f_is_number [d] = .ok (.bl (isNum d)) := by
  cases d <;> first | rfl | exact absurd (show false = true from h) Bool.false_ne_true
theorem check_row_eq {ds : List D} (h : ∀ d ∈ ds, okD d = true) (hl : ds.length ≤ sizeLine) : f_check_row [.lst ds] = if ds.all isNum then .ok .non else .exc 0 := by
  have e : mAll (mComp (.nm 1) [1] (mSeq (mVar 0)) (mCall 1 f_is_number (aCons (mVar 1) aNil))) [.sh (.lst ds), .no] = .ok (.bl (ds.all isNum)) :=
    mAll_comp isNum rfl hl fun d hd => is_number_eq (h d hd)
  simp only [f_check_row, runX, m_check_row, st0, List.length_cons, List.length_nil, List.map_cons, List.map_nil, List.replicate, List.cons_append, List.nil_append, sIf, bOr, bNot, bV, mUn, e]
  cases ds.all isNum <;> rfl
theorem check_row_not {d : D} (h : okD d = true) (hl : ∀ ds, d ≠ .lst ds) : f_check_row [d] = .exc 0 := by
  cases d <;> first | rfl | exact absurd (show false = true from h) Bool.false_ne_true | exact absurd rfl (hl _)
theorem ok_ints (ns : List Int) : ∀ d ∈ ns.map D.int, okD d = true := by
  intro d hd
  obtain ⟨n, _, rfl⟩ := List.mem_map.mp hd
  rfl
theorem all_ints (ns : List Int) : (ns.map D.int).all isNum = true := by
  rw [List.all_eq_true]
  intro d hd
  obtain ⟨n, _, rfl⟩ := List.mem_map.mp hd
  rfl
theorem check_row_ints {ns : List Int} (hl : ns.length ≤ sizeLine) : f_check_row [.lst (ns.map .int)] = .ok .non := by
  rw [check_row_eq (ok_ints ns) (by rw [List.length_map]; exact hl), all_ints]
  rfl
/-! ### is_clipping -/
def isClip (n : Nat) (d : D) : Bool := match d with
  | .tup [.int p, .int m, .int s] => decide (1 ≤ m ∧ (s = 1 ∨ s = -1) ∧ (0 ≤ p ∧ p < n) ∧ 0 ≤ p + s * (m - 1) ∧ p + s * (m - 1) < n)
  | _ => false
theorem isClip_num {n : Nat} {ds : List D} (h : ¬ (ds.length = 3 ∧ ds.all isNum = true)) : isClip n (.tup ds) = false := by
  unfold isClip
  split
  · rename_i p m s e
    cases e
    exact absurd ⟨rfl, rfl⟩ h
  · rfl
theorem nums3 {ds : List D} (h : ds.length = 3) (hn : ds.all isNum = true) : ∃ p m s, ds = [.int p, .int m, .int s] := by
  match ds, h with
  | [a, b, c], _ =>
    simp only [List.all_cons, List.all_nil, Bool.and_true, Bool.and_eq_true] at hn
    obtain ⟨ha, hb, hc⟩ := hn
    cases a <;> first | exact absurd (show false = true from ha) Bool.false_ne_true | skip
    cases b <;> first | exact absurd (show false = true from hb) Bool.false_ne_true | skip
    cases c <;> first | exact absurd (show false = true from hc) Bool.false_ne_true | skip
    exact ⟨_, _, _, rfl⟩
theorem eqD_int (i j : Int) : eqD (.int i) (.int j) = some (i == j) := rfl
theorem is_clipping_eq {sh : List D} {d : D} (h : okD d = true) (h2 : ∀ ds, d = .tup ds → (∀ x ∈ ds, okD x = true) ∧ ds.length ≤ sizeLine) : f_is_clipping [.lst sh, d] = .ok (.bl (isClip sh.length d)) := by
  cases d <;> first | rfl | exact absurd (show false = true from h) Bool.false_ne_true | skip
  rename_i ds
  obtain ⟨hk, hl⟩ := h2 ds rfl
  have e : mAll (mComp (.nm 2) [2] (mSeq (mVar 1)) (mCall 1 f_is_number (aCons (mVar 2) aNil))) [.sh (.lst sh), .sh (.tup ds), .no, .no, .no, .no] = .ok (.bl (ds.all isNum)) :=
    mAll_comp isNum rfl hl fun d hd => is_number_eq (hk d hd)
  by_cases h3 : ds.length = 3
  · cases hn : ds.all isNum with
    | false =>
      rw [isClip_num fun q => by rw [hn] at q; exact Bool.false_ne_true q.2]
      rw [hn] at e
      have e3 : ((ds.length : Int) == 3) = true := by rw [h3]; rfl
      simp [f_is_clipping, runF, m_is_clipping, Rs.bnd, ofO, noX, mVar, mC, mBin, mUn, mAnd, mOr, mIf, mChain, mTup, mLst, mL, aNil, aCons, tupD, lstD, bV, bNot, bAnd, bOr, asB, sSeq, sIf, sRet, sRetL, sRetO, sRetV, sRetN, sSet, sSetO, sSetR, sExpr, sNil, sAsg, sPar, sParO, sPar3, sAug, sApp, sExt, sRaise, setT, setAll, retD, retL, retR, rvS, rvD, rE, rL, rIf, mR, st0, frz, frzS, bz, mz, flatD, isTy, isB, lenD, mLenI, iOw, iE, asL, asI, asT, asSeq, mSeq, intD, ltD, leD, gtD, geD, subD, notD, negD, oNone, oSome, mIxI, ixD, ixL, mCall, isD, isN, wipeD, asS, sizeLine_eq, List.getElem?_cons_zero, List.getElem?_cons_succ, List.set_cons_zero, List.set_cons_succ, neB, eqD_int, e, e3]
    | true =>
      obtain ⟨p, m, s, rfl⟩ := nums3 h3 hn
      rw [hn] at e
      simp only [f_is_clipping, runF, m_is_clipping, st0, List.length_cons, List.length_nil, List.map_cons, List.map_nil, List.replicate, List.cons_append, List.nil_append, sSeq, sIf, bOr, bNot, bV, e]
      by_cases hm : m < 1
      · have hi : isClip sh.length (.tup [.int p, .int m, .int s]) = false := decide_eq_false (by omega)
        rw [hi]
        simp [Rs.bnd, ofO, noX, mVar, mC, mBin, mUn, mAnd, mOr, mIf, mChain, mTup, mLst, mL, aNil, aCons, tupD, lstD, bV, bNot, bAnd, bOr, asB, sSeq, sIf, sRet, sRetL, sRetO, sRetV, sRetN, sSet, sSetO, sSetR, sExpr, sNil, sAsg, sPar, sParO, sPar3, sAug, sApp, sExt, sRaise, setT, setAll, retD, retL, retR, rvS, rvD, rE, rL, rIf, mR, st0, frz, frzS, bz, mz, flatD, isTy, isB, lenD, mLenI, iOw, iE, asL, asI, asT, asSeq, mSeq, intD, ltD, leD, gtD, geD, subD, notD, negD, oNone, oSome, mIxI, ixD, ixL, mCall, isD, isN, wipeD, asS, sizeLine_eq, List.getElem?_cons_zero, List.getElem?_cons_succ, List.set_cons_zero, List.set_cons_succ, neB, eqD_int, hm]
      · by_cases hs : s = 1 ∨ s = -1
        · have hin : (inD true (.int s) (.tup [.int 1, .int (-1)])) = some (.bl false) := by
            rcases hs with rfl | rfl <;> rfl
          have hmul : mulOk s (m - 1) = true := decide_eq_true (.inl (by rcases hs with rfl | rfl <;> decide))
          have hi : isClip sh.length (.tup [.int p, .int m, .int s]) = (decide (0 ≤ p ∧ p < sh.length) && decide (0 ≤ p + s * (m - 1) ∧ p + s * (m - 1) < sh.length)) := by
            rw [← Bool.decide_and]
            refine decide_eq_decide.mpr ⟨fun q => q.2.2, fun q => ⟨by omega, hs, q⟩⟩
          rw [hi]
          by_cases h0 : 0 ≤ p
          · by_cases h1 : p < sh.length
            · by_cases h4 : 0 ≤ p + s * (m - 1)
              · simp [Rs.bnd, ofO, noX, mVar, mC, mBin, mUn, mAnd, mOr, mIf, mChain, mTup, mLst, mL, aNil, aCons, tupD, lstD, bV, bNot, bAnd, bOr, asB, sSeq, sIf, sRet, sRetL, sRetO, sRetV, sRetN, sSet, sSetO, sSetR, sExpr, sNil, sAsg, sPar, sParO, sPar3, sAug, sApp, sExt, sRaise, setT, setAll, retD, retL, retR, rvS, rvD, rE, rL, rIf, mR, st0, frz, frzS, bz, mz, flatD, isTy, isB, lenD, mLenI, iOw, iE, asL, asI, asT, asSeq, mSeq, intD, ltD, leD, gtD, geD, subD, notD, negD, oNone, oSome, mIxI, ixD, ixL, mCall, isD, isN, wipeD, asS, sizeLine_eq, List.getElem?_cons_zero, List.getElem?_cons_succ, List.set_cons_zero, List.set_cons_succ, neB, eqD_int, hm, hin, mulD, intC, hmul, addD, h0, h1, h4]
              · simp [Rs.bnd, ofO, noX, mVar, mC, mBin, mUn, mAnd, mOr, mIf, mChain, mTup, mLst, mL, aNil, aCons, tupD, lstD, bV, bNot, bAnd, bOr, asB, sSeq, sIf, sRet, sRetL, sRetO, sRetV, sRetN, sSet, sSetO, sSetR, sExpr, sNil, sAsg, sPar, sParO, sPar3, sAug, sApp, sExt, sRaise, setT, setAll, retD, retL, retR, rvS, rvD, rE, rL, rIf, mR, st0, frz, frzS, bz, mz, flatD, isTy, isB, lenD, mLenI, iOw, iE, asL, asI, asT, asSeq, mSeq, intD, ltD, leD, gtD, geD, subD, notD, negD, oNone, oSome, mIxI, ixD, ixL, mCall, isD, isN, wipeD, asS, sizeLine_eq, List.getElem?_cons_zero, List.getElem?_cons_succ, List.set_cons_zero, List.set_cons_succ, neB, eqD_int, hm, hin, mulD, intC, hmul, addD, h0, h1, h4]
            · simp [Rs.bnd, ofO, noX, mVar, mC, mBin, mUn, mAnd, mOr, mIf, mChain, mTup, mLst, mL, aNil, aCons, tupD, lstD, bV, bNot, bAnd, bOr, asB, sSeq, sIf, sRet, sRetL, sRetO, sRetV, sRetN, sSet, sSetO, sSetR, sExpr, sNil, sAsg, sPar, sParO, sPar3, sAug, sApp, sExt, sRaise, setT, setAll, retD, retL, retR, rvS, rvD, rE, rL, rIf, mR, st0, frz, frzS, bz, mz, flatD, isTy, isB, lenD, mLenI, iOw, iE, asL, asI, asT, asSeq, mSeq, intD, ltD, leD, gtD, geD, subD, notD, negD, oNone, oSome, mIxI, ixD, ixL, mCall, isD, isN, wipeD, asS, sizeLine_eq, List.getElem?_cons_zero, List.getElem?_cons_succ, List.set_cons_zero, List.set_cons_succ, neB, eqD_int, hm, hin, mulD, intC, hmul, addD, h0, h1]
          · simp [Rs.bnd, ofO, noX, mVar, mC, mBin, mUn, mAnd, mOr, mIf, mChain, mTup, mLst, mL, aNil, aCons, tupD, lstD, bV, bNot, bAnd, bOr, asB, sSeq, sIf, sRet, sRetL, sRetO, sRetV, sRetN, sSet, sSetO, sSetR, sExpr, sNil, sAsg, sPar, sParO, sPar3, sAug, sApp, sExt, sRaise, setT, setAll, retD, retL, retR, rvS, rvD, rE, rL, rIf, mR, st0, frz, frzS, bz, mz, flatD, isTy, isB, lenD, mLenI, iOw, iE, asL, asI, asT, asSeq, mSeq, intD, ltD, leD, gtD, geD, subD, notD, negD, oNone, oSome, mIxI, ixD, ixL, mCall, isD, isN, wipeD, asS, sizeLine_eq, List.getElem?_cons_zero, List.getElem?_cons_succ, List.set_cons_zero, List.set_cons_succ, neB, eqD_int, hm, hin, mulD, intC, hmul, addD, h0]
        · have hin : (inD true (.int s) (.tup [.int 1, .int (-1)])) = some (.bl true) := by
            have h1 : (1 : Int) ≠ s := fun q => hs (.inl q.symm)
            have h2 : (-1 : Int) ≠ s := fun q => hs (.inr q.symm)
            simp [inD, flatD, eqF, h1, h2]
          have hi : isClip sh.length (.tup [.int p, .int m, .int s]) = false := decide_eq_false fun q => hs q.2.1
          rw [hi]
          simp [Rs.bnd, ofO, noX, mVar, mC, mBin, mUn, mAnd, mOr, mIf, mChain, mTup, mLst, mL, aNil, aCons, tupD, lstD, bV, bNot, bAnd, bOr, asB, sSeq, sIf, sRet, sRetL, sRetO, sRetV, sRetN, sSet, sSetO, sSetR, sExpr, sNil, sAsg, sPar, sParO, sPar3, sAug, sApp, sExt, sRaise, setT, setAll, retD, retL, retR, rvS, rvD, rE, rL, rIf, mR, st0, frz, frzS, bz, mz, flatD, isTy, isB, lenD, mLenI, iOw, iE, asL, asI, asT, asSeq, mSeq, intD, ltD, leD, gtD, geD, subD, notD, negD, oNone, oSome, mIxI, ixD, ixL, mCall, isD, isN, wipeD, asS, sizeLine_eq, List.getElem?_cons_zero, List.getElem?_cons_succ, List.set_cons_zero, List.set_cons_succ, neB, eqD_int, hm, hin]
  · rw [isClip_num fun q => h3 q.1]
    have e3 : ((ds.length : Int) == 3) = false := beq_eq_false_iff_ne.mpr (by omega)
    simp [f_is_clipping, runF, m_is_clipping, Rs.bnd, ofO, noX, mVar, mC, mBin, mUn, mAnd, mOr, mIf, mChain, mTup, mLst, mL, aNil, aCons, tupD, lstD, bV, bNot, bAnd, bOr, asB, sSeq, sIf, sRet, sRetL, sRetO, sRetV, sRetN, sSet, sSetO, sSetR, sExpr, sNil, sAsg, sPar, sParO, sPar3, sAug, sApp, sExt, sRaise, setT, setAll, retD, retL, retR, rvS, rvD, rE, rL, rIf, mR, st0, frz, frzS, bz, mz, flatD, isTy, isB, lenD, mLenI, iOw, iE, asL, asI, asT, asSeq, mSeq, intD, ltD, leD, gtD, geD, subD, notD, negD, oNone, oSome, mIxI, ixD, ixL, mCall, isD, isN, wipeD, asS, sizeLine_eq, List.getElem?_cons_zero, List.getElem?_cons_succ, List.set_cons_zero, List.set_cons_succ, neB, eqD_int, e3]
/-! ### clipped, pasted_of, pasted -/
def clipL (sh : List D) (p m s : Int) : List D := (List.range m.toNat).map fun (i : Nat) => sh.getD (p + s * (i : Nat)).toNat .non
def clipD (sh : List D) : D → List D
  | .tup [.int p, .int m, .int s] => clipL sh p m s
  | _ => []
theorem isClip_iff {n : Nat} {p m s : Int} : isClip n (.tup [.int p, .int m, .int s]) = true ↔ (1 ≤ m ∧ (s = 1 ∨ s = -1) ∧ (0 ≤ p ∧ p < n) ∧ 0 ≤ p + s * (m - 1) ∧ p + s * (m - 1) < n) := decide_eq_true_iff
theorem isClip_shape {n : Nat} {d : D} (h : isClip n d = true) : ∃ p m s, d = .tup [.int p, .int m, .int s] := by
  unfold isClip at h
  split at h
  · exact ⟨_, _, _, rfl⟩
  · cases h
theorem clip_in {n : Nat} {p m s : Int} (h : isClip n (.tup [.int p, .int m, .int s]) = true) {i : Nat} (hi : i < m.toNat) : 0 ≤ p + s * (i : Nat) ∧ p + s * (i : Nat) < n := by
  obtain ⟨h1, hs, h2, h3, h4⟩ := isClip_iff.mp h
  rcases hs with rfl | rfl <;> omega
theorem clip_le {n : Nat} {p m s : Int} (h : isClip n (.tup [.int p, .int m, .int s]) = true) : m ≤ n := by
  obtain ⟨h1, hs, h2, h3, h4⟩ := isClip_iff.mp h
  rcases hs with rfl | rfl <;> omega
theorem atI_in {xs : List D} {i : Int} (h0 : 0 ≤ i) (h1 : i < xs.length) : atI xs i = some (xs.getD i.toNat .non) := by
  unfold atI ixN
  rw [if_pos h0, if_pos h1]
  have : i.toNat < xs.length := by omega
  show xs[i.toNat]? = _
  rw [List.getD_eq_getElem?_getD, List.getElem?_eq_getElem this]
  rfl
theorem mem_rgD {lo : Int} {n : Nat} {d : D} (h : d ∈ rgD lo n) : ∃ i : Nat, i < n ∧ d = .int (lo + i) := by
  unfold rgD at h
  obtain ⟨i, hi, rfl⟩ := List.mem_map.mp h
  exact ⟨i, List.mem_range.mp hi, rfl⟩
theorem rgD_length (lo : Int) (n : Nat) : (rgD lo n).length = n := by unfold rgD; rw [List.length_map, List.length_range]
theorem mulD_pm {s j : Int} (hs : s = 1 ∨ s = -1) : mulD (.int s) (.int j) = some (.int (s * j)) := by
  have h : mulOk s j = true := decide_eq_true (Or.inl (by rcases hs with rfl | rfl <;> decide))
  show (if mulOk s j = true then some (D.int (s * j)) else none) = _
  rw [if_pos h]
theorem clipped_eq {sh : List D} {p m s : Int} (h : isClip sh.length (.tup [.int p, .int m, .int s]) = true) (hl : sh.length ≤ sizeLine) : f_clipped [.lst sh, .tup [.int p, .int m, .int s]] = .ok (clipL sh p m s) := by
  have hm := clip_le h
  have hs : s = 1 ∨ s = -1 := (isClip_iff.mp h).2.1
  have hm1 : 1 ≤ m := (isClip_iff.mp h).1
  have hl2 : (sh.length : Int) ≤ 16777216 := by rw [sizeLine_eq] at hl; omega
  have er : rng1 [.int m] = some (rgD 0 m.toNat) := by
    simp only [rng1]
    rw [if_pos ⟨by omega, by omega⟩]
  have e : mComp (.nm 5) [5] (mOf rng1 (aCons (mVar 3) aNil)) (mBin ixD (mVar 0) (mBin addD (mVar 2) (mBin mulD (mVar 4) (mVar 5)))) [.sh (.lst sh), .sh (.tup [.int p, .int m, .int s]), .sh (.int p), .sh (.int m), .sh (.int s), .no]
      = .ok ((rgD 0 m.toNat).map fun d => match d with | .int i => sh.getD (p + s * i).toNat .non | _ => .non) := by
    refine mComp_map (ds := rgD 0 m.toNat) _ ?_ (by rw [rgD_length, sizeLine_eq]; omega) fun d hd => ?_
    · show ofO (rng1 [.int m]) = _
      rw [er]
      rfl
    · obtain ⟨i, hi, rfl⟩ := mem_rgD hd
      obtain ⟨g0, g1⟩ := clip_in h hi
      have hmul := mulD_pm (j := 0 + (i : Int)) hs
      have ha := atI_in (xs := sh) (i := p + s * (0 + (i : Int))) (by rw [Int.zero_add]; exact g0) (by rw [Int.zero_add]; exact g1)
      exact mBin_ok rfl (mBin_ok rfl (mBin_ok rfl rfl hmul) rfl) ha
  have e2 : ((rgD 0 m.toNat).map fun d => match d with | .int i => sh.getD (p + s * i).toNat .non | _ => .non) = clipL sh p m s := by
    unfold rgD clipL
    rw [List.map_map]
    apply List.map_congr_left
    intro i _
    show sh.getD (p + s * (0 + (i : Int))).toNat .non = _
    rw [Int.zero_add]
  rw [e2] at e
  refine runL_rl ?_
  unfold m_clipped
  rw [sSeq_nx (z' := [.sh (.lst sh), .sh (.tup [.int p, .int m, .int s]), .sh (.int p), .sh (.int m), .sh (.int s), .no]) rfl]
  exact sRetL_ok e
theorem clipL_length (sh : List D) (p m s : Int) : (clipL sh p m s).length = m.toNat := by unfold clipL; rw [List.length_map, List.length_range]
def pasteL (sh : List D) (cs : List D) : List D := cs.flatMap (clipD sh)
abbrev m_paste1 : MS := sExt 2 (mCall 2 f_clipped (aCons (mVar 0) (aCons (mVar 3) aNil)))
theorem paste_for {sh cs0 : List D} (hl : sh.length ≤ sizeLine) : ∀ (cs acc : List D) (x : Sd), (∀ c ∈ cs, isClip sh.length c = true) → acc.length + (pasteL sh cs).length ≤ sizeLine →
    ∃ x', forD (.nm 3) m_paste1 cs [.sh (.lst sh), .sh (.lst cs0), .ow acc, x] = .ok (.nx [.sh (.lst sh), .sh (.lst cs0), .ow (acc ++ pasteL sh cs), x'])
  | [], acc, x, _, _ => ⟨x, by simp [forD, pasteL]⟩
  | c :: cs, acc, x, hc, hz => by
    have h1 := hc c List.mem_cons_self
    obtain ⟨p, m, s, rfl⟩ := isClip_shape h1
    have e1 := clipped_eq h1 hl
    have hp : pasteL sh (.tup [.int p, .int m, .int s] :: cs) = clipL sh p m s ++ pasteL sh cs := by unfold pasteL; rw [List.flatMap_cons]; rfl
    rw [hp, List.length_append] at hz
    obtain ⟨x', ih⟩ := paste_for (cs0 := cs0) hl cs (acc ++ clipL sh p m s) (.sh (.tup [.int p, .int m, .int s])) (fun c h => hc c (List.mem_cons_of_mem _ h)) (by rw [List.length_append]; omega)
    refine ⟨x', ?_⟩
    have e2 : m_paste1 [.sh (.lst sh), .sh (.lst cs0), .ow acc, .sh (.tup [.int p, .int m, .int s])] = .ok (.nx [.sh (.lst sh), .sh (.lst cs0), .ow (acc ++ clipL sh p m s), .sh (.tup [.int p, .int m, .int s])]) := by
      have hz2 : acc.length + (clipL sh p m s).length ≤ sizeLine := by omega
      unfold m_paste1
      exact sExt_ok (ds := acc) (i := 2) rfl (mCall_is (ds := [.lst sh, .tup [.int p, .int m, .int s]]) rfl rfl e1) hz2
    rw [hp, ← List.append_assoc, ← ih]
    exact forD_nx rfl e2
theorem pasted_of_eq {sh cs : List D} (hl : sh.length ≤ sizeLine) (hc : ∀ c ∈ cs, isClip sh.length c = true) (hz : (pasteL sh cs).length ≤ sizeLine) : f_pasted_of [.lst sh, .lst cs] = .ok (pasteL sh cs) := by
  obtain ⟨x', e⟩ := paste_for (cs0 := cs) hl cs [] .no hc (by simpa using hz)
  rw [List.nil_append] at e
  refine runL_rl ?_
  unfold m_pasted_of
  exact (sSeq_nx (z' := [.sh (.lst sh), .sh (.lst cs), .ow [], .no]) rfl).trans ((sSeq_nx ((sFor_ok rfl).trans e)).trans rfl)
/-- what a clipping's test asks of a datum -/
def okC (d : D) : Prop := okD d = true ∧ ∀ ds, d = .tup ds → (∀ x ∈ ds, okD x = true) ∧ ds.length ≤ sizeLine
theorem isClip_ok {n : Nat} {d : D} (h : isClip n d = true) : okC d := by
  obtain ⟨p, m, s, rfl⟩ := isClip_shape h
  refine ⟨rfl, fun ds e => ?_⟩
  cases e
  refine ⟨fun x hx => ?_, by rw [sizeLine_eq]; show 3 ≤ 16777216; decide⟩
  simp only [List.mem_cons, List.not_mem_nil, or_false] at hx
  rcases hx with rfl | rfl | rfl <;> rfl
theorem pasted_eq {ns : List Int} {cs : List D} (hl : ns.length ≤ sizeLine) (hcl : cs.length ≤ sizeLine) (hc : ∀ c ∈ cs, isClip ns.length c = true) (hz : (pasteL (ns.map .int) cs).length ≤ sizeLine) : f_pasted [.lst (ns.map .int), .lst cs] = .ok (pasteL (ns.map .int) cs) := by
  have e : mAll (mComp (.nm 2) [2] (mSeq (mVar 1)) (mCall 2 f_is_clipping (aCons (mVar 0) (aCons (mVar 2) aNil)))) [.sh (.lst (ns.map .int)), .sh (.lst cs), .no] = .ok (.bl true) := by
    rw [mAll_comp (ds := cs) (isClip ns.length) rfl hcl fun d hd => ?_]
    · rw [List.all_eq_true.mpr hc]
    · have := is_clipping_eq (sh := ns.map .int) (isClip_ok (hc d hd)).1 (isClip_ok (hc d hd)).2
      rw [List.length_map] at this
      exact this
  have e2 : f_pasted_of [.lst (ns.map .int), .lst cs] = .ok (pasteL (ns.map .int) cs) := pasted_of_eq (by rw [List.length_map]; exact hl) (by rw [List.length_map]; exact hc) hz
  refine runXL_rl ?_
  unfold m_pasted
  have e3 : sExpr (mCall 1 f_check_row (aCons (mVar 0) aNil)) (st0 3 [.lst (ns.map .int), .lst cs]) = .ok (.nx [.sh (.lst (ns.map .int)), .sh (.lst cs), .no]) := sExpr_ok (mCall_is (ds := [.lst (ns.map .int)]) rfl rfl (check_row_ints hl))
  refine (sSeq_nx e3).trans ((sSeq_nx ((sIf_f ((bOr_f rfl).trans (bNot_b (bV_b e)))).trans rfl)).trans ?_)
  exact sRetL_ok (mCall_is (ds := [.lst (ns.map .int), .lst cs]) rfl rfl e2)
end CL


set_option Elab.async false
set_option linter.all false
set_option maxRecDepth 100000
namespace CL
open PySem L2
/-! ### is_deed -/
def isS (s : Str) : D → Bool
  | .str x => x == s
  | _ => false
/-- a flat datum whose text, if it is one, is a text -/
def headOk : D → Bool
  | .str x => PyData.strOk x
  | d => flatD d
theorem eqB_str {h : D} {s : Str} (f : headOk h = true) (hs : PyData.strOk s = true) : eqB h (.str s) = some (.bl (isS s h)) := by
  have sh : SeqAt.shaped (.str s) = true := by
    unfold SeqAt.shaped
    simp [PyData.canLay0, hs, PyData.depth]
  cases h <;> first | exact absurd (show false = true from f) Bool.false_ne_true | skip
  · simp [eqB, eqD, toPy, sh, SeqAt.shaped, PyData.canLay0, PyData.depth, hs, PyData.eqv, isS]
  · simp [eqB, eqD, toPy, sh, SeqAt.shaped, PyData.canLay0, PyData.depth, hs, PyData.eqv, isS]
  · simp [eqB, eqD, toPy, sh, SeqAt.shaped, PyData.canLay0, PyData.depth, hs, PyData.eqv, isS]
  · rename_i x
    have hx : PyData.strOk x = true := f
    simp [eqB, eqD, toPy, sh, SeqAt.shaped, PyData.canLay0, PyData.depth, hs, hx, PyData.eqv, isS]
theorem ok_put : PyData.strOk "put" = true := by decide +kernel
theorem ok_copy : PyData.strOk "copy" = true := by decide +kernel
def isDeed (n : Nat) (d : D) : Bool := match d with
  | .tup [h, .int _] => isS "put" h
  | .tup [h, .int p, .int m] => isS "copy" h && (decide (0 ≤ p ∧ p < n) && decide (0 < m))
  | _ => false
/-- what a deed's test asks of a datum -/
def okE (d : D) : Prop := okD d = true ∧ ∀ ds, d = .tup ds → ds.length ≤ sizeLine ∧ (∀ h, ds.head? = some h → headOk h = true) ∧ ∀ x ∈ ds.tail, okD x = true
theorem nums1 {b : D} (h : isNum b = true) : ∃ p, b = .int p := by
  cases b <;> first | exact absurd (show false = true from h) Bool.false_ne_true | exact ⟨_, rfl⟩
theorem isDeed_two {n : Nat} {a b : D} : isDeed n (.tup [a, b]) = (isNum b && isS "put" a) := by
  cases b <;> rfl
theorem isDeed_three {n : Nat} {a b c : D} (h : (isNum b && isNum c) = false) : isDeed n (.tup [a, b, c]) = false := by
  cases b <;> first | rfl | skip
  cases c <;> first | rfl | exact absurd (show true = false from h) (by decide)
theorem isDeed_long {n : Nat} {a b c d : D} {r : List D} : isDeed n (.tup (a :: b :: c :: d :: r)) = false := by
  cases b <;> first | rfl | skip
  cases c <;> rfl
abbrev t_deed : MB := bOr (bNot (bV (mUn (isTy .tuple) (mVar 0)))) (bOr (bV (mBin (inD true) (mUn lenD (mVar 0)) (mTup (aCons (mC (.int 2)) (aCons (mC (.int 3)) aNil))))) (bNot (bV (mAll (mComp (.nm 2) [2] (mSeq (mCutT (mVar 0) (oSome (mC (.int 1))) oNone)) (mCall 1 f_is_number (aCons (mVar 2) aNil)))))))
theorem mTup_ok {ms : ML} {z : List Sd} {ds : List D} (h : ms z = .ok ds) (hl : ds.length ≤ sizeLine) : mTup ms z = .ok (.tup ds) := by
  unfold mTup tupD
  rw [h, bnd_ok, if_pos hl]
  rfl
theorem le_line {n : Nat} (h : n ≤ 16777216) : n ≤ sizeLine := by rw [sizeLine_eq]; exact h
theorem deed_all {z : List Sd} {ds : List D} (h0 : z[0]? = some (.sh (.tup ds))) (hz : ds.length ≤ sizeLine) (h2 : 2 ≤ ds.length) (hk : ∀ x ∈ ds.tail, okD x = true) (hzl : 2 < z.length) :
    mAll (mComp (.nm 2) [2] (mSeq (mCutT (mVar 0) (oSome (mC (.int 1))) oNone)) (mCall 1 f_is_number (aCons (mVar 2) aNil))) z = .ok (.bl (ds.tail.all isNum)) := by
  have ec : cutT ds (some 1) none = some (.tup ds.tail) := by
    unfold cutT
    have e1 : HT.sIx ds.length 0 (some 1) = 1 := by
      rw [show (1 : Int) = ((1 : Nat) : Int) from rfl, HT.sIx_nat]
      omega
    rw [if_neg (by rw [e1]; omega)]
    unfold cutD
    rw [e1, HT.sIx_none, List.drop_one, List.take_of_length_le (by rw [List.length_tail]; omega)]
  have es : mSeq (mCutT (mVar 0) (oSome (mC (.int 1))) oNone) z = .ok ds.tail := by
    have ev : mVar 0 z = .ok (.tup ds) := by unfold mVar; rw [h0]
    unfold mSeq mCutT
    rw [ev, bnd_ok]
    show (ofO (cutT ds (some 1) none)).bnd _ = _
    rw [ec]
    rfl
  refine mAll_comp isNum es (by rw [List.length_tail]; omega) fun d hd => ?_
  have ev : mVar 2 ((wipeD z [2]).set 2 (.sh d)) = .ok d := by
    unfold mVar wipeD wipeD
    rw [List.getElem?_set_self (by rw [List.length_set]; exact hzl)]
  refine mCall_is (ds := [d]) ?_ rfl (is_number_eq (hk d hd))
  unfold aCons aNil
  rw [ev]
  rfl
theorem len_in {z : List Sd} {ds : List D} (h0 : z[0]? = some (.sh (.tup ds))) : bV (mBin (inD true) (mUn lenD (mVar 0)) (mTup (aCons (mC (.int 2)) (aCons (mC (.int 3)) aNil)))) z = .ok (!(decide (ds.length = 2) || decide (ds.length = 3))) := by
  have ev : mVar 0 z = .ok (.tup ds) := by unfold mVar; rw [h0]
  refine bV_b (mBin_ok (mUn_ok ev rfl) (mTup_ok rfl (le_line (by show 2 ≤ 16777216; decide))) ?_)
  have e1 : decide (ds.length = 2) = ((2 : Int) == (ds.length : Int)) := by
    rw [Bool.eq_iff_iff, decide_eq_true_iff, beq_iff_eq]; omega
  have e2 : decide (ds.length = 3) = ((3 : Int) == (ds.length : Int)) := by
    rw [Bool.eq_iff_iff, decide_eq_true_iff, beq_iff_eq]; omega
  rw [e1, e2]
  simp [inD, flatD, eqF]
theorem is_deed_eq {d : D} {n : Nat} (h : okE d) : f_is_deed [d, .int n] = .ok (.bl (isDeed n d)) := by
  obtain ⟨h1, h2⟩ := h
  cases d <;> first | rfl | exact absurd (show false = true from h1) Bool.false_ne_true | skip
  rename_i ds
  obtain ⟨hz, hh, hk⟩ := h2 ds rfl
  refine runF_rt ?_
  have el := len_in (z := st0 3 [.tup ds, .int n]) rfl
  match ds, hz, hh, hk, el with
  | [], hz, hh, hk, el => exact (sSeq_rt ((sIf_t ((bOr_f rfl).trans (bOr_t el))).trans rfl))
  | [a], hz, hh, hk, el => exact (sSeq_rt ((sIf_t ((bOr_f rfl).trans (bOr_t el))).trans rfl))
  | [a, b], hz, hh, hk, el =>
    have ea := deed_all (z := st0 3 [.tup [a, b], .int n]) rfl hz (Nat.le_refl 2) hk (by show 2 < 3; decide)
    have ha := hh a rfl
    rw [isDeed_two]
    cases hb : isNum b with
    | false =>
      rw [show ([a, b].tail.all isNum) = false by show (isNum b && true) = false; rw [hb]; rfl] at ea
      exact (sSeq_rt ((sIf_t ((bOr_f rfl).trans ((bOr_f el).trans (bNot_b (bV_b ea))))).trans rfl))
    | true =>
      rw [show ([a, b].tail.all isNum) = true by show (isNum b && true) = true; rw [hb]; rfl] at ea
      refine (sSeq_nx ((sIf_f ((bOr_f rfl).trans ((bOr_f el).trans (bNot_b (bV_b ea))))).trans rfl)).trans ?_
      refine sSeq_rt ((sIf_t rfl).trans (sRet_ok (mBin_ok (x := a) (y := .str "put") rfl rfl ?_)))
      rw [eqB_str ha ok_put]
      rfl
  | [a, b, c], hz, hh, hk, el =>
    have ea := deed_all (z := st0 3 [.tup [a, b, c], .int n]) rfl hz (by show 2 ≤ 3; decide) hk (by show 2 < 3; decide)
    have ha := hh a rfl
    cases hb : (isNum b && isNum c) with
    | false =>
      rw [show ([a, b, c].tail.all isNum) = false by show (isNum b && (isNum c && true)) = false; rw [Bool.and_true, hb]] at ea
      rw [isDeed_three hb]
      exact (sSeq_rt ((sIf_t ((bOr_f rfl).trans ((bOr_f el).trans (bNot_b (bV_b ea))))).trans rfl))
    | true =>
      rw [show ([a, b, c].tail.all isNum) = true by show (isNum b && (isNum c && true)) = true; rw [Bool.and_true, hb]] at ea
      refine (sSeq_nx ((sIf_f ((bOr_f rfl).trans ((bOr_f el).trans (bNot_b (bV_b ea))))).trans rfl)).trans ?_
      rw [Bool.and_eq_true] at hb
      obtain ⟨p, rfl⟩ := nums1 hb.1
      obtain ⟨m, rfl⟩ := nums1 hb.2
      refine (sSeq_nx ((sIf_f rfl).trans rfl)).trans (sRet_ok ?_)
      have e1 : mBin eqB (mBin ixD (mVar 0) (mC (.int 0))) (mC (.str "copy")) (frz (st0 3 [.tup [a, .int p, .int m], .int n])) = .ok (.bl (isS "copy" a)) := mBin_ok (x := a) (y := .str "copy") rfl rfl (eqB_str ha ok_copy)
      exact mAnd_ok e1 (mAnd_ok (chain_ll (i := 0) (j := p) (k := n) rfl rfl rfl) (mBin_ok (x := .int m) (y := .int 0) rfl rfl rfl))
  | a :: b :: c :: d :: r, hz, hh, hk, el =>
    have e4 : (!(decide ((a :: b :: c :: d :: r).length = 2) || decide ((a :: b :: c :: d :: r).length = 3))) = true := by
      rw [decide_eq_false (by simp), decide_eq_false (by simp)]; rfl
    rw [e4] at el
    rw [isDeed_long]
    exact (sSeq_rt ((sIf_t ((bOr_f rfl).trans (bOr_t el))).trans rfl))
/-! ### grown_of, grown -/
theorem mIxI_ok {mi : ML} {b : M} {z : List Sd} {xs : List D} {y d : D} (hi : mi z = .ok xs) (hb : b z = .ok y) (h : ixL xs y = some d) : mIxI mi b z = .ok d := by
  unfold mIxI
  rw [hi, bnd_ok, hb, bnd_ok, h]
  rfl
def copyN (acc : List D) (p : Int) : Nat → List D
  | 0 => acc
  | k + 1 => copyN acc p k ++ [(copyN acc p k).getD (p + (k : Nat)).toNat .non]
theorem copyN_length (acc : List D) (p : Int) : ∀ k, (copyN acc p k).length = acc.length + k
  | 0 => rfl
  | k + 1 => by simp only [copyN, List.length_append, copyN_length acc p k, List.length_cons, List.length_nil]; omega
def grow1 (acc : List D) : D → List D
  | .tup [_, v] => acc ++ [v]
  | .tup [_, .int p, .int m] => copyN acc p m.toNat
  | _ => acc
def cost : D → Nat
  | .tup [_, .int _, .int m] => m.toNat
  | _ => 1
def growO : List D → List D → Option (List D)
  | acc, [] => some acc
  | acc, d :: ds => if isDeed acc.length d then growO (grow1 acc d) ds else none
theorem isDeed_shape {n : Nat} {d : D} (h : isDeed n d = true) : (∃ v, d = .tup [.str "put", .int v]) ∨ ∃ p m, d = .tup [.str "copy", .int p, .int m] ∧ 0 ≤ p ∧ p < n ∧ 0 < m := by
  unfold isDeed at h
  split at h
  · rename_i a v
    cases a <;> first | exact absurd (show false = true from h) Bool.false_ne_true | skip
    rename_i x
    have e : x = "put" := eq_of_beq h
    subst e
    exact .inl ⟨_, rfl⟩
  · rename_i a p m
    rw [Bool.and_eq_true, Bool.and_eq_true, decide_eq_true_iff, decide_eq_true_iff] at h
    obtain ⟨h1, h2, h3⟩ := h
    cases a <;> first | exact absurd (show false = true from h1) Bool.false_ne_true | skip
    rename_i x
    have e : x = "copy" := eq_of_beq h1
    subst e
    exact .inr ⟨_, _, rfl, h2.1, h2.2, h3⟩
  · exact absurd h Bool.false_ne_true
theorem deed_ok {n : Nat} {d : D} (h : isDeed n d = true) : okE d := by
  rcases isDeed_shape h with ⟨v, rfl⟩ | ⟨p, m, rfl, _⟩
  · refine ⟨rfl, fun ds e => ?_⟩
    cases e
    exact ⟨le_line (by show 2 ≤ 16777216; decide), fun h e => by cases e; exact ok_put, fun x hx => by
      rw [List.tail_cons, List.mem_singleton] at hx
      subst hx
      rfl⟩
  · refine ⟨rfl, fun ds e => ?_⟩
    cases e
    exact ⟨le_line (by show 3 ≤ 16777216; decide), fun h e => by cases e; exact ok_copy, fun x hx => by
      simp only [List.tail_cons, List.mem_cons, List.not_mem_nil, or_false] at hx
      rcases hx with rfl | rfl <;> rfl⟩
abbrev m_copy1 : MS := sApp 1 (mIxI (iOw 1) (mBin addD (mBin ixD (mVar 2) (mC (.int 1))) (mVar 3)))
theorem copy_for {ds0 : D} {a : D} {p m : Int} {acc : List D} (h0 : 0 ≤ p) (h1 : p < acc.length) (hz : acc.length + m.toNat ≤ sizeLine) : ∀ (k j : Nat) (x : Sd), j + k = m.toNat →
    ∃ x', forD (.nm 3) m_copy1 ((List.range' j k).map fun (i : Nat) => D.int (0 + (i : Nat))) [.sh ds0, .ow (copyN acc p j), .sh (.tup [a, .int p, .int m]), x] = .ok (.nx [.sh ds0, .ow (copyN acc p m.toNat), .sh (.tup [a, .int p, .int m]), x'])
  | 0, j, x, e => ⟨x, by
      have : j = m.toNat := by omega
      subst this
      rfl⟩
  | k + 1, j, x, e => by
    obtain ⟨x', ih⟩ := copy_for h0 h1 hz k (j + 1) (.sh (.int (0 + (j : Nat)))) (by omega)
    refine ⟨x', ?_⟩
    have el := copyN_length acc p j
    have hat := atI_in (xs := copyN acc p j) (i := p + (0 + (j : Int))) (by omega) (by rw [el]; omega)
    have e2 : m_copy1 [.sh ds0, .ow (copyN acc p j), .sh (.tup [a, .int p, .int m]), .sh (.int (0 + (j : Nat)))] = .ok (.nx [.sh ds0, .ow (copyN acc p (j + 1)), .sh (.tup [a, .int p, .int m]), .sh (.int (0 + (j : Nat)))]) := by
      refine (sApp_ok (ds := copyN acc p j) rfl (d := (copyN acc p j).getD (p + (0 + (j : Int))).toNat .non) ?_ (by rw [el]; omega)).trans ?_
      · exact mIxI_ok (xs := copyN acc p j) rfl (mBin_ok (f := addD) (x := .int p) (y := .int (0 + (j : Nat))) (d := .int (p + (0 + (j : Int)))) rfl rfl rfl) hat
      · have e3 : copyN acc p (j + 1) = copyN acc p j ++ [(copyN acc p j).getD (p + (0 + (j : Int))).toNat .non] := by
          show copyN acc p j ++ [(copyN acc p j).getD (p + (j : Int)).toNat .non] = _
          rw [Int.zero_add]
        rw [e3]
        rfl
    rw [List.range'_succ, List.map_cons, ← ih]
    exact forD_nx rfl e2
abbrev m_grow1 : MS := sSeq (sIf (bNot (bV (mCall 2 f_is_deed (aCons (mVar 2) (aCons (mLenI (iOw 1)) aNil))))) (sRet (mC .non)) sNil)
  (sIf (bV (mBin eqB (mUn lenD (mVar 2)) (mC (.int 2)))) (sApp 1 (mBin ixD (mVar 2) (mC (.int 1)))) (sFor (.nm 3) (mOf rng1 (aCons (mBin ixD (mVar 2) (mC (.int 2))) aNil)) m_copy1))
theorem grow_turn {ds0 d : D} {acc : List D} {x : Sd} (hk : okE d) (hz : acc.length + cost d ≤ sizeLine) :
    if isDeed acc.length d then ∃ x', m_grow1 [.sh ds0, .ow acc, .sh d, x] = .ok (.nx [.sh ds0, .ow (grow1 acc d), .sh d, x']) else m_grow1 [.sh ds0, .ow acc, .sh d, x] = .ok (.rt .non) := by
  have e1 : bNot (bV (mCall 2 f_is_deed (aCons (mVar 2) (aCons (mLenI (iOw 1)) aNil)))) [.sh ds0, .ow acc, .sh d, x] = .ok (!isDeed acc.length d) := bNot_b (bV_b (mCall_is (ds := [d, .int (acc.length : Nat)]) rfl rfl (is_deed_eq hk)))
  cases hd : isDeed acc.length d with
  | false =>
    rw [hd] at e1
    rw [if_neg Bool.false_ne_true]
    exact sSeq_rt ((sIf_t e1).trans rfl)
  | true =>
    rw [hd] at e1
    rw [if_pos rfl]
    have e2 : sIf (bNot (bV (mCall 2 f_is_deed (aCons (mVar 2) (aCons (mLenI (iOw 1)) aNil))))) (sRet (mC .non)) sNil [.sh ds0, .ow acc, .sh d, x] = .ok (.nx [.sh ds0, .ow acc, .sh d, x]) := (sIf_f e1).trans rfl
    rcases isDeed_shape hd with ⟨v, rfl⟩ | ⟨p, m, rfl, h0, h1, h2⟩
    · exact ⟨x, (sSeq_nx e2).trans ((sIf_t rfl).trans (sApp_ok (ds := acc) rfl rfl (by have : cost (.tup [.str "put", .int v]) = 1 := rfl; omega)))⟩
    · have hc : cost (.tup [.str "copy", .int p, .int m]) = m.toNat := rfl
      rw [hc] at hz
      have er : rng1 [.int m] = some (rgD 0 m.toNat) := by
        have := hz
        rw [sizeLine_eq] at this
        simp only [rng1]
        rw [if_pos ⟨by omega, by omega⟩]
      obtain ⟨x', e3⟩ := copy_for (ds0 := ds0) (a := .str "copy") (acc := acc) h0 h1 hz m.toNat 0 x (by omega)
      refine ⟨x', (sSeq_nx e2).trans ((sIf_f rfl).trans ((sFor_ok (ds := rgD 0 m.toNat) ?_).trans ?_))⟩
      · show ofO (rng1 [.int m]) = _
        rw [er]
        rfl
      · unfold rgD
        rw [List.range_eq_range']
        exact e3
theorem grow_for {ds0 : D} : ∀ (ds acc : List D) (x y : Sd), (∀ d ∈ ds, okE d) → acc.length + (ds.map cost).sum ≤ sizeLine →
    match growO acc ds with
    | some xs => ∃ x' y', forD (.nm 2) m_grow1 ds [.sh ds0, .ow acc, x, y] = .ok (.nx [.sh ds0, .ow xs, x', y'])
    | none => forD (.nm 2) m_grow1 ds [.sh ds0, .ow acc, x, y] = .ok (.rt .non)
  | [], acc, x, y, _, _ => ⟨x, y, rfl⟩
  | d :: ds, acc, x, y, hk, hz => by
    rw [List.map_cons, List.sum_cons] at hz
    have t := grow_turn (ds0 := ds0) (d := d) (acc := acc) (x := y) (hk d List.mem_cons_self) (by omega)
    unfold growO
    cases hd : isDeed acc.length d with
    | false =>
      rw [hd, if_neg Bool.false_ne_true] at t
      rw [if_neg Bool.false_ne_true]
      exact forD_rt rfl t
    | true =>
      rw [hd, if_pos rfl] at t
      rw [if_pos rfl]
      obtain ⟨y', t⟩ := t
      have hl : (grow1 acc d).length ≤ acc.length + cost d := by
        rcases isDeed_shape hd with ⟨v, rfl⟩ | ⟨p, m, rfl, _⟩
        · show (acc ++ [_]).length ≤ acc.length + 1
          rw [List.length_append]
          exact Nat.le_refl _
        · show (copyN acc p m.toNat).length ≤ acc.length + m.toNat
          rw [copyN_length]
          exact Nat.le_refl _
      have ih := grow_for (ds0 := ds0) ds (grow1 acc d) (.sh d) y' (fun e h => hk e (List.mem_cons_of_mem _ h)) (by omega)
      have e : forD (.nm 2) m_grow1 (d :: ds) [.sh ds0, .ow acc, x, y] = forD (.nm 2) m_grow1 ds [.sh ds0, .ow (grow1 acc d), .sh d, y'] := forD_nx rfl t
      rw [e]
      exact ih
theorem grown_of_eq {ds : List D} (hk : ∀ d ∈ ds, okE d) (hz : (ds.map cost).sum ≤ sizeLine) : f_grown_of [.lst ds] = .ok (match growO [] ds with | some xs => .own xs | none => .val .non) := by
  have t := grow_for (ds0 := .lst ds) ds [] .no .no hk (by simpa using hz)
  cases hg : growO [] ds with
  | none =>
    rw [hg] at t
    exact runR_rt ((sSeq_nx (z' := [.sh (.lst ds), .ow [], .no, .no]) rfl).trans (sSeq_rt ((sFor_ok rfl).trans t)))
  | some xs =>
    rw [hg] at t
    obtain ⟨x', y', t⟩ := t
    exact runR_rl ((sSeq_nx (z' := [.sh (.lst ds), .ow [], .no, .no]) rfl).trans ((sSeq_nx ((sFor_ok rfl).trans t)).trans rfl))
theorem grown_eq {ds : List D} (hk : ∀ d ∈ ds, okE d) (hz : (ds.map cost).sum ≤ sizeLine) : f_grown [.lst ds] = match growO [] ds with | some xs => .ok xs | none => .exc 2 := by
  have e := grown_of_eq hk hz
  have e1 : rIf (bV (mUn (isTy .list) (mVar 0))) (mCall 1 f_grown_of (aCons (mVar 0) aNil)) (rE (mC .non)) (st0 2 [.lst ds]) = .ok (match growO [] ds with | some xs => .own xs | none => .val .non) :=
    (show _ = mCall 1 f_grown_of (aCons (mVar 0) aNil) (st0 2 [.lst ds]) from rfl).trans (mCall_is (ds := [.lst ds]) rfl rfl e)
  have e2 : sSetR 1 (rIf (bV (mUn (isTy .list) (mVar 0))) (mCall 1 f_grown_of (aCons (mVar 0) aNil)) (rE (mC .non))) (st0 2 [.lst ds]) = .ok (.nx [.sh (.lst ds), rvS (match growO [] ds with | some xs => .own xs | none => .val .non)]) := by
    unfold sSetR
    rw [e1]
    rfl
  cases hg : growO [] ds with
  | none =>
    rw [hg] at e2
    exact runXL_exc ((sSeq_nx e2).trans (sSeq_exc rfl))
  | some xs =>
    rw [hg] at e2
    exact runXL_rl ((sSeq_nx e2).trans rfl)
end CL


set_option Elab.async false
set_option linter.all false
set_option maxRecDepth 100000
namespace CL
open PySem L2
/-! ### equality of plain data -/
/-- of nesting at most k, texts sound -/
def pl (k : Nat) (d : D) : Prop := ∃ p, toPy d = some p ∧ p.canLay0 = true ∧ p.depth ≤ k
theorem pl.mono {k l : Nat} {d : D} (h : pl k d) (e : k ≤ l) : pl l d := let ⟨p, a, b, c⟩ := h; ⟨p, a, b, Nat.le_trans c e⟩
theorem pl_non {k : Nat} : pl k .non := ⟨.none, by simp [toPy], by simp [PyData.canLay0], by simp [PyData.depth]⟩
theorem pl_bl {k : Nat} {b : Bool} : pl k (.bl b) := ⟨.bool b, by simp [toPy], by simp [PyData.canLay0], by simp [PyData.depth]⟩
theorem pl_int {k : Nat} {i : Int} : pl k (.int i) := ⟨.int i, by simp [toPy], by simp [PyData.canLay0], by simp [PyData.depth]⟩
theorem pl_str {k : Nat} {x : Str} (h : PyData.strOk x = true) : pl k (.str x) := ⟨.str x, by simp [toPy], by simp [PyData.canLay0, h], by simp [PyData.depth]⟩
theorem pl_all {k : Nat} : ∀ {ds : List D}, (∀ d ∈ ds, pl k d) → ∃ ps, toPyAll ds = some ps ∧ PyData.canLayAll0 ps = true ∧ PyData.depthAll ps ≤ k
  | [], _ => ⟨[], by simp [toPyAll], by simp [PyData.canLayAll0], by simp [PyData.depthAll]⟩
  | d :: ds, h => by
    obtain ⟨p, a1, a2, a3⟩ := h d List.mem_cons_self
    obtain ⟨ps, b1, b2, b3⟩ := pl_all (ds := ds) fun x hx => h x (List.mem_cons_of_mem _ hx)
    refine ⟨p :: ps, by simp [toPyAll, a1, b1], by simp [PyData.canLayAll0, a2, b2], ?_⟩
    simp only [PyData.depthAll]
    omega
theorem pl_lst {k : Nat} {ds : List D} (h : ∀ d ∈ ds, pl k d) : pl (k + 1) (.lst ds) := by
  obtain ⟨ps, a, b, c⟩ := pl_all h
  exact ⟨.list ps, by simp [toPy, a], by simp [PyData.canLay0, b], by simp only [PyData.depth]; omega⟩
theorem pl_tup {k : Nat} {ds : List D} (h : ∀ d ∈ ds, pl k d) : pl (k + 1) (.tup ds) := by
  obtain ⟨ps, a, b, c⟩ := pl_all h
  exact ⟨.tuple ps, by simp [toPy, a], by simp [PyData.canLay0, b], by simp only [PyData.depth]; omega⟩
theorem pl_ints {k : Nat} (ns : List Int) : pl (k + 1) (.lst (ns.map D.int)) := pl_lst fun d hd => by
  obtain ⟨n, _, rfl⟩ := List.mem_map.mp hd
  exact pl_int
theorem eqD_pl {k l : Nat} {x y : D} (hx : pl k x) (hy : pl l y) (hk : k ≤ 64) (hl : l ≤ 64) : ∃ p q, toPy x = some p ∧ toPy y = some q ∧ eqD x y = some (PyData.eqv p q) := by
  obtain ⟨p, a1, a2, a3⟩ := hx
  obtain ⟨q, b1, b2, b3⟩ := hy
  refine ⟨p, q, a1, b1, ?_⟩
  unfold eqD
  rw [a1, b1]
  dsimp only
  rw [if_pos]
  unfold SeqAt.shaped
  rw [a2, b2, decide_eq_true (by omega), decide_eq_true (by omega)]
  rfl
theorem eqD_refl {k : Nat} {x : D} (hx : pl k x) (hk : k ≤ 64) : eqD x x = some true := by
  obtain ⟨p, q, a, b, c⟩ := eqD_pl hx hx hk hk
  rw [a] at b
  cases b
  obtain ⟨p', a1, a2, _⟩ := hx
  rw [a] at a1
  cases a1
  rw [c, SeqAt.eqv_refl p a2]
theorem eqB_refl {k : Nat} {x : D} (hx : pl k x) (hk : k ≤ 64) : eqB x x = some (.bl true) := by
  unfold eqB
  rw [eqD_refl hx hk]
  rfl
theorem neB_refl {k : Nat} {x : D} (hx : pl k x) (hk : k ≤ 64) : neB x x = some (.bl false) := by
  unfold neB
  rw [eqD_refl hx hk]
  rfl
/-! ### arithmetic -/
theorem fdivD_ok {i j : Int} (h0 : 0 < j) (h1 : j < 18446744073709551616) : fdivD (.int i) (.int j) = some (.int (i / j)) := by
  have h : decide (0 < j ∧ j.natAbs.log2 < 9000) = true := decide_eq_true ⟨h0, Nat.lt_of_lt_of_le (PySem.Flt.log2_lt_of (k := 64) (by decide) (by omega)) (by decide)⟩
  show (if decide (0 < j ∧ j.natAbs.log2 < 9000) = true then some (D.int (i / j)) else none) = _
  rw [if_pos h]
theorem modD_ok {i j : Int} (h0 : 0 < j) : modD (.int i) (.int j) = some (.int (i % j)) := by
  show (if decide (0 < j) = true then some (D.int (i % j)) else none) = _
  rw [if_pos (decide_eq_true h0)]
theorem cutD_to (xs : List D) (k : Nat) : cutD xs none (some (k : Int)) = xs.take k := by
  unfold cutD
  rw [HT.sIx_none, HT.sIx_nat, List.drop_zero, Nat.sub_zero]
  by_cases h : k ≤ xs.length
  · rw [Nat.min_eq_left h]
  · rw [Nat.min_eq_right (by omega), List.take_of_length_le (Nat.le_refl _), List.take_of_length_le (by omega)]
theorem cutD_from (xs : List D) (k : Nat) : cutD xs (some (k : Int)) none = xs.drop k := by
  unfold cutD
  rw [HT.sIx_none, HT.sIx_nat]
  by_cases h : k ≤ xs.length
  · rw [Nat.min_eq_left h, List.take_of_length_le (by rw [List.length_drop]; omega)]
  · rw [Nat.min_eq_right (by omega), List.drop_eq_nil_of_le (Nat.le_refl _), List.drop_eq_nil_of_le (by omega), List.take_nil]
theorem cutD_last (xs : List D) (d : D) : cutD (xs ++ [d]) none (some (-1)) = xs := by
  unfold cutD
  have e : HT.sIx (xs ++ [d]).length (xs ++ [d]).length (some (-1)) = xs.length := by
    show (if (-1 : Int) < 0 then ((-1 : Int) + ((xs ++ [d]).length : Int)).toNat else min (-1 : Int).toNat (xs ++ [d]).length) = _
    rw [if_pos (by decide), List.length_append, List.length_singleton]
    omega
  rw [e, HT.sIx_none, List.drop_zero, Nat.sub_zero, List.take_left']
  rfl
theorem mSum_ok {mi : ML} {z : List Sd} {ns : List Int} (h : mi z = .ok (ns.map D.int)) : mSum mi z = .ok (.int ns.sum) := by
  unfold mSum
  rw [h, bnd_ok, asIs_map]
  rfl
theorem mCat_ok {mi mj : ML} {z : List Sd} {xs ys : List D} (h1 : mi z = .ok xs) (h2 : mj z = .ok ys) (hl : xs.length + ys.length ≤ sizeLine) : mCat mi mj z = .ok (xs ++ ys) := by
  unfold mCat lstD
  rw [h1, bnd_ok, h2, bnd_ok, List.length_append, if_pos hl]
  rfl
theorem mulD_ok {i j : Int} (h : (-(2 ^ 64) < i ∧ i < 2 ^ 64) ∨ (-(2 ^ 64) < j ∧ j < 2 ^ 64)) : mulD (.int i) (.int j) = some (.int (i * j)) := by
  have h' : mulOk i j = true := decide_eq_true h
  show (if mulOk i j = true then some (D.int (i * j)) else none) = _
  rw [if_pos h']
theorem mL_ok {ml : ML} {z : List Sd} {xs : List D} (h : ml z = .ok xs) : mL ml z = .ok (.lst xs) := by
  unfold mL
  rw [h]
  rfl
theorem mLst_ok {ms : ML} {z : List Sd} {ds : List D} (h : ms z = .ok ds) (hl : ds.length ≤ sizeLine) : mLst ms z = .ok ds := by
  unfold mLst lstD
  rw [h, bnd_ok, if_pos hl]
  rfl
/-! ### _law_numbers -/
theorem law_numbers_eq {ds : List D} (h : ∀ d ∈ ds, okD d = true) (hl : ds.length ≤ sizeLine) : f_law_numbers [.lst ds] = .ok (.bl (ds.all isNum)) := by
  refine runF_rt ((sSeq_nx (z' := [.sh (.lst ds), .no]) rfl).trans (sRet_ok (mAll_comp isNum rfl hl fun d hd => ?_)))
  have := h d hd
  cases d <;> first | rfl | exact absurd (show false = true from this) Bool.false_ne_true
theorem law_numbers_ints {ns : List Int} (hl : ns.length ≤ sizeLine) : f_law_numbers [.lst (ns.map .int)] = .ok (.bl true) := by
  rw [law_numbers_eq (ok_ints ns) (by rw [List.length_map]; exact hl), all_ints]
/-! ### _law_pasted -/
abbrev t_lp : MB := bAnd (bV (mBin ltD (mLenI (iOw 2)) (mBin powD (mC (.int 10)) (mC (.int 6))))) (bV (mBin gtD (mVar 4) (mC (.int 0))))
abbrev m_lp1 : MS := sSeq (sApp 2 (mBin ixD (mVar 0) (mVar 6))) (sPar 6 4 (aCons (mBin addD (mVar 6) (mVar 5)) (aCons (mBin subD (mVar 4) (mC (.int 1))) aNil)))
theorem pow6 : powD (.int 10) (.int 6) = some (.int 1000000) := rfl
theorem lp_while {sh : List D} {c p : D} {s : Int} (hs : s = 1 ∨ s = -1) : ∀ (k n : Nat) (acc : List D) (at_ : Int), k < n → acc.length + k < 1000000 → (∀ i : Nat, i < k → 0 ≤ at_ + s * i ∧ at_ + s * i < sh.length) →
    whileD t_lp m_lp1 n [.sh (.lst sh), .sh c, .ow acc, .sh p, .sh (.int k), .sh (.int s), .sh (.int at_)] = .ok (.nx [.sh (.lst sh), .sh c, .ow (acc ++ (List.range k).map fun (i : Nat) => sh.getD (at_ + s * (i : Nat)).toNat .non), .sh p, .sh (.int 0), .sh (.int s), .sh (.int (at_ + s * k))])
  | 0, 0, _, _, h, _, _ => by omega
  | 0, n + 1, acc, at_, _, hz, _ => by
    have e : t_lp [.sh (.lst sh), .sh c, .ow acc, .sh p, .sh (.int (0 : Nat)), .sh (.int s), .sh (.int at_)] = .ok false := by
      refine (bAnd_t (bV_b ?_)).trans rfl
      refine mBin_ok (x := .int acc.length) (y := .int 1000000) rfl (mBin_ok rfl rfl pow6) ?_
      show some (D.bl (decide ((acc.length : Int) < 1000000))) = _
      rw [decide_eq_true (by omega)]
    refine (while_f e).trans ?_
    simp
  | k + 1, 0, _, _, h, _, _ => by omega
  | k + 1, n + 1, acc, at_, hk, hz, hi => by
    have e : t_lp [.sh (.lst sh), .sh c, .ow acc, .sh p, .sh (.int ((k + 1 : Nat) : Int)), .sh (.int s), .sh (.int at_)] = .ok true := by
      refine (bAnd_t (bV_b ?_)).trans (bV_b ?_)
      · refine mBin_ok (x := .int acc.length) (y := .int 1000000) rfl (mBin_ok rfl rfl pow6) ?_
        show some (D.bl (decide ((acc.length : Int) < 1000000))) = _
        rw [decide_eq_true (by omega)]
      · refine mBin_ok (x := .int ((k + 1 : Nat) : Int)) (y := .int 0) rfl rfl ?_
        show some (D.bl (decide ((0 : Int) < ((k + 1 : Nat) : Int)))) = _
        rw [decide_eq_true (by omega)]
    have h0 := hi 0 (by omega)
    rw [show s * ((0 : Nat) : Int) = 0 by simp, Int.add_zero] at h0
    have hat := atI_in (xs := sh) h0.1 h0.2
    have e1 : sApp 2 (mBin ixD (mVar 0) (mVar 6)) [.sh (.lst sh), .sh c, .ow acc, .sh p, .sh (.int ((k + 1 : Nat) : Int)), .sh (.int s), .sh (.int at_)] = .ok (.nx [.sh (.lst sh), .sh c, .ow (acc ++ [sh.getD at_.toNat .non]), .sh p, .sh (.int ((k + 1 : Nat) : Int)), .sh (.int s), .sh (.int at_)]) :=
      sApp_ok (ds := acc) rfl (mBin_ok (x := .lst sh) (y := .int at_) rfl rfl hat) (by rw [sizeLine_eq]; omega)
    have e2 : m_lp1 [.sh (.lst sh), .sh c, .ow acc, .sh p, .sh (.int ((k + 1 : Nat) : Int)), .sh (.int s), .sh (.int at_)] = .ok (.nx [.sh (.lst sh), .sh c, .ow (acc ++ [sh.getD at_.toNat .non]), .sh p, .sh (.int (k : Nat)), .sh (.int s), .sh (.int (at_ + s))]) := by
      refine (sSeq_nx e1).trans ?_
      show Rs.ok (Fw.nx [.sh (.lst sh), .sh c, .ow (acc ++ [sh.getD at_.toNat .non]), .sh p, .sh (.int (((k + 1 : Nat) : Int) - 1)), .sh (.int s), .sh (.int (at_ + s))]) = _
      rw [show (((k + 1 : Nat) : Int) - 1) = (k : Int) by omega]
    have step : ∀ i : Nat, at_ + s + s * (i : Nat) = at_ + s * ((i + 1 : Nat) : Int) := fun i => by
      rw [Int.natCast_add, Int.mul_add]
      simp
      omega
    have ih := lp_while (sh := sh) (c := c) (p := p) hs k n (acc ++ [sh.getD at_.toNat .non]) (at_ + s) (by omega) (by rw [List.length_append, List.length_singleton]; omega) fun i h => by
      rw [step]
      exact hi (i + 1) (by omega)
    refine (while_t e e2).trans (ih.trans ?_)
    rw [List.range_succ_eq_map, List.map_cons, List.map_map, List.append_assoc, step]
    have e3 : ((fun (i : Nat) => sh.getD (at_ + s * (i : Nat)).toNat D.non) ∘ Nat.succ) = fun (i : Nat) => sh.getD (at_ + s + s * (i : Nat)).toNat D.non := by
      funext i
      show sh.getD (at_ + s * ((i + 1 : Nat) : Int)).toNat D.non = _
      rw [← step]
    rw [e3]
    have e4 : at_ + s * ((0 : Nat) : Int) = at_ := by simp
    rw [e4]
    rfl
abbrev m_lpt : MS := sSeq (sSet 6 (mVar 3)) (whileD t_lp m_lp1 2000000)
theorem lp_for {sh : List D} {cs0 : D} : ∀ (cs acc : List D) (a b c d : Sd), (∀ e ∈ cs, isClip sh.length e = true) → acc.length + (pasteL sh cs).length < 1000000 →
    ∃ a' b' c' d', forD (.tp [3, 4, 5]) m_lpt cs [.sh (.lst sh), .sh cs0, .ow acc, a, b, c, d] = .ok (.nx [.sh (.lst sh), .sh cs0, .ow (acc ++ pasteL sh cs), a', b', c', d'])
  | [], acc, a, b, c, d, _, _ => ⟨a, b, c, d, by simp [forD, pasteL]⟩
  | e :: cs, acc, a, b, c, d, hc, hz => by
    have h1 := hc e List.mem_cons_self
    obtain ⟨p, m, s, rfl⟩ := isClip_shape h1
    have hp : pasteL sh (.tup [.int p, .int m, .int s] :: cs) = clipL sh p m s ++ pasteL sh cs := by unfold pasteL; rw [List.flatMap_cons]; rfl
    rw [hp, List.length_append, clipL_length] at hz
    have hm1 : 1 ≤ m := (isClip_iff.mp h1).1
    have hs : s = 1 ∨ s = -1 := (isClip_iff.mp h1).2.1
    have hmn : ((m.toNat : Nat) : Int) = m := by omega
    obtain ⟨a', b', c', d', ih⟩ := lp_for (cs0 := cs0) cs (acc ++ clipL sh p m s) (.sh (.int p)) (.sh (.int 0)) (.sh (.int s)) (.sh (.int (p + s * m))) (fun e h => hc e (List.mem_cons_of_mem _ h)) (by rw [List.length_append, clipL_length]; omega)
    refine ⟨a', b', c', d', ?_⟩
    have w := lp_while (sh := sh) (c := cs0) (p := .int p) hs m.toNat 2000000 acc p (by omega) (by omega) fun i hi => clip_in h1 hi
    have e2 : m_lpt [.sh (.lst sh), .sh cs0, .ow acc, .sh (.int p), .sh (.int m), .sh (.int s), d] = .ok (.nx [.sh (.lst sh), .sh cs0, .ow (acc ++ clipL sh p m s), .sh (.int p), .sh (.int 0), .sh (.int s), .sh (.int (p + s * m))]) := by
      refine (sSeq_nx (z' := [.sh (.lst sh), .sh cs0, .ow acc, .sh (.int p), .sh (.int m), .sh (.int s), .sh (.int p)]) rfl).trans ?_
      rw [hmn] at w
      exact w
    rw [hp, ← List.append_assoc, ← ih]
    exact forD_nx rfl e2
theorem law_pasted_eq {sh cs : List D} (hc : ∀ c ∈ cs, isClip sh.length c = true) (hz : (pasteL sh cs).length < 1000000) : f_law_pasted [.lst sh, .lst cs] = .ok (.lst (pasteL sh cs)) := by
  obtain ⟨a, b, c, d, e⟩ := lp_for (sh := sh) (cs0 := .lst cs) cs [] .no .no .no .no hc (by simpa using hz)
  rw [List.nil_append] at e
  refine runF_rt ?_
  exact (sSeq_nx (z' := [.sh (.lst sh), .sh (.lst cs), .ow [], .no, .no, .no, .no]) rfl).trans ((sSeq_nx ((sFor_ok rfl).trans e)).trans rfl)
end CL


set_option Elab.async false
set_option linter.all false
set_option maxRecDepth 100000
namespace CL
open PySem L2
/-! ### _law_cells, _law_row -/
theorem law_cells_eq (ns : List Int) (h : ns.length ≤ 63) : ∃ cs : List Int, f_law_cells [.scr ns] = .ok (.lst (cs.map .int)) ∧ cs.length ≤ 100 := by
  have e0 : cutD (ns.map D.int) none (some 63) = ns.map D.int := by
    rw [show (63 : Int) = ((63 : Nat) : Int) from rfl, cutD_to, List.take_of_length_le (by rw [List.length_map]; exact h)]
  have e1 : sSet 1 (mL (mCutS (mVar 0) oNone (oSome (mC (.int 63))))) (st0 3 [.scr ns]) = .ok (.nx [.sh (.scr ns), .sh (.lst (ns.map D.int)), .no]) := by
    refine sSet_ok (d := .lst (ns.map D.int)) ?_
    show Rs.ok (D.lst (cutD (ns.map D.int) none (some 63))) = _
    rw [e0]
  have e2 : bV (mBin eqB (mBin modD (mBin fdivD (mSum (iE (mVar 1))) (mC (.int 11))) (mC (.int 13))) (mC (.int 4))) [.sh (.scr ns), .sh (.lst (ns.map D.int)), .no] = .ok (ns.sum / 11 % 13 == 4) := by
    refine bV_b (mBin_ok (mBin_ok (mBin_ok (mSum_ok rfl) rfl (fdivD_ok (by decide) (by decide))) rfl (modD_ok (by decide))) rfl ?_)
    unfold eqB
    rw [eqD_int]
    rfl
  cases hb : (ns.sum / 11 % 13 == 4) with
  | false =>
    rw [hb] at e2
    exact ⟨ns, runF_rt ((sSeq_nx e1).trans ((sSeq_nx ((sIf_f e2).trans rfl)).trans rfl)), by omega⟩
  | true =>
    rw [hb] at e2
    refine ⟨ns ++ (ns.take 37).map fun c => c / 3 + 977, ?_, by rw [List.length_append, List.length_map, List.length_take]; omega⟩
    have e3 : cutD (ns.map D.int) none (some 37) = (ns.take 37).map D.int := by
      rw [show (37 : Int) = ((37 : Nat) : Int) from rfl, cutD_to, List.map_take]
    have e4 : mComp (.nm 2) [2] (mSeq (mL (mCut (iE (mVar 1)) oNone (oSome (mC (.int 37)))))) (mBin addD (mBin fdivD (mVar 2) (mC (.int 3))) (mC (.int 977))) [.sh (.scr ns), .sh (.lst (ns.map D.int)), .no] = .ok (((ns.take 37).map fun c => c / 3 + 977).map D.int) := by
      rw [mComp_map (ds := (ns.take 37).map D.int) (fun d => match d with | .int c => .int (c / 3 + 977) | _ => .non)]
      · rw [List.map_map, List.map_map]
        rfl
      · show Rs.ok (cutD (ns.map D.int) none (some 37)) = _
        rw [e3]
      · rw [List.length_map, List.length_take]
        exact le_line (by omega)
      · intro d hd
        obtain ⟨c, _, rfl⟩ := List.mem_map.mp hd
        exact mBin_ok (mBin_ok (x := .int c) rfl rfl (fdivD_ok (by decide) (by decide))) rfl rfl
    have e5 : sSet 1 (mL (mCat (iE (mVar 1)) (mComp (.nm 2) [2] (mSeq (mL (mCut (iE (mVar 1)) oNone (oSome (mC (.int 37)))))) (mBin addD (mBin fdivD (mVar 2) (mC (.int 3))) (mC (.int 977)))))) [.sh (.scr ns), .sh (.lst (ns.map D.int)), .no]
        = .ok (.nx [.sh (.scr ns), .sh (.lst ((ns ++ (ns.take 37).map fun c => c / 3 + 977).map D.int)), .no]) := by
      refine sSet_ok (d := .lst ((ns ++ (ns.take 37).map fun c => c / 3 + 977).map D.int)) ?_
      have ec : mCat (iE (mVar 1)) (mComp (.nm 2) [2] (mSeq (mL (mCut (iE (mVar 1)) oNone (oSome (mC (.int 37)))))) (mBin addD (mBin fdivD (mVar 2) (mC (.int 3))) (mC (.int 977)))) [.sh (.scr ns), .sh (.lst (ns.map D.int)), .no] = .ok ((ns ++ (ns.take 37).map fun c => c / 3 + 977).map D.int) :=
        (mCat_ok (xs := ns.map D.int) rfl e4 (by rw [List.length_map, List.length_map, List.length_map, List.length_take]; exact le_line (by omega))).trans (by rw [List.map_append])
      exact mL_ok ec
    exact runF_rt ((sSeq_nx e1).trans ((sSeq_nx ((sIf_t e2).trans e5)).trans rfl))
theorem pow30 : powD (.int 10) (.int 30) = some (.int 1000000000000000000000000000000) := rfl
theorem ix4 (a b c d : D) {k : Int} (h0 : 0 ≤ k) (h1 : k < 4) : ∃ x ∈ [a, b, c, d], ixD (.tup [a, b, c, d]) (.int k) = some x := by
  have : k = 0 ∨ k = 1 ∨ k = 2 ∨ k = 3 := by omega
  rcases this with rfl | rfl | rfl | rfl
  · exact ⟨a, by simp, rfl⟩
  · exact ⟨b, by simp, rfl⟩
  · exact ⟨c, by simp, rfl⟩
  · exact ⟨d, by simp, rfl⟩
theorem law_row_eq (cs : List Int) (code : Int) (h : cs.length ≤ 100) : ∃ r : List Int, f_law_row [.lst (cs.map .int), .int code] = .ok (.lst (r.map .int)) ∧ r.length = cs.length := by
  obtain ⟨x, hx, ex⟩ := ix4 (.int 2) (.int 3) (.int 1000000000000000000000000000000) (.int 5) (k := code / 7 % 4) (by omega) (by omega)
  have e1 : sSet 2 (mBin ixD (mTup (aCons (mC (.int 2)) (aCons (mC (.int 3)) (aCons (mBin powD (mC (.int 10)) (mC (.int 30))) (aCons (mC (.int 5)) aNil))))) (mBin modD (mBin fdivD (mVar 1) (mC (.int 7))) (mC (.int 4)))) (st0 4 [.lst (cs.map .int), .int code]) = .ok (.nx [.sh (.lst (cs.map .int)), .sh (.int code), .sh x, .no]) := by
    refine sSet_ok (d := x) (mBin_ok (mTup_ok (ds := [.int 2, .int 3, .int 1000000000000000000000000000000, .int 5]) ?_ (le_line (by show 4 ≤ 16777216; decide))) (mBin_ok (mBin_ok rfl rfl (fdivD_ok (by decide) (by decide))) rfl (modD_ok (by decide))) ex)
    rfl
  obtain ⟨n, hn, rfl⟩ : ∃ n : Int, (n = 2 ∨ n = 3 ∨ n = 1000000000000000000000000000000 ∨ n = 5) ∧ x = .int n := by
    simp only [List.mem_cons, List.not_mem_nil, or_false] at hx
    rcases hx with rfl | rfl | rfl | rfl
    · exact ⟨_, .inl rfl, rfl⟩
    · exact ⟨_, .inr (.inl rfl), rfl⟩
    · exact ⟨_, .inr (.inr (.inl rfl)), rfl⟩
    · exact ⟨_, .inr (.inr (.inr rfl)), rfl⟩
  have hpos : 0 < n := by rcases hn with rfl | rfl | rfl | rfl <;> decide
  have e2 : bV (mBin eqB (mVar 2) (mBin powD (mC (.int 10)) (mC (.int 30)))) [.sh (.lst (cs.map .int)), .sh (.int code), .sh (.int n), .no] = .ok (n == 1000000000000000000000000000000) :=
    bV_b (mBin_ok (x := .int n) (y := .int 1000000000000000000000000000000) rfl (mBin_ok rfl rfl pow30) (by unfold eqB; rw [eqD_int]; rfl))
  have hlen : (cs.map D.int).length ≤ sizeLine := by rw [List.length_map]; exact le_line (by omega)
  cases hb : (n == 1000000000000000000000000000000) with
  | true =>
    have hn2 : n = 1000000000000000000000000000000 := eq_of_beq hb
    rw [hb] at e2
    refine ⟨cs.map fun c => c % n * (1 - (c / n + c / 7) % 2 * 2), ?_, List.length_map _⟩
    have efd : ∀ c : Int, fdivD (.int c) (.int n) = some (.int (c / n)) := fun c => by
      rw [hn2]
      rfl
    refine runF_rt ((sSeq_nx e1).trans (sSeq_rt ((sIf_t e2).trans (sRet_ok ?_))))
    have ec := mComp_map (i := 3) (vs := [3]) (mi := mSeq (mVar 0)) (me := mBin mulD (mBin modD (mVar 3) (mVar 2)) (mBin subD (mC (.int 1)) (mBin mulD (mBin modD (mBin addD (mBin fdivD (mVar 3) (mVar 2)) (mBin fdivD (mVar 3) (mC (.int 7)))) (mC (.int 2))) (mC (.int 2))))) (z := [.sh (.lst (cs.map .int)), .sh (.int code), .sh (.int n), .no]) (ds := cs.map .int)
      (fun d => match d with | .int c => .int (c % n * (1 - (c / n + c / 7) % 2 * 2)) | _ => .non) rfl hlen fun d hd => by
        obtain ⟨c, _, rfl⟩ := List.mem_map.mp hd
        have b2 : -(2 ^ 64) < (1 - (c / n + c / 7) % 2 * 2) ∧ (1 - (c / n + c / 7) % 2 * 2) < 2 ^ 64 := by omega
        have b1 : -(2 ^ 64) < ((c / n + c / 7) % 2) ∧ ((c / n + c / 7) % 2) < 2 ^ 64 := by omega
        refine mBin_ok (x := .int (c % n)) (y := .int (1 - (c / n + c / 7) % 2 * 2)) (mBin_ok (x := .int c) (y := .int n) rfl rfl (modD_ok hpos)) (mBin_ok rfl (mBin_ok (x := .int ((c / n + c / 7) % 2)) (y := .int 2) (mBin_ok (mBin_ok (mBin_ok (x := .int c) (y := .int n) rfl rfl (efd c)) (mBin_ok (x := .int c) (y := .int 7) rfl rfl (fdivD_ok (by decide) (by decide))) rfl) rfl (modD_ok (by decide))) rfl (mulD_ok (.inl b1))) rfl) (mulD_ok (.inr b2))
    refine (mL_ok ec).trans ?_
    rw [List.map_map, List.map_map]
    rfl
  | false =>
    rw [hb] at e2
    refine ⟨cs.map fun c => c % n - code / 28 % 3, ?_, List.length_map _⟩
    refine runF_rt ((sSeq_nx e1).trans ((sSeq_nx ((sIf_f e2).trans rfl)).trans (sRet_ok ?_)))
    have ec := mComp_map (i := 3) (vs := [3]) (mi := mSeq (mVar 0)) (me := mBin subD (mBin modD (mVar 3) (mVar 2)) (mBin modD (mBin fdivD (mVar 1) (mC (.int 28))) (mC (.int 3)))) (z := [.sh (.lst (cs.map .int)), .sh (.int code), .sh (.int n), .no]) (ds := cs.map .int)
      (fun d => match d with | .int c => .int (c % n - code / 28 % 3) | _ => .non) rfl hlen fun d hd => by
        obtain ⟨c, _, rfl⟩ := List.mem_map.mp hd
        exact mBin_ok (mBin_ok (x := .int c) (y := .int n) rfl rfl (modD_ok hpos)) (mBin_ok (mBin_ok (x := .int code) (y := .int 28) rfl rfl (fdivD_ok (by decide) (by decide))) rfl (modD_ok (by decide))) rfl
    refine (mL_ok ec).trans ?_
    rw [List.map_map, List.map_map]
    rfl
end CL


set_option Elab.async false
set_option linter.all false
set_option maxRecDepth 100000
namespace CL
open PySem L2
/-! ### numbers all over -/
theorem num_getD {xs : List D} {i : Nat} (h : ∀ d ∈ xs, isNum d = true) (hi : i < xs.length) : isNum (xs.getD i .non) = true := by
  rw [List.getD_eq_getElem?_getD, List.getElem?_eq_getElem hi]
  exact h _ (List.getElem_mem hi)
theorem num_clip {sh : List D} {c : D} (h : ∀ d ∈ sh, isNum d = true) (hc : isClip sh.length c = true) : ∀ d ∈ clipD sh c, isNum d = true := by
  obtain ⟨p, m, s, rfl⟩ := isClip_shape hc
  intro d hd
  obtain ⟨i, hi, rfl⟩ := List.mem_map.mp (show d ∈ clipL sh p m s from hd)
  obtain ⟨g0, g1⟩ := clip_in hc (List.mem_range.mp hi)
  exact num_getD h (by omega)
theorem num_paste {sh cs : List D} (h : ∀ d ∈ sh, isNum d = true) (hc : ∀ c ∈ cs, isClip sh.length c = true) : ∀ d ∈ pasteL sh cs, isNum d = true := by
  intro d hd
  obtain ⟨c, h1, h2⟩ := List.mem_flatMap.mp hd
  exact num_clip h (hc c h1) d h2
theorem num_copy {acc : List D} {p : Int} (h : ∀ d ∈ acc, isNum d = true) (h0 : 0 ≤ p) (h1 : p < acc.length) : ∀ (k : Nat), ∀ d ∈ copyN acc p k, isNum d = true
  | 0, d, hd => h d hd
  | k + 1, d, hd => by
    have ih := num_copy h h0 h1 k
    rcases List.mem_append.mp hd with hd | hd
    · exact ih d hd
    · rw [List.mem_singleton] at hd
      subst hd
      exact num_getD ih (by rw [copyN_length]; omega)
theorem num_grow : ∀ {ds acc xs : List D}, growO acc ds = some xs → (∀ d ∈ acc, isNum d = true) → ∀ d ∈ xs, isNum d = true
  | [], acc, xs, h, ha => by
    cases h
    exact ha
  | d :: ds, acc, xs, h, ha => by
    unfold growO at h
    split at h
    · rename_i hd
      refine num_grow h ?_
      rcases isDeed_shape hd with ⟨v, rfl⟩ | ⟨p, m, rfl, h0, h1, _⟩
      · intro d hd
        rcases List.mem_append.mp (show d ∈ acc ++ [.int v] from hd) with hd | hd
        · exact ha d hd
        · rw [List.mem_singleton] at hd
          subst hd
          rfl
      · exact num_copy ha h0 h1 m.toNat
    · cases h
theorem num_all {xs : List D} (h : ∀ d ∈ xs, isNum d = true) : xs.all isNum = true := List.all_eq_true.mpr h
theorem num_ok {xs : List D} (h : ∀ d ∈ xs, isNum d = true) : ∀ d ∈ xs, okD d = true := fun d hd => by
  obtain ⟨i, rfl⟩ := nums1 (h d hd)
  rfl
theorem num_pl {xs : List D} (h : ∀ d ∈ xs, isNum d = true) : pl 1 (.lst xs) := pl_lst fun d hd => by
  obtain ⟨i, rfl⟩ := nums1 (h d hd)
  exact pl_int
theorem num_ints (ns : List Int) : ∀ d ∈ ns.map D.int, isNum d = true := List.all_eq_true.mp (all_ints ns)
theorem num_is {xs : List D} (h : ∀ d ∈ xs, isNum d = true) : ∃ ns : List Int, xs = ns.map D.int := by
  induction xs with
  | nil => exact ⟨[], rfl⟩
  | cons x xs ih =>
    obtain ⟨i, rfl⟩ := nums1 (h x List.mem_cons_self)
    obtain ⟨ns, e⟩ := ih fun d hd => h d (List.mem_cons_of_mem _ hd)
    exact ⟨i :: ns, by rw [e]; rfl⟩
/-! ### _law_clippings -/
def stepI (c : Int) : Int := if c / 3 % 2 = 0 then 1 else -1
def farI (n c : Int) : Int := if stepI c = 1 then n - c % n else c % n + 1
def clipOf (n c : Int) : D := .tup [.int (c % n), .int (1 + c / 5 % farI n c), .int (stepI c)]
theorem clipOf_clip {n : Nat} (h : 0 < n) (c : Int) : isClip n (clipOf n c) = true := by
  refine isClip_iff.mpr ?_
  have hp : 0 ≤ c % (n : Int) := Int.emod_nonneg _ (by omega)
  have hp2 : c % (n : Int) < n := Int.emod_lt_of_pos _ (by omega)
  unfold farI stepI
  by_cases hs : c / 3 % 2 = 0
  · rw [if_pos hs, if_pos rfl]
    have h1 : 0 ≤ c / 5 % ((n : Int) - c % n) := Int.emod_nonneg _ (by omega)
    have h2 : c / 5 % ((n : Int) - c % n) < (n : Int) - c % n := Int.emod_lt_of_pos _ (by omega)
    omega
  · rw [if_neg hs, if_neg (by decide)]
    have h1 : 0 ≤ c / 5 % (c % n + 1) := Int.emod_nonneg _ (by omega)
    have h2 : c / 5 % (c % n + 1) < c % n + 1 := Int.emod_lt_of_pos _ (by omega)
    omega
abbrev m_lc1 : MS := sSeq (sPar 4 5 (aCons (mBin modD (mVar 3) (mUn lenD (mVar 0))) (aCons (mBin ixD (mTup (aCons (mC (.int 1)) (aCons (mUn negD (mC (.int 1))) aNil))) (mBin modD (mBin fdivD (mVar 3) (mC (.int 3))) (mC (.int 2)))) aNil)))
  (sSeq (sSet 6 (mIf (bV (mBin eqB (mVar 5) (mC (.int 1)))) (mBin subD (mUn lenD (mVar 0)) (mVar 4)) (mBin addD (mVar 4) (mC (.int 1)))))
  (sApp 2 (mTup (aCons (mVar 4) (aCons (mBin addD (mC (.int 1)) (mBin modD (mBin fdivD (mVar 3) (mC (.int 5))) (mVar 6))) (aCons (mVar 5) aNil))))))
theorem aCons_ok {m : M} {ms : ML} {z : List Sd} {x : D} {xs : List D} (h1 : m z = .ok x) (h2 : ms z = .ok xs) : aCons m ms z = .ok (x :: xs) := by
  unfold aCons
  rw [h1, bnd_ok, h2]
  rfl
theorem sPar_ok {i j : Nat} {ms : ML} {z : List Sd} {x y : D} (h : ms z = .ok [x, y]) : sPar i j ms z = .ok (.nx ((z.set i (.sh x)).set j (.sh y))) := by
  unfold sPar
  rw [h]
  rfl
theorem mIf_t {t : MB} {a b : M} {z : List Sd} (h : t z = .ok true) : mIf t a b z = a z := by unfold mIf; rw [h]; rfl
theorem mIf_f {t : MB} {a b : M} {z : List Sd} (h : t z = .ok false) : mIf t a b z = b z := by unfold mIf; rw [h]; rfl
theorem lc_turn {sh : List D} {c0 : D} {acc : List D} {c : Int} {x4 x5 x6 : Sd} (hn : 0 < sh.length) (hl : acc.length < 1000) (hl2 : sh.length ≤ 1000) :
    ∃ a b d, m_lc1 [.sh (.lst sh), .sh c0, .ow acc, .sh (.int c), x4, x5, x6] = .ok (.nx [.sh (.lst sh), .sh c0, .ow (acc ++ [clipOf sh.length c]), .sh (.int c), a, b, d]) := by
  have hp : 0 ≤ c % (sh.length : Int) := Int.emod_nonneg _ (by omega)
  have hp2 : c % (sh.length : Int) < sh.length := Int.emod_lt_of_pos _ (by omega)
  have e1 : sPar 4 5 (aCons (mBin modD (mVar 3) (mUn lenD (mVar 0))) (aCons (mBin ixD (mTup (aCons (mC (.int 1)) (aCons (mUn negD (mC (.int 1))) aNil))) (mBin modD (mBin fdivD (mVar 3) (mC (.int 3))) (mC (.int 2)))) aNil)) [.sh (.lst sh), .sh c0, .ow acc, .sh (.int c), x4, x5, x6]
      = .ok (.nx [.sh (.lst sh), .sh c0, .ow acc, .sh (.int c), .sh (.int (c % sh.length)), .sh (.int (stepI c)), x6]) := by
    refine sPar_ok (x := .int (c % sh.length)) (y := .int (stepI c)) (aCons_ok (mBin_ok (x := .int c) (y := .int sh.length) rfl rfl (modD_ok (by omega))) (aCons_ok (mBin_ok (x := .tup [.int 1, .int (-1)]) (y := .int (c / 3 % 2)) (mTup_ok rfl (le_line (by show 2 ≤ 16777216; decide))) (mBin_ok (mBin_ok (x := .int c) rfl rfl (fdivD_ok (by decide) (by decide))) rfl (modD_ok (by decide))) ?_) rfl))
    have : c / 3 % 2 = 0 ∨ c / 3 % 2 = 1 := by omega
    unfold stepI
    rcases this with h | h <;> rw [h] <;> rfl
  have e2 : sSet 6 (mIf (bV (mBin eqB (mVar 5) (mC (.int 1)))) (mBin subD (mUn lenD (mVar 0)) (mVar 4)) (mBin addD (mVar 4) (mC (.int 1)))) [.sh (.lst sh), .sh c0, .ow acc, .sh (.int c), .sh (.int (c % sh.length)), .sh (.int (stepI c)), x6]
      = .ok (.nx [.sh (.lst sh), .sh c0, .ow acc, .sh (.int c), .sh (.int (c % sh.length)), .sh (.int (stepI c)), .sh (.int (farI sh.length c))]) := by
    refine sSet_ok (d := .int (farI sh.length c)) ?_
    have et : bV (mBin eqB (mVar 5) (mC (.int 1))) [.sh (.lst sh), .sh c0, .ow acc, .sh (.int c), .sh (.int (c % sh.length)), .sh (.int (stepI c)), x6] = .ok (stepI c == 1) := bV_b (mBin_ok (x := .int (stepI c)) (y := .int 1) rfl rfl (by unfold eqB; rw [eqD_int]; rfl))
    unfold farI
    by_cases hs : stepI c = 1
    · rw [if_pos hs]
      rw [show (stepI c == 1) = true by rw [hs]; rfl] at et
      exact (mIf_t et).trans rfl
    · rw [if_neg hs]
      rw [show (stepI c == 1) = false from beq_eq_false_iff_ne.mpr hs] at et
      exact (mIf_f et).trans rfl
  have hf : 0 < farI sh.length c := by
    unfold farI
    split <;> omega
  refine ⟨_, _, _, (sSeq_nx e1).trans ((sSeq_nx e2).trans (sApp_ok (ds := acc) (d := clipOf sh.length c) rfl (mTup_ok (aCons_ok rfl (aCons_ok (mBin_ok rfl (mBin_ok (mBin_ok (x := .int c) rfl rfl (fdivD_ok (by decide) (by decide))) (y := .int (farI sh.length c)) rfl (modD_ok hf)) rfl) (aCons_ok rfl rfl))) (le_line (by show 3 ≤ 16777216; decide))) (by rw [sizeLine_eq]; omega)))⟩
theorem lc_for {sh : List D} {c0 : D} (hn : 0 < sh.length) (hl2 : sh.length ≤ 1000) : ∀ (cs : List Int) (acc : List D) (a b c d : Sd), acc.length + cs.length < 1000 →
    ∃ a' b' c' d', forD (.nm 3) m_lc1 (cs.map .int) [.sh (.lst sh), .sh c0, .ow acc, a, b, c, d] = .ok (.nx [.sh (.lst sh), .sh c0, .ow (acc ++ cs.map (clipOf sh.length)), a', b', c', d'])
  | [], acc, a, b, c, d, _ => ⟨a, b, c, d, by simp [forD]⟩
  | x :: cs, acc, a, b, c, d, hz => by
    rw [List.length_cons] at hz
    obtain ⟨b1, c1, d1, e⟩ := lc_turn (sh := sh) (c0 := c0) (acc := acc) (c := x) (x4 := b) (x5 := c) (x6 := d) hn (by omega) hl2
    obtain ⟨a', b', c', d', ih⟩ := lc_for (c0 := c0) hn hl2 cs (acc ++ [clipOf sh.length x]) (.sh (.int x)) b1 c1 d1 (by rw [List.length_append, List.length_singleton]; omega)
    refine ⟨a', b', c', d', ?_⟩
    rw [List.append_assoc] at ih
    exact (forD_nx rfl e).trans ih
theorem law_clippings_eq (r cs : List Int) (hr : r.length ≤ 1000) (hc : cs.length < 1000) : ∃ cl : List D, f_law_clippings [.lst (r.map .int), .lst (cs.map .int)] = .ok (.lst cl) ∧ cl.length ≤ cs.length ∧ ∀ c ∈ cl, isClip r.length c = true := by
  have e1 : sSetO 2 (mLst aNil) (st0 7 [.lst (r.map .int), .lst (cs.map .int)]) = .ok (.nx [.sh (.lst (r.map .int)), .sh (.lst (cs.map .int)), .ow [], .no, .no, .no, .no]) := rfl
  have et : bV (mBin neB (mVar 0) (mL (mLst aNil))) [.sh (.lst (r.map .int)), .sh (.lst (cs.map .int)), .ow [], .no, .no, .no, .no] = .ok (!r.isEmpty) := by
    refine bV_b (mBin_ok (x := .lst (r.map .int)) (y := .lst []) rfl rfl ?_)
    cases r with
    | nil => rfl
    | cons x r =>
      obtain ⟨p, q, h1, h2, h3⟩ := eqD_pl (pl_ints (k := 0) (x :: r)) (pl_ints (k := 0) []) (by decide) (by decide)
      unfold neB
      rw [show (D.lst []) = D.lst (([] : List Int).map D.int) from rfl, h3]
      simp only [toPy, List.map_nil, toPyAll, Option.map_some, Option.some.injEq] at h2
      subst h2
      simp only [toPy, List.map_cons, toPyAll] at h1
      cases h4 : toPyAll (r.map D.int) with
      | none => rw [h4] at h1; cases h1
      | some ps =>
        rw [h4] at h1
        cases h1
        simp [PyData.eqv, PyData.eqvAll]
  cases r with
  | nil =>
    have e2 : mSeq (mIf (bV (mBin neB (mVar 0) (mL (mLst aNil)))) (mVar 1) (mL (mLst aNil))) [.sh (.lst (([] : List Int).map .int)), .sh (.lst (cs.map .int)), .ow [], .no, .no, .no, .no] = .ok [] := by
      unfold mSeq
      rw [mIf_f et]
      rfl
    exact ⟨[], runF_rt ((sSeq_nx e1).trans ((sSeq_nx ((sFor_ok e2).trans rfl)).trans rfl)), Nat.zero_le _, fun c h => by cases h⟩
  | cons x r =>
    have e2 : mSeq (mIf (bV (mBin neB (mVar 0) (mL (mLst aNil)))) (mVar 1) (mL (mLst aNil))) [.sh (.lst ((x :: r).map .int)), .sh (.lst (cs.map .int)), .ow [], .no, .no, .no, .no] = .ok (cs.map .int) := by
      unfold mSeq
      rw [mIf_t et]
      rfl
    obtain ⟨a, b, c, d, ef⟩ := lc_for (sh := (x :: r).map .int) (c0 := .lst (cs.map .int)) (by simp) (by rw [List.length_map]; exact hr) cs [] .no .no .no .no (by simpa using hc)
    rw [List.nil_append, List.length_map] at ef
    refine ⟨cs.map (clipOf (x :: r).length), runF_rt ((sSeq_nx e1).trans ((sSeq_nx ((sFor_ok e2).trans ef)).trans rfl)), by rw [List.length_map]; exact Nat.le_refl _, fun c h => ?_⟩
    obtain ⟨k, _, rfl⟩ := List.mem_map.mp h
    exact clipOf_clip (by simp) k
end CL


set_option Elab.async false
set_option linter.all false
set_option maxRecDepth 100000
namespace CL
open PySem L2
/-! ### growO -/
theorem growO_append : ∀ (a b acc : List D), growO acc (a ++ b) = (growO acc a).bind fun xs => growO xs b
  | [], b, acc => rfl
  | d :: a, b, acc => by
    show (if isDeed acc.length d = true then growO (grow1 acc d) (a ++ b) else none) = (if isDeed acc.length d = true then growO (grow1 acc d) a else none).bind fun xs => growO xs b
    split
    · exact growO_append a b (grow1 acc d)
    · rfl
theorem growO_take {ds xs : List D} (h : growO [] ds = some xs) (k : Nat) : ∃ ys, growO [] (ds.take k) = some ys := by
  have e : ds.take k ++ ds.drop k = ds := List.take_append_drop k ds
  rw [← e, growO_append] at h
  cases q : growO [] (ds.take k) with
  | none => rw [q] at h; cases h
  | some ys => exact ⟨ys, rfl⟩
theorem growO_ok : ∀ {ds acc xs : List D}, growO acc ds = some xs → ∀ d ∈ ds, okE d
  | [], _, _, _, d, hd => by cases hd
  | e :: ds, acc, xs, h, d, hd => by
    unfold growO at h
    split at h
    · rename_i he
      rcases List.mem_cons.mp hd with rfl | hd
      · exact deed_ok he
      · exact growO_ok h d hd
    · cases h
theorem pl_deed {n : Nat} {d : D} (h : isDeed n d = true) : pl 1 d := by
  rcases isDeed_shape h with ⟨v, rfl⟩ | ⟨p, m, rfl, _⟩
  · refine pl_tup fun x hx => ?_
    simp only [List.mem_cons, List.not_mem_nil, or_false] at hx
    rcases hx with rfl | rfl
    · exact pl_str ok_put
    · exact pl_int
  · refine pl_tup fun x hx => ?_
    simp only [List.mem_cons, List.not_mem_nil, or_false] at hx
    rcases hx with rfl | rfl | rfl
    · exact pl_str ok_copy
    · exact pl_int
    · exact pl_int
theorem growO_pl : ∀ {ds acc xs : List D}, growO acc ds = some xs → ∀ d ∈ ds, pl 1 d
  | [], _, _, _, d, hd => by cases hd
  | e :: ds, acc, xs, h, d, hd => by
    unfold growO at h
    split at h
    · rename_i he
      rcases List.mem_cons.mp hd with rfl | hd
      · exact pl_deed he
      · exact growO_pl h d hd
    · cases h
theorem growO_len : ∀ {ds acc xs : List D}, growO acc ds = some xs → xs.length = acc.length + (ds.map cost).sum
  | [], acc, xs, h => by
    cases h
    rfl
  | d :: ds, acc, xs, h => by
    unfold growO at h
    split at h
    · rename_i hd
      have ih := growO_len h
      rw [List.map_cons, List.sum_cons, ih]
      rcases isDeed_shape hd with ⟨v, rfl⟩ | ⟨p, m, rfl, _⟩
      · show (acc ++ [_]).length + _ = acc.length + (1 + _)
        rw [List.length_append, List.length_singleton]
        omega
      · show (copyN acc p m.toNat).length + _ = acc.length + (m.toNat + _)
        rw [copyN_length]
        omega
    · cases h
theorem cost_take (ds : List D) (k : Nat) : ((ds.take k).map cost).sum ≤ (ds.map cost).sum := by
  have e : ((ds.take k ++ ds.drop k).map cost).sum = (ds.map cost).sum := by rw [List.take_append_drop]
  rw [List.map_append, List.sum_append] at e
  omega
/-! ### _law_grown -/
abbrev m_lgcopy : MS := sApp 1 (mIxI (iOw 1) (mVar 3))
theorem lg_for {ds0 dd : D} {p : Int} {acc : List D} {mm : Nat} (h0 : 0 ≤ p) (h1 : p < acc.length) (hz : acc.length + mm ≤ sizeLine) : ∀ (k j : Nat) (x : Sd), j + k = mm →
    ∃ x', forD (.nm 3) m_lgcopy ((List.range' j k).map fun (i : Nat) => D.int (p + (i : Nat))) [.sh ds0, .ow (copyN acc p j), .sh dd, x] = .ok (.nx [.sh ds0, .ow (copyN acc p mm), .sh dd, x'])
  | 0, j, x, e => ⟨x, by
      have : j = mm := by omega
      subst this
      rfl⟩
  | k + 1, j, x, e => by
    obtain ⟨x', ih⟩ := lg_for h0 h1 hz k (j + 1) (.sh (.int (p + (j : Nat)))) (by omega)
    refine ⟨x', ?_⟩
    have el := copyN_length acc p j
    have hat := atI_in (xs := copyN acc p j) (i := p + (j : Int)) (by omega) (by rw [el]; omega)
    have e2 : m_lgcopy [.sh ds0, .ow (copyN acc p j), .sh dd, .sh (.int (p + (j : Nat)))] = .ok (.nx [.sh ds0, .ow (copyN acc p (j + 1)), .sh dd, .sh (.int (p + (j : Nat)))]) :=
      (sApp_ok (ds := copyN acc p j) rfl (d := (copyN acc p j).getD (p + (j : Int)).toNat .non) (mIxI_ok (xs := copyN acc p j) (y := .int (p + (j : Int))) rfl rfl hat) (by rw [el]; omega)).trans rfl
    rw [List.range'_succ, List.map_cons, ← ih]
    exact forD_nx rfl e2
abbrev t_lg : MB := bOr (bNot (bV (mUn (isTy .tuple) (mVar 2)))) (bOr (bV (mBin ltD (mUn lenD (mVar 2)) (mC (.int 2)))) (bNot (bV (mCall 1 f_law_numbers (aCons (mL (mSeq (mCutT (mVar 2) (oSome (mC (.int 1))) oNone))) aNil)))))
abbrev t_lgput : MB := bAnd (bV (mBin eqB (mBin ixD (mVar 2) (mC (.int 0))) (mC (.str "put")))) (bV (mBin eqB (mUn lenD (mVar 2)) (mC (.int 2))))
abbrev t_lgcopy : MB := bAnd (bV (mBin eqB (mBin ixD (mVar 2) (mC (.int 0))) (mC (.str "copy")))) (bAnd (bV (mBin eqB (mUn lenD (mVar 2)) (mC (.int 3)))) (bAnd (bV (mChain leD ltD (mC (.int 0)) (mBin ixD (mVar 2) (mC (.int 1))) (mLenI (iOw 1)))) (bV (mBin gtD (mBin ixD (mVar 2) (mC (.int 2))) (mC (.int 0))))))
abbrev m_lg1 : MS := sSeq (sIf t_lg (sRet (mC .non)) sNil)
  (sIf t_lgput (sSetO 1 (mCat (iOw 1) (mLst (aCons (mBin ixD (mVar 2) (mC (.int 1))) aNil))))
  (sIf t_lgcopy (sFor (.nm 3) (mOf rng2 (aCons (mBin ixD (mVar 2) (mC (.int 1))) (aCons (mBin addD (mBin ixD (mVar 2) (mC (.int 1))) (mBin ixD (mVar 2) (mC (.int 2)))) aNil))) m_lgcopy)
  (sRet (mC .non))))
theorem cut_tail {ds : List D} (h2 : 2 ≤ ds.length) : cutT ds (some 1) none = some (.tup ds.tail) := by
  unfold cutT
  have e1 : HT.sIx ds.length 0 (some 1) = 1 := by
    rw [show (1 : Int) = ((1 : Nat) : Int) from rfl, HT.sIx_nat]
    omega
  rw [if_neg (by rw [e1]; omega)]
  unfold cutD
  rw [e1, HT.sIx_none, List.drop_one, List.take_of_length_le (by rw [List.length_tail]; omega)]
theorem lg_num {ds0 : D} {acc ds : List D} {x : Sd} (h2 : 2 ≤ ds.length) (hz : ds.length ≤ sizeLine) (hk : ∀ x ∈ ds.tail, okD x = true) :
    t_lg [.sh ds0, .ow acc, .sh (.tup ds), x] = .ok (!ds.tail.all isNum) := by
  have es : mL (mSeq (mCutT (mVar 2) (oSome (mC (.int 1))) oNone)) [.sh ds0, .ow acc, .sh (.tup ds), x] = .ok (.lst ds.tail) := by
    show ((ofO (cutT ds (some 1) none)).bnd _).bnd _ = _
    rw [cut_tail h2]
    rfl
  have el : bV (mBin ltD (mUn lenD (mVar 2)) (mC (.int 2))) [.sh ds0, .ow acc, .sh (.tup ds), x] = .ok false := by
    refine bV_b (mBin_ok (x := .int ds.length) (y := .int 2) rfl rfl ?_)
    show some (D.bl (decide ((ds.length : Int) < 2))) = _
    rw [decide_eq_false (by omega)]
  exact (bOr_f rfl).trans ((bOr_f el).trans (bNot_b (bV_b (mCall_is (ds := [.lst ds.tail]) (aCons_ok es rfl) rfl (law_numbers_eq hk (by rw [List.length_tail]; omega))))))
theorem eq_len {z : List Sd} {ds : List D} {k : Int} (h : z[2]? = some (.sh (.tup ds))) : bV (mBin eqB (mUn lenD (mVar 2)) (mC (.int k))) z = .ok ((ds.length : Int) == k) := by
  have ev : mVar 2 z = .ok (.tup ds) := by unfold mVar; rw [h]
  exact bV_b (mBin_ok (mUn_ok ev rfl) rfl (by unfold eqB; rw [eqD_int]; rfl))
theorem eq_head {z : List Sd} {a : D} {ds : List D} {s : Str} (h : z[2]? = some (.sh (.tup (a :: ds)))) (ha : headOk a = true) (hs : PyData.strOk s = true) : bV (mBin eqB (mBin ixD (mVar 2) (mC (.int 0))) (mC (.str s))) z = .ok (isS s a) := by
  have ev : mVar 2 z = .ok (.tup (a :: ds)) := by unfold mVar; rw [h]
  exact bV_b (mBin_ok (x := a) (mBin_ok ev rfl (show atI (a :: ds) ((0 : Nat) : Int) = some a from atI_nat rfl)) rfl (eqB_str ha hs))
theorem put_copy {a : D} (h : isS "put" a = true) : isS "copy" a = false := by
  cases a <;> first | exact absurd (show false = true from h) Bool.false_ne_true | skip
  rename_i x
  have e : x = "put" := eq_of_beq h
  subst e
  decide +kernel
theorem lg_turn {ds0 d : D} {acc : List D} {x : Sd} (hk : okE d) (hz : acc.length + cost d ≤ sizeLine) :
    if isDeed acc.length d then ∃ x', m_lg1 [.sh ds0, .ow acc, .sh d, x] = .ok (.nx [.sh ds0, .ow (grow1 acc d), .sh d, x']) else m_lg1 [.sh ds0, .ow acc, .sh d, x] = .ok (.rt .non) := by
  obtain ⟨h1, h2⟩ := hk
  cases d <;> first | exact absurd (show false = true from h1) Bool.false_ne_true | exact (show m_lg1 _ = _ from rfl) | skip
  rename_i ds
  obtain ⟨hz1, hh, hk⟩ := h2 ds rfl
  match ds, hz1, hh, hk, hz with
  | [], _, _, _, _ => exact (show m_lg1 _ = _ from rfl)
  | [a], _, _, _, _ => exact (show m_lg1 _ = _ from rfl)
  | [a, b], hz1, hh, hk, hz =>
    have en := lg_num (ds0 := ds0) (acc := acc) (x := x) (ds := [a, b]) (Nat.le_refl 2) hz1 hk
    have ha := hh a rfl
    have ep := eq_head (z := [.sh ds0, .ow acc, .sh (.tup [a, b]), x]) rfl ha ok_put
    have ec := eq_head (z := [.sh ds0, .ow acc, .sh (.tup [a, b]), x]) rfl ha ok_copy
    rw [isDeed_two]
    cases hb : isNum b with
    | false =>
      rw [show ([a, b].tail.all isNum) = false by show (isNum b && true) = false; rw [hb]; rfl] at en
      exact (show m_lg1 _ = _ from sSeq_rt ((sIf_t en).trans rfl))
    | true =>
      rw [show ([a, b].tail.all isNum) = true by show (isNum b && true) = true; rw [hb]; rfl] at en
      have e1 : sIf t_lg (sRet (mC .non)) sNil [.sh ds0, .ow acc, .sh (.tup [a, b]), x] = .ok (.nx [.sh ds0, .ow acc, .sh (.tup [a, b]), x]) := (sIf_f en).trans rfl
      obtain ⟨v, rfl⟩ := nums1 hb
      have hc1 : cost (.tup [a, .int v]) = 1 := rfl
      cases hs : isS "put" a with
      | true =>
        rw [hs] at ep
        refine (show ∃ x', m_lg1 _ = _ from ⟨x, (sSeq_nx e1).trans ((sIf_t ((bAnd_t ep).trans rfl)).trans ?_)⟩)
        exact sSetO_ok (mCat_ok (xs := acc) (ys := [.int v]) rfl rfl (by rw [List.length_singleton]; omega))
      | false =>
        rw [hs] at ep
        refine (show m_lg1 _ = _ from (sSeq_nx e1).trans ((sIf_f (bAnd_f ep)).trans ?_))
        cases hs2 : isS "copy" a with
        | true =>
          rw [hs2] at ec
          exact (sIf_f ((bAnd_t ec).trans (bAnd_f rfl))).trans rfl
        | false =>
          rw [hs2] at ec
          exact (sIf_f (bAnd_f ec)).trans rfl
  | [a, b, c], hz1, hh, hk, hz =>
    have en := lg_num (ds0 := ds0) (acc := acc) (x := x) (ds := [a, b, c]) (by show 2 ≤ 3; decide) hz1 hk
    have ha := hh a rfl
    have ep := eq_head (z := [.sh ds0, .ow acc, .sh (.tup [a, b, c]), x]) rfl ha ok_put
    have ec := eq_head (z := [.sh ds0, .ow acc, .sh (.tup [a, b, c]), x]) rfl ha ok_copy
    cases hb : (isNum b && isNum c) with
    | false =>
      rw [show ([a, b, c].tail.all isNum) = false by show (isNum b && (isNum c && true)) = false; rw [Bool.and_true, hb]] at en
      rw [isDeed_three hb]
      exact (show m_lg1 _ = _ from sSeq_rt ((sIf_t en).trans rfl))
    | true =>
      rw [show ([a, b, c].tail.all isNum) = true by show (isNum b && (isNum c && true)) = true; rw [Bool.and_true, hb]] at en
      have e1 : sIf t_lg (sRet (mC .non)) sNil [.sh ds0, .ow acc, .sh (.tup [a, b, c]), x] = .ok (.nx [.sh ds0, .ow acc, .sh (.tup [a, b, c]), x]) := (sIf_f en).trans rfl
      rw [Bool.and_eq_true] at hb
      obtain ⟨p, rfl⟩ := nums1 hb.1
      obtain ⟨m, rfl⟩ := nums1 hb.2
      have hc1 : cost (.tup [a, .int p, .int m]) = m.toNat := rfl
      rw [hc1] at hz
      have eput : t_lgput [.sh ds0, .ow acc, .sh (.tup [a, .int p, .int m]), x] = .ok false := by
        cases hs : isS "put" a with
        | true =>
          rw [hs] at ep
          exact (bAnd_t ep).trans rfl
        | false =>
          rw [hs] at ep
          exact bAnd_f ep
      have e2 : m_lg1 [.sh ds0, .ow acc, .sh (.tup [a, .int p, .int m]), x] = sIf t_lgcopy (sFor (.nm 3) (mOf rng2 (aCons (mBin ixD (mVar 2) (mC (.int 1))) (aCons (mBin addD (mBin ixD (mVar 2) (mC (.int 1))) (mBin ixD (mVar 2) (mC (.int 2)))) aNil))) m_lgcopy) (sRet (mC .non)) [.sh ds0, .ow acc, .sh (.tup [a, .int p, .int m]), x] := (sSeq_nx e1).trans (sIf_f eput)
      have ech : bV (mChain leD ltD (mC (.int 0)) (mBin ixD (mVar 2) (mC (.int 1))) (mLenI (iOw 1))) [.sh ds0, .ow acc, .sh (.tup [a, .int p, .int m]), x] = .ok (decide (0 ≤ p ∧ p < acc.length)) := bV_b (chain_ll (i := 0) (j := p) (k := acc.length) rfl rfl rfl)
      have egt : bV (mBin gtD (mBin ixD (mVar 2) (mC (.int 2))) (mC (.int 0))) [.sh ds0, .ow acc, .sh (.tup [a, .int p, .int m]), x] = .ok (decide (0 < m)) := bV_b (mBin_ok (x := .int m) (y := .int 0) rfl rfl rfl)
      have et : t_lgcopy [.sh ds0, .ow acc, .sh (.tup [a, .int p, .int m]), x] = .ok (isDeed acc.length (.tup [a, .int p, .int m])) := by
        show _ = Rs.ok (isS "copy" a && (decide (0 ≤ p ∧ p < (acc.length : Int)) && decide (0 < m)))
        cases hs : isS "copy" a with
        | false =>
          rw [hs] at ec
          exact bAnd_f ec
        | true =>
          rw [hs] at ec
          refine (bAnd_t ec).trans ((bAnd_t rfl).trans ?_)
          cases hq : decide (0 ≤ p ∧ p < (acc.length : Int)) with
          | false =>
            rw [hq] at ech
            exact bAnd_f ech
          | true =>
            rw [hq] at ech
            exact (bAnd_t ech).trans egt
      cases hd : isDeed acc.length (.tup [a, .int p, .int m]) with
      | false =>
        rw [hd] at et
        exact (show m_lg1 _ = _ from e2.trans ((sIf_f et).trans rfl))
      | true =>
        rw [hd] at et
        rcases isDeed_shape hd with ⟨v, hv⟩ | ⟨p', m', hv, h0, h1, h2⟩
        · cases hv
        · cases hv
          have er : rng2 [.int p, .int (p + m)] = some (rgD p m.toNat) := by
            have := hz
            rw [sizeLine_eq] at this
            simp only [rng2]
            rw [if_pos ⟨by omega, by omega, by omega, by omega⟩, show p + m - p = m by omega]
          obtain ⟨x', e3⟩ := lg_for (ds0 := ds0) (dd := .tup [.str "copy", .int p, .int m]) (acc := acc) h0 h1 hz m.toNat 0 x (by omega)
          refine (show ∃ x', m_lg1 _ = _ from ⟨x', e2.trans ((sIf_t et).trans ((sFor_ok (ds := rgD p m.toNat) ?_).trans ?_))⟩)
          · show ofO (rng2 [.int p, .int (p + m)]) = _
            rw [er]
            rfl
          · unfold rgD
            rw [List.range_eq_range']
            exact e3
  | a :: b :: c :: e :: r, hz1, hh, hk, hz =>
    have en := lg_num (ds0 := ds0) (acc := acc) (x := x) (ds := a :: b :: c :: e :: r) (by simp) hz1 hk
    have ha := hh a rfl
    have ep := eq_head (z := [.sh ds0, .ow acc, .sh (.tup (a :: b :: c :: e :: r)), x]) rfl ha ok_put
    have ec := eq_head (z := [.sh ds0, .ow acc, .sh (.tup (a :: b :: c :: e :: r)), x]) rfl ha ok_copy
    rw [isDeed_long]
    cases hb : (a :: b :: c :: e :: r).tail.all isNum with
    | false =>
      rw [hb] at en
      exact (show m_lg1 _ = _ from sSeq_rt ((sIf_t en).trans rfl))
    | true =>
      rw [hb] at en
      have e1 : sIf t_lg (sRet (mC .non)) sNil [.sh ds0, .ow acc, .sh (.tup (a :: b :: c :: e :: r)), x] = .ok (.nx [.sh ds0, .ow acc, .sh (.tup (a :: b :: c :: e :: r)), x]) := (sIf_f en).trans rfl
      have l2 := eq_len (z := [.sh ds0, .ow acc, .sh (.tup (a :: b :: c :: e :: r)), x]) (k := 2) rfl
      have l3 := eq_len (z := [.sh ds0, .ow acc, .sh (.tup (a :: b :: c :: e :: r)), x]) (k := 3) rfl
      rw [show ((((a :: b :: c :: e :: r).length : Nat) : Int) == 2) = false from beq_eq_false_iff_ne.mpr (by simp only [List.length_cons]; omega)] at l2
      rw [show ((((a :: b :: c :: e :: r).length : Nat) : Int) == 3) = false from beq_eq_false_iff_ne.mpr (by simp only [List.length_cons]; omega)] at l3
      refine (show m_lg1 _ = _ from (sSeq_nx e1).trans ((sIf_f ?_).trans ((sIf_f ?_).trans rfl)))
      · cases hs : isS "put" a with
        | true =>
          rw [hs] at ep
          exact (bAnd_t ep).trans l2
        | false =>
          rw [hs] at ep
          exact bAnd_f ep
      · cases hs : isS "copy" a with
        | true =>
          rw [hs] at ec
          exact (bAnd_t ec).trans (bAnd_f l3)
        | false =>
          rw [hs] at ec
          exact bAnd_f ec
theorem lgrown_for {ds0 : D} : ∀ (ds acc : List D) (x y : Sd), (∀ d ∈ ds, okE d) → acc.length + (ds.map cost).sum ≤ sizeLine →
    match growO acc ds with
    | some xs => ∃ x' y', forD (.nm 2) m_lg1 ds [.sh ds0, .ow acc, x, y] = .ok (.nx [.sh ds0, .ow xs, x', y'])
    | none => forD (.nm 2) m_lg1 ds [.sh ds0, .ow acc, x, y] = .ok (.rt .non)
  | [], acc, x, y, _, _ => ⟨x, y, rfl⟩
  | d :: ds, acc, x, y, hk, hz => by
    rw [List.map_cons, List.sum_cons] at hz
    have t := lg_turn (ds0 := ds0) (d := d) (acc := acc) (x := y) (hk d List.mem_cons_self) (by omega)
    unfold growO
    cases hd : isDeed acc.length d with
    | false =>
      rw [hd, if_neg Bool.false_ne_true] at t
      rw [if_neg Bool.false_ne_true]
      exact forD_rt rfl t
    | true =>
      rw [hd, if_pos rfl] at t
      rw [if_pos rfl]
      obtain ⟨y', t⟩ := t
      have hl : (grow1 acc d).length ≤ acc.length + cost d := by
        rcases isDeed_shape hd with ⟨v, rfl⟩ | ⟨p, m, rfl, _⟩
        · show (acc ++ [_]).length ≤ acc.length + 1
          rw [List.length_append]
          exact Nat.le_refl _
        · show (copyN acc p m.toNat).length ≤ acc.length + m.toNat
          rw [copyN_length]
          exact Nat.le_refl _
      have ih := lgrown_for (ds0 := ds0) ds (grow1 acc d) (.sh d) y' (fun e h => hk e (List.mem_cons_of_mem _ h)) (by omega)
      have e : forD (.nm 2) m_lg1 (d :: ds) [.sh ds0, .ow acc, x, y] = forD (.nm 2) m_lg1 ds [.sh ds0, .ow (grow1 acc d), .sh d, y'] := forD_nx rfl t
      rw [e]
      exact ih
theorem law_grown_eq {ds : List D} (hk : ∀ d ∈ ds, okE d) (hz : (ds.map cost).sum ≤ sizeLine) : f_law_grown [.lst ds] = .ok (match growO [] ds with | some xs => .lst xs | none => .non) := by
  have t := lgrown_for (ds0 := .lst ds) ds [] .no .no hk (by simpa using hz)
  cases hg : growO [] ds with
  | none =>
    rw [hg] at t
    exact runF_rt ((sSeq_nx (z' := [.sh (.lst ds), .ow [], .no, .no]) rfl).trans (sSeq_rt ((sFor_ok rfl).trans t)))
  | some xs =>
    rw [hg] at t
    obtain ⟨x', y', t⟩ := t
    exact runF_rt ((sSeq_nx (z' := [.sh (.lst ds), .ow [], .no, .no]) rfl).trans ((sSeq_nx ((sFor_ok rfl).trans t)).trans rfl))
end CL


set_option Elab.async false
set_option linter.all false
set_option maxRecDepth 100000
/-! Stretches: stands, spans, rising. -/
namespace CL
open PySem PySem.Spec L2
abbrev il (xs : List Int) : List D := xs.map D.int
/-! ### == of rows of ints -/
theorem toPyAll_ints : ∀ xs : List Int, toPyAll (il xs) = some (xs.map PyData.int)
  | [] => by simp [toPyAll]
  | x :: xs => by
    show toPyAll (D.int x :: il xs) = _
    simp only [toPyAll, toPy, toPyAll_ints xs]
    rfl
theorem eqvAll_ints : ∀ xs ys : List Int, PyData.eqvAll (xs.map PyData.int) (ys.map PyData.int) = decide (xs = ys)
  | [], [] => by simp [PyData.eqvAll]
  | [], y :: ys => by simp [PyData.eqvAll]
  | x :: xs, [] => by simp [PyData.eqvAll]
  | x :: xs, y :: ys => by
    simp only [List.map_cons, PyData.eqvAll, PyData.eqv, eqvAll_ints xs ys]
    by_cases h : x = y
    · subst h; simp
    · simp [h]
theorem eqD_ints (xs ys : List Int) : eqD (.lst (il xs)) (.lst (il ys)) = some (decide (xs = ys)) := by
  obtain ⟨p, q, a, b, c⟩ := eqD_pl (pl_ints (k := 0) xs) (pl_ints (k := 0) ys) (by decide) (by decide)
  simp only [toPy, toPyAll_ints] at a b
  cases a
  cases b
  rw [c]
  congr 1
  simp only [PyData.eqv]
  exact eqvAll_ints xs ys
theorem eqB_ints (xs ys : List Int) : eqB (.lst (il xs)) (.lst (il ys)) = some (.bl (decide (xs = ys))) := by
  unfold eqB
  rw [eqD_ints]
  rfl
theorem neB_ints (xs ys : List Int) : neB (.lst (il xs)) (.lst (il ys)) = some (.bl (!decide (xs = ys))) := by
  unfold neB
  rw [eqD_ints]
  rfl
/-! ### slices -/
theorem take_min {α : Type} (l : List α) (a b : Nat) (h : l.length ≤ b) : l.take (min a b) = l.take a := by
  by_cases q : a ≤ b
  · rw [Nat.min_eq_left q]
  · rw [Nat.min_eq_right (by omega), List.take_of_length_le h, List.take_of_length_le (by omega)]
theorem cutD_mid (xs : List D) (i j : Nat) : cutD xs (some (i : Int)) (some (j : Int)) = (xs.drop i).take (j - i) := by
  unfold cutD
  rw [HT.sIx_nat, HT.sIx_nat]
  by_cases h : i ≤ xs.length
  · rw [Nat.min_eq_left h]
    have : min j xs.length - i = min (j - i) (xs.length - i) := by omega
    rw [this, take_min _ _ _ (by rw [List.length_drop]; omega)]
  · rw [List.drop_eq_nil_of_le (by omega), List.drop_eq_nil_of_le (by omega), List.take_nil, List.take_nil]
def segL (xs : List Int) (i n : Nat) : List Int := (xs.drop i).take n
theorem cut_ints (xs : List Int) (i j : Nat) : cutD (il xs) (some (i : Int)) (some (j : Int)) = il (segL xs i (j - i)) := by
  rw [cutD_mid]
  unfold segL il
  rw [List.map_take, List.map_drop]
theorem mCut_ok {mi : ML} {mo mp : List Sd → Rs (Option Int)} {z : List Sd} {xs ys : List D} {a b : Option Int} (h1 : mi z = .ok xs) (h2 : mo z = .ok a) (h3 : mp z = .ok b) (h : cutD xs a b = ys) : mCut mi mo mp z = .ok ys := by
  unfold mCut
  rw [h1, bnd_ok, h2, bnd_ok, h3, bnd_ok, h]
theorem oSome_ok {m : M} {z : List Sd} {i : Int} (h : m z = .ok (.int i)) : oSome m z = .ok (some i) := by
  unfold oSome
  rw [h]
  rfl
theorem mOf_ok {f : List D → Option (List D)} {ms : ML} {z : List Sd} {xs ys : List D} (h : ms z = .ok xs) (hf : f xs = some ys) : mOf f ms z = .ok ys := by
  unfold mOf
  rw [h, bnd_ok, hf]
  rfl
theorem rng1_ok {j : Int} (h1 : -(2 ^ 62) ≤ j) (h2 : j < 2 ^ 62) : rng1 [.int j] = some (rgD 0 j.toNat) := by
  exact if_pos ⟨h1, h2⟩
theorem rng2_ok {i j : Int} (h1 : -(2 ^ 62) ≤ i) (h2 : i < 2 ^ 62) (h3 : -(2 ^ 62) ≤ j) (h4 : j < 2 ^ 62) : rng2 [.int i, .int j] = some (rgD i (j - i).toNat) := by
  exact if_pos ⟨h1, h2, h3, h4⟩
theorem rgD_any (n : Nat) (g : D → Bool) : (rgD 0 n).any g = (List.range n).any fun i => g (.int (i : Nat)) := by
  unfold rgD
  rw [List.any_map]
  congr 1
  funext i
  simp
/-! ### stands -/
def standsP (sh st : List Int) : Bool := (List.range (sh.length + 1 - st.length)).any fun i => decide (segL sh i st.length = st)
abbrev BIG : Nat := 100000
theorem big_line : BIG + 1 ≤ sizeLine := by rw [sizeLine_eq]; decide
theorem stands_eq (sh st : List Int) (h1 : sh.length ≤ BIG) (h2 : st.length ≤ BIG) : f_stands [.lst (il sh), .lst (il st)] = .ok (.bl (standsP sh st)) := by
  have hb := big_line
  refine runF_rt ?_
  unfold m_stands
  refine (sSeq_nx (sSet_ok (d := .int (st.length : Nat)) ?_)).trans ?_
  · exact mUn_ok (x := .lst (il st)) rfl (by show some (D.int ((il st).length : Nat)) = _; rw [List.length_map])
  refine sRet_ok ?_
  have hm : mOf rng1 (aCons (mBin addD (mBin subD (mUn lenD (mVar 0)) (mVar 2)) (mC (.int 1))) aNil) [.sh (.lst (il sh)), .sh (.lst (il st)), .sh (.int (st.length : Nat)), .no] = .ok (rgD 0 (sh.length + 1 - st.length)) := by
    have e : ((sh.length : Int) - (st.length : Int) + 1).toNat = sh.length + 1 - st.length := by omega
    rw [← e]
    have hh : BIG = 100000 := rfl
    refine mOf_ok (xs := [.int ((sh.length : Int) - (st.length : Int) + 1)]) (aCons_ok (mBin_ok (x := .int ((sh.length : Int) - (st.length : Int))) (y := .int 1) (mBin_ok (x := .int (sh.length : Nat)) (y := .int (st.length : Nat)) ?_ rfl rfl) rfl rfl) rfl) (rng1_ok (by omega) (by omega))
    exact mUn_ok (x := .lst (il sh)) rfl (by show some (D.int ((il sh).length : Nat)) = _; rw [List.length_map])
  have key := mAny_comp (i := 3) (vs := [3]) (z := [.sh (.lst (il sh)), .sh (.lst (il st)), .sh (.int (st.length : Nat)), .no])
    (me := mBin eqB (mL (mCut (iE (mVar 0)) (oSome (mVar 3)) (oSome (mBin addD (mVar 3) (mVar 2))))) (mVar 1)) (g := fun d => match d with | .int i => decide (segL sh i.toNat st.length = st) | _ => false) hm (by rw [rgD_length]; omega) (fun d hd => by
    obtain ⟨i, hi, rfl⟩ := mem_rgD hd
    rw [Int.zero_add]
    have e : mL (mCut (iE (mVar 0)) (oSome (mVar 3)) (oSome (mBin addD (mVar 3) (mVar 2)))) ((wipeD [.sh (.lst (il sh)), .sh (.lst (il st)), .sh (.int (st.length : Nat)), .no] [3]).set 3 (.sh (.int (i : Nat)))) = .ok (.lst (il (segL sh i st.length))) := by
      refine mL_ok (mCut_ok (xs := il sh) (a := some (i : Nat)) (b := some ((i + st.length : Nat) : Int)) rfl rfl (oSome_ok (mBin_ok (x := .int (i : Nat)) (y := .int (st.length : Nat)) rfl rfl rfl)) ?_)
      rw [cut_ints, Nat.add_sub_cancel_left]
    exact mBin_ok e rfl (eqB_ints _ _))
  refine key.trans ?_
  rw [rgD_any]
  rfl
/-! ### spans -/
/-- rising places below n, the first above last -/
def risingP (n : Nat) (last : Int) : List Int → Bool
  | [] => true
  | m :: ms => decide (last < m ∧ m < n) && risingP n m ms
/-- the stretch from one mark to another, both in -/
def segM (row : List Int) (a b : Int) : List Int := segL row a.toNat (b.toNat + 1 - a.toNat)
def partsP (row : List Int) : List Int → List (List Int)
  | a :: b :: r => segM row a b :: partsP row (b :: r)
  | _ => []
def spansP (row marks : List Int) : Option (List (List Int)) := if risingP row.length (-1) marks then some (partsP row marks) else none
theorem partsP_length (row : List Int) : ∀ ms : List Int, (partsP row ms).length = ms.length - 1
  | [] => rfl
  | [_] => rfl
  | a :: b :: r => by
    show (partsP row (b :: r)).length + 1 = _
    rw [partsP_length row (b :: r)]
    rfl
theorem partsP_get (row : List Int) : ∀ (ms : List Int) (i : Nat), i + 1 < ms.length → (partsP row ms)[i]? = some (segM row (ms.getD i 0) (ms.getD (i + 1) 0))
  | [], i, h => by simp at h
  | [_], i, h => by simp at h
  | a :: b :: r, 0, _ => rfl
  | a :: b :: r, i + 1, h => by
    show (partsP row (b :: r))[i]? = _
    rw [partsP_get row (b :: r) i (by simpa using h)]
    rfl
theorem partsP_eq (row ms : List Int) : partsP row ms = (List.range (ms.length - 1)).map fun i => segM row (ms.getD i 0) (ms.getD (i + 1) 0) := by
  apply List.ext_getElem?
  intro i
  rw [List.getElem?_map]
  by_cases h : i < ms.length - 1
  · rw [partsP_get row ms i (by omega), List.getElem?_range h]
    rfl
  · rw [List.getElem?_eq_none (by rw [partsP_length]; omega), List.getElem?_eq_none (by rw [List.length_range]; omega)]
    rfl
theorem rising_mono {n : Nat} {l : Int} : ∀ {ms : List Int}, risingP n l ms = true → ∀ m ∈ ms, l < m ∧ m < n
  | [], _, m, h => by cases h
  | x :: ms, hr, m, h => by
    simp only [risingP, Bool.and_eq_true, decide_eq_true_eq] at hr
    rcases List.mem_cons.mp h with rfl | h
    · exact hr.1
    · have := rising_mono hr.2 m h
      omega
abbrev m_span1 : MS := sSeq (sIf (bNot (bV (mChain ltD ltD (mVar 2) (mVar 3) (mUn lenD (mVar 0))))) (sRet (mC .non)) sNil) (sSet 2 (mVar 3))
theorem span_for {row : List Int} {ms0 : List Int} {y : Sd} : ∀ (ms : List Int) (l : Int) (x : Sd), ∃ l' x', forD (.nm 3) m_span1 (il ms) [.sh (.lst (il row)), .sh (.lst (il ms0)), .sh (.int l), x, y] =
    if risingP row.length l ms then .ok (.nx [.sh (.lst (il row)), .sh (.lst (il ms0)), .sh (.int l'), x', y]) else .ok (.rt .non)
  | [], l, x => ⟨l, x, rfl⟩
  | m :: ms, l, x => by
    obtain ⟨l', x', ih⟩ := span_for (row := row) (ms0 := ms0) (y := y) ms m (.sh (.int m))
    refine ⟨l', x', ?_⟩
    have ht : bNot (bV (mChain ltD ltD (mVar 2) (mVar 3) (mUn lenD (mVar 0)))) [.sh (.lst (il row)), .sh (.lst (il ms0)), .sh (.int l), .sh (.int m), y] = .ok (!decide (l < m ∧ m < row.length)) :=
      bNot_b (bV_b (chain_lt2 rfl rfl (mUn_ok (x := .lst (il row)) rfl (by show some (D.int ((il row).length : Nat)) = _; rw [List.length_map]))))
    by_cases h : l < m ∧ m < row.length
    · rw [decide_eq_true h] at ht
      have e : m_span1 [.sh (.lst (il row)), .sh (.lst (il ms0)), .sh (.int l), .sh (.int m), y] = .ok (.nx [.sh (.lst (il row)), .sh (.lst (il ms0)), .sh (.int m), .sh (.int m), y]) :=
        (sSeq_nx (sIf_f ht)).trans rfl
      have hr : risingP row.length l (m :: ms) = risingP row.length m ms := by simp only [risingP, decide_eq_true h, Bool.true_and]
      rw [hr, ← ih]
      exact forD_nx rfl e
    · rw [decide_eq_false h] at ht
      have e : m_span1 [.sh (.lst (il row)), .sh (.lst (il ms0)), .sh (.int l), .sh (.int m), y] = .ok (.rt .non) := sSeq_rt ((sIf_t ht).trans rfl)
      have hr : risingP row.length l (m :: ms) = false := by simp only [risingP, decide_eq_false h, Bool.false_and]
      rw [hr, if_neg Bool.false_ne_true]
      exact forD_rt rfl e
def spansD (o : Option (List (List Int))) : D := match o with
  | none => .non
  | some ps => .lst (ps.map fun p => .lst (il p))
theorem getD_il (ms : List Int) (i : Nat) (h : i < ms.length) : (il ms).getD i .non = .int (ms.getD i 0) := by
  unfold il
  rw [List.getD_eq_getElem?_getD, List.getD_eq_getElem?_getD, List.getElem?_map, List.getElem?_eq_getElem h]
  rfl
theorem ix_il {ms : List Int} {i : Int} (h0 : 0 ≤ i) (h1 : i < ms.length) : ixD (.lst (il ms)) (.int i) = some (.int (ms.getD i.toNat 0)) := by
  have := atI_in (xs := il ms) (i := i) h0 (by rw [List.length_map]; exact h1)
  rw [getD_il ms i.toNat (by omega)] at this
  exact this
theorem spans_eq (row marks : List Int) (h1 : row.length ≤ BIG) (h2 : marks.length ≤ BIG) : f_spans [.lst (il row), .lst (il marks)] = .ok (spansD (spansP row marks)) := by
  have hb := big_line
  have hh : BIG = 100000 := rfl
  refine runF_rt ?_
  unfold m_spans
  obtain ⟨l', x', ef⟩ := span_for (row := row) (ms0 := marks) (y := .no) marks (-1) .no
  refine (sSeq_nx (sSet_ok (d := .int (-1)) rfl)).trans ?_
  have e1 : sFor (.nm 3) (mSeq (mVar 1)) m_span1 [.sh (.lst (il row)), .sh (.lst (il marks)), .sh (.int (-1)), .no, .no] = _ := (sFor_ok (ds := il marks) rfl).trans ef
  by_cases hr : risingP row.length (-1) marks = true
  · rw [if_pos hr] at e1
    have hs : spansP row marks = some (partsP row marks) := by unfold spansP; rw [if_pos hr]
    rw [hs]
    refine (sSeq_nx e1).trans (sRet_ok (mL_ok ?_))
    have hin := rising_mono hr
    have hm : mOf rng2 (aCons (mC (.int 1)) (aCons (mUn lenD (mVar 1)) aNil)) (frz [.sh (.lst (il row)), .sh (.lst (il marks)), .sh (.int l'), x', .no]) = .ok (rgD 1 (marks.length - 1)) := by
      have e : ((marks.length : Int) - 1).toNat = marks.length - 1 := by omega
      rw [← e]
      refine mOf_ok (xs := [.int 1, .int (marks.length : Nat)]) (aCons_ok rfl (aCons_ok (mUn_ok (x := .lst (il marks)) rfl (by show some (D.int ((il marks).length : Nat)) = _; rw [List.length_map])) rfl)) (rng2_ok (by omega) (by omega) (by omega) (by omega))
    refine (mComp_map (i := 4) (g := fun d => match d with | .int k => .lst (il (segM row (marks.getD (k.toNat - 1) 0) (marks.getD k.toNat 0))) | _ => .non) hm (by rw [rgD_length]; omega) (fun d hd => ?_)).trans ?_
    · obtain ⟨i, hi, rfl⟩ := mem_rgD hd
      have a1 : 0 ≤ marks.getD i 0 ∧ marks.getD i 0 < row.length := by
        have hl : i < marks.length := by omega
        have := hin (marks.getD i 0) (by rw [List.getD_eq_getElem?_getD, List.getElem?_eq_getElem hl]; exact List.getElem_mem hl)
        omega
      have a2 : 0 ≤ marks.getD (i + 1) 0 ∧ marks.getD (i + 1) 0 < row.length := by
        have hl : i + 1 < marks.length := by omega
        have := hin (marks.getD (i + 1) 0) (by rw [List.getD_eq_getElem?_getD, List.getElem?_eq_getElem hl]; exact List.getElem_mem hl)
        omega
      have t1 : ((1 : Int) + (i : Nat) - 1).toNat = i := by omega
      have t2 : ((1 : Int) + (i : Nat)).toNat = i + 1 := by omega
      have i1 := ix_il (ms := marks) (i := 1 + (i : Nat) - 1) (by omega) (by omega)
      have i2 := ix_il (ms := marks) (i := 1 + (i : Nat)) (by omega) (by omega)
      rw [t1] at i1
      rw [t2] at i2
      show _ = Rs.ok (D.lst (il (segM row (marks.getD (((1 : Int) + (i : Nat)).toNat - 1) 0) (marks.getD ((1 : Int) + (i : Nat)).toNat 0))))
      rw [t2, Nat.add_sub_cancel]
      obtain ⟨p, hp⟩ : ∃ p : Nat, marks.getD i 0 = (p : Int) := ⟨(marks.getD i 0).toNat, by omega⟩
      obtain ⟨q, hq⟩ : ∃ q : Nat, marks.getD (i + 1) 0 = (q : Int) := ⟨(marks.getD (i + 1) 0).toNat, by omega⟩
      rw [hp] at i1
      rw [hq] at i2
      rw [hp, hq]
      have cz : ((q : Int) + 1) = ((q + 1 : Nat) : Int) := by omega
      refine mL_ok (mCut_ok (xs := il row) (a := some (p : Int)) (b := some ((q + 1 : Nat) : Int)) rfl (oSome_ok (mBin_ok (x := .lst (il marks)) (y := .int (1 + (i : Nat) - 1)) rfl (mBin_ok (x := .int (1 + (i : Nat))) (y := .int 1) rfl rfl rfl) i1)) (oSome_ok ?_) ?_)
      · rw [← cz]
        exact mBin_ok (x := .int (q : Int)) (y := .int 1) (mBin_ok (x := .lst (il marks)) (y := .int (1 + (i : Nat))) rfl rfl i2) rfl rfl
      · rw [cut_ints]
        rfl
    · refine congrArg Rs.ok ?_
      show (rgD 1 (marks.length - 1)).map _ = (partsP row marks).map fun p => D.lst (il p)
      rw [partsP_eq, List.map_map]
      unfold rgD
      rw [List.map_map]
      apply List.map_congr_left
      intro i hi
      show D.lst (il (segM row (marks.getD (((1 : Int) + (i : Nat)).toNat - 1) 0) (marks.getD ((1 : Int) + (i : Nat)).toNat 0))) = _
      have t2 : ((1 : Int) + (i : Nat)).toNat = i + 1 := by omega
      rw [t2, Nat.add_sub_cancel]
      rfl
  · rw [if_neg hr] at e1
    have hs : spansP row marks = none := by unfold spansP; rw [if_neg hr]
    rw [hs]
    exact sSeq_rt e1
end CL


set_option Elab.async false
set_option linter.all false
set_option maxRecDepth 100000
/-! The data layer, part bd: the script against the empty list. -/
namespace CL
open PySem PySem.Spec PyProof.Rows L2
def neS : D → D → Option D
  | .scr ns, .lst [] => some (.bl (!decide (ns = [])))
  | _, _ => none
theorem dpAll_ints {K : PySem.W.Frag} {H : Hp} : ∀ ns : List Int, DpAll K H (ns.map V.int) (ns.map PyData.int)
  | [] => .nil
  | n :: ns => .cons (.int n) (dpAll_ints ns)
theorem opd_neS {T : Tx} {K : PySem.W.Frag} (hK : K = T.K) : OpD T (rNeD K) neS := fun F H v w x y d Q e rx ry ef k => by
  subst hK
  cases x <;> first | cases ef | skip
  rename_i ns
  cases y <;> first | cases ef | skip
  rename_i ys
  cases ys with
  | cons _ _ => cases ef
  | nil =>
    cases ef
    obtain ⟨p, q, h1, h2, h3, h4, h5⟩ := eqD_some (eqD_ints ns [])
    have e1 : toPy (.lst (il ns)) = some (.list (ns.map PyData.int)) := by simp only [toPy, toPyAll_ints, Option.map_some]
    have e2 : toPy (.lst (il [])) = some (.list []) := by simp [toPy, toPyAll]
    rw [e1] at h1
    cases h1
    rw [e2] at h2
    cases h2
    cases rx with
    | scr hr =>
      cases ry with
      | lst hs ha =>
        cases ha
        refine ⟨_, _, .lst (e.sq hr) (dpAll_ints ns), .lst (.inl (e.rd hs)) .nil, h3, h4, ?_⟩
        rw [h5]
        exact k _ F H (Up.refl e) (.bl _)
section
variable {T : Tx} {X : Cx} {E : XK} {a b : Expr} {ma mb : M} {pos : Pos}
theorem de_neS {n : Nat} (hr : Room n X.A) (ha : DE T X E a ma) (hb : DE T X E b mb) (hK : X.K = T.K := by rfl) : DE T X E (.Compare a [.NotEq] [b] pos) (mBin neS ma mb) := de_cmp (op_neD hr.units) (opd_neS hK) ha hb (nomark _)
end
end CL


set_option Elab.async false
set_option linter.all false
set_option maxRecDepth 100000
/-! The data layer, part ca: a comprehension of new lists as an own holder; lambdas that capture nothing, whose answers may be new. -/
namespace CL
open PySem PySem.Spec PyProof.Rows L2 NdefX LamX
/-! ### promises joined -/
theorem fnok_or {P : Program} {w : World} {K : PySem.W.Frag} {mg : Str → Option Value} {base : Heap} {CX : CXT} {k : Nat} {f : Addr} {fd : FuncData} {ps : List Str} {sp sp2 : Sp} (G : FnOk P w K mg base CX k f fd ps sp) (G2 : FnOk P w K mg base CX k f fd ps sp2) : FnOk P w K mg base CX k f fd ps (fun vs H Q E => sp vs H Q E ∨ sp2 vs H Q E) :=
  ⟨fun vs H Q E h => h.elim (G.len vs H Q E) (G2.len vs H Q E), fun A outer s H args us vs Q E hr e0 b v h => h.elim (G.run A outer s H args us vs Q E hr e0 b v) (G2.run A outer s H args us vs Q E hr e0 b v)⟩
theorem fnok_no {P : Program} {w : World} {K : PySem.W.Frag} {mg : Str → Option Value} {base : Heap} {CX : CXT} {k n : Nat} {f : Addr} {fd : FuncData} {ps : List Str} {T : Tx} : FnOk P w K mg base CX k f fd ps (spD T n fun _ => .stuck) :=
  ⟨fun vs H Q E ⟨_, _, _, _, _, h⟩ => h.elim, fun A outer s H args us vs Q E hr e0 b v ⟨_, _, _, _, _, h⟩ => h.elim⟩
/-! ### [new list for x in ..] -/
def compL (t : Tg) (me : ML) (z : List Sd) : List D → Rs (List (List D))
  | [] => .ok []
  | d :: ds => (setT t d z).bnd fun z1 => (noX (me z1)).bnd fun x => (compL t me z ds).bnd fun xs => .ok (x :: xs)
def mCompO (t : Tg) (vs : List Nat) (mi : ML) (me : ML) : MR := fun z => (mi z).bnd fun ds => if ds.length ≤ sizeLine then (compL t me (wipeD z vs) ds).bnd fun fs => .ok (.obj none fs) else .stuck
theorem compL_ok {t : Tg} {me : ML} {z : List Sd} {d : D} {ds : List D} {full : List (List D)} (h : compL t me z (d :: ds) = .ok full) : ∃ z1 x xs, setT t d z = .ok z1 ∧ me z1 = .ok x ∧ compL t me z ds = .ok xs ∧ full = x :: xs := by
  simp only [compL] at h
  cases h1 : setT t d z with
  | stuck => rw [h1] at h; cases h
  | exc c => rw [h1] at h; cases h
  | ok z1 =>
    rw [h1] at h
    cases h2 : me z1 with
    | stuck => rw [bnd_ok, h2] at h; cases h
    | exc c => rw [bnd_ok, h2] at h; cases h
    | ok x =>
      rw [bnd_ok, h2] at h
      cases h3 : compL t me z ds with
      | stuck => rw [h3] at h; cases h
      | exc c => rw [h3] at h; cases h
      | ok xs =>
        rw [h3] at h
        cases h
        exact ⟨z1, x, xs, rfl, h2, rfl, rfl⟩
theorem compL_noexc {t : Tg} {me : ML} {z : List Sd} : ∀ (ds : List D) (c : Nat), compL t me z ds ≠ .exc c
  | [], c, h => by cases h
  | d :: ds, c, h => by
    simp only [compL] at h
    cases h1 : setT t d z with
    | stuck => rw [h1] at h; cases h
    | exc c' => exact setT_noexc t d z c' h1
    | ok z1 =>
      rw [h1, bnd_ok] at h
      cases h2 : me z1 with
      | stuck => rw [h2] at h; cases h
      | exc c => rw [h2] at h; cases h
      | ok x =>
        rw [h2] at h
        cases h3 : compL t me z ds with
        | stuck => rw [h3] at h; cases h
        | exc c' => exact compL_noexc ds c' h3
        | ok xs => rw [h3] at h; cases h
/-- own lists one more -/
theorem Lists.snoc {T : Tx} {F H : Hp} {ps : List Addr} {fs : List (List D)} {p : Addr} {xs : List V} {ds : List D} (h : Lists T F H ps fs) (h1 : H p = some (.lst xs)) (h2 : F p = none) (h3 : RpAll T F xs ds) : Lists T F H (ps ++ [p]) (fs ++ [ds]) := by
  refine ⟨by rw [List.length_append, List.length_append, h.1]; rfl, fun j q es e1 e2 => ?_⟩
  by_cases hj : j < ps.length
  · rw [List.getElem?_append_left hj] at e1
    rw [List.getElem?_append_left (by rw [← h.1]; exact hj)] at e2
    exact h.2 j q es e1 e2
  · rw [List.getElem?_append_right (by omega)] at e1
    rw [List.getElem?_append_right (by rw [← h.1]; omega), ← h.1] at e2
    have hz : j - ps.length = 0 := by
      cases hq : j - ps.length with
      | zero => rfl
      | succ n => rw [hq] at e1; simp at e1
    rw [hz] at e1 e2
    cases e1
    cases e2
    exact ⟨xs, h1, h2, h3⟩
theorem Lists.up {T : Tx} {F H F' H' : Hp} {ps : List Addr} {fs : List (List D)} (h : Lists T F H ps fs) (u : Up T F H F' H') : Lists T F' H' ps fs :=
  ⟨h.1, fun j q es e1 e2 => let ⟨xs, a, b, c⟩ := h.2 j q es e1 e2; ⟨xs, u.h.ex _ _ a, u.hid b a, c.mono u.f⟩⟩
section
variable {T : Tx} {X : Cx} {E : XK} {tg elt iter : Expr} {scope : Scope} {own : List (Str × Nat)} {t : Tg} {me mi : ML} {pos : Pos}
theorem compO_read {t : Tg} {vs : List Nat} {me : ML} (hs : ∀ i ∈ t.slots, i ∈ vs) : ∀ (s : L2.St) (H : Hp) (Q : VK), tG T E (lR T) (mCompO t vs mi me) s H Q → tLc (tG T E (lN T) mi) (tTg T t) tYes (tG T E0 (lL T) me) vs s H Q := by
  rintro s H Q ⟨F, z, q, h⟩
  refine ⟨F, z, q, ?_⟩
  unfold mCompO at h
  cases em : mi z with
  | stuck => rw [em] at h; exact h
  | exc c => rw [em] at h; exact h
  | ok ds =>
    rw [em] at h
    have h' : Post T E (lR T) F H Q (if ds.length ≤ sizeLine then (compL t me (wipeD z vs) ds).bnd fun fs => .ok (.obj none fs) else .stuck) := h
    by_cases hz : ds.length ≤ sizeLine
    · rw [if_pos hz] at h'
      cases ec : compL t me (wipeD z vs) ds with
      | stuck => rw [ec] at h'; exact h'.elim
      | exc c => exact (compL_noexc ds c ec).elim
      | ok full =>
        rw [ec] at h'
        intro J F1 H1 u1 it Dd hD
        have qw : ∀ {F' H' : Hp}, Up T F1 H1 F' H' → R T F' H' (wipe s vs) (wipeD z vs) := fun u => (q.wipe vs).up (u1.trans u)
        refine ⟨fun i m H' => m = ds.length - i ∧ i ≤ ds.length ∧ ∃ F' ps dacc rest, Up T F1 H1 F' H' ∧ H' Dd = some (.lst (ps.map V.ref)) ∧ F' Dd = none ∧ ps.Nodup ∧ (∀ p ∈ ps, H1 p = none ∧ p ≠ Dd) ∧ Lists T F' H' ps dacc ∧ dacc.length = i ∧ compL t me (wipeD z vs) (ds.drop i) = .ok rest ∧ full = dacc ++ rest,
          ⟨ds.length, by simp, Nat.zero_le _, F1, [], [], full, Up.newO u1.s hD, upd_same, u1.s.back hD, List.nodup_nil, (fun p hp => nomatch hp), ⟨rfl, fun j p es e1 => by simp at e1⟩, rfl, ec, rfl⟩, ?_⟩
        rintro i m H' ⟨rfl, hi, F', ps, dacc, rest, u', hacc, hf, hnd, hnew, hA, hl, hc, hfull⟩
        by_cases hlt : i < ds.length
        · have hd : ds[i]? = some ds[i] := List.getElem?_eq_getElem hlt
          have hdrop : ds.drop i = ds[i] :: ds.drop (i + 1) := List.drop_eq_getElem_cons hlt
          rw [hdrop] at hc
          obtain ⟨z1, x, xs, e1, e2, e3, e4⟩ := compL_ok hc
          refine .inr ⟨it.go i F' H' u'.f u'.s hlt, fun H'' => (∃ F' ps dacc rest, Up T F1 H1 F' H'' ∧ H'' Dd = some (.lst (ps.map V.ref)) ∧ F' Dd = none ∧ ps.Nodup ∧ (∀ p ∈ ps, H1 p = none ∧ p ≠ Dd) ∧ Lists T F' H'' ps dacc ∧ dacc.length = i + 1 ∧ compL t me (wipeD z vs) (ds.drop (i + 1)) = .ok rest ∧ full = dacc ++ rest),
            fun H'' hn => ⟨ds.length - (i + 1), by omega, rfl, hlt, hn⟩, fun v H2 hy => ?_⟩
          obtain ⟨F2, u2, r2⟩ := it.yl i F' H' v H2 _ u'.f u'.s hd hy
          refine ⟨F2, wipeD z vs, ds[i], z1, qw (u'.trans u2), r2, e1, fun s' r' hb => ⟨wipe_but hb hs, ?_⟩⟩
          unfold tYes
          dsimp only
          rw [if_pos rfl]
          refine ⟨F2, z1, r', ?_⟩
          rw [e2]
          rintro y F3 H3 u3 ⟨p, ws, rfl, p0, pf, pH, pA⟩
          have hacc2 : H2 Dd = some (.lst (ps.map V.ref)) := u2.h.ex _ _ hacc
          have hacc3 : H3 Dd = some (.lst (ps.map V.ref)) := u3.h.ex _ _ hacc2
          have hf3 : F3 Dd = none := u3.hid (u2.hid hf hacc) hacc2
          have npD : p ≠ Dd := (ne_of_none hacc2 p0).symm
          have hL3 : Lists T F3 H3 ps dacc := (hA.up u2).up u3
          have inps : ∀ {b : Addr}, b ∈ ps → ∃ ws, H2 b = some (.lst ws) := fun {b} hb => by
            obtain ⟨j, hj⟩ := List.getElem?_of_mem hb
            have hjl : j < dacc.length := by rw [← hA.1]; exact (List.getElem?_eq_some_iff.mp hj).1
            obtain ⟨ws, a1, _, _⟩ := hA.2 j b _ hj (List.getElem?_eq_getElem hjl)
            exact ⟨ws, u2.h.ex _ _ a1⟩
          have npp : p ∉ ps := fun hb => by
            obtain ⟨ws, a1⟩ := inps hb
            rw [p0] at a1
            cases a1
          have hpl : ps.length = i := by rw [hA.1]; exact hl
          refine ⟨ps.map V.ref, hacc3, by rw [List.length_map, hpl]; omega, F3, ps ++ [p], dacc ++ [x], xs, ((u'.trans u2).trans u3).mut hD hf3 hacc3, ?_, hf3, ?_, ?_, ?_, by rw [List.length_append, hl]; rfl, e3, by rw [hfull, e4, List.append_assoc]; rfl⟩
          · rw [upd_same, List.map_append]
            rfl
          · rw [List.nodup_append]
            refine ⟨hnd, by simp, fun a ha b hb => ?_⟩
            rw [List.mem_singleton.mp hb]
            rintro rfl
            exact npp ha
          · intro b hb
            rcases List.mem_append.mp hb with hb | hb
            · exact hnew b hb
            · rw [List.mem_singleton.mp hb]
              exact ⟨(u'.trans u2).h.back p0, npD⟩
          · refine Lists.snoc ⟨hL3.1, fun j b es a1 a2 => ?_⟩ (by rw [upd_ne npD]; exact pH) pf pA
            obtain ⟨ws', c1, c2, c3⟩ := hL3.2 j b es a1 a2
            exact ⟨ws', by rw [upd_ne (hnew b (List.mem_of_getElem? a1)).2]; exact c1, c2, c3⟩
        · have ei : i = ds.length := by omega
          subst ei
          rw [List.drop_length] at hc
          cases hc
          rw [List.append_nil] at hfull
          subst hfull
          have ut := u1.trans u'
          have eF : Ex F' (upd F' Dd (.lst (ps.map V.ref))) := Ex.new hf
          refine .inl ⟨it.st _ F' H' u'.f u'.s (Nat.le_refl _), h' _ _ H' (ut.know hacc (u1.h.back hD) hf) ⟨Dd, rfl, ps, upd_same, hnd, ⟨hA.1, fun j b es a1 a2 => ?_⟩, fun b hb => u1.h.back (hnew b hb).1⟩⟩
          obtain ⟨ws', c1, c2, c3⟩ := hA.2 j b es a1 a2
          exact ⟨ws', c1, by rw [upd_ne (hnew b (List.mem_of_getElem? a1)).2]; exact c2, c3.mono eF⟩
    · rw [if_neg hz] at h'
      exact h'.elim
theorem dr_compO (hc : X.calm = true) (hN : X.N.Nodup) (hi : DN T X E tg iter mi) (ok : BlkOk X.N X.env.scope scope own)
    (hg : ∀ (s : Shared) (H : Hp) (C : Addr) (cl : List (Str × Addr)) (fp : List Addr), DG T (X.blk s H scope (compEnvC scope cl C X.env) fp) tg t)
    (he : ∀ (s : Shared) (H : Hp) (C : Addr) (cl : List (Str × Addr)) (fp : List Addr), DL T (X.blk s H scope (compEnvC scope cl C X.env) fp) E0 elt me)
    (hsl : ∀ i ∈ t.slots, i ∈ own.map (·.2)) (hs : ∀ x, foldedSetIterable iter X.env x = pure x := by intro _; rfl) :
    DR T X E (.ListComp elt [⟨tg, iter, [], 0⟩] scope pos) (mCompO t (own.map (·.2)) mi me) :=
  pe_imp (pe_lc hc hN hi ok hg (fun _ _ _ _ _ => pts_nil) he hs) (compO_read hsl)
/-- an answer that is a new list -/
def lOwn (mr : MR) : ML := fun z => (mr z).bnd fun x => match x with
  | .own ds => .ok ds
  | _ => .stuck
theorem dl_own {e : Expr} {mr : MR} (h : DR T X E e mr) : DL T X E e (lOwn mr) := pe_imp h fun s H Q ⟨F, z, q, h⟩ => ⟨F, z, q, by
    unfold lOwn at h
    cases em : mr z with
    | stuck => rw [em] at h; exact h
    | exc c => rw [em] at h; exact h
    | ok x =>
      rw [em, bnd_ok] at h
      cases x with
      | val d => exact h.elim
      | obj k fs => exact h.elim
      | own ds => exact fun v F1 H1 u1 rx => h v F1 H1 u1 rx⟩
end
/-! ### lambdas that capture nothing -/
abbrev LR := Nat → Option (Nat × MR)
structure LrOk (P : Program) (w : World) (T : Tx) (mg : Str → Option Value) (base : Heap) (k i : Nat) (n : Nat) (m : MR) : Prop where
  ex : ∃ ps : List Str, ps.length = n ∧ T.lf i = [] ∧ NScope ps ps [] (T.ls i) ∧
    (∀ (cl : List (Str × Addr)) (pm cv ctv : Value) (us : List Value), us.length = ps.length → bindArgs (PySem.W.kla_fn "<lambda>" (T.lq i) (T.lp i) (T.lb i) (T.ls i) cl pm cv ctv) ⟨us, []⟩ = pure (ps.zip us)) ∧
    ∀ (cl : List (Str × Addr)) (c f : Addr) (A : Around) (outer : List Env) (s : Shared) (H : Hp) (E : XK), Room k (A.deeper (envF (lamF (T.lq i) (T.lp i) (T.ls i) cl c) f s.heap.objs.size)) →
      DR T (ncx (L2N.CX P w) P w T.K mg base ps (lamF (T.lq i) (T.lp i) (T.ls i) cl c) f A outer s H E) E (T.lb i) m
structure LrA (P : Program) (w : World) (T : Tx) (mg : Str → Option Value) (base : Heap) (k : Nat) (lr : LR) : Prop where
  at_ : ∀ i n m, lr i = some (n, m) → LrOk P w T mg base k i n m
theorem lr_mk {P : Program} {w : World} {T : Tx} {mg : Str → Option Value} {base : Heap} {k i n : Nat} {m : MR} {q : Str} {params : Arguments} {body : Expr} {scope : Scope} (ps : List Str) (e : LamEq T i q params body scope []) (hn : ps.length = n) (S : NScope ps ps [] scope)
    (hb : ∀ (cl : List (Str × Addr)) (pm cv ctv : Value) (us : List Value), us.length = ps.length → bindArgs (PySem.W.kla_fn "<lambda>" q params body scope cl pm cv ctv) ⟨us, []⟩ = pure (ps.zip us))
    (hd : ∀ (cl : List (Str × Addr)) (c f : Addr) (A : Around) (outer : List Env) (s : Shared) (H : Hp) (E : XK), Room k (A.deeper (envF (lamF q params scope cl c) f s.heap.objs.size)) → DR T (ncx (L2N.CX P w) P w T.K mg base ps (lamF q params scope cl c) f A outer s H E) E body m) : LrOk P w T mg base k i n m := by
  obtain ⟨rfl, rfl, rfl, rfl, e⟩ := e
  exact ⟨ps, hn, e, S, hb, hd⟩
theorem lr_call {P : Program} {w : World} {T : Tx} {mg : Str → Option Value} {base : Heap} {k i n : Nat} {m : MR} (L : LrOk P w T mg base k i n m) {A : Around} {outer : List Env} {s : Shared} {F H : Hp} {f : Addr} {vs : List V} {us : List Value} {args : List D} {Q : VK} {E : XK}
    (hr : Room (k + 1) A) (e0 : Env0 P w T.K mg base A outer s H) (en : En T F H) (hf : Rp T F (.ref f) (.lam i [])) (hv : RpAll T F vs args) (r : Vals vs us) (hn : args.length = n)
    (h : Post T E (lR T) F H Q (m (args.map .sh))) : codeAny (model P w) A (.call (.ref f) ⟨us, []⟩) (CR (L2N.CX P w) outer P w H s Q E) s := by
  obtain ⟨ps, hps, hlf, S, hb, body⟩ := L.ex
  cases hf with
  | lam hf hc C hA =>
    rename_i c cl cv
    rw [hlf] at C
    have cn : ∀ y c, cl.lookup y = some c → False := fun y c h => by have := C.all y c h; simp at this
    have lv : ps.length = vs.length := by rw [hv.length, hps, hn]
    have rr := r_lam (ws := []) (es := []) (N := ps) en.ex en.tb hv .nil (by rw [lv]; rfl)
    rw [List.append_nil] at rr
    refine lam_run (P := P) (w := w) (K := T.K) (mg := mg) (base := base) (CX := L2N.CX P w) (k := k) (N := ps) (H := H) (ws := []) (vs := vs) (E := E) (Q := Q) S (fun pm ctv us hl => hb cl pm (.ref c) ctv us hl) hr e0 ?_ ?_ ⟨rfl, fun y c h => (cn y c h).elim, fun x y c h => (cn x c h).elim, fun j y h => by simp at h⟩ lv.symm r (fun hr' => body cl c f A outer s H E hr') ⟨F, args.map .sh, rr, h⟩
    · obtain ⟨pm, ctv, ho⟩ := (e0.hok f _ (en.ex f _ hf)).1
      exact ⟨pm, ctv, ho⟩
    · obtain ⟨oc, vs', tq, h1, h2, h3⟩ := (e0.hok c _ (en.ex c _ hc)).1
      exact ⟨c, oc, vs', tq, rfl, h1, h2, h3⟩
def callR (lr : LR) (d : D) (args : Rs (List D)) : Rs Rv := match d with
  | .lam i [] => match lr i with
    | some (n, m) => args.bnd fun ds => if ds.length = n then m (ds.map .sh) else .stuck
    | none => .stuck
  | _ => .stuck
def mCallR (lr : LR) (i : Nat) (mes : ML) : MR := fun z => (mVar i z).bnd fun d => callR lr d (mes z)
theorem callR_inv {T : Tx} {lr : LR} {E : XK} {d : D} {args : Rs (List D)} {F H : Hp} {Q : VK} (h : Post T E (lR T) F H Q (callR lr d args)) : ∃ i n m, d = .lam i [] ∧ lr i = some (n, m) ∧ Post T E (lR T) F H Q (args.bnd fun ds => if ds.length = n then m (ds.map .sh) else .stuck) := by
  unfold callR at h
  split at h
  · rename_i i
    split at h
    · rename_i n m e
      exact ⟨i, n, m, rfl, e, h⟩
    · exact h.elim
  · exact h.elim
theorem mVarR_inv {T : Tx} {i : Nat} {E : XK} {F H : Hp} {Q : VK} {z : List Sd} {g : D → Rs Rv} (h : Post T E (lR T) F H Q ((mVar i z).bnd g)) : ∃ d, z[i]? = some (.sh d) ∧ Post T E (lR T) F H Q (g d) := by
  unfold mVar at h
  split at h
  · rename_i d e
    exact ⟨d, e, h⟩
  · exact h.elim
section
variable {T : Tx} {X : Cx} {lr : LR} {i j k : Nat} {e : Expr} {es : List Expr} {mes : ML} {x : Str} {p pos : Pos}
theorem dr_callL (L : LrA X.prog X.w T X.mg X.base k lr) (hr : Room j X.A) (hk : k + 1 ≤ j) (ha : DA T X E0 (e :: es) mes) (hK : X.K = T.K := by rfl)
    (hN : X.N[i]? = some x := by rfl) (hv : Vis X.env.scope x := by first | exact Or.inl rfl | exact Or.inr (Or.inl rfl) | exact Or.inr (Or.inr rfl)) (hd : (x == ("__debug__" : Str)) = false := by decide) (hcd : (x == ("__classdict__" : Str)) = false := by decide)
    (he : starEach (e :: es) X.env = (false, eval e X.env) :: starEach es X.env := by rfl) (hpl : (backTo pos (starEach es X.env)).any (·.1) = false := by rfl) : DR T X E0 (.Call (.Name x p) (e :: es) [] pos) (mCallR lr i mes) := by
  refine ⟨fun pins s σ H Q I h => ?_⟩
  obtain ⟨F, z, q, h⟩ := h
  obtain ⟨d, hz, h⟩ := mVarR_inv h
  obtain ⟨v, h1, h2⟩ := q.sh i d hz
  refine wpAny_Call_Name_kw (thn ((pe_var (pos := p) hN hv hd hcd).run pins s σ H (fun v' H1 => v' = v ∧ H1 = H) I ⟨v, h1, rfl, rfl⟩) fun u s1 ⟨v', H1, I1, r1, q1⟩ => ?_)
  obtain ⟨rfl, rfl⟩ := q1
  obtain ⟨i', n, m, rfl, e1, h3⟩ := callR_inv h
  have Lm := L.at_ i' n m e1
  have h2' := h2
  cases h2 with
  | lam hf hc hC hA =>
    cases r1
    refine PySem.W.callWith_F (first := []) (lam_there I1.hok (q.ex _ _ hf)) (thn (ha.run pos pins s1 σ _ (fun vs H2 => ∃ F2 ds, En T F2 H2 ∧ Ex F F2 ∧ RpAll T F2 vs ds ∧ ds.length = n ∧ Post T E0 (lR T) F2 H2 Q (m (ds.map .sh))) I1 ⟨F, z, q, Post.bnd (L := lA T) h3 fun ds vs F2 H2 u2 ry h4 => ?_⟩) fun us s2 ⟨vs, H2, I2, rv, F2, ds, a1, a2, a3, a4, a5⟩ => ⟨lam_there I2.hok (a1.ex _ _ (a2 _ _ hf)), ?_⟩) he hpl
    · by_cases hn : ds.length = n
      · rw [if_pos hn] at h4
        exact ⟨F2, ds, ⟨u2.s, u2.h.tb q.tb⟩, u2.f, ry, hn, h4⟩
      · rw [if_neg hn] at h4
        exact h4.elim
    · have e0 := I2.env0
      rw [hK] at e0
      refine wpAny_call (codeAny_mono (lr_call Lm (hr.mono hk) e0 a1 (h2'.mono a2) a3 rv a4 a5) fun r s' hq => ?_)
      cases r with
      | error e => exact passM pins σ H2 s2 e s' I2 hq
      | ok fl => cases fl <;> first | exact I2.after hq | exact False.elim hq
end
end CL


set_option Elab.async false
set_option linter.all false
set_option maxRecDepth 100000
/-! The data layer, part cb: own lists handed to a def that changes them: promises, calls. -/
namespace CL
open PySem PySem.Spec PyProof.Rows L2 NdefX LamX
/-- a heap without these -/
def hidL (ps : List Addr) (H : Hp) : Hp := fun a => if a ∈ ps then none else H a
section
variable {T : Tx} {ps : List Addr} {F H F' H' F1 H1 : Hp} {a : Addr}
theorem hidL_in (h : a ∈ ps) : hidL ps H a = none := if_pos h
theorem hidL_out (h : a ∉ ps) : hidL ps H a = H a := if_neg h
theorem hidL_some {o : HO} (h : hidL ps H a = some o) : a ∉ ps ∧ H a = some o := by
  by_cases q : a ∈ ps
  · rw [hidL_in q] at h; cases h
  · rw [hidL_out q] at h; exact ⟨q, h⟩
theorem hidL_le : Ex (hidL ps H) H := fun a o h => keeps_refl (hidL_some h).2
theorem ex_hidL (e : Ex F H) (n : ∀ q ∈ ps, F q = none) : Ex F (hidL ps H) := fun a o h => by
  rw [hidL_out (fun z => by rw [n a z] at h; cases h)]
  exact e a o h
/-- growth behind the hidden ones -/
theorem Up.hidL (u : Up T F H F' H') (n : ∀ q ∈ ps, F q = none ∧ ∃ xs, H q = some (.lst xs)) : Up T F (CL.hidL ps H) F' (CL.hidL ps H') := by
  have n' : ∀ q ∈ ps, F' q = none := fun q hq => let ⟨a, xs, b⟩ := n q hq; u.hid a b
  refine ⟨u.f, ⟨fun a o h => ?_, fun t p hp => ?_⟩, ex_hidL u.s n', fun a o h1 h2 => ?_⟩
  · obtain ⟨q, h⟩ := hidL_some h
    rw [hidL_out q]
    exact u.h.ex a o h
  · have tH : Tabs T.tabs H := fun p hp => by
      obtain ⟨l, e1, e2, e3⟩ := t p hp
      exact ⟨l, (hidL_some e1).2, e2, fun pos cv hc => let ⟨c, g1, g2⟩ := e3 pos cv hc; ⟨c, g1, (hidL_some g2).2⟩⟩
    obtain ⟨l, e1, e2, e3⟩ := u.h.tb tH p hp
    have nl : ∀ {b : Addr} {o : HO}, H' b = some o → (∀ xs, o ≠ .lst xs) → b ∉ ps := fun {b o} e no hb => by
      obtain ⟨_, xs, hx⟩ := n b hb
      have hx' : H' b = some (.lst xs) := u.h.ex _ _ hx
      rw [e] at hx'
      cases hx'
      exact no _ rfl
    refine ⟨l, by rw [hidL_out (nl e1 fun _ z => nomatch z)]; exact e1, e2, fun pos cv hc => ?_⟩
    obtain ⟨c, g1, g2⟩ := e3 pos cv hc
    exact ⟨c, g1, by rw [hidL_out (nl g2 fun _ z => nomatch z)]; exact g2⟩
  · by_cases q : a ∈ ps
    · rw [n' a q] at h2; cases h2
    · rw [hidL_out q]
      exact u.n a o h1 h2
/-- a hidden list changes -/
theorem hidL_upd {p : Addr} {o : HO} (h : p ∈ ps) : CL.hidL ps (upd H p o) = CL.hidL ps H := by
  funext a
  by_cases q : a ∈ ps
  · rw [hidL_in q, hidL_in q]
  · rw [hidL_out q, hidL_out q, upd_ne]
    rintro rfl
    exact q h
theorem up_hid_none (u : Up T F (CL.hidL ps H) F' (CL.hidL ps H')) {q : Addr} (h : q ∈ ps) : F' q = none := u.s.back (hidL_in h)
/-- fewer hidden -/
theorem tabs_hid (t : Tabs T.tabs H) (n : ∀ q ∈ ps, ∃ xs, H q = some (.lst xs)) : Tabs T.tabs (CL.hidL ps H) := fun p hp => by
  obtain ⟨l, e1, e2, e3⟩ := t p hp
  have nl : ∀ {b : Addr} {o : HO}, H b = some o → (∀ xs, o ≠ .lst xs) → b ∉ ps := fun {b o} e no hb => by
    obtain ⟨xs, hx⟩ := n b hb
    rw [e] at hx
    cases hx
    exact no _ rfl
  refine ⟨l, by rw [hidL_out (nl e1 fun _ z => nomatch z)]; exact e1, e2, fun pos cv hc => ?_⟩
  obtain ⟨c, g1, g2⟩ := e3 pos cv hc
  exact ⟨c, g1, by rw [hidL_out (nl g2 fun _ z => nomatch z)]; exact g2⟩
/-- more hidden -/
theorem Up.hidM {qs : List Addr} (u : Up T F (CL.hidL qs H) F' (CL.hidL qs H')) (sub : ∀ q ∈ qs, q ∈ ps) (n : ∀ q ∈ ps, F q = none ∧ (q ∉ qs → ∃ xs, H q = some (.lst xs))) : Up T F (CL.hidL ps H) F' (CL.hidL ps H') := by
  have e : ∀ K : Hp, CL.hidL ps (CL.hidL qs K) = CL.hidL ps K := fun K => by
    funext a
    by_cases q : a ∈ ps
    · rw [hidL_in q, hidL_in q]
    · rw [hidL_out q, hidL_out q, hidL_out (fun z => q (sub a z))]
  have n' : ∀ q ∈ ps, F' q = none := fun q hq => by
    by_cases hz : q ∈ qs
    · exact up_hid_none u hz
    · obtain ⟨a, b⟩ := n q hq
      obtain ⟨xs, b⟩ := b hz
      exact u.hid a (by rw [hidL_out hz]; exact b)
  refine ⟨u.f, ⟨fun a o h => ?_, fun t p hp => ?_⟩, fun a o h => ?_, fun a o h1 h2 => ?_⟩
  · obtain ⟨q, h⟩ := hidL_some h
    have hz : a ∉ qs := fun z => q (sub a z)
    have := u.h.ex a o (by rw [hidL_out hz]; exact h)
    rw [hidL_out hz] at this
    rw [hidL_out q]
    exact this
  · have tq : Tabs T.tabs (CL.hidL qs H) := fun p hp => by
      obtain ⟨l, e1, e2, e3⟩ := t p hp
      obtain ⟨z1, e1⟩ := hidL_some e1
      refine ⟨l, by rw [hidL_out (fun z => z1 (sub _ z))]; exact e1, e2, fun pos cv hc => ?_⟩
      obtain ⟨c, g1, g2⟩ := e3 pos cv hc
      obtain ⟨z2, g2⟩ := hidL_some g2
      exact ⟨c, g1, by rw [hidL_out (fun z => z2 (sub _ z))]; exact g2⟩
    obtain ⟨l, e1, e2, e3⟩ := u.h.tb tq p hp
    have nl : ∀ {b : Addr} {o : HO}, CL.hidL qs H' b = some o → (∀ xs, o ≠ .lst xs) → b ∉ ps := fun {b o} e no hb => by
      obtain ⟨z1, e'⟩ := hidL_some e
      obtain ⟨xs, hx⟩ := (n b hb).2 z1
      have hx' : CL.hidL qs H' b = some (.lst xs) := u.h.ex b (.lst xs) (by rw [hidL_out z1]; exact hx)
      rw [e] at hx'
      cases hx'
      exact no _ rfl
    refine ⟨l, by rw [hidL_out (nl e1 fun _ z => nomatch z)]; exact (hidL_some e1).2, e2, fun pos cv hc => ?_⟩
    obtain ⟨c, g1, g2⟩ := e3 pos cv hc
    exact ⟨c, g1, by rw [hidL_out (nl g2 fun _ z => nomatch z)]; exact (hidL_some g2).2⟩
  · have hp : a ∉ ps := fun z => by rw [n' a z] at h; cases h
    have := u.s a o h
    rw [hidL_out (fun z => hp (sub a z))] at this
    rw [hidL_out hp]
    exact this
  · have hp : a ∉ ps := fun z => by rw [n' a z] at h2; cases h2
    have := u.n a o h1 h2
    rw [hidL_out (fun z => hp (sub a z))] at this
    rw [hidL_out hp]
    exact this
end
/-! ### an own thing changed by a def -/
section
variable {T : Tx} {F0 H0 F H F' H' : Hp} {s : L2.St} {z : List Sd} {i : Nat} {v : V} {x x' : Sd} {ps : List Addr}
theorem R.chgL (r : R T F H s z) (hz : z[i]? = some x) (hs : s[i]? = some (some v)) (hp : ∀ q, OA T F v x q ↔ q ∈ ps) (u : Up T F (hidL ps H) F' (hidL ps H')) (tb : Tabs T.tabs H') (h : SlotOk T F' H' v x') (ho : ∀ q, OA T F' v x' q → q ∈ ps) : R T F' H' s (z.set i x') := by
  have exH : Ex F' H' := u.s.trans hidL_le
  have oth : ∀ {j : Nat} {y : Sd} {w : V} {q : Addr}, j ≠ i → z[j]? = some y → s[j]? = some (some w) → OA T F w y q → q ∉ ps := fun {j y w q} n g1 g2 o hq => n (r.ap j i y x w v q g1 hz g2 hs o ((hp q).mpr hq))
  refine ⟨exH, fun j y q hn => ?_, fun j k y1 y2 v1 v2 q g1 g2 g3 g4 o1 o2 => ?_, by rw [List.length_set]; exact r.len, tb⟩
  · rcases set_at q with ⟨rfl, rfl, _⟩ | ⟨n, q⟩
    · exact ⟨v, hs, h⟩
    · obtain ⟨w, h1, h2⟩ := r.sl j y q hn
      refine ⟨w, h1, h2.keep u.f fun p xs o hp1 hp2 => ?_⟩
      have np := oth (Ne.symm n) q h1 o
      have e1 : hidL ps H p = some (.lst xs) := by rw [hidL_out np]; exact hp1
      exact ⟨hidL_le p _ (show hidL ps H' p = some (.lst xs) from u.h.ex _ _ e1), u.hid hp2 e1⟩
  · rcases set_at g1 with ⟨rfl, rfl, _⟩ | ⟨n1, k1⟩
    · rcases set_at g2 with ⟨rfl, rfl, _⟩ | ⟨n2, g2⟩
      · rfl
      · rw [hs] at g3
        cases g3
        exact (oth (Ne.symm n2) g2 g4 ((r.ok g2 g4).down u.f o2) (ho q o1)).elim
    · rcases set_at g2 with ⟨e2, e3, _⟩ | ⟨n2, g2⟩
      · subst e2
        subst e3
        rw [hs] at g4
        cases g4
        exact (oth (Ne.symm n1) k1 g3 ((r.ok k1 g3).down u.f o1) (ho q o2)).elim
      · exact r.ap j k y1 y2 v1 v2 q k1 g2 g3 g4 ((r.ok k1 g3).down u.f o1) ((r.ok g2 g4).down u.f o2)
theorem Sx.chgL (x0 : Sx T F0 H0 F H s z) (hz : z[i]? = some x) (hs : s[i]? = some (some v)) (hp : ∀ q, OA T F v x q ↔ q ∈ ps) (u : Up T F (hidL ps H) F' (hidL ps H')) (tb : Tabs T.tabs H') (h : SlotOk T F' H' v x') (ho : ∀ q, OA T F' v x' q → q ∈ ps) : Sx T F0 H0 F' H' s (z.set i x') := by
  have new : ∀ q ∈ ps, H0 q = none := fun q hq => x0.oa i x v q hz hs ((hp q).mpr hq)
  have np : ∀ {a : Addr} {o : HO}, H0 a = some o → a ∉ ps := fun {a o} e hq => by rw [new a hq] at e; cases e
  refine ⟨⟨x0.up.f.trans u.f, ⟨fun a o e => ?_, fun _ => tb⟩, u.s.trans hidL_le, fun a o e1 e2 => ?_⟩, x0.r.chgL hz hs hp u tb h ho, fun j y w q g1 g2 o => ?_⟩
  · have k1 := x0.up.h.ex a o e
    refine keeps_ge k1 fun o2 e2 => ?_
    have := u.h.ex a o2 (by rw [hidL_out (np e)]; exact e2)
    rw [hidL_out (np e)] at this
    exact this
  · cases q : F a with
    | some y => exact x0.up.n a y e1 q
    | none =>
      have hn := u.n a o q e2
      have nh : a ∉ ps := fun hq => by rw [up_hid_none u hq] at e2; cases e2
      rw [hidL_out nh] at hn
      exact hn.back x0.up.h
  · rcases set_at g1 with ⟨rfl, rfl, _⟩ | ⟨n, g1⟩
    · rw [hs] at g2
      cases g2
      exact new q (ho q o)
    · exact x0.oa j y w q g1 g2 ((x0.r.ok g1 g2).down u.f o)
end
/-! ### things that are no lists and hold none -/
def plainD (d : D) : Bool := match d with
  | .non => true
  | .bl _ => true
  | .int _ => true
  | .str _ => true
  | .tup xs => noLstAll xs
  | _ => false
theorem plainD_no {d : D} (h : plainD d = true) : noLst d = true := by
  unfold plainD at h
  split at h <;> first | (simp only [noLst]; done) | (rw [noLst]; exact h) | cases h
theorem plainD_is {d : D} (h : plainD d = true) : isB .list d = some false := by
  unfold plainD at h
  split at h <;> first | rfl | cases h
/-! ### the promises -/
def spSpoil1 (T : Tx) : Sp := fun vs H Q _ => ∃ p F xs ds, vs = [.ref p] ∧ En T F H ∧ F p = none ∧ H p = some (.lst xs) ∧ RpAll T F xs ds ∧ ds.all plainD = true ∧ ds.length < 1000 ∧
  ∀ F' H', Up T F (hidL [p] H) F' (hidL [p] H') → Tabs T.tabs H' → (∃ ys, H' p = some (.lst ys)) → Q .non H'
def spSpoil2 (T : Tx) : Sp := fun vs H Q _ => ∃ r F ps fs, vs = [.ref r] ∧ En T F H ∧ F r = none ∧ H r = some (.lst (ps.map V.ref)) ∧ r ∉ ps ∧ ps.Nodup ∧ Lists T F H ps fs ∧ (∀ ds ∈ fs, ds.all plainD = true ∧ ds.length < 1000) ∧ ps.length < 1000 ∧
  ∀ F' H', Up T F (hidL (r :: ps) H) F' (hidL (r :: ps) H') → Tabs T.tabs H' → Q .non H'
def spLaid1 (T : Tx) : Sp := fun vs H Q _ => ∃ p w F xs ds es, vs = [.ref p, w] ∧ En T F H ∧ F p = none ∧ H p = some (.lst xs) ∧ RpAll T F xs ds ∧ Rp T F w (.lst es) ∧ ds.length = es.length ∧ ds.all plainD = true ∧ es.all plainD = true ∧
  ∀ F' H' ys, Up T F (hidL [p] H) F' (hidL [p] H') → Tabs T.tabs H' → H' p = some (.lst ys) → RpAll T F' ys es → Q .non H'
/-- lists of alike lengths -/
def alikeLs : List (List D) → List (List D) → Bool
  | [], [] => true
  | x :: xs, y :: ys => decide (x.length = y.length) && (x.all plainD && (y.all plainD && alikeLs xs ys))
  | _, _ => false
def spLaid2 (T : Tx) : Sp := fun vs H Q _ => ∃ a w F ps fs gs, vs = [.ref a, w] ∧ En T F H ∧ HoldAt T F none a ps ∧ ps.Nodup ∧ Lists T F H ps fs ∧ Rp T F w (.lst (gs.map D.lst)) ∧ alikeLs fs gs = true ∧
  ∀ F' H', Up T F (hidL ps H) F' (hidL ps H') → Tabs T.tabs H' → Lists T F' H' ps gs → Q .non H'
theorem lists_new {T : Tx} {F H : Hp} {ps : List Addr} {fs : List (List D)} (h : Lists T F H ps fs) : ∀ q ∈ ps, F q = none ∧ ∃ xs, H q = some (.lst xs) := fun q hq => by
  obtain ⟨j, hj⟩ := List.getElem?_of_mem hq
  have hl : j < fs.length := by rw [← h.1]; exact (List.getElem?_eq_some_iff.mp hj).1
  obtain ⟨xs, a, b, _⟩ := h.2 j q _ hj (List.getElem?_eq_getElem hl)
  exact ⟨b, xs, a⟩
/-! ### the statements -/
section
variable {T : Tx} {X : Cx} {E : XK} {i j k l : Nat} {x y : Str} {p p2 p3 pos cpos : Pos}
def sSpoil (i : Nat) : MS := fun z => match z[i]? with
  | some (.ow ds) => if ds.all plainD = true ∧ ds.length < 1000 then .ok (.nx (z.set i .no)) else .stuck
  | _ => .stuck
theorem ds_spoil (i : Nat) (g : DefG X.prog X.w X.K X.mg X.base CX0 k x (spSpoil1 T)) (hr : Room l X.A) (hk : k ≤ l) (hN : X.N[i]? = some y := by rfl) (hv : Vis X.env.scope y := by first | exact Or.inl rfl | exact Or.inr (Or.inl rfl) | exact Or.inr (Or.inr rfl)) (hd : (y == ("__debug__" : Str)) = false := by decide)
    (hcd : (y == ("__classdict__" : Str)) = false := by decide) (hg : Gl X x := by rfl) (hdb : (x == ("__debug__" : Str)) = false := by decide) (he : starEach [.Name y p2] X.env = (false, eval (.Name y p2) X.env) :: starEach [] X.env := by rfl) :
    DS T X E (.Expr (.Call (.Name x p) [.Name y p2] [] cpos) pos) (sSpoil i) :=
  ps_imp (ps_expr (pe_cal (E := E0) g hr hk passN hg (pa_cons (pe_var hN hv hd hcd) pa_nil he) hdb he rfl) rfl) fun N s H ⟨F0, H0, F, z, x, h⟩ => by
    unfold sSpoil at h
    split at h
    · rename_i ds e1
      split at h
      · rename_i hc
        obtain ⟨q, xs, h1, h2, h3, h4⟩ := x.r.ow i ds e1
        refine ⟨_, h1, q, F, xs, ds, rfl, x.r.en, h3, h2, h4, hc.1, hc.2, fun F' H' u tb _ => h s F' H' ?_⟩
        exact x.chgL (ps := [q]) e1 h1 (fun b => ⟨fun o => by have o' : V.ref q = .ref b := o; cases o'; simp, fun hb => by rw [List.mem_singleton.mp hb]; rfl⟩) u tb (x' := .no) trivial fun b o => o.elim
      · exact h.elim
    · exact h.elim
def asLs : List D → Option (List (List D))
  | [] => some []
  | .lst x :: xs => (asLs xs).map fun ys => x :: ys
  | _ :: _ => none
theorem asLs_some : ∀ {xs : List D} {gs : List (List D)}, asLs xs = some gs → xs = gs.map D.lst
  | [], gs, h => by cases h; rfl
  | d :: xs, gs, h => by
    cases d <;> first | cases h | skip
    simp only [asLs] at h
    cases q : asLs xs with
    | none => rw [q] at h; cases h
    | some ys => rw [q] at h; cases h; rw [asLs_some q]; rfl
def sLaid (i j : Nat) : MS := fun z => match z[i]?, z[j]? with
  | some (.ow ds), some (.sh (.lst es)) => if ds.length = es.length ∧ ds.all plainD = true ∧ es.all plainD = true then .ok (.nx (z.set i (.ow es))) else .stuck
  | some (.ob none fs), some (.sh (.lst es)) => (match asLs es with
    | some gs => if alikeLs fs gs = true then .ok (.nx (z.set i (.ob none gs))) else .stuck
    | none => .stuck)
  | _, _ => .stuck
theorem ds_laid (i j : Nat) (g : DefG X.prog X.w X.K X.mg X.base CX0 k x (fun vs H Q E => spLaid1 T vs H Q E ∨ spLaid2 T vs H Q E)) (hr : Room l X.A) (hk : k ≤ l) {y2 : Str} (hN : X.N[i]? = some y := by rfl) (hv : Vis X.env.scope y := by first | exact Or.inl rfl | exact Or.inr (Or.inl rfl) | exact Or.inr (Or.inr rfl)) (hd : (y == ("__debug__" : Str)) = false := by decide)
    (hcd : (y == ("__classdict__" : Str)) = false := by decide) (hN2 : X.N[j]? = some y2 := by rfl) (hv2 : Vis X.env.scope y2 := by first | exact Or.inl rfl | exact Or.inr (Or.inl rfl) | exact Or.inr (Or.inr rfl)) (hd2 : (y2 == ("__debug__" : Str)) = false := by decide)
    (hcd2 : (y2 == ("__classdict__" : Str)) = false := by decide) (hg : Gl X x := by rfl) (hdb : (x == ("__debug__" : Str)) = false := by decide) (he : starEach [.Name y p2, .Name y2 p3] X.env = (false, eval (.Name y p2) X.env) :: starEach [.Name y2 p3] X.env := by rfl)
    (he2 : starEach [.Name y2 p3] X.env = (false, eval (.Name y2 p3) X.env) :: starEach [] X.env := by rfl) (hpl : (backTo cpos (starEach [.Name y2 p3] X.env)).any (·.1) = false := by rfl) :
    DS T X E (.Expr (.Call (.Name x p) [.Name y p2, .Name y2 p3] [] cpos) pos) (sLaid i j) :=
  ps_imp (ps_expr (pe_cal (E := E0) g hr hk passN hg (pa_cons (pe_var hN hv hd hcd) (pa_cons (pe_var hN2 hv2 hd2 hcd2) pa_nil he2) he) hdb he hpl) rfl) fun N s H ⟨F0, H0, F, z, x, h⟩ => by
    unfold sLaid at h
    split at h
    · rename_i ds es e1 e2
      split at h
      · rename_i hc
        obtain ⟨q, xs, h1, h2, h3, h4⟩ := x.r.ow i ds e1
        obtain ⟨w, g1, g2⟩ := x.r.sh j _ e2
        refine ⟨_, h1, w, g1, .inl ⟨q, w, F, xs, ds, es, rfl, x.r.en, h3, h2, h4, g2, hc.1, hc.2.1, hc.2.2, fun F' H' ys u tb hy hA => h s F' H' ?_⟩⟩
        exact x.chgL (ps := [q]) e1 h1 (fun b => ⟨fun o => by have o' : V.ref q = .ref b := o; cases o'; simp, fun hb => by rw [List.mem_singleton.mp hb]; rfl⟩) u tb (x' := .ow es) ⟨q, ys, rfl, hy, up_hid_none u (by simp), hA⟩ fun b o => by have o' : V.ref q = .ref b := o; cases o'; simp
      · exact h.elim
    · rename_i fs es e1 e2
      split at h
      · rename_i gs e3
        split at h
        · rename_i hc
          obtain ⟨a, ps, h1, h2, h3, h4⟩ := x.r.ob i none fs e1
          obtain ⟨w, g1, g2⟩ := x.r.sh j _ e2
          rw [asLs_some e3] at g2
          refine ⟨_, h1, w, g1, .inr ⟨a, w, F, ps, fs, gs, rfl, x.r.en, h2, h3, h4, g2, hc, fun F' H' u tb hL => h s F' H' ?_⟩⟩
          have un : ∀ {G : Hp} {hs' : List (List D)} {b : Addr}, HoldAt T G none a ps → OA T G (.ref a) (.ob none hs') b → b ∈ ps := fun {G hs' b} hh o => by
            obtain ⟨a', qs, r1, r2, r3⟩ := o
            cases r1
            cases hh.uniq r2
            exact r3
          exact x.chgL (ps := ps) e1 h1 (fun b => ⟨un h2, fun hb => ⟨a, ps, rfl, h2, hb⟩⟩) u tb (x' := .ob none gs) ⟨a, ps, rfl, h2.mono u.f, h3, hL⟩ fun b o => un (h2.mono u.f) o
        · exact h.elim
      · exact h.elim
    · exact h.elim
end
end CL


set_option Elab.async false
set_option linter.all false
set_option maxRecDepth 100000
/-! The data layer, part cc: lists spoiled in place, those within first (k09's _law_spoiled). -/
namespace CL
open PySem PySem.Spec PyProof.Rows L2 NdefX LamX
/-- slots that are shared data or nothing -/
theorem r_sh {T : Tx} {F H : Hp} {s : L2.St} {z : List Sd} (ex : Ex F H) (tb : Tabs T.tabs H) (len : z.length = s.length) (h : ∀ (i : Nat) (x : Sd), z[i]? = some x → x = .no ∨ ∃ d v, x = .sh d ∧ s[i]? = some (some v) ∧ Rp T F v d) : R T F H s z := by
  refine ⟨ex, fun i x e n => ?_, fun i j x y v w p h1 h2 h3 h4 o1 o2 => ?_, len, tb⟩
  · rcases h i x e with q | ⟨d, v, rfl, q1, q2⟩
    · exact (n q).elim
    · exact ⟨v, q1, q2⟩
  · rcases h i x h1 with rfl | ⟨d, v, rfl, q1, q2⟩ <;> exact o1.elim
abbrev mIsL (m : M) : MB := bV (mUn (isTy .list) m)
theorem isL_ok {m : M} {z : List Sd} {d : D} {b : Bool} (h : m z = .ok d) (h2 : isB .list d = some b) : mIsL m z = .ok b := by
  show bV (mUn (isTy .list) m) z = _
  unfold bV mUn isTy
  rw [h, bnd_ok, h2]
  rfl
def tSpB (T : Tx) (K : PySem.W.Frag) (sp : Sp) : TS := tSeq (tFor (iList K (tVar 0)) (gName 1) (tIfS (tG T E0 lB (mIsL (mVar 1))) (tDrop (tCall sp [] E0 (tCons (tVar 1) tNil))) tNext))
  (tSeq (tDrop (tBM K "list" rAppend (tVar 0) (tCons (tC (.int 99)) tNil))) (tDrop (tBM0 K "list" rReverse (tVar 0))))
/-- the end: one more, turned round -/
theorem spB_end {K : PySem.W.Frag} {p : Addr} {w : Option V} {xs : List V} {H : Hp} {N : Ends} (h : H p = some (.lst xs)) (hl : xs.length < 1000) (q : ∀ ys, N.nx [some (.ref p), w] (upd (upd H p (.lst (xs ++ [.int 99]))) p (.lst ys))) :
    tSeq (tDrop (tBM K "list" rAppend (tVar 0) (tCons (tC (.int 99)) tNil))) (tDrop (tBM0 K "list" rReverse (tVar 0))) N [some (.ref p), w] H := by
  have hz : (1000 : Nat) < sizeLine := by rw [sizeLine_eq]; decide
  exact ⟨_, rfl, .inl ⟨rfl, xs, .inl (.inl h)⟩, p, xs, _, rfl, rfl, h, by omega, _, rfl, .inl ⟨rfl, _, .inl (.inl upd_same)⟩, p, _, rfl, rfl, upd_same, q _⟩
section
variable {T : Tx} {K : PySem.W.Frag} {sp : Sp} {F H : Hp} {N : Ends}
theorem spoil1_read {p : Addr} {xs : List V} {ds : List D} {Q : VK} (en : En T F H) (hf : F p = none) (hp : H p = some (.lst xs)) (hA : RpAll T F xs ds) (hd : ds.all plainD = true) (hl : ds.length < 1000)
    (q : ∀ F' H', Up T F (hidL [p] H) F' (hidL [p] H') → Tabs T.tabs H' → (∃ ys, H' p = some (.lst ys)) → Q .non H') (hN : N.nx = fun _ H' => Q .non H') : tSpB T K sp N [some (.ref p), none] H := by
  refine ⟨_, rfl, p, rfl, ⟨xs, .inl (.inl hp)⟩, fun i m σ H' => m = xs.length - i ∧ i ≤ xs.length ∧ (∃ w, σ = [some (.ref p), w]) ∧ Gr T H H', ⟨xs.length, by simp, Nat.zero_le _, ⟨none, rfl⟩, Gr.rfl⟩, ?_⟩
  rintro i m σ H' ⟨rfl, hi, ⟨w, rfl⟩, g⟩
  have hp' : H' p = some (.lst xs) := g.ex _ _ hp
  have exF : Ex F H' := en.ex.trans g.ex
  by_cases hlt : i < xs.length
  · refine .inr ⟨⟨xs, xs[i], .inl (.inl hp'), List.getElem?_eq_getElem hlt⟩, fun σ' H'' => (∃ w, σ' = [some (.ref p), w]) ∧ Gr T H H'', fun σ' H'' hn => ⟨xs.length - (i + 1), by omega, rfl, hlt, hn⟩, ?_⟩
    rintro x H2 ⟨rfl, hy⟩
    have hx := hy xs (.inl (.inl hp'))
    obtain ⟨d, e1, e2⟩ := hA.getV hx
    have pd : plainD d = true := List.all_eq_true.mp hd d (List.mem_of_getElem? e1)
    refine ⟨F, [.no, .sh d], r_sh exF (g.tb en.tb) rfl fun j y e => ?_, ?_⟩
    · match j, e with
      | 0, e => cases e; exact .inl rfl
      | 1, e => cases e; exact .inr ⟨d, x, rfl, rfl, e2⟩
      | j + 2, e => cases e
    · rw [isL_ok (m := mVar 1) (d := d) rfl (plainD_is pd)]
      intro v F1 H1 u rv
      cases rv
      exact iteF ⟨⟨some x, rfl⟩, g.trans u.h⟩
  · have ei : i = xs.length := by omega
    refine .inl ⟨⟨xs, .inl (.inl hp'), by omega⟩, ?_⟩
    refine spB_end hp' (by rw [hA.length]; exact hl) fun ys => ?_
    rw [hN]
    have u : Up T F (hidL [p] H) F (hidL [p] H') := (Up.heap en.ex g).hidL fun q hq => by rw [List.mem_singleton.mp hq]; exact ⟨hf, xs, hp⟩
    refine q F _ ?_ (tabs_lst upd_same (tabs_lst hp' (g.tb en.tb))) ⟨ys, upd_same⟩
    rw [hidL_upd (by simp), hidL_upd (by simp)]
    exact u
/-- .. those within -/
theorem spoil2_read {r : Addr} {ps : List Addr} {fs : List (List D)} {Q : VK} (en : En T F H) (hf : F r = none) (hr : H r = some (.lst (ps.map V.ref))) (hn : r ∉ ps) (hnd : ps.Nodup) (hL : Lists T F H ps fs) (hd : ∀ ds ∈ fs, ds.all plainD = true ∧ ds.length < 1000) (hl : ps.length < 1000)
    (q : ∀ F' H', Up T F (hidL (r :: ps) H) F' (hidL (r :: ps) H') → Tabs T.tabs H' → Q .non H') (hN : N.nx = fun _ H' => Q .non H') : tSpB T K (spSpoil1 T) N [some (.ref r), none] H := by
  have news := lists_new hL
  have newr : ∀ q ∈ r :: ps, F q = none ∧ ∃ xs, H q = some (.lst xs) := fun q hq => by
    rcases List.mem_cons.mp hq with h | h
    · rw [h]; exact ⟨hf, _, hr⟩
    · exact news q h
  have hml : (ps.map V.ref).length = ps.length := List.length_map _
  refine ⟨_, rfl, r, rfl, ⟨_, .inl (.inl hr)⟩, fun i m σ H' => m = ps.length - i ∧ i ≤ ps.length ∧ (∃ w, σ = [some (.ref r), w]) ∧ Up T F (hidL (r :: ps) H) F (hidL (r :: ps) H') ∧ Tabs T.tabs H' ∧ H' r = some (.lst (ps.map V.ref)) ∧ ∀ (j : Nat) (p : Addr) (xs : List V), ps[j]? = some p → (i ≤ j → H p = some (.lst xs) → H' p = some (.lst xs)) ∧ ∃ ys, H' p = some (.lst ys),
    ⟨ps.length, by simp, Nat.zero_le _, ⟨none, rfl⟩, (Up.refl en.ex).hidL newr, en.tb, hr, fun j p xs e => ⟨fun _ h => h, (news p (List.mem_of_getElem? e)).2⟩⟩, ?_⟩
  rintro i m σ H' ⟨rfl, hi, ⟨w, rfl⟩, u, tb, hr', hk⟩
  have exF : Ex F H' := u.s.trans hidL_le
  by_cases hlt : i < ps.length
  · have hpi : ps[i]? = some ps[i] := List.getElem?_eq_getElem hlt
    refine .inr ⟨⟨_, .ref ps[i], .inl (.inl hr'), by rw [List.getElem?_map, hpi]; rfl⟩, fun σ' H'' => (∃ w, σ' = [some (.ref r), w]) ∧ Up T F (hidL (r :: ps) H) F (hidL (r :: ps) H'') ∧ Tabs T.tabs H'' ∧ H'' r = some (.lst (ps.map V.ref)) ∧ ∀ (j : Nat) (p : Addr) (xs : List V), ps[j]? = some p → (i + 1 ≤ j → H p = some (.lst xs) → H'' p = some (.lst xs)) ∧ ∃ ys, H'' p = some (.lst ys),
      fun σ' H'' hn => ⟨ps.length - (i + 1), by omega, rfl, hlt, hn⟩, ?_⟩
    rintro x H2 ⟨rfl, hy⟩
    have hx := hy _ (.inl (.inl hr'))
    rw [List.getElem?_map, hpi] at hx
    cases hx
    have hfl : i < fs.length := by rw [← hL.1]; exact hlt
    obtain ⟨xs, c1, c2, c3⟩ := hL.2 i ps[i] fs[i] hpi (List.getElem?_eq_getElem hfl)
    have c1' : H2 ps[i] = some (.lst xs) := (hk i ps[i] xs hpi).1 (Nat.le_refl _) c1
    obtain ⟨pl, ln⟩ := hd fs[i] (List.getElem_mem hfl)
    refine ⟨H2, [.no, .sh (.lst fs[i])], r_sh (Ex.refl H2) tb rfl fun j y e => ?_, ?_⟩
    · match j, e with
      | 0, e => cases e; exact .inl rfl
      | 1, e => cases e; exact .inr ⟨_, .ref ps[i], rfl, rfl, .lst (.inl c1') (c3.mono exF)⟩
      | j + 2, e => cases e
    · rw [isL_ok (m := mVar 1) (d := .lst fs[i]) rfl rfl]
      intro v F1 H1 u1 rv
      cases rv
      refine iteT ⟨.ref ps[i], rfl, ps[i], F, xs, fs[i], rfl, ⟨exF.trans u1.h.ex, u1.h.tb tb⟩, c2, u1.h.ex _ _ c1', c3, pl, ln, fun F' H' u2 tb2 hy2 => ⟨⟨_, rfl⟩, ?_, tb2, ?_, fun j p zs e => ?_⟩⟩
      · have v1 : Up T F (hidL (r :: ps) H2) F (hidL (r :: ps) H1) := (Up.heap exF u1.h).hidL fun q hq => by
          rcases List.mem_cons.mp hq with h | h
          · rw [h]; exact ⟨hf, _, hr'⟩
          · obtain ⟨j, hj⟩ := List.getElem?_of_mem h
            exact ⟨(news q h).1, (hk j q [] hj).2⟩
        have v2 : Up T F (hidL [ps[i]] H1) F (hidL [ps[i]] H') := Up.heap (ex_hidL (exF.trans u1.h.ex) fun q hq => by rw [List.mem_singleton.mp hq]; exact c2) u2.h
        have v3 := v2.hidM (ps := r :: ps) (fun q hq => by rw [List.mem_singleton.mp hq]; exact List.mem_cons_of_mem _ (List.getElem_mem hlt)) fun q hq => ⟨(newr q hq).1, fun _ => by
          rcases List.mem_cons.mp hq with h | h
          · rw [h]; exact ⟨_, u1.h.ex _ _ hr'⟩
          · obtain ⟨j, hj⟩ := List.getElem?_of_mem h
            obtain ⟨ys, hys⟩ := (hk j q [] hj).2
            exact ⟨ys, u1.h.ex _ _ hys⟩⟩
        exact (u.trans v1).trans v3
      · have nr : r ≠ ps[i] := fun z => hn (by rw [z]; exact List.getElem_mem hlt)
        have := u2.h.ex r (.lst (ps.map V.ref)) (by rw [hidL_out (by simpa using nr)]; exact u1.h.ex _ _ hr')
        rw [hidL_out (by simpa using nr)] at this
        exact this
      · by_cases hj : j = i
        · subst hj
          rw [hpi] at e
          cases e
          exact ⟨fun h => by omega, hy2⟩
        · have np : p ≠ ps[i] := fun z => by
            subst z
            exact hj ((List.getElem?_inj (List.getElem?_eq_some_iff.mp e).1 hnd).mp (e.trans hpi.symm))
          have keep : ∀ {zs : List V}, H2 p = some (.lst zs) → H' p = some (.lst zs) := fun {zs} h => by
            have := u2.h.ex p (.lst zs) (by rw [hidL_out (by simpa using np)]; exact u1.h.ex _ _ h)
            rw [hidL_out (by simpa using np)] at this
            exact this
          refine ⟨fun h1 h2 => keep ((hk j p zs e).1 (by omega) h2), ?_⟩
          obtain ⟨ys, hys⟩ := (hk j p [] e).2
          exact ⟨ys, keep hys⟩
  · have ei : i = ps.length := by omega
    refine .inl ⟨⟨_, .inl (.inl hr'), by rw [hml]; omega⟩, ?_⟩
    refine spB_end hr' (by rw [hml]; exact hl) fun ys => ?_
    rw [hN]
    refine q F _ ?_ (tabs_lst upd_same (tabs_lst hr' tb))
    rw [hidL_upd (by simp), hidL_upd (by simp)]
    exact u
end
section
variable {P : Program} {w : World} {T : Tx} {mg : Str → Option Value} {base : Heap} {x qual : Str} {st : Stmt} {f : Addr} {fd : FuncData} {n0 n1 : Str} {k : Nat}
theorem fn_spoil1 {sp : Sp} (F : Fun T.K x qual st f fd) (S : FnScope [n0, n1] [n0] (defScope st))
    (hb : ∀ (cdv : Value) (A : Around) (outer : List Env) (s : Shared) (H : Hp) (E : XK), Room k (A.deeper (PyProof.Rows.envOfC qual (defScope st) s.heap.objs.size f cdv)) → PSs (cxOf CX0 P w T.K mg base [n0, n1] qual (defScope st) f cdv A outer s H E).nox (defBody st) (tSpB T T.K sp)) :
    FnOk P w T.K mg base CX0 (k + 1) f fd [n0] (spSpoil1 T) := by
  refine F.ok S (fun vs H Q E h => ?_) (fun cdv A outer s H vs Q E hr h => ?_)
  · obtain ⟨p, F, xs, ds, rfl, _⟩ := h
    rfl
  · obtain ⟨p, F, xs, ds, rfl, h1, h2, h3, h4, h5, h6, h7⟩ := h
    exact ⟨_, hb cdv A outer s H E hr, spoil1_read h1 h2 h3 h4 h5 h6 h7 rfl⟩
theorem fn_spoil2 (F : Fun T.K x qual st f fd) (S : FnScope [n0, n1] [n0] (defScope st))
    (hb : ∀ (cdv : Value) (A : Around) (outer : List Env) (s : Shared) (H : Hp) (E : XK), Room k (A.deeper (PyProof.Rows.envOfC qual (defScope st) s.heap.objs.size f cdv)) → PSs (cxOf CX0 P w T.K mg base [n0, n1] qual (defScope st) f cdv A outer s H E).nox (defBody st) (tSpB T T.K (spSpoil1 T))) :
    FnOk P w T.K mg base CX0 (k + 1) f fd [n0] (spSpoil2 T) := by
  refine F.ok S (fun vs H Q E h => ?_) (fun cdv A outer s H vs Q E hr h => ?_)
  · obtain ⟨r, F, ps, fs, rfl, _⟩ := h
    rfl
  · obtain ⟨r, F, ps, fs, rfl, h1, h2, h3, h4, h5, h6, h7, h8, h9⟩ := h
    exact ⟨_, hb cdv A outer s H E hr, spoil2_read h1 h2 h3 h4 h5 h6 h7 h8 h9 rfl⟩
end
end CL


set_option Elab.async false
set_option linter.all false
set_option maxRecDepth 100000
/-! The data layer, part cd: a list made another one in place, lists within it, too (k09's _law_laid). -/
namespace CL
open PySem PySem.Spec PyProof.Rows L2 NdefX LamX
abbrev mGt : MB := bV (mBin gtD (mUn lenD (mVar 0)) (mUn lenD (mVar 1)))
abbrev mAtEnd : MB := bV (mBin eqB (mVar 2) (mUn lenD (mVar 0)))
abbrev mBoth : MB := bAnd (mIsL (mVar 3)) (mIsL (mBin ixD (mVar 0) (mVar 2)))
abbrev mCp (f : List D → Rs Rv) : M := mR (mCall 1 f (aCons (mVar 3) aNil))
abbrev mEn : ML := mOf enum1 (aCons (mVar 1) aNil)
/-- o[i] = v of a list -/
abbrev rSetI : TSet := fun o i v H Q => ∃ p xs k j, o = .ref p ∧ i = .int k ∧ H p = some (.lst xs) ∧ ixN xs.length k = some j ∧ Q (upd H p (.lst (xs.set j v)))
def tLd (T : Tx) (K : PySem.W.Frag) (sp : Sp) (f : List D → Rs Rv) : TS := tSeq (tWhile (tG T E0 lB mGt) (tDrop (tBM0 K "list" rPop (tVar 0))))
  (tFor (tG T E0 (lN T) mEn) (tTg T (.tp [2, 3])) (tIfS (tG T E0 lB mAtEnd) (tDrop (tBM K "list" rAppend (tVar 0) (tCons (tG T E0 (lV T) (mCp f)) tNil)))
    (tIfS (tG T E0 lB mBoth) (tDrop (tCall sp [] E0 (tCons (tOp (rIxL K) (tVar 0) (tVar 2)) (tCons (tVar 3) tNil)))) (tAsg (tG T E0 (lV T) (mCp f)) (gSub (tVar 0) (tVar 2) rSetI)))))
/-- things that hold no lists are told as they are -/
def CopOk (f : List D → Rs Rv) : Prop := ∀ d, plainD d = true → f [d] = .ok (.val d)
theorem mCp_ok {f : List D → Rs Rv} (h : CopOk f) {z : List Sd} {d : D} (hz : z[3]? = some (.sh d)) (hd : plainD d = true) : mCp f z = .ok d := by
  have e : aCons (mVar 3) aNil z = .ok [d] := by
    unfold aCons mVar
    rw [hz]
    rfl
  show mR (mCall 1 f (aCons (mVar 3) aNil)) z = _
  unfold mR mCall
  rw [e, bnd_ok, if_pos (show [d].length = 1 from rfl), h d hd]
  rfl
theorem slot4 {z0 z1 z2 z3 : Sd} {v0 v1 v2 v3 : Option V} {T : Tx} {F : Hp} (h0 : z0 = .no ∨ ∃ d v, z0 = .sh d ∧ v0 = some v ∧ Rp T F v d) (h1 : z1 = .no ∨ ∃ d v, z1 = .sh d ∧ v1 = some v ∧ Rp T F v d) (h2 : z2 = .no ∨ ∃ d v, z2 = .sh d ∧ v2 = some v ∧ Rp T F v d) (h3 : z3 = .no ∨ ∃ d v, z3 = .sh d ∧ v3 = some v ∧ Rp T F v d) :
    ∀ (i : Nat) (x : Sd), [z0, z1, z2, z3][i]? = some x → x = .no ∨ ∃ d v, x = .sh d ∧ [v0, v1, v2, v3][i]? = some (some v) ∧ Rp T F v d := fun i x e => by
  match i, e with
  | 0, e => cases e; exact h0.imp id fun ⟨d, v, a, b, c⟩ => ⟨d, v, a, by rw [b]; rfl, c⟩
  | 1, e => cases e; exact h1.imp id fun ⟨d, v, a, b, c⟩ => ⟨d, v, a, by rw [b]; rfl, c⟩
  | 2, e => cases e; exact h2.imp id fun ⟨d, v, a, b, c⟩ => ⟨d, v, a, by rw [b]; rfl, c⟩
  | 3, e => cases e; exact h3.imp id fun ⟨d, v, a, b, c⟩ => ⟨d, v, a, by rw [b]; rfl, c⟩
  | i + 4, e => cases e
theorem four {σ : L2.St} {a b : Option V} (h : σ.length = 4) (h0 : σ[0]? = some a) (h1 : σ[1]? = some b) : ∃ c d, σ = [a, b, c, d] := by
  match σ, h, h0, h1 with
  | [_, _, c, d], _, h0, h1 => cases h0; cases h1; exact ⟨c, d, rfl⟩
section
variable {T : Tx} {K : PySem.W.Frag} {sp : Sp} {F H : Hp} {N : Ends} {f : List D → Rs Rv} {a : Addr} {w : V}
/-- the while: nothing is too long -/
theorem laid_while {D : Ends} {xs : List V} {ds es : List CL.D} {tb : TS} (ex : Ex F H) (tbs : Tabs T.tabs H) (hp : H a = some (.lst xs)) (hA : RpAll T H xs ds) (hw : Rp T H w (.lst es)) (hl : ds.length ≤ es.length) (q : ∀ H', Gr T H H' → D.nx [some (.ref a), some w, none, none] H') :
    tWhile (tG T E0 lB mGt) tb D [some (.ref a), some w, none, none] H := by
  refine ⟨fun m σ H' => σ = [some (.ref a), some w, none, none] ∧ Gr T H H', ⟨0, rfl, Gr.rfl⟩, ?_⟩
  rintro m σ H' ⟨rfl, g⟩
  refine ⟨H', [.sh (.lst ds), .sh (.lst es), .no, .no], r_sh (Ex.refl H') (g.tb tbs) rfl (slot4 (.inr ⟨_, _, rfl, rfl, .lst (.inl (g.ex _ _ hp)) (hA.mono g.ex)⟩) (.inr ⟨_, _, rfl, rfl, hw.mono g.ex⟩) (.inl rfl) (.inl rfl)), ?_⟩
  have e : mGt [.sh (.lst ds), .sh (.lst es), .no, .no] = .ok (decide ((ds.length : Int) > (es.length : Int))) := rfl
  rw [e, decide_eq_false (by omega)]
  intro v F1 H1 u rv
  cases rv
  exact iteF (q H1 (g.trans u.h))
/-- the turns of the for: at, one are set, the others stay -/
theorem laid_turn {J : It} {F1 F' H' : Hp} {es : List CL.D} {i : Nat} {c d : Option V} {k : L2.St → Hp → Prop} (it : ItD T J F1 (enumD 0 es)) (e1 : Ex F1 F') (e2 : Ex F' H') (tb : Tabs T.tabs H') (hi : i < es.length)
    (q : ∀ (vo : V) (F2 H2 : Hp), Up T F' H' F2 H2 → Rp T F2 vo es[i] → k [some (.ref a), some w, some (.int (i : Nat)), some vo] H2) : ∀ x H2, J.yld i H' x H2 → tTg T (.tp [2, 3]) x [some (.ref a), some w, c, d] H2 k := fun x H2 hy => by
  have hd : (enumD 0 es)[i]? = some (.tup [.int ((0 + i : Nat) : Int), es[i]]) := by
    have hl : i < (enumD 0 es).length := by rw [enumD_length]; exact hi
    obtain ⟨y, h1, h2⟩ := enumD_get (List.getElem?_eq_getElem hl)
    rw [List.getElem?_eq_getElem hi] at h1
    cases h1
    rw [List.getElem?_eq_getElem hl, h2]
  obtain ⟨F2, u2, r2⟩ := it.yl i F' H' x H2 _ e1 e2 hd hy
  refine ⟨F2, [.no, .no, .no, .no], _, [.no, .no, .sh (.int ((0 + i : Nat) : Int)), .sh es[i]], r_sh u2.s (u2.h.tb tb) rfl (slot4 (.inl rfl) (.inl rfl) (.inl rfl) (.inl rfl)), r2, rfl, fun s' r' hb => ?_⟩
  obtain ⟨v2, g1, g2⟩ := r'.sh 2 _ rfl
  obtain ⟨v3, g3, g4⟩ := r'.sh 3 _ rfl
  cases g2
  have h0 := hb.2 0 (by simp [Tg.slots])
  have h1 := hb.2 1 (by simp [Tg.slots])
  obtain ⟨c', d', rfl⟩ := four (σ := s') hb.1 h0 h1
  cases g1
  cases g3
  rw [Nat.zero_add]
  exact q v3 F2 H2 u2 g4
theorem set_take {α : Type} {es ds : List α} {i : Nat} (hi : i < es.length) (hl : ds.length = es.length) : (es.take i ++ ds.drop i).set i es[i] = es.take (i + 1) ++ ds.drop (i + 1) := by
  have e1 : (es.take i).length = i := by rw [List.length_take]; omega
  rw [List.set_append_right _ _ (by omega), e1, Nat.sub_self, List.drop_eq_getElem_cons (by omega : i < ds.length), List.set_cons_zero, List.take_succ, List.getElem?_eq_getElem hi, List.append_assoc]
  rfl
theorem laid1_read {Q : VK} {xs : List V} {ds es : List CL.D} (hc : CopOk f) (en : En T F H) (hf : F a = none) (hp : H a = some (.lst xs)) (hA : RpAll T F xs ds) (hw : Rp T F w (.lst es)) (hl : ds.length = es.length) (hd : ds.all plainD = true) (he : es.all plainD = true)
    (q : ∀ F' H' ys, Up T F (hidL [a] H) F' (hidL [a] H') → Tabs T.tabs H' → H' a = some (.lst ys) → RpAll T F' ys es → Q .non H') (hN : N.nx = fun _ H' => Q .non H') : tLd T K sp f N [some (.ref a), some w, none, none] H := by
  refine laid_while en.ex en.tb hp (hA.mono en.ex) (hw.mono en.ex) (by omega) fun H0 g0 => ?_
  refine ⟨F, [.no, .sh (.lst es), .no, .no], r_sh (en.ex.trans g0.ex) (g0.tb en.tb) rfl (slot4 (.inl rfl) (.inr ⟨_, _, rfl, rfl, hw⟩) (.inl rfl) (.inl rfl)), ?_⟩
  have em : mEn [.no, .sh (.lst es), .no, .no] = .ok (enumD 0 es) := rfl
  rw [em]
  intro J F1 H1 u1 it
  have n1 : ∀ {F' H' : Hp} {ys : List V}, F' a = none → H' a = some (.lst ys) → ∀ q ∈ [a], F' q = none ∧ ∃ xs, H' q = some (.lst xs) := fun {F' H' ys} h1 h2 q hq => by rw [List.mem_singleton.mp hq]; exact ⟨h1, ys, h2⟩
  have ug0 : Up T F H F1 H1 := (Up.heap en.ex g0).trans u1
  refine ⟨fun i m σ H' => m = es.length - i ∧ i ≤ es.length ∧ (∃ c d, σ = [some (.ref a), some w, c, d]) ∧ ∃ F' ys, Ex F1 F' ∧ Up T F (hidL [a] H) F' (hidL [a] H') ∧ Tabs T.tabs H' ∧ H' a = some (.lst ys) ∧ RpAll T F' ys (es.take i ++ ds.drop i),
    ⟨es.length, by simp, Nat.zero_le _, ⟨none, none, rfl⟩, F1, xs, Ex.refl F1, ug0.hidL (n1 hf hp), ug0.h.tb en.tb, ug0.h.ex _ _ hp, by rw [List.take_zero, List.drop_zero]; exact hA.mono ug0.f⟩, ?_⟩
  rintro i m σ H' ⟨rfl, hi, ⟨c, d, rfl⟩, F', ys, eF, u, tb, hy, hyA⟩
  have exF : Ex F' H' := u.s.trans hidL_le
  have fa : F' a = none := up_hid_none u (by simp)
  by_cases hlt : i < es.length
  · have pd : plainD es[i] = true := List.all_eq_true.mp he _ (List.getElem_mem hlt)
    have lys : ys.length = es.length := by rw [hyA.length, List.length_append, List.length_take, List.length_drop]; omega
    refine .inr ⟨it.go i F' H' eF exF (by rw [enumD_length]; exact hlt), fun σ' H'' => (∃ c d, σ' = [some (.ref a), some w, c, d]) ∧ ∃ F' ys, Ex F1 F' ∧ Up T F (hidL [a] H) F' (hidL [a] H'') ∧ Tabs T.tabs H'' ∧ H'' a = some (.lst ys) ∧ RpAll T F' ys (es.take (i + 1) ++ ds.drop (i + 1)),
      fun σ' H'' hn => ⟨es.length - (i + 1), by omega, rfl, hlt, hn⟩, laid_turn it eF exF tb hlt fun vo F2 H2 u2 ro => ?_⟩
    have hy2 : H2 a = some (.lst ys) := u2.h.ex _ _ hy
    have fa2 : F2 a = none := u2.hid fa hy
    have tb2 := u2.h.tb tb
    have hyA2 := hyA.mono u2.f
    have U2 := u.trans (u2.hidL (n1 fa hy))
    have exH2 : Ex F2 H2 := u2.s
    have allK : Rp T H2 (.ref a) (.lst (es.take i ++ ds.drop i)) := .lst (.inl hy2) (hyA2.mono exH2)
    have dl : (es.take i ++ ds.drop i).length = es.length := by rw [List.length_append, List.length_take, List.length_drop]; omega
    -- at == len(mine)
    refine ⟨H2, [.sh (.lst (es.take i ++ ds.drop i)), .no, .sh (.int (i : Nat)), .no], r_sh (Ex.refl H2) tb2 rfl (slot4 (.inr ⟨_, _, rfl, rfl, allK⟩) (.inl rfl) (.inr ⟨_, _, rfl, rfl, .int _⟩) (.inl rfl)), ?_⟩
    have et : mAtEnd [.sh (.lst (es.take i ++ ds.drop i)), .no, .sh (.int (i : Nat)), .no] = .ok (decide (((i : Nat) : Int) = ((es.take i ++ ds.drop i).length : Nat))) := by
      show bV (mBin eqB (mVar 2) (mUn lenD (mVar 0))) _ = _
      unfold bV mBin
      show (ofO (eqB (D.int (i : Nat)) (D.int ((es.take i ++ ds.drop i).length : Nat)))).bnd (fun x => ofO (asB x)) = _
      have : eqB (D.int (i : Nat)) (D.int ((es.take i ++ ds.drop i).length : Nat)) = some (.bl (decide (((i : Nat) : Int) = ((es.take i ++ ds.drop i).length : Nat)))) := by
        simp [eqB, eqD, toPy, SeqAt.shaped, PyData.canLay0, PyData.depth, PyData.eqv]
        first | rfl | exact decide_eq_decide.mpr Iff.rfl
      rw [this]
      rfl
    rw [et, decide_eq_false (by omega)]
    intro v1 F3 H3 u3 rv1
    cases rv1
    refine iteF ?_
    -- a list in a list?
    have g3 := u3.h
    refine ⟨F2, [.no, .no, .no, .sh es[i]], r_sh (exH2.trans g3.ex) (g3.tb tb2) rfl (slot4 (.inl rfl) (.inl rfl) (.inl rfl) (.inr ⟨_, _, rfl, rfl, ro⟩)), ?_⟩
    have e2 : mBoth [.no, .no, .no, .sh es[i]] = .ok false := by
      show bAnd (mIsL (mVar 3)) (mIsL (mBin ixD (mVar 0) (mVar 2))) _ = _
      unfold bAnd
      rw [isL_ok (m := mVar 3) (d := es[i]) rfl (plainD_is pd)]
      rfl
    rw [e2]
    intro v2 F4 H4 u4 rv2
    cases rv2
    refine iteF ?_
    -- mine[at] = ..
    refine ⟨F4, [.no, .no, .no, .sh es[i]], r_sh u4.s (u4.h.tb (g3.tb tb2)) rfl (slot4 (.inl rfl) (.inl rfl) (.inl rfl) (.inr ⟨_, _, rfl, rfl, ro.mono u4.f⟩)), ?_⟩
    rw [mCp_ok hc rfl pd]
    intro vc F5 H5 u5 rc
    have ut : Up T F2 H2 F5 H5 := ((Up.heap exH2 g3).trans u4).trans u5
    have hy5 : H5 a = some (.lst ys) := ut.h.ex _ _ hy2
    have fa5 : F5 a = none := ut.hid fa2 hy2
    have ix : ixN ys.length ((i : Nat) : Int) = some i := by
      unfold ixN
      rw [if_pos (by omega), if_pos (by omega)]
      simp
    refine ⟨_, rfl, _, rfl, a, ys, _, i, rfl, rfl, hy5, ix, ⟨_, _, rfl⟩, F5, ys.set i vc, eF.trans (u2.f.trans ut.f), ?_, tabs_lst hy5 (ut.h.tb tb2), upd_same, ?_⟩
    · rw [hidL_upd (by simp)]
      exact U2.trans (ut.hidL (n1 fa2 hy2))
    · rw [← set_take hlt hl]
      exact (hyA2.mono ut.f).set i rc
  · have ei : i = es.length := by omega
    refine .inl ⟨it.st _ F' H' eF exF (by rw [enumD_length]; omega), ?_⟩
    rw [hN]
    subst ei
    rw [List.take_length, List.drop_eq_nil_of_le (by omega), List.append_nil] at hyA
    exact q F' H' ys u tb hy hyA
theorem alikeLs_at : ∀ {fs gs : List (List CL.D)}, alikeLs fs gs = true → fs.length = gs.length ∧ ∀ (i : Nat) (f g : List CL.D), fs[i]? = some f → gs[i]? = some g → f.length = g.length ∧ f.all plainD = true ∧ g.all plainD = true
  | [], [], _ => ⟨rfl, fun i f g h => by simp at h⟩
  | [], _ :: _, h => by simp [alikeLs] at h
  | _ :: _, [], h => by simp [alikeLs] at h
  | x :: xs, y :: ys, h => by
    simp only [alikeLs, Bool.and_eq_true, decide_eq_true_eq] at h
    obtain ⟨h1, h2, h3, h4⟩ := h
    obtain ⟨k1, k2⟩ := alikeLs_at h4
    refine ⟨by simp [k1], fun i f g e1 e2 => ?_⟩
    cases i with
    | zero => simp at e1 e2; subst e1 e2; exact ⟨h1, h2, h3⟩
    | succ i => exact k2 i f g (by simpa using e1) (by simpa using e2)
theorem take_drop_at {α : Type} {es ds : List α} {i : Nat} (hi : i < es.length) (hl : ds.length = es.length) : (es.take i ++ ds.drop i)[i]? = ds[i]? := by
  have e1 : (es.take i).length = i := by rw [List.length_take]; omega
  rw [List.getElem?_append_right (by omega), e1, Nat.sub_self, List.getElem?_drop, Nat.add_zero]
theorem laid2_read {Q : VK} {ps : List Addr} {fs gs : List (List CL.D)} (en : En T F H) (hh : HoldAt T F none a ps) (hnd : ps.Nodup) (hL : Lists T F H ps fs) (hw : Rp T F w (.lst (gs.map D.lst))) (hal : alikeLs fs gs = true)
    (q : ∀ F' H', Up T F (hidL ps H) F' (hidL ps H') → Tabs T.tabs H' → Lists T F' H' ps gs → Q .non H') (hN : N.nx = fun _ H' => Q .non H') : tLd T K (spLaid1 T) f N [some (.ref a), some w, none, none] H := by
  obtain ⟨hfg, hat⟩ := alikeLs_at hal
  have hpf : ps.length = fs.length := hL.1
  have hFa : F a = some (.lst (ps.map V.ref)) := hh
  have anp : a ∉ ps := fun z => by rw [(lists_new hL a z).1] at hFa; cases hFa
  -- the holder as a datum, all known
  have dat : ∀ {F' H' : Hp} {cur : List (List CL.D)}, Ex F F' → Ex F' H' → Lists T F' H' ps cur → Rp T H' (.ref a) (.lst (cur.map D.lst)) := fun {F' H' cur} e1 e2 l => by
    have := hold_rp (T := T) (F := H') (k := none) (fs := cur) ((hh.mono e1).mono e2) l.1 fun j p ds h1 h2 => by
      obtain ⟨xs, c1, _, c3⟩ := l.2 j p ds h1 h2
      exact ⟨xs, c1, c3.mono e2⟩
    exact this
  have hx0 := dat (Ex.refl F) en.ex hL
  cases hx0 with
  | lst hr0 hA0 =>
  have hHa : H a = some (.lst (ps.map V.ref)) := en.ex _ _ hFa
  rename_i xs0
  have exs : xs0 = ps.map V.ref := by
    rcases hr0 with h | ⟨o, h⟩
    · rw [hHa] at h; cases h; rfl
    · rw [hHa] at h; cases h
  subst exs
  refine laid_while en.ex en.tb hHa hA0 (hw.mono en.ex) (by rw [List.length_map, List.length_map]; omega) fun H0 g0 => ?_
  refine ⟨F, [.no, .sh (.lst (gs.map D.lst)), .no, .no], r_sh (en.ex.trans g0.ex) (g0.tb en.tb) rfl (slot4 (.inl rfl) (.inr ⟨_, _, rfl, rfl, hw⟩) (.inl rfl) (.inl rfl)), ?_⟩
  have em : mEn [.no, .sh (.lst (gs.map D.lst)), .no, .no] = .ok (enumD 0 (gs.map D.lst)) := rfl
  rw [em]
  intro J F1 H1 u1 it
  have ug0 : Up T F H F1 H1 := (Up.heap en.ex g0).trans u1
  have hgl : (gs.map D.lst).length = gs.length := List.length_map _
  refine ⟨fun i m σ H' => m = gs.length - i ∧ i ≤ gs.length ∧ (∃ c d, σ = [some (.ref a), some w, c, d]) ∧ ∃ F', Ex F1 F' ∧ Up T F (hidL ps H) F' (hidL ps H') ∧ Tabs T.tabs H' ∧ Lists T F' H' ps (gs.take i ++ fs.drop i),
    ⟨gs.length, by simp, Nat.zero_le _, ⟨none, none, rfl⟩, F1, Ex.refl F1, ug0.hidL (lists_new hL), ug0.h.tb en.tb, by rw [List.take_zero, List.drop_zero]; exact hL.up ug0⟩, ?_⟩
  rintro i m σ H' ⟨rfl, hi, ⟨c, d, rfl⟩, F', eF, u, tb, hC⟩
  have exF : Ex F' H' := u.s.trans hidL_le
  have eFF : Ex F F' := u.f
  by_cases hlt : i < gs.length
  · have hgi : gs[i]? = some gs[i] := List.getElem?_eq_getElem hlt
    have hfi : fs[i]? = some fs[i] := List.getElem?_eq_getElem (by omega)
    obtain ⟨l1, l2, l3⟩ := hat i _ _ hfi hgi
    have hpi : i < ps.length := by omega
    have hei : (gs.map D.lst)[i]'(by rw [hgl]; exact hlt) = .lst gs[i] := by simp
    refine .inr ⟨it.go i F' H' eF exF (by rw [enumD_length, hgl]; exact hlt), fun σ' H'' => (∃ c d, σ' = [some (.ref a), some w, c, d]) ∧ ∃ F', Ex F1 F' ∧ Up T F (hidL ps H) F' (hidL ps H'') ∧ Tabs T.tabs H'' ∧ Lists T F' H'' ps (gs.take (i + 1) ++ fs.drop (i + 1)),
      fun σ' H'' hn => ⟨gs.length - (i + 1), by omega, rfl, hlt, hn⟩, laid_turn it eF exF tb (by rw [hgl]; exact hlt) fun vo F2 H2 u2 ro => ?_⟩
    rw [hei] at ro
    have hC2 : Lists T F2 H2 ps (gs.take i ++ fs.drop i) := hC.up u2
    have tb2 := u2.h.tb tb
    have exH2 : Ex F2 H2 := u2.s
    have eF2 : Ex F F2 := eFF.trans u2.f
    have U2 := u.trans (u2.hidL (lists_new hC))
    have allK := dat eF2 exH2 hC2
    have cl : (gs.take i ++ fs.drop i).length = gs.length := by rw [List.length_append, List.length_take, List.length_drop]; omega
    have cl2 : ((gs.take i ++ fs.drop i).map D.lst).length = gs.length := by rw [List.length_map, cl]
    have hci : (gs.take i ++ fs.drop i)[i]? = some fs[i] := (take_drop_at hlt hfg).trans hfi
    -- at == len(mine)
    refine ⟨H2, [.sh (.lst ((gs.take i ++ fs.drop i).map D.lst)), .no, .sh (.int (i : Nat)), .no], r_sh (Ex.refl H2) tb2 rfl (slot4 (.inr ⟨_, _, rfl, rfl, allK⟩) (.inl rfl) (.inr ⟨_, _, rfl, rfl, .int _⟩) (.inl rfl)), ?_⟩
    have et : mAtEnd [.sh (.lst ((gs.take i ++ fs.drop i).map D.lst)), .no, .sh (.int (i : Nat)), .no] = .ok (decide (((i : Nat) : Int) = (((gs.take i ++ fs.drop i).map D.lst).length : Nat))) := by
      show bV (mBin eqB (mVar 2) (mUn lenD (mVar 0))) _ = _
      unfold bV mBin
      show (ofO (eqB (D.int (i : Nat)) (D.int (((gs.take i ++ fs.drop i).map D.lst).length : Nat)))).bnd (fun x => ofO (asB x)) = _
      have : eqB (D.int (i : Nat)) (D.int (((gs.take i ++ fs.drop i).map D.lst).length : Nat)) = some (.bl (decide (((i : Nat) : Int) = (((gs.take i ++ fs.drop i).map D.lst).length : Nat)))) := by
        generalize (((gs.take i ++ fs.drop i).map D.lst).length : Nat) = nn
        simp [eqB, eqD, toPy, SeqAt.shaped, PyData.canLay0, PyData.depth, PyData.eqv]
        first | done | rfl | exact decide_eq_decide.mpr Iff.rfl
      rw [this]
      rfl
    rw [et, decide_eq_false (by omega)]
    intro v1 F3 H3 u3 rv1
    cases rv1
    refine iteF ?_
    -- a list in a list
    have g3 := u3.h
    have hC3 : Lists T F2 H3 ps (gs.take i ++ fs.drop i) := hC2.up (Up.heap exH2 g3)
    refine ⟨H3, [.sh (.lst ((gs.take i ++ fs.drop i).map D.lst)), .no, .sh (.int (i : Nat)), .sh (.lst gs[i])], r_sh (Ex.refl H3) (g3.tb tb2) rfl (slot4 (.inr ⟨_, _, rfl, rfl, dat eF2 (exH2.trans g3.ex) hC3⟩) (.inl rfl) (.inr ⟨_, _, rfl, rfl, .int _⟩) (.inr ⟨_, _, rfl, rfl, ro.mono (exH2.trans g3.ex)⟩)), ?_⟩
    have e2 : mBoth [.sh (.lst ((gs.take i ++ fs.drop i).map D.lst)), .no, .sh (.int (i : Nat)), .sh (.lst gs[i])] = .ok true := by
      show bAnd (mIsL (mVar 3)) (mIsL (mBin ixD (mVar 0) (mVar 2))) _ = _
      unfold bAnd
      rw [isL_ok (m := mVar 3) (d := .lst gs[i]) rfl rfl, bnd_ok, if_pos rfl]
      refine isL_ok (d := .lst fs[i]) ?_ rfl
      unfold mBin
      show (ofO (atI ((gs.take i ++ fs.drop i).map D.lst) ((i : Nat) : Int))) = _
      rw [atI_of (v := D.lst fs[i]) (by rw [List.getElem?_map, hci]; rfl)]
      rfl
    rw [e2]
    intro v2 F4 H4 u4 rv2
    cases rv2
    refine iteT ?_
    have g4 : Gr T H2 H4 := g3.trans u4.h
    have hC4 : Lists T F2 H4 ps (gs.take i ++ fs.drop i) := hC2.up (Up.heap exH2 g4)
    have exH4 : Ex F2 H4 := exH2.trans g4.ex
    have hpe : ps[i]? = some ps[i] := List.getElem?_eq_getElem hpi
    obtain ⟨ys, c1, c2, c3⟩ := hC4.2 i ps[i] fs[i] hpe hci
    have hH4a : H4 a = some (.lst (ps.map V.ref)) := exH4 _ _ (eF2 _ _ hFa)
    refine ⟨_, rfl, _, rfl, a, _, _, .ref ps[i], rfl, rfl, .inl (.inl hH4a), atI_of (by rw [List.getElem?_map, hpe]; rfl), _, rfl, ps[i], vo, F2, ys, fs[i], gs[i], rfl, ⟨exH4, g4.tb tb2⟩, c2, c1, c3, ro, l1, l2, l3, fun F5 H5 zs u5 tb5 hz hzA => ⟨⟨_, _, rfl⟩, F5, eF.trans (u2.f.trans u5.f), ?_, tb5, ?_⟩⟩
    · have v4 : Up T F2 (hidL ps H2) F2 (hidL ps H4) := (Up.heap exH2 g4).hidL (lists_new hC2)
      have v5 := u5.hidM (ps := ps) (fun q hq => by rw [List.mem_singleton.mp hq]; exact List.getElem_mem hpi) fun q hq => ⟨(lists_new hC4 q hq).1, fun _ => (lists_new hC4 q hq).2⟩
      exact (U2.trans v4).trans v5
    · rw [← set_take hlt hfg]
      refine ⟨by rw [List.length_set]; exact hC4.1, fun j p ds e1 e3 => ?_⟩
      by_cases hj : i = j
      · subst hj
        rw [hpe] at e1
        cases e1
        rw [List.getElem?_set_self (by rw [cl]; exact hlt)] at e3
        cases e3
        exact ⟨zs, hz, up_hid_none u5 (by simp), hzA⟩
      · rw [List.getElem?_set_ne hj] at e3
        obtain ⟨ws, d1, d2, d3⟩ := hC4.2 j p ds e1 e3
        have np : p ≠ ps[i] := fun z => by
          subst z
          exact hj ((List.getElem?_inj hpi hnd).mp (hpe.trans e1.symm))
        have e4 : hidL [ps[i]] H4 p = some (.lst ws) := by rw [hidL_out (by simpa using np)]; exact d1
        exact ⟨ws, (hidL_some (show hidL [ps[i]] H5 p = some (.lst ws) from u5.h.ex _ _ e4)).2, u5.hid d2 e4, d3.mono u5.f⟩
  · have ei : i = gs.length := by omega
    refine .inl ⟨it.st _ F' H' eF exF (by rw [enumD_length, hgl]; omega), ?_⟩
    rw [hN]
    subst ei
    rw [List.take_length, List.drop_eq_nil_of_le (by omega), List.append_nil] at hC
    exact q F' H' u tb hC
end
section
variable {P : Program} {w : World} {T : Tx} {mg : Str → Option Value} {base : Heap} {x qual : Str} {st : Stmt} {f : Addr} {fd : FuncData} {n0 n1 n2 n3 : Str} {k : Nat} {fc : List D → Rs Rv}
theorem fn_laid1 {sp : Sp} (F : Fun T.K x qual st f fd) (S : FnScope [n0, n1, n2, n3] [n0, n1] (defScope st)) (hc : CopOk fc)
    (hb : ∀ (cdv : Value) (A : Around) (outer : List Env) (s : Shared) (H : Hp) (E : XK), Room k (A.deeper (PyProof.Rows.envOfC qual (defScope st) s.heap.objs.size f cdv)) → PSs (cxOf CX0 P w T.K mg base [n0, n1, n2, n3] qual (defScope st) f cdv A outer s H E).nox (defBody st) (tLd T T.K sp fc)) :
    FnOk P w T.K mg base CX0 (k + 1) f fd [n0, n1] (spLaid1 T) := by
  refine F.ok S (fun vs H Q E h => ?_) (fun cdv A outer s H vs Q E hr h => ?_)
  · obtain ⟨p, w, F, xs, ds, es, rfl, _⟩ := h
    rfl
  · obtain ⟨p, w, F, xs, ds, es, rfl, h1, h2, h3, h4, h5, h6, h7, h8, h9⟩ := h
    exact ⟨_, hb cdv A outer s H E hr, laid1_read hc h1 h2 h3 h4 h5 h6 h7 h8 h9 rfl⟩
theorem fn_laid2 (F : Fun T.K x qual st f fd) (S : FnScope [n0, n1, n2, n3] [n0, n1] (defScope st))
    (hb : ∀ (cdv : Value) (A : Around) (outer : List Env) (s : Shared) (H : Hp) (E : XK), Room k (A.deeper (PyProof.Rows.envOfC qual (defScope st) s.heap.objs.size f cdv)) → PSs (cxOf CX0 P w T.K mg base [n0, n1, n2, n3] qual (defScope st) f cdv A outer s H E).nox (defBody st) (tLd T T.K (spLaid1 T) fc)) :
    FnOk P w T.K mg base CX0 (k + 1) f fd [n0, n1] (spLaid2 T) := by
  refine F.ok S (fun vs H Q E h => ?_) (fun cdv A outer s H vs Q E hr h => ?_)
  · obtain ⟨a, w, F, ps, fs, gs, rfl, _⟩ := h
    rfl
  · obtain ⟨a, w, F, ps, fs, gs, rfl, h1, h2, h3, h4, h5, h6, h7⟩ := h
    exact ⟨_, hb cdv A outer s H E hr, laid2_read h1 h2 h3 h4 h5 h6 h7 rfl⟩
end
end CL


set_option Elab.async false
set_option linter.all false
set_option maxRecDepth 100000
/-! The data layer, part ce: an answer as a list of its fields (k09's _law_told), spoiled. -/
namespace CL
open PySem PySem.Spec PyProof.Rows L2 NdefX LamX
abbrev mC0 (b : Nat) : MB := bV (mUn (isC b) (mVar 0))
def tTl (T : Tx) : TS := tSeq (tIfS (tG T E0 lB (mC0 3)) (tRet (tLst (tCons (tP T 0 .deeds) (tCons (tP T 0 .marks) tNil)))) tNext)
  (tRet (tIf (tG T E0 lB (bOr (mC0 0) (mC0 1))) (tLst (tCons (tP T 0 .clippings) (tCons (tP T 0 .marks) tNil))) (tLst tNil)))
/-- an own answer's lists, or none -/
def spTold (T : Tx) : Sp := fun vs H Q _ => (∃ a F c ps fs, vs = [.ref a] ∧ En T F H ∧ HoldAt T F (some c) a ps ∧ Lists T F H ps fs ∧ (c = 0 ∨ c = 1 ∨ c = 3) ∧ ∀ H' r, Gr T H H' → H' r = none → Q (.ref r) (upd H' r (.lst (ps.map V.ref)))) ∨
  (∃ v F ds, vs = [v] ∧ En T F H ∧ Rp T F v (.ins 2 ds) ∧ ∀ H' r, Gr T H H' → H' r = none → Q (.ref r) (upd H' r (.lst [])))
theorem isC_ok {b c : Nat} {ds : List D} {x : Sd} {z : List Sd} (hc : c < 4) (hb : b < 5) : mC0 b (.sh (.ins c ds) :: z) = .ok (b == 4 || c == b) := by
  show bV (mUn (isC b) (mVar 0)) _ = _
  unfold bV mUn
  show (ofO (isC b (D.ins c ds))).bnd (fun x => ofO (asB x)) = _
  unfold isC
  dsimp only
  rw [if_pos ⟨hc, hb⟩]
  rfl
section
variable {T : Tx} {F H : Hp} {N : Ends}
theorem told_read {a : Addr} {c : Nat} {ps : List Addr} {fs : List (List D)} {Q : VK} (en : En T F H) (hh : HoldAt T F (some c) a ps) (hL : Lists T F H ps fs) (hc : c = 0 ∨ c = 1 ∨ c = 3) (q : ∀ H' r, Gr T H H' → H' r = none → Q (.ref r) (upd H' r (.lst (ps.map V.ref)))) (hN : N.rt = Q) : tTl T N [some (.ref a)] H := by
  have dat : ∀ {H' : Hp}, Gr T H H' → Rp T H' (.ref a) (.ins c (fs.map D.lst)) := fun {H'} g => hold_rp (T := T) (F := H') (k := some c) (fs := fs) (hh.mono (en.ex.trans g.ex)) hL.1 fun j p ds h1 h2 => by
    obtain ⟨xs, c1, _, c3⟩ := hL.2 j p ds h1 h2
    exact ⟨xs, g.ex _ _ c1, c3.mono (en.ex.trans g.ex)⟩
  have rr : ∀ {H' : Hp}, Gr T H H' → R T H' H' [some (.ref a)] [.sh (.ins c (fs.map D.lst))] := fun {H'} g => r_sh (Ex.refl H') (g.tb en.tb) rfl fun i x e => by
    match i, e with
    | 0, e => cases e; exact .inr ⟨_, _, rfl, rfl, dat g⟩
    | i + 1, e => cases e
  have hH : ∀ {H' : Hp}, Gr T H H' → HoldAt T H' (some c) a ps := fun {H'} g => hh.mono (en.ex.trans g.ex)
  have c4 : c < 4 := by rcases hc with h | h | h <;> omega
  have len : ps.length = 2 := by
    obtain ⟨dx, _, h⟩ := hh
    rcases hc with rfl | rfl | rfl <;> exact h
  obtain ⟨p0, p1, rfl⟩ : ∃ p0 p1, ps = [p0, p1] := by
    match ps, len with
    | [p0, p1], _ => exact ⟨p0, p1, rfl⟩
  have two : (2 : Nat) ≤ sizeLine := by rw [sizeLine_eq]; decide
  refine ⟨H, _, rr Gr.rfl, ?_⟩
  rw [isC_ok (x := .no) c4 (by decide)]
  intro v F1 H1 u rv
  have g1 : Gr T H H1 := u.h
  cases rv
  by_cases h3 : c = 3
  · subst h3
    refine iteT ?_
    refine ⟨a, 3, [p0, p1], 0, p0, rfl, hH g1, rfl, rfl, a, 3, [p0, p1], 1, p1, rfl, hH g1, rfl, rfl, two, fun r hr => ?_⟩
    rw [hN]
    exact q H1 r g1 hr
  · have e3 : (3 == 4 || c == 3) = false := by
      rcases hc with rfl | rfl | rfl
      · rfl
      · rfl
      · exact (h3 rfl).elim
    rw [e3]
    refine iteF ?_
    refine ⟨H1, _, rr g1, ?_⟩
    have e4 : bOr (mC0 0) (mC0 1) [.sh (.ins c (fs.map D.lst))] = .ok true := by
      unfold bOr
      rw [isC_ok (x := .no) c4 (by decide), bnd_ok]
      rcases hc with rfl | rfl | rfl
      · rfl
      · exact isC_ok (x := .no) c4 (by decide)
      · exact (h3 rfl).elim
    rw [e4]
    intro v2 F2 H2 u2 rv2
    have g2 : Gr T H H2 := g1.trans u2.h
    cases rv2
    refine iteT ?_
    have ix0 : FN.clippings.ix c = some 0 := by
      rcases hc with rfl | rfl | rfl
      · rfl
      · rfl
      · exact (h3 rfl).elim
    have ix1 : FN.marks.ix c = some 1 := by
      rcases hc with rfl | rfl | rfl <;> rfl
    refine ⟨a, c, [p0, p1], 0, p0, rfl, hH g2, ix0, rfl, a, c, [p0, p1], 1, p1, rfl, hH g2, ix1, rfl, two, fun r hr => ?_⟩
    rw [hN]
    exact q H2 r g2 hr
theorem told0_read {v : V} {ds : List D} {Q : VK} (en : En T F H) (hv : Rp T F v (.ins 2 ds)) (q : ∀ H' r, Gr T H H' → H' r = none → Q (.ref r) (upd H' r (.lst []))) (hN : N.rt = Q) : tTl T N [some v] H := by
  have rr : ∀ {H' : Hp}, Gr T H H' → R T F H' [some v] [.sh (.ins 2 ds)] := fun {H'} g => r_sh (en.ex.trans g.ex) (g.tb en.tb) rfl fun i x e => by
    match i, e with
    | 0, e => cases e; exact .inr ⟨_, _, rfl, rfl, hv⟩
    | i + 1, e => cases e
  refine ⟨F, _, rr Gr.rfl, ?_⟩
  rw [isC_ok (x := .no) (by decide) (by decide)]
  intro v1 F1 H1 u rv
  cases rv
  refine iteF ?_
  refine ⟨F, _, rr u.h, ?_⟩
  have e4 : bOr (mC0 0) (mC0 1) [.sh (.ins 2 ds)] = .ok false := by
    unfold bOr
    rw [isC_ok (x := .no) (by decide) (by decide), bnd_ok]
    exact isC_ok (x := .no) (by decide) (by decide)
  rw [e4]
  intro v2 F2 H2 u2 rv2
  cases rv2
  refine iteF ⟨Nat.zero_le _, fun r hr => ?_⟩
  rw [hN]
  exact q H2 r (u.h.trans u2.h) hr
end
theorem fn_told {P : Program} {w : World} {T : Tx} {mg : Str → Option Value} {base : Heap} {x qual : Str} {st : Stmt} {f : Addr} {fd : FuncData} {n0 : Str} {k : Nat} (F : Fun T.K x qual st f fd) (S : FnScope [n0] [n0] (defScope st))
    (hb : ∀ (cdv : Value) (A : Around) (outer : List Env) (s : Shared) (H : Hp) (E : XK), Room k (A.deeper (PyProof.Rows.envOfC qual (defScope st) s.heap.objs.size f cdv)) → PSs (cxOf CX0 P w T.K mg base [n0] qual (defScope st) f cdv A outer s H E).nox (defBody st) (tTl T)) :
    FnOk P w T.K mg base CX0 (k + 1) f fd [n0] (spTold T) := by
  refine F.ok S (fun vs H Q E h => ?_) (fun cdv A outer s H vs Q E hr h => ?_)
  · rcases h with ⟨a, F, c, ps, fs, rfl, _⟩ | ⟨v, F, ds, rfl, _⟩ <;> rfl
  · rcases h with ⟨a, F, c, ps, fs, rfl, h1, h2, h3, h4, h5⟩ | ⟨v, F, ds, rfl, h1, h2, h3⟩
    · exact ⟨_, hb cdv A outer s H E hr, told_read h1 h2 h3 h4 h5 rfl⟩
    · exact ⟨_, hb cdv A outer s H E hr, told0_read h1 h2 h3 rfl⟩
/-! ### the statement -/
theorem hidL_new {r : Addr} {ps : List Addr} {H : Hp} (h : H r = none) : hidL (r :: ps) H = hidL ps H := by
  funext a
  by_cases q : a ∈ ps
  · rw [hidL_in q, hidL_in (List.mem_cons_of_mem _ q)]
  · by_cases z : a = r
    · rw [z, hidL_in List.mem_cons_self]
      by_cases q' : r ∈ ps
      · rw [hidL_in q']
      · rw [hidL_out q', h]
    · rw [hidL_out q, hidL_out]
      intro hm
      rcases List.mem_cons.mp hm with h | h
      · exact z h
      · exact q h
theorem hidL_nil {H : Hp} : hidL [] H = H := by
  funext a
  exact hidL_out (by simp)
theorem hidL_sub {r : Addr} {ps : List Addr} {H : Hp} : ∀ a o, hidL (r :: ps) H a = some o → hidL ps H a = some o := fun a o h => by
  obtain ⟨q, h⟩ := hidL_some h
  rw [hidL_out (fun z => q (List.mem_cons_of_mem _ z))]
  exact h
section
variable {T : Tx} {X : Cx} {E : XK} {i k k2 l : Nat} {x x2 y : Str} {p p2 p3 pos cpos cpos2 : Pos}
def sSpoilT (i : Nat) : MS := fun z => match z[i]? with
  | some (.ob (some c) fs) => if (c = 0 ∨ c = 1 ∨ c = 3) ∧ fs.all (fun ds => ds.all plainD && decide (ds.length < 1000)) = true ∧ fs.length < 1000 then .ok (.nx (z.set i .no)) else .stuck
  | some (.sh (.ins 2 _)) => .ok (.nx z)
  | _ => .stuck
theorem ds_spoilT (i : Nat) (g : DefG X.prog X.w X.K X.mg X.base CX0 k x (fun vs H Q E => spSpoil1 T vs H Q E ∨ spSpoil2 T vs H Q E)) (g2 : DefG X.prog X.w X.K X.mg X.base CX0 k2 x2 (spTold T)) (hr : Room l X.A) (hk : k ≤ l) (hk2 : k2 ≤ l)
    (hN : X.N[i]? = some y := by rfl) (hv : Vis X.env.scope y := by first | exact Or.inl rfl | exact Or.inr (Or.inl rfl) | exact Or.inr (Or.inr rfl)) (hd : (y == ("__debug__" : Str)) = false := by decide)
    (hcd : (y == ("__classdict__" : Str)) = false := by decide) (hg : Gl X x := by rfl) (hdb : (x == ("__debug__" : Str)) = false := by decide) (hg2 : Gl X x2 := by rfl) (hdb2 : (x2 == ("__debug__" : Str)) = false := by decide) (he : starEach [.Name y p2] X.env = (false, eval (.Name y p2) X.env) :: starEach [] X.env := by rfl)
    (he2 : starEach [.Call (.Name x2 p3) [.Name y p2] [] cpos2] X.env = (false, eval (.Call (.Name x2 p3) [.Name y p2] [] cpos2) X.env) :: starEach [] X.env := by rfl) :
    DS T X E (.Expr (.Call (.Name x p) [.Call (.Name x2 p3) [.Name y p2] [] cpos2] [] cpos) pos) (sSpoilT i) :=
  ps_imp (ps_expr (pe_cal (E := E0) g hr hk passN hg (pa_cons (pe_cal (E := E0) g2 hr hk2 passN hg2 (pa_cons (pe_var hN hv hd hcd) pa_nil he) hdb2 he rfl) pa_nil he2) hdb he2 rfl) rfl) fun N s H ⟨F0, H0, F, z, x, h⟩ => by
    unfold sSpoilT at h
    split at h
    · rename_i c fs e1
      split at h
      · rename_i hc
        obtain ⟨hc1, hc2, hc3⟩ := hc
        obtain ⟨a, ps, h1, h2, h3, h4⟩ := x.r.ob i (some c) fs e1
        refine ⟨_, h1, .inl ⟨a, F, c, ps, fs, rfl, x.r.en, h2, h4, hc1, fun H' r g hr => .inr ⟨r, F, ps, fs, rfl, ?_⟩⟩⟩
        have exF : Ex F H' := x.r.ex.trans g.ex
        have hL' : Lists T F H' ps fs := h4.up (Up.heap x.r.ex g)
        have rn : r ∉ ps := fun z => by obtain ⟨_, xs, e⟩ := lists_new hL' r z; rw [hr] at e; cases e
        have gn : Gr T H' (upd H' r (.lst (ps.map V.ref))) := Gr.new hr
        refine ⟨⟨exF.trans gn.ex, gn.tb (g.tb x.r.tb)⟩, exF.back hr, upd_same, rn, h3, hL'.up (Up.heap exF gn), fun ds hds => ?_, by rw [h4.1]; exact hc3, fun F' H2 u tb => h s F' H2 ?_⟩
        · have := List.all_eq_true.mp hc2 ds hds
          rw [Bool.and_eq_true, decide_eq_true_eq] at this
          exact this
        · have un : ∀ {G : Hp} {hs' : List (List D)} {b : Addr}, HoldAt T G (some c) a ps → OA T G (.ref a) (.ob (some c) hs') b → b ∈ ps := fun {G hs' b} hh o => by
            obtain ⟨a', qs, r1, r2, r3⟩ := o
            cases r1
            cases hh.uniq r2
            exact r3
          have U1 : Up T F (hidL ps H) F (hidL ps H') := (Up.heap x.r.ex g).hidL (lists_new h4)
          rw [hidL_upd List.mem_cons_self, hidL_new hr] at u
          have U2 := U1.trans u
          have U3 : Up T F (hidL ps H) F' (hidL ps H2) := U2.trans (Up.heap U2.s (Gr.same hidL_sub))
          exact x.chgL (ps := ps) e1 h1 (fun b => ⟨un h2, fun hb => ⟨a, ps, rfl, h2, hb⟩⟩) U3 tb (x' := .no) trivial fun b o => o.elim
      · exact h.elim
    · rename_i ds e1
      obtain ⟨v, h1, h2⟩ := x.r.sh i _ e1
      refine ⟨_, h1, .inr ⟨v, F, ds, rfl, x.r.en, h2, fun H' r g hr => .inl ⟨r, F, [], [], rfl, ?_⟩⟩⟩
      have exF : Ex F H' := x.r.ex.trans g.ex
      have gn : Gr T H' (upd H' r (.lst [])) := Gr.new hr
      refine ⟨⟨exF.trans gn.ex, gn.tb (g.tb x.r.tb)⟩, exF.back hr, upd_same, .nil, rfl, by decide, fun F' H2 u tb _ => h s F' H2 ?_⟩
      rw [hidL_upd List.mem_cons_self, hidL_new hr, hidL_nil] at u
      have U2 := (Up.heap x.r.ex g).trans u
      have U3 : Up T F H F' H2 := U2.trans (Up.heap U2.s (Gr.same fun a o e => by
        have := hidL_sub a o e
        rwa [hidL_nil] at this))
      exact x.step U3
    · exact h.elim
end
end CL


set_option Elab.async false
set_option linter.all false
set_option maxRecDepth 100000
/-! The data layer, part cf: copies (k09's _law_copied), joined promises. -/
namespace CL
open PySem PySem.Spec PyProof.Rows L2
abbrev mIs0 : MB := bV (mUn (isTy .list) (mVar 0))
def m_copA (f : List D → Rs D) : MS := sRet (mIf mIs0 (mL (mComp (.nm 1) [1] (mSeq (mVar 0)) (mCall 1 f (aCons (mVar 1) aNil)))) (mVar 0))
def f_copA : List D → Rs D := runF 2 (m_copA fun _ => .stuck)
def m_copB (f : List D → Rs D) : MS := sRetR (rIf mIs0 (rL (mComp (.nm 1) [1] (mSeq (mVar 0)) (mCall 1 f (aCons (mVar 1) aNil)))) (rE (mVar 0)))
def f_copB : List D → Rs Rv := runR 2 (m_copB f_copA)
def m_copC (f : List D → Rs Rv) : MS := sRetR (rIf mIs0 (mCompO (.nm 1) [1] (mSeq (mVar 0)) (lOwn (mCall 1 f (aCons (mVar 1) aNil)))) (rE (mVar 0)))
def f_copC : List D → Rs Rv := runR 2 (m_copC f_copB)
def f_law_copied : List D → Rs Rv
  | [.lst (.lst x :: r)] => f_copC [.lst (.lst x :: r)]
  | ds => f_copB ds
theorem cop_or {T : Tx} {vs : List V} {H : Hp} {Q : VK} {E : XK} (h : spR T 1 f_law_copied vs H Q E) : spR T 1 f_copB vs H Q E ∨ spR T 1 f_copC vs H Q E := by
  obtain ⟨F, ds, en, hA, hl, h⟩ := h
  unfold f_law_copied at h
  split at h
  · exact .inr ⟨F, _, en, hA, hl, h⟩
  · exact .inl ⟨F, ds, en, hA, hl, h⟩
theorem cop_plain : CopOk f_law_copied := fun d hd => by
  have e : f_law_copied [d] = f_copB [d] := by
    unfold plainD at hd
    split at hd <;> first | rfl | cases hd
  rw [e]
  have : mIs0 (st0 2 [d]) = .ok false := isL_ok (m := mVar 0) (d := d) rfl (plainD_is hd)
  show (noX (m_copB f_copA (st0 2 [d]))).bnd retR = _
  unfold m_copB sRetR rIf
  rw [this]
  rfl
section
variable {P : Program} {w : World} {K : PySem.W.Frag} {mg : Str → Option Value} {base : Heap} {CX : CXT} {k : Nat} {x : Str} {sp sp2 : Sp}
theorem defG_l (g : DefG P w K mg base CX k x (fun vs H Q E => sp vs H Q E ∨ sp2 vs H Q E)) : DefG P w K mg base CX k x sp := by
  obtain ⟨f, fd, ps, h1, h2, h3, h4⟩ := g.ex
  exact ⟨f, fd, ps, h1.imp fun _ _ _ _ h => .inl h, h2, h3, h4⟩
end
end CL


set_option Elab.async false
set_option linter.all false
set_option maxRecDepth 100000
/-! Rising marks by the law; what a Grown shows. -/
namespace CL
open PySem PySem.Spec L2
theorem compD_mapT {t : Tg} {me : M} {z : List Sd} {g : D → D} : ∀ (ds : List D), (∀ d ∈ ds, ∃ z1, setT t d z = .ok z1 ∧ me z1 = .ok (g d)) → compD t me z ds = .ok (ds.map g)
  | [], _ => rfl
  | d :: ds, h => by
    obtain ⟨z1, h1, h2⟩ := h d List.mem_cons_self
    simp only [compD]
    rw [h1, bnd_ok, h2, compD_mapT ds fun x hx => h x (List.mem_cons_of_mem _ hx)]
    rfl
theorem mAll_compT {t : Tg} {vs : List Nat} {mi : ML} {me : M} {z : List Sd} {ds : List D} (g : D → Bool) (hi : mi z = .ok ds) (hl : ds.length ≤ sizeLine) (h : ∀ d ∈ ds, ∃ z1, setT t d (wipeD z vs) = .ok z1 ∧ me z1 = .ok (.bl (g d))) : mAll (mComp t vs mi me) z = .ok (.bl (ds.all g)) := by
  unfold mAll mComp
  rw [hi, bnd_ok, if_pos hl, compD_mapT (g := fun d => D.bl (g d)) ds h, bnd_ok, asBs_of]
  show Rs.ok (D.bl ((ds.map g).all id)) = _
  rw [List.all_map]
  rfl
theorem mAny_compT {t : Tg} {vs : List Nat} {mi : ML} {me : M} {z : List Sd} {ds : List D} (g : D → Bool) (hi : mi z = .ok ds) (hl : ds.length ≤ sizeLine) (h : ∀ d ∈ ds, ∃ z1, setT t d (wipeD z vs) = .ok z1 ∧ me z1 = .ok (.bl (g d))) : mAny (mComp t vs mi me) z = .ok (.bl (ds.any g)) := by
  unfold mAny mComp
  rw [hi, bnd_ok, if_pos hl, compD_mapT (g := fun d => D.bl (g d)) ds h, bnd_ok, asBs_of]
  show Rs.ok (D.bl ((ds.map g).any id)) = _
  rw [List.any_map]
  rfl
theorem len_il {z : List Sd} {m : M} {xs : List Int} (h : m z = .ok (.lst (il xs))) : mUn lenD m z = .ok (.int (xs.length : Nat)) :=
  mUn_ok h (by show some (D.int ((il xs).length : Nat)) = _; rw [List.length_map])
/-! ### pairs of marks -/
def pairsP : List Int → List (Int × Int)
  | a :: b :: r => (a, b) :: pairsP (b :: r)
  | _ => []
theorem zip_pairs : ∀ ms : List Int, zipD (il ms) (il ms.tail) = (pairsP ms).map fun p => .tup [.int p.1, .int p.2]
  | [] => rfl
  | [_] => rfl
  | a :: b :: r => by
    show D.tup [.int a, .int b] :: zipD (il (b :: r)) (il (b :: r).tail) = _
    rw [zip_pairs (b :: r)]
    rfl
theorem pairsP_length : ∀ ms : List Int, (pairsP ms).length = ms.length - 1
  | [] => rfl
  | [_] => rfl
  | a :: b :: r => by
    show (pairsP (b :: r)).length + 1 = _
    rw [pairsP_length (b :: r)]
    rfl
theorem zip_parts (row : List Int) : ∀ ms : List Int, zipD (il ms) ((partsP row ms).map fun p => .lst (il p)) = (pairsP ms).map fun p => .tup [.int p.1, .lst (il (segM row p.1 p.2))]
  | [] => rfl
  | [_] => rfl
  | a :: b :: r => by
    show D.tup [.int a, .lst (il (segM row a b))] :: zipD (il (b :: r)) ((partsP row (b :: r)).map fun p => .lst (il p)) = _
    rw [zip_parts row (b :: r)]
    rfl
theorem rising_law (n : Nat) : ∀ (ms : List Int) (l : Int), -1 ≤ l → risingP n l ms = (ms.all (fun m => decide (0 ≤ m ∧ m < n)) && (pairsP (l :: ms)).all fun p => decide (p.1 < p.2))
  | [], l, h => rfl
  | m :: ms, l, h => by
    show (decide (l < m ∧ m < n) && risingP n m ms) = ((decide (0 ≤ m ∧ m < n) && ms.all _) && (decide (l < m) && (pairsP (m :: ms)).all _))
    by_cases h1 : l < m
    · rw [rising_law n ms m (by omega)]
      by_cases h2 : m < n
      · rw [decide_eq_true ⟨h1, h2⟩, decide_eq_true (p := 0 ≤ m ∧ m < n) ⟨by omega, h2⟩, decide_eq_true h1, Bool.true_and, Bool.true_and, Bool.true_and]
      · rw [decide_eq_false (p := l < m ∧ m < n) (by omega), decide_eq_false (p := 0 ≤ m ∧ m < n) (by omega)]
        rfl
    · rw [decide_eq_false (p := l < m ∧ m < n) (by omega), decide_eq_false h1, Bool.false_and, Bool.false_and, Bool.and_false]
theorem rising_law0 (n : Nat) (ms : List Int) : risingP n (-1) ms = (ms.all (fun m => decide (0 ≤ m ∧ m < n)) && (pairsP ms).all fun p => decide (p.1 < p.2)) := by
  rw [rising_law n ms (-1) (by omega)]
  cases ms with
  | nil => rfl
  | cons m ms =>
    show ((decide (0 ≤ m ∧ m < n) && ms.all _) && (decide (-1 < m) && (pairsP (m :: ms)).all _)) = ((decide (0 ≤ m ∧ m < n) && ms.all _) && (pairsP (m :: ms)).all _)
    by_cases h : 0 ≤ m ∧ m < n
    · rw [decide_eq_true (p := -1 < m) (by omega), Bool.true_and]
    · rw [decide_eq_false h, Bool.false_and, Bool.false_and]
      rfl
theorem law_rising_eq (row marks : List Int) (h2 : marks.length ≤ BIG) : f_law_rising [.lst (il row), .lst (il marks)] = .ok (.bl (risingP row.length (-1) marks)) := by
  have hb := big_line
  have hh : BIG = 100000 := rfl
  refine runF_rt ?_
  unfold m_law_rising
  have hl : (il marks).length ≤ sizeLine := by rw [List.length_map]; omega
  have e1 := mAny_comp (i := 2) (vs := [2]) (z := [.sh (.lst (il row)), .sh (.lst (il marks)), .no, .no, .no]) (mi := mSeq (mVar 1)) (ds := il marks)
    (me := mUn notD (mChain leD ltD (mC (.int 0)) (mVar 2) (mUn lenD (mVar 0)))) (g := fun d => match d with | .int m => !decide (0 ≤ m ∧ m < row.length) | _ => false) rfl hl (fun d hd => by
    obtain ⟨m, _, rfl⟩ := List.mem_map.mp hd
    exact mUn_ok (x := .bl (decide (0 ≤ m ∧ m < row.length))) (chain_ll rfl rfl (len_il rfl)) rfl)
  have e2 : (il marks).any (fun d => match d with | .int m => !decide (0 ≤ m ∧ m < row.length) | _ => false) = !marks.all fun m => decide (0 ≤ m ∧ m < row.length) := by
    rw [List.any_map, List.not_all_eq_any_not]
    rfl
  rw [e2] at e1
  have t1 := bV_b e1
  rw [rising_law0]
  cases ha : marks.all fun m => decide (0 ≤ m ∧ m < row.length) with
  | false =>
    rw [ha] at t1
    exact sSeq_rt ((sIf_t t1).trans rfl)
  | true =>
    rw [ha] at t1
    refine (sSeq_nx ((sIf_f t1).trans rfl)).trans (sRet_ok ?_)
    have hm : mOf zip2 (aCons (mVar 1) (aCons (mL (mCut (iE (mVar 1)) (oSome (mC (.int 1))) oNone)) aNil)) (frz [.sh (.lst (il row)), .sh (.lst (il marks)), .no, .no, .no]) = .ok ((pairsP marks).map fun p => .tup [.int p.1, .int p.2]) := by
      rw [← zip_pairs]
      refine mOf_ok (xs := [.lst (il marks), .lst (il marks.tail)]) (aCons_ok rfl (aCons_ok (mL_ok (mCut_ok (xs := il marks) (a := some ((1 : Nat) : Int)) (b := none) rfl rfl rfl ?_)) rfl)) rfl
      rw [cutD_from, List.drop_one, il, il, List.map_tail]
    refine (mAll_compT (g := fun d => match d with | .tup [.int a, .int b] => decide (a < b) | _ => false) hm (by rw [List.length_map, pairsP_length]; omega) (fun d hd => ?_)).trans ?_
    · obtain ⟨p, _, rfl⟩ := List.mem_map.mp hd
      exact ⟨_, rfl, mBin_ok (x := .int p.1) (y := .int p.2) rfl rfl rfl⟩
    · rw [List.all_map]
      rfl
theorem mR_ok {mr : MR} {z : List Sd} {x : Rv} (h : mr z = .ok x) : mR mr z = .ok (rvD x) := by
  unfold mR
  rw [h]
  rfl
/-! ### what grows -/
def growI (ds : List D) : Option (List Int) := (growO [] ds).bind asIs
theorem grow_d (ds : List D) : (growO [] ds = none ∧ growI ds = none) ∨ ∃ xs, growO [] ds = some (il xs) ∧ growI ds = some xs := by
  unfold growI
  cases h : growO [] ds with
  | none => exact .inl ⟨rfl, rfl⟩
  | some ys =>
    obtain ⟨ns, rfl⟩ := num_is (num_grow h (by simp))
    exact .inr ⟨ns, rfl, asIs_map ns⟩
theorem neB_non (xs : List Int) : neB .non (.lst (il xs)) = some (.bl true) := by
  obtain ⟨p, q, a, b, c⟩ := eqD_pl (pl_non (k := 0)) (pl_ints (k := 0) xs) (by decide) (by decide)
  simp only [toPy, toPyAll_ints] at a b
  cases a
  cases b
  unfold neB
  rw [c]
  simp [PyData.eqv]
theorem grow_ne (ds : List D) (row : List Int) : neB (match growO [] ds with | some xs => .lst xs | none => .non) (.lst (il row)) = some (.bl (!decide (growI ds = some row))) := by
  rcases grow_d ds with ⟨h1, h2⟩ | ⟨xs, h1, h2⟩
  · rw [h1, h2]
    refine (neB_non row).trans ?_
    simp
  · rw [h1, h2]
    refine (neB_ints xs row).trans ?_
    congr 2
    simp
/-! ### a Grown's own word -/
def okPair (row : List Int) (p : Int × Int) : Bool := !standsP (row.take (p.1.toNat + (segM row p.1 p.2).length - 1)) (segM row p.1 p.2)
def showsGP (ds : List D) (marks row : List Int) : Bool := decide (ds.length = marks.length) && (decide (growI ds = some row) && (risingP row.length (-1) marks && (pairsP marks).all (okPair row)))
theorem seg_len (row : List Int) (a b : Int) (h : a < b) (h0 : 0 ≤ a) (hb : b < row.length) : (segM row a b).length = b.toNat + 1 - a.toNat := by
  unfold segM segL
  rw [List.length_take, List.length_drop]
  omega
theorem pairs_in {n : Nat} : ∀ {ms : List Int} {l : Int}, risingP n l ms = true → ∀ p ∈ pairsP ms, l < p.1 ∧ p.1 < p.2 ∧ p.2 < n
  | [], _, _, p, h => by cases h
  | [_], _, _, p, h => by cases h
  | a :: b :: r, l, hr, p, h => by
    have hr' : (decide (l < a ∧ a < n) && risingP n a (b :: r)) = true := hr
    rw [Bool.and_eq_true, decide_eq_true_eq] at hr'
    have h2 := rising_mono hr'.2 b List.mem_cons_self
    rcases List.mem_cons.mp h with rfl | h
    · exact ⟨hr'.1.1, h2.1, h2.2⟩
    · have := pairs_in hr'.2 p h
      exact ⟨by omega, this.2⟩
abbrev m_gs1 : MS := sIf (bV (mCall 2 f_stands (aCons (mL (mCut (iE (mVar 1)) oNone (oSome (mBin subD (mBin addD (mVar 3) (mUn lenD (mVar 4))) (mC (.int 1)))))) (aCons (mVar 4) aNil)))) (sRet (mC (.bl false))) sNil
theorem gs_for {self btw : D} {row : List Int} (hrow : row.length ≤ BIG) : ∀ (ps : List (Int × Int)) (x y : Sd), (∀ p ∈ ps, 0 ≤ p.1 ∧ p.1 < p.2 ∧ p.2 < row.length) →
    ∃ x' y', forD (.tp [3, 4]) m_gs1 (ps.map fun p => .tup [.int p.1, .lst (il (segM row p.1 p.2))]) [.sh self, .sh (.lst (il row)), .sh btw, x, y] =
      if ps.all (okPair row) then .ok (.nx [.sh self, .sh (.lst (il row)), .sh btw, x', y']) else .ok (.rt (.bl false))
  | [], x, y, _ => ⟨x, y, rfl⟩
  | p :: ps, x, y, h => by
    obtain ⟨x', y', ih⟩ := gs_for (self := self) (btw := btw) hrow ps (.sh (.int p.1)) (.sh (.lst (il (segM row p.1 p.2)))) fun q hq => h q (List.mem_cons_of_mem _ hq)
    refine ⟨x', y', ?_⟩
    obtain ⟨h1, h2, h3⟩ := h p List.mem_cons_self
    have hl := seg_len row p.1 p.2 h2 h1 h3
    have hst := stands_eq (row.take (p.1.toNat + (segM row p.1 p.2).length - 1)) (segM row p.1 p.2) (by rw [List.length_take]; omega) (by omega)
    have ht : bV (mCall 2 f_stands (aCons (mL (mCut (iE (mVar 1)) oNone (oSome (mBin subD (mBin addD (mVar 3) (mUn lenD (mVar 4))) (mC (.int 1)))))) (aCons (mVar 4) aNil))) [.sh self, .sh (.lst (il row)), .sh btw, .sh (.int p.1), .sh (.lst (il (segM row p.1 p.2)))]
        = .ok (standsP (row.take (p.1.toNat + (segM row p.1 p.2).length - 1)) (segM row p.1 p.2)) := by
      refine bV_b (mCall_is (ds := [.lst (il (row.take (p.1.toNat + (segM row p.1 p.2).length - 1))), .lst (il (segM row p.1 p.2))]) (aCons_ok (mL_ok (mCut_ok (xs := il row) (a := none) (b := some ((p.1.toNat + (segM row p.1 p.2).length - 1 : Nat) : Int)) rfl rfl (oSome_ok ?_) ?_)) (aCons_ok rfl rfl)) rfl hst)
      · have e : ((p.1.toNat + (segM row p.1 p.2).length - 1 : Nat) : Int) = p.1 + ((segM row p.1 p.2).length : Int) - 1 := by omega
        rw [e]
        exact mBin_ok (x := .int (p.1 + ((segM row p.1 p.2).length : Int))) (y := .int 1) (mBin_ok (x := .int p.1) (y := .int ((segM row p.1 p.2).length : Nat)) rfl (len_il rfl) rfl) rfl rfl
      · rw [cutD_to, il, il, List.map_take]
    cases hs : standsP (row.take (p.1.toNat + (segM row p.1 p.2).length - 1)) (segM row p.1 p.2) with
    | true =>
      rw [hs] at ht
      have ho : okPair row p = false := by unfold okPair; rw [hs]; rfl
      rw [List.all_cons, ho, Bool.false_and, if_neg Bool.false_ne_true]
      exact forD_rt rfl ((sIf_t ht).trans rfl)
    | false =>
      rw [hs] at ht
      have ho : okPair row p = true := by unfold okPair; rw [hs]; rfl
      rw [List.all_cons, ho, Bool.true_and, ← ih]
      exact forD_nx rfl ((sIf_f ht).trans rfl)
theorem fld_deeds (ds ms : D) : fldD .deeds (.ins 3 [ds, ms]) = some ds := rfl
theorem fld_marks3 (ds ms : D) : fldD .marks (.ins 3 [ds, ms]) = some ms := rfl
theorem ne_len {z : List Sd} {a b : M} {i j : Nat} (ha : a z = .ok (.int (i : Nat))) (hb : b z = .ok (.int (j : Nat))) : bV (mBin neB a b) z = .ok (!decide (i = j)) := by
  refine bV_b (mBin_ok ha hb ?_)
  show some (D.bl (!((i : Int) == (j : Int)))) = _
  congr 2
  by_cases h : i = j
  · subst h; simp
  · rw [decide_eq_false h]
    have : ¬ ((i : Int) = (j : Int)) := by omega
    simp [this]
theorem grown_shows_eq {ds : List D} {marks row : List Int} (hk : ∀ d ∈ ds, okE d) (hz : (ds.map cost).sum ≤ sizeLine) (hrow : row.length ≤ BIG) (hm : marks.length ≤ BIG) :
    f_Grown_shows [.ins 3 [.lst ds, .lst (il marks)], .lst (il row)] = .ok (.bl (showsGP ds marks row)) := by
  have hb := big_line
  refine runF_rt ?_
  unfold m_Grown_shows showsGP
  have z0 : st0 5 [.ins 3 [.lst ds, .lst (il marks)], .lst (il row)] = [.sh (.ins 3 [.lst ds, .lst (il marks)]), .sh (.lst (il row)), .no, .no, .no] := rfl
  rw [z0]
  have d1 : ∀ {x y w : Sd}, mUn (fldD .deeds) (mVar 0) [.sh (.ins 3 [.lst ds, .lst (il marks)]), .sh (.lst (il row)), x, y, w] = .ok (.lst ds) := fun {x y w} => rfl
  have d2 : ∀ {x y w : Sd}, mUn (fldD .marks) (mVar 0) [.sh (.ins 3 [.lst ds, .lst (il marks)]), .sh (.lst (il row)), x, y, w] = .ok (.lst (il marks)) := fun {x y w} => rfl
  have n1 : mUn lenD (mUn (fldD .deeds) (mVar 0)) [.sh (.ins 3 [.lst ds, .lst (il marks)]), .sh (.lst (il row)), .no, .no, .no] = .ok (.int (ds.length : Nat)) := mUn_ok d1 rfl
  have c1 := ne_len n1 (len_il d2)
  by_cases h1 : ds.length = marks.length
  · rw [decide_eq_true h1] at c1
    rw [decide_eq_true h1, Bool.true_and]
    have g1 : mR (mCall 1 f_grown_of (aCons (mUn (fldD .deeds) (mVar 0)) aNil)) [.sh (.ins 3 [.lst ds, .lst (il marks)]), .sh (.lst (il row)), .no, .no, .no] = .ok (match growO [] ds with | some xs => .lst xs | none => .non) := by
      refine (mR_ok (mCall_is (ds := [.lst ds]) (aCons_ok d1 rfl) rfl (grown_of_eq hk hz))).trans ?_
      cases growO [] ds <;> rfl
    have c2 := bV_b (mBin_ok g1 (show mVar 1 [.sh (.ins 3 [.lst ds, .lst (il marks)]), .sh (.lst (il row)), .no, .no, .no] = .ok (.lst (il row)) from rfl) (grow_ne ds row))
    by_cases h2 : growI ds = some row
    · rw [decide_eq_true h2] at c2
      rw [decide_eq_true h2, Bool.true_and]
      refine (sSeq_nx ((sIf_f ((bOr_f c1).trans c2)).trans rfl)).trans ?_
      refine (sSeq_nx (sSet_ok (mCall_is (ds := [.lst (il row), .lst (il marks)]) (aCons_ok rfl (aCons_ok d2 rfl)) rfl (spans_eq row marks hrow hm)))).trans ?_
      unfold spansP
      cases hr : risingP row.length (-1) marks with
      | false =>
        refine (sSeq_rt (d := .bl false) ((sIf_t ?_).trans rfl)).trans rfl
        rfl
      | true =>
        rw [if_pos rfl, Bool.true_and]
        refine (sSeq_nx (z' := [.sh (.ins 3 [.lst ds, .lst (il marks)]), .sh (.lst (il row)), .sh (spansD (some (partsP row marks))), .no, .no]) ((sIf_f ?_).trans rfl)).trans ?_
        · rfl
        obtain ⟨x', y', ef⟩ := gs_for (self := .ins 3 [.lst ds, .lst (il marks)]) (btw := spansD (some (partsP row marks))) hrow (pairsP marks) .no .no fun p hp => by
          have := pairs_in hr p hp
          omega
        have hm2 : mOf zip2 (aCons (mUn (fldD .marks) (mVar 0)) (aCons (mVar 2) aNil)) [.sh (.ins 3 [.lst ds, .lst (il marks)]), .sh (.lst (il row)), .sh (spansD (some (partsP row marks))), .no, .no] = .ok ((pairsP marks).map fun p => .tup [.int p.1, .lst (il (segM row p.1 p.2))]) := by
          rw [← zip_parts]
          exact mOf_ok (xs := [.lst (il marks), .lst ((partsP row marks).map fun p => .lst (il p))]) (aCons_ok d2 (aCons_ok rfl rfl)) rfl
        have e4 := (sFor_ok (t := .tp [3, 4]) (m := m_gs1) hm2).trans ef
        cases ha : (pairsP marks).all (okPair row) with
        | true =>
          rw [ha, if_pos rfl] at e4
          exact (sSeq_nx e4).trans rfl
        | false =>
          rw [ha, if_neg Bool.false_ne_true] at e4
          exact sSeq_rt e4
    · rw [decide_eq_false h2] at c2
      rw [decide_eq_false h2, Bool.false_and]
      exact sSeq_rt ((sIf_t ((bOr_f c1).trans c2)).trans rfl)
  · rw [decide_eq_false h1] at c1
    rw [decide_eq_false h1, Bool.false_and]
    exact sSeq_rt ((sIf_t (bOr_t c1)).trans rfl)
end CL


set_option Elab.async false
set_option linter.all false
set_option maxRecDepth 100000
/-! The law's own look at deeds and marks. -/
namespace CL
open PySem PySem.Spec L2
def okPairL (row : List Int) (p : Int × Int) : Bool := !(List.range p.1.toNat).any fun i => decide (segL row i (segM row p.1 p.2).length = segM row p.1 p.2)
theorem seg_take (row : List Int) (n i k : Nat) (h : i + k ≤ n) : segL (row.take n) i k = segL row i k := by
  unfold segL
  rw [List.drop_take, List.take_take, Nat.min_eq_left (by omega)]
theorem okPair_eq (row : List Int) (p : Int × Int) (h0 : 0 ≤ p.1) (h1 : p.1 < p.2) (h2 : p.2 < row.length) : okPair row p = okPairL row p := by
  unfold okPair okPairL standsP
  have hl := seg_len row p.1 p.2 h1 h0 h2
  have e1 : (row.take (p.1.toNat + (segM row p.1 p.2).length - 1)).length + 1 - (segM row p.1 p.2).length = p.1.toNat := by
    rw [List.length_take]
    omega
  rw [e1]
  congr 1
  rw [Bool.eq_iff_iff, List.any_eq_true, List.any_eq_true]
  constructor
  · rintro ⟨i, hi, h⟩
    rw [List.mem_range] at hi
    rw [seg_take _ _ _ _ (by omega)] at h
    exact ⟨i, List.mem_range.mpr hi, h⟩
  · rintro ⟨i, hi, h⟩
    rw [List.mem_range] at hi
    refine ⟨i, List.mem_range.mpr hi, ?_⟩
    rw [seg_take _ _ _ _ (by omega)]
    exact h
abbrev m_lo1 : MS := sSeq (sSet 5 (mL (mCut (iE (mVar 0)) (oSome (mVar 3)) (oSome (mBin addD (mVar 4) (mC (.int 1)))))))
  (sIf (bV (mAny (mComp (.nm 6) [6] (mOf rng1 (aCons (mVar 3) aNil)) (mBin eqB (mL (mCut (iE (mVar 0)) (oSome (mVar 6)) (oSome (mBin addD (mVar 6) (mUn lenD (mVar 5)))))) (mVar 5))))) (sRet (mC (.bl false))) sNil)
theorem lo_for {row : List Int} {d1 d2 : D} {w : Sd} (hrow : row.length ≤ BIG) : ∀ (ps : List (Int × Int)) (x y v : Sd), (∀ p ∈ ps, 0 ≤ p.1 ∧ p.1 < p.2 ∧ p.2 < row.length) →
    ∃ x' y' v', forD (.tp [3, 4]) m_lo1 (ps.map fun p => .tup [.int p.1, .int p.2]) [.sh (.lst (il row)), .sh d1, .sh d2, x, y, v, w] =
      if ps.all (okPairL row) then .ok (.nx [.sh (.lst (il row)), .sh d1, .sh d2, x', y', v', w]) else .ok (.rt (.bl false))
  | [], x, y, v, _ => ⟨x, y, v, rfl⟩
  | p :: ps, x, y, v, h => by
    have hb := big_line
    have hh : BIG = 100000 := rfl
    obtain ⟨x', y', v', ih⟩ := lo_for (d1 := d1) (d2 := d2) (w := w) hrow ps (.sh (.int p.1)) (.sh (.int p.2)) (.sh (.lst (il (segM row p.1 p.2)))) fun q hq => h q (List.mem_cons_of_mem _ hq)
    refine ⟨x', y', v', ?_⟩
    obtain ⟨h1, h2, h3⟩ := h p List.mem_cons_self
    have hl := seg_len row p.1 p.2 h2 h1 h3
    obtain ⟨a, ha⟩ : ∃ a : Nat, p.1 = (a : Int) := ⟨p.1.toNat, by omega⟩
    obtain ⟨b, hb'⟩ : ∃ b : Nat, p.2 = (b : Int) := ⟨p.2.toNat, by omega⟩
    have e1 : sSet 5 (mL (mCut (iE (mVar 0)) (oSome (mVar 3)) (oSome (mBin addD (mVar 4) (mC (.int 1)))))) [.sh (.lst (il row)), .sh d1, .sh d2, .sh (.int p.1), .sh (.int p.2), v, w] =
        .ok (.nx [.sh (.lst (il row)), .sh d1, .sh d2, .sh (.int p.1), .sh (.int p.2), .sh (.lst (il (segM row p.1 p.2))), w]) := by
      refine (sSet_ok (d := .lst (il (segM row p.1 p.2))) (mL_ok (mCut_ok (xs := il row) (a := some p.1) (b := some (p.2 + 1)) rfl rfl (oSome_ok (mBin_ok (x := .int p.2) (y := .int 1) rfl rfl rfl)) ?_))).trans rfl
      have ez : (b : Int) + 1 = ((b + 1 : Nat) : Int) := by omega
      rw [ha, hb', ez, cut_ints]
      rfl
    have ht := mAny_comp (i := 6) (vs := [6]) (z := [.sh (.lst (il row)), .sh d1, .sh d2, .sh (.int p.1), .sh (.int p.2), .sh (.lst (il (segM row p.1 p.2))), w]) (mi := mOf rng1 (aCons (mVar 3) aNil)) (ds := rgD 0 p.1.toNat)
      (me := mBin eqB (mL (mCut (iE (mVar 0)) (oSome (mVar 6)) (oSome (mBin addD (mVar 6) (mUn lenD (mVar 5)))))) (mVar 5)) (g := fun d => match d with | .int i => decide (segL row i.toNat (segM row p.1 p.2).length = segM row p.1 p.2) | _ => false)
      (mOf_ok (xs := [.int p.1]) rfl (rng1_ok (by omega) (by omega))) (by rw [rgD_length]; omega) (fun d hd => by
      obtain ⟨i, hi, rfl⟩ := mem_rgD hd
      rw [Int.zero_add]
      refine mBin_ok (x := .lst (il (segL row i (segM row p.1 p.2).length))) (mL_ok (mCut_ok (xs := il row) (a := some (i : Nat)) (b := some ((i + (segM row p.1 p.2).length : Nat) : Int)) rfl rfl (oSome_ok (mBin_ok (x := .int (i : Nat)) (y := .int ((segM row p.1 p.2).length : Nat)) rfl (len_il rfl) rfl)) ?_)) rfl (eqB_ints _ _)
      rw [cut_ints, Nat.add_sub_cancel_left])
    rw [rgD_any] at ht
    have t2 := bV_b ht
    have ho : okPairL row p = !((List.range p.1.toNat).any fun i => decide (segL row i (segM row p.1 p.2).length = segM row p.1 p.2)) := rfl
    cases hs : (List.range p.1.toNat).any fun i => decide (segL row i (segM row p.1 p.2).length = segM row p.1 p.2) with
    | true =>
      rw [hs] at ho
      have t3 : bV (mAny (mComp (.nm 6) [6] (mOf rng1 (aCons (mVar 3) aNil)) (mBin eqB (mL (mCut (iE (mVar 0)) (oSome (mVar 6)) (oSome (mBin addD (mVar 6) (mUn lenD (mVar 5)))))) (mVar 5)))) [.sh (.lst (il row)), .sh d1, .sh d2, .sh (.int p.1), .sh (.int p.2), .sh (.lst (il (segM row p.1 p.2))), w] = .ok true := t2.trans (congrArg Rs.ok hs)
      rw [List.all_cons, ho]
      show _ = if (!true && ps.all (okPairL row)) = true then _ else _
      rw [Bool.not_true, Bool.false_and, if_neg Bool.false_ne_true]
      exact forD_rt rfl ((sSeq_nx e1).trans ((sIf_t t3).trans rfl))
    | false =>
      rw [hs] at ho
      have t3 : bV (mAny (mComp (.nm 6) [6] (mOf rng1 (aCons (mVar 3) aNil)) (mBin eqB (mL (mCut (iE (mVar 0)) (oSome (mVar 6)) (oSome (mBin addD (mVar 6) (mUn lenD (mVar 5)))))) (mVar 5)))) [.sh (.lst (il row)), .sh d1, .sh d2, .sh (.int p.1), .sh (.int p.2), .sh (.lst (il (segM row p.1 p.2))), w] = .ok false := t2.trans (congrArg Rs.ok hs)
      rw [List.all_cons, ho]
      show _ = if (!false && ps.all (okPairL row)) = true then _ else _
      rw [Bool.not_false, Bool.true_and, ← ih]
      exact forD_nx rfl ((sSeq_nx e1).trans ((sIf_f t3).trans rfl))
theorem pairs_all (row marks : List Int) (hr : risingP row.length (-1) marks = true) : (pairsP marks).all (okPair row) = (pairsP marks).all (okPairL row) := by
  rw [Bool.eq_iff_iff, List.all_eq_true, List.all_eq_true]
  constructor
  · intro h p hp
    have := pairs_in hr p hp
    rw [← okPair_eq row p (by omega) (by omega) (by omega)]
    exact h p hp
  · intro h p hp
    have := pairs_in hr p hp
    rw [okPair_eq row p (by omega) (by omega) (by omega)]
    exact h p hp
theorem law_own_eq {ds : List D} {marks row : List Int} (hk : ∀ d ∈ ds, okE d) (hz : (ds.map cost).sum ≤ sizeLine) (hrow : row.length ≤ BIG) (hm : marks.length ≤ BIG) :
    f_law_own [.lst (il row), .lst ds, .lst (il marks)] = .ok (.bl (showsGP ds marks row)) := by
  have hb := big_line
  refine runF_rt ?_
  unfold m_law_own showsGP
  have z0 : st0 7 [.lst (il row), .lst ds, .lst (il marks)] = [.sh (.lst (il row)), .sh (.lst ds), .sh (.lst (il marks)), .no, .no, .no, .no] := rfl
  rw [z0]
  have n1 : mUn lenD (mVar 1) [.sh (.lst (il row)), .sh (.lst ds), .sh (.lst (il marks)), .no, .no, .no, .no] = .ok (.int (ds.length : Nat)) := rfl
  have n2 : mUn lenD (mVar 2) [.sh (.lst (il row)), .sh (.lst ds), .sh (.lst (il marks)), .no, .no, .no, .no] = .ok (.int (marks.length : Nat)) := len_il rfl
  have c1 := ne_len n1 n2
  by_cases h1 : ds.length = marks.length
  · rw [decide_eq_true h1] at c1
    rw [decide_eq_true h1, Bool.true_and]
    have g1 : mCall 1 f_law_grown (aCons (mVar 1) aNil) [.sh (.lst (il row)), .sh (.lst ds), .sh (.lst (il marks)), .no, .no, .no, .no] = .ok (match growO [] ds with | some xs => .lst xs | none => .non) := mCall_is (ds := [.lst ds]) rfl rfl (law_grown_eq hk hz)
    have c2 := bV_b (mBin_ok g1 (show mVar 0 [.sh (.lst (il row)), .sh (.lst ds), .sh (.lst (il marks)), .no, .no, .no, .no] = .ok (.lst (il row)) from rfl) (grow_ne ds row))
    by_cases h2 : growI ds = some row
    · rw [decide_eq_true h2] at c2
      rw [decide_eq_true h2, Bool.true_and]
      have c3 : bNot (bV (mCall 2 f_law_rising (aCons (mVar 0) (aCons (mVar 2) aNil)))) [.sh (.lst (il row)), .sh (.lst ds), .sh (.lst (il marks)), .no, .no, .no, .no] = .ok (!risingP row.length (-1) marks) :=
        bNot_b (bV_b (mCall_is (ds := [.lst (il row), .lst (il marks)]) rfl rfl (law_rising_eq row marks hm)))
      cases hr : risingP row.length (-1) marks with
      | false =>
        rw [hr] at c3
        exact sSeq_rt ((sIf_t ((bOr_f c1).trans ((bOr_f c2).trans c3))).trans rfl)
      | true =>
        rw [hr] at c3
        rw [Bool.true_and, pairs_all row marks hr]
        refine (sSeq_nx ((sIf_f ((bOr_f c1).trans ((bOr_f c2).trans c3))).trans rfl)).trans ?_
        obtain ⟨x', y', v', ef⟩ := lo_for (d1 := .lst ds) (d2 := .lst (il marks)) (w := .no) hrow (pairsP marks) .no .no .no fun p hp => by
          have := pairs_in hr p hp
          omega
        have hm2 : mOf zip2 (aCons (mVar 2) (aCons (mL (mCut (iE (mVar 2)) (oSome (mC (.int 1))) oNone)) aNil)) [.sh (.lst (il row)), .sh (.lst ds), .sh (.lst (il marks)), .no, .no, .no, .no] = .ok ((pairsP marks).map fun p => .tup [.int p.1, .int p.2]) := by
          rw [← zip_pairs]
          refine mOf_ok (xs := [.lst (il marks), .lst (il marks.tail)]) (aCons_ok rfl (aCons_ok (mL_ok (mCut_ok (xs := il marks) (a := some ((1 : Nat) : Int)) (b := none) rfl rfl rfl ?_)) rfl)) rfl
          rw [cutD_from, List.drop_one, il, il, List.map_tail]
        have e4 := (sFor_ok (t := .tp [3, 4]) (m := m_lo1) hm2).trans ef
        cases ha : (pairsP marks).all (okPairL row) with
        | true =>
          rw [ha, if_pos rfl] at e4
          exact (sSeq_nx e4).trans rfl
        | false =>
          rw [ha, if_neg Bool.false_ne_true] at e4
          exact sSeq_rt e4
    · rw [decide_eq_false h2] at c2
      rw [decide_eq_false h2, Bool.false_and]
      exact sSeq_rt ((sIf_t ((bOr_f c1).trans (bOr_t c2))).trans rfl)
  · rw [decide_eq_false h1] at c1
    rw [decide_eq_false h1, Bool.false_and]
    exact sSeq_rt ((sIf_t (bOr_t c1)).trans rfl)
end CL


set_option Elab.async false
set_option linter.all false
set_option maxRecDepth 100000
/-! alike_many, the best of triples, own. -/
namespace CL
open PySem PySem.Spec L2
/-! ### alike_many -/
def alikeL (sh : List Int) (s : Int) : Int → List Int → Nat
  | _, [] => 0
  | p, r :: rs => if 0 ≤ p ∧ p < sh.length ∧ sh.getD p.toNat 0 = r then alikeL sh s (p + s) rs + 1 else 0
theorem alikeL_le (sh : List Int) (s : Int) : ∀ (rs : List Int) (p : Int), alikeL sh s p rs ≤ rs.length
  | [], _ => Nat.le_refl _
  | r :: rs, p => by
    unfold alikeL
    split
    · have := alikeL_le sh s rs (p + s)
      simp only [List.length_cons]
      omega
    · exact Nat.zero_le _
abbrev m_al_t : MB := bAnd (bV (mBin ltD (mBin addD (mVar 4) (mVar 5)) (mUn lenD (mVar 3)))) (bV (mChain leD ltD (mC (.int 0)) (mBin addD (mVar 1) (mBin mulD (mVar 2) (mVar 5))) (mUn lenD (mVar 0))))
abbrev m_al_b : MS := sSeq (sIf (bV (mBin neB (mBin ixD (mVar 0) (mBin addD (mVar 1) (mBin mulD (mVar 2) (mVar 5)))) (mBin ixD (mVar 3) (mBin addD (mVar 4) (mVar 5))))) (sRet (mVar 5)) sNil)
  (sAug 5 (intD fun i j => .int (i + j)) (mC (.int 1)))
theorem neB_int (i j : Int) : neB (.int i) (.int j) = some (.bl (!decide (i = j))) := by
  show some (D.bl (!(i == j))) = _
  congr 2
theorem eqB_int (i j : Int) : eqB (.int i) (.int j) = some (.bl (decide (i = j))) := by
  show some (D.bl (i == j)) = _
  congr 2
theorem while_rt {t : MB} {m : MS} {n : Nat} {z : List Sd} {d : D} (h : t z = .ok true) (h2 : m z = .ok (.rt d)) : whileD t m (n + 1) z = .ok (.rt d) := by
  simp only [whileD]
  rw [h, bnd_ok, if_pos rfl, h2]
  rfl
theorem al_while {sh row : List Int} {p s : Int} {b : Nat} (hs : s = 1 ∨ s = -1) : ∀ (n k : Nat), row.length - (b + k) < n →
    (∃ z', whileD m_al_t m_al_b n [.sh (.lst (il sh)), .sh (.int p), .sh (.int s), .sh (.lst (il row)), .sh (.int (b : Nat)), .sh (.int (k : Nat))] = .ok (.nx z') ∧
      z' = [.sh (.lst (il sh)), .sh (.int p), .sh (.int s), .sh (.lst (il row)), .sh (.int (b : Nat)), .sh (.int ((k + alikeL sh s (p + s * k) (row.drop (b + k)) : Nat) : Int))]) ∨
    whileD m_al_t m_al_b n [.sh (.lst (il sh)), .sh (.int p), .sh (.int s), .sh (.lst (il row)), .sh (.int (b : Nat)), .sh (.int (k : Nat))] = .ok (.rt (.int ((k + alikeL sh s (p + s * k) (row.drop (b + k)) : Nat) : Int)))
  | 0, k, h => by omega
  | n + 1, k, h => by
    have e1 : bV (mBin ltD (mBin addD (mVar 4) (mVar 5)) (mUn lenD (mVar 3))) [.sh (.lst (il sh)), .sh (.int p), .sh (.int s), .sh (.lst (il row)), .sh (.int (b : Nat)), .sh (.int (k : Nat))] = .ok (decide ((b : Int) + (k : Int) < (row.length : Int))) :=
      bV_b (mBin_ok (x := .int ((b : Int) + (k : Int))) (y := .int (row.length : Nat)) (mBin_ok (x := .int (b : Nat)) (y := .int (k : Nat)) rfl rfl rfl) (len_il rfl) rfl)
    have em : mBin addD (mVar 1) (mBin mulD (mVar 2) (mVar 5)) [.sh (.lst (il sh)), .sh (.int p), .sh (.int s), .sh (.lst (il row)), .sh (.int (b : Nat)), .sh (.int (k : Nat))] = .ok (.int (p + s * (k : Int))) :=
      mBin_ok (x := .int p) (y := .int (s * (k : Int))) rfl (mBin_ok (x := .int s) (y := .int (k : Nat)) rfl rfl (mulD_pm hs)) rfl
    have e2 : bV (mChain leD ltD (mC (.int 0)) (mBin addD (mVar 1) (mBin mulD (mVar 2) (mVar 5))) (mUn lenD (mVar 0))) [.sh (.lst (il sh)), .sh (.int p), .sh (.int s), .sh (.lst (il row)), .sh (.int (b : Nat)), .sh (.int (k : Nat))] = .ok (decide (0 ≤ p + s * (k : Int) ∧ p + s * (k : Int) < (sh.length : Int))) :=
      bV_b (chain_ll rfl em (len_il rfl))
    by_cases h1 : b + k < row.length
    · have d1 : row.drop (b + k) = row.getD (b + k) 0 :: row.drop (b + (k + 1)) := by
        rw [List.drop_eq_getElem_cons h1, List.getD_eq_getElem?_getD, List.getElem?_eq_getElem h1]
        rfl
      rw [decide_eq_true (by omega)] at e1
      by_cases h2 : 0 ≤ p + s * (k : Int) ∧ p + s * (k : Int) < (sh.length : Int)
      · rw [decide_eq_true h2] at e2
        have ht := (bAnd_t e1).trans e2
        have i1 := ix_il (ms := sh) h2.1 h2.2
        have i2 := ix_il (ms := row) (i := (b : Int) + (k : Int)) (by omega) (by omega)
        have tn : ((b : Int) + (k : Int)).toNat = b + k := by omega
        rw [tn] at i2
        have c1 : bV (mBin neB (mBin ixD (mVar 0) (mBin addD (mVar 1) (mBin mulD (mVar 2) (mVar 5)))) (mBin ixD (mVar 3) (mBin addD (mVar 4) (mVar 5)))) [.sh (.lst (il sh)), .sh (.int p), .sh (.int s), .sh (.lst (il row)), .sh (.int (b : Nat)), .sh (.int (k : Nat))] =
            .ok (!decide (sh.getD (p + s * (k : Int)).toNat 0 = row.getD (b + k) 0)) :=
          bV_b (mBin_ok (mBin_ok (x := .lst (il sh)) rfl em i1) (mBin_ok (x := .lst (il row)) (y := .int ((b : Int) + (k : Int))) rfl (mBin_ok (x := .int (b : Nat)) (y := .int (k : Nat)) rfl rfl rfl) i2) (neB_int _ _))
        by_cases h3 : sh.getD (p + s * (k : Int)).toNat 0 = row.getD (b + k) 0
        · rw [decide_eq_true h3] at c1
          have eb : m_al_b [.sh (.lst (il sh)), .sh (.int p), .sh (.int s), .sh (.lst (il row)), .sh (.int (b : Nat)), .sh (.int (k : Nat))] = .ok (.nx [.sh (.lst (il sh)), .sh (.int p), .sh (.int s), .sh (.lst (il row)), .sh (.int (b : Nat)), .sh (.int ((k + 1 : Nat) : Int))]) :=
            (sSeq_nx ((sIf_f c1).trans rfl)).trans rfl
          rw [while_t ht eb]
          have ea : k + alikeL sh s (p + s * (k : Int)) (row.drop (b + k)) = (k + 1) + alikeL sh s (p + s * ((k + 1 : Nat) : Int)) (row.drop (b + (k + 1))) := by
            have er : p + s * (k : Int) + s = p + s * ((k + 1 : Nat) : Int) := by
              rw [Int.natCast_add, Int.mul_add, Int.add_assoc]
              simp
            rw [d1, alikeL, if_pos ⟨h2.1, h2.2, h3⟩, er]
            omega
          rw [ea]
          exact al_while hs n (k + 1) (by omega)
        · rw [decide_eq_false h3] at c1
          have eb : m_al_b [.sh (.lst (il sh)), .sh (.int p), .sh (.int s), .sh (.lst (il row)), .sh (.int (b : Nat)), .sh (.int (k : Nat))] = .ok (.rt (.int (k : Nat))) := sSeq_rt ((sIf_t c1).trans rfl)
          right
          rw [d1, alikeL, if_neg (fun q => h3 q.2.2), Nat.add_zero]
          exact while_rt ht eb
      · rw [decide_eq_false h2] at e2
        have ht := (bAnd_t e1).trans e2
        left
        refine ⟨_, while_f ht, ?_⟩
        rw [d1, alikeL, if_neg (fun q => h2 ⟨q.1, q.2.1⟩), Nat.add_zero]
    · rw [decide_eq_false (by omega)] at e1
      left
      refine ⟨_, while_f (bAnd_f e1), ?_⟩
      rw [List.drop_eq_nil_of_le (by omega), alikeL, Nat.add_zero]
theorem alike_eq (sh row : List Int) (p s : Int) (b : Nat) (hs : s = 1 ∨ s = -1) (hr : row.length ≤ BIG) : f_alike_many [.lst (il sh), .int p, .int s, .lst (il row), .int (b : Nat)] = .ok (.int (alikeL sh s p (row.drop b) : Nat)) := by
  have hh : BIG = 100000 := rfl
  refine runF_rt ?_
  unfold m_alike_many
  refine (sSeq_nx (z' := [.sh (.lst (il sh)), .sh (.int p), .sh (.int s), .sh (.lst (il row)), .sh (.int (b : Nat)), .sh (.int ((0 : Nat) : Int))]) rfl).trans ?_
  have h0 : (0 : Nat) + alikeL sh s (p + s * ((0 : Nat) : Int)) (row.drop (b + 0)) = alikeL sh s p (row.drop b) := by simp
  rcases al_while (sh := sh) (row := row) (p := p) (s := s) (b := b) hs 2000000 0 (by omega) with ⟨z', h, rfl⟩ | h
  · rw [h0] at h
    exact (sSeq_nx h).trans rfl
  · rw [h0] at h
    exact sSeq_rt h
/-! ### the best -/
def bmax (b c : List Int) : List Int := if gtI c b then c else b
def bestF (cs : List (List Int)) (l0 : List Int) : List Int := cs.foldl bmax l0
theorem bestF_mem : ∀ (cs : List (List Int)) (l0 : List Int), bestF cs l0 ∈ l0 :: cs
  | [], l0 => List.mem_cons_self
  | c :: cs, l0 => by
    show bestF cs (bmax l0 c) ∈ l0 :: c :: cs
    have := bestF_mem cs (bmax l0 c)
    rcases List.mem_cons.mp this with h | h
    · rw [h]
      unfold bmax
      split
      · exact List.mem_cons_of_mem _ List.mem_cons_self
      · exact List.mem_cons_self
    · exact List.mem_cons_of_mem _ (List.mem_cons_of_mem _ h)
theorem bmax_ge (b c : List Int) (hb : b ≠ []) (hc : c ≠ []) : b.headD 0 ≤ (bmax b c).headD 0 ∧ c.headD 0 ≤ (bmax b c).headD 0 ∧ bmax b c ≠ [] := by
  cases b with
  | nil => exact absurd rfl hb
  | cons x xs =>
    cases c with
    | nil => exact absurd rfl hc
    | cons y ys =>
      unfold bmax
      cases h : gtI (y :: ys) (x :: xs) with
      | true =>
        rw [if_pos rfl]
        unfold gtI at h
        refine ⟨?_, Int.le_refl _, hc⟩
        show x ≤ y
        split at h
        · omega
        · have := of_decide_eq_true h
          omega
      | false =>
        rw [if_neg Bool.false_ne_true]
        unfold gtI at h
        refine ⟨Int.le_refl _, ?_, hb⟩
        show y ≤ x
        split at h
        · omega
        · have := of_decide_eq_false h
          omega
theorem bestF_ge : ∀ (cs : List (List Int)) (l0 : List Int), l0 ≠ [] → (∀ c ∈ cs, c ≠ []) → l0.headD 0 ≤ (bestF cs l0).headD 0 ∧ ∀ c ∈ cs, c.headD 0 ≤ (bestF cs l0).headD 0
  | [], l0, _, _ => ⟨Int.le_refl _, fun c h => by cases h⟩
  | c :: cs, l0, h0, h => by
    obtain ⟨a1, a2, a3⟩ := bmax_ge l0 c h0 (h c List.mem_cons_self)
    obtain ⟨b1, b2⟩ := bestF_ge cs (bmax l0 c) a3 fun x hx => h x (List.mem_cons_of_mem _ hx)
    show l0.headD 0 ≤ (bestF cs (bmax l0 c)).headD 0 ∧ ∀ x ∈ c :: cs, x.headD 0 ≤ (bestF cs (bmax l0 c)).headD 0
    refine ⟨by omega, fun x hx => ?_⟩
    rcases List.mem_cons.mp hx with rfl | hx
    · omega
    · exact b2 x hx
theorem maxT_ok (b c : List Int) : maxT (.tup (il b)) (.tup (il c)) = some (.tup (il (bmax b c))) := by
  show ((asIs (il b)).bind fun ns => (asIs (il c)).bind fun ms => some (if gtI ms ns then D.tup (il c) else .tup (il b))) = _
  rw [asIs_map, asIs_map, Option.bind_some, Option.bind_some]
  unfold bmax
  cases gtI c b <;> rfl
/-! ### own -/
def ownC (row : List Int) (b : Nat) : List (List Int) := (List.range b).map fun p => [(alikeL row 1 (p : Nat) (row.drop b) : Int), (p : Nat)]
def ownB (row : List Int) (b : Nat) : List Int := bestF (ownC row b) [0, 0]
theorem ownB_shape (row : List Int) (b : Nat) : ∃ (n p : Nat), ownB row b = [(n : Int), (p : Int)] ∧ (∀ q, q < b → alikeL row 1 (q : Nat) (row.drop b) ≤ n) ∧ (0 < n → p < b ∧ n = alikeL row 1 (p : Nat) (row.drop b)) := by
  have hm := bestF_mem (ownC row b) [0, 0]
  obtain ⟨_, hg⟩ := bestF_ge (ownC row b) [0, 0] (by simp) (fun c hc => by
    obtain ⟨p, _, rfl⟩ := List.mem_map.mp hc
    simp)
  rcases List.mem_cons.mp hm with h | h
  · refine ⟨0, 0, h, fun q hq => ?_, fun h0 => absurd h0 (Nat.lt_irrefl _)⟩
    have := hg [(alikeL row 1 (q : Nat) (row.drop b) : Int), (q : Nat)] (List.mem_map.mpr ⟨q, List.mem_range.mpr hq, rfl⟩)
    rw [h] at this
    simp only [List.headD_cons] at this
    omega
  · obtain ⟨p, hp, e⟩ := List.mem_map.mp h
    rw [List.mem_range] at hp
    refine ⟨alikeL row 1 (p : Nat) (row.drop b), p, e.symm, fun q hq => ?_, fun _ => ⟨hp, rfl⟩⟩
    have := hg [(alikeL row 1 (q : Nat) (row.drop b) : Int), (q : Nat)] (List.mem_map.mpr ⟨q, List.mem_range.mpr hq, rfl⟩)
    rw [← e] at this
    simp only [List.headD_cons] at this
    omega
def ownS (row : List Int) (b : Nat) : D × Nat := match ownB row b with
  | [n, p] => if n = 0 then (.tup [.str "put", .int (row.getD b 0)], 1) else (.tup [.str "copy", .int p, .int n], n.toNat)
  | _ => (.non, 1)
theorem ownS_pos (row : List Int) (b : Nat) : 1 ≤ (ownS row b).2 := by
  obtain ⟨n, p, e, _, _⟩ := ownB_shape row b
  unfold ownS
  rw [e]
  dsimp only
  split
  · exact Nat.le_refl _
  · show 1 ≤ (n : Int).toNat
    omega
theorem ownS_le (row : List Int) (b : Nat) (h : b < row.length) : b + (ownS row b).2 ≤ row.length := by
  obtain ⟨n, p, e, _, h2⟩ := ownB_shape row b
  unfold ownS
  rw [e]
  dsimp only
  split
  · exact h
  · rename_i h0
    have := (h2 (by omega)).2
    have hl := alikeL_le row 1 (row.drop b) (p : Nat)
    rw [List.length_drop] at hl
    show b + (n : Int).toNat ≤ row.length
    omega
def ownG (row : List Int) : Nat → Nat → List D × List Int
  | 0, _ => ([], [])
  | n + 1, b => if b < row.length then ((ownS row b).1 :: (ownG row n (b + (ownS row b).2)).1, (b : Int) :: (ownG row n (b + (ownS row b).2)).2) else ([], [])
abbrev m_ow_f : MS := sSet 4 (mBin maxT (mVar 4) (mTup (aCons (mCall 5 f_alike_many (aCons (mVar 0) (aCons (mVar 5) (aCons (mC (.int 1)) (aCons (mVar 0) (aCons (mVar 3) aNil)))))) (aCons (mVar 5) aNil))))
theorem ow_for {row : List Int} {o1 o2 : Sd} {b : Nat} (hr : row.length ≤ BIG) : ∀ (ps : List Nat) (best : List Int) (x : Sd), ∃ x', forD (.nm 5) m_ow_f (ps.map fun p => D.int (p : Nat)) [.sh (.lst (il row)), o1, o2, .sh (.int (b : Nat)), .sh (.tup (il best)), x] =
    .ok (.nx [.sh (.lst (il row)), o1, o2, .sh (.int (b : Nat)), .sh (.tup (il (bestF (ps.map fun p => [(alikeL row 1 (p : Nat) (row.drop b) : Int), (p : Nat)]) best))), x'])
  | [], best, x => ⟨x, rfl⟩
  | p :: ps, best, x => by
    obtain ⟨x', ih⟩ := ow_for (o1 := o1) (o2 := o2) (b := b) hr ps (bmax best [(alikeL row 1 (p : Nat) (row.drop b) : Int), (p : Nat)]) (.sh (.int (p : Nat)))
    refine ⟨x', ?_⟩
    have e : m_ow_f [.sh (.lst (il row)), o1, o2, .sh (.int (b : Nat)), .sh (.tup (il best)), .sh (.int (p : Nat))] = .ok (.nx [.sh (.lst (il row)), o1, o2, .sh (.int (b : Nat)), .sh (.tup (il (bmax best [(alikeL row 1 (p : Nat) (row.drop b) : Int), (p : Nat)]))), .sh (.int (p : Nat))]) := by
      refine (sSet_ok (mBin_ok (x := .tup (il best)) (y := .tup (il [(alikeL row 1 (p : Nat) (row.drop b) : Int), (p : Nat)])) rfl (mTup_ok (aCons_ok (mCall_is (ds := [.lst (il row), .int (p : Nat), .int 1, .lst (il row), .int (b : Nat)]) rfl rfl (alike_eq row row (p : Nat) 1 b (.inl rfl) hr)) (aCons_ok rfl rfl)) (le_line (by show 2 ≤ 16777216; decide))) (maxT_ok _ _))).trans rfl
    rw [List.map_cons]
    refine (forD_nx rfl e).trans ?_
    exact ih
abbrev m_ow_b : MS := sSeq (sSet 4 (mTup (aCons (mC (.int 0)) (aCons (mC (.int 0)) aNil))))
  (sSeq (sFor (.nm 5) (mOf rng1 (aCons (mVar 3) aNil)) m_ow_f)
  (sSeq (sApp 2 (mVar 3))
  (sIf (bV (mBin eqB (mBin ixD (mVar 4) (mC (.int 0))) (mC (.int 0))))
  (sSeq (sApp 1 (mTup (aCons (mC (.str "put")) (aCons (mBin ixD (mVar 0) (mVar 3)) aNil))))
  (sAug 3 (intD fun i j => .int (i + j)) (mC (.int 1))))
  (sSeq (sApp 1 (mTup (aCons (mC (.str "copy")) (aCons (mBin ixD (mVar 4) (mC (.int 1))) (aCons (mBin ixD (mVar 4) (mC (.int 0))) aNil)))))
  (sAug 3 (intD fun i j => .int (i + j)) (mBin ixD (mVar 4) (mC (.int 0))))))))
theorem rgD0 (n : Nat) : rgD 0 n = (List.range n).map fun p => D.int (p : Nat) := by
  unfold rgD
  apply List.map_congr_left
  intro i _
  rw [Int.zero_add]
theorem ow_turn {row : List Int} {acc : List D} {mac : List Int} {b : Nat} {x y : Sd} (hr : row.length ≤ BIG) (hb : b < row.length) (h1 : acc.length ≤ BIG) (h2 : mac.length ≤ BIG) : ∃ x' y',
    m_ow_b [.sh (.lst (il row)), .ow acc, .ow (il mac), .sh (.int (b : Nat)), x, y] = .ok (.nx [.sh (.lst (il row)), .ow (acc ++ [(ownS row b).1]), .ow (il (mac ++ [(b : Int)])), .sh (.int ((b + (ownS row b).2 : Nat) : Int)), x', y']) := by
  have hbl := big_line
  have hh : BIG = 100000 := rfl
  obtain ⟨n, p, e, _, _⟩ := ownB_shape row b
  obtain ⟨y', ef⟩ := ow_for (row := row) (o1 := .ow acc) (o2 := .ow (il mac)) (b := b) hr (List.range b) [0, 0] y
  have ef' : sFor (.nm 5) (mOf rng1 (aCons (mVar 3) aNil)) m_ow_f [.sh (.lst (il row)), .ow acc, .ow (il mac), .sh (.int (b : Nat)), .sh (.tup (il [0, 0])), y] = .ok (.nx [.sh (.lst (il row)), .ow acc, .ow (il mac), .sh (.int (b : Nat)), .sh (.tup (il [(n : Int), (p : Int)])), y']) := by
    refine (sFor_ok (ds := (List.range b).map fun p => D.int (p : Nat)) ?_).trans (ef.trans ?_)
    · rw [← rgD0]
      have := rng1_ok (j := (b : Nat)) (by omega) (by omega)
      rw [Int.toNat_natCast] at this
      exact mOf_ok (xs := [.int (b : Nat)]) rfl this
    · rw [← e]
      rfl
  have ea : sApp 2 (mVar 3) [.sh (.lst (il row)), .ow acc, .ow (il mac), .sh (.int (b : Nat)), .sh (.tup (il [(n : Int), (p : Int)])), y'] = .ok (.nx [.sh (.lst (il row)), .ow acc, .ow (il (mac ++ [(b : Int)])), .sh (.int (b : Nat)), .sh (.tup (il [(n : Int), (p : Int)])), y']) := by
    refine (sApp_ok (ds := il mac) (d := .int (b : Nat)) rfl rfl (by rw [List.length_map]; omega)).trans ?_
    unfold il
    rw [List.map_append]
    rfl
  have ec : bV (mBin eqB (mBin ixD (mVar 4) (mC (.int 0))) (mC (.int 0))) [.sh (.lst (il row)), .ow acc, .ow (il (mac ++ [(b : Int)])), .sh (.int (b : Nat)), .sh (.tup (il [(n : Int), (p : Int)])), y'] = .ok (decide ((n : Int) = 0)) :=
    bV_b (mBin_ok (x := .int (n : Int)) (y := .int 0) rfl rfl (eqB_int _ _))
  by_cases h0 : (n : Int) = 0
  · rw [decide_eq_true h0] at ec
    have es : ownS row b = (.tup [.str "put", .int (row.getD b 0)], 1) := by
      unfold ownS
      rw [e]
      exact if_pos h0
    rw [es]
    refine ⟨.sh (.tup (il [(n : Int), (p : Int)])), y', (sSeq_nx rfl).trans ((sSeq_nx ef').trans ((sSeq_nx ea).trans ((sIf_t ec).trans ?_)))⟩
    have ix := ix_il (ms := row) (i := (b : Nat)) (by omega) (by omega)
    rw [Int.toNat_natCast] at ix
    refine (sSeq_nx (sApp_ok (ds := acc) (d := .tup [.str "put", .int (row.getD b 0)]) rfl (mTup_ok (aCons_ok rfl (aCons_ok (mBin_ok (x := .lst (il row)) (y := .int (b : Nat)) rfl rfl ix) rfl)) (le_line (by show 2 ≤ 16777216; decide))) (by omega))).trans rfl
  · rw [decide_eq_false h0] at ec
    have es : ownS row b = (.tup [.str "copy", .int (p : Int), .int (n : Int)], n) := by
      unfold ownS
      rw [e]
      exact (if_neg h0).trans (by rw [Int.toNat_natCast])
    rw [es]
    refine ⟨.sh (.tup (il [(n : Int), (p : Int)])), y', (sSeq_nx rfl).trans ((sSeq_nx ef').trans ((sSeq_nx ea).trans ((sIf_f ec).trans ?_)))⟩
    refine (sSeq_nx (sApp_ok (ds := acc) (d := .tup [.str "copy", .int (p : Int), .int (n : Int)]) rfl (mTup_ok (aCons_ok rfl (aCons_ok rfl (aCons_ok rfl rfl))) (le_line (by show 3 ≤ 16777216; decide))) (by omega))).trans rfl
theorem ow_while {row : List Int} (hr : row.length ≤ BIG) : ∀ (n f b : Nat) (acc : List D) (mac : List Int) (x y : Sd), row.length - b < n → n ≤ f → acc.length ≤ b → mac.length ≤ b → b ≤ row.length → ∃ b' x' y',
    whileD (bV (mBin ltD (mVar 3) (mUn lenD (mVar 0)))) m_ow_b f [.sh (.lst (il row)), .ow acc, .ow (il mac), .sh (.int (b : Nat)), x, y] =
      .ok (.nx [.sh (.lst (il row)), .ow (acc ++ (ownG row n b).1), .ow (il (mac ++ (ownG row n b).2)), .sh (.int b'), x', y'])
  | 0, f, b, acc, mac, x, y, h, _, _, _, _ => by omega
  | n + 1, 0, b, acc, mac, x, y, h, hf, _, _, _ => by omega
  | n + 1, f + 1, b, acc, mac, x, y, h, hf, ha, hm, hbr => by
    have et : bV (mBin ltD (mVar 3) (mUn lenD (mVar 0))) [.sh (.lst (il row)), .ow acc, .ow (il mac), .sh (.int (b : Nat)), x, y] = .ok (decide ((b : Int) < (row.length : Int))) :=
      bV_b (mBin_ok (x := .int (b : Nat)) (y := .int (row.length : Nat)) rfl (len_il rfl) rfl)
    by_cases hb : b < row.length
    · rw [decide_eq_true (by omega)] at et
      obtain ⟨x1, y1, e1⟩ := ow_turn (acc := acc) (mac := mac) (x := x) (y := y) hr hb (by omega) (by omega)
      have hp := ownS_pos row b
      have hq := ownS_le row b hb
      obtain ⟨b', x', y', ih⟩ := ow_while hr n f (b + (ownS row b).2) (acc ++ [(ownS row b).1]) (mac ++ [(b : Int)]) x1 y1 (by omega) (by omega) (by rw [List.length_append, List.length_singleton]; omega) (by rw [List.length_append, List.length_singleton]; omega) hq
      refine ⟨b', x', y', (while_t et e1).trans (ih.trans ?_)⟩
      have eg : ownG row (n + 1) b = ((ownS row b).1 :: (ownG row n (b + (ownS row b).2)).1, (b : Int) :: (ownG row n (b + (ownS row b).2)).2) := if_pos hb
      rw [eg, List.append_assoc, List.append_assoc]
      rfl
    · rw [decide_eq_false (by omega)] at et
      have eg : ownG row (n + 1) b = ([], []) := if_neg hb
      rw [eg, List.append_nil, List.append_nil]
      exact ⟨_, _, _, while_f et⟩
def ownD (row : List Int) : List D := (ownG row (row.length + 1) 0).1
def ownM (row : List Int) : List Int := (ownG row (row.length + 1) 0).2
theorem runXR_ro {n : Nat} {m : MS} {ds : List D} {k : Option Nat} {fs : List (List D)} (h : m (st0 n ds) = .ok (.ro k fs)) : runXR n m ds = .ok (.obj k fs) := by unfold runXR; rw [h]; rfl
theorem own_eq (row : List Int) (hr : row.length ≤ BIG) : f_own [.lst (il row)] = .ok (.obj (some 3) [ownD row, il (ownM row)]) := by
  have hbl := big_line
  have hh : BIG = 100000 := rfl
  refine runXR_ro ?_
  unfold m_own
  obtain ⟨b', x', y', ew⟩ := ow_while hr (row.length + 1) 2000000 0 [] [] .no .no (by omega) (by omega) (Nat.le_refl _) (Nat.le_refl _) (Nat.zero_le _)
  rw [List.nil_append, List.nil_append] at ew
  refine (sSeq_nx (z' := st0 6 [.lst (il row)]) (sExpr_ok (mCall_is (ds := [.lst (il row)]) rfl rfl (check_row_ints (by omega))))).trans ?_
  refine (sSeq_nx (z' := [.sh (.lst (il row)), .ow [], .no, .no, .no, .no]) rfl).trans ?_
  refine (sSeq_nx (z' := [.sh (.lst (il row)), .ow [], .ow (il []), .no, .no, .no]) rfl).trans ?_
  refine (sSeq_nx (z' := [.sh (.lst (il row)), .ow [], .ow (il []), .sh (.int ((0 : Nat) : Int)), .no, .no]) rfl).trans ?_
  exact (sSeq_nx ew).trans rfl
end CL


set_option Elab.async false
set_option linter.all false
set_option maxRecDepth 100000
/-! The deeds that own tells are good, and its marks show it. -/
namespace CL
open PySem PySem.Spec L2
theorem alikeL_at (sh : List Int) (s : Int) : ∀ (rs : List Int) (p : Int) (i : Nat), i < alikeL sh s p rs → 0 ≤ p + s * i ∧ p + s * i < sh.length ∧ sh.getD (p + s * i).toNat 0 = rs.getD i 0
  | [], _, i, h => by simp [alikeL] at h
  | r :: rs, p, i, h => by
    unfold alikeL at h
    split at h
    · rename_i hc
      cases i with
      | zero =>
        have e : p + s * ((0 : Nat) : Int) = p := by simp
        rw [e]
        exact ⟨hc.1, hc.2.1, hc.2.2⟩
      | succ i =>
        have := alikeL_at sh s rs (p + s) i (by omega)
        have e : p + s + s * (i : Int) = p + s * ((i + 1 : Nat) : Int) := by
          rw [Int.natCast_add, Int.mul_add, Int.add_assoc, Int.add_comm s]
          simp
        rw [e] at this
        exact this
    · omega
theorem alikeL_ge (sh : List Int) (s : Int) : ∀ (k : Nat) (rs : List Int) (p : Int), k ≤ rs.length → (∀ i : Nat, i < k → 0 ≤ p + s * i ∧ p + s * i < sh.length ∧ sh.getD (p + s * i).toNat 0 = rs.getD i 0) → k ≤ alikeL sh s p rs
  | 0, _, _, _, _ => Nat.zero_le _
  | k + 1, [], _, h, _ => by simp at h
  | k + 1, r :: rs, p, h, hc => by
    have h0 := hc 0 (Nat.succ_pos _)
    have e0 : p + s * ((0 : Nat) : Int) = p := by simp
    rw [e0] at h0
    unfold alikeL
    rw [if_pos ⟨h0.1, h0.2.1, h0.2.2⟩]
    have := alikeL_ge sh s k rs (p + s) (by simpa using h) (fun i hi => by
      have := hc (i + 1) (Nat.succ_lt_succ hi)
      have e : p + s + s * (i : Int) = p + s * ((i + 1 : Nat) : Int) := by
        rw [Int.natCast_add, Int.mul_add, Int.add_assoc, Int.add_comm s]
        simp
      rw [e]
      exact this)
    omega
theorem getD_drop (row : List Int) (b i : Nat) : (row.drop b).getD i 0 = row.getD (b + i) 0 := by
  rw [List.getD_eq_getElem?_getD, List.getD_eq_getElem?_getD, List.getElem?_drop]
theorem getD_seg (row : List Int) (i n j : Nat) (h : j < n) : (segL row i n).getD j 0 = row.getD (i + j) 0 := by
  unfold segL
  rw [List.getD_eq_getElem?_getD, List.getD_eq_getElem?_getD, List.getElem?_take, if_pos h, List.getElem?_drop]
theorem take_succ (row : List Int) (b : Nat) (h : b < row.length) : row.take (b + 1) = row.take b ++ [row.getD b 0] := by
  rw [List.take_add_one, List.getElem?_eq_getElem h, List.getD_eq_getElem?_getD, List.getElem?_eq_getElem h]
  rfl
theorem copyN_row (row : List Int) (b p n : Nat) (hp : p < b) (hb : b + n ≤ row.length) (h : ∀ i, i < n → row.getD (p + i) 0 = row.getD (b + i) 0) : ∀ k, k ≤ n → copyN (il (row.take b)) (p : Int) k = il (row.take (b + k))
  | 0, _ => rfl
  | k + 1, hk => by
    show copyN (il (row.take b)) (p : Int) k ++ [(copyN (il (row.take b)) (p : Int) k).getD ((p : Int) + (k : Int)).toNat .non] = _
    rw [copyN_row row b p n hp hb h k (by omega)]
    have e1 : ((p : Int) + (k : Int)).toNat = p + k := by omega
    rw [e1, getD_il _ _ (by rw [List.length_take]; omega)]
    have e2 : (row.take (b + k)).getD (p + k) 0 = row.getD (p + k) 0 := by
      rw [List.getD_eq_getElem?_getD, List.getD_eq_getElem?_getD, List.getElem?_take, if_pos (by omega)]
    rw [e2, h k (by omega), show b + (k + 1) = (b + k) + 1 from rfl, take_succ row (b + k) (by omega), il, il, List.map_append]
    rfl
/-- one deed of own -/
theorem ownS_grow (row : List Int) (b : Nat) (hb : b < row.length) : isDeed b (ownS row b).1 = true ∧ grow1 (il (row.take b)) (ownS row b).1 = il (row.take (b + (ownS row b).2)) ∧ cost (ownS row b).1 = (ownS row b).2 := by
  obtain ⟨n, p, e, h1, h2⟩ := ownB_shape row b
  have hle := ownS_le row b hb
  unfold ownS at hle ⊢
  rw [e] at hle ⊢
  dsimp only at hle ⊢
  by_cases h0 : (n : Int) = 0
  · rw [if_pos h0]
    refine ⟨rfl, ?_, rfl⟩
    show il (row.take b) ++ [D.int (row.getD b 0)] = _
    rw [take_succ row b hb, il, il, List.map_append]
    rfl
  · rw [if_neg h0] at hle ⊢
    obtain ⟨g1, g2⟩ := h2 (by omega)
    have en : (n : Int).toNat = n := by omega
    have hle' : b + n ≤ row.length := by simpa using hle
    refine ⟨?_, ?_, rfl⟩
    · show (true && (decide ((0 : Int) ≤ (p : Int) ∧ (p : Int) < (b : Int)) && decide ((0 : Int) < (n : Int)))) = true
      rw [decide_eq_true (p := (0 : Int) ≤ (p : Int) ∧ (p : Int) < (b : Int)) (by omega), decide_eq_true (p := (0 : Int) < (n : Int)) (by omega)]
      rfl
    · show copyN (il (row.take b)) (p : Int) (n : Int).toNat = il (row.take (b + (n : Int).toNat))
      rw [en]
      refine copyN_row row b p n g1 hle' (fun i hi => ?_) n (Nat.le_refl _)
      have := alikeL_at row 1 (row.drop b) (p : Nat) i (by omega)
      rw [getD_drop] at this
      have et : ((p : Int) + 1 * (i : Int)).toNat = p + i := by omega
      rw [et] at this
      exact this.2.2
/-- no earlier stretch is like one sign more -/
theorem ownS_most (row : List Int) (b : Nat) (hb : b + (ownS row b).2 < row.length) : okPairL row ((b : Int), ((b + (ownS row b).2 : Nat) : Int)) = true := by
  obtain ⟨n, p, e, h1, h2⟩ := ownB_shape row b
  have hp := ownS_pos row b
  have hn : n ≤ (ownS row b).2 := by
    unfold ownS
    rw [e]
    dsimp only
    split
    · omega
    · show n ≤ (n : Int).toNat
      omega
  unfold okPairL
  rw [Bool.not_eq_true', List.any_eq_false]
  intro i hi
  rw [List.mem_range] at hi
  have hi' : i < b := by simpa using hi
  rw [decide_eq_true_eq]
  intro hseg
  have hL : (segM row (b : Int) ((b + (ownS row b).2 : Nat) : Int)).length = (ownS row b).2 + 1 := by
    rw [seg_len row _ _ (by omega) (by omega) (by omega)]
    omega
  rw [hL] at hseg
  have hs : segM row (b : Int) ((b + (ownS row b).2 : Nat) : Int) = segL row b ((ownS row b).2 + 1) := by
    unfold segM
    congr 1
    omega
  rw [hs] at hseg
  have hge := alikeL_ge row 1 ((ownS row b).2 + 1) (row.drop b) (i : Nat) (by rw [List.length_drop]; omega) (fun j hj => by
    have ej : (segL row i ((ownS row b).2 + 1)).getD j 0 = (segL row b ((ownS row b).2 + 1)).getD j 0 := by rw [hseg]
    rw [getD_seg _ _ _ _ hj, getD_seg _ _ _ _ hj] at ej
    have et : ((i : Nat) : Int) + 1 * (j : Int) = ((i + j : Nat) : Int) := by omega
    rw [et, Int.toNat_natCast, getD_drop]
    exact ⟨by omega, by omega, ej⟩)
  have := h1 i hi'
  omega
theorem growO_step {acc ds : List D} {d : D} (h : isDeed acc.length d = true) : growO acc (d :: ds) = growO (grow1 acc d) ds := if_pos h
theorem ownG_good (row : List Int) : ∀ (n b : Nat), row.length - b < n → b ≤ row.length →
    growO (il (row.take b)) (ownG row n b).1 = some (il row) ∧ (ownG row n b).1.length = (ownG row n b).2.length ∧ (ownG row n b).2.length ≤ row.length - b ∧ ((ownG row n b).1.map cost).sum = row.length - b ∧
    (∀ l : Int, l < b → risingP row.length l (ownG row n b).2 = true) ∧ (pairsP (ownG row n b).2).all (okPairL row) = true
  | 0, b, h, _ => by omega
  | n + 1, b, h, hbr => by
    by_cases hb : b < row.length
    · have hp := ownS_pos row b
      have hq := ownS_le row b hb
      obtain ⟨i1, i2, i3, i4, i5, i6⟩ := ownG_good row n (b + (ownS row b).2) (by omega) hq
      obtain ⟨g1, g2, g3⟩ := ownS_grow row b hb
      have eg : ownG row (n + 1) b = ((ownS row b).1 :: (ownG row n (b + (ownS row b).2)).1, (b : Int) :: (ownG row n (b + (ownS row b).2)).2) := if_pos hb
      rw [eg]
      refine ⟨?_, ?_, ?_, ?_, ?_, ?_⟩
      · dsimp only
        rw [growO_step (by rw [List.length_map, List.length_take, Nat.min_eq_left hbr]; exact g1), g2]
        exact i1
      · dsimp only
        rw [List.length_cons, List.length_cons, i2]
      · dsimp only
        rw [List.length_cons]
        omega
      · dsimp only
        rw [List.map_cons, List.sum_cons, i4, g3]
        omega
      · intro l hl
        show (decide (l < (b : Int) ∧ (b : Int) < row.length) && risingP row.length (b : Int) (ownG row n (b + (ownS row b).2)).2) = true
        rw [decide_eq_true ⟨hl, by omega⟩, Bool.true_and]
        exact i5 _ (by omega)
      · dsimp only
        cases n with
        | zero => rfl
        | succ n =>
          by_cases hb2 : b + (ownS row b).2 < row.length
          · have eg2 : ownG row (n + 1) (b + (ownS row b).2) = ((ownS row (b + (ownS row b).2)).1 :: (ownG row n (b + (ownS row b).2 + (ownS row (b + (ownS row b).2)).2)).1, ((b + (ownS row b).2 : Nat) : Int) :: (ownG row n (b + (ownS row b).2 + (ownS row (b + (ownS row b).2)).2)).2) := if_pos hb2
            rw [eg2] at i6 ⊢
            show (okPairL row ((b : Int), ((b + (ownS row b).2 : Nat) : Int)) && (pairsP _).all (okPairL row)) = true
            rw [ownS_most row b hb2, Bool.true_and]
            exact i6
          · have eg2 : ownG row (n + 1) (b + (ownS row b).2) = ([], []) := if_neg hb2
            rw [eg2]
            rfl
    · have eg : ownG row (n + 1) b = ([], []) := if_neg hb
      rw [eg]
      have hx : b = row.length := by omega
      subst hx
      refine ⟨?_, rfl, Nat.zero_le _, ?_, fun l _ => rfl, rfl⟩
      · rw [List.take_length]
        rfl
      · simp
theorem own_grow (row : List Int) : growO [] (ownD row) = some (il row) := by
  have := (ownG_good row (row.length + 1) 0 (by omega) (Nat.zero_le _)).1
  rw [List.take_zero] at this
  exact this
theorem own_lens (row : List Int) : (ownD row).length = (ownM row).length ∧ (ownM row).length ≤ row.length ∧ ((ownD row).map cost).sum = row.length := by
  obtain ⟨_, h1, h2, h3, _⟩ := ownG_good row (row.length + 1) 0 (by omega) (Nat.zero_le _)
  exact ⟨h1, h2, h3⟩
theorem own_shows (row : List Int) : showsGP (ownD row) (ownM row) row = true := by
  obtain ⟨h0, h1, h2, h3, h4, h5⟩ := ownG_good row (row.length + 1) 0 (by omega) (Nat.zero_le _)
  have hr : risingP row.length (-1) (ownM row) = true := h4 (-1) (by omega)
  unfold showsGP
  rw [decide_eq_true (show (ownD row).length = (ownM row).length from h1), hr, pairs_all row (ownM row) hr, show (pairsP (ownM row)).all (okPairL row) = true from h5]
  have hg : growI (ownD row) = some row := by
    unfold growI
    rw [own_grow row, Option.bind_some, asIs_map]
  rw [decide_eq_true hg]
  rfl
end CL


set_option Elab.async false
set_option linter.all false
set_option maxRecDepth 100000
/-! making, forth, either. -/
namespace CL
open PySem PySem.Spec L2
theorem sSetR_ok {i : Nat} {m : MR} {z : List Sd} {x : Rv} (h : m z = .ok x) : sSetR i m z = .ok (.nx (z.set i (rvS x))) := by unfold sSetR; rw [h]; rfl
theorem mSeq_ok {m : M} {z : List Sd} {d : D} {xs : List D} (h : m z = .ok d) (h2 : asSeq d = some xs) : mSeq m z = .ok xs := by unfold mSeq; rw [h, bnd_ok, h2]; rfl
theorem isNot_bl {a b : M} {z : List Sd} {x y : Bool} (h1 : a z = .ok (.bl x)) (h2 : b z = .ok (.bl y)) : bV (mBin (isD true) a b) z = .ok (!decide (x = y)) := bV_b (mBin_ok h1 h2 rfl)
def mkC1 (sh rest steps : List Int) (p : Nat) : List (List Int) := steps.map fun s => [(alikeL sh s (p : Nat) rest : Int), (p : Nat), s]
def mkC (sh rest steps : List Int) : List (List Int) := (List.range sh.length).flatMap (mkC1 sh rest steps)
def mkB (sh row steps : List Int) (b : Nat) : List Int := bestF (mkC sh (row.drop b) steps) [0, 0, 1]
theorem bestF_append (a b : List (List Int)) (l : List Int) : bestF (a ++ b) l = bestF b (bestF a l) := by unfold bestF; rw [List.foldl_append]
theorem mem_mkC {sh rest steps : List Int} {c : List Int} : c ∈ mkC sh rest steps ↔ ∃ p, p < sh.length ∧ ∃ s ∈ steps, c = [(alikeL sh s (p : Nat) rest : Int), (p : Nat), s] := by
  unfold mkC mkC1
  rw [List.mem_flatMap]
  constructor
  · rintro ⟨p, hp, h⟩
    obtain ⟨s, hs, rfl⟩ := List.mem_map.mp h
    exact ⟨p, List.mem_range.mp hp, s, hs, rfl⟩
  · rintro ⟨p, hp, s, hs, rfl⟩
    exact ⟨p, List.mem_range.mpr hp, List.mem_map.mpr ⟨s, hs, rfl⟩⟩
theorem mkB_shape (sh row steps : List Int) (b : Nat) : ∃ (n p : Nat) (s : Int), mkB sh row steps b = [(n : Int), (p : Int), s] ∧ (∀ q, q < sh.length → ∀ t ∈ steps, alikeL sh t (q : Nat) (row.drop b) ≤ n) ∧ (0 < n → p < sh.length ∧ s ∈ steps ∧ n = alikeL sh s (p : Nat) (row.drop b)) := by
  have hm := bestF_mem (mkC sh (row.drop b) steps) [0, 0, 1]
  obtain ⟨_, hg⟩ := bestF_ge (mkC sh (row.drop b) steps) [0, 0, 1] (by simp) (fun c hc => by
    obtain ⟨p, _, s, _, rfl⟩ := mem_mkC.mp hc
    simp)
  rcases List.mem_cons.mp hm with h | h
  · refine ⟨0, 0, 1, h, fun q hq t ht => ?_, fun h0 => absurd h0 (Nat.lt_irrefl _)⟩
    have := hg [(alikeL sh t (q : Nat) (row.drop b) : Int), (q : Nat), t] (mem_mkC.mpr ⟨q, hq, t, ht, rfl⟩)
    rw [h] at this
    simp only [List.headD_cons] at this
    omega
  · obtain ⟨p, hp, s, hs, e⟩ := mem_mkC.mp h
    refine ⟨alikeL sh s (p : Nat) (row.drop b), p, s, e, fun q hq t ht => ?_, fun _ => ⟨hp, hs, rfl⟩⟩
    have := hg [(alikeL sh t (q : Nat) (row.drop b) : Int), (q : Nat), t] (mem_mkC.mpr ⟨q, hq, t, ht, rfl⟩)
    rw [e] at this
    simp only [List.headD_cons] at this
    omega
def mkG (sh row steps : List Int) : Nat → Nat → Sum Nat (List D × List Int)
  | 0, b => .inl b
  | n + 1, b => if b < row.length then (match mkB sh row steps b with
    | [m, p, s] => if m = 0 then .inl b else (match mkG sh row steps n (b + m.toNat) with
      | .inl q => .inl q
      | .inr (cs, ms) => .inr (.tup [.int p, .int m, .int s] :: cs, (b : Int) :: ms))
    | _ => .inl b) else .inr ([], [])
abbrev m_mk1 : MS := sSet 6 (mBin maxT (mVar 6) (mTup (aCons (mCall 5 f_alike_many (aCons (mVar 0) (aCons (mVar 7) (aCons (mVar 8) (aCons (mVar 1) (aCons (mVar 5) aNil)))))) (aCons (mVar 7) (aCons (mVar 8) aNil)))))
abbrev zM (sh row steps : List Int) (o1 o2 : Sd) (b : Nat) (best : Sd) (x y : Sd) : List Sd := [.sh (.lst (il sh)), .sh (.lst (il row)), .sh (.tup (il steps)), o1, o2, .sh (.int (b : Nat)), best, x, y]
section
variable {sh row steps : List Int} {o1 o2 : Sd} {b : Nat} (hr : row.length ≤ BIG)
include hr
theorem mk_for1 {p : Nat} : ∀ (ss : List Int) (best : List Int) (y : Sd), (∀ s ∈ ss, s = 1 ∨ s = -1) → ∃ y', forD (.nm 8) m_mk1 (il ss) (zM sh row steps o1 o2 b (.sh (.tup (il best))) (.sh (.int (p : Nat))) y) = .ok (.nx (zM sh row steps o1 o2 b (.sh (.tup (il (bestF (mkC1 sh (row.drop b) ss p) best)))) (.sh (.int (p : Nat))) y'))
  | [], best, y, _ => ⟨y, rfl⟩
  | s :: ss, best, y, hs => by
    obtain ⟨y', ih⟩ := mk_for1 (p := p) ss (bmax best [(alikeL sh s (p : Nat) (row.drop b) : Int), (p : Nat), s]) (.sh (.int s)) fun t ht => hs t (List.mem_cons_of_mem _ ht)
    refine ⟨y', (forD_nx rfl ?_).trans ih⟩
    exact (sSet_ok (mBin_ok (x := .tup (il best)) (y := .tup (il [(alikeL sh s (p : Nat) (row.drop b) : Int), (p : Nat), s])) rfl (mTup_ok (aCons_ok (mCall_is (ds := [.lst (il sh), .int (p : Nat), .int s, .lst (il row), .int (b : Nat)]) rfl rfl (alike_eq sh row (p : Nat) s b (hs s List.mem_cons_self) hr)) (aCons_ok rfl (aCons_ok rfl rfl))) (le_line (by show 3 ≤ 16777216; decide))) (maxT_ok _ _))).trans rfl
theorem mk_for2 (hs : ∀ s ∈ steps, s = 1 ∨ s = -1) : ∀ (ps : List Nat) (best : List Int) (x y : Sd), ∃ x' y', forD (.nm 7) (sFor (.nm 8) (mSeq (mVar 2)) m_mk1) (ps.map fun p => D.int (p : Nat)) (zM sh row steps o1 o2 b (.sh (.tup (il best))) x y) = .ok (.nx (zM sh row steps o1 o2 b (.sh (.tup (il (bestF (ps.flatMap (mkC1 sh (row.drop b) steps)) best)))) x' y'))
  | [], best, x, y => ⟨x, y, rfl⟩
  | p :: ps, best, x, y => by
    obtain ⟨y1, e1⟩ := mk_for1 (sh := sh) (steps := steps) (o1 := o1) (o2 := o2) (b := b) hr (p := p) steps best y hs
    obtain ⟨x', y', ih⟩ := mk_for2 hs ps (bestF (mkC1 sh (row.drop b) steps p) best) (.sh (.int (p : Nat))) y1
    refine ⟨x', y', (forD_nx rfl ((sFor_ok (ds := il steps) rfl).trans e1)).trans (ih.trans ?_)⟩
    rw [List.flatMap_cons, bestF_append]
end
abbrev m_mk_b : MS := sSeq (sSet 6 (mTup (aCons (mC (.int 0)) (aCons (mC (.int 0)) (aCons (mC (.int 1)) aNil)))))
  (sSeq (sFor (.nm 7) (mOf rng1 (aCons (mUn lenD (mVar 0)) aNil)) (sFor (.nm 8) (mSeq (mVar 2)) m_mk1))
  (sSeq (sIf (bV (mBin eqB (mBin ixD (mVar 6) (mC (.int 0))) (mC (.int 0)))) (sRet (mTup (aCons (mC .non) (aCons (mVar 5) aNil)))) sNil)
  (sSeq (sApp 3 (mTup (aCons (mBin ixD (mVar 6) (mC (.int 1))) (aCons (mBin ixD (mVar 6) (mC (.int 0))) (aCons (mBin ixD (mVar 6) (mC (.int 2))) aNil)))))
  (sSeq (sApp 4 (mVar 5))
  (sAug 5 (intD fun i j => .int (i + j)) (mBin ixD (mVar 6) (mC (.int 0))))))))
theorem mk_turn {sh row steps : List Int} {acc : List D} {mac : List Int} {b : Nat} {x y w : Sd} (hr : row.length ≤ BIG) (hsh : sh.length ≤ BIG) (hs : ∀ s ∈ steps, s = 1 ∨ s = -1) (h1 : acc.length ≤ BIG) (h2 : mac.length ≤ BIG) {n p : Nat} {s : Int} (e : mkB sh row steps b = [(n : Int), (p : Int), s]) :
    (n = 0 → m_mk_b (zM sh row steps (.ow acc) (.ow (il mac)) b w x y) = .ok (.rt (.tup [.non, .int (b : Nat)]))) ∧
    (n ≠ 0 → ∃ w' x' y', m_mk_b (zM sh row steps (.ow acc) (.ow (il mac)) b w x y) = .ok (.nx (zM sh row steps (.ow (acc ++ [.tup [.int (p : Int), .int (n : Int), .int s]])) (.ow (il (mac ++ [(b : Int)]))) (b + n) w' x' y'))) := by
  have hbl := big_line
  have hh : BIG = 100000 := rfl
  obtain ⟨x', y', ef⟩ := mk_for2 (sh := sh) (row := row) (steps := steps) (o1 := .ow acc) (o2 := .ow (il mac)) (b := b) hr hs (List.range sh.length) [0, 0, 1] x y
  have ef' : sFor (.nm 7) (mOf rng1 (aCons (mUn lenD (mVar 0)) aNil)) (sFor (.nm 8) (mSeq (mVar 2)) m_mk1) (zM sh row steps (.ow acc) (.ow (il mac)) b (.sh (.tup (il [0, 0, 1]))) x y) = .ok (.nx (zM sh row steps (.ow acc) (.ow (il mac)) b (.sh (.tup (il [(n : Int), (p : Int), s]))) x' y')) := by
    refine (sFor_ok (ds := (List.range sh.length).map fun p => D.int (p : Nat)) ?_).trans (ef.trans ?_)
    · rw [← rgD0]
      have := rng1_ok (j := (sh.length : Nat)) (by omega) (by omega)
      rw [Int.toNat_natCast] at this
      exact mOf_ok (xs := [.int (sh.length : Nat)]) (aCons_ok (len_il rfl) rfl) this
    · rw [← e]
      rfl
  have ec : bV (mBin eqB (mBin ixD (mVar 6) (mC (.int 0))) (mC (.int 0))) (zM sh row steps (.ow acc) (.ow (il mac)) b (.sh (.tup (il [(n : Int), (p : Int), s]))) x' y') = .ok (decide ((n : Int) = 0)) :=
    bV_b (mBin_ok (x := .int (n : Int)) (y := .int 0) rfl rfl (eqB_int _ _))
  constructor
  · intro h0
    rw [decide_eq_true (by omega)] at ec
    refine (sSeq_nx (z' := zM sh row steps (.ow acc) (.ow (il mac)) b (.sh (.tup (il [0, 0, 1]))) x y) rfl).trans ((sSeq_nx ef').trans (sSeq_rt ((sIf_t ec).trans ?_)))
    exact sRet_ok (mTup_ok (aCons_ok rfl (aCons_ok rfl rfl)) (le_line (by show 2 ≤ 16777216; decide)))
  · intro h0
    rw [decide_eq_false (by omega)] at ec
    refine ⟨.sh (.tup (il [(n : Int), (p : Int), s])), x', y', (sSeq_nx (z' := zM sh row steps (.ow acc) (.ow (il mac)) b (.sh (.tup (il [0, 0, 1]))) x y) rfl).trans ((sSeq_nx ef').trans ((sSeq_nx ((sIf_f ec).trans rfl)).trans ?_))⟩
    refine (sSeq_nx (sApp_ok (ds := acc) (d := .tup [.int (p : Int), .int (n : Int), .int s]) rfl (mTup_ok (aCons_ok rfl (aCons_ok rfl (aCons_ok rfl rfl))) (le_line (by show 3 ≤ 16777216; decide))) (by omega))).trans ?_
    refine (sSeq_nx (z' := zM sh row steps (.ow (acc ++ [.tup [.int (p : Int), .int (n : Int), .int s]])) (.ow (il (mac ++ [(b : Int)]))) b (.sh (.tup (il [(n : Int), (p : Int), s]))) x' y') ((sApp_ok (ds := il mac) (d := .int (b : Nat)) rfl rfl (by rw [List.length_map]; omega)).trans ?_)).trans rfl
    unfold il
    rw [List.map_append]
    rfl
theorem mkB_le {sh row steps : List Int} {b n p : Nat} {s : Int} (e : mkB sh row steps b = [(n : Int), (p : Int), s]) (hb : b < row.length) : b + n ≤ row.length := by
  obtain ⟨n', p', s', e', _, h2⟩ := mkB_shape sh row steps b
  rw [e] at e'
  obtain ⟨en, ep, es⟩ : (n : Int) = n' ∧ (p : Int) = p' ∧ s = s' := by
    injection e' with a1 a2
    injection a2 with a2 a3
    injection a3 with a3 _
    exact ⟨a1, a2, a3⟩
  have : n = n' := by omega
  subst this
  by_cases h0 : 0 < n
  · have h3 := (h2 h0).2.2
    have hl := alikeL_le sh s' (row.drop b) (p' : Nat)
    rw [List.length_drop] at hl
    omega
  · omega
theorem mkG_step {sh row steps : List Int} {k b n p : Nat} {s : Int} (e : mkB sh row steps b = [(n : Int), (p : Int), s]) (hb : b < row.length) : mkG sh row steps (k + 1) b = if n = 0 then .inl b else (match mkG sh row steps k (b + n) with
      | .inl q => .inl q
      | .inr (cs, ms) => .inr (.tup [.int (p : Int), .int (n : Int), .int s] :: cs, (b : Int) :: ms)) := by
  show (if b < row.length then (match mkB sh row steps b with
    | [m, p, s] => if m = 0 then Sum.inl b else (match mkG sh row steps k (b + m.toNat) with
      | .inl q => .inl q
      | .inr (cs, ms) => .inr (D.tup [.int p, .int m, .int s] :: cs, (b : Int) :: ms))
    | _ => .inl b) else .inr ([], [])) = _
  rw [if_pos hb, e]
  dsimp only
  by_cases h : n = 0
  · rw [if_pos (by omega), if_pos h]
  · rw [if_neg (by omega), if_neg h, Int.toNat_natCast]
theorem mk_while {sh row steps : List Int} (hr : row.length ≤ BIG) (hsh : sh.length ≤ BIG) (hs : ∀ s ∈ steps, s = 1 ∨ s = -1) : ∀ (k f b : Nat) (acc : List D) (mac : List Int) (w x y : Sd), row.length - b < k → k ≤ f → acc.length ≤ b → mac.length ≤ b → b ≤ row.length →
    match mkG sh row steps k b with
    | .inl q => whileD (bV (mBin ltD (mVar 5) (mUn lenD (mVar 1)))) m_mk_b f (zM sh row steps (.ow acc) (.ow (il mac)) b w x y) = .ok (.rt (.tup [.non, .int (q : Nat)]))
    | .inr r => ∃ b' w' x' y', whileD (bV (mBin ltD (mVar 5) (mUn lenD (mVar 1)))) m_mk_b f (zM sh row steps (.ow acc) (.ow (il mac)) b w x y) = .ok (.nx (zM sh row steps (.ow (acc ++ r.1)) (.ow (il (mac ++ r.2))) b' w' x' y'))
  | 0, f, b, acc, mac, w, x, y, h, _, _, _, _ => by omega
  | k + 1, 0, b, acc, mac, w, x, y, h, hf, _, _, _ => by omega
  | k + 1, f + 1, b, acc, mac, w, x, y, h, hf, ha, hm, hbr => by
    have et : bV (mBin ltD (mVar 5) (mUn lenD (mVar 1))) (zM sh row steps (.ow acc) (.ow (il mac)) b w x y) = .ok (decide ((b : Int) < (row.length : Int))) :=
      bV_b (mBin_ok (x := .int (b : Nat)) (y := .int (row.length : Nat)) rfl (len_il rfl) rfl)
    by_cases hb : b < row.length
    · rw [decide_eq_true (by omega)] at et
      obtain ⟨n, p, s, e, _, _⟩ := mkB_shape sh row steps b
      obtain ⟨t1, t2⟩ := mk_turn (acc := acc) (mac := mac) (x := x) (y := y) (w := w) hr hsh hs (by omega) (by omega) e
      have hle := mkB_le e hb
      rw [mkG_step e hb]
      by_cases h0 : n = 0
      · rw [if_pos h0]
        exact while_rt et (t1 h0)
      · rw [if_neg h0]
        obtain ⟨w1, x1, y1, e1⟩ := t2 h0
        have ih := mk_while hr hsh hs k f (b + n) (acc ++ [.tup [.int (p : Int), .int (n : Int), .int s]]) (mac ++ [(b : Int)]) w1 x1 y1 (by omega) (by omega) (by rw [List.length_append, List.length_singleton]; omega) (by rw [List.length_append, List.length_singleton]; omega) hle
        cases hg : mkG sh row steps k (b + n) with
        | inl q =>
          rw [hg] at ih
          exact (while_t et e1).trans ih
        | inr r =>
          rw [hg] at ih
          obtain ⟨b', w', x', y', ih⟩ := ih
          obtain ⟨cs, ms⟩ := r
          refine ⟨b', w', x', y', (while_t et e1).trans (ih.trans ?_)⟩
          dsimp only
          rw [List.append_assoc, List.append_assoc]
          rfl
    · rw [decide_eq_false (by omega)] at et
      have eg : mkG sh row steps (k + 1) b = .inr ([], []) := if_neg hb
      rw [eg]
      refine ⟨b, w, x, y, (while_f et).trans ?_⟩
      dsimp only
      rw [List.append_nil, List.append_nil]
def mkR (sh row steps : List Int) : Sum Nat (List D × List Int) := mkG sh row steps (row.length + 1) 0
theorem making_eq (sh row steps : List Int) (hr : row.length ≤ BIG) (hsh : sh.length ≤ BIG) (hs : ∀ s ∈ steps, s = 1 ∨ s = -1) : f_making [.lst (il sh), .lst (il row), .tup (il steps)] = .ok (match mkR sh row steps with
    | .inl q => .tup [.non, .int (q : Nat)]
    | .inr r => .tup [.lst r.1, .lst (il r.2)]) := by
  have hh : BIG = 100000 := rfl
  have ew := mk_while hr hsh hs (row.length + 1) 2000000 0 [] [] .no .no .no (by omega) (by omega) (Nat.le_refl _) (Nat.le_refl _) (Nat.zero_le _)
  refine runF_rt ?_
  unfold m_making mkR
  refine (sSeq_nx (z' := [.sh (.lst (il sh)), .sh (.lst (il row)), .sh (.tup (il steps)), .ow [], .no, .no, .no, .no, .no]) rfl).trans ?_
  refine (sSeq_nx (z' := [.sh (.lst (il sh)), .sh (.lst (il row)), .sh (.tup (il steps)), .ow [], .ow (il []), .no, .no, .no, .no]) rfl).trans ?_
  refine (sSeq_nx (z' := zM sh row steps (.ow []) (.ow (il [])) 0 .no .no .no) rfl).trans ?_
  cases hg : mkG sh row steps (row.length + 1) 0 with
  | inl q =>
    rw [hg] at ew
    exact sSeq_rt ew
  | inr r =>
    rw [hg] at ew
    obtain ⟨b', w', x', y', ew⟩ := ew
    rw [List.nil_append, List.nil_append] at ew
    refine (sSeq_nx ew).trans (sRet_ok (mTup_ok (aCons_ok rfl (aCons_ok rfl rfl)) (le_line (by show 2 ≤ 16777216; decide))))
theorem runXR_rt {n : Nat} {m : MS} {ds : List D} {d : D} (h : m (st0 n ds) = .ok (.rt d)) : runXR n m ds = .ok (.val d) := by unfold runXR; rw [h]; rfl
theorem sAsg_ok {t : Tg} {m : M} {z z' : List Sd} {d : D} (h : m z = .ok d) (h2 : setT t d z = .ok z') : sAsg t m z = .ok (.nx z') := by unfold sAsg; rw [h, bnd_ok, h2]; rfl
theorem sSeq_ro {m1 m2 : MS} {z : List Sd} {k : Option Nat} {fs : List (List D)} (h : m1 z = .ok (.ro k fs)) : sSeq m1 m2 z = .ok (.ro k fs) := by unfold sSeq; rw [h]; rfl
def tellR (c : Nat) : Sum Nat (List D × List Int) → Rv
  | .inl q => .val (.ins 2 [.int (q : Nat)])
  | .inr r => .obj (some c) [r.1, il r.2]
theorem forth_eq (sh row : List Int) (hr : row.length ≤ BIG) (hsh : sh.length ≤ BIG) : f_forth [.lst (il sh), .lst (il row)] = .ok (tellR 0 (mkR sh row [1])) := by
  have hb := big_line
  have hm := making_eq sh row [1] hr hsh (by simp)
  have hc : mCall 3 f_making (aCons (mVar 0) (aCons (mVar 1) (aCons (mTup (aCons (mC (.int 1)) aNil)) aNil))) (st0 4 [.lst (il sh), .lst (il row)]) = _ :=
    mCall_is (ds := [.lst (il sh), .lst (il row), .tup (il [1])]) (aCons_ok rfl (aCons_ok rfl (aCons_ok (mTup_ok rfl (le_line (by show 1 ≤ 16777216; decide))) rfl))) rfl hm
  cases hg : mkR sh row [1] with
  | inl q =>
    rw [hg] at hc
    refine runXR_rt ?_
    unfold m_forth
    refine (sSeq_nx (sExpr_ok (mCall_is (ds := [.lst (il sh)]) rfl rfl (check_row_ints (by omega))))).trans ?_
    refine (sSeq_nx (sExpr_ok (mCall_is (ds := [.lst (il row)]) rfl rfl (check_row_ints (by omega))))).trans ?_
    refine (sSeq_nx (z' := [.sh (.lst (il sh)), .sh (.lst (il row)), .sh .non, .sh (.int (q : Nat))]) (sAsg_ok hc rfl)).trans ?_
    exact sSeq_rt rfl
  | inr r =>
    rw [hg] at hc
    refine runXR_ro ?_
    unfold m_forth
    refine (sSeq_nx (sExpr_ok (mCall_is (ds := [.lst (il sh)]) rfl rfl (check_row_ints (by omega))))).trans ?_
    refine (sSeq_nx (sExpr_ok (mCall_is (ds := [.lst (il row)]) rfl rfl (check_row_ints (by omega))))).trans ?_
    refine (sSeq_nx (z' := [.sh (.lst (il sh)), .sh (.lst (il row)), .sh (.lst r.1), .sh (.lst (il r.2))]) (sAsg_ok hc rfl)).trans ?_
    exact (sSeq_nx rfl).trans rfl
theorem either_eq (sh row : List Int) (hr : row.length ≤ BIG) (hsh : sh.length ≤ BIG) : f_either [.lst (il sh), .lst (il row)] = .ok (tellR 1 (mkR sh row [1, -1])) := by
  have hb := big_line
  have hm := making_eq sh row [1, -1] hr hsh (by simp)
  have hc : mCall 3 f_making (aCons (mVar 0) (aCons (mVar 1) (aCons (mTup (aCons (mC (.int 1)) (aCons (mUn negD (mC (.int 1))) aNil))) aNil))) (st0 4 [.lst (il sh), .lst (il row)]) = _ :=
    mCall_is (ds := [.lst (il sh), .lst (il row), .tup (il [1, -1])]) (aCons_ok rfl (aCons_ok rfl (aCons_ok (mTup_ok rfl (le_line (by show 2 ≤ 16777216; decide))) rfl))) rfl hm
  cases hg : mkR sh row [1, -1] with
  | inl q =>
    rw [hg] at hc
    refine runXR_rt ?_
    unfold m_either
    refine (sSeq_nx (sExpr_ok (mCall_is (ds := [.lst (il sh)]) rfl rfl (check_row_ints (by omega))))).trans ?_
    refine (sSeq_nx (sExpr_ok (mCall_is (ds := [.lst (il row)]) rfl rfl (check_row_ints (by omega))))).trans ?_
    refine (sSeq_nx (z' := [.sh (.lst (il sh)), .sh (.lst (il row)), .sh .non, .sh (.int (q : Nat))]) (sAsg_ok hc rfl)).trans ?_
    exact sSeq_rt rfl
  | inr r =>
    rw [hg] at hc
    refine runXR_ro ?_
    unfold m_either
    refine (sSeq_nx (sExpr_ok (mCall_is (ds := [.lst (il sh)]) rfl rfl (check_row_ints (by omega))))).trans ?_
    refine (sSeq_nx (sExpr_ok (mCall_is (ds := [.lst (il row)]) rfl rfl (check_row_ints (by omega))))).trans ?_
    refine (sSeq_nx (z' := [.sh (.lst (il sh)), .sh (.lst (il row)), .sh (.lst r.1), .sh (.lst (il r.2))]) (sAsg_ok hc rfl)).trans ?_
    exact (sSeq_nx rfl).trans rfl
end CL


set_option Elab.async false
set_option linter.all false
set_option maxRecDepth 100000
/-! What a Forth, an Either, a Lacks show. -/
namespace CL
open PySem PySem.Spec L2
def stepOf : D → Int
  | .tup [_, _, .int s] => s
  | _ => 0
def backP (cs : List D) : Bool := cs.any fun c => decide (stepOf c < 0)
def pasteI (sh : List Int) (cs : List D) : List Int := (asIs (pasteL (il sh) cs)).getD []
theorem paste_il {sh : List Int} {cs : List D} (h : ∀ c ∈ cs, isClip sh.length c = true) : pasteL (il sh) cs = il (pasteI sh cs) := by
  obtain ⟨ns, e⟩ := num_is (num_paste (sh := il sh) (cs := cs) (num_ints sh) (fun c hc => by rw [List.length_map]; exact h c hc))
  unfold pasteI
  rw [e, asIs_map]
  rfl
def noP (both : Bool) (sh p : List Int) : Bool := !(standsP sh p || (both && standsP sh p.reverse))
def madeP (sh row : List Int) (cs : List D) (marks : List Int) : Bool := decide (cs.length = marks.length) && (cs.all (isClip sh.length) && decide (pasteI sh cs = row))
def restP (both : Bool) (sh row marks : List Int) : Bool := risingP row.length (-1) marks && (partsP row marks).all (noP both sh)
def fewP (both : Bool) (sh row : List Int) (cs : List D) (marks : List Int) : Bool := madeP sh row cs marks && ((both || !backP cs) && restP both sh row marks)
structure InOk (sh row : List Int) (cs : List D) (marks : List Int) : Prop where
  h1 : sh.length ≤ BIG
  h2 : row.length ≤ BIG
  h3 : cs.length ≤ BIG
  h4 : marks.length ≤ BIG
  ok : ∀ c ∈ cs, okC c
  pz : (∀ c ∈ cs, isClip sh.length c = true) → (pasteL (il sh) cs).length < 1000000
theorem parts_len {row : List Int} : ∀ {ms : List Int} {p : List Int}, p ∈ partsP row ms → p.length ≤ row.length
  | [], p, h => by cases h
  | [_], p, h => by cases h
  | a :: b :: r, p, h => by
    rcases List.mem_cons.mp h with rfl | h
    · unfold segM segL
      rw [List.length_take, List.length_drop]
      omega
    · exact parts_len h
theorem mil_line : (1000000 : Nat) ≤ sizeLine := by rw [sizeLine_eq]; decide
section
variable {sh row marks : List Int} {cs : List D}
theorem are_made_eq (I : InOk sh row cs marks) : f_are_made [.lst (il sh), .lst (il row), .lst cs, .lst (il marks)] = .ok (.bl (madeP sh row cs marks)) := by
  have hb := big_line
  have hmil := mil_line
  have h1 := I.h1
  have h3 := I.h3
  refine runF_rt ?_
  unfold m_are_made madeP
  have c1 : bV (mBin neB (mUn lenD (mVar 2)) (mUn lenD (mVar 3))) (st0 5 [.lst (il sh), .lst (il row), .lst cs, .lst (il marks)]) = .ok (!decide (cs.length = marks.length)) := ne_len rfl (len_il rfl)
  have c2 := mAll_comp (i := 4) (vs := [4]) (z := st0 5 [.lst (il sh), .lst (il row), .lst cs, .lst (il marks)]) (mi := mSeq (mVar 2)) (ds := cs) (me := mCall 2 f_is_clipping (aCons (mVar 0) (aCons (mVar 4) aNil))) (g := isClip sh.length) rfl (by omega) (fun d hd => by
    refine mCall_is (ds := [.lst (il sh), d]) rfl rfl ?_
    have := is_clipping_eq (sh := il sh) (I.ok d hd).1 (I.ok d hd).2
    rw [List.length_map] at this
    exact this)
  by_cases q1 : cs.length = marks.length
  · rw [decide_eq_true q1] at c1
    rw [decide_eq_true q1, Bool.true_and]
    cases q2 : cs.all (isClip sh.length) with
    | false =>
      rw [q2] at c2
      exact sSeq_rt ((sIf_t ((bOr_f c1).trans (bNot_b (bV_b c2)))).trans rfl)
    | true =>
      rw [q2] at c2
      have hc := List.all_eq_true.mp q2
      have hz := I.pz hc
      refine (sSeq_nx ((sIf_f ((bOr_f c1).trans (bNot_b (bV_b c2)))).trans rfl)).trans (sRet_ok ?_)
      have ep := pasted_of_eq (sh := il sh) (cs := cs) (by rw [List.length_map]; omega) (fun c h => by rw [List.length_map]; exact hc c h) (by omega)
      rw [paste_il hc] at ep
      rw [Bool.true_and]
      exact mBin_ok (mL_ok (mCall_is (ds := [.lst (il sh), .lst cs]) rfl rfl ep)) rfl (eqB_ints _ _)
  · rw [decide_eq_false q1] at c1
    rw [decide_eq_false q1, Bool.false_and]
    exact sSeq_rt ((sIf_t (bOr_t c1)).trans rfl)
theorem clip_any {z : List Sd} {vs : List Nat} {m : M} {me : M} {i j k : Nat} (g : Int → Bool) (hc : ∀ c ∈ cs, isClip sh.length c = true) (hl : cs.length ≤ sizeLine) (hm : m z = .ok (.lst cs))
    (h : ∀ p n s : Int, me ((((wipeD z vs).set i (.sh (.int p))).set j (.sh (.int n))).set k (.sh (.int s))) = .ok (.bl (g s))) : mAny (mComp (.tp [i, j, k]) vs (mSeq m) me) z = .ok (.bl (cs.any fun c => g (stepOf c))) := by
  refine mAny_compT (g := fun c => g (stepOf c)) (mSeq_ok hm rfl) hl (fun d hd => ?_)
  obtain ⟨p, n, s, rfl⟩ := isClip_shape (hc d hd)
  exact ⟨_, rfl, h p n s⟩
theorem made_clips (h : madeP sh row cs marks = true) : ∀ c ∈ cs, isClip sh.length c = true := by
  unfold madeP at h
  rw [Bool.and_eq_true, Bool.and_eq_true] at h
  exact List.all_eq_true.mp h.2.1
theorem forth_shows_eq (I : InOk sh row cs marks) : f_Forth_shows [.ins 0 [.lst cs, .lst (il marks)], .lst (il sh), .lst (il row)] = .ok (.bl (fewP false sh row cs marks)) := by
  have hb := big_line
  have h3 := I.h3
  have h4 := I.h4
  refine runF_rt ?_
  unfold m_Forth_shows fewP
  have d1 : ∀ {a b c d e : Sd}, mUn (fldD .clippings) (mVar 0) [.sh (.ins 0 [.lst cs, .lst (il marks)]), .sh (.lst (il sh)), .sh (.lst (il row)), a, b, c, d, e] = .ok (.lst cs) := fun {a b c d e} => rfl
  have d2 : ∀ {a b c d e : Sd}, mUn (fldD .marks) (mVar 0) [.sh (.ins 0 [.lst cs, .lst (il marks)]), .sh (.lst (il sh)), .sh (.lst (il row)), a, b, c, d, e] = .ok (.lst (il marks)) := fun {a b c d e} => rfl
  have z0 : st0 8 [.ins 0 [.lst cs, .lst (il marks)], .lst (il sh), .lst (il row)] = [.sh (.ins 0 [.lst cs, .lst (il marks)]), .sh (.lst (il sh)), .sh (.lst (il row)), .no, .no, .no, .no, .no] := rfl
  rw [z0]
  have c1 : bNot (bV (mCall 4 f_are_made (aCons (mVar 1) (aCons (mVar 2) (aCons (mUn (fldD .clippings) (mVar 0)) (aCons (mUn (fldD .marks) (mVar 0)) aNil)))))) [.sh (.ins 0 [.lst cs, .lst (il marks)]), .sh (.lst (il sh)), .sh (.lst (il row)), .no, .no, .no, .no, .no] = .ok (!madeP sh row cs marks) :=
    bNot_b (bV_b (mCall_is (ds := [.lst (il sh), .lst (il row), .lst cs, .lst (il marks)]) (aCons_ok rfl (aCons_ok rfl (aCons_ok d1 (aCons_ok d2 rfl)))) rfl (are_made_eq I)))
  cases qm : madeP sh row cs marks with
  | false =>
    rw [qm] at c1
    exact sSeq_rt ((sIf_t (bOr_t c1)).trans rfl)
  | true =>
    rw [qm] at c1
    have hc := made_clips qm
    have c2 := clip_any (sh := sh) (z := [.sh (.ins 0 [.lst cs, .lst (il marks)]), .sh (.lst (il sh)), .sh (.lst (il row)), .no, .no, .no, .no, .no]) (vs := [3, 4, 5]) (i := 3) (j := 4) (k := 5) (me := mBin ltD (mVar 5) (mC (.int 0))) (fun s => decide (s < 0)) hc (by omega) d1 (fun p n s => rfl)
    have c3 : bV (mAny (mComp (.tp [3, 4, 5]) [3, 4, 5] (mSeq (mUn (fldD .clippings) (mVar 0))) (mBin ltD (mVar 5) (mC (.int 0))))) [.sh (.ins 0 [.lst cs, .lst (il marks)]), .sh (.lst (il sh)), .sh (.lst (il row)), .no, .no, .no, .no, .no] = .ok (backP cs) := bV_b c2
    rw [Bool.true_and, Bool.false_or]
    cases qb : backP cs with
    | true =>
      rw [qb] at c3
      exact sSeq_rt ((sIf_t ((bOr_f c1).trans c3)).trans rfl)
    | false =>
      rw [qb] at c3
      refine (sSeq_nx ((sIf_f ((bOr_f c1).trans c3)).trans rfl)).trans ?_
      refine (sSeq_nx (sSet_ok (mCall_is (ds := [.lst (il row), .lst (il marks)]) (aCons_ok rfl (aCons_ok d2 rfl)) rfl (spans_eq row marks I.h2 I.h4)))).trans (sRet_ok ?_)
      show mAnd _ _ _ = Rs.ok (D.bl (true && restP false sh row marks))
      rw [Bool.true_and]
      unfold spansP restP
      cases hr : risingP row.length (-1) marks with
      | false => exact mAnd_f rfl
      | true =>
        rw [if_pos rfl, Bool.true_and]
        refine (mAnd_t rfl).trans (mUn_ok (x := .bl ((partsP row marks).any fun p => standsP sh p)) ?_ ?_)
        · refine (mAny_comp (i := 7) (vs := [7]) (ds := (partsP row marks).map fun p => .lst (il p)) (g := fun d => match d with | .lst xs => standsP sh ((asIs xs).getD []) | _ => false) rfl (by rw [List.length_map, partsP_length]; omega) (fun d hd => ?_)).trans ?_
          · obtain ⟨p, hp, rfl⟩ := List.mem_map.mp hd
            have hl := parts_len hp
            have h2 := I.h2
            refine (mCall_is (ds := [.lst (il sh), .lst (il p)]) rfl rfl (stands_eq sh p I.h1 (by omega))).trans ?_
            show _ = Rs.ok (D.bl (standsP sh ((asIs (il p)).getD [])))
            rw [asIs_map]
            rfl
          · rw [List.any_map]
            refine congrArg (fun b => Rs.ok (D.bl b)) ?_
            congr 1
            funext p
            show standsP sh ((asIs (il p)).getD []) = _
            rw [asIs_map]
            rfl
        · show some (D.bl (!((partsP row marks).any fun p => standsP sh p))) = _
          rw [List.not_any_eq_all_not]
          refine congrArg (fun b => some (D.bl b)) ?_
          congr 1
          funext p
          unfold noP
          rw [Bool.false_and, Bool.or_false]
theorem either_shows_eq (I : InOk sh row cs marks) : f_Either_shows [.ins 1 [.lst cs, .lst (il marks)], .lst (il sh), .lst (il row)] = .ok (.bl (fewP true sh row cs marks)) := by
  have hb := big_line
  have h3 := I.h3
  have h4 := I.h4
  refine runF_rt ?_
  unfold m_Either_shows fewP
  have d1 : ∀ {a b : Sd}, mUn (fldD .clippings) (mVar 0) [.sh (.ins 1 [.lst cs, .lst (il marks)]), .sh (.lst (il sh)), .sh (.lst (il row)), a, b] = .ok (.lst cs) := fun {a b} => rfl
  have d2 : ∀ {a b : Sd}, mUn (fldD .marks) (mVar 0) [.sh (.ins 1 [.lst cs, .lst (il marks)]), .sh (.lst (il sh)), .sh (.lst (il row)), a, b] = .ok (.lst (il marks)) := fun {a b} => rfl
  have z0 : st0 5 [.ins 1 [.lst cs, .lst (il marks)], .lst (il sh), .lst (il row)] = [.sh (.ins 1 [.lst cs, .lst (il marks)]), .sh (.lst (il sh)), .sh (.lst (il row)), .no, .no] := rfl
  rw [z0]
  have c1 : bNot (bV (mCall 4 f_are_made (aCons (mVar 1) (aCons (mVar 2) (aCons (mUn (fldD .clippings) (mVar 0)) (aCons (mUn (fldD .marks) (mVar 0)) aNil)))))) [.sh (.ins 1 [.lst cs, .lst (il marks)]), .sh (.lst (il sh)), .sh (.lst (il row)), .no, .no] = .ok (!madeP sh row cs marks) :=
    bNot_b (bV_b (mCall_is (ds := [.lst (il sh), .lst (il row), .lst cs, .lst (il marks)]) (aCons_ok rfl (aCons_ok rfl (aCons_ok d1 (aCons_ok d2 rfl)))) rfl (are_made_eq I)))
  cases qm : madeP sh row cs marks with
  | false =>
    rw [qm] at c1
    exact sSeq_rt ((sIf_t c1).trans rfl)
  | true =>
    rw [qm] at c1
    refine (sSeq_nx ((sIf_f c1).trans rfl)).trans ?_
    refine (sSeq_nx (sSet_ok (mCall_is (ds := [.lst (il row), .lst (il marks)]) (aCons_ok rfl (aCons_ok d2 rfl)) rfl (spans_eq row marks I.h2 I.h4)))).trans (sRet_ok ?_)
    show mAnd _ _ _ = Rs.ok (D.bl (true && (true && restP true sh row marks)))
    rw [Bool.true_and, Bool.true_and]
    unfold spansP restP
    cases hr : risingP row.length (-1) marks with
    | false => exact mAnd_f rfl
    | true =>
      rw [if_pos rfl, Bool.true_and]
      refine (mAnd_t rfl).trans (mUn_ok (x := .bl ((partsP row marks).any fun p => standsP sh p || standsP sh p.reverse)) ?_ ?_)
      · refine (mAny_comp (i := 4) (vs := [4]) (ds := (partsP row marks).map fun p => .lst (il p)) (g := fun d => match d with | .lst xs => standsP sh ((asIs xs).getD []) || standsP sh ((asIs xs).getD []).reverse | _ => false) rfl (by rw [List.length_map, partsP_length]; omega) (fun d hd => ?_)).trans ?_
        · obtain ⟨p, hp, rfl⟩ := List.mem_map.mp hd
          have hl := parts_len hp
          have h2 := I.h2
          show _ = Rs.ok (D.bl (standsP sh ((asIs (il p)).getD []) || standsP sh ((asIs (il p)).getD []).reverse))
          rw [asIs_map]
          show _ = Rs.ok (D.bl (standsP sh p || standsP sh p.reverse))
          have e1 := stands_eq sh p I.h1 (by omega)
          have e2 := stands_eq sh p.reverse I.h1 (by rw [List.length_reverse]; omega)
          have m1 : mCall 2 f_stands (aCons (mVar 1) (aCons (mVar 4) aNil)) ((wipeD (frz ([Sd.sh (.ins 1 [.lst cs, .lst (il marks)]), .sh (.lst (il sh)), .sh (.lst (il row)), .no, .no].set 3 (Sd.sh (spansD (some (partsP row marks)))))) [4]).set 4 (.sh (.lst (il p)))) = .ok (.bl (standsP sh p)) := mCall_is (ds := [.lst (il sh), .lst (il p)]) rfl rfl e1
          have m2 : mCall 2 f_stands (aCons (mVar 1) (aCons (mL (mRev (iE (mVar 4)))) aNil)) ((wipeD (frz ([Sd.sh (.ins 1 [.lst cs, .lst (il marks)]), .sh (.lst (il sh)), .sh (.lst (il row)), .no, .no].set 3 (Sd.sh (spansD (some (partsP row marks)))))) [4]).set 4 (.sh (.lst (il p)))) = .ok (.bl (standsP sh p.reverse)) := by
            refine mCall_is (ds := [.lst (il sh), .lst (il p.reverse)]) (aCons_ok rfl (aCons_ok ?_ rfl)) rfl e2
            show Rs.ok (D.lst (il p).reverse) = _
            rw [il, il, List.map_reverse]
          cases hs : standsP sh p with
          | true =>
            rw [hs] at m1
            exact mOr_t m1
          | false =>
            rw [hs] at m1
            exact (mOr_f m1).trans m2
        · rw [List.any_map]
          refine congrArg (fun b => Rs.ok (D.bl b)) ?_
          congr 1
          funext p
          show (standsP sh ((asIs (il p)).getD []) || standsP sh ((asIs (il p)).getD []).reverse) = _
          rw [asIs_map]
          rfl
      · show some (D.bl (!((partsP row marks).any fun p => standsP sh p || standsP sh p.reverse))) = _
        rw [List.not_any_eq_all_not]
        rfl
def lackP (sh row : List Int) (q : Int) : Bool := decide (0 ≤ q ∧ q < row.length) && !sh.any fun s => decide (s = row.getD q.toNat 0)
theorem lacks_shows_eq (q : Int) : f_Lacks_shows [.ins 2 [.int q], .lst (il sh), .lst (il row)] = .ok (.bl (lackP sh row q)) := by
  refine runF_rt (sRet_ok ?_)
  unfold lackP
  have e1 : mChain leD ltD (mC (.int 0)) (mUn (fldD .place) (mVar 0)) (mUn lenD (mVar 2)) (frz (st0 3 [.ins 2 [.int q], .lst (il sh), .lst (il row)])) = .ok (.bl (decide (0 ≤ q ∧ q < row.length))) := chain_ll rfl rfl (len_il rfl)
  by_cases h : 0 ≤ q ∧ q < row.length
  · rw [decide_eq_true h] at e1 ⊢
    refine (mAnd_t e1).trans ?_
    rw [Bool.true_and]
    refine mBin_ok (x := .int (row.getD q.toNat 0)) (y := .lst (il sh)) (mBin_ok (x := .lst (il row)) (y := .int q) rfl rfl (ix_il h.1 h.2)) rfl ?_
    have hf : (il sh).all flatD = true := by
      rw [List.all_eq_true]
      intro d hd
      obtain ⟨s, _, rfl⟩ := List.mem_map.mp hd
      rfl
    show (if (true && (il sh).all flatD) = true then some (D.bl (!(il sh).any fun y => eqF y (.int (row.getD q.toNat 0)))) else none) = _
    rw [hf]
    show some (D.bl (!(il sh).any fun y => eqF y (.int (row.getD q.toNat 0)))) = _
    rw [List.any_map]
    rfl
  · rw [decide_eq_false h] at e1 ⊢
    exact mAnd_f e1
end
end CL


set_option Elab.async false
set_option linter.all false
set_option maxRecDepth 100000
/-! The law's own look at clippings and marks. -/
namespace CL
open PySem PySem.Spec L2
theorem law_is_clipping_eq {sh : List Int} {d : D} (h : okC d) : f_law_is_clipping [.lst (il sh), d] = .ok (.bl (isClip sh.length d)) := by
  obtain ⟨h1, h2⟩ := h
  refine runF_rt ?_
  unfold m_law_is_clipping
  cases d with
  | tup ds =>
    obtain ⟨k1, k2⟩ := h2 ds rfl
    have c0 : bNot (bV (mUn (isTy .tuple) (mVar 1))) (st0 6 [.lst (il sh), .tup ds]) = .ok false := rfl
    have c1 : bV (mBin neB (mUn lenD (mVar 1)) (mC (.int 3))) (st0 6 [.lst (il sh), .tup ds]) = .ok (!decide (ds.length = 3)) := ne_len (j := 3) rfl rfl
    by_cases q1 : ds.length = 3
    · rw [decide_eq_true q1] at c1
      have c2 : bNot (bV (mCall 1 f_law_numbers (aCons (mL (mSeq (mVar 1))) aNil))) (st0 6 [.lst (il sh), .tup ds]) = .ok (!ds.all isNum) := bNot_b (bV_b (mCall_is (ds := [.lst ds]) rfl rfl (law_numbers_eq k1 k2)))
      by_cases q2 : ds.all isNum = true
      · rw [q2] at c2
        obtain ⟨p, m, s, rfl⟩ := nums3 q1 q2
        refine (sSeq_nx ((sIf_f ((bOr_f c0).trans ((bOr_f c1).trans c2))).trans rfl)).trans ?_
        refine (sSeq_nx (z' := [.sh (.lst (il sh)), .sh (.tup [.int p, .int m, .int s]), .sh (.int p), .sh (.int m), .sh (.int s), .no]) rfl).trans ?_
        have t1 : bV (mBin ltD (mVar 3) (mC (.int 1))) [.sh (.lst (il sh)), .sh (.tup [.int p, .int m, .int s]), .sh (.int p), .sh (.int m), .sh (.int s), .no] = .ok (decide (m < 1)) := rfl
        have t2 : bV (mBin neB (mVar 4) (mC (.int 1))) [.sh (.lst (il sh)), .sh (.tup [.int p, .int m, .int s]), .sh (.int p), .sh (.int m), .sh (.int s), .no] = .ok (!decide (s = 1)) := bV_b (mBin_ok (x := .int s) (y := .int 1) rfl rfl (neB_int _ _))
        have t3 : bV (mBin neB (mVar 4) (mUn negD (mC (.int 1)))) [.sh (.lst (il sh)), .sh (.tup [.int p, .int m, .int s]), .sh (.int p), .sh (.int m), .sh (.int s), .no] = .ok (!decide (s = -1)) := bV_b (mBin_ok (x := .int s) (y := .int (-1)) rfl rfl (neB_int _ _))
        have fin : ∀ b, isClip sh.length (.tup [.int p, .int m, .int s]) = b → isClip sh.length (.tup [.int p, .int m, .int s]) = b := fun _ e => e
        by_cases q3 : m < 1
        · rw [decide_eq_true q3] at t1
          have e : isClip sh.length (.tup [.int p, .int m, .int s]) = false := by
            rw [← Bool.not_eq_true, isClip_iff]
            omega
          rw [e]
          exact sSeq_rt ((sIf_t (bOr_t t1)).trans rfl)
        · rw [decide_eq_false q3] at t1
          by_cases q4 : s = 1 ∨ s = -1
          · have t4 : bAnd (bV (mBin neB (mVar 4) (mC (.int 1)))) (bV (mBin neB (mVar 4) (mUn negD (mC (.int 1))))) [.sh (.lst (il sh)), .sh (.tup [.int p, .int m, .int s]), .sh (.int p), .sh (.int m), .sh (.int s), .no] = .ok false := by
              by_cases q5 : s = 1
              · rw [decide_eq_true q5] at t2
                exact bAnd_f t2
              · rw [decide_eq_false q5] at t2
                rw [decide_eq_true (q4.resolve_left q5)] at t3
                exact (bAnd_t t2).trans t3
            refine (sSeq_nx ((sIf_f ((bOr_f t1).trans t4)).trans rfl)).trans ?_
            refine (sSeq_nx (z' := [.sh (.lst (il sh)), .sh (.tup [.int p, .int m, .int s]), .sh (.int p), .sh (.int m), .sh (.int s), .sh (.int (p + s * (m - 1)))]) ((sSet_ok (mBin_ok (x := .int p) (y := .int (s * (m - 1))) rfl (mBin_ok (x := .int s) (y := .int (m - 1)) rfl rfl (mulD_pm q4)) rfl)).trans rfl)).trans ?_
            refine sRet_ok ((mAnd_ok (x := decide (0 ≤ if p + s * (m - 1) < p then p + s * (m - 1) else p)) (y := decide ((if p + s * (m - 1) > p then p + s * (m - 1) else p) < (sh.length : Int))) rfl ?_).trans ?_)
            · exact mBin_ok (x := .int (if p + s * (m - 1) > p then p + s * (m - 1) else p)) (y := .int (sh.length : Nat)) rfl (len_il rfl) rfl
            · refine congrArg (fun b => Rs.ok (D.bl b)) ?_
              rw [Bool.eq_iff_iff, isClip_iff, Bool.and_eq_true, decide_eq_true_eq, decide_eq_true_eq]
              generalize p + s * (m - 1) = e
              split <;> split <;> omega
          · have q5 : ¬ s = 1 := fun h => q4 (.inl h)
            have q6 : ¬ s = -1 := fun h => q4 (.inr h)
            rw [decide_eq_false q5] at t2
            rw [decide_eq_false q6] at t3
            have e : isClip sh.length (.tup [.int p, .int m, .int s]) = false := by
              rw [← Bool.not_eq_true, isClip_iff]
              exact fun h => q4 h.2.1
            rw [e]
            exact sSeq_rt ((sIf_t ((bOr_f t1).trans ((bAnd_t t2).trans t3))).trans rfl)
      · have q2' : ds.all isNum = false := by rwa [Bool.not_eq_true] at q2
        rw [q2'] at c2
        rw [isClip_num (fun h => q2 h.2)]
        exact sSeq_rt ((sIf_t ((bOr_f c0).trans ((bOr_f c1).trans c2))).trans rfl)
    · rw [decide_eq_false q1] at c1
      rw [isClip_num (fun h => q1 h.1)]
      exact sSeq_rt ((sIf_t ((bOr_f c0).trans (bOr_t c1))).trans rfl)
  | non => rfl
  | bl b => rfl
  | int i => rfl
  | str x => rfl
  | lst xs => rfl
  | dct => rfl
  | ins c fs => cases h1
  | fn i => cases h1
  | scr ns => cases h1
  | lam i cs => cases h1
/-! ### stretches by any place -/
def standsL (sh st : List Int) : Bool := (List.range sh.length).any fun i => decide (segL sh i st.length = st)
theorem seg_length (xs : List Int) (i n : Nat) : (segL xs i n).length = min n (xs.length - i) := by unfold segL; rw [List.length_take, List.length_drop]
theorem standsL_eq (sh st : List Int) (h : 0 < st.length) : standsL sh st = standsP sh st := by
  unfold standsL standsP
  rw [Bool.eq_iff_iff, List.any_eq_true, List.any_eq_true]
  constructor
  · rintro ⟨i, hi, e⟩
    rw [List.mem_range] at hi
    have e' := of_decide_eq_true e
    have hl := seg_length sh i st.length
    rw [e'] at hl
    exact ⟨i, List.mem_range.mpr (by omega), e⟩
  · rintro ⟨i, hi, e⟩
    rw [List.mem_range] at hi
    exact ⟨i, List.mem_range.mpr (by omega), e⟩
theorem seg_reverse (sh : List Int) (i n : Nat) (h : i + n ≤ sh.length) : segL sh.reverse i n = (segL sh (sh.length - i - n) n).reverse := by
  unfold segL
  rw [List.drop_reverse, List.take_reverse, List.length_take]
  congr 1
  have h1 : min (sh.length - i) sh.length - n = sh.length - i - n := by omega
  rw [h1, List.drop_take]
  congr 1
  omega
theorem stands_reverse (sh st : List Int) : standsP sh.reverse st = standsP sh st.reverse := by
  unfold standsP
  rw [List.length_reverse, List.length_reverse, Bool.eq_iff_iff, List.any_eq_true, List.any_eq_true]
  constructor
  · rintro ⟨i, hi, e⟩
    rw [List.mem_range] at hi
    have e' := of_decide_eq_true e
    rw [seg_reverse sh i st.length (by omega)] at e'
    exact ⟨sh.length - i - st.length, List.mem_range.mpr (by omega), decide_eq_true (List.reverse_eq_iff.mp e')⟩
  · rintro ⟨i, hi, e⟩
    rw [List.mem_range] at hi
    have e' := of_decide_eq_true e
    refine ⟨sh.length - i - st.length, List.mem_range.mpr (by omega), decide_eq_true ?_⟩
    rw [seg_reverse sh _ st.length (by omega), show sh.length - (sh.length - i - st.length) - st.length = i by omega, e', List.reverse_reverse]
theorem parts_pairs (row : List Int) : ∀ ms : List Int, partsP row ms = (pairsP ms).map fun p => segM row p.1 p.2
  | [] => rfl
  | [_] => rfl
  | a :: b :: r => by
    show segM row a b :: partsP row (b :: r) = _
    rw [parts_pairs row (b :: r)]
    rfl
abbrev zW (sh row : List Int) (cs : List D) (marks : List Int) (both : Bool) (x5 x6 x7 x8 x9 x10 x11 x12 x13 : Sd) : List Sd := [.sh (.lst (il sh)), .sh (.lst (il row)), .sh (.lst cs), .sh (.lst (il marks)), .sh (.bl both), x5, x6, x7, x8, x9, x10, x11, x12, x13]
abbrev m_fw1 : MS := sIf (bV (mAny (mComp (.nm 13) [13] (mOf rng1 (aCons (mUn lenD (mVar 5)) aNil)) (mBin eqB (mL (mCut (iE (mVar 5)) (oSome (mVar 13)) (oSome (mBin addD (mVar 13) (mUn lenD (mVar 12)))))) (mVar 12))))) (sRet (mC (.bl false))) sNil
section
variable {sh row marks : List Int} {cs : List D} {both : Bool} {x6 x7 x8 x9 x10 x11 x13 : Sd}
theorem fw_for1 {p : List Int} (hp : p.length ≤ BIG) : ∀ (ones : List (List Int)) (x5 : Sd), (∀ o ∈ ones, o.length ≤ BIG) → ∃ x5', forD (.nm 5) m_fw1 (ones.map fun o => .lst (il o)) (zW sh row cs marks both x5 x6 x7 x8 x9 x10 x11 (.sh (.lst (il p))) x13) =
    if ones.any (fun o => standsL o p) then .ok (.rt (.bl false)) else .ok (.nx (zW sh row cs marks both x5' x6 x7 x8 x9 x10 x11 (.sh (.lst (il p))) x13))
  | [], x5, _ => ⟨x5, rfl⟩
  | o :: ones, x5, h => by
    have hb := big_line
    have hh : BIG = 100000 := rfl
    obtain ⟨x5', ih⟩ := fw_for1 hp ones (.sh (.lst (il o))) fun q hq => h q (List.mem_cons_of_mem _ hq)
    refine ⟨x5', ?_⟩
    have ho := h o List.mem_cons_self
    have hm : mOf rng1 (aCons (mUn lenD (mVar 5)) aNil) (zW sh row cs marks both (.sh (.lst (il o))) x6 x7 x8 x9 x10 x11 (.sh (.lst (il p))) x13) = .ok (rgD 0 o.length) := by
      have := rng1_ok (j := (o.length : Nat)) (by omega) (by omega)
      rw [Int.toNat_natCast] at this
      exact mOf_ok (xs := [.int (o.length : Nat)]) (aCons_ok (len_il rfl) rfl) this
    have ht := mAny_comp (i := 13) (vs := [13]) (me := mBin eqB (mL (mCut (iE (mVar 5)) (oSome (mVar 13)) (oSome (mBin addD (mVar 13) (mUn lenD (mVar 12)))))) (mVar 12)) (g := fun d => match d with | .int i => decide (segL o i.toNat p.length = p) | _ => false) hm (by rw [rgD_length]; omega) (fun d hd => by
      obtain ⟨i, hi, rfl⟩ := mem_rgD hd
      rw [Int.zero_add]
      refine mBin_ok (x := .lst (il (segL o i p.length))) (y := .lst (il p)) (mL_ok (mCut_ok (xs := il o) (a := some (i : Nat)) (b := some ((i + p.length : Nat) : Int)) rfl rfl (oSome_ok (mBin_ok (x := .int (i : Nat)) (y := .int (p.length : Nat)) rfl (len_il rfl) rfl)) ?_)) rfl (eqB_ints _ _)
      rw [cut_ints, Nat.add_sub_cancel_left])
    rw [rgD_any] at ht
    have t2 := bV_b ht
    cases hs : standsL o p with
    | true =>
      have t3 : bV (mAny (mComp (.nm 13) [13] (mOf rng1 (aCons (mUn lenD (mVar 5)) aNil)) (mBin eqB (mL (mCut (iE (mVar 5)) (oSome (mVar 13)) (oSome (mBin addD (mVar 13) (mUn lenD (mVar 12)))))) (mVar 12)))) (zW sh row cs marks both (.sh (.lst (il o))) x6 x7 x8 x9 x10 x11 (.sh (.lst (il p))) x13) = .ok true := t2.trans (congrArg Rs.ok hs)
      rw [List.any_cons, hs, Bool.true_or, if_pos rfl]
      exact forD_rt rfl ((sIf_t t3).trans rfl)
    | false =>
      have t3 : bV (mAny (mComp (.nm 13) [13] (mOf rng1 (aCons (mUn lenD (mVar 5)) aNil)) (mBin eqB (mL (mCut (iE (mVar 5)) (oSome (mVar 13)) (oSome (mBin addD (mVar 13) (mUn lenD (mVar 12)))))) (mVar 12)))) (zW sh row cs marks both (.sh (.lst (il o))) x6 x7 x8 x9 x10 x11 (.sh (.lst (il p))) x13) = .ok false := t2.trans (congrArg Rs.ok hs)
      rw [List.any_cons, hs, Bool.false_or, ← ih]
      exact forD_nx rfl ((sIf_f t3).trans rfl)
end
abbrev m_fw2 : MS := sSeq (sSet 12 (mL (mCut (iE (mVar 1)) (oSome (mVar 10)) (oSome (mBin addD (mVar 11) (mC (.int 1))))))) (sFor (.nm 5) (mSeq (mVar 9)) m_fw1)
section
variable {sh row marks : List Int} {cs : List D} {both : Bool} {x6 x7 x8 x13 : Sd}
theorem fw_for2 {ones : List (List Int)} (hrow : row.length ≤ BIG) (ho : ∀ o ∈ ones, o.length ≤ BIG) : ∀ (ps : List (Int × Int)) (x5 x10 x11 x12 : Sd), (∀ p ∈ ps, 0 ≤ p.1 ∧ p.1 < p.2 ∧ p.2 < row.length) →
    ∃ x5' x10' x11' x12', forD (.tp [10, 11]) m_fw2 (ps.map fun p => .tup [.int p.1, .int p.2]) (zW sh row cs marks both x5 x6 x7 x8 (.sh (.lst (ones.map fun o => .lst (il o)))) x10 x11 x12 x13) =
      if ps.any (fun p => ones.any fun o => standsL o (segM row p.1 p.2)) then .ok (.rt (.bl false)) else .ok (.nx (zW sh row cs marks both x5' x6 x7 x8 (.sh (.lst (ones.map fun o => .lst (il o)))) x10' x11' x12' x13))
  | [], x5, x10, x11, x12, _ => ⟨x5, x10, x11, x12, rfl⟩
  | p :: ps, x5, x10, x11, x12, h => by
    obtain ⟨h1, h2, h3⟩ := h p List.mem_cons_self
    have hl := seg_len row p.1 p.2 h2 h1 h3
    obtain ⟨a, ha⟩ : ∃ a : Nat, p.1 = (a : Int) := ⟨p.1.toNat, by omega⟩
    obtain ⟨b, hb'⟩ : ∃ b : Nat, p.2 = (b : Int) := ⟨p.2.toNat, by omega⟩
    have e1 : sSet 12 (mL (mCut (iE (mVar 1)) (oSome (mVar 10)) (oSome (mBin addD (mVar 11) (mC (.int 1)))))) (zW sh row cs marks both x5 x6 x7 x8 (.sh (.lst (ones.map fun o => .lst (il o)))) (.sh (.int p.1)) (.sh (.int p.2)) x12 x13) =
        .ok (.nx (zW sh row cs marks both x5 x6 x7 x8 (.sh (.lst (ones.map fun o => .lst (il o)))) (.sh (.int p.1)) (.sh (.int p.2)) (.sh (.lst (il (segM row p.1 p.2)))) x13)) := by
      refine (sSet_ok (d := .lst (il (segM row p.1 p.2))) (mL_ok (mCut_ok (xs := il row) (a := some p.1) (b := some (p.2 + 1)) rfl rfl (oSome_ok (mBin_ok (x := .int p.2) (y := .int 1) rfl rfl rfl)) ?_))).trans rfl
      have ez : (b : Int) + 1 = ((b + 1 : Nat) : Int) := by omega
      rw [ha, hb', ez, cut_ints]
      rfl
    obtain ⟨x5a, e2⟩ := fw_for1 (sh := sh) (row := row) (cs := cs) (marks := marks) (both := both) (x6 := x6) (x7 := x7) (x8 := x8) (x9 := .sh (.lst (ones.map fun o => .lst (il o)))) (x10 := .sh (.int p.1)) (x11 := .sh (.int p.2)) (x13 := x13) (p := segM row p.1 p.2) (by omega) ones x5 ho
    obtain ⟨x5', x10', x11', x12', ih⟩ := fw_for2 hrow ho ps x5a (.sh (.int p.1)) (.sh (.int p.2)) (.sh (.lst (il (segM row p.1 p.2)))) fun q hq => h q (List.mem_cons_of_mem _ hq)
    refine ⟨x5', x10', x11', x12', ?_⟩
    have e3 := (sFor_ok (t := .nm 5) (mi := mSeq (mVar 9)) (m := m_fw1) (z := zW sh row cs marks both x5 x6 x7 x8 (.sh (.lst (ones.map fun o => .lst (il o)))) (.sh (.int p.1)) (.sh (.int p.2)) (.sh (.lst (il (segM row p.1 p.2)))) x13) (ds := ones.map fun o => .lst (il o)) rfl).trans e2
    cases hs : ones.any fun o => standsL o (segM row p.1 p.2) with
    | true =>
      rw [hs, if_pos rfl] at e3
      rw [List.any_cons, hs, Bool.true_or, if_pos rfl]
      exact forD_rt rfl ((sSeq_nx e1).trans e3)
    | false =>
      rw [hs, if_neg Bool.false_ne_true] at e3
      rw [List.any_cons, hs, Bool.false_or, ← ih]
      exact forD_nx rfl ((sSeq_nx e1).trans e3)
end
end CL


set_option Elab.async false
set_option linter.all false
set_option maxRecDepth 100000
/-! The law's fewest and lacks. -/
namespace CL
open PySem PySem.Spec L2
def onesP (both : Bool) (sh : List Int) : List (List Int) := if both then [sh, sh.reverse] else [sh]
theorem ones_no (both : Bool) (sh p : List Int) (h : 0 < p.length) : ((onesP both sh).any fun o => standsL o p) = !noP both sh p := by
  unfold onesP noP
  cases both with
  | true =>
    rw [if_pos rfl, List.any_cons, List.any_cons, List.any_nil, Bool.or_false, standsL_eq sh p h, standsL_eq sh.reverse p h, stands_reverse, Bool.true_and, Bool.not_not]
  | false =>
    rw [if_neg Bool.false_ne_true, List.any_cons, List.any_nil, Bool.or_false, standsL_eq sh p h, Bool.false_and, Bool.or_false, Bool.not_not]
theorem pairs_no (both : Bool) (sh row marks : List Int) (hr : risingP row.length (-1) marks = true) : ((pairsP marks).any fun p => (onesP both sh).any fun o => standsL o (segM row p.1 p.2)) = !(partsP row marks).all (noP both sh) := by
  rw [parts_pairs, List.all_map, List.not_all_eq_any_not, Bool.eq_iff_iff, List.any_eq_true, List.any_eq_true]
  have key : ∀ p ∈ pairsP marks, ((onesP both sh).any fun o => standsL o (segM row p.1 p.2)) = !noP both sh (segM row p.1 p.2) := fun p hp => by
    have := pairs_in hr p hp
    refine ones_no both sh _ ?_
    rw [seg_len row p.1 p.2 (by omega) (by omega) (by omega)]
    omega
  constructor
  · rintro ⟨p, hp, e⟩
    rw [key p hp] at e
    exact ⟨p, hp, e⟩
  · rintro ⟨p, hp, e⟩
    refine ⟨p, hp, ?_⟩
    rw [key p hp]
    exact e
theorem back_law {sh : List Int} {cs : List D} (hc : ∀ c ∈ cs, isClip sh.length c = true) : (cs.any fun c => decide (stepOf c = -1)) = backP cs := by
  unfold backP
  rw [Bool.eq_iff_iff, List.any_eq_true, List.any_eq_true]
  constructor
  · rintro ⟨c, h, e⟩
    have := of_decide_eq_true e
    exact ⟨c, h, decide_eq_true (by omega)⟩
  · rintro ⟨c, h, e⟩
    have e' := of_decide_eq_true e
    refine ⟨c, h, decide_eq_true ?_⟩
    have hcc := hc c h
    obtain ⟨p, m, s, rfl⟩ := isClip_shape hcc
    rw [isClip_iff] at hcc
    have e2 : s < 0 := e'
    show s = -1
    omega
theorem law_fewest_eq {sh row marks : List Int} {cs : List D} (both : Bool) (I : InOk sh row cs marks) : f_law_fewest [.lst (il sh), .lst (il row), .lst cs, .lst (il marks), .bl both] = .ok (.bl (fewP both sh row cs marks)) := by
  have hb := big_line
  have hh : BIG = 100000 := rfl
  have h1 := I.h1
  have h3 := I.h3
  have h4 := I.h4
  refine runF_rt ?_
  unfold m_law_fewest fewP madeP
  have z0 : st0 14 [.lst (il sh), .lst (il row), .lst cs, .lst (il marks), .bl both] = zW sh row cs marks both .no .no .no .no .no .no .no .no .no := rfl
  rw [z0]
  have c1 : bV (mBin neB (mUn lenD (mVar 2)) (mUn lenD (mVar 3))) (zW sh row cs marks both .no .no .no .no .no .no .no .no .no) = .ok (!decide (cs.length = marks.length)) := ne_len rfl (len_il rfl)
  have c2 := mAll_comp (i := 5) (vs := [5]) (z := zW sh row cs marks both .no .no .no .no .no .no .no .no .no) (mi := mSeq (mVar 2)) (ds := cs) (me := mCall 2 f_law_is_clipping (aCons (mVar 0) (aCons (mVar 5) aNil))) (g := isClip sh.length) rfl (by omega) (fun d hd => mCall_is (ds := [.lst (il sh), d]) rfl rfl (law_is_clipping_eq (I.ok d hd)))
  by_cases q1 : cs.length = marks.length
  · rw [decide_eq_true q1] at c1
    rw [decide_eq_true q1, Bool.true_and]
    cases q2 : cs.all (isClip sh.length) with
    | false =>
      rw [q2] at c2
      exact sSeq_rt ((sIf_t ((bOr_f c1).trans (bNot_b (bV_b c2)))).trans rfl)
    | true =>
      rw [q2] at c2
      have hc := List.all_eq_true.mp q2
      have hz := I.pz hc
      refine (sSeq_nx ((sIf_f ((bOr_f c1).trans (bNot_b (bV_b c2)))).trans rfl)).trans ?_
      have c3 := clip_any (sh := sh) (z := zW sh row cs marks both .no .no .no .no .no .no .no .no .no) (m := mVar 2) (vs := [6, 7, 8]) (i := 6) (j := 7) (k := 8) (me := mBin eqB (mVar 8) (mUn negD (mC (.int 1)))) (fun s => decide (s = -1)) hc (by omega) rfl (fun p n s => mBin_ok (x := .int s) (y := .int (-1)) rfl rfl (eqB_int _ _))
      rw [back_law hc] at c3
      have c4 : bAnd (bNot (bV (mVar 4))) (bV (mAny (mComp (.tp [6, 7, 8]) [6, 7, 8] (mSeq (mVar 2)) (mBin eqB (mVar 8) (mUn negD (mC (.int 1))))))) (zW sh row cs marks both .no .no .no .no .no .no .no .no .no) = .ok (!both && backP cs) := by
        cases both with
        | true => exact bAnd_f rfl
        | false => exact (bAnd_t rfl).trans (bV_b c3)
      rw [Bool.true_and]
      have hbk : (both || !backP cs) = !(!both && backP cs) := by cases both <;> cases backP cs <;> rfl
      rw [hbk]
      cases q3 : !both && backP cs with
      | true =>
        rw [q3] at c4
        rw [Bool.not_true, Bool.false_and, Bool.and_false]
        exact sSeq_rt ((sIf_t c4).trans rfl)
      | false =>
        rw [q3] at c4
        rw [Bool.not_false, Bool.true_and]
        refine (sSeq_nx ((sIf_f c4).trans rfl)).trans ?_
        have ep := law_pasted_eq (sh := il sh) (cs := cs) (fun c h => by rw [List.length_map]; exact hc c h) hz
        rw [paste_il hc] at ep
        have c5 : bV (mBin neB (mCall 2 f_law_pasted (aCons (mVar 0) (aCons (mVar 2) aNil))) (mVar 1)) (zW sh row cs marks both .no .no .no .no .no .no .no .no .no) = .ok (!decide (pasteI sh cs = row)) := bV_b (mBin_ok (mCall_is (ds := [.lst (il sh), .lst cs]) rfl rfl ep) rfl (neB_ints _ _))
        have c6 : bNot (bV (mCall 2 f_law_rising (aCons (mVar 1) (aCons (mVar 3) aNil)))) (zW sh row cs marks both .no .no .no .no .no .no .no .no .no) = .ok (!risingP row.length (-1) marks) := bNot_b (bV_b (mCall_is (ds := [.lst (il row), .lst (il marks)]) rfl rfl (law_rising_eq row marks h4)))
        by_cases q4 : pasteI sh cs = row
        · rw [decide_eq_true q4] at c5
          rw [decide_eq_true q4, Bool.true_and]
          unfold restP
          cases hr : risingP row.length (-1) marks with
          | false =>
            rw [hr] at c6
            exact sSeq_rt ((sIf_t ((bOr_f c5).trans c6)).trans rfl)
          | true =>
            rw [hr] at c6
            rw [Bool.true_and]
            refine (sSeq_nx ((sIf_f ((bOr_f c5).trans c6)).trans rfl)).trans ?_
            have e9 : sSet 9 (mIf (bV (mVar 4)) (mL (mLst (aCons (mVar 0) (aCons (mL (mRev (iE (mVar 0)))) aNil)))) (mL (mLst (aCons (mVar 0) aNil)))) (zW sh row cs marks both .no .no .no .no .no .no .no .no .no) = .ok (.nx (zW sh row cs marks both .no .no .no .no (.sh (.lst ((onesP both sh).map fun o => .lst (il o)))) .no .no .no .no)) := by
              refine (sSet_ok (d := .lst ((onesP both sh).map fun o => .lst (il o))) ?_).trans rfl
              cases both with
              | true =>
                refine (mIf_t rfl).trans (mL_ok (mLst_ok (ds := [.lst (il sh), .lst (il sh.reverse)]) (aCons_ok rfl (aCons_ok ?_ rfl)) (le_line (by show 2 ≤ 16777216; decide))))
                show Rs.ok (D.lst (il sh).reverse) = _
                rw [il, il, List.map_reverse]
              | false => exact (mIf_f rfl).trans (mL_ok (mLst_ok (ds := [.lst (il sh)]) rfl (le_line (by show 1 ≤ 16777216; decide))))
            refine (sSeq_nx e9).trans ?_
            obtain ⟨a5, a10, a11, a12, ef⟩ := fw_for2 (sh := sh) (row := row) (cs := cs) (marks := marks) (both := both) (x6 := .no) (x7 := .no) (x8 := .no) (x13 := .no) (ones := onesP both sh) I.h2 (fun o ho => by
              unfold onesP at ho
              cases both with
              | true =>
                rw [if_pos rfl, List.mem_cons, List.mem_singleton] at ho
                rcases ho with rfl | rfl
                · exact h1
                · rw [List.length_reverse]; exact h1
              | false =>
                rw [if_neg Bool.false_ne_true, List.mem_singleton] at ho
                rw [ho]; exact h1) (pairsP marks) .no .no .no .no fun p hp => by
              have := pairs_in hr p hp
              omega
            have hm2 : mOf zip2 (aCons (mVar 3) (aCons (mL (mCut (iE (mVar 3)) (oSome (mC (.int 1))) oNone)) aNil)) (zW sh row cs marks both .no .no .no .no (.sh (.lst ((onesP both sh).map fun o => .lst (il o)))) .no .no .no .no) = .ok ((pairsP marks).map fun p => .tup [.int p.1, .int p.2]) := by
              rw [← zip_pairs]
              refine mOf_ok (xs := [.lst (il marks), .lst (il marks.tail)]) (aCons_ok rfl (aCons_ok (mL_ok (mCut_ok (xs := il marks) (a := some ((1 : Nat) : Int)) (b := none) rfl rfl rfl ?_)) rfl)) rfl
              rw [cutD_from, List.drop_one, il, il, List.map_tail]
            have e4 := (sFor_ok (t := .tp [10, 11]) (m := m_fw2) hm2).trans ef
            rw [pairs_no both sh row marks hr] at e4
            cases ha : (partsP row marks).all (noP both sh) with
            | true =>
              rw [ha] at e4
              exact (sSeq_nx e4).trans rfl
            | false =>
              rw [ha] at e4
              exact sSeq_rt e4
        · rw [decide_eq_false q4] at c5
          rw [decide_eq_false q4, Bool.false_and]
          exact sSeq_rt ((sIf_t (bOr_t c5)).trans rfl)
  · rw [decide_eq_false q1] at c1
    rw [decide_eq_false q1, Bool.false_and, Bool.false_and]
    exact sSeq_rt ((sIf_t (bOr_t c1)).trans rfl)
theorem law_lacks_eq {sh row : List Int} (hs : sh.length ≤ BIG) (q : Int) : f_law_lacks [.lst (il sh), .lst (il row), .int q] = .ok (.bl (lackP sh row q)) := by
  have hb := big_line
  refine runF_rt (sRet_ok ?_)
  unfold lackP
  have e1 : mChain leD ltD (mC (.int 0)) (mVar 2) (mUn lenD (mVar 1)) (frz (st0 4 [.lst (il sh), .lst (il row), .int q])) = .ok (.bl (decide (0 ≤ q ∧ q < row.length))) := chain_ll rfl rfl (len_il rfl)
  by_cases h : 0 ≤ q ∧ q < row.length
  · rw [decide_eq_true h] at e1 ⊢
    refine (mAnd_t e1).trans ?_
    rw [Bool.true_and]
    refine mUn_ok (x := .bl (sh.any fun s => decide (s = row.getD q.toNat 0))) ?_ rfl
    refine (mAny_comp (i := 3) (vs := [3]) (ds := il sh) (g := fun d => match d with | .int s => decide (s = row.getD q.toNat 0) | _ => false) rfl (by rw [List.length_map]; omega) (fun d hd => ?_)).trans ?_
    · obtain ⟨s, _, rfl⟩ := List.mem_map.mp hd
      exact mBin_ok (x := .int s) (y := .int (row.getD q.toNat 0)) rfl (mBin_ok (x := .lst (il row)) (y := .int q) rfl rfl (ix_il h.1 h.2)) (eqB_int _ _)
    · rw [List.any_map]
      rfl
  · rw [decide_eq_false h] at e1 ⊢
    exact mAnd_f e1
end CL


set_option Elab.async false
set_option linter.all false
set_option maxRecDepth 100000
/-! What making tells is good, and its marks show it. -/
namespace CL
open PySem PySem.Spec L2
theorem getD_reverse (l : List Int) (n j : Nat) (hl : l.length = n + 1) (hj : j ≤ n) : l.reverse.getD (n - j) 0 = l.getD j 0 := by
  rw [List.getD_eq_getElem?_getD, List.getD_eq_getElem?_getD, List.getElem?_reverse (by omega)]
  congr 2
  omega
theorem clipL_row {sh row : List Int} {b n p : Nat} {s : Int} (h : n = alikeL sh s (p : Nat) (row.drop b)) (hb : b + n ≤ row.length) : clipL (il sh) (p : Int) (n : Int) s = il ((row.drop b).take n) := by
  unfold clipL
  rw [Int.toNat_natCast]
  apply List.ext_getElem?
  intro i
  rw [List.getElem?_map, List.getElem?_map, List.getElem?_take]
  by_cases hi : i < n
  · rw [List.getElem?_range hi, if_pos hi]
    obtain ⟨a1, a2, a3⟩ := alikeL_at sh s (row.drop b) (p : Nat) i (by omega)
    have hl : i < (row.drop b).length := by rw [List.length_drop]; omega
    rw [List.getElem?_eq_getElem hl]
    show some ((il sh).getD ((p : Int) + s * (i : Nat)).toNat .non) = some (D.int (row.drop b)[i])
    rw [getD_il _ _ (by omega), a3, List.getD_eq_getElem?_getD, List.getElem?_eq_getElem hl]
    rfl
  · rw [List.getElem?_eq_none (by rw [List.length_range]; omega), if_neg hi]
    rfl
theorem mk_clip {sh row : List Int} {b n p : Nat} {s : Int} (hs : s = 1 ∨ s = -1) (h0 : 0 < n) (hp : p < sh.length) (h : n = alikeL sh s (p : Nat) (row.drop b)) : isClip sh.length (.tup [.int (p : Int), .int (n : Int), .int s]) = true := by
  rw [isClip_iff]
  obtain ⟨a1, a2, _⟩ := alikeL_at sh s (row.drop b) (p : Nat) (n - 1) (by omega)
  have e : ((n - 1 : Nat) : Int) = (n : Int) - 1 := by omega
  rw [e] at a1 a2
  exact ⟨by omega, hs, ⟨by omega, by omega⟩, a1, a2⟩
theorem mk_most {sh row steps : List Int} {b n : Nat} {both : Bool} (h1 : (1 : Int) ∈ steps) (h2 : both = true → (-1 : Int) ∈ steps) (hm : ∀ q, q < sh.length → ∀ t ∈ steps, alikeL sh t (q : Nat) (row.drop b) ≤ n) (h0 : 0 < n) (hb : b + n < row.length) :
    noP both sh (segM row (b : Int) ((b + n : Nat) : Int)) = true := by
  have hL : (segM row (b : Int) ((b + n : Nat) : Int)).length = n + 1 := by
    rw [seg_len row _ _ (by omega) (by omega) (by omega)]
    omega
  have hs : segM row (b : Int) ((b + n : Nat) : Int) = segL row b (n + 1) := by
    unfold segM
    congr 1
    omega
  have key : ∀ j, j < n + 1 → (segM row (b : Int) ((b + n : Nat) : Int)).getD j 0 = (row.drop b).getD j 0 := fun j hj => by rw [hs, getD_seg _ _ _ _ hj, getD_drop]
  unfold noP
  rw [Bool.not_eq_true', Bool.or_eq_false_iff]
  constructor
  · unfold standsP
    rw [List.any_eq_false]
    intro i hi
    rw [List.mem_range, hL] at hi
    rw [decide_eq_true_eq, hL]
    intro hseg
    have hge := alikeL_ge sh 1 (n + 1) (row.drop b) (i : Nat) (by rw [List.length_drop]; omega) (fun j hj => by
      have ej : (segL sh i (n + 1)).getD j 0 = (segM row (b : Int) ((b + n : Nat) : Int)).getD j 0 := by rw [hseg]
      rw [getD_seg _ _ _ _ hj, key j hj] at ej
      have et : ((i : Nat) : Int) + 1 * (j : Int) = ((i + j : Nat) : Int) := by omega
      rw [et, Int.toNat_natCast]
      exact ⟨by omega, by omega, ej⟩)
    have := hm i (by omega) 1 h1
    omega
  · cases both with
    | false => rfl
    | true =>
      rw [Bool.true_and]
      unfold standsP
      rw [List.any_eq_false]
      intro i hi
      rw [List.mem_range, List.length_reverse, hL] at hi
      rw [decide_eq_true_eq, List.length_reverse, hL]
      intro hseg
      have hge := alikeL_ge sh (-1) (n + 1) (row.drop b) ((i + n : Nat) : Int) (by rw [List.length_drop]; omega) (fun j hj => by
        have ej : (segL sh i (n + 1)).getD (n - j) 0 = (segM row (b : Int) ((b + n : Nat) : Int)).reverse.getD (n - j) 0 := by rw [hseg]
        rw [getD_seg _ _ _ _ (by omega), getD_reverse _ n j hL (by omega), key j hj] at ej
        have et : ((i + n : Nat) : Int) + -1 * (j : Int) = ((i + (n - j) : Nat) : Int) := by omega
        rw [et, Int.toNat_natCast]
        exact ⟨by omega, by omega, ej⟩)
      have := hm (i + n) (by omega) (-1) (h2 rfl)
      omega
structure MkOk (both : Bool) (sh row steps : List Int) (b : Nat) (cs : List D) (ms : List Int) : Prop where
  cl : ∀ c ∈ cs, isClip sh.length c = true
  pa : pasteL (il sh) cs = il (row.drop b)
  le : cs.length = ms.length
  lm : ms.length ≤ row.length - b
  ri : ∀ l : Int, l < b → risingP row.length l ms = true
  st : ∀ c ∈ cs, stepOf c ∈ steps
  hd : ∀ m, ms.head? = some m → m = (b : Int)
  nb : ms = [] → row.length ≤ b
  no : ((pairsP ms).map fun p => segM row p.1 p.2).all (noP both sh) = true
theorem mkG_good {sh row steps : List Int} {both : Bool} (hs : ∀ s ∈ steps, s = 1 ∨ s = -1) (h1 : (1 : Int) ∈ steps) (h2 : both = true → (-1 : Int) ∈ steps) : ∀ (k b : Nat), row.length - b < k → b ≤ row.length →
    match mkG sh row steps k b with
    | .inl q => b ≤ q ∧ q < row.length ∧ ∀ p, p < sh.length → sh.getD p 0 ≠ row.getD q 0
    | .inr r => MkOk both sh row steps b r.1 r.2
  | 0, b, h, _ => by omega
  | k + 1, b, h, hbr => by
    by_cases hb : b < row.length
    · obtain ⟨n, p, s, e, hm, hn⟩ := mkB_shape sh row steps b
      have hle := mkB_le e hb
      rw [mkG_step e hb]
      by_cases h0 : n = 0
      · rw [if_pos h0]
        refine ⟨Nat.le_refl _, hb, fun q hq he => ?_⟩
        have := hm q hq 1 h1
        have hge := alikeL_ge sh 1 1 (row.drop b) (q : Nat) (by rw [List.length_drop]; omega) (fun j hj => by
          have : j = 0 := by omega
          subst this
          have et : ((q : Nat) : Int) + 1 * ((0 : Nat) : Int) = (q : Int) := by omega
          rw [et, Int.toNat_natCast, getD_drop]
          exact ⟨by omega, by omega, he⟩)
        omega
      · rw [if_neg h0]
        obtain ⟨g1, g2, g3⟩ := hn (by omega)
        have ih := mkG_good (sh := sh) hs h1 h2 k (b + n) (by omega) hle
        cases hg : mkG sh row steps k (b + n) with
        | inl q =>
          rw [hg] at ih
          exact ⟨by omega, ih.2.1, ih.2.2⟩
        | inr r =>
          rw [hg] at ih
          obtain ⟨cs, ms⟩ := r
          have I : MkOk both sh row steps (b + n) cs ms := ih
          have hcl := mk_clip (hs s g2) (by omega) g1 g3
          refine ⟨fun c hc => ?_, ?_, ?_, ?_, fun l hl => ?_, fun c hc => ?_, fun m hm => ?_, fun q => ?_, ?_⟩
          · rcases List.mem_cons.mp hc with rfl | hc
            · exact hcl
            · exact I.cl c hc
          · show (D.tup [.int (p : Int), .int (n : Int), .int s] :: cs).flatMap (clipD (il sh)) = _
            rw [List.flatMap_cons]
            show clipL (il sh) (p : Int) (n : Int) s ++ pasteL (il sh) cs = _
            rw [clipL_row g3 hle, I.pa, ← List.drop_drop, il, il, ← List.map_append, List.take_append_drop]
          · show cs.length + 1 = ms.length + 1
            rw [I.le]
          · show ms.length + 1 ≤ row.length - b
            have := I.lm
            omega
          · show (decide (l < (b : Int) ∧ (b : Int) < row.length) && risingP row.length (b : Int) ms) = true
            rw [decide_eq_true ⟨hl, by omega⟩, Bool.true_and]
            exact I.ri _ (by omega)
          · rcases List.mem_cons.mp hc with rfl | hc
            · exact g2
            · exact I.st c hc
          · cases hm
            rfl
          · cases q
          · have hno := I.no
            have hhd := I.hd
            cases ms with
            | nil => rfl
            | cons m ms =>
              have em := hhd m rfl
              subst em
              have hrow : b + n < row.length := by
                have := (rising_mono (I.ri ((b : Int)) (by omega)) ((b + n : Nat) : Int) List.mem_cons_self).2
                omega
              show (noP both sh (segM row (b : Int) ((b + n : Nat) : Int)) && ((pairsP (((b + n : Nat) : Int) :: ms)).map fun p => segM row p.1 p.2).all (noP both sh)) = true
              rw [mk_most h1 h2 hm (by omega) hrow, Bool.true_and]
              exact hno
    · have eg : mkG sh row steps (k + 1) b = .inr ([], []) := if_neg hb
      rw [eg]
      have hx : row.drop b = [] := List.drop_eq_nil_of_le (by omega)
      exact ⟨fun c hc => (by cases hc), by show ([] : List D) = il (row.drop b); rw [hx]; rfl, rfl, Nat.zero_le _, fun l _ => rfl, fun c hc => (by cases hc), fun m hm => (by cases hm), fun _ => by omega, rfl⟩
theorem mk_lack {sh row : List Int} {q : Nat} (h : q < row.length) (hn : ∀ p, p < sh.length → sh.getD p 0 ≠ row.getD q 0) : lackP sh row (q : Nat) = true := by
  unfold lackP
  rw [decide_eq_true ⟨by omega, by omega⟩, Bool.true_and, Bool.not_eq_true', List.any_eq_false]
  intro s hs
  rw [decide_eq_true_eq, Int.toNat_natCast]
  obtain ⟨p, hp, e⟩ := List.getElem_of_mem hs
  have := hn p hp
  rw [List.getD_eq_getElem?_getD, List.getElem?_eq_getElem hp] at this
  intro e2
  exact this (e.trans e2)
theorem MkOk.len {both : Bool} {sh row steps : List Int} {cs : List D} {ms : List Int} (M : MkOk both sh row steps 0 cs ms) : (pasteL (il sh) cs).length = row.length := by
  rw [M.pa, List.length_map, List.drop_zero]
theorem MkOk.few {both : Bool} {sh row steps : List Int} {cs : List D} {ms : List Int} (M : MkOk both sh row steps 0 cs ms) (hb : both = false → ∀ s ∈ steps, s = 1) : fewP both sh row cs ms = true := by
  have hr := M.ri (-1) (by omega)
  have hp : pasteI sh cs = row := by
    have := M.pa
    rw [List.drop_zero] at this
    unfold pasteI
    rw [this, asIs_map]
    rfl
  have hk : (both || !backP cs) = true := by
    cases both with
    | true => rfl
    | false =>
      rw [Bool.false_or, Bool.not_eq_true']
      unfold backP
      rw [List.any_eq_false]
      intro c hc
      rw [decide_eq_true_eq, hb rfl _ (M.st c hc)]
      omega
  unfold fewP madeP restP
  rw [decide_eq_true M.le, List.all_eq_true.mpr M.cl, decide_eq_true hp, hk, hr, parts_pairs, M.no]
  rfl
end CL


set_option Elab.async false
set_option linter.all false
set_option maxRecDepth 100000
/-! Either never needs more than forth. -/
namespace CL
open PySem PySem.Spec L2
theorem alike_suffix {sh row : List Int} {b d n p : Nat} (h : n ≤ alikeL sh 1 (p : Nat) (row.drop b)) (hd : d ≤ n) : n - d ≤ alikeL sh 1 ((p + d : Nat) : Int) (row.drop (b + d)) := by
  have hl := alikeL_le sh 1 (row.drop b) (p : Nat)
  rw [List.length_drop] at hl
  refine alikeL_ge sh 1 (n - d) (row.drop (b + d)) ((p + d : Nat) : Int) (by rw [List.length_drop]; omega) (fun i hi => ?_)
  obtain ⟨a1, a2, a3⟩ := alikeL_at sh 1 (row.drop b) (p : Nat) (d + i) (by omega)
  have e : ((p + d : Nat) : Int) + 1 * (i : Int) = (p : Int) + 1 * ((d + i : Nat) : Int) := by omega
  rw [e, getD_drop, show b + d + i = b + (d + i) by omega, ← getD_drop]
  exact ⟨a1, a2, a3⟩
/-- the marks that the one way needs from b2 on are at least those that both need from b1 on, where b1 is not before b2 -/
theorem either_le {sh row : List Int} : ∀ (k2 k1 b1 b2 : Nat), row.length - b1 < k1 → row.length - b2 < k2 → b2 ≤ b1 → b1 ≤ row.length → ∀ {c2 : List D} {m2 : List Int}, mkG sh row [1] k2 b2 = .inr (c2, m2) →
    ∃ c1 m1, mkG sh row [1, -1] k1 b1 = .inr (c1, m1) ∧ m1.length ≤ m2.length
  | 0, k1, b1, b2, _, h2, _, _, _, _, _ => by omega
  | k2 + 1, 0, b1, b2, h1, _, _, _, _, _, _ => by omega
  | k2 + 1, k1 + 1, b1, b2, h1, h2, hb, hr, c2, m2, hg => by
    by_cases e1 : b1 < row.length
    · have e2 : b2 < row.length := by omega
      obtain ⟨n2, p2, s2, f2, g2, w2⟩ := mkB_shape sh row [1] b2
      obtain ⟨n1, p1, s1, f1, g1, w1⟩ := mkB_shape sh row [1, -1] b1
      have l2 := mkB_le f2 e2
      have l1 := mkB_le f1 e1
      rw [mkG_step f2 e2] at hg
      by_cases z2 : n2 = 0
      · rw [if_pos z2] at hg
        cases hg
      · rw [if_neg z2] at hg
        cases hg2 : mkG sh row [1] k2 (b2 + n2) with
        | inl q => rw [hg2] at hg; cases hg
        | inr r =>
          rw [hg2] at hg
          obtain ⟨c, m⟩ := r
          injection hg with hg
          injection hg with hc hm
          subst hc
          subst hm
          by_cases far : b2 + n2 ≤ b1
          · obtain ⟨c1, m1, i1, i2⟩ := either_le k2 (k1 + 1) b1 (b2 + n2) h1 (by omega) far hr hg2
            exact ⟨c1, m1, i1, by rw [List.length_cons]; omega⟩
          · obtain ⟨a1, a2, a3⟩ := w2 (by omega)
            have es : s2 = 1 := by simpa using a2
            subst es
            have hs := alike_suffix (sh := sh) (row := row) (b := b2) (d := b1 - b2) (n := n2) (p := p2) (by omega) (by omega)
            rw [show b2 + (b1 - b2) = b1 by omega] at hs
            have hp : p2 + (b1 - b2) < sh.length := by
              obtain ⟨q1, q2, _⟩ := alikeL_at sh 1 (row.drop b2) (p2 : Nat) (b1 - b2) (by omega)
              omega
            have := g1 (p2 + (b1 - b2)) hp 1 (by simp)
            obtain ⟨c1, m1, i1, i2⟩ := either_le k2 k1 (b1 + n1) (b2 + n2) (by omega) (by omega) (by omega) l1 hg2
            rw [mkG_step f1 e1, if_neg (by omega), i1]
            exact ⟨_, _, rfl, by rw [List.length_cons, List.length_cons]; omega⟩
    · have eg : mkG sh row [1, -1] (k1 + 1) b1 = .inr ([], []) := if_neg e1
      exact ⟨[], [], eg, Nat.zero_le _⟩
theorem lack_both {sh row : List Int} {q : Nat} (h : mkR sh row [1] = .inl q) : ∃ q', mkR sh row [1, -1] = .inl q' := by
  have g1 := mkG_good (sh := sh) (row := row) (steps := [1]) (both := false) (by simp) (by simp) (by simp) (row.length + 1) 0 (by omega) (Nat.zero_le _)
  have g2 := mkG_good (sh := sh) (row := row) (steps := [1, -1]) (both := true) (by simp) (by simp) (by simp) (row.length + 1) 0 (by omega) (Nat.zero_le _)
  unfold mkR at h ⊢
  rw [h] at g1
  cases h2 : mkG sh row [1, -1] (row.length + 1) 0 with
  | inl q' => exact ⟨q', rfl⟩
  | inr r =>
    rw [h2] at g2
    exfalso
    have M : MkOk true sh row [1, -1] 0 r.1 r.2 := g2
    have hp := M.pa
    rw [List.drop_zero] at hp
    have hq : D.int (row.getD q 0) ∈ il row := by
      rw [List.getD_eq_getElem?_getD, List.getElem?_eq_getElem g1.2.1]
      exact List.mem_map_of_mem (List.getElem_mem _)
    rw [← hp] at hq
    obtain ⟨c, hc, hm⟩ := List.mem_flatMap.mp hq
    have hcl := M.cl c hc
    obtain ⟨p, m, s, rfl⟩ := isClip_shape hcl
    obtain ⟨i, hi, e⟩ := List.mem_map.mp (show D.int (row.getD q 0) ∈ clipL (il sh) p m s from hm)
    rw [List.mem_range] at hi
    obtain ⟨b1, b2⟩ := clip_in hcl hi
    rw [getD_il _ _ (by omega)] at e
    injection e with e
    exact g1.2.2 (p + s * (i : Nat)).toNat (by omega) e
end CL


set_option Elab.async false
set_option linter.all false
set_option maxRecDepth 100000
set_option maxHeartbeats 4000000
namespace CL
open PySem PySem.Spec L2
def m_lam_0 : MR := (mCall 2 f_forth (aCons (mBin ixD (mVar 0) (mC (.int 0))) (aCons (mBin ixD (mVar 0) (mC (.int 1))) aNil)))
def m_lam_1 : MR := (rE (mShow f_Forth_shows f_Either_shows f_Lacks_shows f_Grown_shows (mVar 0) (aCons (mBin ixD (mVar 1) (mC (.int 0))) (aCons (mBin ixD (mVar 1) (mC (.int 1))) aNil))))
def m_lam_2 : MR := (mCall 2 f_either (aCons (mBin ixD (mVar 0) (mC (.int 0))) (aCons (mBin ixD (mVar 0) (mC (.int 1))) aNil)))
def m_lam_3 : MR := (rE (mShow f_Forth_shows f_Either_shows f_Lacks_shows f_Grown_shows (mVar 0) (aCons (mBin ixD (mVar 1) (mC (.int 0))) (aCons (mBin ixD (mVar 1) (mC (.int 1))) aNil))))
def m_lam_4 : MR := (mCall 1 f_own (aCons (mVar 0) aNil))
def m_lam_5 : MR := (rE (mShow f_Forth_shows f_Either_shows f_Lacks_shows f_Grown_shows (mVar 0) (aCons (mVar 1) aNil)))
def m_lam_6 : MR := (rL (mCall 2 f_pasted (aCons (mBin ixD (mVar 0) (mC (.int 0))) (aCons (mBin ixD (mVar 0) (mC (.int 1))) aNil))))
def m_lam_7 : MR := (rL (mCall 1 f_grown (aCons (mVar 0) aNil)))
def lr_all : LR
  | 0 => some (1, m_lam_0)
  | 1 => some (2, m_lam_1)
  | 2 => some (1, m_lam_2)
  | 3 => some (2, m_lam_3)
  | 4 => some (1, m_lam_4)
  | 5 => some (2, m_lam_5)
  | 6 => some (1, m_lam_6)
  | 7 => some (1, m_lam_7)
  | _ => none
/-! ### _law_row -/
def m_xlaw_row : MS :=
  (sRet (mL (mComp (.nm 3) [3] (mOf rng1 (aCons (mVar 1) aNil)) (mBin modD (mBin addD (mBin fdivD (mUn absD (mBin ixD (mVar 0) (mBin modD (mBin addD (mVar 3) (mVar 2)) (mUn lenD (mVar 0))))) (mBin addD (mC (.int 1)) (mVar 2))) (mBin mulD (mVar 3) (mVar 2))) (mC (.int 4))))))
def f_xlaw_row : List D → Rs D := runF 4 m_xlaw_row
/-! ### _law_told: by hand -/
/-! ### _law_spoiled: by hand -/
/-! ### _law_copied: by hand -/
/-! ### _law_laid: by hand -/
/-! ### _law_door_right -/
def m_law_door_right : MS :=
  (sSeq (sSetR 3 (mCall 1 f_law_copied (aCons (mVar 1) aNil)))
  (sSeq (sSetR 4 (rzN (mCallR lr_all 0 (aCons (mVar 3) aNil))))
  (sSeq (sIf (bz (bV (mBin neB (mVar 3) (mVar 1))))
  (sRet (mC (.bl false)))
  sNil)
  (sSeq (sSetR 5 (rzN (mCall 1 f_law_copied (aCons (mVar 4) aNil))))
  (sSeq (sSpoil 4)
  (sSeq (sIf (bz (bV (mBin neB (mR (mCallR lr_all 0 (aCons (mVar 3) aNil))) (mVar 5))))
  (sRet (mC (.bl false)))
  sNil)
  (sSeq (sLaid 3 2)
  (sSeq (sIf (bz (bOr (bV (mBin neB (mR (mCallR lr_all 0 (aCons (mVar 3) aNil))) (mR (mCallR lr_all 0 (aCons (mR (mCall 1 f_law_copied (aCons (mVar 2) aNil))) aNil))))) (bV (mBin neB (mVar 3) (mVar 2)))))
  (sRet (mC (.bl false)))
  sNil)
  (sSeq (sLaid 3 1)
  (sRet (mAnd (mBin eqB (mR (mCallR lr_all 0 (aCons (mVar 3) aNil))) (mVar 5)) (mBin eqB (mVar 3) (mVar 1)))))))))))))
def f_law_door_right : List D → Rs D := runF 6 m_law_door_right
/-! ### _law_free_right -/
def m_law_free_right : MS :=
  (sSeq (sSetR 4 (mCall 1 f_law_copied (aCons (mVar 2) aNil)))
  (sSeq (sFor (.nm 5) (mSeq (mTup (aCons (mVar 2) (aCons (mVar 2) (aCons (mVar 3) (aCons (mVar 2) aNil))))))
  (sSeq (sLaid 4 5)
  (sSeq (sSetR 6 (rzN (mCallR lr_all 0 (aCons (mVar 4) aNil))))
  (sSeq (sIf (bz (bOr (bV (mBin neB (mVar 4) (mVar 5))) (bV (mBin (isD true) (mR (mCallR lr_all 1 (aCons (mVar 6) (aCons (mR (mCall 1 f_law_copied (aCons (mVar 5) aNil))) aNil)))) (mC (.bl true))))))
  (sRet (mC (.bl false)))
  sNil)
  (sSpoilT 6)))))
  (sRet (mBin eqB (mVar 4) (mVar 2)))))
def f_law_free_right : List D → Rs D := runF 7 m_law_free_right
/-! ### law -/
def m_law : MS :=
  (sSeq (sSet 1 (mIf (bV (mBin neS (mVar 0) (mL (mLst aNil)))) (mL (mCutS (mVar 0) oNone (oSome (mC (.int 63))))) (mL (mLst (aCons (mC (.int 5)) aNil)))))
  (sSeq (sSet 2 (mUn absD (mSum (iE (mVar 1)))))
  (sSeq (sParR 3 4 (rL (mLst aNil)) (rL (mLst aNil)))
  (sSeq (sSet 5 (mBin addD (mC (.int 2)) (mBin modD (mVar 2) (mC (.int 8)))))
  (sSeq (sPar3 6 7 8 (aCons (mCall 3 f_xlaw_row (aCons (mVar 1) (aCons (mVar 5) (aCons (mC (.int 0)) aNil)))) (aCons (mCall 3 f_xlaw_row (aCons (mVar 1) (aCons (mVar 5) (aCons (mC (.int 3)) aNil)))) (aCons (mL (mLst (aCons (mC (.int 0)) (aCons (mC (.int 1)) (aCons (mC (.int 2)) (aCons (mC (.int 3)) (aCons (mC (.int 1)) (aCons (mC (.int 0)) (aCons (mC (.int 2)) aNil))))))))) aNil))))
  (sSeq (sFor (.tp [9, 10]) (mSeq (mTup (aCons (mTup (aCons (mL (mLst (aCons (mVar 8) (aCons (mVar 6) aNil)))) (aCons (mL (mLst (aCons (mL (mRev (iE (mVar 8)))) (aCons (mVar 7) aNil)))) aNil))) (aCons (mTup (aCons (mL (mLst (aCons (mVar 6) (aCons (mVar 7) aNil)))) (aCons (mL (mLst (aCons (mVar 7) (aCons (mVar 6) aNil)))) aNil))) aNil))))
  (sSeq (sApp 4 (mTup (aCons (mC (.lam 0 [])) (aCons (mC (.lam 1 [])) (aCons (mVar 9) (aCons (mVar 10) aNil))))))
  (sApp 4 (mTup (aCons (mC (.lam 2 [])) (aCons (mC (.lam 3 [])) (aCons (mVar 9) (aCons (mVar 10) aNil))))))))
  (sSeq (sApp 4 (mTup (aCons (mC (.lam 4 [])) (aCons (mC (.lam 5 [])) (aCons (mVar 6) (aCons (mVar 7) aNil))))))
  (sSeq (sPar 11 12 (aCons (mL (mLst (aCons (mTup (aCons (mC (.int 0)) (aCons (mC (.int 2)) (aCons (mC (.int 1)) aNil)))) (aCons (mTup (aCons (mC (.int 5)) (aCons (mC (.int 3)) (aCons (mUn negD (mC (.int 1))) aNil)))) aNil)))) (aCons (mL (mLst (aCons (mTup (aCons (mC (.int 6)) (aCons (mC (.int 4)) (aCons (mUn negD (mC (.int 1))) aNil)))) (aCons (mTup (aCons (mC (.int 1)) (aCons (mC (.int 1)) (aCons (mC (.int 1)) aNil)))) aNil)))) aNil)))
  (sSeq (sApp 3 (mTup (aCons (mC (.lam 6 [])) (aCons (mL (mLst (aCons (mVar 8) (aCons (mVar 11) aNil)))) (aCons (mL (mLst (aCons (mL (mRev (iE (mVar 8)))) (aCons (mVar 12) aNil)))) aNil)))))
  (sSeq (sPar 13 14 (aCons (mL (mLst (aCons (mTup (aCons (mC (.str "put")) (aCons (mC (.int 5)) aNil))) (aCons (mTup (aCons (mC (.str "copy")) (aCons (mC (.int 0)) (aCons (mC (.int 4)) aNil)))) (aCons (mTup (aCons (mC (.str "put")) (aCons (mC (.int 6)) aNil))) aNil))))) (aCons (mL (mLst (aCons (mTup (aCons (mC (.str "put")) (aCons (mC (.int 7)) aNil))) (aCons (mTup (aCons (mC (.str "put")) (aCons (mC (.int 8)) aNil))) (aCons (mTup (aCons (mC (.str "copy")) (aCons (mC (.int 1)) (aCons (mC (.int 3)) aNil)))) aNil))))) aNil)))
  (sSeq (sApp 3 (mTup (aCons (mC (.lam 7 [])) (aCons (mVar 13) (aCons (mVar 14) aNil)))))
  (sSeq (sIf (bz (bNot (bV (mAll (mComp (.tp [15, 6, 7]) [15, 6, 7] (mSeq (mVar 3)) (mCall 3 f_law_door_right (aCons (mVar 15) (aCons (mVar 6) (aCons (mVar 7) aNil)))))))))
  (sRet (mC (.bl false)))
  sNil)
  (sRet (mAll (mComp (.tp [15, 16, 6, 7]) [15, 16, 6, 7] (mSeq (mVar 4)) (mCall 4 f_law_free_right (aCons (mVar 15) (aCons (mVar 16) (aCons (mVar 6) (aCons (mVar 7) aNil))))))))))))))))))))
def f_law : List D → Rs D := runF 17 m_law
end CL


set_option Elab.async false
set_option linter.all false
set_option maxRecDepth 100000
/-! k09: copies, the doors whose answers are free. -/
namespace CL
open PySem PySem.Spec L2
theorem plain_il (xs : List Int) : (il xs).all plainD = true := by
  rw [List.all_eq_true]
  intro d hd
  obtain ⟨x, _, rfl⟩ := List.mem_map.mp hd
  rfl
/-! ### copies -/
theorem copA_plain {d : D} (hd : plainD d = true) : f_copA [d] = .ok d := by
  have : mIs0 (frz (st0 2 [d])) = .ok false := isL_ok (m := mVar 0) (d := d) rfl (plainD_is hd)
  refine runF_rt (sRet_ok ?_)
  unfold mIf
  rw [this]
  rfl
theorem copB_flat {ds : List D} (hd : ds.all plainD = true) (hl : ds.length ≤ sizeLine) : f_copB [.lst ds] = .ok (.own ds) := by
  refine runR_rl ?_
  unfold m_copB sRetR rIf
  rw [show mIs0 (st0 2 [.lst ds]) = .ok true from rfl, bnd_ok, if_pos rfl]
  unfold rL
  rw [mComp_map (ds := ds) id rfl hl fun d hd' => mCall_is (ds := [d]) rfl rfl (copA_plain (List.all_eq_true.mp hd d hd')), List.map_id]
  rfl
theorem compL_map {me : ML} {z : List Sd} : ∀ (gs : List (List D)), (∀ g ∈ gs, me (z.set 1 (.sh (.lst g))) = .ok g) → compL (.nm 1) me z (gs.map D.lst) = .ok gs
  | [], _ => rfl
  | g :: gs, h => by
    rw [List.map_cons]
    simp only [compL, setT, bnd_ok]
    rw [h g List.mem_cons_self, compL_map gs fun x hx => h x (List.mem_cons_of_mem _ hx)]
    rfl
theorem lOwn_ok {mr : MR} {z : List Sd} {ds : List D} (h : mr z = .ok (.own ds)) : lOwn mr z = .ok ds := by
  unfold lOwn
  rw [h]
  rfl
theorem copC_nest {gs : List (List D)} (hd : ∀ g ∈ gs, g.all plainD = true ∧ g.length ≤ sizeLine) (hl : gs.length ≤ sizeLine) : f_copC [.lst (gs.map D.lst)] = .ok (.obj none gs) := by
  have e : m_copC f_copB (st0 2 [.lst (gs.map D.lst)]) = .ok (.ro none gs) := by
    unfold m_copC sRetR rIf
    rw [show mIs0 (st0 2 [.lst (gs.map D.lst)]) = .ok true from rfl, bnd_ok, if_pos rfl]
    unfold mCompO
    rw [show mSeq (mVar 0) (st0 2 [.lst (gs.map D.lst)]) = .ok (gs.map D.lst) from rfl, bnd_ok, if_pos (by rw [List.length_map]; exact hl), compL_map gs fun g hg => ?_]
    · rfl
    · exact lOwn_ok (mCall_is (ds := [.lst g]) rfl rfl (copB_flat (hd g hg).1 (hd g hg).2))
  show (noX (m_copC f_copB (st0 2 [.lst (gs.map D.lst)]))).bnd retR = _
  rw [e]
  rfl
/-- what is handed in: a row, or a sheet and a row -/
inductive Th where
  | one (ds : List D) | two (a b : List D)
def Th.ok : Th → Prop
  | .one ds => ds.all plainD = true ∧ ds.length ≤ 100 ∧ pl 2 (.lst ds)
  | .two a b => (a.all plainD = true ∧ a.length ≤ 100 ∧ pl 2 (.lst a)) ∧ b.all plainD = true ∧ b.length ≤ 100 ∧ pl 2 (.lst b)
def Th.s : Th → Sd
  | .one ds => .ow ds
  | .two a b => .ob none [a, b]
def Th.d : Th → D
  | .one ds => .lst ds
  | .two a b => .lst [.lst a, .lst b]
def Th.r : Th → Rv
  | .one ds => .own ds
  | .two a b => .obj none [a, b]
def Th.like : Th → Th → Prop
  | .one ds, .one es => ds.length = es.length
  | .two a b, .two c d => a.length = c.length ∧ b.length = d.length
  | _, _ => False
theorem Th.frz (t : Th) : frzS t.s = .sh t.d := by cases t <;> rfl
theorem Th.rs (t : Th) : rvS t.r = t.s := by cases t <;> rfl
theorem Th.rd (t : Th) : rvD t.r = t.d := by cases t <;> rfl
theorem hun {n : Nat} (h : n ≤ 100) : n ≤ sizeLine := le_line (Nat.le_trans h (by decide))
theorem Th.pl {t : Th} (h : t.ok) : CL.pl 3 t.d := by
  cases t with
  | one ds => exact (h.2.2).mono (by decide)
  | two a b =>
    refine pl_lst ?_
    simp only [List.forall_mem_cons]
    exact ⟨h.1.2.2, h.2.2.2, fun _ h => nomatch h⟩
theorem Th.cop {t : Th} (h : t.ok) : f_law_copied [t.d] = .ok t.r := by
  cases t with
  | one ds =>
    have e : f_law_copied [.lst ds] = f_copB [.lst ds] := by
      cases ds with
      | nil => rfl
      | cons d ds =>
        have hd := List.all_eq_true.mp h.1 d List.mem_cons_self
        cases d <;> first | rfl | cases hd
    exact e.trans (copB_flat h.1 (hun h.2.1))
  | two a b => exact copC_nest (gs := [a, b]) (by simp only [List.forall_mem_cons]; exact ⟨⟨h.1.1, hun h.1.2.1⟩, ⟨h.2.1, hun h.2.2.1⟩, fun _ h => nomatch h⟩) (le_line (by show 2 ≤ 16777216; decide))
theorem Th.laid {t t' : Th} (h : t.ok) (h' : t'.ok) (hk : t.like t') {i j : Nat} {z : List Sd} (h1 : z[i]? = some t.s) (h2 : z[j]? = some (.sh t'.d)) : sLaid i j z = .ok (.nx (z.set i t'.s)) := by
  unfold sLaid
  rw [h1, h2]
  match t, t', h, h', hk with
  | .one ds, .one es, h, h', hk =>
    show (if ds.length = es.length ∧ ds.all plainD = true ∧ es.all plainD = true then Rs.ok (Fw.nx (z.set i (.ow es))) else .stuck) = _
    rw [if_pos ⟨hk, h.1, h'.1⟩]
    rfl
  | .two a b, .two c d, h, h', hk =>
    show (if alikeLs [a, b] [c, d] = true then Rs.ok (Fw.nx (z.set i (.ob none [c, d]))) else .stuck) = _
    rw [if_pos]
    · rfl
    · unfold alikeLs
      rw [decide_eq_true hk.1, h.1.1, h'.1.1]
      unfold alikeLs
      rw [decide_eq_true hk.2, h.2.1, h'.2.1]
      rfl
/-! ### answers -/
def GoodRv (x : Rv) : Prop := (∃ q : Int, x = .val (.ins 2 [.int q])) ∨ ∃ c fs, x = .obj (some c) fs ∧ (c = 0 ∨ c = 1 ∨ c = 3) ∧ fs.all (fun ds => ds.all plainD && decide (ds.length < 1000)) = true ∧ fs.length < 1000
theorem noLst_all : ∀ {ds : List D}, ds.all plainD = true → noLstAll ds = true
  | [], _ => by rw [noLstAll]
  | d :: ds, h => by
    rw [List.all_cons, Bool.and_eq_true] at h
    rw [noLstAll, plainD_no h.1, noLst_all h.2]
    rfl
theorem GoodRv.rvN {x : Rv} (h : GoodRv x) : CL.rvN x = true := by
  rcases h with ⟨q, rfl⟩ | ⟨c, fs, rfl, _, h, _⟩
  · simp [CL.rvN, noLst, noLstAll]
  · show fs.all noLstAll = true
    rw [List.all_eq_true] at h ⊢
    intro ds hd
    have := h ds hd
    rw [Bool.and_eq_true] at this
    exact noLst_all this.1
theorem GoodRv.frz {x : Rv} (h : GoodRv x) : frzS (rvS x) = .sh (rvD x) := by
  rcases h with ⟨q, rfl⟩ | ⟨c, fs, rfl, _, h, _⟩ <;> rfl
theorem GoodRv.spoil {x : Rv} (h : GoodRv x) {i : Nat} {z : List Sd} (hz : z[i]? = some (rvS x)) : ∃ y, sSpoilT i z = .ok (.nx (z.set i y)) := by
  unfold sSpoilT
  rw [hz]
  rcases h with ⟨q, rfl⟩ | ⟨c, fs, rfl, h1, h2, h3⟩
  · refine ⟨.sh (.ins 2 [.int q]), ?_⟩
    show Rs.ok (Fw.nx z) = _
    congr 2
    apply List.ext_getElem?
    intro j
    by_cases hj : i = j
    · subst hj
      have hl := (List.getElem?_eq_some_iff.mp hz).1
      rw [List.getElem?_set_self hl, hz]
      rfl
    · rw [List.getElem?_set_ne hj]
  · refine ⟨.no, ?_⟩
    show (if (c = 0 ∨ c = 1 ∨ c = 3) ∧ fs.all (fun ds => ds.all plainD && decide (ds.length < 1000)) = true ∧ fs.length < 1000 then Rs.ok (Fw.nx (z.set i .no)) else .stuck) = _
    rw [if_pos ⟨h1, h2, h3⟩]
def AskOk (ia ih : Nat) (t : Th) : Prop := ∃ x, callR lr_all (.lam ia []) (.ok [t.d]) = .ok x ∧ GoodRv x ∧ callR lr_all (.lam ih []) (.ok [rvD x, t.d]) = .ok (.val (.bl true))
/-! ### a free door -/
abbrev m_fr : MS := sSeq (sLaid 4 5)
  (sSeq (sSetR 6 (rzN (mCallR lr_all 0 (aCons (mVar 4) aNil))))
  (sSeq (sIf (bz (bOr (bV (mBin neB (mVar 4) (mVar 5))) (bV (mBin (isD true) (mR (mCallR lr_all 1 (aCons (mVar 6) (aCons (mR (mCall 1 f_law_copied (aCons (mVar 5) aNil))) aNil)))) (mC (.bl true))))))
  (sRet (mC (.bl false)))
  sNil)
  (sSpoilT 6)))
abbrev zF (ia ih : Nat) (o p : Th) (a4 a5 a6 : Sd) : List Sd := [.sh (.lam ia []), .sh (.lam ih []), .sh o.d, .sh p.d, a4, a5, a6]
theorem sIf_z {t : MB} {m : MS} {z : List Sd} (h : t (frz z) = .ok false) : sIf (bz t) m sNil z = .ok (.nx z) := (sIf_f (show bz t z = .ok false from h)).trans rfl
theorem free_turn {ia ih : Nat} {o p t t' : Th} {a6 : Sd} (h : t.ok) (h' : t'.ok) (hk : t.like t') (ha : AskOk ia ih t') : ∃ b6, m_fr (zF ia ih o p t.s (.sh t'.d) a6) = .ok (.nx (zF ia ih o p t'.s (.sh t'.d) b6)) := by
  obtain ⟨x, e1, gx, e2⟩ := ha
  obtain ⟨y, ey⟩ := gx.spoil (i := 6) (z := zF ia ih o p t'.s (.sh t'.d) (rvS x)) rfl
  refine ⟨y, (sSeq_nx (z' := zF ia ih o p t'.s (.sh t'.d) a6) ((Th.laid h h' hk (i := 4) (j := 5) rfl rfl).trans rfl)).trans ?_⟩
  have ez : frz (zF ia ih o p t'.s (.sh t'.d) a6) = zF ia ih o p (.sh t'.d) (.sh t'.d) (frzS a6) := by
    show [frzS _, frzS _, frzS _, frzS _, frzS t'.s, frzS _, frzS a6] = _
    rw [t'.frz]
    rfl
  have ez2 : frz (zF ia ih o p t'.s (.sh t'.d) (rvS x)) = zF ia ih o p (.sh t'.d) (.sh t'.d) (.sh (rvD x)) := by
    show [frzS _, frzS _, frzS _, frzS _, frzS t'.s, frzS _, frzS (rvS x)] = _
    rw [t'.frz, gx.frz]
    rfl
  refine (sSeq_nx (z' := zF ia ih o p t'.s (.sh t'.d) (rvS x)) ((sSetR_ok (x := x) ?_).trans rfl)).trans ?_
  · unfold rzN
    rw [ez]
    rw [show mCallR lr_all 0 (aCons (mVar 4) aNil) (zF ia ih o p (.sh t'.d) (.sh t'.d) (frzS a6)) = callR lr_all (.lam ia []) (.ok [t'.d]) from rfl, e1, bnd_ok, if_pos gx.rvN]
  refine (sSeq_nx (sIf_z ?_)).trans (ey.trans rfl)
  rw [ez2]
  refine (bOr_f (bV_b (mBin_ok (x := t'.d) (y := t'.d) rfl rfl (neB_refl (Th.pl h') (by decide))))).trans ?_
  refine bV_b (mBin_ok (x := .bl true) (y := .bl true) (mR_ok (x := .val (.bl true)) ?_) rfl rfl)
  have ec : aCons (mVar 6) (aCons (mR (mCall 1 f_law_copied (aCons (mVar 5) aNil))) aNil) (zF ia ih o p (.sh t'.d) (.sh t'.d) (.sh (rvD x))) = .ok [rvD x, t'.d] :=
    aCons_ok rfl (aCons_ok ((mR_ok (mCall_is (ds := [t'.d]) rfl rfl (Th.cop h'))).trans (by rw [t'.rd])) rfl)
  show callR lr_all (.lam ih []) (aCons (mVar 6) (aCons (mR (mCall 1 f_law_copied (aCons (mVar 5) aNil))) aNil) (zF ia ih o p (.sh t'.d) (.sh t'.d) (.sh (rvD x)))) = _
  rw [ec]
  exact e2
theorem Th.self (t : Th) : t.like t := by cases t <;> simp [Th.like]
theorem free_true {ia ih : Nat} {o p : Th} (ho : o.ok) (hp : p.ok) (h1 : o.like p) (h2 : p.like o) (ao : AskOk ia ih o) (ap : AskOk ia ih p) : f_law_free_right [.lam ia [], .lam ih [], o.d, p.d] = .ok (.bl true) := by
  refine runF_rt ?_
  unfold m_law_free_right
  refine (sSeq_nx (z' := zF ia ih o p o.s .no .no) ((sSetR_ok (mCall_is (ds := [o.d]) rfl rfl (Th.cop ho))).trans (by rw [o.rs]; rfl))).trans ?_
  obtain ⟨c1, t1⟩ := free_turn (a6 := .no) (o := o) (p := p) ho ho o.self ao
  obtain ⟨c2, t2⟩ := free_turn (a6 := c1) (o := o) (p := p) ho ho o.self ao
  obtain ⟨c3, t3⟩ := free_turn (a6 := c2) (o := o) (p := p) ho hp h1 ap
  obtain ⟨c4, t4⟩ := free_turn (a6 := c3) (o := o) (p := p) hp ho h2 ao
  refine (sSeq_nx (z' := zF ia ih o p o.s (.sh o.d) c4) ((sFor_ok (ds := [o.d, o.d, p.d, o.d]) (mSeq_ok (mTup_ok (ds := [o.d, o.d, p.d, o.d]) rfl (le_line (by show 4 ≤ 16777216; decide))) rfl)).trans ?_)).trans ?_
  · exact (forD_nx (z1 := zF ia ih o p o.s (.sh o.d) .no) rfl t1).trans ((forD_nx (z1 := zF ia ih o p o.s (.sh o.d) c1) rfl t2).trans ((forD_nx (z1 := zF ia ih o p o.s (.sh p.d) c2) rfl t3).trans ((forD_nx (z1 := zF ia ih o p p.s (.sh o.d) c3) rfl t4).trans rfl)))
  · refine sRet_ok (mBin_ok (x := o.d) (y := o.d) ?_ rfl (eqB_refl (Th.pl ho) (by decide)))
    show (match some (frzS o.s) with | some (.sh d) => Rs.ok d | _ => .stuck) = _
    rw [o.frz]
end CL


set_option Elab.async false
set_option linter.all false
set_option maxRecDepth 100000
/-! k09: the doors, the law. -/
namespace CL
open PySem PySem.Spec L2
theorem show0 {f0 f1 f2 f3 : List D → Rs D} {m : M} {mes : ML} {z : List Sd} {fs : List D} {d e : D} {r : Rs D} (h1 : m z = .ok (.ins 0 fs)) (h2 : mes z = .ok [d, e]) (h3 : f0 [.ins 0 fs, d, e] = r) : mShow f0 f1 f2 f3 m mes z = r := by
  unfold mShow
  rw [h1, bnd_ok]
  show (mes z).bnd _ = _
  rw [h2]
  exact h3
theorem show1 {f0 f1 f2 f3 : List D → Rs D} {m : M} {mes : ML} {z : List Sd} {fs : List D} {d e : D} {r : Rs D} (h1 : m z = .ok (.ins 1 fs)) (h2 : mes z = .ok [d, e]) (h3 : f1 [.ins 1 fs, d, e] = r) : mShow f0 f1 f2 f3 m mes z = r := by
  unfold mShow
  rw [h1, bnd_ok]
  show (mes z).bnd _ = _
  rw [h2]
  exact h3
theorem show2 {f0 f1 f2 f3 : List D → Rs D} {m : M} {mes : ML} {z : List Sd} {fs : List D} {d e : D} {r : Rs D} (h1 : m z = .ok (.ins 2 fs)) (h2 : mes z = .ok [d, e]) (h3 : f2 [.ins 2 fs, d, e] = r) : mShow f0 f1 f2 f3 m mes z = r := by
  unfold mShow
  rw [h1, bnd_ok]
  show (mes z).bnd _ = _
  rw [h2]
  exact h3
theorem show3 {f0 f1 f2 f3 : List D → Rs D} {m : M} {mes : ML} {z : List Sd} {fs : List D} {d : D} {r : Rs D} (h1 : m z = .ok (.ins 3 fs)) (h2 : mes z = .ok [d]) (h3 : f3 [.ins 3 fs, d] = r) : mShow f0 f1 f2 f3 m mes z = r := by
  unfold mShow
  rw [h1, bnd_ok]
  show (mes z).bnd _ = _
  rw [h2]
  exact h3
theorem rE_ok {m : M} {z : List Sd} {d : D} (h : m z = .ok d) : rE m z = .ok (.val d) := by unfold rE; rw [h]; rfl
theorem callR_lam {i n : Nat} {m : MR} {ds : List D} {x : Rs Rv} (h : lr_all i = some (n, m)) (hl : ds.length = n) (hx : m (ds.map .sh) = x) : callR lr_all (.lam i []) (.ok ds) = x := by
  unfold callR
  dsimp only
  rw [h]
  dsimp only
  rw [bnd_ok, if_pos hl]
  exact hx
/-! ### forth, either -/
theorem MkOk.in_ {both : Bool} {sh row steps : List Int} {cs : List D} {ms : List Int} (M : MkOk both sh row steps 0 cs ms) (h1 : sh.length ≤ 100) (h2 : row.length ≤ 100) : InOk sh row cs ms := by
  have hh : BIG = 100000 := rfl
  have h3 := M.le
  have h4 := M.lm
  have h5 := M.len
  exact ⟨by omega, by omega, by omega, by omega, fun c hc => isClip_ok (M.cl c hc), fun _ => by omega⟩
theorem clip_plain {n : Nat} {c : D} (h : isClip n c = true) : plainD c = true := by
  obtain ⟨p, m, s, rfl⟩ := isClip_shape h
  simp [plainD, noLstAll, noLst]
theorem good_mk {both : Bool} {sh row steps : List Int} {c : Nat} {cs : List D} {ms : List Int} (hc : c = 0 ∨ c = 1 ∨ c = 3) (M : MkOk both sh row steps 0 cs ms) (h2 : row.length ≤ 100) : GoodRv (.obj (some c) [cs, il ms]) := by
  have h3 := M.le
  have h4 := M.lm
  refine .inr ⟨c, _, rfl, hc, ?_, by show 2 < 1000; decide⟩
  rw [List.all_eq_true]
  simp only [List.forall_mem_cons]
  refine ⟨?_, ?_, fun _ h => nomatch h⟩
  · rw [Bool.and_eq_true, decide_eq_true_eq]
    exact ⟨List.all_eq_true.mpr fun d hd => clip_plain (M.cl d hd), by omega⟩
  · rw [Bool.and_eq_true, decide_eq_true_eq]
    exact ⟨plain_il ms, by rw [List.length_map]; omega⟩
theorem ask_forth {A B : List Int} (h1 : A.length ≤ 100) (h2 : B.length ≤ 100) : AskOk 0 1 (.two (il A) (il B)) := by
  have hh : BIG = 100000 := rfl
  have eF := forth_eq A B (by omega) (by omega)
  have hg := mkG_good (sh := A) (row := B) (steps := [1]) (both := false) (by simp) (by simp) (by simp) (B.length + 1) 0 (by omega) (Nat.zero_le _)
  have hr : mkR A B [1] = mkG A B [1] (B.length + 1) 0 := rfl
  have e0 : callR lr_all (.lam 0 []) (.ok [(Th.two (il A) (il B)).d]) = f_forth [.lst (il A), .lst (il B)] := callR_lam rfl rfl (mCall_is (ds := [.lst (il A), .lst (il B)]) rfl rfl rfl)
  rw [eF, hr] at e0
  cases hm : mkG A B [1] (B.length + 1) 0 with
  | inl q =>
    rw [hm] at hg e0
    obtain ⟨_, g1, g2⟩ := hg
    refine ⟨_, e0, .inl ⟨(q : Nat), rfl⟩, callR_lam rfl rfl (rE_ok (show2 (fs := [.int (q : Nat)]) (d := .lst (il A)) (e := .lst (il B)) rfl rfl ?_))⟩
    rw [lacks_shows_eq, mk_lack g1 g2]
  | inr r =>
    rw [hm] at hg e0
    obtain ⟨cs, ms⟩ := r
    refine ⟨_, e0, good_mk (.inl rfl) hg h2, callR_lam rfl rfl (rE_ok (show0 (fs := [.lst cs, .lst (il ms)]) (d := .lst (il A)) (e := .lst (il B)) rfl rfl ?_))⟩
    rw [forth_shows_eq (hg.in_ h1 h2), hg.few (by simp)]
theorem ask_either {A B : List Int} (h1 : A.length ≤ 100) (h2 : B.length ≤ 100) : AskOk 2 3 (.two (il A) (il B)) := by
  have hh : BIG = 100000 := rfl
  have eF := either_eq A B (by omega) (by omega)
  have hg := mkG_good (sh := A) (row := B) (steps := [1, -1]) (both := true) (by simp) (by simp) (by simp) (B.length + 1) 0 (by omega) (Nat.zero_le _)
  have hr : mkR A B [1, -1] = mkG A B [1, -1] (B.length + 1) 0 := rfl
  have e0 : callR lr_all (.lam 2 []) (.ok [(Th.two (il A) (il B)).d]) = f_either [.lst (il A), .lst (il B)] := callR_lam rfl rfl (mCall_is (ds := [.lst (il A), .lst (il B)]) rfl rfl rfl)
  rw [eF, hr] at e0
  cases hm : mkG A B [1, -1] (B.length + 1) 0 with
  | inl q =>
    rw [hm] at hg e0
    obtain ⟨_, g1, g2⟩ := hg
    refine ⟨_, e0, .inl ⟨(q : Nat), rfl⟩, callR_lam rfl rfl (rE_ok (show2 (fs := [.int (q : Nat)]) (d := .lst (il A)) (e := .lst (il B)) rfl rfl ?_))⟩
    rw [lacks_shows_eq, mk_lack g1 g2]
  | inr r =>
    rw [hm] at hg e0
    obtain ⟨cs, ms⟩ := r
    refine ⟨_, e0, good_mk (.inr (.inl rfl)) hg h2, callR_lam rfl rfl (rE_ok (show1 (fs := [.lst cs, .lst (il ms)]) (d := .lst (il A)) (e := .lst (il B)) rfl rfl ?_))⟩
    rw [either_shows_eq (hg.in_ h1 h2), hg.few (by simp)]
/-! ### own -/
theorem ownS_plain (row : List Int) (b : Nat) : plainD (ownS row b).1 = true := by
  obtain ⟨n, p, e, _⟩ := ownB_shape row b
  unfold ownS
  rw [e]
  dsimp only
  split <;> simp [plainD, noLstAll, noLst]
theorem ownG_plain (row : List Int) : ∀ (n b : Nat), (ownG row n b).1.all plainD = true
  | 0, b => rfl
  | n + 1, b => by
    unfold ownG
    split
    · rw [List.all_cons, ownS_plain, ownG_plain row n]
      rfl
    · rfl
theorem ask_own {W : List Int} (h : W.length ≤ 100) : AskOk 4 5 (.one (il W)) := by
  have hh : BIG = 100000 := rfl
  have hb := big_line
  obtain ⟨l1, l2, l3⟩ := own_lens W
  have e0 : callR lr_all (.lam 4 []) (.ok [(Th.one (il W)).d]) = f_own [.lst (il W)] := callR_lam rfl rfl (mCall_is (ds := [.lst (il W)]) rfl rfl rfl)
  rw [own_eq W (by omega)] at e0
  refine ⟨_, e0, .inr ⟨3, _, rfl, .inr (.inr rfl), ?_, by show 2 < 1000; decide⟩, callR_lam rfl rfl (rE_ok (show3 (fs := [.lst (ownD W), .lst (il (ownM W))]) (d := .lst (il W)) rfl rfl ?_))⟩
  · rw [List.all_eq_true]
    simp only [List.forall_mem_cons]
    refine ⟨?_, ?_, fun _ h => nomatch h⟩
    · rw [Bool.and_eq_true, decide_eq_true_eq]
      exact ⟨ownG_plain W _ _, by omega⟩
    · rw [Bool.and_eq_true, decide_eq_true_eq]
      exact ⟨plain_il _, by rw [List.length_map]; omega⟩
  · rw [grown_shows_eq (growO_ok (own_grow W)) (by omega) (by omega) (by omega), own_shows]
theorem th_two {A B : List Int} (h1 : A.length ≤ 100) (h2 : B.length ≤ 100) : (Th.two (il A) (il B)).ok := ⟨⟨plain_il A, by rw [List.length_map]; exact h1, (pl_ints (k := 1) A)⟩, plain_il B, by rw [List.length_map]; exact h2, (pl_ints (k := 1) B)⟩
theorem th_one {A : List Int} (h1 : A.length ≤ 100) : (Th.one (il A)).ok := ⟨plain_il A, by rw [List.length_map]; exact h1, (pl_ints (k := 1) A)⟩
/-! ### the doors -/
abbrev shD : List Int := [0, 1, 2, 3, 1, 0, 2]
abbrev someD : List D := [.tup [.int 0, .int 2, .int 1], .tup [.int 5, .int 3, .int (-1)]]
abbrev othersD : List D := [.tup [.int 6, .int 4, .int (-1)], .tup [.int 1, .int 1, .int 1]]
abbrev deedsD : List D := [.tup [.str "put", .int 5], .tup [.str "copy", .int 0, .int 4], .tup [.str "put", .int 6]]
abbrev moreD : List D := [.tup [.str "put", .int 7], .tup [.str "put", .int 8], .tup [.str "copy", .int 1, .int 3]]
theorem door1 : f_law_door_right [.lam 6 [], .lst [.lst (il shD), .lst someD], .lst [.lst (il shD.reverse), .lst othersD]] = .ok (.bl true) := by kernel_rfl
theorem door2 : f_law_door_right [.lam 7 [], .lst deedsD, .lst moreD] = .ok (.bl true) := by kernel_rfl
/-! ### rows -/
def rowF (cs : List Int) (b : Int) (x : Int) : Int := ((if cs.getD ((x + b) % (cs.length : Nat)).toNat 0 < 0 then -cs.getD ((x + b) % (cs.length : Nat)).toNat 0 else cs.getD ((x + b) % (cs.length : Nat)).toNat 0) / (1 + b) + x * b) % 4
def gR (cs : List Int) (b : Int) : D → D
  | .int x => .int (rowF cs b x)
  | d => d
def rowL (cs : List Int) (b : Int) (n : Nat) : List Int := (List.range n).map fun (i : Nat) => rowF cs b (0 + (i : Nat))
theorem rowL_len (cs : List Int) (b : Int) (n : Nat) : (rowL cs b n).length = n := by unfold rowL; rw [List.length_map, List.length_range]
theorem row_eq {cs : List Int} (hc : cs ≠ []) {n : Nat} (hn : n ≤ 9) {b : Int} (hb : 0 ≤ b) (hb2 : b ≤ 3) : f_xlaw_row [.lst (il cs), .int (n : Nat), .int b] = .ok (.lst (il (rowL cs b n))) := by
  have hl : 0 < cs.length := List.length_pos_iff.mpr hc
  have hp : (0 : Int) < (cs.length : Nat) := by omega
  have hbl := big_line
  have hh : BIG = 100000 := rfl
  have e1 : il (rowL cs b n) = (rgD 0 n).map (gR cs b) := by
    unfold rowL rgD
    rw [List.map_map]
    exact List.map_map
  refine runF_rt (sRet_ok (mL_ok ?_))
  rw [e1]
  refine mComp_map (ds := rgD 0 n) (gR cs b) ?_ (by rw [rgD_length]; omega) fun d hd => ?_
  · have := rng1_ok (j := (n : Nat)) (by omega) (by omega)
    rw [Int.toNat_natCast] at this
    exact mOf_ok (xs := [.int (n : Nat)]) rfl this
  · obtain ⟨i, _, rfl⟩ := mem_rgD hd
    have q0 := Int.emod_nonneg (0 + (i : Int) + b) (b := (cs.length : Nat)) (by omega)
    have q1 := Int.emod_lt_of_pos (0 + (i : Int) + b) hp
    refine mBin_ok (y := .int 4) (mBin_ok (mBin_ok (y := .int (1 + b)) (mUn_ok (x := .int (cs.getD ((0 + (i : Int) + b) % (cs.length : Nat)).toNat 0)) (mBin_ok (x := .lst (il cs)) (y := .int ((0 + (i : Int) + b) % (cs.length : Nat))) rfl (mBin_ok (x := .int (0 + (i : Int) + b)) (y := .int (cs.length : Nat)) rfl (len_il rfl) (modD_ok hp)) (ix_il q0 q1)) rfl) rfl (fdivD_ok (by omega) (by omega))) (mBin_ok (x := .int (0 + (i : Int))) (y := .int b) rfl rfl (mulD_ok (.inr ⟨by omega, by omega⟩))) rfl) rfl (modD_ok (by decide))
/-! ### the law -/
theorem sPar3_ok {i j l : Nat} {ms : ML} {z : List Sd} {a b c : D} (h : ms z = .ok [a, b, c]) : sPar3 i j l ms z = .ok (.nx (((z.set i (.sh a)).set j (.sh b)).set l (.sh c))) := by
  unfold sPar3
  rw [h]
  rfl
abbrev zL (ns cs : List Int) (x : Int) (a3 a4 a5 a6 a7 a8 a9 a10 a11 a12 a13 a14 : Sd) : List Sd := [.sh (.scr ns), .sh (.lst (il cs)), .sh (.int x), a3, a4, a5, a6, a7, a8, a9, a10, a11, a12, a13, a14, .no, .no]
abbrev tw (a b : List Int) : D := .lst [.lst (il a), .lst (il b)]
abbrev fr2 (i j : Nat) (a b : D) : D := .tup [.lam i [], .lam j [], a, b]
abbrev frees (U W : List Int) : List D := [fr2 0 1 (tw shD U) (tw shD.reverse W), fr2 2 3 (tw shD U) (tw shD.reverse W), fr2 0 1 (tw U W) (tw W U), fr2 2 3 (tw U W) (tw W U), fr2 4 5 (.lst (il U)) (.lst (il W))]
abbrev asks : List D := [.tup [.lam 6 [], .lst [.lst (il shD), .lst someD], .lst [.lst (il shD.reverse), .lst othersD]], .tup [.lam 7 [], .lst deedsD, .lst moreD]]
theorem law_true (ns : List Int) (h : ns.length ≤ 63) : f_law [.scr ns] = .ok (.bl true) := by
  obtain ⟨cs, hc, ec⟩ : ∃ cs : List Int, cs ≠ [] ∧ mIf (bV (mBin neS (mVar 0) (mL (mLst aNil)))) (mL (mCutS (mVar 0) oNone (oSome (mC (.int 63))))) (mL (mLst (aCons (mC (.int 5)) aNil))) (st0 17 [.scr ns]) = .ok (.lst (il cs)) := by
    have et : bV (mBin neS (mVar 0) (mL (mLst aNil))) (st0 17 [.scr ns]) = .ok (!decide (ns = [])) := bV_b (mBin_ok (x := .scr ns) (y := .lst []) rfl (mL_ok (mLst_ok rfl (le_line (by show 0 ≤ 16777216; decide)))) rfl)
    by_cases hn : ns = []
    · refine ⟨[5], by simp, ?_⟩
      rw [decide_eq_true hn] at et
      exact (mIf_f et).trans (mL_ok (mLst_ok rfl (le_line (by show 1 ≤ 16777216; decide))))
    · refine ⟨ns, hn, ?_⟩
      rw [decide_eq_false hn] at et
      refine (mIf_t et).trans (mL_ok ?_)
      show Rs.ok (cutD (ns.map D.int) none (some ((63 : Nat) : Int))) = _
      rw [cutD_to, List.take_of_length_le (by rw [List.length_map]; exact h)]
  obtain ⟨x, hx⟩ : ∃ x : Int, x = (if cs.sum < 0 then -cs.sum else cs.sum) := ⟨_, rfl⟩
  have m8 := Int.emod_nonneg x (b := 8) (by decide)
  have m8' := Int.emod_lt_of_pos x (b := 8) (by decide)
  obtain ⟨n, hn⟩ : ∃ n : Nat, (2 : Int) + x % 8 = (n : Nat) := ⟨(2 + x % 8).toNat, by omega⟩
  have h9 : n ≤ 9 := by omega
  obtain ⟨U, hU⟩ : ∃ U, U = rowL cs 0 n := ⟨_, rfl⟩
  obtain ⟨W, hW⟩ : ∃ W, W = rowL cs 3 n := ⟨_, rfl⟩
  have lU : U.length = n := by rw [hU, rowL_len]
  have lW : W.length = n := by rw [hW, rowL_len]
  have eU := row_eq hc h9 (b := 0) (by decide) (by decide)
  have eW := row_eq hc h9 (b := 3) (by decide) (by decide)
  rw [← hU] at eU
  rw [← hW] at eW
  refine runF_rt ?_
  unfold m_law
  refine (sSeq_nx (z' := [.sh (.scr ns), .sh (.lst (il cs)), .no, .no, .no, .no, .no, .no, .no, .no, .no, .no, .no, .no, .no, .no, .no]) ((sSet_ok ec).trans rfl)).trans ?_
  refine (sSeq_nx (z' := zL ns cs x .no .no .no .no .no .no .no .no .no .no .no .no) ((sSet_ok (d := .int x) (mUn_ok (x := .int cs.sum) (mSum_ok (ns := cs) rfl) ?_)).trans rfl)).trans ?_
  · show some (D.int (if cs.sum < 0 then -cs.sum else cs.sum)) = _
    rw [hx]
  refine (sSeq_nx (z' := zL ns cs x (.ow []) (.ow []) .no .no .no .no .no .no .no .no .no .no) (by kernel_rfl)).trans ?_
  refine (sSeq_nx (z' := zL ns cs x (.ow []) (.ow []) (.sh (.int (n : Nat))) .no .no .no .no .no .no .no .no .no) ((sSet_ok (d := .int (n : Nat)) (mBin_ok (x := .int 2) (y := .int (x % 8)) rfl (mBin_ok (x := .int x) (y := .int 8) rfl rfl (modD_ok (by decide))) ?_)).trans rfl)).trans ?_
  · show some (D.int (2 + x % 8)) = _
    rw [hn]
  refine (sSeq_nx (z' := zL ns cs x (.ow []) (.ow []) (.sh (.int (n : Nat))) (.sh (.lst (il U))) (.sh (.lst (il W))) (.sh (.lst (il shD))) .no .no .no .no .no .no) ?_).trans ?_
  · exact (sPar3_ok (aCons_ok (x := .lst (il U)) (xs := [.lst (il W), .lst (il shD)]) (mCall_is (ds := [.lst (il cs), .int (n : Nat), .int 0]) rfl rfl eU) (aCons_ok (x := .lst (il W)) (xs := [.lst (il shD)]) (mCall_is (ds := [.lst (il cs), .int (n : Nat), .int 3]) rfl rfl eW) (aCons_ok (x := .lst (il shD)) (mL_ok (mLst_ok rfl (le_line (by show 7 ≤ 16777216; decide)))) rfl)))).trans rfl
  refine (sSeq_nx (z' := zL ns cs x (.ow []) (.ow [fr2 0 1 (tw shD U) (tw shD.reverse W), fr2 2 3 (tw shD U) (tw shD.reverse W), fr2 0 1 (tw U W) (tw W U), fr2 2 3 (tw U W) (tw W U)]) (.sh (.int (n : Nat))) (.sh (.lst (il U))) (.sh (.lst (il W))) (.sh (.lst (il shD))) (.sh (tw U W)) (.sh (tw W U)) .no .no .no .no) (by kernel_rfl)).trans ?_
  refine (sSeq_nx (z' := zL ns cs x (.ow []) (.ow (frees U W)) (.sh (.int (n : Nat))) (.sh (.lst (il U))) (.sh (.lst (il W))) (.sh (.lst (il shD))) (.sh (tw U W)) (.sh (tw W U)) .no .no .no .no) (by kernel_rfl)).trans ?_
  refine (sSeq_nx (z' := zL ns cs x (.ow []) (.ow (frees U W)) (.sh (.int (n : Nat))) (.sh (.lst (il U))) (.sh (.lst (il W))) (.sh (.lst (il shD))) (.sh (tw U W)) (.sh (tw W U)) (.sh (.lst someD)) (.sh (.lst othersD)) .no .no) (by kernel_rfl)).trans ?_
  refine (sSeq_nx (z' := zL ns cs x (.ow [.tup [.lam 6 [], .lst [.lst (il shD), .lst someD], .lst [.lst (il shD.reverse), .lst othersD]]]) (.ow (frees U W)) (.sh (.int (n : Nat))) (.sh (.lst (il U))) (.sh (.lst (il W))) (.sh (.lst (il shD))) (.sh (tw U W)) (.sh (tw W U)) (.sh (.lst someD)) (.sh (.lst othersD)) .no .no) (by kernel_rfl)).trans ?_
  refine (sSeq_nx (z' := zL ns cs x (.ow [.tup [.lam 6 [], .lst [.lst (il shD), .lst someD], .lst [.lst (il shD.reverse), .lst othersD]]]) (.ow (frees U W)) (.sh (.int (n : Nat))) (.sh (.lst (il U))) (.sh (.lst (il W))) (.sh (.lst (il shD))) (.sh (tw U W)) (.sh (tw W U)) (.sh (.lst someD)) (.sh (.lst othersD)) (.sh (.lst deedsD)) (.sh (.lst moreD))) (by kernel_rfl)).trans ?_
  refine (sSeq_nx (z' := zL ns cs x (.ow asks) (.ow (frees U W)) (.sh (.int (n : Nat))) (.sh (.lst (il U))) (.sh (.lst (il W))) (.sh (.lst (il shD))) (.sh (tw U W)) (.sh (tw W U)) (.sh (.lst someD)) (.sh (.lst othersD)) (.sh (.lst deedsD)) (.sh (.lst moreD))) (by kernel_rfl)).trans ?_
  refine (sSeq_nx (sIf_z (bNot_b (b := true) (bV_b ((mAll_compT (ds := asks) (fun _ => true) rfl (le_line (by show 2 ≤ 16777216; decide)) ?_).trans rfl))))).trans ?_
  · simp only [List.forall_mem_cons]
    exact ⟨⟨_, rfl, mCall_is (ds := [.lam 6 [], .lst [.lst (il shD), .lst someD], .lst [.lst (il shD.reverse), .lst othersD]]) rfl rfl door1⟩, ⟨_, rfl, mCall_is (ds := [.lam 7 [], .lst deedsD, .lst moreD]) rfl rfl door2⟩, fun _ h => nomatch h⟩
  refine sRet_ok ((mAll_compT (ds := frees U W) (fun _ => true) rfl (le_line (by show 5 ≤ 16777216; decide)) ?_).trans rfl)
  have s7 : shD.length ≤ 100 := by decide
  have s7' : shD.reverse.length ≤ 100 := by decide
  have u1 : U.length ≤ 100 := by omega
  have w1 : W.length ≤ 100 := by omega
  have lk1 : (Th.two (il shD) (il U)).like (.two (il shD.reverse) (il W)) := ⟨by decide, by rw [List.length_map, List.length_map]; omega⟩
  have lk2 : (Th.two (il shD.reverse) (il W)).like (.two (il shD) (il U)) := ⟨by decide, by rw [List.length_map, List.length_map]; omega⟩
  have lk3 : (Th.two (il U) (il W)).like (.two (il W) (il U)) := ⟨by rw [List.length_map, List.length_map]; omega, by rw [List.length_map, List.length_map]; omega⟩
  have lk4 : (Th.two (il W) (il U)).like (.two (il U) (il W)) := ⟨by rw [List.length_map, List.length_map]; omega, by rw [List.length_map, List.length_map]; omega⟩
  have lk5 : (Th.one (il U)).like (.one (il W)) := by show (il U).length = (il W).length; rw [List.length_map, List.length_map]; omega
  have lk6 : (Th.one (il W)).like (.one (il U)) := by show (il W).length = (il U).length; rw [List.length_map, List.length_map]; omega
  have f1 := free_true (th_two s7 u1) (th_two s7' w1) lk1 lk2 (ask_forth s7 u1) (ask_forth s7' w1)
  have f2 := free_true (th_two s7 u1) (th_two s7' w1) lk1 lk2 (ask_either s7 u1) (ask_either s7' w1)
  have f3 := free_true (th_two u1 w1) (th_two w1 u1) lk3 lk4 (ask_forth u1 w1) (ask_forth w1 u1)
  have f4 := free_true (th_two u1 w1) (th_two w1 u1) lk3 lk4 (ask_either u1 w1) (ask_either w1 u1)
  have f5 := free_true (th_one u1) (th_one w1) lk5 lk6 (ask_own u1) (ask_own w1)
  simp only [List.forall_mem_cons]
  exact ⟨⟨_, rfl, mCall_is (ds := [.lam 0 [], .lam 1 [], tw shD U, tw shD.reverse W]) rfl rfl f1⟩, ⟨_, rfl, mCall_is (ds := [.lam 2 [], .lam 3 [], tw shD U, tw shD.reverse W]) rfl rfl f2⟩, ⟨_, rfl, mCall_is (ds := [.lam 0 [], .lam 1 [], tw U W, tw W U]) rfl rfl f3⟩, ⟨_, rfl, mCall_is (ds := [.lam 2 [], .lam 3 [], tw U W, tw W U]) rfl rfl f4⟩, ⟨_, rfl, mCall_is (ds := [.lam 4 [], .lam 5 [], .lst (il U), .lst (il W)]) rfl rfl f5⟩, fun _ h => nomatch h⟩
end CL


set_option Elab.async false
set_option linter.all false
set_option maxRecDepth 100000
set_option maxHeartbeats 4000000
namespace CL
open PySem PySem.Spec L2
def topS (i : Nat) : Stmt := PySem.Challenge.pw_cliprow_k09_handed_stays.main.body.getD i (.Pass ⟨0, 0, 0, 0⟩)
section
variable {P : Program} {w : World} {mg : Str → Option Value} {base : Heap} {T : Tx}
abbrev lam_0 : Expr := (pElt 0 (pArg 0 (pExp (pForB 0 ((defBody (topS 38)).getD 5 noS)))))
theorem lm_0 (eL_0 : LamEq T 0 "law.<locals>.<lambda>" (lamP lam_0) (lamB lam_0) (lamSc lam_0) []) (B : Blt mg) (c_forth : DefG P w T.K mg base (L2N.CX P w) 3 "forth" (spR T 2 f_forth)) : LrOk P w T mg base 4 0 1 m_lam_0 :=
  lr_mk ["_law_it"] eL_0 rfl (NdefX.nscope_by (by decide +kernel)) (fun cl pm cv ctv us hl => match us, hl with | [_], _ => rfl) (fun cl c f A outer s H E hr => (dr_call c_forth hr (by decide) (L2N.passes_call (L2N.takes_of rfl rfl rfl rfl) (fun _ _ _ _ h => h)) (da_cons (de_ix (de_var 0) de_int) (da_cons (de_ix (de_var 0) de_int) da_nil))))
abbrev lam_1 : Expr := (pElt 1 (pArg 0 (pExp (pForB 0 ((defBody (topS 38)).getD 5 noS)))))
theorem lm_1 (eL_1 : LamEq T 1 "law.<locals>.<lambda>" (lamP lam_1) (lamB lam_1) (lamSc lam_1) []) (B : Blt mg)  (KC : ClA T mg) (hS : MethA P w T mg base 4 f_Forth_shows f_Either_shows f_Lacks_shows f_Grown_shows) : LrOk P w T mg base 4 1 2 m_lam_1 :=
  lr_mk ["_law_found", "_law_it"] eL_1 rfl (NdefX.nscope_by (by decide +kernel)) (fun cl pm cv ctv us hl => match us, hl with | [_, _], _ => rfl) (fun cl c f A outer s H E hr => (dr_e (de_shows (n := 0) KC hS hr (by decide) (de_var 0) (da_cons (de_ix (de_var 1) de_int) (da_cons (de_ix (de_var 1) de_int) da_nil)))))
abbrev lam_2 : Expr := (pElt 0 (pArg 0 (pExp (pForB 1 ((defBody (topS 38)).getD 5 noS)))))
theorem lm_2 (eL_2 : LamEq T 2 "law.<locals>.<lambda>" (lamP lam_2) (lamB lam_2) (lamSc lam_2) []) (B : Blt mg) (c_either : DefG P w T.K mg base (L2N.CX P w) 3 "either" (spR T 2 f_either)) : LrOk P w T mg base 4 2 1 m_lam_2 :=
  lr_mk ["_law_it"] eL_2 rfl (NdefX.nscope_by (by decide +kernel)) (fun cl pm cv ctv us hl => match us, hl with | [_], _ => rfl) (fun cl c f A outer s H E hr => (dr_call c_either hr (by decide) (L2N.passes_call (L2N.takes_of rfl rfl rfl rfl) (fun _ _ _ _ h => h)) (da_cons (de_ix (de_var 0) de_int) (da_cons (de_ix (de_var 0) de_int) da_nil))))
abbrev lam_3 : Expr := (pElt 1 (pArg 0 (pExp (pForB 1 ((defBody (topS 38)).getD 5 noS)))))
theorem lm_3 (eL_3 : LamEq T 3 "law.<locals>.<lambda>" (lamP lam_3) (lamB lam_3) (lamSc lam_3) []) (B : Blt mg)  (KC : ClA T mg) (hS : MethA P w T mg base 4 f_Forth_shows f_Either_shows f_Lacks_shows f_Grown_shows) : LrOk P w T mg base 4 3 2 m_lam_3 :=
  lr_mk ["_law_found", "_law_it"] eL_3 rfl (NdefX.nscope_by (by decide +kernel)) (fun cl pm cv ctv us hl => match us, hl with | [_, _], _ => rfl) (fun cl c f A outer s H E hr => (dr_e (de_shows (n := 0) KC hS hr (by decide) (de_var 0) (da_cons (de_ix (de_var 1) de_int) (da_cons (de_ix (de_var 1) de_int) da_nil)))))
abbrev lam_4 : Expr := (pElt 0 (pArg 0 (pExp ((defBody (topS 38)).getD 6 noS))))
theorem lm_4 (eL_4 : LamEq T 4 "law.<locals>.<lambda>" (lamP lam_4) (lamB lam_4) (lamSc lam_4) []) (B : Blt mg) (c_own : DefG P w T.K mg base (L2N.CX P w) 3 "own" (spR T 1 f_own)) : LrOk P w T mg base 4 4 1 m_lam_4 :=
  lr_mk ["_law_it"] eL_4 rfl (NdefX.nscope_by (by decide +kernel)) (fun cl pm cv ctv us hl => match us, hl with | [_], _ => rfl) (fun cl c f A outer s H E hr => (dr_call c_own hr (by decide) (L2N.passes_call (L2N.takes_of rfl rfl rfl rfl) (fun _ _ _ _ h => h)) (da_cons (de_var 0) da_nil)))
abbrev lam_5 : Expr := (pElt 1 (pArg 0 (pExp ((defBody (topS 38)).getD 6 noS))))
theorem lm_5 (eL_5 : LamEq T 5 "law.<locals>.<lambda>" (lamP lam_5) (lamB lam_5) (lamSc lam_5) []) (B : Blt mg)  (KC : ClA T mg) (hS : MethA P w T mg base 4 f_Forth_shows f_Either_shows f_Lacks_shows f_Grown_shows) : LrOk P w T mg base 4 5 2 m_lam_5 :=
  lr_mk ["_law_found", "_law_it"] eL_5 rfl (NdefX.nscope_by (by decide +kernel)) (fun cl pm cv ctv us hl => match us, hl with | [_, _], _ => rfl) (fun cl c f A outer s H E hr => (dr_e (de_shows (n := 0) KC hS hr (by decide) (de_var 0) (da_cons (de_var 1) da_nil))))
abbrev lam_6 : Expr := (pElt 0 (pArg 0 (pExp ((defBody (topS 38)).getD 8 noS))))
theorem lm_6 (eL_6 : LamEq T 6 "law.<locals>.<lambda>" (lamP lam_6) (lamB lam_6) (lamSc lam_6) []) (B : Blt mg) (c_pasted : DefG P w T.K mg base (L2N.CX P w) 3 "pasted" (spL T 2 f_pasted)) : LrOk P w T mg base 4 6 1 m_lam_6 :=
  lr_mk ["_law_it"] eL_6 rfl (NdefX.nscope_by (by decide +kernel)) (fun cl pm cv ctv us hl => match us, hl with | [_], _ => rfl) (fun cl c f A outer s H E hr => (dr_l (dl_call c_pasted hr (by decide) (L2N.passes_call (L2N.takes_of rfl rfl rfl rfl) (fun _ _ _ _ h => h)) (da_cons (de_ix (de_var 0) de_int) (da_cons (de_ix (de_var 0) de_int) da_nil)))))
abbrev lam_7 : Expr := (pElt 0 (pArg 0 (pExp ((defBody (topS 38)).getD 10 noS))))
theorem lm_7 (eL_7 : LamEq T 7 "law.<locals>.<lambda>" (lamP lam_7) (lamB lam_7) (lamSc lam_7) []) (B : Blt mg) (c_grown : DefG P w T.K mg base (L2N.CX P w) 4 "grown" (spL T 1 f_grown)) : LrOk P w T mg base 4 7 1 m_lam_7 :=
  lr_mk ["_law_it"] eL_7 rfl (NdefX.nscope_by (by decide +kernel)) (fun cl pm cv ctv us hl => match us, hl with | [_], _ => rfl) (fun cl c f A outer s H E hr => (dr_l (dl_call c_grown hr (by decide) (L2N.passes_call (L2N.takes_of rfl rfl rfl rfl) (fun _ _ _ _ h => h)) (da_cons (de_var 0) da_nil))))
/-! ### is_number -/
abbrev s_is_number : Stmt := (topS 6)
abbrev N_is_number : List Str := ["thing"]
theorem sc_is_number : FnScope N_is_number ["thing"] (defScope s_is_number) := ⟨rfl, rfl, rfl, by decide +kernel, rfl, by decide +kernel, by decide +kernel⟩
theorem ok_is_number {f : Addr} {fd : FuncData} (F : Fun T.K "is_number" "is_number" s_is_number f fd) (B : Blt mg)  :
    FnOk P w T.K mg base CX0 1 f fd ["thing"] (spD T 1 f_is_number) :=
  fn_D (N := N_is_number) (ps := ["thing"]) (k := 0) (m := m_is_number) F sc_is_number fun cdv A outer s H E hr =>
  (dss_one (ds_ret (de_and (de_isTy .int B.isinstance (de_var 0) rfl B.int (by decide +kernel)) (de_one (de_not (de_isTy .bool B.isinstance (de_var 0) rfl B.bool (by decide +kernel)))))))
/-! ### clipped -/
abbrev s_clipped : Stmt := (topS 9)
abbrev N_clipped : List Str := ["sheet", "clipping", "place", "many", "step", "at"]
theorem sc_clipped : FnScope N_clipped ["sheet", "clipping"] (defScope s_clipped) := ⟨rfl, rfl, rfl, by decide +kernel, rfl, by decide +kernel, by decide +kernel⟩
theorem ok_clipped {f : Addr} {fd : FuncData} (F : Fun T.K "clipped" "clipped" s_clipped f fd) (B : Blt mg)  :
    FnOk P w T.K mg base CX0 1 f fd ["sheet", "clipping"] (spL T 2 f_clipped) :=
  fn_L (N := N_clipped) (ps := ["sheet", "clipping"]) (k := 0) (m := m_clipped) F sc_clipped fun cdv A outer s H E hr =>
  (dss_cons (ds_asg (de_var 1) (dg_tp rfl (dgs_cons (i := 2) sc_clipped.nd (dgs_cons (i := 3) sc_clipped.nd (dgs_cons (i := 4) sc_clipped.nd dgs_nil)))))
  (dss_one (ds_retL (dl_comp (own := [("at", 5)]) (t := (.nm 5)) rfl sc_clipped.nd (dn_range1 B.range (da_cons (de_var 3) da_nil)) (blkOk_by (own := [("at", 5)]) (N := N_clipped) (sc := defScope s_clipped) (by decide +kernel)) (fun _ _ _ _ _ => (dg_nm (i := 5) sc_clipped.nd)) (fun _ _ _ _ _ => (de_ix (de_var 0) (de_add (de_var 2) (de_mul (de_var 4) (de_var 5))))) (by decide)))))
/-! ### stands -/
abbrev s_stands : Stmt := (topS 17)
abbrev N_stands : List Str := ["sheet", "stretch", "many", "at"]
theorem sc_stands : FnScope N_stands ["sheet", "stretch"] (defScope s_stands) := ⟨rfl, rfl, rfl, by decide +kernel, rfl, by decide +kernel, by decide +kernel⟩
theorem ok_stands {f : Addr} {fd : FuncData} (F : Fun T.K "stands" "stands" s_stands f fd) (B : Blt mg)  :
    FnOk P w T.K mg base CX0 1 f fd ["sheet", "stretch"] (spD T 2 f_stands) :=
  fn_D (N := N_stands) (ps := ["sheet", "stretch"]) (k := 0) (m := m_stands) F sc_stands fun cdv A outer s H E hr =>
  (dss_cons (ds_set 2 sc_stands.nd (de_len B.len (de_var 1)))
  (dss_one (ds_ret (de_any rfl B.any (di_l (dl_comp (own := [("at", 3)]) (t := (.nm 3)) rfl sc_stands.nd (dn_range1 B.range (da_cons (de_add (de_sub (de_len B.len (de_var 0)) (de_var 2)) de_int) da_nil)) (blkOk_by (own := [("at", 3)]) (N := N_stands) (sc := defScope s_stands) (by decide +kernel)) (fun _ _ _ _ _ => (dg_nm (i := 3) sc_stands.nd)) (fun _ _ _ _ _ => (de_eq hr (de_l (dl_cut (di_e (de_var 0)) (do_some (de_var 3)) (do_some (de_add (de_var 3) (de_var 2))))) (de_var 1))) (by decide)))))))
/-! ### spans -/
abbrev s_spans : Stmt := (topS 18)
abbrev N_spans : List Str := ["row", "marks", "last", "mark", "at"]
theorem sc_spans : FnScope N_spans ["row", "marks"] (defScope s_spans) := ⟨rfl, rfl, rfl, by decide +kernel, rfl, by decide +kernel, by decide +kernel⟩
theorem ok_spans {f : Addr} {fd : FuncData} (F : Fun T.K "spans" "spans" s_spans f fd) (B : Blt mg)  :
    FnOk P w T.K mg base CX0 1 f fd ["row", "marks"] (spD T 2 f_spans) :=
  fn_D (N := N_spans) (ps := ["row", "marks"]) (k := 0) (m := m_spans) F sc_spans fun cdv A outer s H E hr =>
  (dss_cons (ds_set 2 sc_spans.nd (de_neg de_int))
  (dss_cons (ds_for PassesOwn.never rfl (dn_seq (de_var 1)) (dg_nm (i := 3) sc_spans.nd)
  (dss_cons (ds_if (dt_not (dt_chain op_lt op_lt opd_lt opd_lt (de_var 2) (de_var 3) (de_len B.len (de_var 0))))
  (dss_one (ds_ret de_non))
  dss_nil)
  (dss_one (ds_set 2 sc_spans.nd (de_var 3)))))
  (dss_one (ds_ret (de_l (dl_comp (own := [("at", 4)]) (t := (.nm 4)) rfl sc_spans.nd (dn_range2 B.range (da_cons de_int (da_cons (de_len B.len (de_var 1)) da_nil))) (blkOk_by (own := [("at", 4)]) (N := N_spans) (sc := defScope s_spans) (by decide +kernel)) (fun _ _ _ _ _ => (dg_nm (i := 4) sc_spans.nd)) (fun _ _ _ _ _ => (de_l (dl_cut (di_e (de_var 0)) (do_some (de_ix (de_var 1) (de_sub (de_var 4) de_int))) (do_some (de_add (de_ix (de_var 1) (de_var 4)) de_int))))) (by decide)))))))
/-! ### Forth.__init__ -/
abbrev s_Forth__init_ : Stmt := (inClass (topS 20) 0)
theorem sc_Forth__init_ : FnScope ["self", "clippings", "marks"] ["self", "clippings", "marks"] (defScope s_Forth__init_) := ⟨rfl, rfl, rfl, by decide +kernel, rfl, by decide +kernel, by decide +kernel⟩
theorem ok_Forth__init_ {f : Addr} {fd : FuncData} (F : Fun T.K "__init__" "Forth.__init__" s_Forth__init_ f fd) (B : Blt mg) (KC : ClA T mg) : FnOk P w T.K mg base CX0 1 f fd ["self", "clippings", "marks"] (spI2 T 0 "clippings" "marks") :=
  fn_I2 F sc_Forth__init_ fun cdv A outer s H E => pss_init2 (KC.at_ 0 (by decide)) ((KC.at_ 0 (by decide)).na .clippings rfl) ((KC.at_ 0 (by decide)).na .marks rfl) (by decide +kernel) B.list rfl rfl (pv 0) (pv 1) (pv 0) (pv 2)
/-! ### Either.__init__ -/
abbrev s_Either__init_ : Stmt := (inClass (topS 21) 0)
theorem sc_Either__init_ : FnScope ["self", "clippings", "marks"] ["self", "clippings", "marks"] (defScope s_Either__init_) := ⟨rfl, rfl, rfl, by decide +kernel, rfl, by decide +kernel, by decide +kernel⟩
theorem ok_Either__init_ {f : Addr} {fd : FuncData} (F : Fun T.K "__init__" "Either.__init__" s_Either__init_ f fd) (B : Blt mg) (KC : ClA T mg) : FnOk P w T.K mg base CX0 1 f fd ["self", "clippings", "marks"] (spI2 T 1 "clippings" "marks") :=
  fn_I2 F sc_Either__init_ fun cdv A outer s H E => pss_init2 (KC.at_ 1 (by decide)) ((KC.at_ 1 (by decide)).na .clippings rfl) ((KC.at_ 1 (by decide)).na .marks rfl) (by decide +kernel) B.list rfl rfl (pv 0) (pv 1) (pv 0) (pv 2)
/-! ### Lacks.__init__ -/
abbrev s_Lacks__init_ : Stmt := (inClass (topS 22) 0)
theorem sc_Lacks__init_ : FnScope ["self", "place"] ["self", "place"] (defScope s_Lacks__init_) := ⟨rfl, rfl, rfl, by decide +kernel, rfl, by decide +kernel, by decide +kernel⟩
theorem ok_Lacks__init_ {f : Addr} {fd : FuncData} (F : Fun T.K "__init__" "Lacks.__init__" s_Lacks__init_ f fd) (B : Blt mg) (KC : ClA T mg) : FnOk P w T.K mg base CX0 1 f fd ["self", "place"] (spI1 T 2 "place") :=
  fn_I1 F sc_Lacks__init_ fun cdv A outer s H E => pss_init1 (KC.at_ 2 (by decide)) ((KC.at_ 2 (by decide)).na .place rfl) rfl (pv 0) (pv 1)
/-! ### Lacks.shows -/
abbrev s_Lacks_shows : Stmt := (inClass (topS 22) 1)
abbrev N_Lacks_shows : List Str := ["self", "sheet", "row"]
theorem sc_Lacks_shows : FnScope N_Lacks_shows ["self", "sheet", "row"] (defScope s_Lacks_shows) := ⟨rfl, rfl, rfl, by decide +kernel, rfl, by decide +kernel, by decide +kernel⟩
theorem ok_Lacks_shows {f : Addr} {fd : FuncData} (F : Fun T.K "shows" "Lacks.shows" s_Lacks_shows f fd) (B : Blt mg) (KC : ClA T mg) :
    FnOk P w T.K mg base CX0 1 f fd ["self", "sheet", "row"] (spD T 3 f_Lacks_shows) :=
  fn_D (N := N_Lacks_shows) (ps := ["self", "sheet", "row"]) (k := 0) (m := m_Lacks_shows) F sc_Lacks_shows fun cdv A outer s H E hr =>
  (dss_one (ds_ret (de_and (de_chain op_le op_lt opd_le opd_lt de_int (de_fld .place KC (de_var 0)) (de_len B.len (de_var 2))) (de_one (de_notIn (de_ix (de_var 2) (de_fld .place KC (de_var 0))) (de_var 1))))))
/-! ### Grown.__init__ -/
abbrev s_Grown__init_ : Stmt := (inClass (topS 23) 0)
theorem sc_Grown__init_ : FnScope ["self", "deeds", "marks"] ["self", "deeds", "marks"] (defScope s_Grown__init_) := ⟨rfl, rfl, rfl, by decide +kernel, rfl, by decide +kernel, by decide +kernel⟩
theorem ok_Grown__init_ {f : Addr} {fd : FuncData} (F : Fun T.K "__init__" "Grown.__init__" s_Grown__init_ f fd) (B : Blt mg) (KC : ClA T mg) : FnOk P w T.K mg base CX0 1 f fd ["self", "deeds", "marks"] (spI2 T 3 "deeds" "marks") :=
  fn_I2 F sc_Grown__init_ fun cdv A outer s H E => pss_init2 (KC.at_ 3 (by decide)) ((KC.at_ 3 (by decide)).na .deeds rfl) ((KC.at_ 3 (by decide)).na .marks rfl) (by decide +kernel) B.list rfl rfl (pv 0) (pv 1) (pv 0) (pv 2)
/-! ### alike_many -/
abbrev s_alike_many : Stmt := (topS 25)
abbrev N_alike_many : List Str := ["sheet", "place", "step", "row", "begin", "many"]
theorem sc_alike_many : FnScope N_alike_many ["sheet", "place", "step", "row", "begin"] (defScope s_alike_many) := ⟨rfl, rfl, rfl, by decide +kernel, rfl, by decide +kernel, by decide +kernel⟩
theorem ok_alike_many {f : Addr} {fd : FuncData} (F : Fun T.K "alike_many" "alike_many" s_alike_many f fd) (B : Blt mg)  :
    FnOk P w T.K mg base CX0 1 f fd ["sheet", "place", "step", "row", "begin"] (spD T 5 f_alike_many) :=
  fn_D (N := N_alike_many) (ps := ["sheet", "place", "step", "row", "begin"]) (k := 0) (m := m_alike_many) F sc_alike_many fun cdv A outer s H E hr =>
  (dss_cons (ds_set 5 sc_alike_many.nd de_int)
  (dss_cons (ds_while 2000000 PassesOwn.never (dt_w (dw_and (dt_cmp op_lt opd_lt (de_add (de_var 4) (de_var 5)) (de_len B.len (de_var 3)) (nomark _)) (dw_and1 (dt_chain op_le op_lt opd_le opd_lt de_int (de_add (de_var 1) (de_mul (de_var 2) (de_var 5))) (de_len B.len (de_var 0))))))
  (dss_cons (ds_if (dt_cmp (op_neD hr.units) opd_ne (de_ix (de_var 0) (de_add (de_var 1) (de_mul (de_var 2) (de_var 5)))) (de_ix (de_var 3) (de_add (de_var 4) (de_var 5))) (nomark _))
  (dss_one (ds_ret (de_var 5)))
  dss_nil)
  (dss_one (ds_inc 5 sc_alike_many.nd de_int))))
  (dss_one (ds_ret (de_var 5)))))
/-! ### _law_row -/
abbrev s_xlaw_row : Stmt := (topS 35)
abbrev N_xlaw_row : List Str := ["_law_cells", "_law_many", "_law_by", "_law_at"]
theorem sc_xlaw_row : FnScope N_xlaw_row ["_law_cells", "_law_many", "_law_by"] (defScope s_xlaw_row) := ⟨rfl, rfl, rfl, by decide +kernel, rfl, by decide +kernel, by decide +kernel⟩
theorem ok_xlaw_row {f : Addr} {fd : FuncData} (F : Fun T.K "_law_row" "_law_row" s_xlaw_row f fd) (B : Blt mg)  :
    FnOk P w T.K mg base CX0 1 f fd ["_law_cells", "_law_many", "_law_by"] (spD T 3 f_xlaw_row) :=
  fn_D (N := N_xlaw_row) (ps := ["_law_cells", "_law_many", "_law_by"]) (k := 0) (m := m_xlaw_row) F sc_xlaw_row fun cdv A outer s H E hr =>
  (dss_one (ds_ret (de_l (dl_comp (own := [("_law_at", 3)]) (t := (.nm 3)) rfl sc_xlaw_row.nd (dn_range1 B.range (da_cons (de_var 1) da_nil)) (blkOk_by (own := [("_law_at", 3)]) (N := N_xlaw_row) (sc := defScope s_xlaw_row) (by decide +kernel)) (fun _ _ _ _ _ => (dg_nm (i := 3) sc_xlaw_row.nd)) (fun _ _ _ _ _ => (de_mod (de_add (de_fdiv (de_abs B.abs (de_ix (de_var 0) (de_mod (de_add (de_var 3) (de_var 2)) (de_len B.len (de_var 0))))) (de_add de_int (de_var 2))) (de_mul (de_var 3) (de_var 2))) de_int)) (by decide)))))
/-! ### _law_told -/
abbrev s_law_told : Stmt := (topS 36)
abbrev N_law_told : List Str := ["_law_found"]
theorem sc_law_told : FnScope N_law_told ["_law_found"] (defScope s_law_told) := ⟨rfl, rfl, rfl, by decide +kernel, rfl, by decide +kernel, by decide +kernel⟩
theorem ok_law_told {f : Addr} {fd : FuncData} (F : Fun T.K "_law_told" "_law_told" s_law_told f fd) (B : Blt mg) (KC : ClA T mg) : FnOk P w T.K mg base CX0 1 f fd ["_law_found"] (spTold T) :=
  fn_told (k := 0) F sc_law_told fun cdv A outer s H E hr =>
  (pss_cons (ps_if (dt_val (de_isC 3 KC B.isinstance (de_var 0) rfl KC.gGrown)) (pss_one (ps_ret (pe_lst (pa_cons (pe_part 0 .deeds KC) (pa_cons (pe_part 0 .marks KC) pa_nil))))) pss_nil)
    (pss_one (ps_ret (pe_ifExp (dt_w (dw_or (dt_val (de_isC 0 KC B.isinstance (de_var 0) rfl KC.gForth)) (dw_or1 (dt_val (de_isC 1 KC B.isinstance (de_var 0) rfl KC.gEither))))) (pe_lst (pa_cons (pe_part 0 .clippings KC) (pa_cons (pe_part 0 .marks KC) pa_nil))) (pe_lst pa_nil)))))
/-! ### check_row -/
abbrev s_check_row : Stmt := (topS 7)
abbrev N_check_row : List Str := ["row", "sign"]
theorem sc_check_row : FnScope N_check_row ["row"] (defScope s_check_row) := ⟨rfl, rfl, rfl, by decide +kernel, rfl, by decide +kernel, by decide +kernel⟩
theorem ok_check_row {f : Addr} {fd : FuncData} (F : Fun T.K "check_row" "check_row" s_check_row f fd) (B : Blt mg) (c_is_number : DefG P w T.K mg base CX0 1 "is_number" (spD T 1 f_is_number)) (e_BadRow : ExF T.K mg "BadRow" (T.exc 0)) :
    FnOk P w T.K mg base (L2N.CX P w) 2 f fd ["row"] (spD T 1 f_check_row) :=
  fn_X (N := N_check_row) (ps := ["row"]) (k := 1) (m := m_check_row) F sc_check_row fun cdv A outer s H E hr =>
  (dss_one (ds_if (dt_w (dw_or (dt_not (dt_val (de_isTy .list B.isinstance (de_var 0) rfl B.list (by decide +kernel)))) (dw_or1 (dt_not (dt_val (de_all rfl B.all (di_l (dl_comp (own := [("sign", 1)]) (t := (.nm 1)) rfl sc_check_row.nd (dn_seq (de_var 0)) (blkOk_by (own := [("sign", 1)]) (N := N_check_row) (sc := defScope s_check_row) (by decide +kernel)) (fun _ _ _ _ _ => (dg_nm (i := 1) sc_check_row.nd)) (fun _ _ _ _ _ => (de_call c_is_number hr (by decide) passN (da_cons (de_var 1) da_nil))) (by decide)))))))))
  (dss_one (ds_raise 0 rfl (L2N.takes_of rfl rfl rfl rfl) e_BadRow))
  dss_nil))
/-! ### is_clipping -/
abbrev s_is_clipping : Stmt := (topS 8)
abbrev N_is_clipping : List Str := ["sheet", "thing", "part", "place", "many", "step"]
theorem sc_is_clipping : FnScope N_is_clipping ["sheet", "thing"] (defScope s_is_clipping) := ⟨rfl, rfl, rfl, by decide +kernel, rfl, by decide +kernel, by decide +kernel⟩
theorem ok_is_clipping {f : Addr} {fd : FuncData} (F : Fun T.K "is_clipping" "is_clipping" s_is_clipping f fd) (B : Blt mg) (c_is_number : DefG P w T.K mg base CX0 1 "is_number" (spD T 1 f_is_number)) :
    FnOk P w T.K mg base CX0 2 f fd ["sheet", "thing"] (spD T 2 f_is_clipping) :=
  fn_D (N := N_is_clipping) (ps := ["sheet", "thing"]) (k := 1) (m := m_is_clipping) F sc_is_clipping fun cdv A outer s H E hr =>
  (dss_cons (ds_if (dt_w (dw_or (dt_not (dt_val (de_isTy .tuple B.isinstance (de_var 1) rfl B.tuple (by decide +kernel)))) (dw_or (dt_cmp (op_neD hr.units) opd_ne (de_len B.len (de_var 1)) de_int (nomark _)) (dw_or1 (dt_not (dt_val (de_all rfl B.all (di_l (dl_comp (own := [("part", 2)]) (t := (.nm 2)) rfl sc_is_clipping.nd (dn_seq (de_var 1)) (blkOk_by (own := [("part", 2)]) (N := N_is_clipping) (sc := defScope s_is_clipping) (by decide +kernel)) (fun _ _ _ _ _ => (dg_nm (i := 2) sc_is_clipping.nd)) (fun _ _ _ _ _ => (de_call c_is_number hr (by decide) passN (da_cons (de_var 2) da_nil))) (by decide))))))))))
  (dss_one (ds_ret de_bl))
  dss_nil)
  (dss_cons (ds_asg (de_var 1) (dg_tp rfl (dgs_cons (i := 3) sc_is_clipping.nd (dgs_cons (i := 4) sc_is_clipping.nd (dgs_cons (i := 5) sc_is_clipping.nd dgs_nil)))))
  (dss_cons (ds_if (dt_w (dw_or (dt_cmp op_lt opd_lt (de_var 4) de_int (nomark _)) (dw_or1 (dt_cmp op_notIn_seq opd_in (de_var 5) (de_tup (da_cons de_int (da_cons (de_neg de_int) da_nil))) rfl))))
  (dss_one (ds_ret de_bl))
  dss_nil)
  (dss_one (ds_ret (de_and (de_chain op_le op_lt opd_le opd_lt de_int (de_var 3) (de_len B.len (de_var 0))) (de_one (de_chain op_le op_lt opd_le opd_lt de_int (de_add (de_var 3) (de_mul (de_var 5) (de_sub (de_var 4) de_int))) (de_len B.len (de_var 0))))))))))
/-! ### pasted_of -/
abbrev s_pasted_of : Stmt := (topS 10)
abbrev N_pasted_of : List Str := ["sheet", "clippings", "found", "clipping"]
theorem sc_pasted_of : FnScope N_pasted_of ["sheet", "clippings"] (defScope s_pasted_of) := ⟨rfl, rfl, rfl, by decide +kernel, rfl, by decide +kernel, by decide +kernel⟩
theorem ok_pasted_of {f : Addr} {fd : FuncData} (F : Fun T.K "pasted_of" "pasted_of" s_pasted_of f fd) (B : Blt mg) (c_clipped : DefG P w T.K mg base CX0 1 "clipped" (spL T 2 f_clipped)) :
    FnOk P w T.K mg base CX0 2 f fd ["sheet", "clippings"] (spL T 2 f_pasted_of) :=
  fn_L (N := N_pasted_of) (ps := ["sheet", "clippings"]) (k := 1) (m := m_pasted_of) F sc_pasted_of fun cdv A outer s H E hr =>
  (dss_cons (ds_setO 2 sc_pasted_of.nd (dl_lst da_nil))
  (dss_cons (ds_for PassesOwn.never rfl (dn_seq (de_var 1)) (dg_nm (i := 3) sc_pasted_of.nd)
  (dss_one (ds_ext 2 (di_l (dl_call c_clipped hr (by decide) passN (da_cons (de_var 0) (da_cons (de_var 3) da_nil)))))))
  (dss_one (ds_retO 2))))
/-! ### is_deed -/
abbrev s_is_deed : Stmt := (topS 12)
abbrev N_is_deed : List Str := ["thing", "many", "part"]
theorem sc_is_deed : FnScope N_is_deed ["thing", "many"] (defScope s_is_deed) := ⟨rfl, rfl, rfl, by decide +kernel, rfl, by decide +kernel, by decide +kernel⟩
theorem ok_is_deed {f : Addr} {fd : FuncData} (F : Fun T.K "is_deed" "is_deed" s_is_deed f fd) (B : Blt mg) (c_is_number : DefG P w T.K mg base CX0 1 "is_number" (spD T 1 f_is_number)) :
    FnOk P w T.K mg base CX0 2 f fd ["thing", "many"] (spD T 2 f_is_deed) :=
  fn_D (N := N_is_deed) (ps := ["thing", "many"]) (k := 1) (m := m_is_deed) F sc_is_deed fun cdv A outer s H E hr =>
  (dss_cons (ds_if (dt_w (dw_or (dt_not (dt_val (de_isTy .tuple B.isinstance (de_var 0) rfl B.tuple (by decide +kernel)))) (dw_or (dt_cmp op_notIn_seq opd_in (de_len B.len (de_var 0)) (de_tup (da_cons de_int (da_cons de_int da_nil))) rfl) (dw_or1 (dt_not (dt_val (de_all rfl B.all (di_l (dl_comp (own := [("part", 2)]) (t := (.nm 2)) rfl sc_is_deed.nd (dn_seq (de_cutT (de_var 0) (do_some de_int) do_none)) (blkOk_by (own := [("part", 2)]) (N := N_is_deed) (sc := defScope s_is_deed) (by decide +kernel)) (fun _ _ _ _ _ => (dg_nm (i := 2) sc_is_deed.nd)) (fun _ _ _ _ _ => (de_call c_is_number hr (by decide) passN (da_cons (de_var 2) da_nil))) (by decide))))))))))
  (dss_one (ds_ret de_bl))
  dss_nil)
  (dss_cons (ds_if (dt_cmp (op_eqD hr.units) opd_eq (de_len B.len (de_var 0)) de_int (nomark _))
  (dss_one (ds_ret (de_eq hr (de_ix (de_var 0) de_int) de_str)))
  dss_nil)
  (dss_one (ds_ret (de_and (de_eq hr (de_ix (de_var 0) de_int) de_str) (de_and (de_chain op_le op_lt opd_le opd_lt de_int (de_ix (de_var 0) de_int) (de_var 1)) (de_one (de_gt (de_ix (de_var 0) de_int) de_int))))))))
/-! ### making -/
abbrev s_making : Stmt := (topS 26)
abbrev N_making : List Str := ["sheet", "row", "steps", "found", "marks", "begin", "best", "place", "step"]
theorem sc_making : FnScope N_making ["sheet", "row", "steps"] (defScope s_making) := ⟨rfl, rfl, rfl, by decide +kernel, rfl, by decide +kernel, by decide +kernel⟩
theorem ok_making {f : Addr} {fd : FuncData} (F : Fun T.K "making" "making" s_making f fd) (B : Blt mg) (c_alike_many : DefG P w T.K mg base CX0 1 "alike_many" (spD T 5 f_alike_many)) :
    FnOk P w T.K mg base CX0 2 f fd ["sheet", "row", "steps"] (spD T 3 f_making) :=
  fn_D (N := N_making) (ps := ["sheet", "row", "steps"]) (k := 1) (m := m_making) F sc_making fun cdv A outer s H E hr =>
  (dss_cons (ds_setO 3 sc_making.nd (dl_lst da_nil))
  (dss_cons (ds_setO 4 sc_making.nd (dl_lst da_nil))
  (dss_cons (ds_set 5 sc_making.nd de_int)
  (dss_cons (ds_while 2000000 PassesOwn.never (dt_cmp op_lt opd_lt (de_var 5) (de_len B.len (de_var 1)) (nomark _))
  (dss_cons (ds_set 6 sc_making.nd (de_tup (da_cons de_int (da_cons de_int (da_cons de_int da_nil)))))
  (dss_cons (ds_for PassesOwn.never rfl (dn_range1 B.range (da_cons (de_len B.len (de_var 0)) da_nil)) (dg_nm (i := 7) sc_making.nd)
  (dss_one (ds_for PassesOwn.never rfl (dn_seq (de_var 2)) (dg_nm (i := 8) sc_making.nd)
  (dss_one (ds_set 6 sc_making.nd (de_maxT rfl hr B.max (de_var 6) (de_tup (da_cons (de_call c_alike_many hr (by decide) passN (da_cons (de_var 0) (da_cons (de_var 7) (da_cons (de_var 8) (da_cons (de_var 1) (da_cons (de_var 5) da_nil)))))) (da_cons (de_var 7) (da_cons (de_var 8) da_nil))))))))))
  (dss_cons (ds_if (dt_cmp (op_eqD hr.units) opd_eq (de_ix (de_var 6) de_int) de_int (nomark _))
  (dss_one (ds_ret (de_tup (da_cons de_non (da_cons (de_var 5) da_nil)))))
  dss_nil)
  (dss_cons (ds_app 3 (de_tup (da_cons (de_ix (de_var 6) de_int) (da_cons (de_ix (de_var 6) de_int) (da_cons (de_ix (de_var 6) de_int) da_nil)))))
  (dss_cons (ds_app 4 (de_var 5))
  (dss_one (ds_inc 5 sc_making.nd (de_ix (de_var 6) de_int)))))))))
  (dss_one (ds_ret (de_tup (da_cons (de_var 3) (da_cons (de_var 4) da_nil)))))))))
/-! ### _law_spoiled -/
abbrev s_law_spoiled : Stmt := (topS 32)
abbrev N_law_spoiled : List Str := ["_law_thing", "_law_one"]
theorem sc_law_spoiled : FnScope N_law_spoiled ["_law_thing"] (defScope s_law_spoiled) := ⟨rfl, rfl, rfl, by decide +kernel, rfl, by decide +kernel, by decide +kernel⟩
theorem ok_spo1 {f : Addr} {fd : FuncData} (F : Fun T.K "_law_spoiled" "_law_spoiled" s_law_spoiled f fd) (B : Blt mg) (c : DefG P w T.K mg base CX0 0 "_law_spoiled" (spD T 1 fun _ => .stuck)) : FnOk P w T.K mg base CX0 1 f fd ["_law_thing"] (spSpoil1 T) :=
  fn_spoil1 (k := 0) F sc_law_spoiled fun cdv A outer s H E hr =>
  (pss_cons (ps_for PassesOwn.never rfl (pi_list (pv 0)) (pg_name sc_law_spoiled.nd (i := 1) rfl (by first | exact Or.inl rfl | exact Or.inr rfl)) (pss_one (ps_if (dt_val (de_isTy .list B.isinstance (de_var 1) rfl B.list (by decide +kernel))) (pss_one (ps_expr (pe_cal (E := E0) c hr (by decide) passN rfl (pa_cons (pv 1) pa_nil)))) pss_nil)))
    (pss_cons (ps_expr (pe_bm PySem.F.plainAttrs_list PySem.F.slot_list_append PySem.F.type_list_append mt_append (pv 0) (pa_cons pe_int pa_nil)))
    (pss_one (ps_expr (pe_bm0 PySem.F.plainAttrs_list PySem.F.slot_list_reverse PySem.F.type_list_reverse mt_reverse (pv 0))))))
theorem ok_spo2 {f : Addr} {fd : FuncData} (F : Fun T.K "_law_spoiled" "_law_spoiled" s_law_spoiled f fd) (B : Blt mg) (c : DefG P w T.K mg base CX0 1 "_law_spoiled" (spSpoil1 T)) : FnOk P w T.K mg base CX0 2 f fd ["_law_thing"] (spSpoil2 T) :=
  fn_spoil2 (k := 1) F sc_law_spoiled fun cdv A outer s H E hr =>
  (pss_cons (ps_for PassesOwn.never rfl (pi_list (pv 0)) (pg_name sc_law_spoiled.nd (i := 1) rfl (by first | exact Or.inl rfl | exact Or.inr rfl)) (pss_one (ps_if (dt_val (de_isTy .list B.isinstance (de_var 1) rfl B.list (by decide +kernel))) (pss_one (ps_expr (pe_cal (E := E0) c hr (by decide) passN rfl (pa_cons (pv 1) pa_nil)))) pss_nil)))
    (pss_cons (ps_expr (pe_bm PySem.F.plainAttrs_list PySem.F.slot_list_append PySem.F.type_list_append mt_append (pv 0) (pa_cons pe_int pa_nil)))
    (pss_one (ps_expr (pe_bm0 PySem.F.plainAttrs_list PySem.F.slot_list_reverse PySem.F.type_list_reverse mt_reverse (pv 0))))))
theorem ok_law_spoiled {f : Addr} {fd : FuncData} (F : Fun T.K "_law_spoiled" "_law_spoiled" s_law_spoiled f fd) (B : Blt mg)  (hm : mg "_law_spoiled" = some (.ref f)) (b : Binds T.K fd ["_law_thing"] []) :
    FnOk P w T.K mg base CX0 2 f fd ["_law_thing"] (fun vs H Q E => spSpoil1 T vs H Q E ∨ spSpoil2 T vs H Q E) := by
  have c0 : DefG P w T.K mg base CX0 0 "_law_spoiled" (spD T 1 fun _ => .stuck) := defG fnok_no F hm b
  have g1 := ok_spo1 F B c0
  have g2 := ok_spo2 F B (defG g1 F hm b)
  exact fnok_or (fnok_lift g1 (by decide)) g2
/-! ### pasted -/
abbrev s_pasted : Stmt := (topS 11)
abbrev N_pasted : List Str := ["sheet", "clippings", "clipping"]
theorem sc_pasted : FnScope N_pasted ["sheet", "clippings"] (defScope s_pasted) := ⟨rfl, rfl, rfl, by decide +kernel, rfl, by decide +kernel, by decide +kernel⟩
theorem ok_pasted {f : Addr} {fd : FuncData} (F : Fun T.K "pasted" "pasted" s_pasted f fd) (B : Blt mg) (c_check_row : DefG P w T.K mg base (L2N.CX P w) 2 "check_row" (spD T 1 f_check_row)) (c_pasted_of : DefG P w T.K mg base CX0 2 "pasted_of" (spL T 2 f_pasted_of)) (c_is_clipping : DefG P w T.K mg base CX0 2 "is_clipping" (spD T 2 f_is_clipping)) (e_BadClipping : ExF T.K mg "BadClipping" (T.exc 1)) :
    FnOk P w T.K mg base (L2N.CX P w) 3 f fd ["sheet", "clippings"] (spL T 2 f_pasted) :=
  fn_XL (N := N_pasted) (ps := ["sheet", "clippings"]) (k := 2) (m := m_pasted) F sc_pasted fun cdv A outer s H E hr =>
  (dss_cons (ds_expr (de_call c_check_row hr (by decide) (L2N.passes_call (L2N.takes_of rfl rfl rfl rfl) (fun _ _ _ _ h => h)) (da_cons (de_var 0) da_nil)))
  (dss_cons (ds_if (dt_w (dw_or (dt_not (dt_val (de_isTy .list B.isinstance (de_var 1) rfl B.list (by decide +kernel)))) (dw_or1 (dt_not (dt_val (de_all rfl B.all (di_l (dl_comp (own := [("clipping", 2)]) (t := (.nm 2)) rfl sc_pasted.nd (dn_seq (de_var 1)) (blkOk_by (own := [("clipping", 2)]) (N := N_pasted) (sc := defScope s_pasted) (by decide +kernel)) (fun _ _ _ _ _ => (dg_nm (i := 2) sc_pasted.nd)) (fun _ _ _ _ _ => (de_call c_is_clipping hr (by decide) passN (da_cons (de_var 0) (da_cons (de_var 2) da_nil)))) (by decide)))))))))
  (dss_one (ds_raise 1 rfl (L2N.takes_of rfl rfl rfl rfl) e_BadClipping))
  dss_nil)
  (dss_one (ds_retL (dl_call c_pasted_of hr (by decide) passN (da_cons (de_var 0) (da_cons (de_var 1) da_nil)))))))
/-! ### grown_of -/
abbrev s_grown_of : Stmt := (topS 13)
abbrev N_grown_of : List Str := ["deeds", "found", "deed", "at"]
theorem sc_grown_of : FnScope N_grown_of ["deeds"] (defScope s_grown_of) := ⟨rfl, rfl, rfl, by decide +kernel, rfl, by decide +kernel, by decide +kernel⟩
theorem ok_grown_of {f : Addr} {fd : FuncData} (F : Fun T.K "grown_of" "grown_of" s_grown_of f fd) (B : Blt mg) (c_is_deed : DefG P w T.K mg base CX0 2 "is_deed" (spD T 2 f_is_deed)) :
    FnOk P w T.K mg base CX0 3 f fd ["deeds"] (spR T 1 f_grown_of) :=
  fn_R (N := N_grown_of) (ps := ["deeds"]) (k := 2) (m := m_grown_of) F sc_grown_of fun cdv A outer s H E hr =>
  (dss_cons (ds_setO 1 sc_grown_of.nd (dl_lst da_nil))
  (dss_cons (ds_for PassesOwn.never rfl (dn_seq (de_var 0)) (dg_nm (i := 2) sc_grown_of.nd)
  (dss_cons (ds_if (dt_not (dt_val (de_call c_is_deed hr (by decide) passN (da_cons (de_var 2) (da_cons (de_lenI B.len (di_own 1)) da_nil)))))
  (dss_one (ds_ret de_non))
  dss_nil)
  (dss_one (ds_if (dt_cmp (op_eqD hr.units) opd_eq (de_len B.len (de_var 2)) de_int (nomark _))
  (dss_one (ds_app 1 (de_ix (de_var 2) de_int)))
  (dss_one (ds_for PassesOwn.never rfl (dn_range1 B.range (da_cons (de_ix (de_var 2) de_int) da_nil)) (dg_nm (i := 3) sc_grown_of.nd)
  (dss_one (ds_app 1 (de_ixI (di_own 1) (de_add (de_ix (de_var 2) de_int) (de_var 3)))))))))))
  (dss_one (ds_retO 1))))
/-! ### are_made -/
abbrev s_are_made : Stmt := (topS 19)
abbrev N_are_made : List Str := ["sheet", "row", "clippings", "marks", "clipping"]
theorem sc_are_made : FnScope N_are_made ["sheet", "row", "clippings", "marks"] (defScope s_are_made) := ⟨rfl, rfl, rfl, by decide +kernel, rfl, by decide +kernel, by decide +kernel⟩
theorem ok_are_made {f : Addr} {fd : FuncData} (F : Fun T.K "are_made" "are_made" s_are_made f fd) (B : Blt mg) (c_pasted_of : DefG P w T.K mg base CX0 2 "pasted_of" (spL T 2 f_pasted_of)) (c_is_clipping : DefG P w T.K mg base CX0 2 "is_clipping" (spD T 2 f_is_clipping)) :
    FnOk P w T.K mg base CX0 3 f fd ["sheet", "row", "clippings", "marks"] (spD T 4 f_are_made) :=
  fn_D (N := N_are_made) (ps := ["sheet", "row", "clippings", "marks"]) (k := 2) (m := m_are_made) F sc_are_made fun cdv A outer s H E hr =>
  (dss_cons (ds_if (dt_w (dw_or (dt_cmp (op_neD hr.units) opd_ne (de_len B.len (de_var 2)) (de_len B.len (de_var 3)) (nomark _)) (dw_or1 (dt_not (dt_val (de_all rfl B.all (di_l (dl_comp (own := [("clipping", 4)]) (t := (.nm 4)) rfl sc_are_made.nd (dn_seq (de_var 2)) (blkOk_by (own := [("clipping", 4)]) (N := N_are_made) (sc := defScope s_are_made) (by decide +kernel)) (fun _ _ _ _ _ => (dg_nm (i := 4) sc_are_made.nd)) (fun _ _ _ _ _ => (de_call c_is_clipping hr (by decide) passN (da_cons (de_var 0) (da_cons (de_var 4) da_nil)))) (by decide)))))))))
  (dss_one (ds_ret de_bl))
  dss_nil)
  (dss_one (ds_ret (de_eq hr (de_l (dl_call c_pasted_of hr (by decide) passN (da_cons (de_var 0) (da_cons (de_var 2) da_nil)))) (de_var 1)))))
/-! ### forth -/
abbrev s_forth : Stmt := (topS 27)
abbrev N_forth : List Str := ["sheet", "row", "found", "marks"]
theorem sc_forth : FnScope N_forth ["sheet", "row"] (defScope s_forth) := ⟨rfl, rfl, rfl, by decide +kernel, rfl, by decide +kernel, by decide +kernel⟩
theorem ok_forth {f : Addr} {fd : FuncData} (F : Fun T.K "forth" "forth" s_forth f fd) (B : Blt mg) (c_check_row : DefG P w T.K mg base (L2N.CX P w) 2 "check_row" (spD T 1 f_check_row)) (c_making : DefG P w T.K mg base CX0 2 "making" (spD T 3 f_making)) (KC : ClA T mg) (mk_0 : MkG P w T mg base 0 (spI2 T 0 "clippings" "marks")) (mk_2 : MkG P w T mg base 2 (spI1 T 2 "place")) :
    FnOk P w T.K mg base (L2N.CX P w) 3 f fd ["sheet", "row"] (spR T 2 f_forth) :=
  fn_XR (N := N_forth) (ps := ["sheet", "row"]) (k := 2) (m := m_forth) F sc_forth fun cdv A outer s H E hr =>
  (dss_cons (ds_expr (de_call c_check_row hr (by decide) (L2N.passes_call (L2N.takes_of rfl rfl rfl rfl) (fun _ _ _ _ h => h)) (da_cons (de_var 0) da_nil)))
  (dss_cons (ds_expr (de_call c_check_row hr (by decide) (L2N.passes_call (L2N.takes_of rfl rfl rfl rfl) (fun _ _ _ _ h => h)) (da_cons (de_var 1) da_nil)))
  (dss_cons (ds_asg (de_call c_making hr (by decide) passN (da_cons (de_var 0) (da_cons (de_var 1) (da_cons (de_tup (da_cons de_int da_nil)) da_nil)))) (dg_tp rfl (dgs_cons (i := 2) sc_forth.nd (dgs_cons (i := 3) sc_forth.nd dgs_nil))))
  (dss_cons (ds_if (dt_cmp (op_isN.or op_isBl) opd_is (de_var 2) de_non (nomark _))
  (dss_one (ds_retR (dr_e (de_mk1 rfl mk_2 KC.gLacks hr (by decide) (de_var 3)))))
  dss_nil)
  (dss_one (ds_retR (dr_mk2 rfl mk_0 KC.gForth hr (by decide) (di_e (de_var 2)) (di_e (de_var 3)))))))))
/-! ### either -/
abbrev s_either : Stmt := (topS 28)
abbrev N_either : List Str := ["sheet", "row", "found", "marks"]
theorem sc_either : FnScope N_either ["sheet", "row"] (defScope s_either) := ⟨rfl, rfl, rfl, by decide +kernel, rfl, by decide +kernel, by decide +kernel⟩
theorem ok_either {f : Addr} {fd : FuncData} (F : Fun T.K "either" "either" s_either f fd) (B : Blt mg) (c_check_row : DefG P w T.K mg base (L2N.CX P w) 2 "check_row" (spD T 1 f_check_row)) (c_making : DefG P w T.K mg base CX0 2 "making" (spD T 3 f_making)) (KC : ClA T mg) (mk_1 : MkG P w T mg base 1 (spI2 T 1 "clippings" "marks")) (mk_2 : MkG P w T mg base 2 (spI1 T 2 "place")) :
    FnOk P w T.K mg base (L2N.CX P w) 3 f fd ["sheet", "row"] (spR T 2 f_either) :=
  fn_XR (N := N_either) (ps := ["sheet", "row"]) (k := 2) (m := m_either) F sc_either fun cdv A outer s H E hr =>
  (dss_cons (ds_expr (de_call c_check_row hr (by decide) (L2N.passes_call (L2N.takes_of rfl rfl rfl rfl) (fun _ _ _ _ h => h)) (da_cons (de_var 0) da_nil)))
  (dss_cons (ds_expr (de_call c_check_row hr (by decide) (L2N.passes_call (L2N.takes_of rfl rfl rfl rfl) (fun _ _ _ _ h => h)) (da_cons (de_var 1) da_nil)))
  (dss_cons (ds_asg (de_call c_making hr (by decide) passN (da_cons (de_var 0) (da_cons (de_var 1) (da_cons (de_tup (da_cons de_int (da_cons (de_neg de_int) da_nil))) da_nil)))) (dg_tp rfl (dgs_cons (i := 2) sc_either.nd (dgs_cons (i := 3) sc_either.nd dgs_nil))))
  (dss_cons (ds_if (dt_cmp (op_isN.or op_isBl) opd_is (de_var 2) de_non (nomark _))
  (dss_one (ds_retR (dr_e (de_mk1 rfl mk_2 KC.gLacks hr (by decide) (de_var 3)))))
  dss_nil)
  (dss_one (ds_retR (dr_mk2 rfl mk_1 KC.gEither hr (by decide) (di_e (de_var 2)) (di_e (de_var 3)))))))))
/-! ### own -/
abbrev s_own : Stmt := (topS 29)
abbrev N_own : List Str := ["row", "deeds", "marks", "begin", "best", "place"]
theorem sc_own : FnScope N_own ["row"] (defScope s_own) := ⟨rfl, rfl, rfl, by decide +kernel, rfl, by decide +kernel, by decide +kernel⟩
theorem ok_own {f : Addr} {fd : FuncData} (F : Fun T.K "own" "own" s_own f fd) (B : Blt mg) (c_check_row : DefG P w T.K mg base (L2N.CX P w) 2 "check_row" (spD T 1 f_check_row)) (c_alike_many : DefG P w T.K mg base CX0 1 "alike_many" (spD T 5 f_alike_many)) (KC : ClA T mg) (mk_3 : MkG P w T mg base 3 (spI2 T 3 "deeds" "marks")) :
    FnOk P w T.K mg base (L2N.CX P w) 3 f fd ["row"] (spR T 1 f_own) :=
  fn_XR (N := N_own) (ps := ["row"]) (k := 2) (m := m_own) F sc_own fun cdv A outer s H E hr =>
  (dss_cons (ds_expr (de_call c_check_row hr (by decide) (L2N.passes_call (L2N.takes_of rfl rfl rfl rfl) (fun _ _ _ _ h => h)) (da_cons (de_var 0) da_nil)))
  (dss_cons (ds_setO 1 sc_own.nd (dl_lst da_nil))
  (dss_cons (ds_setO 2 sc_own.nd (dl_lst da_nil))
  (dss_cons (ds_set 3 sc_own.nd de_int)
  (dss_cons (ds_while 2000000 (passes_of rfl) (dt_cmp op_lt opd_lt (de_var 3) (de_len B.len (de_var 0)) (nomark _))
  (dss_cons (ds_set 4 sc_own.nd (de_tup (da_cons de_int (da_cons de_int da_nil))))
  (dss_cons (ds_for (passes_of rfl) rfl (dn_range1 B.range (da_cons (de_var 3) da_nil)) (dg_nm (i := 5) sc_own.nd)
  (dss_one (ds_set 4 sc_own.nd (de_maxT rfl hr B.max (de_var 4) (de_tup (da_cons (de_call c_alike_many hr (by decide) passN (da_cons (de_var 0) (da_cons (de_var 5) (da_cons de_int (da_cons (de_var 0) (da_cons (de_var 3) da_nil)))))) (da_cons (de_var 5) da_nil)))))))
  (dss_cons (ds_app 2 (de_var 3))
  (dss_one (ds_if (dt_cmp (op_eqD hr.units) opd_eq (de_ix (de_var 4) de_int) de_int (nomark _))
  (dss_cons (ds_app 1 (de_tup (da_cons de_str (da_cons (de_ix (de_var 0) (de_var 3)) da_nil))))
  (dss_one (ds_inc 3 sc_own.nd de_int)))
  (dss_cons (ds_app 1 (de_tup (da_cons de_str (da_cons (de_ix (de_var 4) de_int) (da_cons (de_ix (de_var 4) de_int) da_nil)))))
  (dss_one (ds_inc 3 sc_own.nd (de_ix (de_var 4) de_int))))))))))
  (dss_one (ds_retR (dr_mk2 rfl mk_3 KC.gGrown hr (by decide) (di_own 1) (di_own 2)))))))))
/-! ### _law_copied -/
abbrev s_law_copied : Stmt := (topS 31)
abbrev N_law_copied : List Str := ["_law_thing", "_law_one"]
theorem sc_law_copied : FnScope N_law_copied ["_law_thing"] (defScope s_law_copied) := ⟨rfl, rfl, rfl, by decide +kernel, rfl, by decide +kernel, by decide +kernel⟩
theorem ok_copA {f : Addr} {fd : FuncData} (F : Fun T.K "_law_copied" "_law_copied" s_law_copied f fd) (B : Blt mg) (c : DefG P w T.K mg base CX0 0 "_law_copied" (spD T 1 fun _ => .stuck)) : FnOk P w T.K mg base CX0 1 f fd ["_law_thing"] (spD T 1 f_copA) :=
  fn_D (N := N_law_copied) (ps := ["_law_thing"]) (k := 0) (m := m_copA fun _ => .stuck) F sc_law_copied fun cdv A outer s H E hr =>
  (dss_one (ds_ret (de_if (dt_val (de_isTy .list B.isinstance (de_var 0) rfl B.list (by decide +kernel))) (de_l (dl_comp (own := [("_law_one", 1)]) (t := (.nm 1)) rfl sc_law_copied.nd (dn_seq (de_var 0)) (blkOk_by (own := [("_law_one", 1)]) (N := N_law_copied) (sc := defScope s_law_copied) (by decide +kernel)) (fun _ _ _ _ _ => (dg_nm (i := 1) sc_law_copied.nd)) (fun _ _ _ _ _ => (de_call c hr (by decide) passN (da_cons (de_var 1) da_nil))) (by decide))) (de_var 0))))
theorem ok_copB {f : Addr} {fd : FuncData} (F : Fun T.K "_law_copied" "_law_copied" s_law_copied f fd) (B : Blt mg) (c : DefG P w T.K mg base CX0 1 "_law_copied" (spD T 1 f_copA)) : FnOk P w T.K mg base CX0 2 f fd ["_law_thing"] (spR T 1 f_copB) :=
  fn_R (N := N_law_copied) (ps := ["_law_thing"]) (k := 1) (m := m_copB f_copA) F sc_law_copied fun cdv A outer s H E hr =>
  (dss_one (ds_retR (dr_if (dt_val (de_isTy .list B.isinstance (de_var 0) rfl B.list (by decide +kernel))) (dr_l (dl_comp (own := [("_law_one", 1)]) (t := (.nm 1)) rfl sc_law_copied.nd (dn_seq (de_var 0)) (blkOk_by (own := [("_law_one", 1)]) (N := N_law_copied) (sc := defScope s_law_copied) (by decide +kernel)) (fun _ _ _ _ _ => (dg_nm (i := 1) sc_law_copied.nd)) (fun _ _ _ _ _ => (de_call c hr (by decide) passN (da_cons (de_var 1) da_nil))) (by decide))) (dr_e (de_var 0)))))
theorem ok_copC {f : Addr} {fd : FuncData} (F : Fun T.K "_law_copied" "_law_copied" s_law_copied f fd) (B : Blt mg) (c : DefG P w T.K mg base CX0 2 "_law_copied" (spR T 1 f_copB)) : FnOk P w T.K mg base CX0 3 f fd ["_law_thing"] (spR T 1 f_copC) :=
  fn_R (N := N_law_copied) (ps := ["_law_thing"]) (k := 2) (m := m_copC f_copB) F sc_law_copied fun cdv A outer s H E hr =>
  (dss_one (ds_retR (dr_if (dt_val (de_isTy .list B.isinstance (de_var 0) rfl B.list (by decide +kernel))) (dr_compO (own := [("_law_one", 1)]) (t := (.nm 1)) rfl sc_law_copied.nd (dn_seq (de_var 0)) (blkOk_by (own := [("_law_one", 1)]) (N := N_law_copied) (sc := defScope s_law_copied) (by decide +kernel)) (fun _ _ _ _ _ => (dg_nm (i := 1) sc_law_copied.nd)) (fun _ _ _ _ _ => (dl_own (dr_call c hr (by decide) passN (da_cons (de_var 1) da_nil)))) (by decide)) (dr_e (de_var 0)))))
theorem ok_law_copied {f : Addr} {fd : FuncData} (F : Fun T.K "_law_copied" "_law_copied" s_law_copied f fd) (B : Blt mg)  (hm : mg "_law_copied" = some (.ref f)) (b : Binds T.K fd ["_law_thing"] []) :
    FnOk P w T.K mg base CX0 3 f fd ["_law_thing"] (spR T 1 f_law_copied) := by
  have c0 : DefG P w T.K mg base CX0 0 "_law_copied" (spD T 1 fun _ => .stuck) := defG fnok_no F hm b
  have gA := ok_copA F B c0
  have gB := ok_copB F B (defG gA F hm b)
  have gC := ok_copC F B (defG gB F hm b)
  exact (fnok_or (fnok_lift gB (by decide)) gC).imp fun vs H Q E h => cop_or h
/-! ### grown -/
abbrev s_grown : Stmt := (topS 14)
abbrev N_grown : List Str := ["deeds", "found"]
theorem sc_grown : FnScope N_grown ["deeds"] (defScope s_grown) := ⟨rfl, rfl, rfl, by decide +kernel, rfl, by decide +kernel, by decide +kernel⟩
theorem ok_grown {f : Addr} {fd : FuncData} (F : Fun T.K "grown" "grown" s_grown f fd) (B : Blt mg) (c_grown_of : DefG P w T.K mg base CX0 3 "grown_of" (spR T 1 f_grown_of)) (e_BadDeed : ExF T.K mg "BadDeed" (T.exc 2)) :
    FnOk P w T.K mg base (L2N.CX P w) 4 f fd ["deeds"] (spL T 1 f_grown) :=
  fn_XL (N := N_grown) (ps := ["deeds"]) (k := 3) (m := m_grown) F sc_grown fun cdv A outer s H E hr =>
  (dss_cons (ds_setR 1 sc_grown.nd (dr_if (dt_val (de_isTy .list B.isinstance (de_var 0) rfl B.list (by decide +kernel))) (dr_call c_grown_of hr (by decide) passN (da_cons (de_var 0) da_nil)) (dr_e de_non)))
  (dss_cons (ds_if (dt_z (dt_cmp (op_isN.or op_isBl) opd_is (de_var 1) de_non (nomark _)))
  (dss_one (ds_raise 2 rfl (L2N.takes_of rfl rfl rfl rfl) e_BadDeed))
  dss_nil)
  (dss_one (ds_retV 1))))
/-! ### Forth.shows -/
abbrev s_Forth_shows : Stmt := (inClass (topS 20) 1)
abbrev N_Forth_shows : List Str := ["self", "sheet", "row", "a", "b", "step", "between", "part"]
theorem sc_Forth_shows : FnScope N_Forth_shows ["self", "sheet", "row"] (defScope s_Forth_shows) := ⟨rfl, rfl, rfl, by decide +kernel, rfl, by decide +kernel, by decide +kernel⟩
theorem ok_Forth_shows {f : Addr} {fd : FuncData} (F : Fun T.K "shows" "Forth.shows" s_Forth_shows f fd) (B : Blt mg) (c_spans : DefG P w T.K mg base CX0 1 "spans" (spD T 2 f_spans)) (c_are_made : DefG P w T.K mg base CX0 3 "are_made" (spD T 4 f_are_made)) (c_stands : DefG P w T.K mg base CX0 1 "stands" (spD T 2 f_stands)) (KC : ClA T mg) :
    FnOk P w T.K mg base CX0 4 f fd ["self", "sheet", "row"] (spD T 3 f_Forth_shows) :=
  fn_D (N := N_Forth_shows) (ps := ["self", "sheet", "row"]) (k := 3) (m := m_Forth_shows) F sc_Forth_shows fun cdv A outer s H E hr =>
  (dss_cons (ds_if (dt_w (dw_or (dt_not (dt_val (de_call c_are_made hr (by decide) passN (da_cons (de_var 1) (da_cons (de_var 2) (da_cons (de_fld .clippings KC (de_var 0)) (da_cons (de_fld .marks KC (de_var 0)) da_nil))))))) (dw_or1 (dt_val (de_any rfl B.any (di_l (dl_comp (own := [("a", 3), ("b", 4), ("step", 5)]) (t := (.tp [3, 4, 5])) rfl sc_Forth_shows.nd (dn_seq (de_fld .clippings KC (de_var 0))) (blkOk_by (own := [("a", 3), ("b", 4), ("step", 5)]) (N := N_Forth_shows) (sc := defScope s_Forth_shows) (by decide +kernel)) (fun _ _ _ _ _ => (dg_tp rfl (dgs_cons (i := 3) sc_Forth_shows.nd (dgs_cons (i := 4) sc_Forth_shows.nd (dgs_cons (i := 5) sc_Forth_shows.nd dgs_nil))))) (fun _ _ _ _ _ => (de_lt (de_var 5) de_int)) (by decide))))))))
  (dss_one (ds_ret de_bl))
  dss_nil)
  (dss_cons (ds_set 6 sc_Forth_shows.nd (de_call c_spans hr (by decide) passN (da_cons (de_var 2) (da_cons (de_fld .marks KC (de_var 0)) da_nil))))
  (dss_one (ds_ret (de_and (de_isNot (de_var 6) de_non) (de_one (de_not (de_any rfl B.any (di_l (dl_comp (own := [("part", 7)]) (t := (.nm 7)) rfl sc_Forth_shows.nd (dn_seq (de_var 6)) (blkOk_by (own := [("part", 7)]) (N := N_Forth_shows) (sc := defScope s_Forth_shows) (by decide +kernel)) (fun _ _ _ _ _ => (dg_nm (i := 7) sc_Forth_shows.nd)) (fun _ _ _ _ _ => (de_call c_stands hr (by decide) passN (da_cons (de_var 1) (da_cons (de_var 7) da_nil)))) (by decide)))))))))))
/-! ### Either.shows -/
abbrev s_Either_shows : Stmt := (inClass (topS 21) 1)
abbrev N_Either_shows : List Str := ["self", "sheet", "row", "between", "part"]
theorem sc_Either_shows : FnScope N_Either_shows ["self", "sheet", "row"] (defScope s_Either_shows) := ⟨rfl, rfl, rfl, by decide +kernel, rfl, by decide +kernel, by decide +kernel⟩
theorem ok_Either_shows {f : Addr} {fd : FuncData} (F : Fun T.K "shows" "Either.shows" s_Either_shows f fd) (B : Blt mg) (c_spans : DefG P w T.K mg base CX0 1 "spans" (spD T 2 f_spans)) (c_are_made : DefG P w T.K mg base CX0 3 "are_made" (spD T 4 f_are_made)) (c_stands : DefG P w T.K mg base CX0 1 "stands" (spD T 2 f_stands)) (KC : ClA T mg) :
    FnOk P w T.K mg base CX0 4 f fd ["self", "sheet", "row"] (spD T 3 f_Either_shows) :=
  fn_D (N := N_Either_shows) (ps := ["self", "sheet", "row"]) (k := 3) (m := m_Either_shows) F sc_Either_shows fun cdv A outer s H E hr =>
  (dss_cons (ds_if (dt_not (dt_val (de_call c_are_made hr (by decide) passN (da_cons (de_var 1) (da_cons (de_var 2) (da_cons (de_fld .clippings KC (de_var 0)) (da_cons (de_fld .marks KC (de_var 0)) da_nil)))))))
  (dss_one (ds_ret de_bl))
  dss_nil)
  (dss_cons (ds_set 3 sc_Either_shows.nd (de_call c_spans hr (by decide) passN (da_cons (de_var 2) (da_cons (de_fld .marks KC (de_var 0)) da_nil))))
  (dss_one (ds_ret (de_and (de_isNot (de_var 3) de_non) (de_one (de_not (de_any rfl B.any (di_l (dl_comp (own := [("part", 4)]) (t := (.nm 4)) rfl sc_Either_shows.nd (dn_seq (de_var 3)) (blkOk_by (own := [("part", 4)]) (N := N_Either_shows) (sc := defScope s_Either_shows) (by decide +kernel)) (fun _ _ _ _ _ => (dg_nm (i := 4) sc_Either_shows.nd)) (fun _ _ _ _ _ => (de_or (de_call c_stands hr (by decide) passN (da_cons (de_var 1) (da_cons (de_var 4) da_nil))) (de_one (de_call c_stands hr (by decide) passN (da_cons (de_var 1) (da_cons (de_l (dl_rev (di_e (de_var 4)))) da_nil)))))) (by decide)))))))))))
/-! ### Grown.shows -/
abbrev s_Grown_shows : Stmt := (inClass (topS 23) 1)
abbrev N_Grown_shows : List Str := ["self", "row", "between", "mark", "part"]
theorem sc_Grown_shows : FnScope N_Grown_shows ["self", "row"] (defScope s_Grown_shows) := ⟨rfl, rfl, rfl, by decide +kernel, rfl, by decide +kernel, by decide +kernel⟩
theorem ok_Grown_shows {f : Addr} {fd : FuncData} (F : Fun T.K "shows" "Grown.shows" s_Grown_shows f fd) (B : Blt mg) (c_spans : DefG P w T.K mg base CX0 1 "spans" (spD T 2 f_spans)) (c_stands : DefG P w T.K mg base CX0 1 "stands" (spD T 2 f_stands)) (c_grown_of : DefG P w T.K mg base CX0 3 "grown_of" (spR T 1 f_grown_of)) (KC : ClA T mg) :
    FnOk P w T.K mg base CX0 4 f fd ["self", "row"] (spD T 2 f_Grown_shows) :=
  fn_D (N := N_Grown_shows) (ps := ["self", "row"]) (k := 3) (m := m_Grown_shows) F sc_Grown_shows fun cdv A outer s H E hr =>
  (dss_cons (ds_if (dt_w (dw_or (dt_cmp (op_neD hr.units) opd_ne (de_len B.len (de_fld .deeds KC (de_var 0))) (de_len B.len (de_fld .marks KC (de_var 0))) (nomark _)) (dw_or1 (dt_cmp (op_neD hr.units) opd_ne (de_r (dr_call c_grown_of hr (by decide) passN (da_cons (de_fld .deeds KC (de_var 0)) da_nil))) (de_var 1) (nomark _)))))
  (dss_one (ds_ret de_bl))
  dss_nil)
  (dss_cons (ds_set 2 sc_Grown_shows.nd (de_call c_spans hr (by decide) passN (da_cons (de_var 1) (da_cons (de_fld .marks KC (de_var 0)) da_nil))))
  (dss_cons (ds_if (dt_cmp (op_isN.or op_isBl) opd_is (de_var 2) de_non (nomark _))
  (dss_one (ds_ret de_bl))
  dss_nil)
  (dss_cons (ds_for PassesOwn.never rfl (dn_zip B.zip (da_cons (de_fld .marks KC (de_var 0)) (da_cons (de_var 2) da_nil))) (dg_tp rfl (dgs_cons (i := 3) sc_Grown_shows.nd (dgs_cons (i := 4) sc_Grown_shows.nd dgs_nil)))
  (dss_one (ds_if (dt_val (de_call c_stands hr (by decide) passN (da_cons (de_l (dl_cut (di_e (de_var 1)) do_none (do_some (de_sub (de_add (de_var 3) (de_len B.len (de_var 4))) de_int)))) (da_cons (de_var 4) da_nil))))
  (dss_one (ds_ret de_bl))
  dss_nil)))
  (dss_one (ds_ret de_bl))))))
/-! ### _law_laid -/
abbrev s_law_laid : Stmt := (topS 33)
abbrev N_law_laid : List Str := ["_law_mine", "_law_other", "_law_at", "_law_one"]
theorem sc_law_laid : FnScope N_law_laid ["_law_mine", "_law_other"] (defScope s_law_laid) := ⟨rfl, rfl, rfl, by decide +kernel, rfl, by decide +kernel, by decide +kernel⟩
theorem ok_lai1 {f : Addr} {fd : FuncData} (F : Fun T.K "_law_laid" "_law_laid" s_law_laid f fd) (B : Blt mg) (c_law_copied : DefG P w T.K mg base CX0 3 "_law_copied" (spR T 1 f_law_copied)) (c : DefG P w T.K mg base CX0 0 "_law_laid" (spD T 2 fun _ => .stuck)) : FnOk P w T.K mg base CX0 4 f fd ["_law_mine", "_law_other"] (spLaid1 T) :=
  fn_laid1 (k := 3) F sc_law_laid cop_plain fun cdv A outer s H E hr =>
  (pss_cons (ps_while PassesOwn.never (dt_cmp op_gt opd_gt (de_len B.len (de_var 0)) (de_len B.len (de_var 1)) (nomark _)) (pss_one (ps_expr (pe_bm0 PySem.F.plainAttrs_list PySem.F.slot_list_pop PySem.F.type_list_pop mt_pop (pv 0)))))
    (pss_one (ps_for PassesOwn.never rfl (dn_enum B.enumerate (da_cons (de_var 1) da_nil)) (dg_tp rfl (dgs_cons (i := 2) sc_law_laid.nd (dgs_cons (i := 3) sc_law_laid.nd dgs_nil)))
    (pss_one (ps_if (dt_cmp (op_eqD hr.units) opd_eq (de_var 2) (de_len B.len (de_var 0)) (nomark _)) (pss_one (ps_expr (pe_bm PySem.F.plainAttrs_list PySem.F.slot_list_append PySem.F.type_list_append mt_append (pv 0) (pa_cons (de_r (dr_call c_law_copied hr (by decide) passN (da_cons (de_var 3) da_nil))) pa_nil))))
    (pss_one (ps_if (dt_w (dw_and (dt_val (de_isTy .list B.isinstance (de_var 3) rfl B.list (by decide +kernel))) (dw_and1 (dt_val (de_isTy .list B.isinstance (de_ix (de_var 0) (de_var 2)) rfl B.list (by decide +kernel)))))) (pss_one (ps_expr (pe_cal (E := E0) c hr (by decide) passN rfl (pa_cons (pe_ix ix_list (pv 0) (pv 2) (fun _ _ => rfl)) (pa_cons (pv 3) pa_nil)))))
    (pss_one (ps_asg (de_r (dr_call c_law_copied hr (by decide) passN (da_cons (de_var 3) da_nil))) (pg_sub (pv 0) (pv 2) set_list))))))))))
theorem ok_lai2 {f : Addr} {fd : FuncData} (F : Fun T.K "_law_laid" "_law_laid" s_law_laid f fd) (B : Blt mg) (c_law_copied : DefG P w T.K mg base CX0 3 "_law_copied" (spR T 1 f_law_copied)) (c : DefG P w T.K mg base CX0 4 "_law_laid" (spLaid1 T)) : FnOk P w T.K mg base CX0 5 f fd ["_law_mine", "_law_other"] (spLaid2 T) :=
  fn_laid2 (k := 4) F sc_law_laid fun cdv A outer s H E hr =>
  (pss_cons (ps_while PassesOwn.never (dt_cmp op_gt opd_gt (de_len B.len (de_var 0)) (de_len B.len (de_var 1)) (nomark _)) (pss_one (ps_expr (pe_bm0 PySem.F.plainAttrs_list PySem.F.slot_list_pop PySem.F.type_list_pop mt_pop (pv 0)))))
    (pss_one (ps_for PassesOwn.never rfl (dn_enum B.enumerate (da_cons (de_var 1) da_nil)) (dg_tp rfl (dgs_cons (i := 2) sc_law_laid.nd (dgs_cons (i := 3) sc_law_laid.nd dgs_nil)))
    (pss_one (ps_if (dt_cmp (op_eqD hr.units) opd_eq (de_var 2) (de_len B.len (de_var 0)) (nomark _)) (pss_one (ps_expr (pe_bm PySem.F.plainAttrs_list PySem.F.slot_list_append PySem.F.type_list_append mt_append (pv 0) (pa_cons (de_r (dr_call c_law_copied hr (by decide) passN (da_cons (de_var 3) da_nil))) pa_nil))))
    (pss_one (ps_if (dt_w (dw_and (dt_val (de_isTy .list B.isinstance (de_var 3) rfl B.list (by decide +kernel))) (dw_and1 (dt_val (de_isTy .list B.isinstance (de_ix (de_var 0) (de_var 2)) rfl B.list (by decide +kernel)))))) (pss_one (ps_expr (pe_cal (E := E0) c hr (by decide) passN rfl (pa_cons (pe_ix ix_list (pv 0) (pv 2) (fun _ _ => rfl)) (pa_cons (pv 3) pa_nil)))))
    (pss_one (ps_asg (de_r (dr_call c_law_copied hr (by decide) passN (da_cons (de_var 3) da_nil))) (pg_sub (pv 0) (pv 2) set_list))))))))))
theorem ok_law_laid {f : Addr} {fd : FuncData} (F : Fun T.K "_law_laid" "_law_laid" s_law_laid f fd) (B : Blt mg) (c_law_copied : DefG P w T.K mg base CX0 3 "_law_copied" (spR T 1 f_law_copied)) (hm : mg "_law_laid" = some (.ref f)) (b : Binds T.K fd ["_law_mine", "_law_other"] []) :
    FnOk P w T.K mg base CX0 5 f fd ["_law_mine", "_law_other"] (fun vs H Q E => spLaid1 T vs H Q E ∨ spLaid2 T vs H Q E) := by
  have c0 : DefG P w T.K mg base CX0 0 "_law_laid" (spD T 2 fun _ => .stuck) := defG fnok_no F hm b
  have g1 := ok_lai1 F B c_law_copied c0
  have g2 := ok_lai2 F B c_law_copied (defG g1 F hm b)
  exact fnok_or (fnok_lift g1 (by decide)) g2
/-! ### _law_door_right -/
abbrev s_law_door_right : Stmt := (topS 34)
abbrev N_law_door_right : List Str := ["_law_ask", "_law_one", "_law_other", "_law_mine", "_law_given", "_law_before"]
theorem sc_law_door_right : FnScope N_law_door_right ["_law_ask", "_law_one", "_law_other"] (defScope s_law_door_right) := ⟨rfl, rfl, rfl, by decide +kernel, rfl, by decide +kernel, by decide +kernel⟩
theorem ok_law_door_right {f : Addr} {fd : FuncData} (F : Fun T.K "_law_door_right" "_law_door_right" s_law_door_right f fd) (B : Blt mg) (c_law_copied : DefG P w T.K mg base CX0 3 "_law_copied" (spR T 1 f_law_copied)) (c_law_spoiled : DefG P w T.K mg base CX0 2 "_law_spoiled" (fun vs H Q E => spSpoil1 T vs H Q E ∨ spSpoil2 T vs H Q E)) (c_law_laid : DefG P w T.K mg base CX0 5 "_law_laid" (fun vs H Q E => spLaid1 T vs H Q E ∨ spLaid2 T vs H Q E)) (LR_ : LrA P w T mg base 4 lr_all) :
    FnOk P w T.K mg base CX0 6 f fd ["_law_ask", "_law_one", "_law_other"] (spD T 3 f_law_door_right) :=
  fn_D (N := N_law_door_right) (ps := ["_law_ask", "_law_one", "_law_other"]) (k := 5) (m := m_law_door_right) F sc_law_door_right fun cdv A outer s H E hr =>
  (dss_cons (ds_setR 3 sc_law_door_right.nd (dr_call c_law_copied hr (by decide) passN (da_cons (de_var 1) da_nil)))
  (dss_cons (ds_setR 4 sc_law_door_right.nd (dr_zN (dr_callL (i := 0) LR_ hr (by decide) (da_cons (de_var 3) da_nil))))
  (dss_cons (ds_if (dt_z (dt_cmp (op_neD hr.units) opd_ne (de_var 3) (de_var 1) (nomark _)))
  (dss_one (ds_ret de_bl))
  dss_nil)
  (dss_cons (ds_setR 5 sc_law_door_right.nd (dr_zN (dr_call c_law_copied hr (by decide) passN (da_cons (de_var 4) da_nil))))
  (dss_cons (ds_spoil 4 (defG_l c_law_spoiled) hr (by decide))
  (dss_cons (ds_if (dt_z (dt_cmp (op_neD hr.units) opd_ne (de_r (dr_callL (i := 0) LR_ hr (by decide) (da_cons (de_var 3) da_nil))) (de_var 5) (nomark _)))
  (dss_one (ds_ret de_bl))
  dss_nil)
  (dss_cons (ds_laid 3 2 c_law_laid hr (by decide))
  (dss_cons (ds_if (dt_z (dt_w (dw_or (dt_cmp (op_neD hr.units) opd_ne (de_r (dr_callL (i := 0) LR_ hr (by decide) (da_cons (de_var 3) da_nil))) (de_r (dr_callL (i := 0) LR_ hr (by decide) (da_cons (de_r (dr_call c_law_copied hr (by decide) passN (da_cons (de_var 2) da_nil))) da_nil))) (nomark _)) (dw_or1 (dt_cmp (op_neD hr.units) opd_ne (de_var 3) (de_var 2) (nomark _))))))
  (dss_one (ds_ret de_bl))
  dss_nil)
  (dss_cons (ds_laid 3 1 c_law_laid hr (by decide))
  (dss_one (ds_ret (de_and (de_eq hr (de_r (dr_callL (i := 0) LR_ hr (by decide) (da_cons (de_var 3) da_nil))) (de_var 5)) (de_one (de_eq hr (de_var 3) (de_var 1)))))))))))))))
/-! ### _law_free_right -/
abbrev s_law_free_right : Stmt := (topS 37)
abbrev N_law_free_right : List Str := ["_law_ask", "_law_holds", "_law_one", "_law_other", "_law_mine", "_law_things", "_law_found"]
theorem sc_law_free_right : FnScope N_law_free_right ["_law_ask", "_law_holds", "_law_one", "_law_other"] (defScope s_law_free_right) := ⟨rfl, rfl, rfl, by decide +kernel, rfl, by decide +kernel, by decide +kernel⟩
theorem ok_law_free_right {f : Addr} {fd : FuncData} (F : Fun T.K "_law_free_right" "_law_free_right" s_law_free_right f fd) (B : Blt mg) (c_law_copied : DefG P w T.K mg base CX0 3 "_law_copied" (spR T 1 f_law_copied)) (c_law_laid : DefG P w T.K mg base CX0 5 "_law_laid" (fun vs H Q E => spLaid1 T vs H Q E ∨ spLaid2 T vs H Q E)) (c_law_spoiled : DefG P w T.K mg base CX0 2 "_law_spoiled" (fun vs H Q E => spSpoil1 T vs H Q E ∨ spSpoil2 T vs H Q E)) (c_law_told : DefG P w T.K mg base CX0 1 "_law_told" (spTold T)) (LR_ : LrA P w T mg base 4 lr_all) :
    FnOk P w T.K mg base CX0 6 f fd ["_law_ask", "_law_holds", "_law_one", "_law_other"] (spD T 4 f_law_free_right) :=
  fn_D (N := N_law_free_right) (ps := ["_law_ask", "_law_holds", "_law_one", "_law_other"]) (k := 5) (m := m_law_free_right) F sc_law_free_right fun cdv A outer s H E hr =>
  (dss_cons (ds_setR 4 sc_law_free_right.nd (dr_call c_law_copied hr (by decide) passN (da_cons (de_var 2) da_nil)))
  (dss_cons (ds_for PassesOwn.never rfl (dn_seq (de_tup (da_cons (de_var 2) (da_cons (de_var 2) (da_cons (de_var 3) (da_cons (de_var 2) da_nil)))))) (dg_nm (i := 5) sc_law_free_right.nd)
  (dss_cons (ds_laid 4 5 c_law_laid hr (by decide))
  (dss_cons (ds_setR 6 sc_law_free_right.nd (dr_zN (dr_callL (i := 0) LR_ hr (by decide) (da_cons (de_var 4) da_nil))))
  (dss_cons (ds_if (dt_z (dt_w (dw_or (dt_cmp (op_neD hr.units) opd_ne (de_var 4) (de_var 5) (nomark _)) (dw_or1 (dt_cmp (op_notN.or op_notBl) opd_isNot (de_r (dr_callL (i := 1) LR_ hr (by decide) (da_cons (de_var 6) (da_cons (de_r (dr_call c_law_copied hr (by decide) passN (da_cons (de_var 5) da_nil))) da_nil)))) de_bl (nomark _))))))
  (dss_one (ds_ret de_bl))
  dss_nil)
  (dss_one (ds_spoilT 6 c_law_spoiled c_law_told hr (by decide) (by decide)))))))
  (dss_one (ds_ret (de_eq hr (de_var 4) (de_var 2))))))
/-! ### law -/
abbrev s_law : Stmt := (topS 38)
abbrev N_law : List Str := ["_law_script", "_law_cells", "_law_more", "_law_asks", "_law_frees", "_law_many", "_law_one", "_law_other", "_law_sheet", "_law_mine", "_law_theirs", "_law_some", "_law_others", "_law_deeds", "_law_more_deeds", "_law_ask", "_law_holds"]
theorem sc_law : FnScope N_law ["_law_script"] (defScope s_law) := ⟨rfl, rfl, rfl, by decide +kernel, rfl, by decide +kernel, by decide +kernel⟩
theorem ok_law {f : Addr} {fd : FuncData} (F : Fun T.K "law" "law" s_law f fd) (B : Blt mg) (c_xlaw_row : DefG P w T.K mg base CX0 1 "_law_row" (spD T 3 f_xlaw_row)) (c_law_free_right : DefG P w T.K mg base CX0 6 "_law_free_right" (spD T 4 f_law_free_right)) (c_own : DefG P w T.K mg base (L2N.CX P w) 3 "own" (spR T 1 f_own)) (c_pasted : DefG P w T.K mg base (L2N.CX P w) 3 "pasted" (spL T 2 f_pasted)) (c_grown : DefG P w T.K mg base (L2N.CX P w) 4 "grown" (spL T 1 f_grown)) (c_law_door_right : DefG P w T.K mg base CX0 6 "_law_door_right" (spD T 3 f_law_door_right)) (c_forth : DefG P w T.K mg base (L2N.CX P w) 3 "forth" (spR T 2 f_forth)) (c_either : DefG P w T.K mg base (L2N.CX P w) 3 "either" (spR T 2 f_either)) {cq tP : Addr} (hcode : fd.code = .ref cq) (TB : LamX.TabB base mg cq tP) (tbM : (tP, ("law.<locals>.<lambda>" : Str)) ∈ T.tabs) (tbO : ∀ p ∈ T.tabs, p.1 = tP → p.2 = "law.<locals>.<lambda>") (eL_0 : LamEq T 0 "law.<locals>.<lambda>" (lamP lam_0) (lamB lam_0) (lamSc lam_0) []) (eL_1 : LamEq T 1 "law.<locals>.<lambda>" (lamP lam_1) (lamB lam_1) (lamSc lam_1) []) (eL_2 : LamEq T 2 "law.<locals>.<lambda>" (lamP lam_2) (lamB lam_2) (lamSc lam_2) []) (eL_3 : LamEq T 3 "law.<locals>.<lambda>" (lamP lam_3) (lamB lam_3) (lamSc lam_3) []) (eL_4 : LamEq T 4 "law.<locals>.<lambda>" (lamP lam_4) (lamB lam_4) (lamSc lam_4) []) (eL_5 : LamEq T 5 "law.<locals>.<lambda>" (lamP lam_5) (lamB lam_5) (lamSc lam_5) []) (eL_6 : LamEq T 6 "law.<locals>.<lambda>" (lamP lam_6) (lamB lam_6) (lamSc lam_6) []) (eL_7 : LamEq T 7 "law.<locals>.<lambda>" (lamP lam_7) (lamB lam_7) (lamSc lam_7) []) (KC : ClA T mg) (hS : MethA P w T mg base 4 f_Forth_shows f_Either_shows f_Lacks_shows f_Grown_shows) :
    FnOk P w T.K mg base CX0 7 f fd ["_law_script"] (spD T 1 f_law) :=
  fn_DT (N := N_law) (ps := ["_law_script"]) (k := 6) (m := m_law) F sc_law hcode fun A outer s H E hr =>
  (dss_cons (ds_set 1 sc_law.nd (de_if (dt_cmp (op_neD hr.units) (opd_neS rfl) (de_var 0) (de_l (dl_lst da_nil)) (nomark _)) (de_l (dl_cutS (de_var 0) do_none (do_some de_int))) (de_l (dl_lst (da_cons de_int da_nil)))))
  (dss_cons (ds_set 2 sc_law.nd (de_abs B.abs (de_sum rfl B.sum (di_e (de_var 1)))))
  (dss_cons (ds_parR 3 4 rfl sc_law.nd (dr_l (dl_lst da_nil)) (dr_l (dl_lst da_nil)))
  (dss_cons (ds_set 5 sc_law.nd (de_add de_int (de_mod (de_var 2) de_int)))
  (dss_cons (ds_par3 6 7 8 rfl sc_law.nd (da_cons (de_call c_xlaw_row hr (by decide) passN (da_cons (de_var 1) (da_cons (de_var 5) (da_cons de_int da_nil)))) (da_cons (de_call c_xlaw_row hr (by decide) passN (da_cons (de_var 1) (da_cons (de_var 5) (da_cons de_int da_nil)))) (da_cons (de_l (dl_lst (da_cons de_int (da_cons de_int (da_cons de_int (da_cons de_int (da_cons de_int (da_cons de_int (da_cons de_int da_nil))))))))) da_nil))))
  (dss_cons (ds_for PassesOwn.never rfl (dn_seq (de_tup (da_cons (de_tup (da_cons (de_l (dl_lst (da_cons (de_var 8) (da_cons (de_var 6) da_nil)))) (da_cons (de_l (dl_lst (da_cons (de_l (dl_rev (di_e (de_var 8)))) (da_cons (de_var 7) da_nil)))) da_nil))) (da_cons (de_tup (da_cons (de_l (dl_lst (da_cons (de_var 6) (da_cons (de_var 7) da_nil)))) (da_cons (de_l (dl_lst (da_cons (de_var 7) (da_cons (de_var 6) da_nil)))) da_nil))) da_nil)))) (dg_tp rfl (dgs_cons (i := 9) sc_law.nd (dgs_cons (i := 10) sc_law.nd dgs_nil)))
  (dss_cons (ds_app 4 (de_tup (da_cons (de_lam0 0 ⟨TB, rfl, tbM, tbO⟩ (isL_of eL_0) eL_0.lf rfl) (da_cons (de_lam0 1 ⟨TB, rfl, tbM, tbO⟩ (isL_of eL_1) eL_1.lf rfl) (da_cons (de_var 9) (da_cons (de_var 10) da_nil))))))
  (dss_one (ds_app 4 (de_tup (da_cons (de_lam0 2 ⟨TB, rfl, tbM, tbO⟩ (isL_of eL_2) eL_2.lf rfl) (da_cons (de_lam0 3 ⟨TB, rfl, tbM, tbO⟩ (isL_of eL_3) eL_3.lf rfl) (da_cons (de_var 9) (da_cons (de_var 10) da_nil)))))))))
  (dss_cons (ds_app 4 (de_tup (da_cons (de_lam0 4 ⟨TB, rfl, tbM, tbO⟩ (isL_of eL_4) eL_4.lf rfl) (da_cons (de_lam0 5 ⟨TB, rfl, tbM, tbO⟩ (isL_of eL_5) eL_5.lf rfl) (da_cons (de_var 6) (da_cons (de_var 7) da_nil))))))
  (dss_cons (ds_par 11 12 rfl sc_law.nd (da_cons (de_l (dl_lst (da_cons (de_tup (da_cons de_int (da_cons de_int (da_cons de_int da_nil)))) (da_cons (de_tup (da_cons de_int (da_cons de_int (da_cons (de_neg de_int) da_nil)))) da_nil)))) (da_cons (de_l (dl_lst (da_cons (de_tup (da_cons de_int (da_cons de_int (da_cons (de_neg de_int) da_nil)))) (da_cons (de_tup (da_cons de_int (da_cons de_int (da_cons de_int da_nil)))) da_nil)))) da_nil)))
  (dss_cons (ds_app 3 (de_tup (da_cons (de_lam0 6 ⟨TB, rfl, tbM, tbO⟩ (isL_of eL_6) eL_6.lf rfl) (da_cons (de_l (dl_lst (da_cons (de_var 8) (da_cons (de_var 11) da_nil)))) (da_cons (de_l (dl_lst (da_cons (de_l (dl_rev (di_e (de_var 8)))) (da_cons (de_var 12) da_nil)))) da_nil)))))
  (dss_cons (ds_par 13 14 rfl sc_law.nd (da_cons (de_l (dl_lst (da_cons (de_tup (da_cons de_str (da_cons de_int da_nil))) (da_cons (de_tup (da_cons de_str (da_cons de_int (da_cons de_int da_nil)))) (da_cons (de_tup (da_cons de_str (da_cons de_int da_nil))) da_nil))))) (da_cons (de_l (dl_lst (da_cons (de_tup (da_cons de_str (da_cons de_int da_nil))) (da_cons (de_tup (da_cons de_str (da_cons de_int da_nil))) (da_cons (de_tup (da_cons de_str (da_cons de_int (da_cons de_int da_nil)))) da_nil))))) da_nil)))
  (dss_cons (ds_app 3 (de_tup (da_cons (de_lam0 7 ⟨TB, rfl, tbM, tbO⟩ (isL_of eL_7) eL_7.lf rfl) (da_cons (de_var 13) (da_cons (de_var 14) da_nil)))))
  (dss_cons (ds_if (dt_z (dt_not (dt_val (de_all rfl B.all (di_l (dl_comp (own := [("_law_ask", 15), ("_law_one", 6), ("_law_other", 7)]) (t := (.tp [15, 6, 7])) rfl sc_law.nd (dn_seq (de_var 3)) (blkOk_by (own := [("_law_ask", 15), ("_law_one", 6), ("_law_other", 7)]) (N := N_law) (sc := defScope s_law) (by decide +kernel)) (fun _ _ _ _ _ => (dg_tp rfl (dgs_cons (i := 15) sc_law.nd (dgs_cons (i := 6) sc_law.nd (dgs_cons (i := 7) sc_law.nd dgs_nil))))) (fun _ _ _ _ _ => (de_call c_law_door_right hr (by decide) passN (da_cons (de_var 15) (da_cons (de_var 6) (da_cons (de_var 7) da_nil))))) (by decide)))))))
  (dss_one (ds_ret de_bl))
  dss_nil)
  (dss_one (ds_ret (de_all rfl B.all (di_l (dl_comp (own := [("_law_ask", 15), ("_law_holds", 16), ("_law_one", 6), ("_law_other", 7)]) (t := (.tp [15, 16, 6, 7])) rfl sc_law.nd (dn_seq (de_var 4)) (blkOk_by (own := [("_law_ask", 15), ("_law_holds", 16), ("_law_one", 6), ("_law_other", 7)]) (N := N_law) (sc := defScope s_law) (by decide +kernel)) (fun _ _ _ _ _ => (dg_tp rfl (dgs_cons (i := 15) sc_law.nd (dgs_cons (i := 16) sc_law.nd (dgs_cons (i := 6) sc_law.nd (dgs_cons (i := 7) sc_law.nd dgs_nil)))))) (fun _ _ _ _ _ => (de_call c_law_free_right hr (by decide) passN (da_cons (de_var 15) (da_cons (de_var 16) (da_cons (de_var 6) (da_cons (de_var 7) da_nil)))))) (by decide))))))))))))))))))
end
end CL


set_option Elab.async false
set_option linter.all false
set_option maxRecDepth 100000
set_option maxHeartbeats 4000000
namespace CL
open PySem PySem.Spec L2
def spLaw (K : PySem.W.Frag) (ts : List Addr) : Sp := fun vs H Q _ => ∃ (a : Addr) (ns : List Int), vs = [.ref a] ∧ SqL K H a (ns.map V.int) ∧ ns.length ≤ 63 ∧ (∀ t ∈ ts, H t = some (.tbl #[])) ∧ ∀ H', Q (.bl true) H'
theorem law_at {l : PySem.W.OpenLaw} {w : World} {K : PySem.W.Frag} {k : Nat} {x : Str} {mg : Str → Option Value} {fa : Addr} {cs : List (Addr × Addr)} {h : Heap} (ts : List Addr) (hT : ∀ t ∈ ts, h.get? t = some (PySem.W.tabObj #[])) (nl : ts.all (fun t => (K.lookup t).isNone) = true) (X : K.In h)
    (hd : (cs.all (fun p => PySem.W.codeHdIn K p.1 p.2) && decide (cs.map (·.2) = ts)) = true)
    (F : ∃ fd : FuncData, (∀ (s : Shared) (v : Value), BindsTo s fd ⟨[v], []⟩ [(x, v)]) ∧ ∀ base : Heap, K.In base → base.Ns mainGlobals mg → (∀ p ∈ cs, LamX.TabB base mg p.1 p.2) → FnOk l.prog w K mg base CX0 k fa fd [x] (spLaw K ts)) : LamX.LawAtS l w K CX0 k 63 x mg fa h := by
  obtain ⟨fd, hb, hF⟩ := F
  rw [Bool.and_eq_true] at hd
  have hc : cs.map (·.2) = ts := of_decide_eq_true hd.2
  have mem : ∀ p ∈ cs, p.2 ∈ ts := fun p hp => by rw [← hc]; exact List.mem_map_of_mem hp
  refine ⟨fd, cs, spLaw K ts, fun p hp => hT _ (mem p hp), fun p hp => Option.isNone_iff_eq_none.mp (List.all_eq_true.mp nl _ (mem p hp)), fun p hp => PySem.W.codeHd_of_K X (List.all_eq_true.mp hd.1 p hp), hb, fun H a ns hl _ hH hS => ⟨a, ns, rfl, hS, hl, fun t ht => ?_, fun _ => rfl⟩, fun base X' G' TB => hF base X' G' TB⟩
  rw [← hc] at ht
  obtain ⟨p, hp, rfl⟩ := List.mem_map.mp ht
  exact hH p hp
theorem all_mk {l : PySem.W.OpenLaw} {w : World} {K : PySem.W.Frag} {h : Heap} {mg : Str → Option Value} {fa : Addr} (X : K.In h) (G : h.Ns mainGlobals mg) (hfa : mg "law" = some (.ref fa))
    {C_Forth : Addr} {C_Either : Addr} {C_Lacks : Addr} {C_Grown : Addr} {C_Answer : Addr}
    (g_Forth : PySem.W.nsIn K mainGlobals "Forth" = some (some (.ref C_Forth)))
    (g_Either : PySem.W.nsIn K mainGlobals "Either" = some (some (.ref C_Either)))
    (g_Lacks : PySem.W.nsIn K mainGlobals "Lacks" = some (some (.ref C_Lacks)))
    (g_Grown : PySem.W.nsIn K mainGlobals "Grown" = some (some (.ref C_Grown)))
    (g_Answer : PySem.W.nsIn K mainGlobals "Answer" = some (some (.ref C_Answer)))
    {f0 : Addr} {od0 an0 : Option Addr} {sl0 : Array (Option Value)} {oc0 kV0 dc0 pm0 cd0 ct0 : Value}
    (a0 : PySem.W.nsIn K mainGlobals "is_number" = some (some (.ref f0)))
    (l0 : K.lookup f0 = some ⟨oc0, od0, .func (PySem.W.fnOf "is_number" "is_number" (defArgs s_is_number) (defBody s_is_number) (defScope s_is_number) .none kV0 dc0 pm0 an0 cd0 ct0), sl0⟩) (c0 : PySem.W.codeIn K cd0 "is_number" = true) (k0 : PySem.W.keepIn K (.ref f0) = true)
    {f1 : Addr} {od1 an1 : Option Addr} {sl1 : Array (Option Value)} {oc1 kV1 dc1 pm1 cd1 ct1 : Value}
    (a1 : PySem.W.nsIn K mainGlobals "check_row" = some (some (.ref f1)))
    (l1 : K.lookup f1 = some ⟨oc1, od1, .func (PySem.W.fnOf "check_row" "check_row" (defArgs s_check_row) (defBody s_check_row) (defScope s_check_row) .none kV1 dc1 pm1 an1 cd1 ct1), sl1⟩) (c1 : PySem.W.codeIn K cd1 "check_row" = true) (k1 : PySem.W.keepIn K (.ref f1) = true)
    {f2 : Addr} {od2 an2 : Option Addr} {sl2 : Array (Option Value)} {oc2 kV2 dc2 pm2 cd2 ct2 : Value}
    (a2 : PySem.W.nsIn K mainGlobals "is_clipping" = some (some (.ref f2)))
    (l2 : K.lookup f2 = some ⟨oc2, od2, .func (PySem.W.fnOf "is_clipping" "is_clipping" (defArgs s_is_clipping) (defBody s_is_clipping) (defScope s_is_clipping) .none kV2 dc2 pm2 an2 cd2 ct2), sl2⟩) (c2 : PySem.W.codeIn K cd2 "is_clipping" = true) (k2 : PySem.W.keepIn K (.ref f2) = true)
    {f3 : Addr} {od3 an3 : Option Addr} {sl3 : Array (Option Value)} {oc3 kV3 dc3 pm3 cd3 ct3 : Value}
    (a3 : PySem.W.nsIn K mainGlobals "clipped" = some (some (.ref f3)))
    (l3 : K.lookup f3 = some ⟨oc3, od3, .func (PySem.W.fnOf "clipped" "clipped" (defArgs s_clipped) (defBody s_clipped) (defScope s_clipped) .none kV3 dc3 pm3 an3 cd3 ct3), sl3⟩) (c3 : PySem.W.codeIn K cd3 "clipped" = true) (k3 : PySem.W.keepIn K (.ref f3) = true)
    {f4 : Addr} {od4 an4 : Option Addr} {sl4 : Array (Option Value)} {oc4 kV4 dc4 pm4 cd4 ct4 : Value}
    (a4 : PySem.W.nsIn K mainGlobals "pasted_of" = some (some (.ref f4)))
    (l4 : K.lookup f4 = some ⟨oc4, od4, .func (PySem.W.fnOf "pasted_of" "pasted_of" (defArgs s_pasted_of) (defBody s_pasted_of) (defScope s_pasted_of) .none kV4 dc4 pm4 an4 cd4 ct4), sl4⟩) (c4 : PySem.W.codeIn K cd4 "pasted_of" = true) (k4 : PySem.W.keepIn K (.ref f4) = true)
    {f5 : Addr} {od5 an5 : Option Addr} {sl5 : Array (Option Value)} {oc5 kV5 dc5 pm5 cd5 ct5 : Value}
    (a5 : PySem.W.nsIn K mainGlobals "pasted" = some (some (.ref f5)))
    (l5 : K.lookup f5 = some ⟨oc5, od5, .func (PySem.W.fnOf "pasted" "pasted" (defArgs s_pasted) (defBody s_pasted) (defScope s_pasted) .none kV5 dc5 pm5 an5 cd5 ct5), sl5⟩) (c5 : PySem.W.codeIn K cd5 "pasted" = true) (k5 : PySem.W.keepIn K (.ref f5) = true)
    {f6 : Addr} {od6 an6 : Option Addr} {sl6 : Array (Option Value)} {oc6 kV6 dc6 pm6 cd6 ct6 : Value}
    (a6 : PySem.W.nsIn K mainGlobals "is_deed" = some (some (.ref f6)))
    (l6 : K.lookup f6 = some ⟨oc6, od6, .func (PySem.W.fnOf "is_deed" "is_deed" (defArgs s_is_deed) (defBody s_is_deed) (defScope s_is_deed) .none kV6 dc6 pm6 an6 cd6 ct6), sl6⟩) (c6 : PySem.W.codeIn K cd6 "is_deed" = true) (k6 : PySem.W.keepIn K (.ref f6) = true)
    {f7 : Addr} {od7 an7 : Option Addr} {sl7 : Array (Option Value)} {oc7 kV7 dc7 pm7 cd7 ct7 : Value}
    (a7 : PySem.W.nsIn K mainGlobals "grown_of" = some (some (.ref f7)))
    (l7 : K.lookup f7 = some ⟨oc7, od7, .func (PySem.W.fnOf "grown_of" "grown_of" (defArgs s_grown_of) (defBody s_grown_of) (defScope s_grown_of) .none kV7 dc7 pm7 an7 cd7 ct7), sl7⟩) (c7 : PySem.W.codeIn K cd7 "grown_of" = true) (k7 : PySem.W.keepIn K (.ref f7) = true)
    {f8 : Addr} {od8 an8 : Option Addr} {sl8 : Array (Option Value)} {oc8 kV8 dc8 pm8 cd8 ct8 : Value}
    (a8 : PySem.W.nsIn K mainGlobals "grown" = some (some (.ref f8)))
    (l8 : K.lookup f8 = some ⟨oc8, od8, .func (PySem.W.fnOf "grown" "grown" (defArgs s_grown) (defBody s_grown) (defScope s_grown) .none kV8 dc8 pm8 an8 cd8 ct8), sl8⟩) (c8 : PySem.W.codeIn K cd8 "grown" = true) (k8 : PySem.W.keepIn K (.ref f8) = true)
    {f9 : Addr} {od9 an9 : Option Addr} {sl9 : Array (Option Value)} {oc9 kV9 dc9 pm9 cd9 ct9 : Value}
    (a9 : PySem.W.nsIn K mainGlobals "stands" = some (some (.ref f9)))
    (l9 : K.lookup f9 = some ⟨oc9, od9, .func (PySem.W.fnOf "stands" "stands" (defArgs s_stands) (defBody s_stands) (defScope s_stands) .none kV9 dc9 pm9 an9 cd9 ct9), sl9⟩) (c9 : PySem.W.codeIn K cd9 "stands" = true) (k9 : PySem.W.keepIn K (.ref f9) = true)
    {f10 : Addr} {od10 an10 : Option Addr} {sl10 : Array (Option Value)} {oc10 kV10 dc10 pm10 cd10 ct10 : Value}
    (a10 : PySem.W.nsIn K mainGlobals "spans" = some (some (.ref f10)))
    (l10 : K.lookup f10 = some ⟨oc10, od10, .func (PySem.W.fnOf "spans" "spans" (defArgs s_spans) (defBody s_spans) (defScope s_spans) .none kV10 dc10 pm10 an10 cd10 ct10), sl10⟩) (c10 : PySem.W.codeIn K cd10 "spans" = true) (k10 : PySem.W.keepIn K (.ref f10) = true)
    {f11 : Addr} {od11 an11 : Option Addr} {sl11 : Array (Option Value)} {oc11 kV11 dc11 pm11 cd11 ct11 : Value}
    (a11 : PySem.W.nsIn K mainGlobals "are_made" = some (some (.ref f11)))
    (l11 : K.lookup f11 = some ⟨oc11, od11, .func (PySem.W.fnOf "are_made" "are_made" (defArgs s_are_made) (defBody s_are_made) (defScope s_are_made) .none kV11 dc11 pm11 an11 cd11 ct11), sl11⟩) (c11 : PySem.W.codeIn K cd11 "are_made" = true) (k11 : PySem.W.keepIn K (.ref f11) = true)
    {f12 : Addr} {od12 an12 : Option Addr} {sl12 : Array (Option Value)} {oc12 kV12 dc12 pm12 cd12 ct12 : Value}
    (a12 : PySem.W.findIn K (.ref C_Forth) "__init__" = some (some (.ref f12))) (i12 : PySem.W.isFn K (.ref f12) = true)
    (l12 : K.lookup f12 = some ⟨oc12, od12, .func (PySem.W.fnOf "__init__" "Forth.__init__" (defArgs s_Forth__init_) (defBody s_Forth__init_) (defScope s_Forth__init_) .none kV12 dc12 pm12 an12 cd12 ct12), sl12⟩) (c12 : PySem.W.codeIn K cd12 "Forth.__init__" = true) (k12 : PySem.W.keepIn K (.ref f12) = true)
    {f13 : Addr} {od13 an13 : Option Addr} {sl13 : Array (Option Value)} {oc13 kV13 dc13 pm13 cd13 ct13 : Value}
    (a13 : PySem.W.findIn K (.ref C_Forth) "shows" = some (some (.ref f13))) (i13 : PySem.W.isFn K (.ref f13) = true)
    (l13 : K.lookup f13 = some ⟨oc13, od13, .func (PySem.W.fnOf "shows" "Forth.shows" (defArgs s_Forth_shows) (defBody s_Forth_shows) (defScope s_Forth_shows) .none kV13 dc13 pm13 an13 cd13 ct13), sl13⟩) (c13 : PySem.W.codeIn K cd13 "Forth.shows" = true) (k13 : PySem.W.keepIn K (.ref f13) = true)
    {f14 : Addr} {od14 an14 : Option Addr} {sl14 : Array (Option Value)} {oc14 kV14 dc14 pm14 cd14 ct14 : Value}
    (a14 : PySem.W.findIn K (.ref C_Either) "__init__" = some (some (.ref f14))) (i14 : PySem.W.isFn K (.ref f14) = true)
    (l14 : K.lookup f14 = some ⟨oc14, od14, .func (PySem.W.fnOf "__init__" "Either.__init__" (defArgs s_Either__init_) (defBody s_Either__init_) (defScope s_Either__init_) .none kV14 dc14 pm14 an14 cd14 ct14), sl14⟩) (c14 : PySem.W.codeIn K cd14 "Either.__init__" = true) (k14 : PySem.W.keepIn K (.ref f14) = true)
    {f15 : Addr} {od15 an15 : Option Addr} {sl15 : Array (Option Value)} {oc15 kV15 dc15 pm15 cd15 ct15 : Value}
    (a15 : PySem.W.findIn K (.ref C_Either) "shows" = some (some (.ref f15))) (i15 : PySem.W.isFn K (.ref f15) = true)
    (l15 : K.lookup f15 = some ⟨oc15, od15, .func (PySem.W.fnOf "shows" "Either.shows" (defArgs s_Either_shows) (defBody s_Either_shows) (defScope s_Either_shows) .none kV15 dc15 pm15 an15 cd15 ct15), sl15⟩) (c15 : PySem.W.codeIn K cd15 "Either.shows" = true) (k15 : PySem.W.keepIn K (.ref f15) = true)
    {f16 : Addr} {od16 an16 : Option Addr} {sl16 : Array (Option Value)} {oc16 kV16 dc16 pm16 cd16 ct16 : Value}
    (a16 : PySem.W.findIn K (.ref C_Lacks) "__init__" = some (some (.ref f16))) (i16 : PySem.W.isFn K (.ref f16) = true)
    (l16 : K.lookup f16 = some ⟨oc16, od16, .func (PySem.W.fnOf "__init__" "Lacks.__init__" (defArgs s_Lacks__init_) (defBody s_Lacks__init_) (defScope s_Lacks__init_) .none kV16 dc16 pm16 an16 cd16 ct16), sl16⟩) (c16 : PySem.W.codeIn K cd16 "Lacks.__init__" = true) (k16 : PySem.W.keepIn K (.ref f16) = true)
    {f17 : Addr} {od17 an17 : Option Addr} {sl17 : Array (Option Value)} {oc17 kV17 dc17 pm17 cd17 ct17 : Value}
    (a17 : PySem.W.findIn K (.ref C_Lacks) "shows" = some (some (.ref f17))) (i17 : PySem.W.isFn K (.ref f17) = true)
    (l17 : K.lookup f17 = some ⟨oc17, od17, .func (PySem.W.fnOf "shows" "Lacks.shows" (defArgs s_Lacks_shows) (defBody s_Lacks_shows) (defScope s_Lacks_shows) .none kV17 dc17 pm17 an17 cd17 ct17), sl17⟩) (c17 : PySem.W.codeIn K cd17 "Lacks.shows" = true) (k17 : PySem.W.keepIn K (.ref f17) = true)
    {f18 : Addr} {od18 an18 : Option Addr} {sl18 : Array (Option Value)} {oc18 kV18 dc18 pm18 cd18 ct18 : Value}
    (a18 : PySem.W.findIn K (.ref C_Grown) "__init__" = some (some (.ref f18))) (i18 : PySem.W.isFn K (.ref f18) = true)
    (l18 : K.lookup f18 = some ⟨oc18, od18, .func (PySem.W.fnOf "__init__" "Grown.__init__" (defArgs s_Grown__init_) (defBody s_Grown__init_) (defScope s_Grown__init_) .none kV18 dc18 pm18 an18 cd18 ct18), sl18⟩) (c18 : PySem.W.codeIn K cd18 "Grown.__init__" = true) (k18 : PySem.W.keepIn K (.ref f18) = true)
    {f19 : Addr} {od19 an19 : Option Addr} {sl19 : Array (Option Value)} {oc19 kV19 dc19 pm19 cd19 ct19 : Value}
    (a19 : PySem.W.findIn K (.ref C_Grown) "shows" = some (some (.ref f19))) (i19 : PySem.W.isFn K (.ref f19) = true)
    (l19 : K.lookup f19 = some ⟨oc19, od19, .func (PySem.W.fnOf "shows" "Grown.shows" (defArgs s_Grown_shows) (defBody s_Grown_shows) (defScope s_Grown_shows) .none kV19 dc19 pm19 an19 cd19 ct19), sl19⟩) (c19 : PySem.W.codeIn K cd19 "Grown.shows" = true) (k19 : PySem.W.keepIn K (.ref f19) = true)
    {f20 : Addr} {od20 an20 : Option Addr} {sl20 : Array (Option Value)} {oc20 kV20 dc20 pm20 cd20 ct20 : Value}
    (a20 : PySem.W.nsIn K mainGlobals "alike_many" = some (some (.ref f20)))
    (l20 : K.lookup f20 = some ⟨oc20, od20, .func (PySem.W.fnOf "alike_many" "alike_many" (defArgs s_alike_many) (defBody s_alike_many) (defScope s_alike_many) .none kV20 dc20 pm20 an20 cd20 ct20), sl20⟩) (c20 : PySem.W.codeIn K cd20 "alike_many" = true) (k20 : PySem.W.keepIn K (.ref f20) = true)
    {f21 : Addr} {od21 an21 : Option Addr} {sl21 : Array (Option Value)} {oc21 kV21 dc21 pm21 cd21 ct21 : Value}
    (a21 : PySem.W.nsIn K mainGlobals "making" = some (some (.ref f21)))
    (l21 : K.lookup f21 = some ⟨oc21, od21, .func (PySem.W.fnOf "making" "making" (defArgs s_making) (defBody s_making) (defScope s_making) .none kV21 dc21 pm21 an21 cd21 ct21), sl21⟩) (c21 : PySem.W.codeIn K cd21 "making" = true) (k21 : PySem.W.keepIn K (.ref f21) = true)
    {f22 : Addr} {od22 an22 : Option Addr} {sl22 : Array (Option Value)} {oc22 kV22 dc22 pm22 cd22 ct22 : Value}
    (a22 : PySem.W.nsIn K mainGlobals "forth" = some (some (.ref f22)))
    (l22 : K.lookup f22 = some ⟨oc22, od22, .func (PySem.W.fnOf "forth" "forth" (defArgs s_forth) (defBody s_forth) (defScope s_forth) .none kV22 dc22 pm22 an22 cd22 ct22), sl22⟩) (c22 : PySem.W.codeIn K cd22 "forth" = true) (k22 : PySem.W.keepIn K (.ref f22) = true)
    {f23 : Addr} {od23 an23 : Option Addr} {sl23 : Array (Option Value)} {oc23 kV23 dc23 pm23 cd23 ct23 : Value}
    (a23 : PySem.W.nsIn K mainGlobals "either" = some (some (.ref f23)))
    (l23 : K.lookup f23 = some ⟨oc23, od23, .func (PySem.W.fnOf "either" "either" (defArgs s_either) (defBody s_either) (defScope s_either) .none kV23 dc23 pm23 an23 cd23 ct23), sl23⟩) (c23 : PySem.W.codeIn K cd23 "either" = true) (k23 : PySem.W.keepIn K (.ref f23) = true)
    {f24 : Addr} {od24 an24 : Option Addr} {sl24 : Array (Option Value)} {oc24 kV24 dc24 pm24 cd24 ct24 : Value}
    (a24 : PySem.W.nsIn K mainGlobals "own" = some (some (.ref f24)))
    (l24 : K.lookup f24 = some ⟨oc24, od24, .func (PySem.W.fnOf "own" "own" (defArgs s_own) (defBody s_own) (defScope s_own) .none kV24 dc24 pm24 an24 cd24 ct24), sl24⟩) (c24 : PySem.W.codeIn K cd24 "own" = true) (k24 : PySem.W.keepIn K (.ref f24) = true)
    {f25 : Addr} {od25 an25 : Option Addr} {sl25 : Array (Option Value)} {oc25 kV25 dc25 pm25 cd25 ct25 : Value}
    (a25 : PySem.W.nsIn K mainGlobals "_law_copied" = some (some (.ref f25)))
    (l25 : K.lookup f25 = some ⟨oc25, od25, .func (PySem.W.fnOf "_law_copied" "_law_copied" (defArgs s_law_copied) (defBody s_law_copied) (defScope s_law_copied) .none kV25 dc25 pm25 an25 cd25 ct25), sl25⟩) (c25 : PySem.W.codeIn K cd25 "_law_copied" = true) (k25 : PySem.W.keepIn K (.ref f25) = true)
    {f26 : Addr} {od26 an26 : Option Addr} {sl26 : Array (Option Value)} {oc26 kV26 dc26 pm26 cd26 ct26 : Value}
    (a26 : PySem.W.nsIn K mainGlobals "_law_spoiled" = some (some (.ref f26)))
    (l26 : K.lookup f26 = some ⟨oc26, od26, .func (PySem.W.fnOf "_law_spoiled" "_law_spoiled" (defArgs s_law_spoiled) (defBody s_law_spoiled) (defScope s_law_spoiled) .none kV26 dc26 pm26 an26 cd26 ct26), sl26⟩) (c26 : PySem.W.codeIn K cd26 "_law_spoiled" = true) (k26 : PySem.W.keepIn K (.ref f26) = true)
    {f27 : Addr} {od27 an27 : Option Addr} {sl27 : Array (Option Value)} {oc27 kV27 dc27 pm27 cd27 ct27 : Value}
    (a27 : PySem.W.nsIn K mainGlobals "_law_laid" = some (some (.ref f27)))
    (l27 : K.lookup f27 = some ⟨oc27, od27, .func (PySem.W.fnOf "_law_laid" "_law_laid" (defArgs s_law_laid) (defBody s_law_laid) (defScope s_law_laid) .none kV27 dc27 pm27 an27 cd27 ct27), sl27⟩) (c27 : PySem.W.codeIn K cd27 "_law_laid" = true) (k27 : PySem.W.keepIn K (.ref f27) = true)
    {f28 : Addr} {od28 an28 : Option Addr} {sl28 : Array (Option Value)} {oc28 kV28 dc28 pm28 cd28 ct28 : Value}
    (a28 : PySem.W.nsIn K mainGlobals "_law_door_right" = some (some (.ref f28)))
    (l28 : K.lookup f28 = some ⟨oc28, od28, .func (PySem.W.fnOf "_law_door_right" "_law_door_right" (defArgs s_law_door_right) (defBody s_law_door_right) (defScope s_law_door_right) .none kV28 dc28 pm28 an28 cd28 ct28), sl28⟩) (c28 : PySem.W.codeIn K cd28 "_law_door_right" = true) (k28 : PySem.W.keepIn K (.ref f28) = true)
    {f29 : Addr} {od29 an29 : Option Addr} {sl29 : Array (Option Value)} {oc29 kV29 dc29 pm29 cd29 ct29 : Value}
    (a29 : PySem.W.nsIn K mainGlobals "_law_row" = some (some (.ref f29)))
    (l29 : K.lookup f29 = some ⟨oc29, od29, .func (PySem.W.fnOf "_law_row" "_law_row" (defArgs s_xlaw_row) (defBody s_xlaw_row) (defScope s_xlaw_row) .none kV29 dc29 pm29 an29 cd29 ct29), sl29⟩) (c29 : PySem.W.codeIn K cd29 "_law_row" = true) (k29 : PySem.W.keepIn K (.ref f29) = true)
    {f30 : Addr} {od30 an30 : Option Addr} {sl30 : Array (Option Value)} {oc30 kV30 dc30 pm30 cd30 ct30 : Value}
    (a30 : PySem.W.nsIn K mainGlobals "_law_told" = some (some (.ref f30)))
    (l30 : K.lookup f30 = some ⟨oc30, od30, .func (PySem.W.fnOf "_law_told" "_law_told" (defArgs s_law_told) (defBody s_law_told) (defScope s_law_told) .none kV30 dc30 pm30 an30 cd30 ct30), sl30⟩) (c30 : PySem.W.codeIn K cd30 "_law_told" = true) (k30 : PySem.W.keepIn K (.ref f30) = true)
    {f31 : Addr} {od31 an31 : Option Addr} {sl31 : Array (Option Value)} {oc31 kV31 dc31 pm31 cd31 ct31 : Value}
    (a31 : PySem.W.nsIn K mainGlobals "_law_free_right" = some (some (.ref f31)))
    (l31 : K.lookup f31 = some ⟨oc31, od31, .func (PySem.W.fnOf "_law_free_right" "_law_free_right" (defArgs s_law_free_right) (defBody s_law_free_right) (defScope s_law_free_right) .none kV31 dc31 pm31 an31 cd31 ct31), sl31⟩) (c31 : PySem.W.codeIn K cd31 "_law_free_right" = true) (k31 : PySem.W.keepIn K (.ref f31) = true)
    {f32 : Addr} {od32 an32 : Option Addr} {sl32 : Array (Option Value)} {oc32 kV32 dc32 pm32 cd32 ct32 : Value}
    (a32 : PySem.W.nsIn K mainGlobals "law" = some (some (.ref f32)))
    (l32 : K.lookup f32 = some ⟨oc32, od32, .func (PySem.W.fnOf "law" "law" (defArgs s_law) (defBody s_law) (defScope s_law) .none kV32 dc32 pm32 an32 cd32 ct32), sl32⟩) (c32 : PySem.W.codeIn K cd32 "law" = true) (k32 : PySem.W.keepIn K (.ref f32) = true)
    (hnC : PySem.W.specialIn K (.builtin "object.__class__") "__get__" = some (some (.builtin "getset_descriptor.__get__"))) (tkC : PySem.W.takesIn K (.builtin "object.__class__") = some true)
    (pg_0 : PySem.W.plainGet K C_Forth Str.empty = true) (hd_0 : PySem.W.hasDictIn K C_Forth = true) (po_0 : PySem.W.plainOver K C_Forth = true) (sa_0 : PySem.W.findIn K (.ref C_Forth) "__setattr__" = some (some (.builtin "object.__setattr__")))
    (mk_0 : PySem.W.makesIn K C_Forth = true) (kc_0 : PySem.W.keepIn K (.ref C_Forth) = true) (ha_0 : PySem.W.findIn K (.ref C_Forth) "__class__" = some (some (.builtin "object.__class__"))) (mr_0 : PySem.W.mroIn K C_Forth (.type "object") = some true)
    (na_0_clippings : PySem.W.findIn K (.ref C_Forth) "clippings" = some none)
    (na_0_marks : PySem.W.findIn K (.ref C_Forth) "marks" = some none)
    (kt_0_0 : PySem.W.kitOne K (.ref C_Forth) (.ref C_Forth) = some true)
    (kt_0_1 : PySem.W.kitOne K (.ref C_Forth) (.ref C_Either) = some false)
    (kt_0_2 : PySem.W.kitOne K (.ref C_Forth) (.ref C_Lacks) = some false)
    (kt_0_3 : PySem.W.kitOne K (.ref C_Forth) (.ref C_Grown) = some false)
    (kt_0_4 : PySem.W.kitOne K (.ref C_Forth) (.ref C_Answer) = some true)
    (pg_1 : PySem.W.plainGet K C_Either Str.empty = true) (hd_1 : PySem.W.hasDictIn K C_Either = true) (po_1 : PySem.W.plainOver K C_Either = true) (sa_1 : PySem.W.findIn K (.ref C_Either) "__setattr__" = some (some (.builtin "object.__setattr__")))
    (mk_1 : PySem.W.makesIn K C_Either = true) (kc_1 : PySem.W.keepIn K (.ref C_Either) = true) (ha_1 : PySem.W.findIn K (.ref C_Either) "__class__" = some (some (.builtin "object.__class__"))) (mr_1 : PySem.W.mroIn K C_Either (.type "object") = some true)
    (na_1_clippings : PySem.W.findIn K (.ref C_Either) "clippings" = some none)
    (na_1_marks : PySem.W.findIn K (.ref C_Either) "marks" = some none)
    (kt_1_0 : PySem.W.kitOne K (.ref C_Either) (.ref C_Forth) = some false)
    (kt_1_1 : PySem.W.kitOne K (.ref C_Either) (.ref C_Either) = some true)
    (kt_1_2 : PySem.W.kitOne K (.ref C_Either) (.ref C_Lacks) = some false)
    (kt_1_3 : PySem.W.kitOne K (.ref C_Either) (.ref C_Grown) = some false)
    (kt_1_4 : PySem.W.kitOne K (.ref C_Either) (.ref C_Answer) = some true)
    (pg_2 : PySem.W.plainGet K C_Lacks Str.empty = true) (hd_2 : PySem.W.hasDictIn K C_Lacks = true) (po_2 : PySem.W.plainOver K C_Lacks = true) (sa_2 : PySem.W.findIn K (.ref C_Lacks) "__setattr__" = some (some (.builtin "object.__setattr__")))
    (mk_2 : PySem.W.makesIn K C_Lacks = true) (kc_2 : PySem.W.keepIn K (.ref C_Lacks) = true) (ha_2 : PySem.W.findIn K (.ref C_Lacks) "__class__" = some (some (.builtin "object.__class__"))) (mr_2 : PySem.W.mroIn K C_Lacks (.type "object") = some true)
    (na_2_place : PySem.W.findIn K (.ref C_Lacks) "place" = some none)
    (kt_2_0 : PySem.W.kitOne K (.ref C_Lacks) (.ref C_Forth) = some false)
    (kt_2_1 : PySem.W.kitOne K (.ref C_Lacks) (.ref C_Either) = some false)
    (kt_2_2 : PySem.W.kitOne K (.ref C_Lacks) (.ref C_Lacks) = some true)
    (kt_2_3 : PySem.W.kitOne K (.ref C_Lacks) (.ref C_Grown) = some false)
    (kt_2_4 : PySem.W.kitOne K (.ref C_Lacks) (.ref C_Answer) = some true)
    (pg_3 : PySem.W.plainGet K C_Grown Str.empty = true) (hd_3 : PySem.W.hasDictIn K C_Grown = true) (po_3 : PySem.W.plainOver K C_Grown = true) (sa_3 : PySem.W.findIn K (.ref C_Grown) "__setattr__" = some (some (.builtin "object.__setattr__")))
    (mk_3 : PySem.W.makesIn K C_Grown = true) (kc_3 : PySem.W.keepIn K (.ref C_Grown) = true) (ha_3 : PySem.W.findIn K (.ref C_Grown) "__class__" = some (some (.builtin "object.__class__"))) (mr_3 : PySem.W.mroIn K C_Grown (.type "object") = some true)
    (na_3_deeds : PySem.W.findIn K (.ref C_Grown) "deeds" = some none)
    (na_3_marks : PySem.W.findIn K (.ref C_Grown) "marks" = some none)
    (kt_3_0 : PySem.W.kitOne K (.ref C_Grown) (.ref C_Forth) = some false)
    (kt_3_1 : PySem.W.kitOne K (.ref C_Grown) (.ref C_Either) = some false)
    (kt_3_2 : PySem.W.kitOne K (.ref C_Grown) (.ref C_Lacks) = some false)
    (kt_3_3 : PySem.W.kitOne K (.ref C_Grown) (.ref C_Grown) = some true)
    (kt_3_4 : PySem.W.kitOne K (.ref C_Grown) (.ref C_Answer) = some true)
    (z_len : PySem.W.nsIn K mainGlobals "len" = some none)
    (z_isinstance : PySem.W.nsIn K mainGlobals "isinstance" = some none)
    (z_int : PySem.W.nsIn K mainGlobals "int" = some none)
    (z_bool : PySem.W.nsIn K mainGlobals "bool" = some none)
    (z_list : PySem.W.nsIn K mainGlobals "list" = some none)
    (z_tuple : PySem.W.nsIn K mainGlobals "tuple" = some none)
    (z_str : PySem.W.nsIn K mainGlobals "str" = some none)
    (z_all : PySem.W.nsIn K mainGlobals "all" = some none)
    (z_any : PySem.W.nsIn K mainGlobals "any" = some none)
    (z_range : PySem.W.nsIn K mainGlobals "range" = some none)
    (z_sum : PySem.W.nsIn K mainGlobals "sum" = some none)
    (z_abs : PySem.W.nsIn K mainGlobals "abs" = some none)
    (z_max : PySem.W.nsIn K mainGlobals "max" = some none)
    (z_min : PySem.W.nsIn K mainGlobals "min" = some none)
    (z_zip : PySem.W.nsIn K mainGlobals "zip" = some none)
    (z_enumerate : PySem.W.nsIn K mainGlobals "enumerate" = some none)
    {C_BadRow : Addr} (g_BadRow : PySem.W.nsIn K mainGlobals "BadRow" = some (some (.ref C_BadRow))) (x_BadRow : PySem.W.excIn K C_BadRow [.type "ValueError", .type "Exception", .type "BaseException", .type "object"] "ValueError.__new__" = true)
    (p_BadRow : PySem.W.keepIn K (.ref C_BadRow) = true) (b_BadRow : PySem.W.subIn K (.ref C_BadRow) (.type "BaseException") = some true) (t_BadRow : PySem.W.typeIn K (.ref C_BadRow) = some (.type "type"))
    {C_BadClipping : Addr} (g_BadClipping : PySem.W.nsIn K mainGlobals "BadClipping" = some (some (.ref C_BadClipping))) (x_BadClipping : PySem.W.excIn K C_BadClipping [.type "ValueError", .type "Exception", .type "BaseException", .type "object"] "ValueError.__new__" = true)
    (p_BadClipping : PySem.W.keepIn K (.ref C_BadClipping) = true) (b_BadClipping : PySem.W.subIn K (.ref C_BadClipping) (.type "BaseException") = some true) (t_BadClipping : PySem.W.typeIn K (.ref C_BadClipping) = some (.type "type"))
    {C_BadDeed : Addr} (g_BadDeed : PySem.W.nsIn K mainGlobals "BadDeed" = some (some (.ref C_BadDeed))) (x_BadDeed : PySem.W.excIn K C_BadDeed [.type "ValueError", .type "Exception", .type "BaseException", .type "object"] "ValueError.__new__" = true)
    (p_BadDeed : PySem.W.keepIn K (.ref C_BadDeed) = true) (b_BadDeed : PySem.W.subIn K (.ref C_BadDeed) (.type "BaseException") = some true) (t_BadDeed : PySem.W.typeIn K (.ref C_BadDeed) = some (.type "type"))
    {cq0 tP0 : Addr} (hq0 : cd32 = .ref cq0)
    : ∃ fd : FuncData, (∀ (s : Shared) (v : Value), BindsTo s fd ⟨[v], []⟩ [("_law_script", v)]) ∧ ∀ base : Heap, K.In base → base.Ns mainGlobals mg  → (∀ p ∈ ([(cq0, tP0)] : List (Addr × Addr)), LamX.TabB base mg p.1 p.2) → FnOk l.prog w K mg base CX0 7 fa fd ["_law_script"] (spLaw K [tP0]) := by
  have e := hfa.symm.trans (PySem.W.mg_of X G a32)
  cases e
  have B : Blt mg := ⟨PySem.W.mg_none_of X G z_len, PySem.W.mg_none_of X G z_isinstance, PySem.W.mg_none_of X G z_int, PySem.W.mg_none_of X G z_bool, PySem.W.mg_none_of X G z_list, PySem.W.mg_none_of X G z_tuple, PySem.W.mg_none_of X G z_str, PySem.W.mg_none_of X G z_all, PySem.W.mg_none_of X G z_any, PySem.W.mg_none_of X G z_range, PySem.W.mg_none_of X G z_sum, PySem.W.mg_none_of X G z_abs, PySem.W.mg_none_of X G z_max, PySem.W.mg_none_of X G z_min, PySem.W.mg_none_of X G z_zip, PySem.W.mg_none_of X G z_enumerate⟩
  obtain ⟨T, hT⟩ : ∃ T : Tx, T = ⟨K, fun c => match c with | 0 => C_Forth | 1 => C_Either | 2 => C_Lacks | 3 => C_Grown | 4 => C_Answer | _ => 0, fun c => match c with | 0 => C_BadRow | 1 => C_BadClipping | 2 => C_BadDeed | _ => 0, fun i => 0, fun _ _ => False, fun i => match i with | 0 => "law.<locals>.<lambda>" | 1 => "law.<locals>.<lambda>" | 2 => "law.<locals>.<lambda>" | 3 => "law.<locals>.<lambda>" | 4 => "law.<locals>.<lambda>" | 5 => "law.<locals>.<lambda>" | 6 => "law.<locals>.<lambda>" | 7 => "law.<locals>.<lambda>" | _ => "", fun i => match i with | 0 => lamP lam_0 | 1 => lamP lam_1 | 2 => lamP lam_2 | 3 => lamP lam_3 | 4 => lamP lam_4 | 5 => lamP lam_5 | 6 => lamP lam_6 | 7 => lamP lam_7 | _ => defArgs s_law, fun i => match i with | 0 => lamB lam_0 | 1 => lamB lam_1 | 2 => lamB lam_2 | 3 => lamB lam_3 | 4 => lamB lam_4 | 5 => lamB lam_5 | 6 => lamB lam_6 | 7 => lamB lam_7 | _ => noE, fun i => match i with | 0 => lamSc lam_0 | 1 => lamSc lam_1 | 2 => lamSc lam_2 | 3 => lamSc lam_3 | 4 => lamSc lam_4 | 5 => lamSc lam_5 | 6 => lamSc lam_6 | 7 => lamSc lam_7 | _ => defScope s_law, fun i => match i with | 0 => [] | 1 => [] | 2 => [] | 3 => [] | 4 => [] | 5 => [] | 6 => [] | 7 => [] | _ => [], [(tP0, "law.<locals>.<lambda>")]⟩ := ⟨_, rfl⟩
  have hK : T.K = K := by subst hT; rfl
  have e_BadRow : ExF T.K mg "BadRow" (T.exc 0) := by
    rw [hT]
    exact ⟨x_BadRow, PySem.W.mg_of X G g_BadRow, p_BadRow, b_BadRow, t_BadRow⟩
  have e_BadClipping : ExF T.K mg "BadClipping" (T.exc 1) := by
    rw [hT]
    exact ⟨x_BadClipping, PySem.W.mg_of X G g_BadClipping, p_BadClipping, b_BadClipping, t_BadClipping⟩
  have e_BadDeed : ExF T.K mg "BadDeed" (T.exc 2) := by
    rw [hT]
    exact ⟨x_BadDeed, PySem.W.mg_of X G g_BadDeed, p_BadDeed, b_BadDeed, t_BadDeed⟩
  have hC0 : T.cls 0 = C_Forth := by subst hT; rfl
  have hC1 : T.cls 1 = C_Either := by subst hT; rfl
  have hC2 : T.cls 2 = C_Lacks := by subst hT; rfl
  have hC3 : T.cls 3 = C_Grown := by subst hT; rfl
  have hC4 : T.cls 4 = C_Answer := by subst hT; rfl
  have K0 : Cl1 T mg 0 := by
    rw [hT]
    exact ⟨⟨pg_0, hd_0, po_0, sa_0⟩, fun n h => (match n, h with | .clippings, _ => na_0_clippings | .marks, _ => na_0_marks | .place, h => absurd h (by decide) | .deeds, h => absurd h (by decide)), ha_0, hnC, tkC, mr_0, fun b hb => match b, hb with | 0, _ => kt_0_0 | 1, _ => kt_0_1 | 2, _ => kt_0_2 | 3, _ => kt_0_3 | 4, _ => kt_0_4 | b + 5, hb => absurd hb (by omega)⟩
  have K1 : Cl1 T mg 1 := by
    rw [hT]
    exact ⟨⟨pg_1, hd_1, po_1, sa_1⟩, fun n h => (match n, h with | .clippings, _ => na_1_clippings | .marks, _ => na_1_marks | .place, h => absurd h (by decide) | .deeds, h => absurd h (by decide)), ha_1, hnC, tkC, mr_1, fun b hb => match b, hb with | 0, _ => kt_1_0 | 1, _ => kt_1_1 | 2, _ => kt_1_2 | 3, _ => kt_1_3 | 4, _ => kt_1_4 | b + 5, hb => absurd hb (by omega)⟩
  have K2 : Cl1 T mg 2 := by
    rw [hT]
    exact ⟨⟨pg_2, hd_2, po_2, sa_2⟩, fun n h => (match n, h with | .clippings, h => absurd h (by decide) | .marks, h => absurd h (by decide) | .place, _ => na_2_place | .deeds, h => absurd h (by decide)), ha_2, hnC, tkC, mr_2, fun b hb => match b, hb with | 0, _ => kt_2_0 | 1, _ => kt_2_1 | 2, _ => kt_2_2 | 3, _ => kt_2_3 | 4, _ => kt_2_4 | b + 5, hb => absurd hb (by omega)⟩
  have K3 : Cl1 T mg 3 := by
    rw [hT]
    exact ⟨⟨pg_3, hd_3, po_3, sa_3⟩, fun n h => (match n, h with | .clippings, h => absurd h (by decide) | .marks, _ => na_3_marks | .place, h => absurd h (by decide) | .deeds, _ => na_3_deeds), ha_3, hnC, tkC, mr_3, fun b hb => match b, hb with | 0, _ => kt_3_0 | 1, _ => kt_3_1 | 2, _ => kt_3_2 | 3, _ => kt_3_3 | 4, _ => kt_3_4 | b + 5, hb => absurd hb (by omega)⟩
  have KC : ClA T mg := ⟨fun c hc => match c, hc with | 0, _ => K0 | 1, _ => K1 | 2, _ => K2 | 3, _ => K3 | c + 4, hc => absurd hc (by omega), by rw [hC4]; exact PySem.W.mg_of X G g_Answer, by rw [hC0]; exact PySem.W.mg_of X G g_Forth, by rw [hC1]; exact PySem.W.mg_of X G g_Either, by rw [hC2]; exact PySem.W.mg_of X G g_Lacks, by rw [hC3]; exact PySem.W.mg_of X G g_Grown⟩
  have F0 := fun_mk (st := s_is_number) l0 c0 k0
  have b0 := F0.binds (ps := ["thing"]) fun _ _ _ _ _ _ us hl => match us, hl with | [_], _ => rfl
  rw [← hK] at F0 b0
  have F1 := fun_mk (st := s_check_row) l1 c1 k1
  have b1 := F1.binds (ps := ["row"]) fun _ _ _ _ _ _ us hl => match us, hl with | [_], _ => rfl
  rw [← hK] at F1 b1
  have F2 := fun_mk (st := s_is_clipping) l2 c2 k2
  have b2 := F2.binds (ps := ["sheet", "thing"]) fun _ _ _ _ _ _ us hl => match us, hl with | [_, _], _ => rfl
  rw [← hK] at F2 b2
  have F3 := fun_mk (st := s_clipped) l3 c3 k3
  have b3 := F3.binds (ps := ["sheet", "clipping"]) fun _ _ _ _ _ _ us hl => match us, hl with | [_, _], _ => rfl
  rw [← hK] at F3 b3
  have F4 := fun_mk (st := s_pasted_of) l4 c4 k4
  have b4 := F4.binds (ps := ["sheet", "clippings"]) fun _ _ _ _ _ _ us hl => match us, hl with | [_, _], _ => rfl
  rw [← hK] at F4 b4
  have F5 := fun_mk (st := s_pasted) l5 c5 k5
  have b5 := F5.binds (ps := ["sheet", "clippings"]) fun _ _ _ _ _ _ us hl => match us, hl with | [_, _], _ => rfl
  rw [← hK] at F5 b5
  have F6 := fun_mk (st := s_is_deed) l6 c6 k6
  have b6 := F6.binds (ps := ["thing", "many"]) fun _ _ _ _ _ _ us hl => match us, hl with | [_, _], _ => rfl
  rw [← hK] at F6 b6
  have F7 := fun_mk (st := s_grown_of) l7 c7 k7
  have b7 := F7.binds (ps := ["deeds"]) fun _ _ _ _ _ _ us hl => match us, hl with | [_], _ => rfl
  rw [← hK] at F7 b7
  have F8 := fun_mk (st := s_grown) l8 c8 k8
  have b8 := F8.binds (ps := ["deeds"]) fun _ _ _ _ _ _ us hl => match us, hl with | [_], _ => rfl
  rw [← hK] at F8 b8
  have F9 := fun_mk (st := s_stands) l9 c9 k9
  have b9 := F9.binds (ps := ["sheet", "stretch"]) fun _ _ _ _ _ _ us hl => match us, hl with | [_, _], _ => rfl
  rw [← hK] at F9 b9
  have F10 := fun_mk (st := s_spans) l10 c10 k10
  have b10 := F10.binds (ps := ["row", "marks"]) fun _ _ _ _ _ _ us hl => match us, hl with | [_, _], _ => rfl
  rw [← hK] at F10 b10
  have F11 := fun_mk (st := s_are_made) l11 c11 k11
  have b11 := F11.binds (ps := ["sheet", "row", "clippings", "marks"]) fun _ _ _ _ _ _ us hl => match us, hl with | [_, _, _, _], _ => rfl
  rw [← hK] at F11 b11
  have F12 := fun_mk (st := s_Forth__init_) l12 c12 k12
  have b12 := F12.binds (ps := ["self", "clippings", "marks"]) fun _ _ _ _ _ _ us hl => match us, hl with | [_, _, _], _ => rfl
  rw [← hK] at F12 b12
  rw [← hK] at i12 k12
  rw [← hK, ← hC0] at a12
  have F13 := fun_mk (st := s_Forth_shows) l13 c13 k13
  have b13 := F13.binds (ps := ["self", "sheet", "row"]) fun _ _ _ _ _ _ us hl => match us, hl with | [_, _, _], _ => rfl
  rw [← hK] at F13 b13
  rw [← hK] at i13 k13
  rw [← hK, ← hC0] at a13
  have F14 := fun_mk (st := s_Either__init_) l14 c14 k14
  have b14 := F14.binds (ps := ["self", "clippings", "marks"]) fun _ _ _ _ _ _ us hl => match us, hl with | [_, _, _], _ => rfl
  rw [← hK] at F14 b14
  rw [← hK] at i14 k14
  rw [← hK, ← hC1] at a14
  have F15 := fun_mk (st := s_Either_shows) l15 c15 k15
  have b15 := F15.binds (ps := ["self", "sheet", "row"]) fun _ _ _ _ _ _ us hl => match us, hl with | [_, _, _], _ => rfl
  rw [← hK] at F15 b15
  rw [← hK] at i15 k15
  rw [← hK, ← hC1] at a15
  have F16 := fun_mk (st := s_Lacks__init_) l16 c16 k16
  have b16 := F16.binds (ps := ["self", "place"]) fun _ _ _ _ _ _ us hl => match us, hl with | [_, _], _ => rfl
  rw [← hK] at F16 b16
  rw [← hK] at i16 k16
  rw [← hK, ← hC2] at a16
  have F17 := fun_mk (st := s_Lacks_shows) l17 c17 k17
  have b17 := F17.binds (ps := ["self", "sheet", "row"]) fun _ _ _ _ _ _ us hl => match us, hl with | [_, _, _], _ => rfl
  rw [← hK] at F17 b17
  rw [← hK] at i17 k17
  rw [← hK, ← hC2] at a17
  have F18 := fun_mk (st := s_Grown__init_) l18 c18 k18
  have b18 := F18.binds (ps := ["self", "deeds", "marks"]) fun _ _ _ _ _ _ us hl => match us, hl with | [_, _, _], _ => rfl
  rw [← hK] at F18 b18
  rw [← hK] at i18 k18
  rw [← hK, ← hC3] at a18
  have F19 := fun_mk (st := s_Grown_shows) l19 c19 k19
  have b19 := F19.binds (ps := ["self", "row"]) fun _ _ _ _ _ _ us hl => match us, hl with | [_, _], _ => rfl
  rw [← hK] at F19 b19
  rw [← hK] at i19 k19
  rw [← hK, ← hC3] at a19
  have F20 := fun_mk (st := s_alike_many) l20 c20 k20
  have b20 := F20.binds (ps := ["sheet", "place", "step", "row", "begin"]) fun _ _ _ _ _ _ us hl => match us, hl with | [_, _, _, _, _], _ => rfl
  rw [← hK] at F20 b20
  have F21 := fun_mk (st := s_making) l21 c21 k21
  have b21 := F21.binds (ps := ["sheet", "row", "steps"]) fun _ _ _ _ _ _ us hl => match us, hl with | [_, _, _], _ => rfl
  rw [← hK] at F21 b21
  have F22 := fun_mk (st := s_forth) l22 c22 k22
  have b22 := F22.binds (ps := ["sheet", "row"]) fun _ _ _ _ _ _ us hl => match us, hl with | [_, _], _ => rfl
  rw [← hK] at F22 b22
  have F23 := fun_mk (st := s_either) l23 c23 k23
  have b23 := F23.binds (ps := ["sheet", "row"]) fun _ _ _ _ _ _ us hl => match us, hl with | [_, _], _ => rfl
  rw [← hK] at F23 b23
  have F24 := fun_mk (st := s_own) l24 c24 k24
  have b24 := F24.binds (ps := ["row"]) fun _ _ _ _ _ _ us hl => match us, hl with | [_], _ => rfl
  rw [← hK] at F24 b24
  have F25 := fun_mk (st := s_law_copied) l25 c25 k25
  have b25 := F25.binds (ps := ["_law_thing"]) fun _ _ _ _ _ _ us hl => match us, hl with | [_], _ => rfl
  rw [← hK] at F25 b25
  have F26 := fun_mk (st := s_law_spoiled) l26 c26 k26
  have b26 := F26.binds (ps := ["_law_thing"]) fun _ _ _ _ _ _ us hl => match us, hl with | [_], _ => rfl
  rw [← hK] at F26 b26
  have F27 := fun_mk (st := s_law_laid) l27 c27 k27
  have b27 := F27.binds (ps := ["_law_mine", "_law_other"]) fun _ _ _ _ _ _ us hl => match us, hl with | [_, _], _ => rfl
  rw [← hK] at F27 b27
  have F28 := fun_mk (st := s_law_door_right) l28 c28 k28
  have b28 := F28.binds (ps := ["_law_ask", "_law_one", "_law_other"]) fun _ _ _ _ _ _ us hl => match us, hl with | [_, _, _], _ => rfl
  rw [← hK] at F28 b28
  have F29 := fun_mk (st := s_xlaw_row) l29 c29 k29
  have b29 := F29.binds (ps := ["_law_cells", "_law_many", "_law_by"]) fun _ _ _ _ _ _ us hl => match us, hl with | [_, _, _], _ => rfl
  rw [← hK] at F29 b29
  have F30 := fun_mk (st := s_law_told) l30 c30 k30
  have b30 := F30.binds (ps := ["_law_found"]) fun _ _ _ _ _ _ us hl => match us, hl with | [_], _ => rfl
  rw [← hK] at F30 b30
  have F31 := fun_mk (st := s_law_free_right) l31 c31 k31
  have b31 := F31.binds (ps := ["_law_ask", "_law_holds", "_law_one", "_law_other"]) fun _ _ _ _ _ _ us hl => match us, hl with | [_, _, _, _], _ => rfl
  rw [← hK] at F31 b31
  have F32 := fun_mk (st := s_law) l32 c32 k32
  have b32 := F32.binds (ps := ["_law_script"]) fun _ _ _ _ _ _ us hl => match us, hl with | [_], _ => rfl
  rw [← hK] at F32 b32
  rw [← hK, ← hC0] at mk_0 kc_0
  rw [← hK, ← hC1] at mk_1 kc_1
  rw [← hK, ← hC2] at mk_2 kc_2
  rw [← hK, ← hC3] at mk_3 kc_3
  refine ⟨PySem.W.fnOf "law" "law" (defArgs s_law) (defBody s_law) (defScope s_law) .none kV32 dc32 pm32 an32 cd32 ct32, fun s v => .of_eq rfl, fun base _ _ TBs => ?_⟩
  have tbM_law : (tP0, ("law.<locals>.<lambda>" : Str)) ∈ T.tabs := by subst hT; simp
  have tbO_law : ∀ p ∈ T.tabs, p.1 = tP0 → p.2 = "law.<locals>.<lambda>" := by
    subst hT
    exact List.forall_mem_cons.mpr ⟨fun _ => rfl, fun _ h => nomatch h⟩
  have TB_law : LamX.TabB base mg cq0 tP0 := TBs (cq0, tP0) (by simp)
  have hcode_law := hq0
  have eL_0 : LamEq T 0 "law.<locals>.<lambda>" (lamP lam_0) (lamB lam_0) (lamSc lam_0) [] := by subst hT; exact ⟨rfl, rfl, rfl, rfl, rfl⟩
  have eL_1 : LamEq T 1 "law.<locals>.<lambda>" (lamP lam_1) (lamB lam_1) (lamSc lam_1) [] := by subst hT; exact ⟨rfl, rfl, rfl, rfl, rfl⟩
  have eL_2 : LamEq T 2 "law.<locals>.<lambda>" (lamP lam_2) (lamB lam_2) (lamSc lam_2) [] := by subst hT; exact ⟨rfl, rfl, rfl, rfl, rfl⟩
  have eL_3 : LamEq T 3 "law.<locals>.<lambda>" (lamP lam_3) (lamB lam_3) (lamSc lam_3) [] := by subst hT; exact ⟨rfl, rfl, rfl, rfl, rfl⟩
  have eL_4 : LamEq T 4 "law.<locals>.<lambda>" (lamP lam_4) (lamB lam_4) (lamSc lam_4) [] := by subst hT; exact ⟨rfl, rfl, rfl, rfl, rfl⟩
  have eL_5 : LamEq T 5 "law.<locals>.<lambda>" (lamP lam_5) (lamB lam_5) (lamSc lam_5) [] := by subst hT; exact ⟨rfl, rfl, rfl, rfl, rfl⟩
  have eL_6 : LamEq T 6 "law.<locals>.<lambda>" (lamP lam_6) (lamB lam_6) (lamSc lam_6) [] := by subst hT; exact ⟨rfl, rfl, rfl, rfl, rfl⟩
  have eL_7 : LamEq T 7 "law.<locals>.<lambda>" (lamP lam_7) (lamB lam_7) (lamSc lam_7) [] := by subst hT; exact ⟨rfl, rfl, rfl, rfl, rfl⟩
  have G0 := ok_is_number (P := l.prog) (w := w) (mg := mg) (base := base) (T := T) F0 B 
  have c_is_number := defG G0 F0 (PySem.W.mg_of X G a0) b0
  have G3 := ok_clipped (P := l.prog) (w := w) (mg := mg) (base := base) (T := T) F3 B 
  have c_clipped := defG G3 F3 (PySem.W.mg_of X G a3) b3
  have G9 := ok_stands (P := l.prog) (w := w) (mg := mg) (base := base) (T := T) F9 B 
  have c_stands := defG G9 F9 (PySem.W.mg_of X G a9) b9
  have G10 := ok_spans (P := l.prog) (w := w) (mg := mg) (base := base) (T := T) F10 B 
  have c_spans := defG G10 F10 (PySem.W.mg_of X G a10) b10
  have G12 := ok_Forth__init_ (P := l.prog) (w := w) (mg := mg) (base := base) (T := T) F12 B KC
  have mk_0 : MkG l.prog w T mg base 0 (spI2 T 0 "clippings" "marks") := ⟨_, _, _, ⟨mk_0, a12, i12, kc_0⟩, G12, b12⟩
  have G14 := ok_Either__init_ (P := l.prog) (w := w) (mg := mg) (base := base) (T := T) F14 B KC
  have mk_1 : MkG l.prog w T mg base 1 (spI2 T 1 "clippings" "marks") := ⟨_, _, _, ⟨mk_1, a14, i14, kc_1⟩, G14, b14⟩
  have G16 := ok_Lacks__init_ (P := l.prog) (w := w) (mg := mg) (base := base) (T := T) F16 B KC
  have mk_2 : MkG l.prog w T mg base 2 (spI1 T 2 "place") := ⟨_, _, _, ⟨mk_2, a16, i16, kc_2⟩, G16, b16⟩
  have G17 := ok_Lacks_shows (P := l.prog) (w := w) (mg := mg) (base := base) (T := T) F17 B KC
  have G18 := ok_Grown__init_ (P := l.prog) (w := w) (mg := mg) (base := base) (T := T) F18 B KC
  have mk_3 : MkG l.prog w T mg base 3 (spI2 T 3 "deeds" "marks") := ⟨_, _, _, ⟨mk_3, a18, i18, kc_3⟩, G18, b18⟩
  have G20 := ok_alike_many (P := l.prog) (w := w) (mg := mg) (base := base) (T := T) F20 B 
  have c_alike_many := defG G20 F20 (PySem.W.mg_of X G a20) b20
  have G29 := ok_xlaw_row (P := l.prog) (w := w) (mg := mg) (base := base) (T := T) F29 B 
  have c_xlaw_row := defG G29 F29 (PySem.W.mg_of X G a29) b29
  have G30 := ok_law_told (P := l.prog) (w := w) (mg := mg) (base := base) (T := T) F30 B KC
  have c_law_told := defG G30 F30 (PySem.W.mg_of X G a30) b30
  have G1 := ok_check_row (P := l.prog) (w := w) (mg := mg) (base := base) (T := T) F1 B c_is_number e_BadRow
  have c_check_row := defG G1 F1 (PySem.W.mg_of X G a1) b1
  have G2 := ok_is_clipping (P := l.prog) (w := w) (mg := mg) (base := base) (T := T) F2 B c_is_number
  have c_is_clipping := defG G2 F2 (PySem.W.mg_of X G a2) b2
  have G4 := ok_pasted_of (P := l.prog) (w := w) (mg := mg) (base := base) (T := T) F4 B c_clipped
  have c_pasted_of := defG G4 F4 (PySem.W.mg_of X G a4) b4
  have G6 := ok_is_deed (P := l.prog) (w := w) (mg := mg) (base := base) (T := T) F6 B c_is_number
  have c_is_deed := defG G6 F6 (PySem.W.mg_of X G a6) b6
  have G21 := ok_making (P := l.prog) (w := w) (mg := mg) (base := base) (T := T) F21 B c_alike_many
  have c_making := defG G21 F21 (PySem.W.mg_of X G a21) b21
  have G26 := ok_law_spoiled (P := l.prog) (w := w) (mg := mg) (base := base) (T := T) F26 B (PySem.W.mg_of X G a26) b26
  have c_law_spoiled := defG G26 F26 (PySem.W.mg_of X G a26) b26
  have G5 := ok_pasted (P := l.prog) (w := w) (mg := mg) (base := base) (T := T) F5 B c_check_row c_pasted_of c_is_clipping e_BadClipping
  have c_pasted := defG G5 F5 (PySem.W.mg_of X G a5) b5
  have G7 := ok_grown_of (P := l.prog) (w := w) (mg := mg) (base := base) (T := T) F7 B c_is_deed
  have c_grown_of := defG G7 F7 (PySem.W.mg_of X G a7) b7
  have G11 := ok_are_made (P := l.prog) (w := w) (mg := mg) (base := base) (T := T) F11 B c_pasted_of c_is_clipping
  have c_are_made := defG G11 F11 (PySem.W.mg_of X G a11) b11
  have G22 := ok_forth (P := l.prog) (w := w) (mg := mg) (base := base) (T := T) F22 B c_check_row c_making KC mk_0 mk_2
  have c_forth := defG G22 F22 (PySem.W.mg_of X G a22) b22
  have G23 := ok_either (P := l.prog) (w := w) (mg := mg) (base := base) (T := T) F23 B c_check_row c_making KC mk_1 mk_2
  have c_either := defG G23 F23 (PySem.W.mg_of X G a23) b23
  have G24 := ok_own (P := l.prog) (w := w) (mg := mg) (base := base) (T := T) F24 B c_check_row c_alike_many KC mk_3
  have c_own := defG G24 F24 (PySem.W.mg_of X G a24) b24
  have G25 := ok_law_copied (P := l.prog) (w := w) (mg := mg) (base := base) (T := T) F25 B (PySem.W.mg_of X G a25) b25
  have c_law_copied := defG G25 F25 (PySem.W.mg_of X G a25) b25
  have G8 := ok_grown (P := l.prog) (w := w) (mg := mg) (base := base) (T := T) F8 B c_grown_of e_BadDeed
  have c_grown := defG G8 F8 (PySem.W.mg_of X G a8) b8
  have G13 := ok_Forth_shows (P := l.prog) (w := w) (mg := mg) (base := base) (T := T) F13 B c_spans c_are_made c_stands KC
  have G15 := ok_Either_shows (P := l.prog) (w := w) (mg := mg) (base := base) (T := T) F15 B c_spans c_are_made c_stands KC
  have G19 := ok_Grown_shows (P := l.prog) (w := w) (mg := mg) (base := base) (T := T) F19 B c_spans c_stands c_grown_of KC
  have G27 := ok_law_laid (P := l.prog) (w := w) (mg := mg) (base := base) (T := T) F27 B c_law_copied (PySem.W.mg_of X G a27) b27
  have c_law_laid := defG G27 F27 (PySem.W.mg_of X G a27) b27
  have hS : MethA l.prog w T mg base 4 f_Forth_shows f_Either_shows f_Lacks_shows f_Grown_shows := ⟨⟨_, _, _, fnok_lift G13 (by decide), ⟨a13, i13, k13⟩, b13⟩, ⟨_, _, _, fnok_lift G15 (by decide), ⟨a15, i15, k15⟩, b15⟩, ⟨_, _, _, fnok_lift G17 (by decide), ⟨a17, i17, k17⟩, b17⟩, ⟨_, _, _, fnok_lift G19 (by decide), ⟨a19, i19, k19⟩, b19⟩⟩
  have LR_ : LrA l.prog w T mg base 4 lr_all := ⟨fun i n m h => match i, h with
    | 0, h => by cases h; exact lm_0 eL_0 B c_forth
    | 1, h => by cases h; exact lm_1 eL_1 B KC hS
    | 2, h => by cases h; exact lm_2 eL_2 B c_either
    | 3, h => by cases h; exact lm_3 eL_3 B KC hS
    | 4, h => by cases h; exact lm_4 eL_4 B c_own
    | 5, h => by cases h; exact lm_5 eL_5 B KC hS
    | 6, h => by cases h; exact lm_6 eL_6 B c_pasted
    | 7, h => by cases h; exact lm_7 eL_7 B c_grown
    | i + 8, h => by cases h⟩
  have G28 := ok_law_door_right (P := l.prog) (w := w) (mg := mg) (base := base) (T := T) F28 B c_law_copied c_law_spoiled c_law_laid LR_
  have c_law_door_right := defG G28 F28 (PySem.W.mg_of X G a28) b28
  have G31 := ok_law_free_right (P := l.prog) (w := w) (mg := mg) (base := base) (T := T) F31 B c_law_copied c_law_laid c_law_spoiled c_law_told LR_
  have c_law_free_right := defG G31 F31 (PySem.W.mg_of X G a31) b31
  have G32 := ok_law (P := l.prog) (w := w) (mg := mg) (base := base) (T := T) F32 B c_xlaw_row c_law_free_right c_own c_pasted c_grown c_law_door_right c_forth c_either hcode_law TB_law tbM_law tbO_law eL_0 eL_1 eL_2 eL_3 eL_4 eL_5 eL_6 eL_7 KC hS
  rw [hK] at G32
  refine G32.imp fun vs H Q E q => ?_
  obtain ⟨a, ns, rfl, hS, hl, hH, q⟩ := q
  have tb : LamX.Tabs T.tabs H := by
    subst hT
    simp only [LamX.Tabs, List.forall_mem_cons]
    exact ⟨LamX.TabS.nil (hH tP0 (by simp)), fun _ h => nomatch h⟩
  refine ⟨H, [.scr ns], ⟨Ex.refl H, tb⟩, .cons (.scr (by rw [hK]; exact hS)) .nil, rfl, ?_⟩
  rw [law_true ns hl]
  intro v F1 H1 u r
  cases r
  exact q H1
end CL
open PySem PySem.W PyProof.Rows in
set_option maxRecDepth 100000 in
set_option maxHeartbeats 0 in
theorem PySem.Challenge.cw_cliprow_k09_handed_stays_holds : PySem.Challenge.rw_cliprow_k09_handed_stays.Holds := by
  w_on; o_law; k_head; (case hw => w_witness2)
  k_fill
  refine LamX.walk_ofTs (l := PySem.Challenge.rw_cliprow_k09_handed_stays) (n := 63) (k := 7) (x := "_law_script") (CX := fun _ => L2.CX0) rfl (by decide) rfl ⟨rfl, by decide, by decide⟩ (fun w h Y => PySem.W.km_in_of Y) ?F (fun _ _ _ _ _ h => h)
  case F =>
    intro w mg fa h Y KX G hmg
    refine' CL.law_at [327] (fun t ht => PySem.W.km_tabs_of Y t (by revert t; decide)) ?nl KX ?hd (CL.all_mk (tP0 := 327) KX G hmg ?g_Forth ?g_Either ?g_Lacks ?g_Grown ?g_Answer ?a0 ?l0 ?c0 ?k0 ?a1 ?l1 ?c1 ?k1 ?a2 ?l2 ?c2 ?k2 ?a3 ?l3 ?c3 ?k3 ?a4 ?l4 ?c4 ?k4 ?a5 ?l5 ?c5 ?k5 ?a6 ?l6 ?c6 ?k6 ?a7 ?l7 ?c7 ?k7 ?a8 ?l8 ?c8 ?k8 ?a9 ?l9 ?c9 ?k9 ?a10 ?l10 ?c10 ?k10 ?a11 ?l11 ?c11 ?k11 ?a12 ?i12 ?l12 ?c12 ?k12 ?a13 ?i13 ?l13 ?c13 ?k13 ?a14 ?i14 ?l14 ?c14 ?k14 ?a15 ?i15 ?l15 ?c15 ?k15 ?a16 ?i16 ?l16 ?c16 ?k16 ?a17 ?i17 ?l17 ?c17 ?k17 ?a18 ?i18 ?l18 ?c18 ?k18 ?a19 ?i19 ?l19 ?c19 ?k19 ?a20 ?l20 ?c20 ?k20 ?a21 ?l21 ?c21 ?k21 ?a22 ?l22 ?c22 ?k22 ?a23 ?l23 ?c23 ?k23 ?a24 ?l24 ?c24 ?k24 ?a25 ?l25 ?c25 ?k25 ?a26 ?l26 ?c26 ?k26 ?a27 ?l27 ?c27 ?k27 ?a28 ?l28 ?c28 ?k28 ?a29 ?l29 ?c29 ?k29 ?a30 ?l30 ?c30 ?k30 ?a31 ?l31 ?c31 ?k31 ?a32 ?l32 ?c32 ?k32 ?hnC ?tkC ?pg_0 ?hd_0 ?po_0 ?sa_0 ?mk_0 ?kc_0 ?ha_0 ?mr_0 ?na_0_clippings ?na_0_marks ?kt_0_0 ?kt_0_1 ?kt_0_2 ?kt_0_3 ?kt_0_4 ?pg_1 ?hd_1 ?po_1 ?sa_1 ?mk_1 ?kc_1 ?ha_1 ?mr_1 ?na_1_clippings ?na_1_marks ?kt_1_0 ?kt_1_1 ?kt_1_2 ?kt_1_3 ?kt_1_4 ?pg_2 ?hd_2 ?po_2 ?sa_2 ?mk_2 ?kc_2 ?ha_2 ?mr_2 ?na_2_place ?kt_2_0 ?kt_2_1 ?kt_2_2 ?kt_2_3 ?kt_2_4 ?pg_3 ?hd_3 ?po_3 ?sa_3 ?mk_3 ?kc_3 ?ha_3 ?mr_3 ?na_3_deeds ?na_3_marks ?kt_3_0 ?kt_3_1 ?kt_3_2 ?kt_3_3 ?kt_3_4 ?z_len ?z_isinstance ?z_int ?z_bool ?z_list ?z_tuple ?z_str ?z_all ?z_any ?z_range ?z_sum ?z_abs ?z_max ?z_min ?z_zip ?z_enumerate ?g_BadRow ?x_BadRow ?p_BadRow ?b_BadRow ?t_BadRow ?g_BadClipping ?x_BadClipping ?p_BadClipping ?b_BadClipping ?t_BadClipping ?g_BadDeed ?x_BadDeed ?p_BadDeed ?b_BadDeed ?t_BadDeed ?hq0)
    (case g_Forth => k_is)
    (case g_Either => k_is)
    (case g_Lacks => k_is)
    (case g_Grown => k_is)
    (case g_Answer => k_is)
    (case a0 => k_is)
    (case l0 => k_is)
    (case c0 => k_is)
    (case k0 => k_is)
    (case a1 => k_is)
    (case l1 => k_is)
    (case c1 => k_is)
    (case k1 => k_is)
    (case a2 => k_is)
    (case l2 => k_is)
    (case c2 => k_is)
    (case k2 => k_is)
    (case a3 => k_is)
    (case l3 => k_is)
    (case c3 => k_is)
    (case k3 => k_is)
    (case a4 => k_is)
    (case l4 => k_is)
    (case c4 => k_is)
    (case k4 => k_is)
    (case a5 => k_is)
    (case l5 => k_is)
    (case c5 => k_is)
    (case k5 => k_is)
    (case a6 => k_is)
    (case l6 => k_is)
    (case c6 => k_is)
    (case k6 => k_is)
    (case a7 => k_is)
    (case l7 => k_is)
    (case c7 => k_is)
    (case k7 => k_is)
    (case a8 => k_is)
    (case l8 => k_is)
    (case c8 => k_is)
    (case k8 => k_is)
    (case a9 => k_is)
    (case l9 => k_is)
    (case c9 => k_is)
    (case k9 => k_is)
    (case a10 => k_is)
    (case l10 => k_is)
    (case c10 => k_is)
    (case k10 => k_is)
    (case a11 => k_is)
    (case l11 => k_is)
    (case c11 => k_is)
    (case k11 => k_is)
    (case a12 => k_is)
    (case i12 => k_is)
    (case l12 => k_is)
    (case c12 => k_is)
    (case k12 => k_is)
    (case a13 => k_is)
    (case i13 => k_is)
    (case l13 => k_is)
    (case c13 => k_is)
    (case k13 => k_is)
    (case a14 => k_is)
    (case i14 => k_is)
    (case l14 => k_is)
    (case c14 => k_is)
    (case k14 => k_is)
    (case a15 => k_is)
    (case i15 => k_is)
    (case l15 => k_is)
    (case c15 => k_is)
    (case k15 => k_is)
    (case a16 => k_is)
    (case i16 => k_is)
    (case l16 => k_is)
    (case c16 => k_is)
    (case k16 => k_is)
    (case a17 => k_is)
    (case i17 => k_is)
    (case l17 => k_is)
    (case c17 => k_is)
    (case k17 => k_is)
    (case a18 => k_is)
    (case i18 => k_is)
    (case l18 => k_is)
    (case c18 => k_is)
    (case k18 => k_is)
    (case a19 => k_is)
    (case i19 => k_is)
    (case l19 => k_is)
    (case c19 => k_is)
    (case k19 => k_is)
    (case a20 => k_is)
    (case l20 => k_is)
    (case c20 => k_is)
    (case k20 => k_is)
    (case a21 => k_is)
    (case l21 => k_is)
    (case c21 => k_is)
    (case k21 => k_is)
    (case a22 => k_is)
    (case l22 => k_is)
    (case c22 => k_is)
    (case k22 => k_is)
    (case a23 => k_is)
    (case l23 => k_is)
    (case c23 => k_is)
    (case k23 => k_is)
    (case a24 => k_is)
    (case l24 => k_is)
    (case c24 => k_is)
    (case k24 => k_is)
    (case a25 => k_is)
    (case l25 => k_is)
    (case c25 => k_is)
    (case k25 => k_is)
    (case a26 => k_is)
    (case l26 => k_is)
    (case c26 => k_is)
    (case k26 => k_is)
    (case a27 => k_is)
    (case l27 => k_is)
    (case c27 => k_is)
    (case k27 => k_is)
    (case a28 => k_is)
    (case l28 => k_is)
    (case c28 => k_is)
    (case k28 => k_is)
    (case a29 => k_is)
    (case l29 => k_is)
    (case c29 => k_is)
    (case k29 => k_is)
    (case a30 => k_is)
    (case l30 => k_is)
    (case c30 => k_is)
    (case k30 => k_is)
    (case a31 => k_is)
    (case l31 => k_is)
    (case c31 => k_is)
    (case k31 => k_is)
    (case a32 => k_is)
    (case l32 => k_is)
    (case c32 => k_is)
    (case k32 => k_is)
    (case hnC => k_is)
    (case tkC => k_is)
    (case pg_0 => k_is)
    (case hd_0 => k_is)
    (case po_0 => k_is)
    (case sa_0 => k_is)
    (case mk_0 => k_is)
    (case kc_0 => k_is)
    (case ha_0 => k_is)
    (case mr_0 => k_is)
    (case na_0_clippings => k_is)
    (case na_0_marks => k_is)
    (case kt_0_0 => kit_is)
    (case kt_0_1 => kit_is)
    (case kt_0_2 => kit_is)
    (case kt_0_3 => kit_is)
    (case kt_0_4 => kit_is)
    (case pg_1 => k_is)
    (case hd_1 => k_is)
    (case po_1 => k_is)
    (case sa_1 => k_is)
    (case mk_1 => k_is)
    (case kc_1 => k_is)
    (case ha_1 => k_is)
    (case mr_1 => k_is)
    (case na_1_clippings => k_is)
    (case na_1_marks => k_is)
    (case kt_1_0 => kit_is)
    (case kt_1_1 => kit_is)
    (case kt_1_2 => kit_is)
    (case kt_1_3 => kit_is)
    (case kt_1_4 => kit_is)
    (case pg_2 => k_is)
    (case hd_2 => k_is)
    (case po_2 => k_is)
    (case sa_2 => k_is)
    (case mk_2 => k_is)
    (case kc_2 => k_is)
    (case ha_2 => k_is)
    (case mr_2 => k_is)
    (case na_2_place => k_is)
    (case kt_2_0 => kit_is)
    (case kt_2_1 => kit_is)
    (case kt_2_2 => kit_is)
    (case kt_2_3 => kit_is)
    (case kt_2_4 => kit_is)
    (case pg_3 => k_is)
    (case hd_3 => k_is)
    (case po_3 => k_is)
    (case sa_3 => k_is)
    (case mk_3 => k_is)
    (case kc_3 => k_is)
    (case ha_3 => k_is)
    (case mr_3 => k_is)
    (case na_3_deeds => k_is)
    (case na_3_marks => k_is)
    (case kt_3_0 => kit_is)
    (case kt_3_1 => kit_is)
    (case kt_3_2 => kit_is)
    (case kt_3_3 => kit_is)
    (case kt_3_4 => kit_is)
    (case z_len => k_is)
    (case z_isinstance => k_is)
    (case z_int => k_is)
    (case z_bool => k_is)
    (case z_list => k_is)
    (case z_tuple => k_is)
    (case z_str => k_is)
    (case z_all => k_is)
    (case z_any => k_is)
    (case z_range => k_is)
    (case z_sum => k_is)
    (case z_abs => k_is)
    (case z_max => k_is)
    (case z_min => k_is)
    (case z_zip => k_is)
    (case z_enumerate => k_is)
    (case g_BadRow => k_is)
    (case x_BadRow => k_exc)
    (case p_BadRow => k_is)
    (case b_BadRow => k_is)
    (case t_BadRow => k_is)
    (case g_BadClipping => k_is)
    (case x_BadClipping => k_exc)
    (case p_BadClipping => k_is)
    (case b_BadClipping => k_is)
    (case t_BadClipping => k_is)
    (case g_BadDeed => k_is)
    (case x_BadDeed => k_exc)
    (case p_BadDeed => k_is)
    (case b_BadDeed => k_is)
    (case t_BadDeed => k_is)
    (case hq0 => exact rfl)
    (case nl => kernel_rfl)
    (case hd => kernel_rfl)

