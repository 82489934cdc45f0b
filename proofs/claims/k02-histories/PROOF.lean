import PyProof.Rows.All
import Wide.All
import OpenK.AllK
import Wide.FinOn
import HandS.ForMost
import HandS.ForExc
import HandS.ExcInit
import HandS.Nested
import KE.KExcSuper
import HandS.TupAny
import HandS.TupMul
import HandS.Deep
import HandS.IsInst
import HandS.Style
import HandS.Flow
import HandS.RaiseMore
import KE.GoesEnum
import HandS.Walk
import HandS.Zip
import HandS.Comp
import HandS.Steps
import HandS.ExcOwn
import HandS.Exc
import HandS.Ends
import HandS.Head0
import HandS.Head1
import HandS.Head2
import HandS.HeadEnd
import HandS.HeadHook1
import HandS.HeadHook2
import PySem.Challenge.RW_undomacros_k02_histories_undone_and_done
set_option Elab.async false
set_option linter.all false
set_option maxRecDepth 100000
set_option maxHeartbeats 4000000
/-! DL1: data of the heap as values: RepD, owned leaves, slots, the frame's state as values. -/
namespace DL
open PySem PySem.Spec L2

/-- a list that stands still: the script, one of the module -/
def FzL (K : PySem.W.Frag) (H : Hp) (a : Addr) (xs : List V) : Prop := SqL K H a xs ∧ ∀ H' : Hp, (∀ b o u, H b = some (.frz o u) → H' b = some (.frz o u)) → SqL K H' a xs
theorem FzL.frz {K : PySem.W.Frag} {H : Hp} {a : Addr} {xs : List V} {o : Obj} (h : H a = some (.frz o (.lst xs))) : FzL K H a xs := ⟨.inl (.inr ⟨o, h⟩), fun _ q => .inl (.inr ⟨o, q _ _ _ h⟩)⟩

/-! ### shared data, with the addresses of the lists and dicts within -/
/-- a key of a dict, as data -/
def keyD : Key → PyData
  | .inl i => .int i
  | .inr x => .str x
mutual
inductive RepD (K : PySem.W.Frag) (H : Hp) : V → PyData → List Addr → Prop
  | none : RepD K H .non .none []
  | bool (b : Bool) : RepD K H (.bl b) (.bool b) []
  | int (i : Int) : RepD K H (.int i) (.int i) []
  | str (x : Str) : RepD K H (.str x) (.str x) []
  | tup {a : Addr} {xs : List V} {ds : List PyData} {as : List Addr} : SqT K H a xs → RepDs K H xs ds as → RepD K H (.ref a) (.tuple ds) as
  | lst {a : Addr} {xs : List V} {ds : List PyData} {as : List Addr} : H a = some (.lst xs) → RepDs K H xs ds as → RepD K H (.ref a) (.list ds) (a :: as)
  | fix {a : Addr} {xs : List V} {ds : List PyData} {as : List Addr} : FzL K H a xs → RepDs K H xs ds as → RepD K H (.ref a) (.list ds) as
  | dct {a : Addr} {ks : List Key} {xs : List V} {ds : List PyData} {as : List Addr} : H a = some (.dK (ks.zip xs)) → ks.length = xs.length → RepDs K H xs ds as → RepD K H (.ref a) (.dict ((ks.map keyD).zip ds)) (a :: as)
inductive RepDs (K : PySem.W.Frag) (H : Hp) : List V → List PyData → List Addr → Prop
  | nil : RepDs K H [] [] []
  | cons {v : V} {vs : List V} {d : PyData} {ds : List PyData} {as bs : List Addr} : RepD K H v d as → RepDs K H vs ds bs → RepDs K H (v :: vs) (d :: ds) (as ++ bs)
end

/-- what never changes and what is not touched stays -/
structure Stay (H H' : Hp) (A : List Addr) : Prop where
  tup : ∀ a xs, H a = some (.tup xs) → H' a = some (.tup xs)
  frz : ∀ a o u, H a = some (.frz o u) → H' a = some (.frz o u)
  at_ : ∀ a ∈ A, ∀ o, H a = some o → H' a = some o
theorem Stay.sub {H H' : Hp} {A B : List Addr} (s : Stay H H' A) (h : ∀ a ∈ B, a ∈ A) : Stay H H' B := ⟨s.tup, s.frz, fun a ha => s.at_ a (h a ha)⟩
theorem Stay.sqT {K : PySem.W.Frag} {H H' : Hp} {A : List Addr} {a : Addr} {xs : List V} (s : Stay H H' A) (h : SqT K H a xs) : SqT K H' a xs := by
  rcases h with (h | ⟨o, h⟩) | h
  · exact .inl (.inl (s.tup _ _ h))
  · exact .inl (.inr ⟨o, s.frz _ _ _ h⟩)
  · exact .inr h
theorem Stay.fzL {K : PySem.W.Frag} {H H' : Hp} {A : List Addr} {a : Addr} {xs : List V} (s : Stay H H' A) (h : FzL K H a xs) : FzL K H' a xs := by
  refine ⟨h.2 H' s.frz, fun H'' q => ?_⟩
  exact h.2 H'' fun b o u e => q b o u (s.frz b o u e)
theorem Stay.ofSame {H H' : Hp} {A : List Addr} (h : Same H H') : Stay H H' A := ⟨fun _ _ q => h _ _ q, fun _ _ _ q => h _ _ q, fun _ _ _ q => h _ _ q⟩
mutual
theorem RepD.stay {K : PySem.W.Frag} {H H' : Hp} {A : List Addr} (s : Stay H H' A) : ∀ {v : V} {d : PyData} {as : List Addr}, RepD K H v d as → (∀ a ∈ as, a ∈ A) → RepD K H' v d as
  | _, _, _, .none, _ => .none
  | _, _, _, .bool b, _ => .bool b
  | _, _, _, .int i, _ => .int i
  | _, _, _, .str x, _ => .str x
  | _, _, _, .tup h t, hs => .tup (s.sqT h) (RepDs.stay s t hs)
  | _, _, _, .lst h t, hs => .lst (s.at_ _ (hs _ (List.mem_cons_self ..)) _ h) (RepDs.stay s t fun a ha => hs a (List.mem_cons_of_mem _ ha))
  | _, _, _, .fix h t, hs => .fix (s.fzL h) (RepDs.stay s t hs)
  | _, _, _, .dct h l t, hs => .dct (s.at_ _ (hs _ (List.mem_cons_self ..)) _ h) l (RepDs.stay s t fun a ha => hs a (List.mem_cons_of_mem _ ha))
theorem RepDs.stay {K : PySem.W.Frag} {H H' : Hp} {A : List Addr} (s : Stay H H' A) : ∀ {vs : List V} {ds : List PyData} {as : List Addr}, RepDs K H vs ds as → (∀ a ∈ as, a ∈ A) → RepDs K H' vs ds as
  | _, _, _, .nil, _ => .nil
  | _, _, _, .cons h t, hs => .cons (RepD.stay s h fun a ha => hs a (List.mem_append_left _ ha)) (RepDs.stay s t fun a ha => hs a (List.mem_append_right _ ha))
end
mutual
theorem RepD.dp {K : PySem.W.Frag} {H : Hp} : ∀ {v : V} {d : PyData} {as : List Addr}, RepD K H v d as → d.hasDict = false → Dp K H v d
  | _, _, _, .none, _ => .non
  | _, _, _, .bool b, _ => .bl b
  | _, _, _, .int i, _ => .int i
  | _, _, _, .str x, _ => .str x
  | _, _, _, .tup h t, e => .tup h (RepDs.dp t (by simpa [PyData.hasDict] using e))
  | _, _, _, .lst h t, e => .lst (SqL.of h) (RepDs.dp t (by simpa [PyData.hasDict] using e))
  | _, _, _, .fix h t, e => .lst h.1 (RepDs.dp t (by simpa [PyData.hasDict] using e))
  | _, _, _, .dct _ _ _, e => by simp [PyData.hasDict] at e
theorem RepDs.dp {K : PySem.W.Frag} {H : Hp} : ∀ {vs : List V} {ds : List PyData} {as : List Addr}, RepDs K H vs ds as → PyData.hasDictAll ds = false → DpAll K H vs ds
  | _, _, _, .nil, _ => .nil
  | _, d :: ds, _, .cons h t, e => by
    have e' : PyData.hasDict d = false ∧ PyData.hasDictAll ds = false := by simpa [PyData.hasDictAll] using e
    exact .cons (RepD.dp h e'.1) (RepDs.dp t e'.2)
end
section
variable {K : PySem.W.Frag} {H : Hp}
theorem RepDs.length : ∀ {vs : List V} {ds : List PyData} {as : List Addr}, RepDs K H vs ds as → vs.length = ds.length
  | _, _, _, .nil => rfl
  | _, _, _, .cons _ t => by rw [List.length_cons, List.length_cons, RepDs.length t]
theorem RepDs.get : ∀ {vs : List V} {ds : List PyData} {as : List Addr} {i : Nat} {d : PyData}, RepDs K H vs ds as → ds[i]? = some d → ∃ v bs, vs[i]? = some v ∧ RepD K H v d bs ∧ ∀ a ∈ bs, a ∈ as
  | _, _, _, _, _, .nil, e => by simp at e
  | _, _, _, 0, _, .cons h t, e => by
    simp at e; subst e
    exact ⟨_, _, rfl, h, fun a ha => List.mem_append_left _ ha⟩
  | _, _, _, i + 1, _, .cons h t, e => by
    obtain ⟨v, bs, h1, h2, h3⟩ := RepDs.get (i := i) t (by simpa using e)
    exact ⟨v, bs, by simpa using h1, h2, fun a ha => List.mem_append_right _ (h3 a ha)⟩
theorem RepDs.getV : ∀ {vs : List V} {ds : List PyData} {as : List Addr} {i : Nat} {v : V}, RepDs K H vs ds as → vs[i]? = some v → ∃ d bs, ds[i]? = some d ∧ RepD K H v d bs ∧ ∀ a ∈ bs, a ∈ as
  | _, _, _, _, _, .nil, e => by simp at e
  | _, _, _, 0, _, .cons h t, e => by
    simp at e; subst e
    exact ⟨_, _, rfl, h, fun a ha => List.mem_append_left _ ha⟩
  | _, _, _, i + 1, _, .cons h t, e => by
    obtain ⟨v, bs, h1, h2, h3⟩ := RepDs.getV (i := i) t (by simpa using e)
    exact ⟨v, bs, by simpa using h1, h2, fun a ha => List.mem_append_right _ (h3 a ha)⟩
theorem RepDs.append : ∀ {vs us : List V} {ds es : List PyData} {as bs : List Addr}, RepDs K H vs ds as → RepDs K H us es bs → RepDs K H (vs ++ us) (ds ++ es) (as ++ bs)
  | _, _, _, _, _, _, .nil, s => s
  | _, _, _, _, _, _, .cons h t, s => by
    rw [List.append_assoc]
    exact .cons h (RepDs.append t s)
/-- any choice of places -/
theorem RepDs.ofPlaces {vs : List V} {ds : List PyData} {as : List Addr} (r : RepDs K H vs ds as) : ∀ {us : List V} {es : List PyData}, us.length = es.length → (∀ (i : Nat) (d : PyData), es[i]? = some d → ∃ (j : Nat) (v : V), ds[j]? = some d ∧ vs[j]? = some v ∧ us[i]? = some v) → ∃ bs, RepDs K H us es bs ∧ ∀ a ∈ bs, a ∈ as
  | [], [], _, _ => ⟨[], .nil, fun a ha => by simp at ha⟩
  | [], _ :: _, hl, _ => by simp at hl
  | _ :: _, [], hl, _ => by simp at hl
  | u :: us, e :: es, hl, h => by
    obtain ⟨bs, h1, h2⟩ := RepDs.ofPlaces r (us := us) (es := es) (by simpa using hl) fun i d q => by
      obtain ⟨j, v, a, b, c⟩ := h (i + 1) d (by simpa using q)
      exact ⟨j, v, a, b, by simpa using c⟩
    obtain ⟨j, v, a, b, c⟩ := h 0 e rfl
    obtain ⟨v', cs, q1, q2, q3⟩ := r.get a
    rw [b] at q1; cases q1
    simp at c; subst c
    exact ⟨cs ++ bs, .cons q2 h1, fun x hx => by
      rcases List.mem_append.mp hx with hx | hx
      · exact q3 x hx
      · exact h2 x hx⟩
theorem RepDs.take {vs : List V} {ds : List PyData} {as : List Addr} (n : Nat) (r : RepDs K H vs ds as) : ∃ bs, RepDs K H (vs.take n) (ds.take n) bs ∧ ∀ a ∈ bs, a ∈ as := by
  refine r.ofPlaces (by rw [List.length_take, List.length_take, r.length]) fun i d e => ?_
  rw [List.getElem?_take] at e
  split at e
  · rename_i hi
    obtain ⟨v, bs, h1, h2, h3⟩ := r.get e
    exact ⟨i, v, e, h1, by rw [List.getElem?_take, if_pos hi]; exact h1⟩
  · cases e
theorem RepDs.drop {vs : List V} {ds : List PyData} {as : List Addr} (n : Nat) (r : RepDs K H vs ds as) : ∃ bs, RepDs K H (vs.drop n) (ds.drop n) bs ∧ ∀ a ∈ bs, a ∈ as := by
  refine r.ofPlaces (by rw [List.length_drop, List.length_drop, r.length]) fun i d e => ?_
  rw [List.getElem?_drop] at e
  obtain ⟨v, bs, h1, h2, h3⟩ := r.get e
  exact ⟨n + i, v, e, h1, by rw [List.getElem?_drop]; exact h1⟩
theorem RepDs.reverse {vs : List V} {ds : List PyData} {as : List Addr} (r : RepDs K H vs ds as) : ∃ bs, RepDs K H vs.reverse ds.reverse bs ∧ ∀ a ∈ bs, a ∈ as := by
  refine r.ofPlaces (by rw [List.length_reverse, List.length_reverse, r.length]) fun i d e => ?_
  have hi : i < ds.length := by
    have q := (List.getElem?_eq_some_iff.mp e).1
    rwa [List.length_reverse] at q
  rw [List.getElem?_reverse hi] at e
  obtain ⟨v, bs, h1, h2, h3⟩ := r.get e
  exact ⟨_, v, e, h1, by rw [List.getElem?_reverse (by rw [r.length]; exact hi), r.length]; exact h1⟩
theorem RepDs.set : ∀ {vs : List V} {ds : List PyData} {as : List Addr}, RepDs K H vs ds as → ∀ {v : V} {d : PyData} {cs : List Addr}, RepD K H v d cs → ∀ n : Nat, ∃ bs, RepDs K H (vs.set n v) (ds.set n d) bs ∧ ∀ a ∈ bs, a ∈ as ∨ a ∈ cs
  | _, _, _, .nil, _, _, _, _, _ => ⟨[], .nil, fun a ha => by simp at ha⟩
  | _, _, _, .cons h1 t, _, _, _, h, 0 => ⟨_, .cons h t, fun a ha => by
      rcases List.mem_append.mp ha with ha | ha
      · exact .inr ha
      · exact .inl (List.mem_append_right _ ha)⟩
  | _, _, _, .cons h1 t, _, _, _, h, n + 1 => by
    obtain ⟨bs, q1, q2⟩ := RepDs.set t h n
    exact ⟨_, .cons h1 q1, fun a ha => by
      rcases List.mem_append.mp ha with ha | ha
      · exact .inl (List.mem_append_left _ ha)
      · rcases q2 a ha with q | q
        · exact .inl (List.mem_append_right _ q)
        · exact .inr q⟩
end
/-- no list within -/
theorem RepD.str_inv {K : PySem.W.Frag} {H : Hp} {v : V} {x : Str} {as : List Addr} (r : RepD K H v (.str x) as) : v = .str x ∧ as = [] := by cases r; exact ⟨rfl, rfl⟩
theorem RepD.int_inv {K : PySem.W.Frag} {H : Hp} {v : V} {x : Int} {as : List Addr} (r : RepD K H v (.int x) as) : v = .int x ∧ as = [] := by cases r; exact ⟨rfl, rfl⟩
theorem RepD.bool_inv {K : PySem.W.Frag} {H : Hp} {v : V} {x : Bool} {as : List Addr} (r : RepD K H v (.bool x) as) : v = .bl x ∧ as = [] := by cases r; exact ⟨rfl, rfl⟩
theorem RepD.none_inv {K : PySem.W.Frag} {H : Hp} {v : V} {as : List Addr} (r : RepD K H v .none as) : v = .non ∧ as = [] := by cases r; exact ⟨rfl, rfl⟩
theorem RepD.tup_inv {K : PySem.W.Frag} {H : Hp} {v : V} {ds : List PyData} {as : List Addr} (r : RepD K H v (.tuple ds) as) : ∃ a xs, v = .ref a ∧ SqT K H a xs ∧ RepDs K H xs ds as := by cases r with | tup h t => exact ⟨_, _, rfl, h, t⟩
theorem RepD.lst_inv {K : PySem.W.Frag} {H : Hp} {v : V} {ds : List PyData} {as : List Addr} (r : RepD K H v (.list ds) as) : ∃ a xs bs, v = .ref a ∧ SqL K H a xs ∧ RepDs K H xs ds bs ∧ ∀ b ∈ bs, b ∈ as := by
  cases r with
  | lst h t => exact ⟨_, _, _, rfl, SqL.of h, t, fun b hb => List.mem_cons_of_mem _ hb⟩
  | fix h t => exact ⟨_, _, _, rfl, h.1, t, fun b hb => hb⟩
mutual
theorem RepD.trk {K : PySem.W.Frag} {H : Hp} : ∀ {v : V} {d : PyData} {as : List Addr}, RepD K H v d as → ∀ a ∈ as, ∃ o, H a = some o
  | _, _, _, .none, _, h => by simp at h
  | _, _, _, .bool _, _, h => by simp at h
  | _, _, _, .int _, _, h => by simp at h
  | _, _, _, .str _, _, h => by simp at h
  | _, _, _, .tup _ t, a, h => RepDs.trk t a h
  | _, _, _, .lst e t, a, h => by
    rcases List.mem_cons.mp h with rfl | h
    · exact ⟨_, e⟩
    · exact RepDs.trk t a h
  | _, _, _, .fix _ t, a, h => RepDs.trk t a h
  | _, _, _, .dct e _ t, a, h => by
    rcases List.mem_cons.mp h with rfl | h
    · exact ⟨_, e⟩
    · exact RepDs.trk t a h
theorem RepDs.trk {K : PySem.W.Frag} {H : Hp} : ∀ {vs : List V} {ds : List PyData} {as : List Addr}, RepDs K H vs ds as → ∀ a ∈ as, ∃ o, H a = some o
  | _, _, _, .nil, _, h => by simp at h
  | _, _, _, .cons r t, a, h => by
    rcases List.mem_append.mp h with h | h
    · exact RepD.trk r a h
    · exact RepDs.trk t a h
end
end DL

set_option maxRecDepth 100000
set_option maxHeartbeats 4000000
/-! DL2: a small interpreter over values, of the Python that these programs use. Lists that a name holds alone are owned (they change in place); all else is shared data that stays. -/
namespace DL
open PySem PySem.Spec L2

/-- a leaf: shared data, or an owned list -/
inductive Fl where
  | d (x : PyData) | ls (xs : List PyData)
/-- what a name holds -/
inductive Sl where
  | no | lk | lf (l : Fl) | fn (f : String) | ob (c : String) (fs : List (String × Fl)) | er (c : String) (fs : List (String × PyData))
/-- what an expression gives: a leaf (an owned list: nobody else has it), a name's owned thing, a field's, a def, a new instance -/
inductive Tok where
  | lf (l : Fl) | pl (i : Nat) | pf (i : Nat) (f : String) | fn (f : String) | ob (c : String) (fs : List (String × Fl))
structure Er where
  c : String
  fs : List (String × PyData)
abbrev Rho := List Sl
inductive Out (α : Type) where
  | ok (a : α) (ρ : Rho) | ex (e : Er) (ρ : Rho) | no
def Out.bind {α β : Type} (x : Out α) (f : α → Rho → Out β) : Out β := match x with
  | .ok a ρ => f a ρ
  | .ex e ρ => .ex e ρ
  | .no => .no
@[simp] theorem Out.bind_ok {α β : Type} (a : α) (ρ : Rho) (f : α → Rho → Out β) : (Out.ok a ρ).bind f = f a ρ := rfl
@[simp] theorem Out.bind_ex {α β : Type} (e : Er) (ρ : Rho) (f : α → Rho → Out β) : (Out.ex e ρ : Out α).bind f = .ex e ρ := rfl
@[simp] theorem Out.bind_no {α β : Type} (f : α → Rho → Out β) : (Out.no : Out α).bind f = .no := rfl
def ofOpt {α : Type} (x : Option (α × Rho)) : Out α := match x with
  | some (a, ρ) => .ok a ρ
  | none => .no
@[simp] theorem ofOpt_some {α : Type} (a : α) (ρ : Rho) : ofOpt (some (a, ρ)) = .ok a ρ := rfl
@[simp] theorem ofOpt_none {α : Type} : ofOpt (none : Option (α × Rho)) = .no := rfl

inductive Pr where
  | tup | lst | add | sub | mul | fdiv | mod | pow | neg | eq | ne | lt | le | gt | ge | isin | notin | isN | notN | ix | sl (lo hi : Bool) | rev
  | len | tuple | list | all | any | sum | sumL | abs | int | str | repr | isi (T : String) | split | join | append | pop | extend | min2 | max2 | dct
  deriving DecidableEq
/-- a target -/
inductive Tg where
  | nm (i : Nat) | tp (ts : List Tg)
inductive Ex where
  | k (d : PyData) | v (i : Nat) | g (x : String) | f (x : String)
  | p (op : Pr) (es : List Ex) | m (op : Pr) (o : Ex) (es : List Ex) | s2 (e l h : Ex) | call (f : String) (es : List Ex) | callv (i : Nat) (es : List Ex) | mk (c : String) (es : List Ex) | om (m : String) (i : Nat) (es : List Ex) | fld (i : Nat) (f : String) | fldT (e : Ex) (f : String)
  | and (a b : Ex) | or (a b : Ex) | not (a : Ex) | ite (c a b : Ex) | chn (p q : Pr) (a b c : Ex)
  | lc (own : List Nat) (t : Tg) (w : Nat) (es : List Ex) (ifs : List Ex) (e : Ex)
  | lc2 (own own2 : List Nat) (t : Tg) (w : Nat) (es : List Ex) (t2 : Tg) (w2 : Nat) (es2 : List Ex) (ifs : List Ex) (e : Ex)
inductive Sx where
  | asg (t : Tg) (e : Ex) | par (is : List Nat) (es : List Ex) | setix (o i e : Ex) | setfld (i : Nat) (f : String) (e : Ex) | aug (i : Nat) (op : Pr) (e : Ex) | augix (o i : Ex) (op : Pr) (e : Ex)
  | ex (e : Ex) | ret (e : Ex) | retN | ite (c : Ex) (a b : List Sx) | for_ (t : Tg) (w : Nat) (es : List Ex) (b : List Sx) | whl (c : Ex) (b : List Sx) | brk | cnt | pass
  | raise (c : String) (es : List Ex) | try_ (b : List Sx) (hs : List (List String × Option Nat × List Sx))
inductive Flow where
  | nx | bk | ct | rt (t : Tok)
structure FDef where
  ps : Nat
  nl : Nat
  body : List Sx
structure Pg where
  fn : String → Option FDef
  gl : String → Option PyData
  /-- own classes: has it an __init__ -/
  cls : String → Option Bool
  /-- own exceptions: the fields in order -/
  exc : String → Option (List String)
  /-- is it one of those that a clause names -/
  isa : String → String → Bool
  lim : Nat

/-! ### leaves, places -/
def Fl.dat : Fl → PyData
  | .d x => x
  | .ls xs => .list xs
def lookF (fs : List (String × Fl)) (f : String) : Option Fl := fs.lookup f
def putS (f : String) (l : Fl) : List (String × Fl) → List (String × Fl)
  | [] => [(f, l)]
  | (g, m) :: r => if g = f then (g, l) :: r else (g, m) :: putS f l r
/-- the leaf that an expression gave, as it is now -/
def rd (ρ : Rho) : Tok → Option Fl
  | .lf l => some l
  | .pl i => match ρ[i]? with
    | some (.lf l) => some l
    | _ => none
  | .pf i f => match ρ[i]? with
    | some (.ob _ fs) => lookF fs f
    | _ => none
  | _ => none
def rds (ρ : Rho) : List Tok → Option (List Fl)
  | [] => some []
  | t :: ts => match rd ρ t, rds ρ ts with
    | some l, some ls => some (l :: ls)
    | _, _ => none
/-- another leaf at the place -/
def putP (ρ : Rho) (l : Fl) : Tok → Option Rho
  | .pl i => match ρ[i]? with
    | some (.lf (.ls _)) => some (ρ.set i (.lf l))
    | _ => none
  | .pf i f => match ρ[i]? with
    | some (.ob c fs) => match lookF fs f with
      | some (.ls _) => some (ρ.set i (.ob c (putS f l fs)))
      | _ => none
    | _ => none
  | _ => none
/-- as shared data: an owned list is given up -/
def toD (t : Tok) (ρ : Rho) : Option (PyData × Rho) := match t with
  | .lf l => some (l.dat, ρ)
  | .pl i => match ρ[i]? with
    | some (.lf (.d x)) => some (x, ρ)
    | some (.lf (.ls xs)) => some (.list xs, ρ.set i (.lf (.d (.list xs))))
    | _ => none
  | .pf i f => match ρ[i]? with
    | some (.ob c fs) => match lookF fs f with
      | some (.d x) => some (x, ρ)
      | some (.ls xs) => some (.list xs, ρ.set i (.ob c (putS f (.d (.list xs)) fs)))
      | none => none
    | _ => none
  | _ => none
def toDs : List Tok → Rho → Option (List PyData × Rho)
  | [], ρ => some ([], ρ)
  | t :: ts, ρ => match toD t ρ with
    | some (x, ρ1) => match toDs ts ρ1 with
      | some (xs, ρ2) => some (x :: xs, ρ2)
      | none => none
    | none => none

/-! ### operations on leaves -/
def Fl.seq : Fl → Option (List PyData)
  | .d (.list xs) => some xs
  | .d (.tuple xs) => some xs
  | .ls xs => some xs
  | _ => none
def tyName : PyData → String
  | .none => "NoneType" | .bool _ => "bool" | .int _ => "int" | .str _ => "str" | .list _ => "list" | .tuple _ => "tuple" | .dict _ => "dict"
def isiB (x T : String) : Option Bool := if T = "int" ∨ T = "bool" ∨ T = "str" ∨ T = "tuple" ∨ T = "list" ∨ T = "dict" then some (x = T ∨ (x = "bool" ∧ T = "int")) else none
def boolsOf : List PyData → Option (List Bool)
  | [] => some []
  | .bool b :: r => (boolsOf r).map (b :: ·)
  | _ :: _ => none
def intsOf : List PyData → Option (List Int)
  | [] => some []
  | .int b :: r => (intsOf r).map (b :: ·)
  | _ :: _ => none
def strsOf : List PyData → Option (List Str)
  | [] => some []
  | .str b :: r => (strsOf r).map (b :: ·)
  | _ :: _ => none
def seqsOf : List PyData → Option (List (List PyData))
  | [] => some []
  | .list b :: r => (seqsOf r).map (b :: ·)
  | _ :: _ => none
def cutD (xs : List PyData) (lo hi : Option Int) : List PyData := (xs.drop (HT.sIx xs.length 0 lo)).take (HT.sIx xs.length xs.length hi - HT.sIx xs.length 0 lo)
def addF (a b : Fl) : Option Fl := match a, b with
  | .d (.int i), .d (.int j) => some (.d (.int (i + j)))
  | .d (.str x), .d (.str y) => if x.length + y.length ≤ sizeLine then some (.d (.str (x ++ y))) else none
  | .d (.tuple xs), .d (.tuple ys) => if xs.length + ys.length ≤ sizeLine then some (.d (.tuple (xs ++ ys))) else none
  | .d (.list xs), .d (.list ys) => if xs.length + ys.length ≤ sizeLine then some (.ls (xs ++ ys)) else none
  | .d (.list xs), .ls ys => if xs.length + ys.length ≤ sizeLine then some (.ls (xs ++ ys)) else none
  | .ls xs, .d (.list ys) => if xs.length + ys.length ≤ sizeLine then some (.ls (xs ++ ys)) else none
  | .ls xs, .ls ys => if xs.length + ys.length ≤ sizeLine then some (.ls (xs ++ ys)) else none
  | _, _ => none
instance (i j : Int) : Decidable (CMul i j) := by unfold CMul; infer_instance
instance (i j : Int) : Decidable (CDiv i j) := by unfold CDiv; infer_instance
instance (i j : Int) : Decidable (CPow i j) := by unfold CPow; infer_instance
def mulF (a b : Fl) : Option Fl := match a, b with
  | .d (.int i), .d (.int j) => if CMul i j then some (.d (.int (i * j))) else none
  | .d (.tuple xs), .d (.int k) => if xs ≠ [] ∧ 2 ≤ k ∧ k ≤ 1000 ∧ xs.length ≤ 1000 then some (.d (.tuple (List.replicate k.toNat xs).flatten)) else none
  | _, _ => none
def cmpI (p : Int → Int → Bool) (a b : Fl) : Option Fl := match a, b with
  | .d (.int i), .d (.int j) => some (.d (.bool (p i j)))
  | _, _ => none
def eqF (a b : Fl) : Option Bool := if SeqAt.shaped a.dat = true ∧ SeqAt.shaped b.dat = true then some (PyData.eqv a.dat b.dat) else none
def inF (a b : Fl) : Option Bool := match a, b with
  | .d (.str i), .d (.str j) => some (!(Builtin.Str.occurrences j i 0 j.length 1).isEmpty)
  | a, b => match b.seq with
    | some ds => if SeqAt.shaped a.dat = true ∧ SeqAt.shaped b.dat = true then some (ds.any fun z => PyData.eqv z a.dat) else none
    | none => none
def ixF (a b : Fl) : Option Fl := match a, b with
  | .d (.str x), .d (.int i) => if x.length ≤ sizeLine then (atI x.cps.toList i).map fun c => .d (.str ⟨#[c]⟩) else none
  | a, .d (.int i) => match a.seq with
    | some xs => (atI xs i).map .d
    | none => none
  | _, _ => none
def slF (a : Fl) (lo hi : Option Int) : Option Fl := match a with
  | .d (.tuple xs) => some (.d (.tuple (cutD xs lo hi)))
  | .d (.list xs) => some (.ls (cutD xs lo hi))
  | .ls xs => some (.ls (cutD xs lo hi))
  | .d (.str x) => if x.length ≤ sizeLine then some (.d (.str (cutS x lo hi))) else none
  | _ => none
def intOf : Fl → Option Int
  | .d (.int i) => some i
  | _ => none
def lenF : Fl → Option Fl
  | .d (.str x) => if x.length ≤ sizeLine then some (.d (.int x.length)) else none
  | a => match a.seq with
    | some xs => some (.d (.int xs.length))
    | none => none
/-- operations that change nothing -/
def pd : Pr → List Fl → Option Fl
  | .add, [a, b] => addF a b
  | .sub, [a, b] => match a, b with
    | .d (.int i), .d (.int j) => some (.d (.int (i - j)))
    | _, _ => none
  | .mul, [a, b] => mulF a b
  | .fdiv, [a, b] => match a, b with
    | .d (.int i), .d (.int j) => if CDiv i j then some (.d (.int (i / j))) else none
    | _, _ => none
  | .mod, [a, b] => match a, b with
    | .d (.int i), .d (.int j) => if 0 < j then some (.d (.int (i % j))) else none
    | _, _ => none
  | .pow, [a, b] => match a, b with
    | .d (.int i), .d (.int j) => if CPow i j then some (.d (.int (i ^ j.toNat))) else none
    | _, _ => none
  | .neg, [a] => match a with
    | .d (.int i) => some (.d (.int (-i)))
    | _ => none
  | .eq, [a, b] => (eqF a b).map fun k => .d (.bool k)
  | .ne, [a, b] => (eqF a b).map fun k => .d (.bool (!k))
  | .lt, [a, b] => cmpI (fun i j => decide (i < j)) a b
  | .le, [a, b] => cmpI (fun i j => decide (i ≤ j)) a b
  | .gt, [a, b] => cmpI (fun i j => decide (j < i)) a b
  | .ge, [a, b] => cmpI (fun i j => decide (j ≤ i)) a b
  | .isin, [a, b] => (inF a b).map fun k => .d (.bool k)
  | .notin, [a, b] => (inF a b).map fun k => .d (.bool (!k))
  | .isN, [a] => match a with
    | .d .none => some (.d (.bool true))
    | _ => some (.d (.bool false))
  | .notN, [a] => match a with
    | .d .none => some (.d (.bool false))
    | _ => some (.d (.bool true))
  | .ix, [a, b] => ixF a b
  | .sl false false, [a] => slF a none none
  | .sl true false, [a, l] => (intOf l).bind fun l => slF a (some l) none
  | .sl false true, [a, h] => (intOf h).bind fun h => slF a none (some h)
  | .rev, [a] => match a with
    | .d (.tuple xs) => some (.d (.tuple xs.reverse))
    | .d (.list xs) => some (.ls xs.reverse)
    | .ls xs => some (.ls xs.reverse)
    | _ => none
  | .len, [a] => lenF a
  | .tuple, [a] => a.seq.map fun xs => .d (.tuple xs)
  | .list, [a] => a.seq.map .ls
  | .all, [a] => match a with
    | .d (.list xs) => (boolsOf xs).map fun bs => .d (.bool (bs.all id))
    | .ls xs => (boolsOf xs).map fun bs => .d (.bool (bs.all id))
    | _ => none
  | .any, [a] => match a with
    | .d (.list xs) => (boolsOf xs).map fun bs => .d (.bool (bs.any id))
    | .ls xs => (boolsOf xs).map fun bs => .d (.bool (bs.any id))
    | _ => none
  | .sum, [a] => match a with
    | .d (.list xs) => (intsOf xs).map fun bs => .d (.int bs.sum)
    | .ls xs => (intsOf xs).map fun bs => .d (.int bs.sum)
    | _ => none
  | .sumL, [a] => match a with
    | .ls xs => (seqsOf xs).bind fun l => if l.flatten.length ≤ sizeLine then some (.ls l.flatten) else none
    | _ => none
  | .abs, [a] => match a with
    | .d (.int i) => some (.d (.int (if i < 0 then -i else i)))
    | _ => none
  | .int, [a] => match a with
    | .d (.int i) => some (.d (.int i))
    | .d (.bool k) => some (.d (.int (if k then 1 else 0)))
    | _ => none
  | .str, [a] => match a with
    | .d (.int i) => if i.natAbs.log2 < 1920 then some (.d (.str (toString i : String))) else none
    | .d (.str x) => some (.d (.str x))
    | _ => none
  | .repr, [a] => if a.dat.showable = true ∧ a.dat.hasDict = false ∧ a.dat.depth ≤ 60 ∧ a.dat.shown.length ≤ sizeLine then some (.d (.str a.dat.shown)) else none
  | .isi T, [a] => (isiB (tyName a.dat) T).map fun k => .d (.bool k)
  | .split, [a, b] => match a, b with
    | .d (.str x), .d (.str y) => if (y.length == 0) = false ∧ x.length + 2 ≤ sizeLine then some (.ls ((Txt.split x y).map .str)) else none
    | _, _ => none
  | .dct, [] => some (.d (.dict []))
  | .min2, [a, b] => match a, b with
    | .d (.int i), .d (.int j) => some (.d (.int (if j < i then j else i)))
    | _, _ => none
  | .max2, [a, b] => match a, b with
    | .d (.int i), .d (.int j) => some (.d (.int (if j > i then j else i)))
    | _, _ => none
  | _, _ => none
/-- whose method it is -/
def recvOk (op : Pr) (l : Fl) : Bool := match op, l with
  | .append, .ls _ => true
  | .pop, .ls _ => true
  | .extend, .ls _ => true
  | .split, .d (.str _) => true
  | .join, .d (.str _) => true
  | _, _ => false
/-- x op= y, of numbers and texts -/
def augF (op : Pr) (x y : PyData) : Option PyData := match op, x, y with
  | .add, .int i, .int j => some (.int (i + j))
  | .sub, .int i, .int j => some (.int (i - j))
  | .add, .str x, .str y => if x.length + y.length ≤ sizeLine then some (.str (x ++ y)) else none
  | _, _, _ => none
/-- all operations -/
def prm (p : Pr) (ts : List Tok) (ρ : Rho) : Option (Tok × Rho) := match p, ts with
  | .tup, ts => (toDs ts ρ).bind fun (xs, ρ') => if xs.length ≤ sizeLine then some (.lf (.d (.tuple xs)), ρ') else none
  | .lst, ts => (toDs ts ρ).bind fun (xs, ρ') => if xs.length ≤ sizeLine then some (.lf (.ls xs), ρ') else none
  | .append, [o, t] => (toD t ρ).bind fun (x, ρ') => match rd ρ' o with
    | some (.ls xs) => if xs.length < sizeLine then (putP ρ' (.ls (xs ++ [x])) o).map fun ρ'' => (.lf (.d .none), ρ'') else none
    | _ => none
  | .pop, [o] => match rd ρ o with
    | some (.ls xs) => (xs.getLast?).bind fun x => (putP ρ (.ls xs.dropLast) o).map fun ρ' => (.lf (.d x), ρ')
    | _ => none
  | .extend, [o, t] => match rd ρ o, rd ρ t with
    | some (.ls xs), some l => l.seq.bind fun ys => if xs.length + ys.length ≤ sizeLine then (putP ρ (.ls (xs ++ ys)) o).map fun ρ' => (.lf (.d .none), ρ') else none
    | _, _ => none
  | p, ts => (rds ρ ts).bind fun ls => (pd p ls).map fun l => (.lf l, ρ)

/-! ### assignment -/
/-- a place's thing as shared data, the rest as it is -/
def unT (t : Tok) (ρ : Rho) : Option (Tok × Rho) := match t with
  | .pl i => (toD (.pl i) ρ).map fun (x, ρ') => (.lf (.d x), ρ')
  | .pf i f => (toD (.pf i f) ρ).map fun (x, ρ') => (.lf (.d x), ρ')
  | t => some (t, ρ)
def unTs : List Tok → Rho → Option (List Tok × Rho)
  | [], ρ => some ([], ρ)
  | t :: ts, ρ => match unT t ρ with
    | some (t', ρ1) => match unTs ts ρ1 with
      | some (ts', ρ2) => some (t' :: ts', ρ2)
      | none => none
    | none => none
def slotOf : Tok → Option Sl
  | .lf l => some (.lf l)
  | .fn f => some (.fn f)
  | .ob c fs => some (.ob c fs)
  | _ => none
/-- a name gets a thing -/
def put1 (pin : List Nat) (i : Nat) (t : Tok) (ρ : Rho) : Option Rho := if i ∈ pin then none else match ρ[i]?, slotOf t with
  | some .lk, _ => none
  | some _, some s => some (ρ.set i s)
  | _, _ => none
/-- a name gets what an expression gave -/
def asgN (pin : List Nat) (i : Nat) (t : Tok) (ρ : Rho) : Option Rho := match unT t ρ with
  | some (t', ρ') => put1 pin i t' ρ'
  | none => none
mutual
def asgD (pin : List Nat) : Tg → PyData → Rho → Option Rho
  | .nm i, x, ρ => put1 pin i (.lf (.d x)) ρ
  | .tp ts, .tuple xs, ρ => asgDs pin ts xs ρ
  | .tp _, _, _ => none
def asgDs (pin : List Nat) : List Tg → List PyData → Rho → Option Rho
  | [], [], ρ => some ρ
  | t :: ts, x :: xs, ρ => (asgD pin t x ρ).bind fun ρ' => asgDs pin ts xs ρ'
  | _, _, _ => none
end
def asgT (pin : List Nat) (t : Tg) (k : Tok) (ρ : Rho) : Option Rho := match t with
  | .nm i => asgN pin i k ρ
  | .tp ts => (toD k ρ).bind fun (x, ρ') => asgD pin (.tp ts) x ρ'
def put1s (pin : List Nat) : List Nat → List Tok → Rho → Option Rho
  | [], [], ρ => some ρ
  | i :: is, t :: ts, ρ => match put1 pin i t ρ with
    | some ρ' => put1s pin is ts ρ'
    | none => none
  | _, _, _ => none
def asgNs (pin : List Nat) (is : List Nat) (ts : List Tok) (ρ : Rho) : Option Rho := match unTs ts ρ with
  | some (ts', ρ') => put1s pin is ts' ρ'
  | none => none

/-! ### what is walked: 0 a list, tuple or text; 1 range; 2 enumerate; 3 zip -/
def signs (x : Str) : List PyData := x.cps.toList.map fun c => .str ⟨#[c]⟩
def seqW : Fl → Option (List PyData)
  | .d (.str x) => some (signs x)
  | l => l.seq
def enumD (xs : List PyData) : List PyData := xs.zipIdx.map fun (x, i) => .tuple [.int (i : Nat), x]
def zipD (xs ys : List PyData) : List PyData := (xs.zip ys).map fun (x, y) => .tuple [x, y]
def rngD (lo : Int) (n : Nat) : List PyData := (List.range n).map fun i => .int (lo + (i : Nat))
def Fl.isTup : Fl → Bool
  | .d (.tuple _) => true
  | _ => false
def itemsW (w : Nat) (ls : List Fl) : Option (List PyData) := match w, ls with
  | 0, [l] => seqW l
  | 1, [l] => (intOf l).bind fun j => if -(2 ^ 62) ≤ j ∧ j < 2 ^ 62 then some (rngD 0 j.toNat) else none
  | 1, [l, m] => (intOf l).bind fun i => (intOf m).bind fun j => if -(2 ^ 62) ≤ i ∧ i < 2 ^ 62 ∧ -(2 ^ 62) ≤ j ∧ j < 2 ^ 62 then some (rngD i (j - i).toNat) else none
  | 2, [l] => l.seq.map enumD
  | 3, [l, m] => if l.isTup = m.isTup then l.seq.bind fun xs => m.seq.map fun ys => zipD xs ys else none
  | _, _ => none
/-- places that are walked are locked meanwhile -/
def lockOf : List Tok → List Nat
  | [] => []
  | .pl i :: r => if i ∈ lockOf r then lockOf r else i :: lockOf r
  | .pf i _ :: r => if i ∈ lockOf r then lockOf r else i :: lockOf r
  | _ :: r => lockOf r
def lock (is : List Nat) (ρ : Rho) : Rho := is.foldl (fun ρ i => ρ.set i .lk) ρ
def unlock (is : List Nat) (ρ0 ρ : Rho) : Rho := is.foldl (fun ρ i => match ρ0[i]? with
  | some s => ρ.set i s
  | none => ρ) ρ

/-! ### calls: an owned thing of a name is lent -/
def argS (t : Tok) (ρ : Rho) : Option (Sl × Rho) := match t with
  | .pl i => match ρ[i]? with
    | some (.lf (.ls xs)) => some (.lf (.ls xs), ρ.set i .lk)
    | some (.ob c fs) => some (.ob c fs, ρ.set i .lk)
    | _ => none
  | .fn f => some (.fn f, ρ)
  | .lf l => some (.lf l, ρ)
  | .ob _ _ => none
  | t => (toD t ρ).map fun (x, ρ') => (.lf (.d x), ρ')
def argSs : List Tok → Rho → Option (List Sl × Rho)
  | [], ρ => some ([], ρ)
  | t :: ts, ρ => match argS t ρ with
    | some (s, ρ') => match argSs ts ρ' with
      | some (ss, ρ'') => some (s :: ss, ρ'')
      | none => none
    | none => none
/-- what the callee has made of the lent things goes back -/
def backS : List Tok → List Sl → Rho → Option Rho
  | .pl i :: ts, s :: ss, ρ => match s with
    | .lf l => backS ts ss (ρ.set i (.lf l))
    | .ob c fs => backS ts ss (ρ.set i (.ob c fs))
    | _ => none
  | _ :: ts, _ :: ss, ρ => backS ts ss ρ
  | [], _, ρ => some ρ
  | _, _, _ => none
/-- the places of the parameters that are lent -/
def pinOf : Nat → List Tok → List Nat
  | _, [] => []
  | j, .pl _ :: ts => j :: pinOf (j + 1) ts
  | j, _ :: ts => pinOf (j + 1) ts
/-- what a def hands back -/
def retT (pin : List Nat) (t : Tok) (ρ : Rho) : Option (Tok × Rho) := match t with
  | .pl i => if i ∈ pin then (toD (.pl i) ρ).map fun (x, ρ') => (.lf (.d x), ρ') else match ρ[i]? with
    | some (.lf (.ls xs)) => some (.lf (.ls xs), ρ.set i .no)
    | some (.ob c fs) => some (.ob c fs, ρ.set i .no)
    | _ => none
  | .pf i f => (toD (.pf i f) ρ).map fun (x, ρ') => (.lf (.d x), ρ')
  | .fn _ => none
  | t => some (t, ρ)

mutual
/-- nothing is called that could change an instance -/
def noCall : Ex → Bool
  | .p _ es => noCalls es
  | .m _ o es => noCall o && noCalls es
  | .s2 e l h => noCall e && (noCall l && noCall h)
  | .and a b => noCall a && noCall b
  | .or a b => noCall a && noCall b
  | .not a => noCall a
  | .ite c a b => noCall c && noCall a && noCall b
  | .chn _ _ a b c => noCall a && noCall b && noCall c
  | .k _ => true
  | .v _ => true
  | .g _ => true
  | .f _ => true
  | .fld _ _ => true
  | _ => false
def noCalls : List Ex → Bool
  | [] => true
  | e :: es => noCall e && noCalls es
end
def isPf : Tok → Bool
  | .pf _ _ => true
  | _ => false
def evL (ev : Ex → Rho → Out Tok) : List Ex → Rho → Out (List Tok)
  | [], ρ => .ok [] ρ
  | e :: es, ρ => (ev e ρ).bind fun t ρ1 => if isPf t && !(noCalls es) then .no else (evL ev es ρ1).bind fun ts ρ2 => .ok (t :: ts) ρ2
def truth (l : Fl) : Option Bool := match l with
  | .d .none => some false
  | .d (.bool b) => some b
  | .d (.int i) => some (i != 0)
  | .d (.str x) => if x.length ≤ sizeLine then some (x.length != 0) else none
  | .d (.list xs) => some (!xs.isEmpty)
  | .d (.tuple xs) => some (!xs.isEmpty)
  | .ls xs => some (!xs.isEmpty)
  | _ => none
def boolOf (t : Tok) : Option Bool := match t with
  | .lf (.d (.bool b)) => some b
  | _ => none
def testsL (ev : Ex → Rho → Out Bool) : List Ex → Rho → Out Bool
  | [], ρ => .ok true ρ
  | e :: es, ρ => (ev e ρ).bind fun b ρ1 => if b then testsL ev es ρ1 else .ok false ρ1
/-- a comprehension's turns -/
def lcL (asg : PyData → Rho → Option Rho) (test : Rho → Out Bool) (elt : Rho → Out Tok) (wipe : Rho → Rho) : List PyData → List PyData → Rho → Out (List PyData)
  | [], acc, ρ => .ok acc ρ
  | x :: xs, acc, ρ => match asg x (wipe ρ) with
    | none => .no
    | some ρ1 => match test ρ1 with
      | .ok true ρ2 => match elt ρ2 with
        | .ok t ρ3 => match toD t ρ3 with
          | some (y, ρ4) => if acc.length < sizeLine then lcL asg test elt wipe xs (acc ++ [y]) ρ4 else .no
          | none => .no
        | _ => .no
      | .ok false ρ2 => lcL asg test elt wipe xs acc ρ2
      | _ => .no
/-- the outer turns of a comprehension of two -/
def lcO (asg : PyData → Rho → Option Rho) (inner : List PyData → Rho → Out (List PyData)) (wipe : Rho → Rho) : List PyData → List PyData → Rho → Out (List PyData)
  | [], acc, ρ => .ok acc ρ
  | x :: xs, acc, ρ => match asg x (wipe ρ) with
    | none => .no
    | some ρ1 => match inner acc ρ1 with
      | .ok acc' ρ2 => lcO asg inner wipe xs acc' ρ2
      | _ => .no
def forL (asg : PyData → Rho → Option Rho) (body : Rho → Out Flow) : List PyData → Rho → Out Flow
  | [], ρ => .ok .nx ρ
  | x :: xs, ρ => match asg x ρ with
    | none => .no
    | some ρ1 => match body ρ1 with
      | .ok .nx ρ2 => forL asg body xs ρ2
      | .ok .ct ρ2 => forL asg body xs ρ2
      | .ok .bk ρ2 => .ok .nx ρ2
      | .ok (.rt t) ρ2 => .ok (.rt t) ρ2
      | .ex e ρ2 => .ex e ρ2
      | .no => .no
def whlL (test : Rho → Out Bool) (body : Rho → Out Flow) : Nat → Rho → Out Flow
  | 0, _ => .no
  | n + 1, ρ => match test ρ with
    | .ok false ρ1 => .ok .nx ρ1
    | .ok true ρ1 => match body ρ1 with
      | .ok .nx ρ2 => whlL test body n ρ2
      | .ok .ct ρ2 => whlL test body n ρ2
      | .ok .bk ρ2 => .ok .nx ρ2
      | .ok (.rt t) ρ2 => .ok (.rt t) ρ2
      | .ex e ρ2 => .ex e ρ2
      | .no => .no
    | .ex e ρ1 => .ex e ρ1
    | .no => .no
def wipeR (own : List Nat) (ρ : Rho) : Rho := own.foldr (fun i ρ => ρ.set i .no) ρ
/-- the block's own names: nothing owned, nothing locked -/
def ownOk (own : List Nat) (ρ : Rho) : Bool := own.all fun i => match ρ[i]? with
  | some .no => true
  | some (.lf (.d _)) => true
  | _ => false
/-- behind a comprehension: the own names as they were ahead -/
def restR (own : List Nat) (ρ0 ρ : Rho) : Rho := unlock own ρ0 (wipeR own ρ)
/-- all other slots -/
def compl (own : List Nat) (n : Nat) : List Nat := (List.range n).filter fun i => !(own.contains i)
def seqL (ev : Sx → Rho → Out Flow) : List Sx → Rho → Out Flow
  | [], ρ => .ok .nx ρ
  | s :: ss, ρ => match ev s ρ with
    | .ok .nx ρ1 => seqL ev ss ρ1
    | r => r
mutual
/-- what an except suite gives back: constants, names, fields of the caught exception (its name's slot: i), tuples of these -/
def plE (P : Pg) (fs : List (String × PyData)) (i : Option Nat) (ρ : Rho) : Ex → Option PyData
  | .k d => some d
  | .v j => if i = some j then none else match ρ[j]? with
    | some (.lf (.d x)) => some x
    | _ => none
  | .g x => P.gl x
  | .fld j f => if i = some j then fs.lookup f else none
  | .p .tup es => (plEs P fs i ρ es).bind fun xs => if xs.length ≤ sizeLine then some (.tuple xs) else none
  | _ => none
def plEs (P : Pg) (fs : List (String × PyData)) (i : Option Nat) (ρ : Rho) : List Ex → Option (List PyData)
  | [] => some []
  | e :: es => (plE P fs i ρ e).bind fun x => (plEs P fs i ρ es).bind fun xs => some (x :: xs)
end
/-- the fields that the exception's class declares -/
def erF (P : Pg) (e : Er) : List (String × PyData) := match P.exc e.c with
  | some fs => e.fs.filter fun p => fs.contains p.1
  | none => []
def suiteF (P : Pg) (e : Er) (i : Option Nat) (ρ : Rho) : List Sx → Out Flow
  | [.ret x] => if (match i with | some j => decide (j < ρ.length) | none => true) then match plE P (erF P e) i ρ x with
    | some d => .ok (.rt (.lf (.d d))) ρ
    | none => .no else .no
  | [.pass] => if i = none then .ok .nx ρ else .no
  | _ => .no
def handle (P : Pg) (e : Er) : List (List String × Option Nat × List Sx) → Rho → Out Flow
  | [], ρ => .ex e ρ
  | (cs, x, b) :: hs, ρ => if cs.any (P.isa e.c) then suiteF P e x ρ b else handle P e hs ρ

/-- what a body's end hands back -/
def flT : Flow → Option Tok
  | .rt t => some t
  | .nx => some (.lf (.d .none))
  | _ => none
/-- a def's run -/
def callF (run : List Nat → List Sx → Rho → Out Flow) (D : FDef) (ts : List Tok) (ρ : Rho) : Out Tok :=
  if ts.length = D.ps ∧ D.ps ≤ D.nl then
    match argSs ts ρ with
    | none => .no
    | some (as, ρ1) => match run (pinOf 0 ts) D.body (as ++ List.replicate (D.nl - D.ps) .no) with
      | .ok fl ρc => match flT fl with
        | some t => match backS ts ρc ρ1 with
          | some ρ2 => .ok t ρ2
          | none => .no
        | none => .no
      | .ex e ρc => match backS ts ρc ρ1 with
        | some ρ2 => .ex e ρ2
        | none => .no
      | .no => .no
  else .no

mutual
def evE (P : Pg) : Nat → Ex → Rho → Out Tok
  | 0, _, _ => .no
  | n + 1, e, ρ => match e with
    | .k d => .ok (.lf (.d d)) ρ
    | .v i => match ρ[i]? with
      | some (.lf (.d x)) => .ok (.lf (.d x)) ρ
      | some (.lf (.ls _)) => .ok (.pl i) ρ
      | some (.ob _ _) => .ok (.pl i) ρ
      | some (.fn f) => .ok (.fn f) ρ
      | _ => .no
    | .g x => match P.gl x with
      | some d => .ok (.lf (.d d)) ρ
      | none => .no
    | .f x => match P.fn x with
      | some _ => .ok (.fn x) ρ
      | none => .no
    | .fld i f => match ρ[i]? with
      | some (.ob _ fs) => match lookF fs f with
        | some (.d x) => .ok (.lf (.d x)) ρ
        | some (.ls _) => .ok (.pf i f) ρ
        | none => .no
      | some (.er _ fs) => match fs.lookup f with
        | some x => .ok (.lf (.d x)) ρ
        | none => .no
      | _ => .no
    | .fldT e f => (evE P n e ρ).bind fun t ρ1 => match t with
      | .ob _ fs => match lookF fs f with
        | some l => .ok (.lf l) ρ1
        | none => .no
      | _ => .no
    | .p op es => (evL (evE P n) es ρ).bind fun ts ρ1 => ofOpt (prm op ts ρ1)
    | .m op o es => (evE P n o ρ).bind fun t ρ1 => if isPf t && !(noCalls es) then .no else match rd ρ1 t with
      | some l => if recvOk op l then (evL (evE P n) es ρ1).bind fun ts ρ2 => ofOpt (prm op (t :: ts) ρ2) else .no
      | none => .no
    | .s2 e l h => (evE P n e ρ).bind fun t ρ1 => if isPf t && !(noCall l && noCall h) then .no else (evE P n l ρ1).bind fun tl ρ2 => match tl with
      | .lf (.d (.int i)) => (evE P n h ρ2).bind fun th ρ3 => match th with
        | .lf (.d (.int j)) => match (rd ρ3 t).bind fun l => slF l (some i) (some j) with
          | some r => .ok (.lf r) ρ3
          | none => .no
        | _ => .no
      | _ => .no
    | .call f es => match P.fn f with
      | some D => (evL (evE P n) es ρ).bind fun ts ρ1 => callF (evB P n) D ts ρ1
      | none => .no
    | .callv i es => match ρ[i]? with
      | some (.fn f) => match P.fn f with
        | some D => (evL (evE P n) es ρ).bind fun ts ρ1 => callF (evB P n) D ts ρ1
        | none => .no
      | _ => .no
    | .om m i es => match ρ[i]? with
      | some (.ob c fs) => if (lookF fs m).isSome then .no else match P.fn (c ++ "." ++ m) with
        | some D => (evL (evE P n) es ρ).bind fun ts ρ1 => callF (evB P n) D (.pl i :: ts) ρ1
        | none => .no
      | _ => .no
    | .mk c es => match P.cls c, P.fn (c ++ ".__init__") with
      | some true, some D => (evL (evE P n) es ρ).bind fun ts ρ1 =>
          match callF (evB P n) D (.pl ρ1.length :: ts) (ρ1 ++ [.ob c []]) with
          | .ok (.lf (.d .none)) ρ2 => match ρ2.getLast? with
            | some (.ob c' fs) => if c' = c then .ok (.ob c fs) ρ2.dropLast else .no
            | _ => .no
          | _ => .no
      | _, _ => .no
    | .and a b => (evE P n a ρ).bind fun t ρ1 => match boolOf t with
      | some true => evE P n b ρ1
      | some false => .ok (.lf (.d (.bool false))) ρ1
      | none => .no
    | .or a b => (evE P n a ρ).bind fun t ρ1 => match boolOf t with
      | some true => .ok (.lf (.d (.bool true))) ρ1
      | some false => evE P n b ρ1
      | none => .no
    | .not a => (evE P n a ρ).bind fun t ρ1 => match boolOf t with
      | some b => .ok (.lf (.d (.bool (!b)))) ρ1
      | none => .no
    | .ite c a b => (evT P n c ρ).bind fun k ρ1 => if k then evE P n a ρ1 else evE P n b ρ1
    | .chn p q a b c => (evL (evE P n) [a, b] ρ).bind fun ts ρ2 => match ts with
      | [ta, tb] => match (rds ρ2 [ta, tb]).bind (pd p) with
        | some (.d (.bool true)) => if isPf tb && !(noCall c) then .no else (evE P n c ρ2).bind fun tc ρ4 => match (rds ρ4 [tb, tc]).bind (pd q) with
          | some l => .ok (.lf l) ρ4
          | none => .no
        | some (.d (.bool false)) => .ok (.lf (.d (.bool false))) ρ2
        | _ => .no
      | _ => .no
    | .lc own t w es ifs e => (evL (evE P n) es ρ).bind fun ts ρ1 => match (rds ρ1 ts).bind (itemsW w) with
      | none => .no
      | some xs => if ownOk own (lock (lockOf ts) ρ1) then
          match lcL (asgD (compl own ρ1.length) t) (testsL (evT P n) ifs) (evE P n e) (wipeR own) xs [] (wipeR own (lock (lockOf ts) ρ1)) with
          | .ok ys ρ2 => .ok (.lf (.ls ys)) (unlock (lockOf ts) ρ1 (restR own (lock (lockOf ts) ρ1) ρ2))
          | _ => .no
        else .no
    | .lc2 own own2 t w es t2 w2 es2 ifs e => (evL (evE P n) es ρ).bind fun ts ρ1 => match (rds ρ1 ts).bind (itemsW w) with
      | none => .no
      | some xs => if ownOk own (lock (lockOf ts) ρ1) then
          match lcO (asgD (compl own ρ1.length) t) (fun acc ρ2 => match evL (evE P n) es2 ρ2 with
              | .ok ts2 ρ3 => match (rds ρ3 ts2).bind (itemsW w2) with
                | some xs2 => if ownOk own2 (lock (lockOf ts2) ρ3) then
                    match lcL (asgD (compl own2 ρ1.length) t2) (testsL (evT P n) ifs) (evE P n e) (wipeR own2) xs2 acc (lock (lockOf ts2) ρ3) with
                    | .ok acc' ρ4 => .ok acc' (unlock (lockOf ts2) ρ3 (wipeR own2 ρ4))
                    | _ => .no
                  else .no
                | none => .no
              | _ => .no) (wipeR own) xs [] (wipeR own (lock (lockOf ts) ρ1)) with
          | .ok ys ρ2 => .ok (.lf (.ls ys)) (unlock (lockOf ts) ρ1 (restR own (lock (lockOf ts) ρ1) ρ2))
          | _ => .no
        else .no
def evT (P : Pg) : Nat → Ex → Rho → Out Bool
  | 0, _, _ => .no
  | n + 1, e, ρ => match e with
    | .and a b => (evT P n a ρ).bind fun k ρ1 => if k then evT P n b ρ1 else .ok false ρ1
    | .or a b => (evT P n a ρ).bind fun k ρ1 => if k then .ok true ρ1 else evT P n b ρ1
    | .not a => (evT P n a ρ).bind fun k ρ1 => .ok (!k) ρ1
    | .ite c a b => (evT P n c ρ).bind fun k ρ1 => if k then evT P n a ρ1 else evT P n b ρ1
    | e => (evE P n e ρ).bind fun t ρ1 => match (rd ρ1 t).bind truth with
      | some b => .ok b ρ1
      | none => .no
def evS (P : Pg) : Nat → List Nat → Sx → Rho → Out Flow
  | 0, _, _, _ => .no
  | n + 1, pin, s, ρ => match s with
    | .asg t e => (evE P n e ρ).bind fun k ρ1 => ofOpt ((asgT pin t k ρ1).map fun ρ2 => (.nx, ρ2))
    | .par is es => (evL (evE P n) es ρ).bind fun ts ρ1 => ofOpt ((asgNs pin is ts ρ1).map fun ρ2 => (.nx, ρ2))
    | .setix o i e => (evL (evE P n) [e, o, i] ρ).bind fun ts ρ3 => match ts with
      | [t, to, ti] => match toD t ρ3 with
        | some (x, ρ4) => match rd ρ4 to, (rd ρ4 ti).bind intOf with
          | some (.ls xs), some k => match ixN xs.length k with
            | some j => ofOpt ((putP ρ4 (.ls (xs.set j x)) to).map fun ρ5 => (.nx, ρ5))
            | none => .no
          | _, _ => .no
        | none => .no
      | _ => .no
    | .setfld i f e => (evE P n e ρ).bind fun t ρ1 => match ρ1[i]? with
      | some (.ob c _) => match (match t with | .lf l => some (l, ρ1) | t => (toD t ρ1).map fun (x, ρ2) => (.d x, ρ2)) with
        | some (l, ρ2) => match ρ2[i]? with
          | some (.ob c fs) => if fs.length < 1000 then .ok .nx (ρ2.set i (.ob c (putS f l fs))) else .no
          | _ => .no
        | none => .no
      | _ => .no
    | .aug i op e => match ρ[i]? with
      | some (.lf (.d x)) => (evE P n e ρ).bind fun t ρ1 => match t with
        | .lf (.d y) => match augF op x y with
          | some z => ofOpt ((put1 pin i (.lf (.d z)) ρ1).map fun ρ2 => (.nx, ρ2))
          | none => .no
        | _ => .no
      | _ => .no
    | .augix o i op e => (evL (evE P n) [o, i] ρ).bind fun ts ρ2 => match ts with
      | [to, ti] => match rd ρ2 to, (rd ρ2 ti).bind intOf with
        | some (.ls xs), some k => match atI xs k with
          | some x => if isPf to && !(noCall e) then .no else (evE P n e ρ2).bind fun t ρ3 => match t, rd ρ3 to with
            | .lf (.d y), some (.ls ys) => match augF op x y, ixN ys.length k with
              | some z, some j => ofOpt ((putP ρ3 (.ls (ys.set j z)) to).map fun ρ5 => (.nx, ρ5))
              | _, _ => .no
            | _, _ => .no
          | none => .no
        | _, _ => .no
      | _ => .no
    | .ex e => (evE P n e ρ).bind fun _ ρ1 => .ok .nx ρ1
    | .ret e => (evE P n e ρ).bind fun t ρ1 => ofOpt ((retT pin t ρ1).map fun (r, ρ2) => (.rt r, ρ2))
    | .retN => .ok (.rt (.lf (.d .none))) ρ
    | .ite c a b => (evT P n c ρ).bind fun k ρ1 => if k then evB P n pin a ρ1 else evB P n pin b ρ1
    | .for_ t w es b => (evL (evE P n) es ρ).bind fun ts ρ1 => match (rds ρ1 ts).bind (itemsW w) with
      | none => .no
      | some xs => match forL (asgD (lockOf ts ++ pin) t) (evB P n (lockOf ts ++ pin) b) xs (lock (lockOf ts) ρ1) with
        | .ok fl ρ2 => .ok fl (unlock (lockOf ts) ρ1 ρ2)
        | .ex e ρ2 => .ex e (unlock (lockOf ts) ρ1 ρ2)
        | .no => .no
    | .whl c b => whlL (evT P n c) (evB P n pin b) P.lim ρ
    | .brk => .ok .bk ρ
    | .cnt => .ok .ct ρ
    | .pass => .ok .nx ρ
    | .raise c es => match P.exc c with
      | some fs => (evL (evE P n) es ρ).bind fun ts ρ1 => match toDs ts ρ1 with
        | some (xs, ρ2) => if xs.length = fs.length then .ex ⟨c, (fs.zip xs).reverse⟩ ρ2 else .no
        | none => .no
      | none => .no
    | .try_ b hs => match evB P n pin b ρ with
      | .ex e ρ1 => handle P e hs ρ1
      | r => r
def evB (P : Pg) : Nat → List Nat → List Sx → Rho → Out Flow
  | 0, _, _, _ => .no
  | n + 1, pin, ss, ρ => seqL (evS P n pin) ss ρ
end
end DL

set_option maxRecDepth 100000
set_option maxHeartbeats 4000000
/-! DL3: promises of defs where no repr is under way (FnG), their calls; the frame's state as values (Sim). -/
namespace DL
open PySem PySem.Spec L2
open PyProof.Rows (envOfC)

/-! ### promises: as FnOk, with nothing guarded around -/
structure RoomG (k : Nat) (A : Around) : Prop where
  r : Room k A
  g : A.guards = some []
theorem RoomG.mono {j k : Nat} {A : Around} (r : RoomG k A) (h : j ≤ k) : RoomG j A := ⟨r.r.mono h, r.g⟩
abbrev CXL (P : Program) (w : World) : CXT := L2.CX P w
structure FnG (P : Program) (w : World) (K : PySem.W.Frag) (mg : Str → Option Value) (base : Heap) (k : Nat) (f : Addr) (fd : FuncData) (ps : List Str) (sp : Sp) : Prop where
  len : ∀ vs H Q E, sp vs H Q E → vs.length = ps.length
  run : ∀ (A : Around) (outer : List Env) (s : Shared) (H : Hp) (args : Args) (us : List Value) (vs : List V) (Q : VK) (E : XK), RoomG k A → Env0 P w K mg base A outer s H → BindsTo s fd args (ps.zip us) → Vals vs us → sp vs H Q E →
    codeAny (model P w) A (.call (.ref f) args) (CR (CXL P w) outer P w H s Q E) s
section
variable {X : Cx} {k : Nat} {f C : Addr} {fd : FuncData} {ps : List Str} {sp : Sp} {W : WX} {x m : Str} {p pos apos : Pos} {e o : Expr} {es : List Expr} {ta : TE} {t : TA}
/-- behind a call: its value, or its exception in our air -/
theorem run_fnG {pins : List (Addr × Obj)} {σ : St} {H : Hp} {s : Shared} {Q : VK} {us : List Value} {vs : List V} (F : FnG X.prog X.w X.K X.mg X.base k f fd ps sp) (hr : RoomG k X.A) (hb : Binds X.K fd ps []) (tk : Takes X W)
    (I : Inv X pins σ H s) (rv : Vals vs us) (h : sp vs H Q (fun cls d H' => W cls d σ H')) : wpAny (model X.prog X.w) X.A (call (.ref f) us) (EP X pins σ Q) X.xe s := by
  have hl : (us ++ []).length = ps.length := by rw [List.append_nil, ← rv.length]; exact F.len _ _ _ _ h
  have bd := hb s us I.kIn hl
  rw [List.append_nil] at bd
  refine wpAny_call (codeAny_mono (F.run X.A X.stack s H ⟨us, []⟩ us vs Q _ hr I.env0 bd rv h) fun res s2 hres => ?_)
  match res, hres with
  | .error er, hres => exact passAt tk σ pins H s er s2 I hres
  | .ok (.ret u), hres => exact I.after hres
  | .ok .next, hres => exact hres.elim
  | .ok .brk, hres => exact hres.elim
  | .ok .cont, hres => exact hres.elim
def tCallG (sp : Sp) (W : WX) (t : TA) : TE := fun σ H Q => t σ H fun vs H1 => sp vs H1 Q (fun cls d H' => W cls d σ H')
theorem pe_callG (F : FnG X.prog X.w X.K X.mg X.base k f fd ps sp) (hr : RoomG k X.A) (hg : Gl X x) (hm : X.mg x = some (.ref f)) (hk : PySem.W.keepIn X.K (.ref f) = true) (hb : Binds X.K fd ps []) (tk : Takes X W) (ha : PA X (e :: es) t)
    (hdb : (x == ("__debug__" : Str)) = false) (he : starEach (e :: es) X.env = (false, eval e X.env) :: starEach es X.env) (hpl : (backTo pos (starEach es X.env)).any (·.1) = false) : PE X (.Call (.Name x p) (e :: es) [] pos) (tCallG sp W t) :=
  ⟨fun pins s σ H Q I h => wpAny_Call_Name_kw (ld_glob I hg hm (PySem.W.callWith_K (h₀ := X.base) I.ok.mod.kin hk (thn (ha.run pos pins s σ H _ I h) fun us s1 ⟨vs, H1, I1, rv, q⟩ => ⟨I1.kIn, run_fnG F hr hb tk I1 rv q⟩) he hpl) hdb)⟩
theorem pe_callG0 (F : FnG X.prog X.w X.K X.mg X.base k f fd ps sp) (hr : RoomG k X.A) (hg : Gl X x) (hm : X.mg x = some (.ref f)) (hk : PySem.W.keepIn X.K (.ref f) = true) (hb : Binds X.K fd ps []) (tk : Takes X W) (hdb : (x == ("__debug__" : Str)) = false) : PE X (.Call (.Name x p) [] [] pos) (tCallG sp W tNil) :=
  ⟨fun pins s σ H Q I h => wpAny_Call_Name_kw (ld_glob I hg hm (PySem.W.callWith_K0 I.kIn hk (run_fnG (us := []) F hr hb tk I .nil h)) hdb)⟩
/-- a name of the def that holds a def -/
def tCallV (i : Nat) (f : Addr) (sp : Sp) (W : WX) (t : TA) : TE := fun σ H Q => σ[i]? = some (some (.ref f)) ∧ tCallG sp W t σ H Q
theorem pe_callV {i : Nat} (F : FnG X.prog X.w X.K X.mg X.base k f fd ps sp) (hr : RoomG k X.A) (hN : X.N[i]? = some x) (hv : Vis X.env.scope x) (hk : PySem.W.keepIn X.K (.ref f) = true) (hb : Binds X.K fd ps []) (tk : Takes X W) (ha : PA X (e :: es) t)
    (hdb : (x == ("__debug__" : Str)) = false) (hcd : (x == ("__classdict__" : Str)) = false) (he : starEach (e :: es) X.env = (false, eval e X.env) :: starEach es X.env) (hpl : (backTo pos (starEach es X.env)).any (·.1) = false) :
    PE X (.Call (.Name x p) (e :: es) [] pos) (tCallV i f sp W t) := by
  refine ⟨fun pins s σ H Q I h => ?_⟩
  obtain ⟨h0, h1⟩ := h
  have hx := (pe_var (pos := p) hN hv hdb hcd).run pins s σ H (fun v H1 => v = .ref f ∧ H1 = H) I ⟨_, h0, rfl, rfl⟩
  refine wpAny_Call_Name_kw (thn hx fun u s1 ⟨v, H1, I1, rv, q1⟩ => ?_)
  obtain ⟨rfl, rfl⟩ := q1
  obtain rfl : u = Value.ref f := rv
  exact PySem.W.callWith_K (h₀ := X.base) I.ok.mod.kin hk (thn (ha.run pos pins s1 σ _ _ I1 h1) fun us s2 ⟨vs, H2, I2, rv2, q⟩ => ⟨I2.kIn, run_fnG F hr hb tk I2 rv2 q⟩) he hpl
/-- o.m(..) of an own class's instance -/
def tMethG (C : Addr) (m : Str) (sp : Sp) (W : WX) (ta : TE) (t : TA) : TE := fun σ H Q => ta σ H fun x H1 => ∃ a dx fs, x = .ref a ∧ H1 a = some (.ins C dx fs) ∧ fs.lookup m = none ∧ t σ H1 fun vs H2 => sp (x :: vs) H2 Q (fun cls d H' => W cls d σ H')
theorem pe_methG {pl : Sem Bool} (he : PE X o ta) (c : Cls X.K C) (hm : Meth X.K C m f) (F : FnG X.prog X.w X.K X.mg X.base k f fd ps sp) (hr : RoomG k X.A) (hb : Binds X.K fd ps []) (tk : Takes X W) (ha : PA X (e :: es) t)
    (hst : starEach (e :: es) X.env = (false, eval e X.env) :: starEach es X.env) (hpl : (backTo pos (starEach es X.env)).any (·.1) = false)
    (ht : eval (.Call (.Attribute o m apos) (e :: es) [] pos) X.env = (eval o X.env >>= fun ov => standAt apos.atName >>= fun _ => holding [ov] (getMethod ov m pl) >>= fun (g, first) => callWith pos g first (backTo pos (starEach (e :: es) X.env)) (backToKw pos (keywordEach [] X.env)))) :
    PE X (.Call (.Attribute o m apos) (e :: es) [] pos) (tMethG C m sp W ta t) := by
  refine ⟨fun pins s σ H Q I h => PySem.W.methodCall_KW (pl := pl) (thn (he.run pins s σ H _ I h) fun u s1 ⟨z, H1, I1, rz, a, dx, fs, ez, ea, l, q⟩ => ?_) ht⟩
  subst ez
  obtain rfl : u = Value.ref a := rz
  exact getmeth_ok I1 ea c hm l (PySem.W.callWith_K (first := [.ref a]) (h₀ := X.base) I.ok.mod.kin hm.kp (thn (ha.run pos pins s1 σ H1 _ I1 q) fun us s2 ⟨vs, H2, I2, rv, q2⟩ => ⟨I2.kIn, run_fnG (us := .ref a :: us) (vs := .ref a :: vs) F hr hb tk I2 (.cons rfl rv) q2⟩) hst hpl)
theorem pe_methG0 {pl : Sem Bool} (he : PE X o ta) (c : Cls X.K C) (hm : Meth X.K C m f) (F : FnG X.prog X.w X.K X.mg X.base k f fd ps sp) (hr : RoomG k X.A) (hb : Binds X.K fd ps []) (tk : Takes X W)
    (ht : eval (.Call (.Attribute o m apos) [] [] pos) X.env = (eval o X.env >>= fun ov => standAt apos.atName >>= fun _ => holding [ov] (getMethod ov m pl) >>= fun (g, first) => callWith pos g first (backTo pos (starEach [] X.env)) (backToKw pos (keywordEach [] X.env)))) :
    PE X (.Call (.Attribute o m apos) [] [] pos) (tMethG C m sp W ta tNil) := by
  refine ⟨fun pins s σ H Q I h => PySem.W.methodCall_KW (pl := pl) (thn (he.run pins s σ H _ I h) fun u s1 ⟨z, H1, I1, rz, a, dx, fs, ez, ea, l, q⟩ => ?_) ht⟩
  subst ez
  obtain rfl : u = Value.ref a := rz
  exact getmeth_ok I1 ea c hm l (PySem.W.callWith_K0 (first := [.ref a]) I1.kIn hm.kp (run_fnG (us := [.ref a]) (vs := [.ref a]) F hr hb tk I1 (.cons rfl .nil) q))
/-- C(..) of an own class with an __init__ -/
theorem run_makeG {pins : List (Addr × Obj)} {σ : St} {H : Hp} {s : Shared} {Q : VK} {us : List Value} {vs : List V} (M : Mk X.K C f) (F : FnG X.prog X.w X.K X.mg X.base k f fd ps sp) (hr : RoomG (k + 1) X.A) (hb : Binds X.K fd ps []) (tk : Takes X W) (I : Inv X pins σ H s) (rv : Vals vs us)
    (h : ∀ z dz, H z = none → H dz = none → dz ≠ z → sp (.ref z :: vs) (upd (upd H dz (.own z)) z (.ins C dz [])) (fun v H2 => v = .non ∧ Q (.ref z) H2) fun cls d H' => W cls d σ H') : wpAny (model X.prog X.w) X.A (call (.ref C) us) (EP X pins σ Q) X.xe s := by
  have g := h (s.heap.objs.size + 1) s.heap.objs.size (I.hok.fresh (Nat.le_add_right _ _)) (I.hok.fresh (Nat.le_refl _)) (Nat.ne_of_lt (Nat.lt_succ_self _))
  have J := Inv.made (C := C) I
  have rr : Vals (V.ref (s.heap.objs.size + 1) :: vs) (Value.ref (s.heap.objs.size + 1) :: us) := .cons rfl rv
  have hl : ((Value.ref (s.heap.objs.size + 1) :: us) ++ []).length = ps.length := by
    rw [List.append_nil, ← rr.length]
    exact F.len _ _ _ _ g
  have bd := hb { s with heap := ((s.heap.push { cls := .type "dict", data := .dict #[] }).push (PySem.W.instObj C s.heap.objs.size)) } (Value.ref (s.heap.objs.size + 1) :: us) J.kIn hl
  rw [List.append_nil] at bd
  have rg : RoomG k (X.A.under (.builtin "type.__call__" ⟨.ref C :: us, []⟩)) := ⟨hr.r.make C us [], by simp [Around.under, pushGuards_eq, Code.guards, Code.isGuard, guardIds, hr.g]⟩
  refine wpAny_call (make_map (f := f) I.kIn M.makes M.init (beq_iff_eq.mp M.fn) (codeAny_mono (F.run _ X.stack _ _ ⟨Value.ref (s.heap.objs.size + 1) :: us, []⟩ _ _ _ _ rg (J.env0.make C us []) bd rr g) fun res s2 hres => ?_))
  match res, hres with
  | .error er, hres => exact passAt tk σ pins _ _ er s2 J hres
  | .ok (.ret u), hres =>
    obtain ⟨v, H', I3, r3, ev, q3⟩ := J.after hres
    subst ev
    exact ⟨r3, V.ref (s.heap.objs.size + 1), H', I3, rfl, q3⟩
  | .ok .next, hres => exact hres.elim
  | .ok .brk, hres => exact hres.elim
  | .ok .cont, hres => exact hres.elim
def tMakeG (C : Addr) (sp : Sp) (W : WX) (t : TA) : TE := fun σ H Q => t σ H fun vs H1 => ∀ z dz, H1 z = none → H1 dz = none → dz ≠ z →
  sp (.ref z :: vs) (upd (upd H1 dz (.own z)) z (.ins C dz [])) (fun v H2 => v = .non ∧ Q (.ref z) H2) fun cls d H' => W cls d σ H'
theorem pe_makeG (M : Mk X.K C f) (F : FnG X.prog X.w X.K X.mg X.base k f fd ps sp) (hr : RoomG (k + 1) X.A) (hg : Gl X x) (hm : X.mg x = some (.ref C)) (hb : Binds X.K fd ps []) (tk : Takes X W) (ha : PA X (e :: es) t)
    (hdb : (x == ("__debug__" : Str)) = false) (he : starEach (e :: es) X.env = (false, eval e X.env) :: starEach es X.env) (hpl : (backTo pos (starEach es X.env)).any (·.1) = false) : PE X (.Call (.Name x p) (e :: es) [] pos) (tMakeG C sp W t) :=
  ⟨fun pins s σ H Q I h => wpAny_Call_Name_kw (ld_glob I hg hm (PySem.W.callWith_K (h₀ := X.base) I.ok.mod.kin M.kp (thn (ha.run pos pins s σ H _ I h) fun us s1 ⟨vs, H1, I1, rv, q⟩ => ⟨I1.kIn, run_makeG M F hr hb tk I1 rv q⟩) he hpl) hdb)⟩
theorem pe_makeG0 (M : Mk X.K C f) (F : FnG X.prog X.w X.K X.mg X.base k f fd ps sp) (hr : RoomG (k + 1) X.A) (hg : Gl X x) (hm : X.mg x = some (.ref C)) (hb : Binds X.K fd ps []) (tk : Takes X W) (hdb : (x == ("__debug__" : Str)) = false) :
    PE X (.Call (.Name x p) [] [] pos) (tMakeG C sp W tNil) :=
  ⟨fun pins s σ H Q I h => wpAny_Call_Name_kw (ld_glob I hg hm (PySem.W.callWith_K0 I.kIn M.kp (run_makeG (us := []) M F hr hb tk I .nil h)) hdb)⟩
end
/-- a def keeps its promise if its body does -/
theorem fnG_of {P : Program} {w : World} {K : PySem.W.Frag} {mg : Str → Option Value} {base : Heap} {x qual : Str} {st : Stmt} {f : Addr} {fd : FuncData} {N ps : List Str} {k : Nat} {sp : Sp} (F : Fun K x qual st f fd) (S : FnScope N ps (defScope st))
    (len : ∀ vs H Q E, sp vs H Q E → vs.length = ps.length)
    (hbody : ∀ (cdv : Value) (A : Around) (outer : List Env) (s : Shared) (H : Hp) (vs : List V) (Q : VK) (E : XK), RoomG k (A.deeper (envOfC qual (defScope st) s.heap.objs.size f cdv)) → sp vs H Q E →
      ∃ t, PSs (cxOf (CXL P w) P w K mg base N qual (defScope st) f cdv A outer s H E) (defBody st) t ∧ t { nx := fun _ H' => Q .non H', rt := Q } (start N vs) H) : FnG P w K mg base (k + 1) f fd ps sp := by
  obtain ⟨oc, od, kV, doc, pm, an, cdv, ct, osl, rfl, lk, hcd⟩ := F.ex
  refine ⟨len, fun A outer s H args us vs Q E hr e0 hb rv hsp => ?_⟩
  have hl := len _ _ _ _ hsp
  have KX : K.In s.heap := e0.mod.kin.keeps fun b o e => (e0.bs b o e).1
  have lim : s.heap.NoLimit := e0.mod.nolimit.keeps fun b o e => (e0.bs b o e).1
  refine codeAny_call_function hr.r.depth (KX _ _ lk) rfl S.co S.gen rfl (PySem.W.codeRec_of KX hcd) (hb _ _ _ _ ?_)
  have hkd : ∀ y ∈ ps.zip us, (defScope st).names.lookup y.1 = some .local ∨ ((defScope st).names.lookup y.1 = some .cell ∧ ((cellsFrom (s.heap.objs.size + 1) (defScope st).names []).lookup y.1).isSome = true) := by
    rintro ⟨n, v⟩ hy
    exact (S.par n (List.of_mem_zip hy).1).imp id fun q => ⟨q, PySem.W.cellsFrom_some _ _ _ (.inl q)⟩
  refine wpAny_newFunctionEnv_cells S.kind hkd fun env he s1 z => ?_
  subst he
  refine ⟨lim.keeps z.toInCall.keep, codeAny_func ?_⟩
  have rg : RoomG k (A.deeper (envOfC qual (defScope st) s.heap.objs.size f cdv)) := ⟨hr.r.deeper _, hr.g⟩
  obtain ⟨t, ht, hq⟩ := hbody cdv A outer s H vs Q E rg hsp
  have J : Inv (cxOf (CXL P w) P w K mg base N qual (defScope st) f cdv A outer s H E) [] (start N vs) H s1 := inv_start S hr.r.hd e0 hl rv z
  refine wpAny_mono (ht.run [] s1 (start N vs) H _ J hq) (fun fl s2 hs => ?_) fun e s2 hs => hs
  match fl, hs with
  | .ret u, ⟨v, _, H', J2, r2, q⟩ => exact ⟨v, H', J2.os, J2.bare, J2.base, J2.hok, r2, q⟩
  | .next, ⟨_, H', J2, q⟩ => exact ⟨V.non, H', J2.os, J2.bare, J2.base, J2.hok, rfl, q⟩
  | .brk, ⟨_, _, _, q⟩ => exact False.elim q
  | .cont, ⟨_, _, _, q⟩ => exact False.elim q
end DL

set_option maxRecDepth 100000
set_option maxHeartbeats 4000000
/-! DL4: the frame's slots as values (Sim), its changes. -/
namespace DL
open PySem PySem.Spec L2

/-- where the module's defs and classes stand -/
structure Md where
  K : PySem.W.Frag
  fa : String → Option Addr
  /-- own classes -/
  ca : String → Option Addr
  /-- own exceptions -/
  xa : String → Option Addr
abbrev so (f : String) : Str := Str.ofString f

/-! ### leaves, fields, slots: w the owned addresses, as the lists within the shared data -/
inductive FlR (K : PySem.W.Frag) (H : Hp) : Fl → V → List Addr → List Addr → Prop
  | d {x : PyData} {v : V} {as : List Addr} : RepD K H v x as → FlR K H (.d x) v [] as
  | ls {xs : List PyData} {a : Addr} {vs : List V} {as : List Addr} : H a = some (.lst vs) → RepDs K H vs xs as → FlR K H (.ls xs) (.ref a) [a] as
inductive FsR (K : PySem.W.Frag) (H : Hp) : List (String × Fl) → List (Str × V) → List Addr → List Addr → Prop
  | nil : FsR K H [] [] [] []
  | cons {f : String} {l : Fl} {v : V} {w as : List Addr} {fs : List (String × Fl)} {vs : List (Str × V)} {w' as' : List Addr} : FlR K H l v w as → FsR K H fs vs w' as' → FsR K H ((f, l) :: fs) ((so f, v) :: vs) (w ++ w') (as ++ as')
/-- an own instance -/
structure ObR (M : Md) (H : Hp) (c : String) (fs : List (String × Fl)) (v : V) (w as : List Addr) : Prop where
  ex : ∃ (p C dx : Addr) (vfs : List (Str × V)) (w' : List Addr), v = .ref p ∧ M.ca c = some C ∧ H p = some (.ins C dx vfs) ∧ H dx = some (.own p) ∧ FsR M.K H fs vfs w' as ∧ w = p :: dx :: w'
inductive SlR (M : Md) (H : Hp) : Sl → Option V → List Addr → List Addr → Prop
  | no {o : Option V} : SlR M H .no o [] []
  | lk {o : Option V} : SlR M H .lk o [] []
  | lf {l : Fl} {v : V} {w as : List Addr} : FlR M.K H l v w as → SlR M H (.lf l) (some v) w as
  | fn {f : String} {a : Addr} : M.fa f = some a → SlR M H (.fn f) (some (.ref a)) [] []
  | ob {c : String} {fs : List (String × Fl)} {v : V} {w as : List Addr} : ObR M H c fs v w as → SlR M H (.ob c fs) (some v) w as
inductive Sls (M : Md) (H : Hp) : Rho → L2.St → List Addr → List Addr → Prop
  | nil : Sls M H [] [] [] []
  | cons {s : Sl} {o : Option V} {w as : List Addr} {ρ : Rho} {σ : L2.St} {W A : List Addr} : SlR M H s o w as → Sls M H ρ σ W A → Sls M H (s :: ρ) (o :: σ) (w ++ W) (as ++ A)

/-! ### they stay -/
section
variable {K : PySem.W.Frag} {M : Md} {H H' : Hp} {B : List Addr}
theorem FlR.stay (s : Stay H H' B) {l : Fl} {v : V} {w as : List Addr} (h : FlR K H l v w as) (hw : ∀ a ∈ w, a ∈ B) (ha : ∀ a ∈ as, a ∈ B) : FlR K H' l v w as := by
  cases h with
  | d r => exact .d (r.stay s ha)
  | ls e r => exact .ls (s.at_ _ (hw _ (by simp)) _ e) (r.stay s ha)
theorem FsR.stay (s : Stay H H' B) {fs : List (String × Fl)} {vs : List (Str × V)} {w as : List Addr} (h : FsR K H fs vs w as) (hw : ∀ a ∈ w, a ∈ B) (ha : ∀ a ∈ as, a ∈ B) : FsR K H' fs vs w as := by
  induction h with
  | nil => exact .nil
  | cons r _ ih => exact .cons (r.stay s (fun a q => hw a (List.mem_append_left _ q)) fun a q => ha a (List.mem_append_left _ q)) (ih (fun a q => hw a (List.mem_append_right _ q)) fun a q => ha a (List.mem_append_right _ q))
theorem ObR.stay (s : Stay H H' B) {c : String} {fs : List (String × Fl)} {v : V} {w as : List Addr} (h : ObR M H c fs v w as) (hw : ∀ a ∈ w, a ∈ B) (ha : ∀ a ∈ as, a ∈ B) : ObR M H' c fs v w as := by
  obtain ⟨p, C, dx, vfs, w', e1, e2, e3, e4, e5, rfl⟩ := h.ex
  exact ⟨p, C, dx, vfs, w', e1, e2, s.at_ _ (hw _ (by simp)) _ e3, s.at_ _ (hw _ (by simp)) _ e4, e5.stay s (fun a q => hw a (by simp [q])) ha, rfl⟩
theorem SlR.stay (s : Stay H H' B) {x : Sl} {o : Option V} {w as : List Addr} (h : SlR M H x o w as) (hw : ∀ a ∈ w, a ∈ B) (ha : ∀ a ∈ as, a ∈ B) : SlR M H' x o w as := by
  cases h with
  | no => exact .no
  | lk => exact .lk
  | lf r => exact .lf (r.stay s hw ha)
  | fn e => exact .fn e
  | ob r => exact .ob (r.stay s hw ha)
theorem Sls.stay (s : Stay H H' B) {ρ : Rho} {σ : L2.St} {W A : List Addr} (h : Sls M H ρ σ W A) (hw : ∀ a ∈ W, a ∈ B) (ha : ∀ a ∈ A, a ∈ B) : Sls M H' ρ σ W A := by
  induction h with
  | nil => exact .nil
  | cons r _ ih => exact .cons (r.stay s (fun a q => hw a (List.mem_append_left _ q)) fun a q => ha a (List.mem_append_left _ q)) (ih (fun a q => hw a (List.mem_append_right _ q)) fun a q => ha a (List.mem_append_right _ q))
theorem Sls.length {ρ : Rho} {σ : L2.St} {W A : List Addr} (h : Sls M H ρ σ W A) : ρ.length = σ.length := by
  induction h with
  | nil => rfl
  | cons _ _ ih => simp [ih]
/-- the i-th slot, and the others -/
theorem Sls.at_ {ρ : Rho} {σ : L2.St} {W A : List Addr} (h : Sls M H ρ σ W A) {i : Nat} {s : Sl} (e : ρ[i]? = some s) :
    ∃ (o : Option V) (w as W1 W2 A1 A2 : List Addr), σ[i]? = some o ∧ SlR M H s o w as ∧ W = W1 ++ (w ++ W2) ∧ A = A1 ++ (as ++ A2) ∧
      ∀ {H' : Hp} {s' : Sl} {o' : Option V} {w' as' : List Addr}, Stay H H' ((W1 ++ W2) ++ (A1 ++ A2)) → SlR M H' s' o' w' as' → Sls M H' (ρ.set i s') (σ.set i o') (W1 ++ (w' ++ W2)) (A1 ++ (as' ++ A2)) := by
  induction h generalizing i with
  | nil => simp at e
  | @cons s0 o0 w0 as0 ρ σ W A r t ih =>
    cases i with
    | zero =>
      simp at e; subst e
      refine ⟨o0, w0, as0, [], W, [], A, rfl, r, rfl, rfl, fun {H'} {s'} {o'} {w'} {as'} st r' => ?_⟩
      show Sls M H' (s' :: ρ) (o' :: σ) (w' ++ W) (as' ++ A)
      exact .cons r' (t.stay st (fun a q => by simp [q]) fun a q => by simp [q])
    | succ i =>
      obtain ⟨o, w, as, W1, W2, A1, A2, e1, r1, rfl, rfl, up⟩ := ih (i := i) (by simpa using e)
      refine ⟨o, w, as, w0 ++ W1, W2, as0 ++ A1, A2, by simpa using e1, r1, by simp, by simp, fun st r' => ?_⟩
      rw [List.append_assoc, List.append_assoc]
      exact .cons (r.stay st (fun a q => by simp [q]) fun a q => by simp [q]) (up (st.sub fun a q => by
        simp only [List.mem_append] at q ⊢
        rcases q with (q | q) | q | q <;> simp [q]) r')
end

/-! ### owned things are no tuples, nothing frozen -/
def ownO : HO → Bool
  | .tup _ => false
  | .frz _ _ => false
  | .tbl _ => false
  | _ => true
def Own (H : Hp) (a : Addr) : Prop := ∃ o, H a = some o ∧ ownO o = true
section
variable {K : PySem.W.Frag} {M : Md} {H H' : Hp}
theorem FlR.own {l : Fl} {v : V} {w as : List Addr} (h : FlR K H l v w as) : ∀ a ∈ w, Own H a := by
  cases h with
  | d r => simp
  | ls e r => intro a ha; simp at ha; subst ha; exact ⟨_, e, rfl⟩
theorem FsR.own {fs : List (String × Fl)} {vs : List (Str × V)} {w as : List Addr} (h : FsR K H fs vs w as) : ∀ a ∈ w, Own H a := by
  induction h with
  | nil => simp
  | cons r _ ih => intro a ha; rcases List.mem_append.mp ha with q | q; exact r.own a q; exact ih a q
theorem ObR.own {c : String} {fs : List (String × Fl)} {v : V} {w as : List Addr} (h : ObR M H c fs v w as) : ∀ a ∈ w, Own H a := by
  obtain ⟨p, C, dx, vfs, w', e1, e2, e3, e4, e5, rfl⟩ := h.ex
  intro a ha
  rcases List.mem_cons.mp ha with rfl | ha
  · exact ⟨_, e3, rfl⟩
  · rcases List.mem_cons.mp ha with rfl | ha
    · exact ⟨_, e4, rfl⟩
    · exact e5.own a ha
theorem SlR.own {x : Sl} {o : Option V} {w as : List Addr} (h : SlR M H x o w as) : ∀ a ∈ w, Own H a := by
  cases h with
  | no => simp
  | lk => simp
  | lf r => exact r.own
  | fn e => simp
  | ob r => exact r.own
theorem Sls.own {ρ : Rho} {σ : L2.St} {W A : List Addr} (h : Sls M H ρ σ W A) : ∀ a ∈ W, Own H a := by
  induction h with
  | nil => simp
  | cons r _ ih => intro a ha; rcases List.mem_append.mp ha with q | q; exact r.own a q; exact ih a q
def Trk (H : Hp) (as : List Addr) : Prop := ∀ a ∈ as, ∃ o, H a = some o
theorem FlR.trk {l : Fl} {v : V} {w as : List Addr} (h : FlR K H l v w as) : Trk H as := by
  cases h with
  | d r => exact r.trk
  | ls e r => exact r.trk
theorem FsR.trk {fs : List (String × Fl)} {vs : List (Str × V)} {w as : List Addr} (h : FsR K H fs vs w as) : Trk H as := by
  induction h with
  | nil => intro a ha; simp at ha
  | cons r _ ih => intro a ha; rcases List.mem_append.mp ha with q | q; exact r.trk a q; exact ih a q
theorem SlR.trk {x : Sl} {o : Option V} {w as : List Addr} (h : SlR M H x o w as) : Trk H as := by
  cases h with
  | no => intro a ha; simp at ha
  | lk => intro a ha; simp at ha
  | lf r => exact r.trk
  | fn e => intro a ha; simp at ha
  | ob r => obtain ⟨_, _, _, _, _, _, _, _, _, e5, _⟩ := r.ex; exact e5.trk
theorem Sls.trk {ρ : Rho} {σ : L2.St} {W A : List Addr} (h : Sls M H ρ σ W A) : Trk H A := by
  induction h with
  | nil => intro a ha; simp at ha
  | cons r _ ih => intro a ha; rcases List.mem_append.mp ha with q | q; exact r.trk a q; exact ih a q
end

/-! ### the state: Z what others own -/
abbrev AP_ := Addr → Prop
def orL (Z : Addr → Prop) (w : List Addr) : Addr → Prop := fun a => Z a ∨ a ∈ w
structure Sim (M : Md) (Z : Addr → Prop) (ρ : Rho) (σ : L2.St) (H : Hp) (W : List Addr) : Prop where
  sls : ∃ A, Sls M H ρ σ W A ∧ ∀ a ∈ A, a ∉ W ∧ ¬ Z a
  nd : W.Nodup
  nz : ∀ a ∈ W, ¬ Z a
/-- what others own stands -/
def ZT (Z : Addr → Prop) (H : Hp) : Prop := ∀ a, Z a → Own H a
/-- what a run may have changed: q: no instance either -/
structure Post (q : Bool) (H : Hp) (W : List Addr) (H' : Hp) (W' : List Addr) : Prop where
  keep : ∀ b o, H b = some o → b ∉ W → H' b = some o
  trk : ∀ b o, H b = some o → ∃ o', H' b = some o'
  new : ∀ b ∈ W', b ∈ W ∨ H b = none
  ins : q = true → ∀ b C dx fs, H b = some (.ins C dx fs) → H' b = some (.ins C dx fs)
section
variable {M : Md} {Z : Addr → Prop} {ρ ρ' : Rho} {σ σ' : L2.St} {H H' H1 H2 : Hp} {W W' W1 W2 : List Addr} {q : Bool}
theorem Sim.own (S : Sim M Z ρ σ H W) : ∀ a ∈ W, Own H a := let ⟨_, h, _⟩ := S.sls; h.own
theorem Sim.length (S : Sim M Z ρ σ H W) : ρ.length = σ.length := let ⟨_, h, _⟩ := S.sls; h.length
theorem Sim.weak {Z' : Addr → Prop} (S : Sim M Z ρ σ H W) (h : ∀ a, Z' a → Z a) : Sim M Z' ρ σ H W := by
  obtain ⟨A, h1, h2⟩ := S.sls
  exact ⟨⟨A, h1, fun a ha => ⟨(h2 a ha).1, fun z => (h2 a ha).2 (h a z)⟩⟩, S.nd, fun a ha z => S.nz a ha (h a z)⟩
theorem Post.refl : Post q H W H W := ⟨fun _ _ e _ => e, fun _ o e => ⟨o, e⟩, fun _ h => .inl h, fun _ _ _ _ _ e => e⟩
theorem Post.stay (p : Post q H W H' W') (ow : ∀ a ∈ W, Own H a) {A : List Addr} (hA : ∀ a ∈ A, a ∉ W) : Stay H H' A :=
  ⟨fun a xs e => p.keep a _ e fun ha => (by obtain ⟨o, e', h⟩ := ow a ha; rw [e] at e'; cases e'; cases h), fun a o u e => p.keep a _ e fun ha => (by obtain ⟨o, e', h⟩ := ow a ha; rw [e] at e'; cases e'; cases h), fun a ha o e => p.keep a o e (hA a ha)⟩
theorem Post.seq {w1 w2 : List Addr} {q2 : Bool} (a : Post q H W H1 (W1 ++ w1)) (b : Post q2 H1 W1 H2 (W2 ++ w2)) : Post (q && q2) H W H2 (W2 ++ (w1 ++ w2)) where
  keep := fun c o e hc => b.keep c o (a.keep c o e hc) fun h => by
    rcases a.new c (List.mem_append_left _ h) with z | z
    · exact hc z
    · rw [e] at z; cases z
  trk := fun c o e => let ⟨o1, e1⟩ := a.trk c o e; b.trk c o1 e1
  new := fun c hc => by
    have h2 : ∀ c ∈ W2 ++ w2, c ∈ W ∨ H c = none := fun c hc => by
      rcases b.new c hc with z | z
      · exact a.new c (List.mem_append_left _ z)
      · cases e : H c with
        | none => exact .inr rfl
        | some o => obtain ⟨o', e'⟩ := a.trk c o e; rw [z] at e'; cases e'
    simp only [List.mem_append] at hc
    rcases hc with hc | hc | hc
    · exact h2 c (List.mem_append_left _ hc)
    · exact a.new c (List.mem_append_right _ hc)
    · exact h2 c (List.mem_append_right _ hc)
  ins := fun hq c C dx fs e => by
    rw [Bool.and_eq_true] at hq
    exact b.ins hq.2 c C dx fs (a.ins hq.1 c C dx fs e)
theorem Post.sub {W3 : List Addr} (p : Post q H W H' W') (h : ∀ a ∈ W3, a ∈ W') : Post q H W H' W3 := ⟨p.keep, p.trk, fun b hb => p.new b (h b hb), p.ins⟩
theorem Post.weak (p : Post q H W H' W') : Post false H W H' W' := ⟨p.keep, p.trk, p.new, fun h => nomatch h⟩
theorem Post.z (p : Post q H W H' W') (hz : ZT Z H) (hn : ∀ a ∈ W, ¬ Z a) : ZT Z H' := fun a ha => let ⟨o, e, h⟩ := hz a ha; ⟨o, p.keep a o e fun h' => hn a h' ha, h⟩
/-- nothing new is what others own -/
theorem Post.nz (p : Post q H W H' W') (hz : ZT Z H) (hn : ∀ a ∈ W, ¬ Z a) : ∀ a ∈ W', ¬ Z a := fun a ha z => by
  rcases p.new a ha with h | h
  · exact hn a h z
  · obtain ⟨o, e, _⟩ := hz a z; rw [h] at e; cases e
end

/-! ### what an expression gave -/
inductive TokR (M : Md) (σ : L2.St) (H : Hp) : Tok → V → List Addr → List Addr → Prop
  | lf {l : Fl} {v : V} {w as : List Addr} : FlR M.K H l v w as → TokR M σ H (.lf l) v w as
  | pl {i : Nat} {v : V} : σ[i]? = some (some v) → TokR M σ H (.pl i) v [] []
  | pf {i : Nat} {f : String} {v : V} {p C dx : Addr} {vfs : List (Str × V)} : σ[i]? = some (some (.ref p)) → H p = some (.ins C dx vfs) → vfs.lookup (so f) = some v → TokR M σ H (.pf i f) v [] []
  | fn {f : String} {a : Addr} : M.fa f = some a → TokR M σ H (.fn f) (.ref a) [] []
  | ob {c : String} {fs : List (String × Fl)} {v : V} {w as : List Addr} : ObR M H c fs v w as → TokR M σ H (.ob c fs) v w as
inductive ToksR (M : Md) (σ : L2.St) (H : Hp) : List Tok → List V → List Addr → List Addr → Prop
  | nil : ToksR M σ H [] [] [] []
  | cons {t : Tok} {v : V} {w as : List Addr} {ts : List Tok} {vs : List V} {w' as' : List Addr} : TokR M σ H t v w as → ToksR M σ H ts vs w' as' → ToksR M σ H (t :: ts) (v :: vs) (w ++ w') (as ++ as')
/-- the things of an expression lie apart from all else -/
structure Clean (Z : Addr → Prop) (W w as : List Addr) : Prop where
  sup : ∀ a ∈ as, a ∉ W ∧ ¬ Z a ∧ a ∉ w
  nd : w.Nodup
  out : ∀ a ∈ w, a ∉ W ∧ ¬ Z a
section
variable {M : Md} {Z : Addr → Prop} {ρ ρ' : Rho} {σ : L2.St} {H H' : Hp} {W W' : List Addr} {q : Bool} {t : Tok} {ts : List Tok} {v : V} {vs : List V} {w as w1 as1 : List Addr}
theorem TokR.own (h : TokR M σ H t v w as) : ∀ a ∈ w, Own H a := by
  cases h with
  | lf r => exact r.own
  | pl _ => simp
  | pf _ _ _ => simp
  | fn _ => simp
  | ob r => exact r.own
theorem TokR.trk (h : TokR M σ H t v w as) : Trk H as := by
  cases h with
  | lf r => exact r.trk
  | pl _ => intro a ha; simp at ha
  | pf _ _ _ => intro a ha; simp at ha
  | fn _ => intro a ha; simp at ha
  | ob r => obtain ⟨_, _, _, _, _, _, _, _, _, e5, _⟩ := r.ex; exact e5.trk
theorem ToksR.own (h : ToksR M σ H ts vs w as) : ∀ a ∈ w, Own H a := by
  induction h with
  | nil => simp
  | cons r _ ih => intro a ha; rcases List.mem_append.mp ha with z | z; exact r.own a z; exact ih a z
theorem ToksR.trk (h : ToksR M σ H ts vs w as) : Trk H as := by
  induction h with
  | nil => intro a ha; simp at ha
  | cons r _ ih => intro a ha; rcases List.mem_append.mp ha with z | z; exact r.trk a z; exact ih a z
theorem ToksR.length (h : ToksR M σ H ts vs w as) : ts.length = vs.length := by
  induction h with
  | nil => rfl
  | cons _ _ ih => simp [ih]
theorem TokR.stay (h : TokR M σ H t v w as) (s : Stay H H' (w ++ as)) (hi : isPf t = true → ∀ b C dx fs, H b = some (.ins C dx fs) → H' b = some (.ins C dx fs)) : TokR M σ H' t v w as := by
  cases h with
  | lf r => exact .lf (r.stay s (fun a z => by simp [z]) fun a z => by simp [z])
  | pl e => exact .pl e
  | pf e1 e2 e3 => exact .pf e1 (hi rfl _ _ _ _ e2) e3
  | fn e => exact .fn e
  | ob r => exact .ob (r.stay s (fun a z => by simp [z]) fun a z => by simp [z])
theorem Clean.nil : Clean Z W [] [] := ⟨by simp, .nil, by simp⟩
/-- over a further run -/
theorem Clean.step (c : Clean Z W w as) (tr : Trk H as) (ow : ∀ a ∈ w, Own H a) (hz : ZT Z H) {W1 : List Addr} (p : Post q H W H' W1) : Clean Z W1 w as :=
  ⟨fun a ha => ⟨fun h => (p.new a h).elim (c.sup a ha).1 fun z => (by obtain ⟨xs, e⟩ := tr a ha; rw [z] at e; cases e), (c.sup a ha).2⟩, c.nd,
    fun a ha => ⟨fun h => (p.new a h).elim (c.out a ha).1 fun z => (by obtain ⟨o, e, _⟩ := ow a ha; rw [z] at e; cases e), (c.out a ha).2⟩⟩
end
end DL

set_option maxRecDepth 100000
set_option maxHeartbeats 4000000
/-! DL5: reading what an expression gave, giving it up as data, changing its place. -/
namespace DL
open PySem PySem.Spec L2

theorem map_inj' {α β : Type} {f : α → β} (inj : ∀ x y, f x = f y → x = y) : ∀ {l m : List α}, l.map f = m.map f → l = m
  | [], [], _ => rfl
  | [], _ :: _, h => by simp at h
  | _ :: _, [], h => by simp at h
  | x :: l, y :: m, h => by
    simp only [List.map_cons, List.cons.injEq] at h
    rw [inj x y h.1, map_inj' inj h.2]
theorem so_inj {a b : String} (h : so a = so b) : a = b := by
  have h1 : (Str.ofString a).cps.toList = (Str.ofString b).cps.toList := by rw [show Str.ofString a = Str.ofString b from h]
  unfold Str.ofString at h1
  have h2 : a.toList.map Char.toNat = b.toList.map Char.toNat := by
    rw [← cpsOfBytes_string, ← cpsOfBytes_string]
    simpa using h1
  exact String.toList_inj.mp (map_inj' (fun x y e => Char.toNat_inj.mp e) h2)
theorem set_same {α : Type} : ∀ {l : List α} {i : Nat} {x : α}, l[i]? = some x → l.set i x = l
  | [], _, _, h => by simp at h
  | y :: l, 0, x, h => by simp at h; subst h; rfl
  | y :: l, i + 1, x, h => by
    have e := set_same (l := l) (i := i) (x := x) (by simpa using h)
    simp [e]

section
variable {K : PySem.W.Frag} {M : Md} {H H' : Hp}
/-- a field, and the others -/
theorem FsR.at_ {fs : List (String × Fl)} {vfs : List (Str × V)} {w as : List Addr} (h : FsR K H fs vfs w as) {f : String} {l : Fl} (e : lookF fs f = some l) :
    ∃ (v : V) (w0 as0 w1 w2 a1 a2 : List Addr), vfs.lookup (so f) = some v ∧ FlR K H l v w0 as0 ∧ w = w1 ++ (w0 ++ w2) ∧ as = a1 ++ (as0 ++ a2) ∧
      ∀ {H' : Hp} {l' : Fl} {w' as' : List Addr}, Stay H H' ((w1 ++ w2) ++ (a1 ++ a2)) → FlR K H' l' v w' as' → FsR K H' (putS f l' fs) vfs (w1 ++ (w' ++ w2)) (a1 ++ (as' ++ a2)) := by
  induction h with
  | nil => cases e
  | @cons g m v w as fs vfs w' as' r t ih =>
    by_cases hg : f = g
    · subst hg
      have e' : m = l := by
        simp [lookF, List.lookup_cons] at e; exact e
      subst e'
      refine ⟨v, w, as, [], w', [], as', by simp [List.lookup_cons], r, rfl, rfl, fun {H'} {l'} {w2} {as2} st r' => ?_⟩
      show FsR K H' (putS f l' ((f, m) :: fs)) ((so f, v) :: vfs) (w2 ++ w') (as2 ++ as')
      unfold putS
      rw [if_pos rfl]
      exact .cons r' (t.stay st (fun a q => by simp [q]) fun a q => by simp [q])
    · have e' : lookF fs f = some l := by
        have hb : (f == g) = false := by simp [hg]
        simpa [lookF, List.lookup_cons, hb] using e
      obtain ⟨v0, w0, as0, w1, w2, a1, a2, q1, q2, rfl, rfl, up⟩ := ih e'
      refine ⟨v0, w0, as0, w ++ w1, w2, as ++ a1, a2, ?_, q2, by simp, by simp, fun {H'} {l'} {w3} {as3} st r' => ?_⟩
      · have hb : (so f == so g) = false := by
          cases z : so f == so g with
          | false => rfl
          | true => exact absurd (so_inj (eq_of_beq z)) hg
        rw [List.lookup_cons, hb]; exact q1
      · unfold putS
        rw [if_neg (fun z => hg z.symm), List.append_assoc, List.append_assoc]
        exact .cons (r.stay st (fun a q => by simp [q]) fun a q => by simp [q]) (up (st.sub fun a q => by
          simp only [List.mem_append] at q ⊢
          rcases q with (q | q) | q | q <;> simp [q]) r')
end

/-! ### contents, whoever owns them -/
inductive CoR (K : PySem.W.Frag) (H : Hp) : Fl → V → List Addr → Prop
  | d {x : PyData} {v : V} {as : List Addr} : RepD K H v x as → CoR K H (.d x) v as
  | ls {xs : List PyData} {a : Addr} {vs : List V} {as : List Addr} : H a = some (.lst vs) → RepDs K H vs xs as → CoR K H (.ls xs) (.ref a) as
inductive CosR (K : PySem.W.Frag) (H : Hp) : List Fl → List V → List Addr → Prop
  | nil : CosR K H [] [] []
  | cons {l : Fl} {v : V} {as : List Addr} {ls : List Fl} {vs : List V} {as' : List Addr} : CoR K H l v as → CosR K H ls vs as' → CosR K H (l :: ls) (v :: vs) (as ++ as')
theorem FlR.co {K : PySem.W.Frag} {H : Hp} {l : Fl} {v : V} {w as : List Addr} (h : FlR K H l v w as) : CoR K H l v as := by
  cases h with
  | d r => exact .d r
  | ls e r => exact .ls e r
theorem CoR.trk {K : PySem.W.Frag} {H : Hp} {l : Fl} {v : V} {as : List Addr} (h : CoR K H l v as) : Trk H as := by
  cases h with
  | d r => exact r.trk
  | ls e r => exact r.trk
theorem CosR.trk {K : PySem.W.Frag} {H : Hp} {l : List Fl} {v : List V} {as : List Addr} (h : CosR K H l v as) : Trk H as := by
  induction h with
  | nil => intro a ha; simp at ha
  | cons r _ ih => intro a ha; rcases List.mem_append.mp ha with z | z; exact r.trk a z; exact ih a z

/-- apart from what is owned -/
def Off (Z : Addr → Prop) (W as : List Addr) : Prop := ∀ a ∈ as, a ∉ W ∧ ¬ Z a
section
variable {M : Md} {Z : Addr → Prop} {ρ ρ' : Rho} {σ : L2.St} {H H' : Hp} {W W' : List Addr} {q : Bool} {t : Tok} {ts : List Tok} {v : V} {vs : List V} {w as : List Addr}
theorem Off.append {as' : List Addr} (h : Off Z W as) (h' : Off Z W as') : Off Z W (as ++ as') := fun a ha => (List.mem_append.mp ha).elim (h a) (h' a)
theorem Off.sub {as' : List Addr} (h : Off Z W as) (s : ∀ a ∈ as', a ∈ as) : Off Z W as' := fun a ha => h a (s a ha)
theorem Off.anti {W' : List Addr} (h : Off Z W as) (s : ∀ a ∈ W', a ∈ W) : Off Z W' as := fun a ha => ⟨fun z => (h a ha).1 (s a z), (h a ha).2⟩
/-- the leaf, where it lies -/
theorem rd_ok (S : Sim M Z ρ σ H W) (r : TokR M σ H t v w as) (hs : ∀ a ∈ as, a ∉ W ∧ ¬ Z a) {l : Fl} (e : rd ρ t = some l) : ∃ as', CoR M.K H l v as' ∧ Off Z W as' := by
  obtain ⟨A, sl, ap⟩ := S.sls
  cases r with
  | lf r => simp [rd] at e; subst e; exact ⟨_, r.co, hs⟩
  | @pl i _ hv =>
    unfold rd at e
    simp only at e
    split at e
    · rename_i l' e'
      cases e
      obtain ⟨o, w, as, W1, W2, A1, A2, h1, h2, rfl, rfl, _⟩ := sl.at_ e'
      rw [hv] at h1; cases h1
      cases h2 with
      | lf r => exact ⟨_, r.co, fun a ha => ap a (by simp [ha])⟩
    · cases e
  | @pf i f _ p C dx vfs hv hp hl =>
    unfold rd at e
    simp only at e
    split at e
    · rename_i c fs e'
      obtain ⟨o, w, as, W1, W2, A1, A2, h1, h2, rfl, rfl, _⟩ := sl.at_ e'
      rw [hv] at h1; cases h1
      cases h2 with
      | ob r =>
        obtain ⟨p', C', dx', vfs', w', e1, e2, e3, e4, e5, rfl⟩ := r.ex
        cases e1
        rw [hp] at e3; cases e3
        obtain ⟨v0, w0, as0, w1, w2, a1, a2, q1, q2, rfl, rfl, _⟩ := e5.at_ e
        rw [hl] at q1; cases q1
        exact ⟨_, q2.co, fun a ha => ap a (by simp [ha])⟩
    · cases e
  | fn _ => simp [rd] at e
  | ob _ => simp [rd] at e
theorem rds_ok (S : Sim M Z ρ σ H W) (r : ToksR M σ H ts vs w as) (hs : ∀ a ∈ as, a ∉ W ∧ ¬ Z a) : ∀ {ls : List Fl}, rds ρ ts = some ls → ∃ as', CosR M.K H ls vs as' ∧ Off Z W as' := by
  induction r with
  | nil => intro ls e; simp [rds] at e; subst e; exact ⟨[], .nil, by intro a ha; simp at ha⟩
  | cons h _ ih =>
    intro ls e
    unfold rds at e
    split at e
    · rename_i l ls' e1 e2
      cases e
      obtain ⟨a1, c1, o1⟩ := rd_ok S h (fun a ha => hs a (by simp [ha])) e1
      obtain ⟨a2, c2, o2⟩ := ih (fun a ha => hs a (by simp [ha])) e2
      exact ⟨_, .cons c1 c2, o1.append o2⟩
    · cases e
/-- given up as data -/
theorem toD_ok (S : Sim M Z ρ σ H W) (r : TokR M σ H t v w as) (hs : ∀ a ∈ as, a ∉ W ∧ ¬ Z a) (hw : ∀ a ∈ w, a ∉ W ∧ ¬ Z a) {x : PyData} (e : toD t ρ = some (x, ρ')) :
    ∃ W' as', Sim M Z ρ' σ H W' ∧ (∀ a ∈ W', a ∈ W) ∧ RepD M.K H v x as' ∧ Off Z W' as' ∧ (∀ a ∈ as', a ∈ w ∨ a ∈ as ∨ (a ∈ W ∨ Off Z W [a])) ∧ ρ'.length = ρ.length := by
  cases r with
  | @lf l _ _ _ r =>
    simp [toD] at e
    obtain ⟨rfl, rfl⟩ := e
    cases r with
    | d r => exact ⟨W, _, S, fun _ h => h, r, hs, fun a ha => .inr (.inl ha), rfl⟩
    | @ls xs a vs as e r =>
      refine ⟨W, _, S, fun _ h => h, .lst e r, fun b hb => ?_, fun b hb => ?_, rfl⟩
      · rcases List.mem_cons.mp hb with rfl | hb
        · exact hw _ (by simp)
        · exact hs b hb
      · rcases List.mem_cons.mp hb with rfl | hb
        · exact .inl (by simp)
        · exact .inr (.inl hb)
  | @pl i _ hv =>
    unfold toD at e
    simp only at e
    obtain ⟨A, sl, ap⟩ := S.sls
    split at e
    · rename_i x' e'
      cases e
      obtain ⟨o, w, as, W1, W2, A1, A2, h1, h2, rfl, rfl, _⟩ := sl.at_ e'
      rw [hv] at h1; cases h1
      cases h2 with
      | lf r => cases r with
        | d r => exact ⟨_, _, S, fun _ h => h, r, fun a ha => ap a (by simp [ha]), fun a ha => .inr (.inr (.inr fun b hb => by simp at hb; subst hb; exact ap b (by simp [ha]))), rfl⟩
    · rename_i xs e'
      cases e
      obtain ⟨o, w, as, W1, W2, A1, A2, h1, h2, rfl, rfl, up⟩ := sl.at_ e'
      rw [hv] at h1; cases h1
      cases h2 with
      | lf r => cases r with
        | @ls _ a vs as el r =>
          have st : Stay H H ((W1 ++ W2) ++ (A1 ++ A2)) := ⟨fun _ _ h => h, fun _ _ _ h => h, fun _ _ _ h => h⟩
          have sl' := up st (.lf (.d (.lst el r)))
          rw [set_same hv] at sl'
          have nd := S.nd
          rw [List.nodup_append] at nd
          obtain ⟨n1, n2, n3⟩ := nd
          rw [List.singleton_append, List.nodup_cons] at n2
          have aW : a ∉ W1 ++ W2 := fun h => by
            rcases List.mem_append.mp h with h | h
            · exact n3 a h a (by simp) rfl
            · exact n2.1 h
          refine ⟨W1 ++ W2, a :: as, ⟨⟨_, sl', fun b hb => ?_⟩, ?_, fun b hb => S.nz b ?_⟩, fun b hb => ?_, .lst el r, fun b hb => ?_, fun b hb => ?_, by simp⟩
          · simp only [List.mem_append, List.mem_cons] at hb
            rcases hb with hb | (rfl | hb) | hb
            · exact ⟨fun h => (ap b (by simp [hb])).1 (by simp only [List.mem_append, List.mem_singleton] at h ⊢; rcases h with h | h <;> simp [h]), (ap b (by simp [hb])).2⟩
            · exact ⟨by simpa using aW, S.nz b (by simp)⟩
            · exact ⟨fun h => (ap b (by simp [hb])).1 (by simp only [List.mem_append, List.mem_singleton] at h ⊢; rcases h with h | h <;> simp [h]), (ap b (by simp [hb])).2⟩
            · exact ⟨fun h => (ap b (by simp [hb])).1 (by simp only [List.mem_append, List.mem_singleton] at h ⊢; rcases h with h | h <;> simp [h]), (ap b (by simp [hb])).2⟩
          · rw [List.nodup_append]
            exact ⟨n1, n2.2, fun x hx y hy => n3 x hx y (by simp [hy])⟩
          · simp only [List.mem_append, List.nil_append] at hb ⊢
            rcases hb with h | h <;> simp [h]
          · simp only [List.mem_append] at hb ⊢
            rcases hb with h | h <;> simp [h]
          · rcases List.mem_cons.mp hb with rfl | hb
            · exact ⟨aW, S.nz b (by simp)⟩
            · have z := ap b (by simp [hb])
              exact ⟨fun h => z.1 (by simp only [List.mem_append, List.mem_singleton] at h ⊢; rcases h with h | h <;> simp [h]), z.2⟩
          · rcases List.mem_cons.mp hb with rfl | hb
            · exact .inr (.inr (.inl (by simp)))
            · exact .inr (.inr (.inr fun c hc => by simp at hc; subst hc; exact ap c (by simp [hb])))
    · cases e
  | @pf i f _ p C dx vfs hv hp hl =>
    unfold toD at e
    simp only at e
    obtain ⟨A, sl, ap⟩ := S.sls
    split at e
    · rename_i c fs e'
      obtain ⟨o, w, as, W1, W2, A1, A2, h1, h2, rfl, rfl, up⟩ := sl.at_ e'
      rw [hv] at h1; cases h1
      cases h2 with
      | ob r =>
        obtain ⟨p', C', dx', vfs', w', e1, e2, e3, e4, e5, rfl⟩ := r.ex
        cases e1
        rw [hp] at e3; cases e3
        split at e
        · rename_i x' ef
          cases e
          obtain ⟨v0, w0, as0, w1, w2, a1, a2, q1, q2, rfl, rfl, _⟩ := e5.at_ ef
          rw [hl] at q1; cases q1
          cases q2 with
          | d r0 => exact ⟨_, _, S, fun _ h => h, r0, fun a ha => ap a (by simp [ha]), fun a ha => .inr (.inr (.inr fun b hb => by simp at hb; subst hb; exact ap b (by simp [ha]))), rfl⟩
        · rename_i xs ef
          cases e
          obtain ⟨v0, w0, as0, w1, w2, a1, a2, q1, q2, rfl, rfl, up2⟩ := e5.at_ ef
          rw [hl] at q1; cases q1
          cases q2 with
          | @ls _ a vs as el r0 =>
            have st : ∀ B, Stay H H B := fun _ => ⟨fun _ _ h => h, fun _ _ _ h => h, fun _ _ _ h => h⟩
            have fs' := up2 (st _) (.d (.lst el r0))
            have sl' := up (st _) (.ob ⟨p, C, dx, vfs, _, rfl, e2, hp, e4, fs', rfl⟩)
            rw [set_same hv] at sl'
            have nd := S.nd
            have sub : ∀ b, b ∈ W1 ++ ((p :: dx :: (w1 ++ ([] ++ w2))) ++ W2) → b ∈ W1 ++ ((p :: dx :: (w1 ++ ([a] ++ w2))) ++ W2) ∧ b ≠ a := by
              intro b hb
              have hn : a ∉ W1 ∧ a ≠ p ∧ a ≠ dx ∧ a ∉ w1 ∧ a ∉ w2 ∧ a ∉ W2 := by
                rw [List.nodup_append] at nd
                obtain ⟨_, nd2, n3⟩ := nd
                rw [List.nodup_append] at nd2
                obtain ⟨nd2, _, n4⟩ := nd2
                rw [List.nodup_cons] at nd2
                obtain ⟨m1, nd2⟩ := nd2
                rw [List.nodup_cons] at nd2
                obtain ⟨m2, nd2⟩ := nd2
                rw [List.nodup_append] at nd2
                obtain ⟨_, nd2, n5⟩ := nd2
                rw [List.nodup_append] at nd2
                obtain ⟨_, _, n6⟩ := nd2
                exact ⟨fun h => n3 a h a (by simp) rfl, fun h => m1 (by subst h; simp), fun h => m2 (by subst h; simp), fun h => n5 a h a (by simp) rfl, fun h => n6 a (by simp) a h rfl, fun h => n4 a (by simp) a h rfl⟩
              refine ⟨?_, fun z => ?_⟩
              · simp only [List.mem_append, List.mem_cons, List.cons_append, List.nil_append] at hb ⊢
                rcases hb with h | h | h | (h | h) | h <;> simp [h]
              · subst z
                simp only [List.mem_append, List.mem_cons, List.cons_append, List.nil_append] at hb
                rcases hb with h | h | h | (h | h) | h
                · exact hn.1 h
                · exact hn.2.1 h
                · exact hn.2.2.1 h
                · exact hn.2.2.2.1 h
                · exact hn.2.2.2.2.1 h
                · exact hn.2.2.2.2.2 h
            have aW : a ∉ W1 ++ ((p :: dx :: (w1 ++ ([] ++ w2))) ++ W2) := fun h => (sub a h).2 rfl
            refine ⟨_, a :: as0, ⟨⟨_, sl', fun b hb => ?_⟩, ?_, fun b hb => S.nz b (sub b hb).1⟩, fun b hb => (sub b hb).1, .lst el r0, fun b hb => ?_, fun b hb => ?_, by simp⟩
            · simp only [List.mem_append, List.mem_cons] at hb
              have old : ∀ b, b ∈ A1 ++ ((a1 ++ (as0 ++ a2)) ++ A2) → b ∉ W1 ++ ((p :: dx :: (w1 ++ ([] ++ w2))) ++ W2) ∧ ¬ Z b := fun b hb => ⟨fun h => (ap b hb).1 (sub b h).1, (ap b hb).2⟩
              rcases hb with hb | (hb | (rfl | hb) | hb) | hb
              · exact old b (by simp [hb])
              · exact old b (by simp [hb])
              · exact ⟨aW, S.nz b (by simp)⟩
              · exact old b (by simp [hb])
              · exact old b (by simp [hb])
              · exact old b (by simp [hb])
            · refine nd.sublist ?_
              simp only [List.nil_append, List.cons_append]
              refine List.Sublist.append (List.Sublist.refl _) (.cons_cons _ (.cons_cons _ (List.Sublist.append (List.Sublist.append (List.Sublist.refl _) (.cons _ (List.Sublist.refl _))) (List.Sublist.refl _))))
            · rcases List.mem_cons.mp hb with rfl | hb
              · exact ⟨aW, S.nz b (by simp)⟩
              · exact ⟨fun h => (ap b (by simp [hb])).1 (sub b h).1, (ap b (by simp [hb])).2⟩
            · rcases List.mem_cons.mp hb with rfl | hb
              · exact .inr (.inr (.inl (by simp)))
              · exact .inr (.inr (.inr fun c hc => by simp at hc; subst hc; exact ap c (by simp [hb])))
        · cases e
    · cases e
  | fn _ => simp [toD] at e
  | ob _ => simp [toD] at e
/-- the i-th slot anew: o its value, w what it owned, Wr what the others own -/
theorem Sim.put (S : Sim M Z ρ σ H W) {i : Nat} {s : Sl} (e : ρ[i]? = some s) : ∃ (o : Option V) (w as Wr : List Addr), σ[i]? = some o ∧ SlR M H s o w as ∧ Off Z W as ∧ w.Nodup ∧ (∀ a, a ∈ W ↔ a ∈ w ∨ a ∈ Wr) ∧ (∀ a ∈ w, a ∉ Wr) ∧
    ∀ {H' : Hp} {s' : Sl} {o' : Option V} {w' as' : List Addr}, (∀ b u, H b = some u → b ∉ w → H' b = some u) → SlR M H' s' o' w' as' → w'.Nodup → (∀ a ∈ w', ¬ Z a) → (∀ a ∈ w', a ∈ w ∨ H a = none) → (∀ a ∈ as', a ∉ w' ∧ a ∉ Wr ∧ ¬ Z a) →
      ∃ W', Sim M Z (ρ.set i s') (σ.set i o') H' W' ∧ ∀ a, a ∈ W' ↔ a ∈ w' ∨ a ∈ Wr := by
  obtain ⟨A, sl, ap⟩ := S.sls
  obtain ⟨o, w, as, W1, W2, A1, A2, h1, h2, rfl, rfl, up⟩ := sl.at_ e
  have nd := S.nd
  have ow := S.own
  have n0 := nd
  rw [List.nodup_append] at n0
  obtain ⟨n1, n2, n3⟩ := n0
  rw [List.nodup_append] at n2
  obtain ⟨n2, n4, n5⟩ := n2
  refine ⟨o, w, as, W1 ++ W2, h1, h2, fun a ha => ap a (by simp [ha]), n2, fun a => by simp only [List.mem_append]; exact ⟨fun h => by rcases h with h | h | h <;> simp [h], fun h => by rcases h with h | h | h <;> simp [h]⟩, fun a ha hb => ?_, fun {H'} {s'} {o'} {w'} {as'} keep r' nd' nz' new off => ?_⟩
  · rcases List.mem_append.mp hb with h | h
    · exact n3 a h a (by simp [ha]) rfl
    · exact n5 a ha a h rfl
  · have wown : ∀ a ∈ w, Own H a := fun a ha => ow a (by simp [ha])
    have st : Stay H H' ((W1 ++ W2) ++ (A1 ++ A2)) := ⟨fun a xs q => keep a _ q fun h => (by obtain ⟨u, e1, e2⟩ := wown a h; rw [q] at e1; cases e1; cases e2), fun a ob u q => keep a _ q fun h => (by obtain ⟨u', e1, e2⟩ := wown a h; rw [q] at e1; cases e1; cases e2), fun a ha u q => keep a u q fun h => by
        simp only [List.mem_append] at ha
        rcases ha with (ha | ha) | ha | ha
        · exact n3 a ha a (by simp [h]) rfl
        · exact n5 a h a ha rfl
        · exact (ap a (by simp [ha])).1 (by simp [h])
        · exact (ap a (by simp [ha])).1 (by simp [h])⟩
    have sl' := up st r'
    have notnew : ∀ a, (a ∈ W1 ∨ a ∈ W2 ∨ a ∈ A1 ∨ a ∈ A2) → H a ≠ none := fun a ha z => by
      rcases ha with ha | ha | ha | ha
      · obtain ⟨u, e1, _⟩ := ow a (by simp [ha]); rw [z] at e1; cases e1
      · obtain ⟨u, e1, _⟩ := ow a (by simp [ha]); rw [z] at e1; cases e1
      · obtain ⟨u, e1⟩ := sl.trk a (by simp [ha]); rw [z] at e1; cases e1
      · obtain ⟨u, e1⟩ := sl.trk a (by simp [ha]); rw [z] at e1; cases e1
    have w'1 : ∀ a ∈ w', a ∉ W1 := fun a ha h => (new a ha).elim (fun z => n3 a h a (by simp [z]) rfl) (notnew a (.inl h))
    have w'2 : ∀ a ∈ w', a ∉ W2 := fun a ha h => (new a ha).elim (fun z => n5 a z a h rfl) (notnew a (.inr (.inl h)))
    have oldA : ∀ a, (a ∈ A1 ∨ a ∈ A2) → a ∉ W1 ++ (w' ++ W2) ∧ ¬ Z a := fun a ha => by
      have z := ap a (by rcases ha with h | h <;> simp [h])
      refine ⟨fun h => ?_, z.2⟩
      simp only [List.mem_append] at h
      rcases h with h | h | h
      · exact z.1 (by simp [h])
      · rcases new a h with q | q
        · exact z.1 (by simp [q])
        · exact notnew a (by rcases ha with h | h <;> simp [h]) q
      · exact z.1 (by simp [h])
    refine ⟨W1 ++ (w' ++ W2), ⟨⟨_, sl', fun a ha => ?_⟩, ?_, fun a ha => ?_⟩, fun a => ?_⟩
    · simp only [List.mem_append] at ha
      rcases ha with ha | ha | ha
      · exact oldA a (.inl ha)
      · have z := off a ha
        refine ⟨fun h => ?_, z.2.2⟩
        simp only [List.mem_append] at h
        rcases h with h | h | h
        · exact z.2.1 (by simp [h])
        · exact z.1 h
        · exact z.2.1 (by simp [h])
      · exact oldA a (.inr ha)
    · rw [List.nodup_append, List.nodup_append]
      refine ⟨n1, ⟨nd', n4, fun a ha b hb e => w'2 a ha (e ▸ hb)⟩, fun a ha b hb e => ?_⟩
      subst e
      rcases List.mem_append.mp hb with h | h
      · exact w'1 a h ha
      · exact n3 a ha a (by simp [h]) rfl
    · simp only [List.mem_append] at ha
      rcases ha with ha | ha | ha
      · exact S.nz a (by simp [ha])
      · exact nz' a ha
      · exact S.nz a (by simp [ha])
    · simp only [List.mem_append]
      exact ⟨fun h => by rcases h with h | h | h <;> simp [h], fun h => by rcases h with h | h | h <;> simp [h]⟩
theorem Post.updL {l : Addr} {vs vs' : List V} (hl : H l = some (.lst vs)) (hw : l ∈ W) {W' : List Addr} (h : ∀ a ∈ W', a ∈ W) : Post q H W (upd H l (.lst vs')) W' where
  keep := fun b o e hb => by rw [upd_ne (fun z => hb (by rw [z]; exact hw))]; exact e
  trk := fun b o e => by
    by_cases hb : b = l
    · subst hb; exact ⟨_, upd_same⟩
    · exact ⟨o, by rw [upd_ne hb]; exact e⟩
  new := fun b hb => .inl (h b hb)
  ins := fun _ b C dx fs e => by
    rw [upd_ne (fun z => by subst z; rw [hl] at e; cases e)]
    exact e
/-- another list in the place -/
theorem putP_ok (S : Sim M Z ρ σ H W) (r : TokR M σ H t v w as) {xs ys : List PyData} (e : rd ρ t = some (.ls xs)) (ep : putP ρ (.ls ys) t = some ρ') :
    ∃ (l : Addr) (vs : List V) (as0 : List Addr), v = .ref l ∧ l ∈ W ∧ H l = some (.lst vs) ∧ RepDs M.K H vs xs as0 ∧ Off Z W as0 ∧
      ∀ {vs' : List V} {as' : List Addr}, RepDs M.K H vs' ys as' → Off Z W as' → ∃ W', Sim M Z ρ' σ (upd H l (.lst vs')) W' ∧ Post q H W (upd H l (.lst vs')) W' := by
  cases r with
  | lf r => simp [putP] at ep
  | @pl i _ hv =>
    unfold putP at ep
    simp only at ep
    split at ep
    · rename_i xs' e'
      cases ep
      unfold rd at e
      simp only at e
      rw [e'] at e
      cases e
      obtain ⟨o, w0, as0, Wr, h1, h2, hoff, hnd, hW, hdis, up⟩ := S.put e'
      rw [hv] at h1; cases h1
      cases h2 with
      | lf r => cases r with
        | @ls _ a vs as0 el r0 =>
          refine ⟨a, vs, as0, rfl, (hW a).mpr (.inl (by simp)), el, r0, hoff, fun {vs'} {as'} r' off' => ?_⟩
          have aW : a ∈ W := (hW a).mpr (.inl (by simp))
          have st : Stay H (upd H a (.lst vs')) as' := ⟨fun b z q => by rw [upd_ne (ne_of q el (by intro z; cases z))]; exact q, fun b o z q => by rw [upd_ne (ne_of q el (by intro z; cases z))]; exact q, fun b hb o q => by rw [upd_ne (fun z => (off' b hb).1 (by rw [z]; exact aW))]; exact q⟩
          obtain ⟨W', S', hW'⟩ := up (H' := upd H a (.lst vs')) (s' := .lf (.ls ys)) (o' := some (.ref a)) (fun b u q hb => by rw [upd_ne (fun z => hb (by simp [z]))]; exact q) (.lf (.ls upd_same (r'.stay st fun _ h => h))) (by simp) (fun b hb => by simp at hb; subst hb; exact S.nz _ aW) (fun b hb => .inl hb)
            fun b hb => ⟨fun z => (off' b hb).1 (by simp at z; rw [z]; exact aW), fun z => (off' b hb).1 ((hW b).mpr (.inr z)), (off' b hb).2⟩
          rw [set_same hv] at S'
          exact ⟨W', S', Post.updL el aW fun b hb => (hW b).mpr ((hW' b).mp hb)⟩
    · cases ep
  | @pf i f _ p C dx vfs hv hp hl =>
    unfold putP at ep
    simp only at ep
    split at ep
    · rename_i c fs e'
      split at ep
      · rename_i xs' ef
        cases ep
        unfold rd at e
        simp only at e
        rw [e'] at e
        simp only at e
        rw [ef] at e
        cases e
        obtain ⟨o, w0, as0, Wr, h1, h2, hoff, hnd, hW, hdis, up⟩ := S.put e'
        rw [hv] at h1; cases h1
        cases h2 with
        | ob r =>
          obtain ⟨p', C', dx', vfs', w', e1, e2, e3, e4, e5, rfl⟩ := r.ex
          cases e1
          rw [hp] at e3; cases e3
          obtain ⟨v0, wf, asf, w1, w2, a1, a2, q1, q2, rfl, rfl, up2⟩ := e5.at_ ef
          rw [hl] at q1; cases q1
          cases q2 with
          | @ls _ a vs asf el r0 =>
            have aw : a ∈ p :: dx :: (w1 ++ ([a] ++ w2)) := by simp
            have aW : a ∈ W := (hW a).mpr (.inl aw)
            refine ⟨a, vs, asf, rfl, aW, el, r0, fun b hb => hoff b (by simp [hb]), fun {vs'} {as'} r' off' => ?_⟩
            have npa : p ≠ a := ne_of hp el (by intro z; cases z)
            have nda : dx ≠ a := ne_of e4 el (by intro z; cases z)
            have st : Stay H (upd H a (.lst vs')) as' := ⟨fun b z q => by rw [upd_ne (ne_of q el (by intro z; cases z))]; exact q, fun b o z q => by rw [upd_ne (ne_of q el (by intro z; cases z))]; exact q, fun b hb o q => by rw [upd_ne (fun z => (off' b hb).1 (by rw [z]; exact aW))]; exact q⟩
            have nd0 := hnd
            rw [List.nodup_cons] at nd0
            have nd1 := nd0.2
            rw [List.nodup_cons, List.nodup_append, List.nodup_append] at nd1
            obtain ⟨_, _, ⟨_, _, n6⟩, n5⟩ := nd1
            have st2 : Stay H (upd H a (.lst vs')) ((w1 ++ w2) ++ (a1 ++ a2)) := ⟨st.tup, st.frz, fun b hb o q => by
              rw [upd_ne]
              · exact q
              · rintro rfl
                simp only [List.mem_append] at hb
                rcases hb with (hb | hb) | hb | hb
                · exact n5 b hb b (by simp) rfl
                · exact n6 b (by simp) b hb rfl
                · exact (hoff b (by simp [hb])).1 aW
                · exact (hoff b (by simp [hb])).1 aW⟩
            have fs' := up2 st2 (.ls (xs := ys) upd_same (r'.stay st fun _ h => h))
            obtain ⟨W', S', hW'⟩ := up (H' := upd H a (.lst vs')) (s' := .ob c (putS f (.ls ys) fs)) (o' := some (.ref p)) (fun b u q hb => by rw [upd_ne (fun z => hb (by rw [z]; exact aw))]; exact q)
              (.ob ⟨p, C, dx, vfs, _, rfl, e2, by rw [upd_ne npa]; exact hp, by rw [upd_ne nda]; exact e4, fs', rfl⟩) hnd (fun b hb => S.nz _ ((hW b).mpr (.inl hb))) (fun b hb => .inl hb)
              fun b hb => by
                simp only [List.mem_append] at hb
                have old : b ∈ a1 ++ (asf ++ a2) → b ∉ p :: dx :: (w1 ++ ([a] ++ w2)) ∧ b ∉ Wr ∧ ¬ Z b := fun h => ⟨fun z => (hoff b h).1 ((hW b).mpr (.inl z)), fun z => (hoff b h).1 ((hW b).mpr (.inr z)), (hoff b h).2⟩
                rcases hb with hb | hb | hb
                · exact old (by simp [hb])
                · exact ⟨fun z => (off' b hb).1 ((hW b).mpr (.inl z)), fun z => (off' b hb).1 ((hW b).mpr (.inr z)), (off' b hb).2⟩
                · exact old (by simp [hb])
            rw [set_same hv] at S'
            exact ⟨W', S', Post.updL el aW fun b hb => (hW b).mpr ((hW' b).mp hb)⟩
      · cases ep
    · cases ep
  | fn _ => simp [putP] at ep
  | ob _ => simp [putP] at ep
end
end DL

set_option maxRecDepth 100000
set_option maxHeartbeats 4000000
/-! DLX0: what the module says of its own exceptions. -/
namespace DL
open PySem PySem.Spec L2 PyProof.Rows NdefX PySem.W

/-- what the written part says of a class C and of its __init__ at f (parameters self and fl) -/
structure XTxt (prog : Program) (K : PySem.W.Frag) (mg : Str → Option Value) (C f : Addr) (qual : Str) (fl : List Str) (body : List Stmt) (F : NF) (fd : FuncData) : Prop where
  T : OexC K C
  iC : PySem.W.findIn K (.ref C) "__init__" = some (some (.ref f))
  tI : PySem.W.typeIn K (.ref f) = some (.type "function")
  no : ∀ g ∈ fl, PySem.W.findIn K (.ref C) g = some none
  fn : ∃ (oc : Value) (od : Option Addr) (osl : Array (Option Value)), K.lookup f = some ⟨oc, od, .func fd, osl⟩
  fds : ∃ (dV kV doc pm ct : Value) (an : Option Addr), fd = PySem.W.fnX F.name F.qual F.params F.body F.scope F.cl dV kV doc pm an (.ref F.c) ct
  bd : F.body = body
  code : PySem.W.codeIn K (.ref F.c) F.qual = true
  codeO : ∃ (ccl : Value) (cdd : Option Addr) (vs : Array Value) (ccs : Array (Option Value)) (file : Str) (tf : PySem.Tok), K.lookup F.c = some ⟨ccl, cdd, .fields vs, ccs⟩ ∧ vs[2]? = some (.str file tf) ∧ ((prog.main.file : Str) == file) = true
  hd : ∃ ar, (F.params.posonlyargs ++ F.params.args).head? = some ar ∧ ar.arg = "self"
  cl : ∃ cc, F.cl = [(("__class__" : Str), cc)] ∧ ∃ (cl : Value) (cld : Option Addr) (csl : Array (Option Value)), K.lookup cc = some ⟨cl, cld, .cell (some (.ref C)), csl⟩
  sc : NScope (("self" : Str) :: fl ++ [("__class__" : Str)]) (("self" : Str) :: fl) [("__class__" : Str)] F.scope
  gs : F.scope.names.lookup ("super" : Str) = some .globalImplicit
  su : PySem.W.ks_superIn K C C "__init__" = some (some (.builtin "ValueError.__init__"))
  op : PySem.W.nsIn K cStatics "thirdparty.any" = some none
  ve : PySem.W.subIn K (.ref C) (.type "ValueError") = some true
  mr : PySem.W.mroIn K C (.ref C) = some true
  mg : mg "super" = none
  top : (prog.main.scope.names.lookup ("super" : Str)).isSome = false
  bind : Binds K fd (("self" : Str) :: fl) []

/-- the text of such an __init__ -/
def ckInit (fl : List Str) (body : List Stmt) : Bool := match fl, body with
  | [x], [.Expr (.Call (.Attribute (.Call (.Name su p0) [] [] p1) ini ap) [.Name x1 p2] [] pos) pos2, .Assign [.Attribute (.Name se p3) g p4] (.Name x2 p5) pos3] =>
    decide (su = "super") && (ap.endLine == pos.line) && decide (ini = "__init__") && decide (x1 = x) && decide (se = "self") && decide (g = x) && decide (x2 = x) && !(x == ("__debug__" : Str)) && !(x == ("__classdict__" : Str))
  | [x, y], [.Expr (.Call (.Attribute (.Call (.Name su p0) [] [] p1) ini ap) [.Name x1 p2, .Name y1 q2] [] pos) pos2, .Assign [.Attribute (.Name se p3) g p4] (.Name x2 p5) pos3, .Assign [.Attribute (.Name se2 q3) g2 q4] (.Name y2 q5) pos4] =>
    decide (su = "super") && (ap.endLine == pos.line) && decide (ini = "__init__") && decide (x1 = x) && decide (y1 = y) && decide (se = "self") && decide (g = x) && decide (x2 = x) && decide (se2 = "self") && decide (g2 = y) && decide (y2 = y) && !(x == ("__debug__" : Str)) && !(x == ("__classdict__" : Str)) && !(y == ("__debug__" : Str)) && !(y == ("__classdict__" : Str))
  | _, _ => false
/-- an own exception with the fields fs (in the order of its parameters) -/
structure XcOk (prog : Program) (K : PySem.W.Frag) (mg : Str → Option Value) (M : Md) (c : String) (fs : List String) : Prop where
  ex : ∃ C, M.xa c = some C ∧ mg (so c) = some (.ref C) ∧ OexC K C ∧ PySem.W.findIn K (.ref C) "__getattribute__" = some (some (.builtin "BaseException.__getattribute__")) ∧ PySem.W.findIn K (.ref C) "__getattr__" = some none ∧ PySem.W.hasDictIn K C = true ∧
    (∀ g ∈ fs, PySem.W.findIn K (.ref C) (so g) = some none) ∧ (fs ≠ [] → ∃ (f : Addr) (qual : Str) (body : List Stmt) (F : NF) (fd : FuncData), XTxt prog K mg C f qual (fs.map so) body F fd ∧ ckInit (fs.map so) body = true) ∧
    (fs = [] → ∃ bm newId initId B, ExcBaseFacts B newId initId bm ∧ PySem.W.excIn K C bm newId = true)
/-- which class a clause takes -/
def XiOk (K : PySem.W.Frag) (M : Md) (P : Pg) : Prop := ∀ c c' fs' C C', M.xa c = some C → P.exc c' = some fs' → M.xa c' = some C' → PySem.W.exmOne K (.ref C) (.ref C') = some (P.isa c c')
end DL

set_option maxRecDepth 100000
set_option maxHeartbeats 4000000
/-! DL6: what it means that the interpreter is right about an expression; sequences of operands; pure operations. -/
namespace DL
open PySem PySem.Spec L2

/-! ### the strongest readings -/
def WE (X : Cx) (e : Expr) : TE := fun σ H Q => ∀ pins s, Inv X pins σ H s → wpAny (model X.prog X.w) X.A (eval e X.env) (EP X pins σ Q) X.xe s
def WT (X : Cx) (e : Expr) : TT := fun σ H Q => ∀ pins s, Inv X pins σ H s → wpAny (model X.prog X.w) X.A (isTrue e X.env (eval e X.env)) (TP X pins σ Q) X.xe s
def WS (X : Cx) (st : Stmt) : TS := fun D σ H => ∀ pins s, Inv X pins σ H s → wpAny (model X.prog X.w) X.A (exec st X.env) (SP X pins D) X.xe s
def WSs (X : Cx) (st : List Stmt) : TS := fun D σ H => ∀ pins s, Inv X pins σ H s → wpAny (model X.prog X.w) X.A (execs st X.env) (SP X pins D) X.xe s
section
variable {X : Cx} {e : Expr} {es : List Expr}
theorem pe_we : PE X e (WE X e) := ⟨fun pins s σ H Q I h => h pins s I⟩
theorem pt_wt : PT X e (WT X e) := ⟨fun pins s σ H Q I h => h pins s I⟩
theorem ps_ws {st : Stmt} : PS X st (WS X st) := ⟨fun pins s σ H Q I h => h pins s I⟩
theorem pss_ws {st : List Stmt} : PSs X st (WSs X st) := ⟨fun pins s σ H Q I h => h pins s I⟩
theorem we_of {t : TE} (h : PE X e t) {σ : L2.St} {H : Hp} {Q : VK} (q : t σ H Q) : WE X e σ H Q := fun pins s I => h.run pins s σ H Q I q
theorem wt_of {t : TT} (h : PT X e t) {σ : L2.St} {H : Hp} {Q : Bool → Hp → Prop} (q : t σ H Q) : WT X e σ H Q := fun pins s I => h.run pins s σ H Q I q
theorem ws_of {st : Stmt} {t : TS} (h : PS X st t) {D : Ends} {σ : L2.St} {H : Hp} (q : t D σ H) : WS X st D σ H := fun pins s I => h.run pins s σ H D I q
theorem wss_of {st : List Stmt} {t : TS} (h : PSs X st t) {D : Ends} {σ : L2.St} {H : Hp} (q : t D σ H) : WSs X st D σ H := fun pins s I => h.run pins s σ H D I q
theorem WE.mono {σ : L2.St} {H : Hp} {Q Q' : VK} (h : WE X e σ H Q) (m : ∀ v H', Q v H' → Q' v H') : WE X e σ H Q' := fun pins s I => thn (h pins s I) fun _ _ ⟨v, H', J, r, q⟩ => ⟨v, H', J, r, m v H' q⟩
/-- operands from the left -/
def WAs (X : Cx) : List Expr → TA
  | [] => tNil
  | e :: es => tCons (WE X e) (WAs X es)
def notStar : Expr → Bool
  | .Starred _ _ => false
  | _ => true
theorem star_each {env : Env} (h : notStar e = true) : starEach (e :: es) env = (false, eval e env) :: starEach es env := by
  cases e <;> first | rfl | simp [notStar] at h
theorem star_any {env : Env} {pos : Pos} : ∀ {es : List Expr}, es.all notStar = true → (backTo pos (starEach es env)).any (·.1) = false
  | [], _ => rfl
  | e :: es, h => by
    simp only [List.all_cons, Bool.and_eq_true] at h
    have ih := star_any (env := env) (pos := pos) h.2
    rw [star_each h.1]
    simpa [backTo] using ih
theorem pa_was : ∀ {es : List Expr}, es.all notStar = true → PA X es (WAs X es)
  | [], _ => pa_nil
  | e :: es, h => by
    simp only [List.all_cons, Bool.and_eq_true] at h
    exact pa_cons pe_we (pa_was h.2) (star_each h.1)
end

/-! ### the module's facts, a place in the text -/
structure Cst where
  N : List Str
  sc : Scope
  P : Pg
  M : Md
  /-- built-ins' names that the module leaves alone -/
  bl : List Str
  /-- fields that are read or stored -/
  fls : List String
/-- what a run of a def gives, as a promise -/
inductive BackR (M : Md) (H : Hp) : List Tok → List Sl → List V → List Addr → List Addr → Prop
  | nil {ss : List Sl} : BackR M H [] ss [] [] []
  | pl {i : Nat} {ts : List Tok} {s : Sl} {ss : List Sl} {v : V} {vs : List V} {w as W A : List Addr} : SlR M H s (some v) w as → BackR M H ts ss vs W A → BackR M H (.pl i :: ts) (s :: ss) (v :: vs) (w ++ W) (as ++ A)
  | other {t : Tok} {ts : List Tok} {s : Sl} {ss : List Sl} {v : V} {vs : List V} {W A : List Addr} : (∀ i, t ≠ .pl i) → BackR M H ts ss vs W A → BackR M H (t :: ts) (s :: ss) (v :: vs) W A
/-- an exception with its fields -/
inductive XfR (K : PySem.W.Frag) (H : Hp) : List (String × PyData) → List (Str × V) → List Addr → Prop
  | nil : XfR K H [] [] []
  | cons {f : String} {x : PyData} {v : V} {as : List Addr} {fs : List (String × PyData)} {vs : List (Str × V)} {as' : List Addr} : RepD K H v x as → XfR K H fs vs as' → XfR K H ((f, x) :: fs) ((so f, v) :: vs) (as ++ as')
structure ErR (M : Md) (Z : Addr → Prop) (W : List Addr) (H : Hp) (e : Er) (cls : Value) (d : Option Addr) : Prop where
  ex : ∃ C, M.xa e.c = some C ∧ cls = .ref C ∧ ((e.fs = [] ∧ d = none) ∨ ∃ dx vfs as, d = some dx ∧ H dx = some (.xd vfs) ∧ XfR M.K H e.fs vfs as ∧ Off Z W as)
def spF (M : Md) (P : Pg) (n : Nat) (D : FDef) : Sp := fun vs H Q E => ∃ (ts : List Tok) (as : List Sl) (Wa Aa : List Addr) (Z : Addr → Prop), ts.length = D.ps ∧ D.ps ≤ D.nl ∧ Sls M H as (vs.map some) Wa Aa ∧ as.length = D.ps ∧ Wa.Nodup ∧ (∀ a ∈ Aa, a ∉ Wa ∧ ¬ Z a) ∧ (∀ a ∈ Wa, ¬ Z a) ∧ ZT Z H ∧
  match evB P n (pinOf 0 ts) D.body (as ++ List.replicate (D.nl - D.ps) .no) with
  | .ok fl ρc => ∃ t, flT fl = some t ∧ (backS ts ρc []).isSome = true ∧ ∀ v H' Wo Ao w at_, Post false H Wa H' (Wo ++ w) → BackR M H' ts ρc vs Wo Ao → Wo.Nodup → (∀ a ∈ Ao, a ∉ Wo ∧ ¬ Z a ∧ a ∉ w) → TokR M [] H' t v w at_ → Clean Z Wo w at_ → Q v H'
  | .ex e ρc => (backS ts ρc []).isSome = true ∧ ∀ cls d H' Wo Ao, Post false H Wa H' Wo → BackR M H' ts ρc vs Wo Ao → Wo.Nodup → (∀ a ∈ Ao, a ∉ Wo ∧ ¬ Z a) → ErR M Z Wo H' e cls d → E cls d H'
  | .no => False
/-- every def keeps its promise at fuel n -/
def FOk (M : Md) (P : Pg) (X : Cx) (n : Nat) : Prop := ∀ f D, P.fn f = some D → ∃ a fd ps, M.fa f = some a ∧ ps.length = D.ps ∧ FnG X.prog X.w X.K X.mg X.base (2 * n + 1) a fd ps (spF M P n D) ∧ PySem.W.keepIn X.K (.ref a) = true ∧ Binds X.K fd ps []
/-- no method -/
def isPlain (f : String) : Bool := !(f.toList.contains '.')
structure ModOk (C : Cst) (X : Cx) : Prop where
  K : X.K = C.M.K
  blt : ∀ x ∈ C.bl, X.mg x = none
  gl : ∀ x d, C.P.gl x = some d → ∃ v u, X.mg (so x) = some u ∧ RelV v u ∧ ∀ H, RepD C.M.K H v d []
  fa : ∀ f a D, C.P.fn f = some D → C.M.fa f = some a → isPlain f = true → X.mg (so f) = some (.ref a)
  ca : ∀ c b, C.P.cls c = some b → ∃ A, C.M.ca c = some A ∧ X.mg (so c) = some (.ref A) ∧ Cls X.K A ∧ (∀ f D a m, f = c ++ "." ++ m → C.P.fn f = some D → C.M.fa f = some a → Meth X.K A (so m) a) ∧ (∀ D a, b = true → C.P.fn (c ++ ".__init__") = some D → C.M.fa (c ++ ".__init__") = some a → Mk X.K A a)
  na : ∀ f ∈ C.fls, ∀ c A, C.M.ca c = some A → Cls X.K A ∧ NoAttr X.K A (so f)
  cn : ∀ c A, C.P.cls c = none → C.M.ca c = some A → False
  xc : ∀ c fs, C.P.exc c = some fs → XcOk X.prog X.K X.mg C.M c fs
  xi : XiOk X.K C.M C.P
structure Okx (C : Cst) (n : Nat) (W : WX) (X : Cx) : Prop where
  N : X.N = C.N
  nd : X.N.Nodup
  kind : X.env.scope.kind = .function
  loc : ∀ x, C.sc.names.lookup x = some .local → X.env.scope.names.lookup x = some .local
  cell : ∀ x, C.sc.names.lookup x = some .cell → X.env.scope.names.lookup x = some .cell
  free : ∀ x, C.sc.names.lookup x = some .free → X.env.scope.names.lookup x = some .free ∨ X.env.scope.names.lookup x = some .cell
  glo : ∀ x, C.sc.names.lookup x = some .globalImplicit → X.env.kindOf x = some .globalImplicit
  fn : ∀ x, C.sc.names.lookup x = some .cell → X.fn x = true
  calm : X.calm = true
  room : RoomG (2 * n) X.A
  tk : Takes X W
  po : PassesOwn (model X.prog X.w) X.A X.env X.xe
  md : ModOk C X
theorem Okx.less {C : Cst} {n m : Nat} {W : WX} {X : Cx} (o : Okx C n W X) (h : m ≤ n) : Okx C m W X := { o with room := o.room.mono (by omega) }

/-! ### what an expression gives, by the interpreter -/
structure Got (M : Md) (Z : Addr → Prop) (q : Bool) (H0 : Hp) (W0 : List Addr) (t : Tok) (ρ : Rho) (σ : L2.St) (v : V) (H : Hp) : Prop where
  ex : ∃ W w as, Post q H0 W0 H (W ++ w) ∧ Sim M (orL Z w) ρ σ H W ∧ TokR M σ H t v w as ∧ Clean Z W w as
structure Gots (M : Md) (Z : Addr → Prop) (q : Bool) (H0 : Hp) (W0 : List Addr) (ts : List Tok) (ρ : Rho) (σ : L2.St) (vs : List V) (H : Hp) : Prop where
  ex : ∃ W w as, Post q H0 W0 H (W ++ w) ∧ Sim M (orL Z w) ρ σ H W ∧ ToksR M σ H ts vs w as ∧ Clean Z W w as
/-- an exception that leaves -/
def ExOk (M : Md) (Wx : WX) (Z : Addr → Prop) (σ : L2.St) (H0 : Hp) (W0 : List Addr) (e : Er) (ρ : Rho) : Prop := ∀ cls d H W, ErR M Z W H e cls d → Post false H0 W0 H W → Sim M Z ρ σ H W → Wx cls d σ H
def Res (M : Md) (Wx : WX) (Z : Addr → Prop) (q : Bool) (σ : L2.St) (H0 : Hp) (W0 : List Addr) (out : Out Tok) (Q : VK) : Prop := match out with
  | .ok t ρ => ∀ v H, Got M Z q H0 W0 t ρ σ v H → Q v H
  | .ex e ρ => ExOk M Wx Z σ H0 W0 e ρ
  | .no => False
def ResL (M : Md) (Wx : WX) (Z : Addr → Prop) (q : Bool) (σ : L2.St) (H0 : Hp) (W0 : List Addr) (out : Out (List Tok)) (Q : List V → Hp → Prop) : Prop := match out with
  | .ok ts ρ => ∀ vs H, Gots M Z q H0 W0 ts ρ σ vs H → Q vs H
  | .ex e ρ => ExOk M Wx Z σ H0 W0 e ρ
  | .no => False
def ResT (M : Md) (Wx : WX) (Z : Addr → Prop) (q : Bool) (σ : L2.St) (H0 : Hp) (W0 : List Addr) (out : Out Bool) (Q : Bool → Hp → Prop) : Prop := match out with
  | .ok b ρ => ∀ H W, Post q H0 W0 H W → Sim M Z ρ σ H W → Q b H
  | .ex e ρ => ExOk M Wx Z σ H0 W0 e ρ
  | .no => False
def GoodE (C : Cst) (Wx : WX) (X : Cx) (e : Expr) (q : Bool) (m : Rho → Out Tok) : Prop := ∀ (Z : Addr → Prop) (ρ : Rho) (σ : L2.St) (H : Hp) (W : List Addr) (Q : VK), Sim C.M Z ρ σ H W → ZT Z H → Res C.M Wx Z q σ H W (m ρ) Q → WE X e σ H Q
def GoodT (C : Cst) (Wx : WX) (X : Cx) (e : Expr) (q : Bool) (m : Rho → Out Bool) : Prop := ∀ (Z : Addr → Prop) (ρ : Rho) (σ : L2.St) (H : Hp) (W : List Addr) (Q : Bool → Hp → Prop), Sim C.M Z ρ σ H W → ZT Z H → ResT C.M Wx Z q σ H W (m ρ) Q → WT X e σ H Q
def GoodL (C : Cst) (Wx : WX) (X : Cx) (es : List Expr) (q : Bool) (m : Rho → Out (List Tok)) : Prop := ∀ (Z : Addr → Prop) (ρ : Rho) (σ : L2.St) (H : Hp) (W : List Addr) (Q : List V → Hp → Prop), Sim C.M Z ρ σ H W → ZT Z H → ResL C.M Wx Z q σ H W (m ρ) Q → WAs X es σ H Q
section
variable {M : Md} {Wx : WX} {Z : Addr → Prop} {q q2 : Bool} {σ : L2.St} {H0 H1 : Hp} {W0 W1 w1 : List Addr}
theorem ZT.orL (hz : ZT Z H1) {w : List Addr} (ho : ∀ a ∈ w, Own H1 a) : ZT (orL Z w) H1 := fun a h => h.elim (hz a) (ho a)
/-- an exception behind a first run -/
theorem ExOk.behind {Z' : Addr → Prop} (h : ExOk M Wx Z σ H0 W0 e ρ) (p : Post q H0 W0 H1 (W1 ++ w1)) (hz : ∀ a, Z a → Z' a) : ExOk M Wx Z' σ H1 W1 e ρ := by
  intro cls d H W he p' S
  obtain ⟨C, h1, h2, h3⟩ := he.ex
  refine h cls d H W ⟨C, h1, h2, ?_⟩ ?_ (S.weak hz)
  · rcases h3 with h3 | ⟨dx, vfs, as, a1, a2, a3, a4⟩
    · exact .inl h3
    · exact .inr ⟨dx, vfs, as, a1, a2, a3, fun a ha => ⟨(a4 a ha).1, fun z => (a4 a ha).2 (hz a z)⟩⟩
  · have p2 : Post false H1 W1 H (W ++ []) := by simpa using p'
    exact ((p.seq p2).sub fun a ha => by simp [ha]).weak
theorem Clean.join {W w w2 as as2 : List Addr} (a : Clean Z W w as) (b : Clean (orL Z w) W w2 as2) (ha : ∀ x ∈ as, x ∉ w2) : Clean Z W (w ++ w2) (as ++ as2) where
  sup := fun x hx => by
    rcases List.mem_append.mp hx with h | h
    · exact ⟨(a.sup x h).1, (a.sup x h).2.1, fun z => (List.mem_append.mp z).elim (a.sup x h).2.2 (ha x h)⟩
    · have z := b.sup x h
      exact ⟨z.1, fun y => z.2.1 (.inl y), fun y => (List.mem_append.mp y).elim (fun y => z.2.1 (.inr y)) z.2.2⟩
  nd := by
    rw [List.nodup_append]
    exact ⟨a.nd, b.nd, fun x hx y hy e => (b.out y hy).2 (.inr (e ▸ hx))⟩
  out := fun x hx => by
    rcases List.mem_append.mp hx with h | h
    · exact a.out x h
    · exact ⟨(b.out x h).1, fun y => (b.out x h).2 (.inl y)⟩
/-- one operand, then the rest -/
theorem Got.cons {t : Tok} {ts : List Tok} {ρ1 ρ2 : Rho} {v : V} {vs : List V} {H2 : Hp} {W w as : List Addr} (hz : ZT Z H1) (p : Post q H0 W0 H1 (W ++ w)) (S : Sim M (orL Z w) ρ1 σ H1 W) (r : TokR M σ H1 t v w as) (c : Clean Z W w as)
    (hpf : isPf t = true → q2 = true) (g : Gots M (orL Z w) q2 H1 W ts ρ2 σ vs H2) : Gots M Z (q && q2) H0 W0 (t :: ts) ρ2 σ (v :: vs) H2 := by
  obtain ⟨W2, w2, as2, p2, S2, r2, c2⟩ := g.ex
  have ow := r.own
  have tr := r.trk
  have c' := c.step tr ow hz (p2.sub (W3 := W2) fun a ha => by simp [ha])
  have apart : ∀ x ∈ as, x ∉ w2 := fun x hx hw => by
    rcases p2.new x (by simp [hw]) with h | h
    · exact (c.sup x hx).1 h
    · obtain ⟨_, e⟩ := tr x hx; rw [h] at e; cases e
  have sown := S.own
  have st : Stay H1 H2 (w ++ as) := p2.stay sown fun a ha => (List.mem_append.mp ha).elim (fun h => (c.out a h).1) fun h => (c.sup a h).1
  have r' := r.stay st fun hi => p2.ins (hpf hi)
  refine ⟨W2, w ++ w2, as ++ as2, p.seq p2, S2.weak fun a h => ?_, .cons r' r2, c'.join c2 apart⟩
  rcases h with h | h
  · exact .inl (.inl h)
  · exact (List.mem_append.mp h).elim (fun h => .inl (.inr h)) .inr
end
/-- place by place -/
inductive All2 {α β : Type} (R : α → β → Prop) : List α → List β → Prop
  | nil : All2 R [] []
  | cons {a : α} {b : β} {as : List α} {bs : List β} : R a b → All2 R as bs → All2 R (a :: as) (b :: bs)
/-- operands from the left -/
theorem goodL {C : Cst} {Wx : WX} {X : Cx} {ev : Ex → Rho → Out Tok} : ∀ {es : List Expr} {xs : List Ex}, All2 (fun e x => GoodE C Wx X e (noCall x) (ev x)) es xs → GoodL C Wx X es (noCalls xs) (evL ev xs)
  | _, _, .nil => fun Z ρ σ H W Q S hz h => h [] H ⟨W, [], [], by simpa using Post.refl, S.weak fun a h => h.elim id fun z => (by simp at z), .nil, .nil⟩
  | e :: es, x :: xs, .cons h1 h2 => fun Z ρ σ H W Q S hz h => by
    have ih := goodL h2
    show WE X e σ H fun v H1 => WAs X es σ H1 fun vs H2 => Q (v :: vs) H2
    refine h1 Z ρ σ H W _ S hz ?_
    unfold evL at h
    cases hx : ev x ρ with
    | no => rw [hx] at h; exact h
    | ex er ρ1 => rw [hx] at h; exact h
    | ok t ρ1 =>
      rw [hx] at h
      simp only [Out.bind_ok] at h
      intro v H1 g
      obtain ⟨W1, w, as, p, S1, r, c⟩ := g.ex
      have hz1 : ZT (orL Z w) H1 := (p.z hz S.nz).orL r.own
      refine ih (orL Z w) ρ1 σ H1 W1 _ S1 hz1 ?_
      split at h
      · exact h.elim
      · rename_i hpf
        have hpf' : isPf t = true → noCalls xs = true := fun hi => by
          cases hn : noCalls xs with
          | true => rfl
          | false => simp [hi, hn] at hpf
        cases hy : evL ev xs ρ1 with
        | no => rw [hy] at h; exact h
        | ex er ρ2 => rw [hy] at h; exact ExOk.behind h p fun a z => .inl z
        | ok ts ρ2 =>
          rw [hy] at h
          intro vs H2 g2
          have z := Got.cons (p.z hz S.nz) p S1 r c hpf' g2
          have e : noCalls (x :: xs) = (noCall x && noCalls xs) := by simp [noCalls]
          exact h (v :: vs) H2 (by rw [e]; exact z)
end DL

set_option maxRecDepth 100000
set_option maxHeartbeats 4000000
/-! DL7: pure operations. -/
namespace DL
open PySem PySem.Spec L2

/-- what may follow a pure operation -/
def Kont (K : PySem.W.Frag) (H : Hp) (A : List Addr) (l : Fl) (Q : VK) : Prop := ∀ v H' w as, Same H H' → FlR K H' l v w as → (∀ a ∈ w, H a = none) → w.Nodup → (∀ a ∈ as, a ∈ A ∨ (H a = none ∧ a ∉ w)) → Q v H'
section
variable {K : PySem.W.Frag} {H : Hp} {A : List Addr} {Q : VK}
theorem Kont.here {x : PyData} {v : V} {as : List Addr} (k : Kont K H A (.d x) Q) (r : RepD K H v x as) (h : ∀ a ∈ as, a ∈ A) : Q v H := k v H [] as (Same.refl H) (.d r) (by simp) .nil fun a ha => .inl (h a ha)
theorem Kont.nil {x : PyData} {v : V} (k : Kont K H A (.d x) Q) (r : RepD K H v x []) : Q v H := k.here r (by simp)
theorem same_upd {p : Addr} {o : HO} (hp : H p = none) : Same H (upd H p o) := fun b u e => by rw [upd_ne (ne_of_none e hp)]; exact e
theorem Kont.tup {ds : List PyData} {vs : List V} {as : List Addr} {p : Addr} (k : Kont K H A (.d (.tuple ds)) Q) (hp : H p = none) (r : RepDs K H vs ds as) (h : ∀ a ∈ as, a ∈ A) : Q (.ref p) (upd H p (.tup vs)) :=
  k _ _ [] as (same_upd hp) (.d (.tup (SqT.of upd_same) (r.stay (Stay.ofSame (same_upd hp) (A := as)) fun _ h => h))) (by simp) .nil fun a ha => .inl (h a ha)
theorem Kont.lst {ds : List PyData} {vs : List V} {as : List Addr} {p : Addr} (k : Kont K H A (.ls ds) Q) (hp : H p = none) (r : RepDs K H vs ds as) (h : ∀ a ∈ as, a ∈ A) : Q (.ref p) (upd H p (.lst vs)) :=
  k _ _ [p] as (same_upd hp) (.ls upd_same (r.stay (Stay.ofSame (same_upd hp) (A := as)) fun _ h => h)) (by simp [hp]) (by simp) fun a ha => .inl (h a ha)
end
/-- the operation op stands for the expression e over the operands os -/
theorem WAs.mono {X : Cx} : ∀ {es : List Expr} {σ : L2.St} {H : Hp} {Q Q' : List V → Hp → Prop}, WAs X es σ H Q → (∀ vs H', Q vs H' → Q' vs H') → WAs X es σ H Q'
  | [], _, _, _, _, h, m => m _ _ h
  | _ :: es, _, _, _, _, h, m => WE.mono h fun v H1 h1 => WAs.mono (es := es) h1 fun vs H2 => m (v :: vs) H2
def PrimE (C : Cst) (X : Cx) (e : Expr) (os : List Expr) (op : Pr) : Prop := (∀ σ H Q, WAs X os σ H (fun _ _ => False) → WE X e σ H Q) ∧ ∀ ls l, pd op ls = some l → ∃ r : List V → Hp → VK → Prop, (∀ σ H Q, WAs X os σ H (fun vs H1 => r vs H1 Q) → WE X e σ H Q) ∧ ∀ vs as H Q, CosR C.M.K H ls vs as → Kont C.M.K H as l Q → r vs H Q
def isPure : Pr → Bool
  | .tup => false | .lst => false | .append => false | .pop => false | .extend => false | _ => true
theorem prm_pure {op : Pr} (h : isPure op = true) (ts : List Tok) (ρ : Rho) : prm op ts ρ = (rds ρ ts).bind fun ls => (pd op ls).map fun l => (.lf l, ρ) := by
  cases op <;> first | rfl | (simp [isPure] at h)
theorem got_pure {M : Md} {Z : Addr → Prop} {q : Bool} {H0 H : Hp} {W0 : List Addr} {ts : List Tok} {ρ : Rho} {σ : L2.St} {vs : List V} {ls : List Fl} (hz : ZT Z H0) (hn : ∀ a ∈ W0, ¬ Z a) (g : Gots M Z q H0 W0 ts ρ σ vs H) (e : rds ρ ts = some ls) :
    ∃ A, CosR M.K H ls vs A ∧ ∀ l v H' w as, Same H H' → FlR M.K H' l v w as → (∀ a ∈ w, H a = none) → w.Nodup → (∀ a ∈ as, a ∈ A ∨ (H a = none ∧ a ∉ w)) → Got M Z q H0 W0 (.lf l) ρ σ v H' := by
  obtain ⟨W, w0, as0, p, S, r, c⟩ := g.ex
  have S0 : Sim M Z ρ σ H W := S.weak fun a h => .inl h
  obtain ⟨A, co, off⟩ := rds_ok S0 r (fun a ha => ⟨(c.sup a ha).1, (c.sup a ha).2.1⟩) e
  refine ⟨A, co, fun l v H' w as sm fr hw nd hs => ?_⟩
  have tr := co.trk
  have own := S0.own
  have hzH : ZT Z H := p.z hz hn
  have nW : ∀ a ∈ w, a ∉ W := fun a ha h => by obtain ⟨o, e, _⟩ := own a h; rw [hw a ha] at e; cases e
  have nZ : ∀ a ∈ w, ¬ Z a := fun a ha h => by obtain ⟨o, e, _⟩ := hzH a h; rw [hw a ha] at e; cases e
  have nA : ∀ a ∈ as, a ∉ W ∧ ¬ Z a ∧ a ∉ w := fun a ha => by
    rcases hs a ha with h1 | ⟨h1, h2⟩
    · exact ⟨(off a h1).1, (off a h1).2, fun h => by obtain ⟨o, e⟩ := tr a h1; rw [hw a h] at e; cases e⟩
    · exact ⟨fun h => (by obtain ⟨o, e, _⟩ := own a h; rw [h1] at e; cases e), fun h => (by obtain ⟨o, e, _⟩ := hzH a h; rw [h1] at e; cases e), h2⟩
  refine ⟨W, w, as, ⟨fun b o e hb => sm b o (p.keep b o e hb), fun b o e => let ⟨o', e'⟩ := p.trk b o e; ⟨o', sm b o' e'⟩, fun b hb => ?_, fun hq b C dx fs e => sm _ _ (p.ins hq b C dx fs e)⟩, ?_, .lf fr, ⟨fun a ha => nA a ha, nd, fun a ha => ⟨nW a ha, nZ a ha⟩⟩⟩
  · rcases List.mem_append.mp hb with h | h
    · exact p.new b (List.mem_append_left _ h)
    · cases q0 : H0 b with
      | none => exact .inr rfl
      | some o => obtain ⟨o', e'⟩ := p.trk b o q0; rw [hw b h] at e'; cases e'
  · obtain ⟨B, sl, ap⟩ := S0.sls
    refine ⟨⟨B, sl.stay (B := W ++ B) (Stay.ofSame sm) (fun a h => by simp [h]) fun a h => by simp [h], fun a ha => ⟨(ap a ha).1, fun z => z.elim (ap a ha).2 fun h => ?_⟩⟩, S0.nd, fun a ha z => z.elim (S0.nz a ha) fun h => nW a h ha⟩
    obtain ⟨o, e⟩ := sl.trk a ha
    rw [hw a h] at e; cases e
theorem good_pure {C : Cst} {Wx : WX} {X : Cx} {e : Expr} {os : List Expr} {op : Pr} {xs : List Ex} {ev : Ex → Rho → Out Tok} (hp : isPure op = true) (P : PrimE C X e os op) (h : GoodL C Wx X os (noCalls xs) (evL ev xs)) :
    GoodE C Wx X e (noCall (.p op xs)) (fun ρ => (evL ev xs ρ).bind fun ts ρ1 => ofOpt (prm op ts ρ1)) := by
  intro Z ρ σ H W Q S hz hr
  have ne : noCall (.p op xs) = noCalls xs := by simp [noCall]
  simp only at hr
  cases hx : evL ev xs ρ with
  | no => rw [hx] at hr; exact hr.elim
  | ex er ρ1 =>
    rw [hx] at hr
    exact P.1 σ H Q (h Z ρ σ H W (fun _ _ => False) S hz (by rw [hx]; exact hr))
  | ok ts ρ1 =>
    rw [hx] at hr
    simp only [Out.bind_ok] at hr
    rw [prm_pure hp] at hr
    cases hl : rds ρ1 ts with
    | none => rw [hl] at hr; exact hr.elim
    | some ls =>
      rw [hl] at hr
      cases hd : pd op ls with
      | none => simp [hd] at hr; exact hr.elim
      | some l =>
        simp [hd] at hr
        obtain ⟨r, rule, sem⟩ := P.2 ls l hd
        refine rule σ H Q (h Z ρ σ H W _ S hz ?_)
        rw [hx]
        intro vs H1 g
        obtain ⟨A, co, fin⟩ := got_pure hz S.nz g hl
        exact sem vs A H1 Q co fun v H' w as a1 a2 a3 a4 a5 => hr v H' (by rw [ne]; exact fin l v H' w as a1 a2 a3 a4 a5)
end DL

set_option maxRecDepth 100000
set_option maxHeartbeats 4000000
/-! DL8: operators and comparisons. -/
namespace DL
open PySem PySem.Spec L2

section
variable {X : Cx} {a b : Expr} {pos : Pos}
def r2 (r : R2) : List V → Hp → VK → Prop := fun vs H Q => match vs with
  | [x, y] => r x y H Q
  | _ => False
theorem tOp_was {r : R2} {σ : L2.St} {H : Hp} {Q : VK} (h : WAs X [a, b] σ H (fun vs H1 => r2 r vs H1 Q)) : tOp r (WE X a) (WE X b) σ H Q := h
theorem rule_bin {op : Operator} {r : R2} (ho : OpR X (binaryOp op) r) {σ : L2.St} {H : Hp} {Q : VK} (h : WAs X [a, b] σ H (fun vs H1 => r2 r vs H1 Q)) : WE X (.BinOp a op b pos) σ H Q := we_of (pe_op ho pe_we pe_we) (tOp_was h)
theorem rule_cmp {op : CmpOp} {r : R2} (ho : OpR X (compareOp op) r) (hm : behindInMarks op b = false) {σ : L2.St} {H : Hp} {Q : VK} (h : WAs X [a, b] σ H (fun vs H1 => r2 r vs H1 Q)) : WE X (.Compare a [op] [b] pos) σ H Q := we_of (pe_cmpR ho pe_we pe_we hm) (tOp_was h)
def r0 : R2 := fun _ _ _ _ => False
theorem op0 {f : Value → Value → Sem Value} : OpR X f r0 := fun _ _ _ _ _ _ _ _ _ _ _ _ h => h.elim
theorem r2_0 {Q : VK} : (fun vs H1 => r2 r0 vs H1 Q) = fun (vs : List V) (H1 : Hp) => False := by
  funext vs H1
  match vs with
  | [] => rfl
  | [_] => rfl
  | [_, _] => rfl
  | _ :: _ :: _ :: _ => rfl
end
/-- what two operands need -/
def Sem2 (C : Cst) (op : Pr) (ok : R2 → Prop) : Prop := ∀ l1 l2 l, pd op [l1, l2] = some l → ∃ r, ok r ∧ ∀ v1 v2 A1 A2 H Q, CoR C.M.K H l1 v1 A1 → CoR C.M.K H l2 v2 A2 → Kont C.M.K H (A1 ++ A2) l Q → r v1 v2 H Q
def two_ (op : Pr) : Prop := ∀ ls l, pd op ls = some l → ∃ a b, ls = [a, b]
theorem prim2 {C : Cst} {X : Cx} {e : Expr} {a b : Expr} {op : Pr} {ok : R2 → Prop} (h2 : two_ op) (h0 : ok r0) (rule : ∀ r, ok r → ∀ {σ H Q}, WAs X [a, b] σ H (fun vs H1 => r2 r vs H1 Q) → WE X e σ H Q) (s : Sem2 C op ok) : PrimE C X e [a, b] op := by
  refine ⟨fun σ H Q h => rule r0 h0 (by rw [r2_0]; exact h), fun ls l hl => ?_⟩
  obtain ⟨l1, l2, rfl⟩ := h2 ls l hl
  obtain ⟨r, ho, sem⟩ := s l1 l2 l hl
  refine ⟨r2 r, fun σ H Q h => rule r ho h, fun vs as H Q co k => ?_⟩
  cases co with
  | cons c1 co => cases co with
    | cons c2 co => cases co; exact sem _ _ _ _ _ _ c1 c2 (by simpa using k)
theorem two_mk {op : Pr} (h0 : pd op [] = none) (h1 : ∀ a, pd op [a] = none) (h3 : ∀ a b c r, pd op (a :: b :: c :: r) = none) : two_ op := fun ls l h => match ls, h with
  | [], h => by rw [h0] at h; cases h
  | [_], h => by rw [h1] at h; cases h
  | [a, b], _ => ⟨a, b, rfl⟩
  | _ :: _ :: _ :: _, h => by rw [h3] at h; cases h
section
variable {C : Cst} {X : Cx}
theorem co_int {K : PySem.W.Frag} {H : Hp} {i : Int} {v : V} {A : List Addr} (h : CoR K H (.d (.int i)) v A) : v = .int i ∧ A = [] := by cases h with | d r => exact r.int_inv
theorem co_str {K : PySem.W.Frag} {H : Hp} {i : Str} {v : V} {A : List Addr} (h : CoR K H (.d (.str i)) v A) : v = .str i ∧ A = [] := by cases h with | d r => exact r.str_inv
theorem co_bool {K : PySem.W.Frag} {H : Hp} {i : Bool} {v : V} {A : List Addr} (h : CoR K H (.d (.bool i)) v A) : v = .bl i ∧ A = [] := by cases h with | d r => exact r.bool_inv
theorem co_tup {K : PySem.W.Frag} {H : Hp} {ds : List PyData} {v : V} {A : List Addr} (h : CoR K H (.d (.tuple ds)) v A) : ∃ a xs, v = .ref a ∧ SqT K H a xs ∧ RepDs K H xs ds A := by cases h with | d r => exact r.tup_inv
theorem co_seqL {K : PySem.W.Frag} {H : Hp} {l : Fl} {ds : List PyData} {v : V} {A : List Addr} (h : CoR K H l v A) (e : l = .d (.list ds) ∨ l = .ls ds) : ∃ a xs bs, v = .ref a ∧ SqL K H a xs ∧ RepDs K H xs ds bs ∧ ∀ b ∈ bs, b ∈ A := by
  rcases e with rfl | rfl
  · cases h with | d r => exact r.lst_inv
  · cases h with | ls e r => exact ⟨_, _, _, rfl, SqL.of e, r, fun b hb => hb⟩
theorem CoR.dp {K : PySem.W.Frag} {H : Hp} {l : Fl} {v : V} {A : List Addr} (h : CoR K H l v A) (e : l.dat.hasDict = false) : Dp K H v l.dat := by
  cases h with
  | d r => exact r.dp e
  | ls e1 r => exact .lst (SqL.of e1) (r.dp (by simpa [Fl.dat, PyData.hasDict] using e))
theorem nd_shaped {d : PyData} (h : SeqAt.shaped d = true) : d.hasDict = false := PyData.hasDict_of_canLay d (SeqAt.canLay_of_shaped h)

/-- lists that are read, one behind the other -/
def rCatL (K : PySem.W.Frag) : R2 := fun x y H Q => ∃ l b xs zs, x = .ref l ∧ y = .ref b ∧ SqL K H l xs ∧ SqL K H b zs ∧ xs.length + zs.length ≤ sizeLine ∧ ∀ p, H p = none → Q (.ref p) (upd H p (.lst (xs ++ zs)))
theorem op_catL : OpR X (binaryOp .Add) (rCatL X.K) := by
  intro pins s σ H x y v u Q I rx ry h
  obtain ⟨l, b, xs, zs, rfl, rfl, hl, hb, hz, k⟩ := h
  obtain rfl : v = Value.ref l := rx
  obtain rfl : u = Value.ref b := ry
  obtain ⟨its, q1, p1, _⟩ := I.list hl
  obtain ⟨its2, q2, p2, _⟩ := I.list hb
  have n1 := q1.length
  have n2 := q2.length
  obtain ⟨⟨cls, dd, data, sl⟩, n, ho, hc, _, hd⟩ := p1
  obtain ⟨⟨cls2, dd2, data2, sl2⟩, n', ho2, hc2, _, hd2⟩ := p2
  simp only at hc hd hc2 hd2
  subst hc hd hc2 hd2
  have ea : its.toArray ++ its2.toArray = (its ++ its2).toArray := by simp
  have hz' : its.toArray.size + its2.toArray.size ≤ sizeLine := by rw [List.size_toArray, List.size_toArray]; omega
  refine PySem.concat_meets ⟨_, ho, rfl⟩ ⟨_, ho2, rfl⟩ noFill_list_add seq_list_add PySem.F.slot_list_add PySem.F.entry_list_add (PySem.F.args_list_add_2 _ _) (PyProof.Rows.list_addW l b its.toArray its2.toArray n n' dd dd2 sl sl2 hz') ⟨ho, ho2, ?_⟩
  rw [ea]
  exact ⟨.ref _, _, I.lnew (t' := s.toks) (q1.append q2) (by rw [List.length_append]; omega), rfl, k _ I.fresh⟩

/-! ### arithmetic -/
theorem pr_sub : two_ .sub := two_mk rfl (fun _ => rfl) fun _ _ _ _ => rfl
theorem sem_sub : Sem2 C .sub (OpR X (binaryOp .Sub)) := by
  intro l1 l2 l h
  match l1, l2, h with
  | .d (.int i), .d (.int j), h =>
    cases h
    refine ⟨_, op_sub, fun v1 v2 A1 A2 H Q c1 c2 k => ?_⟩
    obtain ⟨rfl, rfl⟩ := co_int c1
    obtain ⟨rfl, rfl⟩ := co_int c2
    exact ⟨i, j, rfl, rfl, k.nil (.int _)⟩
theorem pr_add : two_ .add := two_mk rfl (fun _ => rfl) fun _ _ _ _ => rfl
theorem sem_add : Sem2 C .add (fun r => C.M.K = X.K → OpR X (binaryOp .Add) r) := by
  have lists : ∀ (l1 l2 : Fl) (xs ys : List PyData), (l1 = .d (.list xs) ∨ l1 = .ls xs) → (l2 = .d (.list ys) ∨ l2 = .ls ys) → xs.length + ys.length ≤ sizeLine → ∃ r, (C.M.K = X.K → OpR X (binaryOp .Add) r) ∧ ∀ v1 v2 A1 A2 H Q, CoR C.M.K H l1 v1 A1 → CoR C.M.K H l2 v2 A2 → Kont C.M.K H (A1 ++ A2) (.ls (xs ++ ys)) Q → r v1 v2 H Q := by
    intro l1 l2 xs ys e1 e2 hz
    refine ⟨rCatL C.M.K, fun e => e ▸ op_catL, fun v1 v2 A1 A2 H Q c1 c2 k => ?_⟩
    obtain ⟨a, us, bs, rfl, s1, q1, i1⟩ := co_seqL c1 e1
    obtain ⟨b, ws, cs, rfl, s2, q2, i2⟩ := co_seqL c2 e2
    exact ⟨a, b, us, ws, rfl, rfl, s1, s2, by rw [q1.length, q2.length]; exact hz, fun p hp => k.lst hp (q1.append q2) fun x hx => (List.mem_append.mp hx).elim (fun h => List.mem_append_left _ (i1 x h)) fun h => List.mem_append_right _ (i2 x h)⟩
  intro l1 l2 l h
  match l1, l2, h with
  | .d (.int i), .d (.int j), h =>
    cases h
    refine ⟨_, fun _ => op_add, fun v1 v2 A1 A2 H Q c1 c2 k => ?_⟩
    obtain ⟨rfl, rfl⟩ := co_int c1
    obtain ⟨rfl, rfl⟩ := co_int c2
    exact ⟨i, j, rfl, rfl, k.nil (.int _)⟩
  | .d (.str x), .d (.str y), h =>
    by_cases hz : x.length + y.length ≤ sizeLine
    · simp [pd, addF, hz] at h; subst h
      refine ⟨_, fun _ => op_add_str, fun v1 v2 A1 A2 H Q c1 c2 k => ?_⟩
      obtain ⟨rfl, rfl⟩ := co_str c1
      obtain ⟨rfl, rfl⟩ := co_str c2
      exact ⟨x, y, rfl, rfl, hz, k.nil (.str _)⟩
    · simp [pd, addF, hz] at h
  | .d (.tuple xs), .d (.tuple ys), h =>
    by_cases hz : xs.length + ys.length ≤ sizeLine
    · simp [pd, addF, hz] at h; subst h
      refine ⟨rCatA C.M.K, fun e => e ▸ op_catA, fun v1 v2 A1 A2 H Q c1 c2 k => ?_⟩
      obtain ⟨a, us, rfl, s1, q1⟩ := co_tup c1
      obtain ⟨b, ws, rfl, s2, q2⟩ := co_tup c2
      refine ⟨a, b, us, ws, rfl, rfl, s1, s2, by rw [q1.length, q2.length]; exact hz, fun e => ?_, fun _ e => ?_, fun _ _ p hp => k.tup hp (q1.append q2) fun x hx => hx⟩
      · subst e
        cases q1
        exact k.here (.tup s2 q2) fun x hx => by simpa using hx
      · subst e
        cases q2
        exact k.here (by rw [List.append_nil]; exact .tup s1 q1) fun x hx => by simpa using hx
    · simp [pd, addF, hz] at h
  | .d (.list xs), .d (.list ys), h =>
    by_cases hz : xs.length + ys.length ≤ sizeLine
    · simp [pd, addF, hz] at h; subst h; exact lists _ _ _ _ (.inl rfl) (.inl rfl) hz
    · simp [pd, addF, hz] at h
  | .d (.list xs), .ls ys, h =>
    by_cases hz : xs.length + ys.length ≤ sizeLine
    · simp [pd, addF, hz] at h; subst h; exact lists _ _ _ _ (.inl rfl) (.inr rfl) hz
    · simp [pd, addF, hz] at h
  | .ls xs, .d (.list ys), h =>
    by_cases hz : xs.length + ys.length ≤ sizeLine
    · simp [pd, addF, hz] at h; subst h; exact lists _ _ _ _ (.inr rfl) (.inl rfl) hz
    · simp [pd, addF, hz] at h
  | .ls xs, .ls ys, h =>
    by_cases hz : xs.length + ys.length ≤ sizeLine
    · simp [pd, addF, hz] at h; subst h; exact lists _ _ _ _ (.inr rfl) (.inr rfl) hz
    · simp [pd, addF, hz] at h
theorem pr_mul : two_ .mul := two_mk rfl (fun _ => rfl) fun _ _ _ _ => rfl
theorem sem_mul : Sem2 C .mul (fun r => C.M.K = X.K → OpR X (binaryOp .Mult) r) := by
  intro l1 l2 l h
  match l1, l2, h with
  | .d (.int i), .d (.int j), h =>
    by_cases hz : CMul i j
    · simp [pd, mulF, hz] at h; subst h
      refine ⟨_, fun _ => op_mul, fun v1 v2 A1 A2 H Q c1 c2 k => ?_⟩
      obtain ⟨rfl, rfl⟩ := co_int c1
      obtain ⟨rfl, rfl⟩ := co_int c2
      exact ⟨i, j, rfl, rfl, hz, k.nil (.int _)⟩
    · simp [pd, mulF, hz] at h
  | .d (.tuple xs), .d (.int j), h =>
    by_cases hz : xs ≠ [] ∧ 2 ≤ j ∧ j ≤ 1000 ∧ xs.length ≤ 1000
    · simp only [pd, mulF, hz, ne_eq, not_false_eq_true, and_self, if_true, Option.some.injEq] at h; subst h
      refine ⟨rRepT C.M.K, fun e => e ▸ op_repT, fun v1 v2 A1 A2 H Q c1 c2 k => ?_⟩
      obtain ⟨a, us, rfl, s1, q1⟩ := co_tup c1
      obtain ⟨rfl, rfl⟩ := co_int c2
      have hl := q1.length
      refine ⟨a, j, us, rfl, rfl, s1, fun e => hz.1 (by subst e; cases q1; rfl), hz.2.1, hz.2.2.1, by rw [hl]; exact hz.2.2.2, fun p hp => ?_⟩
      obtain ⟨bs, q2, i2⟩ := q1.ofPlaces (us := (List.replicate j.toNat us).flatten) (es := (List.replicate j.toNat xs).flatten) (by simp [hl]) fun i d e => by
        have hx : 0 < xs.length := by
          cases xs with
          | nil => exact absurd rfl hz.1
          | cons _ _ => simp
        have gen : ∀ (m : Nat) (i : Nat) (d : PyData), ((List.replicate m xs).flatten)[i]? = some d → ∃ (j : Nat) (v : V), xs[j]? = some d ∧ us[j]? = some v ∧ ((List.replicate m us).flatten)[i]? = some v := by
          intro m
          induction m with
          | zero => intro i d e; simp at e
          | succ m ih =>
            intro i d e
            rw [List.replicate_succ, List.flatten_cons] at e ⊢
            by_cases hi : i < xs.length
            · rw [List.getElem?_append_left hi] at e
              obtain ⟨v, bs, h1, _, _⟩ := q1.get e
              exact ⟨i, v, e, h1, by rw [List.getElem?_append_left (by rw [hl]; exact hi)]; exact h1⟩
            · rw [List.getElem?_append_right (by omega)] at e
              obtain ⟨j, v, h1, h2, h3⟩ := ih _ _ e
              exact ⟨j, v, h1, h2, by rw [List.getElem?_append_right (by rw [hl]; omega), hl]; exact h3⟩
        exact gen _ _ _ e
      exact k.tup hp q2 fun x hx => by simpa using i2 x hx
    · simp only [pd, mulF, hz, if_false] at h; cases h
theorem pr_fdiv : two_ .fdiv := two_mk rfl (fun _ => rfl) fun _ _ _ _ => rfl
theorem sem_fdiv : Sem2 C .fdiv (OpR X (binaryOp .FloorDiv)) := by
  intro l1 l2 l h
  match l1, l2, h with
  | .d (.int i), .d (.int j), h =>
    by_cases hz : CDiv i j
    · simp [pd, hz] at h; subst h
      refine ⟨_, op_fdiv, fun v1 v2 A1 A2 H Q c1 c2 k => ?_⟩
      obtain ⟨rfl, rfl⟩ := co_int c1
      obtain ⟨rfl, rfl⟩ := co_int c2
      exact ⟨i, j, rfl, rfl, hz, k.nil (.int _)⟩
    · simp [pd, hz] at h
theorem pr_mod : two_ .mod := two_mk rfl (fun _ => rfl) fun _ _ _ _ => rfl
theorem sem_mod : Sem2 C .mod (OpR X (binaryOp .Mod)) := by
  intro l1 l2 l h
  match l1, l2, h with
  | .d (.int i), .d (.int j), h =>
    by_cases hz : 0 < j
    · simp [pd, hz] at h; subst h
      refine ⟨_, op_mod, fun v1 v2 A1 A2 H Q c1 c2 k => ?_⟩
      obtain ⟨rfl, rfl⟩ := co_int c1
      obtain ⟨rfl, rfl⟩ := co_int c2
      exact ⟨i, j, rfl, rfl, hz, k.nil (.int _)⟩
    · simp [pd, hz] at h
theorem pr_pow : two_ .pow := two_mk rfl (fun _ => rfl) fun _ _ _ _ => rfl
theorem sem_pow : Sem2 C .pow (OpR X (binaryOp .Pow)) := by
  intro l1 l2 l h
  match l1, l2, h with
  | .d (.int i), .d (.int j), h =>
    by_cases hz : CPow i j
    · simp [pd, hz] at h; subst h
      refine ⟨_, op_pow, fun v1 v2 A1 A2 H Q c1 c2 k => ?_⟩
      obtain ⟨rfl, rfl⟩ := co_int c1
      obtain ⟨rfl, rfl⟩ := co_int c2
      exact ⟨i, j, rfl, rfl, hz, k.nil (.int _)⟩
    · simp [pd, hz] at h

/-! ### comparisons -/
theorem sem_cmpI {op : Pr} {co : CmpOp} {p : Int → Int → Bool} (hp : ∀ a b, pd op [a, b] = cmpI p a b) (ho : OpR X (compareOp co) (rI0 fun i j => .bl (p i j))) : Sem2 C op (OpR X (compareOp co)) := by
  intro l1 l2 l h
  rw [hp] at h
  match l1, l2, h with
  | .d (.int i), .d (.int j), h =>
    cases h
    refine ⟨_, ho, fun v1 v2 A1 A2 H Q c1 c2 k => ?_⟩
    obtain ⟨rfl, rfl⟩ := co_int c1
    obtain ⟨rfl, rfl⟩ := co_int c2
    exact ⟨i, j, rfl, rfl, k.nil (.bool _)⟩
theorem sem_eq (hu : X.A.units + 64 < cLine) : Sem2 C .eq (fun r => C.M.K = X.K → OpR X (compareOp .Eq) r) := by
  intro l1 l2 l h
  by_cases hz : SeqAt.shaped l1.dat = true ∧ SeqAt.shaped l2.dat = true
  · have e : l = .d (.bool (PyData.eqv l1.dat l2.dat)) := by simpa [pd, eqF, hz] using h.symm
    subst e
    exact ⟨rEqD C.M.K, fun e => e ▸ op_eqD hu, fun v1 v2 A1 A2 H Q c1 c2 k => ⟨_, _, c1.dp (nd_shaped hz.1), c2.dp (nd_shaped hz.2), hz.1, hz.2, k.nil (.bool _)⟩⟩
  · simp [pd, eqF, hz] at h
theorem sem_ne (hu : X.A.units + 64 < cLine) : Sem2 C .ne (fun r => C.M.K = X.K → OpR X (compareOp .NotEq) r) := by
  intro l1 l2 l h
  by_cases hz : SeqAt.shaped l1.dat = true ∧ SeqAt.shaped l2.dat = true
  · have e : l = .d (.bool (!PyData.eqv l1.dat l2.dat)) := by simpa [pd, eqF, hz] using h.symm
    subst e
    exact ⟨rNeD C.M.K, fun e => e ▸ op_neD hu, fun v1 v2 A1 A2 H Q c1 c2 k => ⟨_, _, c1.dp (nd_shaped hz.1), c2.dp (nd_shaped hz.2), hz.1, hz.2, k.nil (.bool _)⟩⟩
  · simp [pd, eqF, hz] at h
end
end DL

set_option maxRecDepth 100000
set_option maxHeartbeats 4000000
/-! DL9: in, subscripts, slices, built-in functions. -/
namespace DL
open PySem PySem.Spec L2

section
variable {C : Cst} {X : Cx}
/-! ### in -/
def rInS (K : PySem.W.Frag) (neg : Bool) (l : Fl) (ds : List PyData) : R2 := fun x y H Q => ∃ d, Dp K H x d ∧ Dp K H y l.dat ∧ SeqAt.shaped d = true ∧ SeqAt.shaped l.dat = true ∧ Q (.bl (if neg then !(ds.any fun z => PyData.eqv z d) else ds.any fun z => PyData.eqv z d)) H
theorem shaped_list {ds : List PyData} (h : SeqAt.shaped (.list ds) = true) : PyData.canLayAll0 ds = true := SeqAt.canLay_of_shaped h
theorem shaped_tup {ds : List PyData} (h : SeqAt.shaped (.tuple ds) = true) : PyData.canLayAll0 ds = true := SeqAt.canLay_of_shaped h
theorem in_room {A : Around} {xs : List PyData} {d : PyData} (h : SeqAt.shaped d = true) (hu : A.units + 65 < cLine) : A.units + 1 + min (PyData.depthAll xs) d.depth < cLine := by
  have h1 := SeqAt.depth_of_shaped h
  have h2 : min (PyData.depthAll xs) d.depth ≤ d.depth := Nat.min_le_right _ _
  omega
theorem op_inS {l : Fl} {ds : List PyData} (hu : X.A.units + 65 < cLine) (hs : l.seq = some ds) : OpR X (compareOp .In) (rInS X.K false l ds) := by
  intro pins s σ H x y v u Q I rx ry h
  obtain ⟨d, hd, he, sd, se, q⟩ := h
  obtain ⟨as, r1⟩ := Dp.reads I d x v hd rx
  obtain ⟨bs, r2⟩ := Dp.reads I l.dat y u he ry
  have fin : EP X pins σ Q (.bool (ds.any fun z => PyData.eqv z d)) s := ⟨.bl _, H, I, rfl, q⟩
  match l, hs with
  | .d (.list _), hs => cases hs; exact SeqAt.in_list_reads r2 r1 (shaped_list se) (SeqAt.canLay_of_shaped sd) (in_room sd hu) fin
  | .ls _, hs => cases hs; exact SeqAt.in_list_reads r2 r1 (shaped_list se) (SeqAt.canLay_of_shaped sd) (in_room sd hu) fin
  | .d (.tuple _), hs => cases hs; exact SeqAt.in_tuple_reads r2 r1 (shaped_tup se) (SeqAt.canLay_of_shaped sd) (in_room sd hu) fin
theorem op_notinS {l : Fl} {ds : List PyData} (hu : X.A.units + 65 < cLine) (hs : l.seq = some ds) : OpR X (compareOp .NotIn) (rInS X.K true l ds) := by
  intro pins s σ H x y v u Q I rx ry h
  obtain ⟨d, hd, he, sd, se, q⟩ := h
  obtain ⟨as, r1⟩ := Dp.reads I d x v hd rx
  obtain ⟨bs, r2⟩ := Dp.reads I l.dat y u he ry
  have fin : EP X pins σ Q (.bool (!(ds.any fun z => PyData.eqv z d))) s := ⟨.bl _, H, I, rfl, q⟩
  match l, hs with
  | .d (.list _), hs => cases hs; exact SeqAt.notIn_list_reads r2 r1 (shaped_list se) (SeqAt.canLay_of_shaped sd) (in_room sd hu) fin
  | .ls _, hs => cases hs; exact SeqAt.notIn_list_reads r2 r1 (shaped_list se) (SeqAt.canLay_of_shaped sd) (in_room sd hu) fin
  | .d (.tuple _), hs => cases hs; exact SeqAt.notIn_tuple_reads r2 r1 (shaped_tup se) (SeqAt.canLay_of_shaped sd) (in_room sd hu) fin
theorem inF_cases {a b : Fl} {k : Bool} (h : inF a b = some k) : (∃ i j, a = .d (.str i) ∧ b = .d (.str j) ∧ k = !(Builtin.Str.occurrences j i 0 j.length 1).isEmpty) ∨ ∃ ds, b.seq = some ds ∧ SeqAt.shaped a.dat = true ∧ SeqAt.shaped b.dat = true ∧ k = ds.any fun z => PyData.eqv z a.dat := by
  unfold inF at h
  split at h
  · exact .inl ⟨_, _, rfl, rfl, by simpa using h.symm⟩
  · split at h
    · rename_i ds hs
      split at h
      · rename_i hz
        exact .inr ⟨ds, hs, hz.1, hz.2, by simpa using h.symm⟩
      · cases h
    · cases h
theorem sem_in (hu : X.A.units + 65 < cLine) : Sem2 C .isin (fun r => C.M.K = X.K → OpR X (compareOp .In) r) := by
  intro l1 l2 l h
  obtain ⟨k, hk, rfl⟩ : ∃ k, inF l1 l2 = some k ∧ .d (.bool k) = l := by simpa [pd] using h
  rcases inF_cases hk with ⟨i, j, rfl, rfl, rfl⟩ | ⟨ds, hs, s1, s2, rfl⟩
  · refine ⟨_, fun _ => op_in_str, fun v1 v2 A1 A2 H Q c1 c2 k => ?_⟩
    obtain ⟨rfl, rfl⟩ := co_str c1
    obtain ⟨rfl, rfl⟩ := co_str c2
    exact ⟨i, j, rfl, rfl, k.nil (.bool _)⟩
  · exact ⟨rInS C.M.K false l2 ds, fun e => e ▸ op_inS hu hs, fun v1 v2 A1 A2 H Q c1 c2 k => ⟨_, c1.dp (nd_shaped s1), c2.dp (nd_shaped s2), s1, s2, k.nil (.bool _)⟩⟩
theorem sem_notin (hu : X.A.units + 65 < cLine) : Sem2 C .notin (fun r => C.M.K = X.K → OpR X (compareOp .NotIn) r) := by
  intro l1 l2 l h
  obtain ⟨k, hk, rfl⟩ : ∃ k, inF l1 l2 = some k ∧ .d (.bool (!k)) = l := by simpa [pd] using h
  rcases inF_cases hk with ⟨i, j, rfl, rfl, rfl⟩ | ⟨ds, hs, s1, s2, rfl⟩
  · refine ⟨_, fun _ => op_notIn_str, fun v1 v2 A1 A2 H Q c1 c2 k => ?_⟩
    obtain ⟨rfl, rfl⟩ := co_str c1
    obtain ⟨rfl, rfl⟩ := co_str c2
    exact ⟨i, j, rfl, rfl, k.nil (.bool _)⟩
  · exact ⟨rInS C.M.K true l2 ds, fun e => e ▸ op_notinS hu hs, fun v1 v2 A1 A2 H Q c1 c2 k => ⟨_, c1.dp (nd_shaped s1), c2.dp (nd_shaped s2), s1, s2, k.nil (.bool _)⟩⟩

/-! ### subscripts -/
theorem atI_map {α β : Type} {xs : List α} {ys : List β} (hl : xs.length = ys.length) {i : Int} {y : β} (h : atI ys i = some y) : ∃ j : Nat, ys[j]? = some y ∧ ∀ x, xs[j]? = some x → atI xs i = some x := by
  unfold atI at h ⊢
  rw [hl]
  cases e : ixN ys.length i with
  | none => rw [e] at h; cases h
  | some j => rw [e] at h; exact ⟨j, h, fun x hx => hx⟩
def IxOk (X : Cx) (r : R2) : Prop := IxR X r
theorem ix_0 : IxR X r0 := fun _ _ _ _ _ _ _ _ _ _ _ _ _ _ h => h.elim
theorem rule_ix {a b : Expr} {pos : Pos} {r : R2} (hr : IxR X r) (hs : PlainIx b) {σ : L2.St} {H : Hp} {Q : VK} (h : WAs X [a, b] σ H (fun vs H1 => r2 r vs H1 Q)) : WE X (.Subscript a b pos) σ H Q := we_of (pe_ix hr pe_we pe_we hs) (tOp_was h)
theorem ixF_cases {a b l : Fl} (h : ixF a b = some l) : (∃ (x : Str) (i : Int) (c : Nat), a = .d (.str x) ∧ b = .d (.int i) ∧ x.length ≤ sizeLine ∧ atI x.cps.toList i = some c ∧ l = .d (.str ⟨#[c]⟩)) ∨ ∃ (xs : List PyData) (i : Int) (x : PyData), b = .d (.int i) ∧ a.seq = some xs ∧ atI xs i = some x ∧ l = .d x := by
  unfold ixF at h
  split at h
  · split at h
    · rename_i hz
      obtain ⟨c, hc, rfl⟩ := Option.map_eq_some_iff.mp h
      exact .inl ⟨_, _, c, rfl, rfl, hz, hc, rfl⟩
    · cases h
  · split at h
    · rename_i hs
      obtain ⟨x, hx, rfl⟩ := Option.map_eq_some_iff.mp h
      exact .inr ⟨_, _, x, rfl, hs, hx, rfl⟩
    · cases h
  · cases h
theorem sem_ix : Sem2 C .ix (fun r => C.M.K = X.K → IxR X r) := by
  have seqs : ∀ (l1 : Fl) (xs : List PyData) (i : Int) (x : PyData), l1.seq = some xs → atI xs i = some x → ∃ r, (C.M.K = X.K → IxR X r) ∧ ∀ v1 v2 A1 A2 H Q, CoR C.M.K H l1 v1 A1 → CoR C.M.K H (.d (.int i)) v2 A2 → Kont C.M.K H (A1 ++ A2) (.d x) Q → r v1 v2 H Q := by
    intro l1 xs i x hs hx
    refine ⟨rIx C.M.K, fun e => e ▸ ix_seq, fun v1 v2 A1 A2 H Q c1 c2 k => ?_⟩
    obtain ⟨rfl, rfl⟩ := co_int c2
    have go : ∀ (us : List V) (bs : List Addr), RepDs C.M.K H us xs bs → (∀ b ∈ bs, b ∈ A1) → ∃ v, atI us i = some v ∧ Q v H := fun us bs r hb => by
      obtain ⟨j, h1, h2⟩ := atI_map (xs := us) r.length hx
      obtain ⟨v, cs, g1, g2, g3⟩ := r.get h1
      exact ⟨v, h2 v g1, k.here g2 fun b h => List.mem_append_left _ (hb b (g3 b h))⟩
    match l1, hs with
    | .d (.list _), hs =>
      cases hs
      obtain ⟨a, us, bs, rfl, s1, q1, i1⟩ := co_seqL c1 (.inl rfl)
      obtain ⟨v, e, q⟩ := go us bs q1 i1
      exact .inl ⟨a, us, i, v, rfl, rfl, s1, e, q⟩
    | .ls _, hs =>
      cases hs
      obtain ⟨a, us, bs, rfl, s1, q1, i1⟩ := co_seqL c1 (.inr rfl)
      obtain ⟨v, e, q⟩ := go us bs q1 i1
      exact .inl ⟨a, us, i, v, rfl, rfl, s1, e, q⟩
    | .d (.tuple _), hs =>
      cases hs
      obtain ⟨a, us, rfl, s1, q1⟩ := co_tup c1
      obtain ⟨v, e, q⟩ := go us _ q1 fun _ h => h
      exact .inr (.inl ⟨a, us, i, v, rfl, rfl, s1, e, q⟩)
  intro l1 l2 l h
  rcases ixF_cases h with ⟨x, i, c, rfl, rfl, hz, hc, rfl⟩ | ⟨xs, i, x, rfl, hs, hx, rfl⟩
  · refine ⟨rIxS, fun _ => ix_str, fun v1 v2 A1 A2 H Q c1 c2 k => ?_⟩
    obtain ⟨rfl, rfl⟩ := co_str c1
    obtain ⟨rfl, rfl⟩ := co_int c2
    exact ⟨x, i, c, rfl, rfl, hz, hc, k.nil (.str _)⟩
  · exact seqs _ xs i x hs hx
/-! ### slices -/
def rS1 (r : V → Option Int → Option Int → Hp → VK → Prop) (lo hi : Bool) : List V → Hp → VK → Prop := fun vs H Q => match lo, hi, vs with
  | false, false, [x] => r x none none H Q
  | true, false, [x, y] => ∃ i, y = .int i ∧ r x (some i) none H Q
  | false, true, [x, z] => ∃ j, z = .int j ∧ r x none (some j) H Q
  | _, _, _ => False
theorem sl_0 : L2.SlR X (fun _ _ _ _ _ => False) := fun _ _ _ _ _ _ _ _ _ _ _ _ _ _ _ _ _ h => h.elim
theorem rule_sl00 {e : Expr} {p2 pos : Pos} {r : V → Option Int → Option Int → Hp → VK → Prop} (hr : L2.SlR X r) {σ : L2.St} {H : Hp} {Q : VK} (h : WAs X [e] σ H (fun vs H1 => rS1 r false false vs H1 Q)) : WE X (.Subscript e (.Slice none none none p2) pos) σ H Q :=
  we_of (pe_slice hr pe_we po_none po_none) (show tSl r (WE X e) tNoPart tNoPart σ H Q from h)
theorem rule_sl10 {e l : Expr} {p2 pos : Pos} {r : V → Option Int → Option Int → Hp → VK → Prop} (hr : L2.SlR X r) {σ : L2.St} {H : Hp} {Q : VK} (h : WAs X [e, l] σ H (fun vs H1 => rS1 r true false vs H1 Q)) : WE X (.Subscript e (.Slice (some l) none none p2) pos) σ H Q :=
  we_of (pe_slice hr pe_we (po_some pe_we) po_none) (show tSl r (WE X e) (tPart (WE X l)) tNoPart σ H Q from h)
theorem rule_sl01 {e u : Expr} {p2 pos : Pos} {r : V → Option Int → Option Int → Hp → VK → Prop} (hr : L2.SlR X r) {σ : L2.St} {H : Hp} {Q : VK} (h : WAs X [e, u] σ H (fun vs H1 => rS1 r false true vs H1 Q)) : WE X (.Subscript e (.Slice none (some u) none p2) pos) σ H Q :=
  we_of (pe_slice hr pe_we po_none (po_some pe_we)) (show tSl r (WE X e) tNoPart (tPart (WE X u)) σ H Q from h)
/-- what a slice of a leaf is -/
theorem slF_ok {l1 l : Fl} {lo hi : Option Int} (h : slF l1 lo hi = some l) : ∃ r, (C.M.K = X.K → L2.SlR X r) ∧ ∀ v A H Q, CoR C.M.K H l1 v A → Kont C.M.K H A l Q → r v lo hi H Q := by
  have lists : ∀ (xs : List PyData), (l1 = .d (.list xs) ∨ l1 = .ls xs) → l = .ls (cutD xs lo hi) → ∃ r, (C.M.K = X.K → L2.SlR X r) ∧ ∀ v A H Q, CoR C.M.K H l1 v A → Kont C.M.K H A l Q → r v lo hi H Q := by
    rintro xs e1 rfl
    refine ⟨rSlL C.M.K, fun e => e ▸ sl_list, fun v A H Q c k => ?_⟩
    obtain ⟨a, us, bs, rfl, s1, q1, i1⟩ := co_seqL c e1
    refine ⟨a, us, rfl, s1, fun p hp => ?_⟩
    obtain ⟨b1, q2, i2⟩ := q1.drop (HT.sIx xs.length 0 lo)
    obtain ⟨b2, q3, i3⟩ := q2.take (HT.sIx xs.length xs.length hi - HT.sIx xs.length 0 lo)
    have e : cutV us lo hi = List.take (HT.sIx xs.length xs.length hi - HT.sIx xs.length 0 lo) (List.drop (HT.sIx xs.length 0 lo) us) := by unfold cutV; rw [q1.length]
    rw [e]
    exact k.lst hp q3 fun x hx => i1 x (i2 x (i3 x hx))
  match l1, h with
  | .d (.list xs), h => cases h; exact lists xs (.inl rfl) rfl
  | .ls xs, h => cases h; exact lists xs (.inr rfl) rfl
  | .d (.str x), h =>
    by_cases hz : x.length ≤ sizeLine
    · simp [slF, hz] at h; subst h
      refine ⟨rSlS, fun _ => sl_str, fun v A H Q c k => ?_⟩
      obtain ⟨rfl, rfl⟩ := co_str c
      exact ⟨x, rfl, hz, k.nil (.str _)⟩
    · simp [slF, hz] at h
  | .d (.tuple xs), h =>
    cases h
    refine ⟨rSlA C.M.K, fun e => e ▸ sl_tupA, fun v A H Q c k => ?_⟩
    obtain ⟨a, us, rfl, s1, q1⟩ := co_tup c
    have hl := q1.length
    refine ⟨a, us, rfl, s1, fun hw => ?_, fun _ p hp => ?_⟩
    · have e : cutD xs lo hi = xs := by unfold cutD; rw [← hl, hw.1, hw.2, hl]; simp
      rw [e] at k
      exact k.here (.tup s1 q1) fun _ h => h
    · obtain ⟨b1, q2, i2⟩ := q1.drop (HT.sIx xs.length 0 lo)
      obtain ⟨b2, q3, i3⟩ := q2.take (HT.sIx xs.length xs.length hi - HT.sIx xs.length 0 lo)
      have e : cutV us lo hi = List.take (HT.sIx xs.length xs.length hi - HT.sIx xs.length 0 lo) (List.drop (HT.sIx xs.length 0 lo) us) := by unfold cutV; rw [hl]
      rw [e]
      exact k.tup hp q3 fun x hx => i2 x (i3 x hx)
theorem intOf_eq {l : Fl} {i : Int} (h : intOf l = some i) : l = .d (.int i) := by
  unfold intOf at h
  split at h
  · cases h; rfl
  · cases h
theorem prim_sl00 (hK : C.M.K = X.K) {e : Expr} {p2 pos : Pos} : PrimE C X (.Subscript e (.Slice none none none p2) pos) [e] (.sl false false) := by
  refine ⟨fun σ H Q h => rule_sl00 sl_0 (h.mono fun _ _ z => z.elim), fun ls l hl => ?_⟩
  match ls, hl with
  | [a], hl =>
    obtain ⟨r, hr, sem⟩ := slF_ok (C := C) (X := X) (l1 := a) (lo := none) (hi := none) hl
    refine ⟨rS1 r false false, fun σ H Q h => rule_sl00 (hr hK) h, fun vs as H Q co k => ?_⟩
    cases co with
    | cons c1 co => cases co; exact sem _ _ _ _ c1 (by simpa using k)
theorem prim_sl10 (hK : C.M.K = X.K) {e lo : Expr} {p2 pos : Pos} : PrimE C X (.Subscript e (.Slice (some lo) none none p2) pos) [e, lo] (.sl true false) := by
  refine ⟨fun σ H Q h => rule_sl10 sl_0 (h.mono fun _ _ z => z.elim), fun ls l hl => ?_⟩
  match ls, hl with
  | [a, b], hl =>
    obtain ⟨i, hi, hl⟩ := Option.bind_eq_some_iff.mp (show (intOf b).bind (fun l => slF a (some l) none) = some l from hl)
    have hb := intOf_eq hi
    subst hb
    obtain ⟨r, hr, sem⟩ := slF_ok (C := C) (X := X) (l1 := a) (lo := some i) (hi := none) hl
    refine ⟨rS1 r true false, fun σ H Q h => rule_sl10 (hr hK) h, fun vs as H Q co k => ?_⟩
    cases co with
    | cons c1 co => cases co with
      | cons c2 co =>
        cases co
        obtain ⟨rfl, rfl⟩ := co_int c2
        exact ⟨i, rfl, sem _ _ _ _ c1 (by simpa using k)⟩
theorem prim_sl01 (hK : C.M.K = X.K) {e hi : Expr} {p2 pos : Pos} : PrimE C X (.Subscript e (.Slice none (some hi) none p2) pos) [e, hi] (.sl false true) := by
  refine ⟨fun σ H Q h => rule_sl01 sl_0 (h.mono fun _ _ z => z.elim), fun ls l hl => ?_⟩
  match ls, hl with
  | [a, b], hl =>
    obtain ⟨i, hi, hl⟩ := Option.bind_eq_some_iff.mp (show (intOf b).bind (fun l => slF a none (some l)) = some l from hl)
    have hb := intOf_eq hi
    subst hb
    obtain ⟨r, hr, sem⟩ := slF_ok (C := C) (X := X) (l1 := a) (lo := none) (hi := some i) hl
    refine ⟨rS1 r false true, fun σ H Q h => rule_sl01 (hr hK) h, fun vs as H Q co k => ?_⟩
    cases co with
    | cons c1 co => cases co with
      | cons c2 co =>
        cases co
        obtain ⟨rfl, rfl⟩ := co_int c2
        exact ⟨i, rfl, sem _ _ _ _ c1 (by simpa using k)⟩
end
end DL

set_option maxRecDepth 100000
set_option maxHeartbeats 4000000
/-! DL10: operations of one operand, built-in functions. -/
namespace DL
open PySem PySem.Spec L2

abbrev R1 := V → Hp → VK → Prop
def r1v (r : R1) : List V → Hp → VK → Prop := fun vs H Q => match vs with
  | [x] => r x H Q
  | _ => False
def r10 : R1 := fun _ _ _ => False
theorem r1v_0 {Q : VK} : (fun vs H1 => r1v r10 vs H1 Q) = fun (vs : List V) (H1 : Hp) => False := by
  funext vs H1
  match vs with
  | [] => rfl
  | [_] => rfl
  | _ :: _ :: _ => rfl
def one_ (op : Pr) : Prop := ∀ ls l, pd op ls = some l → ∃ a, ls = [a]
theorem one_mk {op : Pr} (h0 : pd op [] = none) (h2 : ∀ a b r, pd op (a :: b :: r) = none) : one_ op := fun ls l h => match ls, h with
  | [], h => by rw [h0] at h; cases h
  | [a], _ => ⟨a, rfl⟩
  | _ :: _ :: _, h => by rw [h2] at h; cases h
def Sem1 (C : Cst) (op : Pr) (ok : R1 → Prop) : Prop := ∀ l1 l, pd op [l1] = some l → ∃ r, ok r ∧ ∀ v A H Q, CoR C.M.K H l1 v A → Kont C.M.K H A l Q → r v H Q
theorem prim1 {C : Cst} {X : Cx} {e : Expr} {a : Expr} {op : Pr} {ok : R1 → Prop} (h2 : one_ op) (h0 : ok r10) (rule : ∀ r, ok r → ∀ {σ H Q}, WAs X [a] σ H (fun vs H1 => r1v r vs H1 Q) → WE X e σ H Q) (s : Sem1 C op ok) : PrimE C X e [a] op := by
  refine ⟨fun σ H Q h => rule r10 h0 (by rw [r1v_0]; exact h), fun ls l hl => ?_⟩
  obtain ⟨l1, rfl⟩ := h2 ls l hl
  obtain ⟨r, ho, sem⟩ := s l1 l hl
  refine ⟨r1v r, fun σ H Q h => rule r ho h, fun vs as H Q co k => ?_⟩
  cases co with
  | cons c1 co => cases co; exact sem _ _ _ _ c1 (by simpa using k)
section
variable {C : Cst} {X : Cx}
/-- a call of a built-in by its name -/
theorem rule_callB {x : Str} {id : String} {r : List V → Hp → VK → Prop} {e : Expr} {es : List Expr} {p pos : Pos} (hc : CallR X (.builtin id) r) (hg : X.env.kindOf x = some .globalImplicit) (hm : X.mg x = none) (hv : bootBuiltins x = some (.builtin id)) (hn : x ≠ "__name__") (hdb : (x == ("__debug__" : Str)) = false)
    (hs : (e :: es).all notStar = true) {σ : L2.St} {H : Hp} {Q : VK} (h : WAs X (e :: es) σ H (fun vs H1 => r vs H1 Q)) : WE X (.Call (.Name x p) (e :: es) [] pos) σ H Q := by
  have hs' := hs
  simp only [List.all_cons, Bool.and_eq_true] at hs'
  exact we_of (pe_callB hc hg hm hv (pa_was hs) hn hdb (star_each hs'.1) (star_any hs'.2)) h
theorem rule_callT {x : Str} {T : String} {r : List V → Hp → VK → Prop} {e : Expr} {es : List Expr} {p pos : Pos} (hc : CallR X (.type T) r) (hg : X.env.kindOf x = some .globalImplicit) (hm : X.mg x = none) (hv : bootBuiltins x = some (.type T)) (hn : x ≠ "__name__") (hdb : (x == ("__debug__" : Str)) = false)
    (hs : (e :: es).all notStar = true) {σ : L2.St} {H : Hp} {Q : VK} (h : WAs X (e :: es) σ H (fun vs H1 => r vs H1 Q)) : WE X (.Call (.Name x p) (e :: es) [] pos) σ H Q := by
  have hs' := hs
  simp only [List.all_cons, Bool.and_eq_true] at hs'
  exact we_of (pe_callTy hc hg hm hv (pa_was hs) hn hdb (star_each hs'.1) (star_any hs'.2)) h
theorem call_0 {f : Value} : CallR X f (r1v r10) := by
  intro pins s σ H xs us Q I r h
  match xs, h with
  | [_], h => exact h.elim
  | [], h => exact h.elim
  | _ :: _ :: _, h => exact h.elim
theorem callOf1 {f : Value} {r : List V → Hp → VK → Prop} {r1 : R1} (hc : CallR X f r) (h : ∀ v H Q, r1 v H Q → r [v] H Q) : CallR X f (r1v r1) := by
  intro pins s σ H xs us Q I rr q
  match xs, q with
  | [v], q => exact hc pins s σ H [v] us Q I rr (h v H Q q)
  | [], q => exact q.elim
  | _ :: _ :: _, q => exact q.elim

/-! ### len -/
theorem seq_co {K : PySem.W.Frag} {H : Hp} {l : Fl} {ds : List PyData} {v : V} {A : List Addr} (hs : l.seq = some ds) (h : CoR K H l v A) : ∃ a xs bs, v = .ref a ∧ (SqL K H a xs ∨ SqT K H a xs) ∧ RepDs K H xs ds bs ∧ ∀ b ∈ bs, b ∈ A := by
  match l, hs with
  | .d (.list _), hs => cases hs; obtain ⟨a, xs, bs, h1, h2, h3, h4⟩ := co_seqL h (.inl rfl); exact ⟨a, xs, bs, h1, .inl h2, h3, h4⟩
  | .ls _, hs => cases hs; obtain ⟨a, xs, bs, h1, h2, h3, h4⟩ := co_seqL h (.inr rfl); exact ⟨a, xs, bs, h1, .inl h2, h3, h4⟩
  | .d (.tuple _), hs => cases hs; obtain ⟨a, xs, h1, h2, h3⟩ := co_tup h; exact ⟨a, xs, _, h1, .inr h2, h3, fun _ h => h⟩
theorem pr_len : one_ .len := one_mk rfl fun _ _ _ => rfl
theorem sem_len : Sem1 C .len (fun r => C.M.K = X.K → CallR X (.builtin "len") (r1v r)) := by
  intro l1 l h
  have h : lenF l1 = some l := h
  unfold lenF at h
  split at h
  · rename_i x h0
    split at h
    · rename_i hz
      cases h
      refine ⟨fun v H Q => v = .str x ∧ Q (.int x.length) H, fun _ => callOf1 call_len_str fun v H Q q => ⟨x, by rw [q.1], hz, q.2⟩, fun v A H Q c k => ?_⟩
      obtain ⟨rfl, rfl⟩ := co_str c
      exact ⟨rfl, k.nil (.int _)⟩
    · cases h
  · split at h
    · rename_i xs hs
      cases h
      refine ⟨fun v H Q => ∃ a us, v = .ref a ∧ (SqL C.M.K H a us ∨ SqT C.M.K H a us) ∧ Q (.int us.length) H, fun e => callOf1 call_len_seq fun v H Q q => ?_, fun v A H Q c k => ?_⟩
      · obtain ⟨a, us, rfl, h1, h2⟩ := q
        exact ⟨a, us, rfl, by rw [← e]; exact h1, h2⟩
      · obtain ⟨a, us, bs, rfl, h1, h2, h3⟩ := seq_co hs c
        exact ⟨a, us, rfl, h1, by rw [h2.length]; exact k.nil (.int _)⟩
    · cases h

/-! ### tuple, list -/
theorem pr_tuple : one_ .tuple := one_mk rfl fun _ _ _ => rfl
theorem sem_tuple : Sem1 C .tuple (fun r => C.M.K = X.K → CallR X (.type "tuple") (r1v r)) := by
  intro l1 l h
  obtain ⟨xs, hs, rfl⟩ := Option.map_eq_some_iff.mp (show l1.seq.map (fun xs => Fl.d (.tuple xs)) = some l from h)
  refine ⟨fun v H Q => ∃ a us, v = .ref a ∧ ((SqL C.M.K H a us ∧ ∀ p, H p = none → Q (.ref p) (upd H p (.tup us))) ∨ (SqT C.M.K H a us ∧ Q (.ref a) H)), fun e => callOf1 call_tuple_of fun v H Q q => ?_, fun v A H Q c k => ?_⟩
  · obtain ⟨a, us, rfl, h1⟩ := q
    exact ⟨a, us, rfl, by rw [← e]; exact h1⟩
  · match l1, hs with
    | .d (.list _), hs => cases hs; obtain ⟨a, us, bs, rfl, h2, h3, h4⟩ := co_seqL c (.inl rfl); exact ⟨a, us, rfl, .inl ⟨h2, fun p hp => k.tup hp h3 h4⟩⟩
    | .ls _, hs => cases hs; obtain ⟨a, us, bs, rfl, h2, h3, h4⟩ := co_seqL c (.inr rfl); exact ⟨a, us, rfl, .inl ⟨h2, fun p hp => k.tup hp h3 h4⟩⟩
    | .d (.tuple _), hs => cases hs; obtain ⟨a, us, rfl, h2, h3⟩ := co_tup c; exact ⟨a, us, rfl, .inr ⟨h2, k.here (.tup h2 h3) fun _ h => h⟩⟩
theorem pr_list : one_ .list := one_mk rfl fun _ _ _ => rfl
theorem sem_list : Sem1 C .list (fun r => C.M.K = X.K → CallR X (.type "list") (r1v r)) := by
  intro l1 l h
  obtain ⟨xs, hs, rfl⟩ := Option.map_eq_some_iff.mp (show l1.seq.map Fl.ls = some l from h)
  refine ⟨fun v H Q => ∃ a us, v = .ref a ∧ (SqL C.M.K H a us ∨ SqT C.M.K H a us) ∧ ∀ p, H p = none → Q (.ref p) (upd H p (.lst us)), fun e => callOf1 call_list_of fun v H Q q => ?_, fun v A H Q c k => ?_⟩
  · obtain ⟨a, us, rfl, h1⟩ := q
    exact ⟨a, us, rfl, by rw [← e]; exact h1⟩
  · obtain ⟨a, us, bs, rfl, h1, h2, h3⟩ := seq_co hs c
    exact ⟨a, us, rfl, h1, fun p hp => k.lst hp h2 h3⟩

/-! ### all, any, sum -/
theorem boolsOf_eq : ∀ {xs : List PyData} {bs : List Bool}, boolsOf xs = some bs → xs = bs.map .bool
  | [], bs, h => by cases h; rfl
  | .bool b :: r, bs, h => by
    obtain ⟨cs, h1, rfl⟩ := Option.map_eq_some_iff.mp (show (boolsOf r).map (b :: ·) = some bs from h)
    rw [boolsOf_eq h1]; rfl
theorem intsOf_eq : ∀ {xs : List PyData} {bs : List Int}, intsOf xs = some bs → xs = bs.map .int
  | [], bs, h => by cases h; rfl
  | .int b :: r, bs, h => by
    obtain ⟨cs, h1, rfl⟩ := Option.map_eq_some_iff.mp (show (intsOf r).map (b :: ·) = some bs from h)
    rw [intsOf_eq h1]; rfl
theorem rep_bools {K : PySem.W.Frag} {H : Hp} : ∀ {us : List V} {bs : List Bool} {A : List Addr}, RepDs K H us (bs.map .bool) A → us = bs.map V.bl
  | _, [], _, h => by cases h; rfl
  | _, b :: bs, _, h => by
    cases h with
    | cons h1 h2 => rw [h1.bool_inv.1, rep_bools h2]; rfl
theorem rep_ints {K : PySem.W.Frag} {H : Hp} : ∀ {us : List V} {bs : List Int} {A : List Addr}, RepDs K H us (bs.map .int) A → us = bs.map V.int
  | _, [], _, h => by cases h; rfl
  | _, b :: bs, _, h => by
    cases h with
    | cons h1 h2 => rw [h1.int_inv.1, rep_ints h2]; rfl
theorem sem_bools {op : Pr} {id : String} {g : List Bool → Bool} {rr : PySem.W.Frag → List V → Hp → VK → Prop} (hp : ∀ l1 l, pd op [l1] = some l → ∃ bs, (l1 = .d (.list (bs.map .bool)) ∨ l1 = .ls (bs.map .bool)) ∧ l = .d (.bool (g bs)))
    (hr : ∀ K vs H Q, rr K vs H Q ↔ ∃ (a : Addr) (bs : List Bool), vs = [V.ref a] ∧ SqL K H a (bs.map V.bl) ∧ Q (.bl (g bs)) H) (hc : CallR X (.builtin id) (rr X.K)) : Sem1 C op (fun r => C.M.K = X.K → CallR X (.builtin id) (r1v r)) := by
  intro l1 l h
  obtain ⟨bs, e1, rfl⟩ := hp l1 l h
  refine ⟨fun v H Q => ∃ (a : Addr) (bs : List Bool), v = V.ref a ∧ SqL C.M.K H a (bs.map V.bl) ∧ Q (.bl (g bs)) H, fun e => callOf1 hc fun v H Q q => ?_, fun v A H Q c k => ?_⟩
  · obtain ⟨a, bs, rfl, h1, h2⟩ := q
    exact (hr _ _ _ _).mpr ⟨a, bs, rfl, by rw [← e]; exact h1, h2⟩
  · obtain ⟨a, us, cs, rfl, h1, h2, _⟩ := co_seqL c e1
    rw [rep_bools h2] at h1
    exact ⟨a, bs, rfl, h1, k.nil (.bool _)⟩
theorem pr_all : one_ .all := one_mk rfl fun _ _ _ => rfl
theorem sem_all (hc : X.calm = true) : Sem1 C .all (fun r => C.M.K = X.K → CallR X (.builtin "all") (r1v r)) := by
  refine sem_bools (g := fun bs => bs.all id) (rr := rAll) (fun l1 l h => ?_) (fun _ _ _ _ => Iff.rfl) (cr_all hc)
  match l1, h with
  | .d (.list xs), h => obtain ⟨bs, h1, rfl⟩ := Option.map_eq_some_iff.mp (show (boolsOf xs).map (fun bs => Fl.d (.bool (bs.all id))) = some l from h); exact ⟨bs, .inl (by rw [boolsOf_eq h1]), rfl⟩
  | .ls xs, h => obtain ⟨bs, h1, rfl⟩ := Option.map_eq_some_iff.mp (show (boolsOf xs).map (fun bs => Fl.d (.bool (bs.all id))) = some l from h); exact ⟨bs, .inr (by rw [boolsOf_eq h1]), rfl⟩
theorem pr_any : one_ .any := one_mk rfl fun _ _ _ => rfl
theorem sem_any (hc : X.calm = true) : Sem1 C .any (fun r => C.M.K = X.K → CallR X (.builtin "any") (r1v r)) := by
  refine sem_bools (g := fun bs => bs.any id) (rr := rAny) (fun l1 l h => ?_) (fun _ _ _ _ => Iff.rfl) (cr_any hc)
  match l1, h with
  | .d (.list xs), h => obtain ⟨bs, h1, rfl⟩ := Option.map_eq_some_iff.mp (show (boolsOf xs).map (fun bs => Fl.d (.bool (bs.any id))) = some l from h); exact ⟨bs, .inl (by rw [boolsOf_eq h1]), rfl⟩
  | .ls xs, h => obtain ⟨bs, h1, rfl⟩ := Option.map_eq_some_iff.mp (show (boolsOf xs).map (fun bs => Fl.d (.bool (bs.any id))) = some l from h); exact ⟨bs, .inr (by rw [boolsOf_eq h1]), rfl⟩
theorem pr_sum : one_ .sum := one_mk rfl fun _ _ _ => rfl
theorem sem_sum (hc : X.calm = true) : Sem1 C .sum (fun r => C.M.K = X.K → CallR X (.builtin "sum") (r1v r)) := by
  intro l1 l h
  obtain ⟨ns, e1, rfl⟩ : ∃ ns : List Int, (l1 = .d (.list (ns.map .int)) ∨ l1 = .ls (ns.map .int)) ∧ l = .d (.int ns.sum) := by
    match l1, h with
    | .d (.list xs), h => obtain ⟨bs, h1, rfl⟩ := Option.map_eq_some_iff.mp (show (intsOf xs).map (fun bs => Fl.d (.int bs.sum)) = some l from h); exact ⟨bs, .inl (by rw [intsOf_eq h1]), rfl⟩
    | .ls xs, h => obtain ⟨bs, h1, rfl⟩ := Option.map_eq_some_iff.mp (show (intsOf xs).map (fun bs => Fl.d (.int bs.sum)) = some l from h); exact ⟨bs, .inr (by rw [intsOf_eq h1]), rfl⟩
  refine ⟨fun v H Q => ∃ (a : Addr) (ns : List Int), v = V.ref a ∧ SqL C.M.K H a (ns.map V.int) ∧ Q (.int ns.sum) H, fun e => callOf1 (cr_sum hc) fun v H Q q => ?_, fun v A H Q c k => ?_⟩
  · obtain ⟨a, bs, rfl, h1, h2⟩ := q
    exact ⟨a, bs, rfl, by rw [← e]; exact h1, h2⟩
  · obtain ⟨a, us, cs, rfl, h1, h2, _⟩ := co_seqL c e1
    rw [rep_ints h2] at h1
    exact ⟨a, ns, rfl, h1, k.nil (.int _)⟩

/-! ### numbers, texts -/
theorem pr_abs : one_ .abs := one_mk rfl fun _ _ _ => rfl
theorem sem_abs : Sem1 C .abs (fun r => CallR X (.builtin "abs") (r1v r)) := by
  intro l1 l h
  match l1, h with
  | .d (.int i), h =>
    cases h
    refine ⟨fun v H Q => v = .int i ∧ Q (.int (if i < 0 then -i else i)) H, callOf1 call_abs fun v H Q q => ⟨i, by rw [q.1], q.2⟩, fun v A H Q c k => ?_⟩
    obtain ⟨rfl, rfl⟩ := co_int c
    exact ⟨rfl, k.nil (.int _)⟩
theorem pr_int : one_ .int := one_mk rfl fun _ _ _ => rfl
theorem sem_int : Sem1 C .int (fun r => CallR X (.type "int") (r1v r)) := by
  intro l1 l h
  match l1, h with
  | .d (.int i), h =>
    cases h
    refine ⟨fun v H Q => v = .int i ∧ Q (.int i) H, callOf1 call_int1 fun v H Q q => .inl ⟨i, by rw [q.1], q.2⟩, fun v A H Q c k => ?_⟩
    obtain ⟨rfl, rfl⟩ := co_int c
    exact ⟨rfl, k.nil (.int _)⟩
  | .d (.bool b), h =>
    cases h
    refine ⟨fun v H Q => v = .bl b ∧ Q (.int (if b then 1 else 0)) H, callOf1 call_int1 fun v H Q q => .inr ⟨b, by rw [q.1], q.2⟩, fun v A H Q c k => ?_⟩
    obtain ⟨rfl, rfl⟩ := co_bool c
    exact ⟨rfl, k.nil (.int _)⟩
theorem pr_str : one_ .str := one_mk rfl fun _ _ _ => rfl
theorem sem_str : Sem1 C .str (fun r => CallR X (.type "str") (r1v r)) := by
  intro l1 l h
  match l1, h with
  | .d (.int i), h =>
    by_cases hz : i.natAbs.log2 < 1920
    · have e : l = .d (.str (toString i : String)) := by simpa [pd, hz] using h.symm
      subst e
      refine ⟨fun v H Q => v = .int i ∧ Q (.str (toString i : String)) H, callOf1 call_str_int fun v H Q q => ⟨i, by rw [q.1], hz, q.2⟩, fun v A H Q c k => ?_⟩
      obtain ⟨rfl, rfl⟩ := co_int c
      exact ⟨rfl, k.nil (.str _)⟩
    · simp [pd, hz] at h
  | .d (.str x), h =>
    cases h
    refine ⟨fun v H Q => v = .str x ∧ Q (.str x) H, callOf1 SkE.call_str_str fun v H Q q => ⟨x, by rw [q.1], q.2⟩, fun v A H Q c k => ?_⟩
    obtain ⟨rfl, rfl⟩ := co_str c
    exact ⟨rfl, k.nil (.str _)⟩
/-- repr of data without dicts, where no repr is under way -/
theorem call_reprD {d : PyData} (hg : X.A.guards = some []) (hs : d.showable = true) (hd : d.hasDict = false) (hz : d.shown.length ≤ sizeLine) (hu : X.A.units + (d.depth + 1) < cLine) : CallR X (.builtin "repr") (r1v fun v H Q => Dp X.K H v d ∧ Q (.str d.shown) H) := by
  intro pins s σ H xs us Q I rr h
  match xs, h with
  | [], h => exact h.elim
  | _ :: _ :: _, h => exact h.elim
  | [v], h =>
    obtain ⟨hv, q⟩ := h
    obtain ⟨u, rfl, ru⟩ := vals1 rr
    obtain ⟨as, r⟩ := Dp.reads I d v u hv ru
    have big : ∀ a, u = .ref a → wpAny (model X.prog X.w) X.A (call (.builtin "repr") [u]) (EP X pins σ Q) X.xe s := fun a e => by
      subst e
      exact repr_of_reads' r hs (fun z => by rw [hd] at z; cases z) hg hu (fun _ _ z => z) (fun h' t tk k => ⟨.str _, H, I.kept k, ⟨t, rfl⟩, q⟩) hz
    cases hv with
    | non => cases r; exact PySem.P.repr_of_none ⟨.str _, H, I.tok _, ⟨_, rfl⟩, q⟩
    | bl b => cases r; exact PySem.P.repr_of_bool ⟨.str _, H, I.tok _, ⟨_, rfl⟩, q⟩
    | int i => cases r; exact PySem.P.repr_of_int (of_decide_eq_true hs) ⟨.str _, H, I.tok _, ⟨_, rfl⟩, q⟩
    | str x => cases r; exact PySem.P.repr_of_str ⟨.str _, H, I.tok _, ⟨_, rfl⟩, q⟩ hz
    | lst _ _ => exact big _ ru
    | tup _ _ => exact big _ ru
theorem pr_repr : one_ .repr := one_mk rfl fun _ _ _ => rfl
theorem sem_repr (hg : X.A.guards = some []) (hu : X.A.units + 64 < cLine) : Sem1 C .repr (fun r => C.M.K = X.K → CallR X (.builtin "repr") (r1v r)) := by
  intro l1 l h
  by_cases hz : l1.dat.showable = true ∧ l1.dat.hasDict = false ∧ l1.dat.depth ≤ 60 ∧ l1.dat.shown.length ≤ sizeLine
  · have e : l = .d (.str l1.dat.shown) := by simpa [pd, hz] using h.symm
    subst e
    exact ⟨fun v H Q => Dp C.M.K H v l1.dat ∧ Q (.str l1.dat.shown) H, fun e => e ▸ call_reprD hg hz.1 hz.2.1 hz.2.2.2 (by have := hz.2.2.1; omega), fun v A H Q c k => ⟨c.dp hz.2.1, k.nil (.str _)⟩⟩
  · exfalso
    have h : (if l1.dat.showable = true ∧ l1.dat.hasDict = false ∧ l1.dat.depth ≤ 60 ∧ l1.dat.shown.length ≤ sizeLine then some (Fl.d (.str l1.dat.shown)) else none) = some l := h
    rw [if_neg hz] at h
    cases h

/-! ### min, max of two -/
theorem pr_min2 : two_ .min2 := two_mk rfl (fun _ => rfl) fun _ _ _ _ => rfl
theorem pr_max2 : two_ .max2 := two_mk rfl (fun _ => rfl) fun _ _ _ _ => rfl
theorem sem_min2 (hc : X.calm = true) : Sem2 C .min2 (fun r => CallR X (.builtin "min") (r2 r)) := by
  intro l1 l2 l h
  match l1, l2, h with
  | .d (.int i), .d (.int j), h =>
    cases h
    refine ⟨fun x y H Q => x = .int i ∧ y = .int j ∧ Q (.int (if j < i then j else i)) H, fun pins s σ H xs us Q I rr q => ?_, fun v1 v2 A1 A2 H Q c1 c2 k => ?_⟩
    · match xs, q with
      | [_, _], ⟨rfl, rfl, q⟩ => exact call_min2 hc pins s σ H _ us Q I rr ⟨i, j, rfl, q⟩
      | [], q => exact q.elim
      | [_], q => exact q.elim
      | _ :: _ :: _ :: _, q => exact q.elim
    · obtain ⟨rfl, rfl⟩ := co_int c1
      obtain ⟨rfl, rfl⟩ := co_int c2
      exact ⟨rfl, rfl, k.nil (.int _)⟩
theorem sem_max2 (hc : X.calm = true) : Sem2 C .max2 (fun r => CallR X (.builtin "max") (r2 r)) := by
  intro l1 l2 l h
  match l1, l2, h with
  | .d (.int i), .d (.int j), h =>
    cases h
    refine ⟨fun x y H Q => x = .int i ∧ y = .int j ∧ Q (.int (if j > i then j else i)) H, fun pins s σ H xs us Q I rr q => ?_, fun v1 v2 A1 A2 H Q c1 c2 k => ?_⟩
    · match xs, q with
      | [_, _], ⟨rfl, rfl, q⟩ => exact call_max2 hc pins s σ H _ us Q I rr ⟨i, j, rfl, q⟩
      | [], q => exact q.elim
      | [_], q => exact q.elim
      | _ :: _ :: _ :: _, q => exact q.elim
    · obtain ⟨rfl, rfl⟩ := co_int c1
      obtain ⟨rfl, rfl⟩ := co_int c2
      exact ⟨rfl, rfl, k.nil (.int _)⟩
theorem call_0' {f : Value} : CallR X f (r2 r0) := by
  intro pins s σ H xs us Q I r h
  match xs, h with
  | [_, _], h => exact h.elim
  | [], h => exact h.elim
  | [_], h => exact h.elim
  | _ :: _ :: _ :: _, h => exact h.elim

/-! ### -a, is None -/
theorem pr_neg : one_ .neg := one_mk rfl fun _ _ _ => rfl
theorem un_0 {f : Value → Sem Value} : UnR X f r10 := fun _ _ _ _ _ _ _ _ _ h => h.elim
theorem rule_un {op : UnaryOp} {a : Expr} {pos : Pos} {r : R1} (ho : UnR X (unaryOp op) r) {σ : L2.St} {H : Hp} {Q : VK} (h : WAs X [a] σ H (fun vs H1 => r1v r vs H1 Q)) : WE X (.UnaryOp op a pos) σ H Q := we_of (pe_un ho pe_we) (show tUn r (WE X a) σ H Q from h)
theorem sem_neg : Sem1 C .neg (UnR X (unaryOp .USub)) := by
  intro l1 l h
  match l1, h with
  | .d (.int i), h =>
    cases h
    refine ⟨_, un_neg, fun v A H Q c k => ?_⟩
    obtain ⟨rfl, rfl⟩ := co_int c
    exact ⟨i, rfl, k.nil (.int _)⟩
def rN1 (r : R2) : R1 := fun x H Q => r x .non H Q
theorem rule_isN {op : CmpOp} {a : Expr} {j : Nat} {p pos : Pos} {r : R2} (ho : OpR X (compareOp op) r) (hm : behindInMarks op (.Constant .none j p) = false) {σ : L2.St} {H : Hp} {Q : VK} (h : WAs X [a] σ H (fun vs H1 => r1v (rN1 r) vs H1 Q)) : WE X (.Compare a [op] [.Constant .none j p] pos) σ H Q :=
  we_of (pe_cmpR ho pe_we pe_non hm) (show tOp r (WE X a) (tC .non) σ H Q from h)
theorem co_none {K : PySem.W.Frag} {H : Hp} {l : Fl} {v : V} {A : List Addr} (h : CoR K H l v A) : (l = .d .none → v = .non) ∧ (l ≠ .d .none → v ≠ .non) := by
  cases h with
  | d r => cases r <;> exact ⟨fun e => (by first | rfl | (cases e)), fun e z => (by first | (exact absurd rfl e) | (cases z))⟩
  | ls _ _ => exact ⟨fun e => (by cases e), fun _ z => (by cases z)⟩
theorem pr_isN : one_ .isN := one_mk rfl fun _ _ _ => rfl
theorem pr_notN : one_ .notN := one_mk rfl fun _ _ _ => rfl
theorem isN_cases {l1 l : Fl} (h : pd .isN [l1] = some l) : (l1 = .d .none ∧ l = .d (.bool true)) ∨ (l1 ≠ .d .none ∧ l = .d (.bool false)) := by
  by_cases e : l1 = .d .none
  · subst e; cases h; exact .inl ⟨rfl, rfl⟩
  · refine .inr ⟨e, ?_⟩
    match l1, e, h with
    | .ls _, _, h => cases h; rfl
    | .d (.bool _), _, h => cases h; rfl
    | .d (.int _), _, h => cases h; rfl
    | .d (.str _), _, h => cases h; rfl
    | .d (.list _), _, h => cases h; rfl
    | .d (.tuple _), _, h => cases h; rfl
    | .d (.dict _), _, h => cases h; rfl
    | .d .none, e, _ => exact absurd rfl e
theorem notN_cases {l1 l : Fl} (h : pd .notN [l1] = some l) : (l1 = .d .none ∧ l = .d (.bool false)) ∨ (l1 ≠ .d .none ∧ l = .d (.bool true)) := by
  by_cases e : l1 = .d .none
  · subst e; cases h; exact .inl ⟨rfl, rfl⟩
  · refine .inr ⟨e, ?_⟩
    match l1, e, h with
    | .ls _, _, h => cases h; rfl
    | .d (.bool _), _, h => cases h; rfl
    | .d (.int _), _, h => cases h; rfl
    | .d (.str _), _, h => cases h; rfl
    | .d (.list _), _, h => cases h; rfl
    | .d (.tuple _), _, h => cases h; rfl
    | .d (.dict _), _, h => cases h; rfl
    | .d .none, e, _ => exact absurd rfl e
theorem sem_isN : Sem1 C .isN (fun r1 => ∃ r, r1 = rN1 r ∧ OpR X (compareOp .Is) r) := by
  intro l1 l h
  refine ⟨_, ⟨_, rfl, op_isN⟩, fun v A H Q c k => ⟨rfl, ?_⟩⟩
  rcases isN_cases h with ⟨e, rfl⟩ | ⟨e, rfl⟩
  · rw [(co_none c).1 e]; exact k.nil (.bool true)
  · rw [decide_eq_false ((co_none c).2 e)]; exact k.nil (.bool false)
theorem sem_notN : Sem1 C .notN (fun r1 => ∃ r, r1 = rN1 r ∧ OpR X (compareOp .IsNot) r) := by
  intro l1 l h
  refine ⟨_, ⟨_, rfl, op_notN⟩, fun v A H Q c k => ⟨rfl, ?_⟩⟩
  rcases notN_cases h with ⟨e, rfl⟩ | ⟨e, rfl⟩
  · rw [(co_none c).1 e]; exact k.nil (.bool false)
  · rw [decide_eq_false ((co_none c).2 e)]; exact k.nil (.bool true)

/-! ### isinstance -/
theorem isi_tab : ∀ x ∈ ["NoneType", "bool", "int", "str", "list", "tuple", "dict"], ∀ T ∈ ["int", "bool", "str", "tuple", "list", "dict"], kitB x T = some (decide (x = T) || (decide (x = "bool") && decide (T = "int"))) := by decide +kernel
theorem tyName_mem (d : PyData) : tyName d ∈ ["NoneType", "bool", "int", "str", "list", "tuple", "dict"] := by cases d <;> simp [tyName]
theorem isiB_ok {x T : String} {b : Bool} (hx : x ∈ ["NoneType", "bool", "int", "str", "list", "tuple", "dict"]) (h : isiB x T = some b) : kitB x T = some b := by
  unfold isiB at h
  split at h
  · rename_i hT
    rw [isi_tab x hx T (by simpa using hT)]
    simpa using h
  · cases h
theorem fz_ty {K : PySem.W.Frag} {H : Hp} {a : Addr} {xs : List V} (h : SqL K H a xs) : TyX K H (.ref a) (.type "list") := by
  rcases h with (h | ⟨o, h⟩) | ⟨o, its, n, h1, h2, h3⟩
  · exact .base (.lst h)
  · exact .base (.frz h)
  · exact .kList h1 h2
theorem tq_ty {K : PySem.W.Frag} {H : Hp} {a : Addr} {xs : List V} (h : SqT K H a xs) : TyX K H (.ref a) (.type "tuple") := by
  rcases h with (h | ⟨o, h⟩) | ⟨o, its, n, h1, h2, h3⟩
  · exact .base (.tup h)
  · exact .fTuple h
  · exact .kTuple h1 h2
theorem co_ty {K : PySem.W.Frag} {H : Hp} {l : Fl} {v : V} {A : List Addr} (h : CoR K H l v A) : TyX K H v (.type (tyName l.dat)) := by
  cases h with
  | ls e r => exact .base (.lst e)
  | d r =>
    cases r with
    | none => exact .base .non
    | bool b => exact .base (.bl b)
    | int i => exact .base (.int i)
    | str x => exact .base (.str x)
    | tup h _ => exact tq_ty h
    | lst h _ => exact .base (.lst h)
    | fix h _ => exact fz_ty h.1
    | dct h _ _ => exact .base (.dK h)
def rIs1 (K : PySem.W.Frag) (T : String) (b : Bool) : R1 := fun v H Q => (∃ x, TyX K H v (.type x) ∧ kitB x T = some b) ∧ Q (.bl b) H
theorem pr_isi {T : String} : one_ (.isi T) := one_mk rfl fun _ _ _ => rfl
theorem sem_isi {T : String} : Sem1 C (.isi T) (fun r => ∃ b, r = rIs1 C.M.K T b ∨ r = r10) := by
  intro l1 l h
  obtain ⟨b, hb, rfl⟩ := Option.map_eq_some_iff.mp (show (isiB (tyName l1.dat) T).map (fun k => Fl.d (.bool k)) = some l from h)
  exact ⟨_, ⟨b, .inl rfl⟩, fun v A H Q c k => ⟨⟨_, co_ty c, isiB_ok (tyName_mem _) hb⟩, k.nil (.bool _)⟩⟩
theorem rule_isi (hK : C.M.K = X.K) {T : String} {a : Expr} {x y : Str} {p py pos : Pos} (hg : X.env.kindOf x = some .globalImplicit) (hm : X.mg x = none) (hx : x = "isinstance") (hgy : X.env.kindOf y = some .globalImplicit) (hmy : X.mg y = none) (hy : bootBuiltins y = some (.type T)) (hny : y ≠ "__name__") (hdy : (y == ("__debug__" : Str)) = false) (hs : notStar a = true)
    {r : R1} (hr : ∃ b, r = rIs1 C.M.K T b ∨ r = r10) {σ : L2.St} {H : Hp} {Q : VK} (h : WAs X [a] σ H (fun vs H1 => r1v r vs H1 Q)) : WE X (.Call (.Name x p) [a, .Name y py] [] pos) σ H Q := by
  subst hx
  have pa : PA X [a, .Name y py] (tCons (WE X a) (tCons (tC (.ty T)) tNil)) := pa_cons pe_we (pa_cons (pe_bltn hgy hmy hy rfl hny hdy) pa_nil) (star_each hs)
  refine we_of (pe_callB (r := fun vs H Q => ∃ v, vs = [v, .ty T] ∧ r v H Q) (fun pins s σ H xs us Q I rr q => ?_) hg hm PyProof.Rows.boot_isinstance pa (by decide) (by decide) (star_each hs) rfl) (show WE X a σ H (fun v H1 => ∃ v', [v, V.ty T] = [v', .ty T] ∧ r v' H1 Q) from WE.mono h fun v H1 q => ⟨v, rfl, q⟩)
  obtain ⟨v, rfl, q⟩ := q
  obtain ⟨b, e | e⟩ := hr
  · subst e
    obtain ⟨⟨t, ht, hk⟩, q⟩ := q
    rw [hK] at ht
    exact call_isi pins s σ H _ us Q I rr ⟨v, .ty T, .type t, .type T, b, rfl, .ty T, ht, kit_ty hk, q⟩
  · subst e
    exact q.elim
end
end DL

set_option maxRecDepth 100000
set_option maxHeartbeats 4000000
/-! DL11: displays; methods of lists and texts; a slice with two ends. -/
namespace DL
open PySem PySem.Spec L2

section
variable {M : Md} {Z : Addr → Prop} {q : Bool} {σ : L2.St} {H0 H : Hp} {W0 : List Addr} {ρ ρ' : Rho}
theorem toDs_ok : ∀ {ts : List Tok} {vs : List V} {w as W : List Addr} {ρ ρ' : Rho} {xs : List PyData}, Sim M Z ρ σ H W → ToksR M σ H ts vs w as → Clean Z W w as → toDs ts ρ = some (xs, ρ') →
    ∃ W' as', Sim M Z ρ' σ H W' ∧ (∀ a ∈ W', a ∈ W) ∧ RepDs M.K H vs xs as' ∧ Off Z W' as' ∧ ρ'.length = ρ.length
  | [], _, _, _, W, _, _, _, S, r, c, e => by
    cases r
    simp [toDs] at e
    obtain ⟨rfl, rfl⟩ := e
    exact ⟨W, [], S, fun _ h => h, .nil, by intro a ha; simp at ha, rfl⟩
  | t :: ts, _, _, _, W, ρ, ρ', _, S, r, c, e => by
    cases r with
    | @cons _ v w1 as1 _ vs w2 as2 r1 r2 =>
      unfold toDs at e
      cases e1 : toD t ρ with
      | none => rw [e1] at e; cases e
      | some p1 =>
        obtain ⟨x, ρ1⟩ := p1
        rw [e1] at e
        simp only at e
        cases e2 : toDs ts ρ1 with
        | none => rw [e2] at e; cases e
        | some p2 =>
          obtain ⟨xs, ρ2⟩ := p2
          rw [e2] at e
          cases e
          obtain ⟨W1, b1, S1, sub1, rep1, off1, _, len1⟩ := toD_ok S r1 (fun a ha => ⟨(c.sup a (by simp [ha])).1, (c.sup a (by simp [ha])).2.1⟩) (fun a ha => c.out a (by simp [ha])) e1
          have c2 : Clean Z W1 w2 as2 := ⟨fun a ha => ⟨fun h => (c.sup a (by simp [ha])).1 (sub1 a h), (c.sup a (by simp [ha])).2.1, fun h => (c.sup a (by simp [ha])).2.2 (by simp [h])⟩, by have := c.nd; rw [List.nodup_append] at this; exact this.2.1, fun a ha => ⟨fun h => (c.out a (by simp [ha])).1 (sub1 a h), (c.out a (by simp [ha])).2⟩⟩
          obtain ⟨W2, b2, S2, sub2, rep2, off2, len2⟩ := toDs_ok S1 r2 c2 e2
          exact ⟨W2, b1 ++ b2, S2, fun a h => sub1 a (sub2 a h), .cons rep1 rep2, (off1.anti sub2).append off2, len2.trans len1⟩
/-- behind toDs, nothing owned by the operands any more -/
theorem gots_data {ts : List Tok} {vs : List V} {xs : List PyData} (g : Gots M Z q H0 W0 ts ρ σ vs H) (e : toDs ts ρ = some (xs, ρ')) :
    ∃ W as, Post q H0 W0 H W ∧ Sim M Z ρ' σ H W ∧ RepDs M.K H vs xs as ∧ Off Z W as := by
  obtain ⟨W, w, as, p, S, r, c⟩ := g.ex
  obtain ⟨W', as', S', sub, rep, off, _⟩ := toDs_ok (S.weak fun a h => .inl h) r c e
  exact ⟨W', as', p.sub fun a h => List.mem_append_left _ (sub a h), S', rep, off⟩
/-- a new object over a state -/
theorem Post.alloc {W : List Addr} {p : Addr} {o : HO} (P : Post q H0 W0 H W) (hp : H p = none) : Post q H0 W0 (upd H p o) (W ++ [p]) where
  keep := fun b u e hb => same_upd hp _ _ (P.keep b u e hb)
  trk := fun b u e => let ⟨u', e'⟩ := P.trk b u e; ⟨u', same_upd hp _ _ e'⟩
  new := fun b hb => by
    rcases List.mem_append.mp hb with h | h
    · exact P.new b h
    · simp at h; subst h
      cases e : H0 b with
      | none => exact .inr rfl
      | some u => obtain ⟨u', e'⟩ := P.trk b u e; rw [hp] at e'; cases e'
  ins := fun hq b C dx fs e => same_upd hp _ _ (P.ins hq b C dx fs e)
theorem Sim.same {W : List Addr} {H' : Hp} (S : Sim M Z ρ σ H W) (sm : Same H H') : Sim M Z ρ σ H' W := by
  obtain ⟨A, sl, ap⟩ := S.sls
  exact ⟨⟨A, sl.stay (B := W ++ A) (Stay.ofSame sm) (fun a h => by simp [h]) fun a h => by simp [h], ap⟩, S.nd, S.nz⟩
/-- what is new is nobody's -/
theorem Sim.fresh {W : List Addr} {p : Addr} {o : HO} (S : Sim M Z ρ σ H W) (hz : ZT Z H) (hp : H p = none) : Sim M (orL Z [p]) ρ σ (upd H p o) W ∧ p ∉ W ∧ ¬ Z p := by
  have nW : p ∉ W := fun h => by obtain ⟨u, e, _⟩ := S.own p h; rw [hp] at e; cases e
  have nZ : ¬ Z p := fun h => by obtain ⟨u, e, _⟩ := hz p h; rw [hp] at e; cases e
  obtain ⟨A, sl, ap⟩ := (S.same (same_upd hp (o := o))).sls
  obtain ⟨A0, sl0, ap0⟩ := S.sls
  have S1 := S.same (same_upd hp (o := o))
  refine ⟨⟨⟨A0, sl0.stay (B := W ++ A0) (Stay.ofSame (same_upd hp)) (fun a h => by simp [h]) (fun a h => by simp [h]), fun a ha => ⟨(ap0 a ha).1, fun z => z.elim (ap0 a ha).2 fun h => ?_⟩⟩, S.nd, fun a ha z => z.elim (S.nz a ha) fun h => ?_⟩, nW, nZ⟩
  · simp at h; subst h
    obtain ⟨u, e⟩ := sl0.trk a ha
    rw [hp] at e; cases e
  · simp at h; subst h; exact nW ha
theorem got_tup {vs : List V} {xs : List PyData} {W as : List Addr} {p : Addr} (P : Post q H0 W0 H W) (S : Sim M Z ρ σ H W) (hz : ZT Z H) (hp : H p = none) (r : RepDs M.K H vs xs as) (off : Off Z W as) : Got M Z q H0 W0 (.lf (.d (.tuple xs))) ρ σ (.ref p) (upd H p (.tup vs)) := by
  refine ⟨W, [], as, by simpa using (P.alloc (o := .tup vs) hp).sub (W3 := W) fun a h => by simp [h], (S.same (same_upd hp)).weak fun a h => h.elim id fun z => (by simp at z), .lf (.d (.tup (SqT.of upd_same) (r.stay (Stay.ofSame (same_upd hp) (A := as)) fun _ h => h))), ⟨fun a ha => ⟨(off a ha).1, (off a ha).2, by simp⟩, .nil, by simp⟩⟩
theorem got_lst {vs : List V} {xs : List PyData} {W as : List Addr} {p : Addr} (P : Post q H0 W0 H W) (S : Sim M Z ρ σ H W) (hz : ZT Z H) (hp : H p = none) (r : RepDs M.K H vs xs as) (off : Off Z W as) : Got M Z q H0 W0 (.lf (.ls xs)) ρ σ (.ref p) (upd H p (.lst vs)) := by
  obtain ⟨S1, nW, nZ⟩ := S.fresh (o := .lst vs) hz hp
  have tr := r.trk
  refine ⟨W, [p], as, P.alloc hp, S1, .lf (.ls upd_same (r.stay (Stay.ofSame (same_upd hp) (A := as)) fun _ h => h)), ⟨fun a ha => ⟨(off a ha).1, (off a ha).2, fun h => ?_⟩, by simp, fun a ha => by simp at ha; subst ha; exact ⟨nW, nZ⟩⟩⟩
  simp at h; subst h
  obtain ⟨u, e⟩ := tr a ha
  rw [hp] at e; cases e
/-- shared data, nothing new -/
theorem got_data {v : V} {x : PyData} {W as : List Addr} (P : Post q H0 W0 H W) (S : Sim M Z ρ σ H W) (r : RepD M.K H v x as) (off : Off Z W as) : Got M Z q H0 W0 (.lf (.d x)) ρ σ v H :=
  ⟨W, [], as, by simpa using P, S.weak fun a h => h.elim id fun z => (by simp at z), .lf (.d r), ⟨fun a ha => ⟨(off a ha).1, (off a ha).2, by simp⟩, .nil, by simp⟩⟩
end

section
variable {C : Cst} {Wx : WX} {X : Cx}
/-! ### (a, b), [a, b] -/
theorem good_tup {es : List Expr} {xs : List Ex} {ev : Ex → Rho → Out Tok} {k : Nat} {pos : Pos} (hs : es.all notStar = true) (h : GoodL C Wx X es (noCalls xs) (evL ev xs)) :
    GoodE C Wx X (.Tuple es k pos) (noCall (.p .tup xs)) (fun ρ => (evL ev xs ρ).bind fun ts ρ1 => ofOpt (prm .tup ts ρ1)) := by
  intro Z ρ σ H W Q S hz hr
  have ne : noCall (.p .tup xs) = noCalls xs := by simp [noCall]
  simp only at hr
  have rule : ∀ Q', (∀ vs H1, Q' vs H1 → vs.length ≤ sizeLine ∧ ∀ p, H1 p = none → Q (.ref p) (upd H1 p (.tup vs))) → WAs X es σ H Q' → WE X (.Tuple es k pos) σ H Q := fun Q' hq hw => we_of (pe_tup (pa_was hs)) (show tTup (WAs X es) σ H Q from WAs.mono hw fun vs H1 z => hq vs H1 z)
  cases hx : evL ev xs ρ with
  | no => rw [hx] at hr; exact hr.elim
  | ex er ρ1 => rw [hx] at hr; exact rule (fun _ _ => False) (fun _ _ z => z.elim) (h Z ρ σ H W _ S hz (by rw [hx]; exact hr))
  | ok ts ρ1 =>
    rw [hx] at hr
    simp only [Out.bind_ok] at hr
    cases hd : toDs ts ρ1 with
    | none => simp [prm, hd] at hr; exact hr.elim
    | some pr =>
      obtain ⟨ds, ρ2⟩ := pr
      by_cases hl : ds.length ≤ sizeLine
      · simp [prm, hd, hl] at hr
        refine rule _ (fun vs H1 z => z) (h Z ρ σ H W (fun vs H1 => vs.length ≤ sizeLine ∧ ∀ p, H1 p = none → Q (.ref p) (upd H1 p (.tup vs))) S hz ?_)
        rw [hx]
        intro vs H1 g
        obtain ⟨W1, as, P, S1, r, off⟩ := gots_data g hd
        have hz1 : ZT Z H1 := P.z hz S.nz
        refine ⟨by rw [r.length]; exact hl, fun p hp => hr _ _ (by rw [ne]; exact got_tup P S1 hz1 hp r off)⟩
      · simp [prm, hd, hl] at hr; exact hr.elim
theorem good_lst {es : List Expr} {xs : List Ex} {ev : Ex → Rho → Out Tok} {pos : Pos} (hs : es.all notStar = true) (h : GoodL C Wx X es (noCalls xs) (evL ev xs)) :
    GoodE C Wx X (.List es pos) (noCall (.p .lst xs)) (fun ρ => (evL ev xs ρ).bind fun ts ρ1 => ofOpt (prm .lst ts ρ1)) := by
  intro Z ρ σ H W Q S hz hr
  have ne : noCall (.p .lst xs) = noCalls xs := by simp [noCall]
  simp only at hr
  have rule : ∀ Q', (∀ vs H1, Q' vs H1 → vs.length ≤ sizeLine ∧ ∀ p, H1 p = none → Q (.ref p) (upd H1 p (.lst vs))) → WAs X es σ H Q' → WE X (.List es pos) σ H Q := fun Q' hq hw => we_of (pe_lst (pa_was hs)) (show tLst (WAs X es) σ H Q from WAs.mono hw fun vs H1 z => hq vs H1 z)
  cases hx : evL ev xs ρ with
  | no => rw [hx] at hr; exact hr.elim
  | ex er ρ1 => rw [hx] at hr; exact rule (fun _ _ => False) (fun _ _ z => z.elim) (h Z ρ σ H W _ S hz (by rw [hx]; exact hr))
  | ok ts ρ1 =>
    rw [hx] at hr
    simp only [Out.bind_ok] at hr
    cases hd : toDs ts ρ1 with
    | none => simp [prm, hd] at hr; exact hr.elim
    | some pr =>
      obtain ⟨ds, ρ2⟩ := pr
      by_cases hl : ds.length ≤ sizeLine
      · simp [prm, hd, hl] at hr
        refine rule _ (fun vs H1 z => z) (h Z ρ σ H W (fun vs H1 => vs.length ≤ sizeLine ∧ ∀ p, H1 p = none → Q (.ref p) (upd H1 p (.lst vs))) S hz ?_)
        rw [hx]
        intro vs H1 g
        obtain ⟨W1, as, P, S1, r, off⟩ := gots_data g hd
        have hz1 : ZT Z H1 := P.z hz S.nz
        refine ⟨by rw [r.length]; exact hl, fun p hp => hr _ _ (by rw [ne]; exact got_lst P S1 hz1 hp r off)⟩
      · simp [prm, hd, hl] at hr; exact hr.elim

/-! ### methods -/
def recvTy : Pr → String
  | .split => "str"
  | .join => "str"
  | _ => "list"
/-- a receiver, then the arguments -/
theorem good_m {o e : Expr} {es : List Expr} {xo : Ex} {xs : List Ex} {op : Pr} {r : V → List V → Hp → VK → Prop} {ev : Ex → Rho → Out Tok}
    (rule : ∀ σ H Q, (WE X o σ H fun x H1 => tyV C.M.K (recvTy op) x H1 ∧ WAs X es σ H1 fun vs H2 => r x vs H2 Q) → WE X e σ H Q)
    (sem : ∀ (Z : Addr → Prop) (q : Bool) (σ : L2.St) (H0 : Hp) (W0 : List Addr) (t : Tok) (ts : List Tok) (ρ : Rho) (v : V) (vs : List V) (H : Hp) (t' : Tok) (ρ' : Rho) (Q : VK), ZT Z H0 → (∀ a ∈ W0, ¬ Z a) → Gots C.M Z q H0 W0 (t :: ts) ρ σ (v :: vs) H → prm op (t :: ts) ρ = some (t', ρ') → (∀ v' H', Got C.M Z q H0 W0 t' ρ' σ v' H' → Q v' H') → r v vs H Q)
    (ho : GoodE C Wx X o (noCall xo) (ev xo)) (h : GoodL C Wx X es (noCalls xs) (evL ev xs)) :
    GoodE C Wx X e (noCall (.m op xo xs)) (fun ρ => (ev xo ρ).bind fun t ρ1 => if isPf t && !(noCalls xs) then .no else match rd ρ1 t with
      | some l => if recvOk op l then (evL ev xs ρ1).bind fun ts ρ2 => ofOpt (prm op (t :: ts) ρ2) else .no
      | none => .no) := by
  intro Z ρ σ H W Q S hz hr
  have ne : noCall (.m op xo xs) = (noCall xo && noCalls xs) := by simp [noCall]
  simp only at hr
  refine rule σ H Q (ho Z ρ σ H W _ S hz ?_)
  cases hx : ev xo ρ with
  | no => rw [hx] at hr; exact hr
  | ex er ρ1 => rw [hx] at hr; exact hr
  | ok t ρ1 =>
    rw [hx] at hr
    simp only [Out.bind_ok] at hr
    intro v H1 g
    obtain ⟨W1, w, as, p, S1, rt, c⟩ := g.ex
    have hz0 : ZT Z H1 := p.z hz S.nz
    have hz1 : ZT (orL Z w) H1 := hz0.orL rt.own
    split at hr
    · exact hr.elim
    · rename_i hpf
      have hpf' : isPf t = true → noCalls xs = true := fun hi => by
        cases hn : noCalls xs with
        | true => rfl
        | false => simp [hi, hn] at hpf
      cases hl : rd ρ1 t with
      | none => rw [hl] at hr; exact hr.elim
      | some l =>
        rw [hl] at hr
        simp only at hr
        split at hr
        · rename_i hok
          refine ⟨?_, h (orL Z w) ρ1 σ H1 W1 _ S1 hz1 ?_⟩
          · obtain ⟨A, co, _⟩ := rd_ok (S1.weak (Z' := Z) fun a z => .inl z) rt (fun a ha => ⟨(c.sup a ha).1, (c.sup a ha).2.1⟩) hl
            match op, l, hok with
            | .append, .ls _, _ => cases co with | ls e _ => exact .inl ⟨rfl, _, SqL.of e⟩
            | .pop, .ls _, _ => cases co with | ls e _ => exact .inl ⟨rfl, _, SqL.of e⟩
            | .extend, .ls _, _ => cases co with | ls e _ => exact .inl ⟨rfl, _, SqL.of e⟩
            | .split, .d (.str _), _ => obtain ⟨rfl, _⟩ := co_str co; rfl
            | .join, .d (.str _), _ => obtain ⟨rfl, _⟩ := co_str co; rfl
          · cases hy : evL ev xs ρ1 with
            | no => rw [hy] at hr; exact hr
            | ex er ρ2 => rw [hy] at hr; exact ExOk.behind hr p fun a z => .inl z
            | ok ts ρ2 =>
              rw [hy] at hr
              simp only [Out.bind_ok] at hr
              intro vs H2 g2
              have z := Got.cons hz0 p S1 rt c hpf' g2
              cases hp : prm op (t :: ts) ρ2 with
              | none => rw [hp] at hr; exact hr.elim
              | some pr =>
                obtain ⟨t', ρ'⟩ := pr
                rw [hp] at hr
                exact sem Z _ σ H W t ts ρ2 v vs H2 t' ρ' Q hz S.nz z hp (by rw [← ne]; exact hr)
        · exact hr.elim
/-- the one argument of a method -/
theorem meth_hfew {e : Expr} {cpos : Pos} {env : Env} (hs : notStar e = true) : ((backTo cpos (starEach [e] env)).all (fun x => !x.1) && (backToKw cpos (keywordEach [] env)).all (fun x => x.1.isSome) && decide (([e] : List Expr).length + ([] : List Keyword).length + (if ([] : List Keyword).isEmpty then 0 else 1) < 30)) = true := by
  rw [star_each hs]
  rfl
theorem rule_bm {T : String} {name : Str} {id : String} {o e : Expr} {apos cpos : Pos} {r : V → List V → Hp → VK → Prop} (hK : C.M.K = X.K) (pa : PlainAttrs T) (slot : Slot T name id) (hty : typeOf (.builtin id) = pure (.type "method_descriptor")) (hm : MtR X id r)
    (hbase : attributeBase o name X.env (eval o X.env) = eval o X.env) (hline : (apos.endLine == cpos.line) = true) (hs : notStar e = true) {σ : L2.St} {H : Hp} {Q : VK} (h : WE X o σ H fun x H1 => tyV C.M.K T x H1 ∧ WAs X [e] σ H1 fun vs H2 => r x vs H2 Q) :
    WE X (.Call (.Attribute o name apos) [e] [] cpos) σ H Q := by
  rw [hK] at h
  exact we_of (pe_bm pa slot hty hm pe_we (pa_was (es := [e]) (by simp [hs])) hbase (meth_hfew hs) hline (star_each hs) rfl) (show tBM X.K T r (WE X o) (WAs X [e]) σ H Q from h)
theorem rule_bm0 {T : String} {name : Str} {id : String} {o : Expr} {apos cpos : Pos} {r : V → List V → Hp → VK → Prop} (hK : C.M.K = X.K) (pa : PlainAttrs T) (slot : Slot T name id) (hty : typeOf (.builtin id) = pure (.type "method_descriptor")) (hm : MtR X id r)
    (hbase : attributeBase o name X.env (eval o X.env) = eval o X.env) (hline : (apos.endLine == cpos.line) = true) {σ : L2.St} {H : Hp} {Q : VK} (h : WE X o σ H fun x H1 => tyV C.M.K T x H1 ∧ WAs X [] σ H1 fun vs H2 => r x vs H2 Q) :
    WE X (.Call (.Attribute o name apos) [] [] cpos) σ H Q := by
  rw [hK] at h
  exact we_of (pe_bm0 pa slot hty hm pe_we hbase hline) (show tBM0 X.K T r (WE X o) σ H Q from h)
theorem pd_ap : ∀ ls, pd .append ls = none
  | [] => rfl
  | [_] => rfl
  | [_, _] => rfl
  | _ :: _ :: _ :: _ => rfl
theorem pd_po : ∀ ls, pd .pop ls = none
  | [] => rfl
  | [_] => rfl
  | [_, _] => rfl
  | _ :: _ :: _ :: _ => rfl
/-- append: what is given up, then the new list -/
theorem sem_append (Z : Addr → Prop) (q : Bool) (σ : L2.St) (H0 : Hp) (W0 : List Addr) (t : Tok) (ts : List Tok) (ρ : Rho) (v : V) (vs : List V) (H : Hp) (t' : Tok) (ρ' : Rho) (Q : VK) (hz : ZT Z H0) (hn : ∀ a ∈ W0, ¬ Z a) (g : Gots C.M Z q H0 W0 (t :: ts) ρ σ (v :: vs) H)
    (e : prm .append (t :: ts) ρ = some (t', ρ')) (k : ∀ v' H', Got C.M Z q H0 W0 t' ρ' σ v' H' → Q v' H') : rAppend v vs H Q := by
  obtain ⟨W, w, as, P, S, r, c⟩ := g.ex
  cases r with
  | @cons _ _ w1 as1 _ _ w2 as2 r1 r2 =>
    match ts, r2, e with
    | [t2], .cons (v := v2) (w := w3) (as := as3) r2 .nil, e =>
      have S0 : Sim C.M Z ρ σ H W := S.weak fun a h => .inl h
      cases e1 : toD t2 ρ with
      | none => simp [prm, e1] at e
      | some p1 =>
        obtain ⟨x, ρ1⟩ := p1
        obtain ⟨W1, b1, S1, sub1, rep1, off1, _, len1⟩ := toD_ok S0 r2 (fun a ha => ⟨(c.sup a (by simp [ha])).1, (c.sup a (by simp [ha])).2.1⟩) (fun a ha => c.out a (by simp [ha])) e1
        cases e2 : rd ρ1 t with
        | none => simp [prm, e1, e2] at e
        | some l =>
          match l, e2 with
          | .d _, e2 => simp [prm, e1, e2] at e
          | .ls xs, e2 =>
            by_cases hl : xs.length < sizeLine
            · cases e3 : putP ρ1 (.ls (xs ++ [x])) t with
              | none => simp [prm, e1, e2, hl, e3] at e
              | some ρ2 =>
                simp [prm, e1, e2, hl, e3] at e
                obtain ⟨rfl, rfl⟩ := e
                obtain ⟨l, us, as0, rfl, hlW, hH, rep0, off0, up⟩ := putP_ok (q := q) S1 r1 e2 e3
                refine ⟨l, us, v2, rfl, rfl, hH, by rw [rep0.length]; exact hl, ?_⟩
                obtain ⟨W2, S2, P2⟩ := up (vs' := us ++ [v2]) (rep0.append (.cons rep1 .nil)) (off0.append (off1.append (by intro a ha; simp at ha)))
                have P1 : Post q H0 W0 H (W1 ++ []) := P.sub fun a h => by simp at h; exact List.mem_append_left _ (sub1 a h)
                have PP : Post q H0 W0 (upd H l (.lst (us ++ [v2]))) W2 := by
                  have := P1.seq (w2 := []) (by simpa using P2)
                  rw [Bool.and_self] at this
                  simpa using this
                exact k _ _ (got_data PP S2 .none (by intro a ha; simp at ha))
            · simp [prm, e1, e2, hl] at e
    | [], _, e => exact absurd e (by simp [prm, pd_ap])
    | _ :: _ :: _, _, e => exact absurd e (by simp [prm, pd_ap])
theorem sem_pop (Z : Addr → Prop) (q : Bool) (σ : L2.St) (H0 : Hp) (W0 : List Addr) (t : Tok) (ts : List Tok) (ρ : Rho) (v : V) (vs : List V) (H : Hp) (t' : Tok) (ρ' : Rho) (Q : VK) (hz : ZT Z H0) (hn : ∀ a ∈ W0, ¬ Z a) (g : Gots C.M Z q H0 W0 (t :: ts) ρ σ (v :: vs) H)
    (e : prm .pop (t :: ts) ρ = some (t', ρ')) (k : ∀ v' H', Got C.M Z q H0 W0 t' ρ' σ v' H' → Q v' H') : rPop v vs H Q := by
  obtain ⟨W, w, as, P, S, r, c⟩ := g.ex
  cases r with
  | @cons _ _ w1 as1 _ _ w2 as2 r1 r2 =>
    match ts, r2, e with
    | [], .nil, e =>
      have S0 : Sim C.M Z ρ σ H W := S.weak fun a h => .inl h
      cases e2 : rd ρ t with
      | none => simp [prm, e2] at e
      | some l =>
        match l, e2 with
        | .d _, e2 => simp [prm, e2] at e
        | .ls xs, e2 =>
          cases e0 : xs.getLast? with
          | none => simp [prm, e2, e0] at e
          | some x =>
            cases e3 : putP ρ (.ls xs.dropLast) t with
            | none => simp [prm, e2, e0, e3] at e
            | some ρ2 =>
              simp [prm, e2, e0, e3] at e
              obtain ⟨rfl, rfl⟩ := e
              obtain ⟨l, us, as0, rfl, hlW, hH, rep0, off0, up⟩ := putP_ok (q := q) S0 r1 e2 e3
              have hx : xs[xs.length - 1]? = some x := by rw [← List.getLast?_eq_getElem?]; exact e0
              obtain ⟨y, bs, h1, h2, h3⟩ := rep0.get hx
              refine ⟨l, us, y, rfl, rfl, hH, by rw [rep0.length]; exact h1, ?_⟩
              obtain ⟨cs, rt, it⟩ := rep0.take (xs.length - 1)
              have et : us.dropLast = us.take (xs.length - 1) := by rw [List.dropLast_eq_take, rep0.length]
              have ex : xs.dropLast = xs.take (xs.length - 1) := List.dropLast_eq_take ..
              rw [← et, ← ex] at rt
              obtain ⟨W2, S2, P2⟩ := up rt (off0.sub it)
              have P1 : Post q H0 W0 H (W ++ []) := P.sub fun a h => by simp at h; exact List.mem_append_left _ h
              have PP : Post q H0 W0 (upd H l (.lst us.dropLast)) W2 := by
                have := P1.seq (w2 := []) (by simpa using P2)
                rw [Bool.and_self] at this
                simpa using this
              have st : Stay H (upd H l (.lst us.dropLast)) bs := ⟨fun b z q => by rw [upd_ne (ne_of q hH (by intro z; cases z))]; exact q, fun b o z q => by rw [upd_ne (ne_of q hH (by intro z; cases z))]; exact q, fun b hb o q => by rw [upd_ne (fun z => (off0 b (h3 b hb)).1 (by rw [z]; exact hlW))]; exact q⟩
              refine k _ _ (got_data PP S2 (h2.stay st fun _ h => h) fun a ha => ⟨fun h => ?_, (off0 a (h3 a ha)).2⟩)
              rcases P2.new a h with z | z
              · exact (off0 a (h3 a ha)).1 z
              · obtain ⟨u, e⟩ := h2.trk a ha
                rw [z] at e; cases e
    | _ :: _, _, e => exact absurd e (by simp [prm, pd_po])
end
end DL

set_option maxRecDepth 100000
set_option maxHeartbeats 4000000
/-! DL12: the text of expressions (CE); names, constants, fields; and, or, not, if; chains; tests. -/
namespace DL
open PySem PySem.Spec L2

/-! ### names of the text -/
def visS (C : Cst) (x : Str) (i : Nat) : Prop := C.N[i]? = some x ∧ (C.sc.names.lookup x = some .local ∨ C.sc.names.lookup x = some .cell ∨ C.sc.names.lookup x = some .free) ∧ (x == ("__debug__" : Str)) = false ∧ (x == ("__classdict__" : Str)) = false
def gloS (C : Cst) (x : Str) : Prop := C.sc.names.lookup x = some .globalImplicit ∧ (x == ("__debug__" : Str)) = false
def bltS (C : Cst) (x : Str) : Prop := gloS C x ∧ x ∈ C.bl ∧ x ≠ "__name__"
section
variable {C : Cst} {n : Nat} {Wx : WX} {X : Cx}
theorem Okx.vis (o : Okx C n Wx X) {x : Str} {i : Nat} (h : visS C x i) : X.N[i]? = some x ∧ Vis X.env.scope x := by
  refine ⟨by rw [o.N]; exact h.1, ?_⟩
  rcases h.2.1 with h | h | h
  · exact .inl (o.loc x h)
  · exact .inr (.inl (o.cell x h))
  · rcases o.free x h with h | h
    · exact .inr (.inr h)
    · exact .inr (.inl h)
theorem Okx.gl (o : Okx C n Wx X) {x : Str} (h : gloS C x) : Gl X x := o.glo x h.1
theorem Okx.hu (o : Okx C n Wx X) : X.A.units + 65 < cLine := by have := o.room.r.un; omega
theorem Okx.KK (o : Okx C n Wx X) : C.M.K = X.K := o.md.K.symm
end

/-! ### leaves of the text -/
section
variable {C : Cst} {n : Nat} {Wx : WX} {X : Cx} {q : Bool}
/-- a constant: nothing else changes -/
theorem good_const {e : Expr} {v : V} {d : PyData} (h : PE X e (tC v)) (r : ∀ H, RepD C.M.K H v d []) : GoodE C Wx X e q (fun ρ => .ok (.lf (.d d)) ρ) := fun Z ρ σ H W Q S hz hr =>
  we_of h (hr v H (got_data Post.refl S (r H) (by intro a ha; simp at ha)))
theorem good_var {x : Str} {i : Nat} {pos : Pos} (o : Okx C n Wx X) (h : visS C x i) : GoodE C Wx X (.Name x pos) q (fun ρ => match ρ[i]? with
      | some (.lf (.d x)) => .ok (.lf (.d x)) ρ
      | some (.lf (.ls _)) => .ok (.pl i) ρ
      | some (.ob _ _) => .ok (.pl i) ρ
      | some (.fn f) => .ok (.fn f) ρ
      | _ => .no) := by
  intro Z ρ σ H W Q S hz hr
  obtain ⟨hN, hv⟩ := o.vis h
  simp only at hr
  obtain ⟨A, sl, ap⟩ := S.sls
  have rule : ∀ v, σ[i]? = some (some v) → Q v H → WE X (.Name x pos) σ H Q := fun v e q => we_of (pe_var hN hv h.2.2.1 h.2.2.2) ⟨v, e, q⟩
  have Sn : Sim C.M (orL Z []) ρ σ H W := S.weak fun a h => h.elim id fun z => (by simp at z)
  have P : Post q H W H (W ++ []) := by simpa using Post.refl
  split at hr
  · rename_i d e
    obtain ⟨ov, w, as, W1, W2, A1, A2, h1, h2, rfl, rfl, _⟩ := sl.at_ e
    cases h2 with
    | lf r => cases r with
      | d r => exact rule _ h1 (hr _ H ⟨_, [], as, P, Sn, .lf (.d r), ⟨fun a ha => ⟨(ap a (by simp [ha])).1, (ap a (by simp [ha])).2, by simp⟩, .nil, by simp⟩⟩)
  · rename_i e
    obtain ⟨ov, w, as, W1, W2, A1, A2, h1, h2, rfl, rfl, _⟩ := sl.at_ e
    cases h2 with
    | lf r => cases r with
      | ls _ _ => exact rule _ h1 (hr _ H ⟨_, [], [], P, Sn, .pl h1, Clean.nil⟩)
  · rename_i e
    obtain ⟨ov, w, as, W1, W2, A1, A2, h1, h2, rfl, rfl, _⟩ := sl.at_ e
    cases h2 with
    | ob r => exact rule _ h1 (hr _ H ⟨_, [], [], P, Sn, .pl h1, Clean.nil⟩)
  · rename_i e
    obtain ⟨ov, w, as, W1, W2, A1, A2, h1, h2, rfl, rfl, _⟩ := sl.at_ e
    cases h2 with
    | fn r => exact rule _ h1 (hr _ H ⟨_, [], [], P, Sn, .fn r, Clean.nil⟩)
  · exact hr.elim
theorem good_glb {x : String} {pos : Pos} (o : Okx C n Wx X) (h : gloS C (so x)) : GoodE C Wx X (.Name (so x) pos) q (fun ρ => match C.P.gl x with
      | some d => .ok (.lf (.d d)) ρ
      | none => .no) := by
  intro Z ρ σ H W Q S hz hr
  simp only at hr
  split at hr
  · rename_i d e
    obtain ⟨v, u, h1, h2, h3⟩ := o.md.gl x d e
    exact we_of (pe_glob (o.gl h) h1 h2 h.2) (hr v H (got_data Post.refl S (h3 H) (by intro a ha; simp at ha)))
  · exact hr.elim
/-- self.f -/
theorem good_fld {x : Str} {f : String} {i : Nat} {p pos : Pos} (o : Okx C n Wx X) (h : visS C x i) (nf : ∀ c A, C.M.ca c = some A → Cls X.K A ∧ NoAttr X.K A (so f)) : GoodE C Wx X (.Attribute (.Name x p) (so f) pos) q (fun ρ => match ρ[i]? with
      | some (.ob _ fs) => match lookF fs f with
        | some (.d x) => .ok (.lf (.d x)) ρ
        | some (.ls _) => .ok (.pf i f) ρ
        | none => .no
      | _ => .no) := by
  intro Z ρ σ H W Q S hz hr
  obtain ⟨hN, hv⟩ := o.vis h
  simp only at hr
  obtain ⟨A, sl, ap⟩ := S.sls
  have Sn : Sim C.M (orL Z []) ρ σ H W := S.weak fun a h => h.elim id fun z => (by simp at z)
  have P : Post q H W H (W ++ []) := by simpa using Post.refl
  split at hr
  · rename_i c fs e
    obtain ⟨ov, w, as, W1, W2, A1, A2, h1, h2, rfl, rfl, _⟩ := sl.at_ e
    cases h2 with
    | ob r =>
      obtain ⟨pp, CC, dx, vfs, w', rfl, e2, e3, e4, e5, rfl⟩ := r.ex
      obtain ⟨cl, na⟩ := nf c CC e2
      have rule : ∀ v, vfs.lookup (so f) = some v → Q v H → WE X (.Attribute (.Name x p) (so f) pos) σ H Q := fun v e q => we_of (pe_fld (pe_var hN hv h.2.2.1 h.2.2.2) rfl) ⟨_, h1, pp, CC, dx, vfs, v, rfl, e3, cl, na, e, q⟩
      split at hr
      · rename_i d ef
        obtain ⟨v, w0, as0, w1, w2, a1, a2, q1, q2, rfl, rfl, _⟩ := e5.at_ ef
        cases q2 with
        | d r0 => exact rule v q1 (hr _ H ⟨_, [], as0, P, Sn, .lf (.d r0), ⟨fun a ha => ⟨(ap a (by simp [ha])).1, (ap a (by simp [ha])).2, by simp⟩, .nil, by simp⟩⟩)
      · rename_i ef
        obtain ⟨v, w0, as0, w1, w2, a1, a2, q1, q2, rfl, rfl, _⟩ := e5.at_ ef
        exact rule v q1 (hr _ H ⟨_, [], [], P, Sn, .pf h1 e3 q1, Clean.nil⟩)
      · exact hr.elim
  · exact hr.elim
end

/-! ### one run behind another -/
section
variable {C : Cst} {n : Nat} {Wx : WX} {X : Cx} {M : Md} {Z : Addr → Prop} {q q2 : Bool} {σ : L2.St} {H0 H1 H2 : Hp} {W0 W1 w1 : List Addr}
theorem Got.after {t : Tok} {ρ : Rho} {v : V} (hz : ZT Z H1) (p : Post q H0 W0 H1 W1) (g : Got M Z q2 H1 W1 t ρ σ v H2) : Got M Z (q && q2) H0 W0 t ρ σ v H2 := by
  obtain ⟨W2, w2, as2, p2, S2, r2, c2⟩ := g.ex
  have p' : Post q H0 W0 H1 (W1 ++ []) := by simpa using p
  exact ⟨W2, w2, as2, by simpa using p'.seq p2, S2, r2, c2⟩
/-- a run is used up as a truth value: what it gave is let go -/
theorem Got.drop {t : Tok} {ρ : Rho} {v : V} (g : Got M Z q H0 W0 t ρ σ v H1) : ∃ W, Post q H0 W0 H1 W ∧ Sim M Z ρ σ H1 W := by
  obtain ⟨W2, w2, as2, p2, S2, r2, c2⟩ := g.ex
  exact ⟨W2, p2.sub fun a h => by simp [h], S2.weak fun a h => .inl h⟩
theorem boolOf_eq {t : Tok} {b : Bool} (h : boolOf t = some b) : t = .lf (.d (.bool b)) := by
  unfold boolOf at h
  split at h
  · cases h; rfl
  · cases h
theorem Got.bool {b : Bool} {ρ : Rho} {v : V} (g : Got M Z q H0 W0 (.lf (.d (.bool b))) ρ σ v H1) : v = .bl b := by
  obtain ⟨_, _, _, _, _, r, _⟩ := g.ex
  cases r with
  | lf r => cases r with
    | d r => exact r.bool_inv.1
theorem Post.weakq {W : List Addr} (p : Post q H0 W0 H1 W) (h : q2 = true → q = true) : Post q2 H0 W0 H1 W := ⟨p.keep, p.trk, p.new, fun z => p.ins (h z)⟩
theorem Got.weakq {t : Tok} {ρ : Rho} {v : V} (g : Got M Z q H0 W0 t ρ σ v H1) (h : q2 = true → q = true) : Got M Z q2 H0 W0 t ρ σ v H1 := by
  obtain ⟨W2, w2, as2, p2, S2, r2, c2⟩ := g.ex
  exact ⟨W2, w2, as2, p2.weakq h, S2, r2, c2⟩
/-- a bool, nothing else -/
theorem got_bool {b : Bool} {ρ : Rho} {W : List Addr} (p : Post q H0 W0 H1 W) (S : Sim M Z ρ σ H1 W) : Got M Z q H0 W0 (.lf (.d (.bool b))) ρ σ (.bl b) H1 := got_data p S (.bool b) (by intro a ha; simp at ha)
end
section
variable {C : Cst} {n : Nat} {Wx : WX} {X : Cx}
theorem good_and {a b e : Expr} {xa xb : Ex} {ma mb : Rho → Out Tok} (rule : ∀ {σ H Q}, tAndV (WE X a) (WE X b) σ H Q → WE X e σ H Q) (ha : GoodE C Wx X a (noCall xa) ma) (hb : GoodE C Wx X b (noCall xb) mb) : GoodE C Wx X e (noCall (.and xa xb)) (fun ρ => (ma ρ).bind fun t ρ1 => match boolOf t with
      | some true => mb ρ1
      | some false => .ok (.lf (.d (.bool false))) ρ1
      | none => .no) := by
  intro Z ρ σ H W Q S hz hr
  have ne : noCall (.and xa xb) = (noCall xa && noCall xb) := by simp [noCall]
  rw [ne] at hr
  simp only at hr
  refine rule (ha Z ρ σ H W _ S hz ?_)
  cases hx : ma ρ with
  | no => rw [hx] at hr; exact hr
  | ex er ρ1 => rw [hx] at hr; exact hr
  | ok t ρ1 =>
    rw [hx] at hr
    simp only [Out.bind_ok] at hr
    intro v H1 g
    cases hb0 : boolOf t with
    | none => rw [hb0] at hr; exact hr.elim
    | some k =>
      have et := boolOf_eq hb0
      subst et
      obtain ⟨W1, p1, S1⟩ := g.drop
      refine ⟨k, g.bool, ?_⟩
      rw [hb0] at hr
      cases k with
      | false =>
        rw [if_neg Bool.false_ne_true]
        exact hr _ _ (got_bool (p1.weakq fun z => by rw [Bool.and_eq_true] at z; exact z.1) S1)
      | true =>
        rw [if_pos rfl]
        simp only at hr
        have hz1 : ZT Z H1 := p1.z hz S.nz
        refine hb Z ρ1 σ H1 W1 Q S1 hz1 ?_
        cases hy : mb ρ1 with
        | no => rw [hy] at hr; exact hr
        | ex er ρ2 => rw [hy] at hr; exact ExOk.behind hr (w1 := []) (by simpa using p1) fun a z => z
        | ok t2 ρ2 => rw [hy] at hr; exact fun v2 H2 g2 => hr v2 H2 (g2.after hz1 p1)
theorem good_or {a b e : Expr} {xa xb : Ex} {ma mb : Rho → Out Tok} (rule : ∀ {σ H Q}, tOrV (WE X a) (WE X b) σ H Q → WE X e σ H Q) (ha : GoodE C Wx X a (noCall xa) ma) (hb : GoodE C Wx X b (noCall xb) mb) : GoodE C Wx X e (noCall (.or xa xb)) (fun ρ => (ma ρ).bind fun t ρ1 => match boolOf t with
      | some true => .ok (.lf (.d (.bool true))) ρ1
      | some false => mb ρ1
      | none => .no) := by
  intro Z ρ σ H W Q S hz hr
  have ne : noCall (.or xa xb) = (noCall xa && noCall xb) := by simp [noCall]
  rw [ne] at hr
  simp only at hr
  refine rule (ha Z ρ σ H W _ S hz ?_)
  cases hx : ma ρ with
  | no => rw [hx] at hr; exact hr
  | ex er ρ1 => rw [hx] at hr; exact hr
  | ok t ρ1 =>
    rw [hx] at hr
    simp only [Out.bind_ok] at hr
    intro v H1 g
    cases hb0 : boolOf t with
    | none => rw [hb0] at hr; exact hr.elim
    | some k =>
      have et := boolOf_eq hb0
      subst et
      obtain ⟨W1, p1, S1⟩ := g.drop
      refine ⟨k, g.bool, ?_⟩
      rw [hb0] at hr
      cases k with
      | true =>
        rw [if_pos rfl]
        exact hr _ _ (got_bool (p1.weakq fun z => by rw [Bool.and_eq_true] at z; exact z.1) S1)
      | false =>
        rw [if_neg Bool.false_ne_true]
        simp only at hr
        have hz1 : ZT Z H1 := p1.z hz S.nz
        refine hb Z ρ1 σ H1 W1 Q S1 hz1 ?_
        cases hy : mb ρ1 with
        | no => rw [hy] at hr; exact hr
        | ex er ρ2 => rw [hy] at hr; exact ExOk.behind hr (w1 := []) (by simpa using p1) fun a z => z
        | ok t2 ρ2 => rw [hy] at hr; exact fun v2 H2 g2 => hr v2 H2 (g2.after hz1 p1)
theorem good_not {a : Expr} {pos : Pos} {xa : Ex} {ma : Rho → Out Tok} (ha : GoodE C Wx X a (noCall xa) ma) : GoodE C Wx X (.UnaryOp .Not a pos) (noCall (.not xa)) (fun ρ => (ma ρ).bind fun t ρ1 => match boolOf t with
      | some b => .ok (.lf (.d (.bool (!b)))) ρ1
      | none => .no) := by
  intro Z ρ σ H W Q S hz hr
  have ne : noCall (.not xa) = noCall xa := by simp [noCall]
  rw [ne] at hr
  simp only at hr
  refine we_of (pe_not pe_we) (ha Z ρ σ H W _ S hz ?_)
  cases hx : ma ρ with
  | no => rw [hx] at hr; exact hr
  | ex er ρ1 => rw [hx] at hr; exact hr
  | ok t ρ1 =>
    rw [hx] at hr
    simp only [Out.bind_ok] at hr
    intro v H1 g
    cases hb0 : boolOf t with
    | none => rw [hb0] at hr; exact hr.elim
    | some k =>
      have et := boolOf_eq hb0
      subst et
      obtain ⟨W1, p1, S1⟩ := g.drop
      rw [hb0] at hr
      exact ⟨k, g.bool, hr _ _ (got_bool p1 S1)⟩
theorem good_ite {c a b : Expr} {pos : Pos} {xc xa xb : Ex} {mc : Rho → Out Bool} {ma mb : Rho → Out Tok} (hc : GoodT C Wx X c (noCall xc) mc) (ha : GoodE C Wx X a (noCall xa) ma) (hb : GoodE C Wx X b (noCall xb) mb) :
    GoodE C Wx X (.IfExp c a b pos) (noCall (.ite xc xa xb)) (fun ρ => (mc ρ).bind fun k ρ1 => if k then ma ρ1 else mb ρ1) := by
  intro Z ρ σ H W Q S hz hr
  have ne : noCall (.ite xc xa xb) = (noCall xc && noCall xa && noCall xb) := by simp [noCall]
  rw [ne] at hr
  simp only at hr
  refine we_of (pe_ifExp pt_wt pe_we pe_we) (hc Z ρ σ H W _ S hz ?_)
  cases hx : mc ρ with
  | no => rw [hx] at hr; exact hr
  | ex er ρ1 => rw [hx] at hr; exact hr
  | ok k ρ1 =>
    rw [hx] at hr
    simp only [Out.bind_ok] at hr
    intro H1 W1 p1 S1
    have hz1 : ZT Z H1 := p1.z hz S.nz
    cases k with
    | true =>
      rw [if_pos rfl]
      simp only [if_true] at hr
      refine ha Z ρ1 σ H1 W1 Q S1 hz1 ?_
      cases hy : ma ρ1 with
      | no => rw [hy] at hr; exact hr
      | ex er ρ2 => rw [hy] at hr; exact ExOk.behind hr (w1 := []) (by simpa using p1) fun a z => z
      | ok t2 ρ2 => rw [hy] at hr; exact fun v2 H2 g2 => hr v2 H2 ((g2.after hz1 p1).weakq fun z => by rw [Bool.and_eq_true, Bool.and_eq_true] at z; rw [Bool.and_eq_true]; exact z.1)
    | false =>
      rw [if_neg Bool.false_ne_true]
      simp only [Bool.false_eq_true, if_false] at hr
      refine hb Z ρ1 σ H1 W1 Q S1 hz1 ?_
      cases hy : mb ρ1 with
      | no => rw [hy] at hr; exact hr
      | ex er ρ2 => rw [hy] at hr; exact ExOk.behind hr (w1 := []) (by simpa using p1) fun a z => z
      | ok t2 ρ2 => rw [hy] at hr; exact fun v2 H2 g2 => hr v2 H2 ((g2.after hz1 p1).weakq fun z => by rw [Bool.and_eq_true, Bool.and_eq_true] at z; rw [Bool.and_eq_true]; exact ⟨z.1.1, z.2⟩)
end
end DL

set_option maxRecDepth 100000
set_option maxHeartbeats 4000000
/-! DL13: calls of the program's own defs: what is lent, what comes back. -/
namespace DL
open PySem PySem.Spec L2

section
variable {M : Md} {Z : Addr → Prop} {q : Bool} {σ : L2.St} {H0 H H' : Hp} {W0 W : List Addr} {ρ ρ' : Rho}
/-- a slot's things are taken out -/
theorem Sim.lend (S : Sim M Z ρ σ H W) {i : Nat} {s s' : Sl} (e : ρ[i]? = some s) (hs : ∀ o, SlR M H s' o [] []) : ∃ (o : Option V) (w as W' : List Addr), σ[i]? = some o ∧ SlR M H s o w as ∧ Off Z W as ∧ w.Nodup ∧ (∀ a ∈ w, a ∈ W) ∧ (∀ a ∈ W', a ∈ W) ∧ (∀ a ∈ w, a ∉ W') ∧
    Sim M (orL Z w) (ρ.set i s') σ H W' := by
  obtain ⟨A, sl, ap⟩ := S.sls
  obtain ⟨o, w, as, W1, W2, A1, A2, h1, h2, rfl, rfl, up⟩ := sl.at_ e
  have nd := S.nd
  rw [List.nodup_append, List.nodup_append] at nd
  obtain ⟨n1, ⟨n2, n4, n5⟩, n3⟩ := nd
  have up' := up (H' := H) (s' := s') (o' := o) ⟨fun _ _ z => z, fun _ _ _ z => z, fun _ _ _ z => z⟩ (hs o)
  rw [set_same h1] at up'
  refine ⟨o, w, as, W1 ++ W2, h1, h2, fun a ha => ap a (by simp [ha]), n2, fun a ha => by simp [ha], fun a ha => ?_, fun a ha hb => ?_, ⟨⟨A1 ++ A2, by simpa using up', fun a ha => ⟨fun h => ?_, fun z => z.elim (fun z => ?_) fun z => ?_⟩⟩, ?_, fun a ha z => z.elim (fun z => ?_) fun z => ?_⟩⟩
  · rcases List.mem_append.mp ha with h | h <;> simp [h]
  · rcases List.mem_append.mp hb with h | h
    · exact n3 a h a (by simp [ha]) rfl
    · exact n5 a ha a h rfl
  · have ha' : a ∈ A1 ++ (as ++ A2) := by rcases List.mem_append.mp ha with h | h <;> simp [h]
    exact (ap a ha').1 (by rcases List.mem_append.mp h with h | h <;> simp [h])
  · have ha' : a ∈ A1 ++ (as ++ A2) := by rcases List.mem_append.mp ha with h | h <;> simp [h]
    exact (ap a ha').2 z
  · have ha' : a ∈ A1 ++ (as ++ A2) := by rcases List.mem_append.mp ha with h | h <;> simp [h]
    exact (ap a ha').1 (by simp [z])
  · rw [List.nodup_append]
    exact ⟨n1, n4, fun a ha b hb => n3 a ha b (by simp [hb])⟩
  · exact S.nz a (by rcases List.mem_append.mp ha with h | h <;> simp [h]) z
  · rcases List.mem_append.mp ha with h | h
    · exact n3 a h a (by simp [z]) rfl
    · exact n5 a z a h rfl
/-- things are put into a slot -/
theorem Sim.give {i : Nat} {s s' : Sl} {o' : Option V} {w' as' : List Addr} (S : Sim M (orL Z w') ρ σ H W) (e : ρ[i]? = some s) (r : SlR M H s' o' w' as') (nd' : w'.Nodup) (nz' : ∀ a ∈ w', ¬ Z a) (off : ∀ a ∈ as', a ∉ w' ∧ a ∉ W ∧ ¬ Z a) :
    ∃ W', Sim M Z (ρ.set i s') (σ.set i o') H W' ∧ ∀ a ∈ W', a ∈ W ∨ a ∈ w' := by
  obtain ⟨A, sl, ap⟩ := S.sls
  obtain ⟨o, w, as, W1, W2, A1, A2, h1, h2, rfl, rfl, up⟩ := sl.at_ e
  have nd := S.nd
  rw [List.nodup_append, List.nodup_append] at nd
  obtain ⟨n1, ⟨n2, n4, n5⟩, n3⟩ := nd
  have up' := up (H' := H) (s' := s') (o' := o') ⟨fun _ _ z => z, fun _ _ _ z => z, fun _ _ _ z => z⟩ r
  have sub : ∀ a ∈ W1 ++ W2, a ∈ W1 ++ (w ++ W2) := fun a ha => by rcases List.mem_append.mp ha with h | h <;> simp [h]
  refine ⟨_, ⟨⟨_, up', fun a ha => ?_⟩, ?_, fun a ha => ?_⟩, fun a ha => ?_⟩
  · have old : a ∈ A1 ++ (as ++ A2) → a ∉ W1 ++ (w' ++ W2) ∧ ¬ Z a := fun h => ⟨fun z => by
      simp only [List.mem_append] at z
      rcases z with z | z | z
      · exact (ap a h).1 (by simp [z])
      · exact (ap a h).2 (.inr z)
      · exact (ap a h).1 (by simp [z]), fun z => (ap a h).2 (.inl z)⟩
    simp only [List.mem_append] at ha
    rcases ha with ha | ha | ha
    · exact old (by simp [ha])
    · have z := off a ha
      refine ⟨fun h => ?_, z.2.2⟩
      simp only [List.mem_append] at h
      rcases h with h | h | h
      · exact z.2.1 (by simp [h])
      · exact z.1 h
      · exact z.2.1 (by simp [h])
    · exact old (by simp [ha])
  · rw [List.nodup_append, List.nodup_append]
    refine ⟨n1, ⟨nd', n4, fun a ha b hb e => S.nz b (by simp [hb]) (.inr (e ▸ ha))⟩, fun a ha b hb e => ?_⟩
    subst e
    rcases List.mem_append.mp hb with h | h
    · exact S.nz a (by simp [ha]) (.inr h)
    · exact n3 a ha a (by simp [h]) rfl
  · simp only [List.mem_append] at ha
    rcases ha with ha | ha | ha
    · exact fun z => S.nz a (by simp [ha]) (.inl z)
    · exact nz' a ha
    · exact fun z => S.nz a (by simp [ha]) (.inl z)
  · simp only [List.mem_append] at ha ⊢
    rcases ha with ha | ha | ha <;> simp [ha]
/-- one operand is lent -/
theorem argS_ok {t : Tok} {v : V} {w as : List Addr} {s : Sl} (S : Sim M Z ρ σ H W) (r : TokR M σ H t v w as) (hs : ∀ a ∈ as, a ∉ W ∧ ¬ Z a) (hw : ∀ a ∈ w, Z a) (nd : w.Nodup) (e : argS t ρ = some (s, ρ')) :
    ∃ W' ws as', SlR M H s (some v) ws as' ∧ Sim M (orL Z ws) ρ' σ H W' ∧ (∀ a ∈ W', a ∈ W) ∧ (∀ a ∈ ws, a ∈ W ∨ a ∈ w) ∧ (∀ a ∈ ws, a ∉ W') ∧ ws.Nodup ∧ (∀ a ∈ as', a ∉ ws ∧ a ∉ W' ∧ ¬ Z a) := by
  have lk : ∀ o, SlR M H .lk o [] [] := fun o => .lk
  cases r with
  | lf r =>
    simp [argS] at e
    obtain ⟨rfl, rfl⟩ := e
    exact ⟨W, w, as, .lf r, S.weak fun a h => h.elim id (hw a), fun _ h => h, fun a h => .inr h, fun a h z => S.nz a z (hw a h), nd, fun a h => ⟨fun z => (hs a h).2 (hw a z), hs a h⟩⟩
  | @pl i _ hv =>
    unfold argS at e
    simp only at e
    split at e
    · rename_i xs e'
      cases e
      obtain ⟨o, w0, as0, W', h1, h2, ho, n0, s1, s2, s3, S'⟩ := S.lend e' lk
      rw [hv] at h1; cases h1
      exact ⟨W', w0, as0, h2, S', s2, fun a h => .inl (s1 a h), s3, n0, fun a h => ⟨fun z => (ho a h).1 (s1 a z), fun z => (ho a h).1 (s2 a z), (ho a h).2⟩⟩
    · rename_i c fs e'
      cases e
      obtain ⟨o, w0, as0, W', h1, h2, ho, n0, s1, s2, s3, S'⟩ := S.lend e' lk
      rw [hv] at h1; cases h1
      exact ⟨W', w0, as0, h2, S', s2, fun a h => .inl (s1 a h), s3, n0, fun a h => ⟨fun z => (ho a h).1 (s1 a z), fun z => (ho a h).1 (s2 a z), (ho a h).2⟩⟩
    · cases e
  | @pf i f v p Cc dx vfs h1 h2 h3 =>
    have e' : (toD (.pf i f) ρ).map (fun (x, ρ') => (Sl.lf (.d x), ρ')) = some (s, ρ') := e
    cases hd : toD (.pf i f) ρ with
    | none => rw [hd] at e'; cases e'
    | some pr =>
      obtain ⟨x, ρ2⟩ := pr
      rw [hd] at e'
      cases e'
      obtain ⟨W', as', S', sub, rep, off, _⟩ := toD_ok S (.pf h1 h2 h3) (by simp) (by simp) hd
      exact ⟨W', [], as', .lf (.d rep), S'.weak fun a h => h.elim id fun z => (by simp at z), sub, by simp, by simp, .nil, fun a h => ⟨by simp, off a h⟩⟩
  | fn h =>
    simp [argS] at e
    obtain ⟨rfl, rfl⟩ := e
    exact ⟨W, [], [], .fn h, S.weak fun a h => h.elim id fun z => (by simp at z), fun _ h => h, by simp, by simp, .nil, by simp⟩
  | ob _ => simp [argS] at e
theorem argSs_ok : ∀ {ts : List Tok} {vs : List V} {w as W : List Addr} {Z : Addr → Prop} {ρ ρ' : Rho} {ss : List Sl}, Sim M Z ρ σ H W → ToksR M σ H ts vs w as → (∀ a ∈ as, a ∉ W ∧ ¬ Z a) → (∀ a ∈ w, Z a) → w.Nodup → argSs ts ρ = some (ss, ρ') →
    ∃ W' Wa Aa, Sls M H ss (vs.map some) Wa Aa ∧ Sim M (orL Z Wa) ρ' σ H W' ∧ (∀ a ∈ W', a ∈ W) ∧ (∀ a ∈ Wa, a ∈ W ∨ a ∈ w) ∧ (∀ a ∈ Wa, a ∉ W') ∧ Wa.Nodup ∧ (∀ a ∈ Aa, a ∉ Wa ∧ a ∉ W' ∧ ¬ Z a) ∧ ss.length = ts.length
  | [], _, _, _, W, Z, ρ, _, _, S, r, hs, hw, nd, e => by
    cases r
    simp [argSs] at e
    obtain ⟨rfl, rfl⟩ := e
    exact ⟨W, [], [], .nil, S.weak fun a h => h.elim id fun z => (by simp at z), fun _ h => h, by simp, by simp, .nil, by simp, rfl⟩
  | t :: ts, _, _, _, W, Z, ρ, ρ', _, S, r, hs, hw, nd, e => by
    cases r with
    | @cons _ v w1 as1 _ vs w2 as2 r1 r2 =>
      unfold argSs at e
      cases e1 : argS t ρ with
      | none => rw [e1] at e; cases e
      | some p1 =>
        obtain ⟨s, ρ1⟩ := p1
        rw [e1] at e
        simp only at e
        cases e2 : argSs ts ρ1 with
        | none => rw [e2] at e; cases e
        | some p2 =>
          obtain ⟨ss, ρ2⟩ := p2
          rw [e2] at e
          cases e
          rw [List.nodup_append] at nd
          obtain ⟨W1, ws, as', a1, a2, a3, a4, a5, a6, a7⟩ := argS_ok S r1 (fun a h => hs a (by simp [h])) (fun a h => hw a (by simp [h])) nd.1 e1
          obtain ⟨W2, Wa, Aa, b1, b2, b3, b4, b5, b6, b7, b8⟩ := argSs_ok a2 r2 (fun a h => ⟨fun z => (hs a (by simp [h])).1 (a3 a z), fun z => z.elim (hs a (by simp [h])).2 fun z => (a4 a z).elim (hs a (by simp [h])).1 fun z => (hs a (by simp [h])).2 (hw a (by simp [z]))⟩) (fun a h => .inl (hw a (by simp [h]))) nd.2.1 e2
          refine ⟨W2, ws ++ Wa, as' ++ Aa, .cons a1 b1, b2.weak fun a h => ?_, fun a h => a3 a (b3 a h), fun a h => ?_, fun a h => ?_, ?_, fun a h => ?_, by simp [b8]⟩
          · rcases h with h | h
            · exact .inl (.inl h)
            · rcases List.mem_append.mp h with h | h
              · exact .inl (.inr h)
              · exact .inr h
          · rcases List.mem_append.mp h with h | h
            · exact (a4 a h).elim .inl fun z => .inr (by simp [z])
            · exact (b4 a h).elim (fun z => .inl (a3 a z)) fun z => .inr (by simp [z])
          · rcases List.mem_append.mp h with h | h
            · exact fun z => a5 a h (b3 a z)
            · exact b5 a h
          · rw [List.nodup_append]
            refine ⟨a6, b6, fun a h b hb e => ?_⟩
            subst e
            rcases b4 a hb with z | z
            · exact a5 a h z
            · rcases a4 a h with y | y
              · exact S.nz a y (hw a (by simp [z]))
              · exact nd.2.2 a y a z rfl
          · rcases List.mem_append.mp h with h | h
            · have z := a7 a h
              refine ⟨fun y => ?_, fun y => z.2.1 (b3 a y), z.2.2⟩
              rcases List.mem_append.mp y with y | y
              · exact z.1 y
              · exact (b4 a y).elim z.2.1 fun y => z.2.2 (hw a (by simp [y]))
            · have z := b7 a h
              refine ⟨fun y => ?_, z.2.1, fun y => z.2.2 (.inl y)⟩
              rcases List.mem_append.mp y with y | y
              · exact z.2.2 (.inr y)
              · exact z.1 y
/-- what the callee made of it goes back -/
theorem back_ok : ∀ {ts : List Tok} {ss : List Sl} {vs : List V} {Wo Ao W w as : List Addr} {H1 : Hp} {Z : Addr → Prop} {ρ ρ' : Rho}, BackR M H ts ss vs Wo Ao → Sim M (orL Z Wo) ρ σ H W → ToksR M σ H1 ts vs w as → Wo.Nodup → (∀ a ∈ Wo, ¬ Z a) → (∀ a ∈ Ao, a ∉ Wo ∧ a ∉ W ∧ ¬ Z a) → backS ts ss ρ = some ρ' →
    ∃ W', Sim M Z ρ' σ H W' ∧ ∀ a ∈ W', a ∈ W ∨ a ∈ Wo
  | _, _, _, _, _, W, _, _, _, _, _, _, .nil, S, r, nd, nz, off, e => by
    simp [backS] at e
    subst e
    exact ⟨W, S.weak fun a h => .inl h, fun a h => .inl h⟩
  | _, _, _, _, _, W, _, _, H1, Z, ρ, ρ', .pl (i := i) (ts := ts) (s := s) (ss := ss) (v := v) (vs := vs) (w := w1) (as := as1) (W := W1) (A := A1) h1 b, S, r, nd, nz, off, e => by
    cases r with
    | cons r1 r2 =>
      cases r1 with
      | pl hv =>
        have hi : i < ρ.length := by
          rw [S.length]
          exact (List.getElem?_eq_some_iff.mp hv).1
        rw [List.nodup_append] at nd
        have S' : Sim M (orL (orL Z W1) w1) ρ σ H W := S.weak fun a h => by
          rcases h with (h | h) | h
          · exact .inl h
          · exact .inr (by simp [h])
          · exact .inr (by simp [h])
        obtain ⟨W2, S2, sub⟩ := S'.give (List.getElem?_eq_getElem hi) h1 nd.1 (fun a h z => z.elim (nz a (by simp [h])) fun z => nd.2.2 a h a z rfl) (fun a h => ⟨fun z => (off a (by simp [h])).1 (by simp [z]), (off a (by simp [h])).2.1, fun z => z.elim (off a (by simp [h])).2.2 fun z => (off a (by simp [h])).1 (by simp [z])⟩)
        rw [set_same hv] at S2
        have e' : backS ts ss (ρ.set i s) = some ρ' := by
          unfold backS at e
          split at e
          · exact e
          · exact e
          · cases e
        obtain ⟨W3, S3, sub3⟩ := back_ok b S2 r2 nd.2.1 (fun a h => nz a (by simp [h])) (fun a h => ⟨fun z => (off a (by simp [h])).1 (by simp [z]), fun z => (sub a z).elim (off a (by simp [h])).2.1 fun z => (off a (by simp [h])).1 (by simp [z]), (off a (by simp [h])).2.2⟩) e'
        exact ⟨W3, S3, fun a h => (sub3 a h).elim (fun z => (sub a z).elim .inl fun z => .inr (by simp [z])) fun z => .inr (by simp [z])⟩
  | _, _, _, _, _, W, _, _, H1, Z, ρ, ρ', .other (t := t) (ts := ts) (s := s) (ss := ss) ht b, S, r, nd, nz, off, e => by
    cases r with
    | cons r1 r2 =>
      have e' : backS ts ss ρ = some ρ' := by
        cases t with
        | pl i => exact absurd rfl (ht i)
        | _ => simpa only [backS] using e
      exact back_ok b S r2 nd nz off e'
theorem TokR.up {t : Tok} {v : V} {w as : List Addr} (h : TokR M [] H t v w as) : TokR M σ H t v w as := by
  cases h with
  | lf r => exact .lf r
  | pl e => simp at e
  | pf e _ _ => simp at e
  | fn e => exact .fn e
  | ob r => exact .ob r
theorem backS_isSome : ∀ {ts : List Tok} {ss : List Sl} {ρ ρ' ρ1 : Rho}, backS ts ss ρ = some ρ' → (backS ts ss ρ1).isSome = true
  | [], _, _, _, _, h => by simp [backS]
  | t :: ts, [], _, _, _, h => by cases t <;> simp [backS] at h
  | t :: ts, s :: ss, ρ, ρ', ρ1, h => by
    cases t with
    | pl i =>
      cases s <;> simp only [backS] at h ⊢ <;> first | exact backS_isSome h | cases h
    | _ => simp only [backS] at h ⊢; exact backS_isSome h
end
theorem call_ok {M : Md} {P : Pg} {Wx : WX} {Z : Addr → Prop} {q : Bool} {σ : L2.St} {H0 H : Hp} {W0 : List Addr} {ρ : Rho} {n : Nat} {D : FDef} {ts : List Tok} {vs : List V} {Q : VK} (hz0 : ZT Z H0) (hn : ∀ a ∈ W0, ¬ Z a) (g : Gots M Z q H0 W0 ts ρ σ vs H) (r : Res M Wx Z false σ H0 W0 (callF (evB P n) D ts ρ) Q) :
    spF M P n D vs H Q (fun cls d H' => Wx cls d σ H') := by
  obtain ⟨W, w, as, p, S, tr, c⟩ := g.ex
  unfold callF at r
  split at r
  case isFalse => exact r.elim
  case isTrue hD =>
  cases ea : argSs ts ρ with
  | none => rw [ea] at r; exact r.elim
  | some pr =>
    obtain ⟨ss, ρ1⟩ := pr
    rw [ea] at r
    simp only at r
    obtain ⟨W', Wa, Aa, a1, a2, a3, a4, a5, a6, a7, a8⟩ := argSs_ok S tr (fun a h => ⟨(c.sup a h).1, fun z => z.elim (c.sup a h).2.1 (c.sup a h).2.2⟩) (fun a h => .inr h) c.nd ea
    have hz : ZT Z H := p.z hz0 hn
    have nzW : ∀ a ∈ W, ¬ Z a := fun a h z => S.nz a h (.inl z)
    have inW0 : ∀ a, a ∈ Wa → a ∈ W0 ∨ H0 a = none := fun a h => p.new a (by rcases a4 a h with z | z <;> simp [z])
    have nzWa : ∀ a ∈ Wa, ¬ Z a := fun a h z => (a4 a h).elim (fun y => nzW a y z) fun y => (c.out a y).2 z
    obtain ⟨A1, sl1, ap1⟩ := a2.sls
    -- the caller's own state over the callee's run
    have over : ∀ H' Wo, Post false H Wa H' Wo → Sim M (orL Z Wo) ρ1 σ H' W' := fun H' Wo P' => by
      have st : Stay H H' (W' ++ A1) := P'.stay (fun a h => (a4 a h).elim (S.own a) (tr.own a)) fun a h z => (List.mem_append.mp h).elim (fun y => a5 a z y) fun y => (ap1 a y).2 (.inr z)
      refine ⟨⟨A1, sl1.stay st (fun a h => by simp [h]) (fun a h => by simp [h]), fun a h => ⟨(ap1 a h).1, fun z => z.elim (fun z => (ap1 a h).2 (.inl (.inl z))) fun z => ?_⟩⟩, a2.nd, fun a h z => z.elim (nzW a (a3 a h)) fun z => ?_⟩
      · rcases P'.new a z with y | y
        · exact (ap1 a h).2 (.inr y)
        · obtain ⟨_, e⟩ := sl1.trk a h; rw [y] at e; cases e
      · rcases P'.new a z with y | y
        · exact a5 a y h
        · obtain ⟨o, e, _⟩ := S.own a (a3 a h); rw [y] at e; cases e
    have post : ∀ H' Wo W2, Post false H Wa H' Wo → (∀ a ∈ W2, a ∈ W' ∨ a ∈ Wo) → Post false H0 W0 H' W2 := fun H' Wo W2 P' sub => by
      refine ⟨fun b o e hb => P'.keep b o (p.keep b o e hb) fun z => (inW0 b z).elim hb fun y => (by rw [y] at e; cases e), fun b o e => let ⟨o', e'⟩ := p.trk b o e; P'.trk b o' e', fun b hb => ?_, fun h => nomatch h⟩
      rcases sub b hb with z | z
      · exact p.new b (by simp [a3 b z])
      · rcases P'.new b z with y | y
        · exact inW0 b y
        · cases e : H0 b with
          | none => exact .inr rfl
          | some o =>
            obtain ⟨o', e'⟩ := p.trk b o e
            rw [y] at e'
            cases e'
    refine ⟨ts, ss, Wa, Aa, orL Z W', hD.1, hD.2, a1, a8.trans hD.1, a6, fun a h => ⟨(a7 a h).1, fun z => z.elim (fun z => (a7 a h).2.2 (.inl z)) (a7 a h).2.1⟩, fun a h z => z.elim (nzWa a h) (a5 a h), hz.orL fun a h => S.own a (a3 a h), ?_⟩
    cases hb : evB P n (pinOf 0 ts) D.body (ss ++ List.replicate (D.nl - D.ps) .no) with
    | no => rw [hb] at r; exact r.elim
    | ex e ρc =>
      rw [hb] at r
      simp only at r ⊢
      cases eb : backS ts ρc ρ1 with
      | none => rw [eb] at r; exact r.elim
      | some ρ2 =>
        rw [eb] at r
        refine ⟨backS_isSome eb, fun cls d H' Wo Ao P' B nd off er => ?_⟩
        have S1 := over H' Wo P'
        have nzo : ∀ a ∈ Wo, ¬ orL Z W' a := P'.nz (hz.orL fun a h => S.own a (a3 a h)) fun a h z => z.elim (nzWa a h) (a5 a h)
        obtain ⟨W2, S2, sub⟩ := back_ok B S1 tr nd (fun a h z => nzo a h (.inl z)) (fun a h => ⟨(off a h).1, fun z => (off a h).2 (.inr z), fun z => (off a h).2 (.inl z)⟩) eb
        obtain ⟨Cc, h1, h2, h3⟩ := er.ex
        refine r cls d H' W2 ⟨Cc, h1, h2, ?_⟩ (post H' Wo W2 P' sub) S2
        rcases h3 with h3 | ⟨dx, vfs, as, b1, b2, b3, b4⟩
        · exact .inl h3
        · exact .inr ⟨dx, vfs, as, b1, b2, b3, fun a ha => ⟨fun z => (sub a z).elim (fun z => (b4 a ha).2 (.inr z)) (b4 a ha).1, fun z => (b4 a ha).2 (.inl z)⟩⟩
    | ok fl ρc =>
      rw [hb] at r
      simp only at r ⊢
      cases ef : flT fl with
      | none =>
        rw [ef] at r
        exact r.elim
      | some t =>
        rw [ef] at r
        simp only at r
        cases eb : backS ts ρc ρ1 with
        | none => rw [eb] at r; exact r.elim
        | some ρ2 =>
          rw [eb] at r
          refine ⟨t, rfl, backS_isSome eb, fun v H' Wo Ao w' at_ P' B nd off rt cl => ?_⟩
          have S1 := over H' _ P'
          have nzo : ∀ a ∈ Wo ++ w', ¬ orL Z W' a := P'.nz (hz.orL fun a h => S.own a (a3 a h)) fun a h z => z.elim (nzWa a h) (a5 a h)
          have S1' : Sim M (orL (orL Z w') Wo) ρ1 σ H' W' := S1.weak fun a h => by
            rcases h with (h | h) | h
            · exact .inl h
            · exact .inr (by simp [h])
            · exact .inr (by simp [h])
          obtain ⟨W2, S2, sub⟩ := back_ok B S1' tr nd (fun a h z => z.elim (fun z => nzo a (by simp [h]) (.inl z)) fun z => (cl.out a z).1 h) (fun a h => ⟨(off a h).1, fun z => (off a h).2.1 (.inr z), fun z => z.elim (fun z => (off a h).2.1 (.inl z)) (off a h).2.2⟩) eb
          refine r v H' ⟨W2, w', at_, post H' _ _ P' fun a h => ?_, S2, rt.up, ⟨fun a h => ⟨fun z => (sub a z).elim (fun z => (cl.sup a h).2.1 (.inr z)) (cl.sup a h).1, fun z => (cl.sup a h).2.1 (.inl z), (cl.sup a h).2.2⟩, cl.nd, fun a h => ⟨fun z => (sub a z).elim (fun z => (cl.out a h).2 (.inr z)) (cl.out a h).1, fun z => (cl.out a h).2 (.inl z)⟩⟩⟩
          rcases List.mem_append.mp h with h | h
          · exact (sub a h).elim .inl fun z => .inr (by simp [z])
          · exact .inr (by simp [h])
end DL

set_option maxRecDepth 100000
set_option maxHeartbeats 4000000
/-! DL14: calls by name, through a name, of an instance's method, of a class. -/
namespace DL
open PySem PySem.Spec L2

section
variable {C : Cst} {n : Nat} {Wx : WX} {X : Cx} {k : Nat} {a A : Addr} {fd : FuncData} {ps : List Str} {sp : Sp} {es : List Expr} {p pos apos : Pos} {x m : Str}
theorem rule_call (F : FnG X.prog X.w X.K X.mg X.base k a fd ps sp) (hr : RoomG k X.A) (hg : Gl X x) (hm : X.mg x = some (.ref a)) (hk : PySem.W.keepIn X.K (.ref a) = true) (hb : Binds X.K fd ps []) (tk : Takes X Wx) (hdb : (x == ("__debug__" : Str)) = false) (hs : es.all notStar = true) {σ : L2.St} {H : Hp} {Q : VK}
    (h : tCallG sp Wx (WAs X es) σ H Q) : WE X (.Call (.Name x p) es [] pos) σ H Q := by
  cases es with
  | nil => exact we_of (pe_callG0 F hr hg hm hk hb tk hdb) h
  | cons e es =>
    have hs' := hs
    simp only [List.all_cons, Bool.and_eq_true] at hs'
    exact we_of (pe_callG F hr hg hm hk hb tk (pa_was hs) hdb (star_each hs'.1) (star_any hs'.2)) h
theorem pe_callV0 {i : Nat} (F : FnG X.prog X.w X.K X.mg X.base k a fd ps sp) (hr : RoomG k X.A) (hN : X.N[i]? = some x) (hv : Vis X.env.scope x) (hk : PySem.W.keepIn X.K (.ref a) = true) (hb : Binds X.K fd ps []) (tk : Takes X Wx)
    (hdb : (x == ("__debug__" : Str)) = false) (hcd : (x == ("__classdict__" : Str)) = false) : PE X (.Call (.Name x p) [] [] pos) (tCallV i a sp Wx tNil) := by
  refine ⟨fun pins s σ H Q I h => ?_⟩
  obtain ⟨h0, h1⟩ := h
  have hx := (pe_var (pos := p) hN hv hdb hcd).run pins s σ H (fun v H1 => v = .ref a ∧ H1 = H) I ⟨_, h0, rfl, rfl⟩
  refine wpAny_Call_Name_kw (thn hx fun u s1 ⟨v, H1, I1, rv, q1⟩ => ?_)
  obtain ⟨rfl, rfl⟩ := q1
  obtain rfl : u = Value.ref a := rv
  exact PySem.W.callWith_K0 I1.kIn hk (run_fnG (us := []) F hr hb tk I1 .nil h1)
theorem rule_callv {i : Nat} (F : FnG X.prog X.w X.K X.mg X.base k a fd ps sp) (hr : RoomG k X.A) (hN : X.N[i]? = some x) (hv : Vis X.env.scope x) (hk : PySem.W.keepIn X.K (.ref a) = true) (hb : Binds X.K fd ps []) (tk : Takes X Wx) (hdb : (x == ("__debug__" : Str)) = false) (hcd : (x == ("__classdict__" : Str)) = false) (hs : es.all notStar = true) {σ : L2.St} {H : Hp} {Q : VK}
    (h : tCallV i a sp Wx (WAs X es) σ H Q) : WE X (.Call (.Name x p) es [] pos) σ H Q := by
  cases es with
  | nil => exact we_of (pe_callV0 F hr hN hv hk hb tk hdb hcd) h
  | cons e es =>
    have hs' := hs
    simp only [List.all_cons, Bool.and_eq_true] at hs'
    exact we_of (pe_callV F hr hN hv hk hb tk (pa_was hs) hdb hcd (star_each hs'.1) (star_any hs'.2)) h
/-- x.m(..) on one line: as the plain call of the bound method -/
theorem om_tree {xp : Pos} {env : Env} (hs : es.all notStar = true) (hn : decide (es.length < 30) = true) (hl : (apos.endLine == pos.line) = true) : eval (.Call (.Attribute (.Name x xp) m apos) es [] pos) env = (eval (.Name x xp) env >>= fun ov => standAt apos.atName >>= fun _ => holding [ov] (getMethod ov m (do return (← importBound (.Name x xp) env).getD true)) >>= fun (g, first) => callWith pos g first (backTo pos (starEach es env)) (backToKw pos (keywordEach [] env))) := by
  have hb : attributeBase (.Name x xp) m env (eval (.Name x xp) env) = eval (.Name x xp) env := rfl
  have hf : methodCallForm (es.length + ([] : List Keyword).length) (backTo pos (starEach es env)) (backToKw pos (keywordEach [] env)) = true := by
    have ha := star_any (env := env) (pos := pos) hs
    have hn' := of_decide_eq_true hn
    unfold methodCallForm
    have h1 : (backTo pos (starEach es env)).all (!·.1) = true := by
      rw [List.any_eq_false] at ha
      rw [List.all_eq_true]
      intro y hy
      have := ha y hy
      simpa using this
    rw [h1]
    have h2 : (backToKw pos (keywordEach [] env)) = [] := rfl
    rw [h2]
    simp [hn']
  rw [arm_eval_Call, hb]
  unfold methodCall calleeOf methodCallPos
  rw [hf, hl]
  simp
theorem rule_om {o : Expr} {xp : Pos} (ho : o = .Name x xp) {ta : TE} (he : PE X o ta) (c : Cls X.K A) (hm : Meth X.K A m a) (F : FnG X.prog X.w X.K X.mg X.base k a fd ps sp) (hr : RoomG k X.A) (hb : Binds X.K fd ps []) (tk : Takes X Wx) (hs : es.all notStar = true) (hn : decide (es.length < 30) = true) (hl : (apos.endLine == pos.line) = true) {σ : L2.St} {H : Hp} {Q : VK}
    (h : tMethG A m sp Wx ta (WAs X es) σ H Q) : WE X (.Call (.Attribute o m apos) es [] pos) σ H Q := by
  subst ho
  cases es with
  | nil => exact we_of (pe_methG0 he c hm F hr hb tk (om_tree hs hn hl)) h
  | cons e es =>
    have hs' := hs
    simp only [List.all_cons, Bool.and_eq_true] at hs'
    exact we_of (pe_methG he c hm F hr hb tk (pa_was hs) (star_each hs'.1) (star_any hs'.2) (om_tree hs hn hl)) h
theorem rule_mk (M : Mk X.K A a) (F : FnG X.prog X.w X.K X.mg X.base k a fd ps sp) (hr : RoomG (k + 1) X.A) (hg : Gl X x) (hm : X.mg x = some (.ref A)) (hb : Binds X.K fd ps []) (tk : Takes X Wx) (hdb : (x == ("__debug__" : Str)) = false) (hs : es.all notStar = true) {σ : L2.St} {H : Hp} {Q : VK}
    (h : tMakeG A sp Wx (WAs X es) σ H Q) : WE X (.Call (.Name x p) es [] pos) σ H Q := by
  cases es with
  | nil => exact we_of (pe_makeG0 M F hr hg hm hb tk hdb) h
  | cons e es =>
    have hs' := hs
    simp only [List.all_cons, Bool.and_eq_true] at hs'
    exact we_of (pe_makeG M F hr hg hm hb tk (pa_was hs) hdb (star_each hs'.1) (star_any hs'.2)) h

/-! ### what they give -/
theorem good_call {f : String} {xs : List Ex} (o : Okx C (n + 1) Wx X) (fk : FOk C.M C.P X n) (hx : gloS C (so f)) (hp : isPlain f = true) (hs : es.all notStar = true) (h : GoodL C Wx X es (noCalls xs) (evL (evE C.P n) xs)) :
    GoodE C Wx X (.Call (.Name (so f) p) es [] pos) false (fun ρ => match C.P.fn f with
      | some D => (evL (evE C.P n) xs ρ).bind fun ts ρ1 => callF (evB C.P n) D ts ρ1
      | none => .no) := by
  intro Z ρ σ H W Q S hz hr
  simp only at hr
  cases hd : C.P.fn f with
  | none => rw [hd] at hr; exact hr.elim
  | some D =>
    rw [hd] at hr
    simp only at hr
    obtain ⟨a, fd, ps, h1, h2, F, h3, h4⟩ := fk f D hd
    refine rule_call F (o.room.mono (by omega)) (o.gl hx) (o.md.fa f a D hd h1 hp) h3 h4 o.tk hx.2 hs (h Z ρ σ H W _ S hz ?_)
    cases he : evL (evE C.P n) xs ρ with
    | no => rw [he] at hr; exact hr.elim
    | ex er ρ1 => rw [he] at hr; exact hr
    | ok ts ρ1 =>
      rw [he] at hr
      exact fun vs H1 g => call_ok hz S.nz g hr
theorem good_callv {i : Nat} {xs : List Ex} (o : Okx C (n + 1) Wx X) (fk : FOk C.M C.P X n) (hx : visS C x i) (hs : es.all notStar = true) (h : GoodL C Wx X es (noCalls xs) (evL (evE C.P n) xs)) :
    GoodE C Wx X (.Call (.Name x p) es [] pos) false (fun ρ => match ρ[i]? with
      | some (.fn f) => match C.P.fn f with
        | some D => (evL (evE C.P n) xs ρ).bind fun ts ρ1 => callF (evB C.P n) D ts ρ1
        | none => .no
      | _ => .no) := by
  intro Z ρ σ H W Q S hz hr
  simp only at hr
  split at hr
  · rename_i f ei
    cases hd : C.P.fn f with
    | none => rw [hd] at hr; exact hr.elim
    | some D =>
      rw [hd] at hr
      simp only at hr
      obtain ⟨a, fd, ps, h1, h2, F, h3, h4⟩ := fk f D hd
      obtain ⟨hN, hv⟩ := o.vis hx
      obtain ⟨A, sl, ap⟩ := S.sls
      obtain ⟨ov, w, as, W1, W2, A1, A2, e1, e2, rfl, rfl, _⟩ := sl.at_ ei
      cases e2 with
      | fn e2 =>
        rw [h1] at e2; cases e2
        refine rule_callv F (o.room.mono (by omega)) hN hv h3 h4 o.tk hx.2.2.1 hx.2.2.2 hs ⟨e1, h Z ρ σ H _ _ S hz ?_⟩
        cases he : evL (evE C.P n) xs ρ with
        | no => rw [he] at hr; exact hr.elim
        | ex er ρ1 => rw [he] at hr; exact hr
        | ok ts ρ1 =>
          rw [he] at hr
          exact fun vs H1 g => call_ok hz S.nz g hr
  · exact hr.elim
theorem FsR.none {K : PySem.W.Frag} {H : Hp} {fs : List (String × Fl)} {vs : List (Str × V)} {w as : List Addr} (r : FsR K H fs vs w as) {f : String} (h : lookF fs f = none) : vs.lookup (so f) = none := by
  induction r with
  | nil => rfl
  | @cons g l v w as fs vs w' as' r0 _ ih =>
    unfold lookF at h
    rw [List.lookup_cons] at h
    split at h
    · cases h
    · rename_i hb
      have : (so f == so g) = false := by
        rw [beq_eq_false_iff_ne] at hb ⊢
        exact fun z => hb (so_inj z)
      rw [List.lookup_cons, this]
      exact ih h
theorem good_om {i : Nat} {m : String} {xs : List Ex} (o : Okx C (n + 1) Wx X) (fk : FOk C.M C.P X n) (hc : ∀ c b, C.P.cls c = none → C.M.ca c = some b → False) (hx : visS C x i) (hs : es.all notStar = true) (hln : decide (es.length < 30) = true) (hll : (apos.endLine == pos.line) = true) (h : GoodL C Wx X es (noCalls xs) (evL (evE C.P n) xs)) :
    GoodE C Wx X (.Call (.Attribute (.Name x p) (so m) apos) es [] pos) false (fun ρ => match ρ[i]? with
      | some (.ob c fs) => if (lookF fs m).isSome then .no else match C.P.fn (c ++ "." ++ m) with
        | some D => (evL (evE C.P n) xs ρ).bind fun ts ρ1 => callF (evB C.P n) D (.pl i :: ts) ρ1
        | none => .no
      | _ => .no) := by
  intro Z ρ σ H W Q S hz hr
  simp only at hr
  split at hr
  · rename_i c fs ei
    split at hr
    · exact hr.elim
    rename_i hl
    cases hd : C.P.fn (c ++ "." ++ m) with
    | none => rw [hd] at hr; exact hr.elim
    | some D =>
      rw [hd] at hr
      simp only at hr
      obtain ⟨a, fd, ps, h1, h2, F, h3, h4⟩ := fk _ D hd
      obtain ⟨hN, hv⟩ := o.vis hx
      obtain ⟨A, sl, ap⟩ := S.sls
      obtain ⟨ov, w, as, W1, W2, A1, A2, e1, e2, rfl, rfl, _⟩ := sl.at_ ei
      cases e2 with
      | ob r =>
        obtain ⟨pp, CC, dx, vfs, w', rfl, q2, q3, q4, q5, rfl⟩ := r.ex
        have hcl : ∃ b, C.P.cls c = some b := by
          cases e : C.P.cls c with
          | none => exact (hc c CC e q2).elim
          | some b => exact ⟨b, rfl⟩
        obtain ⟨b, hb⟩ := hcl
        obtain ⟨A', ca1, _, cl, me, _⟩ := o.md.ca c b hb
        rw [q2] at ca1; cases ca1
        have hno : lookF fs m = none := by simpa using hl
        refine rule_om rfl (pe_var hN hv hx.2.2.1 hx.2.2.2) cl (me _ D a m rfl hd h1) F (o.room.mono (by omega)) h4 o.tk hs hln hll ⟨_, e1, pp, dx, vfs, rfl, q3, q5.none hno, h Z ρ σ H _ _ S hz ?_⟩
        cases he : evL (evE C.P n) xs ρ with
        | no => rw [he] at hr; exact hr.elim
        | ex er ρ1 => rw [he] at hr; exact hr
        | ok ts ρ1 =>
          rw [he] at hr
          intro vs H1 g
          obtain ⟨W3, w3, as3, p3, S3, r3, c3⟩ := g.ex
          have g' : Gots C.M Z (noCalls xs) H (W1 ++ (pp :: dx :: w' ++ W2)) (.pl i :: ts) ρ1 σ (.ref pp :: vs) H1 := ⟨W3, w3, as3, p3, S3, .cons (w := []) (as := []) (.pl e1) r3, c3⟩
          exact call_ok hz S.nz g' hr
  · exact hr.elim

theorem Sls.append {M : Md} {H : Hp} {ρ1 ρ2 : Rho} {σ1 σ2 : L2.St} {W1 W2 A1 A2 : List Addr} (h1 : Sls M H ρ1 σ1 W1 A1) (h2 : Sls M H ρ2 σ2 W2 A2) : Sls M H (ρ1 ++ ρ2) (σ1 ++ σ2) (W1 ++ W2) (A1 ++ A2) := by
  induction h1 with
  | nil => exact h2
  | cons r _ ih => rw [List.append_assoc, List.append_assoc]; exact .cons r ih
theorem Sls.last {M : Md} {H : Hp} : ∀ {ρ : Rho} {σ : L2.St} {s : Sl} {o : Option V} {W A : List Addr}, Sls M H (ρ ++ [s]) (σ ++ [o]) W A → ∃ W1 w A1 a, Sls M H ρ σ W1 A1 ∧ SlR M H s o w a ∧ W = W1 ++ w ∧ A = A1 ++ a
  | [], [], s, o, _, _, h => by
    cases h with
    | @cons _ _ w as _ _ W A r t =>
      cases t
      exact ⟨[], w, [], as, .nil, r, by simp, by simp⟩
  | [], _ :: σ, s, o, _, _, h => by
    have := h.length
    simp at this
  | _ :: ρ, [], s, o, _, _, h => by
    have := h.length
    simp at this
  | _ :: ρ, _ :: σ, s, o, _, _, h => by
    cases h with
    | @cons _ _ w as _ _ W A r t =>
      obtain ⟨W1, w', A1, a, h1, h2, rfl, rfl⟩ := Sls.last t
      exact ⟨w ++ W1, w', as ++ A1, a, .cons r h1, h2, by simp, by simp⟩
theorem TokR.grow {M : Md} {H : Hp} {σ τ : L2.St} {t : Tok} {v : V} {w as : List Addr} (h : TokR M σ H t v w as) : TokR M (σ ++ τ) H t v w as := by
  have g : ∀ {i : Nat} {v : V}, σ[i]? = some (some v) → (σ ++ τ)[i]? = some (some v) := fun e => by
    have := (List.getElem?_eq_some_iff.mp e).1
    rw [List.getElem?_append_left this]; exact e
  cases h with
  | lf r => exact .lf r
  | pl e => exact .pl (g e)
  | pf e h1 h2 => exact .pf (g e) h1 h2
  | fn e => exact .fn e
  | ob r => exact .ob r
theorem ToksR.grow {M : Md} {H : Hp} {σ τ : L2.St} {ts : List Tok} {vs : List V} {w as : List Addr} (h : ToksR M σ H ts vs w as) : ToksR M (σ ++ τ) H ts vs w as := by
  induction h with
  | nil => exact .nil
  | cons r _ ih => exact .cons r.grow ih
theorem ToksR.stayS {M : Md} {H H' : Hp} {σ : L2.St} {ts : List Tok} {vs : List V} {w as : List Addr} (h : ToksR M σ H ts vs w as) (sm : Same H H') : ToksR M σ H' ts vs w as := by
  induction h with
  | nil => exact .nil
  | cons r _ ih => exact .cons (r.stay (Stay.ofSame sm) fun _ b C dx fs e => sm _ _ e) ih
theorem good_mk {c : String} {xs : List Ex} (o : Okx C (n + 1) Wx X) (fk : FOk C.M C.P X n) (hx : gloS C (so c)) (hs : es.all notStar = true) (h : GoodL C Wx X es (noCalls xs) (evL (evE C.P n) xs)) :
    GoodE C Wx X (.Call (.Name (so c) p) es [] pos) false (fun ρ => match C.P.cls c, C.P.fn (c ++ ".__init__") with
      | some true, some D => (evL (evE C.P n) xs ρ).bind fun ts ρ1 =>
          match callF (evB C.P n) D (.pl ρ1.length :: ts) (ρ1 ++ [.ob c []]) with
          | .ok (.lf (.d .none)) ρ2 => match ρ2.getLast? with
            | some (.ob c' fs) => if c' = c then .ok (.ob c fs) ρ2.dropLast else .no
            | _ => .no
          | _ => .no
      | _, _ => .no) := by
  intro Z ρ σ H W Q S hz hr
  simp only at hr
  split at hr
  case h_2 => exact hr.elim
  case h_1 D hcls hd =>
  obtain ⟨a, fd, ps, h1, h2, F, h3, h4⟩ := fk _ D hd
  obtain ⟨A, ca1, hg, cl, me, mk⟩ := o.md.ca c true hcls
  refine rule_mk (mk D a rfl hd h1) F (o.room.mono (by omega)) (o.gl hx) hg h4 o.tk hx.2 hs (h Z ρ σ H W _ S hz ?_)
  cases he : evL (evE C.P n) xs ρ with
  | no => rw [he] at hr; exact hr.elim
  | ex er ρ1 => rw [he] at hr; exact hr
  | ok ts ρ1 =>
    rw [he] at hr
    simp only [Out.bind_ok] at hr
    intro vs H1 g z dz hzn hdn hne
    obtain ⟨W1, w, as, p1, S1, r1, c1⟩ := g.ex
    have hz1 : ZT Z H1 := p1.z hz S.nz
    have hd1 : H1 dz = none := hdn
    have hz2 : upd H1 dz (.own z) z = none := by rw [upd_ne hne.symm]; exact hzn
    have sm : Same H1 (upd (upd H1 dz (.own z)) z (.ins A dz [])) := fun b u e => same_upd hz2 _ _ (same_upd hd1 _ _ e)
    have ow1 := S1.own
    have nw : ∀ a, (a = z ∨ a = dz) → H1 a = none := fun a h => h.elim (fun e => e ▸ hzn) fun e => e ▸ hdn
    have nW : ∀ a, (a = z ∨ a = dz) → a ∉ W1 := fun a h z' => by obtain ⟨u, e, _⟩ := ow1 a z'; rw [nw a h] at e; cases e
    have nw1 : ∀ a, (a = z ∨ a = dz) → a ∉ w := fun a h z' => by obtain ⟨u, e, _⟩ := r1.own a z'; rw [nw a h] at e; cases e
    have nas : ∀ a, (a = z ∨ a = dz) → a ∉ as := fun a h z' => by obtain ⟨u, e⟩ := r1.trk a z'; rw [nw a h] at e; cases e
    have nZ : ∀ a, (a = z ∨ a = dz) → ¬ Z a := fun a h z' => by obtain ⟨u, e, _⟩ := hz1 a z'; rw [nw a h] at e; cases e
    have ob : SlR C.M (upd (upd H1 dz (.own z)) z (.ins A dz [])) (.ob c []) (some (.ref z)) [z, dz] [] := .ob ⟨z, A, dz, [], [], rfl, ca1, upd_same, by rw [upd_ne hne]; exact upd_same, .nil, rfl⟩
    have Sx : Sim C.M (orL Z w) (ρ1 ++ [.ob c []]) (σ ++ [some (.ref z)]) (upd (upd H1 dz (.own z)) z (.ins A dz [])) (W1 ++ [z, dz]) := by
      obtain ⟨B, sl0, ap⟩ := S1.sls
      have sl := sl0.stay (B := W1 ++ B) (Stay.ofSame sm) (fun a h => by simp [h]) (fun a h => by simp [h])
      refine ⟨⟨B, ?_, fun a ha => ⟨fun z' => ?_, (ap a ha).2⟩⟩, ?_, fun a ha z' => ?_⟩
      · have := sl.append (.cons ob .nil)
        simpa using this
      · rcases List.mem_append.mp z' with z' | z'
        · exact (ap a ha).1 z'
        · simp at z'
          obtain ⟨u, e⟩ := sl0.trk a ha
          rw [nw a z'] at e; cases e
      · rw [List.nodup_append]
        refine ⟨S1.nd, ?_, fun a ha b hb e => ?_⟩
        · simp [hne.symm]
        · subst e
          simp at hb
          exact nW a hb ha
      · rcases List.mem_append.mp ha with ha | ha
        · exact S1.nz a ha z'
        · simp at ha
          exact z'.elim (nZ a ha) (nw1 a ha)
    have gx : Gots C.M Z (noCalls xs) H W (.pl ρ1.length :: ts) (ρ1 ++ [.ob c []]) (σ ++ [some (.ref z)]) (.ref z :: vs) (upd (upd H1 dz (.own z)) z (.ins A dz [])) := by
      refine ⟨W1 ++ [z, dz], w, as, ?_, Sx, .cons (w := []) (as := []) (.pl ?_) ((r1.grow).stayS sm), ⟨fun a ha => ⟨fun z' => ?_, (c1.sup a ha).2⟩, c1.nd, fun a ha => ⟨fun z' => ?_, (c1.out a ha).2⟩⟩⟩
      · refine (((p1.alloc (o := .own z) hd1).alloc (o := .ins A dz []) hz2)).sub fun a ha => ?_
        simp only [List.mem_append, List.mem_cons, List.not_mem_nil, or_false] at ha ⊢
        rcases ha with (ha | ha | ha) | ha <;> simp [ha]
      · rw [S1.length, List.getElem?_append_right (Nat.le_refl _)]; simp
      · rcases List.mem_append.mp z' with z' | z'
        · exact (c1.sup a ha).1 z'
        · simp at z'; exact nas a z' ha
      · rcases List.mem_append.mp z' with z' | z'
        · exact (c1.out a ha).1 z'
        · simp at z'; exact nw1 a z' ha
    have hlen : ρ1.length = σ.length := S1.length
    refine call_ok (Wx := fun cls d _ H' => Wx cls d σ H') hz S.nz gx ?_
    cases hcf : callF (evB C.P n) D (.pl ρ1.length :: ts) (ρ1 ++ [.ob c []]) with
    | no => rw [hcf] at hr; exact hr.elim
    | ex er ρ2 => rw [hcf] at hr; exact hr.elim
    | ok t ρ2 =>
      rw [hcf] at hr
      skip
      split at hr
      case h_2 => exact hr.elim
      case h_1 _ _ ρ3 heq =>
      cases heq
      split at hr
      case h_2 => exact hr.elim
      case h_1 c' fs hl =>
      split at hr
      case isFalse => exact hr.elim
      case isTrue hcc =>
      subst hcc
      intro v H2 g2
      obtain ⟨W2, w2, as2, p2, S2, r2, c2⟩ := g2.ex
      cases r2 with
      | lf r2 =>
        cases r2 with
        | d r2 =>
          refine ⟨r2.none_inv.1, hr _ _ ?_⟩
          have hρ : ρ2 = ρ2.dropLast ++ [.ob c' fs] := by
            rw [List.getLast?_eq_some_iff] at hl
            obtain ⟨ys, rfl⟩ := hl
            simp
          obtain ⟨B, sl, ap⟩ := S2.sls
          rw [hρ] at sl
          obtain ⟨W3, w3, A3, a3, q1, q2, rfl, rfl⟩ := sl.last
          cases q2 with
          | ob q2 =>
            have nd := S2.nd
            rw [List.nodup_append] at nd
            refine ⟨W3, w3, a3, by simpa using p2, ⟨⟨A3, q1, fun a ha => ⟨fun z' => (ap a (by simp [ha])).1 (by simp [z']), fun z' => z'.elim (fun z' => (ap a (by simp [ha])).2 (.inl z')) fun z' => (ap a (by simp [ha])).1 (by simp [z'])⟩⟩, nd.1, fun a ha z' => z'.elim (fun z' => S2.nz a (by simp [ha]) (.inl z')) fun z' => nd.2.2 a ha a z' rfl⟩, .ob q2,
              ⟨fun a ha => ⟨fun z' => (ap a (by simp [ha])).1 (by simp [z']), fun z' => (ap a (by simp [ha])).2 (.inl z'), fun z' => (ap a (by simp [ha])).1 (by simp [z'])⟩, nd.2.1, fun a ha => ⟨fun z' => nd.2.2 a z' a ha rfl, fun z' => S2.nz a (by simp [ha]) (.inl z')⟩⟩⟩
end
end DL

set_option maxRecDepth 100000
set_option maxHeartbeats 4000000
/-! DL15: tests. -/
namespace DL
open PySem PySem.Spec L2

/-- what a test makes of a bool -/
def qT (Q : Bool → Hp → Prop) : VK := fun v H => ∃ k, v = .bl k ∧ Q k H
def PrimT (C : Cst) (X : Cx) (e : Expr) (os : List Expr) (op : Pr) : Prop := (∀ σ H Q, WAs X os σ H (fun _ _ => False) → WT X e σ H Q) ∧ ∀ ls l, pd op ls = some l → (∃ b, l = .d (.bool b)) ∧ ∃ r : List V → Hp → VK → Prop, (∀ σ H Q, WAs X os σ H (fun vs H1 => r vs H1 (qT Q)) → WT X e σ H Q) ∧ ∀ vs as H Q, CosR C.M.K H ls vs as → Kont C.M.K H as l Q → r vs H Q
def truM (m : Rho → Out Tok) : Rho → Out Bool := fun ρ => (m ρ).bind fun t ρ1 => match (rd ρ1 t).bind truth with
  | some b => .ok b ρ1
  | none => .no
section
variable {C : Cst} {Wx : WX} {X : Cx}
theorem good_pureT {e : Expr} {os : List Expr} {op : Pr} {xs : List Ex} {ev : Ex → Rho → Out Tok} (hp : isPure op = true) (P : PrimT C X e os op) (h : GoodL C Wx X os (noCalls xs) (evL ev xs)) :
    GoodT C Wx X e (noCall (.p op xs)) (truM fun ρ => (evL ev xs ρ).bind fun ts ρ1 => ofOpt (prm op ts ρ1)) := by
  intro Z ρ σ H W Q S hz hr
  have ne : noCall (.p op xs) = noCalls xs := by simp [noCall]
  unfold truM at hr
  simp only at hr
  cases hx : evL ev xs ρ with
  | no => rw [hx] at hr; exact hr.elim
  | ex er ρ1 =>
    rw [hx] at hr
    exact P.1 σ H Q (h Z ρ σ H W (fun _ _ => False) S hz (by rw [hx]; exact hr))
  | ok ts ρ1 =>
    rw [hx] at hr
    simp only [Out.bind_ok] at hr
    rw [prm_pure hp] at hr
    cases hl : rds ρ1 ts with
    | none => rw [hl] at hr; exact hr.elim
    | some ls =>
      rw [hl] at hr
      cases hd : pd op ls with
      | none => simp [hd] at hr; exact hr.elim
      | some l =>
        obtain ⟨⟨b, rfl⟩, r, rule, sem⟩ := P.2 ls l hd
        simp [hd, rd, truth] at hr
        refine rule σ H Q (h Z ρ σ H W _ S hz ?_)
        rw [hx]
        intro vs H1 g
        obtain ⟨A, co, fin⟩ := got_pure hz S.nz g hl
        refine sem vs A H1 _ co fun v H' w as a1 a2 a3 a4 a5 => ?_
        have g' := fin _ v H' w as a1 a2 a3 a4 a5
        obtain ⟨W', p', S'⟩ := g'.drop
        exact ⟨b, g'.bool, hr H' W' (by rw [ne]; exact p') S'⟩
theorem rule_cmpT {a b : Expr} {pos : Pos} {op : CmpOp} {r : R2} (ho : OpR X (compareOp op) r) (hm : behindInMarks op b = false) {σ : L2.St} {H : Hp} {Q : Bool → Hp → Prop} (h : WAs X [a, b] σ H (fun vs H1 => r2 r vs H1 (qT Q))) : WT X (.Compare a [op] [b] pos) σ H Q :=
  wt_of (pt_cmpR ho pe_we pe_we hm) (show tTest (tOp r (WE X a) (WE X b)) σ H Q from tOp_was h)
theorem rule_isNT {op : CmpOp} {a : Expr} {j : Nat} {p pos : Pos} {r : R2} (ho : OpR X (compareOp op) r) (hm : behindInMarks op (.Constant .none j p) = false) {σ : L2.St} {H : Hp} {Q : Bool → Hp → Prop} (h : WAs X [a] σ H (fun vs H1 => r1v (rN1 r) vs H1 (qT Q))) : WT X (.Compare a [op] [.Constant .none j p] pos) σ H Q :=
  wt_of (pt_cmpR ho pe_we pe_non hm) (show tTest (tOp r (WE X a) (tC .non)) σ H Q from h)
theorem primT2 {e : Expr} {a b : Expr} {op : Pr} {ok : R2 → Prop} (hb : ∀ a b l, pd op [a, b] = some l → ∃ k, l = .d (.bool k)) (h2 : two_ op) (h0 : ok r0) (rule : ∀ r, ok r → ∀ {σ H Q}, WAs X [a, b] σ H (fun vs H1 => r2 r vs H1 (qT Q)) → WT X e σ H Q) (s : Sem2 C op ok) : PrimT C X e [a, b] op := by
  refine ⟨fun σ H Q h => rule r0 h0 (by rw [r2_0]; exact h), fun ls l hl => ?_⟩
  obtain ⟨l1, l2, rfl⟩ := h2 ls l hl
  obtain ⟨r, ho, sem⟩ := s l1 l2 l hl
  refine ⟨hb l1 l2 l hl, r2 r, fun σ H Q h => rule r ho h, fun vs as H Q co k => ?_⟩
  cases co with
  | cons c1 co => cases co with
    | cons c2 co => cases co; exact sem _ _ _ _ _ _ c1 c2 (by simpa using k)
theorem primT1 {e : Expr} {a : Expr} {op : Pr} {ok : R1 → Prop} (hb : ∀ a l, pd op [a] = some l → ∃ k, l = .d (.bool k)) (h2 : one_ op) (h0 : ok r10) (rule : ∀ r, ok r → ∀ {σ H Q}, WAs X [a] σ H (fun vs H1 => r1v r vs H1 (qT Q)) → WT X e σ H Q) (s : Sem1 C op ok) : PrimT C X e [a] op := by
  refine ⟨fun σ H Q h => rule r10 h0 (by rw [r1v_0]; exact h), fun ls l hl => ?_⟩
  obtain ⟨l1, rfl⟩ := h2 ls l hl
  obtain ⟨r, ho, sem⟩ := s l1 l hl
  refine ⟨hb l1 l hl, r1v r, fun σ H Q h => rule r ho h, fun vs as H Q co k => ?_⟩
  cases co with
  | cons c1 co => cases co; exact sem _ _ _ _ c1 (by simpa using k)

/-! ### any other expression as a test -/
theorem tru_co {K : PySem.W.Frag} {H : Hp} {l : Fl} {v : V} {A : List Addr} (h : CoR K H l v A) {b : Bool} (e : truth l = some b) : TruV K v H b := by
  have em : ∀ {xs : List PyData} {vs : List V} {as : List Addr}, RepDs K H vs xs as → xs.isEmpty = vs.isEmpty := fun r => by cases r <;> rfl
  cases h with
  | d r =>
    cases r <;> simp only [truth] at e <;> try (cases e; done)
    · cases e; rfl
    · cases e; rfl
    · cases e; rfl
    · split at e
      · rename_i hz
        cases e
        exact ⟨hz, by rw [Bool.eq_iff_iff]; simp [bne]⟩
      · cases e
    · rename_i h t
      cases e
      exact .inr (.inl ⟨_, h, by rw [em t]⟩)
    · rename_i h t
      cases e
      exact .inl ⟨_, SqL.of h, by rw [em t]⟩
    · rename_i h t
      cases e
      exact .inl ⟨_, h.1, by rw [em t]⟩
  | ls e1 r =>
    simp only [truth, Option.some.injEq] at e
    subst e
    exact .inl ⟨_, SqL.of e1, by rw [em r]⟩
theorem good_truth {e : Expr} {q : Bool} {m : Rho → Out Tok} (he : ∀ whole, isTrue e X.env whole = (do let v ← whole; standAt e.pos; holding [v] (truthy v))) (hK : C.M.K = X.K) (h : GoodE C Wx X e q m) : GoodT C Wx X e q (truM m) := by
  intro Z ρ σ H W Q S hz hr
  refine wt_of (pt_truth pe_we he) (h Z ρ σ H W _ S hz ?_)
  unfold truM at hr
  cases hx : m ρ with
  | no => rw [hx] at hr; exact hr
  | ex er ρ1 => rw [hx] at hr; exact hr
  | ok t ρ1 =>
    rw [hx] at hr
    simp only [Out.bind_ok] at hr
    intro v H1 g
    cases hl : rd ρ1 t with
    | none => rw [hl] at hr; exact hr.elim
    | some l =>
      rw [hl] at hr
      cases ht : truth l with
      | none => simp [ht] at hr; exact hr.elim
      | some b =>
        simp [ht] at hr
        obtain ⟨W1, w, as, p, S1, r, c⟩ := g.ex
        obtain ⟨as', co, off⟩ := rd_ok (S1.weak (Z' := Z) fun a h => .inl h) r (fun a ha => ⟨(c.sup a ha).1, (c.sup a ha).2.1⟩) hl
        obtain ⟨W2, p2, S2⟩ := g.drop
        exact ⟨b, by rw [← hK]; exact tru_co co ht, hr H1 W2 p2 S2⟩

/-! ### and, or, not, if -/
def WW (X : Cx) (e : Expr) : TT := fun σ H Q => ∀ wh pins s, Inv X pins σ H s → wpAny (model X.prog X.w) X.A (isTrue e X.env wh) (TP X pins σ Q) X.xe s
theorem pw_ww {e : Expr} : PW X e (WW X e) := ⟨fun wh pins s σ H Q I h => h wh pins s I⟩
theorem ww_of {e : Expr} {t : TT} (h : PW X e t) {σ : L2.St} {H : Hp} {Q : Bool → Hp → Prop} (q : t σ H Q) : WW X e σ H Q := fun wh pins s I => h.run wh pins s σ H Q I q
def GoodW (C : Cst) (Wx : WX) (X : Cx) (e : Expr) (q : Bool) (m : Rho → Out Bool) : Prop := ∀ (Z : Addr → Prop) (ρ : Rho) (σ : L2.St) (H : Hp) (W : List Addr) (Q : Bool → Hp → Prop), Sim C.M Z ρ σ H W → ZT Z H → ResT C.M Wx Z q σ H W (m ρ) Q → WW X e σ H Q
theorem GoodW.t {e : Expr} {q : Bool} {m : Rho → Out Bool} (h : GoodW C Wx X e q m) : GoodT C Wx X e q m := fun Z ρ σ H W Q S hz hr => fun pins s I => h Z ρ σ H W Q S hz hr _ pins s I
/-- behind a first test -/
theorem ResT.after {Z : Addr → Prop} {q q2 : Bool} {σ : L2.St} {H0 H1 : Hp} {W0 W1 : List Addr} {out : Out Bool} {Q : Bool → Hp → Prop} (p : Post q H0 W0 H1 W1) (h : ResT C.M Wx Z (q && q2) σ H0 W0 out Q) : ResT C.M Wx Z q2 σ H1 W1 out Q := by
  cases out with
  | no => exact h
  | ex er ρ2 => exact ExOk.behind h (w1 := []) (by simpa using p) fun a z => z
  | ok b ρ2 => exact fun H2 W2 p2 S2 => h H2 W2 (by have p' : Post q H0 W0 H1 (W1 ++ []) := by simpa using p
                                                    have p2' : Post q2 H1 W1 H2 (W2 ++ []) := by simpa using p2
                                                    simpa using p'.seq p2') S2
theorem ResT.weakq {Z : Addr → Prop} {q q2 : Bool} {σ : L2.St} {H0 : Hp} {W0 : List Addr} {out : Out Bool} {Q : Bool → Hp → Prop} (hq : q = true → q2 = true) (h : ResT C.M Wx Z q σ H0 W0 out Q) : ResT C.M Wx Z q2 σ H0 W0 out Q := by
  cases out with
  | no => exact h
  | ex er ρ2 => exact h
  | ok b ρ2 => exact fun H2 W2 p2 S2 => h H2 W2 (p2.weakq hq) S2
theorem goodT_bind {a : Expr} {xa : Ex} {qb : Bool} {ma : Rho → Out Bool} {mb : Bool → Rho → Out Bool} {t : Bool → L2.St → Hp → (Bool → Hp → Prop) → Prop} {T : L2.St → Hp → (Bool → Hp → Prop) → Prop} (rule : ∀ {σ H Q}, WT X a σ H (fun c H1 => t c σ H1 Q) → T σ H Q) (ha : GoodT C Wx X a (noCall xa) ma)
    (hb : ∀ (c : Bool) (Z : Addr → Prop) (ρ : Rho) (σ : L2.St) (H : Hp) (W : List Addr) (Q : Bool → Hp → Prop), Sim C.M Z ρ σ H W → ZT Z H → ResT C.M Wx Z qb σ H W (mb c ρ) Q → t c σ H Q) :
    ∀ (Z : Addr → Prop) (ρ : Rho) (σ : L2.St) (H : Hp) (W : List Addr) (Q : Bool → Hp → Prop), Sim C.M Z ρ σ H W → ZT Z H → ResT C.M Wx Z (noCall xa && qb) σ H W ((ma ρ).bind mb) Q → T σ H Q := by
  intro Z ρ σ H W Q S hz hr
  refine rule (ha Z ρ σ H W _ S hz ?_)
  cases hx : ma ρ with
  | no => rw [hx] at hr; exact hr
  | ex er ρ1 => rw [hx] at hr; exact hr
  | ok k ρ1 =>
    rw [hx] at hr
    simp only [Out.bind_ok] at hr
    intro H1 W1 p1 S1
    exact hb k Z ρ1 σ H1 W1 Q S1 (p1.z hz S.nz) (ResT.after p1 hr)
theorem resT_here {Z : Addr → Prop} {q : Bool} {σ : L2.St} {H : Hp} {W : List Addr} {b : Bool} {ρ : Rho} {Q : Bool → Hp → Prop} (S : Sim C.M Z ρ σ H W) (h : ResT C.M Wx Z q σ H W (.ok b ρ) Q) : Q b H := h H W Post.refl S
theorem goodW_and {a b : Expr} {rest : List Expr} {pos : Pos} {xa xb : Ex} {ma mb : Rho → Out Bool} (ha : GoodT C Wx X a (noCall xa) ma) (hb : GoodW C Wx X (.BoolOp .And (b :: rest) pos) (noCall xb) mb) :
    GoodW C Wx X (.BoolOp .And (a :: b :: rest) pos) (noCall (.and xa xb)) (fun ρ => (ma ρ).bind fun k ρ1 => if k then mb ρ1 else .ok false ρ1) := by
  have ne : noCall (.and xa xb) = (noCall xa && noCall xb) := by simp [noCall]
  unfold GoodW
  rw [ne]
  refine goodT_bind (mb := fun k ρ1 => if k then mb ρ1 else .ok false ρ1) (t := fun c σ H1 Q => if c = true then WW X (.BoolOp .And (b :: rest) pos) σ H1 Q else Q false H1) (fun h => ww_of (pw_and pt_wt pw_ww) h) ha fun c Z ρ σ H W Q S hz hr => ?_
  cases c with
  | true => rw [if_pos rfl]; exact hb Z ρ σ H W Q S hz (by simpa using hr)
  | false => rw [if_neg Bool.false_ne_true]; exact resT_here S (by simpa using hr)
theorem goodW_or {a b : Expr} {rest : List Expr} {pos : Pos} {xa xb : Ex} {ma mb : Rho → Out Bool} (ha : GoodT C Wx X a (noCall xa) ma) (hb : GoodW C Wx X (.BoolOp .Or (b :: rest) pos) (noCall xb) mb) :
    GoodW C Wx X (.BoolOp .Or (a :: b :: rest) pos) (noCall (.or xa xb)) (fun ρ => (ma ρ).bind fun k ρ1 => if k then .ok true ρ1 else mb ρ1) := by
  have ne : noCall (.or xa xb) = (noCall xa && noCall xb) := by simp [noCall]
  unfold GoodW
  rw [ne]
  refine goodT_bind (mb := fun k ρ1 => if k then .ok true ρ1 else mb ρ1) (t := fun c σ H1 Q => if c = true then Q true H1 else WW X (.BoolOp .Or (b :: rest) pos) σ H1 Q) (fun h => ww_of (pw_or pt_wt pw_ww) h) ha fun c Z ρ σ H W Q S hz hr => ?_
  cases c with
  | true => rw [if_pos rfl]; exact resT_here S (by simpa using hr)
  | false => rw [if_neg Bool.false_ne_true]; exact hb Z ρ σ H W Q S hz (by simpa using hr)
theorem goodW_and1 {a : Expr} {pos : Pos} {q : Bool} {ma : Rho → Out Bool} (ha : GoodT C Wx X a q ma) : GoodW C Wx X (.BoolOp .And [a] pos) q ma := fun Z ρ σ H W Q S hz hr => ww_of (pw_and1 pt_wt) (ha Z ρ σ H W Q S hz hr)
theorem goodW_or1 {a : Expr} {pos : Pos} {q : Bool} {ma : Rho → Out Bool} (ha : GoodT C Wx X a q ma) : GoodW C Wx X (.BoolOp .Or [a] pos) q ma := fun Z ρ σ H W Q S hz hr => ww_of (pw_or1 pt_wt) (ha Z ρ σ H W Q S hz hr)
theorem goodT_not {a : Expr} {pos : Pos} {xa : Ex} {ma : Rho → Out Bool} (ha : GoodT C Wx X a (noCall xa) ma) : GoodT C Wx X (.UnaryOp .Not a pos) (noCall (.not xa)) (fun ρ => (ma ρ).bind fun k ρ1 => .ok (!k) ρ1) := by
  have ne : noCall (.not xa) = (noCall xa && true) := by simp [noCall]
  unfold GoodT
  rw [ne]
  refine goodT_bind (mb := fun k ρ1 => .ok (!k) ρ1) (t := fun c σ H1 Q => Q (!c) H1) (fun h => wt_of (pt_not pt_wt) h) ha fun c Z ρ σ H W Q S hz hr => resT_here S hr
theorem pt_ifExp {c a b : Expr} {pos : Pos} : PT X (.IfExp c a b pos) (fun σ H Q => WT X c σ H fun k H1 => if k = true then WT X a σ H1 Q else WT X b σ H1 Q) := by
  refine ⟨fun pins s σ H Q I h => ?_⟩
  refine PyProof.Rows.isTrue_IfExp (thn (h pins s I) fun k s1 ⟨H1, I1, q1⟩ => ?_)
  cases k with
  | true => exact q1 pins s1 I1
  | false => exact q1 pins s1 I1
theorem goodT_ite {c a b : Expr} {pos : Pos} {xc xa xb : Ex} {mc ma mb : Rho → Out Bool} (hc : GoodT C Wx X c (noCall xc) mc) (ha : GoodT C Wx X a (noCall xa) ma) (hb : GoodT C Wx X b (noCall xb) mb) :
    GoodT C Wx X (.IfExp c a b pos) (noCall (.ite xc xa xb)) (fun ρ => (mc ρ).bind fun k ρ1 => if k then ma ρ1 else mb ρ1) := by
  have ne : noCall (.ite xc xa xb) = (noCall xc && (noCall xa && noCall xb)) := by simp [noCall, Bool.and_assoc]
  unfold GoodT
  rw [ne]
  refine goodT_bind (mb := fun k ρ1 => if k then ma ρ1 else mb ρ1) (t := fun c σ H1 Q => if c = true then WT X a σ H1 Q else WT X b σ H1 Q) (fun h => wt_of pt_ifExp h) hc fun c Z ρ σ H W Q S hz hr => ?_
  cases c with
  | true => rw [if_pos rfl]; exact ha Z ρ σ H W Q S hz (ResT.weakq (fun z => by rw [Bool.and_eq_true] at z; exact z.1) (by simpa using hr))
  | false => rw [if_neg Bool.false_ne_true]; exact hb Z ρ σ H W Q S hz (ResT.weakq (fun z => by rw [Bool.and_eq_true] at z; exact z.2) (by simpa using hr))
end
end DL

set_option maxRecDepth 100000
set_option maxHeartbeats 4000000
/-! DL16: statements: what they leave; names that get things; blocks. -/
namespace DL
open PySem PySem.Spec L2

/-- the slots of pin hold what they held -/
def Kp (pin : List Nat) (σ σ' : L2.St) : Prop := ∀ i ∈ pin, σ'[i]? = σ[i]?
theorem Kp.refl {pin : List Nat} {σ : L2.St} : Kp pin σ σ := fun _ _ => rfl
theorem Kp.trans {pin : List Nat} {σ σ1 σ2 : L2.St} (a : Kp pin σ σ1) (b : Kp pin σ1 σ2) : Kp pin σ σ2 := fun i h => (b i h).trans (a i h)
theorem Kp.sub {pin p2 : List Nat} {σ σ1 : L2.St} (a : Kp pin σ σ1) (h : ∀ i ∈ p2, i ∈ pin) : Kp p2 σ σ1 := fun i q => a i (h i q)
structure StR (M : Md) (Z : Addr → Prop) (pin : List Nat) (σ0 : L2.St) (H0 : Hp) (W0 : List Addr) (ρ : Rho) (σ : L2.St) (H : Hp) (W : List Addr) : Prop where
  post : Post false H0 W0 H W
  sim : Sim M Z ρ σ H W
  kp : Kp pin σ0 σ
def ExS (M : Md) (Wx : WX) (Z : Addr → Prop) (pin : List Nat) (σ0 : L2.St) (H0 : Hp) (W0 : List Addr) (e : Er) (ρ : Rho) : Prop := ∀ cls d σ H W, ErR M Z W H e cls d → StR M Z pin σ0 H0 W0 ρ σ H W → Wx cls d σ H
def ResS (M : Md) (Wx : WX) (Z : Addr → Prop) (pin : List Nat) (σ0 : L2.St) (H0 : Hp) (W0 : List Addr) (out : Out Flow) (D : Ends) : Prop := match out with
  | .ok .nx ρ => ∀ σ H W, StR M Z pin σ0 H0 W0 ρ σ H W → D.nx σ H
  | .ok .bk ρ => ∀ σ H W, StR M Z pin σ0 H0 W0 ρ σ H W → D.bk σ H
  | .ok .ct ρ => ∀ σ H W, StR M Z pin σ0 H0 W0 ρ σ H W → D.ct σ H
  | .ok (.rt t) ρ => ∀ v σ H W w as, Post false H0 W0 H (W ++ w) → Sim M (orL Z w) ρ σ H W → Kp pin σ0 σ → TokR M [] H t v w as → Clean Z W w as → D.rt v H
  | .ex e ρ => ExS M Wx Z pin σ0 H0 W0 e ρ
  | .no => False
def GoodS (C : Cst) (Wx : WX) (X : Cx) (st : Stmt) (pin : List Nat) (m : Rho → Out Flow) : Prop := ∀ (Z : Addr → Prop) (ρ : Rho) (σ : L2.St) (H : Hp) (W : List Addr) (D : Ends), Sim C.M Z ρ σ H W → ZT Z H → ResS C.M Wx Z pin σ H W (m ρ) D → WS X st D σ H
def GoodB (C : Cst) (Wx : WX) (X : Cx) (sts : List Stmt) (pin : List Nat) (m : Rho → Out Flow) : Prop := ∀ (Z : Addr → Prop) (ρ : Rho) (σ : L2.St) (H : Hp) (W : List Addr) (D : Ends), Sim C.M Z ρ σ H W → ZT Z H → ResS C.M Wx Z pin σ H W (m ρ) D → WSs X sts D σ H
section
variable {C : Cst} {Wx : WX} {X : Cx} {M : Md} {Z : Addr → Prop} {pin : List Nat} {σ0 σ σ1 : L2.St} {H0 H H1 : Hp} {W0 W W1 : List Addr} {ρ ρ' : Rho} {D : Ends} {q : Bool}
theorem Post.then_ {W2 : List Addr} {H2 : Hp} {q2 : Bool} (a : Post q H0 W0 H1 W1) (b : Post q2 H1 W1 H2 W2) : Post (q && q2) H0 W0 H2 W2 := by
  have a' : Post q H0 W0 H1 (W1 ++ []) := by simpa using a
  have b' : Post q2 H1 W1 H2 (W2 ++ []) := by simpa using b
  simpa using a'.seq b'
theorem StR.refl (S : Sim M Z ρ σ H W) : StR M Z pin σ H W ρ σ H W := ⟨Post.refl, S, Kp.refl⟩
theorem StR.after {σ2 : L2.St} {H2 : Hp} {W2 : List Addr} {ρ2 : Rho} (a : StR M Z pin σ0 H0 W0 ρ σ1 H1 W1) (b : StR M Z pin σ1 H1 W1 ρ2 σ2 H2 W2) : StR M Z pin σ0 H0 W0 ρ2 σ2 H2 W2 := ⟨(a.post.then_ b.post), b.sim, a.kp.trans b.kp⟩
theorem ExS.after {er : Er} (a : StR M Z pin σ0 H0 W0 ρ σ1 H1 W1) (h : ExS M Wx Z pin σ0 H0 W0 er ρ') : ExS M Wx Z pin σ1 H1 W1 er ρ' := fun cls d σ H W e s => h cls d σ H W e (a.after s)
theorem ResS.after {out : Out Flow} (a : StR M Z pin σ0 H0 W0 ρ σ1 H1 W1) (h : ResS M Wx Z pin σ0 H0 W0 out D) : ResS M Wx Z pin σ1 H1 W1 out D := by
  match out, h with
  | .ok .nx _, h => exact fun σ H W s => h σ H W (a.after s)
  | .ok .bk _, h => exact fun σ H W s => h σ H W (a.after s)
  | .ok .ct _, h => exact fun σ H W s => h σ H W (a.after s)
  | .ok (.rt t) _, h =>
    intro v σ H W w as p S k r c
    refine h v σ H W w as ?_ S (a.kp.trans k) r c
    have a' : Post false H0 W0 H1 (W1 ++ []) := by simpa using a.post
    simpa using a'.seq p
  | .ex e _, h => exact ExS.after a h
  | .no, h => exact h
/-- an expression's exception leaves -/
theorem ExOk.ofS {er : Er} (h : ExS M Wx Z pin σ H0 W0 er ρ) : ExOk M Wx Z σ H0 W0 er ρ := fun cls d H W e p S => h cls d σ H W e ⟨p, S, Kp.refl⟩

/-! ### names get things -/
theorem unT_ok {t t' : Tok} {v : V} {w as : List Addr} (S : Sim M Z ρ σ H W) (r : TokR M σ H t v w as) (hs : ∀ a ∈ as, a ∉ W ∧ ¬ Z a) (e : unT t ρ = some (t', ρ')) :
    ∃ W' as', Sim M Z ρ' σ H W' ∧ (∀ a ∈ W', a ∈ W) ∧ TokR M [] H t' v w as' ∧ ∀ a ∈ as', a ∉ W' ∧ ¬ Z a := by
  have pl : ∀ {t0 : Tok}, TokR M σ H t0 v [] [] → (toD t0 ρ).map (fun (x, ρ') => (Tok.lf (.d x), ρ')) = some (t', ρ') → ∃ W' as', Sim M Z ρ' σ H W' ∧ (∀ a ∈ W', a ∈ W) ∧ TokR M [] H t' v [] as' ∧ ∀ a ∈ as', a ∉ W' ∧ ¬ Z a := fun {t0} r0 e => by
    cases hd : toD t0 ρ with
    | none => rw [hd] at e; cases e
    | some pr =>
      obtain ⟨x, ρ2⟩ := pr
      rw [hd] at e
      cases e
      obtain ⟨W', as', S', sub, rep, off, _⟩ := toD_ok S r0 (by simp) (by simp) hd
      exact ⟨W', as', S', sub, .lf (.d rep), off⟩
  cases r with
  | lf r => cases e; exact ⟨W, as, S, fun _ h => h, .lf r, hs⟩
  | pl h => exact pl (.pl h) e
  | pf h1 h2 h3 => exact pl (.pf h1 h2 h3) e
  | fn h => cases e; exact ⟨W, [], S, fun _ h => h, .fn h, by simp⟩
  | ob r => cases e; exact ⟨W, as, S, fun _ h => h, .ob r, hs⟩
theorem unTs_ok : ∀ {ts ts' : List Tok} {vs : List V} {w as W : List Addr} {ρ ρ' : Rho}, Sim M Z ρ σ H W → ToksR M σ H ts vs w as → (∀ a ∈ as, a ∉ W ∧ ¬ Z a) → unTs ts ρ = some (ts', ρ') →
    ∃ W' as', Sim M Z ρ' σ H W' ∧ (∀ a ∈ W', a ∈ W) ∧ ToksR M [] H ts' vs w as' ∧ ∀ a ∈ as', a ∉ W' ∧ ¬ Z a
  | [], _, _, _, _, W, _, _, S, r, hs, e => by
    cases r; cases e
    exact ⟨W, [], S, fun _ h => h, .nil, by simp⟩
  | t :: ts, _, _, _, _, W, ρ, ρ', S, r, hs, e => by
    cases r with
    | @cons _ v w1 as1 _ vs w2 as2 r1 r2 =>
      unfold unTs at e
      cases e1 : unT t ρ with
      | none => rw [e1] at e; cases e
      | some p1 =>
        obtain ⟨t1, ρ1⟩ := p1
        rw [e1] at e
        simp only at e
        cases e2 : unTs ts ρ1 with
        | none => rw [e2] at e; cases e
        | some p2 =>
          obtain ⟨ts2, ρ2⟩ := p2
          rw [e2] at e
          cases e
          obtain ⟨W1, a1, S1, sub1, r1', off1⟩ := unT_ok S r1 (fun a h => hs a (by simp [h])) e1
          obtain ⟨W2, a2, S2, sub2, r2', off2⟩ := unTs_ok S1 r2 (fun a h => ⟨fun z => (hs a (by simp [h])).1 (sub1 a z), (hs a (by simp [h])).2⟩) e2
          exact ⟨W2, a1 ++ a2, S2, fun a h => sub1 a (sub2 a h), .cons r1' r2', fun a h => (List.mem_append.mp h).elim (fun h => ⟨fun z => (off1 a h).1 (sub2 a z), (off1 a h).2⟩) (off2 a)⟩
theorem slotOf_ok {t : Tok} {s : Sl} {v : V} {w as : List Addr} (r : TokR M [] H t v w as) (e : slotOf t = some s) : SlR M H s (some v) w as := by
  cases r with
  | lf r => cases e; exact .lf r
  | pl h => simp at h
  | pf h _ _ => simp at h
  | fn h => cases e; exact .fn h
  | ob r => cases e; exact .ob r
theorem put1_ok {i : Nat} {t : Tok} {v : V} {w as : List Addr} (S : Sim M (orL Z w) ρ σ H W) (r : TokR M [] H t v w as) (c : Clean Z W w as) (e : put1 pin i t ρ = some ρ') : i ∉ pin ∧ i < σ.length ∧ ∃ W', Sim M Z ρ' (σ.set i (some v)) H W' ∧ ∀ a ∈ W', a ∈ W ∨ a ∈ w := by
  unfold put1 at e
  split at e
  · cases e
  · rename_i hp
    split at e
    · cases e
    · rename_i s0 s1 _ e1 e2
      cases e
      refine ⟨hp, by rw [← S.length]; exact (List.getElem?_eq_some_iff.mp e1).1, ?_⟩
      exact S.give e1 (slotOf_ok r e2) c.nd (fun a h => (c.out a h).2) fun a h => ⟨(c.sup a h).2.2, (c.sup a h).1, (c.sup a h).2.1⟩
    · cases e
theorem kp_set {i : Nat} {o : Option V} (h : i ∉ pin) : Kp pin σ (σ.set i o) := fun j hj => by
  rw [List.getElem?_set_ne (fun (e : i = j) => h (by rw [e]; exact hj))]
theorem put1s_ok : ∀ {is : List Nat} {ts : List Tok} {vs : List V} {w as W : List Addr} {ρ ρ' : Rho} {σ : L2.St}, Sim M (orL Z w) ρ σ H W → ToksR M [] H ts vs w as → Clean Z W w as → put1s pin is ts ρ = some ρ' →
    is.length = vs.length ∧ ∃ W', Sim M Z ρ' ((is.zip vs).foldl (fun σ p => σ.set p.1 (some p.2)) σ) H W' ∧ (∀ a ∈ W', a ∈ W ∨ a ∈ w) ∧ Kp pin σ ((is.zip vs).foldl (fun σ p => σ.set p.1 (some p.2)) σ)
  | [], [], _, _, _, W, _, _, σ, S, r, c, e => by
    cases r; cases e
    exact ⟨rfl, W, S.weak fun a h => .inl h, fun a h => .inl h, Kp.refl⟩
  | [], _ :: _, _, _, _, _, _, _, _, _, _, _, e => by cases e
  | _ :: _, [], _, _, _, _, _, _, _, _, _, _, e => by cases e
  | i :: is, t :: ts, _, _, _, W, ρ, ρ', σ, S, r, c, e => by
    cases r with
    | @cons _ v w1 as1 _ vs w2 as2 r1 r2 =>
      unfold put1s at e
      cases e1 : put1 pin i t ρ with
      | none => rw [e1] at e; cases e
      | some ρ1 =>
        rw [e1] at e
        simp only at e
        have nd := c.nd
        rw [List.nodup_append] at nd
        have S' : Sim M (orL (orL Z w2) w1) ρ σ H W := S.weak fun a h => by
          rcases h with (h | h) | h
          · exact .inl h
          · exact .inr (by simp [h])
          · exact .inr (by simp [h])
        obtain ⟨np, hl, W1, S1, sub1⟩ := put1_ok S' r1 ⟨fun a h => ⟨(c.sup a (by simp [h])).1, fun z => z.elim (c.sup a (by simp [h])).2.1 fun z => (c.sup a (by simp [h])).2.2 (by simp [z]), fun z => (c.sup a (by simp [h])).2.2 (by simp [z])⟩, nd.1, fun a h => ⟨(c.out a (by simp [h])).1, fun z => z.elim (c.out a (by simp [h])).2 fun z => nd.2.2 a h a z rfl⟩⟩ e1
        obtain ⟨hl2, W2, S2, sub2, kp2⟩ := put1s_ok S1 r2 ⟨fun a h => ⟨fun z => (sub1 a z).elim (c.sup a (by simp [h])).1 fun z => (c.sup a (by simp [h])).2.2 (by simp [z]), (c.sup a (by simp [h])).2.1, fun z => (c.sup a (by simp [h])).2.2 (by simp [z])⟩, nd.2.1, fun a h => ⟨fun z => (sub1 a z).elim (c.out a (by simp [h])).1 fun z => nd.2.2 a z a h rfl, (c.out a (by simp [h])).2⟩⟩ e
        refine ⟨by simp [hl2], W2, S2, fun a h => ?_, (kp_set np).trans kp2⟩
        rcases sub2 a h with z | z
        · exact (sub1 a z).elim .inl fun z => .inr (by simp [z])
        · exact .inr (by simp [z])

/-! ### targets of shared data -/
def WG (X : Cx) (tg : Expr) : TG := fun v σ H Q => ∀ pins s u, Inv X pins σ H s → RelV v u → wpAny (model X.prog X.w) X.A (assign tg X.env u) (fun _ s' => ∃ σ' H', Inv X pins σ' H' s' ∧ Q σ' H') X.xe s
theorem pg_wg {tg : Expr} : PG X tg (WG X tg) := ⟨fun pins s σ H v u Q I r h => h pins s u I r⟩
theorem wg_of {tg : Expr} {t : TG} (h : PG X tg t) {v : V} {σ : L2.St} {H : Hp} {Q : L2.St → Hp → Prop} (q : t v σ H Q) : WG X tg v σ H Q := fun pins s u I r => h.run pins s σ H v u Q I r q
def WGs (X : Cx) : List Expr → TGs
  | [] => gNil
  | e :: es => gCons (WG X e) (WGs X es)
/-- no subscript, no attribute, no star: names and tuples of them -/
def GoodG (C : Cst) (X : Cx) (tg : Expr) (T : Tg) : Prop := ∀ (pin : List Nat) (Z : Addr → Prop) (ρ ρ' : Rho) (σ : L2.St) (H : Hp) (W as : List Addr) (v : V) (x : PyData) (Q : L2.St → Hp → Prop), Sim C.M Z ρ σ H W → RepD C.M.K H v x as → Off Z W as → asgD pin T x ρ = some ρ' →
  (∀ σ' W', Sim C.M Z ρ' σ' H W' → (∀ a ∈ W', a ∈ W) → Kp pin σ σ' → Q σ' H) → WG X tg v σ H Q
def GoodGs (C : Cst) (X : Cx) (tgs : List Expr) (Ts : List Tg) : Prop := ∀ (pin : List Nat) (Z : Addr → Prop) (ρ ρ' : Rho) (σ : L2.St) (H : Hp) (W as : List Addr) (vs : List V) (xs : List PyData) (Q : L2.St → Hp → Prop), Sim C.M Z ρ σ H W → RepDs C.M.K H vs xs as → Off Z W as → asgDs pin Ts xs ρ = some ρ' →
  (∀ σ' W', Sim C.M Z ρ' σ' H W' → (∀ a ∈ W', a ∈ W) → Kp pin σ σ' → Q σ' H) → WGs X tgs vs σ H Q
/-- a name that is stored to -/
def stoS (C : Cst) (x : Str) (i : Nat) : Prop := C.N[i]? = some x ∧ (C.sc.names.lookup x = some .local ∨ C.sc.names.lookup x = some .cell)
theorem Okx.sto {n : Nat} (o : Okx C n Wx X) {x : Str} {i : Nat} (h : stoS C x i) : X.N[i]? = some x ∧ Loc X.env.scope x ∧ (X.fn x = true ∨ X.env.scope.names.lookup x = some .local) := by
  refine ⟨by rw [o.N]; exact h.1, ?_⟩
  rcases h.2 with h | h
  · exact ⟨.inl (o.loc x h), .inr (o.loc x h)⟩
  · exact ⟨.inr (o.cell x h), .inl (o.fn x h)⟩
theorem pg_nm {n : Nat} (o : Okx C n Wx X) {x : Str} {i : Nat} {pos : Pos} (h : stoS C x i) : PG X (.Name x pos) (gName i) := by
  obtain ⟨h1, h2, h3⟩ := o.sto h
  exact pg_name o.nd h1 h2 h3
theorem goodG_nm {n : Nat} (o : Okx C n Wx X) {x : Str} {i : Nat} {pos : Pos} (h : stoS C x i) : GoodG C X (.Name x pos) (.nm i) := by
  intro pin Z ρ ρ' σ H W as v x' Q S r off e k
  refine wg_of (pg_nm o h) ?_
  have e' : put1 pin i (.lf (.d x')) ρ = some ρ' := by rw [asgD] at e; exact e
  obtain ⟨np, hl, W', S', sub⟩ := put1_ok (w := []) (as := as) (Z := Z) (S.weak fun a h => h.elim id fun z => (by simp at z)) (.lf (.d r)) ⟨fun a h => ⟨(off a h).1, (off a h).2, by simp⟩, .nil, by simp⟩ e'
  exact k _ W' S' (fun a h => (sub a h).elim id fun z => (by simp at z)) (kp_set np)
def tgOk : Expr → Bool
  | .Starred _ _ => false
  | _ => true
theorem each_tg {e : Expr} {es : List Expr} {env : Env} (h : tgOk e = true) : assignEach (e :: es) env = (false, assign e env) :: assignEach es env := by
  cases e <;> first | rfl | simp [tgOk] at h
theorem pgs_wgs : ∀ {es : List Expr}, es.all tgOk = true → PGs X es (WGs X es)
  | [], _ => pgs_nil
  | e :: es, h => by
    simp only [List.all_cons, Bool.and_eq_true] at h
    exact pgs_cons pg_wg (pgs_wgs h.2) (by rw [each_tg h.1]; rfl)
theorem each_len {env : Env} : ∀ {es : List Expr}, es.all tgOk = true → (assignEach es env).length = es.length ∧ (assignEach es env).findIdx? (·.1) = none
  | [], _ => ⟨rfl, rfl⟩
  | e :: es, h => by
    simp only [List.all_cons, Bool.and_eq_true] at h
    rw [each_tg h.1]
    obtain ⟨h1, h2⟩ := each_len (env := env) h.2
    exact ⟨by simp [h1], by simp [List.findIdx?_cons, h2]⟩
theorem goodGs_nil : GoodGs C X [] [] := by
  intro pin Z ρ ρ' σ H W as vs xs Q S r off e k
  cases r with
  | nil =>
    rw [asgDs] at e
    cases e
    exact ⟨rfl, k σ W S (fun _ h => h) Kp.refl⟩
  | cons _ _ => rw [asgDs] at e; cases e; all_goals simp
theorem goodGs_cons {e : Expr} {es : List Expr} {T : Tg} {Ts : List Tg} (h1 : GoodG C X e T) (h2 : GoodGs C X es Ts) : GoodGs C X (e :: es) (T :: Ts) := by
  intro pin Z ρ ρ' σ H W as vs xs Q S r off e0 k
  cases r with
  | nil => rw [asgDs] at e0; cases e0; all_goals simp
  | @cons v vs x xs as1 as2 r1 r2 =>
    rw [asgDs] at e0
    cases ea : asgD pin T x ρ with
    | none => rw [ea] at e0; cases e0
    | some ρ1 =>
      rw [ea] at e0
      refine ⟨_, _, rfl, h1 pin Z ρ ρ1 σ H W as1 v x _ S r1 (off.sub fun a h => by simp [h]) ea fun σ1 W1 S1 sub1 k1 => ?_⟩
      exact h2 pin Z ρ1 ρ' σ1 H W1 as2 vs xs Q S1 r2 ((off.sub fun a h => by simp [h]).anti sub1) e0 fun σ2 W2 S2 sub2 k2 => k σ2 W2 S2 (fun a h => sub1 a (sub2 a h)) (k1.trans k2)
theorem goodG_tp {es : List Expr} {Ts : List Tg} {j : Nat} {pos : Pos} (hc : X.calm = true) (hK : C.M.K = X.K) (hs : es.all tgOk = true) (hl : es.length = Ts.length) (h : GoodGs C X es Ts) : GoodG C X (.Tuple es j pos) (.tp Ts) := by
  intro pin Z ρ ρ' σ H W as v x Q S r off e k
  have lens : ∀ {Ts : List Tg} {xs : List PyData} {ρ : Rho}, asgDs pin Ts xs ρ = some ρ' → Ts.length = xs.length := by
    intro Ts
    induction Ts with
    | nil => intro xs ρ e; cases xs with
      | nil => rfl
      | cons _ _ => rw [asgDs] at e; cases e; all_goals simp
    | cons T Ts ih => intro xs ρ e; cases xs with
      | nil => rw [asgDs] at e; cases e; all_goals simp
      | cons x xs =>
        rw [asgDs] at e
        cases ea : asgD pin T x ρ with
        | none => rw [ea] at e; cases e
        | some ρ1 => rw [ea] at e; simp [ih e]
  cases r with
  | tup hq rs =>
    rw [asgD] at e
    rw [hK] at hq
    refine wg_of (pg_tup hc (pgs_wgs hs) (each_len hs).1 (each_len hs).2) ⟨_, _, rfl, hq, ?_, h pin Z ρ ρ' σ H W _ _ _ Q S rs off e k⟩
    rw [rs.length, hl]; exact (lens e).symm
  | _ => rw [asgD] at e; cases e; all_goals simp
end
end DL

set_option maxRecDepth 100000
set_option maxHeartbeats 4000000
/-! DL17: small statements, blocks, if, while. -/
namespace DL
open PySem PySem.Spec L2

section
variable {C : Cst} {Wx : WX} {X : Cx} {Z : Addr → Prop} {pin : List Nat} {σ : L2.St} {H : Hp} {W : List Addr} {ρ : Rho} {D : Ends} {q : Bool}
theorem eval_then {e : Expr} {m : Rho → Out Tok} {f : Tok → Rho → Out Flow} {Q : VK} (he : GoodE C Wx X e q m) (S : Sim C.M Z ρ σ H W) (hz : ZT Z H) (hr : ResS C.M Wx Z pin σ H W ((m ρ).bind f) D)
    (k : ∀ t ρ1 v H1, Got C.M Z q H W t ρ1 σ v H1 → ResS C.M Wx Z pin σ H W (f t ρ1) D → Q v H1) : WE X e σ H Q := by
  refine he Z ρ σ H W Q S hz ?_
  cases hx : m ρ with
  | no => rw [hx] at hr; exact hr
  | ex er ρ1 => rw [hx] at hr; exact ExOk.ofS hr
  | ok t ρ1 => rw [hx] at hr; exact fun v H1 g => k t ρ1 v H1 g hr
theorem evals_then {es : List Expr} {m : Rho → Out (List Tok)} {f : List Tok → Rho → Out Flow} {Q : List V → Hp → Prop} (he : GoodL C Wx X es q m) (S : Sim C.M Z ρ σ H W) (hz : ZT Z H) (hr : ResS C.M Wx Z pin σ H W ((m ρ).bind f) D)
    (k : ∀ ts ρ1 vs H1, Gots C.M Z q H W ts ρ1 σ vs H1 → ResS C.M Wx Z pin σ H W (f ts ρ1) D → Q vs H1) : WAs X es σ H Q := by
  refine he Z ρ σ H W Q S hz ?_
  cases hx : m ρ with
  | no => rw [hx] at hr; exact hr
  | ex er ρ1 => rw [hx] at hr; exact ExOk.ofS hr
  | ok t ρ1 => rw [hx] at hr; exact fun v H1 g => k t ρ1 v H1 g hr
theorem test_then {e : Expr} {m : Rho → Out Bool} {f : Bool → Rho → Out Flow} {Q : Bool → Hp → Prop} (he : GoodT C Wx X e q m) (S : Sim C.M Z ρ σ H W) (hz : ZT Z H) (hr : ResS C.M Wx Z pin σ H W ((m ρ).bind f) D)
    (k : ∀ b ρ1 H1 W1, StR C.M Z pin σ H W ρ1 σ H1 W1 → ResS C.M Wx Z pin σ H W (f b ρ1) D → Q b H1) : WT X e σ H Q := by
  refine he Z ρ σ H W Q S hz ?_
  cases hx : m ρ with
  | no => rw [hx] at hr; exact hr
  | ex er ρ1 => rw [hx] at hr; exact ExOk.ofS hr
  | ok t ρ1 => rw [hx] at hr; exact fun H1 W1 p S1 => k t ρ1 H1 W1 ⟨p.weak, S1, Kp.refl⟩ hr
theorem ZT.str {ρ1 : Rho} {σ1 : L2.St} {H1 : Hp} {W1 : List Addr} (S : Sim C.M Z ρ σ H W) (hz : ZT Z H) (s : StR C.M Z pin σ H W ρ1 σ1 H1 W1) : ZT Z H1 := s.post.z hz S.nz

/-! ### blocks -/
theorem goodB_nil {ev : Sx → Rho → Out Flow} : GoodB C Wx X [] pin (seqL ev []) := fun Z ρ σ H W D S hz hr => wss_of pss_nil (hr σ H W (StR.refl S))
theorem goodB_cons {st : Stmt} {sts : List Stmt} {s : Sx} {ss : List Sx} {ev : Sx → Rho → Out Flow} (h1 : GoodS C Wx X st pin (ev s)) (h2 : GoodB C Wx X sts pin (seqL ev ss)) : GoodB C Wx X (st :: sts) pin (seqL ev (s :: ss)) := by
  intro Z ρ σ H W D S hz hr
  refine wss_of (pss_cons ps_ws pss_ws) (h1 Z ρ σ H W _ S hz ?_)
  rw [seqL] at hr
  match hx : ev s ρ, hr with
  | .ok .nx ρ1, hr => exact fun σ1 H1 W1 s1 => h2 Z ρ1 σ1 H1 W1 D s1.sim (ZT.str S hz s1) (ResS.after s1 hr)
  | .ok .bk ρ1, hr => exact hr
  | .ok .ct ρ1, hr => exact hr
  | .ok (.rt t) ρ1, hr => exact hr
  | .ex e ρ1, hr => exact hr
  | .no, hr => exact hr

/-! ### name = e -/
def plainV : Expr → Bool
  | .ListComp _ _ _ _ => false
  | .SetComp _ _ _ _ => false
  | .DictComp _ _ _ _ _ => false
  | _ => true
theorem swap_plain {e : Expr} {t : Option Expr} {l : Nat} {env : Env} (h : plainV e = true) : swapsWith e t l env = pure false := by
  cases e <;> first | rfl | simp [plainV] at h
theorem sole_plain {e t : Expr} {l : Nat} {env : Env} (h : plainV e = true) : swapsWithSole [t] e l env = pure false := swap_plain h
theorem sole_tup {e : Expr} {ts : List Expr} {j : Nat} {p : Pos} {l : Nat} {env : Env} : swapsWithSole [.Tuple ts j p] e l env = pure false := by
  cases e <;> rfl
theorem swap_tup {e : Expr} {ts : List Expr} {j : Nat} {p : Pos} {l : Nat} {env : Env} : swapsWith e (some (.Tuple ts j p)) l env = pure false := by
  cases e <;> rfl
theorem asg_gives {M : Md} {t : Tok} {v : V} {i : Nat} {ρ1 ρ2 : Rho} {H0 H1 : Hp} {W0 : List Addr} (g : Got M Z q H0 W0 t ρ1 σ v H1) (e : asgN pin i t ρ1 = some ρ2) : ∃ W2, StR M Z pin σ H0 W0 ρ2 (σ.set i (some v)) H1 W2 := by
  obtain ⟨W1, w, as, p, S1, r, c⟩ := g.ex
  unfold asgN at e
  cases eu : unT t ρ1 with
  | none => rw [eu] at e; cases e
  | some pr =>
    obtain ⟨t', ρ'⟩ := pr
    rw [eu] at e
    simp only at e
    obtain ⟨W', as', S', sub, r', off⟩ := unT_ok S1 r (fun a h => ⟨(c.sup a h).1, fun z => z.elim (c.sup a h).2.1 (c.sup a h).2.2⟩) eu
    obtain ⟨np, hl, W2, S2, sub2⟩ := put1_ok S' r' ⟨fun a h => ⟨(off a h).1, fun z => (off a h).2 (.inl z), fun z => (off a h).2 (.inr z)⟩, c.nd, fun a h => ⟨fun z => (c.out a h).1 (sub a z), (c.out a h).2⟩⟩ e
    exact ⟨W2, ⟨(p.weak).sub fun a h => (sub2 a h).elim (fun z => by simp [sub a z]) fun z => by simp [z], S2, kp_set np⟩⟩
theorem good_asgN {n : Nat} (o : Okx C n Wx X) {x : Str} {i : Nat} {px pos : Pos} {e : Expr} {m : Rho → Out Tok} (h : stoS C x i) (hp : plainV e = true) (he : GoodE C Wx X e q m) :
    GoodS C Wx X (.Assign [.Name x px] e pos) pin (fun ρ => (m ρ).bind fun k ρ1 => ofOpt ((asgT pin (.nm i) k ρ1).map fun ρ2 => (.nx, ρ2))) := by
  intro Z ρ σ H W D S hz hr
  refine ws_of (ps_asg (g := gName i) pe_we (pg_nm o h) (sole_plain hp)) (eval_then he S hz hr fun t ρ1 v H1 g hr => ?_)
  cases ea : asgN pin i t ρ1 with
  | none => simp [asgT, ea] at hr; exact hr.elim
  | some ρ2 =>
    simp [asgT, ea] at hr
    obtain ⟨W2, s2⟩ := asg_gives g ea
    exact hr _ _ _ s2
/-- (a, b) = e, no display of its own -/
theorem good_asgT {ts : List Expr} {Ts : List Tg} {j : Nat} {px pos : Pos} {e : Expr} {m : Rho → Out Tok} (hg : GoodG C X (.Tuple ts j px) (.tp Ts)) (hw : swappedStores [.Tuple ts j px] e X.env = pure none) (he : GoodE C Wx X e q m) :
    GoodS C Wx X (.Assign [.Tuple ts j px] e pos) pin (fun ρ => (m ρ).bind fun k ρ1 => ofOpt ((asgT pin (.tp Ts) k ρ1).map fun ρ2 => (.nx, ρ2))) := by
  intro Z ρ σ H W D S hz hr
  refine ws_of (ps_asg (g := WG X (.Tuple ts j px)) pe_we pg_wg sole_tup hw) (eval_then he S hz hr fun t ρ1 v H1 g hr => ?_)
  cases et : toD t ρ1 with
  | none => simp [asgT, et] at hr; exact hr.elim
  | some pr =>
    obtain ⟨x, ρ2⟩ := pr
    cases ea : asgD pin (.tp Ts) x ρ2 with
    | none => simp [asgT, et, ea] at hr; exact hr.elim
    | some ρ3 =>
      simp [asgT, et, ea] at hr
      obtain ⟨W1, w, as, p, S1, r, c⟩ := g.ex
      obtain ⟨W2, as2, S2, sub2, rep, off, _⟩ := toD_ok (S1.weak (Z' := Z) fun a h => .inl h) r (fun a h => ⟨(c.sup a h).1, (c.sup a h).2.1⟩) (fun a h => c.out a h) et
      exact hg pin Z ρ2 ρ3 σ H1 W2 as2 v x _ S2 rep off ea fun σ' W' S' sub kp => hr σ' H1 W' ⟨(p.weak).sub fun a h => by simp [sub2 a (sub a h)], S', kp⟩

/-! ### a, b = x, y -/
theorem asgs_gives {M : Md} {ts : List Tok} {vs : List V} {is : List Nat} {ρ1 ρ2 : Rho} {H0 H1 : Hp} {W0 : List Addr} (g : Gots M Z q H0 W0 ts ρ1 σ vs H1) (e : asgNs pin is ts ρ1 = some ρ2) : is.length = vs.length ∧ ∃ W2, StR M Z pin σ H0 W0 ρ2 ((is.zip vs).foldl (fun σ p => σ.set p.1 (some p.2)) σ) H1 W2 := by
  obtain ⟨W1, w, as, p, S1, r, c⟩ := g.ex
  unfold asgNs at e
  cases eu : unTs ts ρ1 with
  | none => rw [eu] at e; cases e
  | some pr =>
    obtain ⟨ts', ρ'⟩ := pr
    rw [eu] at e
    simp only at e
    obtain ⟨W', as', S', sub, r', off⟩ := unTs_ok S1 r (fun a h => ⟨(c.sup a h).1, fun z => z.elim (c.sup a h).2.1 (c.sup a h).2.2⟩) eu
    obtain ⟨hl, W2, S2, sub2, kp2⟩ := put1s_ok S' r' ⟨fun a h => ⟨(off a h).1, fun z => (off a h).2 (.inl z), fun z => (off a h).2 (.inr z)⟩, c.nd, fun a h => ⟨fun z => (c.out a h).1 (sub a z), (c.out a h).2⟩⟩ e
    exact ⟨hl, W2, ⟨(p.weak).sub fun a h => (sub2 a h).elim (fun z => by simp [sub a z]) fun z => by simp [z], S2, kp2⟩⟩
theorem good_par2 {n : Nat} (o : Okx C n Wx X) {x y : Str} {i j : Nat} {px py pt pt2 pos : Pos} {kt k2 : Nat} {a b : Expr} {m : Rho → Out (List Tok)} (hi : C.N[i]? = some x) (hj : C.N[j]? = some y) (hx : C.sc.names.lookup x = some .local) (hy : C.sc.names.lookup y = some .local) (hij : i ≠ j)
    (hs : [a, b].all notStar = true) (hw : swappedStores [.Tuple [.Name x px, .Name y py] kt pt] (.Tuple [a, b] k2 pt2) X.env = pure (some [x, y])) (he : GoodL C Wx X [a, b] q m) :
    GoodS C Wx X (.Assign [.Tuple [.Name x px, .Name y py] kt pt] (.Tuple [a, b] k2 pt2) pos) pin (fun ρ => (m ρ).bind fun ts ρ1 => ofOpt ((asgNs pin [i, j] ts ρ1).map fun ρ2 => (.nx, ρ2))) := by
  intro Z ρ σ H W D S hz hr
  refine ws_of (ps_par (ta := WAs X [a, b]) o.calm o.nd (by rw [o.N]; exact hi) (by rw [o.N]; exact hj) hij (o.loc x hx) (o.loc y hy) (pa_was hs) hw) (evals_then he S hz hr fun ts ρ1 vs H1 g hr => ?_)
  cases ea : asgNs pin [i, j] ts ρ1 with
  | none => simp [ea] at hr; exact hr.elim
  | some ρ2 =>
    simp [ea] at hr
    obtain ⟨hl, W2, s2⟩ := asgs_gives g ea
    match vs, hl, s2 with
    | [v, w], _, s2 => exact ⟨v, w, rfl, hr _ _ _ s2⟩

theorem good_par3 {n : Nat} (o : Okx C n Wx X) {x y z : Str} {i j l : Nat} {px py pz pt pt2 pos : Pos} {kt k2 : Nat} {a b c : Expr} {m : Rho → Out (List Tok)} (hi : C.N[i]? = some x) (hj : C.N[j]? = some y) (hl : C.N[l]? = some z) (hx : C.sc.names.lookup x = some .local) (hy : C.sc.names.lookup y = some .local) (hz0 : C.sc.names.lookup z = some .local) (hij : i ≠ j) (hil : i ≠ l) (hjl : j ≠ l)
    (hs : [a, b, c].all notStar = true) (hw : swappedStores [.Tuple [.Name x px, .Name y py, .Name z pz] kt pt] (.Tuple [a, b, c] k2 pt2) X.env = pure (some [x, y, z])) (he : GoodL C Wx X [a, b, c] q m) :
    GoodS C Wx X (.Assign [.Tuple [.Name x px, .Name y py, .Name z pz] kt pt] (.Tuple [a, b, c] k2 pt2) pos) pin (fun ρ => (m ρ).bind fun ts ρ1 => ofOpt ((asgNs pin [i, j, l] ts ρ1).map fun ρ2 => (.nx, ρ2))) := by
  intro Z ρ σ H W D S hz hr
  refine ws_of (ps_par3 (ta := WAs X [a, b, c]) o.calm o.nd (by rw [o.N]; exact hi) (by rw [o.N]; exact hj) (by rw [o.N]; exact hl) hij hil hjl (o.loc x hx) (o.loc y hy) (o.loc z hz0) (pa_was hs) hw) (evals_then he S hz hr fun ts ρ1 vs H1 g hr => ?_)
  cases ea : asgNs pin [i, j, l] ts ρ1 with
  | none => simp [ea] at hr; exact hr.elim
  | some ρ2 =>
    simp [ea] at hr
    obtain ⟨hln, W2, s2⟩ := asgs_gives g ea
    match vs, hln, s2 with
    | [u, v, w], _, s2 => exact ⟨u, v, w, rfl, hr _ _ _ s2⟩

/-! ### the small ones -/
theorem good_exprS {e : Expr} {pos : Pos} {m : Rho → Out Tok} (hp : plainV e = true) (he : GoodE C Wx X e q m) : GoodS C Wx X (.Expr e pos) pin (fun ρ => (m ρ).bind fun _ ρ1 => .ok .nx ρ1) := by
  intro Z ρ σ H W D S hz hr
  refine ws_of (ps_expr pe_we (swap_plain hp)) (eval_then he S hz hr fun t ρ1 v H1 g hr => ?_)
  obtain ⟨W2, p2, S2⟩ := g.drop
  exact hr _ _ W2 ⟨p2.weak, S2, Kp.refl⟩
theorem good_pass {pos : Pos} : GoodS C Wx X (.Pass pos) pin (fun ρ => .ok .nx ρ) := fun Z ρ σ H W D S hz hr => ws_of ps_pass (hr σ H W (StR.refl S))
theorem good_brk {pos : Pos} : GoodS C Wx X (.Break pos) pin (fun ρ => .ok .bk ρ) := fun Z ρ σ H W D S hz hr => ws_of ps_break (hr σ H W (StR.refl S))
theorem good_cnt {pos : Pos} : GoodS C Wx X (.Continue pos) pin (fun ρ => .ok .ct ρ) := fun Z ρ σ H W D S hz hr => ws_of ps_continue (hr σ H W (StR.refl S))
theorem good_retN {pos : Pos} : GoodS C Wx X (.Return none pos) pin (fun ρ => .ok (.rt (.lf (.d .none))) ρ) := fun Z ρ σ H W D S hz hr =>
  ws_of ps_retN (hr .non σ H W [] [] (by simpa using Post.refl) (S.weak fun a h => h.elim id fun z => (by simp at z)) Kp.refl (.lf (.d .none)) Clean.nil)
theorem retT_ok {M : Md} {t r : Tok} {v : V} {w as : List Addr} {ρ' : Rho} (S : Sim M (orL Z w) ρ σ H W) (tr : TokR M σ H t v w as) (c : Clean Z W w as) (e : retT pin t ρ = some (r, ρ')) :
    ∃ W' w' as', Sim M (orL Z w') ρ' σ H W' ∧ TokR M [] H r v w' as' ∧ Clean Z W' w' as' ∧ ∀ a ∈ W' ++ w', a ∈ W ++ w := by
  have S0 : Sim M Z ρ σ H W := S.weak fun a h => .inl h
  have data : ∀ {t0 : Tok}, TokR M σ H t0 v [] [] → (toD t0 ρ).map (fun (x, ρ') => (Tok.lf (.d x), ρ')) = some (r, ρ') → ∃ W' w' as', Sim M (orL Z w') ρ' σ H W' ∧ TokR M [] H r v w' as' ∧ Clean Z W' w' as' ∧ ∀ a ∈ W' ++ w', a ∈ W ++ w := fun {t0} r0 e => by
    cases hd : toD t0 ρ with
    | none => rw [hd] at e; cases e
    | some pr =>
      obtain ⟨x, ρ2⟩ := pr
      rw [hd] at e
      cases e
      obtain ⟨W', as', S', sub, rep, off, _⟩ := toD_ok S0 r0 (by simp) (by simp) hd
      exact ⟨W', [], as', S'.weak fun a h => h.elim id fun z => (by simp at z), .lf (.d rep), ⟨fun a h => ⟨(off a h).1, (off a h).2, by simp⟩, .nil, by simp⟩, fun a h => by simp at h; simp [sub a h]⟩
  have no : ∀ o, SlR M H .no o [] [] := fun o => .no
  cases tr with
  | lf tr => cases e; exact ⟨W, w, as, S, .lf tr, c, fun _ h => h⟩
  | @pl i _ hv =>
    unfold retT at e
    simp only at e
    split at e
    · exact data (.pl hv) e
    · split at e
      · rename_i xs e'
        cases e
        obtain ⟨o, w0, as0, W', h1, h2, ho, n0, s1, s2, s3, S'⟩ := S0.lend e' no
        rw [hv] at h1; cases h1
        cases h2 with
        | lf h2 => exact ⟨W', w0, as0, S', .lf h2, ⟨fun a h => ⟨fun z => (ho a h).1 (s2 a z), (ho a h).2, fun z => (ho a h).1 (s1 a z)⟩, n0, fun a h => ⟨s3 a h, S0.nz a (s1 a h)⟩⟩, fun a h => (List.mem_append.mp h).elim (fun h => by simp [s2 a h]) fun h => by simp [s1 a h]⟩
      · rename_i cc fs e'
        cases e
        obtain ⟨o, w0, as0, W', h1, h2, ho, n0, s1, s2, s3, S'⟩ := S0.lend e' no
        rw [hv] at h1; cases h1
        cases h2 with
        | ob h2 => exact ⟨W', w0, as0, S', .ob h2, ⟨fun a h => ⟨fun z => (ho a h).1 (s2 a z), (ho a h).2, fun z => (ho a h).1 (s1 a z)⟩, n0, fun a h => ⟨s3 a h, S0.nz a (s1 a h)⟩⟩, fun a h => (List.mem_append.mp h).elim (fun h => by simp [s2 a h]) fun h => by simp [s1 a h]⟩
      · cases e
  | pf h1 h2 h3 => exact data (.pf h1 h2 h3) e
  | fn h => cases e
  | ob tr => cases e; exact ⟨W, w, as, S, .ob tr, c, fun _ h => h⟩
theorem good_ret {e : Expr} {pos : Pos} {m : Rho → Out Tok} (he : GoodE C Wx X e q m) : GoodS C Wx X (.Return (some e) pos) pin (fun ρ => (m ρ).bind fun t ρ1 => ofOpt ((retT pin t ρ1).map fun (r, ρ2) => (.rt r, ρ2))) := by
  intro Z ρ σ H W D S hz hr
  refine ws_of (ps_ret pe_we) (eval_then he S hz hr fun t ρ1 v H1 g hr => ?_)
  obtain ⟨W1, w, as, p, S1, r, c⟩ := g.ex
  cases ea : retT pin t ρ1 with
  | none => simp [ea] at hr; exact hr.elim
  | some pr =>
    obtain ⟨r', ρ2⟩ := pr
    simp [ea] at hr
    obtain ⟨W', w', as', S', r2, c', sub⟩ := retT_ok S1 r c ea
    exact hr v σ H1 W' w' as' ((p.weak).sub sub) S' Kp.refl r2 c'
theorem good_if {c : Expr} {a b : List Stmt} {pos : Pos} {mc : Rho → Out Bool} {ma mb : Rho → Out Flow} (hc : GoodT C Wx X c q mc) (ha : GoodB C Wx X a pin ma) (hb : GoodB C Wx X b pin mb) :
    GoodS C Wx X (.If c a b pos) pin (fun ρ => (mc ρ).bind fun k ρ1 => if k then ma ρ1 else mb ρ1) := by
  intro Z ρ σ H W D S hz hr
  refine ws_of (ps_if pt_wt pss_ws pss_ws) (test_then hc S hz hr fun k ρ1 H1 W1 s1 hr => ?_)
  cases k with
  | true => rw [if_pos rfl]; exact ha Z ρ1 σ H1 W1 D s1.sim (ZT.str S hz s1) (ResS.after s1 (by simpa using hr))
  | false => rw [if_neg Bool.false_ne_true]; exact hb Z ρ1 σ H1 W1 D s1.sim (ZT.str S hz s1) (ResS.after s1 (by simpa using hr))
/-- a while of at most so many turns -/
theorem good_while {c : Expr} {b : List Stmt} {pos : Pos} {lim : Nat} {mc : Rho → Out Bool} {mb : Rho → Out Flow} (hp : PassesOwn (model X.prog X.w) X.A X.env X.xe) (hc : GoodT C Wx X c q mc) (hb : GoodB C Wx X b pin mb) :
    GoodS C Wx X (.While c b [] pos) pin (fun ρ => whlL mc mb lim ρ) := by
  intro Z ρ σ H W D S hz hr
  refine ws_of (ps_while hp pt_wt pss_ws) ⟨fun m σ1 H1 => ∃ ρ1 W1, StR C.M Z pin σ H W ρ1 σ1 H1 W1 ∧ ResS C.M Wx Z pin σ H W (whlL mc mb m ρ1) D, ⟨lim, ρ, W, StR.refl S, hr⟩, ?_⟩
  rintro m σ1 H1 ⟨ρ1, W1, s1, hr1⟩
  cases m with
  | zero => exact hr1.elim
  | succ m =>
    have hz1 := ZT.str S hz s1
    refine hc Z ρ1 σ1 H1 W1 _ s1.sim hz1 ?_
    rw [whlL] at hr1
    match hx : mc ρ1, hr1 with
    | .no, hr1 => exact hr1
    | .ex er ρ2, hr1 => exact ExOk.ofS (ExS.after s1 hr1)
    | .ok false ρ2, hr1 =>
      intro H2 W2 p2 S2
      rw [if_neg Bool.false_ne_true]
      exact hr1 σ1 H2 W2 (s1.after ⟨p2.weak, S2, Kp.refl⟩)
    | .ok true ρ2, hr1 =>
      intro H2 W2 p2 S2
      rw [if_pos rfl]
      have s2 : StR C.M Z pin σ H W ρ2 σ1 H2 W2 := s1.after ⟨p2.weak, S2, Kp.refl⟩
      refine ⟨fun σ' H' => ∃ ρ' W', StR C.M Z pin σ H W ρ' σ' H' W' ∧ ResS C.M Wx Z pin σ H W (whlL mc mb m ρ') D, fun σ' H' ⟨ρ', W', a, b⟩ => ⟨m, Nat.lt_succ_self m, ρ', W', a, b⟩, ?_⟩
      refine hb Z ρ2 σ1 H2 W2 _ S2 (ZT.str S hz s2) ?_
      simp only at hr1
      match hy : mb ρ2, hr1 with
      | .ok .nx ρ3, hr1 => exact fun σ3 H3 W3 s3 => ⟨ρ3, W3, s2.after s3, hr1⟩
      | .ok .ct ρ3, hr1 => exact fun σ3 H3 W3 s3 => ⟨ρ3, W3, s2.after s3, hr1⟩
      | .ok .bk ρ3, hr1 => exact fun σ3 H3 W3 s3 => hr1 σ3 H3 W3 (s2.after s3)
      | .ok (.rt t) ρ3, hr1 => exact ResS.after (out := .ok (.rt t) ρ3) s2 hr1
      | .ex e ρ3, hr1 => exact ExS.after s2 hr1
      | .no, hr1 => exact hr1
end
end DL

set_option maxRecDepth 100000
set_option maxHeartbeats 4000000
/-! ExI: __init__ of an own exception over ValueError that says super().__init__(..) first and stores its fields. -/
namespace DL
open PySem PySem.Spec L2 PyProof.Rows NdefX PySem.W

section
variable {X : Cx} {pins : List (Addr × Obj)} {σ : L2.St} {H : Hp} {s : Shared}
/-- an object that nobody tracks is pinned -/
theorem inv_pin (I : Inv X pins σ H s) {u : Addr} {o : Obj} (e : s.heap.get? u = some o) (n : H u = none) (nL : u ≠ X.env.locals) (nF : u ∉ X.fs) (nc : ∀ v, o.data ≠ .cell v) : Inv X ((u, o) :: pins) σ H s :=
  ⟨I.ok, I.os, I.bare, I.base, I.loc, I.cell, I.free, I.freeC, fun p hp => (List.mem_append.mp hp).elim (fun h => I.pin p (List.mem_append_left _ h)) fun h => (List.mem_cons.mp h).elim (fun h => by subst h; exact ⟨e, n, nL, nF, nc⟩) fun h => I.pin p (List.mem_append_right _ h), I.hok, I.len⟩
theorem inv_unpin {q : Addr × Obj} (I : Inv X (q :: pins) σ H s) : Inv X pins σ H s :=
  ⟨I.ok, I.os, I.bare, I.base, I.loc, I.cell, I.free, I.freeC, fun p hp => I.pin p ((List.mem_append.mp hp).elim (List.mem_append_left _) fun h => List.mem_append_right _ (List.mem_cons_of_mem _ h)), I.hok, I.len⟩
/-- the bound built-in __init__ called -/
theorem bound_init {us : List Value} {u a C : Addr} {E : Value → Shared → Prop} {A : Around} {Q : Value → Shared → Prop} (T : OexC X.K C) (I : Inv X pins σ H s) (hu : s.heap.get? u = some (PySem.W.kxs_mw "ValueError.__init__" a)) (e : H a = some (exo a C none)) (hl : us.length ≤ sizeLine) (h : ∀ s', Inv X pins σ H s' → Q .none s') :
    wpAny (model X.prog X.w) A (call (.ref u) us) Q E s := by
  obtain ⟨nm, q, N, bs, bm, sn, sub, ab, col, dd, k0, k1, k2, k3, k5, hC, hbm⟩ := T.cls
  obtain ⟨t1, ho⟩ := exo_at I.hok e
  have hC' := I.kIn _ _ hC
  have fin : ∀ h' : Heap, (∀ b o, b ≠ a → s.heap.get? b = some o → h'.get? b = some o) → h'.get? a = some (excRec (.ref C) s.heap.objs.size none .none .none (.bool false)) → Q .none { s with heap := h' } := fun h' k hx => by
    have J := I.write (t' := s.toks) (x := a) (e := a) (o := exo a C none) (by rw [e]; exact True.intro) (.inl rfl) k ⟨_, hx⟩ (exo_ok hx)
    have eu : upd H a (exo a C none) = H := by
      funext b
      by_cases hb : b = a
      · rw [hb, upd_same, e]
      · rw [upd_ne hb]
    rw [eu] at J
    exact h _ J
  obtain ⟨hh, g, d, tk, os⟩ := s
  refine wpAny_call (codeAny_of_tree ?_)
  show wpAny _ A.in1 (callAny (.ref u) ⟨us, []⟩) _ _ _
  simp only [callAny]
  refine wpAny_bind (wpAny_load hu ?_)
  simp only [PySem.W.kxs_mw, show (Value.type "method-wrapper" == Value.type "method" || Value.type "method-wrapper" == Value.type "builtin_function_or_method" || Value.type "method-wrapper" == Value.type "method-wrapper") = true by decide, if_true]
  refine KFB.if_so (by decide) ?_
  refine wpAny_bind (PySem.W.check_bound_init PySem.F.excBase_ValueError.toExcCallFacts hC' ho rfl ?_)
  refine wpAny_bind (wpAny_pure (wpAny_pure ?_))
  refine ⟨plainId_quiet PySem.F.excBase_ValueError.init.plain _, codeAny_builtin PySem.F.excBase_ValueError.initEntry ?_⟩
  exact PySem.W.exc_init_tree (cls := .ref C) (t0 := t1) (dv := none) (c2 := .none) (c3 := .none) (b4 := .bool false) ho hl fun h' k1 k2 _ => fin h' k1 k2
end
theorem su_tree {o : Expr} {m : Str} {apos pos : Pos} {es : List Expr} {env : Env} (hs : es.all notStar = true) (hn : decide (es.length < 30) = true) (hl : (apos.endLine == pos.line) = true) : eval (.Call (.Attribute o m apos) es [] pos) env = (do
      let ov ← attributeBase o m env (eval o env)
      standAt apos.atName
      let (g, first) ← holding [ov] (getMethod ov m (do return (← importBound o env).getD true))
      callWith pos g first (backTo pos (starEach es env)) []) := by
  have hf : methodCallForm (es.length + ([] : List Keyword).length) (backTo pos (starEach es env)) (backToKw pos (keywordEach [] env)) = true := by
    have ha := star_any (env := env) (pos := pos) hs
    have hn' := of_decide_eq_true hn
    unfold methodCallForm
    have h1 : (backTo pos (starEach es env)).all (!·.1) = true := by
      rw [List.any_eq_false] at ha
      rw [List.all_eq_true]
      intro y hy
      have := ha y hy
      simpa using this
    rw [h1]
    have h2 : (backToKw pos (keywordEach [] env)) = [] := rfl
    rw [h2]
    simp [hn']
  rw [arm_eval_Call]
  unfold methodCall calleeOf methodCallPos
  rw [hf, hl]
  simp
  rfl
section
variable {P : Program} {w : World} {K : PySem.W.Frag} {mg : Str → Option Value} {base : Heap} {C f a : Addr} {qual : Str} {fl : List Str} {body : List Stmt} {F : NF} {fd : FuncData} {A : Around} {outer : List Env} {s0 s : Shared} {H0 H : Hp} {E : XK} {σ : L2.St} {N : List Str}
theorem super_stmt {cb : List Stmt} {e : Expr} {es : List Expr} {p0 p1 ap pos pos2 : Pos} {ta : TA} {Q : PySem.Flow → Shared → Prop} (T : XTxt P K mg C f qual fl body F fd) (hN : N[0]? = some ("self" : Str))
    (I : Inv (ncx (CXL P w) P w K mg base N F f A outer s0 H0 E) [] σ H s) (hself : σ[0]? = some (some (.ref a))) (eH : H a = some (exo a C none))
    (ha : PA (ncx (CXL P w) P w K mg base N F f A outer s0 H0 E) (e :: es) ta) (hta : ta σ H fun vs H1 => H1 = H ∧ vs.length ≤ 1000)
    (hq : ∀ s', Inv (ncx (CXL P w) P w K mg base N F f A outer s0 H0 E) [] σ H s' → Q .next s') {pl : Sem Bool}
    (ht : eval (.Call (.Attribute (.Call (.Name "super" p0) [] [] p1) "__init__" ap) (e :: es) [] pos) (envF F f s0.heap.objs.size) = (do
      let ov ← attributeBase (.Call (.Name "super" p0) [] [] p1) "__init__" (envF F f s0.heap.objs.size) (eval (.Call (.Name "super" p0) [] [] p1) (envF F f s0.heap.objs.size))
      standAt ap.atName
      let (g, first) ← holding [ov] (getMethod ov "__init__" pl)
      callWith pos g first (backTo pos (starEach (e :: es) (envF F f s0.heap.objs.size))) []))
    (he : starEach (e :: es) (envF F f s0.heap.objs.size) = (false, eval e (envF F f s0.heap.objs.size)) :: starEach es (envF F f s0.heap.objs.size)) (hpl : (backTo pos (starEach es (envF F f s0.heap.objs.size))).any (·.1) = false) :
    PySem.wpAt (model P w) (A.deeper (envF F f s0.heap.objs.size)) (.func cb (envF F f s0.heap.objs.size)) (exec (.Expr (.Call (.Attribute (.Call (.Name "super" p0) [] [] p1) "__init__" ap) (e :: es) [] pos) pos2) (envF F f s0.heap.objs.size)) Q (ncx (CXL P w) P w K mg base N F f A outer s0 H0 E).xe s := by
  let X : Cx := ncx (CXL P w) P w K mg base N F f A outer s0 H0 E
  have I : Inv X [] σ H s := I
  obtain ⟨oc, od, osl, hf⟩ := T.fn
  obtain ⟨ccl, cdd, vs, ccs, file, tf, hco, hvs, hfile⟩ := T.codeO
  obtain ⟨ar, har, harn⟩ := T.hd
  obtain ⟨cc, hcl, cl, cld, csl, hcell⟩ := T.cl
  obtain ⟨dV, kV, doc, pm, ct, an, hfd⟩ := T.fds
  obtain ⟨mb, hb1, hb2⟩ := I.mod.blt
  obtain ⟨m, hns, hlk⟩ := id I.loc
  have kin : K.In s.heap := I.kIn
  have hkself : F.scope.names.lookup ("self" : Str) = some .local := T.sc.par _ (by simp)
  have hkc : F.scope.names.lookup ("__class__" : Str) = some .free := T.sc.frk _ (by simp)
  obtain ⟨u, ru, lu⟩ := hlk 0 "self" (.ref a) hN hself (.inl hkself)
  obtain rfl : u = Value.ref a := ru
  have hm : m "self" = some (.ref a) := by
    rcases lu with ⟨_, z⟩ | ⟨z, _⟩
    · exact z
    · have z' : F.scope.names.lookup ("self" : Str) = some .cell ∨ F.scope.names.lookup ("self" : Str) = some .free := z
      rcases z' with z' | z' <;> rw [hkself] at z' <;> cases z'
  obtain ⟨nm, q, N', bs, bm, sn, sub, ab, col, dd, k0, k1, k2, k3, k5, hC, hbm⟩ := T.T.cls
  obtain ⟨t1, ho⟩ := exo_at I.hok eH
  have hCs := kin _ _ hC
  obtain ⟨cdC, hcd⟩ : ∃ cd, PySem.W.clsIn K C = some cd := ⟨_, by unfold PySem.W.clsIn; rw [hC] <;> rfl⟩
  have hsu := T.su
  unfold PySem.W.ks_superIn at hsu
  rw [hcd, Option.bind_some] at hsu
  have IA : PySem.W.InstAt s.heap a ({ cls := .ref C, dict := none, data := .fields #[.ref t1, .none, .none, .none, .bool false, .none] } : Obj) C none := ⟨ho, rfl, rfl, trivial⟩
  have hlt : ∀ {b : Addr} {o : Obj}, s.heap.get? b = some o → b < s.heap.objs.size := fun e => Heap.lt_size e
  have hloc := hns.lt
  refine ks_wpAt_Expr_any ?_ I.quiet rfl
  refine ks_wpAt_MethodCall ?_ ht
  refine ks_wpAt_super_base T.gs hkc (by decide) rfl (kin _ _ hf) rfl (by rw [hfd]; exact har) rfl (kin _ _ hco) rfl hvs hfile T.top ?_
  refine PySem.W.ks_loadName_global T.sc.kind T.gs (Calls.loadGlobal_builtin (I.mod.glob.keeps I.bk) T.mg (hb1.keeps I.bk) ((hb2 _ (by decide)).trans (by first | rfl | decide +kernel | kernel_rfl)) ⟨rfl, ?_⟩)
  refine wpAny_loadName_free T.sc.kind hkc (by show F.cl.lookup _ = _; rw [hcl]; rfl) ⟨_, kin _ _ hcell, rfl⟩ ?_
  rw [harn]
  refine wpAny_loadName_local T.sc.kind hkself hns hm ?_
  refine ks_wpAny_isType_cls hCs rfl ⟨rfl, ?_⟩
  obtain ⟨hh, g, d, tk, os⟩ := s
  refine ks_wpAny_call_super hCs rfl ho rfl (fun c z => by cases z) (PySem.W.looks_mroIn kin T.mr) fun h1 e1 k1 => ?_
  have IA1 : PySem.W.InstAt h1 a ({ cls := .ref C, dict := none, data := .fields #[.ref t1, .none, .none, .none, .bool false, .none] } : Obj) C none := ⟨k1 _ _ ho, rfl, rfl, trivial⟩
  have kin1 : K.In h1 := kin.keeps k1
  refine PySem.W.kxs_getMethod PySem.W.kxs_ValueError e1 (PySem.W.looks_opaque kin1 T.op) (l₀ := cdC.mro) (fun A Q E s k q => wpAny_bind ((PySem.W.looks_clsIn kin1 hcd) A _ E s k (wpAny_pure q))) rfl kin1 hsu (IA1.type.andThen (PySem.W.looks_subIn kin1 T.ve)) (PySem.W.ks_ne kin1 IA1 hcd) (by decide) ?_
  have k2 : ∀ b o, hh.get? b = some o → (h1.push (PySem.W.kxs_mw "ValueError.__init__" a)).get? b = some o := fun b o e => Heap.get?_push_of_some _ (k1 b o e)
  have I2 : Inv X [] σ H ⟨h1.push (PySem.W.kxs_mw "ValueError.__init__" a), g, d, tk + 1, os⟩ := I.kept k2
  have hu : (h1.push (PySem.W.kxs_mw "ValueError.__init__" a)).get? h1.objs.size = some (PySem.W.kxs_mw "ValueError.__init__" a) := Heap.get?_push_size h1 rfl
  have big : hh.objs.size ≤ h1.objs.size := by
    have := Heap.lt_size e1
    exact Nat.le_of_lt this
  have nH : H h1.objs.size = none := I.hok.fresh big
  have nL : h1.objs.size ≠ X.env.locals := fun z => by
    have := I.lt
    rw [← z] at this
    exact absurd (Nat.lt_of_lt_of_le this big) (Nat.lt_irrefl _)
  have nF : h1.objs.size ∉ X.fs := fun z => by
    obtain ⟨_, o', e', _⟩ := I.ok.funs.mem z
    obtain ⟨o2, e2⟩ := I.base.there _ _ e' (by simp [X, ncx])
    exact absurd (Nat.lt_of_lt_of_le (Heap.lt_size e2) big) (Nat.lt_irrefl _)
  have I3 := inv_pin I2 hu nH nL nF (fun v z => by cases z)
  refine PySem.W.kxs_callWith (i := "ValueError.__init__") (x := a) ?_ ?_
  · show (backTo pos (starEach (e :: es) (envF F f s0.heap.objs.size))).any (·.1) = false
    rw [he]
    show (false || (backTo pos (starEach es (envF F f s0.heap.objs.size))).any (·.1)) = false
    rw [hpl] <;> rfl
  · rw [he]
    refine Calls.evalArgs_plain ?_
    show wpAny _ _ (spliced (backTo pos ((false, eval e (envF F f s0.heap.objs.size)) :: starEach es (envF F f s0.heap.objs.size)))) _ _ _
    rw [← he]
    refine thn (ha.run pos _ _ σ H _ I3 hta) fun us s4 ⟨vs, H4, I4, rv, eH4, hl⟩ => ?_
    subst eH4
    have p4 := (I4.pin (h1.objs.size, PySem.W.kxs_mw "ValueError.__init__" a) (List.mem_append_right _ List.mem_cons_self)).1
    refine ⟨p4, ?_⟩
    refine bound_init T.T (inv_unpin I4) p4 eH ?_ fun s5 I5 => hq s5 I5
    have := rv.length
    have q : (16777216 : Nat) = sizeLine := by rw [sizeLine_eq]
    show us.length ≤ sizeLine
    omega

/-- what __init__ does with a new exception at a -/
def spX (fl : List Str) (C : Addr) : Sp := fun vs H Q _ => ∃ (a : Addr) (xs : List V), vs = .ref a :: xs ∧ xs.length = fl.length ∧ H a = some (exo a C none) ∧
  ∀ dx H', H dx = none → dx ≠ a → H' a = some (exo a C (some dx)) → H' dx = some (exd dx (fl.zip xs).reverse) → (∀ b, b ≠ a → b ≠ dx → H' b = H b) → Q .non H'
theorem one_look {c0 c : Addr} {y z : Str} (e : [(y, c0)].lookup z = some c) : z = y ∧ c = c0 := by
  rw [List.lookup_cons] at e
  split at e
  · rename_i h
    rw [beq_iff_eq] at h
    cases e
    exact ⟨h, rfl⟩
  · cases e
theorem init_ok (T : XTxt P K mg C f qual fl body F fd) (hck : ckInit fl body = true) : FnOk P w K mg base (CXL P w) 1 f fd (("self" : Str) :: fl) (spX fl C) := by
  refine ⟨fun vs H Q E h => ?_, fun A outer s H args us vs Q E hr e0 hb rv hsp => ?_⟩
  · obtain ⟨a, xs, rfl, h1, _⟩ := h
    simp [h1]
  obtain ⟨a, xs, rfl, hxl, ea, hsp⟩ := hsp
  obtain ⟨oc, od, osl, hf⟩ := T.fn
  obtain ⟨cc, hcl, cl, cld, csl, hcell⟩ := T.cl
  obtain ⟨dV, kV, doc, pm, ct, an, hfd⟩ := T.fds
  have KX : K.In s.heap := e0.mod.kin.keeps fun b o e => (e0.bs b o e).1
  have lim : s.heap.NoLimit := e0.mod.nolimit.keeps fun b o e => (e0.bs b o e).1
  have hce : H cc = none := (e0.bs cc _ (e0.mod.kin _ _ hcell)).2
  have CA : CellsAt F.cl [("__class__" : Str)] [none] s.heap H := by
    rw [hcl]
    refine ⟨rfl, fun y c e => ?_, fun x y c h1 h2 => ?_, fun i y e => ?_⟩
    · obtain ⟨_, rfl⟩ := one_look e
      exact ⟨hce, _, ⟨_, KX _ _ hcell, rfl⟩⟩
    · exact (one_look h1).1.trans (one_look h2).1.symm
    · cases i with
      | zero =>
        simp at e; subst e
        exact ⟨cc, by simp [List.lookup_cons], fun v z => by simp at z⟩
      | succ i => simp at e
  subst hfd
  have hl : (V.ref a :: xs).length = (("self" : Str) :: fl).length := by simp [hxl]
  have hpar : ∀ x ∈ (("self" : Str) :: fl).zip us, F.scope.names.lookup x.1 = some .local := fun x hx => T.sc.par _ (List.of_mem_zip hx).1
  refine ks_codeAny_call_defAt (by have := hr.dp; omega) (KX _ _ hf) rfl lim (PySem.W.codeRec_of KX T.code) rfl hb T.sc.nocell hpar (fun h₀ hns kp => ?_) T.sc.co T.sc.gen T.sc.kind
  have I : Inv (ncx (CXL P w) P w K mg base (("self" : Str) :: fl ++ [("__class__" : Str)]) F f A outer s H E) [] (startF (("self" : Str) :: fl ++ [("__class__" : Str)]) (V.ref a :: xs) [none]) H { s with heap := h₀, toks := s.toks + ((("self" : Str) :: fl).zip us).length } := inv_startN T.sc hr.hd e0 hl rv CA hns kp
  -- the end of the body
  have fin : ∀ {H' : Hp} {σ' : L2.St} {s' : Shared}, Inv (ncx (CXL P w) P w K mg base (("self" : Str) :: fl ++ [("__class__" : Str)]) F f A outer s H E) [] σ' H' s' → Q .non H' → CE outer P w H s Q .none s' := fun {H' σ' s'} J q => ⟨.non, H', J.os, J.bare, J.base, J.hok, rfl, q⟩
  have tail : ∀ {rest : List Stmt} {t : TS} {σ1 : L2.St} {s1 : Shared}, PSs (ncx (CXL P w) P w K mg base (("self" : Str) :: fl ++ [("__class__" : Str)]) F f A outer s H E) rest t → Inv (ncx (CXL P w) P w K mg base (("self" : Str) :: fl ++ [("__class__" : Str)]) F f A outer s H E) [] σ1 H s1 → t { nx := fun _ H' => Q .non H', rt := Q } σ1 H →
      wpAny (model P w) (A.deeper (envF F f s.heap.objs.size)) (execs rest (envF F f s.heap.objs.size)) (fun fl s' => CR (CXL P w) outer P w H s Q E (.ok (.ret (match fl with | .ret v => v | _ => .none))) s')
        (ncx (CXL P w) P w K mg base (("self" : Str) :: fl ++ [("__class__" : Str)]) F f A outer s H E).xe s1 := fun {rest t σ1 s1} ht I1 hq => by
    refine wpAny_mono (ht.run [] s1 σ1 H _ I1 hq) (fun fl' s2 hs => ?_) fun e s2 hs => hs
    match fl', hs with
    | .ret u, ⟨v, _, H', J2, r2, q⟩ => exact ⟨v, H', J2.os, J2.bare, J2.base, J2.hok, r2, q⟩
    | .next, ⟨_, H', J2, q⟩ => exact ⟨V.non, H', J2.os, J2.bare, J2.base, J2.hok, rfl, q⟩
    | .brk, ⟨_, _, _, q⟩ => exact False.elim q
    | .cont, ⟨_, _, _, q⟩ => exact False.elim q
  have hb' := T.bd
  subst hb'
  unfold ckInit at hck
  split at hck
  · rename_i x su p0 p1 ini ap x1 p2 pos pos2 se p3 g p4 x2 p5 pos3 hbody
    simp only [Bool.and_eq_true, decide_eq_true_eq, Bool.not_eq_true'] at hck
    obtain ⟨⟨⟨⟨⟨⟨⟨⟨rfl, hll⟩, rfl⟩, rfl⟩, rfl⟩, rfl⟩, rfl⟩, hd1⟩, hd2⟩ := hck
    match xs, hxl with
    | [y], _ =>
    show PySem.wpAt (model P w) (A.deeper (envF F f s.heap.objs.size)) (.func F.body (envF F f s.heap.objs.size)) (execs F.body (envF F f s.heap.objs.size)) _ _ _
    rw [hbody]
    refine ks_wpAt_execs_cons ?_
    have vx : PE (ncx (CXL P w) P w K mg base (("self" : Str) :: [x2] ++ [("__class__" : Str)]) F f A outer s H E) (.Name x2 p2) (tVar 1) := pe_var rfl (.inl (T.sc.par _ (by simp))) hd1 hd2
    have hl1 : [y].length ≤ 1000 := by show 1 ≤ 1000; decide
    refine super_stmt (es := []) T rfl I rfl ea (pa_cons vx pa_nil rfl) ⟨y, rfl, rfl, hl1⟩ (fun s1 J => ?_) (su_tree rfl rfl hll) rfl rfl
    have hs : PE (ncx (CXL P w) P w K mg base (("self" : Str) :: [x2] ++ [("__class__" : Str)]) F f A outer s H E) (.Name "self" p3) (tVar 0) := pe_var rfl (.inl (T.sc.par _ (by simp)))
    have vx2 : PE (ncx (CXL P w) P w K mg base (("self" : Str) :: [x2] ++ [("__class__" : Str)]) F f A outer s H E) (.Name x2 p5) (tVar 1) := pe_var rfl (.inl (T.sc.par _ (by simp))) hd1 hd2
    refine wpAt_of_wpAny (tail (pss_one (ps_ost hs vx2)) J ?_)
    refine ⟨y, rfl, .ref a, rfl, a, C, rfl, T.T, T.no _ (by simp), .inl ⟨ea, fun dx nd ne => ?_⟩⟩
    exact hsp dx _ nd ne upd_same (by rw [upd_ne ne, upd_same]; rfl) fun b h1 h2 => by rw [upd_ne h1, upd_ne h2]
  · rename_i x y su p0 p1 ini ap x1 p2 y1 q2 pos pos2 se p3 g p4 x2 p5 pos3 se2 q3 g2 q4 y2 q5 pos4 hbody
    simp only [Bool.and_eq_true, decide_eq_true_eq, Bool.not_eq_true'] at hck
    obtain ⟨⟨⟨⟨⟨⟨⟨⟨⟨⟨⟨⟨⟨⟨rfl, hll⟩, rfl⟩, rfl⟩, rfl⟩, rfl⟩, rfl⟩, rfl⟩, rfl⟩, rfl⟩, rfl⟩, hd1⟩, hd2⟩, hd3⟩, hd4⟩ := hck
    match xs, hxl with
    | [u, v], _ =>
    show PySem.wpAt (model P w) (A.deeper (envF F f s.heap.objs.size)) (.func F.body (envF F f s.heap.objs.size)) (execs F.body (envF F f s.heap.objs.size)) _ _ _
    rw [hbody]
    refine ks_wpAt_execs_cons ?_
    have vx : ∀ p, PE (ncx (CXL P w) P w K mg base (("self" : Str) :: [x2, y2] ++ [("__class__" : Str)]) F f A outer s H E) (.Name x2 p) (tVar 1) := fun p => pe_var rfl (.inl (T.sc.par _ (by simp))) hd1 hd2
    have vy : ∀ p, PE (ncx (CXL P w) P w K mg base (("self" : Str) :: [x2, y2] ++ [("__class__" : Str)]) F f A outer s H E) (.Name y2 p) (tVar 2) := fun p => pe_var rfl (.inl (T.sc.par _ (by simp))) hd3 hd4
    have hs : ∀ p, PE (ncx (CXL P w) P w K mg base (("self" : Str) :: [x2, y2] ++ [("__class__" : Str)]) F f A outer s H E) (.Name "self" p) (tVar 0) := fun p => pe_var rfl (.inl (T.sc.par _ (by simp)))
    have hl2 : [u, v].length ≤ 1000 := by show 2 ≤ 1000; decide
    refine super_stmt (es := [.Name y2 q2]) T rfl I rfl ea (pa_cons (vx p2) (pa_cons (vy q2) pa_nil rfl) rfl) ⟨u, rfl, v, rfl, rfl, hl2⟩ (fun s1 J => ?_) (su_tree rfl rfl hll) rfl rfl
    refine wpAt_of_wpAny (tail (pss_cons (ps_ost (hs p3) (vx p5)) (pss_one (ps_ost (hs q3) (vy q5)))) J ?_)
    refine ⟨u, rfl, .ref a, rfl, a, C, rfl, T.T, T.no _ (by simp), .inl ⟨ea, fun dx nd ne => ?_⟩⟩
    refine ⟨v, rfl, .ref a, rfl, a, C, rfl, T.T, T.no _ (by simp), .inr ⟨dx, _, upd_same, by rw [upd_ne ne, upd_same], by show 1 ≤ 900; decide, ?_⟩⟩
    exact hsp dx _ nd ne (by rw [upd_ne (Ne.symm ne), upd_same]) (by rw [upd_same]; rfl) fun b h1 h2 => by rw [upd_ne h2, upd_ne h1, upd_ne h2]
  · cases hck
end
end DL

set_option maxRecDepth 100000
set_option maxHeartbeats 4000000
/-! TryAs: several except clauses, each over one class, with a name or without. -/
namespace DL
open PySem PySem.Spec L2 PyProof.Rows

/-- a clause: its class, its name's slot, what its suite does -/
structure ClT where
  c : Value
  i : Option Nat
  ts : Addr → Value → Option Addr → TS
/-- what the clauses wish of an exception of the body -/
def wAll (K : PySem.W.Frag) (Wout : WX) (D : Ends) : List ClT → WX
  | [] => Wout
  | k :: r => fun cls d σ H => ∃ b, PySem.W.exmOne K cls k.c = some b ∧ (b = true → ∀ a, H a = none → match k.i with
      | none => k.ts a cls d D σ H
      | some i => k.ts a cls d { nx := fun σ' H' => D.nx (σ'.set i none) H', rt := D.rt, bk := fun σ' H' => D.bk (σ'.set i none) H', ct := fun σ' H' => D.ct (σ'.set i none) H' } (σ.set i (some (.ref a))) H) ∧ (b = false → wAll K Wout D r cls d σ H)
inductive HdsA (X : Cx) : List ExceptHandler → List ClT → Prop
  | nil : HdsA X [] []
  | plain {x : Str} {c : Value} {ts : Addr → Value → Option Addr → TS} {b₀ : Stmt} {suite : List Stmt} {np pos' : Pos} {hds : List ExceptHandler} {l : List ClT} (hc : Names X x c)
      (hsu : ∀ (a : Addr) (oe : Obj) (cls : Value) (d : Option Addr) (pn : List (Addr × Obj)), Zc cls d oe → (∃ vs, oe.data = .fields vs) → PSs (X.suite a ((a, oe) :: pn)) (b₀ :: suite) (ts a cls d)) (r : HdsA X hds l) :
      HdsA X (.ExceptHandler (some (.Name x np)) none (b₀ :: suite) pos' :: hds) (⟨c, none, ts⟩ :: l)
  | as_ {x n : Str} {c : Value} {i : Nat} {ts : Addr → Value → Option Addr → TS} {b₀ : Stmt} {suite : List Stmt} {np pos' : Pos} {hds : List ExceptHandler} {l : List ClT} (hc : Names X x c) (hi : X.N[i]? = some n) (hln : X.env.kindOf n = some .local)
      (hsu : ∀ (a : Addr) (oe : Obj) (cls : Value) (d : Option Addr) (pn : List (Addr × Obj)), Zc cls d oe → (∃ vs, oe.data = .fields vs) → PSs (X.suite a ((a, oe) :: pn)) (b₀ :: suite) (ts a cls d)) (r : HdsA X hds l) :
      HdsA X (.ExceptHandler (some (.Name x np)) (some n) (b₀ :: suite) pos' :: hds) (⟨c, some i, ts⟩ :: l)
section
variable {X : Cx} {body : List Stmt} {h₀ : ExceptHandler} {hds : List ExceptHandler} {l : List ClT} {pos : Pos} {tb : WX → TS} {Wout : WX}
theorem ps_try_all (hs : X.stack = X.env :: X.outer) (hf : X.env.frame = some X.env.locals) (hN : X.N.Nodup) (tk : Takes X Wout)
    (hb : ∀ (W : WX) (pn : List (Addr × Obj)) (xe : Value → Shared → Prop), Takes (X.tr pn xe) W → PassesOwn (model X.prog X.w) X.A X.env xe → PSs (X.tr pn xe) body (tb W))
    (hh : HdsA X (h₀ :: hds) l) : PS X (.Try body (h₀ :: hds) [] [] pos) (fun D σ H => tb (wAll X.K Wout D l) D σ H) := by
  refine ⟨fun pins s σ H D I h => ?_⟩
  have ok := I.ok
  have hfr : X.A.frames = some (X.env :: X.outer) := by rw [ok.frames, hs]
  refine wpAny_Try_except ?_
  refine wpAny_mono ((hb (wAll X.K Wout D l) (X.pn ++ pins) (fun e s₁ => wpAny (model X.prog X.w) X.A (noteFrame e X.env) (fun _ s₂ => wpAny (model X.prog X.w) X.A (setFlight e none) (fun _ s₃ =>
    wpAny (model X.prog X.w) X.A (handleBy e X.env (h₀ :: hds)) (SP X pins D) X.xe s₃) X.xe s₂) X.xe s₁) (fun u s' xx => ?_) PassesOwn.looking).run [] s σ H D (I.toTry _) h) (fun f s1 hsp => ?_) (fun e s1 he => he)
  · -- the catch
    obtain ⟨a, B, sI, pins', σ', H', cls, d, rfl, J', nb, up, sky, na, os, ag, w⟩ := xx
    have J : Inv X pins σ' H' sI := J'.ofTry ok
    have sky' : Sky B (X.env :: X.outer) a (Zc cls d) X.env.locals s'.heap := by rw [← hs]; exact sky
    show wpAny (model X.prog X.w) X.A (noteFrame (.ref a) X.env) _ _ _
    refine Sky.land Zc.steady hfr hf sky' fun h3 fl3 up3 => ?_
    have J3 : Inv X pins σ' H' { s' with heap := h3 } := J.landed nb fl3.1 (up.trans up3) os ag
    obtain ⟨oe3, vs3, he3, hz3, hd3⟩ := fl3.there
    have notFr : ∀ {h : Heap} {o : Obj} {vs : Array Value}, h.FunFrames B (X.env :: X.outer) → h.get? a = some o → o.data = .fields vs → a ∉ frs (X.env :: X.outer) := fun {h o vs} ff e dd hm => by
      obtain ⟨_, o', e', hnf⟩ := ff.mem hm
      rw [e] at e'; cases e'
      exact hnf _ dd
    have nfr := notFr fl3.2.2.1 he3 hd3
    have nL : a ≠ X.env.locals := fun z => nfr (List.mem_filterMap.mpr ⟨X.env, List.mem_cons_self, by rw [hf, z]⟩)
    have nF : a ∉ X.fs := fun hm => by
      obtain ⟨e, he, q⟩ := List.mem_filterMap.mp hm
      exact nfr (List.mem_filterMap.mpr ⟨e, List.mem_cons_of_mem _ he, q⟩)
    have S3 := J3.suite he3 hd3 na nL nF
    have tst : ∀ {x : Str} {c : Value} {np : Pos}, Names X x c → ∀ {Q : Value → Shared → Prop} {E : Value → Shared → Prop}, Q c { s' with heap := h3 } → wpAny (model X.prog X.w) (X.A.mark (some (.ref a))) (eval (.Name x np) X.env) Q E { s' with heap := h3 } := fun {x c np} hc {Q E} q => by
      obtain ⟨hg, hdbg, hm | ⟨hm, hv, hnn⟩⟩ := hc
      · exact ld_glob (X := X.suite a ((a, oe3) :: (X.pn ++ pins))) S3 hg hm q hdbg
      · exact ld_blt (X := X.suite a ((a, oe3) :: (X.pn ++ pins))) S3 hg hm hv q hnn hdbg
    have go : ∀ {hds' : List ExceptHandler} {l' : List ClT}, HdsA X hds' l' → wAll X.K Wout D l' cls d σ' H' →
        wpAny (model X.prog X.w) X.A (handleBy (.ref a) X.env hds') (SP X pins D) X.xe { s' with heap := h3 } := by
      intro hds' l' hk
      induction hk with
      | nil =>
        intro w
        refine wpAny_handleBy_nil ?_
        obtain ⟨k1, k2, k3, oe, vs, T, oT, ts', he, hz, hd, h1, hr⟩ := id fl3
        unfold PySem.passOn
        refine wpAny_bind (wpAny_field he hd h1 ?_)
        rw [if_neg (show ¬ ((Value.ref T == Value.none) = true) from by simp)]
        have fin : wpAny (model X.prog X.w) X.A (setFlight (.ref a) X.env.frame) (fun _ s4 => wpAny (model X.prog X.w) X.A (throw (.ref a) : Sem PySem.Flow) (SP X pins D) X.xe s4) X.xe { s' with heap := h3 } := by
          rw [hf]
          refine HandSPX.setFlight_upZ fl3 fun h4 hh4 up4 => wpAny_throw (tk _ _ ?_)
          exact ⟨a, B, sI, pins, σ', H', cls, d, rfl, J, nb, (up.trans up3).trans up4, .inr (.inr (by rw [hs]; exact hh4)), na, os, ag, w⟩
        first
          | exact wpAny_bind (wpAny_pure (wpAny_bind fin))
          | exact wpAny_bind fin
      | @plain x c ts b₀ suite np pos' hds2 l2 hc hsu r ih =>
        intro w
        obtain ⟨b, hb1, hyes, hno⟩ := w
        refine wpAny_handleBy_cons (codeAny_handlers_test ?_) (by intro q; cases q)
        have LT : PySem.W.Looks (model X.prog X.w) h3 (typeOf (.ref a)) cls := fun A Q E s k q => wpAny_typeOf_ref (k _ _ he3) (by rw [hz3.1]; exact q)
        have LM := PySem.W.exm_one (M := model X.prog X.w) (J3.kIn) LT hb1
        refine tst hc (LM.here ?_)
        cases b with
        | true =>
          refine codeAny_handlers_suite ?_
          refine HandSPX.lands_againZ fl3 fun h4 fl4 up4 => ?_
          have J4 : Inv X pins σ' H' { s' with heap := h4 } := J.landed nb fl4.1 ((up.trans up3).trans up4) os ag
          obtain ⟨oe4, vs4, he4, hz4, hd4⟩ := fl4.there
          have S4 := J4.suite he4 hd4 na nL nF
          refine wpAny_mono ((hsu a oe4 cls d (X.pn ++ pins) hz4 ⟨_, hd4⟩).run [] _ _ H' _ S4 (hyes rfl a na)) (fun f s6 hsp => ?_) (fun _ _ z => False.elim z)
          cases f with
          | next =>
            obtain ⟨σ6, H6, S6, q6⟩ := hsp
            exact ⟨_, _, S6.unsuite ok, q6⟩
          | brk =>
            obtain ⟨σ6, H6, S6, q6⟩ := hsp
            exact ⟨_, _, S6.unsuite ok, q6⟩
          | cont =>
            obtain ⟨σ6, H6, S6, q6⟩ := hsp
            exact ⟨_, _, S6.unsuite ok, q6⟩
          | ret u =>
            obtain ⟨v6, σ6, H6, S6, r6, q6⟩ := hsp
            exact ⟨_, _, _, S6.unsuite ok, r6, q6⟩
        | false =>
          show wpAny _ X.A (handleBy (.ref a) X.env hds2) _ _ _
          exact ih (hno rfl)
      | @as_ x n c i ts b₀ suite np pos' hds2 l2 hc hi hln hsu r ih =>
        intro w
        obtain ⟨b, hb1, hyes, hno⟩ := w
        have hloc : Loc X.env.scope n := .inl hln
        refine wpAny_handleBy_cons (codeAny_handlers_test ?_) (by intro q; cases q)
        have LT : PySem.W.Looks (model X.prog X.w) h3 (typeOf (.ref a)) cls := fun A Q E s k q => wpAny_typeOf_ref (k _ _ he3) (by rw [hz3.1]; exact q)
        have LM := PySem.W.exm_one (M := model X.prog X.w) (J3.kIn) LT hb1
        refine tst hc (LM.here ?_)
        cases b with
        | true =>
          refine codeAny_handlers_suite_as ?_
          refine HandSPX.lands_againZ fl3 fun h4 fl4 up4 => ?_
          have J4 : Inv X pins σ' H' { s' with heap := h4 } := J.landed nb fl4.1 ((up.trans up3).trans up4) os ag
          obtain ⟨oe4, vs4, he4, hz4, hd4⟩ := fl4.there
          have S4 := J4.suite he4 hd4 na nL nF
          refine store_ok (X := X.suite a ((a, oe4) :: (X.pn ++ pins))) (v := .ref a) S4 hN hi hloc rfl (fun s5 S5 => ?_) (.inr hln)
          refine wpAny_mono ((hsu a oe4 cls d (X.pn ++ pins) hz4 ⟨_, hd4⟩).run [] s5 _ H' _ S5 (hyes rfl a na)) (fun f s6 hsp => ?_) (fun _ _ z => False.elim z)
          have end_ : ∀ {σ6 : L2.St} {H6 : Hp} {Q : Shared → Prop}, Inv (X.suite a ((a, oe4) :: (X.pn ++ pins))) [] σ6 H6 s6 → (∀ s7, Inv X pins (σ6.set i none) H6 s7 → Q s7) →
              wpAny (model X.prog X.w) X.A (do bindName X.env n .none; unbindBehindTheSuite X.env n pos') (fun _ s7 => Q s7) X.xe s6 := fun {σ6 H6 Q} S6 hq => gone_ok (S6.unsuite ok) hN hi hln hq
          cases f with
          | next =>
            obtain ⟨σ6, H6, S6, q6⟩ := hsp
            exact end_ S6 fun s7 J7 => ⟨_, _, J7, q6⟩
          | brk =>
            obtain ⟨σ6, H6, S6, q6⟩ := hsp
            exact end_ S6 fun s7 J7 => ⟨_, _, J7, q6⟩
          | cont =>
            obtain ⟨σ6, H6, S6, q6⟩ := hsp
            exact end_ S6 fun s7 J7 => ⟨_, _, J7, q6⟩
          | ret u =>
            obtain ⟨v6, σ6, H6, S6, r6, q6⟩ := hsp
            exact end_ S6 fun s7 J7 => ⟨_, _, _, J7, r6, q6⟩
        | false =>
          show wpAny _ X.A (handleBy (.ref a) X.env hds2) _ _ _
          exact ih (hno rfl)
    exact go hh w
  · cases f with
    | next =>
      obtain ⟨σ', H', J', q⟩ := hsp
      exact wpAny_execs_nil ⟨σ', H', J'.ofTry ok, q⟩
    | brk =>
      obtain ⟨σ', H', J', q⟩ := hsp
      exact ⟨σ', H', J'.ofTry ok, q⟩
    | cont =>
      obtain ⟨σ', H', J', q⟩ := hsp
      exact ⟨σ', H', J'.ofTry ok, q⟩
    | ret u =>
      obtain ⟨v, σ', H', J', r, q⟩ := hsp
      exact ⟨v, σ', H', J'.ofTry ok, r, q⟩
end
end DL

set_option maxRecDepth 100000
set_option maxHeartbeats 4000000
/-! EnT: enumerate over a tuple. -/
namespace EnT
open PySem PySem.Spec PyProof.Rows L2

theorem meets_enumT {v : Value} {o : Obj} {G : Heap → Prop} (B : Begins v o G) :
    Meets (Builtin.«enumerate.__new__» ⟨[.type "enumerate", v], []⟩) (fun _ R s => G s.heap ∧
      R (.ok (.ret (.ref (s.heap.push o).objs.size))) { s with heap := (s.heap.push o).push { cls := .type "enumerate", data := .fields #[.none, .bool false, .ref s.heap.objs.size, rawInt 0, .none, .none] } }) :=
  .of_wp fun prog w A R s h => by
    obtain ⟨hp, g, d, tk, os⟩ := s
    obtain ⟨h1, h⟩ := h
    have hsub := sub_enumerate
    have q1 : ∀ {A' : Around} {E : Value → Shared → Prop} {Q : Value → Shared → Prop}, Q (.ref hp.objs.size) ⟨hp.push o, g, d, tk, os⟩ → wpAny (model prog w) A' (pyIter v) Q E ⟨hp, g, d, tk, os⟩ :=
      fun q => B.iter prog w _ _ ⟨hp, g, d, tk, os⟩ _ h1 q
    wp_walk using q1
    refine wpAny_stack_any fun st => wpAny_pure ?_
    split
    · rename_i c _ _ _ _ _
      cases (c == Value.type "enumerate")
      · wp_walk using q1
        exact ⟨_, rfl, h⟩
      · wp_walk using q1
        exact ⟨_, rfl, h⟩
    · wp_walk using q1
      exact ⟨_, rfl, h⟩
theorem call_enumT {prog : Program} {w : World} {A : Around} {E : Value → Shared → Prop} {s : Shared} {v : Value} {o : Obj} {G : Heap → Prop} {Q : Value → Shared → Prop} (B : Begins v o G) (h1 : G s.heap)
    (h : ∀ h', IsEnum h' (s.heap.objs.size + 1) s.heap.objs.size 0 .none → h'.get? s.heap.objs.size = some o → h'.objs.size = s.heap.objs.size + 2 →
      (∀ b o, s.heap.get? b = some o → h'.get? b = some o) → Q (.ref (s.heap.objs.size + 1)) { s with heap := h' }) :
    wpAny (model prog w) A (call (.type "enumerate") [v]) Q E s := by
  refine callType_new F.called_enumerate (by decide) (F.typeCall_enumerate_1 _) (F.newCall_enumerate_1 _) (fun obj => F.args_object_init_2 obj _) F.entry_enumerate_new
    (meets_enumT B) ⟨h1, ?_⟩
  have hz : (s.heap.push o).objs.size = s.heap.objs.size + 1 := Heap.size_push ..
  show _ ∧ _
  rw [hz]
  have he : IsEnum ((s.heap.push o).push { cls := .type "enumerate", data := .fields #[.none, .bool false, .ref s.heap.objs.size, rawInt 0, .none, .none] }) (s.heap.objs.size + 1) s.heap.objs.size 0 .none := by
    have := Heap.get?_push_size (s.heap.push o) (o := { cls := .type "enumerate", data := .fields #[.none, .bool false, .ref s.heap.objs.size, rawInt 0, .none, .none] }) rfl
    rw [hz] at this; exact this
  refine ⟨⟨_, he, rfl⟩, h _ he (Heap.get?_push_of_some _ (Heap.get?_push_size _ B.free)) (by rw [Heap.size_push, hz]) fun b o x => Heap.get?_push_of_some _ (Heap.get?_push_of_some _ x)⟩
def IteT (K : PySem.W.Frag) (a : Addr) : It :=
  ⟨fun i H => ∃ (xs : List V) (x : V), SqT K H a xs ∧ xs[i]? = some x, fun i H v H' => ∃ T x, v = .ref T ∧ H T = none ∧ H' = upd H T (.tup [.int (i : Nat), x]) ∧ ∀ xs, SqT K H a xs → xs[i]? = some x, fun i H => ∃ xs : List V, SqT K H a xs ∧ xs.length ≤ i⟩
theorem turn_enumT {P : Program} {w : World} {K : PySem.W.Frag} {elts : List Expr} {kk : Nat} {tpos : Pos} (a e it : Addr) :
    Turn P w K (.Tuple elts kk tpos) (IteT K a) [e, it] e (fun i h => (∃ old, IsEnum h e it ((i : Nat) : Int) old) ∧ h.IsTupleIter it a i ∧ e ≠ it) where
  mem := by simp
  obj := fun i h st b hb => by
    obtain ⟨⟨old, he⟩, ⟨o, ho, hc, hd⟩, _⟩ := st
    have e' : b = e ∨ b = it := by simpa using hb
    rcases e' with z | z
    · rw [z]; exact ⟨_, he, fun v q => nomatch q⟩
    · rw [z]; exact ⟨o, ho, fun v q => by rw [hd] at q; cases q⟩
  keep := fun i h h' st k => let ⟨⟨old, he⟩, hi, hne⟩ := st; ⟨⟨old, k e (by simp) _ he⟩, hi.at fun o q => k it (by simp) o q, hne⟩
  item := by
    intro X hP hw hK hc i pins s σ H E I hf st hg
    subst hP hw hK
    obtain ⟨⟨old, he⟩, hit, hne⟩ := st
    obtain ⟨xs, x, hq, hx⟩ := hg
    obtain ⟨its, rv, p, hz⟩ := I.tuple hq
    obtain ⟨u, hu, ru⟩ := rv.get hx
    have hel : e < s.heap.objs.size := Heap.lt_size he
    have hil : it < s.heap.objs.size := by obtain ⟨_, q, _⟩ := hit; exact Heap.lt_size q
    have p' : s.heap.IsTuple a its.toArray := p
    have hai : a ≠ it := fun z => by
      subst z
      obtain ⟨o1, e1, c1, d1⟩ := hit
      obtain ⟨o2, e2, c2, d2⟩ := p'
      rw [e1] at e2; cases e2
      obtain ⟨_, d2⟩ := d2
      rw [d1] at d2; cases d2
    have hae : a ≠ e := fun z => by
      subst z
      have he' := he
      unfold IsEnum at he'
      obtain ⟨o2, e2, c2, d2⟩ := p'
      rw [he'] at e2; cases e2
      obtain ⟨_, d2⟩ := d2
      cases d2
    have hlt : i < its.toArray.size := by
      have : i < its.length := (List.getElem?_eq_some_iff.mp hu).1
      simpa using this
    refine wpAny_pyNext_enum_itemD (Draws.tuple (A := X.A.in1) (I.ok.hd hc) it a hai its.toArray) he ⟨hit, p'⟩ hlt hne (by simp [hne, hae.symm]) fun x1 h' tk hP' ho hst' hT hsz hk => ?_
    have hx1 : x1 = u := by
      have hP2 : its.toArray[i]? = some x1 := hP'
      simp at hP2
      rw [hu] at hP2; cases hP2; rfl
    subst hx1
    obtain ⟨hit', _⟩ := hst'
    refine ⟨_, rfl, wpAny_letOwnedTupleGo_enum (s := { s with heap := h', toks := tk + 1 }) ho fun h'' he' sb => ?_⟩
    have hT2 : h''.get? s.heap.objs.size = some { cls := .type "tuple", data := .seq #[.int i tk, x1] } := (sb.2 _ (Nat.ne_of_gt hel)).trans hT
    have new : ObjOk X.prog X.w (upd H s.heap.objs.size (.tup [.int (i : Nat), x])) h'' s.heap.objs.size (.tup [.int (i : Nat), x]) :=
      ⟨by show 2 ≤ sizeLine; decide, [.int i tk, x1], .cons ⟨_, rfl⟩ (.cons ru .nil), ⟨_, hT2, rfl, _, rfl⟩⟩
    have I1 : Inv X pins σ (upd H s.heap.objs.size (.tup [.int (i : Nat), x])) { s with heap := h'', toks := tk + 1 } :=
      I.turnedNew (ch := [e, it]) (fun b ob hb q => (sb.2 b (fun z => hb (by simp [z]))).trans (hk b ob (fun z => hb (by simp [z])) (fun z => hb (by simp [z])) q)) hf (Nat.le_refl _) new
    refine ⟨.ref s.heap.objs.size, _, I1, rfl, ⟨_, x, rfl, I.hok.fresh (Nat.le_refl _), rfl, fun ys hy => by rw [I.tuple_inj hy hq]; exact hx⟩, ⟨⟨x1, ?_⟩, hit'.at fun o q => (sb.2 it (Ne.symm hne)).trans q, hne⟩, fun b hb => ?_⟩
    · have e1 : ((i + 1 : Nat) : Int) = (i : Int) + 1 := by omega
      rw [e1]; exact he'
    · have hb' : b < s.heap.objs.size := by
        have e' : b = e ∨ b = it := by simpa using hb
        rcases e' with z | z
        · rw [z]; exact hel
        · rw [z]; exact hil
      rw [upd_ne (Nat.ne_of_lt hb')]
      exact (hf b hb).1
  done := by
    intro X hP hw hK hc i pins s σ H E I hf st hg
    subst hP hw hK
    obtain ⟨⟨old, he⟩, hit, hne⟩ := st
    obtain ⟨xs, hq, hx⟩ := hg
    obtain ⟨its, rv, p, hz⟩ := I.tuple hq
    obtain ⟨f0, f1, f2, f3, f4, f5⟩ := hf it (by simp)
    have hl := rv.length
    have p' : s.heap.IsTuple a its.toArray := p
    have hT : s.TypeIs (.ref e) "enumerate" := ⟨_, he, rfl⟩
    unfold pyNext
    refine wpAny_bind (wpAny_attempt (wpAny_callSpecial?_slot (name := Str.ofString "__next__") hT F.slot_enumerate_next
      (wpAny_call_entry F.slot_enumerate_next hT F.entry_enumerate_next ?_ (F.args_enumerate_next_1 _))))
    show wpAny _ _ (field (.ref e) 2 >>= _) _ _ _
    refine wpAny_bind (wpAny_field he rfl (x := .ref it) rfl ?_)
    refine wpAny_bind (wpAny_nextOf_tuple_end (I.ok.hd hc) hit p' (by simp; omega) fun h' x he' hx' => ?_)
    obtain ⟨o, ho, hc'⟩ := hx'
    refine wpAny_bind (wpAny_isInstance (T := "StopIteration") (b := true) ⟨o, ho, hc'⟩ isSubtype_stop ?_)
    exact wpAny_pure ⟨rfl, I.turned (t' := s.toks) (fun b o hb q => he' b o hb q) f0 f1 f3 f4 f5⟩
  self := fun A i s Q E st h => let ⟨⟨_, he⟩, _⟩ := st; wpAny_pyIter_enum he h
def iEnumT (K : PySem.W.Frag) (ta : TA) : TI := fun σ H R => ta σ H fun vs H1 => ∃ a xs, vs = [.ref a] ∧ ((SqL K H1 a xs ∧ R (Ite K a) H1) ∨ (SqT K H1 a xs ∧ R (IteT K a) H1))
theorem pi_enumT {X : Cx} {e : Expr} {ta : TA} {p pos tpos : Pos} {elts : List Expr} {kk : Nat} (hg : Gl X "enumerate") (hm : X.mg "enumerate" = none) (ha : PA X [e] ta) (hs : starEach [e] X.env = [(false, eval e X.env)]) :
    PI X (.Tuple elts kk tpos) (.Call (.Name "enumerate" p) [e] [] pos) (iEnumT X.K ta) := by
  refine ⟨fun pins s σ H R I h => ?_⟩
  refine PyProof.Rows.Call_ (ld_blt I hg hm boot_enumerate (PyProof.Rows.callWith_type1 (thn (ha.run pos pins s σ H _ I h) fun us s1 ⟨vs, H1, I1, r1, q1⟩ => ?_) hs rfl))
  obtain ⟨a, xs, ex, q1⟩ := q1
  subst ex
  cases r1 with
  | cons r rr =>
    cases rr
    cases r
    have fresh2 : ∀ b, b ∈ [s1.heap.objs.size + 1, s1.heap.objs.size] → FpOk X pins H1 b := fun b hb => by
      have e' : b = s1.heap.objs.size + 1 ∨ b = s1.heap.objs.size := by simpa using hb
      have hle : s1.heap.objs.size ≤ b := by
        rcases e' with z | z
        · rw [z]; exact Nat.le_add_right _ _
        · rw [z]; exact Nat.le_refl _
      exact I1.fpOk hle (I1.hok.fresh hle)
    rcases q1 with ⟨hq, q⟩ | ⟨hq, q⟩
    · obtain ⟨its, rv, p', hz⟩ := I1.list hq
      refine call_enumerate_list p'.isList fun h' he hit hsz hk => wpAny_pyIter_enum he ?_
      have I2 : Inv X pins σ H1 { s1 with heap := h' } := I1.kept (t' := s1.toks) hk
      exact ⟨s1.heap.objs.size + 1, [s1.heap.objs.size + 1, s1.heap.objs.size], _, _, H1, rfl, I2, turn_enum a (s1.heap.objs.size + 1) s1.heap.objs.size, ⟨⟨.none, he⟩, hit, Nat.succ_ne_self _⟩, fresh2, q⟩
    · obtain ⟨its, rv, p', hz⟩ := I1.tuple hq
      refine call_enumT (begins_tuple a its.toArray) (show s1.heap.IsTuple a its.toArray from p') fun h' he hit hsz hk => wpAny_pyIter_enum he ?_
      have I2 : Inv X pins σ H1 { s1 with heap := h' } := I1.kept (t' := s1.toks) hk
      exact ⟨s1.heap.objs.size + 1, [s1.heap.objs.size + 1, s1.heap.objs.size], _, _, H1, rfl, I2, turn_enumT a (s1.heap.objs.size + 1) s1.heap.objs.size, ⟨⟨.none, he⟩, ⟨_, hit, rfl, rfl⟩, Nat.succ_ne_self _⟩, fresh2, q⟩
end EnT

set_option maxRecDepth 100000
set_option maxHeartbeats 4000000
/-! DL18: what is walked is locked meanwhile; walks. -/
namespace DL
open PySem PySem.Spec L2

theorem lockOf_nodup : ∀ ts : List Tok, (lockOf ts).Nodup
  | [] => .nil
  | t :: r => by
    have ih := lockOf_nodup r
    cases t <;> simp only [lockOf] <;> first | exact ih | (split <;> first | exact ih | (rw [List.nodup_cons]; exact ⟨by assumption, ih⟩))
theorem lockOf_pl {i : Nat} : ∀ {ts : List Tok}, .pl i ∈ ts → i ∈ lockOf ts
  | t :: r, h => by
    rcases List.mem_cons.mp h with h | h
    · subst h; simp only [lockOf]; split
      · assumption
      · simp
    · have ih := lockOf_pl h
      cases t <;> simp only [lockOf] <;> first | exact ih | (split <;> simp [ih])
theorem lockOf_pf {i : Nat} {f : String} : ∀ {ts : List Tok}, .pf i f ∈ ts → i ∈ lockOf ts
  | t :: r, h => by
    rcases List.mem_cons.mp h with h | h
    · subst h; simp only [lockOf]; split
      · assumption
      · simp
    · have ih := lockOf_pf h
      cases t <;> simp only [lockOf] <;> first | exact ih | (split <;> simp [ih])

/-- what the locked slots own (L), what hangs on it (A) -/
inductive LkR (M : Md) (H : Hp) (σ : L2.St) (ρ : Rho) : List Nat → List Addr → List Addr → Prop
  | nil : LkR M H σ ρ [] [] []
  | cons {i : Nat} {is : List Nat} {s : Sl} {o : Option V} {w as L A : List Addr} : ρ[i]? = some s → σ[i]? = some o → SlR M H s o w as → LkR M H σ ρ is L A → LkR M H σ ρ (i :: is) (w ++ L) (as ++ A)
section
variable {M : Md} {σ σ' : L2.St} {H H' : Hp} {ρ ρ0 : Rho} {is : List Nat} {L A : List Addr}
theorem LkR.stay (h : LkR M H σ ρ is L A) (s : Stay H H' (L ++ A)) (hσ : ∀ i ∈ is, σ'[i]? = σ[i]?) : LkR M H' σ' ρ is L A := by
  induction h with
  | nil => exact .nil
  | @cons i is s0 o w as L A h1 h2 h3 _ ih => exact .cons h1 (by rw [hσ i (by simp)]; exact h2) (h3.stay s (fun a z => by simp [z]) fun a z => by simp [z]) (ih (s.sub fun a z => by rcases List.mem_append.mp z with z | z <;> simp [z]) fun j hj => hσ j (by simp [hj]))
theorem LkR.own (h : LkR M H σ ρ is L A) : ∀ a ∈ L, Own H a := by
  induction h with
  | nil => simp
  | cons _ _ h3 _ ih => intro a ha; rcases List.mem_append.mp ha with z | z; exact h3.own a z; exact ih a z
theorem LkR.trk (h : LkR M H σ ρ is L A) : Trk H A := by
  induction h with
  | nil => intro a ha; simp at ha
  | cons _ _ h3 _ ih => intro a ha; rcases List.mem_append.mp ha with z | z; exact h3.trk a z; exact ih a z
theorem LkR.get (h : LkR M H σ ρ is L A) {i : Nat} (hi : i ∈ is) : ∃ s o w as, ρ[i]? = some s ∧ σ[i]? = some o ∧ SlR M H s o w as ∧ (∀ a ∈ w, a ∈ L) ∧ ∀ a ∈ as, a ∈ A := by
  induction h with
  | nil => simp at hi
  | @cons j is s0 o w as L A h1 h2 h3 _ ih =>
    rcases List.mem_cons.mp hi with rfl | hi
    · exact ⟨_, _, _, _, h1, h2, h3, fun a z => by simp [z], fun a z => by simp [z]⟩
    · obtain ⟨s, o', w', as', a1, a2, a3, a4, a5⟩ := ih hi
      exact ⟨s, o', w', as', a1, a2, a3, fun a z => by simp [a4 a z], fun a z => by simp [a5 a z]⟩
theorem lock_len : ∀ {is : List Nat} {ρ : Rho}, (lock is ρ).length = ρ.length
  | [], _ => rfl
  | i :: is, ρ => by
    show (lock is (ρ.set i .lk)).length = ρ.length
    rw [lock_len]; simp
theorem lock_ok : ∀ {is : List Nat} {Z : Addr → Prop} {ρ : Rho} {W : List Addr}, Sim M Z ρ σ H W → is.Nodup → (∀ i ∈ is, i < ρ.length) →
    ∃ L A W', LkR M H σ ρ is L A ∧ Sim M (orL Z L) (lock is ρ) σ H W' ∧ (∀ a ∈ W', a ∈ W) ∧ (∀ a ∈ L, a ∈ W ∧ a ∉ W') ∧ L.Nodup ∧ ∀ a ∈ A, a ∉ L ∧ a ∉ W' ∧ ¬ Z a
  | [], Z, ρ, W, S, nd, hl => ⟨[], [], W, .nil, S.weak fun a h => h.elim id fun z => (by simp at z), fun _ h => h, by simp, .nil, by simp⟩
  | i :: is, Z, ρ, W, S, nd, hl => by
    have hi : i < ρ.length := hl i (by simp)
    rw [List.nodup_cons] at nd
    obtain ⟨o, w, as, W1, h1, h2, ho, n0, s1, s2, s3, S1⟩ := S.lend (List.getElem?_eq_getElem hi) (fun o => (.lk : SlR M H .lk o [] []))
    obtain ⟨L, A, W2, l1, l2, l3, l4, l5, l6⟩ := lock_ok S1 nd.2 (fun j hj => by simp; exact hl j (by simp [hj]))
    have back : ∀ {is' : List Nat} {L A : List Addr}, LkR M H σ (ρ.set i .lk) is' L A → i ∉ is' → LkR M H σ ρ is' L A := by
      intro is' L A h
      induction h with
      | nil => exact fun _ => .nil
      | @cons j js s0 o w as L A h1 h2 h3 _ ih =>
        intro hn
        exact .cons (by rw [List.getElem?_set_ne (fun z => hn (by simp [z]))] at h1; exact h1) h2 h3 (ih fun z => hn (by simp [z]))
    refine ⟨w ++ L, as ++ A, W2, .cons (List.getElem?_eq_getElem hi) h1 h2 (back l1 nd.1), l2.weak fun a h => ?_, fun a h => s2 a (l3 a h), fun a h => ?_, ?_, fun a h => ?_⟩
    · rcases h with h | h
      · exact .inl (.inl h)
      · exact (List.mem_append.mp h).elim (fun z => .inl (.inr z)) .inr
    · rcases List.mem_append.mp h with h | h
      · exact ⟨s1 a h, fun z => s3 a h (l3 a z)⟩
      · exact ⟨s2 a (l4 a h).1, (l4 a h).2⟩
    · rw [List.nodup_append]
      exact ⟨n0, l5, fun a ha b hb e => s3 a ha (e ▸ (l4 b hb).1)⟩
    · rcases List.mem_append.mp h with h | h
      · refine ⟨fun z => ?_, fun z => (ho a h).1 (s2 a (l3 a z)), (ho a h).2⟩
        rcases List.mem_append.mp z with z | z
        · exact (ho a h).1 (s1 a z)
        · exact (ho a h).1 (s2 a (l4 a z).1)
      · have z := l6 a h
        refine ⟨fun y => ?_, z.2.1, fun y => z.2.2 (.inl y)⟩
        · rcases List.mem_append.mp y with y | y
          · exact z.2.2 (.inr y)
          · exact z.1 y

theorem unlock_ok : ∀ {is : List Nat} {Z : Addr → Prop} {ρ : Rho} {W L A : List Addr}, LkR M H σ ρ0 is L A → Sim M (orL Z L) ρ σ H W → L.Nodup → (∀ a ∈ L, ¬ Z a) → (∀ a ∈ A, a ∉ L ∧ a ∉ W ∧ ¬ Z a) →
    ∃ W2, Sim M Z (unlock is ρ0 ρ) σ H W2 ∧ ∀ a ∈ W2, a ∈ W ∨ a ∈ L
  | [], Z, ρ, W, _, _, .nil, S, nd, nz, off => ⟨W, S.weak fun a h => .inl h, fun a h => .inl h⟩
  | i :: is, Z, ρ, W, _, _, .cons (s := s) (o := o) (w := w) (as := as) (L := L) (A := A) h1 h2 h3 t, S, nd, nz, off => by
    rw [List.nodup_append] at nd
    have hi : i < ρ.length := by
      rw [S.length]
      exact (List.getElem?_eq_some_iff.mp h2).1
    have S' : Sim M (orL (orL Z L) w) ρ σ H W := S.weak fun a h => by
      rcases h with (h | h) | h
      · exact .inl h
      · exact .inr (by simp [h])
      · exact .inr (by simp [h])
    obtain ⟨W2, S2, sub⟩ := S'.give (List.getElem?_eq_getElem hi) h3 nd.1 (fun a h z => z.elim (nz a (by simp [h])) fun z => nd.2.2 a h a z rfl) (fun a h => ⟨fun z => (off a (by simp [h])).1 (by simp [z]), (off a (by simp [h])).2.1, fun z => z.elim (off a (by simp [h])).2.2 fun z => (off a (by simp [h])).1 (by simp [z])⟩)
    rw [set_same h2] at S2
    have e : unlock (i :: is) ρ0 ρ = unlock is ρ0 (ρ.set i s) := by
      show is.foldl _ (match ρ0[i]? with
        | some s => ρ.set i s
        | none => ρ) = _
      rw [h1]; rfl
    obtain ⟨W3, S3, sub3⟩ := unlock_ok t S2 nd.2.1 (fun a h => nz a (by simp [h])) (fun a h => ⟨fun z => (off a (by simp [h])).1 (by simp [z]), fun z => (sub a z).elim (off a (by simp [h])).2.1 fun z => (off a (by simp [h])).1 (by simp [z]), (off a (by simp [h])).2.2⟩)
    exact ⟨W3, by rw [e]; exact S3, fun a h => (sub3 a h).elim (fun z => (sub a z).elim .inl fun z => .inr (by simp [z])) fun z => .inr (by simp [z])⟩

/-- the leaves of what is walked, for as long as they stand -/
theorem CoR.ofFl {K : PySem.W.Frag} {l : Fl} {v : V} {w as : List Addr} (r : FlR K H l v w as) (s : Stay H H' (w ++ as)) : CoR K H' l v as := (r.stay s (fun a z => by simp [z]) fun a z => by simp [z]).co
theorem rds_keep : ∀ {ts : List Tok} {vs : List V} {w as : List Addr} {ls : List Fl}, ToksR M σ H ts vs w as → LkR M H σ ρ is L A → (∀ i ∈ lockOf ts, i ∈ is) → rds ρ ts = some ls →
    ∃ B, (∀ b ∈ B, b ∈ as ∨ b ∈ A) ∧ ∀ H', Stay H H' (w ++ as ++ L ++ A) → CosR M.K H' ls vs B
  | [], _, _, _, _, .nil, lk, hi, e => by
    cases e
    exact ⟨[], by simp, fun _ _ => .nil⟩
  | t :: ts, _, _, _, _, .cons (v := v) (w := w1) (as := as1) (vs := vs) (w' := w2) (as' := as2) r1 r2, lk, hi, e => by
    unfold rds at e
    split at e
    case h_2 => cases e
    case h_1 l ls e1 e2 =>
    cases e
    have hi2 : ∀ i ∈ lockOf ts, i ∈ is := fun i h => hi i (by cases t <;> simp only [lockOf] <;> first | exact h | (split <;> simp [h]))
    obtain ⟨B2, b1, b2⟩ := rds_keep r2 lk hi2 e2
    have one : ∃ B1, (∀ b ∈ B1, b ∈ as1 ∨ b ∈ A) ∧ ∀ H', Stay H H' ((w1 ++ as1) ++ (L ++ A)) → CoR M.K H' l v B1 := by
      cases r1 with
      | lf r =>
        cases e1
        exact ⟨as1, fun b h => .inl h, fun H' st => .ofFl r (st.sub fun a h => by rcases List.mem_append.mp h with h | h <;> simp [h])⟩
      | @pl i _ hv =>
        obtain ⟨s, o, w0, as0, g1, g2, g3, g4, g5⟩ := lk.get (hi i (lockOf_pl (by simp)))
        rw [hv] at g2; cases g2
        unfold rd at e1
        simp only at e1
        rw [g1] at e1
        split at e1
        · rename_i l' e'
          cases e'; cases e1
          cases g3 with
          | lf r => exact ⟨as0, fun b h => .inr (g5 b h), fun H' st => .ofFl r (st.sub fun a h => by rcases List.mem_append.mp h with h | h <;> simp [g4, g5, h])⟩
        · cases e1
      | @pf i f _ p Cc dx vfs h1 h2 h3 =>
        obtain ⟨s, o, w0, as0, g1, g2, g3, g4, g5⟩ := lk.get (hi i (lockOf_pf (f := f) (by simp)))
        rw [h1] at g2; cases g2
        unfold rd at e1
        simp only at e1
        rw [g1] at e1
        split at e1
        · rename_i c fs e'
          cases e'
          cases g3 with
          | ob r =>
            obtain ⟨p', C', dx', vfs', w', q1, q2, q3, q4, q5, rfl⟩ := r.ex
            cases q1
            rw [h2] at q3; cases q3
            obtain ⟨v0, wf, asf, u1, u2, a1, a2, y1, y2, rfl, rfl, _⟩ := q5.at_ e1
            rw [h3] at y1; cases y1
            exact ⟨asf, fun b h => .inr (g5 b (by simp [h])), fun H' st => .ofFl y2 (st.sub fun a h => by
              rcases List.mem_append.mp h with h | h
              · have := g4 a (by simp [h]); simp [this]
              · have := g5 a (by simp [h]); simp [this])⟩
        · cases e1
      | fn _ => simp [rd] at e1
      | ob _ => simp [rd] at e1
    obtain ⟨B1, c1, c2⟩ := one
    refine ⟨B1 ++ B2, fun b h => ?_, fun H' st => .cons (c2 H' (st.sub fun a h => ?_)) (b2 H' (st.sub fun a h => ?_))⟩
    · rcases List.mem_append.mp h with h | h
      · exact (c1 b h).elim (fun z => .inl (by simp [z])) .inr
      · exact (b1 b h).elim (fun z => .inl (by simp [z])) .inr
    · simp only [List.mem_append] at h ⊢
      rcases h with (h | h) | h | h <;> simp [h]
    · simp only [List.mem_append] at h ⊢
      rcases h with ((h | h) | h) | h <;> simp [h]
end
end DL

set_option maxRecDepth 100000
set_option maxHeartbeats 4000000
/-! DL19: walks; for. -/
namespace DL
open PySem PySem.Spec L2

/-- an iterator over the leaves gives these items -/
def IsW (K : PySem.W.Frag) (ls : List Fl) (vs : List V) (xs : List PyData) (J : It) : Prop :=
  Walk J xs.length (fun H => ∃ B, CosR K H ls vs B) (fun i H x H' => Same H H' ∧ ∀ B, CosR K H ls vs B → ∃ d as, xs[i]? = some d ∧ RepD K H' x d as ∧ ∀ a ∈ as, a ∈ B)
def WI (X : Cx) (tg iter : Expr) : TI := fun σ H R => ∀ pins s, Inv X pins σ H s → wpAny (model X.prog X.w) X.A (eval iter X.env) (fun v s1 => wpAny (model X.prog X.w) X.A (pyIter v) (PIE X pins σ tg R) X.xe s1) X.xe s
theorem pi_wi {X : Cx} {tg iter : Expr} : PI X tg iter (WI X tg iter) := ⟨fun pins s σ H R I h => h pins s I⟩
theorem wi_of {X : Cx} {tg iter : Expr} {t : TI} (h : PI X tg iter t) {σ : L2.St} {H : Hp} {R : It → Hp → Prop} (q : t σ H R) : WI X tg iter σ H R := fun pins s I => h.run pins s σ H R I q
def ResI (M : Md) (Wx : WX) (Z : Addr → Prop) (q : Bool) (σ : L2.St) (H0 : Hp) (W0 : List Addr) (w : Nat) (out : Out (List Tok)) (R : It → Hp → Prop) : Prop := match out with
  | .ok ts ρ => ∃ ls xs, rds ρ ts = some ls ∧ itemsW w ls = some xs ∧ ∀ vs H J, Gots M Z q H0 W0 ts ρ σ vs H → IsW M.K ls vs xs J → R J H
  | .ex e ρ => ExOk M Wx Z σ H0 W0 e ρ
  | .no => False
def GoodI (C : Cst) (Wx : WX) (X : Cx) (tg iter : Expr) (q : Bool) (w : Nat) (m : Rho → Out (List Tok)) : Prop := ∀ (Z : Addr → Prop) (ρ : Rho) (σ : L2.St) (H : Hp) (W : List Addr) (R : It → Hp → Prop), Sim C.M Z ρ σ H W → ZT Z H → ResI C.M Wx Z q σ H W w (m ρ) R → WI X tg iter σ H R
section
variable {K : PySem.W.Frag} {vs : List V} {l l2 : Fl} {xs ys : List PyData} {v v2 : V}
theorem isw_seq (h : l.seq = some xs) (ht : l.isTup = false) : ∀ {H B}, CosR K H [l] [v] B → ∃ a us, v = .ref a ∧ SqL K H a us ∧ IsW K [l] [v] xs (Itl K a) := by
  have key : ∀ {H B}, CosR K H [l] [v] B → ∃ a us bs, v = .ref a ∧ SqL K H a us ∧ RepDs K H us xs bs ∧ ∀ b ∈ bs, b ∈ B := fun {H B} c => by
    cases c with
    | cons c1 c2 =>
      cases c2
      match l, h, ht with
      | .ls _, h, _ => cases h; obtain ⟨a, us, bs, e, s, r, i⟩ := co_seqL c1 (.inr rfl); exact ⟨a, us, bs, e, s, r, fun b z => by simp [i b z]⟩
      | .d (.list _), h, _ => cases h; obtain ⟨a, us, bs, e, s, r, i⟩ := co_seqL c1 (.inl rfl); exact ⟨a, us, bs, e, s, r, fun b z => by simp [i b z]⟩
  intro H B c
  obtain ⟨a, us, bs, e, s, r, i⟩ := key c
  refine ⟨a, us, e, s, ⟨fun i H hi ⟨B, c⟩ => ?_, fun H ⟨B, c⟩ => ?_, fun i H x H' hi ⟨B0, c0⟩ y => ?_⟩⟩
  · obtain ⟨a', us', bs', e', s', r', _⟩ := key c
    rw [e] at e'; cases e'
    have hl := r'.length
    exact ⟨us', us'[i]'(by omega), s', by simp [hl, hi]⟩
  · obtain ⟨a', us', bs', e', s', r', _⟩ := key c
    rw [e] at e'; cases e'
    exact ⟨us', s', by rw [r'.length]; exact Nat.le_refl _⟩
  · obtain ⟨rfl, y⟩ := y
    refine ⟨Same.refl _, fun B c => ?_⟩
    obtain ⟨a', us', bs', e', s', r', i'⟩ := key c
    rw [e] at e'; cases e'
    obtain ⟨d, as, h1, h2, h3⟩ := r'.getV (y us' s')
    exact ⟨d, as, h1, h2, fun a z => i' a (h3 a z)⟩
theorem isw_tup {xs : List PyData} : ∀ {H B}, CosR K H [.d (.tuple xs)] [v] B → ∃ a us, v = .ref a ∧ SqT K H a us ∧ IsW K [.d (.tuple xs)] [v] xs (Itt K a) := by
  have key : ∀ {H B}, CosR K H [.d (.tuple xs)] [v] B → ∃ a us, v = .ref a ∧ SqT K H a us ∧ RepDs K H us xs B := fun {H B} c => by
    cases c with
    | cons c1 c2 =>
      cases c2
      obtain ⟨a, us, e, s, r⟩ := co_tup c1
      exact ⟨a, us, e, s, by simpa using r⟩
  intro H B c
  obtain ⟨a, us, e, s, r⟩ := key c
  refine ⟨a, us, e, s, ⟨fun i H hi ⟨B, c⟩ => ?_, fun H ⟨B, c⟩ => ?_, fun i H x H' hi ⟨B0, c0⟩ y => ?_⟩⟩
  · obtain ⟨a', us', e', s', r'⟩ := key c
    rw [e] at e'; cases e'
    have hl := r'.length
    exact ⟨us', us'[i]'(by omega), s', by simp [hl, hi]⟩
  · obtain ⟨a', us', e', s', r'⟩ := key c
    rw [e] at e'; cases e'
    exact ⟨us', s', by rw [r'.length]; exact Nat.le_refl _⟩
  · obtain ⟨rfl, y⟩ := y
    refine ⟨Same.refl _, fun B c => ?_⟩
    obtain ⟨a', us', e', s', r'⟩ := key c
    rw [e] at e'; cases e'
    exact r'.getV (y us' s')
theorem isw_str {x : Str} : IsW K [.d (.str x)] [.str x] (signs x) (Its x) := by
  have hl : (signs x).length = x.cps.size := by simp [signs]
  refine ⟨fun i H hi _ => by rw [hl] at hi; exact hi, fun H _ => by rw [hl]; exact Nat.le_refl _, fun i H y H' hi _ h => ?_⟩
  obtain ⟨rfl, c, h1, rfl⟩ := h
  refine ⟨Same.refl _, fun B _ => ⟨.str ⟨#[c]⟩, [], ?_, .str _, by simp⟩⟩
  have : x.cps.toList[i]? = some c := by simpa using h1
  simp [signs, this]
theorem isw_rng {ls : List Fl} {lo : Int} {n : Nat} : IsW K ls vs (rngD lo n) (Itr lo n) := by
  have hl : (rngD lo n).length = n := by simp [rngD]
  refine ⟨fun i H hi _ => by rw [hl] at hi; exact hi, fun H _ => by rw [hl]; exact Nat.le_refl _, fun i H y H' hi _ h => ?_⟩
  obtain ⟨rfl, rfl⟩ := h
  rw [hl] at hi
  exact ⟨Same.refl _, fun B _ => ⟨.int (lo + (i : Nat)), [], by simp [rngD, hi], .int _, by simp⟩⟩
theorem rep_pair {H : Hp} {T : Addr} {x y : V} {d e : PyData} {as bs : List Addr} (hT : H T = none) (h1 : RepD K H x d as) (h2 : RepD K H y e bs) : RepD K (upd H T (.tup [x, y])) (.ref T) (.tuple [d, e]) (as ++ bs) := by
  have sm : Same H (upd H T (.tup [x, y])) := same_upd hT
  have := RepDs.cons (h1.stay (Stay.ofSame sm (A := as)) fun _ h => h) (.cons (h2.stay (Stay.ofSame sm (A := bs)) fun _ h => h) .nil)
  simpa using RepD.tup (SqT.of upd_same) this
theorem isw_enum {A : Addr} {J : It} (hl : ∀ H B, CosR K H [l] [v] B → ∃ us bs, RepDs K H us xs bs ∧ (∀ b ∈ bs, b ∈ B) ∧ (∀ i, i < us.length → J.go i H) ∧ J.stop us.length H ∧ ∀ i x H', J.yld i H x H' → ∃ T y, x = .ref T ∧ H T = none ∧ H' = upd H T (.tup [.int (i : Nat), y]) ∧ us[i]? = some y) : IsW K [l] [v] (enumD xs) J := by
  have hn : (enumD xs).length = xs.length := by simp [enumD]
  refine ⟨fun i H hi ⟨B, c⟩ => ?_, fun H ⟨B, c⟩ => ?_, fun i H x H' hi ⟨B0, c0⟩ y => ⟨?_, fun B c => ?_⟩⟩
  · obtain ⟨us, bs, r, _, g, _⟩ := hl H B c
    exact g i (by rw [r.length, ← hn]; exact hi)
  · obtain ⟨us, bs, r, _, _, s, _⟩ := hl H B c
    rw [hn, ← r.length]; exact s
  · obtain ⟨us, bs, r, _, _, _, z⟩ := hl H B0 c0
    obtain ⟨T, y, rfl, h1, rfl, h2⟩ := z i x H' y
    exact same_upd h1
  · obtain ⟨us, bs, r, i0, _, _, z⟩ := hl H B c
    obtain ⟨T, y, rfl, h1, rfl, h2⟩ := z i x H' y
    obtain ⟨d, as, q1, q2, q3⟩ := r.getV h2
    exact ⟨.tuple [.int (i : Nat), d], as, by simp [enumD, List.getElem?_zipIdx, q1], by simpa using rep_pair h1 (.int _) q2, fun a h => i0 a (q3 a h)⟩
theorem isw_zip {J : It} (hl : ∀ H B, CosR K H [l, l2] [v, v2] B → ∃ us ws bs cs, RepDs K H us xs bs ∧ RepDs K H ws ys cs ∧ (∀ b ∈ bs ++ cs, b ∈ B) ∧ (∀ i, i < us.length → i < ws.length → J.go i H) ∧ (∀ i, us.length ≤ i ∨ ws.length ≤ i → J.stop i H) ∧ ∀ i x H', J.yld i H x H' → ∃ T y z, x = .ref T ∧ H T = none ∧ H' = upd H T (.tup [y, z]) ∧ us[i]? = some y ∧ ws[i]? = some z) : IsW K [l, l2] [v, v2] (zipD xs ys) J := by
  have hn : (zipD xs ys).length = min xs.length ys.length := by simp [zipD]
  refine ⟨fun i H hi ⟨B, c⟩ => ?_, fun H ⟨B, c⟩ => ?_, fun i H x H' hi ⟨B0, c0⟩ y => ⟨?_, fun B c => ?_⟩⟩
  · obtain ⟨us, ws, bs, cs, r, r2, _, g, _⟩ := hl H B c
    rw [hn] at hi
    exact g i (by rw [r.length]; omega) (by rw [r2.length]; omega)
  · obtain ⟨us, ws, bs, cs, r, r2, _, _, s, _⟩ := hl H B c
    refine s _ ?_
    rw [hn, r.length, r2.length]; omega
  · obtain ⟨us, ws, bs, cs, r, r2, _, _, _, z⟩ := hl H B0 c0
    obtain ⟨T, y, z, rfl, h1, rfl, h2, h3⟩ := z i x H' y
    exact same_upd h1
  · obtain ⟨us, ws, bs, cs, r, r2, i0, _, _, z⟩ := hl H B c
    obtain ⟨T, y, z, rfl, h1, rfl, h2, h3⟩ := z i x H' y
    obtain ⟨d, as, q1, q2, q3⟩ := r.getV h2
    obtain ⟨d2, as2, p1, p2, p3⟩ := r2.getV h3
    refine ⟨.tuple [d, d2], as ++ as2, ?_, rep_pair h1 q2 p2, fun a h => (List.mem_append.mp h).elim (fun h => i0 a (by simp [q3 a h])) fun h => i0 a (by simp [p3 a h])⟩
    simp [zipD, List.getElem?_zip_eq_some, q1, p1]
end

/-! ### the walks of the text -/
section
variable {C : Cst} {n : Nat} {Wx : WX} {X : Cx} {tg : Expr} {q : Bool}
theorem gots_co {M : Md} {Z : Addr → Prop} {H0 H : Hp} {W0 : List Addr} {ts : List Tok} {ρ : Rho} {σ : L2.St} {vs : List V} {ls : List Fl} (g : Gots M Z q H0 W0 ts ρ σ vs H) (e : rds ρ ts = some ls) : ∃ B, CosR M.K H ls vs B := by
  obtain ⟨W, w, as, p, S, r, c⟩ := g.ex
  obtain ⟨B, co, _⟩ := rds_ok (S.weak (Z' := Z) fun a h => .inl h) r (fun a h => ⟨(c.sup a h).1, (c.sup a h).2.1⟩) e
  exact ⟨B, co⟩
theorem goodI_0 {it : Expr} {m : Rho → Out (List Tok)} (hK : C.M.K = X.K) (h : GoodL C Wx X [it] q m) : GoodI C Wx X tg it q 0 m := by
  intro Z ρ σ H W R S hz hr
  -- the rule by what comes
  have base : ∀ (P : V → Hp → Prop), ResL C.M Wx Z q σ H W (m ρ) (fun vs H1 => ∃ v, vs = [v] ∧ P v H1) → WE X it σ H P := fun P hP => by
    have := h Z ρ σ H W _ S hz hP
    exact WE.mono (show WE X it σ H fun v H1 => ∃ v', [v] = [v'] ∧ P v' H1 from this) fun v H1 ⟨v', e, p⟩ => by cases e; exact p
  unfold ResI at hr
  cases hx : m ρ with
  | no => rw [hx] at hr; exact hr.elim
  | ex er ρ1 =>
    rw [hx] at hr
    refine wi_of (pi_list pe_we) (base _ ?_)
    rw [hx]; exact hr
  | ok ts ρ1 =>
    rw [hx] at hr
    obtain ⟨ls, xs, e1, e2, k⟩ := hr
    match ls, e1, e2, k with
    | [l], e1, e2, k =>
      have one : ∀ {vs : List V} {H1 : Hp} {B : List Addr}, CosR C.M.K H1 [l] vs B → ∃ v, vs = [v] := fun c => by
        cases c with
        | cons _ c => cases c; exact ⟨_, rfl⟩
      have seqs : ∀ {ds : List PyData}, l.seq = some ds → l.isTup = false → xs = ds → WI X tg it σ H R := fun {ds} hs ht hxs => by
        subst hxs
        refine wi_of (pi_list pe_we) (base _ ?_)
        rw [hx]
        intro vs H1 g
        obtain ⟨B, co⟩ := gots_co g e1
        obtain ⟨v, rfl⟩ := one co
        obtain ⟨a, us, rfl, s, w⟩ := isw_seq hs ht co
        refine ⟨_, rfl, a, rfl, ⟨us, hK ▸ s⟩, ?_⟩
        rw [← hK]
        exact k _ _ _ g w
      cases l with
      | ls ds => exact seqs rfl rfl (by cases e2; rfl)
      | d x => cases x with
        | str x =>
          cases e2
          refine wi_of (pi_str pe_we) (base _ ?_)
          rw [hx]
          intro vs H1 g
          obtain ⟨B, co⟩ := gots_co g e1
          obtain ⟨v, rfl⟩ := one co
          have : v = .str x := by cases co with | cons c1 _ => exact (co_str c1).1
          subst this
          exact ⟨_, rfl, x, rfl, k _ _ _ g isw_str⟩
        | tuple ds =>
          cases e2
          refine wi_of (pi_tup pe_we) (base _ ?_)
          rw [hx]
          intro vs H1 g
          obtain ⟨B, co⟩ := gots_co g e1
          obtain ⟨v, rfl⟩ := one co
          obtain ⟨a, us, rfl, s, w⟩ := isw_tup co
          refine ⟨_, rfl, a, rfl, ⟨us, hK ▸ s⟩, ?_⟩
          rw [← hK]
          exact k _ _ _ g w
        | list ds => exact seqs rfl rfl (by cases e2; rfl)
        | none => cases e2
        | bool _ => cases e2
        | int _ => cases e2
        | dict _ => cases e2
    | [], _, e2, _ => cases e2
    | _ :: _ :: _, _, e2, _ => cases e2

theorem rng_in {l : Fl} {j : Int} (h : intOf l = some j) {K : PySem.W.Frag} {H : Hp} {v : V} {A : List Addr} (c : CoR K H l v A) : v = .int j := by
  have := intOf_eq h
  subst this
  exact (co_int c).1
theorem evL_len {ev : Ex → Rho → Out Tok} : ∀ {xs : List Ex} {ρ ρ' : Rho} {ts : List Tok}, evL ev xs ρ = .ok ts ρ' → ts.length = xs.length
  | [], ρ, ρ', ts, h => by cases h; rfl
  | x :: xs, ρ, ρ', ts, h => by
    unfold evL at h
    cases h1 : ev x ρ with
    | no => rw [h1] at h; cases h
    | ex e ρ1 => rw [h1] at h; cases h
    | ok t ρ1 =>
      rw [h1] at h
      simp only [Out.bind_ok] at h
      split at h
      · cases h
      · cases h2 : evL ev xs ρ1 with
        | no => rw [h2] at h; cases h
        | ex e ρ1 => rw [h2] at h; cases h
        | ok ts2 ρ2 =>
          rw [h2] at h
          cases h
          simp [evL_len h2]
theorem rds_len : ∀ {ts : List Tok} {ρ : Rho} {ls : List Fl}, rds ρ ts = some ls → ls.length = ts.length
  | [], _, _, h => by cases h; rfl
  | t :: ts, ρ, ls, h => by
    unfold rds at h
    split at h
    · rename_i l ls' e1 e2
      cases h
      simp [rds_len e2]
    · cases h
theorem co1 {K : PySem.W.Frag} {H : Hp} {l : Fl} {vs : List V} {B : List Addr} (h : CosR K H [l] vs B) : ∃ v, vs = [v] ∧ CoR K H l v B := by
  cases h with
  | cons c1 c => cases c; exact ⟨_, rfl, by simpa using c1⟩
theorem co2 {K : PySem.W.Frag} {H : Hp} {l l2 : Fl} {vs : List V} {B : List Addr} (h : CosR K H [l, l2] vs B) : ∃ v v2 A A2, vs = [v, v2] ∧ CoR K H l v A ∧ CoR K H l2 v2 A2 ∧ B = A ++ A2 := by
  cases h with
  | cons c1 c => cases c with
    | cons c2 c => cases c; exact ⟨_, _, _, _, rfl, c1, c2, by simp⟩
theorem len2 {α : Type} {ls : List α} (h : ls.length = 2) : ∃ a b, ls = [a, b] := match ls, h with
  | [a, b], _ => ⟨a, b, rfl⟩
/-- a walk of operands: the rule, what it needs of them -/
theorem goodI_of {os : List Expr} {it : Expr} {w : Nat} {xs : List Ex} {ev : Ex → Rho → Out Tok} {r : List V → Hp → (It → Hp → Prop) → Prop} (rule : ∀ {σ H R}, WAs X os σ H (fun vs H1 => r vs H1 R) → WI X tg it σ H R) (h : GoodL C Wx X os q (evL ev xs))
    (sem : ∀ ls items vs H B R, ls.length = xs.length → itemsW w ls = some items → CosR C.M.K H ls vs B → (∀ J, IsW C.M.K ls vs items J → R J H) → r vs H R) : GoodI C Wx X tg it q w (evL ev xs) := by
  intro Z ρ σ H W R S hz hr
  refine rule (h Z ρ σ H W _ S hz ?_)
  unfold ResI at hr
  cases hx : evL ev xs ρ with
  | no => rw [hx] at hr; exact hr.elim
  | ex er ρ1 => rw [hx] at hr; exact hr
  | ok ts ρ1 =>
    rw [hx] at hr
    obtain ⟨ls, items, e1, e2, k⟩ := hr
    intro vs H1 g
    obtain ⟨B, co⟩ := gots_co g e1
    exact sem ls items vs H1 B R (by rw [rds_len e1, evL_len hx]) e2 co fun J i => k vs H1 J g i
theorem goodI_1 {a : Expr} {x : Ex} {ev : Ex → Rho → Out Tok} {p pos : Pos} (hg : Gl X "range") (hm : X.mg "range" = none) (hs : [a].all notStar = true) (h : GoodL C Wx X [a] q (evL ev [x])) : GoodI C Wx X tg (.Call (.Name "range" p) [a] [] pos) q 1 (evL ev [x]) := by
  have hs1 : starEach [a] X.env = [(false, eval a X.env)] := star_each (by simpa using hs)
  refine goodI_of (r := fun vs H1 R => ∃ j : Int, vs = [.int j] ∧ -(2 ^ 62) ≤ j ∧ j < 2 ^ 62 ∧ R (Itr 0 j.toNat) H1) (fun h => wi_of (pi_range1 hg hm (pa_was hs) hs1) h) h fun ls items vs H B R hl e2 co k => ?_
  obtain ⟨l, rfl⟩ := List.length_eq_one_iff.mp hl
  obtain ⟨v, rfl, c1⟩ := co1 co
  · · skip
      simp only [itemsW] at e2
      cases hj : intOf l with
      | none => rw [hj] at e2; cases e2
      | some j =>
        rw [hj] at e2
        simp only [Option.bind_some] at e2
        split at e2
        · rename_i hb
          cases e2
          exact ⟨j, by rw [rng_in hj c1], hb.1, hb.2, k _ isw_rng⟩
        · cases e2
theorem goodI_12 {a b : Expr} {x y : Ex} {ev : Ex → Rho → Out Tok} {p pos : Pos} (hg : Gl X "range") (hm : X.mg "range" = none) (hs : [a, b].all notStar = true) (h : GoodL C Wx X [a, b] q (evL ev [x, y])) : GoodI C Wx X tg (.Call (.Name "range" p) [a, b] [] pos) q 1 (evL ev [x, y]) := by
  have hs' : notStar a = true ∧ notStar b = true := by simpa using hs
  have hs2 : starEach [b] X.env = [(false, eval b X.env)] := star_each hs'.2
  have hs1 : starEach [a, b] X.env = [(false, eval a X.env), (false, eval b X.env)] := by rw [star_each hs'.1, hs2]
  refine goodI_of (r := fun vs H1 R => ∃ i j : Int, vs = [.int i, .int j] ∧ (-(2 ^ 62) ≤ i ∧ i < 2 ^ 62 ∧ -(2 ^ 62) ≤ j ∧ j < 2 ^ 62) ∧ R (Itr i (j - i).toNat) H1) (fun h => wi_of (pi_range2 hg hm (pa_was hs) hs1 hs2) h) h fun ls items vs H B R hl e2 co k => ?_
  obtain ⟨l, l2, rfl⟩ := len2 hl
  obtain ⟨v, v2, A1, A2, rfl, c1, c2, rfl⟩ := co2 co
  · · · skip
        simp only [itemsW] at e2
        cases hi : intOf l with
        | none => rw [hi] at e2; cases e2
        | some i =>
          cases hj : intOf l2 with
          | none => rw [hi, hj] at e2; cases e2
          | some j =>
            rw [hi, hj] at e2
            simp only [Option.bind_some] at e2
            split at e2
            · rename_i hb
              cases e2
              exact ⟨i, j, by rw [rng_in hi c1, rng_in hj c2], hb, k _ isw_rng⟩
            · cases e2
theorem seq_kind {l : Fl} {xs : List PyData} (h : l.seq = some xs) : (l.isTup = true ∧ l = .d (.tuple xs)) ∨ (l.isTup = false ∧ (l = .d (.list xs) ∨ l = .ls xs)) := by
  cases l with
  | ls ds => cases h; exact .inr ⟨rfl, .inr rfl⟩
  | d x => cases x <;> cases h <;> first | exact .inr ⟨rfl, .inl rfl⟩ | exact .inl ⟨rfl, rfl⟩
theorem goodI_2 {a : Expr} {elts : List Expr} {kk : Nat} {tpos : Pos} {x : Ex} {ev : Ex → Rho → Out Tok} {p pos : Pos} (hK : C.M.K = X.K) (hg : Gl X "enumerate") (hm : X.mg "enumerate" = none) (hs : [a].all notStar = true) (h : GoodL C Wx X [a] q (evL ev [x])) : GoodI C Wx X (.Tuple elts kk tpos) (.Call (.Name "enumerate" p) [a] [] pos) q 2 (evL ev [x]) := by
  have hs1 : starEach [a] X.env = [(false, eval a X.env)] := star_each (by simpa using hs)
  refine goodI_of (r := fun vs H1 R => ∃ a xs, vs = [.ref a] ∧ ((SqL X.K H1 a xs ∧ R (Ite X.K a) H1) ∨ (SqT X.K H1 a xs ∧ R (EnT.IteT X.K a) H1))) (fun h => wi_of (EnT.pi_enumT hg hm (pa_was hs) hs1) h) h fun ls items vs H B R hl e2 co k => ?_
  obtain ⟨l, rfl⟩ := List.length_eq_one_iff.mp hl
  obtain ⟨v, rfl, c1⟩ := co1 co
  · simp only [itemsW] at e2
    cases hq : l.seq with
    | none => rw [hq] at e2; cases e2
    | some xs =>
      rw [hq] at e2
      cases e2
      · 
        rcases seq_kind hq with ⟨_, rfl⟩ | ⟨_, hl⟩
        · obtain ⟨a, us, rfl, s, r⟩ := co_tup c1
          refine ⟨a, us, rfl, .inr ⟨hK ▸ s, k _ (isw_enum (A := a) fun H B c => ?_)⟩⟩
          obtain ⟨_, e, c1⟩ := co1 c
          cases e
          · obtain ⟨a', us, e, s, r⟩ := co_tup c1
            cases e
            rw [hK] at s
            exact ⟨us, _, r, by simp, fun i hi => ⟨us, us[i], s, by simp [hi]⟩, ⟨us, s, Nat.le_refl _⟩, fun i x H' ⟨T, y, h1, h2, h3, h4⟩ => ⟨T, y, h1, h2, h3, h4 us s⟩⟩
        · obtain ⟨a, us, bs, rfl, s, r, i0⟩ := co_seqL c1 hl
          refine ⟨a, us, rfl, .inl ⟨hK ▸ s, k _ (isw_enum (A := a) fun H B c => ?_)⟩⟩
          obtain ⟨_, e, c1⟩ := co1 c
          cases e
          · obtain ⟨a', us, bs, e, s, r, i0⟩ := co_seqL c1 hl
            cases e
            rw [hK] at s
            exact ⟨us, bs, r, fun b h => by simp [i0 b h], fun i hi => ⟨us, us[i], s, by simp [hi]⟩, ⟨us, s, Nat.le_refl _⟩, fun i x H' ⟨T, y, h1, h2, h3, h4⟩ => ⟨T, y, h1, h2, h3, h4 us s⟩⟩
theorem goodI_3 {a b : Expr} {elts : List Expr} {kk : Nat} {tpos : Pos} {x y : Ex} {ev : Ex → Rho → Out Tok} {p pos : Pos} (hK : C.M.K = X.K) (hg : Gl X "zip") (hm : X.mg "zip" = none) (hs : [a, b].all notStar = true) (h : GoodL C Wx X [a, b] q (evL ev [x, y])) : GoodI C Wx X (.Tuple elts kk tpos) (.Call (.Name "zip" p) [a, b] [] pos) q 3 (evL ev [x, y]) := by
  have hs' : notStar a = true ∧ notStar b = true := by simpa using hs
  refine goodI_of (r := fun vs H1 R => ∃ a b xs ys, vs = [.ref a, .ref b] ∧ ((SqL X.K H1 a xs ∧ SqL X.K H1 b ys ∧ R (Itz X.K a b) H1) ∨ (SqT X.K H1 a xs ∧ SqT X.K H1 b ys ∧ R (RZ.ItzT X.K a b) H1)))
    (fun h => wi_of (RZ.pi_zipA hg hm (pa_was hs) (star_each hs'.1) (star_any (by simpa using hs'.2))) h) h fun ls items vs H B R hl e2 co k => ?_
  obtain ⟨l, l2, rfl⟩ := len2 hl
  obtain ⟨v, v2, A1, A2, rfl, c1, c2, rfl⟩ := co2 co
  · simp only [itemsW] at e2
    split at e2
    · rename_i hk
      cases hq : l.seq with
      | none => rw [hq] at e2; cases e2
      | some xs =>
        cases hq2 : l2.seq with
        | none => rw [hq, hq2] at e2; cases e2
        | some ys =>
          rw [hq, hq2] at e2
          cases e2
          · · skip
              rcases seq_kind hq with ⟨t1, rfl⟩ | ⟨t1, hl⟩
              · rcases seq_kind hq2 with ⟨t2, rfl⟩ | ⟨t2, hl2⟩
                · obtain ⟨a, us, rfl, s, r⟩ := co_tup c1
                  obtain ⟨b, ws, rfl, s2, r2⟩ := co_tup c2
                  refine ⟨a, b, us, ws, rfl, .inr ⟨hK ▸ s, hK ▸ s2, k _ (isw_zip fun H B c => ?_)⟩⟩
                  obtain ⟨_, _, B1, B2, e, c1, c2, rfl⟩ := co2 c
                  cases e
                  · · obtain ⟨_, us, e, s, r⟩ := co_tup c1
                      cases e
                      obtain ⟨_, ws, e, s2, r2⟩ := co_tup c2
                      cases e
                      rw [hK] at s s2
                      exact ⟨us, ws, _, _, r, r2, by simp, fun i h1 h2 => ⟨us, ws, us[i], ws[i], s, s2, by simp [h1], by simp [h2]⟩, fun i h => ⟨us, ws, s, s2, h⟩, fun i x H' ⟨T, y, z, g1, g2, g3, g4, g5⟩ => ⟨T, y, z, g1, g2, g3, g4 us s, g5 ws s2⟩⟩
                · rw [t1, t2] at hk; cases hk
              · rcases seq_kind hq2 with ⟨t2, rfl⟩ | ⟨t2, hl2⟩
                · rw [t1, t2] at hk; cases hk
                · obtain ⟨a, us, bs, rfl, s, r, _⟩ := co_seqL c1 hl
                  obtain ⟨b, ws, cs, rfl, s2, r2, _⟩ := co_seqL c2 hl2
                  refine ⟨a, b, us, ws, rfl, .inl ⟨hK ▸ s, hK ▸ s2, k _ (isw_zip fun H B c => ?_)⟩⟩
                  obtain ⟨_, _, B1, B2, e, c1, c2, rfl⟩ := co2 c
                  cases e
                  · · obtain ⟨_, us, bs, e, s, r, i1⟩ := co_seqL c1 hl
                      cases e
                      obtain ⟨_, ws, cs, e, s2, r2, i2⟩ := co_seqL c2 hl2
                      cases e
                      rw [hK] at s s2
                      exact ⟨us, ws, bs, cs, r, r2, fun b h => (List.mem_append.mp h).elim (fun h => by simp [i1 b h]) fun h => by simp [i2 b h], fun i h1 h2 => ⟨us, ws, us[i], ws[i], s, s2, by simp [h1], by simp [h2]⟩, fun i h => ⟨us, ws, s, s2, h⟩, fun i x H' ⟨T, y, z, g1, g2, g3, g4, g5⟩ => ⟨T, y, z, g1, g2, g3, g4 us s, g5 ws s2⟩⟩
    · cases e2
end
end DL

set_option maxRecDepth 100000
set_option maxHeartbeats 4000000
/-! DL20: for. -/
namespace DL
open PySem PySem.Spec L2

section
variable {M : Md} {σ σ' : L2.St} {H H' : Hp}
theorem lockOf_lt {ts : List Tok} {vs : List V} {w as : List Addr} (h : ToksR M σ H ts vs w as) : ∀ i ∈ lockOf ts, i < σ.length := by
  induction h with
  | nil => intro i hi; simp [lockOf] at hi
  | @cons t v w as ts vs w' as' r _ ih =>
    intro i hi
    have lt : ∀ {j : Nat} {v : V}, σ[j]? = some (some v) → j < σ.length := fun e => (List.getElem?_eq_some_iff.mp e).1
    cases r with
    | lf _ => exact ih i hi
    | fn _ => exact ih i hi
    | ob _ => exact ih i hi
    | pl e =>
      simp only [lockOf] at hi
      split at hi
      · exact ih i hi
      · rcases List.mem_cons.mp hi with rfl | hi
        · exact lt e
        · exact ih i hi
    | pf e _ _ =>
      simp only [lockOf] at hi
      split at hi
      · exact ih i hi
      · rcases List.mem_cons.mp hi with rfl | hi
        · exact lt e
        · exact ih i hi
/-- what is walked, and what is kept meanwhile -/
structure Lk (M : Md) (Z : Addr → Prop) (q : Bool) (σ : L2.St) (H0 : Hp) (W0 : List Addr) (ts : List Tok) (ρ : Rho) (H : Hp) (vs : List V) (ls : List Fl) (Y : List Addr) (B : List Addr) (W' : List Addr) : Prop where
  sim : Sim M (orL Z Y) (lock (lockOf ts) ρ) σ H W'
  zt : ZT (orL Z Y) H
  co : ∀ H', (∀ b o, H b = some o → b ∉ W' → ¬ Z b → H' b = some o) → CosR M.K H' ls vs B
  off : Off (orL Z Y) W' B
  post : Post q H0 W0 H (W' ++ Y)
  leave0 : ∀ {ρ2 : Rho} {σ' : L2.St} {H' : Hp} {Wi wt : List Addr}, (∀ b o, H b = some o → b ∉ W' → ¬ Z b → H' b = some o) → (∀ a ∈ Wi ++ wt, a ∈ W' ∨ H a = none) → Sim M (orL (orL Z Y) wt) ρ2 σ' H' Wi → Kp (lockOf ts) σ σ' →
    ∃ W2, Sim M (orL Z wt) (unlock (lockOf ts) ρ ρ2) σ' H' W2 ∧ ∀ a ∈ W2, a ∈ Wi ∨ a ∈ Y
theorem lk_of {Z : Addr → Prop} {q : Bool} {H0 : Hp} {W0 : List Addr} {ts : List Tok} {ρ : Rho} {vs : List V} {ls : List Fl} (hz0 : ZT Z H0) (hn : ∀ a ∈ W0, ¬ Z a) (g : Gots M Z q H0 W0 ts ρ σ vs H) (e : rds ρ ts = some ls) : ∃ Y B W', Lk M Z q σ H0 W0 ts ρ H vs ls Y B W' := by
  obtain ⟨W, w, as, p, S, r, c⟩ := g.ex
  have hz : ZT Z H := p.z hz0 hn
  obtain ⟨L, A, W', l1, l2, l3, l4, l5, l6⟩ := lock_ok S (lockOf_nodup ts) (fun i hi => by rw [S.length]; exact lockOf_lt r i hi)
  obtain ⟨B, b1, b2⟩ := rds_keep r l1 (fun i h => h) e
  have ow := l1.own
  have tA := l1.trk
  have tas := r.trk
  have zz : ∀ a, orL Z (w ++ L) a ↔ orL (orL Z w) L a := fun a => ⟨fun h => h.elim (fun h => .inl (.inl h)) fun h => (List.mem_append.mp h).elim (fun h => .inl (.inr h)) .inr, fun h => h.elim (fun h => h.elim .inl fun h => .inr (by simp [h])) fun h => .inr (by simp [h])⟩
  have offB : Off (orL Z (w ++ L)) W' B := fun b hb => by
    rcases b1 b hb with h | h
    · refine ⟨fun z => (c.sup b h).1 (l3 b z), fun z => ?_⟩
      rcases (zz b).mp z with (z | z) | z
      · exact (c.sup b h).2.1 z
      · exact (c.sup b h).2.2 z
      · exact (c.sup b h).1 (l4 b z).1
    · refine ⟨(l6 b h).2.1, fun z => ?_⟩
      rcases (zz b).mp z with z | z
      · exact (l6 b h).2.2 z
      · exact (l6 b h).1 z
  have Sl : Sim M (orL Z (w ++ L)) (lock (lockOf ts) ρ) σ H W' := l2.weak fun a h => (zz a).mp h
  have ztl : ZT (orL Z (w ++ L)) H := hz.orL fun a h => (List.mem_append.mp h).elim (r.own a) (ow a)
  have wW' : ∀ a ∈ w, a ∉ W' := fun a h z => (c.out a h).1 (l3 a z)
  have nZW : ∀ a ∈ W, ¬ Z a := fun a h z => S.nz a h (.inl z)
  have stay : ∀ H', (∀ b o, H b = some o → b ∉ W' → ¬ Z b → H' b = some o) → Stay H H' (w ++ as ++ L ++ A) := fun H' k => by
    have oW := Sl.own
    refine ⟨fun a xs e => k a _ e (fun h => (by obtain ⟨o, e1, e2⟩ := oW a h; rw [e] at e1; cases e1; cases e2)) fun h => (by obtain ⟨o, e1, e2⟩ := hz a h; rw [e] at e1; cases e1; cases e2), fun a o u e => k a _ e (fun h => (by obtain ⟨o, e1, e2⟩ := oW a h; rw [e] at e1; cases e1; cases e2)) fun h => (by obtain ⟨o, e1, e2⟩ := hz a h; rw [e] at e1; cases e1; cases e2), fun a ha o e => k a o e ?_ ?_⟩
    · simp only [List.mem_append] at ha
      rcases ha with ((h | h) | h) | h
      · exact wW' a h
      · exact fun z => (c.sup a h).1 (l3 a z)
      · exact (l4 a h).2
      · exact (l6 a h).2.1
    · simp only [List.mem_append] at ha
      rcases ha with ((h | h) | h) | h
      · exact (c.out a h).2
      · exact (c.sup a h).2.1
      · exact nZW a (l4 a h).1
      · exact fun z => (l6 a h).2.2 (.inl z)
  refine ⟨w ++ L, B, W', Sl, ztl, fun H' k => b2 H' (stay H' k), offB, p.sub fun a h => ?_, fun {ρ2} {σ'} {H'} {Wi} {wt} keep fresh S' kp => ?_⟩
  · simp only [List.mem_append] at h ⊢
    rcases h with h | h | h
    · exact .inl (l3 a h)
    · exact .inr h
    · exact .inl (l4 a h).1
  have st := stay H' keep
  have l1' : LkR M H' σ' ρ (lockOf ts) L A := l1.stay (st.sub fun a h => by rcases List.mem_append.mp h with h | h <;> simp [h]) kp
  have S2 : Sim M (orL (orL Z wt) L) ρ2 σ' H' Wi := S'.weak fun a h => by
    rcases h with (h | h) | h
    · exact .inl (.inl h)
    · exact .inr h
    · exact .inl (.inr (by simp [h]))
  have nL : ∀ a ∈ L, ¬ orL Z wt a := fun a h z => by
    rcases z with z | z
    · exact nZW a (l4 a h).1 z
    · rcases fresh a (by simp [z]) with y | y
      · exact (l4 a h).2 y
      · obtain ⟨o, e, _⟩ := ow a h; rw [y] at e; cases e
  have nA : ∀ a ∈ A, a ∉ L ∧ a ∉ Wi ∧ ¬ orL Z wt a := fun a h => by
    have nf : ∀ {b : List Addr}, a ∈ Wi ++ wt → False := fun {b} z => by
      rcases fresh a z with y | y
      · exact (l6 a h).2.1 y
      · obtain ⟨o, e⟩ := tA a h; rw [y] at e; cases e
    exact ⟨(l6 a h).1, fun z => nf (b := []) (by simp [z]), fun z => z.elim (fun z => (l6 a h).2.2 (.inl z)) fun z => nf (b := []) (by simp [z])⟩
  obtain ⟨W2, S3, sub⟩ := unlock_ok l1' S2 l5 nL nA
  exact ⟨W2, S3, fun a h => (sub a h).elim .inl fun z => .inr (by simp [z])⟩
theorem Lk.leave {Z : Addr → Prop} {q : Bool} {H0 : Hp} {W0 : List Addr} {ts : List Tok} {ρ : Rho} {vs : List V} {ls : List Fl} {Y B W' : List Addr} (lk : Lk M Z q σ H0 W0 ts ρ H vs ls Y B W') {ρ2 : Rho} {σ' : L2.St} {H' : Hp} {Wi wt : List Addr} (P : Post false H W' H' (Wi ++ wt)) (S' : Sim M (orL (orL Z Y) wt) ρ2 σ' H' Wi) (kp : Kp (lockOf ts) σ σ') :
    ∃ W2, Post false H0 W0 H' (W2 ++ wt) ∧ Sim M (orL Z wt) (unlock (lockOf ts) ρ ρ2) σ' H' W2 ∧ ∀ a ∈ W2, a ∈ Wi ∨ a ∈ Y := by
  obtain ⟨W2, S3, sub⟩ := lk.leave0 (fun b o e hb _ => P.keep b o e hb) P.new S' kp
  refine ⟨W2, ((lk.post.seq P).weak).sub fun a h => ?_, S3, sub⟩
  simp only [List.mem_append] at h ⊢
  rcases h with h | h
  · rcases sub a h with z | z <;> simp [z]
  · simp [h]
end

section
variable {C : Cst} {n : Nat} {Wx : WX} {X : Cx} {q : Bool}
theorem good_for {tg it : Expr} {T : Tg} {body : List Stmt} {pos : Pos} {w : Nat} {pin : List Nat} {mL : Rho → Out (List Tok)} {mb : List Nat → Rho → Out Flow} (hp : PassesOwn (model X.prog X.w) X.A X.env X.xe) (hc : X.calm = true) (hs : ∀ x, foldedSetIterable it X.env x = pure x)
    (hi : GoodI C Wx X tg it q w mL) (hg : GoodG C X tg T) (hb : ∀ is, GoodB C Wx X body (is ++ pin) (mb is)) :
    GoodS C Wx X (.For tg it body [] pos) pin (fun ρ => (mL ρ).bind fun ts ρ1 => match (rds ρ1 ts).bind (itemsW w) with
      | none => .no
      | some xs => match forL (asgD (lockOf ts ++ pin) T) (mb (lockOf ts)) xs (lock (lockOf ts) ρ1) with
        | .ok fl ρ2 => .ok fl (unlock (lockOf ts) ρ1 ρ2)
        | .ex e ρ2 => .ex e (unlock (lockOf ts) ρ1 ρ2)
        | .no => .no) := by
  intro Z ρ σ H W D S hz hr
  refine ws_of (ps_for hp hc pi_wi pg_wg pss_ws hs) (hi Z ρ σ H W _ S hz ?_)
  simp only at hr
  cases hx : mL ρ with
  | no => rw [hx] at hr; exact hr.elim
  | ex er ρ1 => rw [hx] at hr; exact ExOk.ofS hr
  | ok ts ρ1 =>
    rw [hx] at hr
    simp only [Out.bind_ok] at hr
    cases hl : rds ρ1 ts with
    | none => rw [hl] at hr; exact hr.elim
    | some ls =>
      rw [hl] at hr
      simp only [Option.bind_some] at hr
      cases hw : itemsW w ls with
      | none => rw [hw] at hr; exact hr.elim
      | some xs =>
        rw [hw] at hr
        simp only at hr
        refine ⟨ls, xs, hl, hw, fun vs H1 J g isw => ?_⟩
        obtain ⟨Y, B, W', lk⟩ := lk_of hz S.nz g hl
        have kpS : ∀ {σ' : L2.St}, Kp (lockOf ts ++ pin) σ σ' → Kp (lockOf ts) σ σ' ∧ Kp pin σ σ' := fun k => ⟨k.sub fun i h => by simp [h], k.sub fun i h => by simp [h]⟩
        -- the three ways out
        have toNx : ∀ ρ2 σ' H' Wi, ResS C.M Wx Z pin σ H W (.ok .nx (unlock (lockOf ts) ρ1 ρ2)) D → StR C.M (orL Z Y) (lockOf ts ++ pin) σ H1 W' ρ2 σ' H' Wi → D.nx σ' H' := fun ρ2 σ' H' Wi hr s => by
          obtain ⟨W2, p2, S2, _⟩ := lk.leave (wt := []) (by simpa using s.post) (s.sim.weak fun a h => h.elim id fun z => (by simp at z)) (kpS s.kp).1
          exact hr σ' H' W2 ⟨by simpa using p2, S2.weak fun a h => .inl h, (kpS s.kp).2⟩
        let total : Out Flow := forL (asgD (lockOf ts ++ pin) T) (mb (lockOf ts)) xs (lock (lockOf ts) ρ1)
        have htot : ResS C.M Wx Z pin σ H W (match total with
          | .ok fl ρ2 => .ok fl (unlock (lockOf ts) ρ1 ρ2)
          | .ex e ρ2 => .ex e (unlock (lockOf ts) ρ1 ρ2)
          | .no => .no) D := hr
        refine for_it isw (fun i σ' H' => ∃ ρi Wi, StR C.M (orL Z Y) (lockOf ts ++ pin) σ H1 W' ρi σ' H' Wi ∧ total = forL (asgD (lockOf ts ++ pin) T) (mb (lockOf ts)) (xs.drop i) ρi) ⟨_, W', StR.refl lk.sim, by rw [List.drop_zero]⟩ ?_ ?_ ?_
        · rintro i σ' H' _ ⟨ρi, Wi, s, _⟩
          exact ⟨B, lk.co H' fun b o e hb _ => s.post.keep b o e hb⟩
        · rintro i x σ' H2 H3 hi ⟨ρi, Wi, s, et⟩ ⟨sm, yl⟩
          obtain ⟨d, as, h1, h2, h3⟩ := yl B (lk.co H2 fun b o e hb _ => s.post.keep b o e hb)
          have hd : xs.drop i = d :: xs.drop (i + 1) := by
            rw [List.drop_eq_getElem_cons hi]
            have : xs[i] = d := by
              have := List.getElem?_eq_getElem hi
              rw [h1] at this; cases this; rfl
            rw [this]
          rw [hd, forL] at et
          have S3 : Sim C.M (orL Z Y) ρi σ' H3 Wi := s.sim.same sm
          have s3 : StR C.M (orL Z Y) (lockOf ts ++ pin) σ H1 W' ρi σ' H3 Wi := ⟨⟨fun b o e hb => sm _ _ (s.post.keep b o e hb), fun b o e => let ⟨o', e'⟩ := s.post.trk b o e; ⟨o', sm _ _ e'⟩, s.post.new, fun h => nomatch h⟩, S3, s.kp⟩
          have tB := (lk.co H1 fun b o e _ _ => e).trk
          have offi : Off (orL Z Y) Wi as := fun a ha => by
            have ha' := h3 a ha
            refine ⟨fun z => ?_, (lk.off a ha').2⟩
            rcases s.post.new a z with y | y
            · exact (lk.off a ha').1 y
            · obtain ⟨o, e⟩ := tB a ha'; rw [y] at e; cases e
          cases ea : asgD (lockOf ts ++ pin) T d ρi with
          | none => rw [ea] at et; rw [et] at htot; exact htot.elim
          | some ρ2 =>
            rw [ea] at et
            simp only at et
            refine hg (lockOf ts ++ pin) (orL Z Y) ρi ρ2 σ' H3 Wi as x d _ S3 h2 offi ea fun σ2 W2 S2 sub2 kp2 => ?_
            have s2 : StR C.M (orL Z Y) (lockOf ts ++ pin) σ H1 W' ρ2 σ2 H3 W2 := ⟨s3.post.sub sub2, S2, s3.kp.trans kp2⟩
            have hz2 : ZT (orL Z Y) H3 := s2.post.z lk.zt lk.sim.nz
            refine hb (lockOf ts) (orL Z Y) ρ2 σ2 H3 W2 _ S2 hz2 ?_
            match hy : mb (lockOf ts) ρ2, et with
            | .ok .nx ρ3, et => exact fun σ4 H4 W4 s4 => ⟨ρ3, W4, s2.after s4, et⟩
            | .ok .ct ρ3, et => exact fun σ4 H4 W4 s4 => ⟨ρ3, W4, s2.after s4, et⟩
            | .ok .bk ρ3, et =>
              rw [et] at htot
              exact fun σ4 H4 W4 s4 => toNx ρ3 σ4 H4 W4 htot (s2.after s4)
            | .ok (.rt t) ρ3, et =>
              rw [et] at htot
              intro v σ4 H4 W4 wt ast p4 S4 k4 r4 c4
              have p4' : Post false H1 W' H4 (W4 ++ wt) := by
                have a' : Post false H1 W' H3 (W2 ++ []) := by simpa using s2.post
                simpa using a'.seq p4
              have k4' := s2.kp.trans k4
              obtain ⟨W5, p5, S5, sub5⟩ := lk.leave p4' S4 (kpS k4').1
              exact htot v σ4 H4 W5 wt ast p5 S5 (kpS k4').2 r4 ⟨fun a h => ⟨fun z => (sub5 a z).elim (c4.sup a h).1 fun z => (c4.sup a h).2.1 (.inr z), fun z => (c4.sup a h).2.1 (.inl z), (c4.sup a h).2.2⟩, c4.nd, fun a h => ⟨fun z => (sub5 a z).elim (c4.out a h).1 fun z => (c4.out a h).2 (.inr z), fun z => (c4.out a h).2 (.inl z)⟩⟩
            | .ex e ρ3, et =>
              rw [et] at htot
              intro cls dd σ4 H4 W4 er s4
              have s5 := s2.after s4
              obtain ⟨W5, p5, S5, sub5⟩ := lk.leave (wt := []) (by simpa using s5.post) (s5.sim.weak fun a h => h.elim id fun z => (by simp at z)) (kpS s5.kp).1
              obtain ⟨Cc, h1, h2, h3⟩ := er.ex
              refine htot cls dd σ4 H4 W5 ⟨Cc, h1, h2, ?_⟩ ⟨by simpa using p5, S5.weak fun a h => .inl h, (kpS s5.kp).2⟩
              rcases h3 with h3 | ⟨dx, vfs, as', a1, a2, a3, a4⟩
              · exact .inl h3
              · exact .inr ⟨dx, vfs, as', a1, a2, a3, fun a ha => ⟨fun z => (sub5 a z).elim (a4 a ha).1 fun z => (a4 a ha).2 (.inr z), fun z => (a4 a ha).2 (.inl z)⟩⟩
            | .no, et => rw [et] at htot; exact htot.elim
        · rintro σ' H' ⟨ρi, Wi, s, et⟩
          rw [List.drop_length, forL] at et
          rw [et] at htot
          exact toNx ρi σ' H' Wi htot s
end
end DL

set_option maxRecDepth 100000
set_option maxHeartbeats 4000000
/-! DL21: list comprehensions. -/
namespace DL
open PySem PySem.Spec L2

/-- over a run that also fills the list at D -/
structure PostD (D : Addr) (H : Hp) (W : List Addr) (H' : Hp) (W' : List Addr) : Prop where
  keep : ∀ b o, H b = some o → b ∉ W → b ≠ D → H' b = some o
  trk : ∀ b o, H b = some o → ∃ o', H' b = some o'
  new : ∀ b ∈ W', b ∈ W ∨ H b = none
structure AccR (M : Md) (Z : Addr → Prop) (D : Addr) (Hb : Hp) (Wb : List Addr) (ρ : Rho) (σ : L2.St) (H : Hp) (acc : List PyData) : Prop where
  ex : ∃ W vacc as, Sim M Z ρ σ H W ∧ PostD D Hb Wb H W ∧ H D = some (.lst vacc) ∧ RepDs M.K H vacc acc as ∧ Off Z W as
section
variable {M : Md} {Z : Addr → Prop} {D : Addr} {Hb H H' : Hp} {Wb W W' : List Addr} {ρ : Rho} {σ : L2.St} {q : Bool}
theorem PostD.refl : PostD D H W H W := ⟨fun _ _ e _ _ => e, fun _ o e => ⟨o, e⟩, fun _ h => .inl h⟩
theorem PostD.step (a : PostD D Hb Wb H W) (b : Post q H W H' W') : PostD D Hb Wb H' W' where
  keep := fun c o e h1 h2 => b.keep c o (a.keep c o e h1 h2) fun z => (a.new c z).elim h1 fun y => (by rw [y] at e; cases e)
  trk := fun c o e => let ⟨o', e'⟩ := a.trk c o e; b.trk c o' e'
  new := fun c hc => (b.new c hc).elim (a.new c) fun z => by
    cases e : Hb c with
    | none => exact .inr rfl
    | some o => obtain ⟨o', e'⟩ := a.trk c o e; rw [z] at e'; cases e'
theorem PostD.sub {W2 : List Addr} (a : PostD D Hb Wb H W) (h : ∀ x ∈ W2, x ∈ W) : PostD D Hb Wb H W2 := ⟨a.keep, a.trk, fun b hb => a.new b (h b hb)⟩
theorem PostD.fill (a : PostD D Hb Wb H W) {xs ys : List V} (e : H D = some (.lst xs)) : PostD D Hb Wb (upd H D (.lst ys)) W where
  keep := fun c o e' h1 h2 => by rw [upd_ne h2]; exact a.keep c o e' h1 h2
  trk := fun c o e' => by
    by_cases h : c = D
    · subst h; exact ⟨_, upd_same⟩
    · rw [upd_ne h]; exact a.trk c o e'
  new := a.new
theorem PostD.same (a : PostD D Hb Wb H W) (sm : Same H H') : PostD D Hb Wb H' W := ⟨fun c o e h1 h2 => sm _ _ (a.keep c o e h1 h2), fun c o e => let ⟨o', e'⟩ := a.trk c o e; ⟨o', sm _ _ e'⟩, a.new⟩
theorem Sim.wipe1 (S : Sim M Z ρ σ H W) (i : Nat) : ∃ W', Sim M Z (ρ.set i .no) (σ.set i none) H W' ∧ ∀ a ∈ W', a ∈ W := by
  by_cases hi : i < ρ.length
  · obtain ⟨W', S', sub⟩ := Sim.give (w' := []) (as' := []) (Z := Z) (S.weak fun a h => h.elim id fun z => (by simp at z)) (List.getElem?_eq_getElem hi) (.no : SlR M H .no none [] []) .nil (by simp) (by simp)
    exact ⟨W', S', fun a h => (sub a h).elim id fun z => (by simp at z)⟩
  · have h1 : ρ.set i .no = ρ := List.set_eq_of_length_le (by omega)
    have h2 : σ.set i none = σ := List.set_eq_of_length_le (by rw [← S.length]; omega)
    rw [h1, h2]
    exact ⟨W, S, fun _ h => h⟩
theorem Sim.wipe (S : Sim M Z ρ σ H W) : ∀ own : List Nat, ∃ W', Sim M Z (wipeR own ρ) (L2.wipe σ own) H W' ∧ ∀ a ∈ W', a ∈ W
  | [] => ⟨W, S, fun _ h => h⟩
  | i :: own => by
    obtain ⟨W1, S1, s1⟩ := S.wipe own
    obtain ⟨W2, S2, s2⟩ := S1.wipe1 i
    exact ⟨W2, S2, fun a h => s1 a (s2 a h)⟩
theorem wipe_in {σ : L2.St} {i : Nat} : ∀ {vs : List Nat}, i ∈ vs → i < σ.length → (L2.wipe σ vs)[i]? = some none
  | v :: vs, h, hl => by
    have hl' : i < (L2.wipe σ vs).length := by rw [wipe_length]; exact hl
    by_cases hv : v = i
    · subst hv; rw [L2.wipe, List.getElem?_set_self hl']
    · rw [L2.wipe, List.getElem?_set_ne hv]
      rcases List.mem_cons.mp h with h | h
      · exact absurd h.symm hv
      · exact wipe_in h hl
theorem wipe_ext {σ σ' : L2.St} {vs : List Nat} (hl : σ'.length = σ.length) (h : ∀ i, i ∉ vs → i < σ.length → σ'[i]? = σ[i]?) : L2.wipe σ' vs = L2.wipe σ vs := by
  apply List.ext_getElem?
  intro i
  by_cases hi : i < σ.length
  · by_cases hv : i ∈ vs
    · rw [wipe_in hv hi, wipe_in hv (by omega)]
    · rw [wipe_out hv, wipe_out hv]; exact h i hv hi
  · rw [List.getElem?_eq_none (by rw [wipe_length]; omega), List.getElem?_eq_none (by rw [wipe_length]; omega)]
theorem wipe_compl {σ σ' : L2.St} {vs : List Nat} {N : Nat} (hn : N = σ.length) (hl : σ'.length = σ.length) (k : Kp (compl vs N) σ σ') : L2.wipe σ' vs = L2.wipe σ vs :=
  wipe_ext hl fun i hv hi => k i (by simp [compl, hv]; omega)
theorem put1_len {pin : List Nat} {i : Nat} {t : Tok} {ρ ρ' : Rho} (e : put1 pin i t ρ = some ρ') : ρ'.length = ρ.length := by
  unfold put1 at e
  split at e
  · cases e
  · split at e
    · cases e
    · cases e; simp
    · cases e
mutual
theorem asgD_len {pin : List Nat} : ∀ {T : Tg} {x : PyData} {ρ ρ' : Rho}, asgD pin T x ρ = some ρ' → ρ'.length = ρ.length
  | .nm i, x, ρ, ρ', e => by rw [asgD] at e; exact put1_len e
  | .tp ts, x, ρ, ρ', e => by
    cases x with
    | tuple xs => rw [asgD] at e; exact asgDs_len e
    | _ => rw [asgD] at e; cases e; all_goals simp
theorem asgDs_len {pin : List Nat} : ∀ {Ts : List Tg} {xs : List PyData} {ρ ρ' : Rho}, asgDs pin Ts xs ρ = some ρ' → ρ'.length = ρ.length
  | [], [], ρ, ρ', e => by rw [asgDs] at e; cases e; rfl
  | [], _ :: _, ρ, ρ', e => by rw [asgDs] at e; cases e; all_goals simp
  | _ :: _, [], ρ, ρ', e => by rw [asgDs] at e; cases e; all_goals simp
  | T :: Ts, x :: xs, ρ, ρ', e => by
    rw [asgDs] at e
    cases h : asgD pin T x ρ with
    | none => rw [h] at e; cases e
    | some ρ1 =>
      rw [h] at e
      exact (asgDs_len e).trans (asgD_len h)
end
end

/-- nothing leaves a block -/
def WxF : WX := fun _ _ _ _ => False
/-- the turns of one clause: what it walks stands; Pv at each turn -/
theorem turns_ok {M : Md} {Z : Addr → Prop} {D : Addr} {Hb H0 : Hp} {Wb : List Addr} {σ : L2.St} {own : List Nat} {J : It} {xs : List PyData} {ls : List Fl} {vs0 : List V} {B : List Addr} {g : TG} {tt : TT} {te : TE} {asg : PyData → Rho → Option Rho} {test : Rho → Out Bool} {elt : Rho → Out Tok} {acc0 ys : List PyData} {ρ0 ρe : Rho} {Qd : Hp → Prop}
    (isw : IsW M.K ls vs0 xs J) (hco : ∀ H, (∀ b o, Hb b = some o → b ∉ Wb → b ≠ D → H b = some o) → CosR M.K H ls vs0 B) (offB : Off Z Wb B) (ztb : ZT Z Hb) (nzb : ∀ a ∈ Wb, ¬ Z a) (hD : Z D) (hDo : ∃ zs, Hb D = some (.lst zs))
    (hg : ∀ (Z : Addr → Prop) (ρ ρ' : Rho) (σ' : L2.St) (H : Hp) (W as : List Addr) (v : V) (x : PyData) (Q : L2.St → Hp → Prop), Sim M Z ρ σ' H W → σ'.length = σ.length → RepD M.K H v x as → Off Z W as → asg x ρ = some ρ' → (∀ σ2 W2, Sim M Z ρ' σ2 H W2 → (∀ a ∈ W2, a ∈ W) → L2.wipe σ2 own = L2.wipe σ' own → Q σ2 H) → g v σ' H Q)
    (ht : ∀ (Z : Addr → Prop) (ρ : Rho) (σ' : L2.St) (H : Hp) (W : List Addr) (Q : Bool → Hp → Prop), Sim M Z ρ σ' H W → ZT Z H → ResT M WxF Z false σ' H W (test ρ) Q → tt σ' H Q)
    (he : ∀ (Z : Addr → Prop) (ρ : Rho) (σ' : L2.St) (H : Hp) (W : List Addr) (Q : VK), Sim M Z ρ σ' H W → ZT Z H → Res M WxF Z false σ' H W (elt ρ) Q → te σ' H Q)
    (start : AccR M Z D Hb Wb (wipeR own ρ0) (L2.wipe σ own) H0 acc0) (total : lcL asg test elt (wipeR own) xs acc0 ρ0 = .ok ys ρe) (fin : ∀ H, AccR M Z D Hb Wb (wipeR own ρe) (L2.wipe σ own) H ys → Qd H) :
    ∃ W : Nat → Nat → Hp → Prop, (∃ m, W 0 m H0) ∧ ∀ i m H, W i m H →
      (J.stop i H ∧ Qd H) ∨ (J.go i H ∧ ∃ Nx : Hp → Prop, (∀ H', Nx H' → ∃ m', m' < m ∧ W (i + 1) m' H') ∧ ∀ x H', J.yld i H x H' → g x (L2.wipe σ own) H' fun σ2 H2 => L2.wipe σ2 own = L2.wipe σ own ∧ tt σ2 H2 fun b H3 =>
        if b = true then te σ2 H3 fun y H4 => ∃ acc, H4 D = some (.lst acc) ∧ acc.length < sizeLine ∧ Nx (upd H4 D (.lst (acc ++ [y]))) else Nx H3) := by
  let Pv : Nat → Hp → Prop := fun i H => ∃ ρi acc, AccR M Z D Hb Wb (wipeR own ρi) (L2.wipe σ own) H acc ∧ lcL asg test elt (wipeR own) (xs.drop i) acc ρi = .ok ys ρe
  have ww : ∀ σ' : L2.St, L2.wipe (L2.wipe σ' own) own = L2.wipe σ' own := fun σ' => wipe_ext (wipe_length _ _) fun i hv _ => wipe_out hv
  refine ⟨fun i m H => m = xs.length - i ∧ i ≤ xs.length ∧ Pv i H, ⟨xs.length, by simp, Nat.zero_le _, ρ0, acc0, start, by rw [List.drop_zero]; exact total⟩, ?_⟩
  rintro i m H ⟨rfl, hi, ρi, acc, ar, tl⟩
  obtain ⟨W, vacc, as, S, P, eD, ra, oa⟩ := ar.ex
  have cosH : CosR M.K H ls vs0 B := hco H P.keep
  by_cases hlt : i < xs.length
  · refine .inr ⟨isw.goes i H hlt ⟨B, cosH⟩, Pv (i + 1), fun H' p' => ⟨xs.length - (i + 1), by omega, rfl, hlt, p'⟩, fun x H1 y => ?_⟩
    obtain ⟨sm, yl⟩ := isw.yields i H x H1 hlt ⟨B, cosH⟩ y
    obtain ⟨d, as', h1, h2, h3⟩ := yl B cosH
    have hd : xs.drop i = d :: xs.drop (i + 1) := by
      rw [List.drop_eq_getElem_cons hlt]
      have : xs[i] = d := by
        have := List.getElem?_eq_getElem hlt
        rw [h1] at this; cases this; rfl
      rw [this]
    rw [hd, lcL] at tl
    have S1 : Sim M Z (wipeR own ρi) (L2.wipe σ own) H1 W := S.same sm
    have P1 : PostD D Hb Wb H1 W := P.same sm
    obtain ⟨zs, hDz⟩ := hDo
    have tB := (hco Hb fun b o e _ _ => e).trk
    have offi : Off Z W as' := fun a ha => by
      have ha' := h3 a ha
      refine ⟨fun z => ?_, (offB a ha').2⟩
      rcases P.new a z with y | y
      · exact (offB a ha').1 y
      · obtain ⟨o, e⟩ := tB a ha'; rw [y] at e; cases e
    have ra1 : RepDs M.K H1 vacc acc as := ra.stay (Stay.ofSame sm (A := as)) fun _ h => h
    have eD1 : H1 D = some (.lst vacc) := sm _ _ eD
    cases ea : asg d (wipeR own ρi) with
    | none => rw [ea] at tl; cases tl
    | some ρ1 =>
      rw [ea] at tl
      simp only at tl
      refine hg Z _ ρ1 _ H1 W as' x d _ S1 (wipe_length _ _) h2 offi ea fun σ2 W2 S2 sub2 ew => ?_
      have ew' : L2.wipe σ2 own = L2.wipe σ own := ew.trans (ww σ)
      refine ⟨ew', ?_⟩
      have P2 : PostD D Hb Wb H1 W2 := P1.sub sub2
      have zt1 : ∀ {H' : Hp} {W' : List Addr}, PostD D Hb Wb H' W' → (∃ zs, H' D = some (.lst zs)) → ZT Z H' := fun {H'} {W'} p ⟨zs', hz'⟩ a ha => by
        obtain ⟨o, e, ho⟩ := ztb a ha
        by_cases h : a = D
        · subst h; exact ⟨_, hz', rfl⟩
        · exact ⟨o, p.keep a o e (fun z => nzb a z ha) h, ho⟩
      have hz1 : ZT Z H1 := zt1 P1 ⟨_, eD1⟩
      -- what the turn leaves
      have step : ∀ {ρ' : Rho} {H' : Hp} {W' : List Addr}, Sim M Z ρ' σ2 H' W' → PostD D Hb Wb H' W' → ∀ {va : List V} {ac : List PyData} {aa : List Addr}, H' D = some (.lst va) → RepDs M.K H' va ac aa → Off Z W' aa → lcL asg test elt (wipeR own) (xs.drop (i + 1)) ac ρ' = .ok ys ρe → Pv (i + 1) H' := fun {ρ'} {H'} {W'} S' P' {va} {ac} {aa} e' r' o' t' => by
        obtain ⟨W3, S3, s3⟩ := S'.wipe own
        rw [ew'] at S3
        exact ⟨ρ', ac, ⟨W3, va, aa, S3, P'.sub s3, e', r', o'.anti s3⟩, t'⟩
      -- over a run in the block
      have over : ∀ {H' : Hp} {W' : List Addr} {W3 : List Addr} {q : Bool} {H3 : Hp} {as3 : List Addr} {va : List V} {ac : List PyData}, Post q H' W' H3 W3 → (∀ a ∈ W', ¬ Z a) → (∀ a ∈ W', Own H' a) → H' D = some (.lst va) → RepDs M.K H' va ac as3 → Off Z W' as3 → H3 D = some (.lst va) ∧ RepDs M.K H3 va ac as3 ∧ Off Z W3 as3 := fun {H'} {W'} {W3} {q} {H3} {as3} {va} {ac} p nz ow e r o => by
        refine ⟨p.keep _ _ e fun z => nz _ z hD, r.stay (p.stay ow (A := as3) fun a h => (o a h).1) fun _ h => h, fun a h => ⟨fun z => ?_, (o a h).2⟩⟩
        rcases p.new a z with y | y
        · exact (o a h).1 y
        · obtain ⟨o', e'⟩ := r.trk a h; rw [y] at e'; cases e'
      refine ht Z ρ1 σ2 H1 W2 _ S2 hz1 ?_
      match hx : test ρ1, tl with
      | .no, tl => cases tl
      | .ex e ρ2, tl => cases tl
      | .ok false ρ2, tl =>
        intro H3 W3 p3 S3
        rw [if_neg Bool.false_ne_true]
        obtain ⟨e3, r3, o3⟩ := over p3 S2.nz S2.own eD1 ra1 (oa.anti sub2)
        exact step S3 (P2.step p3) e3 r3 o3 tl
      | .ok true ρ2, tl =>
        intro H3 W3 p3 S3
        rw [if_pos rfl]
        obtain ⟨e3, r3, o3⟩ := over p3 S2.nz S2.own eD1 ra1 (oa.anti sub2)
        have P3 := P2.step p3
        refine he Z ρ2 σ2 H3 W3 _ S3 (zt1 P3 ⟨_, e3⟩) ?_
        simp only at tl
        match hy : elt ρ2, tl with
        | .no, tl => cases tl
        | .ex e ρ3, tl => cases tl
        | .ok t ρ3, tl =>
          intro v H4 gt
          obtain ⟨W4, w4, as4, p4, S4, r4, c4⟩ := gt.ex
          simp only at tl
          cases hd4 : toD t ρ3 with
          | none => rw [hd4] at tl; cases tl
          | some pr =>
            obtain ⟨y, ρ4⟩ := pr
            rw [hd4] at tl
            simp only at tl
            split at tl
            case isFalse => cases tl
            case isTrue hsz =>
            obtain ⟨W5, as5, S5, sub5, rep5, off5, _⟩ := toD_ok (S4.weak (Z' := Z) fun a h => .inl h) r4 (fun a h => ⟨(c4.sup a h).1, (c4.sup a h).2.1⟩) (fun a h => c4.out a h) hd4
            obtain ⟨e4, ra4, o4⟩ := over p4 S3.nz S3.own e3 r3 o3
            have o4' : Off Z W5 as := o4.anti fun a h => by simp [sub5 a h]
            refine ⟨vacc, e4, by rw [ra4.length]; exact hsz, ?_⟩
            have nW5 : D ∉ W5 := fun z => S5.nz _ z hD
            have st : ∀ {A : List Addr}, (∀ a ∈ A, a ≠ D) → Stay H4 (upd H4 D (.lst (vacc ++ [v]))) A := fun {A} hA => ⟨fun a z e => by rw [upd_ne (ne_of e e4 (by intro z; cases z))]; exact e, fun a o u e => by rw [upd_ne (ne_of e e4 (by intro z; cases z))]; exact e, fun a ha o e => by rw [upd_ne (hA a ha)]; exact e⟩
            have nas : ∀ a ∈ as ++ as5, a ≠ D := fun a ha e => by
              subst e
              rcases List.mem_append.mp ha with h | h
              · exact (o4' _ h).2 hD
              · exact (off5 _ h).2 hD
            have S6 : Sim M Z ρ4 σ2 (upd H4 D (.lst (vacc ++ [v]))) W5 := by
              obtain ⟨A, sl, ap⟩ := S5.sls
              exact ⟨⟨A, sl.stay (st (A := W5 ++ A) fun a ha e => by
                subst e
                rcases List.mem_append.mp ha with h | h
                · exact nW5 h
                · exact (ap _ h).2 hD) (fun a h => by simp [h]) (fun a h => by simp [h]), ap⟩, S5.nd, S5.nz⟩
            have ra6 : RepDs M.K (upd H4 D (.lst (vacc ++ [v]))) (vacc ++ [v]) (acc ++ [y]) (as ++ as5) := by
              have := ra4.append (.cons rep5 .nil)
              exact RepDs.stay (st (A := as ++ (as5 ++ [])) fun a ha => nas a (by simpa using ha)) this (fun _ h => h) |> fun z => by simpa using z
            exact step S6 (((P3.step p4).sub fun a h => by simp [sub5 a h]).fill e4) upd_same ra6 (o4'.append off5) tl
  · have e : i = xs.length := by omega
    subst e
    rw [List.drop_length, lcL] at tl
    cases tl
    exact .inl ⟨isw.stops H ⟨B, cosH⟩, fin H ar⟩
end DL

set_option maxRecDepth 100000
set_option maxHeartbeats 4000000
/-! DL22: list comprehensions as expressions. -/
namespace DL
open PySem PySem.Spec L2

section
variable {M : Md} {Z : Addr → Prop} {H H' : Hp} {W W' : List Addr} {ρ ρ0 : Rho} {σ σ' : L2.St}
/-- the own slots ahead of the block: nothing owned -/
theorem own_ok (S : Sim M Z ρ σ H W) : ∀ {own : List Nat}, ownOk own ρ = true → ∃ A, LkR M H σ ρ own [] A ∧ Off Z W A ∧ ∀ i ∈ own, i < ρ.length
  | [], _ => ⟨[], .nil, by intro a ha; simp at ha, by simp⟩
  | i :: own, h => by
    unfold ownOk at h
    rw [List.all_cons, Bool.and_eq_true] at h
    obtain ⟨A, l, o, lt⟩ := own_ok S (own := own) h.2
    obtain ⟨B, sl, ap⟩ := S.sls
    have h1 := h.1
    split at h1
    · rename_i e
      obtain ⟨ov, w, as, W1, W2, A1, A2, q1, q2, rfl, rfl, _⟩ := sl.at_ e
      refine ⟨A, LkR.cons (w := []) (as := []) e q1 .no l, o, fun j hj => (List.mem_cons.mp hj).elim (fun z => z ▸ (List.getElem?_eq_some_iff.mp e).1) (lt j)⟩
    · rename_i x e
      obtain ⟨ov, w, as, W1, W2, A1, A2, q1, q2, rfl, rfl, _⟩ := sl.at_ e
      cases q2 with
      | lf r => cases r with
        | d r => exact ⟨as ++ A, LkR.cons (w := []) e q1 (.lf (.d r)) l, fun a ha => (List.mem_append.mp ha).elim (fun z => ap a (by simp [z])) (o a), fun j hj => (List.mem_cons.mp hj).elim (fun z => z ▸ (List.getElem?_eq_some_iff.mp e).1) (lt j)⟩
    · cases h1
def backσ (σ0 : L2.St) (is : List Nat) (σ : L2.St) : L2.St := is.foldl (fun s i => match σ0[i]? with
  | some o => s.set i o
  | none => s) σ
theorem backσ_eq {σ0 : L2.St} : ∀ {is : List Nat} {σ : L2.St}, σ.length = σ0.length → (∀ j, j ∉ is → σ[j]? = σ0[j]?) → backσ σ0 is σ = σ0
  | [], σ, hl, h => List.ext_getElem? fun j => h j (by simp)
  | i :: is, σ, hl, h => by
    show backσ σ0 is (match σ0[i]? with
      | some o => σ.set i o
      | none => σ) = σ0
    cases e : σ0[i]? with
    | none =>
      show backσ σ0 is σ = σ0
      refine backσ_eq hl fun j hj => ?_
      by_cases z : j = i
      · subst z
        have : σ0.length ≤ j := List.getElem?_eq_none_iff.mp e
        rw [List.getElem?_eq_none (by omega), e]
      · exact h j (by simp [hj, z])
    | some o =>
      have hi := (List.getElem?_eq_some_iff.mp e).1
      show backσ σ0 is (σ.set i o) = σ0
      refine backσ_eq (by simp [hl]) fun j hj => ?_
      by_cases z : j = i
      · subst z
        show (σ.set j o)[j]? = _
        rw [List.getElem?_set_self (by omega), e]
      · show (σ.set i o)[j]? = _
        rw [List.getElem?_set_ne (fun y => z y.symm)]
        exact h j (by simp [hj, z])
/-- the own slots as they were -/
theorem rest_ok {σ0 : L2.St} : ∀ {is : List Nat} {L A : List Addr} {ρ : Rho} {σ : L2.St} {W : List Addr}, LkR M H σ0 ρ0 is L A → L = [] → Sim M Z ρ σ H W → σ.length = σ0.length → Off Z W A → ∃ W2, Sim M Z (unlock is ρ0 ρ) (backσ σ0 is σ) H W2 ∧ ∀ a ∈ W2, a ∈ W
  | [], _, _, ρ, σ, W, .nil, _, S, hl, off => ⟨W, S, fun _ h => h⟩
  | i :: is, _, _, ρ, σ, W, .cons (s := s) (o := o) (w := w) (as := as) (L := L) (A := A) h1 h2 h3 t, hL, S, hl, off => by
    obtain ⟨rfl, rfl⟩ := List.append_eq_nil_iff.mp hL
    have hi : i < ρ.length := by
      rw [S.length, hl]
      exact (List.getElem?_eq_some_iff.mp h2).1
    obtain ⟨W1, S1, s1⟩ := Sim.give (w' := []) (Z := Z) (S.weak fun a h => h.elim id fun z => (by simp at z)) (List.getElem?_eq_getElem hi) h3 .nil (by simp) fun a h => ⟨by simp, off a (by simp [h])⟩
    have s1' : ∀ a ∈ W1, a ∈ W := fun a h => (s1 a h).elim id fun z => (by simp at z)
    obtain ⟨W2, S2, s2⟩ := rest_ok t rfl S1 (by simp [hl]) (fun a h => ⟨fun z => (off a (by simp [h])).1 (s1' a z), (off a (by simp [h])).2⟩)
    refine ⟨W2, ?_, fun a h => s1' a (s2 a h)⟩
    have e1 : unlock (i :: is) ρ0 ρ = unlock is ρ0 (ρ.set i s) := by
      show is.foldl _ (match ρ0[i]? with
        | some s => ρ.set i s
        | none => ρ) = _
      rw [h1]; rfl
    have e2 : backσ σ0 (i :: is) σ = backσ σ0 is (σ.set i o) := by
      show is.foldl _ (match σ0[i]? with
        | some o => σ.set i o
        | none => σ) = _
      rw [h2]; rfl
    rw [e1, e2]; exact S2
end

/-! ### the block's context -/
def blkS (C : Cst) (scope : Scope) : Cst := { C with sc := scope }
theorem lookup_relS_free {sc : Scope} {names : List (Str × NameKind)} {x : Str} (h : names.lookup x = some .free) :
    (names.map fun (n, k) => if (k == NameKind.free && sc.kind == .function && sc.names.lookup n == some .cell) then (n, NameKind.cell) else (n, k)).lookup x = some .free ∨ (names.map fun (n, k) => if (k == NameKind.free && sc.kind == .function && sc.names.lookup n == some .cell) then (n, NameKind.cell) else (n, k)).lookup x = some .cell := by
  induction names with
  | nil => cases h
  | cons p r ih =>
    obtain ⟨n, k0⟩ := p
    rw [List.lookup_cons] at h
    cases hx : x == n with
    | true =>
      rw [hx] at h
      cases h
      by_cases hc : (NameKind.free == NameKind.free && sc.kind == .function && sc.names.lookup n == some .cell) = true
      · right; simp only [List.map_cons]; rw [if_pos hc]; simp only [List.lookup_cons, hx]
      · left; simp only [List.map_cons]; rw [if_neg hc]; simp only [List.lookup_cons, hx]
    | false =>
      rw [hx] at h
      have ih := ih h
      by_cases hc : (k0 == NameKind.free && sc.kind == .function && sc.names.lookup n == some .cell) = true
      · simp only [List.map_cons]; rw [if_pos hc]; simp only [List.lookup_cons, hx]; exact ih
      · simp only [List.map_cons]; rw [if_neg hc]; simp only [List.lookup_cons, hx]; exact ih
theorem Okx.blk {C : Cst} {n : Nat} {Wx : WX} {X : Cx} (o : Okx C n Wx X) {scope : Scope} {own : List (Str × Nat)} (ok : BlkOk X.N X.env.scope scope own) (s : Shared) (H : Hp) (A : Addr) (cl : List (Str × Addr)) (fp : List Addr) :
    Okx (blkS C scope) n WxF (X.blk s H scope (compEnvC scope cl A X.env) fp) where
  N := o.N
  nd := o.nd
  kind := ok.kind
  loc := fun x h => lookup_relS_keep (by simp) h
  cell := fun x h => lookup_relS_keep (by simp) h
  free := fun x h => lookup_relS_free h
  glo := fun x h => lookup_relS_keep (by simp) h
  fn := fun x h => by show (scope.names.lookup x == some .cell) = true; rw [show scope.names.lookup x = some .cell from h]; rfl
  calm := o.calm
  room := o.room
  tk := fun u s' ⟨a, B, sI, pins, σ, H, cls, d, e, I, nb, up, sky, na, os, ag, w⟩ => w.elim
  po := fun _ _ h => h.elim
  md := ⟨o.md.K, o.md.blt, o.md.gl, o.md.fa, o.md.ca, o.md.na, o.md.cn, o.md.xc, o.md.xi⟩
section
variable {C : Cst} {n : Nat} {Wx : WX} {X : Cx} {q q1 q2 : Bool}
abbrev XB (X : Cx) (scope : Scope) (s : Shared) (H : Hp) (A : Addr) (cl : List (Str × Addr)) (fp : List Addr) : Cx := X.blk s H scope (compEnvC scope cl A X.env) fp
def gB (X : Cx) (scope : Scope) (tg : Expr) : TG := fun v σ H Q => ∀ s H0 A cl fp, WG (XB X scope s H0 A cl fp) tg v σ H Q
def WTs (X : Cx) (ifs : List Expr) : TT := fun σ H Q => ∀ pins s, Inv X pins σ H s → wpAny (model X.prog X.w) X.A (forIn ifs true fun c r => if r = true then do let ok ← isTrue c X.env (eval c X.env); pure (ForInStep.yield ok) else pure (ForInStep.yield r)) (TP X pins σ Q) X.xe s
def tB' (X : Cx) (scope : Scope) (ifs : List Expr) : TT := fun σ H Q => ∀ s H0 A cl fp, WTs (XB X scope s H0 A cl fp) ifs σ H Q
def eB (X : Cx) (scope : Scope) (e : Expr) : TE := fun σ H Q => ∀ s H0 A cl fp, WE (XB X scope s H0 A cl fp) e σ H Q
/-- a clause's tests -/
def GoodTs (C : Cst) (Wx : WX) (X : Cx) (ifs : List Expr) (m : Rho → Out Bool) : Prop := ∀ (Z : Addr → Prop) (ρ : Rho) (σ : L2.St) (H : Hp) (W : List Addr) (Q : Bool → Hp → Prop), Sim C.M Z ρ σ H W → ZT Z H → ResT C.M Wx Z false σ H W (m ρ) Q → WTs X ifs σ H Q
theorem goodTs_nil {ev : Ex → Rho → Out Bool} : GoodTs C Wx X [] (testsL ev []) := fun Z ρ σ H W Q S hz hr => fun pins s I => (pts_nil (X := X)).run pins s σ H Q I (hr H W Post.refl S)
theorem goodTs_one {c : Expr} {x : Ex} {ev : Ex → Rho → Out Bool} (h : GoodT C Wx X c q (ev x)) : GoodTs C Wx X [c] (testsL ev [x]) := by
  intro Z ρ σ H W Q S hz hr
  refine fun pins s I => (pts_one (X := X) (pt_wt)).run pins s σ H Q I (h Z ρ σ H W Q S hz ?_)
  rw [testsL] at hr
  cases hx : ev x ρ with
  | no => rw [hx] at hr; exact hr
  | ex er ρ1 => rw [hx] at hr; exact hr
  | ok b ρ1 =>
    rw [hx] at hr
    simp only [Out.bind_ok] at hr
    cases b with
    | true =>
      have hr' : ResT C.M Wx Z false σ H W (.ok true ρ1) Q := by simpa [testsL] using hr
      exact ResT.weakq (q2 := q) (by simp) hr'
    | false =>
      have hr' : ResT C.M Wx Z false σ H W (.ok false ρ1) Q := by simpa using hr
      exact ResT.weakq (q2 := q) (by simp) hr'
theorem Res.weakq {Z : Addr → Prop} {σ : L2.St} {H0 : Hp} {W0 : List Addr} {out : Out Tok} {Q : VK} (hq : q1 = true → q2 = true) (h : Res C.M Wx Z q1 σ H0 W0 out Q) : Res C.M Wx Z q2 σ H0 W0 out Q := by
  cases out with
  | no => exact h
  | ex er ρ2 => exact h
  | ok b ρ2 => exact fun v H2 g => h v H2 (g.weakq hq)
theorem pg_gB {scope : Scope} {tg : Expr} (s : Shared) (H : Hp) (A : Addr) (cl : List (Str × Addr)) (fp : List Addr) : PG (XB X scope s H A cl fp) tg (gB X scope tg) := ⟨fun pins s' σ H v u Q I r h => h s _ A cl fp pins s' u I r⟩
theorem pts_tB {scope : Scope} {ifs : List Expr} (s : Shared) (H : Hp) (A : Addr) (cl : List (Str × Addr)) (fp : List Addr) : PTs (XB X scope s H A cl fp) ifs (tB' X scope ifs) := ⟨fun pins s' σ H Q I h => h s _ A cl fp pins s' I⟩
theorem pe_eB {scope : Scope} {e : Expr} (s : Shared) (H : Hp) (A : Addr) (cl : List (Str × Addr)) (fp : List Addr) : PE (XB X scope s H A cl fp) e (eB X scope e) := ⟨fun pins s' σ H Q I h => h s _ A cl fp pins s' I⟩
/-- [e for tg in it if ..], behind: what is done with the list -/
theorem lc_gives {tg it elt : Expr} {ifs : List Expr} {scope : Scope} {own : List (Str × Nat)} {T : Tg} {w : Nat} {mL : Rho → Out (List Tok)} {mt : Rho → Out Bool} {me : Rho → Out Tok} (o : Okx C n Wx X)
    (hi : GoodI C Wx X tg it q1 w mL) (hg : ∀ s H A cl fp, GoodG (blkS C scope) (XB X scope s H A cl fp) tg T) (ht : ∀ s H A cl fp, GoodTs (blkS C scope) WxF (XB X scope s H A cl fp) ifs mt) (he : ∀ s H A cl fp, GoodE (blkS C scope) WxF (XB X scope s H A cl fp) elt q2 me)
    {Z : Addr → Prop} {ρ : Rho} {σ : L2.St} {H : Hp} {W : List Addr} {Q : VK} (S : Sim C.M Z ρ σ H W) (hz : ZT Z H)
    (hr : Res C.M Wx Z false σ H W ((mL ρ).bind fun ts ρ1 => match (rds ρ1 ts).bind (itemsW w) with
      | none => .no
      | some xs => if ownOk (own.map (·.2)) (lock (lockOf ts) ρ1) then
          match lcL (asgD (compl (own.map (·.2)) ρ1.length) T) mt me (wipeR (own.map (·.2))) xs [] (wipeR (own.map (·.2)) (lock (lockOf ts) ρ1)) with
          | .ok ys ρ2 => .ok (.lf (.ls ys)) (unlock (lockOf ts) ρ1 (restR (own.map (·.2)) (lock (lockOf ts) ρ1) ρ2))
          | _ => .no
        else .no) Q) : tLc (WI X tg it) (gB X scope tg) (tB' X scope ifs) (eB X scope elt) (own.map (·.2)) σ H Q := by
  refine hi Z ρ σ H W _ S hz ?_
  generalize hown : own.map (·.2) = ow at hr ⊢
  cases hx : mL ρ with
  | no => rw [hx] at hr; exact hr.elim
  | ex er ρ1 => rw [hx] at hr; exact hr
  | ok ts ρ1 =>
    rw [hx] at hr
    simp only [Out.bind_ok] at hr
    cases hl : rds ρ1 ts with
    | none => rw [hl] at hr; exact hr.elim
    | some ls =>
      rw [hl] at hr
      simp only [Option.bind_some] at hr
      cases hw : itemsW w ls with
      | none => rw [hw] at hr; exact hr.elim
      | some xs =>
        rw [hw] at hr
        simp only at hr
        split at hr
        case isFalse => exact hr.elim
        case isTrue hok =>
        refine ⟨ls, xs, hl, hw, fun vs H1 J g isw => ?_⟩
        obtain ⟨Y, B, W', lk⟩ := lk_of hz S.nz g hl
        obtain ⟨A0, lo, oo, olt⟩ := own_ok lk.sim hok
        have slen : ρ1.length = σ.length := by
          have := lk.sim.length
          rw [lock_len] at this; exact this
        cases htot : lcL (asgD (compl ow ρ1.length) T) mt me (wipeR ow) xs [] (wipeR ow (lock (lockOf ts) ρ1)) with
        | no => rw [htot] at hr; exact hr.elim
        | ex er ρ2 => rw [htot] at hr; exact hr.elim
        | ok ys ρe =>
          rw [htot] at hr
          simp only at hr
          intro D hD
          -- the base: the new list stands
          have sm : Same H1 (upd H1 D (.lst [])) := same_upd hD
          have nWD : D ∉ W' := fun z => by obtain ⟨u, e, _⟩ := lk.sim.own D z; rw [hD] at e; cases e
          have nZD : ¬ orL Z Y D := fun z => by obtain ⟨u, e, _⟩ := lk.zt D z; rw [hD] at e; cases e
          let Z1 : Addr → Prop := orL (orL Z Y) [D]
          obtain ⟨Sf, _, _⟩ := lk.sim.fresh (o := .lst []) lk.zt hD
          obtain ⟨Ww, Sw, sw⟩ := Sf.wipe ow
          obtain ⟨Ww2, Sw2, sw2⟩ := Sw.wipe ow
          have ww : L2.wipe (L2.wipe σ ow) ow = L2.wipe σ ow := wipe_ext (wipe_length _ _) fun i hv _ => wipe_out hv
          rw [ww] at Sw2
          have tB := (lk.co H1 fun b o e _ _ => e).trk
          have nBD : ∀ b ∈ B, b ≠ D := fun b hb e => by subst e; obtain ⟨u, e⟩ := tB _ hb; rw [hD] at e; cases e
          refine turns_ok (M := C.M) (Z := Z1) (D := D) (Hb := upd H1 D (.lst [])) (Wb := W') (B := B) (acc0 := []) (ys := ys) (ρ0 := wipeR ow (lock (lockOf ts) ρ1)) (ρe := ρe) (asg := asgD (compl ow ρ1.length) T) (test := mt) (elt := me) isw ?_ ?_ ?_ ?_ (.inr (by simp)) ⟨[], upd_same⟩ ?_ ?_ ?_ ⟨Ww2, [], [], Sw2, PostD.refl.sub fun a h => sw a (sw2 a h), upd_same, .nil, by intro a ha; simp at ha⟩ htot ?_
          · exact fun H' k => lk.co H' fun b o e h1 h2 => k b o (sm _ _ e) h1 fun z => by subst z; rw [hD] at e; cases e
          · exact fun b hb => ⟨(lk.off b hb).1, fun z => z.elim (lk.off b hb).2 fun z => nBD b hb (by simpa using z)⟩
          · intro a ha
            rcases ha with ha | ha
            · obtain ⟨u, e, h⟩ := lk.zt a ha; exact ⟨u, sm _ _ e, h⟩
            · simp at ha; subst ha; exact ⟨_, upd_same, rfl⟩
          · exact fun a ha z => z.elim (lk.sim.nz a ha) fun z => nWD (by simp at z; rw [← z]; exact ha)
          · intro Z' ρa ρb σa Ha Wa as v x Q' Sa hla ra oa ea k s H0 A cl fp
            exact hg s H0 A cl fp _ Z' ρa ρb σa Ha Wa as v x Q' Sa ra oa ea fun σ2 W2 S2 sub2 kp => k σ2 W2 S2 sub2 (wipe_compl (slen.trans hla.symm) (by rw [← S2.length, asgD_len ea, Sa.length]) kp)
          · exact fun Z' ρa σa Ha Wa Q' Sa za ra s H0 A cl fp => ht s H0 A cl fp Z' ρa σa Ha Wa Q' Sa za ra
          · exact fun Z' ρa σa Ha Wa Q' Sa za ra s H0 A cl fp => he s H0 A cl fp Z' ρa σa Ha Wa Q' Sa za (Res.weakq (by simp) ra)
          · rintro H' ⟨We, vacc, as, Se, Pe, eD, re, oe⟩
            -- back in the def
            have tA0 := lo.trk
            have nA0 : ∀ a ∈ A0, a ≠ D := fun a ha e => by subst e; obtain ⟨u, e⟩ := tA0 _ ha; rw [hD] at e; cases e
            have keepA : ∀ a ∈ A0, ∀ o, H1 a = some o → H' a = some o := fun a ha o e => Pe.keep a o (sm _ _ e) (oo a ha).1 (nA0 a ha)
            have owW := lk.sim.own
            have st0 : Stay H1 H' ([] ++ A0) := ⟨fun a z e => Pe.keep a _ (sm _ _ e) (fun h => (by obtain ⟨o, e1, e2⟩ := owW a h; rw [e] at e1; cases e1; cases e2)) (fun h => by subst h; rw [hD] at e; cases e), fun a o u e => Pe.keep a _ (sm _ _ e) (fun h => (by obtain ⟨o, e1, e2⟩ := owW a h; rw [e] at e1; cases e1; cases e2)) (fun h => by subst h; rw [hD] at e; cases e), fun a ha o e => keepA a (by simpa using ha) o e⟩
            have lo' : LkR C.M H' σ (lock (lockOf ts) ρ1) ow [] A0 := lo.stay st0 fun _ _ => rfl
            have offA : Off Z1 We A0 := fun a ha => by
              refine ⟨fun z => ?_, fun z => z.elim (oo a ha).2 fun z => nA0 a ha (by simpa using z)⟩
              rcases Pe.new a z with y | y
              · exact (oo a ha).1 y
              · obtain ⟨u, e⟩ := tA0 a ha
                rw [sm _ _ e] at y; cases y
            obtain ⟨W2, S2, sub2⟩ := rest_ok lo' rfl Se (wipe_length _ _) offA
            rw [backσ_eq (wipe_length _ _) (fun j hj => wipe_out hj)] at S2
            have P2 : Post false H1 W' H' (W2 ++ [D]) := ⟨fun b o e hb => Pe.keep b o (sm _ _ e) hb fun z => (by subst z; rw [hD] at e; cases e), fun b o e => Pe.trk b o (sm _ _ e), fun b hb => by
              rcases List.mem_append.mp hb with h | h
              · rcases Pe.new b (sub2 b h) with y | y
                · exact .inl y
                · cases e : H1 b with
                  | none => exact .inr rfl
                  | some o => rw [sm _ _ e] at y; cases y
              · simp at h; subst h; exact .inr hD, fun h => nomatch h⟩
            obtain ⟨W3, P3, S3, sub3⟩ := lk.leave P2 S2 Kp.refl
            refine hr (.ref D) H' ⟨W3, [D], as, P3, S3, .lf (.ls eD re), ⟨fun a ha => ⟨fun z => ?_, fun z => (oe a ha).2 (.inl (.inl z)), fun z => (oe a ha).2 (.inr z)⟩, by simp, fun a ha => ?_⟩⟩
            · rcases sub3 a z with y | y
              · exact (oe a ha).1 (sub2 a y)
              · exact (oe a ha).2 (.inl (.inr y))
            · simp at ha; subst ha
              refine ⟨fun z => ?_, fun z => nZD (.inl z)⟩
              rcases sub3 _ z with y | y
              · exact S2.nz _ y (.inr (by simp))
              · exact nZD (.inr y)
theorem good_lc {tg it elt : Expr} {ifs : List Expr} {scope : Scope} {own : List (Str × Nat)} {pos : Pos} {T : Tg} {w : Nat} {mL : Rho → Out (List Tok)} {mt : Rho → Out Bool} {me : Rho → Out Tok} (o : Okx C n Wx X) (ok : BlkOk X.N X.env.scope scope own) (hs : ∀ x, foldedSetIterable it X.env x = pure x)
    (hi : GoodI C Wx X tg it q1 w mL) (hg : ∀ s H A cl fp, GoodG (blkS C scope) (XB X scope s H A cl fp) tg T) (ht : ∀ s H A cl fp, GoodTs (blkS C scope) WxF (XB X scope s H A cl fp) ifs mt) (he : ∀ s H A cl fp, GoodE (blkS C scope) WxF (XB X scope s H A cl fp) elt q2 me) :
    GoodE C Wx X (.ListComp elt [⟨tg, it, ifs, 0⟩] scope pos) false (fun ρ => (mL ρ).bind fun ts ρ1 => match (rds ρ1 ts).bind (itemsW w) with
      | none => .no
      | some xs => if ownOk (own.map (·.2)) (lock (lockOf ts) ρ1) then
          match lcL (asgD (compl (own.map (·.2)) ρ1.length) T) mt me (wipeR (own.map (·.2))) xs [] (wipeR (own.map (·.2)) (lock (lockOf ts) ρ1)) with
          | .ok ys ρ2 => .ok (.lf (.ls ys)) (unlock (lockOf ts) ρ1 (restR (own.map (·.2)) (lock (lockOf ts) ρ1) ρ2))
          | _ => .no
        else .no) := fun Z ρ σ H W Q S hz hr =>
  we_of (pe_lc o.calm o.nd pi_wi ok pg_gB pts_tB pe_eB hs) (lc_gives o hi hg ht he S hz hr)

theorem eval_res {Z : Addr → Prop} {pin : List Nat} {σ : L2.St} {H : Hp} {W : List Addr} {D : Ends} {out : Out Tok} {f : Tok → Rho → Out Flow} {Q : VK} (hr : ResS C.M Wx Z pin σ H W (out.bind f) D)
    (k : ∀ t ρ1 v H1, Got C.M Z q H W t ρ1 σ v H1 → ResS C.M Wx Z pin σ H W (f t ρ1) D → Q v H1) : Res C.M Wx Z q σ H W out Q := by
  cases out with
  | no => exact hr
  | ex er ρ1 => exact ExOk.ofS hr
  | ok t ρ1 => exact fun v H1 g => k t ρ1 v H1 g hr
/-- x = [e for ..], on one line -/
theorem good_setLc {i : Nat} {y : Str} {py : Pos} {tg it elt : Expr} {ifs : List Expr} {scope : Scope} {own : List (Str × Nat)} {pos spos : Pos} {pin : List Nat} {T : Tg} {w : Nat} {mL : Rho → Out (List Tok)} {mt : Rho → Out Bool} {me : Rho → Out Tok} (o : Okx C n Wx X) (hy : C.N[i]? = some y) (hyl : C.sc.names.lookup y = some .local)
    (hsw : swapsWith (.ListComp elt [⟨tg, it, ifs, 0⟩] scope pos) (some (.Name y py)) spos.line X.env = pure true) (ok : BlkOk X.N X.env.scope scope own) (hs : ∀ x, foldedSetIterable it X.env x = pure x)
    (hi : GoodI C Wx X tg it q1 w mL) (hg : ∀ s H A cl fp, GoodG (blkS C scope) (XB X scope s H A cl fp) tg T) (ht : ∀ s H A cl fp, GoodTs (blkS C scope) WxF (XB X scope s H A cl fp) ifs mt) (he : ∀ s H A cl fp, GoodE (blkS C scope) WxF (XB X scope s H A cl fp) elt q2 me) :
    GoodS C Wx X (.Assign [.Name y py] (.ListComp elt [⟨tg, it, ifs, 0⟩] scope pos) spos) pin (fun ρ => ((mL ρ).bind fun ts ρ1 => match (rds ρ1 ts).bind (itemsW w) with
      | none => .no
      | some xs => if ownOk (own.map (·.2)) (lock (lockOf ts) ρ1) then
          match lcL (asgD (compl (own.map (·.2)) ρ1.length) T) mt me (wipeR (own.map (·.2))) xs [] (wipeR (own.map (·.2)) (lock (lockOf ts) ρ1)) with
          | .ok ys ρ2 => .ok (.lf (.ls ys)) (unlock (lockOf ts) ρ1 (restR (own.map (·.2)) (lock (lockOf ts) ρ1) ρ2))
          | _ => .no
        else .no).bind fun k ρ1 => ofOpt ((asgT pin (.nm i) k ρ1).map fun ρ2 => (.nx, ρ2))) := by
  intro Z ρ σ H W D S hz hr
  refine ws_of (ps_setLc o.calm o.nd (by rw [o.N]; exact hy) (o.loc y hyl) hsw pi_wi ok pg_gB pts_tB pe_eB hs) ?_
  refine lc_gives o hi hg ht he S hz (eval_res hr fun t ρ1 v H1 g hr => ?_)
  cases ea : asgN pin i t ρ1 with
  | none => simp [asgT, ea] at hr; exact hr.elim
  | some ρ2 =>
    simp [asgT, ea] at hr
    obtain ⟨W2, s2⟩ := asg_gives g ea
    exact hr _ _ _ s2
end
end DL

set_option maxRecDepth 100000
set_option maxHeartbeats 4000000
/-! DL23: comprehensions of two clauses. -/
namespace DL
open PySem PySem.Spec L2

section
variable {M : Md} {Z : Addr → Prop} {D : Addr} {Hb H H' : Hp} {Wb W W' Y : List Addr} {ρ : Rho} {σ : L2.St} {q : Bool}
theorem PostD.comp (a : PostD D Hb Wb H (W ++ Y)) (b : PostD D H W H' W') : PostD D Hb Wb H' (W' ++ Y) where
  keep := fun c o e h1 h2 => b.keep c o (a.keep c o e h1 h2) (fun z => (a.new c (by simp [z])).elim h1 fun y => (by rw [y] at e; cases e)) h2
  trk := fun c o e => let ⟨o', e'⟩ := a.trk c o e; b.trk c o' e'
  new := fun c hc => by
    rcases List.mem_append.mp hc with h | h
    · rcases b.new c h with z | z
      · exact a.new c (by simp [z])
      · cases e : Hb c with
        | none => exact .inr rfl
        | some o => obtain ⟨o', e'⟩ := a.trk c o e; rw [z] at e'; cases e'
    · exact a.new c (by simp [h])
theorem lock_keep : ∀ {is : List Nat} {ρ : Rho} {i : Nat}, ρ[i]? = some .lk → (lock is ρ)[i]? = some .lk
  | [], _, _, h => h
  | j :: is, ρ, i, h => by
    show (lock is (ρ.set j .lk))[i]? = some .lk
    refine lock_keep ?_
    by_cases z : j = i
    · subst z; rw [List.getElem?_set_self (List.getElem?_eq_some_iff.mp h).1]
    · rw [List.getElem?_set_ne z]; exact h
theorem lock_at : ∀ {is : List Nat} {ρ : Rho} {i : Nat}, i ∈ is → i < ρ.length → (lock is ρ)[i]? = some .lk
  | j :: is, ρ, i, h, hl => by
    show (lock is (ρ.set j .lk))[i]? = some .lk
    rcases List.mem_cons.mp h with rfl | h
    · exact lock_keep (by rw [List.getElem?_set_self hl])
    · exact lock_at h (by simpa using hl)
theorem ownOk_at {own : List Nat} {i : Nat} (h : ownOk own ρ = true) (hi : i ∈ own) : ρ[i]? ≠ some .lk := fun e => by
  unfold ownOk at h
  rw [List.all_eq_true] at h
  have := h i hi
  rw [e] at this
  cases this
/-- the outer turns -/
theorem turns2_ok {J : It} {xs : List PyData} {ls : List Fl} {vs0 : List V} {B : List Addr} {own : List Nat} {H0 : Hp} {g : TG} {inT : L2.St → Hp → (Hp → Prop) → Prop} {asg : PyData → Rho → Option Rho} {inner : List PyData → Rho → Out (List PyData)} {acc0 ys : List PyData} {ρ0 ρe : Rho} {Qd : Hp → Prop}
    (isw : IsW M.K ls vs0 xs J) (hco : ∀ H, (∀ b o, Hb b = some o → b ∉ Wb → b ≠ D → H b = some o) → CosR M.K H ls vs0 B) (offB : Off Z Wb B)
    (hg : ∀ (Z : Addr → Prop) (ρ ρ' : Rho) (σ' : L2.St) (H : Hp) (W as : List Addr) (v : V) (x : PyData) (Q : L2.St → Hp → Prop), Sim M Z ρ σ' H W → σ'.length = σ.length → RepD M.K H v x as → Off Z W as → asg x ρ = some ρ' → (∀ σ2 W2, Sim M Z ρ' σ2 H W2 → (∀ a ∈ W2, a ∈ W) → L2.wipe σ2 own = L2.wipe σ' own → σ2.length = σ'.length → Q σ2 H) → g v σ' H Q)
    (hin : ∀ σ2 ρ1 H acc acc' ρ2 (Nx : Hp → Prop), σ2.length = σ.length → AccR M Z D Hb Wb ρ1 σ2 H acc → inner acc ρ1 = .ok acc' ρ2 → (∀ H' σ3, σ3.length = σ.length → L2.wipe σ3 own = L2.wipe σ2 own → AccR M Z D Hb Wb ρ2 σ3 H' acc' → Nx H') → inT σ2 H Nx)
    (start : AccR M Z D Hb Wb (wipeR own ρ0) (L2.wipe σ own) H0 acc0) (total : lcO asg inner (wipeR own) xs acc0 ρ0 = .ok ys ρe) (fin : ∀ H, AccR M Z D Hb Wb (wipeR own ρe) (L2.wipe σ own) H ys → Qd H) :
    ∃ W : Nat → Nat → Hp → Prop, (∃ m, W 0 m H0) ∧ ∀ i m H, W i m H →
      (J.stop i H ∧ Qd H) ∨ (J.go i H ∧ ∃ Nx : Hp → Prop, (∀ H', Nx H' → ∃ m', m' < m ∧ W (i + 1) m' H') ∧ ∀ x H', J.yld i H x H' → g x (L2.wipe σ own) H' fun σ2 H2 => L2.wipe σ2 own = L2.wipe σ own ∧ inT σ2 H2 Nx) := by
  let Pv : Nat → Hp → Prop := fun i H => ∃ ρi acc, AccR M Z D Hb Wb (wipeR own ρi) (L2.wipe σ own) H acc ∧ lcO asg inner (wipeR own) (xs.drop i) acc ρi = .ok ys ρe
  have ww : ∀ σ' : L2.St, L2.wipe (L2.wipe σ' own) own = L2.wipe σ' own := fun σ' => wipe_ext (wipe_length _ _) fun i hv _ => wipe_out hv
  refine ⟨fun i m H => m = xs.length - i ∧ i ≤ xs.length ∧ Pv i H, ⟨xs.length, by simp, Nat.zero_le _, ρ0, acc0, start, by rw [List.drop_zero]; exact total⟩, ?_⟩
  rintro i m H ⟨rfl, hi, ρi, acc, ar, tl⟩
  obtain ⟨W, vacc, as, S, P, eD, ra, oa⟩ := ar.ex
  have cosH : CosR M.K H ls vs0 B := hco H P.keep
  by_cases hlt : i < xs.length
  · refine .inr ⟨isw.goes i H hlt ⟨B, cosH⟩, Pv (i + 1), fun H' p' => ⟨xs.length - (i + 1), by omega, rfl, hlt, p'⟩, fun x H1 y => ?_⟩
    obtain ⟨sm, yl⟩ := isw.yields i H x H1 hlt ⟨B, cosH⟩ y
    obtain ⟨d, as', h1, h2, h3⟩ := yl B cosH
    have hd : xs.drop i = d :: xs.drop (i + 1) := by
      rw [List.drop_eq_getElem_cons hlt]
      have : xs[i] = d := by
        have := List.getElem?_eq_getElem hlt
        rw [h1] at this; cases this; rfl
      rw [this]
    rw [hd, lcO] at tl
    have S1 : Sim M Z (wipeR own ρi) (L2.wipe σ own) H1 W := S.same sm
    have tB := (hco Hb fun b o e _ _ => e).trk
    have offi : Off Z W as' := fun a ha => by
      have ha' := h3 a ha
      refine ⟨fun z => ?_, (offB a ha').2⟩
      rcases P.new a z with y | y
      · exact (offB a ha').1 y
      · obtain ⟨o, e⟩ := tB a ha'; rw [y] at e; cases e
    cases ea : asg d (wipeR own ρi) with
    | none => rw [ea] at tl; cases tl
    | some ρ1 =>
      rw [ea] at tl
      simp only at tl
      refine hg Z _ ρ1 _ H1 W as' x d _ S1 (wipe_length _ _) h2 offi ea fun σ2 W2 S2 sub2 ew hl2 => ?_
      have ew' : L2.wipe σ2 own = L2.wipe σ own := ew.trans (ww σ)
      have hl2' : σ2.length = σ.length := hl2.trans (wipe_length _ _)
      refine ⟨ew', ?_⟩
      have ar2 : AccR M Z D Hb Wb ρ1 σ2 H1 acc := ⟨W2, vacc, as, S2, (P.same sm).sub sub2, sm _ _ eD, ra.stay (Stay.ofSame sm (A := as)) fun _ h => h, oa.anti sub2⟩
      match hx : inner acc ρ1, tl with
      | .no, tl => cases tl
      | .ex e ρ2, tl => cases tl
      | .ok acc' ρ2, tl =>
        refine hin σ2 ρ1 H1 acc acc' ρ2 _ hl2' ar2 hx fun H' σ3 hl3 ew3 ar3 => ?_
        obtain ⟨W3, va3, as3, S3, P3, e3, r3, o3⟩ := ar3.ex
        obtain ⟨W4, S4, s4⟩ := S3.wipe own
        rw [ew3, ew'] at S4
        exact ⟨ρ2, acc', ⟨W4, va3, as3, S4, P3.sub s4, e3, r3, o3.anti s4⟩, tl⟩
  · have e : i = xs.length := by omega
    subst e
    rw [List.drop_length, lcO] at tl
    cases tl
    exact .inl ⟨isw.stops H ⟨B, cosH⟩, fin H ar⟩
end
section
variable {C : Cst} {n : Nat} {Wx : WX} {X : Cx} {q q1 q2 q3 : Bool}
def wB (X : Cx) (scope : Scope) (tg it : Expr) : TI := fun σ H R => ∀ s H0 A cl fp, WI (XB X scope s H0 A cl fp) tg it σ H R
theorem pi_wB {scope : Scope} {tg it : Expr} (s : Shared) (H : Hp) (A : Addr) (cl : List (Str × Addr)) (fp : List Addr) : PI (XB X scope s H A cl fp) tg it (wB X scope tg it) := ⟨fun pins s' σ H R I h => h s _ A cl fp pins s' I⟩
/-- the inner clause's run -/
def inR (w2 : Nat) (own2 : List Nat) (len : Nat) (T2 : Tg) (mL2 : Rho → Out (List Tok)) (mt : Rho → Out Bool) (me : Rho → Out Tok) : List PyData → Rho → Out (List PyData) := fun acc ρ2 => match mL2 ρ2 with
  | .ok ts2 ρ3 => match (rds ρ3 ts2).bind (itemsW w2) with
    | some xs2 => if ownOk own2 (lock (lockOf ts2) ρ3) then
        match lcL (asgD (compl own2 len) T2) mt me (wipeR own2) xs2 acc (lock (lockOf ts2) ρ3) with
        | .ok acc' ρ4 => .ok acc' (unlock (lockOf ts2) ρ3 (wipeR own2 ρ4))
        | _ => .no
      else .no
    | none => .no
  | _ => .no
theorem lc2_gives {tg it tg1 it1 elt : Expr} {ifs : List Expr} {scope : Scope} {own : List (Str × Nat)} {own2 : List Nat} {T T2 : Tg} {w w2 : Nat} {mL mL2 : Rho → Out (List Tok)} {mt : Rho → Out Bool} {me : Rho → Out Tok} (o : Okx C n Wx X) (hv : ∀ i ∈ own2, i ∈ own.map (·.2))
    (hi : GoodI C Wx X tg it q1 w mL) (hg : ∀ s H A cl fp, GoodG (blkS C scope) (XB X scope s H A cl fp) tg T) (hi1 : ∀ s H A cl fp, GoodI (blkS C scope) WxF (XB X scope s H A cl fp) tg1 it1 q3 w2 mL2) (hg1 : ∀ s H A cl fp, GoodG (blkS C scope) (XB X scope s H A cl fp) tg1 T2)
    (ht : ∀ s H A cl fp, GoodTs (blkS C scope) WxF (XB X scope s H A cl fp) ifs mt) (he : ∀ s H A cl fp, GoodE (blkS C scope) WxF (XB X scope s H A cl fp) elt q2 me)
    {Z : Addr → Prop} {ρ : Rho} {σ : L2.St} {H : Hp} {W : List Addr} {Q : VK} (S : Sim C.M Z ρ σ H W) (hz : ZT Z H)
    (hr : Res C.M Wx Z false σ H W ((mL ρ).bind fun ts ρ1 => match (rds ρ1 ts).bind (itemsW w) with
      | none => .no
      | some xs => if ownOk (own.map (·.2)) (lock (lockOf ts) ρ1) then
          match lcO (asgD (compl (own.map (·.2)) ρ1.length) T) (inR w2 own2 ρ1.length T2 mL2 mt me) (wipeR (own.map (·.2))) xs [] (wipeR (own.map (·.2)) (lock (lockOf ts) ρ1)) with
          | .ok ys ρ2 => .ok (.lf (.ls ys)) (unlock (lockOf ts) ρ1 (restR (own.map (·.2)) (lock (lockOf ts) ρ1) ρ2))
          | _ => .no
        else .no) Q) : tLc2 (WI X tg it) (gB X scope tg) tYes (wB X scope tg1 it1) (gB X scope tg1) (tB' X scope ifs) (eB X scope elt) (own.map (·.2)) own2 σ H Q := by
  refine hi Z ρ σ H W _ S hz ?_
  generalize hown : own.map (·.2) = ow at hr hv ⊢
  cases hx : mL ρ with
  | no => rw [hx] at hr; exact hr.elim
  | ex er ρ1 => rw [hx] at hr; exact hr
  | ok ts ρ1 =>
    rw [hx] at hr
    simp only [Out.bind_ok] at hr
    cases hl : rds ρ1 ts with
    | none => rw [hl] at hr; exact hr.elim
    | some ls =>
      rw [hl] at hr
      simp only [Option.bind_some] at hr
      cases hw : itemsW w ls with
      | none => rw [hw] at hr; exact hr.elim
      | some xs =>
        rw [hw] at hr
        simp only at hr
        split at hr
        case isFalse => exact hr.elim
        case isTrue hok =>
        refine ⟨ls, xs, hl, hw, fun vs H1 J g isw => ?_⟩
        obtain ⟨Y, B, W', lk⟩ := lk_of hz S.nz g hl
        obtain ⟨A0, lo, oo, olt⟩ := own_ok lk.sim hok
        have slen : ρ1.length = σ.length := by
          have := lk.sim.length
          rw [lock_len] at this; exact this
        cases htot : lcO (asgD (compl ow ρ1.length) T) (inR w2 own2 ρ1.length T2 mL2 mt me) (wipeR ow) xs [] (wipeR ow (lock (lockOf ts) ρ1)) with
        | no => rw [htot] at hr; exact hr.elim
        | ex er ρ2 => rw [htot] at hr; exact hr.elim
        | ok ys ρe =>
          rw [htot] at hr
          simp only at hr
          intro D hD
          have sm : Same H1 (upd H1 D (.lst [])) := same_upd hD
          have nWD : D ∉ W' := fun z => by obtain ⟨u, e, _⟩ := lk.sim.own D z; rw [hD] at e; cases e
          have nZD : ¬ orL Z Y D := fun z => by obtain ⟨u, e, _⟩ := lk.zt D z; rw [hD] at e; cases e
          let Z1 : Addr → Prop := orL (orL Z Y) [D]
          have hDZ : Z1 D := .inr (by simp)
          obtain ⟨Sf, _, _⟩ := lk.sim.fresh (o := .lst []) lk.zt hD
          obtain ⟨Ww, Sw, sw⟩ := Sf.wipe ow
          obtain ⟨Ww2, Sw2, sw2⟩ := Sw.wipe ow
          have ww : L2.wipe (L2.wipe σ ow) ow = L2.wipe σ ow := wipe_ext (wipe_length _ _) fun i hv _ => wipe_out hv
          rw [ww] at Sw2
          have tB := (lk.co H1 fun b o e _ _ => e).trk
          have nBD : ∀ b ∈ B, b ≠ D := fun b hb e => by subst e; obtain ⟨u, e⟩ := tB _ hb; rw [hD] at e; cases e
          have ztb : ZT Z1 (upd H1 D (.lst [])) := by
            intro a ha
            rcases ha with ha | ha
            · obtain ⟨u, e, h⟩ := lk.zt a ha; exact ⟨u, sm _ _ e, h⟩
            · simp at ha; subst ha; exact ⟨_, upd_same, rfl⟩
          have nzb : ∀ a ∈ W', ¬ Z1 a := fun a ha z => z.elim (lk.sim.nz a ha) fun z => nWD (by simp at z; rw [← z]; exact ha)
          refine turns2_ok (M := C.M) (Z := Z1) (D := D) (Hb := upd H1 D (.lst [])) (Wb := W') (B := B) (acc0 := []) (ys := ys) (ρ0 := wipeR ow (lock (lockOf ts) ρ1)) (ρe := ρe) (asg := asgD (compl ow ρ1.length) T) (inner := inR w2 own2 ρ1.length T2 mL2 mt me)
            (inT := fun σ2 H3 Nx => wB X scope tg1 it1 σ2 H3 fun J1 H4 => ∃ W1 : Nat → Nat → Hp → Prop, (∃ m, W1 0 m H4) ∧ ∀ j k H, W1 j k H →
              (J1.stop j H ∧ Nx H) ∨ (J1.go j H ∧ ∃ Nx1 : Hp → Prop, (∀ H', Nx1 H' → ∃ k', k' < k ∧ W1 (j + 1) k' H') ∧ ∀ x H', J1.yld j H x H' → gB X scope tg1 x (L2.wipe σ2 own2) H' fun σ3 H5 => L2.wipe σ3 own2 = L2.wipe σ2 own2 ∧ tB' X scope ifs σ3 H5 fun b H6 =>
                if b = true then eB X scope elt σ3 H6 fun y H7 => ∃ acc, H7 D = some (.lst acc) ∧ acc.length < sizeLine ∧ Nx1 (upd H7 D (.lst (acc ++ [y]))) else Nx1 H6))
            isw ?_ ?_ ?_ ?_ ⟨Ww2, [], [], Sw2, PostD.refl.sub fun a h => sw a (sw2 a h), upd_same, .nil, by intro a ha; simp at ha⟩ htot ?_
          · exact fun H' k => lk.co H' fun b o e h1 h2 => k b o (sm _ _ e) h1 fun z => by subst z; rw [hD] at e; cases e
          · exact fun b hb => ⟨(lk.off b hb).1, fun z => z.elim (lk.off b hb).2 fun z => nBD b hb (by simpa using z)⟩
          · intro Z' ρa ρb σa Ha Wa as v x Q' Sa hla ra oa ea k s H0 A cl fp
            exact hg s H0 A cl fp _ Z' ρa ρb σa Ha Wa as v x Q' Sa ra oa ea fun σ2 W2 S2 sub2 kp => k σ2 W2 S2 sub2 (wipe_compl (slen.trans hla.symm) (by rw [← S2.length, asgD_len ea, Sa.length]) kp) (by rw [← S2.length, asgD_len ea, Sa.length])
          · -- the inner clause
            intro σ2 ρ2 H3 acc acc' ρ3' Nx hl2 ar hin hNx s0 H00 A0' cl0 fp0
            obtain ⟨W3, vacc, as, S3, P3, eD3, ra3, oa3⟩ := ar.ex
            have hz3 : ZT Z1 H3 := fun a ha => by
              obtain ⟨o, e, ho⟩ := ztb a ha
              by_cases h : a = D
              · subst h; exact ⟨_, eD3, rfl⟩
              · exact ⟨o, P3.keep a o e (fun z => nzb a z ha) h, ho⟩
            refine hi1 s0 H00 A0' cl0 fp0 Z1 ρ2 σ2 H3 W3 _ S3 hz3 ?_
            unfold inR at hin
            cases hy : mL2 ρ2 with
            | no => rw [hy] at hin; cases hin
            | ex er ρx => rw [hy] at hin; cases hin
            | ok ts2 ρ3 =>
              rw [hy] at hin
              simp only at hin
              cases hl2' : rds ρ3 ts2 with
              | none => rw [hl2'] at hin; cases hin
              | some ls2 =>
                rw [hl2'] at hin
                simp only [Option.bind_some] at hin
                cases hw2 : itemsW w2 ls2 with
                | none => rw [hw2] at hin; cases hin
                | some xs2 =>
                  rw [hw2] at hin
                  simp only at hin
                  split at hin
                  case isFalse => cases hin
                  case isTrue hok2 =>
                  cases htot2 : lcL (asgD (compl own2 ρ1.length) T2) mt me (wipeR own2) xs2 acc (lock (lockOf ts2) ρ3) with
                  | no => rw [htot2] at hin; cases hin
                  | ex er ρx => rw [htot2] at hin; cases hin
                  | ok acc2 ρ4 =>
                    rw [htot2] at hin
                    cases hin
                    refine ⟨ls2, xs2, hl2', hw2, fun vs2 H4 J1 g2 isw2 => ?_⟩
                    obtain ⟨Y2, B2, W4, lk2⟩ := lk_of hz3 S3.nz g2 hl2'
                    have slen2 : ρ3.length = σ2.length := by
                      have := lk2.sim.length
                      rw [lock_len] at this; exact this
                    have eD4 : H4 D = some (.lst vacc) := lk2.post.keep _ _ eD3 fun z => S3.nz _ z hDZ
                    have ra4 : RepDs C.M.K H4 vacc acc as := ra3.stay (lk2.post.stay S3.own (A := as) fun a h => (oa3 a h).1) fun _ h => h
                    have tas := ra3.trk
                    have oa4 : Off (orL Z1 Y2) W4 as := fun a ha => by
                      have nf : a ∈ W4 ++ Y2 → False := fun z => by
                        rcases lk2.post.new a z with y | y
                        · exact (oa3 a ha).1 y
                        · obtain ⟨u, e⟩ := tas a ha; rw [y] at e; cases e
                      exact ⟨fun z => nf (by simp [z]), fun z => z.elim (oa3 a ha).2 fun z => nf (by simp [z])⟩
                    obtain ⟨W5, S5, s5⟩ := lk2.sim.wipe own2
                    refine turns_ok (M := C.M) (Z := orL Z1 Y2) (D := D) (Hb := H4) (Wb := W4) (B := B2) (acc0 := acc) (ys := acc') (ρ0 := lock (lockOf ts2) ρ3) (ρe := ρ4) (asg := asgD (compl own2 ρ1.length) T2) (test := mt) (elt := me) isw2 ?_ lk2.off lk2.zt lk2.sim.nz (.inl hDZ) ⟨vacc, eD4⟩ ?_ ?_ ?_ ⟨W5, vacc, as, S5, PostD.refl.sub s5, eD4, ra4, oa4.anti s5⟩ htot2 ?_
                    · exact fun H' k => lk2.co H' fun b o e h1 h2 => k b o e h1 fun z => h2 (by rw [z]; exact hDZ)
                    · intro Z' ρa ρb σa Ha Wa as v x Q' Sa hla ra oa ea k s H0 A cl fp
                      exact hg1 s H0 A cl fp _ Z' ρa ρb σa Ha Wa as v x Q' Sa ra oa ea fun σ2 W2 S2 sub2 kp => k σ2 W2 S2 sub2 (wipe_compl (by rw [hla, hl2]; exact slen) (by rw [← S2.length, asgD_len ea, Sa.length]) kp)
                    · exact fun Z' ρa σa Ha Wa Q' Sa za ra s H0 A cl fp => ht s H0 A cl fp Z' ρa σa Ha Wa Q' Sa za ra
                    · exact fun Z' ρa σa Ha Wa Q' Sa za ra s H0 A cl fp => he s H0 A cl fp Z' ρa σa Ha Wa Q' Sa za (Res.weakq (by simp) ra)
                    · rintro H' ⟨We, vacce, ase, Se, Pe, eDe, re, oe⟩
                      have kp2 : Kp (lockOf ts2) σ2 (L2.wipe σ2 own2) := fun i hi' => wipe_out fun z => ownOk_at hok2 z (by
                        have : i < ρ3.length := by
                          obtain ⟨_, _, _, _, _, r0, _⟩ := g2.ex
                          rw [slen2]; exact lockOf_lt r0 i hi'
                        exact lock_at hi' this)
                      obtain ⟨W6, S6, sub6⟩ := lk2.leave0 (wt := []) (fun b o e h1 h2 => Pe.keep b o e h1 fun z => h2 (by rw [z]; exact hDZ)) (fun a ha => Pe.new a (by simpa using ha)) (Se.weak fun a h => h.elim id fun z => (by simp at z)) kp2
                      have PP : PostD D (upd H1 D (.lst [])) W' H' (We ++ Y2) := (P3.step lk2.post).comp Pe
                      refine hNx H' (L2.wipe σ2 own2) ((wipe_length _ _).trans hl2) (wipe_ext (wipe_length _ _) fun i hv' _ => wipe_out fun z => hv' (hv i z)) ⟨W6, vacce, ase, S6.weak fun a h => .inl h, PP.sub fun a h => ?_, eDe, re, fun a ha => ⟨fun z => ?_, fun z => (oe a ha).2 (.inl z)⟩⟩
                      · exact (sub6 a h).elim (fun z => by simp [z]) fun z => by simp [z]
                      · exact (sub6 a z).elim (oe a ha).1 fun z => (oe a ha).2 (.inr z)
          · rintro H' ⟨We, vacc, as, Se, Pe, eD, re, oe⟩
            have tA0 := lo.trk
            have nA0 : ∀ a ∈ A0, a ≠ D := fun a ha e => by subst e; obtain ⟨u, e⟩ := tA0 _ ha; rw [hD] at e; cases e
            have keepA : ∀ a ∈ A0, ∀ o, H1 a = some o → H' a = some o := fun a ha o e => Pe.keep a o (sm _ _ e) (oo a ha).1 (nA0 a ha)
            have owW := lk.sim.own
            have st0 : Stay H1 H' ([] ++ A0) := ⟨fun a z e => Pe.keep a _ (sm _ _ e) (fun h => (by obtain ⟨o, e1, e2⟩ := owW a h; rw [e] at e1; cases e1; cases e2)) (fun h => by subst h; rw [hD] at e; cases e), fun a o u e => Pe.keep a _ (sm _ _ e) (fun h => (by obtain ⟨o, e1, e2⟩ := owW a h; rw [e] at e1; cases e1; cases e2)) (fun h => by subst h; rw [hD] at e; cases e), fun a ha o e => keepA a (by simpa using ha) o e⟩
            have lo' : LkR C.M H' σ (lock (lockOf ts) ρ1) ow [] A0 := lo.stay st0 fun _ _ => rfl
            have offA : Off Z1 We A0 := fun a ha => by
              refine ⟨fun z => ?_, fun z => z.elim (oo a ha).2 fun z => nA0 a ha (by simpa using z)⟩
              rcases Pe.new a z with y | y
              · exact (oo a ha).1 y
              · obtain ⟨u, e⟩ := tA0 a ha
                rw [sm _ _ e] at y; cases y
            obtain ⟨W2, S2, sub2⟩ := rest_ok lo' rfl Se (wipe_length _ _) offA
            rw [backσ_eq (wipe_length _ _) (fun j hj => wipe_out hj)] at S2
            have P2 : Post false H1 W' H' (W2 ++ [D]) := ⟨fun b o e hb => Pe.keep b o (sm _ _ e) hb fun z => (by subst z; rw [hD] at e; cases e), fun b o e => Pe.trk b o (sm _ _ e), fun b hb => by
              rcases List.mem_append.mp hb with h | h
              · rcases Pe.new b (sub2 b h) with y | y
                · exact .inl y
                · cases e : H1 b with
                  | none => exact .inr rfl
                  | some o => rw [sm _ _ e] at y; cases y
              · simp at h; subst h; exact .inr hD, fun h => nomatch h⟩
            obtain ⟨W3, P3, S3, sub3⟩ := lk.leave P2 S2 Kp.refl
            refine hr (.ref D) H' ⟨W3, [D], as, P3, S3, .lf (.ls eD re), ⟨fun a ha => ⟨fun z => ?_, fun z => (oe a ha).2 (.inl (.inl z)), fun z => (oe a ha).2 (.inr z)⟩, by simp, fun a ha => ?_⟩⟩
            · rcases sub3 a z with y | y
              · exact (oe a ha).1 (sub2 a y)
              · exact (oe a ha).2 (.inl (.inr y))
            · simp at ha; subst ha
              refine ⟨fun z => ?_, fun z => nZD (.inl z)⟩
              rcases sub3 _ z with y | y
              · exact S2.nz _ y (.inr (by simp))
              · exact nZD (.inr y)
theorem good_lc2 {tg it tg1 it1 elt : Expr} {ifs : List Expr} {scope : Scope} {own : List (Str × Nat)} {own2 : List Nat} {pos : Pos} {T T2 : Tg} {w w2 : Nat} {mL mL2 : Rho → Out (List Tok)} {mt : Rho → Out Bool} {me : Rho → Out Tok} (o : Okx C n Wx X) (ok : BlkOk X.N X.env.scope scope own) (hv : ∀ i ∈ own2, i ∈ own.map (·.2)) (hs : ∀ x, foldedSetIterable it X.env x = pure x) (hs1 : ∀ env x, foldedSetIterable it1 env x = pure x)
    (hi : GoodI C Wx X tg it q1 w mL) (hg : ∀ s H A cl fp, GoodG (blkS C scope) (XB X scope s H A cl fp) tg T) (hi1 : ∀ s H A cl fp, GoodI (blkS C scope) WxF (XB X scope s H A cl fp) tg1 it1 q3 w2 mL2) (hg1 : ∀ s H A cl fp, GoodG (blkS C scope) (XB X scope s H A cl fp) tg1 T2)
    (ht : ∀ s H A cl fp, GoodTs (blkS C scope) WxF (XB X scope s H A cl fp) ifs mt) (he : ∀ s H A cl fp, GoodE (blkS C scope) WxF (XB X scope s H A cl fp) elt q2 me) :
    GoodE C Wx X (.ListComp elt [⟨tg, it, [], 0⟩, ⟨tg1, it1, ifs, 0⟩] scope pos) false (fun ρ => (mL ρ).bind fun ts ρ1 => match (rds ρ1 ts).bind (itemsW w) with
      | none => .no
      | some xs => if ownOk (own.map (·.2)) (lock (lockOf ts) ρ1) then
          match lcO (asgD (compl (own.map (·.2)) ρ1.length) T) (inR w2 own2 ρ1.length T2 mL2 mt me) (wipeR (own.map (·.2))) xs [] (wipeR (own.map (·.2)) (lock (lockOf ts) ρ1)) with
          | .ok ys ρ2 => .ok (.lf (.ls ys)) (unlock (lockOf ts) ρ1 (restR (own.map (·.2)) (lock (lockOf ts) ρ1) ρ2))
          | _ => .no
        else .no) := fun Z ρ σ H W Q S hz hr =>
  we_of (pe_lc2 o.calm o.nd pi_wi ok hv pg_gB (fun s H A cl fp => pts_nil) pi_wB pg_gB pts_tB pe_eB hs hs1) (lc2_gives o hv hi hg hi1 hg1 ht he S hz hr)
end
end DL

set_option maxRecDepth 100000
set_option maxHeartbeats 4000000
/-! DL24: stores to lists and fields; augmented stores. -/
namespace DL
open PySem PySem.Spec L2

section
variable {X : Cx}
def rGetL (K : PySem.W.Frag) : V → V → Hp → VK → Prop := fun o i H Q => ∃ p xs k v, o = .ref p ∧ i = .int k ∧ SqL K H p xs ∧ atI xs k = some v ∧ Q v H
theorem get_list : PGet X (rGetL X.K) := by
  intro pins s σ H o i ov iv Q I ro ri h
  obtain ⟨p, xs, k, v, rfl, rfl, hq, he, q⟩ := h
  cases ro
  obtain ⟨t, rfl⟩ := ri
  obtain ⟨its, r, pl, hz⟩ := I.list hq
  obtain ⟨j, h1, h2, h3, h4, h5⟩ := atI_get he
  obtain ⟨w, ew, rw'⟩ := r.get h2
  have hl := r.length
  have hn := line63
  have fin : EP X pins σ Q w s := ⟨v, H, I, rw', q⟩
  by_cases h0 : 0 ≤ k
  · have hj : k.toNat = j := by
      rw [seqIndex_of h0 h5] at h1
      exact Option.some.inj h1
    exact wpAny_getItem_list pl.isList h0 (by omega) (by rw [hj]; simpa using ew) fin
  · have hj : (k + (its.toArray.size : Int)).toNat = j := by
      rw [seqIndex_neg (by omega) h4] at h1
      rw [List.size_toArray, ← hl]
      exact Option.some.inj h1
    exact wpAny_getItem_list_neg pl.isList (by omega) (by rw [List.size_toArray] <;> omega) (by omega) (by rw [hj]; simpa using ew) fin
/-- x op= y, by values -/
def rAug (op : Pr) : TIp := fun x y H Q => match op with
  | .add => (∃ i j, x = .int i ∧ y = .int j ∧ Q (.int (i + j)) H) ∨ rAddS x y H Q
  | .sub => ∃ i j, x = .int i ∧ y = .int j ∧ Q (.int (i - j)) H
  | _ => False
def opOf : Pr → Operator
  | .add => .Add
  | _ => .Sub
theorem ip_aug (op : Pr) : PIp X (opOf op) (rAug op) := by
  intro pins s σ H x y v u Q I rx ry h
  cases op with
  | add =>
    rcases h with h | h
    · exact ip_add pins s σ H x y v u Q I rx ry h
    · exact in_addS pins s σ H x y v u Q I rx ry h
  | sub => exact ip_sub pins s σ H x y v u Q I rx ry h
  | _ => exact h.elim
theorem aug_sem {K : PySem.W.Frag} {op : Pr} {x y z : PyData} {v w : V} {H H' : Hp} {as bs : List Addr} {Q : VK} (e : augF op x y = some z) (rx : RepD K H v x as) (ry : RepD K H' w y bs) (q : ∀ u, (∀ H, RepD K H u z []) → Q u H') : rAug op v w H' Q := by
  match op, x, y, e with
  | .add, .int i, .int j, e =>
    cases e
    exact .inl ⟨i, j, rx.int_inv.1, ry.int_inv.1, q _ fun _ => .int _⟩
  | .sub, .int i, .int j, e =>
    cases e
    exact ⟨i, j, rx.int_inv.1, ry.int_inv.1, q _ fun _ => .int _⟩
  | .add, .str i, .str j, e =>
    simp only [augF] at e
    split at e
    · rename_i hz
      cases e
      exact .inr ⟨i, j, rx.str_inv.1, ry.str_inv.1, hz, q _ fun _ => .str _⟩
    · cases e
end
section
variable {C : Cst} {n : Nat} {Wx : WX} {X : Cx} {q : Bool} {pin : List Nat}
theorem good_aug {x : Str} {i : Nat} {px pos : Pos} {e : Expr} {op : Pr} {m : Rho → Out Tok} (o : Okx C n Wx X) (h : stoS C x i) (he : GoodE C Wx X e q m) :
    GoodS C Wx X (.AugAssign (.Name x px) (opOf op) e pos) pin (fun ρ => match ρ[i]? with
      | some (.lf (.d x)) => (m ρ).bind fun t ρ1 => match t with
        | .lf (.d y) => match augF op x y with
          | some z => ofOpt ((put1 pin i (.lf (.d z)) ρ1).map fun ρ2 => (.nx, ρ2))
          | none => .no
        | _ => .no
      | _ => .no) := by
  intro Z ρ σ H W D S hz hr
  simp only at hr
  split at hr
  case h_2 => exact hr.elim
  case h_1 d ei =>
  obtain ⟨h1, h2, h3⟩ := o.sto h
  obtain ⟨A, sl, ap⟩ := S.sls
  obtain ⟨ov, w, as, W1, W2, A1, A2, e1, e2, rfl, rfl, _⟩ := sl.at_ ei
  cases e2 with
  | lf r => cases r with
    | d rx =>
      refine ws_of (ps_aug o.nd h1 h2 pe_we (ip_aug op) h3) ⟨_, e1, eval_then he S hz hr fun t ρ1 v H1 g hr => ?_⟩
      obtain ⟨W3, w3, as3, p3, S3, r3, c3⟩ := g.ex
      match t, hr, r3 with
      | .lf (.d y), hr, r3 =>
        cases r3 with
        | lf r3 => cases r3 with
          | d ry =>
            simp only at hr
            cases ez : augF op d y with
            | none => rw [ez] at hr; exact hr.elim
            | some z =>
              rw [ez] at hr
              simp only at hr
              cases ep : put1 pin i (.lf (.d z)) ρ1 with
              | none => rw [ep] at hr; exact hr.elim
              | some ρ2 =>
                rw [ep] at hr
                refine aug_sem ez rx ry fun u ru => ?_
                have S3' : Sim C.M (orL Z []) ρ1 σ H1 W3 := S3.weak fun a h => h.elim .inl fun z => (by simp at z)
                obtain ⟨np, hl, W4, S4, sub4⟩ := put1_ok S3' (.lf (.d (ru H1))) Clean.nil ep
                exact hr _ _ W4 ⟨p3.weak.sub fun a h => (sub4 a h).elim (fun z => by simp [z]) fun z => (by simp at z), S4, kp_set np⟩
theorem good_setix {o i e : Expr} {xe xo xi : Ex} {ps pos : Pos} {ev : Ex → Rho → Out Tok} (ha : ∀ v, assign (.Subscript o i ps) X.env v = (do
      let ov ← holding [v] (eval o X.env)
      let iv ← holding [v, ov] (eval i X.env)
      standAt ps
      holding [v, ov, iv] (setItem ov iv v)
      release [v, ov, iv] [])) (hp : plainV e = true) (hs : swapsWithSole [.Subscript o i ps] e pos.line X.env = pure false) (he : GoodL C Wx X [e, o, i] q (evL ev [xe, xo, xi])) :
    GoodS C Wx X (.Assign [.Subscript o i ps] e pos) pin (fun ρ => (evL ev [xe, xo, xi] ρ).bind fun ts ρ3 => match ts with
      | [t, to, ti] => match toD t ρ3 with
        | some (x, ρ4) => match rd ρ4 to, (rd ρ4 ti).bind intOf with
          | some (.ls xs), some k => match ixN xs.length k with
            | some j => ofOpt ((putP ρ4 (.ls (xs.set j x)) to).map fun ρ5 => (.nx, ρ5))
            | none => .no
          | _, _ => .no
        | none => .no
      | _ => .no) := by
  intro Z ρ σ H W D S hz hr
  refine ws_of (ps_asg pe_we (pg_sub pe_we pe_we set_list ha) hs) ?_
  have key : WAs X [e, o, i] σ H fun vs H3 => ∃ x o i, vs = [x, o, i] ∧ rSetL o i x H3 (fun H4 => D.nx σ H4) := by
    refine evals_then he S hz hr fun ts ρ3 vs H3 g hr => ?_
    obtain ⟨W1, w1, as1, p, S1, r, c⟩ := g.ex
    match ts, r, hr with
    | [t, to, ti], r, hr =>
      cases r with
      | @cons _ v wv asv _ vs wr asr rt rr =>
        cases rr with
        | @cons _ vo wo aso _ vs wr asr ro rr =>
          cases rr with
          | @cons _ vi wi asi _ vs wr asr ri rr =>
            cases rr
            simp only at hr
            cases hd : toD t ρ3 with
            | none => rw [hd] at hr; exact hr.elim
            | some pr =>
              obtain ⟨x, ρ4⟩ := pr
              rw [hd] at hr
              simp only at hr
              cases hro : rd ρ4 to with
              | none => rw [hro] at hr; exact hr.elim
              | some l =>
                cases hri : rd ρ4 ti with
                | none => rw [hro, hri] at hr; simp at hr; exact (by cases l with | d _ => exact hr.elim | ls _ => exact hr.elim)
                | some li =>
                  rw [hro, hri] at hr
                  simp only [Option.bind_some] at hr
                  cases hk : intOf li with
                  | none => rw [hk] at hr; exact (by cases l with | d _ => exact hr.elim | ls _ => exact hr.elim)
                  | some k =>
                    rw [hk] at hr
                    cases l with
                    | d _ => exact hr.elim
                    | ls xs =>
                      simp only at hr
                      cases hj : ixN xs.length k with
                      | none => rw [hj] at hr; exact hr.elim
                      | some j =>
                        rw [hj] at hr
                        simp only at hr
                        cases ep : putP ρ4 (.ls (xs.set j x)) to with
                        | none => rw [ep] at hr; exact hr.elim
                        | some ρ5 =>
                          rw [ep] at hr
                          -- the value, given up
                          obtain ⟨W2, as2, S2, sub2, rep2, off2, _, _⟩ := toD_ok (S1.weak (Z' := Z) fun a h => .inl h) rt (fun a h => ⟨(c.sup a (by simp [h])).1, (c.sup a (by simp [h])).2.1⟩) (fun a h => c.out a (by simp [h])) hd
                          have oki : ∃ as', CoR C.M.K H3 li vi as' ∧ Off Z W2 as' := rd_ok S2 ri (fun a h => ⟨fun z => (c.sup a (by simp [h])).1 (sub2 a z), (c.sup a (by simp [h])).2.1⟩) hri
                          obtain ⟨_, coi, _⟩ := oki
                          have hvi : vi = .int k := rng_in hk coi
                          subst hvi
                          obtain ⟨l, vs', as0, rfl, lW, hl, r0, off0, up⟩ := putP_ok S2 ro hro ep
                          obtain ⟨bs, rb, hb⟩ := r0.set rep2 j
                          obtain ⟨W3, S3, P3⟩ := up rb (fun a h => (hb a h).elim (off0 a) (off2 a))
                          refine ⟨v, .ref l, .int k, rfl, l, vs', k, j, rfl, rfl, hl, by rw [r0.length]; exact hj, ?_⟩
                          have p2 : Post false H W H3 W2 := p.weak.sub fun a h => by simp [sub2 a h]
                          have p3 : Post false H3 W2 (upd H3 l (.lst (vs'.set j v))) W3 := P3
                          exact hr σ _ W3 ⟨by simpa using p2.then_ p3, S3, Kp.refl⟩
    | [], r, hr => exact hr.elim
    | [_], r, hr => exact hr.elim
    | [_, _], r, hr => exact hr.elim
    | _ :: _ :: _ :: _ :: _, r, hr => exact hr.elim
  exact WE.mono key fun x H1 h1 => WE.mono h1 fun o H2 h2 => WE.mono h2 fun i H3 ⟨x', o', i', e', h3⟩ => by
    cases e'
    exact h3
end
end DL

set_option maxRecDepth 100000
set_option maxHeartbeats 4000000
/-! DL25: o[i] op= e; self.f = e. -/
namespace DL
open PySem PySem.Spec L2

section
variable {C : Cst} {n : Nat} {Wx : WX} {X : Cx} {q : Bool} {pin : List Nat}
theorem TokR.pstay {M : Md} {σ : L2.St} {H H' : Hp} {t : Tok} {v : V} {w as : List Addr} (r : TokR M σ H t v w as) (hp : (∃ l, t = .lf l) → False) (hf : (∃ f, t = .fn f) → False) (ho : (∃ c fs, t = .ob c fs) → False) (hi : isPf t = true → ∀ b C dx fs, H b = some (.ins C dx fs) → H' b = some (.ins C dx fs)) : TokR M σ H' t v [] [] := by
  cases r with
  | lf _ => exact (hp ⟨_, rfl⟩).elim
  | pl e => exact .pl e
  | pf e1 e2 e3 => exact .pf e1 (hi rfl _ _ _ _ e2) e3
  | fn _ => exact (hf ⟨_, rfl⟩).elim
  | ob _ => exact (ho ⟨_, _, rfl⟩).elim
def notSlice : Expr → Bool
  | .Slice _ _ _ _ => false
  | _ => true
theorem aug_plain {i : Expr} (h : notSlice i = true) (ov iv new : Value) : augStore i ov iv new = (do holding [new, ov, iv] (setItem ov iv new); release [new, ov, iv] []; pure .next) := by
  cases i <;> first | rfl | simp [notSlice] at h
theorem asg_plain {o i : Expr} {ps : Pos} {env : Env} (h : notSlice i = true) (v : Value) : assign (.Subscript o i ps) env v = (do
      let ov ← holding [v] (eval o env)
      let iv ← holding [v, ov] (eval i env)
      standAt ps
      holding [v, ov, iv] (setItem ov iv v)
      release [v, ov, iv] []) := by
  cases i <;> first | rfl | simp [notSlice] at h
theorem good_augix {o i e : Expr} {xo xi xe : Ex} {ps pos : Pos} {op : Pr} {ev : Ex → Rho → Out Tok} (hK : C.M.K = X.K) (hsl : notSlice i = true) (ho : GoodL C Wx X [o, i] q (evL ev [xo, xi])) (he : GoodE C Wx X e (noCall xe) (ev xe)) :
    GoodS C Wx X (.AugAssign (.Subscript o i ps) (opOf op) e pos) pin (fun ρ => (evL ev [xo, xi] ρ).bind fun ts ρ2 => match ts with
      | [to, ti] => match rd ρ2 to, (rd ρ2 ti).bind intOf with
        | some (.ls xs), some k => match atI xs k with
          | some x => if isPf to && !(noCall xe) then .no else (ev xe ρ2).bind fun t ρ3 => match t, rd ρ3 to with
            | .lf (.d y), some (.ls ys) => match augF op x y, ixN ys.length k with
              | some z, some j => ofOpt ((putP ρ3 (.ls (ys.set j z)) to).map fun ρ5 => (.nx, ρ5))
              | _, _ => .no
            | _, _ => .no
          | none => .no
        | _, _ => .no
      | _ => .no) := by
  intro Z ρ σ H W D S hz hr
  refine ws_of (ps_augS pe_we pe_we get_list pe_we (ip_aug op) set_list (aug_plain hsl)) ?_
  have key : WAs X [o, i] σ H fun vs H2 => ∃ a b, vs = [a, b] ∧ rGetL X.K a b H2 fun x H3 => WE X e σ H3 fun y H4 => rAug op x y H4 fun z H5 => rSetL a b z H5 fun H6 => D.nx σ H6 := by
    refine evals_then ho S hz hr fun ts ρ2 vs H2 g hr => ?_
    obtain ⟨W1, w1, as1, p, S1, r, c⟩ := g.ex
    match ts, r, hr with
    | [to, ti], r, hr =>
      cases r with
      | @cons _ vo wo aso _ vs wr asr ro rr =>
        cases rr with
        | @cons _ vi wi asi _ vs wr asr ri rr =>
          cases rr
          simp only at hr
          cases hro : rd ρ2 to with
          | none => rw [hro] at hr; exact hr.elim
          | some l =>
            cases hri : rd ρ2 ti with
            | none => rw [hro, hri] at hr; simp at hr; exact (by cases l with | d _ => exact hr.elim | ls _ => exact hr.elim)
            | some li =>
              rw [hro, hri] at hr
              simp only [Option.bind_some] at hr
              cases hk : intOf li with
              | none => rw [hk] at hr; exact (by cases l with | d _ => exact hr.elim | ls _ => exact hr.elim)
              | some k =>
                rw [hk] at hr
                cases l with
                | d _ => exact hr.elim
                | ls xs =>
                  simp only at hr
                  cases hj : atI xs k with
                  | none => rw [hj] at hr; exact hr.elim
                  | some x =>
                    rw [hj] at hr
                    simp only at hr
                    split at hr
                    · exact hr.elim
                    rename_i hpf
                    have hpf' : isPf to = true → noCall xe = true := fun hi => by
                      cases hn : noCall xe with
                      | true => rfl
                      | false => simp [hi, hn] at hpf
                    have S0 : Sim C.M Z ρ2 σ H2 W1 := S1.weak fun a h => .inl h
                    obtain ⟨_, coi, _⟩ := rd_ok S0 ri (fun a h => ⟨(c.sup a (by simp [h])).1, (c.sup a (by simp [h])).2.1⟩) hri
                    have hvi := rng_in hk coi
                    subst hvi
                    obtain ⟨_, coo, _⟩ := rd_ok S0 ro (fun a h => ⟨(c.sup a (by simp [h])).1, (c.sup a (by simp [h])).2.1⟩) hro
                    obtain ⟨a, us, bs, rfl, sq, ru, ib⟩ := co_seqL coo (.inr rfl)
                    obtain ⟨j0, hx0, hv0⟩ := atI_map (ru.length) hj
                    obtain ⟨v0, b0, hv1, rx, _⟩ := ru.get hx0
                    rw [hK] at sq
                    refine ⟨_, _, rfl, a, us, k, v0, rfl, rfl, sq, hv0 v0 hv1, ?_⟩
                    have hz2 : ZT Z H2 := p.z hz S.nz
                    have s1 : StR C.M Z pin σ H W ρ2 σ H2 W1 := ⟨p.weak.sub fun a h => by simp [h], S0, Kp.refl⟩
                    refine eval_then he S0 hz2 (ResS.after s1 hr) fun t ρ3 y H4 g4 hr => ?_
                    obtain ⟨W4, w4, as4, p4, S4, r4, c4⟩ := g4.ex
                    match t, hr, r4 with
                    | .lf (.d y'), hr, r4 =>
                      cases hro4 : rd ρ3 to with
                      | none => rw [hro4] at hr; exact hr.elim
                      | some l4 =>
                        rw [hro4] at hr
                        cases l4 with
                        | d _ => exact hr.elim
                        | ls ys =>
                          simp only at hr
                          cases r4 with
                          | lf r4 => cases r4 with
                            | d ry =>
                              cases ez : augF op x y' with
                              | none => rw [ez] at hr; exact hr.elim
                              | some z =>
                                cases ej : ixN ys.length k with
                                | none => rw [ez, ej] at hr; exact hr.elim
                                | some j =>
                                  rw [ez, ej] at hr
                                  simp only at hr
                                  cases ep : putP ρ3 (.ls (ys.set j z)) to with
                                  | none => rw [ep] at hr; exact hr.elim
                                  | some ρ5 =>
                                    rw [ep] at hr
                                    refine aug_sem ez rx ry fun u ru4 => ?_
                                    have nlf : (∃ l, to = .lf l) → False := fun ⟨l, e⟩ => by subst e; simp [putP] at ep
                                    have nfn : (∃ l, to = .fn l) → False := fun ⟨l, e⟩ => by subst e; simp [putP] at ep
                                    have nob : (∃ c fs, to = .ob c fs) → False := fun ⟨_, _, e⟩ => by subst e; simp [putP] at ep
                                    have ro4 : TokR C.M σ H4 to (.ref a) [] [] := ro.pstay nlf nfn nob fun hi => p4.ins (hpf' hi)
                                    have S4' : Sim C.M Z ρ3 σ H4 W4 := S4.weak fun a h => .inl h
                                    obtain ⟨l, vs', as0, el, lW, hl, r0, off0, up⟩ := putP_ok S4' ro4 hro4 ep
                                    cases el
                                    obtain ⟨bs', rb, hb⟩ := r0.set (ru4 H4) j
                                    obtain ⟨W5, S5, P5⟩ := up rb (fun a h => (hb a h).elim (off0 a) fun h => by simp at h)
                                    refine ⟨_, vs', k, j, rfl, rfl, hl, by rw [r0.length]; exact ej, ?_⟩
                                    have p4' : Post false H2 W1 H4 W4 := p4.weak.sub fun a h => by simp [h]
                                    have p5 : Post false H4 W4 (upd H4 a (.lst (vs'.set j u))) W5 := P5
                                    exact hr σ _ W5 ⟨by simpa using p4'.then_ p5, S5, Kp.refl⟩
    | [], r, hr => exact hr.elim
    | [_], r, hr => exact hr.elim
    | _ :: _ :: _ :: _, r, hr => exact hr.elim
  exact WE.mono key fun a H1 h1 => WE.mono h1 fun b H2 ⟨a', b', e', h3⟩ => by
    cases e'
    exact h3

/-! ### self.f = e -/
theorem FsR.put {K : PySem.W.Frag} {H : Hp} {fs : List (String × Fl)} {vs : List (Str × V)} {w as : List Addr} (r : FsR K H fs vs w as) {f : String} {l : Fl} {v : V} {wl al : List Addr} (rl : FlR K H l v wl al) (nd : w.Nodup) (ndl : wl.Nodup) (dis : ∀ a ∈ wl, a ∉ w) :
    ∃ w2 as2, FsR K H (putS f l fs) (putF (so f) v vs) w2 as2 ∧ w2.Nodup ∧ (∀ a ∈ w2, a ∈ w ∨ a ∈ wl) ∧ ∀ a ∈ as2, a ∈ as ∨ a ∈ al := by
  induction r with
  | nil => exact ⟨wl ++ [], al ++ [], .cons rl .nil, by simpa using ndl, fun a h => .inr (by simpa using h), fun a h => .inr (by simpa using h)⟩
  | @cons g m u wg ag fs vs w' as' r0 r1 ih =>
    rw [List.nodup_append] at nd
    by_cases h : g = f
    · subst h
      have e1 : putS g l ((g, m) :: fs) = (g, l) :: fs := by simp [putS]
      have e2 : putF (so g) v ((so g, u) :: vs) = (so g, v) :: vs := by simp [putF]
      rw [e1, e2]
      refine ⟨wl ++ w', al ++ as', .cons rl r1, ?_, fun a h => ?_, fun a h => ?_⟩
      · rw [List.nodup_append]
        exact ⟨ndl, nd.2.1, fun a ha b hb e => dis a ha (by rw [e]; simp [hb])⟩
      · rcases List.mem_append.mp h with h | h <;> simp [h]
      · rcases List.mem_append.mp h with h | h <;> simp [h]
    · have e1 : putS f l ((g, m) :: fs) = (g, m) :: putS f l fs := by simp [putS, h]
      have e2 : putF (so f) v ((so g, u) :: vs) = (so g, u) :: putF (so f) v vs := by
        have : so g ≠ so f := fun z => h (so_inj z)
        simp [putF, this]
      rw [e1, e2]
      obtain ⟨w2, as2, a1, a2, a3, a4⟩ := ih nd.2.1 fun a ha z => dis a ha (by simp [z])
      refine ⟨wg ++ w2, ag ++ as2, .cons r0 a1, ?_, fun a h => ?_, fun a h => ?_⟩
      · rw [List.nodup_append]
        refine ⟨nd.1, a2, fun a ha b hb e => ?_⟩
        subst e
        rcases a3 a hb with z | z
        · exact nd.2.2 a ha a z rfl
        · exact dis a z (by simp [ha])
      · rcases List.mem_append.mp h with h | h
        · simp [h]
        · exact (a3 a h).elim (fun z => .inl (by simp [z])) .inr
      · rcases List.mem_append.mp h with h | h
        · simp [h]
        · exact (a4 a h).elim (fun z => .inl (by simp [z])) .inr
theorem Sim.updZ {M : Md} {Z : Addr → Prop} {ρ : Rho} {σ : L2.St} {H : Hp} {W : List Addr} {p : Addr} {o o' : HO} (S : Sim M Z ρ σ H W) (hp : Z p) (e : H p = some o) (ho : ownO o = true) : Sim M Z ρ σ (upd H p o') W := by
  obtain ⟨A, sl, ap⟩ := S.sls
  refine ⟨⟨A, sl.stay (B := W ++ A) ⟨fun a xs q => ?_, fun a ob u q => ?_, fun a ha u q => ?_⟩ (fun a h => by simp [h]) (fun a h => by simp [h]), ap⟩, S.nd, S.nz⟩
  · rw [upd_ne (fun z => by subst z; rw [e] at q; cases q; cases ho)]; exact q
  · rw [upd_ne (fun z => by subst z; rw [e] at q; cases q; cases ho)]; exact q
  · rw [upd_ne (fun z => by
      subst z
      rcases List.mem_append.mp ha with h | h
      · exact S.nz _ h hp
      · exact (ap _ h).2 hp)]
    exact q
theorem fs_length {K : PySem.W.Frag} {H : Hp} {fs : List (String × Fl)} {vs : List (Str × V)} {w as : List Addr} (r : FsR K H fs vs w as) : vs.length = fs.length := by
  induction r with
  | nil => rfl
  | cons _ _ ih => simp [ih]
theorem good_setfld {x : Str} {f : String} {i : Nat} {p2 px pos : Pos} {e : Expr} {m : Rho → Out Tok} (o : Okx C n Wx X) (h : visS C x i) (nf : ∀ c A, C.M.ca c = some A → Cls X.K A ∧ NoAttr X.K A (so f)) (hp : plainV e = true) (he : GoodE C Wx X e q m) :
    GoodS C Wx X (.Assign [.Attribute (.Name x px) (so f) p2] e pos) pin (fun ρ => (m ρ).bind fun t ρ1 => match ρ1[i]? with
      | some (.ob c _) => match (match t with | .lf l => some (l, ρ1) | t => (toD t ρ1).map fun (x, ρ2) => (.d x, ρ2)) with
        | some (l, ρ2) => match ρ2[i]? with
          | some (.ob c fs) => if fs.length < 1000 then .ok .nx (ρ2.set i (.ob c (putS f l fs))) else .no
          | _ => .no
        | none => .no
      | _ => .no) := by
  intro Z ρ σ H W D S hz hr
  obtain ⟨hN, hv⟩ := o.vis h
  refine ws_of (ps_fld (pe_var hN hv h.2.2.1 h.2.2.2) pe_we (swap_plain hp)) (eval_then he S hz hr fun t ρ1 v H1 g hr => ?_)
  obtain ⟨W1, w1, as1, p1, S1, r1, c1⟩ := g.ex
  split at hr
  case h_2 => exact hr.elim
  case h_1 c0 fs0 e0 =>
  -- the value as a leaf
  have leaf : ∀ l ρ2, (match t with | .lf l => some (l, ρ1) | t => (toD t ρ1).map fun (x, ρ2) => (Fl.d x, ρ2)) = some (l, ρ2) → ∃ W2 wl al, Sim C.M (orL Z wl) ρ2 σ H1 W2 ∧ (∀ a ∈ W2, a ∈ W1) ∧ (∀ a ∈ wl, a ∈ w1) ∧ FlR C.M.K H1 l v wl al ∧ wl.Nodup ∧ (∀ a ∈ wl, a ∉ W2 ∧ ¬ Z a) ∧ (∀ a ∈ al, a ∉ W2 ∧ ¬ Z a ∧ a ∉ wl) := fun l ρ2 el => by
    have data : ∀ {x : PyData}, toD t ρ1 = some (x, ρ2) → l = .d x → ∃ W2 wl al, Sim C.M (orL Z wl) ρ2 σ H1 W2 ∧ (∀ a ∈ W2, a ∈ W1) ∧ (∀ a ∈ wl, a ∈ w1) ∧ FlR C.M.K H1 l v wl al ∧ wl.Nodup ∧ (∀ a ∈ wl, a ∉ W2 ∧ ¬ Z a) ∧ (∀ a ∈ al, a ∉ W2 ∧ ¬ Z a ∧ a ∉ wl) := fun {x} hd hl => by
      subst hl
      obtain ⟨W2, as2, S2, sub2, rep2, off2, _, _⟩ := toD_ok (S1.weak (Z' := Z) fun a h => .inl h) r1 (fun a h => ⟨(c1.sup a h).1, (c1.sup a h).2.1⟩) (fun a h => c1.out a h) hd
      exact ⟨W2, [], as2, S2.weak fun a h => h.elim id fun z => (by simp at z), sub2, by simp, .d rep2, .nil, by simp, fun a h => ⟨(off2 a h).1, (off2 a h).2, by simp⟩⟩
    cases r1 with
    | lf r =>
      cases el
      exact ⟨W1, w1, as1, S1, fun _ h => h, fun _ h => h, r, c1.nd, c1.out, c1.sup⟩
    | pl e =>
      simp only at el
      cases hd : toD (.pl _) ρ1 with
      | none => rw [hd] at el; cases el
      | some pr => obtain ⟨x, ρx⟩ := pr; rw [hd] at el; cases el; exact data hd rfl
    | pf e1 e2 e3 =>
      simp only at el
      cases hd : toD (.pf _ _) ρ1 with
      | none => rw [hd] at el; cases el
      | some pr => obtain ⟨x, ρx⟩ := pr; rw [hd] at el; cases el; exact data hd rfl
    | fn _ => simp [toD] at el
    | ob _ => simp [toD] at el
  cases el : (match t with | .lf l => some (l, ρ1) | t => (toD t ρ1).map fun (x, ρ2) => (Fl.d x, ρ2)) with
  | none => rw [el] at hr; exact hr.elim
  | some pr =>
    obtain ⟨l, ρ2⟩ := pr
    rw [el] at hr
    simp only at hr
    obtain ⟨W2, wl, al, S2, sub2, subw, rl, ndl, offw, offa⟩ := leaf l ρ2 el
    split at hr
    case h_2 => exact hr.elim
    case h_1 c fs ei =>
    split at hr
    case isFalse => exact hr.elim
    case isTrue hsz =>
    obtain ⟨ov, w0, as0, W3, h1, h2, ho, n0, t1, t2, t3, S3⟩ := S2.lend ei (fun o => (.no : SlR C.M H1 .no o [] []))
    cases h2 with
    | ob r =>
      obtain ⟨pp, CC, dx, vfs, w', rfl, e2, e3, e4, e5, rfl⟩ := r.ex
      obtain ⟨cl, na⟩ := nf c CC e2
      refine ⟨_, h1, pp, CC, dx, vfs, rfl, e3, cl, na, by rw [fs_length e5]; exact hsz, ?_⟩
      rw [List.nodup_cons, List.nodup_cons] at n0
      have ppW : pp ∈ W2 := t1 pp (by simp)
      have dxW : dx ∈ W2 := t1 dx (by simp)
      have w'W : ∀ a ∈ w', a ∈ W2 := fun a h => t1 a (by simp [h])
      obtain ⟨wn, asn, f1, f2, f3, f4⟩ := e5.put (f := f) rl n0.2.2 ndl fun a ha z => (offw a ha).1 (w'W a z)
      have npp : ∀ a, a ∈ wn ++ asn → a ≠ pp := fun a ha e => by
        subst e
        rcases List.mem_append.mp ha with z | z
        · rcases f3 _ z with z | z
          · exact n0.1 (by simp [z])
          · exact (offw _ z).1 ppW
        · rcases f4 _ z with z | z
          · exact (ho _ z).1 ppW
          · exact (offa _ z).1 ppW
      have st : Stay H1 (upd H1 pp (.ins CC dx (putF (so f) v vfs))) (wn ++ asn) := ⟨fun a xs q => by rw [upd_ne (ne_of q e3 (by intro z; cases z))]; exact q, fun a ob u q => by rw [upd_ne (ne_of q e3 (by intro z; cases z))]; exact q, fun a ha o q => by rw [upd_ne (npp a ha)]; exact q⟩
      have f1' := f1.stay st (fun a h => by simp [h]) fun a h => by simp [h]
      have S3' := S3.updZ (o' := .ins CC dx (putF (so f) v vfs)) (.inr (by simp)) e3 rfl
      have sub3 : ∀ a ∈ pp :: dx :: wn, a ∈ pp :: dx :: w' ∨ a ∈ wl := fun a ha => by
        rcases List.mem_cons.mp ha with rfl | ha
        · exact .inl (by simp)
        · rcases List.mem_cons.mp ha with rfl | ha
          · exact .inl (by simp)
          · exact (f3 a ha).elim (fun z => .inl (by simp [z])) .inr
      have S4 : Sim C.M (orL Z (pp :: dx :: wn)) (ρ2.set i .no) σ (upd H1 pp (.ins CC dx (putF (so f) v vfs))) W3 := S3'.weak fun a ha => by
        rcases ha with ha | ha
        · exact .inl (.inl ha)
        · exact (sub3 a ha).elim .inr fun z => .inl (.inr z)
      have hi : i < ρ2.length := (List.getElem?_eq_some_iff.mp ei).1
      obtain ⟨W5, S5, sub5⟩ := S4.give (i := i) (s' := .ob c (putS f l fs)) (o' := some (.ref pp)) (as' := asn) (by rw [List.getElem?_set_self hi]) (.ob ⟨pp, CC, dx, _, wn, rfl, e2, upd_same, by rw [upd_ne (fun z => n0.1 (by simp [z]))]; exact e4, f1', rfl⟩) (by
          rw [List.nodup_cons, List.nodup_cons]
          refine ⟨fun z => ?_, fun z => ?_, f2⟩
          · rcases List.mem_cons.mp z with z | z
            · exact n0.1 (by simp [z])
            · rcases f3 _ z with z | z
              · exact n0.1 (by simp [z])
              · exact (offw _ z).1 ppW
          · rcases f3 _ z with z | z
            · exact n0.2.1 z
            · exact (offw _ z).1 dxW) (fun a ha => (sub3 a ha).elim (fun z => fun y => S2.nz a (t1 a z) (.inl y)) fun z => (offw a z).2) fun a ha => by
          have off : a ∉ W2 ∧ ¬ Z a ∧ a ∉ wl := (f4 a ha).elim (fun z => ⟨(ho a z).1, fun y => (ho a z).2 (.inl y), fun y => (ho a z).2 (.inr y)⟩) (offa a)
          exact ⟨fun z => (sub3 a z).elim (fun z => off.1 (t1 a z)) off.2.2, fun z => off.1 (t2 a z), off.2.1⟩
      rw [List.set_set, set_same h1] at S5
      refine hr σ _ W5 ⟨?_, S5, Kp.refl⟩
      have pA : Post false H W H1 (W2 ++ wl) := p1.weak.sub fun a ha => by
        rcases List.mem_append.mp ha with z | z
        · simp [sub2 a z]
        · simp [subw a z]
      have pB : Post false H1 (W2 ++ wl) (upd H1 pp (.ins CC dx (putF (so f) v vfs))) W5 := ⟨fun b o e hb => by rw [upd_ne (fun z => hb (by rw [z]; simp [ppW]))]; exact e, fun b o e => by
          by_cases z : b = pp
          · subst z; exact ⟨_, upd_same⟩
          · exact ⟨o, by rw [upd_ne z]; exact e⟩, fun b hb => .inl (by
          rcases sub5 b hb with z | z
          · simp [t2 b z]
          · rcases sub3 b z with z | z
            · simp [t1 b z]
            · simp [z]), fun h => nomatch h⟩
      simpa using pA.then_ pB
end
end DL

set_option maxRecDepth 100000
set_option maxHeartbeats 4000000
/-! DL26: the checker: which operation an expression is. -/
namespace DL
open PySem PySem.Spec L2

/-! ### names -/
def bltB (C : Cst) (x : Str) (nm : String) : Bool := decide (x = so nm) && (match C.sc.names.lookup x with | some .globalImplicit => true | _ => false) && C.bl.contains x
def visB (C : Cst) (x : Str) (i : Nat) : Bool := decide (C.N[i]? = some x) && (match C.sc.names.lookup x with | some .local => true | some .cell => true | some .free => true | _ => false) && !(x == ("__debug__" : Str)) && !(x == ("__classdict__" : Str))
def stoB (C : Cst) (x : Str) (i : Nat) : Bool := decide (C.N[i]? = some x) && (match C.sc.names.lookup x with | some .local => true | some .cell => true | _ => false)
def locB (C : Cst) (x : Str) (i : Nat) : Bool := decide (C.N[i]? = some x) && (match C.sc.names.lookup x with | some .local => true | _ => false)
def gloB (C : Cst) (x : Str) : Bool := (match C.sc.names.lookup x with | some .globalImplicit => true | _ => false) && !(x == ("__debug__" : Str))
section
variable {C : Cst} {x : Str} {i : Nat}
theorem visB_ok (h : visB C x i = true) : visS C x i := by
  unfold visB at h
  simp only [Bool.and_eq_true, decide_eq_true_eq, Bool.not_eq_true'] at h
  obtain ⟨⟨⟨h1, h2⟩, h3⟩, h4⟩ := h
  refine ⟨h1, ?_, h3, h4⟩
  split at h2 <;> first | (rename_i e; exact .inl e) | (rename_i e; exact .inr (.inl e)) | (rename_i e; exact .inr (.inr e)) | cases h2
theorem stoB_ok (h : stoB C x i = true) : stoS C x i := by
  unfold stoB at h
  simp only [Bool.and_eq_true, decide_eq_true_eq] at h
  refine ⟨h.1, ?_⟩
  have h2 := h.2
  split at h2 <;> first | (rename_i e; exact .inl e) | (rename_i e; exact .inr e) | cases h2
theorem locB_ok (h : locB C x i = true) : C.N[i]? = some x ∧ C.sc.names.lookup x = some .local := by
  unfold locB at h
  simp only [Bool.and_eq_true, decide_eq_true_eq] at h
  refine ⟨h.1, ?_⟩
  have h2 := h.2
  split at h2 <;> first | assumption | cases h2
theorem gloB_ok (h : gloB C x = true) : gloS C x := by
  unfold gloB at h
  simp only [Bool.and_eq_true, Bool.not_eq_true'] at h
  refine ⟨?_, h.2⟩
  have h2 := h.1
  split at h2 <;> first | assumption | cases h2
theorem bltB_ok {n : Nat} {Wx : WX} {X : Cx} {nm : String} (o : Okx C n Wx X) (h : bltB C x nm = true) : x = so nm ∧ X.env.kindOf x = some .globalImplicit ∧ X.mg x = none := by
  unfold bltB at h
  simp only [Bool.and_eq_true, decide_eq_true_eq] at h
  obtain ⟨⟨h1, h2⟩, h3⟩ := h
  refine ⟨h1, o.glo x ?_, o.md.blt x (by simpa using h3)⟩
  split at h2 <;> first | assumption | cases h2
end
theorem b_len : bootBuiltins (so "len") = some (.builtin "len") := by decide +kernel
theorem b_all : bootBuiltins (so "all") = some (.builtin "all") := by decide +kernel
theorem b_any : bootBuiltins (so "any") = some (.builtin "any") := by decide +kernel
theorem b_sum : bootBuiltins (so "sum") = some (.builtin "sum") := by decide +kernel
theorem b_abs : bootBuiltins (so "abs") = some (.builtin "abs") := by decide +kernel
theorem b_repr : bootBuiltins (so "repr") = some (.builtin "repr") := by decide +kernel
theorem b_min : bootBuiltins (so "min") = some (.builtin "min") := by decide +kernel
theorem b_max : bootBuiltins (so "max") = some (.builtin "max") := by decide +kernel
theorem b_tuple : bootBuiltins (so "tuple") = some (.type "tuple") := by decide +kernel
theorem b_list : bootBuiltins (so "list") = some (.type "list") := by decide +kernel
theorem b_int : bootBuiltins (so "int") = some (.type "int") := by decide +kernel
theorem b_str : bootBuiltins (so "str") = some (.type "str") := by decide +kernel
theorem b_bool : bootBuiltins (so "bool") = some (.type "bool") := by decide +kernel
theorem b_dict : bootBuiltins (so "dict") = some (.type "dict") := by decide +kernel

/-! ### comparisons -/
def cmpOf : Pr → Option CmpOp
  | .eq => some .Eq
  | .ne => some .NotEq
  | .lt => some .Lt
  | .le => some .LtE
  | .gt => some .Gt
  | .ge => some .GtE
  | .isin => some .In
  | .notin => some .NotIn
  | _ => none
section
variable {C : Cst} {n : Nat} {Wx : WX} {X : Cx}
/-- a comparison keeps its promise as a value and as a test -/
theorem cmp_sem (o : Okx C n Wx X) {op : Pr} {co : CmpOp} (h : cmpOf op = some co) : isPure op = true ∧ two_ op ∧ (∀ a b l, pd op [a, b] = some l → ∃ k, l = .d (.bool k)) ∧ Sem2 C op (OpR X (compareOp co)) := by
  have hu : X.A.units + 65 < cLine := o.hu
  have hu' : X.A.units + 64 < cLine := by omega
  have hK : C.M.K = X.K := o.KK
  have cI : ∀ {p : Int → Int → Bool} {a b l : Fl}, cmpI p a b = some l → ∃ k, l = .d (.bool k) := fun {p a b l} h => by
    unfold cmpI at h
    split at h
    · cases h; exact ⟨_, rfl⟩
    · cases h
  have maps : ∀ {f : Bool → Bool} {x : Option Bool} {l : Fl}, x.map (fun k => Fl.d (.bool (f k))) = some l → ∃ k, l = .d (.bool k) := fun {f x l} h => by
    cases x with
    | none => cases h
    | some k => cases h; exact ⟨_, rfl⟩
  have wk : ∀ {op : Pr} {co : CmpOp}, Sem2 C op (fun r => C.M.K = X.K → OpR X (compareOp co) r) → Sem2 C op (OpR X (compareOp co)) := fun s l1 l2 l h => let ⟨r, a, b⟩ := s l1 l2 l h; ⟨r, a hK, b⟩
  cases op <;> simp only [cmpOf, Option.some.injEq] at h <;> first | cases h | skip
  · exact ⟨rfl, two_mk rfl (fun _ => rfl) fun _ _ _ _ => rfl, fun a b l h => maps (f := id) h, wk (sem_eq hu')⟩
  · exact ⟨rfl, two_mk rfl (fun _ => rfl) fun _ _ _ _ => rfl, fun a b l h => maps (f := fun k => !k) h, wk (sem_ne hu')⟩
  · exact ⟨rfl, two_mk rfl (fun _ => rfl) fun _ _ _ _ => rfl, fun a b l h => cI h, sem_cmpI (fun _ _ => rfl) op_lt⟩
  · exact ⟨rfl, two_mk rfl (fun _ => rfl) fun _ _ _ _ => rfl, fun a b l h => cI h, sem_cmpI (fun _ _ => rfl) op_le⟩
  · exact ⟨rfl, two_mk rfl (fun _ => rfl) fun _ _ _ _ => rfl, fun a b l h => cI h, sem_cmpI (fun _ _ => rfl) op_gt⟩
  · exact ⟨rfl, two_mk rfl (fun _ => rfl) fun _ _ _ _ => rfl, fun a b l h => cI h, sem_cmpI (fun _ _ => rfl) op_ge⟩
  · exact ⟨rfl, two_mk rfl (fun _ => rfl) fun _ _ _ _ => rfl, fun a b l h => maps (f := id) h, wk (sem_in hu)⟩
  · exact ⟨rfl, two_mk rfl (fun _ => rfl) fun _ _ _ _ => rfl, fun a b l h => maps (f := fun k => !k) h, wk (sem_notin hu)⟩
end
end DL

set_option maxRecDepth 100000
set_option maxHeartbeats 4000000
/-! TRev: t[::-1] of a tuple. -/
namespace TRev
open PySem PySem.Spec L2 PyProof.Rows

section
variable {prog : Program} {w : World} {A : Around} {E : Value → Shared → Prop} {s : Shared}
theorem places_rev (n : Nat) : Builtin.Slice.slicePlaces ((n : Int) - 1) (-1) (-1) = n := by
  unfold Builtin.Slice.slicePlaces
  rw [if_neg (by decide)]
  by_cases h : n = 0
  · subst h; rfl
  · rw [if_pos (by omega)]
    have : ((n : Int) - 1 - -1 - 1) / (- -1) + 1 = n := by
      have e : (- -1 : Int) = 1 := by decide
      rw [e, Int.ediv_one]; omega
    rw [this]; simp
theorem applied_rev {sl : Addr} {vl vu vs : Value} {n : Nat} {Q : Int × Int × Nat → Shared → Prop} (hs : s.heap.IsSliceOf sl vl vu vs) (pl : IsPart vl none) (pu : IsPart vu none) (ps : IsPart vs (some (-1)))
    (h : Q ((n : Int) - 1, -1, n) s) : wpAny (model prog w) A (Builtin.Slice.sliceApplied (.ref sl) (pure (n : Int))) Q E s := by
  obtain ⟨os, hos, hcs, hds⟩ := id hs
  unfold Builtin.Slice.sliceApplied Builtin.Slice.sliceFields
  refine wpAny_bind (wpAny_bind (wpAny_field hos hds (x := vl) rfl (wpAny_bind (wpAny_field hos hds (x := vu) rfl (wpAny_bind (wpAny_field hos hds (x := vs) rfl (wpAny_pure ?_)))))))
  refine wpAny_bind (HT.slicePart_ ps ?_)
  show wpAny _ _ (if ((-1 : Int) == 0) = true then _ else _) _ _ s
  rw [if_neg (by decide)]
  refine wpAny_bind (HT.slicePart_ pl (wpAny_bind (HT.slicePart_ pu (wpAny_bind (wpAny_pure ?_)))))
  show wpAny _ _ (pure (((n : Int) - 1), (-1 : Int), Builtin.Slice.slicePlaces ((n : Int) - 1) (-1) (-1))) _ _ s
  rw [places_rev]
  exact wpAny_pure h
theorem fm_congr {α β : Type} {f g : α → Option β} : ∀ {l : List α}, (∀ a ∈ l, f a = g a) → l.filterMap f = l.filterMap g
  | [], _ => rfl
  | a :: l, h => by
    rw [List.filterMap_cons, List.filterMap_cons, h a (by simp), fm_congr fun b hb => h b (by simp [hb])]
theorem fm_range {α : Type} : ∀ l : List α, (List.range l.length).filterMap (fun k => l[k]?) = l
  | [] => rfl
  | a :: l => by
    rw [List.length_cons, List.range_succ_eq_map, List.filterMap_cons, List.filterMap_map]
    show a :: (List.range l.length).filterMap (fun k => (a :: l)[k + 1]?) = a :: l
    rw [fm_congr (g := fun k => l[k]?) fun k _ => by simp, fm_range l]
theorem pick_rev (xs : Array Value) : ((List.range xs.size).filterMap fun (k : Nat) => xs[(((xs.size : Nat) : Int) - 1 + (k : Int) * -1).toNat]?).toArray = xs.toList.reverse.toArray := by
  congr 1
  have e : ∀ k ∈ List.range xs.size, xs[(((xs.size : Nat) : Int) - 1 + (k : Int) * -1).toNat]? = xs.toList.reverse[k]? := fun k hk => by
    have hk' : k < xs.size := List.mem_range.mp hk
    have : (((xs.size : Nat) : Int) - 1 + (k : Int) * -1).toNat = xs.size - 1 - k := by omega
    rw [this, List.getElem?_reverse (by simpa using hk')]
    simp
  rw [fm_congr e]
  have := fm_range xs.toList.reverse
  rw [List.length_reverse, Array.length_toList] at this
  exact this
theorem getItem_rev {t sl : Addr} {items : Array Value} {vl vu vs : Value} {Q : Value → Shared → Prop} (ht : IsTup s.heap t items) (hs : s.heap.IsSliceOf sl vl vu vs) (pl : IsPart vl none) (pu : IsPart vu none) (ps : IsPart vs (some (-1)))
    (h : Q (.ref s.heap.objs.size) { s with heap := s.heap.push { cls := .type "tuple", data := .seq items.toList.reverse.toArray } }) (hz : items.size ≤ sizeLine) : wpAny (model prog w) A (getItem (.ref t) (.ref sl)) Q E s := by
  obtain ⟨os, hos, hcs, hds⟩ := id hs
  have hT : s.TypeIs (.ref sl) "slice" := ⟨os, hos, hcs⟩
  have hok : sizeOk (.seq items.toList.reverse.toArray) := by
    show items.toList.reverse.toArray.size ≤ sizeLine
    rw [List.size_toArray, List.length_reverse, Array.length_toList]; exact hz
  unfold getItem
  try with_reducible refine wpAny_holding ?_
  first | refine wpAny_bind (wpAny_pure ?_) | skip
  refine wpAny_bind (wpAny_sequenceKey ht.typeIs (by decide) ?_)
  refine wpAny_bind (wpAny_callSpecial?_slot (name := Str.ofString "__getitem__") ht.typeIs PyProof.Rows.slot_tuple_getitem (wpAny_call_entry PyProof.Rows.slot_tuple_getitem ht.typeIs entry_tuple_getitem ?_ (args_tuple_getitem _ _)))
  show wpAny _ _ (Builtin.Tuple.tupleItemsOf (.ref t) >>= _) _ _ s
  refine wpAny_bind (tupleItemsOf_ ht (wpAny_bind (wpAny_typeOf hT ?_)))
  rw [if_pos (by decide)]
  refine wpAny_bind (applied_rev hs pl pu ps ?_)
  have hno : ¬ ((((items.size : Int) - 1) == 0 && (-1 : Int) == 1 && items.size == items.size) = true) := by simp
  show wpAny _ _ (if (((items.size : Int) - 1) == 0 && (-1 : Int) == 1 && items.size == items.size) = true then _ else _) _ _ s
  rw [if_neg hno, pick_rev]
  first
    | exact wpAny_bind (m := Builtin.Tuple.tupleExact _) (wpAny_newObj_type (wpAny_pure ⟨_, rfl, wpAny_pure h⟩) hok)
    | exact wpAny_bind (m := Builtin.Tuple.tupleExact _) (wpAny_newObj_type (wpAny_bind (wpAny_pure (wpAny_pure ⟨_, rfl, wpAny_pure h⟩))) hok)
    | exact wpAny_bind (wpAny_bind (m := Builtin.Tuple.tupleExact _) (wpAny_newObj_type (wpAny_pure (wpAny_pure ⟨_, rfl, wpAny_pure h⟩)) hok))
    | exact wpAny_bind (wpAny_bind (m := Builtin.Tuple.tupleExact _) (wpAny_newObj_type (wpAny_pure ⟨_, rfl, wpAny_pure h⟩) hok))
end
section
variable {X : Cx}
def tRevT (K : PySem.W.Frag) (te : TE) : TE := fun σ H Q => te σ H fun x H1 => ∃ a xs, x = .ref a ∧ SqT K H1 a xs ∧ ∀ p, H1 p = none → Q (.ref p) (upd H1 p (.tup xs.reverse))
theorem pe_revT {e : Expr} {te : TE} {k : Nat} {p1 p2 p3 pos : Pos} (he : PE X e te) : PE X (.Subscript e (.Slice none none (some (.UnaryOp .USub (.Constant (.int 1) k p1) p2)) p3) pos) (tRevT X.K te) := by
  have step : PO X (some (.UnaryOp .USub (.Constant (.int 1) k p1) p2)) (tPart (tUn (rU fun i => .int (-i)) (tC (.int 1)))) := po_some (pe_un un_neg pe_int)
  refine ⟨fun pins s σ H Q I h => Subscript_ (thn (he.run pins s σ H _ I h) fun v s1 ⟨x, H1, I1, r1, a, xs, ex, hx, q⟩ => ?_)⟩
  subst ex
  have hv : v = Value.ref a := r1
  subst hv
  refine wpAny_Slice (thn (po_none.run pins s1 σ H1 (fun o H2 => o = none ∧ H2 = H1) I1 ⟨rfl, rfl⟩) fun vl s2 ⟨l, H2, I2, pl, el, e2⟩ => ?_)
  subst el
  subst e2
  refine thn (po_none.run pins s2 σ H2 (fun o H3 => o = none ∧ H3 = H2) I2 ⟨rfl, rfl⟩) fun vu s3 ⟨u, H3, I3, pu, eu, e3⟩ => ?_
  subst eu
  subst e3
  refine thn (step.run pins s3 σ H3 (fun o H4 => o = some (-1) ∧ H4 = H3) I3 ⟨1, rfl, -1, rfl, rfl, rfl⟩) fun vs s4 ⟨o, H4, I4, ps, eo, e4⟩ => ?_
  subst eo
  subst e4
  have I5 : Inv X pins σ H4 { s4 with heap := s4.heap.push { cls := .type "slice", data := .fields #[vl, vu, vs] } } := I4.kept (t' := s4.toks) fun b ob q => Heap.get?_push_of_some _ q
  obtain ⟨its, r, ht, hz⟩ := I5.tuple hx
  have hlen := r.length
  show wpAny (model X.prog X.w) X.A (subscriptTail e (.Slice none none (some (.UnaryOp .USub (.Constant (.int 1) k p1) p2)) p3) (.ref a) (.ref s4.heap.objs.size)) (EP X pins σ Q) X.xe _
  refine tail_any (ops := [.ref a, .ref s4.heap.objs.size]) ht.typeIs (PyProof.Rows.slot_tuple_getitem.lookup) ?_ (by with_unfolding_all rfl)
  refine getItem_rev ht (Heap.IsSliceOf.new _ vl vu vs) pl pu ps ?_ (by rw [List.size_toArray]; omega)
  refine ⟨.ref _, _, I5.laid (t' := s4.toks) (o := .tup xs.reverse) (fun b ob q => Heap.get?_push_of_some _ q) (Nat.le_refl _) ?_, rfl, q _ (I5.hok.fresh (Nat.le_refl _))⟩
  exact ⟨by rw [List.length_reverse]; exact hz, its.reverse, r.reverse, ⟨_, Heap.get?_push_size _ rfl, rfl, _, rfl⟩⟩
end
end TRev

set_option maxRecDepth 100000
set_option maxHeartbeats 4000000
/-! SumL: sum(xs, []) over a list of lists. -/
namespace SumL
open PySem PySem.Spec L2 PyProof.Rows

theorem args_sum2 (a b : Value) : argsOk "sum" ⟨[a, b], []⟩ := by unfold argsOk; kernel_rfl
theorem sub_list_str : isSubtype (.type "list") (.type "str") = pure false := by rw [isSubtype_type]; kernel_rfl
theorem sub_list_bytes : isSubtype (.type "list") (.type "bytes") = pure false := by rw [isSubtype_type]; kernel_rfl
theorem sub_list_bytearray : isSubtype (.type "list") (.type "bytearray") = pure false := by rw [isSubtype_type]; kernel_rfl
/-- a list lies at a -/
def IsL (h : Heap) (a : Addr) (xs : List Value) : Prop := ∃ (n : Nat) (dd : Option Addr) (sl : Array (Option Value)), h.get? a = some { cls := .type "list", dict := dd, data := .seq xs.toArray n, slots := sl }
theorem IsL.keep {h h' : Heap} {a : Addr} {xs : List Value} (l : IsL h a xs) (k : ∀ o, h.get? a = some o → h'.get? a = some o) : IsL h' a xs := let ⟨n, dd, sl, e⟩ := l; ⟨n, dd, sl, k _ e⟩
def preL (rows : Nat → List Value) (i : Nat) : List Value := ((List.range i).map rows).flatten
theorem preL_succ (rows : Nat → List Value) (i : Nat) : preL rows (i + 1) = preL rows i ++ rows i := by simp [preL, List.range_succ]
theorem preL_le (rows : Nat → List Value) {i n : Nat} (h : i ≤ n) : (preL rows i).length ≤ (preL rows n).length := by
  induction n with
  | zero => have : i = 0 := by omega
            subst this; exact Nat.le_refl _
  | succ n ih =>
    by_cases e : i = n + 1
    · subst e; exact Nat.le_refl _
    · have := ih (by omega)
      rw [preL_succ, List.length_append]; omega
section
variable {prog : Program} {w : World} {A : Around} {R : Result → Shared → Prop}
theorem add_lists {E : Value → Shared → Prop} {s : Shared} {l b : Addr} {xs ys : List Value} {Q : Value → Shared → Prop} (hl : IsL s.heap l xs) (hb : IsL s.heap b ys) (hz : xs.length + ys.length ≤ sizeLine)
    (h : Q (.ref s.heap.objs.size) { s with heap := s.heap.push { cls := .type "list", data := .seq (xs ++ ys).toArray } }) : wpAny (model prog w) A (binaryOp .Add (.ref l) (.ref b)) Q E s := by
  obtain ⟨n1, dd, sl, ho⟩ := hl
  obtain ⟨n2, dd2, sl2, ho2⟩ := hb
  have ea : xs.toArray ++ ys.toArray = (xs ++ ys).toArray := by simp
  have hz' : xs.toArray.size + ys.toArray.size ≤ sizeLine := by rw [List.size_toArray, List.size_toArray]; omega
  refine PySem.concat_meets ⟨_, ho, rfl⟩ ⟨_, ho2, rfl⟩ noFill_list_add seq_list_add PySem.F.slot_list_add PySem.F.entry_list_add (PySem.F.args_list_add_2 _ _) (PyProof.Rows.list_addW l b xs.toArray ys.toArray n1 n2 dd dd2 sl sl2 hz') ⟨ho, ho2, ?_⟩
  rw [ea]
  exact h
theorem codeAny_sum_loopL (hh : A.handled = none) {it l : Addr} {ads : List Addr} {rows : Nat → List Value} {S : Addr} (hSit : S ≠ it) (hSl : S ≠ l) (hli : l ≠ it) (hz : (preL rows ads.length).length ≤ sizeLine) :
    ∀ (k i : Nat) (s : Shared) (tot : Addr) (c : Nat), ads.length - i = k → i ≤ ads.length → s.heap.IsListIter it l i → s.heap.IsList l (ads.map Value.ref).toArray → s.heap.get? S = some { cls := .type "list", dict := none, data := .seq #[.ref tot] c, slots := #[] } → IsL s.heap tot (preL rows i) → tot ≠ S → tot ≠ it →
    (∀ j a, ads[j]? = some a → IsL s.heap a (rows j) ∧ a ≠ S ∧ a ≠ it) →
    (∀ h' tk tot', (∀ b o, b ≠ it → b ≠ S → s.heap.get? b = some o → h'.get? b = some o) → (i = ads.length → tot' = tot) → (i < ads.length → h'.get? tot' = some { cls := .type "list", data := .seq (preL rows ads.length).toArray } ∧ s.heap.objs.size ≤ tot') → R (.ok (.ret (.ref tot'))) { s with heap := h', toks := tk }) →
    codeAny (model prog w) A (.builtin "sum.loop" ⟨[.ref it, .ref S, rawInt 2, rawInt 0], []⟩) R s := by
  have hh1 : A.in1.handled = none := hh
  intro k
  induction k with
  | zero =>
    intro i s tot c hk hi hit hl hS hT hTS hTw hr hR
    have hin : i = ads.length := by omega
    subst hin
    refine codeAny_builtin PySem.F.entry_sum_loop ?_
    rw [Around.under_plainId PySem.F.plain_sum_loop _]
    show wpAny _ A.in1 (seqItems? (.ref S) >>= _) _ _ s
    refine wpAny_bind (wpAny_seqItems hS rfl ?_)
    show wpAny _ A.in1 (tryCatch (pyNext (.ref it)) _ >>= _) _ _ s
    refine wpAny_bind (wpAny_tryCatch (wpAny_pyNext_list_end hh1 hit hl (by simp) fun h' he => ?_))
    exact wpAny_pure (hR h' _ tot (fun b o hb _ e => he b o hb e) (fun _ => rfl) fun z => absurd z (Nat.lt_irrefl _))
  | succ k ih =>
    intro i s tot c hk hi hit hl hS hT hTS hTw hr hR
    have hlt : i < ads.length := by omega
    obtain ⟨a, ha⟩ : ∃ a, ads[i]? = some a := ⟨_, List.getElem?_eq_getElem hlt⟩
    refine codeAny_builtin PySem.F.entry_sum_loop ?_
    rw [Around.under_plainId PySem.F.plain_sum_loop _]
    show wpAny _ A.in1 (seqItems? (.ref S) >>= _) _ _ s
    refine wpAny_bind (wpAny_seqItems hS rfl ?_)
    show wpAny _ A.in1 (tryCatch (pyNext (.ref it)) _ >>= _) _ _ s
    refine wpAny_bind (wpAny_tryCatch (wpAny_pyNext_list_item hit hl (x := .ref a) (by simp [ha]) fun h' hit' hsb => ?_))
    have hk' : ∀ b o, b ≠ it → s.heap.get? b = some o → h'.get? b = some o := fun b o hb e => (hsb.2 b hb).trans e
    have hS' := hk' S _ hSit hS
    have hT' : IsL h' tot (preL rows i) := hT.keep fun o e => hk' _ _ hTw e
    obtain ⟨hr1, hr2, hr3⟩ := hr i a ha
    have hr' : IsL h' a (rows i) := hr1.keep fun o e => hk' _ _ hr3 e
    have hzz : (preL rows i).length + (rows i).length ≤ sizeLine := by
      have := preL_le rows (i := i + 1) (n := ads.length) (by omega)
      rw [preL_succ, List.length_append] at this
      omega
    show wpAny _ A.in1 ((holding [Value.ref a] (binaryOp .Add (.ref tot) (.ref a))).attempt >>= _) _ _ _
    refine wpAny_bind (wpAny_attempt (wpAny_holding (add_lists hT' hr' hzz ?_)))
    have ob : ∃ o : Obj, o = { cls := .type "list", data := .seq (preL rows i ++ rows i).toArray } := ⟨_, rfl⟩
    obtain ⟨o, ho⟩ := ob
    rw [← ho]
    have hS1 : (h'.push o).get? S = some { cls := .type "list", dict := none, data := .seq #[.ref tot] c, slots := #[] } := Heap.get?_push_of_some _ hS'
    refine wpAny_bind (wpAny_updateSeq hS1 rfl ?_)
    have hS2 := Heap.get?_update_self (Obj.mapSeq fun _ => #[Value.ref h'.objs.size]) hS1 rfl
    refine wpAny_bind (wpAny_letGo ?_)
    have ltS : S < h'.objs.size := Heap.lt_size hS'
    have ltI : it < h'.objs.size := by obtain ⟨_, e, _⟩ := hit'; exact Heap.lt_size e
    have ltL : l < h'.objs.size := by obtain ⟨_, e, _⟩ := hl; rw [hsb.1]; exact Heap.lt_size e
    refine wpAny_bind (wpAny_updateSeq hS2 rfl (wpAny_pure ⟨plainId_quiet PySem.F.plain_sum_loop _, ?_⟩))
    have keep : ∀ b o', b ≠ S → (h'.push o).get? b = some o' → (((h'.push o).update S (Obj.mapSeq fun _ => #[Value.ref h'.objs.size])).update S (Obj.mapSeq fun _ => #[Value.ref h'.objs.size])).get? b = some o' := fun b o' hb e =>
      (Heap.get?_update_other _ _ (Ne.symm hb)).trans ((Heap.get?_update_other _ _ (Ne.symm hb)).trans e)
    have hS3 := Heap.get?_update_self (Obj.mapSeq fun _ => #[Value.ref h'.objs.size]) hS2 rfl
    have hq : (((h'.push o).update S (Obj.mapSeq fun _ => #[Value.ref h'.objs.size])).update S (Obj.mapSeq fun _ => #[Value.ref h'.objs.size])).get? h'.objs.size = some o := keep _ _ (Ne.symm (Nat.ne_of_lt ltS)) (Heap.get?_push_size _ (by rw [ho]; rfl))
    have up : ∀ b o', b ≠ it → b ≠ S → s.heap.get? b = some o' → (((h'.push o).update S (Obj.mapSeq fun _ => #[Value.ref h'.objs.size])).update S (Obj.mapSeq fun _ => #[Value.ref h'.objs.size])).get? b = some o' := fun b o' h1 h2 e => keep b o' h2 (Heap.get?_push_of_some _ (hk' b o' h1 e))
    have oP : o = { cls := .type "list", data := .seq (preL rows (i + 1)).toArray } := by rw [ho, preL_succ]
    have hq2 := hq.trans (congrArg some oP)
    refine ih (i + 1) _ h'.objs.size _ (by omega) hlt (hit'.at fun o' e => keep _ _ (Ne.symm hSit) (Heap.get?_push_of_some _ e)) (hl.at fun o' e => up _ _ hli (Ne.symm hSl) e) hS3 ⟨0, none, #[], hq2⟩ (Ne.symm (Nat.ne_of_lt ltS)) (Ne.symm (Nat.ne_of_lt ltI)) (fun j b hb => ?_) fun h'' tk'' tot'' h1 h2 h3 => ?_
    · obtain ⟨q1, q2, q3⟩ := hr j b hb
      exact ⟨q1.keep fun o' e => up _ _ q3 q2 e, q2, q3⟩
    · refine hR h'' tk'' tot'' (fun b o' hb1 hb2 e => h1 b o' hb1 hb2 (up b o' hb1 hb2 e)) (fun z => absurd hlt (by omega)) fun _ => ?_
      by_cases he : i + 1 = ads.length
      · have e1 := h2 he
        subst e1
        refine ⟨?_, Nat.le_of_eq hsb.1.symm⟩
        have := h1 _ _ (Ne.symm (Nat.ne_of_lt ltI)) (Ne.symm (Nat.ne_of_lt ltS)) hq
        rw [this, oP, he]
      · obtain ⟨g1, g2⟩ := h3 (by omega)
        refine ⟨g1, Nat.le_trans ?_ g2⟩
        have : h'.objs.size < (((h'.push o).update S (Obj.mapSeq fun _ => #[Value.ref h'.objs.size])).update S (Obj.mapSeq fun _ => #[Value.ref h'.objs.size])).objs.size := Heap.lt_size hq
        exact Nat.le_of_lt (Nat.lt_of_le_of_lt (Nat.le_of_eq hsb.1.symm) this)
/-- sum(l, b): l a list of lists, b an empty list -/
theorem sum_lists {E : Value → Shared → Prop} {Q : Value → Shared → Prop} {s : Shared} (hh : A.handled = none) {l b : Addr} {ads : List Addr} {rows : Nat → List Value} (hl : s.heap.IsList l (ads.map Value.ref).toArray) (hb : IsL s.heap b []) (hr : ∀ j a, ads[j]? = some a → IsL s.heap a (rows j)) (hz : (preL rows ads.length).length ≤ sizeLine)
    (h : ∀ h' tk tot, (∀ a o, s.heap.get? a = some o → h'.get? a = some o) → (ads = [] → tot = b) → (ads ≠ [] → h'.get? tot = some { cls := .type "list", data := .seq (preL rows ads.length).toArray } ∧ s.heap.objs.size ≤ tot) → Q (.ref tot) { s with heap := h', toks := tk }) :
    wpAny (model prog w) A (call (.builtin "sum") [.ref l, .ref b]) Q E s := by
  refine call_function_tree PySem.F.kind_sum PySem.F.plain_sum PySem.F.entry_sum (args_sum2 _ _) ?_
  unfold Builtin.«sum»
  simp only [List.length_cons, List.length_nil]
  rw [if_neg (by decide)]
  refine wpAny_bind (wpAny_of_eq (show Builtin.Builtins.bindParams "sum" ["start"] 0 { pos := [Value.ref b] } = pure [some (Value.ref b)] from rfl) ?_)
  refine wpAny_bind (PySem.Flt.iter_list_ hl fun s₂ e st hfp hlI => ?_)
  refine wpAny_bind (wpAny_pure ?_)
  subst e
  have hlt : l < s.heap.objs.size := by obtain ⟨_, e, _⟩ := hl; exact Heap.lt_size e
  obtain ⟨n0, dd0, sl0, hb0⟩ := hb
  have hb2 : (s.heap.push ({ cls := .type "list_iterator", data := .fields #[.ref l, .int 0 0] } : Obj)).get? b = some { cls := .type "list", dict := dd0, data := .seq ([] : List Value).toArray n0, slots := sl0 } := Heap.get?_push_of_some _ hb0
  simp only [List.forIn_cons, List.forIn_nil]
  refine wpAny_bind (wpAny_bind (wpAny_bind (wpAny_isInstance (T := "list") (b := false) ⟨_, hb2, rfl⟩ sub_list_str ?_)))
  simp only [Bool.false_eq_true, if_false]
  refine wpAny_pure (wpAny_bind (wpAny_bind (wpAny_isInstance (T := "list") (b := false) ⟨_, hb2, rfl⟩ sub_list_bytes ?_)))
  simp only [Bool.false_eq_true, if_false]
  refine wpAny_pure (wpAny_bind (wpAny_bind (wpAny_isInstance (T := "list") (b := false) ⟨_, hb2, rfl⟩ sub_list_bytearray ?_)))
  simp only [Bool.false_eq_true, if_false]
  refine wpAny_pure (wpAny_pure ?_)
  refine wpAny_bind (wpAny_newObj_type ?_)
  have ltb : b < s.heap.objs.size := Heap.lt_size hb0
  have sz2 : s.heap.objs.size < (s.heap.push ({ cls := .type "list_iterator", data := .fields #[.ref l, .int 0 0] } : Obj)).objs.size := by rw [Heap.size_push]; exact Nat.lt_succ_self _
  have up2 : ∀ (o : Obj) a u, s.heap.get? a = some u → ((s.heap.push ({ cls := .type "list_iterator", data := .fields #[.ref l, .int 0 0] } : Obj)).push o).get? a = some u := fun o a u e => Heap.get?_push_of_some _ (Heap.get?_push_of_some _ e)
  refine wpAny_pure ⟨plainId_quiet PySem.F.plain_sum_loop _, codeAny_sum_loopL hh (it := s.heap.objs.size) (l := l) (ads := ads) (rows := rows) (Ne.symm (Nat.ne_of_lt sz2)) (Ne.symm (Nat.ne_of_lt (Nat.lt_trans hlt sz2))) hlI hz ads.length 0 _ b _ (by omega) (Nat.zero_le _) (PySem.Heap.IsListIter.at st.1 fun _ e => Heap.get?_push_of_some _ e) (PySem.Heap.IsList.at st.2 fun _ e => Heap.get?_push_of_some _ e) (Heap.get?_push_size _ rfl) ⟨n0, dd0, sl0, up2 _ _ _ hb0⟩ (Nat.ne_of_lt (Nat.lt_trans ltb sz2)) (Nat.ne_of_lt ltb) (fun j a ha => ?_) fun h' tk tot h1 h2 h3 => ?_⟩
  · obtain ⟨n1, d1, s1, e1⟩ := hr j a ha
    exact ⟨⟨n1, d1, s1, up2 _ _ _ e1⟩, Nat.ne_of_lt (Nat.lt_trans (Heap.lt_size e1) sz2), Nat.ne_of_lt (Heap.lt_size e1)⟩
  · refine h h' tk tot (fun a o e => h1 a o (Nat.ne_of_lt (Heap.lt_size e)) (Nat.ne_of_lt (Nat.lt_trans (Heap.lt_size e) sz2)) (up2 _ _ _ e)) (fun z => h2 (by rw [z]; rfl)) fun z => ?_
    have hl0 : 0 < ads.length := by
      cases ads with
      | nil => exact absurd rfl z
      | cons _ _ => exact Nat.succ_pos _
    obtain ⟨g1, g2⟩ := h3 hl0
    refine ⟨g1, Nat.le_trans ?_ g2⟩
    exact Nat.le_of_lt (Heap.lt_size (Heap.get?_push_of_some _ (Heap.get?_push_size s.heap rfl)))
end

section
variable {X : Cx}
theorem vals_flat {rows : List (List V)} {rv : Nat → List Value} (hv : ∀ (i : Nat) (row : List V), rows[i]? = some row → Vals row (rv i)) : ∀ n, n ≤ rows.length → Vals (rows.take n).flatten (preL rv n)
  | 0, _ => .nil
  | n + 1, h => by
    have ih := vals_flat hv n (by omega)
    have e : rows[n]? = some rows[n] := List.getElem?_eq_getElem (by omega)
    rw [List.take_succ, e, preL_succ, List.flatten_append]
    simpa using ih.append (hv n _ e)
/-- sum(l, b), l a list of lists, b an empty list -/
def rSumL (K : PySem.W.Frag) : List V → Hp → VK → Prop := fun vs H Q => ∃ (l b : Addr) (ads : List Addr) (rows : List (List V)), vs = [.ref l, .ref b] ∧ SqL K H l (ads.map V.ref) ∧ H b = some (.lst []) ∧ rows.length = ads.length ∧ (∀ (i : Nat) (ad : Addr) (row : List V), ads[i]? = some ad → rows[i]? = some row → SqL K H ad row) ∧ rows.flatten.length ≤ sizeLine ∧
      (ads = [] → Q (.ref b) H) ∧ (ads ≠ [] → ∀ p, H p = none → Q (.ref p) (upd H p (.lst rows.flatten)))
theorem cr_sumL (hc : X.calm = true) : CallR X (.builtin "sum") (rSumL X.K) := by
  intro pins s σ H xs us Q I rr q
  obtain ⟨l, b, ads, rows, rfl, hl, hb, hrl, hrs, hz, q1, q2⟩ := q
  obtain ⟨its, rv, hli, _⟩ := I.list hl
  obtain ⟨u1, u2, rfl⟩ : ∃ u1 u2, us = [u1, u2] := by
    have := rr.length
    match us, this with
    | [u1, u2], _ => exact ⟨u1, u2, rfl⟩
  obtain ⟨r1, r2⟩ : L2.RelV (.ref l) u1 ∧ L2.RelV (.ref b) u2 := by
    cases rr with
    | cons a c => cases c with
      | cons d _ => exact ⟨a, d⟩
  obtain rfl : u1 = Value.ref l := r1
  obtain rfl : u2 = Value.ref b := r2
  have eits : its = ads.map Value.ref := by
    have : ∀ {as : List Addr} {us : List Value}, Vals (as.map V.ref) us → us = as.map Value.ref := by
      intro as
      induction as with
      | nil => intro us h; cases h; rfl
      | cons a as ih =>
        intro us h
        cases h with
        | cons r t =>
          rw [ih t, List.map_cons]
          exact congrArg (· :: _) r
    exact this rv
  subst eits
  have all : ∀ (i : Nat), ∃ its : List Value, ∀ (ad : Addr) (row : List V), ads[i]? = some ad → rows[i]? = some row → Vals row its ∧ IsL s.heap ad its := fun i => by
    cases ha : ads[i]? with
    | none => exact ⟨[], fun ad row z => by cases z⟩
    | some ad =>
      cases hr : rows[i]? with
      | none => exact ⟨[], fun ad row _ z => by cases z⟩
      | some row =>
        obtain ⟨its, q, hp, _⟩ := I.list (hrs i ad row ha hr)
        refine ⟨its, fun ad' row' e1 e2 => ?_⟩
        cases e1; cases e2
        obtain ⟨⟨cls, dd, data, sl⟩, n, ho, hc, _, hd⟩ := hp
        simp only at hc hd
        subst hc hd
        exact ⟨q, n, dd, sl, ho⟩
  let rv2 : Nat → List Value := fun i => Classical.choose (all i)
  have hrv2 : ∀ (i : Nat) (ad : Addr) (row : List V), ads[i]? = some ad → rows[i]? = some row → Vals row (rv2 i) ∧ IsL s.heap ad (rv2 i) := fun i => Classical.choose_spec (all i)
  have at_ : ∀ (i : Nat) (row : List V), rows[i]? = some row → ∃ ad, ads[i]? = some ad := fun i row e => ⟨_, List.getElem?_eq_getElem (by rw [← hrl]; exact (List.getElem?_eq_some_iff.mp e).1)⟩
  have at2 : ∀ (i : Nat) (ad : Addr), ads[i]? = some ad → ∃ row, rows[i]? = some row := fun i ad e => ⟨_, List.getElem?_eq_getElem (by rw [hrl]; exact (List.getElem?_eq_some_iff.mp e).1)⟩
  have hfl : Vals rows.flatten (preL rv2 ads.length) := by
    have := vals_flat (rows := rows) (rv := rv2) (fun i row e => let ⟨ad, ha⟩ := at_ i row e; (hrv2 i ad row ha e).1) rows.length (Nat.le_refl _)
    rw [List.take_length, hrl] at this
    exact this
  obtain ⟨_, bits, nb, bq, _, be⟩ := I.lstM hb
  have hbe : bits = [] := by cases bq; rfl
  subst hbe
  refine sum_lists (I.ok.hd hc) hli.isList ⟨nb, none, #[], be⟩ (rows := rv2) (fun j a ha => let ⟨row, hr⟩ := at2 j a ha; (hrv2 j a row ha hr).2) (by rw [← hfl.length]; exact hz) fun h' tk tot hk h1 h2 => ?_
  by_cases ha : ads = []
  · rw [h1 ha]
    exact ⟨.ref b, H, I.kept hk, rfl, q1 ha⟩
  · obtain ⟨g1, g2⟩ := h2 ha
    have nH : H tot = none := I.hok.fresh g2
    exact ⟨.ref tot, _, I.laid (o := .lst rows.flatten) hk g2 ⟨hz, _, 0, hfl, g1⟩, rfl, q2 ha tot nH⟩
end
end SumL

set_option maxRecDepth 100000
set_option maxHeartbeats 4000000
/-! DL27: the checker: the operands of an operation; all of them keep their promise. -/
namespace DL
open PySem PySem.Spec L2

def binOf : Pr → Option Operator
  | .add => some .Add
  | .sub => some .Sub
  | .mul => some .Mult
  | .fdiv => some .FloorDiv
  | .mod => some .Mod
  | .pow => some .Pow
  | _ => none
def callOf : Pr → Option String
  | .len => some "len"
  | .tuple => some "tuple"
  | .list => some "list"
  | .all => some "all"
  | .any => some "any"
  | .sum => some "sum"
  | .abs => some "abs"
  | .int => some "int"
  | .str => some "str"
  | .repr => some "repr"
  | _ => none
def call2Of : Pr → Option String
  | .min2 => some "min"
  | .max2 => some "max"
  | _ => none
def tyOk (T : String) : Bool := T == "int" || T == "bool" || T == "str" || T == "tuple" || T == "list" || T == "dict"
def opsX (C : Cst) : Pr → Expr → Option (List Expr)
  | .tup, .Tuple es _ _ => some es
  | .lst, .List es _ => some es
  | .neg, .UnaryOp .USub a _ => some [a]
  | .isN, .Compare a [.Is] [.Constant .none _ _] _ => some [a]
  | .notN, .Compare a [.IsNot] [.Constant .none _ _] _ => some [a]
  | .ix, .Subscript a b _ => if notSlice b then some [a, b] else none
  | .sl false false, .Subscript a (.Slice none none none _) _ => some [a]
  | .sl true false, .Subscript a (.Slice (some l) none none _) _ => some [a, l]
  | .sl false true, .Subscript a (.Slice none (some h) none _) _ => some [a, h]
  | .rev, .Subscript a (.Slice none none (some (.UnaryOp .USub (.Constant (.int 1) _ _) _)) _) _ => some [a]
  | .sumL, .Call (.Name x _) [a, .List [] _] [] _ => if bltB C x "sum" then some [a] else none
  | .dct, .Dict [] [] _ => some []
  | .isi T, .Call (.Name x _) [a, .Name y _] [] _ => if bltB C x "isinstance" && bltB C y T && tyOk T then some [a] else none
  | _, _ => none
/-- the operands of e as this operation -/
def opsOf (C : Cst) (op : Pr) (e : Expr) : Option (List Expr) := match binOf op with
  | some b => match e with
    | .BinOp a b' c _ => if b' = b then some [a, c] else none
    | _ => none
  | none => match cmpOf op with
    | some co => match e with
      | .Compare a [co'] [b] _ => if co' = co ∧ behindInMarks co b = false then some [a, b] else none
      | _ => none
    | none => match callOf op with
      | some nm => match e with
        | .Call (.Name x _) [a] [] _ => if bltB C x nm then some [a] else none
        | _ => none
      | none => match call2Of op with
        | some nm => match e with
          | .Call (.Name x _) [a, b] [] _ => if bltB C x nm then some [a, b] else none
          | _ => none
        | none => opsX C op e
section
variable {C : Cst} {n : Nat} {Wx : WX} {X : Cx}
theorem plain_ix {b : Expr} (h : notSlice b = true) : PlainIx b := by
  cases b <;> first | (intro _ _; rfl) | simp [notSlice] at h
theorem bin_prim (o : Okx C n Wx X) {op : Pr} {b : Operator} (h : binOf op = some b) {a c : Expr} {pos : Pos} : isPure op = true ∧ PrimE C X (.BinOp a b c pos) [a, c] op := by
  have hK : C.M.K = X.K := o.KK
  have z0 : ∀ {b : Operator}, C.M.K = X.K → OpR X (binaryOp b) r0 := fun _ => op0
  cases op <;> simp only [binOf, Option.some.injEq] at h <;> first | cases h | skip
  · exact ⟨rfl, prim2 pr_add z0 (fun r ho => rule_bin (ho hK)) sem_add⟩
  · exact ⟨rfl, prim2 pr_sub op0 (fun r ho => rule_bin ho) sem_sub⟩
  · exact ⟨rfl, prim2 pr_mul z0 (fun r ho => rule_bin (ho hK)) sem_mul⟩
  · exact ⟨rfl, prim2 pr_fdiv op0 (fun r ho => rule_bin ho) sem_fdiv⟩
  · exact ⟨rfl, prim2 pr_mod op0 (fun r ho => rule_bin ho) sem_mod⟩
  · exact ⟨rfl, prim2 pr_pow op0 (fun r ho => rule_bin ho) sem_pow⟩
theorem cmp_prim (o : Okx C n Wx X) {op : Pr} {co : CmpOp} (h : cmpOf op = some co) {a b : Expr} {pos : Pos} (hm : behindInMarks co b = false) : isPure op = true ∧ PrimE C X (.Compare a [co] [b] pos) [a, b] op ∧ PrimT C X (.Compare a [co] [b] pos) [a, b] op := by
  obtain ⟨h1, h2, h3, h4⟩ := cmp_sem o h
  exact ⟨h1, prim2 h2 op0 (fun r ho => rule_cmp ho hm) h4, primT2 h3 h2 op0 (fun r ho => rule_cmpT ho hm) h4⟩
theorem call_prim (o : Okx C n Wx X) {op : Pr} {nm : String} (h : callOf op = some nm) {a : Expr} {x : Str} {p pos : Pos} (hx : bltB C x nm = true) (hs : [a].all notStar = true) : isPure op = true ∧ PrimE C X (.Call (.Name x p) [a] [] pos) [a] op := by
  have hK : C.M.K = X.K := o.KK
  obtain ⟨rfl, hg, hm⟩ := bltB_ok o hx
  have hu : X.A.units + 64 < cLine := by have := o.hu; omega
  have B : ∀ {id : String} {r : R1}, CallR X (.builtin id) (r1v r) → bootBuiltins (so nm) = some (.builtin id) → so nm ≠ "__name__" → (so nm == ("__debug__" : Str)) = false → ∀ {σ : L2.St} {H : Hp} {Q : VK}, WAs X [a] σ H (fun vs H1 => r1v r vs H1 Q) → WE X (.Call (.Name (so nm) p) [a] [] pos) σ H Q := fun c hv hn hd => rule_callB c hg hm hv hn hd hs
  have T : ∀ {id : String} {r : R1}, CallR X (.type id) (r1v r) → bootBuiltins (so nm) = some (.type id) → so nm ≠ "__name__" → (so nm == ("__debug__" : Str)) = false → ∀ {σ : L2.St} {H : Hp} {Q : VK}, WAs X [a] σ H (fun vs H1 => r1v r vs H1 Q) → WE X (.Call (.Name (so nm) p) [a] [] pos) σ H Q := fun c hv hn hd => rule_callT c hg hm hv hn hd hs
  cases op <;> simp only [callOf, Option.some.injEq] at h <;> first | cases h | skip
  · exact ⟨rfl, prim1 pr_len (fun _ => call_0) (fun r ho => B (ho hK) b_len (by decide +kernel) (by decide +kernel)) sem_len⟩
  · exact ⟨rfl, prim1 pr_tuple (fun _ => call_0) (fun r ho => T (ho hK) b_tuple (by decide +kernel) (by decide +kernel)) sem_tuple⟩
  · exact ⟨rfl, prim1 pr_list (fun _ => call_0) (fun r ho => T (ho hK) b_list (by decide +kernel) (by decide +kernel)) sem_list⟩
  · exact ⟨rfl, prim1 pr_all (fun _ => call_0) (fun r ho => B (ho hK) b_all (by decide +kernel) (by decide +kernel)) (sem_all o.calm)⟩
  · exact ⟨rfl, prim1 pr_any (fun _ => call_0) (fun r ho => B (ho hK) b_any (by decide +kernel) (by decide +kernel)) (sem_any o.calm)⟩
  · exact ⟨rfl, prim1 pr_sum (fun _ => call_0) (fun r ho => B (ho hK) b_sum (by decide +kernel) (by decide +kernel)) (sem_sum o.calm)⟩
  · exact ⟨rfl, prim1 pr_abs call_0 (fun r ho => B ho b_abs (by decide +kernel) (by decide +kernel)) sem_abs⟩
  · exact ⟨rfl, prim1 pr_int call_0 (fun r ho => T ho b_int (by decide +kernel) (by decide +kernel)) sem_int⟩
  · exact ⟨rfl, prim1 pr_str call_0 (fun r ho => T ho b_str (by decide +kernel) (by decide +kernel)) sem_str⟩
  · exact ⟨rfl, prim1 pr_repr (fun _ => call_0) (fun r ho => B (ho hK) b_repr (by decide +kernel) (by decide +kernel)) (sem_repr o.room.g hu)⟩
theorem call2_prim (o : Okx C n Wx X) {op : Pr} {nm : String} (h : call2Of op = some nm) {a b : Expr} {x : Str} {p pos : Pos} (hx : bltB C x nm = true) (hs : [a, b].all notStar = true) : isPure op = true ∧ PrimE C X (.Call (.Name x p) [a, b] [] pos) [a, b] op := by
  obtain ⟨rfl, hg, hm⟩ := bltB_ok o hx
  cases op <;> simp only [call2Of, Option.some.injEq] at h <;> first | cases h | skip
  · exact ⟨rfl, prim2 pr_min2 call_0' (fun r ho => rule_callB ho hg hm b_min (by decide +kernel) (by decide +kernel) hs) (sem_min2 o.calm)⟩
  · exact ⟨rfl, prim2 pr_max2 call_0' (fun r ho => rule_callB ho hg hm b_max (by decide +kernel) (by decide +kernel) hs) (sem_max2 o.calm)⟩
theorem ty_boot {T : String} (h : tyOk T = true) : bootBuiltins (so T) = some (.type T) ∧ so T ≠ "__name__" ∧ (so T == ("__debug__" : Str)) = false := by
  unfold tyOk at h
  simp only [Bool.or_eq_true, beq_iff_eq] at h
  rcases h with ((((h | h) | h) | h) | h) | h <;> subst h <;> decide +kernel
theorem isN_prim (o : Okx C n Wx X) {a : Expr} {j : Nat} {p pos : Pos} : PrimE C X (.Compare a [.Is] [.Constant .none j p] pos) [a] .isN ∧ PrimT C X (.Compare a [.Is] [.Constant .none j p] pos) [a] .isN := by
  have z : ∃ r, (r10 : R1) = rN1 r ∧ OpR X (compareOp .Is) r := ⟨r0, rfl, op0⟩
  have hb : ∀ a l, pd .isN [a] = some l → ∃ k, l = .d (.bool k) := fun a l h => (isN_cases h).elim (fun z => ⟨_, z.2⟩) fun z => ⟨_, z.2⟩
  exact ⟨prim1 pr_isN z (fun r ⟨r', e, ho⟩ => by subst e; exact rule_isN ho rfl) sem_isN, primT1 hb pr_isN z (fun r ⟨r', e, ho⟩ => by subst e; exact rule_isNT ho rfl) sem_isN⟩
theorem notN_prim (o : Okx C n Wx X) {a : Expr} {j : Nat} {p pos : Pos} : PrimE C X (.Compare a [.IsNot] [.Constant .none j p] pos) [a] .notN ∧ PrimT C X (.Compare a [.IsNot] [.Constant .none j p] pos) [a] .notN := by
  have z : ∃ r, (r10 : R1) = rN1 r ∧ OpR X (compareOp .IsNot) r := ⟨r0, rfl, op0⟩
  have hb : ∀ a l, pd .notN [a] = some l → ∃ k, l = .d (.bool k) := fun a l h => (notN_cases h).elim (fun z => ⟨_, z.2⟩) fun z => ⟨_, z.2⟩
  exact ⟨prim1 pr_notN z (fun r ⟨r', e, ho⟩ => by subst e; exact rule_isN ho rfl) sem_notN, primT1 hb pr_notN z (fun r ⟨r', e, ho⟩ => by subst e; exact rule_isNT ho rfl) sem_notN⟩
def rRevL (K : PySem.W.Frag) : R1 := fun x H Q => ∃ a xs, x = .ref a ∧ SqL K H a xs ∧ ∀ p, H p = none → Q (.ref p) (upd H p (.lst xs.reverse))
def rRevT (K : PySem.W.Frag) : R1 := fun x H Q => ∃ a xs, x = .ref a ∧ SqT K H a xs ∧ ∀ p, H p = none → Q (.ref p) (upd H p (.tup xs.reverse))
theorem rev_prim (hK : C.M.K = X.K) {a : Expr} {k : Nat} {p1 p2 p3 pos : Pos} : PrimE C X (.Subscript a (.Slice none none (some (.UnaryOp .USub (.Constant (.int 1) k p1) p2)) p3) pos) [a] .rev := by
  refine prim1 (ok := fun r => r = rRevL X.K ∨ r = rRevT X.K ∨ r = r10) (one_mk rfl fun _ _ _ => rfl) (.inr (.inr rfl)) (fun r hr {σ H Q} h => ?_) (fun l1 l h => ?_)
  · rcases hr with rfl | rfl | rfl
    · exact we_of (pe_revL pe_we) (show tRevL X.K (WE X a) σ H Q from h)
    · exact we_of (TRev.pe_revT pe_we) (show TRev.tRevT X.K (WE X a) σ H Q from h)
    · exact we_of (pe_revL pe_we) (WE.mono (show WE X a σ H fun x H1 => r10 x H1 Q from h) fun _ _ z => z.elim)
  · match l1, h with
    | .d (.tuple xs), h =>
      cases h
      refine ⟨_, .inr (.inl rfl), fun v A H Q c k => ?_⟩
      obtain ⟨a, us, rfl, s, r⟩ := co_tup c
      obtain ⟨bs, rr, i⟩ := r.reverse
      exact ⟨a, us, rfl, hK ▸ s, fun p hp => k.tup hp rr i⟩
    | .d (.list xs), h =>
      cases h
      refine ⟨_, .inl rfl, fun v A H Q c k => ?_⟩
      obtain ⟨a, us, bs, rfl, s, r, i0⟩ := co_seqL c (.inl rfl)
      obtain ⟨cs, rr, i⟩ := r.reverse
      exact ⟨a, us, rfl, hK ▸ s, fun p hp => k.lst hp rr fun b hb => i0 b (i b hb)⟩
    | .ls xs, h =>
      cases h
      refine ⟨_, .inl rfl, fun v A H Q c k => ?_⟩
      obtain ⟨a, us, bs, rfl, s, r, i0⟩ := co_seqL c (.inr rfl)
      obtain ⟨cs, rr, i⟩ := r.reverse
      exact ⟨a, us, rfl, hK ▸ s, fun p hp => k.lst hp rr fun b hb => i0 b (i b hb)⟩
def rSum1 (K : PySem.W.Frag) : R1 := fun x H Q => ∃ (l : Addr) (ads : List Addr) (rows : List (List V)), x = .ref l ∧ SqL K H l (ads.map V.ref) ∧ rows.length = ads.length ∧ (∀ (i : Nat) (ad : Addr) (row : List V), ads[i]? = some ad → rows[i]? = some row → SqL K H ad row) ∧ rows.flatten.length ≤ sizeLine ∧
  ∀ p0, H p0 = none → (ads = [] → Q (.ref p0) (upd H p0 (.lst []))) ∧ (ads ≠ [] → ∀ p, p ≠ p0 → H p = none → Q (.ref p) (upd (upd H p0 (.lst [])) p (.lst rows.flatten)))
theorem SqL.same {K : PySem.W.Frag} {H H' : Hp} {a : Addr} {xs : List V} (s : Same H H') (h : SqL K H a xs) : SqL K H' a xs := by
  rcases h with (h | ⟨o, h⟩) | h
  · exact .inl (.inl (s _ _ h))
  · exact .inl (.inr ⟨o, s _ _ h⟩)
  · exact .inr h
theorem rule_sumL (hc : X.calm = true) (hK : C.M.K = X.K) {a : Expr} {x : Str} {p p1 pos : Pos} (hg : X.env.kindOf x = some .globalImplicit) (hm : X.mg x = none) (hx : x = "sum") (hs : notStar a = true) {σ : L2.St} {H : Hp} {Q : VK} (h : WAs X [a] σ H (fun vs H1 => r1v (rSum1 X.K) vs H1 Q)) :
    WE X (.Call (.Name x p) [a, .List [] p1] [] pos) σ H Q := by
  subst hx
  have pa : PA X [a, .List [] p1] (tCons (WE X a) (tCons (tLst tNil) tNil)) := pa_cons pe_we (pa_cons (pe_lst pa_nil) pa_nil) (star_each hs)
  refine we_of (pe_callB (SumL.cr_sumL hc) hg hm PyProof.Rows.boot_sum pa (by decide) (by decide) (star_each hs) rfl) (show WE X a σ H _ from WE.mono (show WE X a σ H fun x H1 => rSum1 X.K x H1 Q from h) fun v H1 q => ?_)
  obtain ⟨l, ads, rows, rfl, hl, hrl, hrs, hz, q⟩ := q
  refine (show [].length ≤ sizeLine ∧ ∀ p0, H1 p0 = none → _ from ⟨Nat.zero_le _, fun p0 hp => ?_⟩)
  have sm := same_upd (o := HO.lst []) hp
  refine ⟨l, p0, ads, rows, rfl, SqL.same sm hl, upd_same, hrl, fun i ad row h1 h2 => SqL.same sm (hrs i ad row h1 h2), hz, (q p0 hp).1, fun ha p hp2 => (q p0 hp).2 ha p (fun e => ?_) ?_⟩
  · subst e; rw [upd_same] at hp2; cases hp2
  · by_cases e : p = p0
    · subst e; exact hp
    · rw [upd_ne e] at hp2; exact hp2
theorem seqs_rep {K : PySem.W.Frag} {H : Hp} : ∀ {xs : List PyData} {ll : List (List PyData)} {vs : List V} {as : List Addr}, seqsOf xs = some ll → RepDs K H vs xs as →
    ∃ (ads : List Addr) (rows : List (List V)) (bs : List Addr), vs = ads.map V.ref ∧ rows.length = ads.length ∧ (∀ (i : Nat) (ad : Addr) (row : List V), ads[i]? = some ad → rows[i]? = some row → SqL K H ad row) ∧ RepDs K H rows.flatten ll.flatten bs ∧ (∀ a ∈ bs, a ∈ as) ∧ (ads = [] → ll = [])
  | [], ll, vs, as, e, r => by
    cases e; cases r
    exact ⟨[], [], [], rfl, rfl, fun i ad row h => by simp at h, .nil, by simp, fun _ => rfl⟩
  | x :: xs, ll, vs, as, e, r => by
    cases r with
    | @cons v vs _ _ as1 bs1 r1 r2 =>
      unfold seqsOf at e
      split at e
      · rename_i h; cases h
      · rename_i b r0 h
        cases h
        obtain ⟨l0, hl0, rfl⟩ := Option.map_eq_some_iff.mp e
        obtain ⟨ads, rows, bs, rfl, q1, q2, q3, q4, q5⟩ := seqs_rep hl0 r2
        obtain ⟨a, row, cs, rfl, s1, s2, s3⟩ := r1.lst_inv
        refine ⟨a :: ads, row :: rows, cs ++ bs, rfl, by simp [q1], fun i ad rw' h1 h2 => ?_, by simpa using s2.append q3, fun y hy => (List.mem_append.mp hy).elim (fun h => List.mem_append_left _ (s3 y h)) fun h => List.mem_append_right _ (q4 y h), fun z => by cases z⟩
        cases i with
        | zero => simp at h1 h2; subst h1 h2; exact s1
        | succ i => exact q2 i ad rw' (by simpa using h1) (by simpa using h2)
      · cases e
theorem sumL_prim (hc : X.calm = true) (hK : C.M.K = X.K) {a : Expr} {x : Str} {p p1 pos : Pos} (hg : X.env.kindOf x = some .globalImplicit) (hm : X.mg x = none) (hx : x = "sum") (hs : notStar a = true) : PrimE C X (.Call (.Name x p) [a, .List [] p1] [] pos) [a] .sumL := by
  refine prim1 (ok := fun r => r = rSum1 X.K ∨ r = r10) (one_mk rfl fun _ _ _ => rfl) (.inr rfl) (fun r hr {σ H Q} h => ?_) (fun l1 l h => ?_)
  · rcases hr with rfl | rfl
    · exact rule_sumL hc hK hg hm hx hs h
    · exact rule_sumL hc hK hg hm hx hs (WE.mono (show WE X a σ H fun x H1 => r10 x H1 Q from h) fun _ _ z => z.elim)
  · match l1, h with
    | .ls xs, h =>
      obtain ⟨ll, h1, h2⟩ := Option.bind_eq_some_iff.mp (show (seqsOf xs).bind (fun l => if l.flatten.length ≤ sizeLine then some (Fl.ls l.flatten) else none) = some l from h)
      split at h2
      · rename_i hz
        cases h2
        refine ⟨_, .inl rfl, fun v A H Q c k => ?_⟩
        obtain ⟨b, us, bs, rfl, s, r, i0⟩ := co_seqL c (.inr rfl)
        obtain ⟨ads, rows, cs, rfl, q1, q2, q3, q4, q5⟩ := seqs_rep h1 r
        refine ⟨b, ads, rows, rfl, hK ▸ s, q1, fun i ad row e1 e2 => hK ▸ q2 i ad row e1 e2, by rw [q3.length]; exact hz, fun p0 hp0 => ⟨fun ha => ?_, fun ha p hpp hp => ?_⟩⟩
        · have := q5 ha
          subst this
          exact k.lst hp0 .nil (as := []) (by simp)
        · have sm : Same H (upd (upd H p0 (.lst [])) p (.lst rows.flatten)) := fun b u e => same_upd (by rw [upd_ne hpp]; exact hp) _ _ (same_upd hp0 _ _ e)
          exact k _ _ [p] cs sm (.ls upd_same (q3.stay (Stay.ofSame sm (A := cs)) fun _ h => h)) (by simp [hp]) (by simp) fun a ha => .inl (i0 a (q4 a ha))
      · cases h2
theorem dct_prim {pos : Pos} : PrimE C X (.Dict [] [] pos) [] .dct := by
  refine ⟨fun σ H Q h => h.elim, fun ls l h => ?_⟩
  match ls, h with
  | [], h =>
    cases h
    refine ⟨fun vs H Q => vs = [] ∧ ∀ p, H p = none → Q (.ref p) (upd H p (.dK [])), fun σ H Q h => we_of pe_dnewK fun p hp => h.2 p hp, fun vs as H Q c k => ?_⟩
    cases c
    exact ⟨rfl, fun p hp => k _ _ [] [p] (same_upd hp) (.d (.dct (ks := []) (xs := []) (ds := []) upd_same rfl .nil)) (by simp) .nil fun a ha => by simp at ha; subst ha; exact .inr ⟨hp, by simp⟩⟩
/-- whose value is a bool, told by the form -/
def isCmp : Expr → Bool
  | .Compare _ _ _ _ => true
  | _ => false
/-- every operation of the text keeps its promise -/
theorem ops_ok (o : Okx C n Wx X) {op : Pr} {e : Expr} {os : List Expr} (h : opsOf C op e = some os) (hs : os.all notStar = true) : (isPure op = true ∧ PrimE C X e os op ∧ (isCmp e = true → PrimT C X e os op)) ∨ (op = .tup ∧ ∃ k p, e = .Tuple os k p) ∨ (op = .lst ∧ ∃ p, e = .List os p) := by
  have hK : C.M.K = X.K := o.KK
  unfold opsOf at h
  split at h
  · rename_i b hb
    split at h
    · rename_i a b' c pos
      split at h
      · rename_i e; subst e; cases h
        obtain ⟨h1, h2⟩ := bin_prim (a := a) (c := c) (pos := pos) o hb
        exact .inl ⟨h1, h2, fun z => by cases z⟩
      · cases h
    · cases h
  · split at h
    · rename_i co hco
      split at h
      · rename_i a co' b pos
        split at h
        · rename_i e; obtain ⟨e, hm⟩ := e; subst e; cases h
          obtain ⟨h1, h2, h3⟩ := cmp_prim (a := a) (pos := pos) o hco hm
          exact .inl ⟨h1, h2, fun _ => h3⟩
        · cases h
      · cases h
    · split at h
      · rename_i nm hnm
        split at h
        · rename_i x p a pos
          split at h
          · rename_i hx; cases h
            obtain ⟨h1, h2⟩ := call_prim (p := p) (pos := pos) o hnm hx hs
            exact .inl ⟨h1, h2, fun z => by cases z⟩
          · cases h
        · cases h
      · split at h
        · rename_i nm hnm
          split at h
          · rename_i x p a b pos
            split at h
            · rename_i hx; cases h
              obtain ⟨h1, h2⟩ := call2_prim (p := p) (pos := pos) o hnm hx hs
              exact .inl ⟨h1, h2, fun z => by cases z⟩
            · cases h
          · cases h
        · unfold opsX at h
          split at h
          · cases h; exact .inr (.inl ⟨rfl, _, _, rfl⟩)
          · cases h; exact .inr (.inr ⟨rfl, _, rfl⟩)
          · cases h
            exact .inl ⟨rfl, prim1 pr_neg un_0 (fun r ho => rule_un ho) sem_neg, fun z => by cases z⟩
          · cases h
            obtain ⟨h1, h2⟩ := isN_prim (n := n) (Wx := Wx) o
            exact .inl ⟨rfl, h1, fun _ => h2⟩
          · cases h
            obtain ⟨h1, h2⟩ := notN_prim (n := n) (Wx := Wx) o
            exact .inl ⟨rfl, h1, fun _ => h2⟩
          · split at h
            · rename_i hsl; cases h
              exact .inl ⟨rfl, prim2 (two_mk rfl (fun _ => rfl) fun _ _ _ _ => rfl) (fun _ => ix_0) (fun r ho => rule_ix (ho hK) (plain_ix hsl)) sem_ix, fun z => by cases z⟩
            · cases h
          · cases h; exact .inl ⟨rfl, prim_sl00 hK, fun z => by cases z⟩
          · cases h; exact .inl ⟨rfl, prim_sl10 hK, fun z => by cases z⟩
          · cases h; exact .inl ⟨rfl, prim_sl01 hK, fun z => by cases z⟩
          · cases h; exact .inl ⟨rfl, rev_prim hK, fun z => by cases z⟩
          · split at h
            · rename_i hx
              cases h
              obtain ⟨rfl, hg, hm⟩ := bltB_ok o hx
              exact .inl ⟨rfl, sumL_prim o.calm hK hg hm rfl (by simpa using hs), fun z => by cases z⟩
            · cases h
          · cases h; exact .inl ⟨rfl, dct_prim, fun z => by cases z⟩
          · rename_i T x p a y py pos
            split at h
            · rename_i hc
              cases h
              simp only [Bool.and_eq_true] at hc
              obtain ⟨rfl, hg, hm⟩ := bltB_ok o hc.1.1
              obtain ⟨rfl, hg2, hm2⟩ := bltB_ok o hc.1.2
              obtain ⟨t1, t2, t3⟩ := ty_boot hc.2
              exact .inl ⟨rfl, prim1 pr_isi ⟨true, .inr rfl⟩ (fun r ho => rule_isi hK hg hm rfl hg2 hm2 t1 t2 t3 (by simpa using hs) ho) sem_isi, fun z => by cases z⟩
            · cases h
          · cases h
end
end DL

set_option maxRecDepth 100000
set_option maxHeartbeats 4000000
/-! DL27b: a op b op c. -/
namespace DL
open PySem PySem.Spec L2

def chnM (p q : Pr) (xc : Ex) (mab : Rho → Out (List Tok)) (mc : Rho → Out Tok) : Rho → Out Tok := fun ρ => (mab ρ).bind fun ts ρ2 => match ts with
  | [ta, tb] => match (rds ρ2 [ta, tb]).bind (pd p) with
    | some (.d (.bool true)) => if isPf tb && !(noCall xc) then .no else (mc ρ2).bind fun tc ρ4 => match (rds ρ4 [tb, tc]).bind (pd q) with
      | some l => .ok (.lf l) ρ4
      | none => .no
    | some (.d (.bool false)) => .ok (.lf (.d (.bool false))) ρ2
    | _ => .no
  | _ => .no
section
variable {C : Cst} {n : Nat} {Wx : WX} {X : Cx}
theorem chn_run (o : Okx C n Wx X) {p q : Pr} {o1 o2 : CmpOp} (h1 : cmpOf p = some o1) (h2 : cmpOf q = some o2) {a b c : Expr} {xa xb xc : Ex} {ev : Ex → Rho → Out Tok} (hab : GoodL C Wx X [a, b] (noCalls [xa, xb]) (evL ev [xa, xb])) (hc : GoodE C Wx X c (noCall xc) (ev xc))
    {Z : Addr → Prop} {ρ : Rho} {σ : L2.St} {H : Hp} {W : List Addr} {Q : VK} (S : Sim C.M Z ρ σ H W) (hz : ZT Z H) (hr : Res C.M Wx Z (noCall xa && noCall xb && noCall xc) σ H W (chnM p q xc (evL ev [xa, xb]) (ev xc) ρ) Q) :
    ∃ r r', OpR X (compareOp o1) r ∧ OpR X (compareOp o2) r' ∧ tChain r r' (WE X a) (WE X b) (WE X c) σ H Q := by
  obtain ⟨pp, p2, pb, ps⟩ := cmp_sem o h1
  obtain ⟨qp, q2, qb, qs⟩ := cmp_sem o h2
  have ne : noCalls [xa, xb] = (noCall xa && noCall xb) := by simp [noCalls]
  -- the first comparison's rule, then what comes behind
  have first : ∀ {r r' : R2}, OpR X (compareOp o1) r → OpR X (compareOp o2) r' → ResL C.M Wx Z (noCalls [xa, xb]) σ H W (evL ev [xa, xb] ρ) (fun vs H2 => ∃ x y, vs = [x, y] ∧ r x y H2 fun z H3 => ∃ k, z = .bl k ∧ (if k = true then WE X c σ H3 fun w' H4 => r' y w' H4 Q else Q (.bl false) H3)) →
      ∃ r r', OpR X (compareOp o1) r ∧ OpR X (compareOp o2) r' ∧ tChain r r' (WE X a) (WE X b) (WE X c) σ H Q := fun {r r'} a1 a2 hR => by
    refine ⟨r, r', a1, a2, ?_⟩
    have w := hab Z ρ σ H W _ S hz hR
    exact WE.mono w fun x H1 wb => WE.mono wb fun y H2 ⟨x', y', e, z⟩ => by cases e; exact z
  unfold chnM at hr
  cases hx : evL ev [xa, xb] ρ with
  | no => rw [hx] at hr; exact hr.elim
  | ex er ρ1 =>
    rw [hx] at hr
    exact first op0 op0 (by rw [hx]; exact hr)
  | ok ts ρ2 =>
    rw [hx] at hr
    simp only [Out.bind_ok] at hr
    obtain ⟨ta, tb, rfl⟩ := len2 (evL_len hx)
    simp only at hr
    cases hl : rds ρ2 [ta, tb] with
    | none => rw [hl] at hr; exact hr.elim
    | some ls =>
      rw [hl] at hr
      simp only [Option.bind_some] at hr
      obtain ⟨l1, l2, rfl⟩ := len2 (rds_len hl)
      cases hd : pd p [l1, l2] with
      | none => rw [hd] at hr; exact hr.elim
      | some l =>
        obtain ⟨k, rfl⟩ := pb l1 l2 l hd
        obtain ⟨r, ro, rs⟩ := ps l1 l2 _ hd
        rw [hd] at hr
        -- what the first comparison gives, in a state
        have cmp1 : ∀ {vs : List V} {H2 : Hp}, Gots C.M Z (noCalls [xa, xb]) H W [ta, tb] ρ2 σ vs H2 → ∀ {R : Bool → Hp → Prop}, (∀ H3, Got C.M Z (noCalls [xa, xb]) H W (.lf (.d (.bool k))) ρ2 σ (.bl k) H3 → Same H2 H3 → R k H3) → ∃ x y, vs = [x, y] ∧ r x y H2 fun z H3 => ∃ k, z = .bl k ∧ R k H3 := fun {vs H2} g {R} kk => by
          obtain ⟨A, co, fin⟩ := got_pure hz S.nz g hl
          obtain ⟨v1, v2, A1, A2, rfl, c1, c2, rfl⟩ := co2 co
          refine ⟨v1, v2, rfl, rs v1 v2 A1 A2 H2 _ c1 c2 fun v H' w as s1 s2 s3 s4 s5 => ?_⟩
          have g' := fin _ v H' w as s1 s2 s3 s4 s5
          have hv := g'.bool
          subst hv
          exact ⟨k, rfl, kk H' g' s1⟩
        cases k with
        | false =>
          simp only at hr
          refine first ro op0 (r' := r0) ?_
          rw [hx]
          intro vs H2 g
          obtain ⟨A, co, _⟩ := got_pure hz S.nz g hl
          obtain ⟨v1, v2, A1, A2, rfl, _, _, rfl⟩ := co2 co
          obtain ⟨x, y, e0, z⟩ := cmp1 g (R := fun k H3 => if k = true then WE X c σ H3 fun w' H4 => r0 v2 w' H4 Q else Q (.bl false) H3) fun H3 g3 sm => by
            rw [if_neg Bool.false_ne_true]
            exact hr _ _ (g3.weakq fun z => by rw [ne]; rw [Bool.and_eq_true] at z; exact z.1)
          cases e0
          exact ⟨_, _, rfl, z⟩
        | true =>
          simp only at hr
          split at hr
          · exact hr.elim
          rename_i hpf
          have hpf' : isPf tb = true → noCall xc = true := fun hi => by
            cases hn : noCall xc with
            | true => rfl
            | false => simp [hi, hn] at hpf
          -- the third operand, wherever it starts
          have third : ∀ {r' : R2} {vs : List V} {H2 H3 : Hp} {x y : V}, Gots C.M Z (noCalls [xa, xb]) H W [ta, tb] ρ2 σ vs H2 → vs = [x, y] → Same H2 H3 → Got C.M Z (noCalls [xa, xb]) H W (.lf (.d (.bool true))) ρ2 σ (.bl true) H3 →
              (match ev xc ρ2 with
                | .ok tc ρ4 => ∀ v H4, Gots C.M Z (noCall xa && noCall xb && noCall xc) H W [tb, tc] ρ4 σ [y, v] H4 → r' y v H4 Q
                | .ex e ρ1 => ExOk C.M Wx Z σ H W e ρ1
                | .no => False) → WE X c σ H3 fun w' H4 => r' y w' H4 Q := fun {r' vs H2 H3 x y} g ev' sm g3 hk => by
            subst ev'
            obtain ⟨W1, w1, as1, p1, S1, r1, c1⟩ := g.ex
            cases r1 with
            | @cons _ _ wa asa _ _ wr asr rta rr =>
              cases rr with
              | @cons _ _ wb asb _ _ wr asr rtb rr =>
                cases rr
                have S1' : Sim C.M (orL Z wb) ρ2 σ H2 W1 := S1.weak fun a h => h.elim .inl fun z => .inr (by simp [z])
                have cb : Clean Z W1 wb asb := ⟨fun a h => ⟨(c1.sup a (by simp [h])).1, (c1.sup a (by simp [h])).2.1, fun z => (c1.sup a (by simp [h])).2.2 (by simp [z])⟩, by have := c1.nd; rw [List.nodup_append] at this; simpa using this.2.1, fun a h => c1.out a (by simp [h])⟩
                have p1' : Post (noCalls [xa, xb]) H W H2 (W1 ++ wb) := p1.sub fun a h => by rcases List.mem_append.mp h with h | h <;> simp [h]
                -- over the new bool's step
                have S3 : Sim C.M (orL Z wb) ρ2 σ H3 W1 := S1'.same sm
                have p3 : Post (noCalls [xa, xb]) H W H3 (W1 ++ wb) := ⟨fun b o e hb => sm _ _ (p1'.keep b o e hb), fun b o e => let ⟨o', e'⟩ := p1'.trk b o e; ⟨o', sm _ _ e'⟩, p1'.new, fun hq b C dx fs e => sm _ _ (p1'.ins hq b C dx fs e)⟩
                have r3 : TokR C.M σ H3 tb y wb asb := rtb.stay (Stay.ofSame sm) fun _ b C dx fs e => sm _ _ e
                have hz3 : ZT Z H3 := p3.z hz S.nz
                have hzb : ZT (orL Z wb) H3 := hz3.orL r3.own
                refine hc (orL Z wb) ρ2 σ H3 W1 _ S3 hzb ?_
                cases hy : ev xc ρ2 with
                | no => rw [hy] at hk; exact hk
                | ex e ρ1 => rw [hy] at hk; exact ExOk.behind hk p3 fun a z => .inl z
                | ok tc ρ4 =>
                  rw [hy] at hk
                  intro v H4 g4
                  obtain ⟨W4, w4, as4, p4, S4, r4, c4⟩ := g4.ex
                  have g4' : Gots C.M (orL Z wb) (noCall xc) H3 W1 [tc] ρ4 σ [v] H4 := ⟨W4, w4 ++ [], as4 ++ [], by simpa using p4, by simpa using S4, .cons r4 .nil, by simpa using c4⟩
                  have gg := Got.cons hz3 p3 S3 r3 cb hpf' g4'
                  exact hk v H4 (by rw [← ne]; exact gg)
          cases hy : ev xc ρ2 with
          | no => rw [hy] at hr; exact hr.elim
          | ex e ρ3 =>
            rw [hy] at hr
            refine first ro op0 (r' := r0) ?_
            rw [hx]
            intro vs H2 g
            obtain ⟨A, co, _⟩ := got_pure hz S.nz g hl
            obtain ⟨v1, v2, A1, A2, rfl, _, _, rfl⟩ := co2 co
            obtain ⟨x, y, e0, z⟩ := cmp1 g (R := fun k H3 => if k = true then WE X c σ H3 fun w' H4 => r0 v2 w' H4 Q else Q (.bl false) H3) fun H3 g3 sm => by
              rw [if_pos rfl]
              exact third g rfl sm g3 (by rw [hy]; exact hr)
            cases e0
            exact ⟨_, _, rfl, z⟩
          | ok tc ρ4 =>
            rw [hy] at hr
            simp only [Out.bind_ok] at hr
            cases hl4 : rds ρ4 [tb, tc] with
            | none => rw [hl4] at hr; exact hr.elim
            | some ls4 =>
              rw [hl4] at hr
              simp only [Option.bind_some] at hr
              obtain ⟨m1, m2, rfl⟩ := len2 (rds_len hl4)
              cases hd4 : pd q [m1, m2] with
              | none => rw [hd4] at hr; exact hr.elim
              | some l4 =>
                rw [hd4] at hr
                obtain ⟨r', ro', rs'⟩ := qs m1 m2 l4 hd4
                refine first ro ro' ?_
                rw [hx]
                intro vs H2 g
                obtain ⟨A, co, _⟩ := got_pure hz S.nz g hl
                obtain ⟨v1, v2, A1, A2, rfl, _, _, rfl⟩ := co2 co
                obtain ⟨x, y, e0, z⟩ := cmp1 g (R := fun k H3 => if k = true then WE X c σ H3 fun w' H4 => r' v2 w' H4 Q else Q (.bl false) H3) fun H3 g3 sm => by
                  rw [if_pos rfl]
                  refine third g rfl sm g3 ?_
                  rw [hy]
                  intro v H4 g4
                  obtain ⟨A', co', fin⟩ := got_pure hz S.nz g4 hl4
                  obtain ⟨u1, u2, B1, B2, eu, c1, c2, rfl⟩ := co2 co'
                  cases eu
                  exact rs' _ _ B1 B2 H4 _ c1 c2 fun v' H' w as s1 s2 s3 s4 s5 => hr v' H' (fin _ v' H' w as s1 s2 s3 s4 s5)
                cases e0
                exact ⟨_, _, rfl, z⟩
theorem good_chn (o : Okx C n Wx X) {p q : Pr} {o1 o2 : CmpOp} (h1 : cmpOf p = some o1) (h2 : cmpOf q = some o2) {a b c : Expr} {pos : Pos} {xa xb xc : Ex} {ev : Ex → Rho → Out Tok} (hm : lastMarks [o1, o2] [b, c] = false) (hab : GoodL C Wx X [a, b] (noCalls [xa, xb]) (evL ev [xa, xb])) (hc : GoodE C Wx X c (noCall xc) (ev xc)) :
    GoodE C Wx X (.Compare a [o1, o2] [b, c] pos) (noCall (.chn p q xa xb xc)) (chnM p q xc (evL ev [xa, xb]) (ev xc)) := by
  intro Z ρ σ H W Q S hz hr
  obtain ⟨r, r', a1, a2, t⟩ := chn_run o h1 h2 hab hc S hz (by simpa [noCall] using hr)
  exact we_of (pe_chain a1 a2 pe_we pe_we pe_we hm) t
theorem good_chnT (o : Okx C n Wx X) {p q : Pr} {o1 o2 : CmpOp} (h1 : cmpOf p = some o1) (h2 : cmpOf q = some o2) {a b c : Expr} {pos : Pos} {xa xb xc : Ex} {ev : Ex → Rho → Out Tok} (hm : lastMarks [o1, o2] [b, c] = false) (hab : GoodL C Wx X [a, b] (noCalls [xa, xb]) (evL ev [xa, xb])) (hc : GoodE C Wx X c (noCall xc) (ev xc)) :
    GoodT C Wx X (.Compare a [o1, o2] [b, c] pos) (noCall (.chn p q xa xb xc)) (truM (chnM p q xc (evL ev [xa, xb]) (ev xc))) := by
  intro Z ρ σ H W Q S hz hr
  obtain ⟨qp, q2, qb, qs⟩ := cmp_sem o h2
  have hr' : Res C.M Wx Z (noCall (.chn p q xa xb xc)) σ H W (chnM p q xc (evL ev [xa, xb]) (ev xc) ρ) (qT Q) := by
    unfold truM at hr
    cases hx : chnM p q xc (evL ev [xa, xb]) (ev xc) ρ with
    | no => rw [hx] at hr; exact hr
    | ex er ρ1 => rw [hx] at hr; exact hr
    | ok t ρ1 =>
      rw [hx] at hr
      simp only [Out.bind_ok] at hr
      -- it is a bool
      have isb : ∃ k, t = .lf (.d (.bool k)) := by
        unfold chnM at hx
        cases h0 : evL ev [xa, xb] ρ with
        | no => rw [h0] at hx; cases hx
        | ex er ρ1 => rw [h0] at hx; cases hx
        | ok ts ρ2 =>
          rw [h0] at hx
          simp only [Out.bind_ok] at hx
          split at hx
          · split at hx
            · split at hx
              · cases hx
              · cases h3 : ev xc ρ2 with
                | no => rw [h3] at hx; cases hx
                | ex er ρ1 => rw [h3] at hx; cases hx
                | ok tc ρ4 =>
                  rw [h3] at hx
                  simp only [Out.bind_ok] at hx
                  split at hx
                  · rename_i l hl
                    cases hx
                    obtain ⟨ls, e1, e2⟩ := Option.bind_eq_some_iff.mp hl
                    obtain ⟨m1, m2, rfl⟩ := len2 (rds_len e1)
                    obtain ⟨k, rfl⟩ := qb m1 m2 l e2
                    exact ⟨k, rfl⟩
                  · cases hx
            · cases hx; exact ⟨_, rfl⟩
            · cases hx
          · cases hx
      obtain ⟨k, rfl⟩ := isb
      intro v H1 g
      obtain ⟨W1, p1, S1⟩ := g.drop
      simp [rd, truth] at hr
      exact ⟨k, g.bool, hr H1 W1 p1 S1⟩
  obtain ⟨r, r', a1, a2, t⟩ := chn_run o h1 h2 hab hc S hz (by simpa [noCall] using hr')
  exact wt_of (pt_chain a1 a2 pe_we pe_we pe_we hm) t
end
end DL

set_option maxRecDepth 100000
set_option maxHeartbeats 4000000
/-! DL28: the checker of expressions. -/
namespace DL
open PySem PySem.Spec L2

/-! ### targets -/
mutual
def ckG (C : Cst) : Tg → Expr → Bool
  | .nm i, e => match e with
    | .Name x _ => stoB C x i
    | _ => false
  | .tp Ts, e => match e with
    | .Tuple es _ _ => es.all tgOk && ckGs C Ts es
    | _ => false
def ckGs (C : Cst) : List Tg → List Expr → Bool
  | [], es => es.isEmpty
  | T :: Ts, es => match es with
    | [] => false
    | e :: r => ckG C T e && ckGs C Ts r
end
section
variable {C : Cst} {n : Nat} {Wx : WX} {X : Cx}
mutual
theorem ckG_ok (o : Okx C n Wx X) : ∀ (T : Tg) (e : Expr), ckG C T e = true → GoodG C X e T
  | .nm i, e, h => by
    unfold ckG at h
    split at h
    · exact goodG_nm o (stoB_ok h)
    · cases h
  | .tp Ts, e, h => by
    unfold ckG at h
    split at h
    · simp only [Bool.and_eq_true] at h
      obtain ⟨g, l⟩ := ckGs_ok o Ts _ h.2
      exact goodG_tp o.calm o.KK h.1 l.symm g
    · cases h
theorem ckGs_ok (o : Okx C n Wx X) : ∀ (Ts : List Tg) (es : List Expr), ckGs C Ts es = true → GoodGs C X es Ts ∧ Ts.length = es.length
  | [], es, h => by
    unfold ckGs at h
    cases es with
    | nil => exact ⟨goodGs_nil, rfl⟩
    | cons _ _ => cases h
  | T :: Ts, es, h => by
    unfold ckGs at h
    split at h
    · cases h
    · simp only [Bool.and_eq_true] at h
      obtain ⟨g, l⟩ := ckGs_ok o Ts _ h.2
      exact ⟨goodGs_cons (ckG_ok o T _ h.1) g, by simp [l]⟩
end
end

/-! ### expressions -/
def kOk : PyData → Expr → Bool
  | .int i, .Constant (.int j) _ _ => i == j
  | .bool i, .Constant (.bool j) _ _ => i == j
  | .str i, .Constant (.str j) _ _ => i == j
  | .none, .Constant .none _ _ => true
  | _, _ => false
def recvOkE : Expr → Bool
  | .Name _ _ => true
  | .Attribute _ _ _ => true
  | .Subscript _ _ _ => true
  | .Constant _ _ _ => true
  | _ => false
/-- a call with operands: its attributes are no super's -/
def callE : Expr → Bool
  | .Call (.Name _ _) (_ :: _) [] _ => true
  | _ => false
def notSet : Expr → Bool
  | .Set _ _ _ => false
  | _ => true
def pairsOf (C : Cst) (own : List Nat) : List (Str × Nat) := own.map fun i => ((C.N[i]?).getD Str.empty, i)
def mOf : Pr → Option String
  | .append => some "append"
  | .pop => some "pop"
  | .extend => some "extend"
  | .split => some "split"
  | _ => none
/-- the walk of w: what is walked of it -/
def itOf (C : Cst) (w : Nat) (tg it : Expr) : Option (List Expr) := match w with
  | 0 => some [it]
  | 1 => match it with
    | .Call (.Name x _) es [] _ => if bltB C x "range" && (es.length == 1 || es.length == 2) then some es else none
    | _ => none
  | 2 => match tg, it with
    | .Tuple _ _ _, .Call (.Name x _) [a] [] _ => if bltB C x "enumerate" then some [a] else none
    | _, _ => none
  | 3 => match tg, it with
    | .Tuple _ _ _, .Call (.Name x _) [a, b] [] _ => if bltB C x "zip" then some [a, b] else none
    | _, _ => none
  | _ => none
def oneIf : List Ex → List Expr → Bool
  | [], [] => true
  | [_], [_] => true
  | _, _ => false
mutual
def ckE : Ex → Cst → Expr → Bool
  | .k d, C, e => kOk d e
  | .v i, C, e => match e with
    | .Name x _ => visB C x i
    | _ => false
  | .g s, C, e => match e with
    | .Name x _ => decide (x = so s) && gloB C x
    | _ => false
  | .f s, C, e => match e with
    | .Name x _ => decide (x = so s) && gloB C x && isPlain s
    | _ => false
  | .p op xs, C, e => match opsOf C op e with
    | some os => os.all notStar && ckEs xs C os
    | none => false
  | .m op o xs, C, e => match e with
    | .Call (.Attribute eo nm apos) es [] pos => match mOf op with
      | some s => decide (nm = so s) && recvOkE eo && (apos.endLine == pos.line) && es.all notStar && (es.length == (if op = .pop then 0 else 1)) && ckE o C eo && ckEs xs C es
      | none => false
    | _ => false
  | .s2 _ _ _, _, _ => false
  | .call f xs, C, e => match e with
    | .Call (.Name x _) es [] _ => decide (x = so f) && gloB C x && isPlain f && es.all notStar && ckEs xs C es
    | _ => false
  | .callv i xs, C, e => match e with
    | .Call (.Name x _) es [] _ => visB C x i && es.all notStar && ckEs xs C es
    | _ => false
  | .mk c xs, C, e => match e with
    | .Call (.Name x _) es [] _ => decide (x = so c) && gloB C x && es.all notStar && ckEs xs C es
    | _ => false
  | .om m i xs, C, e => match e with
    | .Call (.Attribute (.Name x _) nm apos) es [] pos => decide (nm = so m) && visB C x i && es.all notStar && decide (es.length < 30) && (apos.endLine == pos.line) && ckEs xs C es
    | _ => false
  | .fld i f, C, e => match e with
    | .Attribute (.Name x _) nm _ => decide (nm = so f) && visB C x i && C.fls.contains f
    | _ => false
  | .fldT x f, C, e => match e with
    | .Attribute eo nm _ => decide (nm = so f) && callE eo && C.fls.contains f && ckE x C eo
    | _ => false
  | .and a b, C, e => match e with
    | .BoolOp .And [e1, e2] _ => ckE a C e1 && ckE b C e2
    | .BoolOp .And (e1 :: e2 :: e3 :: es) pos => ckE a C e1 && ckE b C (.BoolOp .And (e2 :: e3 :: es) pos)
    | _ => false
  | .or a b, C, e => match e with
    | .BoolOp .Or [e1, e2] _ => ckE a C e1 && ckE b C e2
    | .BoolOp .Or (e1 :: e2 :: e3 :: es) pos => ckE a C e1 && ckE b C (.BoolOp .Or (e2 :: e3 :: es) pos)
    | _ => false
  | .not a, C, e => match e with
    | .UnaryOp .Not e1 _ => ckE a C e1
    | _ => false
  | .ite c a b, C, e => match e with
    | .IfExp ec ea eb _ => ckT c C ec && ckE a C ea && ckE b C eb
    | _ => false
  | .chn p q a b c, C, e => match e with
    | .Compare e1 [o1, o2] [e2, e3] _ => decide (cmpOf p = some o1) && decide (cmpOf q = some o2) && (lastMarks [o1, o2] [e2, e3] == false) && ckE a C e1 && ckE b C e2 && ckE c C e3
    | _ => false
  | .lc own t w xs ifs x, C, e => match e with
    | .ListComp elt [⟨tg, it, ifs', 0⟩] scope _ => match itOf C w tg it with
      | some os => blkC C.N C.sc scope (pairsOf C own) && notSet it && os.all notStar && ckEs xs C os && ckG (blkS C scope) t tg && oneIf ifs ifs' && ckTs ifs (blkS C scope) ifs' && ckE x (blkS C scope) elt
      | none => false
    | _ => false
  | .lc2 own own2 t w xs t2 w2 xs2 ifs x, C, e => match e with
    | .ListComp elt [⟨tg, it, [], 0⟩, ⟨tg1, it1, ifs', 0⟩] scope _ => match itOf C w tg it, itOf (blkS C scope) w2 tg1 it1 with
      | some os, some os2 => blkC C.N C.sc scope (pairsOf C own) && own2.all (own.contains ·) && notSet it && notSet it1 && os.all notStar && os2.all notStar && ckEs xs C os && ckEs xs2 (blkS C scope) os2 && ckG (blkS C scope) t tg && ckG (blkS C scope) t2 tg1 && oneIf ifs ifs' && ckTs ifs (blkS C scope) ifs' && ckE x (blkS C scope) elt
      | _, _ => false
    | _ => false
def ckT : Ex → Cst → Expr → Bool
  | .and a b, C, e => match e with
    | .BoolOp .And [e1, e2] _ => ckT a C e1 && ckT b C e2
    | .BoolOp .And (e1 :: e2 :: e3 :: es) pos => ckT a C e1 && ckT b C (.BoolOp .And (e2 :: e3 :: es) pos)
    | _ => false
  | .or a b, C, e => match e with
    | .BoolOp .Or [e1, e2] _ => ckT a C e1 && ckT b C e2
    | .BoolOp .Or (e1 :: e2 :: e3 :: es) pos => ckT a C e1 && ckT b C (.BoolOp .Or (e2 :: e3 :: es) pos)
    | _ => false
  | .not a, C, e => match e with
    | .UnaryOp .Not e1 _ => ckT a C e1
    | _ => false
  | .ite c a b, C, e => match e with
    | .IfExp ec ea eb _ => ckT c C ec && ckT a C ea && ckT b C eb
    | _ => false
  | .p op xs, C, e => match opsOf C op e with
    | some os => os.all notStar && ckEs xs C os
    | none => false
  | .chn p q a b c, C, e => match e with
    | .Compare e1 [o1, o2] [e2, e3] _ => decide (cmpOf p = some o1) && decide (cmpOf q = some o2) && (lastMarks [o1, o2] [e2, e3] == false) && ckE a C e1 && ckE b C e2 && ckE c C e3
    | _ => false
  | .k d, C, e => kOk d e
  | .v i, C, e => match e with
    | .Name x _ => visB C x i
    | _ => false
  | .fld i f, C, e => match e with
    | .Attribute (.Name x _) nm _ => decide (nm = so f) && visB C x i && C.fls.contains f
    | _ => false
  | .call f xs, C, e => match e with
    | .Call (.Name x _) es [] _ => decide (x = so f) && gloB C x && isPlain f && es.all notStar && ckEs xs C es
    | _ => false
  | .callv i xs, C, e => match e with
    | .Call (.Name x _) es [] _ => visB C x i && es.all notStar && ckEs xs C es
    | _ => false
  | .om m i xs, C, e => match e with
    | .Call (.Attribute (.Name x _) nm apos) es [] pos => decide (nm = so m) && visB C x i && es.all notStar && decide (es.length < 30) && (apos.endLine == pos.line) && ckEs xs C es
    | _ => false
  | _, _, _ => false
def ckEs : List Ex → Cst → List Expr → Bool
  | [], C, es => es.isEmpty
  | x :: xs, C, es => match es with
    | [] => false
    | e :: r => ckE x C e && ckEs xs C r
def ckTs : List Ex → Cst → List Expr → Bool
  | [], C, es => es.isEmpty
  | x :: xs, C, es => match es with
    | [] => false
    | e :: r => ckT x C e && ckTs xs C r
end
end DL

set_option maxRecDepth 100000
set_option maxHeartbeats 4000000
/-! DL28b: further methods: split, extend. -/
namespace DL
open PySem PySem.Spec L2

section
variable {C : Cst} {X : Cx}
theorem rep_strs {K : PySem.W.Frag} {H : Hp} : ∀ ys : List Str, RepDs K H (ys.map V.str) (ys.map PyData.str) []
  | [] => .nil
  | y :: ys => .cons (as := []) (bs := []) (.str y) (rep_strs ys)
theorem split_inv {ls : List Fl} {l : Fl} (h : pd .split ls = some l) : ∃ x y, ls = [.d (.str x), .d (.str y)] ∧ (y.length == 0) = false ∧ x.length + 2 ≤ sizeLine ∧ l = .ls ((Txt.split x y).map .str) := by
  obtain ⟨a, b, rfl⟩ := (two_mk rfl (fun _ => rfl) fun _ _ _ _ => rfl : two_ .split) ls l h
  match a, b, h with
  | .d (.str x), .d (.str y), h =>
    simp only [pd] at h
    split at h
    · rename_i hc
      cases h
      exact ⟨x, y, rfl, hc.1, hc.2, rfl⟩
    · cases h
def rSplit : V → List V → Hp → VK → Prop := fun x xs H Q => ∃ a b, x = .str a ∧ xs = [.str b] ∧ (b.length == 0) = false ∧ a.length + 2 ≤ sizeLine ∧ rNewStrs (Txt.split a b) H Q
theorem sem_split (Z : Addr → Prop) (q : Bool) (σ : L2.St) (H0 : Hp) (W0 : List Addr) (t : Tok) (ts : List Tok) (ρ : Rho) (v : V) (vs : List V) (H : Hp) (t' : Tok) (ρ' : Rho) (Q : VK) (hz : ZT Z H0) (hn : ∀ a ∈ W0, ¬ Z a) (g : Gots C.M Z q H0 W0 (t :: ts) ρ σ (v :: vs) H)
    (e : prm .split (t :: ts) ρ = some (t', ρ')) (k : ∀ v' H', Got C.M Z q H0 W0 t' ρ' σ v' H' → Q v' H') : rSplit v vs H Q := by
  rw [prm_pure rfl] at e
  obtain ⟨ls, e1, e2⟩ := Option.bind_eq_some_iff.mp e
  obtain ⟨l, e3, e4⟩ := Option.map_eq_some_iff.mp e2
  cases e4
  obtain ⟨A, co, fin⟩ := got_pure hz hn g e1
  obtain ⟨x, y, rfl, h1, h2, rfl⟩ := split_inv e3
  obtain ⟨v1, v2, A1, A2, ev, c1, c2, rfl⟩ := co2 co
  cases ev
  exact ⟨x, y, (co_str c1).1, by rw [(co_str c2).1], h1, h2, fun p hp => k _ _ (fin _ _ _ [p] [] (same_upd hp) (.ls upd_same (rep_strs _)) (by simp [hp]) (by simp) (by simp))⟩
/-! ### extend, by a list or a tuple -/
theorem ext_tup (l : Addr) (items : Array Value) (n : Nat) (b : Addr) (items2 : Array Value) (n2 : Nat) (dd : Option Addr) (sl : Array (Option Value)) (h0 : ¬(!items.isEmpty && Builtin.List.listTooLong (items.size + items2.size)) = true) (h1 : items.size ≤ sizeLine) (h2 : items.size + items2.size ≤ sizeLine + 1) :
    Meets (Builtin.«list.extend» ⟨[.ref l, .ref b], []⟩) (fun _ R s => s.heap.get? l = some { cls := .type "list", dict := none, data := .seq items n, slots := #[] } ∧ s.heap.get? b = some { cls := .type "tuple", dict := dd, data := .seq items2 n2, slots := sl } ∧ R (.ok (.ret Value.none)) { s with heap := s.heap.update l (Obj.mapSeq fun x => x ++ items2), toks := s.toks }) :=
  .of_wp fun prog w A R s h => by
    obtain ⟨hp, g, d, tk, os⟩ := s
    obtain ⟨hl, hb, h⟩ := h
    have f1 := PySem.AutoSeq1.idx_int
    have f2 := PySem.AutoSeq1.sub_tuple_tuple
    have f4 := PySem.AutoSeq1.sub_tuple_list
    have hz2 : (items ++ items2).size ≤ sizeLine + 1 := by rw [Array.size_append]; exact h2
    wp_walk using (wpAny_updateSeq hl rfl (hz := h1) (_hz' := hz2)), PySem.AutoSeq1.wpAny_loadPart' hl, PySem.AutoSeq1.wpAny_loadPart' hb
    exact ⟨_, rfl, h⟩
theorem ext_lst (l : Addr) (items : Array Value) (n : Nat) (b : Addr) (items2 : Array Value) (n2 : Nat) (dd : Option Addr) (sl : Array (Option Value)) (h0 : ¬(!items.isEmpty && Builtin.List.listTooLong (items.size + items2.size)) = true) (h1 : items.size ≤ sizeLine) (h2 : items.size + items2.size ≤ sizeLine + 1) :
    Meets (Builtin.«list.extend» ⟨[.ref l, .ref b], []⟩) (fun _ R s => s.heap.get? l = some { cls := .type "list", dict := none, data := .seq items n, slots := #[] } ∧ s.heap.get? b = some { cls := .type "list", dict := dd, data := .seq items2 n2, slots := sl } ∧ R (.ok (.ret Value.none)) { s with heap := s.heap.update l (Obj.mapSeq fun x => x ++ items2), toks := s.toks }) :=
  .of_wp fun prog w A R s h => by
    obtain ⟨hp, g, d, tk, os⟩ := s
    obtain ⟨hl, hb, h⟩ := h
    have f1 := PySem.AutoSeq1.idx_int
    have f3 := PySem.AutoSeq1.sub_list_list
    have f5 := PySem.AutoSeq1.sub_list_tuple
    have hz2 : (items ++ items2).size ≤ sizeLine + 1 := by rw [Array.size_append]; exact h2
    wp_walk using (wpAny_updateSeq hl rfl (hz := h1) (_hz' := hz2)), PySem.AutoSeq1.wpAny_loadPart' hl, PySem.AutoSeq1.wpAny_loadPart' hb
    exact ⟨_, rfl, h⟩
def rExtG (K : PySem.W.Frag) : V → List V → Hp → VK → Prop := fun x vs H Q => ∃ l b xs zs, x = .ref l ∧ vs = [.ref b] ∧ H l = some (.lst xs) ∧ (SqL K H b zs ∨ SqT K H b zs) ∧ xs.length + zs.length ≤ sizeLine ∧ Q .non (upd H l (.lst (xs ++ zs)))
theorem mt_extG : MtR X "list.extend" (rExtG X.K) := by
  intro pins s σ H x vs v us Q I rx rv h
  obtain ⟨l, b, xs, zs, rfl, rfl, hH, hB, hz, q⟩ := h
  obtain rfl : v = Value.ref l := rx
  obtain ⟨u, rfl, ru⟩ := rv.one
  obtain rfl : u = Value.ref b := ru
  obtain ⟨z, its, n, r, hl, e⟩ := I.lstM hH
  have long : ∀ {m : Nat}, its.length + m ≤ sizeLine → ¬ (!its.toArray.isEmpty && Builtin.List.listTooLong (its.toArray.size + m)) = true := fun {m} hm => by
    rw [List.size_toArray, notLongL hm, Bool.and_false]
    exact Bool.false_ne_true
  rcases hB with hB | hB
  · obtain ⟨its2, r2, p2, _⟩ := I.list hB
    have n2 := r2.length
    obtain ⟨⟨cls2, dd2, data2, sl2⟩, m2, ho2, hc2, _, hd2⟩ := p2
    simp only at hc2 hd2
    subst hc2 hd2
    refine call_meets PySem.F.slot_list_extend ⟨_, e, rfl⟩ PySem.F.entry_list_extend (PySem.F.args_list_extend_2 _ _) (ext_lst l its.toArray n b its2.toArray _ dd2 sl2 (long (by rw [List.size_toArray]; omega)) (by rw [List.size_toArray]; omega) (by rw [List.size_toArray, List.size_toArray]; omega)) ⟨e, ho2, ?_⟩
    exact ⟨.non, _, I.lset (its' := its ++ its2) hH e (by simp) (r.append r2) (by rw [List.length_append]; omega), rfl, q⟩
  · obtain ⟨its2, r2, p2, _⟩ := I.tuple hB
    have n2 := r2.length
    obtain ⟨⟨cls2, dd2, data2, sl2⟩, ho2, hc2, m2, hd2⟩ := p2
    simp only at hc2 hd2
    subst hc2 hd2
    refine call_meets PySem.F.slot_list_extend ⟨_, e, rfl⟩ PySem.F.entry_list_extend (PySem.F.args_list_extend_2 _ _) (ext_tup l its.toArray n b its2.toArray _ dd2 sl2 (long (by rw [List.size_toArray]; omega)) (by rw [List.size_toArray]; omega) (by rw [List.size_toArray, List.size_toArray]; omega)) ⟨e, ho2, ?_⟩
    exact ⟨.non, _, I.lset (its' := its ++ its2) hH e (by simp) (r.append r2) (by rw [List.length_append]; omega), rfl, q⟩
theorem pd_ex : ∀ ls, pd .extend ls = none
  | [] => rfl
  | [_] => rfl
  | [_, _] => rfl
  | _ :: _ :: _ :: _ => rfl
theorem sem_ext (hK : C.M.K = X.K) (Z : Addr → Prop) (q : Bool) (σ : L2.St) (H0 : Hp) (W0 : List Addr) (t : Tok) (ts : List Tok) (ρ : Rho) (v : V) (vs : List V) (H : Hp) (t' : Tok) (ρ' : Rho) (Q : VK) (hz : ZT Z H0) (hn : ∀ a ∈ W0, ¬ Z a) (g : Gots C.M Z q H0 W0 (t :: ts) ρ σ (v :: vs) H)
    (e : prm .extend (t :: ts) ρ = some (t', ρ')) (k : ∀ v' H', Got C.M Z q H0 W0 t' ρ' σ v' H' → Q v' H') : rExtG X.K v vs H Q := by
  obtain ⟨W, w, as, P, S, r, c⟩ := g.ex
  cases r with
  | @cons _ _ w1 as1 _ _ w2 as2 r1 r2 =>
    match ts, r2, e with
    | [t2], .cons (v := v2) (w := w3) (as := as3) r2 .nil, e =>
      have S0 : Sim C.M Z ρ σ H W := S.weak fun a h => .inl h
      cases e1 : rd ρ t with
      | none => simp [prm, e1] at e
      | some l1 =>
        cases e2 : rd ρ t2 with
        | none => cases l1 <;> simp [prm, e1, e2] at e
        | some l2 =>
          cases l1 with
          | d _ => simp [prm, e1] at e
          | ls xs =>
            cases e3 : l2.seq with
            | none => simp [prm, e1, e2, e3] at e
            | some ys =>
              by_cases hl : xs.length + ys.length ≤ sizeLine
              · cases e4 : putP ρ (.ls (xs ++ ys)) t with
                | none => simp [prm, e1, e2, e3, hl, e4] at e
                | some ρ2 =>
                  simp [prm, e1, e2, e3, hl, e4] at e
                  obtain ⟨rfl, rfl⟩ := e
                  obtain ⟨l, us, as0, rfl, hlW, hH, rep0, off0, up⟩ := putP_ok (q := q) S0 r1 e1 e4
                  obtain ⟨A2, co2', off2⟩ := rd_ok S0 r2 (fun a h => ⟨(c.sup a (by simp [h])).1, (c.sup a (by simp [h])).2.1⟩) e2
                  obtain ⟨a, ws, bs, rfl, sq, rep2, i2⟩ := seq_co e3 co2'
                  obtain ⟨W2, S2, P2⟩ := up (rep0.append rep2) (off0.append (off2.sub i2))
                  refine ⟨l, a, us, ws, rfl, rfl, hH, hK ▸ sq, by rw [rep0.length, rep2.length]; exact hl, ?_⟩
                  have P1 : Post q H0 W0 H (W ++ []) := P.sub fun a h => by simp at h; exact List.mem_append_left _ h
                  have PP : Post q H0 W0 (upd H l (.lst (us ++ ws))) W2 := by
                    have := P1.seq (w2 := []) (by simpa using P2)
                    rw [Bool.and_self] at this
                    simpa using this
                  exact k _ _ (got_data PP S2 .none (by intro a ha; simp at ha))
              · simp [prm, e1, e2, e3, hl] at e
    | [], _, e => exact absurd e (by simp [prm, pd_ex])
    | _ :: _ :: _, _, e => exact absurd e (by simp [prm, pd_ex])
end
end DL

set_option maxRecDepth 100000
set_option maxHeartbeats 8000000
/-! DL29: what the checker lets pass keeps its promise: expressions. -/
namespace DL
open PySem PySem.Spec L2

section
variable {C : Cst} {n : Nat} {Wx : WX} {X : Cx} {q : Bool}
theorem good_no {e : Expr} : GoodE C Wx X e q (fun _ => .no) := fun Z ρ σ H W Q S hz hr => hr.elim
theorem goodT_no {e : Expr} : GoodT C Wx X e q (fun _ => .no) := fun Z ρ σ H W Q S hz hr => hr.elim
theorem goodW_no {e : Expr} : GoodW C Wx X e q (fun _ => .no) := fun Z ρ σ H W Q S hz hr => hr.elim
theorem k_good {d : PyData} {e : Expr} (h : kOk d e = true) : GoodE C Wx X e q (fun ρ => .ok (.lf (.d d)) ρ) := by
  unfold kOk at h
  split at h
  · rw [beq_iff_eq] at h; subst h; exact good_const pe_int fun _ => .int _
  · rw [beq_iff_eq] at h; subst h; exact good_const pe_bl fun _ => .bool _
  · rw [beq_iff_eq] at h; subst h; exact good_const pe_str fun _ => .str _
  · exact good_const pe_non fun _ => .none
  · cases h
theorem good_f (o : Okx C n Wx X) (hfk : ∀ D, C.P.fn s = some D → ∃ a, C.M.fa s = some a) {pos : Pos} (h : gloS C (so s)) (hp : isPlain s = true) (hk : ∀ a D, C.P.fn s = some D → C.M.fa s = some a → PySem.W.keepIn X.K (.ref a) = true) : GoodE C Wx X (.Name (so s) pos) q (fun ρ => match C.P.fn s with
      | some _ => .ok (.fn s) ρ
      | none => .no) := by
  intro Z ρ σ H W Q S hz hr
  simp only at hr
  cases hd : C.P.fn s with
  | none => rw [hd] at hr; exact hr.elim
  | some D =>
    rw [hd] at hr
    obtain ⟨a, ha⟩ := hfk D hd
    refine we_of (pe_glob (v := .ref a) (o.gl h) (o.md.fa s a D hd ha hp) rfl h.2) (hr (.ref a) H ⟨W, [], [], by simpa using Post.refl, S.weak fun a h => h.elim id fun z => (by simp at z), .fn ha, Clean.nil⟩)
theorem good_fldX {x : Str} {f : String} {i : Nat} {p pos : Pos} (o : Okx C n Wx X) (h : visS C x i) (nf : ∀ c A, C.M.ca c = some A → Cls X.K A ∧ NoAttr X.K A (so f)) : GoodE C Wx X (.Attribute (.Name x p) (so f) pos) q (fun ρ => match ρ[i]? with
      | some (.ob _ fs) => match lookF fs f with
        | some (.d x) => .ok (.lf (.d x)) ρ
        | some (.ls _) => .ok (.pf i f) ρ
        | none => .no
      | some (.er _ fs) => match fs.lookup f with
        | some x => .ok (.lf (.d x)) ρ
        | none => .no
      | _ => .no) := by
  intro Z ρ σ H W Q S hz hr
  refine good_fld (q := q) o h nf Z ρ σ H W Q S hz ?_
  simp only at hr ⊢
  cases hi : ρ[i]? with
  | none => rw [hi] at hr; exact hr
  | some s =>
    rw [hi] at hr
    cases s with
    | er c fs =>
      obtain ⟨A, sl, ap⟩ := S.sls
      obtain ⟨ov, w, as, W1, W2, A1, A2, h1, h2, _⟩ := sl.at_ hi
      cases h2
    | no => exact hr
    | lk => exact hr
    | lf _ => exact hr
    | fn _ => exact hr
    | ob _ _ => exact hr
theorem base_call {o : Expr} (h : callE o = true) (m : Str) (env : Env) : attributeBase o m env (eval o env) = eval o env := by
  unfold callE at h
  split at h
  · rfl
  · cases h
theorem good_fldT {eo : Expr} {f : String} {pos : Pos} {m : Rho → Out Tok} (hb : callE eo = true) (nf : ∀ c A, C.M.ca c = some A → Cls X.K A ∧ NoAttr X.K A (so f)) (he : GoodE C Wx X eo q m) : GoodE C Wx X (.Attribute eo (so f) pos) false (fun ρ => (m ρ).bind fun t ρ1 => match t with
      | .ob _ fs => match lookF fs f with
        | some l => .ok (.lf l) ρ1
        | none => .no
      | _ => .no) := by
  intro Z ρ σ H W Q S hz hr
  simp only at hr
  refine we_of (pe_fld pe_we (base_call hb _ _)) (he Z ρ σ H W _ S hz ?_)
  cases hx : m ρ with
  | no => rw [hx] at hr; exact hr
  | ex er ρ1 => rw [hx] at hr; exact hr
  | ok t ρ1 =>
    rw [hx] at hr
    simp only [Out.bind_ok] at hr
    intro v H1 g
    obtain ⟨W1, w, as, p, S1, r, c⟩ := g.ex
    cases r with
    | ob r =>
      simp only at hr
      rename_i cn fs
      cases hl : lookF fs f with
      | none => rw [hl] at hr; exact hr.elim
      | some l =>
        rw [hl] at hr
        obtain ⟨pp, CC, dx, vfs, w', rfl, e2, e3, e4, e5, rfl⟩ := r.ex
        obtain ⟨cl, na⟩ := nf cn CC e2
        obtain ⟨v0, w0, as0, u1, u2, a1, a2, q1, q2, rfl, rfl, _⟩ := e5.at_ hl
        have sub : ∀ a ∈ w0, a ∈ pp :: dx :: (u1 ++ (w0 ++ u2)) := fun a h => by simp [h]
        have nd := c.nd
        rw [List.nodup_cons, List.nodup_cons, List.nodup_append, List.nodup_append] at nd
        refine ⟨pp, CC, dx, vfs, v0, rfl, e3, cl, na, q1, hr v0 H1 ⟨W1, w0, as0, (p.weak).sub fun a h => ?_, S1.weak fun a h => h.elim .inl fun z => .inr (sub a z), .lf q2, ⟨fun a h => ⟨(c.sup a (by simp [h])).1, (c.sup a (by simp [h])).2.1, fun z => (c.sup a (by simp [h])).2.2 (sub a z)⟩, nd.2.2.2.1.1, fun a h => c.out a (sub a h)⟩⟩⟩
        rcases List.mem_append.mp h with h | h
        · exact List.mem_append_left _ h
        · exact List.mem_append_right _ (sub a h)
    | lf _ => exact hr.elim
    | pl _ => exact hr.elim
    | pf _ _ _ => exact hr.elim
    | fn _ => exact hr.elim
theorem base_plain {o : Expr} (h : recvOkE o = true) (m : Str) (env : Env) : attributeBase o m env (eval o env) = eval o env := by
  cases o <;> first | rfl | simp [recvOkE] at h
theorem mth_good (o : Okx C n Wx X) {op : Pr} {s : String} (h : mOf op = some s) {eo : Expr} {es : List Expr} {apos pos : Pos} {xo : Ex} {xs : List Ex} {ev : Ex → Rho → Out Tok} (hr : recvOkE eo = true) (hl : (apos.endLine == pos.line) = true) (hs : es.all notStar = true) (hn : (es.length == (if op = .pop then 0 else 1)) = true)
    (ho : GoodE C Wx X eo (noCall xo) (ev xo)) (he : GoodL C Wx X es (noCalls xs) (evL ev xs)) : GoodE C Wx X (.Call (.Attribute eo (so s) apos) es [] pos) (noCall (.m op xo xs)) (fun ρ => (ev xo ρ).bind fun t ρ1 => if isPf t && !(noCalls xs) then .no else match rd ρ1 t with
      | some l => if recvOk op l then (evL ev xs ρ1).bind fun ts ρ2 => ofOpt (prm op (t :: ts) ρ2) else .no
      | none => .no) := by
  have hK : C.M.K = X.K := o.KK
  cases op <;> simp only [mOf, Option.some.injEq] at h <;> first | cases h | skip
  · simp at hn
    obtain ⟨e, rfl⟩ := List.length_eq_one_iff.mp hn
    exact good_m (fun σ H Q h => rule_bm hK PySem.F.plainAttrs_str PySem.F.slot_str_split PySem.F.type_str_split mt_split (base_plain hr _ _) hl (by simpa using hs) h) sem_split ho he
  · simp at hn
    obtain ⟨e, rfl⟩ := List.length_eq_one_iff.mp hn
    exact good_m (fun σ H Q h => rule_bm hK PySem.F.plainAttrs_list PySem.F.slot_list_append PySem.F.type_list_append mt_append (base_plain hr _ _) hl (by simpa using hs) h) sem_append ho he
  · simp at hn
    subst hn
    exact good_m (fun σ H Q h => rule_bm0 hK PySem.F.plainAttrs_list PySem.F.slot_list_pop PySem.F.type_list_pop mt_pop (base_plain hr _ _) hl h) sem_pop ho he
  · simp at hn
    obtain ⟨e, rfl⟩ := List.length_eq_one_iff.mp hn
    exact good_m (fun σ H Q h => rule_bm hK PySem.F.plainAttrs_list PySem.F.slot_list_extend PySem.F.type_list_extend mt_extG (base_plain hr _ _) hl (by simpa using hs) h) (sem_ext hK) ho he
theorem set_plain {it : Expr} (h : notSet it = true) (env : Env) (x : Value) : foldedSetIterable it env x = pure x := by
  cases it <;> first | rfl | simp [notSet] at h
/-- the walks of the text -/
theorem it_good (o : Okx C n Wx X) {w : Nat} {tg it : Expr} {os : List Expr} {xs : List Ex} {ev : Ex → Rho → Out Tok} (h : itOf C w tg it = some os) (hs : os.all notStar = true) (hl : os.length = xs.length) (he : GoodL C Wx X os (noCalls xs) (evL ev xs)) : GoodI C Wx X tg it (noCalls xs) w (evL ev xs) := by
  have hK : C.M.K = X.K := o.KK
  unfold itOf at h
  split at h
  · cases h; exact goodI_0 hK he
  · split at h
    · rename_i x p es pos
      split at h
      · rename_i hx
        cases h
        simp only [Bool.and_eq_true, Bool.or_eq_true, beq_iff_eq] at hx
        obtain ⟨rfl, hg, hm⟩ := bltB_ok o hx.1
        rcases hx.2 with h1 | h1
        · obtain ⟨a, rfl⟩ := List.length_eq_one_iff.mp h1
          obtain ⟨y, rfl⟩ := List.length_eq_one_iff.mp (hl.symm.trans h1)
          exact goodI_1 hg hm hs he
        · obtain ⟨a, b, rfl⟩ := len2 h1
          obtain ⟨y, z, rfl⟩ := len2 (hl.symm.trans h1)
          exact goodI_12 hg hm hs he
      · cases h
    · cases h
  · split at h
    · split at h
      · rename_i hx
        cases h
        obtain ⟨rfl, hg, hm⟩ := bltB_ok o hx
        obtain ⟨y, rfl⟩ := List.length_eq_one_iff.mp (hl.symm.trans (rfl : _ = 1))
        exact goodI_2 hK hg hm hs he
      · cases h
    · cases h
  · split at h
    · split at h
      · rename_i hx
        cases h
        obtain ⟨rfl, hg, hm⟩ := bltB_ok o hx
        obtain ⟨y, z, rfl⟩ := len2 (hl.symm.trans (rfl : _ = 2))
        exact goodI_3 hK hg hm hs he
      · cases h
    · cases h
  · cases h
/-- the block's own names, for the scope that runs -/
theorem blk_ok (o : Okx C n Wx X) {scope : Scope} {own : List (Str × Nat)} (h : blkC C.N C.sc scope own = true) : BlkOk X.N X.env.scope scope own := by
  have b := blkOk_by h
  refine ⟨b.kind, b.uniq, by rw [o.N]; exact b.ix, fun y hy e => ?_, by rw [o.N]; exact b.own⟩
  rcases b.free y hy e with z | z
  · exact .inl (o.cell _ z)
  · exact (o.free _ z).elim .inr .inl
theorem pairs_snd {own : List Nat} : (pairsOf C own).map (·.2) = own := by
  unfold pairsOf
  rw [List.map_map]
  exact List.map_id _
end
/-- all promises of the expressions at fuel n -/
structure SndE (n : Nat) : Prop where
  e : ∀ (C : Cst) (Wx : WX) (X : Cx) (x : Ex) (e : Expr), Okx C n Wx X → (∀ j, j < n → FOk C.M C.P X j) → ckE x C e = true → GoodE C Wx X e (noCall x) (evE C.P n x)
  t : ∀ (C : Cst) (Wx : WX) (X : Cx) (x : Ex) (e : Expr), Okx C n Wx X → (∀ j, j < n → FOk C.M C.P X j) → ckT x C e = true → GoodT C Wx X e (noCall x) (evT C.P n x)
  w : ∀ (C : Cst) (Wx : WX) (X : Cx) (x : Ex) (b : BoolOp) (es : List Expr) (pos : Pos), Okx C n Wx X → (∀ j, j < n → FOk C.M C.P X j) → ckT x C (.BoolOp b es pos) = true → GoodW C Wx X (.BoolOp b es pos) (noCall x) (evT C.P n x)
theorem cks_all2 {n : Nat} {C : Cst} {Wx : WX} {X : Cx} (ih : SndE n) (o : Okx C n Wx X) (fk : ∀ j, j < n → FOk C.M C.P X j) : ∀ {xs : List Ex} {es : List Expr}, ckEs xs C es = true → All2 (fun e x => GoodE C Wx X e (noCall x) (evE C.P n x)) es xs ∧ es.length = xs.length
  | [], es, h => by
    unfold ckEs at h
    cases es with
    | nil => exact ⟨.nil, rfl⟩
    | cons _ _ => cases h
  | x :: xs, es, h => by
    unfold ckEs at h
    split at h
    · cases h
    · simp only [Bool.and_eq_true] at h
      obtain ⟨a, l⟩ := cks_all2 ih o fk h.2
      exact ⟨.cons (ih.e C Wx X x _ o fk h.1) a, by simp [l]⟩
theorem cks_good {n : Nat} {C : Cst} {Wx : WX} {X : Cx} (ih : SndE n) (o : Okx C n Wx X) (fk : ∀ j, j < n → FOk C.M C.P X j) {xs : List Ex} {es : List Expr} (h : ckEs xs C es = true) : GoodL C Wx X es (noCalls xs) (evL (evE C.P n) xs) := goodL (cks_all2 ih o fk h).1
theorem ckTs_good {n : Nat} {C : Cst} {Wx : WX} {X : Cx} (ih : SndE n) (o : Okx C n Wx X) (fk : ∀ j, j < n → FOk C.M C.P X j) {xs : List Ex} {es : List Expr} (h1 : oneIf xs es = true) (h : ckTs xs C es = true) : GoodTs C Wx X es (testsL (evT C.P n) xs) := by
  unfold oneIf at h1
  split at h1
  · exact goodTs_nil
  · rename_i x e
    unfold ckTs at h
    simp only [Bool.and_eq_true] at h
    exact goodTs_one (ih.t C Wx X _ _ o fk h.1)
  · cases h1
theorem snd_e {n : Nat} (ih : SndE n) (C : Cst) (Wx : WX) (X : Cx) (x : Ex) (e : Expr) (o : Okx C (n + 1) Wx X) (fk : ∀ j, j < n + 1 → FOk C.M C.P X j) (h : ckE x C e = true) : GoodE C Wx X e (noCall x) (evE C.P (n + 1) x) := by
  have o' : Okx C n Wx X := o.less (Nat.le_succ n)
  have fk' : ∀ j, j < n → FOk C.M C.P X j := fun j hj => fk j (Nat.lt_succ_of_lt hj)
  have fkn : FOk C.M C.P X n := fk n (Nat.lt_succ_self n)
  cases x with
  | k d => unfold ckE at h; exact k_good h
  | v i =>
    unfold ckE at h
    split at h
    · exact good_var o (visB_ok h)
    · cases h
  | g s =>
    unfold ckE at h
    split at h
    · simp only [Bool.and_eq_true, decide_eq_true_eq] at h
      obtain ⟨rfl, h⟩ := h
      exact good_glb o (gloB_ok h)
    · cases h
  | f s =>
    unfold ckE at h
    split at h
    · simp only [Bool.and_eq_true, decide_eq_true_eq] at h
      obtain ⟨⟨rfl, h⟩, hp⟩ := h
      refine good_f o (fun D hD => ?_) (gloB_ok h) hp fun a D hD ha => ?_
      · obtain ⟨a, fd, ps, h1, _⟩ := fkn _ D hD
        exact ⟨a, h1⟩
      · obtain ⟨a', fd, ps, h1, _, _, h3, _⟩ := fkn _ D hD
        rw [ha] at h1; cases h1
        exact h3
    · cases h
  | p op xs =>
    unfold ckE at h
    split at h
    · rename_i os ho
      simp only [Bool.and_eq_true] at h
      have gl := cks_good ih o' fk' h.2
      rcases ops_ok o ho h.1 with ⟨hp, P, _⟩ | ⟨rfl, k, p, rfl⟩ | ⟨rfl, p, rfl⟩
      · exact good_pure hp P gl
      · exact good_tup h.1 gl
      · exact good_lst h.1 gl
    · cases h
  | m op xo xs =>
    unfold ckE at h
    split at h
    · split at h
      · rename_i s hs
        simp only [Bool.and_eq_true, decide_eq_true_eq] at h
        obtain ⟨⟨⟨⟨⟨⟨rfl, h1⟩, h2⟩, h3⟩, h4⟩, h5⟩, h6⟩ := h
        exact mth_good o hs h1 h2 h3 h4 (ih.e C Wx X _ _ o' fk' h5) (cks_good ih o' fk' h6)
      · cases h
    · cases h
  | s2 a b c => unfold ckE at h; cases h
  | call f xs =>
    unfold ckE at h
    split at h
    · simp only [Bool.and_eq_true, decide_eq_true_eq] at h
      obtain ⟨⟨⟨⟨rfl, h1⟩, h2⟩, h3⟩, h4⟩ := h
      exact good_call o fkn (gloB_ok h1) h2 h3 (cks_good ih o' fk' h4)
    · cases h
  | callv i xs =>
    unfold ckE at h
    split at h
    · simp only [Bool.and_eq_true] at h
      obtain ⟨⟨h1, h3⟩, h4⟩ := h
      exact good_callv o fkn (visB_ok h1) h3 (cks_good ih o' fk' h4)
    · cases h
  | mk c xs =>
    unfold ckE at h
    split at h
    · simp only [Bool.and_eq_true, decide_eq_true_eq] at h
      obtain ⟨⟨⟨rfl, h1⟩, h3⟩, h4⟩ := h
      exact good_mk o fkn (gloB_ok h1) h3 (cks_good ih o' fk' h4)
    · cases h
  | om m i xs =>
    unfold ckE at h
    split at h
    · simp only [Bool.and_eq_true, decide_eq_true_eq] at h
      obtain ⟨⟨⟨⟨⟨rfl, h1⟩, h3⟩, h5⟩, h6⟩, h4⟩ := h
      exact good_om o fkn o.md.cn (visB_ok h1) h3 (by simpa using h5) h6 (cks_good ih o' fk' h4)
    · cases h
  | fld i f =>
    unfold ckE at h
    split at h
    · simp only [Bool.and_eq_true, decide_eq_true_eq] at h
      obtain ⟨⟨rfl, h1⟩, h2⟩ := h
      have hf : f ∈ C.fls := by simpa using h2
      exact good_fldX o (visB_ok h1) (o.md.na f hf)
    · cases h
  | fldT x f =>
    unfold ckE at h
    split at h
    · simp only [Bool.and_eq_true, decide_eq_true_eq] at h
      obtain ⟨⟨⟨rfl, h1⟩, h2⟩, h3⟩ := h
      exact good_fldT h1 (o.md.na f (by simpa using h2)) (ih.e C Wx X _ _ o' fk' h3)
    · cases h
  | and a b =>
    unfold ckE at h
    split at h
    · simp only [Bool.and_eq_true] at h
      exact good_and (fun h => we_of (pe_and pe_we (pe_one pe_we)) h) (ih.e C Wx X _ _ o' fk' h.1) (ih.e C Wx X _ _ o' fk' h.2)
    · simp only [Bool.and_eq_true] at h
      exact good_and (fun h => we_of (pe_and pe_we pe_we) h) (ih.e C Wx X _ _ o' fk' h.1) (ih.e C Wx X _ _ o' fk' h.2)
    · cases h
  | or a b =>
    unfold ckE at h
    split at h
    · simp only [Bool.and_eq_true] at h
      exact good_or (fun h => we_of (pe_or pe_we (pe_one pe_we)) h) (ih.e C Wx X _ _ o' fk' h.1) (ih.e C Wx X _ _ o' fk' h.2)
    · simp only [Bool.and_eq_true] at h
      exact good_or (fun h => we_of (pe_or pe_we pe_we) h) (ih.e C Wx X _ _ o' fk' h.1) (ih.e C Wx X _ _ o' fk' h.2)
    · cases h
  | not a =>
    unfold ckE at h
    split at h
    · exact good_not (ih.e C Wx X _ _ o' fk' h)
    · cases h
  | ite c a b =>
    unfold ckE at h
    split at h
    · simp only [Bool.and_eq_true] at h
      exact good_ite (ih.t C Wx X _ _ o' fk' h.1.1) (ih.e C Wx X _ _ o' fk' h.1.2) (ih.e C Wx X _ _ o' fk' h.2)
    · cases h
  | chn p q a b c =>
    unfold ckE at h
    split at h
    · simp only [Bool.and_eq_true, decide_eq_true_eq, beq_iff_eq] at h
      obtain ⟨⟨⟨⟨⟨h1, h2⟩, h3⟩, h4⟩, h5⟩, h6⟩ := h
      exact good_chn o h1 h2 h3 (goodL (.cons (ih.e C Wx X _ _ o' fk' h4) (.cons (ih.e C Wx X _ _ o' fk' h5) .nil))) (ih.e C Wx X _ _ o' fk' h6)
    · cases h
  | lc own t w xs ifs x =>
    unfold ckE at h
    split at h
    · rename_i elt tg it ifs' scope pos
      split at h
      · rename_i os hos
        simp only [Bool.and_eq_true] at h
        obtain ⟨⟨⟨⟨⟨⟨⟨h1, h2⟩, h3⟩, h4⟩, h5⟩, h6⟩, h7⟩, h8⟩ := h
        obtain ⟨_, hl⟩ := cks_all2 ih o' fk' h4
        have ok := blk_ok o h1
        have g := good_lc (pos := pos) (own := pairsOf C own) o ok (set_plain h2 _) (it_good o hos h3 hl (cks_good ih o' fk' h4)) (fun s H A cl fp => ckG_ok (o'.blk ok s H A cl fp) t tg h5)
          (fun s H A cl fp => ckTs_good ih (o'.blk ok s H A cl fp) fk' h6 h7) (fun s H A cl fp => ih.e _ _ _ x elt (o'.blk ok s H A cl fp) fk' h8)
        rw [pairs_snd] at g
        exact g
      · cases h
    · cases h
  | lc2 own own2 t w xs t2 w2 xs2 ifs x =>
    unfold ckE at h
    split at h
    · rename_i elt tg it tg1 it1 ifs' scope pos
      split at h
      · rename_i os os2 hos hos2
        simp only [Bool.and_eq_true] at h
        obtain ⟨⟨⟨⟨⟨⟨⟨⟨⟨⟨⟨⟨h1, hv⟩, h2⟩, h2'⟩, h3⟩, h3'⟩, h4⟩, h4'⟩, h5⟩, h5'⟩, h6⟩, h7⟩, h8⟩ := h
        obtain ⟨_, hl⟩ := cks_all2 ih o' fk' h4
        have ok := blk_ok o h1
        have hv' : ∀ i ∈ own2, i ∈ (pairsOf C own).map (·.2) := fun i hi => by
          rw [pairs_snd]
          rw [List.all_eq_true] at hv
          simpa using hv i hi
        have g := good_lc2 (pos := pos) (own := pairsOf C own) o ok hv' (set_plain h2 _) (fun env x => set_plain h2' env x) (it_good o hos h3 hl (cks_good ih o' fk' h4)) (fun s H A cl fp => ckG_ok (o'.blk ok s H A cl fp) t tg h5)
          (fun s H A cl fp => it_good (o'.blk ok s H A cl fp) hos2 h3' (cks_all2 ih (o'.blk ok s H A cl fp) fk' h4').2 (cks_good ih (o'.blk ok s H A cl fp) fk' h4')) (fun s H A cl fp => ckG_ok (o'.blk ok s H A cl fp) t2 tg1 h5')
          (fun s H A cl fp => ckTs_good ih (o'.blk ok s H A cl fp) fk' h6 h7) (fun s H A cl fp => ih.e _ _ _ x elt (o'.blk ok s H A cl fp) fk' h8)
        rw [pairs_snd] at g
        exact g
      · cases h
    · cases h
/-- who is no test of a form of its own -/
def plainT : Expr → Bool
  | .UnaryOp .Not _ _ => false
  | .BoolOp _ _ _ => false
  | .IfExp _ _ _ _ => false
  | .Compare _ _ _ _ => false
  | _ => true
theorem plainT_ok {e : Expr} (h : plainT e = true) (env : Env) (whole : Sem Value) : isTrue e env whole = (do let v ← whole; standAt e.pos; holding [v] (truthy v)) := by
  cases e <;> first | rfl | skip
  all_goals first | (simp [plainT] at h; done) | skip
  rename_i op a pos
  cases op <;> first | rfl | simp [plainT] at h
theorem truM_no : truM (fun _ => .no) = fun _ => .no := by funext ρ; rfl
theorem goodT_E {C : Cst} {Wx : WX} {X : Cx} {n : Nat} {x : Ex} {e : Expr} (o : Okx C n Wx X) (h : plainT e = true) (g : GoodE C Wx X e (noCall x) (evE C.P n x)) : GoodT C Wx X e (noCall x) (truM (evE C.P n x)) := good_truth (plainT_ok h X.env) o.KK g
theorem ops_plain {C : Cst} {op : Pr} {e : Expr} {os : List Expr} (h : opsOf C op e = some os) (hc : isCmp e = false) : plainT e = true := by
  unfold opsOf at h
  repeat' split at h
  all_goals first | rfl | (cases hc; done) | (cases h; done) | skip
  unfold opsX at h
  split at h <;> first | rfl | (cases hc; done) | (cases h; done)
theorem snd_t {n : Nat} (ih : SndE n) (ih1 : ∀ m, m < n → SndE m) (C : Cst) (Wx : WX) (X : Cx) (x : Ex) (e : Expr) (o : Okx C (n + 1) Wx X) (fk : ∀ j, j < n + 1 → FOk C.M C.P X j) (h : ckT x C e = true) : GoodT C Wx X e (noCall x) (evT C.P (n + 1) x) := by
  have o' : Okx C n Wx X := o.less (Nat.le_succ n)
  have fk' : ∀ j, j < n → FOk C.M C.P X j := fun j hj => fk j (Nat.lt_succ_of_lt hj)
  cases x with
  | and a b =>
    unfold ckT at h
    split at h
    · simp only [Bool.and_eq_true] at h
      exact (goodW_and (ih.t C Wx X _ _ o' fk' h.1) (goodW_and1 (ih.t C Wx X _ _ o' fk' h.2))).t
    · simp only [Bool.and_eq_true] at h
      exact (goodW_and (ih.t C Wx X _ _ o' fk' h.1) (ih.w C Wx X _ _ _ _ o' fk' h.2)).t
    · cases h
  | or a b =>
    unfold ckT at h
    split at h
    · simp only [Bool.and_eq_true] at h
      exact (goodW_or (ih.t C Wx X _ _ o' fk' h.1) (goodW_or1 (ih.t C Wx X _ _ o' fk' h.2))).t
    · simp only [Bool.and_eq_true] at h
      exact (goodW_or (ih.t C Wx X _ _ o' fk' h.1) (ih.w C Wx X _ _ _ _ o' fk' h.2)).t
    · cases h
  | not a =>
    unfold ckT at h
    split at h
    · exact goodT_not (ih.t C Wx X _ _ o' fk' h)
    · cases h
  | ite c a b =>
    unfold ckT at h
    split at h
    · simp only [Bool.and_eq_true] at h
      exact goodT_ite (ih.t C Wx X _ _ o' fk' h.1.1) (ih.t C Wx X _ _ o' fk' h.1.2) (ih.t C Wx X _ _ o' fk' h.2)
    · cases h
  | p op xs =>
    show GoodT C Wx X e (noCall (.p op xs)) (truM (evE C.P n (.p op xs)))
    have hE : ckE (.p op xs) C e = true := by
      unfold ckT at h
      unfold ckE
      exact h
    cases hc : isCmp e with
    | false =>
      unfold ckT at h
      split at h
      · rename_i os ho
        exact goodT_E o' (ops_plain ho hc) (ih.e C Wx X _ _ o' fk' hE)
      · cases h
    | true =>
      cases n with
      | zero => exact goodT_no
      | succ m =>
        unfold ckT at h
        split at h
        · rename_i os ho
          simp only [Bool.and_eq_true] at h
          have o2 : Okx C m Wx X := o'.less (Nat.le_succ m)
          have fk2 : ∀ j, j < m → FOk C.M C.P X j := fun j hj => fk' j (Nat.lt_succ_of_lt hj)
          have gl := cks_good (ih1 m (Nat.lt_succ_self m)) o2 fk2 h.2
          rcases ops_ok o ho h.1 with ⟨hp, P, T⟩ | ⟨rfl, k, p, rfl⟩ | ⟨rfl, p, rfl⟩
          · exact good_pureT hp (T hc) gl
          · cases hc
          · cases hc
        · cases h
  | k d =>
    have hE : ckE (.k d) C e = true := by unfold ckT at h; unfold ckE; exact h
    have pl : plainT e = true := by
      unfold ckT kOk at h
      split at h <;> first | rfl | cases h
    exact goodT_E o' pl (ih.e C Wx X _ _ o' fk' hE)
  | v i =>
    have hE : ckE (.v i) C e = true := by unfold ckT at h; unfold ckE; exact h
    have pl : plainT e = true := by
      unfold ckT at h
      split at h <;> first | rfl | cases h
    exact goodT_E o' pl (ih.e C Wx X _ _ o' fk' hE)
  | fld i f =>
    have hE : ckE (.fld i f) C e = true := by unfold ckT at h; unfold ckE; exact h
    have pl : plainT e = true := by
      unfold ckT at h
      split at h <;> first | rfl | cases h
    exact goodT_E o' pl (ih.e C Wx X _ _ o' fk' hE)
  | call f xs =>
    have hE : ckE (.call f xs) C e = true := by unfold ckT at h; unfold ckE; exact h
    have pl : plainT e = true := by
      unfold ckT at h
      split at h <;> first | rfl | cases h
    exact goodT_E o' pl (ih.e C Wx X _ _ o' fk' hE)
  | callv f xs =>
    have hE : ckE (.callv f xs) C e = true := by unfold ckT at h; unfold ckE; exact h
    have pl : plainT e = true := by
      unfold ckT at h
      split at h <;> first | rfl | cases h
    exact goodT_E o' pl (ih.e C Wx X _ _ o' fk' hE)
  | om m i xs =>
    have hE : ckE (.om m i xs) C e = true := by unfold ckT at h; unfold ckE; exact h
    have pl : plainT e = true := by
      unfold ckT at h
      split at h <;> first | rfl | cases h
    exact goodT_E o' pl (ih.e C Wx X _ _ o' fk' hE)
  | g s => unfold ckT at h; cases h
  | f s => unfold ckT at h; cases h
  | m op a b => unfold ckT at h; cases h
  | s2 a b c => unfold ckT at h; cases h
  | mk c xs => unfold ckT at h; cases h
  | fldT c xs => unfold ckT at h; cases h
  | chn p q a b c =>
    show GoodT C Wx X e (noCall (.chn p q a b c)) (truM (evE C.P n (.chn p q a b c)))
    cases n with
    | zero => exact goodT_no
    | succ m =>
      unfold ckT at h
      split at h
      · simp only [Bool.and_eq_true, decide_eq_true_eq, beq_iff_eq] at h
        obtain ⟨⟨⟨⟨⟨h1, h2⟩, h3⟩, h4⟩, h5⟩, h6⟩ := h
        have o2 : Okx C m Wx X := o'.less (Nat.le_succ m)
        have fk2 : ∀ j, j < m → FOk C.M C.P X j := fun j hj => fk' j (Nat.lt_succ_of_lt hj)
        have i1 := ih1 m (Nat.lt_succ_self m)
        exact good_chnT o h1 h2 h3 (goodL (.cons (i1.e C Wx X _ _ o2 fk2 h4) (.cons (i1.e C Wx X _ _ o2 fk2 h5) .nil))) (i1.e C Wx X _ _ o2 fk2 h6)
      · cases h
  | lc own t w xs ifs x => unfold ckT at h; cases h
  | lc2 own own2 t w xs t2 w2 xs2 ifs x => unfold ckT at h; cases h
theorem snd_w {n : Nat} (ih : SndE n) (C : Cst) (Wx : WX) (X : Cx) (x : Ex) (b : BoolOp) (es : List Expr) (pos : Pos) (o : Okx C (n + 1) Wx X) (fk : ∀ j, j < n + 1 → FOk C.M C.P X j) (h : ckT x C (.BoolOp b es pos) = true) : GoodW C Wx X (.BoolOp b es pos) (noCall x) (evT C.P (n + 1) x) := by
  have o' : Okx C n Wx X := o.less (Nat.le_succ n)
  have fk' : ∀ j, j < n → FOk C.M C.P X j := fun j hj => fk j (Nat.lt_succ_of_lt hj)
  cases x with
  | and a b =>
    unfold ckT at h
    split at h
    · rename_i heq; cases heq
      simp only [Bool.and_eq_true] at h
      exact goodW_and (ih.t C Wx X _ _ o' fk' h.1) (goodW_and1 (ih.t C Wx X _ _ o' fk' h.2))
    · rename_i heq; cases heq
      simp only [Bool.and_eq_true] at h
      exact goodW_and (ih.t C Wx X _ _ o' fk' h.1) (ih.w C Wx X _ _ _ _ o' fk' h.2)
    · cases h
  | or a b =>
    unfold ckT at h
    split at h
    · rename_i heq; cases heq
      simp only [Bool.and_eq_true] at h
      exact goodW_or (ih.t C Wx X _ _ o' fk' h.1) (goodW_or1 (ih.t C Wx X _ _ o' fk' h.2))
    · rename_i heq; cases heq
      simp only [Bool.and_eq_true] at h
      exact goodW_or (ih.t C Wx X _ _ o' fk' h.1) (ih.w C Wx X _ _ _ _ o' fk' h.2)
    · cases h
  | p op xs =>
    unfold ckT at h
    split at h
    · rename_i os ho
      have : plainT (.BoolOp b es pos) = true := ops_plain ho rfl
      cases this
    · cases h
  | k d =>
    have pl : plainT (.BoolOp b es pos) = true := by
      unfold ckT kOk at h
      split at h <;> first | rfl | contradiction
    cases pl
  | _ => unfold ckT at h; first | cases h | (split at h <;> first | cases h | (rename_i heq; cases heq))
theorem snd_all : ∀ n, SndE n := fun n => Nat.strongRecOn n fun n ih => by
  cases n with
  | zero => exact ⟨fun C Wx X x e o fk h => good_no, fun C Wx X x e o fk h => goodT_no, fun C Wx X x b es pos o fk h => goodW_no⟩
  | succ n =>
    have i0 := ih n (Nat.lt_succ_self n)
    exact ⟨snd_e i0, snd_t i0 fun m hm => ih m (Nat.lt_succ_of_lt hm), snd_w i0⟩
end DL

set_option maxRecDepth 100000
set_option maxHeartbeats 4000000
/-! DLR: raise, try. -/
namespace DL
open PySem PySem.Spec L2

theorem XfR.zip {K : PySem.W.Frag} {H : Hp} : ∀ {fs : List String} {xs : List PyData} {vs : List V} {as : List Addr}, fs.length = xs.length → RepDs K H vs xs as → ∃ bs, XfR K H (fs.zip xs) ((fs.map so).zip vs) bs ∧ ∀ a ∈ bs, a ∈ as
  | [], [], _, _, _, .nil => ⟨[], .nil, by simp⟩
  | f :: fs, x :: xs, _, _, hl, .cons r t => by
    obtain ⟨bs, h1, h2⟩ := XfR.zip (fs := fs) (by simpa using hl) t
    exact ⟨_, .cons r h1, fun a ha => (List.mem_append.mp ha).elim (fun h => List.mem_append_left _ h) fun h => List.mem_append_right _ (h2 a h)⟩
theorem XfR.app {K : PySem.W.Frag} {H : Hp} : ∀ {fs gs : List (String × PyData)} {vs us : List (Str × V)} {as bs : List Addr}, XfR K H fs vs as → XfR K H gs us bs → XfR K H (fs ++ gs) (vs ++ us) (as ++ bs)
  | _, _, _, _, _, _, .nil, s => s
  | _, _, _, _, _, _, .cons r t, s => by
    rw [List.append_assoc]
    exact .cons r (XfR.app t s)
theorem XfR.rev {K : PySem.W.Frag} {H : Hp} : ∀ {fs : List (String × PyData)} {vs : List (Str × V)} {as : List Addr}, XfR K H fs vs as → ∃ bs, XfR K H fs.reverse vs.reverse bs ∧ ∀ a ∈ bs, a ∈ as
  | _, _, _, .nil => ⟨[], .nil, by simp⟩
  | _, _, _, .cons (as := as) r t => by
    obtain ⟨bs, h1, h2⟩ := XfR.rev t
    rw [List.reverse_cons, List.reverse_cons]
    exact ⟨_, h1.app (.cons r .nil), fun a ha => by
      simp only [List.append_nil, List.mem_append] at ha ⊢
      exact ha.elim (fun h => .inr (h2 a h)) .inl⟩
theorem XfR.stay {K : PySem.W.Frag} {H H' : Hp} {A : List Addr} (s : Stay H H' A) : ∀ {fs : List (String × PyData)} {vs : List (Str × V)} {as : List Addr}, XfR K H fs vs as → (∀ a ∈ as, a ∈ A) → XfR K H' fs vs as
  | _, _, _, .nil, _ => .nil
  | _, _, _, .cons r t, h => .cons (r.stay s fun a ha => h a (List.mem_append_left _ ha)) (XfR.stay s t fun a ha => h a (List.mem_append_right _ ha))
theorem XfR.look {K : PySem.W.Frag} {H : Hp} {f : String} {x : PyData} : ∀ {fs : List (String × PyData)} {vs : List (Str × V)} {as : List Addr}, XfR K H fs vs as → fs.lookup f = some x → ∃ v bs, vs.lookup (so f) = some v ∧ RepD K H v x bs ∧ ∀ a ∈ bs, a ∈ as
  | _, _, _, .nil, h => by simp at h
  | _, _, _, .cons (f := g) (x := y) (v := v) r t, h => by
    rw [List.lookup_cons] at h
    split at h
    · rename_i hb
      cases h
      rw [beq_iff_eq] at hb
      subst hb
      exact ⟨v, _, by simp [List.lookup_cons], r, fun a ha => List.mem_append_left _ ha⟩
    · rename_i hb
      obtain ⟨u, bs, h1, h2, h3⟩ := XfR.look t h
      have : (so f == so g) = false := by
        rw [beq_eq_false_iff_ne] at hb ⊢
        exact fun z => hb (so_inj z)
      exact ⟨u, bs, by rw [List.lookup_cons, this]; exact h1, h2, fun a ha => List.mem_append_right _ (h3 a ha)⟩

section
variable {C : Cst} {n : Nat} {Wx : WX} {X : Cx} {pin : List Nat}
/-- C(), of a class without own __init__ -/
theorem pmk_own0 {Ca : Addr} {bmB : List Value} {B newId initId : String} {x : Str} {p pos : Pos} (F : ExcBaseFacts B newId initId bmB) (q : PySem.W.excIn X.K Ca bmB newId = true) (gC : X.mg x = some (.ref Ca)) (kC : PySem.W.keepIn X.K (.ref Ca) = true) (r : Raises X (.ref Ca)) (hg : Gl X x)
    (hdb : (x == ("__debug__" : Str)) = false) : PMk X (.Call (.Name x p) [] [] pos) (fun _ H Q => Q (.ref Ca) none H) := by
  intro pins s σ H Q I h
  refine wpAny_Call_Name_kw (ld_glob I hg gC ?_ hdb)
  refine PySem.W.callWith_K0 I.kIn kC ?_
  show wpAny _ _ (call (.ref Ca) []) _ _ _
  obtain ⟨bm, N, nm, qn, bs, hdct, sn, sub, ab, col, dd, k0, k1, k2, k3, k5, mN, hC, hN, hni, T⟩ := exc_obj I.kIn q
  refine wpAny_call_exc_subT F T hC hN hni (fun h' e hm => ?_) (by show 0 ≤ sizeLine; omega)
  exact mk_of I hm r h (I.hok.gone hm.new)

theorem ps_raise_we {e : Expr} {t : L2.St → Hp → XK → Prop} {pos : Pos} (hc : X.calm = true) (tk : Takes X Wx) (he : PMk X e t) {D : Ends} {σ : L2.St} {H : Hp} (h : t σ H fun cls d H' => Wx cls d σ H') : WS X (.Raise (some e) none pos) D σ H := ws_of (ps_raise hc tk he) h
theorem ckInit_len {fl : List Str} {body : List Stmt} (h : ckInit fl body = true) : fl.length ≤ 2 := by
  unfold ckInit at h
  split at h
  · simp
  · simp
  · cases h
/-- raise c(..) -/
theorem good_raise {c : String} {es : List Expr} {xs : List Ex} {ev : Ex → Rho → Out Tok} {p pos pos2 : Pos} (o : Okx C (n + 1) Wx X) (hg : gloS C (so c)) (hs : es.all notStar = true) (h : GoodL C Wx X es (noCalls xs) (evL ev xs)) (hl : es.length = xs.length) (hfs : ∀ fs, C.P.exc c = some fs → fs.length = es.length) :
    GoodS C Wx X (.Raise (some (.Call (.Name (so c) p) es [] pos)) none pos2) pin (fun ρ => match C.P.exc c with
      | some fs => (evL ev xs ρ).bind fun ts ρ1 => match toDs ts ρ1 with
        | some (ys, ρ2) => if ys.length = fs.length then .ex ⟨c, (fs.zip ys).reverse⟩ ρ2 else .no
        | none => .no
      | none => .no) := by
  intro Z ρ σ H W D S hz hr
  simp only at hr
  cases hx : C.P.exc c with
  | none => rw [hx] at hr; exact hr.elim
  | some fs =>
    rw [hx] at hr
    simp only at hr
    obtain ⟨Ca, hxa, hmg, T, ga, gg, hd, hno, hini, hpl⟩ := (o.md.xc c fs hx).ex
    have fin : ∀ {ts : List Tok} {ρ1 : Rho}, ResS C.M Wx Z pin σ H W (match toDs ts ρ1 with
        | some (ys, ρ2) => if ys.length = fs.length then (.ex ⟨c, (fs.zip ys).reverse⟩ ρ2 : Out Flow) else .no
        | none => .no) D → ∃ ys ρ2, toDs ts ρ1 = some (ys, ρ2) ∧ ys.length = fs.length ∧ ExS C.M Wx Z pin σ H W ⟨c, (fs.zip ys).reverse⟩ ρ2 := fun {ts ρ1} hr => by
      cases hd : toDs ts ρ1 with
      | none => rw [hd] at hr; exact hr.elim
      | some pr =>
        obtain ⟨ys, ρ2⟩ := pr
        rw [hd] at hr
        simp only at hr
        split at hr
        · rename_i hl
          exact ⟨ys, ρ2, rfl, hl, hr⟩
        · exact hr.elim
    cases es with
    | nil =>
      have hxs : xs = [] := List.length_eq_zero_iff.mp (by rw [← hl]; rfl)
      subst hxs
      unfold evL at hr
      simp only [Out.bind_ok] at hr
      obtain ⟨ys, ρ2, e1, e2, e3⟩ := fin (ts := []) (ρ1 := ρ) hr
      cases e1
      have hf : fs = [] := List.length_eq_zero_iff.mp (by rw [← e2]; rfl)
      subst hf
      obtain ⟨bm, newId, initId, B, F, q⟩ := hpl rfl
      refine ps_raise_we o.calm o.tk (pmk_own0 F q hmg T.kC (raises_own T.exC T.tyC) (o.gl hg) hg.2) ?_
      refine e3 (.ref Ca) none σ H W ⟨Ca, hxa, rfl, .inl ⟨rfl, rfl⟩⟩ (StR.refl S)
    | cons e es =>
      have hs' := hs
      simp only [List.all_cons, Bool.and_eq_true] at hs'
      have hfl : fs ≠ [] := fun z => by
        have := hfs fs hx
        subst z
        simp at this
      obtain ⟨f, qual, body, F, fd, TX, hck⟩ := hini hfl
      have FI := init_ok (w := X.w) (base := X.base) TX hck
      have pm := pmk_oex (X := X) (CX := CXL X.prog X.w) (p := p) (pos := pos) (ds := []) (dvs := []) T TX.iC TX.tI FI (o.room.r.mono (by omega)) TX.bind .nil (passes_call o.tk fun _ _ _ _ z => z.elim) (o.gl hg) hmg (pa_was hs) hg.2 (star_each hs'.1) (star_any hs'.2)
      cases hy : evL ev xs ρ with
      | no => rw [hy] at hr; exact hr.elim
      | ex er ρ1 =>
        rw [hy] at hr
        have hw : WAs X (e :: es) σ H fun _ _ => False := h Z ρ σ H W _ S hz (by rw [hy]; exact ExOk.ofS hr)
        exact ps_raise_we o.calm o.tk pm (WAs.mono hw fun _ _ z => z.elim)
      | ok ts ρ1 =>
        rw [hy] at hr
        simp only [Out.bind_ok] at hr
        obtain ⟨ys, ρ2, e1, e2, e3⟩ := fin hr
        refine ps_raise_we o.calm o.tk pm ?_
        refine WAs.mono (h Z ρ σ H W (fun vs H1 => ∃ W1 as, Post false H W H1 W1 ∧ Sim C.M Z ρ2 σ H1 W1 ∧ RepDs C.M.K H1 vs ys as ∧ Off Z W1 as) S hz (by
          rw [hy]
          intro vs H1 g
          obtain ⟨W1, as, P, S1, r, off⟩ := gots_data g e1
          exact ⟨W1, as, P.weak, S1, r, off⟩)) fun vs H1 ⟨W1, as, P, S1, r, off⟩ => ?_
        have hz1 : ZT Z H1 := P.z hz S.nz
        have hlv : vs.length = (fs.map so).length := by rw [r.length, e2, List.length_map]
        refine ⟨by
          rw [hlv]
          exact Nat.le_trans (ckInit_len hck) (by decide), fun a na => ⟨a, vs, by rw [List.append_nil], hlv, upd_same, fun dx H' nd ne h1 h2 h3 => ⟨rfl, dx, _, h1, h2, ?_, ?_⟩⟩⟩
        · have := nd
          rw [upd_ne ne] at this
          exact this
        · have nd1 : H1 dx = none := by rw [upd_ne ne] at nd; exact nd
          have eH : upd (L2.del H' a) dx (.xd (((fs.map so).zip vs).reverse)) = upd H1 dx (.xd (((fs.map so).zip vs).reverse)) := by
            funext b
            by_cases hb : b = dx
            · subst hb; rw [upd_same, upd_same]
            · rw [upd_ne hb, upd_ne hb]
              by_cases ha : b = a
              · subst ha; rw [del_same, na]
              · rw [del_ne ha, h3 b ha hb, upd_ne ha]
          rw [eH]
          obtain ⟨bs, x1, x2⟩ := XfR.zip (by rw [e2]) r
          obtain ⟨cs, y1, y2⟩ := x1.rev
          have P2 : Post false H W (upd H1 dx (.xd (((fs.map so).zip vs).reverse))) W1 := (P.alloc nd1).sub fun a h => by simp [h]
          refine e3 (.ref Ca) (some dx) σ _ W1 ⟨Ca, hxa, rfl, .inr ⟨dx, _, cs, rfl, upd_same, XfR.stay (Stay.ofSame (same_upd nd1) (A := cs)) y1 fun _ h => h, off.sub fun a ha => x2 a (y2 a ha)⟩⟩ ⟨P2, S1.same (same_upd nd1), Kp.refl⟩

/-! ### an except suite -/
def tXf (K : PySem.W.Frag) (a : Addr) (cls : Value) (d : Option Addr) (f : Str) (te : TE) : TE := fun σ H Q => te σ H fun x H1 => x = .ref a ∧ ∃ (Ca dd : Addr) (vfs : List (Str × V)) (v : V), cls = .ref Ca ∧ OexC K Ca ∧ PySem.W.findIn K (.ref Ca) "__getattribute__" = some (some (.builtin "BaseException.__getattribute__")) ∧ PySem.W.findIn K (.ref Ca) "__getattr__" = some none ∧ PySem.W.hasDictIn K Ca = true ∧
  PySem.W.findIn K (.ref Ca) f = some none ∧ d = some dd ∧ H1 dd = some (.xd vfs) ∧ vfs.lookup f = some v ∧ Q v H1
theorem pe_xfld {a : Addr} {oe : Obj} {cls : Value} {d : Option Addr} {pn : List (Addr × Obj)} {e : Expr} {te : TE} {pos : Pos} {f : Str} (hz : Zc cls d oe) (hf : ∃ vs, oe.data = .fields vs) (he : PE (X.suite a ((a, oe) :: pn)) e te)
    (hb : attributeBase e f X.env (eval e X.env) = eval e X.env) : PE (X.suite a ((a, oe) :: pn)) (.Attribute e f pos) (tXf X.K a cls d f te) := by
  refine ⟨fun pins s σ H Q I h => ?_⟩
  refine attr_of hb (thn (he.run pins s σ H _ I h) fun u s1 hh => ?_)
  obtain ⟨x, H1, I1, rx, ex, Ca, dd, vfs, v, ec, T, ga, gg, hdi, hno, ed, ea, l, q⟩ := hh
  subst ex
  obtain rfl : u = Value.ref a := rx
  subst ec
  subst ed
  obtain ⟨ha, _⟩ := I1.pin (a, oe) (List.mem_append_left _ List.mem_cons_self)
  obtain ⟨vs, hd⟩ := hf
  have hx : ObjOk X.prog X.w H1 s1.heap dd (.xd vfs) := I1.hok dd _ ea
  obtain ⟨mA, hns, hr⟩ := hx
  obtain ⟨od, ho, hl⟩ := lookIn_ns hns
  obtain ⟨u, hu, ru⟩ := RelO.some_of (v := v) (o := mA f) (by rw [← l]; exact hr f)
  have J : PySem.W.InstAt s1.heap a oe Ca (some od) := ⟨ha, hz.1, by unfold PySem.W.notCls; rw [hd] <;> rfl, by rw [hz.2]; exact ho⟩
  exact HandSPX.exc_get I1.kIn J ga gg T.exC (PySem.W.findObj_own hdi hno rfl (by rw [hl, hu])) (handed_of ru) ⟨v, H1, I1.tok _, ru, q⟩
mutual
/-- the text of what a suite gives back -/
def ckP (i : Option Nat) (C : Cst) : Ex → Expr → Bool
  | .k d, e => kOk d e
  | .v j, e => match e with
    | .Name y _ => !(i == some j) && visB C y j
    | _ => false
  | .fld j f, e => match e with
    | .Attribute (.Name y _) g _ => decide (i = some j) && decide (g = so f) && visB C y j
    | _ => false
  | .p .tup xs, e => match e with
    | .Tuple es _ _ => es.all notStar && ckPs i C xs es
    | _ => false
  | _, _ => false
def ckPs (i : Option Nat) (C : Cst) : List Ex → List Expr → Bool
  | [], es => es.isEmpty
  | x :: xs, es => match es with
    | [] => false
    | e :: r => ckP i C x e && ckPs i C xs r
end
theorem k_pe {d : PyData} {e : Expr} (h : kOk d e = true) : ∃ v, PE X e (tC v) ∧ ∀ K H, RepD K H v d [] := by
  unfold kOk at h
  split at h
  · rw [beq_iff_eq] at h; subst h; exact ⟨_, pe_int, fun _ _ => .int _⟩
  · rw [beq_iff_eq] at h; subst h; exact ⟨_, pe_bl, fun _ _ => .bool _⟩
  · rw [beq_iff_eq] at h; subst h; exact ⟨_, pe_str, fun _ _ => .str _⟩
  · exact ⟨_, pe_non, fun _ _ => .none⟩
  · cases h
theorem plE_ne {P : Pg} {fs : List (String × PyData)} {i : Option Nat} {ρ : Rho} {op : Pr} {xs : List Ex} (h : op ≠ .tup) : plE P fs i ρ (.p op xs) = none := by
  cases op <;> first | exact absurd rfl h | (unfold plE; rfl)
/-- what the suite reads: the slots as they were (but for the exception's name), its fields -/
structure PlC (C : Cst) (X : Cx) (Z : Addr → Prop) (W : List Addr) (i : Option Nat) (a : Addr) (cls : Value) (d : Option Addr) (fs : List (String × PyData)) (ρ : Rho) (σ : L2.St) (H : Hp) : Prop where
  sl : ∀ j x, i ≠ some j → ρ[j]? = some (.lf (.d x)) → ∃ v as, σ[j]? = some (some v) ∧ RepD C.M.K H v x as ∧ Off Z W as
  er : ∀ j, i = some j → σ[j]? = some (some (.ref a))
  fl : ∀ f x, fs.lookup f = some x → ∃ (Ca dd : Addr) (vfs : List (Str × V)) (v : V) (as : List Addr), cls = .ref Ca ∧ OexC X.K Ca ∧ PySem.W.findIn X.K (.ref Ca) "__getattribute__" = some (some (.builtin "BaseException.__getattribute__")) ∧ PySem.W.findIn X.K (.ref Ca) "__getattr__" = some none ∧ PySem.W.hasDictIn X.K Ca = true ∧
    PySem.W.findIn X.K (.ref Ca) (so f) = some none ∧ d = some dd ∧ H dd = some (.xd vfs) ∧ vfs.lookup (so f) = some v ∧ RepD C.M.K H v x as ∧ Off Z W as
theorem PlC.same {Z : Addr → Prop} {W : List Addr} {i : Option Nat} {a : Addr} {cls : Value} {d : Option Addr} {fs : List (String × PyData)} {ρ : Rho} {σ : L2.St} {H H' : Hp} (p : PlC C X Z W i a cls d fs ρ σ H) (s : Same H H') : PlC C X Z W i a cls d fs ρ σ H' where
  sl := fun j x h1 h2 => let ⟨v, as, q1, q2, q3⟩ := p.sl j x h1 h2; ⟨v, as, q1, q2.stay (Stay.ofSame s (A := as)) fun _ h => h, q3⟩
  er := p.er
  fl := fun f x h => let ⟨Ca, dd, vfs, v, as, q1, q2, q3, q4, q5, q6, q7, q8, q9, q10, q11⟩ := p.fl f x h; ⟨Ca, dd, vfs, v, as, q1, q2, q3, q4, q5, q6, q7, s _ _ q8, q9, q10.stay (Stay.ofSame s (A := as)) fun _ h => h, q11⟩
section
variable {a : Addr} {oe : Obj} {cls : Value} {d : Option Addr} {pn : List (Addr × Obj)} {Z : Addr → Prop} {W : List Addr} {i : Option Nat} {fs : List (String × PyData)} {ρ : Rho} {σ : L2.St}
mutual
theorem pl_ok (o : Okx C n Wx X) (hz : Zc cls d oe) (hf : ∃ vs, oe.data = .fields vs) : ∀ (x : Ex) (e : Expr) (H : Hp) (y : PyData) (Q : VK), PlC C X Z W i a cls d fs ρ σ H → ckP i C x e = true → plE C.P fs i ρ x = some y → (∀ v H' as, Same H H' → RepD C.M.K H' v y as → Off Z W as → Q v H') → WE (X.suite a ((a, oe) :: pn)) e σ H Q
  | .k c, e, H, y, Q, p, h, hy, hq => by
    unfold ckP at h
    unfold plE at hy
    cases hy
    obtain ⟨v, h1, h2⟩ := k_pe (X := X.suite a ((a, oe) :: pn)) h
    exact we_of h1 (hq v H [] (fun _ _ e => e) (h2 _ _) (by intro a ha; simp at ha))
  | .v j, e, H, y, Q, p, h, hy, hq => by
    unfold ckP at h
    split at h
    · simp only [Bool.and_eq_true, Bool.not_eq_true', beq_eq_false_iff_ne] at h
      obtain ⟨h1, h2⟩ := h
      have vs := visB_ok h2
      obtain ⟨hN, hv⟩ := o.vis vs
      unfold plE at hy
      rw [if_neg h1] at hy
      split at hy
      · rename_i x' e'
        cases hy
        obtain ⟨v, as, q1, q2, q3⟩ := p.sl j _ h1 e'
        exact we_of (X := X.suite a ((a, oe) :: pn)) (pe_var hN hv vs.2.2.1 vs.2.2.2) ⟨v, q1, hq v H as (fun _ _ e => e) q2 q3⟩
      · cases hy
    · cases h
  | .fld j f, e, H, y, Q, p, h, hy, hq => by
    unfold ckP at h
    split at h
    · simp only [Bool.and_eq_true, decide_eq_true_eq] at h
      obtain ⟨⟨h1, rfl⟩, h2⟩ := h
      have vs := visB_ok h2
      obtain ⟨hN, hv⟩ := o.vis vs
      unfold plE at hy
      rw [if_pos h1] at hy
      obtain ⟨Ca, dd, vfs, v, as, q1, q2, q3, q4, q5, q6, q7, q8, q9, q10, q11⟩ := p.fl f y hy
      refine we_of (pe_xfld hz hf (pe_var (X := X.suite a ((a, oe) :: pn)) hN hv vs.2.2.1 vs.2.2.2) rfl) ⟨.ref a, p.er j h1, rfl, Ca, dd, vfs, v, q1, q2, q3, q4, q5, q6, q7, q8, q9, hq v H as (fun _ _ e => e) q10 q11⟩
    · cases h
  | .p op xs, e, H, y, Q, p, h, hy, hq => by
    by_cases ho : op = .tup
    case neg => rw [plE_ne ho] at hy; cases hy
    subst ho
    unfold ckP at h
    split at h
    · rename_i es k pos
      simp only [Bool.and_eq_true] at h
      unfold plE at hy
      cases hx : plEs C.P fs i ρ xs with
      | none => rw [hx] at hy; cases hy
      | some ys =>
        rw [hx] at hy
        simp only [Option.bind_some] at hy
        split at hy
        · rename_i hl
          cases hy
          refine we_of (pe_tup (X := X.suite a ((a, oe) :: pn)) (pa_was h.1)) (show tTup (WAs (X.suite a ((a, oe) :: pn)) es) σ H Q from ?_)
          refine pls_ok o hz hf xs es H ys _ p h.2 hx fun vs H' as s r off => ⟨by rw [r.length]; exact hl, fun q nq => ?_⟩
          exact hq _ _ as (fun b u z => same_upd nq _ _ (s b u z)) (.tup (SqT.of upd_same) (r.stay (Stay.ofSame (same_upd nq) (A := as)) fun _ h => h)) off
        · cases hy
    · cases h
  | .g _, _, _, _, _, _, h, _, _ => by unfold ckP at h; cases h
  | .f _, _, _, _, _, _, h, _, _ => by unfold ckP at h; cases h
  | .m _ _ _, _, _, _, _, _, h, _, _ => by unfold ckP at h; cases h
  | .s2 _ _ _, _, _, _, _, _, h, _, _ => by unfold ckP at h; cases h
  | .call _ _, _, _, _, _, _, h, _, _ => by unfold ckP at h; cases h
  | .callv _ _, _, _, _, _, _, h, _, _ => by unfold ckP at h; cases h
  | .mk _ _, _, _, _, _, _, h, _, _ => by unfold ckP at h; cases h
  | .om _ _ _, _, _, _, _, _, h, _, _ => by unfold ckP at h; cases h
  | .fldT _ _, _, _, _, _, _, h, _, _ => by unfold ckP at h; cases h
  | .and _ _, _, _, _, _, _, h, _, _ => by unfold ckP at h; cases h
  | .or _ _, _, _, _, _, _, h, _, _ => by unfold ckP at h; cases h
  | .not _, _, _, _, _, _, h, _, _ => by unfold ckP at h; cases h
  | .ite _ _ _, _, _, _, _, _, h, _, _ => by unfold ckP at h; cases h
  | .chn _ _ _ _ _, _, _, _, _, _, h, _, _ => by unfold ckP at h; cases h
  | .lc _ _ _ _ _ _, _, _, _, _, _, h, _, _ => by unfold ckP at h; cases h
  | .lc2 _ _ _ _ _ _ _ _ _ _, _, _, _, _, _, h, _, _ => by unfold ckP at h; cases h
theorem pls_ok (o : Okx C n Wx X) (hz : Zc cls d oe) (hf : ∃ vs, oe.data = .fields vs) : ∀ (xs : List Ex) (es : List Expr) (H : Hp) (ys : List PyData) (Q : List V → Hp → Prop), PlC C X Z W i a cls d fs ρ σ H → ckPs i C xs es = true → plEs C.P fs i ρ xs = some ys → (∀ vs H' as, Same H H' → RepDs C.M.K H' vs ys as → Off Z W as → Q vs H') → WAs (X.suite a ((a, oe) :: pn)) es σ H Q
  | [], es, H, ys, Q, p, h, hy, hq => by
    unfold ckPs at h
    unfold plEs at hy
    cases hy
    cases es with
    | nil => exact hq [] H [] (fun _ _ e => e) .nil (by intro a ha; simp at ha)
    | cons _ _ => cases h
  | x :: xs, es, H, ys, Q, p, h, hy, hq => by
    unfold ckPs at h
    split at h
    · cases h
    · rename_i e r
      simp only [Bool.and_eq_true] at h
      unfold plEs at hy
      cases hx : plE C.P fs i ρ x with
      | none => rw [hx] at hy; cases hy
      | some y =>
        rw [hx] at hy
        simp only [Option.bind_some] at hy
        cases hx2 : plEs C.P fs i ρ xs with
        | none => rw [hx2] at hy; cases hy
        | some ys' =>
          rw [hx2] at hy
          cases hy
          show WE (X.suite a ((a, oe) :: pn)) e σ H fun v H1 => WAs (X.suite a ((a, oe) :: pn)) r σ H1 fun vs H2 => Q (v :: vs) H2
          refine pl_ok o hz hf x e H y _ p h.1 hx fun v H1 as s1 r1 off1 => ?_
          refine pls_ok o hz hf xs r H1 ys' _ (p.same s1) h.2 hx2 fun vs H2 bs s2 r2 off2 => ?_
          exact hq _ _ (as ++ bs) (fun b u z => s2 _ _ (s1 _ _ z)) (.cons (r1.stay (Stay.ofSame s2 (A := as)) fun _ h => h) r2) (off1.append off2)
end
end

theorem lookup_filter {ok : String → Bool} {f : String} {x : PyData} : ∀ {fs : List (String × PyData)}, (fs.filter fun p => ok p.1).lookup f = some x → ok f = true ∧ fs.lookup f = some x
  | [], h => by simp at h
  | (g, y) :: fs, h => by
    by_cases hg : ok g = true
    · rw [List.filter_cons_of_pos (by simpa using hg), List.lookup_cons] at h
      rw [List.lookup_cons]
      split at h
      · rename_i hb
        rw [beq_iff_eq] at hb
        subst hb
        exact ⟨hg, h⟩
      · exact lookup_filter h
    · rw [List.filter_cons_of_neg (by simpa using hg)] at h
      obtain ⟨h1, h2⟩ := lookup_filter h
      refine ⟨h1, ?_⟩
      have hb : (f == g) = false := by
        rw [beq_eq_false_iff_ne]
        rintro rfl
        exact hg h1
      rw [List.lookup_cons, hb]
      exact h2
def ltO (i : Option Nat) (n : Nat) : Bool := match i with
  | some j => decide (j < n)
  | none => true
theorem suiteF_ret {P : Pg} {e : Er} {i : Option Nat} {ρ : Rho} {x : Ex} : suiteF P e i ρ [.ret x] = if ltO i ρ.length = true then match plE P (erF P e) i ρ x with
    | some d => .ok (.rt (.lf (.d d))) ρ
    | none => .no else .no := rfl
def ckSu (i : Option Nat) (C : Cst) : List Sx → List Stmt → Bool
  | [.ret x], [.Return (some e) _] => ckP i C x e
  | [.pass], [.Pass _] => decide (i = none)
  | _, _ => false
/-- except clauses -/
def ckHs (C : Cst) : List (List String × Option Nat × List Sx) → List ExceptHandler → Bool
  | [], hds => hds.isEmpty
  | (cs, x, b) :: r, hds => match hds with
    | .ExceptHandler (some (.Name y _)) nm suite _ :: hds' => (match cs with
        | [c] => decide (y = so c) && gloB C y && (C.P.exc c).isSome
        | _ => false) && (match nm, x with
        | none, none => true
        | some n, some i => locB C n i
        | _, _ => false) && ckSu x C b suite && ckHs C r hds'
    | _ => false
/-- an exception of the body, as the clauses find it -/
structure ExAt (C : Cst) (Z : Addr → Prop) (pin : List Nat) (σ0 : L2.St) (H0 : Hp) (W0 : List Addr) (e : Er) (ρ : Rho) (cls : Value) (d : Option Addr) (σ : L2.St) (H : Hp) (W : List Addr) : Prop where
  er : ErR C.M Z W H e cls d
  st : StR C.M Z pin σ0 H0 W0 ρ σ H W
theorem plc_of (o : Okx C n Wx X) {Z : Addr → Prop} {σ0 σ σ' : L2.St} {H0 H : Hp} {W0 W : List Addr} {e : Er} {ρ : Rho} {cls : Value} {d : Option Addr} {i : Option Nat} {a : Addr} (x : ExAt C Z pin σ0 H0 W0 e ρ cls d σ H W) (h1 : ∀ j, i ≠ some j → σ'[j]? = σ[j]?) (h2 : ∀ j, i = some j → σ'[j]? = some (some (.ref a))) :
    PlC C X Z W i a cls d (erF C.P e) ρ σ' H where
  sl := fun j y hj hy => by
    obtain ⟨A, sl, ap⟩ := x.st.sim.sls
    obtain ⟨ov, w, as, W1, W2, A1, A2, q1, q2, rfl, rfl, _⟩ := sl.at_ hy
    cases q2 with
    | lf r => cases r with
      | d r => exact ⟨_, as, by rw [h1 j hj]; exact q1, r, fun b hb => ap b (by simp [hb])⟩
  er := h2
  fl := fun f y hy => by
    unfold erF at hy
    split at hy
    · rename_i fs hfs
      obtain ⟨hf, hl⟩ := lookup_filter (ok := fun g => fs.contains g) hy
      obtain ⟨Ca, k1, k2, T, ga, gg, hd, hno, _⟩ := (o.md.xc e.c fs hfs).ex
      obtain ⟨Cb, g1, g2, g3⟩ := x.er.ex
      rw [k1] at g1
      cases g1
      rcases g3 with ⟨z, _⟩ | ⟨dx, vfs, as, b1, b2, b3, b4⟩
      · rw [z] at hl; cases hl
      · obtain ⟨v, bs, c1, c2, c3⟩ := b3.look hl
        exact ⟨Ca, dx, vfs, v, bs, g2, T, ga, gg, hd, hno f (by simpa using hf), b1, b2, c1, c2, b4.sub c3⟩
    · cases hy
theorem su_ok (o : Okx C n Wx X) {Z : Addr → Prop} {σ0 σ σ' : L2.St} {H0 H : Hp} {W0 W : List Addr} {e : Er} {ρ : Rho} {cls : Value} {d : Option Addr} {i : Option Nat} {a : Addr} {oe : Obj} {pn : List (Addr × Obj)} {b : List Sx} {suite : List Stmt} {D D' : Ends} (hz : Zc cls d oe) (hf : ∃ vs, oe.data = .fields vs) (x : ExAt C Z pin σ0 H0 W0 e ρ cls d σ H W) (h1 : ∀ j, i ≠ some j → σ'[j]? = σ[j]?)
    (h2 : ∀ j, i = some j → σ'[j]? = some (some (.ref a)) ∨ σ.length ≤ j) (hD : D'.rt = D.rt) (hN : i = none → D' = D ∧ σ' = σ) (hc : ckSu i C b suite = true) (hr : ResS C.M Wx Z pin σ0 H0 W0 (suiteF C.P e i ρ b) D) : WSs (X.suite a ((a, oe) :: pn)) suite D' σ' H := by
  unfold ckSu at hc
  split at hc
  · rename_i ex ee pos
    rw [suiteF_ret] at hr
    by_cases hi : ltO i ρ.length = true
    case neg => rw [if_neg hi] at hr; exact hr.elim
    case pos =>
      rw [if_pos hi] at hr
      cases hp : plE C.P (erF C.P e) i ρ ex with
      | none => rw [hp] at hr; exact hr.elim
      | some y =>
        rw [hp] at hr
        have h2' : ∀ j, i = some j → σ'[j]? = some (some (.ref a)) := fun j hj => by
          rcases h2 j hj with z | z
          · exact z
          · subst hj
            have hi' : j < ρ.length := of_decide_eq_true hi
            rw [x.st.sim.length] at hi'
            omega
        refine wss_of (pss_one (ps_ret pe_we)) (show WE (X.suite a ((a, oe) :: pn)) ee σ' H D'.rt from ?_)
        rw [hD]
        refine pl_ok o hz hf ex ee H y D.rt (plc_of o x h1 h2') hc hp fun v H' as s r off => ?_
        have S' := x.st.sim.same s
        refine hr v σ H' W [] as ?_ (S'.weak fun a h => h.elim id fun z => (by simp at z)) x.st.kp (.lf (.d r)) ⟨fun a ha => ⟨(off a ha).1, (off a ha).2, by simp⟩, .nil, by simp⟩
        exact ⟨fun b u z hb => s _ _ (x.st.post.keep b u z hb), fun b u z => let ⟨u', z'⟩ := x.st.post.trk b u z; ⟨u', s _ _ z'⟩, fun b hb => x.st.post.new b (by simpa using hb), fun q => nomatch q⟩
  · have hi : i = none := of_decide_eq_true hc
    unfold suiteF at hr
    rw [if_pos hi] at hr
    obtain ⟨rfl, rfl⟩ := hN hi
    exact wss_of (pss_one ps_pass) (hr σ' H W x.st)
  · cases hc
/-- the clauses, one after the other -/
theorem hs_ok (o : Okx C n Wx X) : ∀ (hs : List (List String × Option Nat × List Sx)) (hds : List ExceptHandler), ckHs C hs hds = true → ∃ l, HdsA X hds l ∧ ∀ (Z : Addr → Prop) (σ0 σ : L2.St) (H0 H : Hp) (W0 W : List Addr) (e : Er) (ρ : Rho) (cls : Value) (d : Option Addr) (D : Ends),
    ExAt C Z pin σ0 H0 W0 e ρ cls d σ H W → ResS C.M Wx Z pin σ0 H0 W0 (handle C.P e hs ρ) D → wAll X.K Wx D l cls d σ H
  | [], hds, h => by
    unfold ckHs at h
    cases hds with
    | cons _ _ => cases h
    | nil => exact ⟨[], .nil, fun Z σ0 σ H0 H W0 W e ρ cls d D x hr => hr cls d σ H W x.er x.st⟩
  | (cs, x, b) :: r, hds, h => by
    unfold ckHs at h
    split at h
    · rename_i y np nm suite pos' hds'
      simp only [Bool.and_eq_true] at h
      obtain ⟨⟨⟨h1, h2⟩, h3⟩, h4⟩ := h
      obtain ⟨l, hl, hw⟩ := hs_ok o r hds' h4
      split at h1
      · rename_i c
        simp only [Bool.and_eq_true, decide_eq_true_eq] at h1
        obtain ⟨⟨rfl, hg⟩, hx⟩ := h1
        obtain ⟨fs', hfs⟩ := Option.isSome_iff_exists.mp hx
        obtain ⟨Cc, k1, k2, T, _⟩ := (o.md.xc c fs' hfs).ex
        have g := gloB_ok hg
        have nms : Names X (so c) (.ref Cc) := ⟨o.gl g, g.2, .inl k2⟩
        have key : ∀ {e : Er} {cls : Value} {d : Option Addr} {Z : Addr → Prop} {W : List Addr} {H : Hp}, ErR C.M Z W H e cls d → PySem.W.exmOne X.K cls (.ref Cc) = some (C.P.isa e.c c) := fun {e cls d Z W H} er => by
          obtain ⟨Ce, g1, g2, _⟩ := er.ex
          subst g2
          exact o.md.xi e.c c fs' Ce Cc g1 hfs k1
        obtain ⟨b0, rest, hsu⟩ : ∃ b0 rest, suite = b0 :: rest := by
          unfold ckSu at h3
          split at h3
          · exact ⟨_, _, rfl⟩
          · exact ⟨_, _, rfl⟩
          · cases h3
        let ts : Addr → Value → Option Addr → TS := fun a cls d D σ H => ∀ oe pn, Zc cls d oe → (∃ vs, oe.data = .fields vs) → WSs (X.suite a ((a, oe) :: pn)) suite D σ H
        have hts : ∀ (a : Addr) (oe : Obj) (cls : Value) (d : Option Addr) (pn : List (Addr × Obj)), Zc cls d oe → (∃ vs, oe.data = .fields vs) → PSs (X.suite a ((a, oe) :: pn)) (b0 :: rest) (ts a cls d) := fun a oe cls d pn hz hf => by
          rw [← hsu]
          exact ⟨fun pins s σ H D I q => q oe pn hz hf pins s I⟩
        split at h2
        · refine ⟨⟨.ref Cc, none, ts⟩ :: l, by rw [hsu]; exact .plain nms hts hl, fun Z σ0 σ H0 H W0 W e ρ cls d D x hr => ⟨C.P.isa e.c c, key x.er, fun hb a na => ?_, fun hb => ?_⟩⟩
          · unfold handle at hr
            simp only [List.any_cons, List.any_nil, Bool.or_false, hb, if_true] at hr
            intro oe pn hz hf
            exact su_ok (i := none) o hz hf x (fun _ _ => rfl) (fun _ z => nomatch z) rfl (fun _ => ⟨rfl, rfl⟩) h3 hr
          · unfold handle at hr
            simp only [List.any_cons, List.any_nil, Bool.or_false, hb, Bool.false_eq_true, if_false] at hr
            exact hw _ _ _ _ _ _ _ _ _ _ _ _ x hr
        · rename_i nn i
          obtain ⟨hN, hloc⟩ := locB_ok h2
          refine ⟨⟨.ref Cc, some i, ts⟩ :: l, by rw [hsu]; exact .as_ nms (by rw [o.N]; exact hN) (o.loc _ hloc) hts hl, fun Z σ0 σ H0 H W0 W e ρ cls d D x hr => ⟨C.P.isa e.c c, key x.er, fun hb a na => ?_, fun hb => ?_⟩⟩
          · unfold handle at hr
            simp only [List.any_cons, List.any_nil, Bool.or_false, hb, if_true] at hr
            intro oe pn hz hf
            refine su_ok (i := some i) (σ' := σ.set i (some (.ref a))) (D := D) o hz hf x (fun j hj => ?_) (fun j hj => ?_) rfl (fun z => nomatch z) h3 hr
            · rw [List.getElem?_set_ne (fun z => hj (by rw [z]))]
            · cases hj
              by_cases hlt : i < σ.length
              · exact .inl (by rw [List.getElem?_set_self hlt])
              · exact .inr (by omega)
          · unfold handle at hr
            simp only [List.any_cons, List.any_nil, Bool.or_false, hb, Bool.false_eq_true, if_false] at hr
            exact hw _ _ _ _ _ _ _ _ _ _ _ _ x hr
        · cases h2
      · cases h1
    · cases h
theorem Okx.tr (o : Okx C n Wx X) {W' : WX} {pn : List (Addr × Obj)} {xe : Value → Shared → Prop} (tk : Takes (X.tr pn xe) W') (po : PassesOwn (model X.prog X.w) X.A X.env xe) : Okx C n W' (X.tr pn xe) :=
  ⟨o.N, o.nd, o.kind, o.loc, o.cell, o.free, o.glo, o.fn, o.calm, o.room, tk, po, ⟨o.md.K, o.md.blt, o.md.gl, o.md.fa, o.md.ca, o.md.na, o.md.cn, o.md.xc, o.md.xi⟩⟩
/-- try: body, except clauses -/
theorem good_try {body : List Stmt} {h0 : ExceptHandler} {hds : List ExceptHandler} {pos : Pos} {hs : List (List String × Option Nat × List Sx)} {mb : Rho → Out Flow} (o : Okx C n Wx X) (hst : X.stack = X.env :: X.outer) (hfr : X.env.frame = some X.env.locals) (hc : ckHs C hs (h0 :: hds) = true)
    (hb : ∀ (W' : WX) (pn : List (Addr × Obj)) (xe : Value → Shared → Prop), Okx C n W' (X.tr pn xe) → GoodB C W' (X.tr pn xe) body pin mb) : GoodS C Wx X (.Try body (h0 :: hds) [] [] pos) pin (fun ρ => match mb ρ with
      | .ex e ρ1 => handle C.P e hs ρ1
      | r => r) := by
  intro Z ρ σ H W D S hz hr
  simp only at hr
  obtain ⟨l, hl, hw⟩ := hs_ok (pin := pin) o hs (h0 :: hds) hc
  have rule := ps_try_all (pos := pos) (body := body) (tb := fun W' => fun D σ H => ∀ (pn : List (Addr × Obj)) (xe : Value → Shared → Prop), Takes (X.tr pn xe) W' → PassesOwn (model X.prog X.w) X.A X.env xe → WSs (X.tr pn xe) body D σ H) hst hfr o.nd o.tk
    (fun W' pn xe tk po => ⟨fun pins s σ H D I q => q pn xe tk po pins s I⟩) hl
  refine ws_of rule fun pn xe tk po => ?_
  refine hb _ pn xe (o.tr tk po) Z ρ σ H W D S hz ?_
  cases hm : mb ρ with
  | no => rw [hm] at hr; exact hr.elim
  | ok fl ρ1 =>
    rw [hm] at hr
    cases fl <;> exact hr
  | ex e ρ1 =>
    rw [hm] at hr
    exact fun cls d σ1 H1 W1 er st => hw Z σ σ1 H H1 W W1 e ρ1 cls d D ⟨er, st⟩ hr
end
end DL

set_option maxRecDepth 100000
set_option maxHeartbeats 8000000
/-! DL30: the checker of statements. -/
namespace DL
open PySem PySem.Spec L2

/-! ### pairs that are stored from the right -/
theorem sw_names2 {env : Env} {x y : Str} {a b : Expr} {px py pt pt2 : Pos} {kt k2 : Nat} (hk : env.scope.kind = .function) (hx : env.scope.names.lookup x = some .local) (hy : env.scope.names.lookup y = some .local) (hl : (py.line == px.line) = true) (hne : (x == y) = false)
    (hs : [a, b].all notStar = true) (hf : [a, b].all (foldedForSure 8) = false) (hc : [a, b].all (constantsAlone 8) = false) : swappedStores [.Tuple [.Name x px, .Name y py] kt pt] (.Tuple [a, b] k2 pt2) env = pure (some [x, y]) := by
  have kx : env.kindOf x = some .local := hx
  have ky : env.kindOf y = some .local := hy
  have hb : env.blockKind = .function := by unfold Env.blockKind; rw [hk]; rfl
  have hst : ([a, b].any fun | .Starred .. => true | _ => false) = false := by
    simp only [List.all_cons, List.all_nil, Bool.and_true, Bool.and_eq_true] at hs
    have s1 : ∀ e : Expr, notStar e = true → (match e with | .Starred .. => true | _ => false) = false := fun e h => by cases e <;> first | rfl | simp [notStar] at h
    simp only [List.any_cons, List.any_nil, Bool.or_false, s1 a hs.1, s1 b hs.2]
  unfold swappedStores
  simp only [List.length_cons, List.length_nil, hb, hf, hc, hst, kx, ky, List.filterMap_cons, List.filterMap_nil, Expr.pos, List.head?_cons, Option.map_some, Option.getD_some, hl, beq_self_eq_true, Bool.and_true, if_true]
  have hed : ([x, y] : List Str).eraseDups = [x, y] := by
    have : (y == x) = false := by
      rw [beq_eq_false_iff_ne] at hne ⊢
      exact fun e => hne e.symm
    simp [List.eraseDups_cons, this]
  simp only [List.all_cons, List.all_nil, Bool.and_true, Bool.and_eq_true] at hs
  have s1 : ∀ e : Expr, notStar e = true → ¬ ((match e with | .Starred .. => true | _ => false) = true) := fun e h => by cases e <;> first | (simp [notStar] at h; done) | (intro z; cases z; done)
  simp [hed]
  intro z
  exact (z.elim (s1 a hs.1) (s1 b hs.2)).elim
theorem sw_names3 {env : Env} {x y z : Str} {a b c : Expr} {px py pz pt pt2 : Pos} {kt k2 : Nat} (hk : env.scope.kind = .function) (hx : env.scope.names.lookup x = some .local) (hy : env.scope.names.lookup y = some .local) (hz : env.scope.names.lookup z = some .local) (hl : (py.line == px.line) = true) (hl2 : (pz.line == px.line) = true) (hne : (x == y) = false) (hn2 : (x == z) = false) (hn3 : (y == z) = false)
    (hs : [a, b, c].all notStar = true) (hf : [a, b, c].all (foldedForSure 8) = false) (hc : [a, b, c].all (constantsAlone 8) = false) : swappedStores [.Tuple [.Name x px, .Name y py, .Name z pz] kt pt] (.Tuple [a, b, c] k2 pt2) env = pure (some [x, y, z]) := by
  have kx : env.kindOf x = some .local := hx
  have ky : env.kindOf y = some .local := hy
  have kz : env.kindOf z = some .local := hz
  have hb : env.blockKind = .function := by unfold Env.blockKind; rw [hk]; rfl
  unfold swappedStores
  simp only [List.length_cons, List.length_nil, hb, hf, hc, kx, ky, kz, List.filterMap_cons, List.filterMap_nil, Expr.pos, List.head?_cons, Option.map_some, Option.getD_some, hl, hl2, beq_self_eq_true, Bool.and_true, if_true]
  have sw : ∀ {u v : Str}, (u == v) = false → (v == u) = false := fun {u v} h => by
    rw [beq_eq_false_iff_ne] at h ⊢
    exact fun e => h e.symm
  have hed : ([x, y, z] : List Str).eraseDups = [x, y, z] := by
    simp [List.eraseDups_cons, sw hne, sw hn2, sw hn3]
  simp only [List.all_cons, List.all_nil, Bool.and_true, Bool.and_eq_true] at hs
  have s1 : ∀ e : Expr, notStar e = true → ¬ ((match e with | .Starred .. => true | _ => false) = true) := fun e h => by cases e <;> first | (simp [notStar] at h; done) | (intro z; cases z; done)
  simp [hed]
  intro q
  exact (q.elim (s1 a hs.1) fun q => q.elim (s1 b hs.2.1) (s1 c hs.2.2)).elim
theorem swap_none {env : Env} {ts : List Expr} {j : Nat} {px : Pos} {e : Expr} (h : (match e with | .Tuple vs _ _ => vs.all (foldedForSure 8) | _ => true) = true) : swappedStores [.Tuple ts j px] e env = pure none := by
  cases e with
  | Tuple vs k p =>
    simp only at h
    unfold swappedStores
    simp only [h]
    split
    · rfl
    · split
      · rfl
      · split
        · rfl
        · rfl
  | _ => rfl

def opEq : Pr → Operator → Bool
  | .add, .Add => true
  | .sub, .Sub => true
  | _, _ => false
theorem opEq_ok {op : Pr} {o : Operator} (h : opEq op o = true) : opOf op = o := by
  unfold opEq at h
  split at h <;> first | rfl | cases h
/-- x = [..] that swaps: the name a local, on the line of the brackets -/
def lcB (C : Cst) (y : Str) (i : Nat) (py cpos : Pos) (scope : Scope) : Bool := locB C y i && (py.line == cpos.line) && !(scope.names.any fun (n, k) => n == y && (k == .local || k == .cell))
mutual
def ckS : Sx → Cst → Stmt → Bool
  | .asg t x, C, s => match t with
    | .nm i => match s with
      | .Assign [.Name y py] e _ => if plainV e then stoB C y i && ckE x C e else match x, e with
        | .lc own t w xs ifs x, .ListComp elt [⟨tg, it, ifs', 0⟩] scope cpos => lcB C y i py cpos scope && (match itOf C w tg it with
          | some os => blkC C.N C.sc scope (pairsOf C own) && notSet it && os.all notStar && ckEs xs C os && ckG (blkS C scope) t tg && oneIf ifs ifs' && ckTs ifs (blkS C scope) ifs' && ckE x (blkS C scope) elt
          | none => false)
        | _, _ => false
      | _ => false
    | .tp Ts => match s with
      | .Assign [.Tuple ts j px] e _ => ckG C (.tp Ts) (.Tuple ts j px) && (match e with | .Tuple vs _ _ => vs.all (foldedForSure 8) | _ => true) && ckE x C e
      | _ => false
  | .par is xs, C, s => match is, s with
    | [i, j], .Assign [.Tuple [.Name x px, .Name y py] _ _] (.Tuple [a, b] _ _) _ => locB C x i && locB C y j && !(i == j) && (py.line == px.line) && !(x == y) && [a, b].all notStar && !([a, b].all (foldedForSure 8)) && !([a, b].all (constantsAlone 8)) && ckEs xs C [a, b]
    | [i, j, l], .Assign [.Tuple [.Name x px, .Name y py, .Name z pz] _ _] (.Tuple [a, b, c] _ _) _ => locB C x i && locB C y j && locB C z l && !(i == j) && !(i == l) && !(j == l) && (py.line == px.line) && (pz.line == px.line) && !(x == y) && !(x == z) && !(y == z) && [a, b, c].all notStar && !([a, b, c].all (foldedForSure 8)) && !([a, b, c].all (constantsAlone 8)) && ckEs xs C [a, b, c]
    | _, _ => false
  | .setix o i e, C, s => match s with
    | .Assign [.Subscript eo ei _] ee _ => notSlice ei && plainV ee && ckE e C ee && ckE o C eo && ckE i C ei
    | _ => false
  | .setfld i f x, C, s => match s with
    | .Assign [.Attribute (.Name y _) nm _] e _ => decide (nm = so f) && visB C y i && C.fls.contains f && plainV e && ckE x C e
    | _ => false
  | .aug i op x, C, s => match s with
    | .AugAssign (.Name y _) op' e _ => opEq op op' && stoB C y i && ckE x C e
    | _ => false
  | .augix o i op x, C, s => match s with
    | .AugAssign (.Subscript eo ei _) op' e _ => opEq op op' && notSlice ei && ckE o C eo && ckE i C ei && ckE x C e
    | _ => false
  | .ex x, C, s => match s with
    | .Expr e _ => plainV e && ckE x C e
    | _ => false
  | .ret x, C, s => match s with
    | .Return (some e) _ => ckE x C e
    | _ => false
  | .retN, C, s => match s with
    | .Return none _ => true
    | _ => false
  | .ite c a b, C, s => match s with
    | .If ec ea eb _ => ckT c C ec && ckB a C ea && ckB b C eb
    | _ => false
  | .for_ t w xs b, C, s => match s with
    | .For tg it body [] _ => (match itOf C w tg it with
      | some os => notSet it && os.all notStar && ckEs xs C os && ckG C t tg && ckB b C body
      | none => false)
    | _ => false
  | .whl c b, C, s => match s with
    | .While ec eb [] _ => ckT c C ec && ckB b C eb
    | _ => false
  | .brk, C, s => match s with
    | .Break _ => true
    | _ => false
  | .cnt, C, s => match s with
    | .Continue _ => true
    | _ => false
  | .pass, C, s => match s with
    | .Pass _ => true
    | _ => false
  | .raise c xs, C, s => match s with
    | .Raise (some (.Call (.Name y _) es [] _)) none _ => decide (y = so c) && gloB C y && es.all notStar && (match C.P.exc c with
      | some fs => fs.length == es.length
      | none => false) && ckEs xs C es
    | _ => false
  | .try_ b hs, C, s => match s with
    | .Try body (h0 :: hds) [] [] _ => ckB b C body && ckHs C hs (h0 :: hds)
    | _ => false
def ckB : List Sx → Cst → List Stmt → Bool
  | [], C, ss => ss.isEmpty
  | x :: xs, C, ss => match ss with
    | [] => false
    | s :: r => ckS x C s && ckB xs C r
end
/-- the frame that runs is the def's own -/
structure StkOk (X : Cx) : Prop where
  a : X.stack = X.env :: X.outer
  b : X.env.frame = some X.env.locals
structure SndS (n : Nat) : Prop where
  s : ∀ (C : Cst) (Wx : WX) (X : Cx) (x : Sx) (s : Stmt) (pin : List Nat), Okx C n Wx X → StkOk X → (∀ j, j < n → FOk C.M C.P X j) → ckS x C s = true → GoodS C Wx X s pin (evS C.P n pin x)
  b : ∀ (C : Cst) (Wx : WX) (X : Cx) (xs : List Sx) (ss : List Stmt) (pin : List Nat), Okx C n Wx X → StkOk X → (∀ j, j < n → FOk C.M C.P X j) → ckB xs C ss = true → GoodB C Wx X ss pin (evB C.P n pin xs)
section
variable {C : Cst} {n : Nat} {Wx : WX} {X : Cx} {pin : List Nat}
theorem goodS_no {s : Stmt} : GoodS C Wx X s pin (fun _ => .no) := fun Z ρ σ H W D S hz hr => hr.elim
theorem goodB_no {s : List Stmt} : GoodB C Wx X s pin (fun _ => .no) := fun Z ρ σ H W D S hz hr => hr.elim
theorem snd_b (ih : SndS n) (o : Okx C n Wx X) (sk : StkOk X) (fk : ∀ j, j < n → FOk C.M C.P X j) : ∀ {xs : List Sx} {ss : List Stmt}, ckB xs C ss = true → GoodB C Wx X ss pin (seqL (evS C.P n pin) xs)
  | [], ss, h => by
    unfold ckB at h
    cases ss with
    | nil => exact goodB_nil
    | cons _ _ => cases h
  | x :: xs, ss, h => by
    unfold ckB at h
    split at h
    · cases h
    · simp only [Bool.and_eq_true] at h
      exact goodB_cons (ih.s C Wx X x _ pin o sk fk h.1) (snd_b ih o sk fk h.2)
theorem snd_s (ih : SndS n) (s : Stmt) (x : Sx) (o : Okx C (n + 1) Wx X) (sk : StkOk X) (fk : ∀ j, j < n + 1 → FOk C.M C.P X j) (h : ckS x C s = true) : GoodS C Wx X s pin (evS C.P (n + 1) pin x) := by
  have ie := snd_all n
  have o' : Okx C n Wx X := o.less (Nat.le_succ n)
  have fk' : ∀ j, j < n → FOk C.M C.P X j := fun j hj => fk j (Nat.lt_succ_of_lt hj)
  cases x with
  | asg t x =>
    unfold ckS at h
    cases t with
    | nm i =>
      simp only at h
      split at h
      · rename_i y py e pos
        split at h
        · rename_i hp
          simp only [Bool.and_eq_true] at h
          exact good_asgN o (stoB_ok h.1) hp (ie.e C Wx X _ _ o' fk' h.2)
        · split at h
          · rename_i own t w xs ifs x elt tg it ifs' scope cpos _
            simp only [Bool.and_eq_true] at h
            obtain ⟨hl, h⟩ := h
            unfold lcB at hl
            simp only [Bool.and_eq_true, Bool.not_eq_true'] at hl
            obtain ⟨⟨h1, h2⟩, h3⟩ := hl
            obtain ⟨hN, hloc⟩ := locB_ok h1
            split at h
            · rename_i os hos
              simp only [Bool.and_eq_true] at h
              obtain ⟨⟨⟨⟨⟨⟨⟨g1, g2⟩, g3⟩, g4⟩, g5⟩, g6⟩, g7⟩, g8⟩ := h
              cases n with
              | zero => exact fun Z ρ σ H W D S hz hr => hr.elim
              | succ m =>
                have ie2 := snd_all m
                have o2 : Okx C m Wx X := o'.less (Nat.le_succ m)
                have fk2 : ∀ j, j < m → FOk C.M C.P X j := fun j hj => fk' j (Nat.lt_succ_of_lt hj)
                obtain ⟨_, hln⟩ := cks_all2 ie2 o2 fk2 g4
                have ok := blk_ok o g1
                have g := good_setLc (pos := cpos) (spos := pos) (own := pairsOf C own) (pin := pin) o hN hloc (sw_true (l := pos.line) o.kind (o.loc _ hloc) h2 h3) ok (set_plain g2 _) (it_good o hos g3 hln (cks_good ie2 o2 fk2 g4)) (fun s H A cl fp => ckG_ok (o2.blk ok s H A cl fp) t tg g5)
                  (fun s H A cl fp => ckTs_good ie2 (o2.blk ok s H A cl fp) fk2 g6 g7) (fun s H A cl fp => ie2.e _ _ _ x elt (o2.blk ok s H A cl fp) fk2 g8)
                rw [pairs_snd] at g
                exact g
            · cases h
          · cases h
      · cases h
    | tp Ts =>
      simp only at h
      split at h
      · simp only [Bool.and_eq_true] at h
        exact good_asgT (ckG_ok o _ _ h.1.1) (swap_none h.1.2) (ie.e C Wx X _ _ o' fk' h.2)
      · cases h
  | par is xs =>
    unfold ckS at h
    split at h
    · simp only [Bool.and_eq_true, Bool.not_eq_true'] at h
      obtain ⟨⟨⟨⟨⟨⟨⟨⟨h1, h2⟩, h3⟩, h4⟩, h5⟩, h6⟩, h7⟩, h8⟩, h9⟩ := h
      obtain ⟨hi, hx⟩ := locB_ok h1
      obtain ⟨hj, hy⟩ := locB_ok h2
      exact good_par2 o hi hj hx hy (by simpa using h3) h6 (sw_names2 o.kind (o.loc _ hx) (o.loc _ hy) h4 h5 h6 h7 h8) (cks_good ie o' fk' h9)
    · simp only [Bool.and_eq_true, Bool.not_eq_true'] at h
      obtain ⟨⟨⟨⟨⟨⟨⟨⟨⟨⟨⟨⟨⟨⟨h1, h2⟩, h3⟩, i1⟩, i2⟩, i3⟩, l1⟩, l2⟩, n1⟩, n2⟩, n3⟩, h6⟩, h7⟩, h8⟩, h9⟩ := h
      obtain ⟨hi, hx⟩ := locB_ok h1
      obtain ⟨hj, hy⟩ := locB_ok h2
      obtain ⟨hl, hz⟩ := locB_ok h3
      exact good_par3 o hi hj hl hx hy hz (by simpa using i1) (by simpa using i2) (by simpa using i3) h6 (sw_names3 o.kind (o.loc _ hx) (o.loc _ hy) (o.loc _ hz) l1 l2 n1 n2 n3 h6 h7 h8) (cks_good ie o' fk' h9)
    · cases h
  | setix xo xi xe =>
    unfold ckS at h
    split at h
    · simp only [Bool.and_eq_true] at h
      obtain ⟨⟨⟨⟨h1, h2⟩, h3⟩, h4⟩, h5⟩ := h
      exact good_setix (xe := xe) (xo := xo) (xi := xi) (asg_plain h1) h2 (sole_plain h2) (goodL (.cons (ie.e C Wx X _ _ o' fk' h3) (.cons (ie.e C Wx X _ _ o' fk' h4) (.cons (ie.e C Wx X _ _ o' fk' h5) .nil))))
    · cases h
  | setfld i f x =>
    unfold ckS at h
    split at h
    · simp only [Bool.and_eq_true, decide_eq_true_eq] at h
      obtain ⟨⟨⟨⟨rfl, h1⟩, h2⟩, h3⟩, h4⟩ := h
      exact good_setfld o (visB_ok h1) (o.md.na f (by simpa using h2)) h3 (ie.e C Wx X _ _ o' fk' h4)
    · cases h
  | aug i op x =>
    unfold ckS at h
    split at h
    · simp only [Bool.and_eq_true] at h
      obtain ⟨⟨h1, h2⟩, h3⟩ := h
      rw [← opEq_ok h1]
      exact good_aug o (stoB_ok h2) (ie.e C Wx X _ _ o' fk' h3)
    · cases h
  | augix xo xi op x =>
    unfold ckS at h
    split at h
    · simp only [Bool.and_eq_true] at h
      obtain ⟨⟨⟨⟨h1, h2⟩, h3⟩, h4⟩, h5⟩ := h
      rw [← opEq_ok h1]
      exact good_augix (xo := xo) (xi := xi) o.KK h2 (goodL (.cons (ie.e C Wx X _ _ o' fk' h3) (.cons (ie.e C Wx X _ _ o' fk' h4) .nil))) (ie.e C Wx X _ _ o' fk' h5)
    · cases h
  | ex x =>
    unfold ckS at h
    split at h
    · simp only [Bool.and_eq_true] at h
      exact good_exprS h.1 (ie.e C Wx X _ _ o' fk' h.2)
    · cases h
  | ret x =>
    unfold ckS at h
    split at h
    · exact good_ret (ie.e C Wx X _ _ o' fk' h)
    · cases h
  | retN =>
    unfold ckS at h
    split at h
    · exact good_retN
    · cases h
  | ite c a b =>
    unfold ckS at h
    split at h
    · simp only [Bool.and_eq_true] at h
      exact good_if (ie.t C Wx X _ _ o' fk' h.1.1) (ih.b C Wx X _ _ pin o' sk fk' h.1.2) (ih.b C Wx X _ _ pin o' sk fk' h.2)
    · cases h
  | for_ t w xs b =>
    unfold ckS at h
    split at h
    · split at h
      · rename_i os hos
        simp only [Bool.and_eq_true] at h
        obtain ⟨⟨⟨⟨h1, h2⟩, h3⟩, h4⟩, h5⟩ := h
        exact good_for (mb := fun is => evB C.P n (is ++ pin) b) o.po o.calm (set_plain h1 _) (it_good o hos h2 (cks_all2 ie o' fk' h3).2 (cks_good ie o' fk' h3)) (ckG_ok o _ _ h4) (fun is => ih.b C Wx X _ _ _ o' sk fk' h5)
      · cases h
    · cases h
  | whl c b =>
    unfold ckS at h
    split at h
    · simp only [Bool.and_eq_true] at h
      exact good_while o.po (ie.t C Wx X _ _ o' fk' h.1) (ih.b C Wx X _ _ pin o' sk fk' h.2)
    · cases h
  | brk =>
    unfold ckS at h
    split at h
    · exact good_brk
    · cases h
  | cnt =>
    unfold ckS at h
    split at h
    · exact good_cnt
    · cases h
  | pass =>
    unfold ckS at h
    split at h
    · exact good_pass
    · cases h
  | raise c xs =>
    unfold ckS at h
    split at h
    · simp only [Bool.and_eq_true, decide_eq_true_eq] at h
      obtain ⟨⟨⟨⟨rfl, h2⟩, h3⟩, h4⟩, h5⟩ := h
      refine good_raise o (gloB_ok h2) h3 (cks_good ie o' fk' h5) (cks_all2 ie o' fk' h5).2 fun fs e => ?_
      rw [e] at h4
      exact eq_of_beq h4
    · cases h
  | try_ b hs =>
    unfold ckS at h
    split at h
    · simp only [Bool.and_eq_true] at h
      exact good_try o' sk.a sk.b h.2 fun W' pn xe ot => ih.b C W' (X.tr pn xe) _ _ pin ot ⟨sk.a, sk.b⟩ fk' h.1
    · cases h
end
theorem snd_allS : ∀ n, SndS n
  | 0 => ⟨fun C Wx X x s pin o sk fk h => goodS_no, fun C Wx X x s pin o sk fk h => goodB_no⟩
  | n + 1 => ⟨fun C Wx X x s pin o sk fk h => snd_s (snd_allS n) s x o sk fk h, fun C Wx X xs ss pin o sk fk h => snd_b (snd_allS n) (o.less (Nat.le_succ n)) sk (fun j hj => fk j (Nat.lt_succ_of_lt hj)) h⟩
end DL

set_option maxRecDepth 100000
set_option maxHeartbeats 8000000
/-! DL31: every checked def keeps its promise at every fuel. -/
namespace DL
open PySem PySem.Spec L2
open PyProof.Rows (envOfC)

/-- what the module holds -/
structure ModF (prog : Program) (K : PySem.W.Frag) (mg : Str → Option Value) (M : Md) (P : Pg) (bl : List Str) (fls : List String) : Prop where
  hK : K = M.K
  blt : ∀ x ∈ bl, mg x = none
  gl : ∀ x d, P.gl x = some d → ∃ v u, mg (so x) = some u ∧ RelV v u ∧ ∀ H, RepD M.K H v d []
  fa : ∀ f a D, P.fn f = some D → M.fa f = some a → isPlain f = true → mg (so f) = some (.ref a)
  ca : ∀ c b, P.cls c = some b → ∃ A, M.ca c = some A ∧ mg (so c) = some (.ref A) ∧ Cls K A ∧ (∀ f D a m, f = c ++ "." ++ m → P.fn f = some D → M.fa f = some a → Meth K A (so m) a) ∧ (∀ D a, b = true → P.fn (c ++ ".__init__") = some D → M.fa (c ++ ".__init__") = some a → Mk K A a)
  na : ∀ f ∈ fls, ∀ c A, M.ca c = some A → Cls K A ∧ NoAttr K A (so f)
  cn : ∀ c A, P.cls c = none → M.ca c = some A → False
  xc : ∀ c fs, P.exc c = some fs → XcOk prog K mg M c fs
  xi : XiOk K M P
/-- a def of the text, checked -/
structure DefOk (K : PySem.W.Frag) (M : Md) (P : Pg) (bl : List Str) (fls : List String) (f : String) (D : FDef) : Prop where
  ex : ∃ (x qual : Str) (st : Stmt) (a : Addr) (fd : FuncData) (N ps : List Str), M.fa f = some a ∧ Fun K x qual st a fd ∧ FnScope N ps (defScope st) ∧ ps.length = D.ps ∧ N.length = D.nl ∧ PySem.W.keepIn K (.ref a) = true ∧ Binds K fd ps [] ∧ ckB D.body ⟨N, defScope st, P, M, bl, fls⟩ (defBody st) = true
section
variable {prog : Program} {w : World} {K : PySem.W.Frag} {mg : Str → Option Value} {base : Heap} {M : Md} {P : Pg} {bl : List Str} {fls : List String}
theorem okx_cx (mf : ModF prog K mg M P bl fls) {N ps : List Str} {qual : Str} {scope : Scope} {a : Addr} {cdv : Value} {A : Around} {outer : List Env} {s : Shared} {H : Hp} {E : XK} {n : Nat} (S : FnScope N ps scope) (hr : RoomG (2 * n) (A.deeper (envOfC qual scope s.heap.objs.size a cdv))) :
    Okx ⟨N, scope, P, M, bl, fls⟩ n (fun cls d _ H => E cls d H) (cxOf (CXL prog w) prog w K mg base N qual scope a cdv A outer s H E) where
  N := rfl
  nd := S.nd
  kind := S.kind
  loc := fun x h => h
  cell := fun x h => h
  free := fun x h => by
    obtain ⟨k, hk⟩ : ∃ k, (x, k) ∈ scope.names ∧ k = .free := by
      have : ∀ {l : List (Str × NameKind)}, l.lookup x = some .free → (x, NameKind.free) ∈ l := by
        intro l
        induction l with
        | nil => intro h; cases h
        | cons p r ih =>
          intro h
          obtain ⟨y, k⟩ := p
          rw [List.lookup_cons] at h
          split at h
          · rename_i hb
            rw [beq_iff_eq] at hb
            cases h
            subst hb
            exact List.mem_cons_self
          · exact List.mem_cons_of_mem _ (ih h)
      exact ⟨_, this h, rfl⟩
    exact absurd hk.2 (S.nofree _ hk.1)
  glo := fun x h => h
  fn := fun _ _ => rfl
  calm := rfl
  room := hr
  tk := takes_of rfl rfl rfl rfl
  po := passes_of rfl
  md := ⟨mf.hK, mf.blt, mf.gl, mf.fa, mf.ca, mf.na, mf.cn, mf.xc, mf.xi⟩
theorem Sls.nos {M : Md} {H : Hp} : ∀ k : Nat, Sls M H (List.replicate k .no) (List.replicate k none) [] []
  | 0 => .nil
  | k + 1 => .cons (w := []) (as := []) .no (Sls.nos k)
/-- what was lent, as it is now -/
theorem backR_of {M : Md} {H : Hp} : ∀ {ts : List Tok} {vs : List V} {ρ : Rho} {σ : L2.St} {W A : List Addr}, Sls M H ρ σ W A → vs.length = ts.length → (∀ (i j : Nat) (v : V), ts[i]? = some (Tok.pl j) → vs[i]? = some v → σ[i]? = some (some v)) → (backS ts ρ []).isSome = true →
    ∃ Wo Ao, BackR M H ts ρ vs Wo Ao ∧ List.Sublist Wo W ∧ ∀ a ∈ Ao, a ∈ A
  | [], [], ρ, σ, W, A, sl, hl, hp, hb => ⟨[], [], .nil, List.nil_sublist _, by simp⟩
  | [], _ :: _, _, _, _, _, _, hl, _, _ => by simp at hl
  | _ :: _, [], _, _, _, _, _, hl, _, _ => by simp at hl
  | t :: ts, v :: vs, _, _, _, _, .nil, hl, hp, hb => by cases t <;> simp [backS] at hb
  | t :: ts, v :: vs, _, _, _, _, .cons (s := s) (o := o) (w := w1) (as := a1) (ρ := ρ) (σ := σ) (W := W1) (A := A1) r sl, hl, hp, hb => by
    have hl' : vs.length = ts.length := by simpa using hl
    have hp' : ∀ (i j : Nat) (v : V), ts[i]? = some (Tok.pl j) → vs[i]? = some v → σ[i]? = some (some v) := fun i j v h1 h2 => by
      have := hp (i + 1) j v (by simpa using h1) (by simpa using h2)
      simpa using this
    cases t with
    | pl j =>
      have hb' : (backS ts ρ []).isSome = true := by
        cases s <;> simp only [backS] at hb <;> first | (cases hb; done) | skip
        all_goals
          cases e : backS ts ρ (([] : Rho).set j _) with
          | none => rw [e] at hb; cases hb
          | some z => exact backS_isSome e
      obtain ⟨Wo, Ao, b, sb, sa⟩ := backR_of sl hl' hp' hb'
      have hv := hp 0 j v (by simp) (by simp)
      have : o = some v := by simpa using hv
      subst this
      exact ⟨w1 ++ Wo, a1 ++ Ao, BackR.pl r b, List.Sublist.append (List.Sublist.refl _) sb, fun a h => (List.mem_append.mp h).elim (fun z => by simp [z]) fun z => by simp [sa a z]⟩
    | lf l =>
      obtain ⟨Wo, Ao, b, sb, sa⟩ := backR_of sl hl' hp' (by simpa only [backS] using hb)
      exact ⟨Wo, Ao, BackR.other (fun i e => by cases e) b, sb.trans (List.sublist_append_right _ _), fun a h => by simp [sa a h]⟩
    | pf i f =>
      obtain ⟨Wo, Ao, b, sb, sa⟩ := backR_of sl hl' hp' (by simpa only [backS] using hb)
      exact ⟨Wo, Ao, BackR.other (fun i e => by cases e) b, sb.trans (List.sublist_append_right _ _), fun a h => by simp [sa a h]⟩
    | fn f =>
      obtain ⟨Wo, Ao, b, sb, sa⟩ := backR_of sl hl' hp' (by simpa only [backS] using hb)
      exact ⟨Wo, Ao, BackR.other (fun i e => by cases e) b, sb.trans (List.sublist_append_right _ _), fun a h => by simp [sa a h]⟩
    | ob c fs =>
      obtain ⟨Wo, Ao, b, sb, sa⟩ := backR_of sl hl' hp' (by simpa only [backS] using hb)
      exact ⟨Wo, Ao, BackR.other (fun i e => by cases e) b, sb.trans (List.sublist_append_right _ _), fun a h => by simp [sa a h]⟩
theorem pinOf_mem : ∀ {ts : List Tok} {b i j : Nat}, ts[i]? = some (.pl j) → b + i ∈ pinOf b ts
  | [], _, _, _, h => by simp at h
  | t :: ts, b, 0, j, h => by
    simp at h; subst h
    simp [pinOf]
  | t :: ts, b, i + 1, j, h => by
    have ih := pinOf_mem (ts := ts) (b := b + 1) (i := i) (j := j) (by simpa using h)
    have e : b + (i + 1) = b + 1 + i := by omega
    rw [e]
    cases t <;> simp only [pinOf] <;> first | exact ih | exact List.mem_cons_of_mem _ ih
theorem fok_at (mf : ModF prog K mg M P bl fls) (n : Nat) (ih : ∀ j, j < n → ∀ f D, P.fn f = some D → ∃ a fd ps, M.fa f = some a ∧ ps.length = D.ps ∧ FnG prog w K mg base (2 * j + 1) a fd ps (spF M P j D) ∧ PySem.W.keepIn K (.ref a) = true ∧ Binds K fd ps [])
    {D : FDef} {x qual : Str} {st : Stmt} {a : Addr} {fd : FuncData} {N ps : List Str} (F : Fun K x qual st a fd) (S : FnScope N ps (defScope st)) (h2 : ps.length = D.ps) (h3 : N.length = D.nl) (h6 : ckB D.body ⟨N, defScope st, P, M, bl, fls⟩ (defBody st) = true) : FnG prog w K mg base (2 * n + 1) a fd ps (spF M P n D) := by
  have hlen : ∀ vs H Q E, spF M P n D vs H Q E → vs.length = ps.length := fun vs H Q E ⟨ts, as, Wa, Aa, Z, e1, e2, e3, e4, _⟩ => by
    have := e3.length
    rw [List.length_map] at this
    rw [← this, e4, h2]
  refine fnG_of F S hlen fun cdv A outer s H vs Q E hr hsp => ⟨_, pss_ws, ?_⟩
  have hvl := hlen vs H Q E hsp
  obtain ⟨ts, as, Wa, Aa, Z, e1, e2, e3, e4, e5, e6, e7, hz, hm⟩ := hsp
  have o := okx_cx (prog := prog) (w := w) (base := base) (outer := outer) (H := H) (E := E) mf S hr
  have fk : ∀ j, j < n → FOk M P (cxOf (CXL prog w) prog w K mg base N qual (defScope st) a cdv A outer s H E) j := fun j hj f D hf => ih j hj f D hf
  have gb := (snd_allS n).b _ _ _ D.body (defBody st) (pinOf 0 ts) o ⟨rfl, rfl⟩ fk h6
  have hσ : L2.start N vs = vs.map some ++ List.replicate (D.nl - D.ps) none := by unfold L2.start; rw [h3, hvl, h2]
  have hS : Sim M Z (as ++ List.replicate (D.nl - D.ps) .no) (L2.start N vs) H Wa := by
    rw [hσ]
    have sl := e3.append (Sls.nos (M := M) (H := H) (D.nl - D.ps))
    exact ⟨⟨Aa, by simpa using sl, e6⟩, e5, e7⟩
  have hts : vs.length = ts.length := by rw [hvl, h2, e1]
  -- what was lent, behind the run
  have back : ∀ {ρc : Rho} {σ' : L2.St} {H' : Hp} {W' : List Addr} {Z' : Addr → Prop}, (backS ts ρc []).isSome = true → Sim M Z' ρc σ' H' W' → Kp (pinOf 0 ts) (L2.start N vs) σ' → ∃ Wo Ao, BackR M H' ts ρc vs Wo Ao ∧ (∀ a ∈ Wo, a ∈ W') ∧ Wo.Nodup ∧ ∀ a ∈ Ao, a ∉ Wo ∧ ¬ Z' a := fun {ρc} {σ'} {H'} {W'} {Z'} hb S' kp => by
    obtain ⟨A', sl, ap⟩ := S'.sls
    obtain ⟨Wo, Ao, b, sb, sa⟩ := backR_of sl hts (fun i j v q1 q2 => by
      have := kp i (by simpa using pinOf_mem (b := 0) q1)
      rw [this, hσ, List.getElem?_append_left (by
        have := (List.getElem?_eq_some_iff.mp q2).1
        simpa using this)]
      simp [q2]) hb
    exact ⟨Wo, Ao, b, fun a h => sb.subset h, sb.nodup S'.nd, fun a h => ⟨fun z => (ap a (sa a h)).1 (sb.subset z), (ap a (sa a h)).2⟩⟩
  refine gb Z _ (L2.start N vs) H Wa _ hS hz ?_
  cases hev : evB P n (pinOf 0 ts) D.body (as ++ List.replicate (D.nl - D.ps) .no) with
  | no => rw [hev] at hm; exact hm.elim
  | ex e ρc =>
    rw [hev] at hm
    obtain ⟨hb, k⟩ := hm
    intro cls d σ' H' W' er s'
    obtain ⟨Wo, Ao, b, sb, nd, off⟩ := back hb s'.sim s'.kp
    obtain ⟨Cc, g1, g2, g3⟩ := er.ex
    refine k cls d H' Wo Ao (s'.post.sub sb) b nd off ⟨Cc, g1, g2, ?_⟩
    rcases g3 with g3 | ⟨dx, vfs, bs, b1, b2, b3, b4⟩
    · exact .inl g3
    · exact .inr ⟨dx, vfs, bs, b1, b2, b3, b4.anti sb⟩
  | ok fl ρc =>
    rw [hev] at hm
    obtain ⟨t, ht, hb, k⟩ := hm
    cases fl with
    | nx =>
      cases ht
      intro σ' H' W' s'
      obtain ⟨Wo, Ao, b, sb, nd, off⟩ := back hb s'.sim s'.kp
      exact k .non H' Wo Ao [] [] ((s'.post.sub sb).sub fun a h => by simpa using h) b nd (fun a h => ⟨(off a h).1, (off a h).2, by simp⟩) (.lf (.d .none)) Clean.nil
    | rt t' =>
      cases ht
      intro v σ' H' W' w' as' p' S' kp r c
      obtain ⟨Wo, Ao, b, sb, nd, off⟩ := back hb S' kp
      exact k v H' Wo Ao w' as' (p'.sub fun a h => (List.mem_append.mp h).elim (fun z => by simp [sb a z]) fun z => by simp [z]) b nd (fun a h => ⟨(off a h).1, fun z => (off a h).2 (.inl z), fun z => (off a h).2 (.inr z)⟩) r ⟨fun a h => ⟨fun z => (c.sup a h).1 (sb a z), (c.sup a h).2⟩, c.nd, fun a h => ⟨fun z => (c.out a h).1 (sb a z), (c.out a h).2⟩⟩
    | bk => cases ht
    | ct => cases ht
theorem fok_step (mf : ModF prog K mg M P bl fls) (hd : ∀ f D, P.fn f = some D → DefOk K M P bl fls f D) (n : Nat) (ih : ∀ j, j < n → ∀ f D, P.fn f = some D → ∃ a fd ps, M.fa f = some a ∧ ps.length = D.ps ∧ FnG prog w K mg base (2 * j + 1) a fd ps (spF M P j D) ∧ PySem.W.keepIn K (.ref a) = true ∧ Binds K fd ps []) :
    ∀ f D, P.fn f = some D → ∃ a fd ps, M.fa f = some a ∧ ps.length = D.ps ∧ FnG prog w K mg base (2 * n + 1) a fd ps (spF M P n D) ∧ PySem.W.keepIn K (.ref a) = true ∧ Binds K fd ps [] := by
  intro f D hf
  obtain ⟨x, qual, st, a, fd, N, ps, h1, F, S, h2, h3, h4, h5, h6⟩ := (hd f D hf).ex
  exact ⟨a, fd, ps, h1, h2, fok_at mf n ih F S h2 h3 h6, h4, h5⟩
theorem fok_all (mf : ModF prog K mg M P bl fls) (hd : ∀ f D, P.fn f = some D → DefOk K M P bl fls f D) : ∀ n, ∀ f D, P.fn f = some D → ∃ a fd ps, M.fa f = some a ∧ ps.length = D.ps ∧ FnG prog w K mg base (2 * n + 1) a fd ps (spF M P n D) ∧ PySem.W.keepIn K (.ref a) = true ∧ Binds K fd ps [] :=
  fun n => Nat.strongRecOn n fun n ih => fok_step mf hd n ih
end
end DL

set_option maxRecDepth 100000
set_option maxHeartbeats 8000000
/-! DL32: the law's own call. -/
namespace DL
open PySem PySem.Spec L2
open PyProof.Rows (envOfC)

theorem fz_only {K : PySem.W.Frag} {H : Hp} {a : Addr} {xs : List V} (h : SqL K H a xs) (o : Only H) : FzL K H a xs := by
  rcases h with (h | ⟨ob, h⟩) | h
  · rcases o a with z | ⟨u, ys, z⟩
    · rw [h] at z; cases z
    · rw [h] at z; cases z
  · exact FzL.frz h
  · exact ⟨.inr h, fun _ _ => .inr h⟩
theorem rep_intsD {K : PySem.W.Frag} {H : Hp} : ∀ ns : List Int, RepDs K H (ns.map V.int) (ns.map PyData.int) []
  | [] => .nil
  | n :: ns => .cons (as := []) (bs := []) (.int n) (rep_intsD ns)
def scriptD (ns : List Int) : PyData := .list (ns.map .int)
/-- what is to be shown in plain Lean: the law's def answers True -/
def LawTrue (P : Pg) (n : Nat) (D : FDef) (ns : List Int) : Prop := ∃ ρc, evB P n [] D.body (.lf (.d (scriptD ns)) :: List.replicate (D.nl - D.ps) .no) = .ok (.rt (.lf (.d (.bool true)))) ρc ∧ ρc ≠ []
theorem law_spF {M : Md} {P : Pg} {n : Nat} {D : FDef} {ns : List Int} {H : Hp} {a : Addr} (hp : D.ps = 1) (hl : D.ps ≤ D.nl) (h : LawTrue P n D ns) (hs : SqL M.K H a (ns.map V.int)) (ho : Only H) : spF M P n D [.ref a] H (fun v _ => v = .bl true) fun _ _ _ => False := by
  obtain ⟨ρc, h, hne⟩ := h
  refine ⟨[.lf (.d (scriptD ns))], [.lf (.d (scriptD ns))], [], [], fun _ => False, by rw [hp]; rfl, hl, .cons (w := []) (as := []) (.lf (.d (.fix (fz_only hs ho) (rep_intsD ns)))) .nil, by rw [hp]; rfl, .nil, by simp, by simp, fun _ z => z.elim, ?_⟩
  have e : ([Sl.lf (.d (scriptD ns))] ++ List.replicate (D.nl - D.ps) .no) = .lf (.d (scriptD ns)) :: List.replicate (D.nl - D.ps) .no := rfl
  have pe : pinOf 0 [Tok.lf (.d (scriptD ns))] = [] := rfl
  rw [e, pe, h]
  refine ⟨_, rfl, ?_, fun v H' Wo Ao w at_ _ _ _ _ r _ => ?_⟩
  · cases ρc with
    | nil => exact absurd rfl hne
    | cons s r => rfl
  · cases r with
    | lf r => cases r with
      | d r => exact r.bool_inv.1
section
variable {P : Program} {w : World} {K : PySem.W.Frag} {mg mb : Str → Option Value} {k : Nat} {fa a : Addr} {fd : FuncData} {x : Str} {sp : Sp} {s1 : Shared} {vs : List Value} {ns : List Int}
/-- the call, over a heap that tracks at most the script -/
theorem call_core {H : Hp} (hO : Only H) (hA : ∀ b, H b ≠ none → b = a) (hK : H a ≠ none → K.lookup a = none) (hok : HOk P w H s1.heap) (KX : K.In s1.heap) (hns : s1.heap.Ns mainGlobals mg) (hb : s1.heap.Ns builtinsNs mb) (hbb : ∀ x : Str, x ≠ "__name__" → mb x = bootBuiltins x) (hlim : s1.heap.NoLimit) (hg : s1.gens = #[])
    (ha : s1.heap.get? a = some { cls := .type "list", data := .seq vs.toArray }) (hr : RoomG k callerA) (F : ∀ base : Heap, K.In base → base.Ns mainGlobals mg → FnG P w K mg base k fa fd [x] sp) (hbind : ∀ (s : Shared) (u : Value), K.In s.heap → BindsTo s fd ⟨[u], []⟩ [(x, u)])
    (hsp : sp [.ref a] H (fun v _ => v = .bl true) fun _ _ _ => False) : codeAny (model P w) callerA (.call (.ref fa) ⟨[.ref a], []⟩) (fun r s' => r = .ok (.ret (.bool true)) ∧ OldK s1.heap s'.heap ∧ s'.os = s1.os ∧ PyProof.Rows.AllBare s'.gens) s1 := by
  have only : ∀ {b : Addr}, H b ≠ none → b = a := fun {b} h => hA b h
  have free : ∀ {b : Addr}, b ≠ a → H b = none := fun {b} h => by
    cases q : H b with
    | none => rfl
    | some u => exact absurd (only (by rw [q]; exact fun z => nomatch z)) h
  have hid : ∀ {b : Addr} {o : Obj}, s1.heap.get? b = some o → H b = none → (hidT s1.heap H).get? b = some o := fun e n => hidT_get e n
  have dicts : ∀ {b : Addr} {m : Str → Option Value}, s1.heap.Ns b m → (hidT s1.heap H).Ns b m := fun {b m} h => by
    obtain ⟨o, es, ep, e, d, r⟩ := h
    refine ⟨o, es, ep, hid e (free fun z => ?_), d, r⟩
    subst z
    rw [ha] at e
    have e' := Option.some.inj e
    subst e'
    cases d
  have kin : K.In (hidT s1.heap H) := fun b o e => by
    refine hid (KX b o e) ?_
    by_cases z : b = a
    · subst z
      cases q : H b with
      | none => rfl
      | some u =>
        have := hK (by rw [q]; exact fun z => nomatch z)
        rw [this] at e; cases e
    · exact free z
  have md : Mod K mg (hidT s1.heap H) := by
    obtain ⟨mc, l1, l2⟩ := hlim
    exact ⟨kin, dicts hns, ⟨mb, dicts hb, hbb⟩, ⟨mc, dicts l1, l2⟩⟩
  have env : Env0 P w K mg (hidT s1.heap H) callerA [] s1 H := ⟨rfl, md, fun b o e => of_hidT e, Nat.le_of_eq (hidT_size _ _), trivial, fun b z => (by cases (show b ∈ ([] : List Addr) from z)), hok, .of_eq hg⟩
  have G := F _ kin (dicts hns)
  have run := G.run callerA [] s1 H ⟨[.ref a], []⟩ [.ref a] [.ref a] (fun v _ => v = .bl true) (fun _ _ _ => False) hr env (hbind s1 (.ref a) KX) (.cons rfl .nil) hsp
  refine codeAny_mono run fun r s' h => ?_
  match r, h with
  | .error e, h =>
    obtain ⟨_, _, _, _, _, _, _, _, _, _, _, _, z⟩ := h
    exact z.elim
  | .ok .next, h => exact h.elim
  | .ok .brk, h => exact h.elim
  | .ok .cont, h => exact h.elim
  | .ok (.ret u), h =>
    obtain ⟨v, H2, os, bare, un, hok2, rv, q⟩ := h
    have q' : v = .bl true := q
    subst q'
    have hu : u = Value.bool true := rv
    subst hu
    refine ⟨rfl, OldK.of_keep fun b o e => ?_, os, bare⟩
    rcases hO b with z | ⟨ob, xs, z⟩
    · exact un.keep b o e z (fun y => by cases (show b ∈ ([] : List Addr) from y)) (by simp)
    · have l1 := (hok b _ z).1
      have l2 := (hok2 b _ (un.frzs b ob _ z)).1
      rw [e] at l1
      have l3 := Option.some.inj l1
      subst l3
      exact l2
/-- the law's call, whatever the script's list is to the module -/
theorem call_law (KX : K.In s1.heap) (hns : s1.heap.Ns mainGlobals mg) (hb : s1.heap.Ns builtinsNs mb) (hbb : ∀ x : Str, x ≠ "__name__" → mb x = bootBuiltins x) (hlim : s1.heap.NoLimit) (hg : s1.gens = #[])
    (ha : s1.heap.get? a = some { cls := .type "list", data := .seq vs.toArray }) (hi : PyProof.Rows.IntsAre vs ns) (hl : ns.length ≤ sizeLine) (hr : RoomG k callerA) (F : ∀ base : Heap, K.In base → base.Ns mainGlobals mg → FnG P w K mg base k fa fd [x] sp) (hbind : ∀ (s : Shared) (u : Value), K.In s.heap → BindsTo s fd ⟨[u], []⟩ [(x, u)])
    (hsp : ∀ H : Hp, Only H → SqL K H a (ns.map V.int) → sp [.ref a] H (fun v _ => v = .bl true) fun _ _ _ => False) : codeAny (model P w) callerA (.call (.ref fa) ⟨[.ref a], []⟩) (fun r s' => r = .ok (.ret (.bool true)) ∧ OldK s1.heap s'.heap ∧ s'.os = s1.os ∧ PyProof.Rows.AllBare s'.gens) s1 := by
  have rv := vals_ints hi
  have ll : vs.length = ns.length := by have := rv.length; simpa using this.symm
  cases hk : K.lookup a with
  | some o =>
    have e := KX a o hk
    rw [ha] at e
    have e' := Option.some.inj e
    subst e'
    have none0 : ∀ b : Addr, ¬ ((fun _ => none : Hp) b ≠ none) := fun b z => z rfl
    refine call_core (H := fun _ => none) (fun b => .inl rfl) (fun b z => absurd z (none0 b)) (fun z => absurd z (none0 a)) (fun b u z => ?_) KX hns hb hbb hlim hg ha hr F hbind (hsp _ (fun b => .inl rfl) (.inr ⟨_, vs.toArray, _, hk, rfl, rfl, rfl, ?_, by simpa using rv⟩))
    · exact nomatch (show (none : Option HO) = some u from z)
    · rw [List.size_toArray, ll]; exact hl
  | none =>
    let H : Hp := fun b => if b = a then some (.frz { cls := .type "list", data := .seq vs.toArray } (.lst (ns.map V.int))) else none
    have at_a : H a = some (.frz { cls := .type "list", data := .seq vs.toArray } (.lst (ns.map V.int))) := if_pos rfl
    have off : ∀ {b : Addr}, b ≠ a → H b = none := fun {b} h => if_neg h
    have only : Only H := fun b => by
      by_cases z : b = a
      · subst z; exact .inr ⟨_, _, at_a⟩
      · exact .inl (off z)
    refine call_core (H := H) only (fun b z => ?_) (fun _ => hk) (fun b u z => ?_) KX hns hb hbb hlim hg ha hr F hbind (hsp H only (.inl (.inr ⟨_, at_a⟩)))
    · by_cases y : b = a
      · exact y
      · exact absurd (off y) z
    · by_cases y : b = a
      · subst y
        rw [at_a] at z
        have z' := Option.some.inj z
        subst z'
        exact ⟨ha, by rw [List.length_map]; exact hl, vs, _, rv, ha⟩
      · rw [off y] at z; cases z
end
/-- the goal behind the head -/
theorem walk_law {l : PySem.W.OpenLaw} {n k : Nat} {q : Program} {loose : List Str} {XP : (Str → Option Value) → Heap → Prop} {YP : World → Heap → Prop} {d : DefRec} {K : Params → PySem.W.Frag} {x : Str} {sp : World → Sp}
    (hn : l.most = some n) (hn2 : n ≤ sizeLine) (hdf : d.params.defaults = []) (hr : RoomG k callerA) (hY : ∀ (w : World) (h : Heap), YP w h → (K w.params).In h)
    (F : ∀ (w : World) (mg : Str → Option Value) (fa : Addr) (h : Heap), (K w.params).In h → h.Ns mainGlobals mg → mg d.name = some (.ref fa) →
      ∃ fd : FuncData, (∀ (s : Shared) (u : Value), BindsTo s fd ⟨[u], []⟩ [(x, u)]) ∧ ∀ base : Heap, (K w.params).In base → base.Ns mainGlobals mg → FnG l.prog w (K w.params) mg base k fa fd [x] (sp w))
    (hsp : ∀ (w : World) (H : Hp) (a : Addr) (ns : List Int), ns.length ≤ n → Only H → SqL (K w.params) H a (ns.map V.int) → sp w [.ref a] H (fun v _ => v = .bl true) fun _ _ _ => False) :
    PySem.W.WalkO q loose XP YP l.row.toRowW d [] (fun f vs => PySem.call f vs) := by
  refine Att.attach_call hn hdf fun w s0 s1 mg mb fa o pm cd doc a vs ns G Y ho hd hcd hmg hobj hints hlen hg => ?_
  obtain ⟨fd, hb, hF⟩ := F w mg fa _ (hY w _ Y) G.T.g hmg
  exact call_law (hY w _ Y) G.T.g G.T.b G.T.builtins G.T.nolimit hg hobj hints (Nat.le_trans hlen hn2) hr hF (fun s u _ => hb s u) fun H hO hS => hsp w H a ns hlen hO hS
end DL

set_option maxRecDepth 100000
set_option maxHeartbeats 4000000
/-! DLH: the module's facts, looked at in the heap behind the top; what follows for the interpreter. -/
namespace DL
open PySem PySem.Spec PyProof.Rows L2 He PySem.W NdefX

/-! ### the table of a program -/
structure Row where
  key : String
  cls : Option String
  nm : String
  st : Stmt
  N : List String
  D : FDef
structure XRow where
  c : String
  fs : List String
  st : Stmt
structure Tab where
  rows : List Row
  gls : List (String × PyData)
  clss : List (String × Bool)
  excs : List XRow
  isa : List (String × String)
  bl : List String
  fls : List String
  lim : Nat
def Row.place (r : Row) : Str × Option Str := match r.cls with
  | none => (so r.nm, none)
  | some c => (so c, some (so r.nm))
def Row.qual (r : Row) : Str := match r.cls with
  | none => so r.nm
  | some c => so (c ++ "." ++ r.nm)
def XRow.place (x : XRow) : Str × Option Str := (so x.c, some "__init__")
def XRow.qual (x : XRow) : Str := so (x.c ++ ".__init__")
def Tab.row (T : Tab) (f : String) : Option Row := T.rows.find? fun r => r.key == f
def Tab.xrow (T : Tab) (c : String) : Option XRow := T.excs.find? fun x => x.c == c
def Tab.P (T : Tab) : Pg where
  fn := fun f => (T.row f).map (·.D)
  gl := fun x => T.gls.lookup x
  cls := fun c => T.clss.lookup c
  exc := fun c => (T.xrow c).map (·.fs)
  isa := fun a b => T.isa.contains (a, b)
  lim := T.lim
def Tab.M (T : Tab) (K : Frag) : Md where
  K := K
  fa := fun f => (T.row f).map fun r => fAd K r.place
  ca := fun c => (T.clss.lookup c).map fun _ => ga K (so c)
  xa := fun c => (T.xrow c).map fun _ => ga K (so c)

/-! ### the part of the heap that is looked at -/
def refsX (o : Obj) : List Addr := refV o.cls ++ match o.data with
  | .seq its _ => its.toList.flatMap refV
  | .dict es _ => es.toList.flatMap fun e => refV e.val
  | .func fd => refV fd.code ++ refV fd.defaults ++ fd.closure.map (·.2)
  | .cls cd => cd.ns :: cd.mro.flatMap refV
  | .fields vs => vs.toList.flatMap refV
  | _ => []
def growX (g : Addr → Option Obj) (as : List Addr) : List Addr := (as ++ as.flatMap fun a => match g a with
  | some o => refsX o
  | none => []).eraseDups
def asX (g : Addr → Option Obj) : Nat → List Addr
  | 0 => [mainGlobals, cStatics]
  | n + 1 => growX g (asX g n)

/-! ### constants -/
mutual
def conB (K : Frag) : PyData → Value → Bool
  | .none, u => match u with
    | .none => true
    | _ => false
  | .bool b, u => match u with
    | .bool c => b == c
    | _ => false
  | .int i, u => match u with
    | .int j _ => decide (i = j)
    | _ => false
  | .str x, u => match u with
    | .str y _ => decide (x = y)
    | _ => false
  | .tuple ds, u => match u with
    | .ref a => (match K.lookup a with
      | some ⟨.type "tuple", none, .seq its _, sl⟩ => sl.isEmpty && decide (its.size ≤ 1000) && consB K ds its.toList
      | _ => false)
    | _ => false
  | .list _, _ => false
  | .dict _, _ => false
def consB (K : Frag) : List PyData → List Value → Bool
  | [], us => us.isEmpty
  | d :: ds, us => match us with
    | [] => false
    | u :: r => conB K d u && consB K ds r
end
mutual
theorem con_ok {K : Frag} : ∀ (d : PyData) (u : Value), conB K d u = true → ∃ v, L2.RelV v u ∧ ∀ H, RepD K H v d []
  | .none, u, h => by
    unfold conB at h
    split at h
    · exact ⟨.non, rfl, fun _ => .none⟩
    · cases h
  | .bool b, u, h => by
    unfold conB at h
    split at h
    · have e := eq_of_beq h
      subst e
      exact ⟨.bl _, rfl, fun _ => .bool _⟩
    · cases h
  | .int i, u, h => by
    unfold conB at h
    split at h
    · have e := of_decide_eq_true h
      subst e
      exact ⟨.int _, ⟨_, rfl⟩, fun _ => .int _⟩
    · cases h
  | .str x, u, h => by
    unfold conB at h
    split at h
    · have e := of_decide_eq_true h
      subst e
      exact ⟨.str _, ⟨_, rfl⟩, fun _ => .str _⟩
    · cases h
  | .tuple ds, u, h => by
    unfold conB at h
    split at h
    · rename_i a
      split at h
      · rename_i its n sl e
        simp only [Bool.and_eq_true, decide_eq_true_eq] at h
        obtain ⟨⟨_, h1⟩, h2⟩ := h
        obtain ⟨vs, rv, rp⟩ := cons_ok ds its.toList h2
        exact ⟨.ref a, rfl, fun H => .tup (.inr ⟨_, its, n, e, rfl, rfl, Nat.le_of_lt (small1000 h1), rv⟩) (rp H)⟩
      · cases h
    · cases h
  | .list _, _, h => by unfold conB at h; cases h
  | .dict _, _, h => by unfold conB at h; cases h
theorem cons_ok {K : Frag} : ∀ (ds : List PyData) (us : List Value), consB K ds us = true → ∃ vs, Vals vs us ∧ ∀ H, RepDs K H vs ds []
  | [], us, h => by
    unfold consB at h
    cases us with
    | nil => exact ⟨[], .nil, fun _ => .nil⟩
    | cons _ _ => cases h
  | d :: ds, us, h => by
    unfold consB at h
    split at h
    · cases h
    · simp only [Bool.and_eq_true] at h
      obtain ⟨v, r1, p1⟩ := con_ok d _ h.1
      obtain ⟨vs, r2, p2⟩ := cons_ok ds _ h.2
      exact ⟨v :: vs, .cons r1 r2, fun H => RepDs.cons (as := []) (bs := []) (p1 H) (p2 H)⟩
end

/-! ### what is looked at -/
abbrev FnX : Type := Option (Str × Str × Arguments × FuncBody × Scope × Addr × List Str × Value × Addr)
def fnX' (K : Frag) (p : Str × Option Str) : FnX := match K.lookup (fAd K p) with
  | some ⟨_, _, .func fd, _⟩ => some (fd.name, fd.qualname, fd.params, fd.body, fd.scope, fd.globals, fd.closure.map (·.1), fd.defaults, fd.builtins)
  | _ => none
def Row.val (r : Row) : FnX := some (so r.nm, r.qual, defArgs r.st, .stmts (defBody r.st), defScope r.st, mainGlobals, [], .none, builtinsNs)
def XRow.val (x : XRow) : FnX := some ("__init__", x.qual, defArgs x.st, .stmts (defBody x.st), defScope x.st, mainGlobals, ["__class__"], .none, builtinsNs)
def rowB (K : Frag) (r : Row) : Bool := (match K.lookup (fAd K r.place) with
    | some ⟨_, _, .func fd, _⟩ => codeIn K fd.code r.qual
    | _ => false) && keepIn K (.ref (fAd K r.place)) && (match r.cls with
    | none => eqO (nsIn K mainGlobals (so r.nm)) (some (some (.ref (ga K (so r.nm)))))
    | some c => (Fa.meth (so c) (so r.nm)).ok K)
def oexB (K : Frag) (C : Addr) : Bool := (match K.lookup C with
    | some ⟨.type "type", _, .cls cd, sl⟩ => (match cd.mro, sl.toList with
      | .ref C' :: bm, [_, _, _, _, some (.builtin n), _] => C' == C && n == "ValueError.__new__" && !cd.hasDel && cd.hasDict && PySem.HandSPX.refsVE bm
      | _, _ => false)
    | _ => false) && eqO (findIn K (.ref C) "__setattr__") (some (some (.builtin "object.__setattr__"))) && decide (subIn K (.ref C) (.type "BaseException") = some true) && decide (typeIn K (.ref C) = some (.type "type")) && keepIn K (.ref C)
/-- an own __init__ at f -/
def iniB (K : Frag) (file : Str) (x : XRow) (C f : Addr) : Bool := eqO (findIn K (.ref C) "__init__") (some (some (.ref f))) && decide (typeIn K (.ref f) = some (.type "function")) && (match K.lookup f with
    | some ⟨_, _, .func fd, _⟩ => codeIn K fd.code x.qual && (match fd.code with
        | .ref c => (match K.lookup c with
          | some ⟨_, _, .fields vs, _⟩ => (match (vs[2]? : Option Value) with
            | some (.str fl0 _) => file == fl0
            | _ => false)
          | _ => false)
        | _ => false) && (match fd.closure with
        | [(_, cc)] => (match K.lookup cc with
          | some ⟨_, _, .cell (some (.ref D)), _⟩ => D == C
          | _ => false)
        | _ => false)
    | _ => false) && decide (ks_superIn K C C "__init__" = some (some (.builtin "ValueError.__init__"))) && eqO (nsIn K cStatics "thirdparty.any") (some none) && decide (subIn K (.ref C) (.type "ValueError") = some true) && decide (mroIn K C (.ref C) = some true)
def xB (K : Frag) (file : Str) (x : XRow) : Bool := eqO (nsIn K mainGlobals (so x.c)) (some (some (.ref (ga K (so x.c))))) && oexB K (ga K (so x.c)) && eqO (findIn K (.ref (ga K (so x.c))) "__getattribute__") (some (some (.builtin "BaseException.__getattribute__"))) && eqO (findIn K (.ref (ga K (so x.c))) "__getattr__") (some none) && hasDictIn K (ga K (so x.c)) &&
  (x.fs.all fun g => eqO (findIn K (.ref (ga K (so x.c))) (so g)) (some none)) && (if x.fs.isEmpty then excIn K (ga K (so x.c)) veBase "ValueError.__new__" else iniB K file x (ga K (so x.c)) (ma K (ga K (so x.c)) "__init__"))
def clsB (K : Frag) (fls : List String) (cb : String × Bool) : Bool := eqO (nsIn K mainGlobals (so cb.1)) (some (some (.ref (ga K (so cb.1))))) && (Fa.cls (so cb.1)).ok K && (!cb.2 || (Fa.mkr (so cb.1)).ok K) && fls.all fun f => (Fa.noat (so cb.1) (so f)).ok K
def glB (K : Frag) (xd : String × PyData) : Bool := match nsIn K mainGlobals (so xd.1) with
  | some (some u) => conB K xd.2 u
  | _ => false
def Tab.okB (T : Tab) (file : Str) (K : Frag) : Bool := T.rows.all (rowB K) && T.excs.all (xB K file) && T.clss.all (clsB K T.fls) && T.gls.all (glB K) && T.bl.all (fun x => eqO (nsIn K mainGlobals (so x)) (some none)) && eqO (nsIn K mainGlobals "super") (some none) &&
  T.excs.all fun x => T.excs.all fun y => decide (exmOne K (.ref (ga K (so x.c))) (.ref (ga K (so y.c))) = some (T.isa.contains (x.c, y.c)))
abbrev AlX : Type := Bool × List FnX
def Tab.inis (T : Tab) : List XRow := T.excs.filter fun x => !x.fs.isEmpty
def Tab.obs (T : Tab) (file : Str) (K : Frag) : AlX := (T.okB file K, T.rows.map (fun r => fnX' K r.place) ++ T.inis.map fun x => fnX' K x.place)
def Tab.val (T : Tab) : AlX := (true, T.rows.map Row.val ++ T.inis.map XRow.val)
def Tab.Says (T : Tab) (file : Str) (K : Frag) : Prop := T.obs file K = T.val
def obsX (n : Nat) (T : Tab) (file : Str) (g : Addr → Option Obj) : AlX := T.obs file (frG g (asX g n))
def hookX (n : Nat) (T : Tab) (file : Str) : PySem.W.Hook where
  α := AlX
  obs := fun s => obsX n T file s.heap.get?
  val := fun _ => T.val
  says := fun _ h => ∃ K : Frag, K.In h ∧ T.Says file K
  of := fun _ _ e => ⟨_, frG_in, e⟩
  keeps := fun _ _ _ ⟨K, hK, c⟩ k => ⟨K, PySem.W.Frag.In.keeps hK k, c⟩
theorem obsX_eq {n : Nat} {T : Tab} {file : Str} {g : Addr → Option Obj} {s : Shared} (h : ∀ a, g a = s.heap.get? a) : obsX n T file g = (hookX n T file).obs s := by
  have e : g = s.heap.get? := funext h
  rw [e] <;> rfl

/-! ### static looks at the texts -/
def argsB (a : Arguments) (ps : List Str) : Bool := a.posonlyargs.isEmpty && a.vararg.isNone && a.kwonlyargs.isEmpty && a.kw_defaults.isEmpty && a.kwarg.isNone && a.defaults.isEmpty && decide (a.args.map (·.arg) = ps)
def fscB (N ps : List Str) (sc : Scope) : Bool := decide (sc.kind = .function) && !sc.isCoroutine && !sc.isGenerator && decide N.Nodup && decide (N.take ps.length = ps) && ps.all (fun x => decide (sc.names.lookup x = some .local) || decide (sc.names.lookup x = some .cell)) && sc.names.all fun y => !decide (y.2 = .free)
theorem fscope_by {N ps : List Str} {sc : Scope} (h : fscB N ps sc = true) : FnScope N ps sc := by
  unfold fscB at h
  simp only [Bool.and_eq_true, Bool.not_eq_true', decide_eq_true_eq, List.all_eq_true, Bool.or_eq_true, decide_eq_false_iff_not] at h
  obtain ⟨⟨⟨⟨⟨⟨h1, h2⟩, h3⟩, h4⟩, h5⟩, h6⟩, h7⟩ := h
  exact ⟨h1, h2, h3, h4, h5, h6, h7⟩
def Row.ps (r : Row) : List Str := (r.N.map so).take r.D.ps
def Row.kB (r : Row) : Bool := match r.cls with
  | none => decide (r.key = r.nm) && isPlain r.nm
  | some c => decide (r.key = c ++ "." ++ r.nm) && isPlain c
def Row.st? (r : Row) : Bool := r.kB && fscB (r.N.map so) r.ps (defScope r.st) && argsB (defArgs r.st) r.ps && decide (r.ps.length = r.D.ps) && decide (r.N.length = r.D.nl)
def XRow.st? (x : XRow) : Bool := x.fs.isEmpty || (nscB (("self" : Str) :: x.fs.map so ++ [("__class__" : Str)]) (("self" : Str) :: x.fs.map so) [("__class__" : Str)] (defScope x.st) && decide ((defScope x.st).names.lookup ("super" : Str) = some .globalImplicit) && ckInit (x.fs.map so) (defBody x.st) && argsB (defArgs x.st) (("self" : Str) :: x.fs.map so))
def Tab.stB (T : Tab) : Bool := T.rows.all Row.st? && T.excs.all XRow.st? && T.clss.all fun c => isPlain c.1
theorem zip_lookup {ps : List Str} {us : List Value} (hl : us.length = ps.length) : ∀ n ∈ ps, ((ps.zip us).lookup n).isSome = true := by
  induction ps generalizing us with
  | nil => intro n h; cases h
  | cons p ps ih =>
    cases us with
    | nil => simp at hl
    | cons u us =>
      intro n hn
      rw [List.zip_cons_cons, List.lookup_cons]
      cases e : n == p with
      | true => rfl
      | false =>
        rcases List.mem_cons.mp hn with rfl | hn
        · simp at e
        · exact ih (by simpa using hl) n hn
theorem zip_binds {ps : List Str} {us : List Value} (nd : ps.Nodup) (hl : us.length = ps.length) : ps.filterMap (fun n => ((ps.zip us).lookup n).map fun v => (n, v)) = ps.zip us := by
  induction ps generalizing us with
  | nil => rfl
  | cons p ps ih =>
    cases us with
    | nil => simp at hl
    | cons u us =>
      rw [List.zip_cons_cons, List.filterMap_cons]
      simp only [List.lookup_cons, beq_self_eq_true, Option.map_some]
      congr 1
      have nd' := List.nodup_cons.mp nd
      have key : ∀ (l : List Str), (∀ n ∈ l, n ≠ p) → l.filterMap (fun n => Option.map (fun v => (n, v)) (match n == p with | true => some u | false => List.lookup n (ps.zip us))) = l.filterMap (fun n => (List.lookup n (ps.zip us)).map fun v => (n, v)) := by
        intro l hl2
        induction l with
        | nil => rfl
        | cons a l ih2 =>
          have : (a == p) = false := by rw [beq_eq_false_iff_ne]; exact hl2 a (List.mem_cons_self ..)
          simp only [List.filterMap_cons, this]
          rw [ih2 fun n hn => hl2 n (List.mem_cons_of_mem _ hn)]
      exact (key ps fun n hn e => nd'.1 (e ▸ hn)).trans (ih nd'.2 (by simpa using hl))
theorem bind_plain0 {ar : List Arg} {n1 n2 : Str} {n4 : FuncBody} {n5 : Scope} {n6 : Addr} {n7 : List (Str × Addr)} {n9 n10 n11 : Value} {n12 : Option Addr} {n13 n14 : Value} {n15 : Addr} (nd : (ar.map (·.arg)).Nodup) (us : List Value) (hl : us.length = (ar.map (·.arg)).length) :
    bindArgs ⟨n1, n2, ⟨[], ar, none, [], [], none, []⟩, n4, n5, n6, n7, .none, n9, n10, n11, n12, n13, n14, n15⟩ ⟨us, []⟩ = pure ((ar.map (·.arg)).zip us) := by
  have hm : (ar.map (·.arg)).filter (fun n => (((ar.map (·.arg)).zip us).lookup n).isNone) = [] := by
    rw [List.filter_eq_nil_iff]
    intro n hn
    have := zip_lookup hl n hn
    cases e : ((ar.map (·.arg)).zip us).lookup n with
    | none => rw [e] at this; cases this
    | some _ => simp
  have hb := zip_binds nd hl
  have hs : seqItems? Value.none = pure none := rfl
  unfold bindArgs
  dsimp only
  rw [hs]
  generalize hps : ar.map (·.arg) = ps at *
  simp only [List.map_nil, List.nil_append, List.append_nil, hl]
  simp only [pure_bind, Option.getD_none, List.drop_nil, List.length_nil, Nat.sub_zero, List.take_length, List.forIn_nil, List.zip_nil_right, List.drop_length]
  simp [hm, hb]
theorem bind_plain {fd : FuncData} {ps : List Str} (h : argsB fd.params ps = true) (nd : ps.Nodup) (hd : fd.defaults = .none) (us : List Value) (hl : us.length = ps.length) : bindArgs fd ⟨us, []⟩ = pure (ps.zip us) := by
  obtain ⟨n1, n2, pr, n4, n5, n6, n7, n8, n9, n10, n11, n12, n13, n14, n15⟩ := fd
  obtain ⟨po, ar, va, ko, kd, kw, df⟩ := pr
  unfold argsB at h
  simp only [Bool.and_eq_true, decide_eq_true_eq, List.isEmpty_iff, Option.isNone_iff_eq_none] at h
  obtain ⟨⟨⟨⟨⟨⟨rfl, rfl⟩, rfl⟩, rfl⟩, rfl⟩, rfl⟩, rfl⟩ := h
  simp only at hd
  subst hd
  exact bind_plain0 nd us hl

/-! ### what follows -/
theorem list_dot {a b c d : List Char} (ha : '.' ∉ a) (hc : '.' ∉ c) (h : a ++ '.' :: b = c ++ '.' :: d) : a = c ∧ b = d := by
  induction a generalizing c with
  | nil =>
    cases c with
    | nil => simp at h; exact ⟨rfl, h⟩
    | cons x c =>
      simp at h
      exact absurd (h.1 ▸ List.mem_cons_self : '.' ∈ x :: c) hc
  | cons y a ih =>
    cases c with
    | nil =>
      simp at h
      exact absurd (h.1 ▸ List.mem_cons_self : '.' ∈ y :: a) ha
    | cons x c =>
      simp only [List.cons_append, List.cons.injEq] at h
      obtain ⟨h1, h2⟩ := ih (fun z => ha (List.mem_cons_of_mem _ z)) (fun z => hc (List.mem_cons_of_mem _ z)) h.2
      exact ⟨by rw [h.1, h1], h2⟩
theorem plain_mem {s : String} (h : isPlain s = true) : '.' ∉ s.toList := by
  unfold isPlain at h
  simpa using h
theorem dot_eq {a b c d : String} (ha : isPlain a = true) (hc : isPlain c = true) (h : a ++ "." ++ b = c ++ "." ++ d) : a = c ∧ b = d := by
  have h1 := congrArg String.toList h
  simp only [String.toList_append] at h1
  have e : ".".toList = ['.'] := by decide
  rw [e] at h1
  simp only [List.append_assoc, List.cons_append, List.nil_append] at h1
  obtain ⟨q1, q2⟩ := list_dot (plain_mem ha) (plain_mem hc) h1
  exact ⟨String.toList_inj.mp q1, String.toList_inj.mp q2⟩
theorem dot_ne {a b c : String} (hc : isPlain c = true) (h : a ++ "." ++ b = c) : False := by
  have h1 := plain_mem hc
  rw [← h] at h1
  simp only [String.toList_append] at h1
  exact h1 (by simp)
theorem lookup_mem {α β : Type} [BEq α] [LawfulBEq α] {x : α} {y : β} : ∀ {l : List (α × β)}, l.lookup x = some y → (x, y) ∈ l
  | [], h => by simp at h
  | (a, b) :: l, h => by
    rw [List.lookup_cons] at h
    split at h
    · rename_i e
      cases h
      rw [beq_iff_eq] at e
      subst e
      exact List.mem_cons_self
    · exact List.mem_cons_of_mem _ (lookup_mem h)
section
variable {T : Tab} {prog : Program} {K : Frag} {h : Heap} {mg : Str → Option Value} {file : Str}
theorem Tab.row_mem {f : String} {r : Row} (e : T.row f = some r) : r ∈ T.rows ∧ r.key = f := ⟨List.mem_of_find?_eq_some e, by have := List.find?_some e; simpa using this⟩
theorem Tab.xrow_mem {f : String} {r : XRow} (e : T.xrow f = some r) : r ∈ T.excs ∧ r.c = f := ⟨List.mem_of_find?_eq_some e, by have := List.find?_some e; simpa using this⟩
structure Facts (T : Tab) (file : Str) (K : Frag) : Prop where
  rows : ∀ r ∈ T.rows, rowB K r = true
  excs : ∀ x ∈ T.excs, xB K file x = true
  clss : ∀ c ∈ T.clss, clsB K T.fls c = true
  gls : ∀ g ∈ T.gls, glB K g = true
  bl : ∀ x ∈ T.bl, nsIn K mainGlobals (so x) = some none
  su : nsIn K mainGlobals "super" = some none
  xx : ∀ x ∈ T.excs, ∀ y ∈ T.excs, exmOne K (.ref (ga K (so x.c))) (.ref (ga K (so y.c))) = some (T.isa.contains (x.c, y.c))
  vr : ∀ r ∈ T.rows, fnX' K r.place = r.val
  vx : ∀ x ∈ T.excs, x.fs ≠ [] → fnX' K x.place = x.val
theorem facts_of (c : T.Says file K) : Facts T file K := by
  have c1 : T.okB file K = true := congrArg (fun z : AlX => z.1) c
  have c2 : T.rows.map (fun r => fnX' K r.place) ++ T.inis.map (fun x => fnX' K x.place) = T.rows.map Row.val ++ T.inis.map XRow.val := congrArg (fun z : AlX => z.2) c
  unfold Tab.okB at c1
  simp only [Bool.and_eq_true, List.all_eq_true, decide_eq_true_eq] at c1
  obtain ⟨⟨⟨⟨⟨⟨h1, h2⟩, h3⟩, h4⟩, h5⟩, h6⟩, h7⟩ := c1
  obtain ⟨c3, c4⟩ := List.append_inj c2 (by simp)
  refine ⟨h1, h2, h3, h4, fun x hx => eqO_ok (h5 x hx), eqO_ok h6, h7, fun r hr => List.map_inj_left.mp c3 r hr, fun x hx hf => List.map_inj_left.mp c4 x ?_⟩
  unfold Tab.inis
  rw [List.mem_filter]
  exact ⟨hx, by simpa using hf⟩
theorem row_fd {r : Row} (F : Facts T file K) (hr : r ∈ T.rows) : ∃ fd, Fun K (so r.nm) r.qual r.st (fAd K r.place) fd ∧ fd.params = defArgs r.st ∧ fd.defaults = .none := by
  have v := F.vr r hr
  have b := F.rows r hr
  unfold rowB at b
  simp only [Bool.and_eq_true] at b
  obtain ⟨⟨b1, b2⟩, _⟩ := b
  unfold fnX' at v
  unfold Row.val at v
  cases q : K.lookup (fAd K r.place) with
  | none => rw [q] at v; cases v
  | some o =>
    obtain ⟨oc, od, dt, osl⟩ := o
    rw [q] at v b1
    cases dt with
    | func fd =>
      obtain ⟨n1, n2, n3, n4, n5, n6, n7, n8, n9, n10, n11, n12, n13, n14, n15⟩ := fd
      have e2 : (some (n1, n2, n3, n4, n5, n6, n7.map (·.1), n8, n15) : FnX) = some (so r.nm, r.qual, defArgs r.st, .stmts (defBody r.st), defScope r.st, mainGlobals, [], .none, builtinsNs) := v
      simp only [Option.some.injEq, Prod.mk.injEq, List.map_eq_nil_iff] at e2
      obtain ⟨h1, h2, h3, h4, h5, h6, h7, h8, h9⟩ := e2
      subst h1 h2 h3 h4 h5 h6 h7 h8 h9
      exact ⟨_, ⟨⟨oc, od, n9, n10, n11, n12, n13, n14, osl, rfl, q, b1⟩, b2⟩, rfl, rfl⟩
    | _ => cases v
/-- every row's def, checked -/
theorem defs_ok (F : Facts T file K) (hst : T.stB = true) (hck : (T.rows.all fun r => ckB r.D.body ⟨r.N.map so, defScope r.st, T.P, T.M K, T.bl.map so, T.fls⟩ (defBody r.st)) = true) : ∀ f D, T.P.fn f = some D → DefOk K (T.M K) T.P (T.bl.map so) T.fls f D := by
  intro f D hf
  obtain ⟨r, hr, rfl⟩ := Option.map_eq_some_iff.mp (show (T.row f).map (·.D) = some D from hf)
  obtain ⟨hm, hk⟩ := Tab.row_mem hr
  obtain ⟨fd, FF, hp, hd⟩ := row_fd F hm
  unfold Tab.stB at hst
  simp only [Bool.and_eq_true, List.all_eq_true] at hst
  have s := hst.1.1 r hm
  unfold Row.st? at s
  simp only [Bool.and_eq_true, decide_eq_true_eq] at s
  obtain ⟨⟨⟨⟨s0, s1⟩, s2⟩, s3⟩, s4⟩ := s
  have S := fscope_by s1
  have ndp : r.ps.Nodup := by
    have := S.nd.sublist (List.take_sublist r.ps.length (r.N.map so))
    rw [S.pre] at this
    exact this
  refine ⟨so r.nm, r.qual, r.st, fAd K r.place, fd, r.N.map so, r.ps, ?_, FF, S, s3, by rw [List.length_map]; exact s4, FF.kp, .all fun us hl => bind_plain (by rw [hp]; exact s2) ndp hd us hl, ?_⟩
  · show (T.row f).map _ = _
    rw [hr]
    rfl
  · rw [List.all_eq_true] at hck
    exact hck r hm

theorem gl_of (F : Facts T file K) (X : K.In h) (G : h.Ns mainGlobals mg) {x : String} {d : PyData} (e : T.gls.lookup x = some d) : ∃ v u, mg (so x) = some u ∧ L2.RelV v u ∧ ∀ H, RepD K H v d [] := by
  have b := F.gls (x, d) (lookup_mem e)
  unfold glB at b
  simp only at b
  split at b
  · rename_i u hu
    obtain ⟨v, r, p⟩ := con_ok d u b
    exact ⟨v, u, mg_of X G hu, r, p⟩
  · cases b
theorem cls_of (F : Facts T file K) (X : K.In h) (G : h.Ns mainGlobals mg) {c : String} {b : Bool} (e : T.clss.lookup c = some b) : mg (so c) = some (.ref (ga K (so c))) ∧ Cls K (ga K (so c)) ∧ (b = true → Mk K (ga K (so c)) (ma K (ga K (so c)) "__init__")) ∧ ∀ f ∈ T.fls, NoAttr K (ga K (so c)) (so f) := by
  have q := F.clss (c, b) (lookup_mem e)
  unfold clsB at q
  simp only [Bool.and_eq_true, List.all_eq_true, Bool.or_eq_true, Bool.not_eq_true'] at q
  obtain ⟨⟨⟨q1, q2⟩, q3⟩, q4⟩ := q
  exact ⟨mg_of X G (eqO_ok q1), cls_ok q2, fun z => mkr_ok (q3.elim (fun y => by rw [z] at y; cases y) id), fun f hf => noat_ok (q4 f hf)⟩
theorem x_of (F : Facts T file K) (X : K.In h) (G : h.Ns mainGlobals mg) (hst : T.stB = true) (hfile : prog.main.file = file) (htop : (prog.main.scope.names.lookup ("super" : Str)).isSome = false) {x : XRow} (hx : x ∈ T.excs) (hxr : T.xrow x.c = some x) : XcOk prog K mg (T.M K) x.c x.fs := by
  have q := F.excs x hx
  unfold xB at q
  simp only [Bool.and_eq_true, List.all_eq_true] at q
  obtain ⟨⟨⟨⟨⟨⟨q1, q2⟩, q3⟩, q4⟩, q5⟩, q6⟩, q7⟩ := q
  have oex : OexC K (ga K (so x.c)) := by
    unfold oexB at q2
    simp only [Bool.and_eq_true, decide_eq_true_eq] at q2
    obtain ⟨⟨⟨⟨o1, o2⟩, o3⟩, o4⟩, o5⟩ := q2
    refine ⟨?_, eqO_ok o2, o3, o4, o5⟩
    split at o1
    · rename_i dd cd sl ho
      split at o1
      · rename_i C' bm k0 k1 k2 k3 n k5 hm hs
        simp only [Bool.and_eq_true, beq_iff_eq, Bool.not_eq_true'] at o1
        obtain ⟨⟨⟨⟨rfl, rfl⟩, hdel⟩, hdct⟩, ht⟩ := o1
        obtain ⟨nm, bs, mro, ns, qn, hd, sn, sub, ab, col, del⟩ := cd
        dsimp only at hm hdel hdct
        subst hm hdel hdct
        have hsl : sl = #[k0, k1, k2, k3, some (.builtin "ValueError.__new__"), k5] := by
          obtain ⟨l⟩ := sl
          simp only at hs
          rw [hs]
        subst hsl
        exact ⟨nm, qn, ns, bs, bm, sn, sub, ab, col, dd, k0, k1, k2, k3, k5, ho, ht⟩
      · cases o1
    · cases o1
  refine ⟨ga K (so x.c), ?_, mg_of X G (eqO_ok q1), oex, eqO_ok q3, eqO_ok q4, q5, fun g hg => eqO_ok (q6 g hg), fun hf => ?_, fun hf => ?_⟩
  · show (T.xrow x.c).map _ = _
    rw [hxr]
    rfl
  · have he : x.fs.isEmpty = false := by cases e : x.fs with
      | nil => exact absurd e hf
      | cons _ _ => rfl
    rw [he] at q7
    simp only [Bool.false_eq_true, if_false] at q7
    have v := F.vx x hx hf
    unfold Tab.stB at hst
    simp only [Bool.and_eq_true, List.all_eq_true] at hst
    have s := hst.1.2 x hx
    unfold XRow.st? at s
    rw [he] at s
    simp only [Bool.false_or, Bool.and_eq_true, decide_eq_true_eq] at s
    obtain ⟨⟨⟨s1, s2⟩, s3⟩, s4⟩ := s
    have S := nscope_by s1
    have ndp : (("self" : Str) :: x.fs.map so).Nodup := by
      have h1 := S.nd
      have : (("self" : Str) :: x.fs.map so ++ [("__class__" : Str)]).Nodup := h1
      exact (List.nodup_append.mp this).1
    unfold iniB at q7
    simp only [Bool.and_eq_true, decide_eq_true_eq] at q7
    obtain ⟨⟨⟨⟨⟨⟨i1, i2⟩, i3⟩, i4⟩, i5⟩, i6⟩, i7⟩ := q7
    unfold fnX' at v
    unfold XRow.val at v
    have hpl : fAd K x.place = ma K (ga K (so x.c)) "__init__" := rfl
    rw [hpl] at v
    cases q : K.lookup (ma K (ga K (so x.c)) "__init__") with
    | none => rw [q] at v; cases v
    | some o =>
      obtain ⟨oc, od, dt, osl⟩ := o
      rw [q] at v i3
      cases dt with
      | func fd =>
        obtain ⟨n1, n2, n3, n4, n5, n6, n7, n8, n9, n10, n11, n12, n13, n14, n15⟩ := fd
        have e2 : (some (n1, n2, n3, n4, n5, n6, n7.map (·.1), n8, n15) : FnX) = (some (("__init__" : Str), x.qual, defArgs x.st, FuncBody.stmts (defBody x.st), defScope x.st, mainGlobals, [("__class__" : Str)], Value.none, builtinsNs) : FnX) := v
        simp only [Option.some.injEq, Prod.mk.injEq] at e2
        obtain ⟨h1, h2, h3, h4, h5, h6, h7, h8, h9⟩ := e2
        subst h1 h2 h3 h4 h5 h6 h8 h9
        obtain ⟨cc, rfl⟩ : ∃ cc, n7 = [(("__class__" : Str), cc)] := by
          match n7, h7 with
          | [(a, cc)], h7 =>
            simp only [List.map_cons, List.map_nil, List.cons.injEq, and_true] at h7
            exact ⟨cc, by rw [h7]⟩
          | [], h7 => cases h7
          | _ :: _ :: _, h7 => simp at h7
        simp only [Bool.and_eq_true] at i3
        obtain ⟨⟨j1, j2⟩, j3⟩ := i3
        split at j2
        · rename_i cda
          split at j2
          · rename_i ccl cdd vs ccs hc
            split at j2
            · rename_i fl0 tf hvs
              · split at j3
                · rename_i cl cld D csl hcell
                  have eD := eq_of_beq j3
                  subst eD
                  have hhd : ∃ ar, ((defArgs x.st).posonlyargs ++ (defArgs x.st).args).head? = some ar ∧ ar.arg = "self" := by
                    unfold argsB at s4
                    simp only [Bool.and_eq_true, decide_eq_true_eq, List.isEmpty_iff] at s4
                    obtain ⟨⟨⟨⟨⟨⟨a1, _⟩, _⟩, _⟩, _⟩, _⟩, a7⟩ := s4
                    rw [a1, List.nil_append]
                    cases ha : (defArgs x.st).args with
                    | nil => rw [ha] at a7; simp at a7
                    | cons ar rest =>
                      rw [ha] at a7
                      simp only [List.map_cons, List.cons.injEq] at a7
                      exact ⟨ar, rfl, a7.1⟩
                  refine ⟨ma K (ga K (so x.c)) "__init__", x.qual, defBody x.st, ⟨"__init__", x.qual, defArgs x.st, defBody x.st, defScope x.st, [(("__class__" : Str), cc)], cda⟩, _, ⟨oex, eqO_ok i1, i2, fun g hg => ?_, ⟨oc, od, osl, q⟩, ⟨.none, n9, n10, n11, n14, n12, rfl⟩, rfl, j1, ⟨ccl, cdd, vs, ccs, fl0, tf, hc, hvs, by rw [hfile]; exact j2⟩, hhd, ⟨cc, rfl, cl, cld, csl, hcell⟩, S, s2, i4, eqO_ok i5, i6, i7, mg_none_of X G F.su, htop, .all fun us hl => bind_plain s4 ndp rfl us hl⟩, s3⟩
                  obtain ⟨g', hg', rfl⟩ := List.mem_map.mp hg
                  exact eqO_ok (q6 g' hg')
                · cases j3
            · cases j2
          · cases j2
        · cases j2
      | _ => cases v
  · have he : x.fs.isEmpty = true := by rw [hf]; rfl
    rw [he] at q7
    exact ⟨_, _, _, _, PySem.F.excBase_ValueError, q7⟩
theorem mod_ok (F : Facts T file K) (X : K.In h) (G : h.Ns mainGlobals mg) (hst : T.stB = true) (hfile : prog.main.file = file) (htop : (prog.main.scope.names.lookup ("super" : Str)).isSome = false) : ModF prog K mg (T.M K) T.P (T.bl.map so) T.fls where
  hK := rfl
  blt := fun x hx => by
    obtain ⟨y, hy, rfl⟩ := List.mem_map.mp hx
    exact mg_none_of X G (F.bl y hy)
  gl := fun x d e => gl_of F X G e
  fa := fun f a D hf ha hp => by
    obtain ⟨r, hr, rfl⟩ := Option.map_eq_some_iff.mp (show (T.row f).map (·.D) = some D from hf)
    have ea : a = fAd K r.place := by
      have z : (T.row f).map (fun r => fAd K r.place) = some a := ha
      rw [hr] at z
      exact (Option.some.inj z).symm
    subst ea
    obtain ⟨hm, hk⟩ := Tab.row_mem hr
    have b := F.rows r hm
    unfold Tab.stB at hst
    simp only [Bool.and_eq_true, List.all_eq_true] at hst
    have s := hst.1.1 r hm
    unfold Row.st? at s
    simp only [Bool.and_eq_true] at s
    have kb := s.1.1.1.1
    unfold Row.kB at kb
    unfold rowB at b
    simp only [Bool.and_eq_true] at b
    cases hc : r.cls with
    | none =>
      rw [hc] at kb b
      simp only [Bool.and_eq_true, decide_eq_true_eq] at kb
      have e : fAd K r.place = ga K (so r.nm) := by unfold Row.place; rw [hc]; rfl
      rw [e, ← hk, kb.1]
      exact mg_of X G (eqO_ok b.2)
    | some c =>
      rw [hc] at kb
      simp only [Bool.and_eq_true, decide_eq_true_eq] at kb
      exact (dot_ne hp (by rw [← kb.1, hk])).elim
  ca := fun c b hc => by
    have hc' : T.clss.lookup c = some b := hc
    obtain ⟨c1, c2, c3, c4⟩ := cls_of F X G hc'
    refine ⟨ga K (so c), by show (T.clss.lookup c).map _ = _; rw [hc']; rfl, c1, c2, fun f D a m hf hD ha => ?_, fun D a hb hD ha => ?_⟩
    all_goals
      unfold Tab.stB at hst
      simp only [Bool.and_eq_true, List.all_eq_true] at hst
      have hpc : isPlain c = true := hst.2 (c, b) (lookup_mem hc')
    · obtain ⟨r, hr, rfl⟩ := Option.map_eq_some_iff.mp (show (T.row f).map (·.D) = some D from hD)
      have ea : a = fAd K r.place := by
        have z : (T.row f).map (fun r => fAd K r.place) = some a := ha
        rw [hr] at z
        exact (Option.some.inj z).symm
      subst ea
      obtain ⟨hm, hk⟩ := Tab.row_mem hr
      have b := F.rows r hm
      have s := hst.1.1 r hm
      unfold Row.st? at s
      simp only [Bool.and_eq_true] at s
      have kb := s.1.1.1.1
      unfold Row.kB at kb
      unfold rowB at b
      simp only [Bool.and_eq_true] at b
      cases hc2 : r.cls with
      | none =>
        rw [hc2] at kb
        simp only [Bool.and_eq_true, decide_eq_true_eq] at kb
        exact (dot_ne kb.2 (by rw [← kb.1, hk, hf])).elim
      | some c' =>
        rw [hc2] at kb b
        simp only [Bool.and_eq_true, decide_eq_true_eq] at kb
        obtain ⟨e1, e2⟩ := dot_eq hpc kb.2 (show c ++ "." ++ m = c' ++ "." ++ r.nm by rw [← kb.1, hk, hf])
        subst e1 e2
        have e : fAd K r.place = ma K (ga K (so c)) (so r.nm) := by unfold Row.place; rw [hc2]; rfl
        rw [e]
        exact meth_ok b.2
    · obtain ⟨r, hr, rfl⟩ := Option.map_eq_some_iff.mp (show (T.row (c ++ ".__init__")).map (·.D) = some D from hD)
      have ea : a = fAd K r.place := by
        have z : (T.row (c ++ ".__init__")).map (fun r => fAd K r.place) = some a := ha
        rw [hr] at z
        exact (Option.some.inj z).symm
      subst ea
      obtain ⟨hm, hk⟩ := Tab.row_mem hr
      have b := F.rows r hm
      have s := hst.1.1 r hm
      unfold Row.st? at s
      simp only [Bool.and_eq_true] at s
      have kb := s.1.1.1.1
      unfold Row.kB at kb
      have hsp : c ++ ".__init__" = c ++ "." ++ "__init__" := by
        rw [String.append_assoc]
        rfl
      cases hc2 : r.cls with
      | none =>
        rw [hc2] at kb
        simp only [Bool.and_eq_true, decide_eq_true_eq] at kb
        exact (dot_ne kb.2 (by rw [← hsp, ← hk, kb.1])).elim
      | some c' =>
        rw [hc2] at kb
        simp only [Bool.and_eq_true, decide_eq_true_eq] at kb
        obtain ⟨e1, e2⟩ := dot_eq hpc kb.2 (show c ++ "." ++ "__init__" = c' ++ "." ++ r.nm by rw [← hsp, ← hk, kb.1])
        subst e1
        have e : fAd K r.place = ma K (ga K (so c)) "__init__" := by unfold Row.place; rw [hc2, ← e2]; rfl
        rw [e]
        exact c3 hb
  na := fun f hf c A hA => by
    obtain ⟨b, hb, rfl⟩ := Option.map_eq_some_iff.mp (show (T.clss.lookup c).map (fun _ => ga K (so c)) = some A from hA)
    obtain ⟨c1, c2, c3, c4⟩ := cls_of F X G hb
    exact ⟨c2, c4 f hf⟩
  cn := fun c A hc hA => by
    have hc' : T.clss.lookup c = none := hc
    have hA' : (T.clss.lookup c).map (fun _ => ga K (so c)) = some A := hA
    rw [hc'] at hA'
    cases hA'
  xc := fun c fs hc => by
    obtain ⟨x, hx, rfl⟩ := Option.map_eq_some_iff.mp (show (T.xrow c).map (·.fs) = some fs from hc)
    obtain ⟨hm, hk⟩ := Tab.xrow_mem hx
    subst hk
    exact x_of F X G hst hfile htop hm hx
  xi := fun c c' fs' C C' h1 h2 h3 => by
    obtain ⟨x, hx, rfl⟩ := Option.map_eq_some_iff.mp (show (T.xrow c).map (fun _ => ga K (so c)) = some C from h1)
    obtain ⟨y, hy, rfl⟩ := Option.map_eq_some_iff.mp (show (T.xrow c').map (fun _ => ga K (so c')) = some C' from h3)
    obtain ⟨hm, hk⟩ := Tab.xrow_mem hx
    obtain ⟨hm2, hk2⟩ := Tab.xrow_mem hy
    subst hk hk2
    exact F.xx x hm y hm2
end
/-- the goal behind the head -/
theorem walk_ofX {l : PySem.W.OpenLaw} {nn k : Nat} {q : Program} {loose : List Str} {XP : (Str → Option Value) → Heap → Prop} {YP : World → Heap → Prop} {d : DefRec} {sp : World → Frag → Sp}
    (hn : l.most = some nn) (hn2 : nn ≤ sizeLine) (hdf : d.params.defaults = []) (hr : RoomG k callerA)
    (F : ∀ (w : World) (mg : Str → Option Value) (fa : Addr) (h : Heap), YP w h → h.Ns mainGlobals mg → mg d.name = some (.ref fa) →
      ∃ (K : Frag) (fd : FuncData) (x : Str), K.In h ∧ (∀ (s : Shared) (u : Value), K.In s.heap → BindsTo s fd ⟨[u], []⟩ [(x, u)]) ∧ (∀ (H : Hp) (a : Addr) (ns : List Int), ns.length ≤ nn → Only H → SqL K H a (ns.map V.int) → sp w K [.ref a] H (fun v _ => v = .bl true) fun _ _ _ => False) ∧
        ∀ base : Heap, K.In base → base.Ns mainGlobals mg → FnG l.prog w K mg base k fa fd [x] (sp w K)) :
    PySem.W.WalkO q loose XP YP l.row.toRowW d [] (fun f vs => PySem.call f vs) := by
  refine Att.attach_call hn hdf fun w s0 s1 mg mb fa o pm cd doc a vs ns G Y ho hd hcd hmg hobj hints hlen hg => ?_
  obtain ⟨K, fd, x, KX, hb, hsp, hF⟩ := F w mg fa _ Y G.T.g hmg
  exact call_law KX G.T.g G.T.b G.T.builtins G.T.nolimit hg hobj hints (Nat.le_trans hlen hn2) hr hF hb fun H hO hS => hsp H a ns hlen hO hS
/-- THE LAW: what the head says, the checker's word, the law's own truth in plain Lean -/
theorem law_ofX {l : PySem.W.OpenLaw} {nn n : Nat} {q : Program} {loose : List Str} {XP : (Str → Option Value) → Heap → Prop} {d : DefRec} {T : Tab} {file : Str} {j : Nat} {r : Row}
    (hn : l.most = some nn) (hn2 : nn ≤ sizeLine) (hdf : d.params.defaults = []) (hr : RoomG (2 * n + 1) callerA) (hst : T.stB = true) (hck : ∀ K, (T.rows.all fun r => ckB r.D.body ⟨r.N.map so, defScope r.st, T.P, T.M K, T.bl.map so, T.fls⟩ (defBody r.st)) = true)
    (hfile : l.prog.main.file = file) (htop : (l.prog.main.scope.names.lookup ("super" : Str)).isSome = false) (hrow : T.row "law" = some r) (hdn : d.name = so "law") (h1 : r.D.ps = 1) (h2 : r.D.ps ≤ r.D.nl)
    (hlaw : ∀ ns : List Int, ns.length ≤ nn → LawTrue T.P n r.D ns) : PySem.W.WalkO q loose XP (hookX j T file).says l.row.toRowW d [] (fun f vs => PySem.call f vs) := by
  refine walk_ofX (k := 2 * n + 1) (nn := nn) (sp := fun w K => spF (T.M K) T.P n r.D) hn hn2 hdf hr fun w mg fa h Y G hmg => ?_
  obtain ⟨K, KX, c⟩ := Y
  have F := facts_of c
  have mf := mod_ok (prog := l.prog) F KX G hst hfile htop
  have hD := defs_ok F hst (hck K)
  have hfn : T.P.fn "law" = some r.D := by show (T.row "law").map _ = _; rw [hrow]; rfl
  obtain ⟨hm, hk⟩ := Tab.row_mem hrow
  have hfa : (T.M K).fa "law" = some fa := by
    have z : (T.M K).fa "law" = some (fAd K r.place) := by show (T.row "law").map _ = _; rw [hrow]; rfl
    rw [z]
    have := mf.fa "law" _ _ hfn z (by decide)
    rw [hdn] at hmg
    rw [hmg] at this
    cases this
    rfl
  obtain ⟨x0, qual0, st0, a1, fd1, N1, ps1, k1, k2, k3, k4, k5, k6, k7, k8⟩ := (hD "law" r.D hfn).ex
  rw [hfa] at k1
  cases k1
  refine ⟨K, fd1, ps1.headD "", KX, fun s u kin => ?_, fun H a ns hl hO hS => law_spF h1 h2 (hlaw ns hl) hS hO, fun base hb hg => ?_⟩
  · have b := k7 s [u] kin (by rw [List.append_nil, k4, h1]; rfl)
    match ps1, k4 with
    | [p], _ => exact b
    | [], k4 => rw [h1] at k4; cases k4
    | _ :: _ :: _, k4 => rw [h1] at k4; simp at k4
  · have G0 := fok_at (w := w) (base := base) mf n (fun j _ => fok_all (prog := l.prog) (w := w) (base := base) mf hD j) k2 k3 k4 k5 k8
    match ps1, k4, G0 with
    | [p], _, G0 => exact G0
    | [], k4, _ => rw [h1] at k4; cases k4
    | _ :: _ :: _, k4, _ => rw [h1] at k4; simp at k4
end DL

set_option maxRecDepth 100000
set_option maxHeartbeats 4000000
/-! DLE: the interpreter's equations, for simp; loops; Sat. -/
namespace DL
open PySem PySem.Spec L2
section
variable {P : Pg} {n : Nat} {ρ ρ' : Rho} {pin : List Nat}
@[simp] theorem q_evB_s (ss : List Sx) : evB P (n + 1) pin ss ρ = seqL (evS P n pin) ss ρ := rfl
@[simp] theorem q_seqL_nil (ev : Sx → Rho → Out Flow) : seqL ev [] ρ = .ok .nx ρ := rfl
/-- one statement, then the rest -/
def Out.seq (r : Out Flow) (k : Rho → Out Flow) : Out Flow := match r with
  | .ok .nx ρ1 => k ρ1
  | r => r
@[simp] theorem q_seqL_cons (ev : Sx → Rho → Out Flow) (s : Sx) (ss : List Sx) : seqL ev (s :: ss) ρ = (ev s ρ).seq fun ρ1 => seqL ev ss ρ1 := by
  rw [seqL]
  rfl
@[simp] theorem Out.seq_nx (k : Rho → Out Flow) : (Out.ok .nx ρ).seq k = k ρ := rfl
@[simp] theorem Out.seq_rt (k : Rho → Out Flow) (t : Tok) : (Out.ok (.rt t) ρ).seq k = .ok (.rt t) ρ := rfl
@[simp] theorem Out.seq_ct (k : Rho → Out Flow) : (Out.ok .ct ρ).seq k = .ok .ct ρ := rfl
@[simp] theorem Out.seq_bk (k : Rho → Out Flow) : (Out.ok .bk ρ).seq k = .ok .bk ρ := rfl
@[simp] theorem Out.seq_ex (k : Rho → Out Flow) (e : Er) : (Out.ex e ρ).seq k = .ex e ρ := rfl
@[simp] theorem Out.seq_ite (c : Prop) [Decidable c] (a b : Out Flow) (k : Rho → Out Flow) : (if c then a else b).seq k = if c then a.seq k else b.seq k := by split <;> rfl
@[simp] theorem Out.bind_ite {α β : Type} (c : Prop) [Decidable c] (a b : Out α) (k : α → Rho → Out β) : (if c then a else b).bind k = if c then a.bind k else b.bind k := by split <;> rfl
@[simp] theorem q_evE_k (d : PyData) : evE P (n + 1) (.k d) ρ = .ok (.lf (.d d)) ρ := rfl
/-- a name's thing -/
def slTok (i : Nat) (ρ : Rho) : Option Sl → Out Tok
  | some (.lf (.d x)) => .ok (.lf (.d x)) ρ
  | some (.lf (.ls _)) => .ok (.pl i) ρ
  | some (.ob _ _) => .ok (.pl i) ρ
  | some (.fn f) => .ok (.fn f) ρ
  | _ => .no
@[simp] theorem q_evE_v (i : Nat) : evE P (n + 1) (.v i) ρ = slTok i ρ ρ[i]? := by
  unfold slTok
  rfl
@[simp] theorem q_slTok_d (i : Nat) (x : PyData) : slTok i ρ (some (.lf (.d x))) = .ok (.lf (.d x)) ρ := rfl
@[simp] theorem q_slTok_ls (i : Nat) (x : List PyData) : slTok i ρ (some (.lf (.ls x))) = .ok (.pl i) ρ := rfl
@[simp] theorem q_slTok_ob (i : Nat) (c : String) (fs : List (String × Fl)) : slTok i ρ (some (.ob c fs)) = .ok (.pl i) ρ := rfl
@[simp] theorem q_slTok_fn (i : Nat) (f : String) : slTok i ρ (some (.fn f)) = .ok (.fn f) ρ := rfl
def glTok (ρ : Rho) : Option PyData → Out Tok
  | some d => .ok (.lf (.d d)) ρ
  | none => .no
@[simp] theorem q_evE_g (x : String) : evE P (n + 1) (.g x) ρ = glTok ρ (P.gl x) := by unfold glTok; rfl
@[simp] theorem q_glTok_s (d : PyData) : glTok ρ (some d) = .ok (.lf (.d d)) ρ := rfl
def fnTok (x : String) (ρ : Rho) : Option FDef → Out Tok
  | some _ => .ok (.fn x) ρ
  | none => .no
@[simp] theorem q_evE_f (x : String) : evE P (n + 1) (.f x) ρ = fnTok x ρ (P.fn x) := by unfold fnTok; rfl
@[simp] theorem q_fnTok_s (x : String) (D : FDef) : fnTok x ρ (some D) = .ok (.fn x) ρ := rfl
@[simp] theorem q_evE_p (op : Pr) (es : List Ex) : evE P (n + 1) (.p op es) ρ = (evL (evE P n) es ρ).bind fun ts ρ1 => ofOpt (prm op ts ρ1) := rfl
def andK (k : Rho → Out Tok) (ρ : Rho) : Option Bool → Out Tok
  | some true => k ρ
  | some false => .ok (.lf (.d (.bool false))) ρ
  | none => .no
def orK (k : Rho → Out Tok) (ρ : Rho) : Option Bool → Out Tok
  | some true => .ok (.lf (.d (.bool true))) ρ
  | some false => k ρ
  | none => .no
def notK (ρ : Rho) : Option Bool → Out Tok
  | some b => .ok (.lf (.d (.bool (!b)))) ρ
  | none => .no
@[simp] theorem q_andK_s (k : Rho → Out Tok) (b : Bool) : andK k ρ (some b) = if b = true then k ρ else .ok (.lf (.d (.bool false))) ρ := by cases b <;> rfl
@[simp] theorem q_orK_s (k : Rho → Out Tok) (b : Bool) : orK k ρ (some b) = if b = true then .ok (.lf (.d (.bool true))) ρ else k ρ := by cases b <;> rfl
@[simp] theorem q_notK_s (b : Bool) : notK ρ (some b) = .ok (.lf (.d (.bool (!b)))) ρ := rfl
@[simp] theorem q_boolOf_b (b : Bool) : boolOf (.lf (.d (.bool b))) = some b := rfl
@[simp] theorem q_evE_and (a b : Ex) : evE P (n + 1) (.and a b) ρ = (evE P n a ρ).bind fun t ρ1 => andK (fun ρ1 => evE P n b ρ1) ρ1 (boolOf t) := by unfold andK; rfl
@[simp] theorem q_evE_or (a b : Ex) : evE P (n + 1) (.or a b) ρ = (evE P n a ρ).bind fun t ρ1 => orK (fun ρ1 => evE P n b ρ1) ρ1 (boolOf t) := by unfold orK; rfl
@[simp] theorem q_evE_not (a : Ex) : evE P (n + 1) (.not a) ρ = (evE P n a ρ).bind fun t ρ1 => notK ρ1 (boolOf t) := by unfold notK; rfl
@[simp] theorem q_evE_ite (c a b : Ex) : evE P (n + 1) (.ite c a b) ρ = (evT P n c ρ).bind fun k ρ1 => if k then evE P n a ρ1 else evE P n b ρ1 := rfl
def callK (k : FDef → Out Tok) : Option FDef → Out Tok
  | some D => k D
  | none => .no
@[simp] theorem q_callK_s (k : FDef → Out Tok) (D : FDef) : callK k (some D) = k D := rfl
@[simp] theorem q_evE_call (f : String) (es : List Ex) : evE P (n + 1) (.call f es) ρ = callK (fun D => (evL (evE P n) es ρ).bind fun ts ρ1 => callF (evB P n) D ts ρ1) (P.fn f) := by unfold callK; rfl
@[simp] theorem q_evT_and (a b : Ex) : evT P (n + 1) (.and a b) ρ = (evT P n a ρ).bind fun k ρ1 => if k then evT P n b ρ1 else .ok false ρ1 := rfl
@[simp] theorem q_evT_or (a b : Ex) : evT P (n + 1) (.or a b) ρ = (evT P n a ρ).bind fun k ρ1 => if k then .ok true ρ1 else evT P n b ρ1 := rfl
@[simp] theorem q_evT_not (a : Ex) : evT P (n + 1) (.not a) ρ = (evT P n a ρ).bind fun k ρ1 => .ok (!k) ρ1 := rfl
@[simp] theorem q_evT_ite (c a b : Ex) : evT P (n + 1) (.ite c a b) ρ = (evT P n c ρ).bind fun k ρ1 => if k then evT P n a ρ1 else evT P n b ρ1 := rfl
/-- a value as a test -/
def truK (ρ : Rho) : Option Bool → Out Bool
  | some b => .ok b ρ
  | none => .no
@[simp] theorem q_truK_s (b : Bool) : truK ρ (some b) = .ok b ρ := rfl
def asT (o : Out Tok) : Out Bool := o.bind fun t ρ1 => truK ρ1 ((rd ρ1 t).bind truth)
@[simp] theorem q_asT_eq (o : Out Tok) : asT o = o.bind fun t ρ1 => truK ρ1 ((rd ρ1 t).bind truth) := rfl
@[simp] theorem q_truth_b (b : Bool) : truth (.d (.bool b)) = some b := rfl
@[simp] theorem q_truth_i (b : Int) : truth (.d (.int b)) = some (b != 0) := rfl
@[simp] theorem q_truth_n : truth (.d .none) = some false := rfl
@[simp] theorem q_truth_l (b : List PyData) : truth (.d (.list b)) = some (!b.isEmpty) := rfl
@[simp] theorem q_truth_t (b : List PyData) : truth (.d (.tuple b)) = some (!b.isEmpty) := rfl
@[simp] theorem q_truth_o (b : List PyData) : truth (.ls b) = some (!b.isEmpty) := rfl

@[simp] theorem q_evT_k (d : PyData) : evT P (n + 1) (.k d) ρ = asT (evE P n (.k d) ρ) := by unfold asT truK; rfl
@[simp] theorem q_evT_v (d : Nat) : evT P (n + 1) (.v d) ρ = asT (evE P n (.v d) ρ) := by unfold asT truK; rfl
@[simp] theorem q_evT_g (d : String) : evT P (n + 1) (.g d) ρ = asT (evE P n (.g d) ρ) := by unfold asT truK; rfl
@[simp] theorem q_evT_p (o : Pr) (es : List Ex) : evT P (n + 1) (.p o es) ρ = asT (evE P n (.p o es) ρ) := by unfold asT truK; rfl
@[simp] theorem q_evT_call (f : String) (es : List Ex) : evT P (n + 1) (.call f es) ρ = asT (evE P n (.call f es) ρ) := by unfold asT truK; rfl
@[simp] theorem q_evT_chn (p q : Pr) (a b c : Ex) : evT P (n + 1) (.chn p q a b c) ρ = asT (evE P n (.chn p q a b c) ρ) := by unfold asT truK; rfl
@[simp] theorem q_evT_fld (i : Nat) (f : String) : evT P (n + 1) (.fld i f) ρ = asT (evE P n (.fld i f) ρ) := by unfold asT truK; rfl
@[simp] theorem q_evT_om (m : String) (i : Nat) (es : List Ex) : evT P (n + 1) (.om m i es) ρ = asT (evE P n (.om m i es) ρ) := by unfold asT truK; rfl
@[simp] theorem q_evT_callv (i : Nat) (es : List Ex) : evT P (n + 1) (.callv i es) ρ = asT (evE P n (.callv i es) ρ) := by unfold asT truK; rfl
@[simp] theorem q_evT_m (o : Pr) (e : Ex) (es : List Ex) : evT P (n + 1) (.m o e es) ρ = asT (evE P n (.m o e es) ρ) := by unfold asT truK; rfl
@[simp] theorem q_evL_nil (ev : Ex → Rho → Out Tok) : evL ev [] ρ = .ok [] ρ := rfl
@[simp] theorem q_evL_cons (ev : Ex → Rho → Out Tok) (e : Ex) (es : List Ex) : evL ev (e :: es) ρ = (ev e ρ).bind fun t ρ1 => if isPf t && !(noCalls es) then .no else (evL ev es ρ1).bind fun ts ρ2 => .ok (t :: ts) ρ2 := rfl
@[simp] theorem q_isPf_lf (l : Fl) : isPf (.lf l) = false := rfl
@[simp] theorem q_isPf_pl (l : Nat) : isPf (.pl l) = false := rfl
@[simp] theorem q_isPf_pf (l : Nat) (f : String) : isPf (.pf l f) = true := rfl
@[simp] theorem q_isPf_fn (l : String) : isPf (.fn l) = false := rfl
@[simp] theorem q_isPf_ob (c : String) (fs : List (String × Fl)) : isPf (.ob c fs) = false := rfl
@[simp] theorem q_retT_lf (l : Fl) : retT pin (.lf l) ρ = some (.lf l, ρ) := rfl
@[simp] theorem q_evS_ret (e : Ex) : evS P (n + 1) pin (.ret e) ρ = (evE P n e ρ).bind fun t ρ1 => ofOpt ((retT pin t ρ1).map fun (r, ρ2) => (.rt r, ρ2)) := rfl
@[simp] theorem q_evS_retN : evS P (n + 1) pin .retN ρ = .ok (.rt (.lf (.d .none))) ρ := rfl
@[simp] theorem q_evS_ite (c : Ex) (a b : List Sx) : evS P (n + 1) pin (.ite c a b) ρ = (evT P n c ρ).bind fun k ρ1 => if k then evB P n pin a ρ1 else evB P n pin b ρ1 := rfl
@[simp] theorem q_evS_asg (t : Tg) (e : Ex) : evS P (n + 1) pin (.asg t e) ρ = (evE P n e ρ).bind fun k ρ1 => ofOpt ((asgT pin t k ρ1).map fun ρ2 => (.nx, ρ2)) := rfl
@[simp] theorem q_evS_par (is : List Nat) (es : List Ex) : evS P (n + 1) pin (.par is es) ρ = (evL (evE P n) es ρ).bind fun ts ρ1 => ofOpt ((asgNs pin is ts ρ1).map fun ρ2 => (.nx, ρ2)) := rfl
@[simp] theorem q_evS_ex (e : Ex) : evS P (n + 1) pin (.ex e) ρ = (evE P n e ρ).bind fun _ ρ1 => .ok .nx ρ1 := rfl
@[simp] theorem q_evS_pass : evS P (n + 1) pin .pass ρ = .ok .nx ρ := rfl
@[simp] theorem q_evS_brk : evS P (n + 1) pin .brk ρ = .ok .bk ρ := rfl
@[simp] theorem q_evS_cnt : evS P (n + 1) pin .cnt ρ = .ok .ct ρ := rfl
def xK (k : List String → Out Flow) : Option (List String) → Out Flow
  | some fs => k fs
  | none => .no
@[simp] theorem q_xK_s (k : List String → Out Flow) (fs : List String) : xK k (some fs) = k fs := rfl
def xD (c : String) (fs : List String) : Option (List PyData × Rho) → Out Flow
  | some (xs, ρ2) => if xs.length = fs.length then .ex ⟨c, (fs.zip xs).reverse⟩ ρ2 else .no
  | none => .no
@[simp] theorem q_xD_s (c : String) (fs : List String) (xs : List PyData) : xD c fs (some (xs, ρ)) = if xs.length = fs.length then .ex ⟨c, (fs.zip xs).reverse⟩ ρ else .no := rfl
@[simp] theorem q_evS_raise (c : String) (es : List Ex) : evS P (n + 1) pin (.raise c es) ρ = xK (fun fs => (evL (evE P n) es ρ).bind fun ts ρ1 => xD c fs (toDs ts ρ1)) (P.exc c) := by unfold xK xD; rfl
def tryK (P : Pg) (hs : List (List String × Option Nat × List Sx)) : Out Flow → Out Flow
  | .ex e ρ1 => handle P e hs ρ1
  | r => r
@[simp] theorem q_tryK_ok (hs : List (List String × Option Nat × List Sx)) (fl : Flow) : tryK P hs (.ok fl ρ) = .ok fl ρ := rfl
@[simp] theorem q_tryK_ex (hs : List (List String × Option Nat × List Sx)) (e : Er) : tryK P hs (.ex e ρ) = handle P e hs ρ := rfl
@[simp] theorem q_evS_try (b : List Sx) (hs : List (List String × Option Nat × List Sx)) : evS P (n + 1) pin (.try_ b hs) ρ = tryK P hs (evB P n pin b ρ) := by unfold tryK; rfl
@[simp] theorem q_handle_nil (e : Er) : handle P e [] ρ = .ex e ρ := rfl
@[simp] theorem q_handle_cons (e : Er) (cs : List String) (x : Option Nat) (b : List Sx) (hs : List (List String × Option Nat × List Sx)) : handle P e ((cs, x, b) :: hs) ρ = if cs.any (P.isa e.c) then suiteF P e x ρ b else handle P e hs ρ := rfl
/-! ### reading, data, targets -/
@[simp] theorem q_rd_lf (l : Fl) : rd ρ (.lf l) = some l := rfl
def leafOf : Option Sl → Option Fl
  | some (.lf l) => some l
  | _ => none
@[simp] theorem q_leafOf_l (l : Fl) : leafOf (some (.lf l)) = some l := rfl
@[simp] theorem q_rd_pl (i : Nat) : rd ρ (.pl i) = leafOf ρ[i]? := by unfold leafOf; rfl
@[simp] theorem q_rds_nil : rds ρ [] = some [] := rfl
@[simp] theorem q_rds_cons (t : Tok) (ts : List Tok) : rds ρ (t :: ts) = (rd ρ t).bind fun l => (rds ρ ts).map fun ls => l :: ls := by
  rw [rds]
  cases rd ρ t <;> cases rds ρ ts <;> rfl
@[simp] theorem q_toD_lf (l : Fl) : toD (.lf l) ρ = some (l.dat, ρ) := rfl
def toDp (i : Nat) (ρ : Rho) : Option Sl → Option (PyData × Rho)
  | some (.lf (.d x)) => some (x, ρ)
  | some (.lf (.ls xs)) => some (.list xs, ρ.set i (.lf (.d (.list xs))))
  | _ => none
@[simp] theorem q_toD_pl (i : Nat) : toD (.pl i) ρ = toDp i ρ ρ[i]? := by unfold toDp; rfl
@[simp] theorem q_toDp_d (i : Nat) (x : PyData) : toDp i ρ (some (.lf (.d x))) = some (x, ρ) := rfl
@[simp] theorem q_toDp_l (i : Nat) (x : List PyData) : toDp i ρ (some (.lf (.ls x))) = some (.list x, ρ.set i (.lf (.d (.list x)))) := rfl
@[simp] theorem q_toDs_nil : toDs [] ρ = some ([], ρ) := rfl
@[simp] theorem q_toDs_cons (t : Tok) (ts : List Tok) : toDs (t :: ts) ρ = (toD t ρ).bind fun p => (toDs ts p.2).map fun q => (p.1 :: q.1, q.2) := by
  rw [toDs]
  cases h : toD t ρ with
  | none => rfl
  | some p => cases h2 : toDs ts p.2 with
    | none => simp [h2]
    | some q => simp [h2]
@[simp] theorem q_dat_d (x : PyData) : (Fl.d x).dat = x := rfl
@[simp] theorem q_dat_l (x : List PyData) : (Fl.ls x).dat = .list x := rfl
@[simp] theorem q_unT_lf (l : Fl) : unT (.lf l) ρ = some (.lf l, ρ) := rfl
@[simp] theorem q_unT_fn (l : String) : unT (.fn l) ρ = some (.fn l, ρ) := rfl
@[simp] theorem q_unT_ob (c : String) (fs : List (String × Fl)) : unT (.ob c fs) ρ = some (.ob c fs, ρ) := rfl
@[simp] theorem q_unT_pl (i : Nat) : unT (.pl i) ρ = (toD (.pl i) ρ).map fun p => (.lf (.d p.1), p.2) := rfl
@[simp] theorem q_unTs_nil : unTs [] ρ = some ([], ρ) := rfl
@[simp] theorem q_unTs_cons (t : Tok) (ts : List Tok) : unTs (t :: ts) ρ = (unT t ρ).bind fun p => (unTs ts p.2).map fun q => (p.1 :: q.1, q.2) := by
  rw [unTs]
  cases h : unT t ρ with
  | none => rfl
  | some p => cases h2 : unTs ts p.2 with
    | none => simp [h2]
    | some q => simp [h2]
def putK (i : Nat) (s : Sl) (ρ : Rho) : Option Sl → Option Rho
  | some .lk => none
  | some _ => some (ρ.set i s)
  | none => none
@[simp] theorem q_putK_no (i : Nat) (s : Sl) : putK i s ρ (some .no) = some (ρ.set i s) := rfl
@[simp] theorem q_putK_lf (i : Nat) (s : Sl) (l : Fl) : putK i s ρ (some (.lf l)) = some (ρ.set i s) := rfl
@[simp] theorem q_putK_fn (i : Nat) (s : Sl) (l : String) : putK i s ρ (some (.fn l)) = some (ρ.set i s) := rfl
@[simp] theorem q_putK_ob (i : Nat) (s : Sl) (c : String) (fs : List (String × Fl)) : putK i s ρ (some (.ob c fs)) = some (ρ.set i s) := rfl
theorem put1_k (i : Nat) (t : Tok) (s : Sl) (h : slotOf t = some s) : put1 pin i t ρ = if i ∈ pin then none else putK i s ρ ρ[i]? := by
  unfold put1 putK
  rw [h]
  split
  · rfl
  · cases ρ[i]? with
    | none => rfl
    | some x => cases x <;> rfl
@[simp] theorem q_put1_lf (i : Nat) (l : Fl) : put1 pin i (.lf l) ρ = if i ∈ pin then none else putK i (.lf l) ρ ρ[i]? := put1_k i _ _ rfl
@[simp] theorem q_put1_fn (i : Nat) (l : String) : put1 pin i (.fn l) ρ = if i ∈ pin then none else putK i (.fn l) ρ ρ[i]? := put1_k i _ _ rfl
@[simp] theorem q_put1_ob (i : Nat) (c : String) (fs : List (String × Fl)) : put1 pin i (.ob c fs) ρ = if i ∈ pin then none else putK i (.ob c fs) ρ ρ[i]? := put1_k i _ _ rfl
@[simp] theorem q_asgN_eq (i : Nat) (t : Tok) : asgN pin i t ρ = (unT t ρ).bind fun p => put1 pin i p.1 p.2 := by
  unfold asgN
  cases unT t ρ <;> rfl
@[simp] theorem q_asgT_nm (i : Nat) (k : Tok) : asgT pin (.nm i) k ρ = asgN pin i k ρ := rfl
@[simp] theorem q_asgT_tp (ts : List Tg) (k : Tok) : asgT pin (.tp ts) k ρ = (toD k ρ).bind fun p => asgD pin (.tp ts) p.1 p.2 := rfl
@[simp] theorem q_asgD_nm (i : Nat) (x : PyData) : asgD pin (.nm i) x ρ = put1 pin i (.lf (.d x)) ρ := rfl
@[simp] theorem q_asgD_tp (ts : List Tg) (xs : List PyData) : asgD pin (.tp ts) (.tuple xs) ρ = asgDs pin ts xs ρ := rfl
@[simp] theorem q_asgDs_nil : asgDs pin [] [] ρ = some ρ := rfl
@[simp] theorem q_asgDs_cons (t : Tg) (ts : List Tg) (x : PyData) (xs : List PyData) : asgDs pin (t :: ts) (x :: xs) ρ = (asgD pin t x ρ).bind fun ρ' => asgDs pin ts xs ρ' := rfl
@[simp] theorem q_put1s_nil : put1s pin [] [] ρ = some ρ := rfl
@[simp] theorem q_put1s_cons (i : Nat) (is : List Nat) (t : Tok) (ts : List Tok) : put1s pin (i :: is) (t :: ts) ρ = (put1 pin i t ρ).bind fun ρ' => put1s pin is ts ρ' := by
  rw [put1s]
  cases put1 pin i t ρ <;> rfl
@[simp] theorem q_asgNs_eq (is : List Nat) (ts : List Tok) : asgNs pin is ts ρ = (unTs ts ρ).bind fun p => put1s pin is p.1 p.2 := by
  unfold asgNs
  cases unTs ts ρ <;> rfl
def putPK (i : Nat) (l : Fl) (ρ : Rho) : Option Sl → Option Rho
  | some (.lf (.ls _)) => some (ρ.set i (.lf l))
  | _ => none
@[simp] theorem q_putPK_s (i : Nat) (l : Fl) (xs : List PyData) : putPK i l ρ (some (.lf (.ls xs))) = some (ρ.set i (.lf l)) := rfl
@[simp] theorem q_putP_pl (i : Nat) (l : Fl) : putP ρ l (.pl i) = putPK i l ρ ρ[i]? := by unfold putPK; rfl
/-! ### operations -/
@[simp] theorem q_prm_tup (ts : List Tok) : prm .tup ts ρ = (toDs ts ρ).bind fun p => if p.1.length ≤ sizeLine then some (.lf (.d (.tuple p.1)), p.2) else none := rfl
@[simp] theorem q_prm_lst (ts : List Tok) : prm .lst ts ρ = (toDs ts ρ).bind fun p => if p.1.length ≤ sizeLine then some (.lf (.ls p.1), p.2) else none := rfl
@[simp] theorem q_prm_add (ts : List Tok) : prm .add ts ρ = (rds ρ ts).bind fun ls => (pd .add ls).map fun l => (.lf l, ρ) := prm_pure rfl ts ρ
@[simp] theorem q_prm_sub (ts : List Tok) : prm .sub ts ρ = (rds ρ ts).bind fun ls => (pd .sub ls).map fun l => (.lf l, ρ) := prm_pure rfl ts ρ
@[simp] theorem q_prm_mul (ts : List Tok) : prm .mul ts ρ = (rds ρ ts).bind fun ls => (pd .mul ls).map fun l => (.lf l, ρ) := prm_pure rfl ts ρ
@[simp] theorem q_prm_fdiv (ts : List Tok) : prm .fdiv ts ρ = (rds ρ ts).bind fun ls => (pd .fdiv ls).map fun l => (.lf l, ρ) := prm_pure rfl ts ρ
@[simp] theorem q_prm_mod (ts : List Tok) : prm .mod ts ρ = (rds ρ ts).bind fun ls => (pd .mod ls).map fun l => (.lf l, ρ) := prm_pure rfl ts ρ
@[simp] theorem q_prm_pow (ts : List Tok) : prm .pow ts ρ = (rds ρ ts).bind fun ls => (pd .pow ls).map fun l => (.lf l, ρ) := prm_pure rfl ts ρ
@[simp] theorem q_prm_neg (ts : List Tok) : prm .neg ts ρ = (rds ρ ts).bind fun ls => (pd .neg ls).map fun l => (.lf l, ρ) := prm_pure rfl ts ρ
@[simp] theorem q_prm_eq (ts : List Tok) : prm .eq ts ρ = (rds ρ ts).bind fun ls => (pd .eq ls).map fun l => (.lf l, ρ) := prm_pure rfl ts ρ
@[simp] theorem q_prm_ne (ts : List Tok) : prm .ne ts ρ = (rds ρ ts).bind fun ls => (pd .ne ls).map fun l => (.lf l, ρ) := prm_pure rfl ts ρ
@[simp] theorem q_prm_lt (ts : List Tok) : prm .lt ts ρ = (rds ρ ts).bind fun ls => (pd .lt ls).map fun l => (.lf l, ρ) := prm_pure rfl ts ρ
@[simp] theorem q_prm_le (ts : List Tok) : prm .le ts ρ = (rds ρ ts).bind fun ls => (pd .le ls).map fun l => (.lf l, ρ) := prm_pure rfl ts ρ
@[simp] theorem q_prm_gt (ts : List Tok) : prm .gt ts ρ = (rds ρ ts).bind fun ls => (pd .gt ls).map fun l => (.lf l, ρ) := prm_pure rfl ts ρ
@[simp] theorem q_prm_ge (ts : List Tok) : prm .ge ts ρ = (rds ρ ts).bind fun ls => (pd .ge ls).map fun l => (.lf l, ρ) := prm_pure rfl ts ρ
@[simp] theorem q_prm_isin (ts : List Tok) : prm .isin ts ρ = (rds ρ ts).bind fun ls => (pd .isin ls).map fun l => (.lf l, ρ) := prm_pure rfl ts ρ
@[simp] theorem q_prm_notin (ts : List Tok) : prm .notin ts ρ = (rds ρ ts).bind fun ls => (pd .notin ls).map fun l => (.lf l, ρ) := prm_pure rfl ts ρ
@[simp] theorem q_prm_isN (ts : List Tok) : prm .isN ts ρ = (rds ρ ts).bind fun ls => (pd .isN ls).map fun l => (.lf l, ρ) := prm_pure rfl ts ρ
@[simp] theorem q_prm_notN (ts : List Tok) : prm .notN ts ρ = (rds ρ ts).bind fun ls => (pd .notN ls).map fun l => (.lf l, ρ) := prm_pure rfl ts ρ
@[simp] theorem q_prm_ix (ts : List Tok) : prm .ix ts ρ = (rds ρ ts).bind fun ls => (pd .ix ls).map fun l => (.lf l, ρ) := prm_pure rfl ts ρ
@[simp] theorem q_prm_rev (ts : List Tok) : prm .rev ts ρ = (rds ρ ts).bind fun ls => (pd .rev ls).map fun l => (.lf l, ρ) := prm_pure rfl ts ρ
@[simp] theorem q_prm_len (ts : List Tok) : prm .len ts ρ = (rds ρ ts).bind fun ls => (pd .len ls).map fun l => (.lf l, ρ) := prm_pure rfl ts ρ
@[simp] theorem q_prm_tuple (ts : List Tok) : prm .tuple ts ρ = (rds ρ ts).bind fun ls => (pd .tuple ls).map fun l => (.lf l, ρ) := prm_pure rfl ts ρ
@[simp] theorem q_prm_list (ts : List Tok) : prm .list ts ρ = (rds ρ ts).bind fun ls => (pd .list ls).map fun l => (.lf l, ρ) := prm_pure rfl ts ρ
@[simp] theorem q_prm_all (ts : List Tok) : prm .all ts ρ = (rds ρ ts).bind fun ls => (pd .all ls).map fun l => (.lf l, ρ) := prm_pure rfl ts ρ
@[simp] theorem q_prm_any (ts : List Tok) : prm .any ts ρ = (rds ρ ts).bind fun ls => (pd .any ls).map fun l => (.lf l, ρ) := prm_pure rfl ts ρ
@[simp] theorem q_prm_sum (ts : List Tok) : prm .sum ts ρ = (rds ρ ts).bind fun ls => (pd .sum ls).map fun l => (.lf l, ρ) := prm_pure rfl ts ρ
@[simp] theorem q_prm_sumL (ts : List Tok) : prm .sumL ts ρ = (rds ρ ts).bind fun ls => (pd .sumL ls).map fun l => (.lf l, ρ) := prm_pure rfl ts ρ
@[simp] theorem q_prm_abs (ts : List Tok) : prm .abs ts ρ = (rds ρ ts).bind fun ls => (pd .abs ls).map fun l => (.lf l, ρ) := prm_pure rfl ts ρ
@[simp] theorem q_prm_int (ts : List Tok) : prm .int ts ρ = (rds ρ ts).bind fun ls => (pd .int ls).map fun l => (.lf l, ρ) := prm_pure rfl ts ρ
@[simp] theorem q_prm_str (ts : List Tok) : prm .str ts ρ = (rds ρ ts).bind fun ls => (pd .str ls).map fun l => (.lf l, ρ) := prm_pure rfl ts ρ
@[simp] theorem q_prm_repr (ts : List Tok) : prm .repr ts ρ = (rds ρ ts).bind fun ls => (pd .repr ls).map fun l => (.lf l, ρ) := prm_pure rfl ts ρ
@[simp] theorem q_prm_split (ts : List Tok) : prm .split ts ρ = (rds ρ ts).bind fun ls => (pd .split ls).map fun l => (.lf l, ρ) := prm_pure rfl ts ρ
@[simp] theorem q_prm_min2 (ts : List Tok) : prm .min2 ts ρ = (rds ρ ts).bind fun ls => (pd .min2 ls).map fun l => (.lf l, ρ) := prm_pure rfl ts ρ
@[simp] theorem q_prm_max2 (ts : List Tok) : prm .max2 ts ρ = (rds ρ ts).bind fun ls => (pd .max2 ls).map fun l => (.lf l, ρ) := prm_pure rfl ts ρ
@[simp] theorem q_prm_dct (ts : List Tok) : prm .dct ts ρ = (rds ρ ts).bind fun ls => (pd .dct ls).map fun l => (.lf l, ρ) := prm_pure rfl ts ρ
@[simp] theorem q_prm_isi (T : String) (ts : List Tok) : prm (.isi T) ts ρ = (rds ρ ts).bind fun ls => (pd (.isi T) ls).map fun l => (.lf l, ρ) := prm_pure rfl ts ρ
@[simp] theorem prm_sl (a b : Bool) (ts : List Tok) : prm (.sl a b) ts ρ = (rds ρ ts).bind fun ls => (pd (.sl a b) ls).map fun l => (.lf l, ρ) := prm_pure rfl ts ρ
def lsOf : Option Fl → Option (List PyData)
  | some (.ls xs) => some xs
  | _ => none
@[simp] theorem q_lsOf_s (xs : List PyData) : lsOf (some (.ls xs)) = some xs := rfl
@[simp] theorem q_prm_append (o t : Tok) : prm .append [o, t] ρ = (toD t ρ).bind fun p => (lsOf (rd p.2 o)).bind fun xs => if xs.length < sizeLine then (putP p.2 (.ls (xs ++ [p.1])) o).map fun ρ'' => (.lf (.d .none), ρ'') else none := by
  rw [prm]
  cases toD t ρ with
  | none => rfl
  | some p =>
    simp only [Option.bind_some]
    cases rd p.2 o with
    | none => rfl
    | some l => cases l <;> rfl
@[simp] theorem q_prm_pop (o : Tok) : prm .pop [o] ρ = (lsOf (rd ρ o)).bind fun xs => (xs.getLast?).bind fun x => (putP ρ (.ls xs.dropLast) o).map fun ρ' => (.lf (.d x), ρ') := by
  rw [prm]
  cases rd ρ o with
  | none => rfl
  | some l => cases l <;> rfl
@[simp] theorem q_prm_extend (o t : Tok) : prm .extend [o, t] ρ = (lsOf (rd ρ o)).bind fun xs => (rd ρ t).bind fun l => l.seq.bind fun ys => if xs.length + ys.length ≤ sizeLine then (putP ρ (.ls (xs ++ ys)) o).map fun ρ' => (.lf (.d .none), ρ') else none := by
  rw [prm]
  cases rd ρ o with
  | none => rfl
  | some l => cases rd ρ t with
    | none => cases l <;> rfl
    | some k => cases l <;> rfl
@[simp] theorem q_seq_dl (xs : List PyData) : Fl.seq (.d (.list xs)) = some xs := rfl
@[simp] theorem q_seq_dt (xs : List PyData) : Fl.seq (.d (.tuple xs)) = some xs := rfl
@[simp] theorem q_seq_ls (xs : List PyData) : Fl.seq (.ls xs) = some xs := rfl
def recvK (op : Pr) (k : Out Tok) : Option Fl → Out Tok
  | some l => if recvOk op l then k else .no
  | none => .no
@[simp] theorem q_recvK_s (op : Pr) (k : Out Tok) (l : Fl) : recvK op k (some l) = if recvOk op l then k else .no := rfl
@[simp] theorem q_evE_m (op : Pr) (o : Ex) (es : List Ex) : evE P (n + 1) (.m op o es) ρ = (evE P n o ρ).bind fun t ρ1 => if isPf t && !(noCalls es) then .no else recvK op ((evL (evE P n) es ρ1).bind fun ts ρ2 => ofOpt (prm op (t :: ts) ρ2)) (rd ρ1 t) := by
  unfold recvK
  rfl

@[simp] theorem q_pd_add (a b : Fl) : pd .add [a, b] = addF a b := rfl
@[simp] theorem q_pd_mul (a b : Fl) : pd .mul [a, b] = mulF a b := rfl
@[simp] theorem q_pd_eq (a b : Fl) : pd .eq [a, b] = (eqF a b).map fun k => .d (.bool k) := rfl
@[simp] theorem q_pd_ne (a b : Fl) : pd .ne [a, b] = (eqF a b).map fun k => .d (.bool (!k)) := rfl
@[simp] theorem q_pd_isin (a b : Fl) : pd .isin [a, b] = (inF a b).map fun k => .d (.bool k) := rfl
@[simp] theorem q_pd_notin (a b : Fl) : pd .notin [a, b] = (inF a b).map fun k => .d (.bool (!k)) := rfl
@[simp] theorem q_pd_ix (a b : Fl) : pd .ix [a, b] = ixF a b := rfl
@[simp] theorem q_pd_lt (a b : Fl) : pd .lt [a, b] = cmpI (fun i j => decide (i < j)) a b := rfl
@[simp] theorem q_pd_le (a b : Fl) : pd .le [a, b] = cmpI (fun i j => decide (i ≤ j)) a b := rfl
@[simp] theorem q_pd_gt (a b : Fl) : pd .gt [a, b] = cmpI (fun i j => decide (j < i)) a b := rfl
@[simp] theorem q_pd_ge (a b : Fl) : pd .ge [a, b] = cmpI (fun i j => decide (j ≤ i)) a b := rfl
@[simp] theorem q_pd_len (a : Fl) : pd .len [a] = lenF a := rfl
@[simp] theorem q_pd_tuple (a : Fl) : pd .tuple [a] = a.seq.map fun xs => .d (.tuple xs) := rfl
@[simp] theorem q_pd_list (a : Fl) : pd .list [a] = a.seq.map .ls := rfl
@[simp] theorem q_pd_sub (i j : Int) : pd .sub [.d (.int i), .d (.int j)] = some (.d (.int (i - j))) := rfl
@[simp] theorem q_pd_neg (i : Int) : pd .neg [.d (.int i)] = some (.d (.int (-i))) := rfl
@[simp] theorem q_pd_mod (i j : Int) : pd .mod [.d (.int i), .d (.int j)] = if 0 < j then some (.d (.int (i % j))) else none := rfl
@[simp] theorem q_pd_fdiv (i j : Int) : pd .fdiv [.d (.int i), .d (.int j)] = if CDiv i j then some (.d (.int (i / j))) else none := rfl
@[simp] theorem q_pd_pow (i j : Int) : pd .pow [.d (.int i), .d (.int j)] = if CPow i j then some (.d (.int (i ^ j.toNat))) else none := rfl
@[simp] theorem q_pd_abs (i : Int) : pd .abs [.d (.int i)] = some (.d (.int (if i < 0 then -i else i))) := rfl
@[simp] theorem q_pd_int (i : Int) : pd .int [.d (.int i)] = some (.d (.int i)) := rfl
@[simp] theorem q_pd_dct : pd .dct [] = some (.d (.dict [])) := rfl
/-- is it None -/
def isNone : PyData → Bool
  | .none => true
  | _ => false
@[simp] theorem q_isNone_n : isNone .none = true := rfl
@[simp] theorem q_isNone_b (b : Bool) : isNone (.bool b) = false := rfl
@[simp] theorem q_isNone_i (b : Int) : isNone (.int b) = false := rfl
@[simp] theorem q_isNone_s (b : Str) : isNone (.str b) = false := rfl
@[simp] theorem q_isNone_l (b : List PyData) : isNone (.list b) = false := rfl
@[simp] theorem q_isNone_t (b : List PyData) : isNone (.tuple b) = false := rfl
@[simp] theorem q_isNone_d (b : List (PyData × PyData)) : isNone (.dict b) = false := rfl
theorem isNone_iff {x : PyData} : isNone x = true ↔ x = .none := by cases x <;> simp
@[simp] theorem q_pd_isN (x : PyData) : pd .isN [.d x] = some (.d (.bool (isNone x))) := by cases x <;> rfl
@[simp] theorem q_pd_notN (x : PyData) : pd .notN [.d x] = some (.d (.bool (!isNone x))) := by cases x <;> rfl
@[simp] theorem q_pd_isi (T : String) (a : Fl) : pd (.isi T) [a] = (isiB (tyName a.dat) T).map fun k => .d (.bool k) := rfl
@[simp] theorem q_pd_sl00 (a : Fl) : pd (.sl false false) [a] = slF a none none := rfl
@[simp] theorem q_pd_sl10 (a l : Fl) : pd (.sl true false) [a, l] = (intOf l).bind fun l => slF a (some l) none := rfl
@[simp] theorem q_pd_sl01 (a h : Fl) : pd (.sl false true) [a, h] = (intOf h).bind fun h => slF a none (some h) := rfl
@[simp] theorem q_intOf_i (i : Int) : intOf (.d (.int i)) = some i := rfl
@[simp] theorem q_pd_revT (xs : List PyData) : pd .rev [.d (.tuple xs)] = some (.d (.tuple xs.reverse)) := rfl
@[simp] theorem q_pd_revL (xs : List PyData) : pd .rev [.d (.list xs)] = some (.ls xs.reverse) := rfl
@[simp] theorem q_pd_revO (xs : List PyData) : pd .rev [.ls xs] = some (.ls xs.reverse) := rfl
@[simp] theorem q_pd_allO (xs : List PyData) : pd .all [.ls xs] = (boolsOf xs).map fun bs => .d (.bool (bs.all id)) := rfl
@[simp] theorem q_pd_anyO (xs : List PyData) : pd .any [.ls xs] = (boolsOf xs).map fun bs => .d (.bool (bs.any id)) := rfl
@[simp] theorem q_pd_sumL (xs : List PyData) : pd .sumL [.ls xs] = (seqsOf xs).bind fun l => if l.flatten.length ≤ sizeLine then some (.ls l.flatten) else none := rfl
@[simp] theorem q_pd_sumO (xs : List PyData) : pd .sum [.ls xs] = (intsOf xs).map fun bs => .d (.int bs.sum) := rfl
@[simp] theorem q_cmpI_i (p : Int → Int → Bool) (i j : Int) : cmpI p (.d (.int i)) (.d (.int j)) = some (.d (.bool (p i j))) := rfl
@[simp] theorem q_addF_i (i j : Int) : addF (.d (.int i)) (.d (.int j)) = some (.d (.int (i + j))) := rfl
@[simp] theorem q_addF_t (xs ys : List PyData) : addF (.d (.tuple xs)) (.d (.tuple ys)) = if xs.length + ys.length ≤ sizeLine then some (.d (.tuple (xs ++ ys))) else none := rfl
@[simp] theorem q_addF_s (x y : Str) : addF (.d (.str x)) (.d (.str y)) = if x.length + y.length ≤ sizeLine then some (.d (.str (x ++ y))) else none := rfl
@[simp] theorem q_addF_oo (xs ys : List PyData) : addF (.ls xs) (.ls ys) = if xs.length + ys.length ≤ sizeLine then some (.ls (xs ++ ys)) else none := rfl
@[simp] theorem q_addF_dd (xs ys : List PyData) : addF (.d (.list xs)) (.d (.list ys)) = if xs.length + ys.length ≤ sizeLine then some (.ls (xs ++ ys)) else none := rfl
@[simp] theorem q_addF_od (xs ys : List PyData) : addF (.ls xs) (.d (.list ys)) = if xs.length + ys.length ≤ sizeLine then some (.ls (xs ++ ys)) else none := rfl
@[simp] theorem q_addF_do (xs ys : List PyData) : addF (.d (.list xs)) (.ls ys) = if xs.length + ys.length ≤ sizeLine then some (.ls (xs ++ ys)) else none := rfl
@[simp] theorem q_mulF_i (i j : Int) : mulF (.d (.int i)) (.d (.int j)) = if CMul i j then some (.d (.int (i * j))) else none := rfl
@[simp] theorem q_mulF_t (xs : List PyData) (k : Int) : mulF (.d (.tuple xs)) (.d (.int k)) = if xs ≠ [] ∧ 2 ≤ k ∧ k ≤ 1000 ∧ xs.length ≤ 1000 then some (.d (.tuple (List.replicate k.toNat xs).flatten)) else none := rfl
@[simp] theorem q_lenF_t (xs : List PyData) : lenF (.d (.tuple xs)) = some (.d (.int xs.length)) := rfl
@[simp] theorem q_lenF_l (xs : List PyData) : lenF (.d (.list xs)) = some (.d (.int xs.length)) := rfl
@[simp] theorem q_lenF_o (xs : List PyData) : lenF (.ls xs) = some (.d (.int xs.length)) := rfl
@[simp] theorem q_lenF_s (x : Str) : lenF (.d (.str x)) = if x.length ≤ sizeLine then some (.d (.int x.length)) else none := rfl
@[simp] theorem q_ixF_t (xs : List PyData) (i : Int) : ixF (.d (.tuple xs)) (.d (.int i)) = (atI xs i).map .d := rfl
@[simp] theorem q_ixF_l (xs : List PyData) (i : Int) : ixF (.d (.list xs)) (.d (.int i)) = (atI xs i).map .d := rfl
@[simp] theorem q_ixF_o (xs : List PyData) (i : Int) : ixF (.ls xs) (.d (.int i)) = (atI xs i).map .d := rfl
@[simp] theorem q_ixF_s (x : Str) (i : Int) : ixF (.d (.str x)) (.d (.int i)) = if x.length ≤ sizeLine then (atI x.cps.toList i).map fun c => .d (.str ⟨#[c]⟩) else none := rfl
@[simp] theorem q_slF_t (xs : List PyData) (lo hi : Option Int) : slF (.d (.tuple xs)) lo hi = some (.d (.tuple (cutD xs lo hi))) := rfl
@[simp] theorem q_slF_l (xs : List PyData) (lo hi : Option Int) : slF (.d (.list xs)) lo hi = some (.ls (cutD xs lo hi)) := rfl
@[simp] theorem q_slF_o (xs : List PyData) (lo hi : Option Int) : slF (.ls xs) lo hi = some (.ls (cutD xs lo hi)) := rfl
@[simp] theorem q_ty_n : tyName .none = "NoneType" := rfl
@[simp] theorem q_ty_b (b : Bool) : tyName (.bool b) = "bool" := rfl
@[simp] theorem q_ty_i (b : Int) : tyName (.int b) = "int" := rfl
@[simp] theorem q_ty_s (b : Str) : tyName (.str b) = "str" := rfl
@[simp] theorem q_ty_l (b : List PyData) : tyName (.list b) = "list" := rfl
@[simp] theorem q_ty_t (b : List PyData) : tyName (.tuple b) = "tuple" := rfl
@[simp] theorem q_ty_d (b : List (PyData × PyData)) : tyName (.dict b) = "dict" := rfl
/-! ### calls -/
@[simp] theorem q_argS_lf (l : Fl) : argS (.lf l) ρ = some (.lf l, ρ) := rfl
@[simp] theorem q_argS_fn (l : String) : argS (.fn l) ρ = some (.fn l, ρ) := rfl
def argK (i : Nat) (ρ : Rho) : Option Sl → Option (Sl × Rho)
  | some (.lf (.ls xs)) => some (.lf (.ls xs), ρ.set i .lk)
  | some (.ob c fs) => some (.ob c fs, ρ.set i .lk)
  | _ => none
@[simp] theorem q_argK_l (i : Nat) (xs : List PyData) : argK i ρ (some (.lf (.ls xs))) = some (.lf (.ls xs), ρ.set i .lk) := rfl
@[simp] theorem q_argK_o (i : Nat) (c : String) (fs : List (String × Fl)) : argK i ρ (some (.ob c fs)) = some (.ob c fs, ρ.set i .lk) := rfl
@[simp] theorem q_argS_pl (i : Nat) : argS (.pl i) ρ = argK i ρ ρ[i]? := by unfold argK; rfl
@[simp] theorem q_argSs_nil : argSs [] ρ = some ([], ρ) := rfl
@[simp] theorem q_argSs_cons (t : Tok) (ts : List Tok) : argSs (t :: ts) ρ = (argS t ρ).bind fun p => (argSs ts p.2).map fun q => (p.1 :: q.1, q.2) := by
  rw [argSs]
  cases h : argS t ρ with
  | none => rfl
  | some p => cases h2 : argSs ts p.2 with
    | none => simp [h2]
    | some q => simp [h2]
@[simp] theorem q_pinOf_nil (k : Nat) : pinOf k [] = [] := rfl
@[simp] theorem q_pinOf_lf (k : Nat) (l : Fl) (ts : List Tok) : pinOf k (.lf l :: ts) = pinOf (k + 1) ts := rfl
@[simp] theorem q_pinOf_fn (k : Nat) (l : String) (ts : List Tok) : pinOf k (.fn l :: ts) = pinOf (k + 1) ts := rfl
@[simp] theorem q_pinOf_pl (k : Nat) (i : Nat) (ts : List Tok) : pinOf k (.pl i :: ts) = k :: pinOf (k + 1) ts := rfl
@[simp] theorem q_backS_nil (ss : List Sl) : backS [] ss ρ = some ρ := by unfold backS; rfl
@[simp] theorem q_backS_lf (l : Fl) (ts : List Tok) (s : Sl) (ss : List Sl) : backS (.lf l :: ts) (s :: ss) ρ = backS ts ss ρ := rfl
@[simp] theorem q_backS_fn (l : String) (ts : List Tok) (s : Sl) (ss : List Sl) : backS (.fn l :: ts) (s :: ss) ρ = backS ts ss ρ := rfl
@[simp] theorem q_backS_pl (i : Nat) (ts : List Tok) (l : Fl) (ss : List Sl) : backS (.pl i :: ts) (.lf l :: ss) ρ = backS ts ss (ρ.set i (.lf l)) := rfl
@[simp] theorem q_backS_ob (i : Nat) (ts : List Tok) (c : String) (fs : List (String × Fl)) (ss : List Sl) : backS (.pl i :: ts) (.ob c fs :: ss) ρ = backS ts ss (ρ.set i (.ob c fs)) := rfl
@[simp] theorem q_flT_rt (t : Tok) : flT (.rt t) = some t := rfl
@[simp] theorem q_flT_nx : flT .nx = some (.lf (.d .none)) := rfl
/-- a call's end -/
def endF (ts : List Tok) (ρ1 : Rho) : Out Flow → Out Tok
  | .ok fl ρc => match flT fl with
    | some t => match backS ts ρc ρ1 with
      | some ρ2 => .ok t ρ2
      | none => .no
    | none => .no
  | .ex e ρc => match backS ts ρc ρ1 with
    | some ρ2 => .ex e ρ2
    | none => .no
  | .no => .no
@[simp] theorem q_endF_rt (ts : List Tok) (t : Tok) (ρc : Rho) : endF ts ρ (.ok (.rt t) ρc) = match backS ts ρc ρ with
  | some ρ2 => .ok t ρ2
  | none => .no := rfl
@[simp] theorem q_endF_nx (ts : List Tok) (ρc : Rho) : endF ts ρ (.ok .nx ρc) = match backS ts ρc ρ with
  | some ρ2 => .ok (.lf (.d .none)) ρ2
  | none => .no := rfl
@[simp] theorem q_endF_ex (ts : List Tok) (e : Er) (ρc : Rho) : endF ts ρ (.ex e ρc) = match backS ts ρc ρ with
  | some ρ2 => .ex e ρ2
  | none => .no := rfl
@[simp] theorem q_endF_ite (ts : List Tok) (c : Prop) [Decidable c] (a b : Out Flow) : endF ts ρ (if c then a else b) = if c then endF ts ρ a else endF ts ρ b := by split <;> rfl
@[simp] theorem q_ofOpt_ite {α : Type} (c : Prop) [Decidable c] (a b : Option (α × Rho)) : ofOpt (if c then a else b) = if c then ofOpt a else ofOpt b := by split <;> rfl
def callA (run : List Nat → List Sx → Rho → Out Flow) (p l : Nat) (b : List Sx) (ts : List Tok) : Option (List Sl × Rho) → Out Tok
  | some (as, ρ1) => endF ts ρ1 (run (pinOf 0 ts) b (as ++ List.replicate (l - p) .no))
  | none => .no
@[simp] theorem q_callA_s (run : List Nat → List Sx → Rho → Out Flow) (p l : Nat) (b : List Sx) (ts : List Tok) (as : List Sl) : callA run p l b ts (some (as, ρ)) = endF ts ρ (run (pinOf 0 ts) b (as ++ List.replicate (l - p) .no)) := rfl
theorem callF_mk (run : List Nat → List Sx → Rho → Out Flow) (p l : Nat) (b : List Sx) (ts : List Tok) : callF run ⟨p, l, b⟩ ts ρ = if ts.length = p ∧ p ≤ l then callA run p l b ts (argSs ts ρ) else .no := by
  unfold callF callA endF
  split
  · cases argSs ts ρ with
    | none => rfl
    | some q => rfl
  · rfl
theorem callF_eq (run : List Nat → List Sx → Rho → Out Flow) (D : FDef) (ts : List Tok) (h : ts.length = D.ps ∧ D.ps ≤ D.nl) {as : List Sl} {ρ1 : Rho} (ha : argSs ts ρ = some (as, ρ1)) : callF run D ts ρ = endF ts ρ1 (run (pinOf 0 ts) D.body (as ++ List.replicate (D.nl - D.ps) .no)) := by
  unfold callF endF
  rw [if_pos h, ha] <;> rfl
end
end DL

set_option maxRecDepth 100000
set_option maxHeartbeats 4000000
/-! DLE2: loops, comprehensions, instances: equations and lemmas. -/
namespace DL
open PySem PySem.Spec L2
section
variable {P : Pg} {n : Nat} {ρ ρ' : Rho} {pin : List Nat}
/-! ### walks -/
def asgK (o : Option Rho) (k : Rho → Out Flow) : Out Flow := match o with
  | some ρ1 => k ρ1
  | none => .no
@[simp] theorem q_asgK_s (k : Rho → Out Flow) : asgK (some ρ) k = k ρ := rfl
def forK (k : Rho → Out Flow) : Out Flow → Out Flow
  | .ok .nx ρ2 => k ρ2
  | .ok .ct ρ2 => k ρ2
  | .ok .bk ρ2 => .ok .nx ρ2
  | .ok (.rt t) ρ2 => .ok (.rt t) ρ2
  | .ex e ρ2 => .ex e ρ2
  | .no => .no
@[simp] theorem q_forK_nx (k : Rho → Out Flow) : forK k (.ok .nx ρ) = k ρ := rfl
@[simp] theorem q_forK_ct (k : Rho → Out Flow) : forK k (.ok .ct ρ) = k ρ := rfl
@[simp] theorem q_forK_bk (k : Rho → Out Flow) : forK k (.ok .bk ρ) = .ok .nx ρ := rfl
@[simp] theorem q_forK_rt (k : Rho → Out Flow) (t : Tok) : forK k (.ok (.rt t) ρ) = .ok (.rt t) ρ := rfl
@[simp] theorem q_forK_ex (k : Rho → Out Flow) (e : Er) : forK k (.ex e ρ) = .ex e ρ := rfl
@[simp] theorem q_forK_ite (k : Rho → Out Flow) (c : Prop) [Decidable c] (a b : Out Flow) : forK k (if c then a else b) = if c then forK k a else forK k b := by split <;> rfl
@[simp] theorem q_forL_nil (asg : PyData → Rho → Option Rho) (body : Rho → Out Flow) : forL asg body [] ρ = .ok .nx ρ := rfl
@[simp] theorem q_forL_cons (asg : PyData → Rho → Option Rho) (body : Rho → Out Flow) (x : PyData) (xs : List PyData) : forL asg body (x :: xs) ρ = asgK (asg x ρ) fun ρ1 => forK (fun ρ2 => forL asg body xs ρ2) (body ρ1) := by
  rw [forL]
  unfold asgK forK
  cases asg x ρ with
  | none => rfl
  | some ρ1 => rfl
def forEnd (is : List Nat) (ρ1 : Rho) : Out Flow → Out Flow
  | .ok fl ρ2 => .ok fl (unlock is ρ1 ρ2)
  | .ex e ρ2 => .ex e (unlock is ρ1 ρ2)
  | .no => .no
@[simp] theorem q_forEnd_ok (is : List Nat) (ρ1 : Rho) (fl : Flow) : forEnd is ρ1 (.ok fl ρ) = .ok fl (unlock is ρ1 ρ) := rfl
@[simp] theorem q_forEnd_ex (is : List Nat) (ρ1 : Rho) (e : Er) : forEnd is ρ1 (.ex e ρ) = .ex e (unlock is ρ1 ρ) := rfl
def itK (k : List PyData → Out Flow) : Option (List PyData) → Out Flow
  | some xs => k xs
  | none => .no
@[simp] theorem q_itK_s (k : List PyData → Out Flow) (xs : List PyData) : itK k (some xs) = k xs := rfl
@[simp] theorem q_evS_for (t : Tg) (w : Nat) (es : List Ex) (b : List Sx) : evS P (n + 1) pin (.for_ t w es b) ρ = (evL (evE P n) es ρ).bind fun ts ρ1 => itK (fun xs => forEnd (lockOf ts) ρ1 (forL (asgD (lockOf ts ++ pin) t) (evB P n (lockOf ts ++ pin) b) xs (lock (lockOf ts) ρ1))) ((rds ρ1 ts).bind (itemsW w)) := by
  have e0 : evS P (n + 1) pin (.for_ t w es b) ρ = (evL (evE P n) es ρ).bind fun ts ρ1 => match (rds ρ1 ts).bind (itemsW w) with
      | none => .no
      | some xs => match forL (asgD (lockOf ts ++ pin) t) (evB P n (lockOf ts ++ pin) b) xs (lock (lockOf ts) ρ1) with
        | .ok fl ρ2 => .ok fl (unlock (lockOf ts) ρ1 ρ2)
        | .ex e ρ2 => .ex e (unlock (lockOf ts) ρ1 ρ2)
        | .no => .no := rfl
  rw [e0]
  congr 1
  funext ts ρ1
  cases (rds ρ1 ts).bind (itemsW w) with
  | none => rfl
  | some xs => rfl
@[simp] theorem q_lockOf_nil : lockOf [] = [] := rfl
@[simp] theorem q_lockOf_lf (l : Fl) (ts : List Tok) : lockOf (.lf l :: ts) = lockOf ts := rfl
@[simp] theorem q_lockOf_pl (i : Nat) (ts : List Tok) : lockOf (.pl i :: ts) = if i ∈ lockOf ts then lockOf ts else i :: lockOf ts := rfl
@[simp] theorem q_lockOf_pf (i : Nat) (f : String) (ts : List Tok) : lockOf (.pf i f :: ts) = if i ∈ lockOf ts then lockOf ts else i :: lockOf ts := rfl
@[simp] theorem q_lock_nil : lock [] ρ = ρ := rfl
@[simp] theorem q_lock_cons (i : Nat) (is : List Nat) : lock (i :: is) ρ = lock is (ρ.set i .lk) := rfl
@[simp] theorem q_unlock_nil (ρ0 : Rho) : unlock [] ρ0 ρ = ρ := rfl
@[simp] theorem q_unlock_cons (i : Nat) (is : List Nat) (ρ0 : Rho) : unlock (i :: is) ρ0 ρ = unlock is ρ0 (match ρ0[i]? with
  | some s => ρ.set i s
  | none => ρ) := rfl
@[simp] theorem q_items0 (l : Fl) : itemsW 0 [l] = seqW l := rfl
@[simp] theorem q_items2 (l : Fl) : itemsW 2 [l] = l.seq.map enumD := rfl
@[simp] theorem q_items1 (j : Int) : itemsW 1 [.d (.int j)] = if -(2 ^ 62) ≤ j ∧ j < 2 ^ 62 then some (rngD 0 j.toNat) else none := rfl
@[simp] theorem q_seqW_t (xs : List PyData) : seqW (.d (.tuple xs)) = some xs := rfl
@[simp] theorem q_seqW_l (xs : List PyData) : seqW (.d (.list xs)) = some xs := rfl
@[simp] theorem q_seqW_o (xs : List PyData) : seqW (.ls xs) = some xs := rfl
@[simp] theorem q_seqW_s (x : Str) : seqW (.d (.str x)) = some (signs x) := rfl
@[simp] theorem q_wipeR_nil : wipeR [] ρ = ρ := rfl
@[simp] theorem q_wipeR_cons (i : Nat) (is : List Nat) : wipeR (i :: is) ρ = (wipeR is ρ).set i .no := rfl
@[simp] theorem q_testsL_nil (ev : Ex → Rho → Out Bool) : testsL ev [] ρ = .ok true ρ := rfl
@[simp] theorem q_testsL_cons (ev : Ex → Rho → Out Bool) (e : Ex) (es : List Ex) : testsL ev (e :: es) ρ = (ev e ρ).bind fun b ρ1 => if b then testsL ev es ρ1 else .ok false ρ1 := rfl
/-! ### comprehensions that change nothing -/
theorem lcL_gen {asg : PyData → Rho → Option Rho} {test : Rho → Out Bool} {elt : Rho → Out Tok} {wipe : Rho → Rho} {ρ0 : Rho} {B : PyData → Rho} {p : PyData → Bool} {f : PyData → PyData} : ∀ (xs acc : List PyData) (ρ : Rho), wipe ρ = wipe ρ0 →
    (∀ x ∈ xs, asg x (wipe ρ0) = some (B x) ∧ test (B x) = .ok (p x) (B x) ∧ (p x = true → ∃ l, elt (B x) = .ok (.lf l) (B x) ∧ l.dat = f x) ∧ wipe (B x) = wipe ρ0) → acc.length + xs.length ≤ sizeLine →
    ∃ ρ', lcL asg test elt wipe xs acc ρ = .ok (acc ++ (xs.filter p).map f) ρ' ∧ wipe ρ' = wipe ρ0
  | [], acc, ρ, hw, _, _ => ⟨ρ, by simp [lcL], hw⟩
  | x :: xs, acc, ρ, hw, h, hl => by
    obtain ⟨h1, h2, h3, h4⟩ := h x (List.mem_cons_self ..)
    have hr : ∀ y ∈ xs, _ := fun y hy => h y (List.mem_cons_of_mem _ hy)
    rw [List.length_cons] at hl
    unfold lcL
    rw [hw, h1]
    simp only [h2]
    cases hp : p x with
    | false =>
      obtain ⟨ρ', e, w⟩ := lcL_gen xs acc (B x) h4 hr (by omega)
      refine ⟨ρ', ?_, w⟩
      simp only [List.filter_cons, hp]
      exact e
    | true =>
      obtain ⟨l, e1, e2⟩ := h3 hp
      obtain ⟨ρ', e, w⟩ := lcL_gen xs (acc ++ [f x]) (B x) h4 hr (by rw [List.length_append, List.length_singleton]; omega)
      refine ⟨ρ', ?_, w⟩
      have hlt : acc.length < sizeLine := by omega
      simp only [e1, q_toD_lf, hlt, if_true, e2]
      rw [e]
      simp [List.filter_cons, hp]
theorem lc_gen {own : List Nat} {T : Tg} {w : Nat} {es ifs : List Ex} {e : Ex} {ts : List Tok} {xs : List PyData} (B : PyData → Rho) (p : PyData → Bool) (f : PyData → PyData) (hes : evL (evE P n) es ρ = .ok ts ρ) (hit : (rds ρ ts).bind (itemsW w) = some xs) (hown : ownOk own (lock (lockOf ts) ρ) = true)
    (hb : ∀ x ∈ xs, asgD (compl own ρ.length) T x (wipeR own (lock (lockOf ts) ρ)) = some (B x) ∧ testsL (evT P n) ifs (B x) = .ok (p x) (B x) ∧ (p x = true → ∃ l, evE P n e (B x) = .ok (.lf l) (B x) ∧ l.dat = f x) ∧ wipeR own (B x) = wipeR own (lock (lockOf ts) ρ)) (hlen : xs.length ≤ sizeLine)
    (hw : wipeR own (wipeR own (lock (lockOf ts) ρ)) = wipeR own (lock (lockOf ts) ρ)) (hend : unlock (lockOf ts) ρ (unlock own (lock (lockOf ts) ρ) (wipeR own (lock (lockOf ts) ρ))) = ρ) :
    evE P (n + 1) (.lc own T w es ifs e) ρ = .ok (.lf (.ls ((xs.filter p).map f))) ρ := by
  have key := lcL_gen (asg := asgD (compl own ρ.length) T) (test := testsL (evT P n) ifs) (elt := evE P n e) (wipe := wipeR own) (ρ0 := wipeR own (lock (lockOf ts) ρ)) (B := B) (p := p) (f := f) xs [] (wipeR own (lock (lockOf ts) ρ)) rfl (fun x hx => by
    obtain ⟨h1, h2, h3, h4⟩ := hb x hx
    exact ⟨by rw [hw]; exact h1, h2, h3, by rw [hw]; exact h4⟩) (by simpa using hlen)
  obtain ⟨ρ', k1, k2⟩ := key
  have e0 : evE P (n + 1) (.lc own T w es ifs e) ρ = (evL (evE P n) es ρ).bind fun ts ρ1 => match (rds ρ1 ts).bind (itemsW w) with
      | none => .no
      | some xs => if ownOk own (lock (lockOf ts) ρ1) then
          match lcL (asgD (compl own ρ1.length) T) (testsL (evT P n) ifs) (evE P n e) (wipeR own) xs [] (wipeR own (lock (lockOf ts) ρ1)) with
          | .ok ys ρ2 => .ok (.lf (.ls ys)) (unlock (lockOf ts) ρ1 (restR own (lock (lockOf ts) ρ1) ρ2))
          | _ => .no
        else .no := rfl
  rw [e0, hes]
  simp only [Out.bind_ok, hit, hown, if_true, k1, List.nil_append]
  unfold restR
  rw [k2, hw, hend]
/-- one name, over shared data -/
theorem lc_one {i w : Nat} {es ifs : List Ex} {e : Ex} {ts : List Tok} {xs : List PyData} (p : PyData → Bool) (f : PyData → PyData) (hes : evL (evE P n) es ρ = .ok ts ρ) (hit : (rds ρ ts).bind (itemsW w) = some xs) (hl : lockOf ts = []) (hi : ρ[i]? = some .no)
    (hb : ∀ x ∈ xs, testsL (evT P n) ifs (ρ.set i (.lf (.d x))) = .ok (p x) (ρ.set i (.lf (.d x))) ∧ (p x = true → ∃ l, evE P n e (ρ.set i (.lf (.d x))) = .ok (.lf l) (ρ.set i (.lf (.d x))) ∧ l.dat = f x)) (hlen : xs.length ≤ sizeLine) :
    evE P (n + 1) (.lc [i] (.nm i) w es ifs e) ρ = .ok (.lf (.ls ((xs.filter p).map f))) ρ := by
  have hlt := (List.getElem?_eq_some_iff.mp hi).1
  have hset : ρ.set i .no = ρ := set_same hi
  refine lc_gen (fun x => ρ.set i (.lf (.d x))) p f hes hit ?_ (fun x hx => ?_) hlen ?_ ?_
  · rw [hl]; simp [ownOk, hi]
  · obtain ⟨h1, h2⟩ := hb x hx
    refine ⟨?_, h1, h2, ?_⟩
    · rw [hl]
      simp [compl, hset, hi]
    · rw [hl]
      simp [List.set_set]
  · rw [hl]; simp [List.set_set]
  · rw [hl]; simp [hi, hset]
end
end DL

set_option maxRecDepth 100000
set_option maxHeartbeats 4000000
/-! DLE3: equality, membership, chains, more of the equations. -/
namespace DL
open PySem PySem.Spec L2
section
variable {P : Pg} {n : Nat} {ρ ρ' : Rho} {pin : List Nat}
@[simp] theorem q_eqF_e (a b : Fl) : eqF a b = if SeqAt.shaped a.dat = true ∧ SeqAt.shaped b.dat = true then some (PyData.eqv a.dat b.dat) else none := rfl
@[simp] theorem q_inF_t (a : Fl) (ds : List PyData) : inF a (.d (.tuple ds)) = if SeqAt.shaped a.dat = true ∧ SeqAt.shaped (.tuple ds) = true then some (ds.any fun z => PyData.eqv z a.dat) else none := by
  cases a with
  | d x => cases x <;> rfl
  | ls _ => rfl
@[simp] theorem q_inF_l (a : Fl) (ds : List PyData) : inF a (.d (.list ds)) = if SeqAt.shaped a.dat = true ∧ SeqAt.shaped (.list ds) = true then some (ds.any fun z => PyData.eqv z a.dat) else none := by
  cases a with
  | d x => cases x <;> rfl
  | ls _ => rfl
@[simp] theorem q_inF_o (a : Fl) (ds : List PyData) : inF a (.ls ds) = if SeqAt.shaped a.dat = true ∧ SeqAt.shaped (.list ds) = true then some (ds.any fun z => PyData.eqv z a.dat) else none := by
  cases a with
  | d x => cases x <;> rfl
  | ls _ => rfl
/-- a text within a text -/
def inS (big x : Str) : Bool := !(Builtin.Str.occurrences big x 0 big.length 1).isEmpty
@[simp] theorem q_inF_s (x y : Str) : inF (.d (.str x)) (.d (.str y)) = some (inS y x) := rfl
@[simp] theorem q_shaped_none : SeqAt.shaped .none = true := by decide
@[simp] theorem q_shaped_bool (b : Bool) : SeqAt.shaped (.bool b) = true := by simp [SeqAt.shaped, PyData.canLay0, PyData.depth]
@[simp] theorem q_shaped_int (b : Int) : SeqAt.shaped (.int b) = true := by simp [SeqAt.shaped, PyData.canLay0, PyData.depth]
@[simp] theorem q_shaped_str (b : Str) : SeqAt.shaped (.str b) = PyData.strOk b := by simp [SeqAt.shaped, PyData.canLay0, PyData.depth]
/-- data of a depth -/
structure Lay (k : Nat) (d : PyData) : Prop where
  c : d.canLay0 = true
  d : d.depth ≤ k
structure Lays (k : Nat) (ds : List PyData) : Prop where
  c : ∀ d ∈ ds, Lay k d
theorem Lay.mono {k m : Nat} {d : PyData} (h : Lay k d) (hk : k ≤ m) : Lay m d := ⟨h.c, Nat.le_trans h.d hk⟩
theorem canAll {ds : List PyData} : PyData.canLayAll0 ds = true ↔ ∀ d ∈ ds, d.canLay0 = true := by
  induction ds with
  | nil => simp [PyData.canLayAll0]
  | cons d ds ih => simp [PyData.canLayAll0, ih]
theorem depAll {ds : List PyData} {k : Nat} : PyData.depthAll ds ≤ k ↔ ∀ d ∈ ds, d.depth ≤ k := by
  induction ds with
  | nil => simp [PyData.depthAll]
  | cons d ds ih => simp [PyData.depthAll, ih, Nat.max_le]
theorem Lay.tup {k : Nat} {ds : List PyData} (h : ∀ d ∈ ds, Lay k d) : Lay (k + 1) (.tuple ds) := ⟨by rw [PyData.canLay0]; exact canAll.mpr fun d hd => (h d hd).c, by rw [PyData.depth]; exact Nat.succ_le_succ (depAll.mpr fun d hd => (h d hd).d)⟩
theorem Lay.lst {k : Nat} {ds : List PyData} (h : ∀ d ∈ ds, Lay k d) : Lay (k + 1) (.list ds) := ⟨by rw [PyData.canLay0]; exact canAll.mpr fun d hd => (h d hd).c, by rw [PyData.depth]; exact Nat.succ_le_succ (depAll.mpr fun d hd => (h d hd).d)⟩
theorem Lay.int (i : Int) {k : Nat} : Lay k (.int i) := ⟨by simp [PyData.canLay0], by simp [PyData.depth]⟩
theorem Lay.bool (i : Bool) {k : Nat} : Lay k (.bool i) := ⟨by simp [PyData.canLay0], by simp [PyData.depth]⟩
theorem Lay.none {k : Nat} : Lay k .none := ⟨by simp [PyData.canLay0], by simp [PyData.depth]⟩
theorem Lay.str {i : Str} {k : Nat} (h : PyData.strOk i = true) : Lay k (.str i) := ⟨by simp [PyData.canLay0, h], by simp [PyData.depth]⟩
theorem Lay.sh {k : Nat} {d : PyData} (h : Lay k d) (hk : k ≤ 64) : SeqAt.shaped d = true := by
  unfold SeqAt.shaped
  rw [h.c]
  simp [Nat.le_trans h.d hk]
theorem Lay.untup {k : Nat} {ds : List PyData} (h : Lay k (.tuple ds)) : ∀ d ∈ ds, Lay k d := fun d hd => by
  have c := h.c
  have e := h.d
  rw [PyData.canLay0] at c
  rw [PyData.depth] at e
  exact ⟨canAll.mp c d hd, Nat.le_trans (depAll.mp (Nat.le_refl _) d hd) (by omega)⟩
theorem Lay.untup1 {k : Nat} {ds : List PyData} (h : Lay (k + 1) (.tuple ds)) : ∀ d ∈ ds, Lay k d := fun d hd => by
  have c := h.c
  have e := h.d
  rw [PyData.canLay0] at c
  rw [PyData.depth] at e
  exact ⟨canAll.mp c d hd, Nat.le_trans (depAll.mp (Nat.le_refl _) d hd) (by omega)⟩
theorem Lay.unlst1 {k : Nat} {ds : List PyData} (h : Lay (k + 1) (.list ds)) : ∀ d ∈ ds, Lay k d := fun d hd => by
  have c := h.c
  have e := h.d
  rw [PyData.canLay0] at c
  rw [PyData.depth] at e
  exact ⟨canAll.mp c d hd, Nat.le_trans (depAll.mp (Nat.le_refl _) d hd) (by omega)⟩
theorem Lay.unlst {k : Nat} {ds : List PyData} (h : Lay k (.list ds)) : ∀ d ∈ ds, Lay k d := fun d hd => by
  have c := h.c
  have e := h.d
  rw [PyData.canLay0] at c
  rw [PyData.depth] at e
  exact ⟨canAll.mp c d hd, Nat.le_trans (depAll.mp (Nat.le_refl _) d hd) (by omega)⟩
theorem Lay.refl {k : Nat} {d : PyData} (h : Lay k d) : PyData.eqv d d = true := SeqAt.eqv_refl d h.c
/-- a < b < c -/
def chnK (P : Pg) (n : Nat) (q : Pr) (tb : Tok) (c : Ex) (ρ : Rho) : Option Fl → Out Tok
  | some (.d (.bool true)) => if isPf tb && !(noCall c) then .no else (evE P n c ρ).bind fun tc ρ4 => match (rds ρ4 [tb, tc]).bind (pd q) with
    | some l => .ok (.lf l) ρ4
    | none => .no
  | some (.d (.bool false)) => .ok (.lf (.d (.bool false))) ρ
  | _ => .no
@[simp] theorem q_chnK_s (q : Pr) (tb : Tok) (c : Ex) (b : Bool) : chnK P n q tb c ρ (some (.d (.bool b))) = if b = true then (if isPf tb && !(noCall c) then .no else (evE P n c ρ).bind fun tc ρ4 => ofOpt (((rds ρ4 [tb, tc]).bind (pd q)).map fun l => (.lf l, ρ4))) else .ok (.lf (.d (.bool false))) ρ := by
  cases b with
  | false => rfl
  | true =>
    simp only [chnK, if_true]
    congr 1
    congr 1
    funext tc ρ4
    cases (rds ρ4 [tb, tc]).bind (pd q) <;> rfl
theorem evE_chn0 (p q : Pr) (a b c : Ex) : evE P (n + 1) (.chn p q a b c) ρ = (evL (evE P n) [a, b] ρ).bind fun ts ρ2 => match ts with
      | [ta, tb] => chnK P n q tb c ρ2 ((rds ρ2 [ta, tb]).bind (pd p))
      | _ => .no := by
  have e0 : evE P (n + 1) (.chn p q a b c) ρ = (evL (evE P n) [a, b] ρ).bind fun ts ρ2 => match ts with
      | [ta, tb] => match (rds ρ2 [ta, tb]).bind (pd p) with
        | some (.d (.bool true)) => if isPf tb && !(noCall c) then .no else (evE P n c ρ2).bind fun tc ρ4 => match (rds ρ4 [tb, tc]).bind (pd q) with
          | some l => .ok (.lf l) ρ4
          | none => .no
        | some (.d (.bool false)) => .ok (.lf (.d (.bool false))) ρ2
        | _ => .no
      | _ => .no := rfl
  rw [e0]
  rfl
@[simp] theorem q_evE_chn (p q : Pr) (a b c : Ex) : evE P (n + 1) (.chn p q a b c) ρ = (evE P n a ρ).bind fun ta ρ1 => if isPf ta && !(noCalls [b]) then .no else (evE P n b ρ1).bind fun tb ρ2 => if isPf tb && !(noCalls []) then .no else chnK P n q tb c ρ2 ((rds ρ2 [ta, tb]).bind (pd p)) := by
  rw [evE_chn0, q_evL_cons]
  cases evE P n a ρ with
  | no => rfl
  | ex e ρ1 => rfl
  | ok ta ρ1 =>
    simp only [Out.bind_ok]
    by_cases h : (isPf ta && !(noCalls [b])) = true
    · rw [if_pos h, if_pos h]; rfl
    · rw [if_neg h, if_neg h, q_evL_cons]
      cases evE P n b ρ1 with
      | no => rfl
      | ex e ρ2 => rfl
      | ok tb ρ2 =>
        simp only [Out.bind_ok]
        by_cases h2 : (isPf tb && !(noCalls [])) = true
        · rw [if_pos h2, if_pos h2]; rfl
        · rw [if_neg h2, if_neg h2]; rfl
/-! ### instances -/
def fldK (i : Nat) (f : String) (ρ : Rho) : Option Sl → Out Tok
  | some (.ob _ fs) => match lookF fs f with
    | some (.d x) => .ok (.lf (.d x)) ρ
    | some (.ls _) => .ok (.pf i f) ρ
    | none => .no
  | some (.er _ fs) => match fs.lookup f with
    | some x => .ok (.lf (.d x)) ρ
    | none => .no
  | _ => .no
@[simp] theorem q_evE_fld (i : Nat) (f : String) : evE P (n + 1) (.fld i f) ρ = fldK i f ρ ρ[i]? := by unfold fldK; rfl
def lfK (i : Nat) (f : String) (ρ : Rho) : Option Fl → Out Tok
  | some (.d x) => .ok (.lf (.d x)) ρ
  | some (.ls _) => .ok (.pf i f) ρ
  | none => .no
@[simp] theorem q_lfK_d (i : Nat) (f : String) (x : PyData) : lfK i f ρ (some (.d x)) = .ok (.lf (.d x)) ρ := rfl
@[simp] theorem q_lfK_l (i : Nat) (f : String) (x : List PyData) : lfK i f ρ (some (.ls x)) = .ok (.pf i f) ρ := rfl
@[simp] theorem q_fldK_o (i : Nat) (f : String) (c : String) (fs : List (String × Fl)) : fldK i f ρ (some (.ob c fs)) = lfK i f ρ (lookF fs f) := rfl
def rdP (f : String) : Option Sl → Option Fl
  | some (.ob _ fs) => lookF fs f
  | _ => none
@[simp] theorem q_rdP_o (f c : String) (fs : List (String × Fl)) : rdP f (some (.ob c fs)) = lookF fs f := rfl
@[simp] theorem q_rd_pf (i : Nat) (f : String) : rd ρ (.pf i f) = rdP f ρ[i]? := by unfold rdP; rfl
def putF (i : Nat) (f : String) (l : Fl) (ρ : Rho) : Option Sl → Option Rho
  | some (.ob c fs) => match lookF fs f with
    | some (.ls _) => some (ρ.set i (.ob c (putS f l fs)))
    | _ => none
  | _ => none
@[simp] theorem q_putF_o (i : Nat) (f : String) (l : Fl) (c : String) (fs : List (String × Fl)) : putF i f l ρ (some (.ob c fs)) = match lookF fs f with
    | some (.ls _) => some (ρ.set i (.ob c (putS f l fs)))
    | _ => none := rfl
@[simp] theorem q_putP_pf (i : Nat) (f : String) (l : Fl) : putP ρ l (.pf i f) = putF i f l ρ ρ[i]? := by unfold putF; rfl
def toDf (i : Nat) (f : String) (ρ : Rho) : Option Sl → Option (PyData × Rho)
  | some (.ob c fs) => match lookF fs f with
    | some (.d x) => some (x, ρ)
    | some (.ls xs) => some (.list xs, ρ.set i (.ob c (putS f (.d (.list xs)) fs)))
    | none => none
  | _ => none
@[simp] theorem q_toD_pf (i : Nat) (f : String) : toD (.pf i f) ρ = toDf i f ρ ρ[i]? := by unfold toDf; rfl
@[simp] theorem q_lookF_e (f : String) : lookF [] f = none := rfl
@[simp] theorem q_lookF_c (f g : String) (l : Fl) (fs : List (String × Fl)) : lookF ((g, l) :: fs) f = if f = g then some l else lookF fs f := by
  unfold lookF
  rw [List.lookup_cons]
  by_cases h : f = g
  · subst h; simp
  · have : (f == g) = false := by simpa using h
    rw [this, if_neg h]
@[simp] theorem q_putS_e (f : String) (l : Fl) : putS f l [] = [(f, l)] := rfl
@[simp] theorem q_putS_c (f g : String) (l m : Fl) (fs : List (String × Fl)) : putS f l ((g, m) :: fs) = if g = f then (g, l) :: fs else (g, m) :: putS f l fs := rfl
def obK (k : String → List (String × Fl) → Out Tok) : Option Sl → Out Tok
  | some (.ob c fs) => k c fs
  | _ => .no
@[simp] theorem q_obK_s (k : String → List (String × Fl) → Out Tok) (c : String) (fs : List (String × Fl)) : obK k (some (.ob c fs)) = k c fs := rfl
@[simp] theorem q_evE_om (m : String) (i : Nat) (es : List Ex) : evE P (n + 1) (.om m i es) ρ = obK (fun c fs => if (lookF fs m).isSome then .no else callK (fun D => (evL (evE P n) es ρ).bind fun ts ρ1 => callF (evB P n) D (.pl i :: ts) ρ1) (P.fn (c ++ "." ++ m))) ρ[i]? := by
  have e0 : evE P (n + 1) (.om m i es) ρ = match ρ[i]? with
      | some (.ob c fs) => if (lookF fs m).isSome then .no else match P.fn (c ++ "." ++ m) with
        | some D => (evL (evE P n) es ρ).bind fun ts ρ1 => callF (evB P n) D (.pl i :: ts) ρ1
        | none => .no
      | _ => .no := rfl
  rw [e0]
  rfl
def setK (i : Nat) (f : String) (l : Fl) (ρ : Rho) : Option Sl → Out Flow
  | some (.ob c fs) => if fs.length < 1000 then .ok .nx (ρ.set i (.ob c (putS f l fs))) else .no
  | _ => .no
@[simp] theorem q_setK_o (i : Nat) (f : String) (l : Fl) (c : String) (fs : List (String × Fl)) : setK i f l ρ (some (.ob c fs)) = if fs.length < 1000 then .ok .nx (ρ.set i (.ob c (putS f l fs))) else .no := rfl
/-- self.f = an operation's or a constant's leaf -/
theorem evS_setfld_lf (i : Nat) (f : String) (e : Ex) {l : Fl} {ρ1 : Rho} {c : String} {fs : List (String × Fl)} (h : evE P n e ρ = .ok (.lf l) ρ1) (h2 : ρ1[i]? = some (.ob c fs)) (h3 : fs.length < 1000) : evS P (n + 1) pin (.setfld i f e) ρ = .ok .nx (ρ1.set i (.ob c (putS f l fs))) := by
  have e0 : evS P (n + 1) pin (.setfld i f e) ρ = (evE P n e ρ).bind fun t ρ1 => match ρ1[i]? with
      | some (.ob c _) => match (match t with | .lf l => some (l, ρ1) | t => (toD t ρ1).map fun (x, ρ2) => (.d x, ρ2)) with
        | some (l, ρ2) => match ρ2[i]? with
          | some (.ob c fs) => if fs.length < 1000 then .ok .nx (ρ2.set i (.ob c (putS f l fs))) else .no
          | _ => .no
        | none => .no
      | _ => .no := rfl
  rw [e0, h]
  simp only [Out.bind_ok, h2, h3, if_true]

/-- [e for i in ..], the items told by ys -/
theorem lc_map {α : Type} {i w : Nat} {es : List Ex} {e : Ex} {ts : List Tok} {ys : List α} (g f : α → PyData) (hes : evL (evE P n) es ρ = .ok ts ρ) (hit : (rds ρ ts).bind (itemsW w) = some (ys.map g)) (hl : lockOf ts = []) (hi : ρ[i]? = some .no)
    (hb : ∀ y ∈ ys, ∃ l, evE P n e (ρ.set i (.lf (.d (g y)))) = .ok (.lf l) (ρ.set i (.lf (.d (g y)))) ∧ l.dat = f y) (hlen : ys.length ≤ sizeLine) :
    evE P (n + 1) (.lc [i] (.nm i) w es [] e) ρ = .ok (.lf (.ls (ys.map f))) ρ := by
  have hlt := (List.getElem?_eq_some_iff.mp hi).1
  have hset : ρ.set i .no = ρ := set_same hi
  have key : ∀ (ys : List α) (acc : List PyData) (ρ1 : Rho), ρ1.set i .no = ρ → (∀ y ∈ ys, ∃ l, evE P n e (ρ.set i (.lf (.d (g y)))) = .ok (.lf l) (ρ.set i (.lf (.d (g y)))) ∧ l.dat = f y) → acc.length + ys.length ≤ sizeLine →
      ∃ ρ2, lcL (asgD (compl [i] ρ.length) (.nm i)) (testsL (evT P n) []) (evE P n e) (wipeR [i]) (ys.map g) acc ρ1 = .ok (acc ++ ys.map f) ρ2 ∧ ρ2.set i .no = ρ := by
    intro ys
    induction ys with
    | nil => intro acc ρ1 h1 _ _; exact ⟨ρ1, by simp [lcL], h1⟩
    | cons y ys ih =>
      intro acc ρ1 h1 hb hl
      rw [List.length_cons] at hl
      obtain ⟨l, e1, e2⟩ := hb y (List.mem_cons_self ..)
      obtain ⟨ρ2, k1, k2⟩ := ih (acc ++ [f y]) (ρ.set i (.lf (.d (g y)))) (by rw [List.set_set]; exact hset) (fun z hz => hb z (List.mem_cons_of_mem _ hz)) (by rw [List.length_append, List.length_singleton]; omega)
      refine ⟨ρ2, ?_, k2⟩
      rw [List.map_cons]
      unfold lcL
      have hw : wipeR [i] ρ1 = ρ := h1
      have ha : asgD (compl [i] ρ.length) (.nm i) (g y) ρ = some (ρ.set i (.lf (.d (g y)))) := by simp [compl, hi]
      have hlt2 : acc.length < sizeLine := by omega
      rw [hw, ha]
      simp only [q_testsL_nil, e1, q_toD_lf, hlt2, if_true, e2]
      rw [k1]
      simp
  obtain ⟨ρ2, k1, k2⟩ := key ys [] ρ hset hb (by simpa using hlen)
  have e0 : evE P (n + 1) (.lc [i] (.nm i) w es [] e) ρ = (evL (evE P n) es ρ).bind fun ts ρ1 => match (rds ρ1 ts).bind (itemsW w) with
      | none => .no
      | some xs => if ownOk [i] (lock (lockOf ts) ρ1) then
          match lcL (asgD (compl [i] ρ1.length) (.nm i)) (testsL (evT P n) []) (evE P n e) (wipeR [i]) xs [] (wipeR [i] (lock (lockOf ts) ρ1)) with
          | .ok ys ρ2 => .ok (.lf (.ls ys)) (unlock (lockOf ts) ρ1 (restR [i] (lock (lockOf ts) ρ1) ρ2))
          | _ => .no
        else .no := rfl
  have ho : ownOk [i] ρ = true := by simp [ownOk, hi]
  have hw : wipeR [i] ρ = ρ := hset
  rw [e0, hes]
  simp only [Out.bind_ok, hit, hl, q_lock_nil, ho, if_true, hw, k1, List.nil_append, q_unlock_nil]
  unfold restR
  have hw2 : wipeR [i] ρ2 = ρ := k2
  rw [hw2]
  simp [hi, hset]
/-- [x for x in .. if c] -/
theorem lc_flt {α : Type} {i w : Nat} {es : List Ex} {c : Ex} {ts : List Tok} {ys : List α} (g : α → PyData) (p : α → Bool) (hes : evL (evE P (n + 1)) es ρ = .ok ts ρ) (hit : (rds ρ ts).bind (itemsW w) = some (ys.map g)) (hl : lockOf ts = []) (hi : ρ[i]? = some .no)
    (hb : ∀ y ∈ ys, evT P (n + 1) c (ρ.set i (.lf (.d (g y)))) = .ok (p y) (ρ.set i (.lf (.d (g y))))) (hlen : ys.length ≤ sizeLine) :
    evE P (n + 2) (.lc [i] (.nm i) w es [c] (.v i)) ρ = .ok (.lf (.ls ((ys.filter p).map g))) ρ := by
  have hlt := (List.getElem?_eq_some_iff.mp hi).1
  have hset : ρ.set i .no = ρ := set_same hi
  have key : ∀ (ys : List α) (acc : List PyData) (ρ1 : Rho), ρ1.set i .no = ρ → (∀ y ∈ ys, evT P (n + 1) c (ρ.set i (.lf (.d (g y)))) = .ok (p y) (ρ.set i (.lf (.d (g y))))) → acc.length + ys.length ≤ sizeLine →
      ∃ ρ2, lcL (asgD (compl [i] ρ.length) (.nm i)) (testsL (evT P (n + 1)) [c]) (evE P (n + 1) (.v i)) (wipeR [i]) (ys.map g) acc ρ1 = .ok (acc ++ (ys.filter p).map g) ρ2 ∧ ρ2.set i .no = ρ := by
    intro ys
    induction ys with
    | nil => intro acc ρ1 h1 _ _; exact ⟨ρ1, by simp [lcL], h1⟩
    | cons y ys ih =>
      intro acc ρ1 h1 hb hl
      rw [List.length_cons] at hl
      have e1 := hb y (List.mem_cons_self ..)
      rw [List.map_cons]
      unfold lcL
      have hw : wipeR [i] ρ1 = ρ := h1
      have ha : asgD (compl [i] ρ.length) (.nm i) (g y) ρ = some (ρ.set i (.lf (.d (g y)))) := by simp [compl, hi]
      have hlt2 : acc.length < sizeLine := by omega
      have ev : evE P (n + 1) (.v i) (ρ.set i (.lf (.d (g y)))) = .ok (.lf (.d (g y))) (ρ.set i (.lf (.d (g y)))) := by simp [hlt]
      rw [hw, ha]
      simp only [q_testsL_cons, q_testsL_nil, e1, Out.bind_ok]
      cases hp : p y with
      | false =>
        obtain ⟨ρ2, k1, k2⟩ := ih acc (ρ.set i (.lf (.d (g y)))) (by rw [List.set_set]; exact hset) (fun z hz => hb z (List.mem_cons_of_mem _ hz)) (by omega)
        refine ⟨ρ2, ?_, k2⟩
        simp only [Bool.false_eq_true, if_false]
        rw [List.filter_cons_of_neg (by simp [hp])]
        exact k1
      | true =>
        obtain ⟨ρ2, k1, k2⟩ := ih (acc ++ [g y]) (ρ.set i (.lf (.d (g y)))) (by rw [List.set_set]; exact hset) (fun z hz => hb z (List.mem_cons_of_mem _ hz)) (by rw [List.length_append, List.length_singleton]; omega)
        refine ⟨ρ2, ?_, k2⟩
        simp only [if_true, ev, q_toD_lf, q_dat_d, hlt2]
        rw [List.filter_cons_of_pos (by simp [hp]), List.map_cons]
        rw [List.append_assoc] at k1
        exact k1
  obtain ⟨ρ2, k1, k2⟩ := key ys [] ρ hset hb (by simpa using hlen)
  have e0 : evE P (n + 2) (.lc [i] (.nm i) w es [c] (.v i)) ρ = (evL (evE P (n + 1)) es ρ).bind fun ts ρ1 => match (rds ρ1 ts).bind (itemsW w) with
      | none => .no
      | some xs => if ownOk [i] (lock (lockOf ts) ρ1) then
          match lcL (asgD (compl [i] ρ1.length) (.nm i)) (testsL (evT P (n + 1)) [c]) (evE P (n + 1) (.v i)) (wipeR [i]) xs [] (wipeR [i] (lock (lockOf ts) ρ1)) with
          | .ok ys ρ2 => .ok (.lf (.ls ys)) (unlock (lockOf ts) ρ1 (restR [i] (lock (lockOf ts) ρ1) ρ2))
          | _ => .no
        else .no := rfl
  have ho : ownOk [i] ρ = true := by simp [ownOk, hi]
  have hw : wipeR [i] ρ = ρ := hset
  rw [e0, hes]
  simp only [Out.bind_ok, hit, hl, q_lock_nil, ho, if_true, hw, k1, List.nil_append, q_unlock_nil]
  unfold restR
  have hw2 : wipeR [i] ρ2 = ρ := k2
  rw [hw2]
  simp [hi, hset]

theorem atI_nat {α : Type} (xs : List α) (k : Nat) : L2.atI xs (k : Int) = xs[k]? := by
  unfold L2.atI L2.ixN
  by_cases h : (k : Int) < xs.length
  · simp only [Int.natCast_nonneg, if_true, h]
    simp
  · rw [if_pos (Int.natCast_nonneg k), if_neg h]
    rw [List.getElem?_eq_none (by omega)]
    rfl
@[simp] theorem q_atI0 (x : PyData) (xs : List PyData) : L2.atI (x :: xs) 0 = some x := (atI_nat (x :: xs) 0).trans rfl
@[simp] theorem q_atI0n (x : Nat) (xs : List Nat) : L2.atI (x :: xs) 0 = some x := (atI_nat (x :: xs) 0).trans rfl
@[simp] theorem q_atI1 (x y : PyData) (xs : List PyData) : L2.atI (x :: y :: xs) 1 = some y := (atI_nat (x :: y :: xs) 1).trans rfl
@[simp] theorem q_atI2 (x y z : PyData) (xs : List PyData) : L2.atI (x :: y :: z :: xs) 2 = some z := (atI_nat (x :: y :: z :: xs) 2).trans rfl
@[simp] theorem q_atI3 (x y z u : PyData) (xs : List PyData) : L2.atI (x :: y :: z :: u :: xs) 3 = some u := (atI_nat (x :: y :: z :: u :: xs) 3).trans rfl
@[simp] theorem q_atIm1 (xs : List PyData) : L2.atI xs (-1) = xs.getLast? := by
  unfold L2.atI L2.ixN
  rw [if_neg (by decide)]
  cases xs with
  | nil => rfl
  | cons x xs =>
    rw [if_pos (by simp; omega)]
    simp only [Option.bind_some, List.length_cons]
    rw [List.getLast?_eq_getElem?]
    congr 1
    simp
    omega
theorem cutD_from (xs : List PyData) (k : Nat) : cutD xs (some (k : Int)) none = xs.drop k := by
  unfold cutD
  rw [HT.sIx_nat, HT.sIx_none]
  by_cases h : k ≤ xs.length
  · rw [Nat.min_eq_left h, List.take_of_length_le (by simp)]
  · rw [Nat.min_eq_right (by omega), List.drop_eq_nil_of_le (Nat.le_refl _), List.drop_eq_nil_of_le (by omega)]
    simp
theorem cutD_to (xs : List PyData) (k : Nat) : cutD xs none (some (k : Int)) = xs.take k := by
  unfold cutD
  rw [HT.sIx_nat, HT.sIx_none]
  simp only [List.drop_zero, Nat.sub_zero]
  by_cases h : k ≤ xs.length
  · rw [Nat.min_eq_left h]
  · rw [Nat.min_eq_right (by omega), List.take_of_length_le (Nat.le_refl _), List.take_of_length_le (by omega)]
@[simp] theorem q_cut1 (xs : List PyData) : cutD xs (some 1) none = xs.drop 1 := cutD_from xs 1
@[simp] theorem q_cutm1 (xs : List PyData) : cutD xs none (some (-1)) = xs.dropLast := by
  unfold cutD
  have e1 : HT.sIx xs.length 0 none = 0 := rfl
  have e2 : HT.sIx xs.length xs.length (some (-1)) = xs.length - 1 := by
    show (if (-1 : Int) < 0 then ((-1 : Int) + (xs.length : Int)).toNat else min (-1 : Int).toNat xs.length) = _
    rw [if_pos (by decide)]
    omega
  rw [e1, e2, List.dropLast_eq_take]
  simp
@[simp] theorem q_cutL (xs : List PyData) : cutD xs (some (-1)) none = xs.drop (xs.length - 1) := by
  unfold cutD
  have e2 : HT.sIx xs.length 0 (some (-1)) = xs.length - 1 := by
    show (if (-1 : Int) < 0 then ((-1 : Int) + (xs.length : Int)).toNat else min (-1 : Int).toNat xs.length) = _
    rw [if_pos (by decide)]
    omega
  have e1 : HT.sIx xs.length xs.length none = xs.length := rfl
  rw [e1, e2, List.take_of_length_le (by simp)]
@[simp] theorem q_boolsOf_nil : boolsOf [] = some [] := rfl
@[simp] theorem q_boolsOf_cons (b : Bool) (r : List PyData) : boolsOf (.bool b :: r) = (boolsOf r).map (b :: ·) := rfl
@[simp] theorem q_intsOf_nil : intsOf [] = some [] := rfl
@[simp] theorem q_intsOf_cons (b : Int) (r : List PyData) : intsOf (.int b :: r) = (intsOf r).map (b :: ·) := rfl
theorem boolsOf_map {α : Type} (f : α → Bool) : ∀ l : List α, boolsOf (l.map fun x => .bool (f x)) = some (l.map f)
  | [] => rfl
  | x :: l => by simp [boolsOf, boolsOf_map f l]
theorem len_cps (s : Str) : s.length = s.cps.toList.length := by simp [Str.length]
theorem sign_ok {s : Str} (h : PyData.strOk s = true) {c : Nat} (hc : c ∈ s.cps.toList) : PyData.strOk ⟨#[c]⟩ = true := by
  unfold PyData.strOk at h ⊢
  rw [Array.all_eq_true_iff_forall_mem] at h
  simpa using h c (by simpa using hc)
end
/-! ### data as it comes -/
mutual
def szOk : PyData → Bool
  | .str s => decide (s.length ≤ sizeLine)
  | .list xs => szAll xs
  | .tuple xs => szAll xs
  | .dict _ => false
  | _ => true
def szAll : List PyData → Bool
  | [] => true
  | x :: xs => szOk x && szAll xs
end
theorem szAll_iff {xs : List PyData} : szAll xs = true ↔ ∀ x ∈ xs, szOk x = true := by
  induction xs with
  | nil => simp [szAll]
  | cons x xs ih => simp [szAll, ih]
/-- data of a depth, no dicts, texts that have room -/
structure Nice (k : Nat) (d : PyData) : Prop where
  l : Lay k d
  z : szOk d = true
theorem Nice.mono {k m : Nat} {d : PyData} (h : Nice k d) (hk : k ≤ m) : Nice m d := ⟨h.l.mono hk, h.z⟩
theorem Nice.sh {k : Nat} {d : PyData} (h : Nice k d) (hk : k ≤ 64) : SeqAt.shaped d = true := h.l.sh hk
theorem Nice.tup {k : Nat} {ds : List PyData} (h : ∀ d ∈ ds, Nice k d) : Nice (k + 1) (.tuple ds) := ⟨Lay.tup fun d hd => (h d hd).l, by rw [szOk]; exact szAll_iff.mpr fun d hd => (h d hd).z⟩
theorem Nice.lst {k : Nat} {ds : List PyData} (h : ∀ d ∈ ds, Nice k d) : Nice (k + 1) (.list ds) := ⟨Lay.lst fun d hd => (h d hd).l, by rw [szOk]; exact szAll_iff.mpr fun d hd => (h d hd).z⟩
theorem Nice.untup {k : Nat} {ds : List PyData} (h : Nice k (.tuple ds)) : ∀ d ∈ ds, Nice k d := fun d hd => ⟨h.l.untup d hd, szAll_iff.mp (by have := h.z; rw [szOk] at this; exact this) d hd⟩
theorem Nice.untup1 {k : Nat} {ds : List PyData} (h : Nice (k + 1) (.tuple ds)) : ∀ d ∈ ds, Nice k d := fun d hd => ⟨h.l.untup1 d hd, szAll_iff.mp (by have := h.z; rw [szOk] at this; exact this) d hd⟩
theorem Nice.unlst1 {k : Nat} {ds : List PyData} (h : Nice (k + 1) (.list ds)) : ∀ d ∈ ds, Nice k d := fun d hd => ⟨h.l.unlst1 d hd, szAll_iff.mp (by have := h.z; rw [szOk] at this; exact this) d hd⟩
theorem Nice.unlst {k : Nat} {ds : List PyData} (h : Nice k (.list ds)) : ∀ d ∈ ds, Nice k d := fun d hd => ⟨h.l.unlst d hd, szAll_iff.mp (by have := h.z; rw [szOk] at this; exact this) d hd⟩
theorem Nice.int (i : Int) {k : Nat} : Nice k (.int i) := ⟨.int i, rfl⟩
theorem Nice.bool (i : Bool) {k : Nat} : Nice k (.bool i) := ⟨.bool i, rfl⟩
theorem Nice.none {k : Nat} : Nice k .none := ⟨.none, rfl⟩
theorem Nice.strz {k : Nat} {s : Str} (h : Nice k (.str s)) : s.length ≤ sizeLine := by
  have := h.z
  rw [szOk] at this
  simpa using this
theorem Nice.refl {k : Nat} {d : PyData} (h : Nice k d) : PyData.eqv d d = true := h.l.refl
end DL

set_option maxRecDepth 100000
set_option maxHeartbeats 4000000
/-! DLE4: instances, places, bags: more equations. -/
namespace DL
open PySem PySem.Spec L2
section
variable {P : Pg} {n : Nat} {ρ ρ' : Rho} {pin : List Nat}
def sfK (i : Nat) (f : String) (t : Tok) (ρ1 : Rho) : Out Flow := match ρ1[i]? with
  | some (.ob c _) => match (match t with | .lf l => some (l, ρ1) | t => (toD t ρ1).map fun (x, ρ2) => (.d x, ρ2)) with
    | some (l, ρ2) => match ρ2[i]? with
      | some (.ob c fs) => if fs.length < 1000 then .ok .nx (ρ2.set i (.ob c (putS f l fs))) else .no
      | _ => .no
    | none => .no
  | _ => .no
@[simp] theorem q_evS_setfld (i : Nat) (f : String) (e : Ex) : evS P (n + 1) pin (.setfld i f e) ρ = (evE P n e ρ).bind fun t ρ1 => sfK i f t ρ1 := by unfold sfK; rfl
@[simp] theorem q_sfK_lf (i : Nat) (f : String) (l : Fl) : sfK i f (.lf l) ρ = setK i f l ρ ρ[i]? := by
  unfold sfK setK
  cases h : ρ[i]? with
  | none => rfl
  | some s => cases s <;> simp [h]
def sxK (ts : List Tok) (ρ3 : Rho) : Out Flow := match ts with
  | [t, to, ti] => match toD t ρ3 with
    | some (x, ρ4) => match rd ρ4 to, (rd ρ4 ti).bind intOf with
      | some (.ls xs), some k => match ixN xs.length k with
        | some j => ofOpt ((putP ρ4 (.ls (xs.set j x)) to).map fun ρ5 => (.nx, ρ5))
        | none => .no
      | _, _ => .no
    | none => .no
  | _ => .no
@[simp] theorem q_evS_setix (o i e : Ex) : evS P (n + 1) pin (.setix o i e) ρ = (evL (evE P n) [e, o, i] ρ).bind fun ts ρ3 => sxK ts ρ3 := by unfold sxK; rfl
def ixK (xs : List PyData) (x : PyData) (to : Tok) (ρ : Rho) : Option Nat → Out Flow
  | some j => ofOpt ((putP ρ (.ls (xs.set j x)) to).map fun ρ5 => (.nx, ρ5))
  | none => .no
@[simp] theorem q_ixK_s (xs : List PyData) (x : PyData) (to : Tok) (j : Nat) : ixK xs x to ρ (some j) = ofOpt ((putP ρ (.ls (xs.set j x)) to).map fun ρ5 => (.nx, ρ5)) := rfl
def sxL (x : PyData) (to : Tok) (k : Int) (ρ : Rho) : Option (List PyData) → Out Flow
  | some xs => ixK xs x to ρ (ixN xs.length k)
  | none => .no
@[simp] theorem q_sxL_s (x : PyData) (to : Tok) (k : Int) (xs : List PyData) : sxL x to k ρ (some xs) = ixK xs x to ρ (ixN xs.length k) := rfl
@[simp] theorem q_sxK (l : Fl) (to : Tok) (k : Int) : sxK [.lf l, to, .lf (.d (.int k))] ρ = sxL l.dat to k ρ (lsOf (rd ρ to)) := by
  unfold sxK sxL ixK lsOf
  simp only [q_toD_lf, q_rd_lf, Option.bind_some, q_intOf_i]
  cases rd ρ to with
  | none => rfl
  | some s => cases s <;> rfl
/-- o[k] += y -/
theorem evS_augix (i : Nat) (k : Int) (op : Pr) (y : PyData) {xs : List PyData} {x z : PyData} {j : Nat} (h : ρ[i]? = some (.lf (.ls xs))) (hx : atI xs k = some x) (hz : augF op x y = some z) (hj : ixN xs.length k = some j) :
    evS P (n + 2) pin (.augix (.v i) (.k (.int k)) op (.k y)) ρ = .ok .nx (ρ.set i (.lf (.ls (xs.set j z)))) := by
  have e0 : evS P (n + 2) pin (.augix (.v i) (.k (.int k)) op (.k y)) ρ = (evL (evE P (n + 1)) [.v i, .k (.int k)] ρ).bind fun ts ρ2 => match ts with
      | [to, ti] => match rd ρ2 to, (rd ρ2 ti).bind intOf with
        | some (.ls xs), some k => match atI xs k with
          | some x => if isPf to && !(noCall (.k y)) then .no else (evE P (n + 1) (.k y) ρ2).bind fun t ρ3 => match t, rd ρ3 to with
            | .lf (.d y), some (.ls ys) => match augF op x y, ixN ys.length k with
              | some z, some j => ofOpt ((putP ρ3 (.ls (ys.set j z)) to).map fun ρ5 => (.nx, ρ5))
              | _, _ => .no
            | _, _ => .no
          | none => .no
        | _, _ => .no
      | _ => .no := rfl
  rw [e0]
  simp [h, hx, hz, hj]
def fT (f : String) (ρ : Rho) : Tok → Out Tok
  | .ob _ fs => match lookF fs f with
    | some l => .ok (.lf l) ρ
    | none => .no
  | _ => .no
def fT1 (ρ : Rho) : Option Fl → Out Tok
  | some l => .ok (.lf l) ρ
  | none => .no
@[simp] theorem q_fT1_s (l : Fl) : fT1 ρ (some l) = .ok (.lf l) ρ := rfl
@[simp] theorem q_evE_fldT (e : Ex) (f : String) : evE P (n + 1) (.fldT e f) ρ = (evE P n e ρ).bind fun t ρ1 => fT f ρ1 t := by unfold fT; rfl
@[simp] theorem q_fT_ob (f c : String) (fs : List (String × Fl)) : fT f ρ (.ob c fs) = fT1 ρ (lookF fs f) := rfl
/-- a new instance -/
theorem evE_mk {c : String} {es : List Ex} {D : FDef} {ts : List Tok} {ρ1 ρ2 : Rho} {fs : List (String × Fl)} (hc : P.cls c = some true) (hD : P.fn (c ++ ".__init__") = some D) (he : evL (evE P n) es ρ = .ok ts ρ1)
    (hr : callF (evB P n) D (.pl ρ1.length :: ts) (ρ1 ++ [.ob c []]) = .ok (.lf (.d .none)) (ρ2 ++ [.ob c fs])) : evE P (n + 1) (.mk c es) ρ = .ok (.ob c fs) ρ2 := by
  have e0 : evE P (n + 1) (.mk c es) ρ = match P.cls c, P.fn (c ++ ".__init__") with
      | some true, some D => (evL (evE P n) es ρ).bind fun ts ρ1 =>
          match callF (evB P n) D (.pl ρ1.length :: ts) (ρ1 ++ [.ob c []]) with
          | .ok (.lf (.d .none)) ρ2 => match ρ2.getLast? with
            | some (.ob c' fs) => if c' = c then .ok (.ob c fs) ρ2.dropLast else .no
            | _ => .no
          | _ => .no
      | _, _ => .no := rfl
  rw [e0, hc, hD]
  simp only [he, Out.bind_ok, hr]
  simp
theorem evE_mk0 {c : String} {D : FDef} {fs : List (String × Fl)} (hc : P.cls c = some true) (hD : P.fn (c ++ ".__init__") = some D)
    (hr : ∀ (ρ : Rho) (i : Nat), ρ[i]? = some (.ob c []) → callF (evB P (n + 1)) D [.pl i] ρ = .ok (.lf (.d .none)) (ρ.set i (.ob c fs))) : evE P (n + 2) (.mk c []) ρ = .ok (.ob c fs) ρ := by
  refine evE_mk hc hD (ts := []) (ρ1 := ρ) (by simp) ?_
  rw [hr _ _ (by simp)]
  simp
end
/-! ### bags of numbers, drawn from one by one -/
def takeD : FDef := ⟨2, 7, [.ite (.p .eq [.p .ix [.v 0, .k (.int 0)], .k (.int 0)]) [.asg (.nm 2) (.p .ix [.p .add [.p (.sl true false) [.p .ix [.v 0, .k (.int 3)], .p .ix [.v 0, .k (.int 2)]], .p .lst [.k (.int 0)]], .k (.int 0)]), .augix (.v 0) (.k (.int 2)) .add (.k (.int 1)), .ite (.p .ge [.v 2, .p .pow [.k (.int 10), .k (.int 18)]]) [.setix (.v 0) (.k (.int 0)) (.v 2)] [], .asg (.nm 3) (.p .add [.p .add [.p .mul [.p .ix [.v 0, .k (.int 1)], .k (.int 48271)], .p .mod [.p .int [.v 2], .k (.int 2147483647)]], .p .mul [.k (.int 7919), .p .ix [.v 0, .k (.int 2)]]]), .setix (.v 0) (.k (.int 1)) (.p .mod [.p .int [.v 3], .k (.int 2147483647)])] [], .ite (.p .gt [.p .ix [.v 0, .k (.int 0)], .k (.int 0)]) [.asg (.nm 4) (.p .mod [.p .int [.p .ix [.v 0, .k (.int 0)]], .v 1]), .setix (.v 0) (.k (.int 0)) (.p .fdiv [.p .int [.p .ix [.v 0, .k (.int 0)]], .v 1]), .ret (.v 4)] [], .asg (.nm 5) (.p .mod [.p .int [.p .mul [.p .add [.p .ix [.v 0, .k (.int 1)], .k (.int 1)], .k (.int 39373)]], .k (.int 1000000007)]), .asg (.nm 6) (.p .mod [.p .int [.p .mul [.p .mod [.p .int [.p .mul [.v 5, .v 5]], .k (.int 998244353)], .k (.int 30011)]], .k (.int 998244353)]), .ret (.p .mod [.p .int [.p .fdiv [.v 6, .k (.int 7)]], .v 1])]⟩
def someD : FDef := ⟨2, 2, [.ret (.p .ix [.v 1, .call "_law_take" [.v 0, .p .len [.v 1]]])]⟩
def Bag (l : List PyData) : Prop := ∃ (b0 b1 b2 : Int) (cs : List PyData), l = [.int b0, .int b1, .int b2, .list cs] ∧ (∀ c ∈ cs, ∃ i : Int, c = .int i) ∧ cs.length ≤ 63
def drawV (b : Int) (m : Int) : Int := ((((b + 1) * 39373 % 1000000007) * ((b + 1) * 39373 % 1000000007) % 998244353 * 30011) % 998244353) / 7 % m
theorem mulR (i : Int) {j : Int} (h : -(2 ^ 64) < j ∧ j < 2 ^ 64) : L2.CMul i j := .inr h
theorem mulL {i : Int} (j : Int) (h : -(2 ^ 64) < i ∧ i < 2 ^ 64) : L2.CMul i j := .inl h
theorem cut_head {cs : List PyData} {lo : Option Int} (h : ∀ c ∈ cs, ∃ i : Int, c = .int i) : ∃ (i : Int) (r : List PyData), cutD cs lo none ++ [.int 0] = .int i :: r := by
  cases e : cutD cs lo none with
  | nil => exact ⟨0, [], rfl⟩
  | cons c r =>
    have hc : c ∈ cs := List.mem_of_mem_drop (List.mem_of_mem_take (by
      have : c ∈ cutD cs lo none := by rw [e]; exact List.mem_cons_self ..
      exact this))
    obtain ⟨i, rfl⟩ := h c hc
    exact ⟨i, r ++ [.int 0], rfl⟩
theorem cut_len (cs : List PyData) (lo hi : Option Int) : (cutD cs lo hi).length ≤ cs.length := by
  unfold cutD
  rw [List.length_take, List.length_drop]
  omega
theorem lawTake {P : Pg} (n : Nat) (ρ : Rho) (i : Nat) {l : List PyData} {m : Int} (hi : ρ[i]? = some (.lf (.ls l))) (hb : Bag l) (h0 : 0 < m) (h1 : m < 1073741824) :
    ∃ v l', callF (evB P (n + 20)) takeD [.pl i, .lf (.d (.int m))] ρ = .ok (.lf (.d (.int v))) (ρ.set i (.lf (.ls l'))) ∧ Bag l' ∧ 0 ≤ v ∧ v < m := by
  obtain ⟨b0, b1, b2, cs, rfl, hc, hl⟩ := hb
  obtain ⟨c0, r, hr⟩ := cut_head (lo := some b2) hc
  have hsz : (cutD cs (some b2) none).length + 1 ≤ sizeLine := Nat.le_trans (Nat.add_le_add_right (Nat.le_trans (cut_len ..) hl) 1) (by decide)
  have m1 : L2.CMul b1 48271 := mulR _ (by decide)
  have m2 : L2.CMul 7919 (b2 + 1) := mulL _ (by decide)
  have p1 : L2.CPow 10 18 := by decide
  have x2 : ixN 4 2 = some 2 := by decide
  have x0 : ixN 4 0 = some 0 := by decide
  have x1 : ixN 4 1 = some 1 := by decide
  have dm : L2.CDiv b0 m := ⟨h0, h1⟩
  have e4 : (4 : Nat) ≤ sizeLine := by decide
  have e1 : (1 : Nat) ≤ sizeLine := by decide
  have ag : ∀ R : Rho, evS P (n + 17) [0] (.augix (.v 0) (.k (.int 2)) .add (.k (.int 1))) (.lf (.ls [.int b0, .int b1, .int b2, .list cs]) :: R) = .ok .nx (.lf (.ls [.int b0, .int b1, .int (b2 + 1), .list cs]) :: R) := fun R =>
    evS_augix (n := n + 15) 0 2 .add (.int 1) (xs := [.int b0, .int b1, .int b2, .list cs]) (x := .int b2) (z := .int (b2 + 1)) rfl (by simp) rfl x2
  rw [takeD, callF_mk]
  have big := fun b : Int => mulL (i := (b + 1) * 39373 % 1000000007) ((b + 1) * 39373 % 1000000007) (by omega)
  have k1 : ∀ b : Int, L2.CMul (b + 1) 39373 := fun b => mulR _ (by decide)
  have k2 : ∀ b : Int, L2.CMul b 30011 := fun b => mulR _ (by decide)
  have d7 : ∀ b : Int, L2.CDiv b 7 := fun b => ⟨by decide, by decide⟩
  by_cases hz : b0 = 0
  · subst hz
    by_cases hg : (1000000000000000000 : Int) ≤ c0
    · have gp : 0 < c0 := by omega
      have dm : L2.CDiv c0 m := ⟨h0, h1⟩
      refine ⟨c0 % m, [.int (c0 / m), .int ((b1 * 48271 + c0 % 2147483647 + 7919 * (b2 + 1)) % 2147483647), .int (b2 + 1), .list cs], ?_, ⟨_, _, _, cs, rfl, hc, hl⟩, Int.emod_nonneg _ (by omega), Int.emod_lt_of_pos _ h0⟩
      simp [hi, PyData.eqv, hsz, hr, p1, m1, m2, ag, e1, hg, x0, x1, gp, h0, dm]
    · refine ⟨drawV ((b1 * 48271 + c0 % 2147483647 + 7919 * (b2 + 1)) % 2147483647) m, [.int 0, .int ((b1 * 48271 + c0 % 2147483647 + 7919 * (b2 + 1)) % 2147483647), .int (b2 + 1), .list cs], ?_, ⟨_, _, _, cs, rfl, hc, hl⟩, Int.emod_nonneg _ (show m ≠ 0 by omega), Int.emod_lt_of_pos _ h0⟩
      simp [hi, PyData.eqv, hsz, hr, p1, m1, m2, ag, e1, hg, x0, x1, h0, dm, k1, k2, d7, big, drawV]
  · by_cases gp : 0 < b0
    · refine ⟨b0 % m, [.int (b0 / m), .int b1, .int b2, .list cs], ?_, ⟨_, _, _, cs, rfl, hc, hl⟩, Int.emod_nonneg _ (by omega), Int.emod_lt_of_pos _ h0⟩
      simp [hi, PyData.eqv, hsz, hr, p1, m1, m2, ag, e1, x0, x1, hz, gp, h0, dm]
    · refine ⟨drawV b1 m, [.int b0, .int b1, .int b2, .list cs], ?_, ⟨_, _, _, cs, rfl, hc, hl⟩, Int.emod_nonneg _ (show m ≠ 0 by omega), Int.emod_lt_of_pos _ h0⟩
      simp [hi, PyData.eqv, hsz, hr, p1, m1, m2, ag, e1, x0, x1, hz, gp, h0, dm, k1, k2, d7, big, drawV]
end DL

set_option maxRecDepth 100000
set_option maxHeartbeats 4000000
/-! DLE5: draws: one of many, comprehensions that draw. -/
namespace DL
open PySem PySem.Spec L2
theorem atI_some {xs : List PyData} {v : Int} (h0 : 0 ≤ v) (h1 : v < xs.length) : ∃ x, atI xs v = some x ∧ x ∈ xs := by
  obtain ⟨k, rfl⟩ := Int.eq_ofNat_of_zero_le h0
  rw [atI_nat]
  have hk : k < xs.length := by omega
  exact ⟨xs[k], List.getElem?_eq_getElem hk, List.getElem_mem hk⟩
theorem lawSome {P : Pg} (hf : P.fn "_law_take" = some takeD) (n : Nat) (ρ : Rho) (i : Nat) {l xs : List PyData} (hi : ρ[i]? = some (.lf (.ls l))) (hb : Bag l) (h0 : 0 < xs.length) (h1 : xs.length < 1073741824) :
    ∃ x l', callF (evB P (n + 30)) someD [.pl i, .lf (.ls xs)] ρ = .ok (.lf (.d x)) (ρ.set i (.lf (.ls l'))) ∧ Bag l' ∧ x ∈ xs := by
  obtain ⟨v, l', e, hb', v0, v1⟩ := lawTake (P := P) (n + 6) [.lf (.ls l), .lf (.ls xs)] 0 (m := xs.length) rfl hb (by omega) (by omega)
  obtain ⟨x, hx, hm⟩ := atI_some v0 v1
  refine ⟨x, l', ?_, hb', hm⟩
  rw [someD, callF_mk]
  simp [hi, hf, e, hx]
theorem lawSomeT {P : Pg} (hf : P.fn "_law_take" = some takeD) (n : Nat) (ρ : Rho) (i : Nat) {l xs : List PyData} (hi : ρ[i]? = some (.lf (.ls l))) (hb : Bag l) (h0 : 0 < xs.length) (h1 : xs.length < 1073741824) :
    ∃ x l', callF (evB P (n + 30)) someD [.pl i, .lf (.d (.tuple xs))] ρ = .ok (.lf (.d x)) (ρ.set i (.lf (.ls l'))) ∧ Bag l' ∧ x ∈ xs := by
  obtain ⟨v, l', e, hb', v0, v1⟩ := lawTake (P := P) (n + 6) [.lf (.ls l), .lf (.d (.tuple xs))] 0 (m := xs.length) rfl hb (by omega) (by omega)
  obtain ⟨x, hx, hm⟩ := atI_some v0 v1
  refine ⟨x, l', ?_, hb', hm⟩
  rw [someD, callF_mk]
  simp [hi, hf, e, hx]
/-- [e for i in ..], where e changes a state that the names hold -/
theorem lc_st {P : Pg} {n : Nat} {ρ : Rho} {α : Type} {i w : Nat} {es : List Ex} {e : Ex} {ts : List Tok} {xs : List PyData} {a0 : α} (S : α → Rho) (Inv : α → Prop) (Q : PyData → Prop) (hes : evL (evE P n) es ρ = .ok ts (S a0)) (hit : (rds (S a0) ts).bind (itemsW w) = some xs) (hl : lockOf ts = []) (hi : ∀ a, (S a)[i]? = some .no) (h0 : Inv a0)
    (hb : ∀ a x, Inv a → x ∈ xs → ∃ l a', evE P n e ((S a).set i (.lf (.d x))) = .ok (.lf l) ((S a').set i (.lf (.d x))) ∧ Inv a' ∧ Q l.dat) (hlen : xs.length ≤ sizeLine) :
    ∃ ys a', evE P (n + 1) (.lc [i] (.nm i) w es [] e) ρ = .ok (.lf (.ls ys)) (S a') ∧ Inv a' ∧ ys.length = xs.length ∧ ∀ y ∈ ys, Q y := by
  have hset : ∀ a, (S a).set i .no = S a := fun a => set_same (hi a)
  have key : ∀ (xs acc : List PyData) (a : α) (ρ1 : Rho), ρ1.set i .no = S a → Inv a → (∀ a x, Inv a → x ∈ xs → ∃ l a', evE P n e ((S a).set i (.lf (.d x))) = .ok (.lf l) ((S a').set i (.lf (.d x))) ∧ Inv a' ∧ Q l.dat) → acc.length + xs.length ≤ sizeLine → (∀ y ∈ acc, Q y) →
      ∃ ys a' ρ2, lcL (asgD (compl [i] (S a0).length) (.nm i)) (testsL (evT P n) []) (evE P n e) (wipeR [i]) xs acc ρ1 = .ok ys ρ2 ∧ ρ2.set i .no = S a' ∧ Inv a' ∧ ys.length = acc.length + xs.length ∧ ∀ y ∈ ys, Q y := by
    intro xs
    induction xs with
    | nil => intro acc a ρ1 h1 ia _ _ hq; exact ⟨acc, a, ρ1, by simp [lcL], h1, ia, by simp, hq⟩
    | cons x xs ih =>
      intro acc a ρ1 h1 ia hb hl hq
      rw [List.length_cons] at hl
      obtain ⟨l, a1, e1, ia1, hq1⟩ := hb a x ia (List.mem_cons_self ..)
      obtain ⟨ys, a2, ρ2, k1, k2, k3, k4, k5⟩ := ih (acc ++ [l.dat]) a1 ((S a1).set i (.lf (.d x))) (by rw [List.set_set]; exact hset a1) ia1 (fun a z hz hm => hb a z hz (List.mem_cons_of_mem _ hm)) (by rw [List.length_append, List.length_singleton]; omega)
        (fun y hy => by
          rcases List.mem_append.mp hy with h | h
          · exact hq y h
          · rw [List.mem_singleton.mp h]; exact hq1)
      refine ⟨ys, a2, ρ2, ?_, k2, k3, by rw [k4, List.length_append, List.length_singleton, List.length_cons]; omega, k5⟩
      unfold lcL
      have hw : wipeR [i] ρ1 = S a := h1
      have ha : asgD (compl [i] (S a0).length) (.nm i) x (S a) = some ((S a).set i (.lf (.d x))) := by simp [compl, hi]
      have hlt2 : acc.length < sizeLine := by omega
      rw [hw, ha]
      simp only [q_testsL_nil, e1, q_toD_lf, hlt2, if_true]
      exact k1
  obtain ⟨ys, a', ρ2, k1, k2, k3, k4, k5⟩ := key xs [] a0 (S a0) (hset a0) h0 hb (by simpa using hlen) (by simp)
  refine ⟨ys, a', ?_, k3, by simpa using k4, k5⟩
  have e0 : evE P (n + 1) (.lc [i] (.nm i) w es [] e) ρ = (evL (evE P n) es ρ).bind fun ts ρ1 => match (rds ρ1 ts).bind (itemsW w) with
      | none => .no
      | some xs => if ownOk [i] (lock (lockOf ts) ρ1) then
          match lcL (asgD (compl [i] ρ1.length) (.nm i)) (testsL (evT P n) []) (evE P n e) (wipeR [i]) xs [] (wipeR [i] (lock (lockOf ts) ρ1)) with
          | .ok ys ρ2 => .ok (.lf (.ls ys)) (unlock (lockOf ts) ρ1 (restR [i] (lock (lockOf ts) ρ1) ρ2))
          | _ => .no
        else .no := rfl
  have ho : ownOk [i] (S a0) = true := by simp [ownOk, hi]
  have hw : wipeR [i] (S a0) = S a0 := hset a0
  rw [e0, hes]
  simp only [Out.bind_ok, hit, hl, q_lock_nil, ho, if_true, hw, k1, q_unlock_nil]
  unfold restR
  have hw2 : wipeR [i] ρ2 = S a' := k2
  rw [hw2]
  simp [hi, hset]
theorem rng_len (m : Int) (k : Nat) : (rngD m k).length = k := by
  unfold rngD
  simp
/-- [.. for i in range(_law_take(bag, m))] -/
theorem lc_draw {P : Pg} (hf : P.fn "_law_take" = some takeD) {n : Nat} {ρ : Rho} {b i : Nat} {m : Int} {em : Ex} {e : Ex} {l : List PyData} (Q : PyData → Prop) (hm : ∀ ρ, evE P (n + 25) em ρ = .ok (.lf (.d (.int m))) ρ) (hbag : ρ[b]? = some (.lf (.ls l))) (hB : Bag l) (hi : ρ[i]? = some .no) (h0 : 0 < m) (h1 : m < 16777216)
    (hb : ∀ (l : List PyData) (x : PyData), Bag l → ∃ r l', evE P (n + 26) e ((ρ.set b (.lf (.ls l))).set i (.lf (.d x))) = .ok (.lf r) ((ρ.set b (.lf (.ls l'))).set i (.lf (.d x))) ∧ Bag l' ∧ Q r.dat) :
    ∃ ys l', evE P (n + 27) (.lc [i] (.nm i) 1 [.call "_law_take" [.v b, em]] [] e) ρ = .ok (.lf (.ls ys)) (ρ.set b (.lf (.ls l'))) ∧ Bag l' ∧ (ys.length : Int) < m ∧ ∀ y ∈ ys, Q y := by
  obtain ⟨v, l1, e1, B1, v0, v1⟩ := lawTake (P := P) (n + 5) ρ b hbag hB h0 (by omega)
  have hne : b ≠ i := fun h => by rw [h, hi] at hbag; cases hbag
  have hib : ∀ s, (ρ.set b s)[i]? = some .no := fun s => by rw [List.getElem?_set_ne hne]; exact hi
  obtain ⟨ys, l2, e2, B2, ln, hq⟩ := lc_st (P := P) (n := n + 26) (ρ := ρ) (i := i) (w := 1) (es := [.call "_law_take" [.v b, em]]) (e := e) (ts := [.lf (.d (.int v))]) (xs := rngD 0 v.toNat) (a0 := l1) (fun l => ρ.set b (.lf (.ls l))) Bag Q
    (by simp [hf, hbag, hm, e1]) (by
      have : -(4611686018427387904 : Int) ≤ v ∧ v < 4611686018427387904 := by omega
      simp [this]) (by simp) (fun a => hib _) B1 (fun a x ha hx => hb a x ha) (by rw [rng_len]; have e : sizeLine = 16777216 := rfl; omega)
  exact ⟨ys, l2, e2, B2, by rw [ln, rng_len]; omega, hq⟩
end DL

set_option maxRecDepth 100000
set_option maxHeartbeats 4000000
/-! DLE6: comprehensions of two; what repr tells; equality of like things. -/
namespace DL
open PySem PySem.Spec L2
def rtK (i : Nat) (ρ : Rho) : Option Sl → Option (Tok × Rho)
  | some (.lf (.ls xs)) => some (.lf (.ls xs), ρ.set i .no)
  | some (.ob c fs) => some (.ob c fs, ρ.set i .no)
  | _ => none
@[simp] theorem q_rtK_l (i : Nat) (ρ : Rho) (xs : List PyData) : rtK i ρ (some (.lf (.ls xs))) = some (.lf (.ls xs), ρ.set i .no) := rfl
@[simp] theorem q_rtK_o (i : Nat) (ρ : Rho) (c : String) (fs : List (String × Fl)) : rtK i ρ (some (.ob c fs)) = some (.ob c fs, ρ.set i .no) := rfl
@[simp] theorem q_retT_pl (pin : List Nat) (i : Nat) (ρ : Rho) : retT pin (.pl i) ρ = if i ∈ pin then (toD (.pl i) ρ).map fun p => (.lf (.d p.1), p.2) else rtK i ρ ρ[i]? := by unfold rtK; rfl
@[simp] theorem q_retT_ob (pin : List Nat) (c : String) (fs : List (String × Fl)) (ρ : Rho) : retT pin (.ob c fs) ρ = some (.ob c fs, ρ) := rfl
theorem lcL_map {α : Type} {i : Nat} {pin : List Nat} (hpin : i ∉ pin) {g f : α → PyData} {ev : Ex → Rho → Out Bool} {elt : Rho → Out Tok} {ρ : Rho} (hi : ρ[i]? = some .no) : ∀ (ys : List α) (acc : List PyData) (ρ1 : Rho), ρ1.set i .no = ρ → (∀ y ∈ ys, ∃ l, elt (ρ.set i (.lf (.d (g y)))) = .ok (.lf l) (ρ.set i (.lf (.d (g y)))) ∧ l.dat = f y) → acc.length + ys.length ≤ sizeLine →
    ∃ ρ2, lcL (asgD pin (.nm i)) (testsL ev []) elt (wipeR [i]) (ys.map g) acc ρ1 = .ok (acc ++ ys.map f) ρ2 ∧ ρ2.set i .no = ρ := by
  have hlt := (List.getElem?_eq_some_iff.mp hi).1
  have hset : ρ.set i .no = ρ := set_same hi
  intro ys
  induction ys with
  | nil => intro acc ρ1 h1 _ _; exact ⟨ρ1, by simp [lcL], h1⟩
  | cons y ys ih =>
    intro acc ρ1 h1 hb hl
    rw [List.length_cons] at hl
    obtain ⟨l, e1, e2⟩ := hb y (List.mem_cons_self ..)
    obtain ⟨ρ2, k1, k2⟩ := ih (acc ++ [f y]) (ρ.set i (.lf (.d (g y)))) (by rw [List.set_set]; exact hset) (fun z hz => hb z (List.mem_cons_of_mem _ hz)) (by rw [List.length_append, List.length_singleton]; omega)
    refine ⟨ρ2, ?_, k2⟩
    rw [List.map_cons]
    unfold lcL
    have hw : wipeR [i] ρ1 = ρ := h1
    have ha : asgD pin (.nm i) (g y) ρ = some (ρ.set i (.lf (.d (g y)))) := by simp [hpin, hi]
    have hlt2 : acc.length < sizeLine := by omega
    rw [hw, ha]
    simp only [q_testsL_nil, e1, q_toD_lf, hlt2, if_true, e2]
    rw [k1]
    simp
/-- [e for i in .. for j in ..] -/
theorem lc2_map {P : Pg} {n : Nat} {ρ : Rho} {α β : Type} {i j w w2 : Nat} {es es2 : List Ex} {e : Ex} {ts : List Tok} {ys : List α} (g : α → PyData) (h : α → List β) (q : β → PyData) (f : α → β → PyData) (hes : evL (evE P n) es ρ = .ok ts ρ) (hit : (rds ρ ts).bind (itemsW w) = some (ys.map g)) (hl : lockOf ts = []) (hij : i ≠ j) (hi : ρ[i]? = some .no) (hj : ρ[j]? = some .no)
    (h2 : ∀ y ∈ ys, ∃ ts2, evL (evE P n) es2 (ρ.set i (.lf (.d (g y)))) = .ok ts2 (ρ.set i (.lf (.d (g y)))) ∧ (rds (ρ.set i (.lf (.d (g y)))) ts2).bind (itemsW w2) = some ((h y).map q) ∧ lockOf ts2 = [])
    (hb : ∀ y ∈ ys, ∀ z ∈ h y, ∃ l, evE P n e ((ρ.set i (.lf (.d (g y)))).set j (.lf (.d (q z)))) = .ok (.lf l) ((ρ.set i (.lf (.d (g y)))).set j (.lf (.d (q z)))) ∧ l.dat = f y z)
    (hlen : (ys.flatMap fun y => (h y).map (f y)).length ≤ sizeLine) :
    evE P (n + 1) (.lc2 [i, j] [j] (.nm i) w es (.nm j) w2 es2 [] e) ρ = .ok (.lf (.ls (ys.flatMap fun y => (h y).map (f y)))) ρ := by
  have hset : ρ.set i .no = ρ := set_same hi
  have hsetj : ρ.set j .no = ρ := set_same hj
  have hw0 : wipeR [i, j] ρ = ρ := by simp [hset, hsetj]
  have hin : ∀ (y : α) (acc : List PyData) (ρ1 : Rho), y ∈ ys → wipeR [i, j] ρ1 = ρ → acc.length + (h y).length ≤ sizeLine → ∃ ρ2, lcL (asgD (compl [j] ρ.length) (.nm j)) (testsL (evT P n) []) (evE P n e) (wipeR [j]) ((h y).map q) acc (ρ.set i (.lf (.d (g y)))) = .ok (acc ++ (h y).map (f y)) ρ2 ∧ ρ2.set j .no = ρ.set i (.lf (.d (g y))) := by
    intro y acc ρ1 hy hw hl
    have hj' : (ρ.set i (.lf (.d (g y))))[j]? = some .no := by rw [List.getElem?_set_ne hij]; exact hj
    exact lcL_map (by simp [compl]) hj' (h y) acc _ (set_same hj') (hb y hy) hl
  have key : ∀ (ys : List α) (acc : List PyData) (ρ1 : Rho), wipeR [i, j] ρ1 = ρ →
      (∀ y ∈ ys, ∃ ts2, evL (evE P n) es2 (ρ.set i (.lf (.d (g y)))) = .ok ts2 (ρ.set i (.lf (.d (g y)))) ∧ (rds (ρ.set i (.lf (.d (g y)))) ts2).bind (itemsW w2) = some ((h y).map q) ∧ lockOf ts2 = []) →
      (∀ (y : α) (acc : List PyData) (ρ1 : Rho), y ∈ ys → wipeR [i, j] ρ1 = ρ → acc.length + (h y).length ≤ sizeLine → ∃ ρ2, lcL (asgD (compl [j] ρ.length) (.nm j)) (testsL (evT P n) []) (evE P n e) (wipeR [j]) ((h y).map q) acc (ρ.set i (.lf (.d (g y)))) = .ok (acc ++ (h y).map (f y)) ρ2 ∧ ρ2.set j .no = ρ.set i (.lf (.d (g y)))) →
      acc.length + (ys.flatMap fun y => (h y).map (f y)).length ≤ sizeLine →
      ∃ ρ2, lcO (asgD (compl [i, j] ρ.length) (.nm i)) (fun acc ρ2 => match evL (evE P n) es2 ρ2 with
              | .ok ts2 ρ3 => match (rds ρ3 ts2).bind (itemsW w2) with
                | some xs2 => if ownOk [j] (lock (lockOf ts2) ρ3) then
                    match lcL (asgD (compl [j] ρ.length) (.nm j)) (testsL (evT P n) []) (evE P n e) (wipeR [j]) xs2 acc (lock (lockOf ts2) ρ3) with
                    | .ok acc' ρ4 => .ok acc' (unlock (lockOf ts2) ρ3 (wipeR [j] ρ4))
                    | _ => .no
                  else .no
                | none => .no
              | _ => .no) (wipeR [i, j]) (ys.map g) acc ρ1 = .ok (acc ++ ys.flatMap fun y => (h y).map (f y)) ρ2 ∧ wipeR [i, j] ρ2 = ρ := by
    intro ys
    induction ys with
    | nil => intro acc ρ1 h1 _ _ _; exact ⟨ρ1, by simp [lcO], h1⟩
    | cons y ys ih =>
      intro acc ρ1 h1 h2 hin hl
      rw [List.flatMap_cons, List.length_append, List.length_map] at hl
      obtain ⟨ts2, a1, a2, a3⟩ := h2 y (List.mem_cons_self ..)
      obtain ⟨ρ2, b1, b2⟩ := hin y acc ρ1 (List.mem_cons_self ..) h1 (by omega)
      have hwz : wipeR [i, j] (ρ.set i (.lf (.d (g y)))) = ρ := by
        simp only [q_wipeR_cons, q_wipeR_nil]
        exact (List.set_comm _ _ (Ne.symm hij)).trans (by rw [List.set_set, hset, hsetj])
      obtain ⟨ρ3, c1, c2⟩ := ih (acc ++ (h y).map (f y)) (ρ.set i (.lf (.d (g y)))) hwz (fun z hz => h2 z (List.mem_cons_of_mem _ hz)) (fun z a r hz => hin z a r (List.mem_cons_of_mem _ hz)) (by rw [List.length_append, List.length_map]; omega)
      refine ⟨ρ3, ?_, c2⟩
      have ha : asgD (compl [i, j] ρ.length) (.nm i) (g y) ρ = some (ρ.set i (.lf (.d (g y)))) := by simp [compl, hi]
      have hj' : (ρ.set i (.lf (.d (g y))))[j]? = some .no := by rw [List.getElem?_set_ne hij]; exact hj
      have ho : ownOk [j] (ρ.set i (.lf (.d (g y)))) = true := by simp [ownOk, hj']
      have hw2 : wipeR [j] ρ2 = ρ.set i (.lf (.d (g y))) := b2
      rw [List.map_cons]
      unfold lcO
      rw [h1, ha]
      simp only [a1, a2, a3, q_lock_nil, ho, if_true, b1, q_unlock_nil, hw2]
      rw [c1]
      simp
  obtain ⟨ρ2, k1, k2⟩ := key ys [] ρ hw0 h2 hin (by simpa using hlen)
  have e0 : evE P (n + 1) (.lc2 [i, j] [j] (.nm i) w es (.nm j) w2 es2 [] e) ρ = (evL (evE P n) es ρ).bind fun ts ρ1 => match (rds ρ1 ts).bind (itemsW w) with
      | none => .no
      | some xs => if ownOk [i, j] (lock (lockOf ts) ρ1) then
          match lcO (asgD (compl [i, j] ρ1.length) (.nm i)) (fun acc ρ2 => match evL (evE P n) es2 ρ2 with
              | .ok ts2 ρ3 => match (rds ρ3 ts2).bind (itemsW w2) with
                | some xs2 => if ownOk [j] (lock (lockOf ts2) ρ3) then
                    match lcL (asgD (compl [j] ρ1.length) (.nm j)) (testsL (evT P n) []) (evE P n e) (wipeR [j]) xs2 acc (lock (lockOf ts2) ρ3) with
                    | .ok acc' ρ4 => .ok acc' (unlock (lockOf ts2) ρ3 (wipeR [j] ρ4))
                    | _ => .no
                  else .no
                | none => .no
              | _ => .no) (wipeR [i, j]) xs [] (wipeR [i, j] (lock (lockOf ts) ρ1)) with
          | .ok ys ρ2 => .ok (.lf (.ls ys)) (unlock (lockOf ts) ρ1 (restR [i, j] (lock (lockOf ts) ρ1) ρ2))
          | _ => .no
        else .no := rfl
  have ho : ownOk [i, j] ρ = true := by simp [ownOk, hi, hj]
  rw [e0, hes]
  simp only [Out.bind_ok, hit, hl, q_lock_nil, ho, if_true, hw0, k1, List.nil_append, q_unlock_nil]
  unfold restR
  rw [k2]
  simp [hi, hj, hset, hsetj]
/-! ### what repr tells -/
structure Shw (m : Nat) (d : PyData) : Prop where
  s : d.showable = true
  l : d.shown.length ≤ m
  o : PyData.strOk d.shown = true
theorem Shw.mono {m k : Nat} {d : PyData} (h : Shw m d) (hk : m ≤ k) : Shw k d := ⟨h.s, Nat.le_trans h.l hk, h.o⟩
theorem strOk_app (a b : Str) : PyData.strOk (a ++ b) = (PyData.strOk a && PyData.strOk b) := by
  unfold PyData.strOk
  rw [Str.cps_append, Array.all_append]
theorem textFrom_ok : ∀ (ts : List Str) (k : Nat) (acc : Str), PyData.strOk acc = true → (∀ t ∈ ts, PyData.strOk t = true) → PyData.strOk (textFrom k acc ts) = true
  | [], _, _, h, _ => h
  | t :: ts, k, acc, h, h2 => by
    refine textFrom_ok ts (k + 1) (acc ++ (if k > 0 then ", " else "" : String) ++ t) ?_ fun s hs => h2 s (List.mem_cons_of_mem _ hs)
    rw [strOk_app, strOk_app, h, h2 t (List.mem_cons_self ..)]
    split <;> decide +kernel
theorem listText_ok (ts : List Str) (h : ∀ t ∈ ts, PyData.strOk t = true) : PyData.strOk (listText ts) = true := by
  unfold listText
  rw [strOk_app, textFrom_ok ts 0 _ (by decide +kernel) h]
  decide +kernel
theorem join_ok : ∀ (ts : List Str), (∀ t ∈ ts, PyData.strOk t = true) → PyData.strOk (Str.join (", " : String) ts) = true
  | [], _ => by decide +kernel
  | [x], h => h x (List.mem_cons_self ..)
  | x :: y :: r, h => by
    show PyData.strOk (x ++ ", " ++ Str.join ", " (y :: r)) = true
    rw [strOk_app, strOk_app, h x (List.mem_cons_self ..), join_ok (y :: r) fun s hs => h s (List.mem_cons_of_mem _ hs)]
    decide +kernel
theorem tupleText_ok (ts : List Str) (h : ∀ t ∈ ts, PyData.strOk t = true) : PyData.strOk (tupleText ts) = true := by
  unfold tupleText
  rw [strOk_app, strOk_app, join_ok ts h]
  split <;> decide +kernel
theorem piled_le {m : Nat} : ∀ {ts : List Str}, (∀ t ∈ ts, t.length ≤ m) → piled ts ≤ ts.length * (m + 2)
  | [], _ => by simp [piled_nil]
  | t :: ts, h => by
    have h1 := h t (List.mem_cons_self ..)
    have h2 := piled_le (m := m) fun s hs => h s (List.mem_cons_of_mem _ hs)
    rw [piled_cons, List.length_cons, Nat.add_mul]
    omega
theorem textFrom_le : ∀ (ts : List Str) (k : Nat) (acc : Str), (textFrom k acc ts).length ≤ acc.length + piled ts
  | [], k, acc => by simp [textFrom, piled_nil]
  | t :: ts, k, acc => by
    have h := textFrom_le ts (k + 1) (acc ++ (if k > 0 then ", " else "" : String) ++ t)
    have e : (acc ++ (if k > 0 then ", " else "" : String) ++ t).length ≤ acc.length + 2 + t.length := by
      rw [strLen_append, strLen_append]
      have : (((if k > 0 then ", " else "" : String) : Str)).length ≤ 2 := by split <;> decide
      omega
    rw [piled_cons]
    show (textFrom (k + 1) (acc ++ (if k > 0 then ", " else "" : String) ++ t) ts).length ≤ _
    omega
theorem listText_le (ts : List Str) : (listText ts).length ≤ piled ts + 2 := by
  unfold listText
  rw [strLen_append]
  have h := textFrom_le ts 0 "["
  have e1 : ((("[" : String) : Str)).length = 1 := rfl
  have e2 : ((("]" : String) : Str)).length = 1 := rfl
  omega
theorem tupleText_le (ts : List Str) : (tupleText ts).length ≤ piled ts + 3 := by
  unfold tupleText
  rw [strLen_append, strLen_append]
  have e1 : ((("(" : String) : Str)).length = 1 := rfl
  have e3 : (((if ts.length == 1 then ",)" else ")" : String) : Str)).length ≤ 2 := by split <;> decide
  rw [e1]
  by_cases h : ts = []
  · subst h
    have : (Str.join (", " : String) []).length = 0 := rfl
    omega
  · have := join_length_add ts h
    omega
theorem shownAll_map : ∀ xs : List PyData, PyData.shownAll xs = xs.map PyData.shown
  | [] => by simp [PyData.shownAll]
  | x :: xs => by simp [PyData.shownAll, shownAll_map xs]
theorem showAll_iff {xs : List PyData} : PyData.showableAll xs = true ↔ ∀ x ∈ xs, x.showable = true := by
  induction xs with
  | nil => simp [PyData.showableAll]
  | cons x xs ih => simp [PyData.showableAll, ih]
theorem Shw.pile {m n : Nat} {xs : List PyData} (h : ∀ x ∈ xs, Shw m x) (hl : xs.length ≤ n) : piled (PyData.shownAll xs) ≤ n * (m + 2) := by
  rw [shownAll_map]
  refine Nat.le_trans (piled_le (m := m) fun t ht => ?_) ?_
  · obtain ⟨x, hx, rfl⟩ := List.mem_map.mp ht
    exact (h x hx).l
  · rw [List.length_map]; exact Nat.mul_le_mul_right _ hl
theorem Shw.tup {m n : Nat} {xs : List PyData} (h : ∀ x ∈ xs, Shw m x) (hl : xs.length ≤ n) : Shw (n * (m + 2) + 3) (.tuple xs) := ⟨by rw [PyData.showable]; exact showAll_iff.mpr fun x hx => (h x hx).s, by
  rw [PyData.shown]
  exact Nat.le_trans (tupleText_le _) (Nat.add_le_add_right (Shw.pile h hl) 3), by
  rw [PyData.shown]
  refine tupleText_ok _ fun t ht => ?_
  rw [shownAll_map] at ht
  obtain ⟨x, hx, rfl⟩ := List.mem_map.mp ht
  exact (h x hx).o⟩
theorem Shw.lst {m n : Nat} {xs : List PyData} (h : ∀ x ∈ xs, Shw m x) (hl : xs.length ≤ n) : Shw (n * (m + 2) + 3) (.list xs) := ⟨by rw [PyData.showable]; exact showAll_iff.mpr fun x hx => (h x hx).s, by
  rw [PyData.shown]
  exact Nat.le_trans (listText_le _) (by have := Shw.pile h hl; omega), by
  rw [PyData.shown]
  refine listText_ok _ fun t ht => ?_
  rw [shownAll_map] at ht
  obtain ⟨x, hx, rfl⟩ := List.mem_map.mp ht
  exact (h x hx).o⟩
/-- small numbers -/
theorem Shw.nat : ∀ k : Fin 600, Shw 4 (.int (k : Nat)) := fun k => ⟨by
  have h : ∀ k : Fin 600, PyData.showable (.int (k : Nat)) = true := by decide +kernel
  exact h k, by
  have h : ∀ k : Fin 600, (PyData.shown (.int (k : Nat))).length ≤ 4 := by decide +kernel
  exact h k, by
  have h : ∀ k : Fin 600, PyData.strOk (PyData.shown (.int (k : Nat))) = true := by decide +kernel
  exact h k⟩
theorem pd_repr {d : PyData} {k m : Nat} (hn : Nice k d) (hk : k ≤ 60) (hs : Shw m d) (hm : m ≤ sizeLine) : pd .repr [.d d] = some (.d (.str d.shown)) := by
  show (if d.showable = true ∧ d.hasDict = false ∧ d.depth ≤ 60 ∧ d.shown.length ≤ sizeLine then some (Fl.d (.str d.shown)) else none) = _
  rw [if_pos ⟨hs.s, PyData.hasDict_of_canLay d hn.l.c, Nat.le_trans hn.l.d hk, Nat.le_trans hs.l hm⟩]
theorem pd_reprO {d : List PyData} {k m : Nat} (hn : Nice k (.list d)) (hk : k ≤ 60) (hs : Shw m (.list d)) (hm : m ≤ sizeLine) : pd .repr [.ls d] = some (.d (.str (PyData.shown (.list d)))) := by
  show (if (PyData.list d).showable = true ∧ (PyData.list d).hasDict = false ∧ (PyData.list d).depth ≤ 60 ∧ (PyData.list d).shown.length ≤ sizeLine then some (Fl.d (.str (PyData.list d).shown)) else none) = _
  rw [if_pos ⟨hs.s, PyData.hasDict_of_canLay _ hn.l.c, Nat.le_trans hn.l.d hk, Nat.le_trans hs.l hm⟩]
end DL

set_option maxRecDepth 100000
set_option maxHeartbeats 0
namespace K02
open PySem PySem.Spec DL
def isDef (n : Str) : Stmt → Bool
  | .FunctionDef m _ _ _ _ _ _ _ _ _ => m == n
  | _ => false
def top : List Stmt := PySem.Challenge.pw_undomacros_k02_histories_undone_and_done.main.body
def defOf (n : String) : Stmt := (top.find? (isDef (so n))).getD (.Pass default)
def clsBody (c : Str) : List Stmt := match top.find? (fun | .ClassDef m _ _ _ _ _ _ _ _ _ _ => m == c | _ => false) with
  | some (.ClassDef _ _ _ b _ _ _ _ _ _ _) => b
  | _ => []
def methOf (c n : String) : Stmt := ((clsBody (so c)).find? (isDef (so n))).getD (.Pass default)
def D__wall : FDef := ⟨1, 1, [.whl (.k (.bool true)) [.pass]]⟩
def R__wall : DL.Row := ⟨"_wall", none, "_wall", defOf "_wall", ["k"], D__wall⟩
def D_is_number : FDef := ⟨1, 1, [.ret (.and (.p (.isi "int") [.v 0]) (.not (.p (.isi "bool") [.v 0])))]⟩
def R_is_number : DL.Row := ⟨"is_number", none, "is_number", defOf "is_number", ["thing"], D_is_number⟩
def D_is_index : FDef := ⟨1, 1, [.ret (.and (.call "is_number" [.v 0]) (.p .ge [.v 0, .k (.int 0)]))]⟩
def R_is_index : DL.Row := ⟨"is_index", none, "is_index", defOf "is_index", ["thing"], D_is_index⟩
def D_is_name : FDef := ⟨1, 2, [.ite (.or (.not (.p (.isi "str") [.v 0])) (.not (.chn .le .le (.k (.int 1)) (.p .len [.v 0]) (.g "MOST_LETTERS")))) [.ret (.k (.bool false))] [], .ite (.or (.p .notin [.p .ix [.v 0, .k (.int 0)], .g "LETTERS"]) (.p .isin [.v 0, .g "RESERVED"])) [.ret (.k (.bool false))] [], .ret (.p .all [.lc [1] (.nm 1) 0 [.v 0] [] (.p .isin [.v 1, .p .add [.g "LETTERS", .g "DIGITS"]])])]⟩
def R_is_name : DL.Row := ⟨"is_name", none, "is_name", defOf "is_name", ["thing", "sign"], D_is_name⟩
def D_is_sized : FDef := ⟨2, 2, [.ret (.and (.p (.isi "tuple") [.v 0]) (.p .eq [.p .len [.v 0], .v 1]))]⟩
def R_is_sized : DL.Row := ⟨"is_sized", none, "is_sized", defOf "is_sized", ["thing", "many"], D_is_sized⟩
def D_is_step : FDef := ⟨1, 1, [.ret (.and (.call "is_sized" [.v 0, .k (.int 2)]) (.and (.call "is_name" [.p .ix [.v 0, .k (.int 0)]]) (.and (.call "is_number" [.p .ix [.v 0, .k (.int 1)]]) (.p .isin [.p .ix [.v 0, .k (.int 1)], .p .tup [.k (.int 1), .p .neg [.k (.int 1)]]]))))]⟩
def R_is_step : DL.Row := ⟨"is_step", none, "is_step", defOf "is_step", ["thing"], D_is_step⟩
def D_contrary : FDef := ⟨1, 1, [.ret (.p .tup [.p .ix [.v 0, .k (.int 0)], .p .sub [.k (.int 0), .p .ix [.v 0, .k (.int 1)]]])]⟩
def R_contrary : DL.Row := ⟨"contrary", none, "contrary", defOf "contrary", ["step"], D_contrary⟩
def D_undoing : FDef := ⟨1, 2, [.ret (.p .tuple [.lc [1] (.nm 1) 0 [.p .rev [.v 0]] [] (.call "contrary" [.v 1])])]⟩
def R_undoing : DL.Row := ⟨"undoing", none, "undoing", defOf "undoing", ["row", "step"], D_undoing⟩
def D_is_way : FDef := ⟨1, 1, [.ret (.and (.p (.isi "int") [.v 0]) (.and (.not (.p (.isi "bool") [.v 0])) (.p .eq [.p .abs [.v 0], .k (.int 1)])))]⟩
def R_is_way : DL.Row := ⟨"is_way", none, "is_way", defOf "is_way", ["thing"], D_is_way⟩
def D_is_deed_form : FDef := ⟨1, 1, [.ite (.or (.not (.p (.isi "tuple") [.v 0])) (.or (.p .eq [.v 0, .p .tup []]) (.not (.p (.isi "str") [.p .ix [.v 0, .k (.int 0)]])))) [.ret (.k (.bool false))] [], .ite (.p .eq [.p .ix [.v 0, .k (.int 0)], .k (.str (so "do"))]) [.ret (.and (.p .eq [.p .len [.v 0], .k (.int 2)]) (.call "is_step" [.p .ix [.v 0, .k (.int 1)]]))] [], .ret (.and (.p .eq [.p .ix [.v 0, .k (.int 0)], .k (.str (so "macro"))]) (.and (.p .eq [.p .len [.v 0], .k (.int 3)]) (.and (.call "is_index" [.p .ix [.v 0, .k (.int 1)]]) (.call "is_way" [.p .ix [.v 0, .k (.int 2)]]))))]⟩
def R_is_deed_form : DL.Row := ⟨"is_deed_form", none, "is_deed_form", defOf "is_deed_form", ["thing"], D_is_deed_form⟩
def D_is_entry_form : FDef := ⟨1, 1, [.ite (.call "is_deed_form" [.v 0]) [.ret (.k (.bool true))] [], .ite (.or (.not (.p (.isi "tuple") [.v 0])) (.or (.p .ne [.p .len [.v 0], .k (.int 1)]) (.not (.p (.isi "str") [.p .ix [.v 0, .k (.int 0)]])))) [.ret (.k (.bool false))] [], .ret (.p .isin [.p .ix [.v 0, .k (.int 0)], .g "TURNS"])]⟩
def R_is_entry_form : DL.Row := ⟨"is_entry_form", none, "is_entry_form", defOf "is_entry_form", ["thing"], D_is_entry_form⟩
def D_Desk___init__ : FDef := ⟨1, 1, [.setfld 0 "deeds" (.p .lst []), .setfld 0 "gone" (.p .lst [])]⟩
def R_Desk___init__ : DL.Row := ⟨"Desk.__init__", some "Desk", "__init__", methOf "Desk" "__init__", ["self"], D_Desk___init__⟩
def D_Desk_fault : FDef := ⟨2, 2, [.ite (.and (.p .eq [.p .ix [.v 1, .k (.int 0)], .k (.str (so "undo"))]) (.p .eq [.fld 0 "deeds", .p .lst []])) [.ret (.k (.str (so "undo")))] [], .ret (.ite (.and (.p .eq [.p .ix [.v 1, .k (.int 0)], .k (.str (so "redo"))]) (.p .eq [.fld 0 "gone", .p .lst []])) (.k (.str (so "redo"))) (.k .none))]⟩
def R_Desk_fault : DL.Row := ⟨"Desk.fault", some "Desk", "fault", methOf "Desk" "fault", ["self", "entry"], D_Desk_fault⟩
def D_Desk_do : FDef := ⟨2, 2, [.ite (.p .eq [.p .ix [.v 1, .k (.int 0)], .k (.str (so "undo"))]) [.ex (.m .append (.fld 0 "gone") [.m .pop (.fld 0 "deeds") []]), .ret (.p .tup [.p .ix [.fld 0 "gone", .p .neg [.k (.int 1)]], .p .neg [.k (.int 1)]])] [], .ite (.p .eq [.p .ix [.v 1, .k (.int 0)], .k (.str (so "redo"))]) [.ex (.m .append (.fld 0 "deeds") [.m .pop (.fld 0 "gone") []])] [.ex (.m .append (.fld 0 "deeds") [.v 1]), .setfld 0 "gone" (.p .lst [])], .ret (.p .tup [.p .ix [.fld 0 "deeds", .p .neg [.k (.int 1)]], .k (.int 1)])]⟩
def R_Desk_do : DL.Row := ⟨"Desk.do", some "Desk", "do", methOf "Desk" "do", ["self", "entry"], D_Desk_do⟩
def D_entry_fault : FDef := ⟨3, 3, [.ite (.not (.call "is_entry_form" [.v 2])) [.ret (.k (.str (so "entry")))] [], .ite (.and (.p .eq [.p .ix [.v 2, .k (.int 0)], .k (.str (so "macro"))]) (.p .ge [.p .ix [.v 2, .k (.int 1)], .p .len [.v 0]])) [.ret (.k (.str (so "macro")))] [], .ret (.om "fault" 1 [.v 2])]⟩
def R_entry_fault : DL.Row := ⟨"entry_fault", none, "entry_fault", defOf "entry_fault", ["book", "desk", "entry"], D_entry_fault⟩
def D_checked_history : FDef := ⟨2, 6, [.ite (.not (.p (.isi "tuple") [.v 1])) [.raise "BadRow" [.p .neg [.k (.int 1)], .k (.str (so "form"))]] [], .ite (.p .gt [.p .len [.v 1], .g "MOST_ENTRIES"]) [.raise "TooLarge" [.k (.str (so "entries")), .g "MOST_ENTRIES"]] [], .asg (.nm 2) (.mk "Desk" []), .for_ (.tp [.nm 3, .nm 4]) 2 [.v 1] [.asg (.nm 5) (.call "entry_fault" [.v 0, .v 2, .v 4]), .ite (.p .notN [.v 5]) [.raise "BadRow" [.v 3, .v 5]] [], .ex (.om "do" 2 [.v 4])], .ret (.v 1)]⟩
def R_checked_history : DL.Row := ⟨"checked_history", none, "checked_history", defOf "checked_history", ["book", "thing", "desk", "index", "entry", "fault"], D_checked_history⟩
def D_desk_behind : FDef := ⟨1, 3, [.asg (.nm 1) (.mk "Desk" []), .for_ (.nm 2) 0 [.v 0] [.ex (.om "do" 1 [.v 2])], .ret (.v 1)]⟩
def R_desk_behind : DL.Row := ⟨"desk_behind", none, "desk_behind", defOf "desk_behind", ["history", "desk", "entry"], D_desk_behind⟩
def D_standing : FDef := ⟨1, 1, [.ret (.p .tuple [.fldT (.call "desk_behind" [.v 0]) "deeds"])]⟩
def R_standing : DL.Row := ⟨"standing", none, "standing", defOf "standing", ["history"], D_standing⟩
def D_to_redo : FDef := ⟨1, 1, [.ret (.p .tuple [.fldT (.call "desk_behind" [.v 0]) "gone"])]⟩
def R_to_redo : DL.Row := ⟨"to_redo", none, "to_redo", defOf "to_redo", ["history"], D_to_redo⟩
def D_without_undos : FDef := ⟨1, 1, [.ret (.call "standing" [.v 0])]⟩
def R_without_undos : DL.Row := ⟨"without_undos", none, "without_undos", defOf "without_undos", ["history"], D_without_undos⟩
def D_row_of : FDef := ⟨2, 2, [.ite (.p .eq [.p .ix [.v 1, .k (.int 0)], .k (.str (so "do"))]) [.ret (.p .tup [.p .ix [.v 1, .k (.int 1)]])] [], .ret (.ite (.p .eq [.p .ix [.v 1, .k (.int 2)], .k (.int 1)]) (.p .ix [.v 0, .p .ix [.v 1, .k (.int 1)]]) (.call "undoing" [.p .ix [.v 0, .p .ix [.v 1, .k (.int 1)]]]))]⟩
def R_row_of : DL.Row := ⟨"row_of", none, "row_of", defOf "row_of", ["book", "deed"], D_row_of⟩
def D_row_of_deeds : FDef := ⟨2, 4, [.ret (.p .tuple [.lc2 [2, 3] [3] (.nm 2) 0 [.v 1] (.nm 3) 0 [.call "row_of" [.v 0, .v 2]] [] (.v 3)])]⟩
def R_row_of_deeds : DL.Row := ⟨"row_of_deeds", none, "row_of_deeds", defOf "row_of_deeds", ["book", "deeds", "deed", "step"], D_row_of_deeds⟩
def D_row_done : FDef := ⟨2, 8, [.par [2, 3] [.mk "Desk" [], .p .lst []], .for_ (.nm 4) 0 [.v 1] [.asg (.tp [.nm 5, .nm 6]) (.om "do" 2 [.v 4]), .asg (.nm 7) (.call "row_of" [.v 0, .v 5]), .ex (.m .extend (.v 3) [.ite (.p .eq [.v 6, .k (.int 1)]) (.v 7) (.call "undoing" [.v 7])])], .ret (.p .tuple [.v 3])]⟩
def R_row_done : DL.Row := ⟨"row_done", none, "row_done", defOf "row_done", ["book", "history", "desk", "found", "entry", "deed", "way", "row"], D_row_done⟩
def D__law_reserved : FDef := ⟨0, 1, [.asg (.nm 0) (.k (.str (so "book chart command do editor from is macro made of row state step then to turn undo"))), .ret (.m .split (.v 0) [.k (.str (so " "))])]⟩
def R__law_reserved : DL.Row := ⟨"_law_reserved", none, "_law_reserved", defOf "_law_reserved", ["words"], D__law_reserved⟩
def D__law_is_number : FDef := ⟨1, 1, [.ret (.and (.p (.isi "int") [.v 0]) (.not (.p (.isi "bool") [.v 0])))]⟩
def R__law_is_number : DL.Row := ⟨"_law_is_number", none, "_law_is_number", defOf "_law_is_number", ["thing"], D__law_is_number⟩
def D__law_is_index : FDef := ⟨1, 1, [.ret (.and (.call "_law_is_number" [.v 0]) (.p .ge [.v 0, .k (.int 0)]))]⟩
def R__law_is_index : DL.Row := ⟨"_law_is_index", none, "_law_is_index", defOf "_law_is_index", ["thing"], D__law_is_index⟩
def D__law_is_name : FDef := ⟨1, 3, [.ite (.or (.not (.p (.isi "str") [.v 0])) (.or (.not (.chn .le .le (.k (.int 1)) (.p .len [.v 0]) (.k (.int 8)))) (.p .isin [.v 0, .call "_law_reserved" []]))) [.ret (.k (.bool false))] [], .asg (.nm 1) (.k (.str (so "abcdefghijklmnopqrstuvwxyz"))), .ret (.and (.p .isin [.p .ix [.v 0, .k (.int 0)], .v 1]) (.p .eq [.lc [2] (.nm 2) 0 [.v 0] [.p .notin [.v 2, .p .add [.v 1, .k (.str (so "0123456789"))]]] (.v 2), .p .lst []]))]⟩
def R__law_is_name : DL.Row := ⟨"_law_is_name", none, "_law_is_name", defOf "_law_is_name", ["thing", "letters", "sign"], D__law_is_name⟩
def D__law_is_way : FDef := ⟨1, 1, [.ret (.and (.call "_law_is_number" [.v 0]) (.p .isin [.v 0, .p .tup [.k (.int 1), .p .neg [.k (.int 1)]]]))]⟩
def R__law_is_way : DL.Row := ⟨"_law_is_way", none, "_law_is_way", defOf "_law_is_way", ["thing"], D__law_is_way⟩
def D__law_is_step : FDef := ⟨1, 1, [.ret (.and (.p (.isi "tuple") [.v 0]) (.and (.p .eq [.p .len [.v 0], .k (.int 2)]) (.and (.call "_law_is_name" [.p .ix [.v 0, .k (.int 0)]]) (.call "_law_is_way" [.p .ix [.v 0, .k (.int 1)]]))))]⟩
def R__law_is_step : DL.Row := ⟨"_law_is_step", none, "_law_is_step", defOf "_law_is_step", ["thing"], D__law_is_step⟩
def D__law_odd : FDef := ⟨1, 2, [.asg (.nm 1) (.p .lst [.k .none, .k (.bool true), .k (.bool false), .k (.int 0), .k (.int 1), .p .neg [.k (.int 1)], .k (.int 2), .p .pow [.k (.int 10), .k (.int 30)], .k (.str (so "")), .k (.str (so "x")), .k (.str (so "a9")), .k (.str (so "aB")), .k (.str (so "9a")), .k (.str (so "undo")), .k (.str (so "a2345678")), .k (.str (so "a23456789")), .p .tup [], .p .tup [.p .tup []], .p .lst [], .p .lst [.k (.str (so "x"))], .p .dct [], .p .tup [.k (.str (so "a")), .k (.int 1)], .p .tup [.k (.str (so "a")), .p .neg [.k (.int 1)]], .p .tup [.k (.str (so "a")), .k (.int 0)]]), .asg (.nm 1) (.p .add [.v 1, .p .lst [.p .tup [.k (.str (so "a")), .k (.bool true)], .p .tup [.k (.str (so "undo")), .k (.int 1)], .p .tup [.p .tup [.k (.str (so "a")), .k (.int 1)]], .p .tup [.p .tup [.k (.str (so "a")), .k (.int 1)], .p .tup [.k (.str (so "b")), .k (.int 2)]], .p .tup [.k (.int 0), .p .tup []], .p .tup [.k (.int 1), .p .tup [.p .tup [.k (.str (so "a")), .p .tup [.k (.int 0)]]]], .p .tup [.k (.int 2), .p .tup [.p .tup [.k (.int 0), .k (.str (so "a")), .k (.int 1)]]], .p .tup [.k (.bool true), .p .tup []], .p .tup [.k (.int 1), .p .tup [.p .tup [.k (.str (so "a")), .k (.int 0)]]], .p .lst [.p .tup [.k (.str (so "a")), .k (.int 1)]]]]), .ret (.call "_law_some" [.v 0, .p .add [.v 1, .p .lst [.p .tup [.p .tup [.p .tup [.k (.str (so "a")), .k (.int 1)]]], .p .tup [.k (.int 1), .p .tup [.p .tup [.k (.int 0), .k (.str (so "do")), .k (.int 0)]]], .p .tup [.k (.int 1), .p .tup [.p .tup [.k (.str (so "to")), .p .tup [.k (.int 0)]]]]]]])]⟩
def R__law_odd : DL.Row := ⟨"_law_odd", none, "_law_odd", defOf "_law_odd", ["bag", "lots"], D__law_odd⟩
def D__law_small_book : FDef := ⟨1, 3, [.ret (.p .tuple [.lc [1] (.nm 1) 1 [.call "_law_take" [.v 0, .k (.int 4)]] [] (.p .tuple [.lc [2] (.nm 2) 1 [.call "_law_take" [.v 0, .k (.int 5)]] [] (.p .tup [.call "_law_some" [.v 0, .p .lst [.k (.str (so "a")), .k (.str (so "b"))]], .call "_law_some" [.v 0, .p .lst [.k (.int 1), .k (.int 1), .p .neg [.k (.int 1)]]]])])])]⟩
def R__law_small_book : DL.Row := ⟨"_law_small_book", none, "_law_small_book", defOf "_law_small_book", ["bag", "k", "j"], D__law_small_book⟩
def D__law_bag : FDef := ⟨1, 2, [.ret (.p .lst [.k (.int 0), .k (.int 1234567891), .k (.int 0), .lc [1] (.nm 1) 0 [.p (.sl false true) [.v 0, .k (.int 63)]] [] (.p .abs [.v 1])])]⟩
def R__law_bag : DL.Row := ⟨"_law_bag", none, "_law_bag", defOf "_law_bag", ["script", "cell"], D__law_bag⟩
def D__law_take : FDef := ⟨2, 7, [.ite (.p .eq [.p .ix [.v 0, .k (.int 0)], .k (.int 0)]) [.asg (.nm 2) (.p .ix [.p .add [.p (.sl true false) [.p .ix [.v 0, .k (.int 3)], .p .ix [.v 0, .k (.int 2)]], .p .lst [.k (.int 0)]], .k (.int 0)]), .augix (.v 0) (.k (.int 2)) .add (.k (.int 1)), .ite (.p .ge [.v 2, .p .pow [.k (.int 10), .k (.int 18)]]) [.setix (.v 0) (.k (.int 0)) (.v 2)] [], .asg (.nm 3) (.p .add [.p .add [.p .mul [.p .ix [.v 0, .k (.int 1)], .k (.int 48271)], .p .mod [.p .int [.v 2], .k (.int 2147483647)]], .p .mul [.k (.int 7919), .p .ix [.v 0, .k (.int 2)]]]), .setix (.v 0) (.k (.int 1)) (.p .mod [.p .int [.v 3], .k (.int 2147483647)])] [], .ite (.p .gt [.p .ix [.v 0, .k (.int 0)], .k (.int 0)]) [.asg (.nm 4) (.p .mod [.p .int [.p .ix [.v 0, .k (.int 0)]], .v 1]), .setix (.v 0) (.k (.int 0)) (.p .fdiv [.p .int [.p .ix [.v 0, .k (.int 0)]], .v 1]), .ret (.v 4)] [], .asg (.nm 5) (.p .mod [.p .int [.p .mul [.p .add [.p .ix [.v 0, .k (.int 1)], .k (.int 1)], .k (.int 39373)]], .k (.int 1000000007)]), .asg (.nm 6) (.p .mod [.p .int [.p .mul [.p .mod [.p .int [.p .mul [.v 5, .v 5]], .k (.int 998244353)], .k (.int 30011)]], .k (.int 998244353)]), .ret (.p .mod [.p .int [.p .fdiv [.v 6, .k (.int 7)]], .v 1])]⟩
def R__law_take : DL.Row := ⟨"_law_take", none, "_law_take", defOf "_law_take", ["bag", "many", "cell", "stirred", "value", "begin", "second"], D__law_take⟩
def D__law_some : FDef := ⟨2, 2, [.ret (.p .ix [.v 1, .call "_law_take" [.v 0, .p .len [.v 1]]])]⟩
def R__law_some : DL.Row := ⟨"_law_some", none, "_law_some", defOf "_law_some", ["bag", "things"], D__law_some⟩
def D__law_alike : FDef := ⟨2, 2, [.ret (.and (.p .eq [.p .repr [.v 0], .p .repr [.v 1]]) (.p .eq [.v 0, .v 1]))]⟩
def R__law_alike : DL.Row := ⟨"_law_alike", none, "_law_alike", defOf "_law_alike", ["found", "due"], D__law_alike⟩
def D__law_contrary : FDef := ⟨1, 1, [.ret (.p .tup [.p .ix [.v 0, .k (.int 0)], .p .sub [.k (.int 0), .p .ix [.v 0, .k (.int 1)]]])]⟩
def R__law_contrary : DL.Row := ⟨"_law_contrary", none, "_law_contrary", defOf "_law_contrary", ["step"], D__law_contrary⟩
def D__law_undoing : FDef := ⟨1, 2, [.ret (.p .tuple [.lc [1] (.nm 1) 0 [.p .rev [.v 0]] [] (.call "_law_contrary" [.v 1])])]⟩
def R__law_undoing : DL.Row := ⟨"_law_undoing", none, "_law_undoing", defOf "_law_undoing", ["row", "step"], D__law_undoing⟩
def D__law_short : FDef := ⟨1, 3, [.asg (.nm 1) (.p .lst []), .for_ (.nm 2) 0 [.v 0] [.ite (.and (.p .ne [.v 1, .p .lst []]) (.p .eq [.p .ix [.v 1, .p .neg [.k (.int 1)]], .call "_law_contrary" [.v 2]])) [.ex (.m .pop (.v 1) [])] [.ex (.m .append (.v 1) [.v 2])]], .ret (.p .tuple [.v 1])]⟩
def R__law_short : DL.Row := ⟨"_law_short", none, "_law_short", defOf "_law_short", ["row", "found", "step"], D__law_short⟩
def D__law_come_to : FDef := ⟨2, 3, [.try_ [.ret (.p .tup [.k (.str (so "told")), .call "checked_history" [.v 0, .v 1]])] [(["BadRow"], some 2, [.ret (.p .tup [.k (.str (so "row")), .fld 2 "index", .fld 2 "fault"])]), (["TooLarge"], some 2, [.ret (.p .tup [.k (.str (so "large")), .fld 2 "what", .fld 2 "limit"])])]]⟩
def R__law_come_to : DL.Row := ⟨"_law_come_to", none, "_law_come_to", defOf "_law_come_to", ["book", "thing", "error"], D__law_come_to⟩
def D__law_is_entry : FDef := ⟨1, 1, [.ite (.or (.not (.p (.isi "tuple") [.v 0])) (.or (.p .eq [.v 0, .p .tup []]) (.not (.p (.isi "str") [.p .ix [.v 0, .k (.int 0)]])))) [.ret (.k (.bool false))] [], .ite (.p .isin [.p .ix [.v 0, .k (.int 0)], .p .tup [.k (.str (so "undo")), .k (.str (so "redo"))]]) [.ret (.p .eq [.p .len [.v 0], .k (.int 1)])] [], .ite (.p .eq [.p .ix [.v 0, .k (.int 0)], .k (.str (so "do"))]) [.ret (.and (.p .eq [.p .len [.v 0], .k (.int 2)]) (.call "_law_is_step" [.p .ix [.v 0, .k (.int 1)]]))] [], .ret (.and (.p .eq [.p .ix [.v 0, .k (.int 0)], .k (.str (so "macro"))]) (.and (.p .eq [.p .len [.v 0], .k (.int 3)]) (.and (.call "_law_is_index" [.p .ix [.v 0, .k (.int 1)]]) (.call "_law_is_way" [.p .ix [.v 0, .k (.int 2)]]))))]⟩
def R__law_is_entry : DL.Row := ⟨"_law_is_entry", none, "_law_is_entry", defOf "_law_is_entry", ["thing"], D__law_is_entry⟩
def D__law_row_of_deed : FDef := ⟨2, 2, [.ite (.p .eq [.p .ix [.v 1, .k (.int 0)], .k (.str (so "do"))]) [.ret (.p .tup [.p .ix [.v 1, .k (.int 1)]])] [], .ret (.ite (.p .eq [.p .ix [.v 1, .k (.int 2)], .k (.int 1)]) (.p .ix [.v 0, .p .ix [.v 1, .k (.int 1)]]) (.call "_law_undoing" [.p .ix [.v 0, .p .ix [.v 1, .k (.int 1)]]]))]⟩
def R__law_row_of_deed : DL.Row := ⟨"_law_row_of_deed", none, "_law_row_of_deed", defOf "_law_row_of_deed", ["book", "deed"], D__law_row_of_deed⟩
def D__law_gone_along : FDef := ⟨2, 7, [.asg (.tp [.nm 2, .nm 3, .nm 4]) (.p .tup [.p .tup [], .p .tup [], .p .tup []]), .for_ (.tp [.nm 5, .nm 6]) 2 [.v 1] [.ite (.not (.call "_law_is_entry" [.v 6])) [.ret (.p .tup [.p .tup [.k (.str (so "row")), .v 5, .k (.str (so "entry"))], .v 2, .v 3, .v 4])] [], .ite (.and (.p .eq [.p .ix [.v 6, .k (.int 0)], .k (.str (so "macro"))]) (.p .ge [.p .ix [.v 6, .k (.int 1)], .p .len [.v 0]])) [.ret (.p .tup [.p .tup [.k (.str (so "row")), .v 5, .k (.str (so "macro"))], .v 2, .v 3, .v 4])] [], .ite (.p .eq [.p .ix [.v 6, .k (.int 0)], .k (.str (so "undo"))]) [.ite (.p .eq [.v 2, .p .tup []]) [.ret (.p .tup [.p .tup [.k (.str (so "row")), .v 5, .k (.str (so "undo"))], .v 2, .v 3, .v 4])] [], .par [2, 3, 4] [.p (.sl false true) [.v 2, .p .neg [.k (.int 1)]], .p .add [.v 3, .p (.sl true false) [.v 2, .p .neg [.k (.int 1)]]], .p .add [.v 4, .call "_law_undoing" [.call "_law_row_of_deed" [.v 0, .p .ix [.v 2, .p .neg [.k (.int 1)]]]]]]] [.ite (.p .eq [.p .ix [.v 6, .k (.int 0)], .k (.str (so "redo"))]) [.ite (.p .eq [.v 3, .p .tup []]) [.ret (.p .tup [.p .tup [.k (.str (so "row")), .v 5, .k (.str (so "redo"))], .v 2, .v 3, .v 4])] [], .par [2, 3, 4] [.p .add [.v 2, .p (.sl true false) [.v 3, .p .neg [.k (.int 1)]]], .p (.sl false true) [.v 3, .p .neg [.k (.int 1)]], .p .add [.v 4, .call "_law_row_of_deed" [.v 0, .p .ix [.v 3, .p .neg [.k (.int 1)]]]]]] [.par [2, 3, 4] [.p .add [.v 2, .p .tup [.v 6]], .p .tup [], .p .add [.v 4, .call "_law_row_of_deed" [.v 0, .v 6]]]]]], .ret (.p .tup [.k .none, .v 2, .v 3, .v 4])]⟩
def R__law_gone_along : DL.Row := ⟨"_law_gone_along", none, "_law_gone_along", defOf "_law_gone_along", ["book", "history", "deeds", "gone", "steps", "k", "entry"], D__law_gone_along⟩
def D__law_entry : FDef := ⟨2, 3, [.asg (.nm 2) (.call "_law_some" [.v 0, .p .lst [.k (.str (so "do")), .k (.str (so "do")), .k (.str (so "macro")), .k (.str (so "macro")), .k (.str (so "undo")), .k (.str (so "undo")), .k (.str (so "redo"))]]), .ite (.p .isin [.v 2, .p .tup [.k (.str (so "undo")), .k (.str (so "redo"))]]) [.ret (.p .tup [.v 2])] [], .ite (.or (.p .eq [.v 2, .k (.str (so "do"))]) (.p .eq [.v 1, .p .tup []])) [.ret (.p .tup [.k (.str (so "do")), .p .tup [.call "_law_some" [.v 0, .p .lst [.k (.str (so "a")), .k (.str (so "b"))]], .call "_law_some" [.v 0, .p .lst [.k (.int 1), .p .neg [.k (.int 1)]]]]])] [], .ret (.p .tup [.k (.str (so "macro")), .call "_law_take" [.v 0, .p .len [.v 1]], .call "_law_some" [.v 0, .p .lst [.k (.int 1), .k (.int 1), .p .neg [.k (.int 1)]]]])]⟩
def R__law_entry : DL.Row := ⟨"_law_entry", none, "_law_entry", defOf "_law_entry", ["bag", "book", "word"], D__law_entry⟩
def D__law_history : FDef := ⟨3, 6, [.asg (.nm 3) (.p .tup []), .for_ (.nm 4) 1 [.call "_law_take" [.v 0, .p .add [.v 2, .k (.int 1)]]] [.asg (.nm 5) (.call "_law_entry" [.v 0, .v 1]), .asg (.nm 3) (.p .add [.v 3, .ite (.p .isN [.p .ix [.call "_law_gone_along" [.v 1, .p .add [.v 3, .p .tup [.v 5]]], .k (.int 0)]]) (.p .tup [.v 5]) (.p .tup [])])], .ret (.v 3)]⟩
def R__law_history : DL.Row := ⟨"_law_history", none, "_law_history", defOf "_law_history", ["bag", "book", "most", "found", "k", "entry"], D__law_history⟩
def D_law : FDef := ⟨1, 17, [.asg (.nm 1) (.call "_law_bag" [.v 0]), .for_ (.nm 2) 1 [.k (.int 6)] [.asg (.nm 3) (.call "_law_small_book" [.v 1]), .asg (.nm 4) (.call "_law_history" [.v 1, .v 3, .k (.int 12)]), .asg (.tp [.nm 5, .nm 6, .nm 7, .nm 8]) (.call "_law_gone_along" [.v 3, .v 4]), .ite (.or (.p .notN [.v 5]) (.not (.call "_law_alike" [.call "_law_come_to" [.v 3, .v 4], .p .tup [.k (.str (so "told")), .v 4]]))) [.ret (.k (.bool false))] [], .asg (.nm 9) (.p .sumL [.lc [16] (.nm 16) 0 [.v 6] [] (.p .list [.call "_law_row_of_deed" [.v 3, .v 16]])]), .asg (.nm 10) (.p .lst [.call "standing" [.v 4], .call "to_redo" [.v 4], .call "row_of_deeds" [.v 3, .v 6], .call "row_done" [.v 3, .v 4], .call "without_undos" [.v 4]]), .ite (.or (.not (.call "_law_alike" [.v 10, .p .lst [.v 6, .v 7, .p .tuple [.v 9], .v 8, .v 6]])) (.p .ne [.call "_law_short" [.v 8], .call "_law_short" [.p .tuple [.v 9]]])) [.ret (.k (.bool false))] [], .asg (.nm 11) (.call "_law_take" [.v 1, .p .add [.p .len [.v 4], .k (.int 1)]]), .asg (.nm 12) (.p .lst [.p .tup [.k (.str (so "undo"))], .p .tup [.k (.str (so "redo"))], .p .tup [.k (.str (so "macro")), .p .len [.v 3], .k (.int 1)], .p .tup [.k (.str (so "macro")), .k (.int 0), .k (.int 2)], .p .tup [.k (.str (so "macro")), .k (.int 0), .k (.bool true)], .p .tup [.k (.str (so "do")), .p .tup [.k (.str (so "a")), .k (.int 0)]], .p .tup [.k (.str (so "do")), .k (.str (so "a"))], .p .tup [.k (.str (so "undo")), .k (.int 1)], .k .none]), .asg (.nm 13) (.call "_law_some" [.v 1, .p .add [.v 12, .p .lst [.p .tup [.k (.str (so "odd"))], .p .lst [.k (.str (so "undo"))], .p .tup [.k (.str (so "do")), .p .tup [.k (.str (so "a")), .k (.int 1)]]]]]), .for_ (.nm 14) 0 [.p .tup [.p .add [.p .add [.p (.sl false true) [.v 4, .v 11], .p .tup [.v 13]], .p (.sl true false) [.v 4, .v 11]], .p (.sl true false) [.v 4, .k (.int 1)], .p .rev [.v 4], .p .list [.v 4], .call "_law_odd" [.v 1], .p .tup [.p .tup [.k (.str (so "undo"))]], .p .tup [.p .tup [.k (.str (so "redo"))]]]] [.asg (.nm 5) (.ite (.p (.isi "tuple") [.v 14]) (.p .ix [.call "_law_gone_along" [.v 3, .v 14], .k (.int 0)]) (.p .tup [.k (.str (so "row")), .p .neg [.k (.int 1)], .k (.str (so "form"))])), .ite (.not (.call "_law_alike" [.call "_law_come_to" [.v 3, .v 14], .ite (.p .isN [.v 5]) (.p .tup [.k (.str (so "told")), .v 14]) (.v 5)])) [.ret (.k (.bool false))] []]], .asg (.nm 15) (.p .tup [.k (.str (so "do")), .p .tup [.k (.str (so "a")), .k (.int 1)]]), .ret (.and (.p .eq [.p .ix [.call "_law_come_to" [.p .tup [], .p .mul [.p .tup [.v 15], .k (.int 400)]], .k (.int 0)], .k (.str (so "told"))]) (.and (.p .eq [.call "_law_come_to" [.p .tup [], .p .mul [.p .tup [.v 15], .k (.int 401)]], .p .tup [.k (.str (so "large")), .k (.str (so "entries")), .k (.int 400)]]) (.p .eq [.call "_law_come_to" [.p .tup [], .p .mul [.p .tup [.p .tup [.k (.str (so "odd"))]], .k (.int 401)]], .p .tup [.k (.str (so "large")), .k (.str (so "entries")), .k (.int 400)]])))]⟩
def R_law : DL.Row := ⟨"law", none, "law", defOf "law", ["script", "bag", "turn", "book", "history", "fault", "deeds", "gone", "steps", "rows", "found", "k", "odds", "odd", "other", "step", "deed"], D_law⟩
def tab : Tab where
  rows := [R__wall, R_is_number, R_is_index, R_is_name, R_is_sized, R_is_step, R_contrary, R_undoing, R_is_way, R_is_deed_form, R_is_entry_form, R_Desk___init__, R_Desk_fault, R_Desk_do, R_entry_fault, R_checked_history, R_desk_behind, R_standing, R_to_redo, R_without_undos, R_row_of, R_row_of_deeds, R_row_done, R__law_reserved, R__law_is_number, R__law_is_index, R__law_is_name, R__law_is_way, R__law_is_step, R__law_odd, R__law_small_book, R__law_bag, R__law_take, R__law_some, R__law_alike, R__law_contrary, R__law_undoing, R__law_short, R__law_come_to, R__law_is_entry, R__law_row_of_deed, R__law_gone_along, R__law_entry, R__law_history, R_law]
  gls := [("LETTERS", .str (so "abcdefghijklmnopqrstuvwxyz")), ("DIGITS", .str (so "0123456789")), ("MOST_LETTERS", .int 8), ("RESERVED", .tuple [.str (so "book"), .str (so "chart"), .str (so "command"), .str (so "do"), .str (so "editor"), .str (so "from"), .str (so "is"), .str (so "macro"), .str (so "made"), .str (so "of"), .str (so "row"), .str (so "state"), .str (so "step"), .str (so "then"), .str (so "to"), .str (so "turn"), .str (so "undo")]), ("MOST_ENTRIES", .int 400), ("TURNS", .tuple [.str (so "undo"), .str (so "redo")])]
  clss := [("Desk", true)]
  excs := [⟨"UndoError", [], .Pass default⟩, ⟨"BadRow", ["index", "fault"], methOf "BadRow" "__init__"⟩, ⟨"TooLarge", ["what", "limit"], methOf "TooLarge" "__init__"⟩]
  isa := [("UndoError", "UndoError"), ("BadRow", "BadRow"), ("BadRow", "UndoError"), ("TooLarge", "TooLarge"), ("TooLarge", "UndoError")]
  bl := ["isinstance", "int", "bool", "len", "str", "tuple", "list", "dict", "all", "any", "sum", "range", "enumerate", "zip", "abs", "repr", "min", "max", "sorted", "set"]
  fls := ["what", "limit", "deeds", "gone"]
  lim := 1000

theorem st_ok : tab.stB = true := by decide +kernel
theorem ck_ok (K : PySem.W.Frag) : (tab.rows.all fun r => ckB r.D.body ⟨r.N.map so, L2.defScope r.st, tab.P, tab.M K, tab.bl.map so, tab.fls⟩ (L2.defBody r.st)) = true := by kernel_rfl
end K02

set_option maxRecDepth 100000
set_option maxHeartbeats 400000
namespace K02
open PySem PySem.Spec DL
@[simp] theorem fn__wall : tab.P.fn "_wall" = some D__wall := by kernel_rfl
@[simp] theorem fn_is_number : tab.P.fn "is_number" = some D_is_number := by kernel_rfl
@[simp] theorem fn_is_index : tab.P.fn "is_index" = some D_is_index := by kernel_rfl
@[simp] theorem fn_is_name : tab.P.fn "is_name" = some D_is_name := by kernel_rfl
@[simp] theorem fn_is_sized : tab.P.fn "is_sized" = some D_is_sized := by kernel_rfl
@[simp] theorem fn_is_step : tab.P.fn "is_step" = some D_is_step := by kernel_rfl
@[simp] theorem fn_contrary : tab.P.fn "contrary" = some D_contrary := by kernel_rfl
@[simp] theorem fn_undoing : tab.P.fn "undoing" = some D_undoing := by kernel_rfl
@[simp] theorem fn_is_way : tab.P.fn "is_way" = some D_is_way := by kernel_rfl
@[simp] theorem fn_is_deed_form : tab.P.fn "is_deed_form" = some D_is_deed_form := by kernel_rfl
@[simp] theorem fn_is_entry_form : tab.P.fn "is_entry_form" = some D_is_entry_form := by kernel_rfl
@[simp] theorem fn_Desk___init__ : tab.P.fn "Desk.__init__" = some D_Desk___init__ := by kernel_rfl
@[simp] theorem fn_Desk_fault : tab.P.fn "Desk.fault" = some D_Desk_fault := by kernel_rfl
@[simp] theorem fn_Desk_do : tab.P.fn "Desk.do" = some D_Desk_do := by kernel_rfl
@[simp] theorem fn_entry_fault : tab.P.fn "entry_fault" = some D_entry_fault := by kernel_rfl
@[simp] theorem fn_checked_history : tab.P.fn "checked_history" = some D_checked_history := by kernel_rfl
@[simp] theorem fn_desk_behind : tab.P.fn "desk_behind" = some D_desk_behind := by kernel_rfl
@[simp] theorem fn_standing : tab.P.fn "standing" = some D_standing := by kernel_rfl
@[simp] theorem fn_to_redo : tab.P.fn "to_redo" = some D_to_redo := by kernel_rfl
@[simp] theorem fn_without_undos : tab.P.fn "without_undos" = some D_without_undos := by kernel_rfl
@[simp] theorem fn_row_of : tab.P.fn "row_of" = some D_row_of := by kernel_rfl
@[simp] theorem fn_row_of_deeds : tab.P.fn "row_of_deeds" = some D_row_of_deeds := by kernel_rfl
@[simp] theorem fn_row_done : tab.P.fn "row_done" = some D_row_done := by kernel_rfl
@[simp] theorem fn__law_reserved : tab.P.fn "_law_reserved" = some D__law_reserved := by kernel_rfl
@[simp] theorem fn__law_is_number : tab.P.fn "_law_is_number" = some D__law_is_number := by kernel_rfl
@[simp] theorem fn__law_is_index : tab.P.fn "_law_is_index" = some D__law_is_index := by kernel_rfl
@[simp] theorem fn__law_is_name : tab.P.fn "_law_is_name" = some D__law_is_name := by kernel_rfl
@[simp] theorem fn__law_is_way : tab.P.fn "_law_is_way" = some D__law_is_way := by kernel_rfl
@[simp] theorem fn__law_is_step : tab.P.fn "_law_is_step" = some D__law_is_step := by kernel_rfl
@[simp] theorem fn__law_odd : tab.P.fn "_law_odd" = some D__law_odd := by kernel_rfl
@[simp] theorem fn__law_small_book : tab.P.fn "_law_small_book" = some D__law_small_book := by kernel_rfl
@[simp] theorem fn__law_bag : tab.P.fn "_law_bag" = some D__law_bag := by kernel_rfl
@[simp] theorem fn__law_take : tab.P.fn "_law_take" = some D__law_take := by kernel_rfl
@[simp] theorem fn__law_some : tab.P.fn "_law_some" = some D__law_some := by kernel_rfl
@[simp] theorem fn__law_alike : tab.P.fn "_law_alike" = some D__law_alike := by kernel_rfl
@[simp] theorem fn__law_contrary : tab.P.fn "_law_contrary" = some D__law_contrary := by kernel_rfl
@[simp] theorem fn__law_undoing : tab.P.fn "_law_undoing" = some D__law_undoing := by kernel_rfl
@[simp] theorem fn__law_short : tab.P.fn "_law_short" = some D__law_short := by kernel_rfl
@[simp] theorem fn__law_come_to : tab.P.fn "_law_come_to" = some D__law_come_to := by kernel_rfl
@[simp] theorem fn__law_is_entry : tab.P.fn "_law_is_entry" = some D__law_is_entry := by kernel_rfl
@[simp] theorem fn__law_row_of_deed : tab.P.fn "_law_row_of_deed" = some D__law_row_of_deed := by kernel_rfl
@[simp] theorem fn__law_gone_along : tab.P.fn "_law_gone_along" = some D__law_gone_along := by kernel_rfl
@[simp] theorem fn__law_entry : tab.P.fn "_law_entry" = some D__law_entry := by kernel_rfl
@[simp] theorem fn__law_history : tab.P.fn "_law_history" = some D__law_history := by kernel_rfl
@[simp] theorem fn_law : tab.P.fn "law" = some D_law := by kernel_rfl
@[simp] theorem gl_LETTERS : tab.P.gl "LETTERS" = some (.str (so "abcdefghijklmnopqrstuvwxyz")) := by kernel_rfl
@[simp] theorem gl_DIGITS : tab.P.gl "DIGITS" = some (.str (so "0123456789")) := by kernel_rfl
@[simp] theorem gl_MOST_LETTERS : tab.P.gl "MOST_LETTERS" = some (.int 8) := by kernel_rfl
@[simp] theorem gl_MOST_ENTRIES : tab.P.gl "MOST_ENTRIES" = some (.int 400) := by kernel_rfl
@[simp] theorem gl_TURNS : tab.P.gl "TURNS" = some (.tuple [.str (so "undo"), .str (so "redo")]) := by kernel_rfl
@[simp] theorem exc_UndoError : tab.P.exc "UndoError" = some [] := by kernel_rfl
@[simp] theorem exc_BadRow : tab.P.exc "BadRow" = some ["index", "fault"] := by kernel_rfl
@[simp] theorem exc_TooLarge : tab.P.exc "TooLarge" = some ["what", "limit"] := by kernel_rfl
@[simp] theorem isa_UndoError_UndoError : tab.P.isa "UndoError" "UndoError" = true := by kernel_rfl
@[simp] theorem isa_UndoError_BadRow : tab.P.isa "UndoError" "BadRow" = false := by kernel_rfl
@[simp] theorem isa_UndoError_TooLarge : tab.P.isa "UndoError" "TooLarge" = false := by kernel_rfl
@[simp] theorem isa_BadRow_UndoError : tab.P.isa "BadRow" "UndoError" = true := by kernel_rfl
@[simp] theorem isa_BadRow_BadRow : tab.P.isa "BadRow" "BadRow" = true := by kernel_rfl
@[simp] theorem isa_BadRow_TooLarge : tab.P.isa "BadRow" "TooLarge" = false := by kernel_rfl
@[simp] theorem isa_TooLarge_UndoError : tab.P.isa "TooLarge" "UndoError" = true := by kernel_rfl
@[simp] theorem isa_TooLarge_BadRow : tab.P.isa "TooLarge" "BadRow" = false := by kernel_rfl
@[simp] theorem isa_TooLarge_TooLarge : tab.P.isa "TooLarge" "TooLarge" = true := by kernel_rfl
@[simp] theorem lim_ : tab.P.lim = 1000 := rfl
@[simp] theorem cls_Desk : tab.P.cls "Desk" = some true := by kernel_rfl
end K02

set_option maxRecDepth 100000
set_option maxHeartbeats 400000
namespace K02
open PySem PySem.Spec DL
def isNum : PyData → Bool
  | .int _ => true
  | _ => false
def isIdx : PyData → Bool
  | .int i => decide (0 ≤ i)
  | _ => false
@[simp] theorem r_is_number (n : Nat) (ρ : Rho) (x : PyData) : callF (evB tab.P (n + 10)) D_is_number [.lf (.d x)] ρ = .ok (.lf (.d (.bool (isNum x)))) ρ := by
  rw [D_is_number, callF_mk]
  cases x <;> simp [isiB, isNum]
@[simp] theorem r_law_is_number (n : Nat) (ρ : Rho) (x : PyData) : callF (evB tab.P (n + 10)) D__law_is_number [.lf (.d x)] ρ = .ok (.lf (.d (.bool (isNum x)))) ρ := by
  rw [D__law_is_number, callF_mk]
  cases x <;> simp [isiB, isNum]
@[simp] theorem r_is_index (n : Nat) (ρ : Rho) (x : PyData) : callF (evB tab.P (n + 20)) D_is_index [.lf (.d x)] ρ = .ok (.lf (.d (.bool (isIdx x)))) ρ := by
  rw [D_is_index, callF_mk]
  cases x <;> simp [isIdx, isNum]
@[simp] theorem r_law_is_index (n : Nat) (ρ : Rho) (x : PyData) : callF (evB tab.P (n + 20)) D__law_is_index [.lf (.d x)] ρ = .ok (.lf (.d (.bool (isIdx x)))) ρ := by
  rw [D__law_is_index, callF_mk]
  cases x <;> simp [isIdx, isNum]
/-! ### names -/
abbrev sLet : Str := so "abcdefghijklmnopqrstuvwxyz"
abbrev sDig : Str := so "0123456789"
def reserved : List PyData := ["book", "chart", "command", "do", "editor", "from", "is", "macro", "made", "of", "row", "state", "step", "then", "to", "turn", "undo"].map fun s => .str (so s)
def nameS (s : Str) : Bool := (decide (1 ≤ s.length) && decide (s.length ≤ 8)) && ((match s.cps.toList with
  | [] => false
  | c :: _ => inS sLet ⟨#[c]⟩) && (!(reserved.any fun z => PyData.eqv z (.str s)) && s.cps.toList.all fun c => inS (sLet ++ sDig) ⟨#[c]⟩))
def isName : PyData → Bool
  | .str s => nameS s
  | _ => false
theorem big_ok : sLet.length + sDig.length ≤ sizeLine := by decide +kernel
theorem res_shaped : SeqAt.shaped (.tuple reserved) = true := by decide +kernel
theorem res_shapedL : SeqAt.shaped (.list reserved) = true := by decide +kernel
theorem size8 {n : Nat} (h : n ≤ 8) : n ≤ sizeLine := Nat.le_trans h (by decide)
@[simp] theorem gl_res : tab.P.gl "RESERVED" = some (.tuple reserved) := by kernel_rfl
@[simp] theorem r_is_name (n : Nat) (ρ : Rho) (x : PyData) {k : Nat} (hk : k ≤ 60) (hx : Nice k x) : callF (evB tab.P (n + 20)) D_is_name [.lf (.d x)] ρ = .ok (.lf (.d (.bool (isName x)))) ρ := by
  rw [D_is_name, callF_mk]
  cases x with
  | str s =>
    have hs : PyData.strOk s = true := by simpa using hx.sh (Nat.le_trans hk (by decide))
    have h2 := big_ok
    by_cases h1 : s.length ≤ 8
    · have hsz : s.length ≤ sizeLine := size8 h1
      by_cases h0 : 1 ≤ s.length
      · obtain ⟨c, cs, hc⟩ : ∃ c cs, s.cps.toList = c :: cs := by
          cases e : s.cps.toList with
          | nil => rw [len_cps, e] at h0; simp at h0
          | cons c cs => exact ⟨c, cs, rfl⟩
        have lc : evE tab.P (n + 17) (.lc [1] (.nm 1) 0 [.v 0] [] (.p .isin [.v 1, .p .add [.g "LETTERS", .g "DIGITS"]])) [.lf (.d (.str s)), .no] = .ok (.lf (.ls (s.cps.toList.map fun c => .bool (inS (sLet ++ sDig) ⟨#[c]⟩)))) [.lf (.d (.str s)), .no] :=
          lc_map (n := n + 16) (ts := [.lf (.d (.str s))]) (fun c => .str ⟨#[c]⟩) _ (by simp) (by simp [signs]) (by simp) (by simp) (fun c hc => by simp [h2]) (by rw [← len_cps]; exact hsz)
        have rs := res_shaped
        have h0i : (1 : Int) ≤ s.length := by omega
        have h1i : ¬ ((8 : Int) < s.length) := by omega
        have sc : PyData.strOk ⟨#[c]⟩ = true := sign_ok hs (by rw [hc]; exact List.mem_cons_self)
        simp [isiB, hsz, h0i, h1i, lc, boolsOf_map, hs, rs, isName, nameS, hc, sc]
        cases ha : inS sLet ⟨#[c]⟩ with
        | false => simp [ha]
        | true =>
          cases hb : reserved.any fun z => z.eqv (.str s) with
          | true => 
            have hb' := List.any_eq_true.mp hb
            simp [ha, hb']
          | false =>
            have hb' : ¬ ∃ x, x ∈ reserved ∧ x.eqv (.str s) = true := fun z => by rw [List.any_eq_true.mpr z] at hb; cases hb
            simp [hb', h0, h1, Function.comp_def]
      · have h0' : s.length = 0 := by omega
        simp [isiB, hsz, h0', isName, nameS]
    · have h1i : (8 : Int) < s.length := by omega
      have h0i : (1 : Int) ≤ s.length := by omega
      have hsz : s.length ≤ sizeLine := hx.strz
      simp [isiB, hsz, h1i, h0i, isName, nameS]
      intro h
      omega
  | _ => simp [isiB, isName]
theorem split_res : pd .split [.d (.str (so "book chart command do editor from is macro made of row state step then to turn undo")), .d (.str (so " "))] = some (.ls reserved) := by kernel_rfl
@[simp] theorem recv_split (x : Str) : recvOk .split (.d (.str x)) = true := rfl
@[simp] theorem recv_append (x : List PyData) : recvOk .append (.ls x) = true := rfl
@[simp] theorem recv_pop (x : List PyData) : recvOk .pop (.ls x) = true := rfl
@[simp] theorem recv_extend (x : List PyData) : recvOk .extend (.ls x) = true := rfl
@[simp] theorem r_law_reserved (n : Nat) (ρ : Rho) : callF (evB tab.P (n + 10)) D__law_reserved [] ρ = .ok (.lf (.ls reserved)) ρ := by
  rw [D__law_reserved, callF_mk]
  simp [split_res]
@[simp] theorem r_law_is_name (n : Nat) (ρ : Rho) (x : PyData) {k : Nat} (hk : k ≤ 60) (hx : Nice k x) : callF (evB tab.P (n + 20)) D__law_is_name [.lf (.d x)] ρ = .ok (.lf (.d (.bool (isName x)))) ρ := by
  rw [D__law_is_name, callF_mk]
  cases x with
  | str s =>
    have hs : PyData.strOk s = true := by simpa using hx.sh (Nat.le_trans hk (by decide))
    have h2 := big_ok
    have hsz : s.length ≤ sizeLine := hx.strz
    by_cases h1 : s.length ≤ 8
    · by_cases h0 : 1 ≤ s.length
      · obtain ⟨c, cs, hc⟩ : ∃ c cs, s.cps.toList = c :: cs := by
          cases e : s.cps.toList with
          | nil => rw [len_cps, e] at h0; simp at h0
          | cons c cs => exact ⟨c, cs, rfl⟩
        have rs := res_shapedL
        have h0i : (1 : Int) ≤ s.length := by omega
        have h1i : ¬ ((8 : Int) < s.length) := by omega
        have sc : PyData.strOk ⟨#[c]⟩ = true := sign_ok hs (by rw [hc]; exact List.mem_cons_self)
        have nsh : SeqAt.shaped (.list []) = true := by decide
        obtain ⟨R, lc, lsh, eqn⟩ : ∃ R, evE tab.P (n + 16) (.lc [2] (.nm 2) 0 [.v 0] [.p .notin [.v 2, .p .add [.v 1, .k (.str (so "0123456789"))]]] (.v 2)) [.lf (.d (.str s)), .lf (.d (.str (so "abcdefghijklmnopqrstuvwxyz"))), .no] = .ok (.lf (.ls R)) [.lf (.d (.str s)), .lf (.d (.str (so "abcdefghijklmnopqrstuvwxyz"))), .no] ∧
            SeqAt.shaped (.list R) = true ∧ PyData.eqv (.list R) (.list []) = s.cps.toList.all fun c => inS (sLet ++ sDig) ⟨#[c]⟩ := by
          refine ⟨_, lc_flt (n := n + 14) (ts := [.lf (.d (.str s))]) (ys := s.cps.toList) (fun c => .str ⟨#[c]⟩) (fun c => !(inS (sLet ++ sDig) ⟨#[c]⟩)) (by simp) (by simp [signs]) (by simp) (by simp) (fun c hc => by simp [h2]) (by rw [← len_cps]; exact hsz), ?_, ?_⟩
          · exact (Lay.lst (k := 0) fun d hd => by
              obtain ⟨c, hc, rfl⟩ := List.mem_map.mp hd
              exact .str (sign_ok hs (List.mem_filter.mp hc).1)).sh (by decide)
          · generalize s.cps.toList = l
            induction l with
            | nil => rfl
            | cons a l ih =>
              cases h : inS (sLet ++ sDig) ⟨#[a]⟩ with
              | true => simp [h]; simpa using ih
              | false => simp [h, PyData.eqv, PyData.eqvAll]
        rw [hc] at eqn
        cases hb : reserved.any fun z => z.eqv (.str s) with
        | true =>
          have hb' := List.any_eq_true.mp hb
          simp [isiB, hsz, h0i, h1i, hs, rs, hb', isName, nameS, hb]
        | false =>
          have hb' : ¬ ∃ x, x ∈ reserved ∧ x.eqv (.str s) = true := fun z => by rw [List.any_eq_true.mpr z] at hb; cases hb
          cases ha : inS sLet ⟨#[c]⟩ with
          | false => simp [isiB, hsz, h0i, h1i, hs, rs, hb', isName, nameS, hb, hc, sc, ha]
          | true =>
            simp [isiB, hsz, h0i, h1i, hs, rs, hb', isName, nameS, hb, hc, sc, ha, lc, lsh, nsh, eqn]
            omega
      · have h0' : s.length = 0 := by omega
        simp [isiB, hsz, h0', isName, nameS]
    · have h1i : (8 : Int) < s.length := by omega
      have h0i : (1 : Int) ≤ s.length := by omega
      simp [isiB, hsz, h1i, h0i, isName, nameS]
      intro h
      omega
  | _ => simp [isiB, isName]
/-! ### steps -/
def isWay : PyData → Bool
  | .int i => decide (i = 1) || decide (i = -1)
  | _ => false
def isStep : PyData → Bool
  | .tuple [c, w] => isName c && isWay w
  | _ => false
@[simp] theorem r_is_sized (n : Nat) (ρ : Rho) (x : PyData) (m : Int) : callF (evB tab.P (n + 10)) D_is_sized [.lf (.d x), .lf (.d (.int m))] ρ = .ok (.lf (.d (.bool (match x with | .tuple xs => decide ((xs.length : Int) = m) | _ => false)))) ρ := by
  rw [D_is_sized, callF_mk]
  cases x with
  | tuple xs => simp [isiB, PyData.eqv]; rfl
  | _ => simp [isiB]
theorem ways_shaped : SeqAt.shaped (.tuple [.int 1, .int (-1)]) = true := by decide
@[simp] theorem r_is_way (n : Nat) (ρ : Rho) (x : PyData) : callF (evB tab.P (n + 20)) D_is_way [.lf (.d x)] ρ = .ok (.lf (.d (.bool (isWay x)))) ρ := by
  rw [D_is_way, callF_mk]
  cases x with
  | int i =>
    simp [isiB, PyData.eqv, isWay]
    split <;> (rw [Bool.eq_iff_iff]; simp; omega)
  | _ => simp [isiB, isWay]
@[simp] theorem r_law_is_way (n : Nat) (ρ : Rho) (x : PyData) : callF (evB tab.P (n + 20)) D__law_is_way [.lf (.d x)] ρ = .ok (.lf (.d (.bool (isWay x)))) ρ := by
  rw [D__law_is_way, callF_mk]
  have h2 : 2 ≤ sizeLine := by decide
  have ws := ways_shaped
  cases x with
  | int i =>
    simp [isNum, PyData.eqv, isWay, h2, ws]
    rw [Bool.eq_iff_iff]; simp; omega
  | _ => simp [isNum, isWay]
@[simp] theorem r_is_step (n : Nat) (ρ : Rho) (x : PyData) {k : Nat} (hk : k ≤ 60) (hx : Nice k x) : callF (evB tab.P (n + 26)) D_is_step [.lf (.d x)] ρ = .ok (.lf (.d (.bool (isStep x)))) ρ := by
  rw [D_is_step, callF_mk]
  have h2 : 2 ≤ sizeLine := by decide
  have ws := ways_shaped
  match x, hx with
  | .tuple [c, w], hx =>
    have hc := hx.untup c (by simp)
    have rn := fun n ρ => r_is_name n ρ c hk hc
    cases w with
    | int i =>
      simp [isStep, rn, isNum, isWay, PyData.eqv, h2, ws]
      split <;> simp_all
      rw [Bool.eq_iff_iff]; simp; omega
    | _ => simp [isStep, rn, isNum, isWay]
  | .tuple [], _ => simp [isStep]
  | .tuple [_], _ => simp [isStep]
  | .tuple (_ :: _ :: _ :: r), _ =>
    simp [isStep]
    intro h
    omega
  | .none, _ => simp [isStep]
  | .bool _, _ => simp [isStep]
  | .int _, _ => simp [isStep]
  | .str _, _ => simp [isStep]
  | .list _, _ => simp [isStep]
  | .dict _, _ => simp [isStep]
end K02

set_option maxRecDepth 100000
set_option maxHeartbeats 1000000
namespace K02
open PySem PySem.Spec DL
@[simp] theorem r_law_is_step (n : Nat) (ρ : Rho) (x : PyData) {k : Nat} (hk : k ≤ 60) (hx : Nice k x) : callF (evB tab.P (n + 26)) D__law_is_step [.lf (.d x)] ρ = .ok (.lf (.d (.bool (isStep x)))) ρ := by
  rw [D__law_is_step, callF_mk]
  match x, hx with
  | .tuple [c, w], hx =>
    have hc := hx.untup c (by simp)
    have rn := fun n ρ => r_law_is_name n ρ c hk hc
    simp [isiB, isStep, rn, PyData.eqv]
    cases isName c <;> simp
  | .tuple [], _ => simp [isiB, isStep, PyData.eqv]
  | .tuple [_], _ => simp [isiB, isStep, PyData.eqv]
  | .tuple (_ :: _ :: _ :: r), _ =>
    have : ¬ ((r.length : Int) + 1 + 1 + 1 = 2) := by omega
    simp [isiB, isStep, PyData.eqv, this]
  | .none, _ => simp [isiB, isStep]
  | .bool _, _ => simp [isiB, isStep]
  | .int _, _ => simp [isiB, isStep]
  | .str _, _ => simp [isiB, isStep]
  | .list _, _ => simp [isiB, isStep]
  | .dict _, _ => simp [isiB, isStep]
abbrev sDo : Str := so "do"
abbrev sMac : Str := so "macro"
abbrev sUndo : Str := so "undo"
abbrev sRedo : Str := so "redo"
theorem ne_do_mac : (sDo == sMac) = false := by decide +kernel
theorem ne_undo_redo : (sUndo == sRedo) = false := by decide +kernel
def isDeed : PyData → Bool
  | .tuple [.str s, x] => s == sDo && isStep x
  | .tuple [.str s, i, w] => s == sMac && (isIdx i && isWay w)
  | _ => false
def isTurn : PyData → Bool
  | .tuple [.str s] => s == sUndo || s == sRedo
  | _ => false
def isEnt (x : PyData) : Bool := isDeed x || isTurn x
theorem str_sh {s : Str} {k : Nat} (hk : k ≤ 60) (h : Nice k (.str s)) : PyData.strOk s = true := by simpa using h.sh (Nat.le_trans hk (by decide))
theorem ok_do : PyData.strOk (so "do") = true := by decide +kernel
theorem ok_mac : PyData.strOk (so "macro") = true := by decide +kernel
theorem ok_undo : PyData.strOk (so "undo") = true := by decide +kernel
theorem ok_redo : PyData.strOk (so "redo") = true := by decide +kernel
theorem nil_sh : SeqAt.shaped (.tuple []) = true := by decide
theorem turns_sh : SeqAt.shaped (.tuple [.str (so "undo"), .str (so "redo")]) = true := by decide +kernel
theorem sz0 : 0 ≤ sizeLine := Nat.zero_le _
theorem sz2 : 2 ≤ sizeLine := by decide
@[simp] theorem r_is_deed_form (n : Nat) (ρ : Rho) (x : PyData) {k : Nat} (hk : k ≤ 60) (hx : Nice k x) : callF (evB tab.P (n + 32)) D_is_deed_form [.lf (.d x)] ρ = .ok (.lf (.d (.bool (isDeed x)))) ρ := by
  rw [D_is_deed_form, callF_mk]
  have hs := hx.sh (Nat.le_trans hk (by decide))
  have o1 := ok_do
  have o2 := ok_mac
  have e0 := nil_sh
  have z0 := sz0
  match x, hx with
  | .tuple [], _ => simp [isiB, isDeed, e0, PyData.eqv, PyData.eqvAll]
  | .tuple (.str s :: r), hx =>
    have ss := str_sh hk (hx.untup (.str s) (by simp))
    have nd := ne_do_mac
    by_cases h1 : s = so "do"
    · subst h1
      have nd' : ¬ (so "do" = so "macro") := by simpa using nd
      match r, hx with
      | [], _ => simp [isiB, isDeed, e0, hs, o1, o2, PyData.eqv, PyData.eqvAll]
      | [y], hx =>
        have hy := hx.untup y (by simp)
        have ry := fun n ρ => r_is_step n ρ y hk hy
        simp [isiB, isDeed, e0, hs, o1, o2, PyData.eqv, PyData.eqvAll, ry]
      | [y, z], hx => simp [isiB, isDeed, e0, hs, o1, o2, PyData.eqv, PyData.eqvAll, nd]
      | a :: b :: c :: r, hx =>
        have : ¬ ((r.length : Int) + 1 + 1 + 1 + 1 = 2) := by omega
        simp [isiB, isDeed, e0, hs, o1, o2, PyData.eqv, PyData.eqvAll, this]
    · by_cases h2 : s = so "macro"
      · subst h2
        have nd' : ¬ (so "macro" = so "do") := h1
        match r, hx with
        | [], _ => simp [isiB, isDeed, e0, hs, o1, o2, PyData.eqv, PyData.eqvAll, nd']
        | [y], hx => simp [isiB, isDeed, e0, hs, o1, o2, PyData.eqv, PyData.eqvAll, nd']
        | [y, z], hx =>
          simp [isiB, isDeed, e0, hs, o1, o2, PyData.eqv, PyData.eqvAll, nd']
          cases isIdx y <;> simp
        | a :: b :: c :: r, hx =>
          have : ¬ ((r.length : Int) + 1 + 1 + 1 + 1 = 3) := by omega
          simp [isiB, isDeed, e0, hs, o1, o2, PyData.eqv, PyData.eqvAll, this, nd']
      · match r, hx with
        | [], _ => simp [isiB, isDeed, e0, hs, ss, o1, o2, PyData.eqv, PyData.eqvAll, h1, h2]
        | [y], hx => simp [isiB, isDeed, e0, hs, ss, o1, o2, PyData.eqv, PyData.eqvAll, h1, h2]
        | [y, z], hx => simp [isiB, isDeed, e0, hs, ss, o1, o2, PyData.eqv, PyData.eqvAll, h1, h2]
        | a :: b :: c :: r, hx => simp [isiB, isDeed, e0, hs, ss, o1, o2, PyData.eqv, PyData.eqvAll, h1, h2]
  | .tuple (.none :: r), _ => simp [isiB, isDeed, hs, e0, PyData.eqv, PyData.eqvAll]
  | .tuple (.bool _ :: r), _ => simp [isiB, isDeed, hs, e0, PyData.eqv, PyData.eqvAll]
  | .tuple (.int _ :: r), _ => simp [isiB, isDeed, hs, e0, PyData.eqv, PyData.eqvAll]
  | .tuple (.list _ :: r), _ => simp [isiB, isDeed, hs, e0, PyData.eqv, PyData.eqvAll]
  | .tuple (.tuple _ :: r), _ => simp [isiB, isDeed, hs, e0, PyData.eqv, PyData.eqvAll]
  | .tuple (.dict _ :: r), _ => simp [isiB, isDeed, hs, e0, PyData.eqv, PyData.eqvAll]
  | .none, _ => simp [isiB, isDeed]
  | .bool _, _ => simp [isiB, isDeed]
  | .int _, _ => simp [isiB, isDeed]
  | .str _, _ => simp [isiB, isDeed]
  | .list _, _ => simp [isiB, isDeed]
  | .dict _, _ => simp [isiB, isDeed]
theorem gl_turns : tab.P.gl "TURNS" = some (.tuple [.str (so "undo"), .str (so "redo")]) := by kernel_rfl
@[simp] theorem r_is_entry_form (n : Nat) (ρ : Rho) (x : PyData) {k : Nat} (hk : k ≤ 60) (hx : Nice k x) : callF (evB tab.P (n + 36)) D_is_entry_form [.lf (.d x)] ρ = .ok (.lf (.d (.bool (isEnt x)))) ρ := by
  rw [D_is_entry_form, callF_mk]
  have rd := fun n ρ => r_is_deed_form n ρ x hk hx
  have ts := turns_sh
  cases hd : isDeed x with
  | true => simp [rd, isEnt, hd]
  | false =>
    match x, hx, rd, hd with
    | .tuple [], _, rd, hd => simp [isiB, isEnt, isTurn, hd, rd, PyData.eqv]
    | .tuple [.str s], hx, rd, hd =>
      have ss := str_sh hk (hx.untup (.str s) (by simp))
      simp [isiB, isEnt, isTurn, hd, rd, PyData.eqv, ts, ss]
      rw [Bool.eq_iff_iff]
      simp
      constructor <;> (rintro (h | h) <;> simp [h])
    | .tuple [.none], _, rd, hd => simp [isiB, isEnt, isTurn, hd, rd, PyData.eqv]
    | .tuple [.bool _], _, rd, hd => simp [isiB, isEnt, isTurn, hd, rd, PyData.eqv]
    | .tuple [.int _], _, rd, hd => simp [isiB, isEnt, isTurn, hd, rd, PyData.eqv]
    | .tuple [.list _], _, rd, hd => simp [isiB, isEnt, isTurn, hd, rd, PyData.eqv]
    | .tuple [.tuple _], _, rd, hd => simp [isiB, isEnt, isTurn, hd, rd, PyData.eqv]
    | .tuple [.dict _], _, rd, hd => simp [isiB, isEnt, isTurn, hd, rd, PyData.eqv]
    | .tuple (a :: b :: r), _, rd, hd =>
      have : ¬ ((r.length : Int) + 1 + 1 = 1) := by omega
      simp [isiB, isEnt, isTurn, hd, rd, PyData.eqv, this]
    | .none, _, rd, hd => simp [isiB, isEnt, isTurn, hd, rd]
    | .bool _, _, rd, hd => simp [isiB, isEnt, isTurn, hd, rd]
    | .int _, _, rd, hd => simp [isiB, isEnt, isTurn, hd, rd]
    | .str _, _, rd, hd => simp [isiB, isEnt, isTurn, hd, rd]
    | .list _, _, rd, hd => simp [isiB, isEnt, isTurn, hd, rd]
    | .dict _, _, rd, hd => simp [isiB, isEnt, isTurn, hd, rd]
theorem ne_do_undo : ¬ (so "do" = so "undo") := by decide +kernel
theorem ne_do_redo : ¬ (so "do" = so "redo") := by decide +kernel
theorem ne_mac_undo : ¬ (so "macro" = so "undo") := by decide +kernel
theorem ne_mac_redo : ¬ (so "macro" = so "redo") := by decide +kernel
theorem ne_mac_do : ¬ (so "macro" = so "do") := by decide +kernel
theorem ne_redo_undo : ¬ (so "redo" = so "undo") := by decide +kernel
@[simp] theorem r_law_is_entry (n : Nat) (ρ : Rho) (x : PyData) {k : Nat} (hk : k ≤ 60) (hx : Nice k x) : callF (evB tab.P (n + 36)) D__law_is_entry [.lf (.d x)] ρ = .ok (.lf (.d (.bool (isEnt x)))) ρ := by
  rw [D__law_is_entry, callF_mk]
  have hs := hx.sh (Nat.le_trans hk (by decide))
  have o1 := ok_do
  have o2 := ok_mac
  have o3 := ok_undo
  have o4 := ok_redo
  have e0 := nil_sh
  have ts := turns_sh
  have z2 := sz2
  have n1 := ne_do_undo
  have n2 := ne_do_redo
  have n3 := ne_mac_undo
  have n4 := ne_mac_redo
  have n5 := ne_mac_do
  have n6 := ne_redo_undo
  match x, hx with
  | .tuple [], _ => simp [isiB, isEnt, isDeed, isTurn, e0, PyData.eqv, PyData.eqvAll]
  | .tuple (.str s :: r), hx =>
    have ss := str_sh hk (hx.untup (.str s) (by simp))
    have n1' : ¬ (so "undo" = so "do") := fun h => n1 h.symm
    have n2' : ¬ (so "redo" = so "do") := fun h => n2 h.symm
    have n3' : ¬ (so "undo" = so "macro") := fun h => n3 h.symm
    have n4' : ¬ (so "redo" = so "macro") := fun h => n4 h.symm
    have n5' : ¬ (so "do" = so "macro") := fun h => n5 h.symm
    have n6' : ¬ (so "undo" = so "redo") := fun h => n6 h.symm
    by_cases h3 : s = so "undo"
    · subst h3
      match r, hx with
      | [], _ => simp [isiB, isEnt, isDeed, isTurn, e0, hs, o1, o2, o3, o4, z2, ts, PyData.eqv, PyData.eqvAll, n1', n3', n6']
      | [y], hx =>
        have hy := hx.untup y (by simp)
        have ry := fun n ρ => r_law_is_step n ρ y hk hy
        simp [isiB, isEnt, isDeed, isTurn, e0, hs, o1, o2, o3, o4, z2, ts, PyData.eqv, PyData.eqvAll, n1', n3', n6', ry]
      | [y, z], hx =>
        simp [isiB, isEnt, isDeed, isTurn, e0, hs, o1, o2, o3, o4, z2, ts, PyData.eqv, PyData.eqvAll, n1', n3', n6']
      | a :: b :: c :: r, hx =>
        have l1 : ¬ ((r.length : Int) + 1 + 1 + 1 + 1 = 1) := by omega
        have l2 : ¬ ((r.length : Int) + 1 + 1 + 1 + 1 = 2) := by omega
        have l3 : ¬ ((r.length : Int) + 1 + 1 + 1 + 1 = 3) := by omega
        simp [isiB, isEnt, isDeed, isTurn, e0, hs, o1, o2, o3, o4, z2, ts, PyData.eqv, PyData.eqvAll, n1', n3', n6', l1, l2, l3]
    · by_cases h4 : s = so "redo"
      · subst h4
        match r, hx with
        | [], _ => simp [isiB, isEnt, isDeed, isTurn, e0, hs, o1, o2, o3, o4, z2, ts, PyData.eqv, PyData.eqvAll, n2', n4', n6]
        | [y], hx =>
          have hy := hx.untup y (by simp)
          have ry := fun n ρ => r_law_is_step n ρ y hk hy
          simp [isiB, isEnt, isDeed, isTurn, e0, hs, o1, o2, o3, o4, z2, ts, PyData.eqv, PyData.eqvAll, n2', n4', n6, ry]
        | [y, z], hx =>
          simp [isiB, isEnt, isDeed, isTurn, e0, hs, o1, o2, o3, o4, z2, ts, PyData.eqv, PyData.eqvAll, n2', n4', n6]
        | a :: b :: c :: r, hx =>
          have l1 : ¬ ((r.length : Int) + 1 + 1 + 1 + 1 = 1) := by omega
          have l2 : ¬ ((r.length : Int) + 1 + 1 + 1 + 1 = 2) := by omega
          have l3 : ¬ ((r.length : Int) + 1 + 1 + 1 + 1 = 3) := by omega
          simp [isiB, isEnt, isDeed, isTurn, e0, hs, o1, o2, o3, o4, z2, ts, PyData.eqv, PyData.eqvAll, n2', n4', n6, l1, l2, l3]
      · have h3' : ¬ (so "undo" = s) := fun h => h3 h.symm
        have h4' : ¬ (so "redo" = s) := fun h => h4 h.symm
        by_cases h1 : s = so "do"
        · subst h1
          match r, hx with
          | [], _ => simp [isiB, isEnt, isDeed, isTurn, e0, hs, o1, o2, o3, o4, z2, ts, PyData.eqv, PyData.eqvAll, n1, n2, n5', n1', n2', ss]
          | [y], hx =>
            have hy := hx.untup y (by simp)
            have ry := fun n ρ => r_law_is_step n ρ y hk hy
            simp [isiB, isEnt, isDeed, isTurn, e0, hs, o1, o2, o3, o4, z2, ts, PyData.eqv, PyData.eqvAll, n1, n2, n5', n1', n2', ss, ry]
          | [y, z], hx =>
            simp [isiB, isEnt, isDeed, isTurn, e0, hs, o1, o2, o3, o4, z2, ts, PyData.eqv, PyData.eqvAll, n1, n2, n5', n1', n2', ss]
          | a :: b :: c :: r, hx =>
            have l1 : ¬ ((r.length : Int) + 1 + 1 + 1 + 1 = 1) := by omega
            have l2 : ¬ ((r.length : Int) + 1 + 1 + 1 + 1 = 2) := by omega
            have l3 : ¬ ((r.length : Int) + 1 + 1 + 1 + 1 = 3) := by omega
            simp [isiB, isEnt, isDeed, isTurn, e0, hs, o1, o2, o3, o4, z2, ts, PyData.eqv, PyData.eqvAll, n1, n2, n5', n1', n2', ss, l1, l2, l3]
        · by_cases h2 : s = so "macro"
          · subst h2
            match r, hx with
            | [], _ => simp [isiB, isEnt, isDeed, isTurn, e0, hs, o1, o2, o3, o4, z2, ts, PyData.eqv, PyData.eqvAll, n3, n4, n5, n3', n4', ss]
            | [y], hx =>
              have hy := hx.untup y (by simp)
              have ry := fun n ρ => r_law_is_step n ρ y hk hy
              simp [isiB, isEnt, isDeed, isTurn, e0, hs, o1, o2, o3, o4, z2, ts, PyData.eqv, PyData.eqvAll, n3, n4, n5, n3', n4', ss, ry]
            | [y, z], hx =>
              simp [isiB, isEnt, isDeed, isTurn, e0, hs, o1, o2, o3, o4, z2, ts, PyData.eqv, PyData.eqvAll, n3, n4, n5, n3', n4', ss]
              cases isIdx y <;> simp
            | a :: b :: c :: r, hx =>
              have l1 : ¬ ((r.length : Int) + 1 + 1 + 1 + 1 = 1) := by omega
              have l2 : ¬ ((r.length : Int) + 1 + 1 + 1 + 1 = 2) := by omega
              have l3 : ¬ ((r.length : Int) + 1 + 1 + 1 + 1 = 3) := by omega
              simp [isiB, isEnt, isDeed, isTurn, e0, hs, o1, o2, o3, o4, z2, ts, PyData.eqv, PyData.eqvAll, n3, n4, n5, n3', n4', ss, l1, l2, l3]
          · 
            match r, hx with
            | [], _ => simp [isiB, isEnt, isDeed, isTurn, e0, hs, o1, o2, o3, o4, z2, ts, PyData.eqv, PyData.eqvAll, h1, h2, h3, h4, h3', h4', ss]
            | [y], hx =>
              have hy := hx.untup y (by simp)
              have ry := fun n ρ => r_law_is_step n ρ y hk hy
              simp [isiB, isEnt, isDeed, isTurn, e0, hs, o1, o2, o3, o4, z2, ts, PyData.eqv, PyData.eqvAll, h1, h2, h3, h4, h3', h4', ss, ry]
            | [y, z], hx =>
              simp [isiB, isEnt, isDeed, isTurn, e0, hs, o1, o2, o3, o4, z2, ts, PyData.eqv, PyData.eqvAll, h1, h2, h3, h4, h3', h4', ss]
            | a :: b :: c :: r, hx =>
              have l1 : ¬ ((r.length : Int) + 1 + 1 + 1 + 1 = 1) := by omega
              have l2 : ¬ ((r.length : Int) + 1 + 1 + 1 + 1 = 2) := by omega
              have l3 : ¬ ((r.length : Int) + 1 + 1 + 1 + 1 = 3) := by omega
              simp [isiB, isEnt, isDeed, isTurn, e0, hs, o1, o2, o3, o4, z2, ts, PyData.eqv, PyData.eqvAll, h1, h2, h3, h4, h3', h4', ss, l1, l2, l3]
  | .tuple (.none :: r), _ => simp [isiB, isEnt, isDeed, isTurn, hs, e0, PyData.eqv, PyData.eqvAll]
  | .tuple (.bool _ :: r), _ => simp [isiB, isEnt, isDeed, isTurn, hs, e0, PyData.eqv, PyData.eqvAll]
  | .tuple (.int _ :: r), _ => simp [isiB, isEnt, isDeed, isTurn, hs, e0, PyData.eqv, PyData.eqvAll]
  | .tuple (.list _ :: r), _ => simp [isiB, isEnt, isDeed, isTurn, hs, e0, PyData.eqv, PyData.eqvAll]
  | .tuple (.tuple _ :: r), _ => simp [isiB, isEnt, isDeed, isTurn, hs, e0, PyData.eqv, PyData.eqvAll]
  | .tuple (.dict _ :: r), _ => simp [isiB, isEnt, isDeed, isTurn, hs, e0, PyData.eqv, PyData.eqvAll]
  | .none, _ => simp [isiB, isEnt, isDeed, isTurn]
  | .bool _, _ => simp [isiB, isEnt, isDeed, isTurn]
  | .int _, _ => simp [isiB, isEnt, isDeed, isTurn]
  | .str _, _ => simp [isiB, isEnt, isDeed, isTurn]
  | .list _, _ => simp [isiB, isEnt, isDeed, isTurn]
  | .dict _, _ => simp [isiB, isEnt, isDeed, isTurn]
end K02

set_option maxRecDepth 100000
set_option maxHeartbeats 1000000
namespace K02
open PySem PySem.Spec DL
abbrev desk (ds gs : List PyData) : Sl := .ob "Desk" [("deeds", .ls ds), ("gone", .ls gs)]
def fltD (ds gs : List PyData) (s : Str) : PyData := if s = so "undo" ∧ ds = [] then .str (so "undo") else if s = so "redo" ∧ gs = [] then .str (so "redo") else .none
@[simp] theorem noCalls_nil : noCalls [] = true := by simp [noCalls]
@[simp] theorem noCalls_c (e : Ex) (es : List Ex) : noCalls (e :: es) = (noCall e && noCalls es) := by rw [noCalls]
@[simp] theorem noCall_p (o : Pr) (es : List Ex) : noCall (.p o es) = noCalls es := by rw [noCall]
@[simp] theorem noCall_v (i : Nat) : noCall (.v i) = true := by rw [noCall]
@[simp] theorem noCall_k (i : PyData) : noCall (.k i) = true := by rw [noCall]
@[simp] theorem noCall_m (o : Pr) (e : Ex) (es : List Ex) : noCall (.m o e es) = (noCall e && noCalls es) := by rw [noCall]
@[simp] theorem noCall_fld (i : Nat) (f : String) : noCall (.fld i f) = true := by rw [noCall]
theorem eqv_nil (ds : List PyData) : PyData.eqv (.list ds) (.list []) = ds.isEmpty := by cases ds <;> simp [PyData.eqv, PyData.eqvAll]
theorem nil_shL : SeqAt.shaped (.list []) = true := by decide
theorem r_fault (n : Nat) (ρ : Rho) (i : Nat) (ds gs : List PyData) (s : Str) (r : List PyData) (hi : ρ[i]? = some (desk ds gs)) (hs : PyData.strOk s = true) (hd : SeqAt.shaped (.list ds) = true) (hg : SeqAt.shaped (.list gs) = true) :
    callF (evB tab.P (n + 30)) D_Desk_fault [.pl i, .lf (.d (.tuple (.str s :: r)))] ρ = .ok (.lf (.d (fltD ds gs s))) (ρ.set i (desk ds gs)) := by
  rw [D_Desk_fault, callF_mk]
  have o3 := ok_undo
  have o4 := ok_redo
  have e0 := nil_shL
  have n6 := ne_redo_undo
  have z0 := sz0
  by_cases h3 : s = so "undo"
  · subst h3
    cases ds with
    | nil => simp [hi, o3, o4, e0, hd, hg, PyData.eqv, eqv_nil, fltD, PyData.eqvAll]
    | cons d ds =>
      have n6' : ¬ (so "undo" = so "redo") := fun h => n6 h.symm
      simp [hi, o3, o4, e0, hd, hg, PyData.eqv, eqv_nil, fltD, n6', PyData.eqvAll]
  · by_cases h4 : s = so "redo"
    · subst h4
      cases gs with
      | nil => simp [hi, o3, o4, e0, hd, hg, PyData.eqv, eqv_nil, fltD, n6, PyData.eqvAll]
      | cons d ds => simp [hi, o3, o4, e0, hd, hg, PyData.eqv, eqv_nil, fltD, n6, PyData.eqvAll]
    · simp [hi, o3, o4, e0, hd, hg, hs, PyData.eqv, eqv_nil, fltD, h3, h4]
/-- an entry is one of four forms -/
theorem ent_cases {x : PyData} (h : isEnt x = true) : x = .tuple [.str (so "undo")] ∨ x = .tuple [.str (so "redo")] ∨ (∃ st, x = .tuple [.str (so "do"), st] ∧ isStep st = true) ∨ (∃ i w : Int, x = .tuple [.str (so "macro"), .int i, .int w] ∧ 0 ≤ i ∧ (w = 1 ∨ w = -1)) := by
  unfold isEnt isDeed isTurn at h
  match x, h with
  | .tuple [.str s], h =>
    simp at h
    rcases h with rfl | rfl
    · exact .inl rfl
    · exact .inr (.inl rfl)
  | .tuple [.str s, y], h =>
    simp at h
    obtain ⟨rfl, h⟩ := h
    exact .inr (.inr (.inl ⟨y, rfl, h⟩))
  | .tuple [.str s, y, z], h =>
    simp at h
    obtain ⟨rfl, h1, h2⟩ := h
    match y, z, h1, h2 with
    | .int i, .int w, h1, h2 =>
      simp [isIdx, isWay] at h1 h2
      exact .inr (.inr (.inr ⟨i, w, rfl, h1, h2⟩))
    | .int i, .none, h1, h2 => simp [isWay] at h2
    | .int i, .bool _, h1, h2 => simp [isWay] at h2
    | .int i, .str _, h1, h2 => simp [isWay] at h2
    | .int i, .list _, h1, h2 => simp [isWay] at h2
    | .int i, .tuple _, h1, h2 => simp [isWay] at h2
    | .int i, .dict _, h1, h2 => simp [isWay] at h2
    | .none, _, h1, h2 => simp [isIdx] at h1
    | .bool _, _, h1, h2 => simp [isIdx] at h1
    | .str _, _, h1, h2 => simp [isIdx] at h1
    | .list _, _, h1, h2 => simp [isIdx] at h1
    | .tuple _, _, h1, h2 => simp [isIdx] at h1
    | .dict _, _, h1, h2 => simp [isIdx] at h1
  | .tuple [], h => simp at h
  | .tuple (.none :: _), h => simp at h
  | .tuple (.bool _ :: _), h => simp at h
  | .tuple (.int _ :: _), h => simp at h
  | .tuple (.list _ :: _), h => simp at h
  | .tuple (.tuple _ :: _), h => simp at h
  | .tuple (.dict _ :: _), h => simp at h
  | .tuple (.str _ :: _ :: _ :: _ :: _), h => simp at h
  | .none, h => simp at h
  | .bool _, h => simp at h
  | .int _, h => simp at h
  | .str _, h => simp at h
  | .list _, h => simp at h
  | .dict _, h => simp at h
def hdS : PyData → Str
  | .tuple (.str s :: _) => s
  | _ => so ""
/-- why an entry cannot be done: a text, or None -/
def faultE (nb : Nat) (ds gs : List PyData) (x : PyData) : PyData := if isEnt x = false then .str (so "entry") else match x with
  | .tuple [_, .int i, _] => if (nb : Int) ≤ i then .str (so "macro") else .none
  | x => fltD ds gs (hdS x)
theorem r_entry_fault (n : Nat) (ρ : Rho) (i : Nat) (ds gs bk : List PyData) (x : PyData) {k : Nat} (hk : k ≤ 60) (hx : Nice k x) (hi : ρ[i]? = some (desk ds gs)) (hd : SeqAt.shaped (.list ds) = true) (hg : SeqAt.shaped (.list gs) = true) :
    callF (evB tab.P (n + 42)) D_entry_fault [.lf (.d (.tuple bk)), .pl i, .lf (.d x)] ρ = .ok (.lf (.d (faultE bk.length ds gs x))) (ρ.set i (desk ds gs)) := by
  rw [D_entry_fault, callF_mk]
  have re := fun n ρ => r_is_entry_form n ρ x hk hx
  have o1 := ok_do
  have o2 := ok_mac
  have o3 := ok_undo
  have o4 := ok_redo
  have n3 := ne_mac_undo
  have n4 := ne_mac_redo
  have n5 := ne_mac_do
  have n1 := ne_do_undo
  have n2 := ne_do_redo
  have n6 := ne_redo_undo
  have n3' : ¬ (so "undo" = so "macro") := fun h => n3 h.symm
  have n4' : ¬ (so "redo" = so "macro") := fun h => n4 h.symm
  have n5' : ¬ (so "do" = so "macro") := fun h => n5 h.symm
  cases he : isEnt x with
  | false => simp [hi, re, he, faultE]
  | true =>
    have rf := fun n ρ s r hi hs => r_fault n ρ 1 ds gs s r hi hs hd hg
    rcases ent_cases he with rfl | rfl | ⟨st, rfl, h1⟩ | ⟨j, w, rfl, h1, h2⟩
    · simp [hi, re, he, faultE, PyData.eqv, n3', o2, o3, rf, hdS]
    · simp [hi, re, he, faultE, PyData.eqv, n4', o2, o4, rf, hdS]
    · simp [hi, re, he, faultE, PyData.eqv, n5', o2, o1, rf, hdS]
    · simp [hi, re, he, faultE, PyData.eqv, o2, o3, rf, hdS, fltD, n3, n4]
      split <;> rfl
end K02

set_option maxRecDepth 100000
set_option maxHeartbeats 1000000
namespace K02
open PySem PySem.Spec DL
theorem strSh_u : SeqAt.shaped (.str (so "undo")) = true := by decide +kernel
/-- what an entry does to a desk -/
def doD (ds gs : List PyData) (x : PyData) : List PyData × List PyData × PyData × Int :=
  if hdS x = so "undo" then (ds.dropLast, gs ++ [ds.getLast?.getD .none], ds.getLast?.getD .none, -1)
  else if hdS x = so "redo" then (ds ++ [gs.getLast?.getD .none], gs.dropLast, gs.getLast?.getD .none, 1)
  else (ds ++ [x], [], x, 1)
theorem r_do_u (n : Nat) (ρ : Rho) (i : Nat) (ds gs r : List PyData) (d : PyData) (hi : ρ[i]? = some (desk (ds ++ [d]) gs)) (hl : gs.length < sizeLine) :
    callF (evB tab.P (n + 30)) D_Desk_do [.pl i, .lf (.d (.tuple (.str (so "undo") :: r)))] ρ = .ok (.lf (.d (.tuple [d, .int (-1)]))) (ρ.set i (desk ds (gs ++ [d]))) := by
  rw [D_Desk_do, callF_mk]
  have o3 := ok_undo
  have o4 := ok_redo
  have z2 := sz2
  simp [hi, o3, o4, PyData.eqv, hl, z2]
theorem r_do_r (n : Nat) (ρ : Rho) (i : Nat) (ds gs r : List PyData) (d : PyData) (hi : ρ[i]? = some (desk ds (gs ++ [d]))) (hl : ds.length < sizeLine) :
    callF (evB tab.P (n + 30)) D_Desk_do [.pl i, .lf (.d (.tuple (.str (so "redo") :: r)))] ρ = .ok (.lf (.d (.tuple [d, .int 1]))) (ρ.set i (desk (ds ++ [d]) gs)) := by
  rw [D_Desk_do, callF_mk]
  have o3 := ok_undo
  have o4 := ok_redo
  have z2 := sz2
  have n6 := ne_redo_undo
  simp [hi, o3, o4, PyData.eqv, hl, z2, n6]
theorem r_do_o (n : Nat) (ρ : Rho) (i : Nat) (ds gs r : List PyData) (s : Str) (hi : ρ[i]? = some (desk ds gs)) (hl : ds.length < sizeLine) (hs : PyData.strOk s = true) (h1 : ¬ s = so "undo") (h2 : ¬ s = so "redo") :
    callF (evB tab.P (n + 30)) D_Desk_do [.pl i, .lf (.d (.tuple (.str s :: r)))] ρ = .ok (.lf (.d (.tuple [.tuple (.str s :: r), .int 1]))) (ρ.set i (desk (ds ++ [.tuple (.str s :: r)]) [])) := by
  rw [D_Desk_do, callF_mk]
  have o3 := ok_undo
  have o4 := ok_redo
  have z2 := sz2
  have n6 := ne_redo_undo
  have z0 := sz0
  simp [hi, o3, o4, hs, PyData.eqv, hl, z2, n6, h1, h2, z0]
@[simp] theorem r_desk (n : Nat) (ρ : Rho) : evE tab.P (n + 20) (.mk "Desk" []) ρ = .ok (.ob "Desk" [("deeds", .ls []), ("gone", .ls [])]) ρ := by
  refine evE_mk0 (n := n + 18) (D := D_Desk___init__) (by simp) fn_Desk___init__ fun ρ i hi => ?_
  rw [D_Desk___init__, callF_mk]
  have z0 := sz0
  simp [hi, z0]
theorem putK_ne {ρ : Rho} {i : Nat} {s t : Sl} (h : t ≠ .lk) : putK i s ρ (some t) = some (ρ.set i s) := by
  cases t <;> first | rfl | exact absurd rfl h
/-- the desks behind an entry -/
def stp (ds gs : List PyData) (x : PyData) : List PyData × List PyData :=
  if hdS x = so "undo" then (ds.dropLast, gs ++ ds.drop (ds.length - 1)) else if hdS x = so "redo" then (ds ++ gs.drop (gs.length - 1), gs.dropLast) else (ds ++ [x], [])
/-- the deed that it did, and the way -/
def dne (ds gs : List PyData) (x : PyData) : PyData × Int :=
  if hdS x = so "undo" then (ds.getLast?.getD .none, -1) else if hdS x = so "redo" then (gs.getLast?.getD .none, 1) else (x, 1)
/-- an entry that can be done -/
structure Can (nb : Nat) (ds gs : List PyData) (x : PyData) : Prop where
  e : isEnt x = true
  f : faultE nb ds gs x = .none
theorem snoc_of {ds : List PyData} (h : ds ≠ []) : ∃ e d, ds = e ++ [d] := ⟨ds.dropLast, ds.getLast h, (List.dropLast_concat_getLast h).symm⟩
theorem Can.cases {nb : Nat} {ds gs : List PyData} {x : PyData} (h : Can nb ds gs x) : (x = .tuple [.str (so "undo")] ∧ ∃ e d, ds = e ++ [d]) ∨ (x = .tuple [.str (so "redo")] ∧ ∃ e d, gs = e ++ [d]) ∨ (∃ st, x = .tuple [.str (so "do"), st] ∧ isStep st = true) ∨ (∃ (j : Nat) (w : Int), x = .tuple [.str (so "macro"), .int j, .int w] ∧ j < nb ∧ (w = 1 ∨ w = -1)) := by
  have hf := h.f
  have n6 := ne_redo_undo
  rcases ent_cases h.e with rfl | rfl | ⟨st, rfl, h1⟩ | ⟨j, w, rfl, h1, h2⟩
  · refine .inl ⟨rfl, snoc_of fun z => ?_⟩
    subst z
    have hf : (if isEnt (.tuple [.str (so "undo")]) = false then PyData.str (so "entry") else fltD [] gs (so "undo")) = .none := hf
    rw [h.e] at hf
    simp [fltD] at hf
  · refine .inr (.inl ⟨rfl, snoc_of fun z => ?_⟩)
    subst z
    have hf : (if isEnt (.tuple [.str (so "redo")]) = false then PyData.str (so "entry") else fltD ds [] (so "redo")) = .none := hf
    rw [h.e] at hf
    simp [fltD, n6] at hf
  · exact .inr (.inr (.inl ⟨st, rfl, h1⟩))
  · obtain ⟨k, rfl⟩ := Int.eq_ofNat_of_zero_le h1
    refine .inr (.inr (.inr ⟨k, w, rfl, ?_, h2⟩))
    rw [faultE, h.e] at hf
    simp at hf
    exact hf
@[simp] theorem hdS_c (s : Str) (r : List PyData) : hdS (.tuple (.str s :: r)) = s := rfl
theorem r_do (n : Nat) (ρ : Rho) (i : Nat) {nb : Nat} {ds gs : List PyData} {x : PyData} (h : Can nb ds gs x) (hi : ρ[i]? = some (desk ds gs)) (hd : ds.length < sizeLine) (hg : gs.length < sizeLine) :
    callF (evB tab.P (n + 30)) D_Desk_do [.pl i, .lf (.d x)] ρ = .ok (.lf (.d (.tuple [(dne ds gs x).1, .int (dne ds gs x).2]))) (ρ.set i (desk (stp ds gs x).1 (stp ds gs x).2)) := by
  have n1 := ne_do_undo
  have n2 := ne_do_redo
  have n3 := ne_mac_undo
  have n4 := ne_mac_redo
  have n6 := ne_redo_undo
  rcases h.cases with ⟨rfl, e, d, rfl⟩ | ⟨rfl, e, d, rfl⟩ | ⟨st, rfl, h1⟩ | ⟨j, w, rfl, h1, h2⟩
  · rw [r_do_u n ρ i e gs [] d hi hg]
    simp [stp, dne]
  · rw [r_do_r n ρ i ds e [] d hi hd]
    simp [stp, dne, n6]
  · rw [r_do_o n ρ i ds gs [st] _ hi hd ok_do n1 n2]
    simp [stp, dne, n1, n2]
  · rw [r_do_o n ρ i ds gs _ _ hi hd ok_mac n3 n4]
    simp [stp, dne, n3, n4]
end K02

set_option maxRecDepth 100000
set_option maxHeartbeats 1000000
namespace K02
open PySem PySem.Spec DL
structure DK (m : Nat) (ds gs : List PyData) : Prop where
  d : ∀ x ∈ ds, Nice 60 x
  g : ∀ x ∈ gs, Nice 60 x
  l : ds.length + gs.length ≤ m
theorem DK.nil {m : Nat} : DK m [] [] := ⟨by simp, by simp, by simp⟩
theorem DK.stp {m nb : Nat} {ds gs : List PyData} {x : PyData} (h : DK m ds gs) (c : Can nb ds gs x) (hx : Nice 60 x) : DK (m + 1) (stp ds gs x).1 (stp ds gs x).2 := by
  have n1 := ne_do_undo
  have n2 := ne_do_redo
  have n3 := ne_mac_undo
  have n4 := ne_mac_redo
  have n6 := ne_redo_undo
  have hl := h.l
  rcases c.cases with ⟨rfl, e, d, rfl⟩ | ⟨rfl, e, d, rfl⟩ | ⟨st, rfl, h1⟩ | ⟨j, w, rfl, h1, h2⟩
  · simp [K02.stp] at hl ⊢
    exact ⟨fun y hy => h.d y (by simp [hy]), fun y hy => by
      rcases List.mem_append.mp hy with z | z
      · exact h.g y z
      · exact h.d y (by rw [List.mem_singleton.mp z]; simp), by simp; omega⟩
  · simp [K02.stp, n6] at hl ⊢
    exact ⟨fun y hy => by
      rcases List.mem_append.mp hy with z | z
      · exact h.d y z
      · exact h.g y (by rw [List.mem_singleton.mp z]; simp), fun y hy => h.g y (by simp [hy]), by simp; omega⟩
  · simp [K02.stp, n1, n2] at hl ⊢
    exact ⟨fun y hy => by
      rcases List.mem_append.mp hy with z | z
      · exact h.d y z
      · rw [List.mem_singleton.mp z]; exact hx, by simp, by simp; omega⟩
  · simp [K02.stp, n3, n4] at hl ⊢
    exact ⟨fun y hy => by
      rcases List.mem_append.mp hy with z | z
      · exact h.d y z
      · rw [List.mem_singleton.mp z]; exact hx, by simp, by simp; omega⟩
theorem DK.shd {m : Nat} {ds gs : List PyData} (h : DK m ds gs) : SeqAt.shaped (.list ds) = true := (Lay.lst fun d hd => (h.d d hd).l).sh (by decide)
theorem DK.shg {m : Nat} {ds gs : List PyData} (h : DK m ds gs) : SeqAt.shaped (.list gs) = true := (Lay.lst fun d hd => (h.g d hd).l).sh (by decide)
theorem can_of {nb : Nat} {ds gs : List PyData} {x : PyData} (h : isNone (faultE nb ds gs x) = true) : Can nb ds gs x := by
  refine ⟨?_, isNone_iff.mp h⟩
  cases e : isEnt x with
  | true => rfl
  | false =>
    have : faultE nb ds gs x = .str (so "entry") := by unfold faultE; rw [e]; rfl
    rw [this] at h
    simp at h
/-- the first entry that cannot be done -/
def fltAt (nb : Nat) : List PyData → Nat → List PyData → List PyData → Option (Nat × PyData)
  | [], _, _, _ => none
  | x :: xs, k, ds, gs => if isNone (faultE nb ds gs x) then fltAt nb xs (k + 1) (stp ds gs x).1 (stp ds gs x).2 else some (k, faultE nb ds gs x)
def runD : List PyData → List PyData → List PyData → List PyData × List PyData
  | [], ds, gs => (ds, gs)
  | x :: xs, ds, gs => runD xs (stp ds gs x).1 (stp ds gs x).2
def enumK (k : Nat) (xs : List PyData) : List PyData := (xs.zipIdx k).map fun (x, i) => .tuple [.int (i : Nat), x]
@[simp] theorem enumK_nil (k : Nat) : enumK k [] = [] := rfl
@[simp] theorem enumK_cons (k : Nat) (x : PyData) (xs : List PyData) : enumK k (x :: xs) = .tuple [.int (k : Nat), x] :: enumK (k + 1) xs := rfl
abbrev chBody : List Sx := [.asg (.nm 5) (.call "entry_fault" [.v 0, .v 2, .v 4]), .ite (.p .notN [.v 5]) [.raise "BadRow" [.v 3, .v 5]] [], .ex (.om "do" 2 [.v 4])]
theorem ch_one (n : Nat) {m : Nat} {ds gs bk : List PyData} {x : PyData} {k : Nat} {th s5 : Sl} (hk : DK m ds gs) (hm : m < sizeLine) (hx : Nice 60 x) (h5 : s5 ≠ .lk) :
    evB tab.P (n + 46) [] chBody [.lf (.d (.tuple bk)), th, desk ds gs, .lf (.d (.int k)), .lf (.d x), s5] = if isNone (faultE bk.length ds gs x) then
      .ok .nx [.lf (.d (.tuple bk)), th, desk (stp ds gs x).1 (stp ds gs x).2, .lf (.d (.int k)), .lf (.d x), .lf (.d .none)]
      else .ex ⟨"BadRow", [("fault", faultE bk.length ds gs x), ("index", .int k)]⟩ [.lf (.d (.tuple bk)), th, desk ds gs, .lf (.d (.int k)), .lf (.d x), .lf (.d (faultE bk.length ds gs x))] := by
  have re := fun n ρ hi => r_entry_fault n ρ 2 ds gs bk x (Nat.le_refl _) hx hi hk.shd hk.shg
  have hl := hk.l
  have p5 := fun i (ρ : Rho) s => putK_ne (i := i) (ρ := ρ) (s := s) h5
  cases hf : isNone (faultE bk.length ds gs x) with
  | true =>
    have rd := fun n ρ hi => r_do n ρ 2 (can_of hf) hi (by omega) (by omega)
    simp [re, p5, hf, rd, isNone_iff.mp hf]
  | false => simp [re, p5, hf]
end K02

set_option maxRecDepth 100000
set_option maxHeartbeats 1000000
namespace K02
open PySem PySem.Spec DL
theorem enumD_eq (xs : List PyData) : enumD xs = enumK 0 xs := rfl
theorem ch_loop (n : Nat) {bk : List PyData} {th : Sl} : ∀ (xs : List PyData) (k m : Nat) {ds gs : List PyData} {s3 s4 s5 : Sl}, DK m ds gs → m + xs.length ≤ sizeLine → (∀ x ∈ xs, Nice 60 x) → s3 ≠ .lk → s4 ≠ .lk → s5 ≠ .lk →
    ∃ t3 t4 t5, forL (asgD [] (.tp [.nm 3, .nm 4])) (evB tab.P (n + 46) [] chBody) (enumK k xs) [.lf (.d (.tuple bk)), th, desk ds gs, s3, s4, s5] = (match fltAt bk.length xs k ds gs with
      | none => .ok .nx [.lf (.d (.tuple bk)), th, desk (runD xs ds gs).1 (runD xs ds gs).2, t3, t4, t5]
      | some (j, f) => .ex ⟨"BadRow", [("fault", f), ("index", .int j)]⟩ [.lf (.d (.tuple bk)), th, t3, t4, t5, .lf (.d f)])
  | [], k, m, ds, gs, s3, s4, s5, _, _, _, _, _, _ => ⟨s3, s4, s5, by simp [fltAt, runD]⟩
  | x :: xs, k, m, ds, gs, s3, s4, s5, hk, hm, hx, h3, h4, h5 => by
    rw [List.length_cons] at hm
    have hx0 := hx x (List.mem_cons_self ..)
    have c1 := ch_one n (k := k) (th := th) (s5 := s5) (bk := bk) hk (by omega) hx0 h5
    have a1 : asgD [] (.tp [.nm 3, .nm 4]) (.tuple [.int (k : Nat), x]) [.lf (.d (.tuple bk)), th, desk ds gs, s3, s4, s5] = some [.lf (.d (.tuple bk)), th, desk ds gs, .lf (.d (.int k)), .lf (.d x), s5] := by
      have p3 := fun i (ρ : Rho) s => putK_ne (i := i) (ρ := ρ) (s := s) h3
      have p4 := fun i (ρ : Rho) s => putK_ne (i := i) (ρ := ρ) (s := s) h4
      simp [p3, p4]
    rw [enumK_cons, q_forL_cons, a1]
    simp only [q_asgK_s]
    rw [c1]
    cases hf : isNone (faultE bk.length ds gs x) with
    | true =>
      obtain ⟨t3, t4, t5, e⟩ := ch_loop n (bk := bk) (th := th) xs (k + 1) (m + 1) (s3 := .lf (.d (.int k))) (s4 := .lf (.d x)) (s5 := .lf (.d .none)) (hk.stp (can_of hf) hx0) (by omega) (fun y hy => hx y (List.mem_cons_of_mem _ hy)) (by simp) (by simp) (by simp)
      refine ⟨t3, t4, t5, ?_⟩
      simp only [if_true, q_forK_nx, fltAt, runD, hf]
      exact e
    | false =>
      refine ⟨desk ds gs, .lf (.d (.int k)), .lf (.d x), ?_⟩
      simp [fltAt, hf]
def isTupB : PyData → Bool
  | .tuple _ => true
  | _ => false
theorem r_checked' (n : Nat) (ρ : Rho) {bk : List PyData} {x : PyData} (hx : isTupB x = false) : callF (evB tab.P (n + 50)) D_checked_history [.lf (.d (.tuple bk)), .lf (.d x)] ρ = .ex ⟨"BadRow", [("fault", .str (so "form")), ("index", .int (-1))]⟩ ρ := by
  rw [D_checked_history, callF_mk]
  cases x <;> first | (simp [isiB]; done) | (cases hx)
theorem r_checked (n : Nat) (ρ : Rho) {bk : List PyData} {x : PyData} (hx : Nice 61 x) : callF (evB tab.P (n + 50)) D_checked_history [.lf (.d (.tuple bk)), .lf (.d x)] ρ = (match x with
    | .tuple xs => if 400 < xs.length then .ex ⟨"TooLarge", [("limit", .int 400), ("what", .str (so "entries"))]⟩ ρ else match fltAt bk.length xs 0 [] [] with
      | none => .ok (.lf (.d (.tuple xs))) ρ
      | some (j, f) => .ex ⟨"BadRow", [("fault", f), ("index", .int j)]⟩ ρ
    | _ => .ex ⟨"BadRow", [("fault", .str (so "form")), ("index", .int (-1))]⟩ ρ) := by
  rw [D_checked_history, callF_mk]
  match x, hx with
  | .tuple xs, hx =>
    by_cases hl : 400 < xs.length
    · have hi : (400 : Int) < xs.length := by omega
      simp [isiB, hl, hi]
    · have hi : ¬ (400 : Int) < xs.length := by omega
      obtain ⟨t3, t4, t5, e⟩ := ch_loop (n + 2) (bk := bk) (th := .lf (.d (.tuple xs))) xs 0 0 (ds := []) (gs := []) (s3 := .no) (s4 := .no) (s5 := .no) DK.nil (Nat.le_trans (by omega) (show 400 ≤ sizeLine by decide)) hx.untup1 (by simp) (by simp) (by simp)
      simp [isiB, hl, hi, enumD_eq, e]
      cases fltAt bk.length xs 0 [] [] with
      | none => simp
      | some p => simp
  | .none, _ => simp [isiB]
  | .bool _, _ => simp [isiB]
  | .int _, _ => simp [isiB]
  | .str _, _ => simp [isiB]
  | .list _, _ => simp [isiB]
  | .dict _, _ => simp [isiB]
end K02

set_option maxRecDepth 100000
set_option maxHeartbeats 1000000
namespace K02
open PySem PySem.Spec DL
theorem lookup_c {α : Type} (f g : String) (x : α) (fs : List (String × α)) : List.lookup f ((g, x) :: fs) = if f = g then some x else List.lookup f fs := by
  rw [List.lookup_cons]
  by_cases h : f = g
  · subst h; simp
  · have : (f == g) = false := by simpa using h
    rw [this, if_neg h]
/-- what a check comes to -/
def come (nb : Nat) (x : PyData) : PyData := match x with
  | .tuple xs => if 400 < xs.length then .tuple [.str (so "large"), .str (so "entries"), .int 400] else match fltAt nb xs 0 [] [] with
    | none => .tuple [.str (so "told"), .tuple xs]
    | some (j, f) => .tuple [.str (so "row"), .int j, f]
  | _ => .tuple [.str (so "row"), .int (-1), .str (so "form")]
theorem r_come_to (n : Nat) (ρ : Rho) {bk : List PyData} {x : PyData} (hx : Nice 61 x ∨ isTupB x = false) : callF (evB tab.P (n + 56)) D__law_come_to [.lf (.d (.tuple bk)), .lf (.d x)] ρ = .ok (.lf (.d (come bk.length x))) ρ := by
  rw [D__law_come_to, callF_mk]
  have z2 := sz2
  have z3 : 3 ≤ sizeLine := by decide
  match x, hx with
  | .tuple xs, hx =>
    have hx : Nice 61 (.tuple xs) := by
      rcases hx with h | h
      · exact h
      · cases h
    have rc := fun n ρ => r_checked n ρ (bk := bk) hx
    by_cases hl : 400 < xs.length
    · simp [rc, hl, come, suiteF, plE, plEs, erF, z3, lookup_c]
    · cases hf : fltAt bk.length xs 0 [] [] with
      | none => simp [rc, hl, come, hf, z2]
      | some p => simp [rc, hl, come, hf, suiteF, plE, plEs, erF, z3, lookup_c]
  | .none, _ =>
    have rc := fun n ρ => r_checked' n ρ (bk := bk) (x := .none) rfl
    simp [rc, come, suiteF, plE, plEs, erF, z3, lookup_c]
  | .bool b, _ =>
    have rc := fun n ρ => r_checked' n ρ (bk := bk) (x := .bool b) rfl
    simp [rc, come, suiteF, plE, plEs, erF, z3, lookup_c]
  | .int b, _ =>
    have rc := fun n ρ => r_checked' n ρ (bk := bk) (x := .int b) rfl
    simp [rc, come, suiteF, plE, plEs, erF, z3, lookup_c]
  | .str b, _ =>
    have rc := fun n ρ => r_checked' n ρ (bk := bk) (x := .str b) rfl
    simp [rc, come, suiteF, plE, plEs, erF, z3, lookup_c]
  | .list b, _ =>
    have rc := fun n ρ => r_checked' n ρ (bk := bk) (x := .list b) rfl
    simp [rc, come, suiteF, plE, plEs, erF, z3, lookup_c]
  | .dict b, _ =>
    have rc := fun n ρ => r_checked' n ρ (bk := bk) (x := .dict b) rfl
    simp [rc, come, suiteF, plE, plEs, erF, z3, lookup_c]
end K02

set_option maxRecDepth 100000
set_option maxHeartbeats 1000000
namespace K02
open PySem PySem.Spec DL
def IsSt (x : PyData) : Prop := ∃ c w, x = .tuple [c, .int w]
def ctr : PyData → PyData
  | .tuple [c, .int w] => .tuple [c, .int (0 - w)]
  | x => x
theorem IsSt.ctr {x : PyData} (h : IsSt x) : IsSt (ctr x) := by
  obtain ⟨c, w, rfl⟩ := h
  exact ⟨c, 0 - w, rfl⟩
theorem r_contrary (n : Nat) (ρ : Rho) {x : PyData} (h : IsSt x) : callF (evB tab.P (n + 20)) D_contrary [.lf (.d x)] ρ = .ok (.lf (.d (ctr x))) ρ := by
  obtain ⟨c, w, rfl⟩ := h
  rw [D_contrary, callF_mk]
  have z2 := sz2
  simp [z2, ctr]
theorem r_law_contrary (n : Nat) (ρ : Rho) {x : PyData} (h : IsSt x) : callF (evB tab.P (n + 20)) D__law_contrary [.lf (.d x)] ρ = .ok (.lf (.d (ctr x))) ρ := by
  obtain ⟨c, w, rfl⟩ := h
  rw [D__law_contrary, callF_mk]
  have z2 := sz2
  simp [z2, ctr]
def und (xs : List PyData) : List PyData := xs.reverse.map ctr
theorem r_undoing (n : Nat) (ρ : Rho) {xs : List PyData} (h : ∀ x ∈ xs, IsSt x) (hl : xs.length ≤ sizeLine) : callF (evB tab.P (n + 30)) D_undoing [.lf (.d (.tuple xs))] ρ = .ok (.lf (.d (.tuple (und xs)))) ρ := by
  rw [D_undoing, callF_mk]
  have lc : evE tab.P (n + 27) (.lc [1] (.nm 1) 0 [.p .rev [.v 0]] [] (.call "contrary" [.v 1])) [.lf (.d (.tuple xs)), .no] = .ok (.lf (.ls (xs.reverse.map ctr))) [.lf (.d (.tuple xs)), .no] :=
    lc_map (n := n + 26) (ys := xs.reverse) (ts := [.lf (.d (.tuple xs.reverse))]) id ctr (by simp) (by simp) (by simp) (by simp) (fun y hy => ⟨_, by
      have := r_contrary (n + 5) [Sl.lf (.d (.tuple xs)), .lf (.d y)] (h y (List.mem_reverse.mp hy))
      simp [this]; rfl, rfl⟩) (by simpa using hl)
  simp [lc, und]
theorem r_law_undoing (n : Nat) (ρ : Rho) {xs : List PyData} (h : ∀ x ∈ xs, IsSt x) (hl : xs.length ≤ sizeLine) : callF (evB tab.P (n + 30)) D__law_undoing [.lf (.d (.tuple xs))] ρ = .ok (.lf (.d (.tuple (und xs)))) ρ := by
  rw [D__law_undoing, callF_mk]
  have lc : evE tab.P (n + 27) (.lc [1] (.nm 1) 0 [.p .rev [.v 0]] [] (.call "_law_contrary" [.v 1])) [.lf (.d (.tuple xs)), .no] = .ok (.lf (.ls (xs.reverse.map ctr))) [.lf (.d (.tuple xs)), .no] :=
    lc_map (n := n + 26) (ys := xs.reverse) (ts := [.lf (.d (.tuple xs.reverse))]) id ctr (by simp) (by simp) (by simp) (by simp) (fun y hy => ⟨_, by
      have := r_law_contrary (n + 5) [Sl.lf (.d (.tuple xs)), .lf (.d y)] (h y (List.mem_reverse.mp hy))
      simp [this]; rfl, rfl⟩) (by simpa using hl)
  simp [lc, und]
structure BookOk (bk : List PyData) : Prop where
  r : ∀ r ∈ bk, ∃ xs, r = .tuple xs ∧ xs.length ≤ 4 ∧ ∀ x ∈ xs, IsSt x
  l : bk.length ≤ 3
def rowB (bk : List PyData) (j : Nat) : List PyData := match bk[j]? with
  | some (.tuple xs) => xs
  | _ => []
def rowD (bk : List PyData) : PyData → List PyData
  | .tuple [_, st] => [st]
  | .tuple [_, .int j, .int w] => if w = 1 then rowB bk j.toNat else und (rowB bk j.toNat)
  | _ => []
def DeedOk (nb : Nat) (x : PyData) : Prop := (∃ st, x = .tuple [.str (so "do"), st] ∧ isStep st = true) ∨ (∃ (j : Nat) (w : Int), x = .tuple [.str (so "macro"), .int j, .int w] ∧ j < nb ∧ (w = 1 ∨ w = -1))
theorem isStep_st {x : PyData} (h : isStep x = true) : IsSt x := by
  unfold isStep at h
  match x, h with
  | .tuple [c, .int w], _ => exact ⟨c, w, rfl⟩
  | .tuple [c, .none], h => simp [isWay] at h
  | .tuple [c, .bool _], h => simp [isWay] at h
  | .tuple [c, .str _], h => simp [isWay] at h
  | .tuple [c, .list _], h => simp [isWay] at h
  | .tuple [c, .tuple _], h => simp [isWay] at h
  | .tuple [c, .dict _], h => simp [isWay] at h
  | .tuple [], h => simp at h
  | .tuple [_], h => simp at h
  | .tuple (_ :: _ :: _ :: _), h => simp at h
theorem BookOk.at {bk : List PyData} (h : BookOk bk) {j : Nat} (hj : j < bk.length) : bk[j]? = some (.tuple (rowB bk j)) ∧ (rowB bk j).length ≤ 4 ∧ ∀ x ∈ rowB bk j, IsSt x := by
  obtain ⟨xs, e, l, s⟩ := h.r bk[j] (List.getElem_mem hj)
  have e1 : bk[j]? = some (.tuple xs) := by rw [List.getElem?_eq_getElem hj, e]
  have e2 : rowB bk j = xs := by unfold rowB; rw [e1]
  rw [e2]
  exact ⟨e1, l, s⟩
theorem und_len (xs : List PyData) : (und xs).length = xs.length := by simp [und]
theorem und_st {xs : List PyData} (h : ∀ x ∈ xs, IsSt x) : ∀ x ∈ und xs, IsSt x := fun x hx => by
  obtain ⟨y, hy, rfl⟩ := List.mem_map.mp hx
  exact (h y (List.mem_reverse.mp hy)).ctr
theorem DeedOk.row {bk : List PyData} (h : BookOk bk) {x : PyData} (hx : DeedOk bk.length x) : (rowD bk x).length ≤ 4 ∧ ∀ y ∈ rowD bk x, IsSt y := by
  rcases hx with ⟨st, rfl, hs⟩ | ⟨j, w, rfl, hj, hw⟩
  · exact ⟨by simp [rowD], fun y hy => by rw [List.mem_singleton.mp hy]; exact isStep_st hs⟩
  · obtain ⟨e, l, s⟩ := h.at hj
    rcases hw with rfl | rfl
    · exact ⟨by simpa [rowD] using l, by simpa [rowD] using s⟩
    · exact ⟨by simpa [rowD, und_len] using l, by simpa [rowD] using und_st s⟩
theorem r_row_of (n : Nat) (ρ : Rho) {bk : List PyData} {x : PyData} (h : BookOk bk) (hx : DeedOk bk.length x) : callF (evB tab.P (n + 36)) D_row_of [.lf (.d (.tuple bk)), .lf (.d x)] ρ = .ok (.lf (.d (.tuple (rowD bk x)))) ρ := by
  rw [D_row_of, callF_mk]
  have o1 := ok_do
  have o2 := ok_mac
  have n5 := ne_mac_do
  have e1 : (1 : Nat) ≤ sizeLine := by decide
  rcases hx with ⟨st, rfl, hs⟩ | ⟨j, w, rfl, hj, hw⟩
  · simp [PyData.eqv, o1, e1, rowD]
  · obtain ⟨e, l, s⟩ := h.at hj
    have ru := fun n ρ => r_undoing n ρ s (Nat.le_trans l (by decide))
    rcases hw with rfl | rfl
    · simp [PyData.eqv, o1, o2, n5, rowD, atI_nat, e]
    · simp [PyData.eqv, o1, o2, n5, rowD, atI_nat, e, ru]
theorem r_law_row_of_deed (n : Nat) (ρ : Rho) {bk : List PyData} {x : PyData} (h : BookOk bk) (hx : DeedOk bk.length x) : callF (evB tab.P (n + 36)) D__law_row_of_deed [.lf (.d (.tuple bk)), .lf (.d x)] ρ = .ok (.lf (.d (.tuple (rowD bk x)))) ρ := by
  rw [D__law_row_of_deed, callF_mk]
  have o1 := ok_do
  have o2 := ok_mac
  have n5 := ne_mac_do
  have e1 : (1 : Nat) ≤ sizeLine := by decide
  rcases hx with ⟨st, rfl, hs⟩ | ⟨j, w, rfl, hj, hw⟩
  · simp [PyData.eqv, o1, e1, rowD]
  · obtain ⟨e, l, s⟩ := h.at hj
    have ru := fun n ρ => r_law_undoing n ρ s (Nat.le_trans l (by decide))
    rcases hw with rfl | rfl
    · simp [PyData.eqv, o1, o2, n5, rowD, atI_nat, e]
    · simp [PyData.eqv, o1, o2, n5, rowD, atI_nat, e, ru]
end K02

set_option maxRecDepth 100000
set_option maxHeartbeats 1000000
namespace K02
open PySem PySem.Spec DL
structure Dd (nb : Nat) (ds gs : List PyData) : Prop where
  d : ∀ x ∈ ds, DeedOk nb x
  g : ∀ x ∈ gs, DeedOk nb x
theorem Dd.nil {nb : Nat} : Dd nb [] [] := ⟨by simp, by simp⟩
theorem Can.cases2 {nb : Nat} {ds gs : List PyData} {x : PyData} (h : Can nb ds gs x) : (x = .tuple [.str (so "undo")] ∧ ∃ e d, ds = e ++ [d] ∧ stp ds gs x = (e, gs ++ [d]) ∧ dne ds gs x = (d, -1)) ∨ (x = .tuple [.str (so "redo")] ∧ ∃ e d, gs = e ++ [d] ∧ stp ds gs x = (ds ++ [d], e) ∧ dne ds gs x = (d, 1)) ∨ (DeedOk nb x ∧ stp ds gs x = (ds ++ [x], []) ∧ dne ds gs x = (x, 1)) := by
  have n1 := ne_do_undo
  have n2 := ne_do_redo
  have n3 := ne_mac_undo
  have n4 := ne_mac_redo
  have n6 := ne_redo_undo
  rcases h.cases with ⟨rfl, e, d, rfl⟩ | ⟨rfl, e, d, rfl⟩ | ⟨st, rfl, h1⟩ | ⟨j, w, rfl, h1, h2⟩
  · exact .inl ⟨rfl, e, d, rfl, by simp [stp], by simp [dne]⟩
  · exact .inr (.inl ⟨rfl, e, d, rfl, by simp [stp, n6], by simp [dne, n6]⟩)
  · exact .inr (.inr ⟨.inl ⟨st, rfl, h1⟩, by simp [stp, n1, n2], by simp [dne, n1, n2]⟩)
  · exact .inr (.inr ⟨.inr ⟨j, w, rfl, h1, h2⟩, by simp [stp, n3, n4], by simp [dne, n3, n4]⟩)
theorem Dd.stp {nb : Nat} {ds gs : List PyData} {x : PyData} (h : Dd nb ds gs) (c : Can nb ds gs x) : Dd nb (stp ds gs x).1 (stp ds gs x).2 ∧ DeedOk nb (dne ds gs x).1 := by
  rcases c.cases2 with ⟨rfl, e, d, rfl, h1, h2⟩ | ⟨rfl, e, d, rfl, h1, h2⟩ | ⟨hd, h1, h2⟩
  · rw [h1, h2]
    have hd := h.d d (by simp)
    exact ⟨⟨fun y hy => h.d y (by simp [hy]), fun y hy => by
      rcases List.mem_append.mp hy with z | z
      · exact h.g y z
      · rw [List.mem_singleton.mp z]; exact hd⟩, hd⟩
  · rw [h1, h2]
    have hd := h.g d (by simp)
    exact ⟨⟨fun y hy => by
      rcases List.mem_append.mp hy with z | z
      · exact h.d y z
      · rw [List.mem_singleton.mp z]; exact hd, fun y hy => h.g y (by simp [hy])⟩, hd⟩
  · rw [h1, h2]
    exact ⟨⟨fun y hy => by
      rcases List.mem_append.mp hy with z | z
      · exact h.d y z
      · rw [List.mem_singleton.mp z]; exact hd, by simp⟩, hd⟩
theorem dne_way {nb : Nat} {ds gs : List PyData} {x : PyData} (c : Can nb ds gs x) : (dne ds gs x).2 = 1 ∨ (dne ds gs x).2 = -1 := by
  rcases c.cases2 with ⟨rfl, e, d, rfl, h1, h2⟩ | ⟨rfl, e, d, rfl, h1, h2⟩ | ⟨hd, h1, h2⟩ <;> simp [h2]
theorem flt_cons {nb : Nat} {x : PyData} {xs : List PyData} {k : Nat} {ds gs : List PyData} (h : fltAt nb (x :: xs) k ds gs = none) : Can nb ds gs x ∧ fltAt nb xs (k + 1) (stp ds gs x).1 (stp ds gs x).2 = none := by
  rw [fltAt] at h
  split at h
  · rename_i hn
    exact ⟨can_of hn, h⟩
  · cases h
/-- what an entry does, as steps -/
def stepsOf (bk ds gs : List PyData) (x : PyData) : List PyData := if (dne ds gs x).2 = 1 then rowD bk (dne ds gs x).1 else und (rowD bk (dne ds gs x).1)
def stepsR (bk : List PyData) : List PyData → List PyData → List PyData → List PyData
  | [], _, _ => []
  | x :: xs, ds, gs => stepsOf bk ds gs x ++ stepsR bk xs (stp ds gs x).1 (stp ds gs x).2
theorem Dd.steps {bk ds gs : List PyData} {x : PyData} (hb : BookOk bk) (h : Dd bk.length ds gs) (c : Can bk.length ds gs x) : (stepsOf bk ds gs x).length ≤ 4 ∧ ∀ y ∈ stepsOf bk ds gs x, IsSt y := by
  have hr := (h.stp c).2.row hb
  unfold stepsOf
  split
  · exact hr
  · exact ⟨by rw [und_len]; exact hr.1, und_st hr.2⟩
theorem db_loop (n nb : Nat) {th : Sl} : ∀ (xs : List PyData) (k m : Nat) {ds gs : List PyData} {s2 : Sl}, fltAt nb xs k ds gs = none → DK m ds gs → m + xs.length ≤ sizeLine → (∀ x ∈ xs, Nice 60 x) → s2 ≠ .lk →
    ∃ t2, forL (asgD [] (.nm 2)) (evB tab.P (n + 40) [] [.ex (.om "do" 1 [.v 2])]) xs [th, desk ds gs, s2] = .ok .nx [th, desk (runD xs ds gs).1 (runD xs ds gs).2, t2]
  | [], k, m, ds, gs, s2, _, _, _, _, _ => ⟨s2, by simp [runD]⟩
  | x :: xs, k, m, ds, gs, s2, hf, hk, hm, hx, h2 => by
    obtain ⟨c, hf'⟩ := flt_cons hf
    rw [List.length_cons] at hm
    have hl := hk.l
    have hx0 := hx x (List.mem_cons_self ..)
    obtain ⟨t2, e⟩ := db_loop n nb (th := th) xs (k + 1) (m + 1) (s2 := .lf (.d x)) hf' (hk.stp c hx0) (by omega) (fun y hy => hx y (List.mem_cons_of_mem _ hy)) (by simp)
    refine ⟨t2, ?_⟩
    have p2 := fun i (ρ : Rho) s => putK_ne (i := i) (ρ := ρ) (s := s) h2
    have rd := fun n ρ hi => r_do n ρ 1 (gs := gs) c hi (by omega) (by omega)
    simp [p2, rd, runD]
    simpa using e
theorem r_desk_behind (n : Nat) (ρ : Rho) {nb : Nat} {xs : List PyData} (hf : fltAt nb xs 0 [] [] = none) (hx : ∀ x ∈ xs, Nice 60 x) (hl : xs.length ≤ 400) : callF (evB tab.P (n + 50)) D_desk_behind [.lf (.d (.tuple xs))] ρ = .ok (.ob "Desk" [("deeds", .ls (runD xs [] []).1), ("gone", .ls (runD xs [] []).2)]) ρ := by
  rw [D_desk_behind, callF_mk]
  obtain ⟨t2, e⟩ := db_loop (n + 8) nb (th := .lf (.d (.tuple xs))) xs 0 0 (ds := []) (gs := []) (s2 := .no) hf DK.nil (Nat.le_trans (by omega) (show 400 ≤ sizeLine by decide)) hx (by simp)
  simp [e]
theorem r_standing (n : Nat) (ρ : Rho) {nb : Nat} {xs : List PyData} (hf : fltAt nb xs 0 [] [] = none) (hx : ∀ x ∈ xs, Nice 60 x) (hl : xs.length ≤ 400) : callF (evB tab.P (n + 60)) D_standing [.lf (.d (.tuple xs))] ρ = .ok (.lf (.d (.tuple (runD xs [] []).1))) ρ := by
  rw [D_standing, callF_mk]
  have rb := fun n ρ => r_desk_behind n ρ hf hx hl
  simp [rb]
theorem r_to_redo (n : Nat) (ρ : Rho) {nb : Nat} {xs : List PyData} (hf : fltAt nb xs 0 [] [] = none) (hx : ∀ x ∈ xs, Nice 60 x) (hl : xs.length ≤ 400) : callF (evB tab.P (n + 60)) D_to_redo [.lf (.d (.tuple xs))] ρ = .ok (.lf (.d (.tuple (runD xs [] []).2))) ρ := by
  rw [D_to_redo, callF_mk]
  have rb := fun n ρ => r_desk_behind n ρ hf hx hl
  simp [rb]
theorem r_without_undos (n : Nat) (ρ : Rho) {nb : Nat} {xs : List PyData} (hf : fltAt nb xs 0 [] [] = none) (hx : ∀ x ∈ xs, Nice 60 x) (hl : xs.length ≤ 400) : callF (evB tab.P (n + 70)) D_without_undos [.lf (.d (.tuple xs))] ρ = .ok (.lf (.d (.tuple (runD xs [] []).1))) ρ := by
  rw [D_without_undos, callF_mk]
  have rb := fun n ρ => r_standing n ρ hf hx hl
  simp [rb]
theorem r_row_of_deeds (n : Nat) (ρ : Rho) {bk ds : List PyData} (h : BookOk bk) (hd : ∀ x ∈ ds, DeedOk bk.length x) (hl : (ds.flatMap (rowD bk)).length ≤ sizeLine) : callF (evB tab.P (n + 60)) D_row_of_deeds [.lf (.d (.tuple bk)), .lf (.d (.tuple ds))] ρ = .ok (.lf (.d (.tuple (ds.flatMap (rowD bk))))) ρ := by
  rw [D_row_of_deeds, callF_mk]
  have lc : evE tab.P (n + 57) (.lc2 [2, 3] [3] (.nm 2) 0 [.v 1] (.nm 3) 0 [.call "row_of" [.v 0, .v 2]] [] (.v 3)) [.lf (.d (.tuple bk)), .lf (.d (.tuple ds)), .no, .no] = .ok (.lf (.ls (ds.flatMap fun y => (rowD bk y).map id))) [.lf (.d (.tuple bk)), .lf (.d (.tuple ds)), .no, .no] :=
    lc2_map (n := n + 56) (ys := ds) (ts := [.lf (.d (.tuple ds))]) id (rowD bk) id (fun _ z => z) (by simp) (by simp) (by simp) (by decide) (by simp) (by simp)
      (fun y hy => ⟨[.lf (.d (.tuple (rowD bk y)))], by
        have rr := fun n ρ => r_row_of n ρ h (hd y hy)
        simp [rr], by simp, by simp⟩) (fun y hy z hz => ⟨_, by simp; rfl, rfl⟩) (by simpa using hl)
  simp at lc
  simp [lc]
theorem rd_loop (n : Nat) {bk : List PyData} {th : Sl} (hb : BookOk bk) : ∀ (xs : List PyData) (k m : Nat) {ds gs acc : List PyData} {s4 s5 s6 s7 : Sl}, fltAt bk.length xs k ds gs = none → Dd bk.length ds gs → DK m ds gs → acc.length ≤ 4 * m → 4 * (m + xs.length) ≤ sizeLine → (∀ x ∈ xs, Nice 60 x) → s4 ≠ .lk → s5 ≠ .lk → s6 ≠ .lk → s7 ≠ .lk →
    ∃ t4 t5 t6 t7, forL (asgD [] (.nm 4)) (evB tab.P (n + 60) [] [.asg (.tp [.nm 5, .nm 6]) (.om "do" 2 [.v 4]), .asg (.nm 7) (.call "row_of" [.v 0, .v 5]), .ex (.m .extend (.v 3) [.ite (.p .eq [.v 6, .k (.int 1)]) (.v 7) (.call "undoing" [.v 7])])]) xs [.lf (.d (.tuple bk)), th, desk ds gs, .lf (.ls acc), s4, s5, s6, s7] = .ok .nx [.lf (.d (.tuple bk)), th, desk (runD xs ds gs).1 (runD xs ds gs).2, .lf (.ls (acc ++ stepsR bk xs ds gs)), t4, t5, t6, t7]
  | [], k, m, ds, gs, acc, s4, s5, s6, s7, _, _, _, _, _, _, _, _, _, _ => ⟨s4, s5, s6, s7, by simp [runD, stepsR]⟩
  | x :: xs, k, m, ds, gs, acc, s4, s5, s6, s7, hf, hd, hk, ha, hm, hx, h4, h5, h6, h7 => by
    obtain ⟨c, hf'⟩ := flt_cons hf
    rw [List.length_cons] at hm
    have hl := hk.l
    have hx0 := hx x (List.mem_cons_self ..)
    obtain ⟨hs1, hs2⟩ := hd.steps hb c
    obtain ⟨hd', hdd⟩ := hd.stp c
    obtain ⟨t4, t5, t6, t7, e⟩ := rd_loop n (th := th) hb xs (k + 1) (m + 1) (acc := acc ++ stepsOf bk ds gs x) (s4 := .lf (.d x)) (s5 := .lf (.d (dne ds gs x).1)) (s6 := .lf (.d (.int (dne ds gs x).2))) (s7 := .lf (.d (.tuple (rowD bk (dne ds gs x).1)))) hf' hd' (hk.stp c hx0) (by rw [List.length_append]; omega) (by omega) (fun y hy => hx y (List.mem_cons_of_mem _ hy)) (by simp) (by simp) (by simp) (by simp)
    refine ⟨t4, t5, t6, t7, ?_⟩
    have p4 := fun i (ρ : Rho) s => putK_ne (i := i) (ρ := ρ) (s := s) h4
    have p5 := fun i (ρ : Rho) s => putK_ne (i := i) (ρ := ρ) (s := s) h5
    have p6 := fun i (ρ : Rho) s => putK_ne (i := i) (ρ := ρ) (s := s) h6
    have p7 := fun i (ρ : Rho) s => putK_ne (i := i) (ρ := ρ) (s := s) h7
    have rd := fun n ρ hi => r_do n ρ 2 (gs := gs) c hi (by omega) (by omega)
    have rr := fun n ρ => r_row_of n ρ hb hdd
    have ru := fun n ρ => r_undoing n ρ (hdd.row hb).2 (Nat.le_trans (hdd.row hb).1 (by decide))
    have hs : acc.length + (stepsOf bk ds gs x).length ≤ sizeLine := by omega
    rw [stepsR, runD, ← List.append_assoc]
    rcases dne_way c with hw | hw
    · have es : stepsOf bk ds gs x = rowD bk (dne ds gs x).1 := by unfold stepsOf; rw [if_pos hw]
      rw [es] at hs e ⊢
      simp [p4, p5, p6, p7, rd, rr, hw, PyData.eqv, hs]
      simpa [hw] using e
    · have es : stepsOf bk ds gs x = und (rowD bk (dne ds gs x).1) := by unfold stepsOf; rw [if_neg (by omega)]
      rw [es] at hs e ⊢
      simp [p4, p5, p6, p7, rd, rr, ru, hw, PyData.eqv, hs]
      simpa [hw] using e
theorem r_row_done (n : Nat) (ρ : Rho) {bk xs : List PyData} (hb : BookOk bk) (hf : fltAt bk.length xs 0 [] [] = none) (hx : ∀ x ∈ xs, Nice 60 x) (hl : xs.length ≤ 400) : callF (evB tab.P (n + 80)) D_row_done [.lf (.d (.tuple bk)), .lf (.d (.tuple xs))] ρ = .ok (.lf (.d (.tuple (stepsR bk xs [] [])))) ρ := by
  rw [D_row_done, callF_mk]
  obtain ⟨t4, t5, t6, t7, e⟩ := rd_loop (n + 18) (bk := bk) (th := .lf (.d (.tuple xs))) hb xs 0 0 (ds := []) (gs := []) (acc := []) (s4 := .no) (s5 := .no) (s6 := .no) (s7 := .no) hf Dd.nil DK.nil (by simp) (Nat.le_trans (by omega) (show 1600 ≤ sizeLine by decide)) hx (by simp) (by simp) (by simp) (by simp)
  have z0 := sz0
  simp at e
  simp [e, z0]
end K02

set_option maxRecDepth 100000
set_option maxHeartbeats 1000000
namespace K02
open PySem PySem.Spec DL
theorem DK.sht {m : Nat} {ds gs : List PyData} (h : DK m ds gs) : SeqAt.shaped (.tuple ds) = true ∧ SeqAt.shaped (.tuple gs) = true := ⟨(Lay.tup fun d hd => (h.d d hd).l).sh (by decide), (Lay.tup fun d hd => (h.g d hd).l).sh (by decide)⟩
theorem eqvt_nil (ds : List PyData) : PyData.eqv (.tuple ds) (.tuple []) = ds.isEmpty := by cases ds <;> simp [PyData.eqv, PyData.eqvAll]
abbrev gaBody : List Sx := [.ite (.not (.call "_law_is_entry" [.v 6])) [.ret (.p .tup [.p .tup [.k (.str (so "row")), .v 5, .k (.str (so "entry"))], .v 2, .v 3, .v 4])] [], .ite (.and (.p .eq [.p .ix [.v 6, .k (.int 0)], .k (.str (so "macro"))]) (.p .ge [.p .ix [.v 6, .k (.int 1)], .p .len [.v 0]])) [.ret (.p .tup [.p .tup [.k (.str (so "row")), .v 5, .k (.str (so "macro"))], .v 2, .v 3, .v 4])] [], .ite (.p .eq [.p .ix [.v 6, .k (.int 0)], .k (.str (so "undo"))]) [.ite (.p .eq [.v 2, .p .tup []]) [.ret (.p .tup [.p .tup [.k (.str (so "row")), .v 5, .k (.str (so "undo"))], .v 2, .v 3, .v 4])] [], .par [2, 3, 4] [.p (.sl false true) [.v 2, .p .neg [.k (.int 1)]], .p .add [.v 3, .p (.sl true false) [.v 2, .p .neg [.k (.int 1)]]], .p .add [.v 4, .call "_law_undoing" [.call "_law_row_of_deed" [.v 0, .p .ix [.v 2, .p .neg [.k (.int 1)]]]]]]] [.ite (.p .eq [.p .ix [.v 6, .k (.int 0)], .k (.str (so "redo"))]) [.ite (.p .eq [.v 3, .p .tup []]) [.ret (.p .tup [.p .tup [.k (.str (so "row")), .v 5, .k (.str (so "redo"))], .v 2, .v 3, .v 4])] [], .par [2, 3, 4] [.p .add [.v 2, .p (.sl true false) [.v 3, .p .neg [.k (.int 1)]]], .p (.sl false true) [.v 3, .p .neg [.k (.int 1)]], .p .add [.v 4, .call "_law_row_of_deed" [.v 0, .p .ix [.v 3, .p .neg [.k (.int 1)]]]]]] [.par [2, 3, 4] [.p .add [.v 2, .p .tup [.v 6]], .p .tup [], .p .add [.v 4, .call "_law_row_of_deed" [.v 0, .v 6]]]]]]
abbrev gaS (bk : List PyData) (th : Sl) (ds gs st : List PyData) (s5 s6 : Sl) : Rho := [.lf (.d (.tuple bk)), th, .lf (.d (.tuple ds)), .lf (.d (.tuple gs)), .lf (.d (.tuple st)), s5, s6]
theorem ga_one (n : Nat) {m : Nat} {bk ds gs st : List PyData} {x : PyData} {k : Nat} {th : Sl} (hb : BookOk bk) (hk : DK m ds gs) (hd : Dd bk.length ds gs) (hm : 4 * (m + 1) ≤ sizeLine) (hst : st.length ≤ 4 * m) (hx : Nice 60 x) :
    evB tab.P (n + 48) [] gaBody (gaS bk th ds gs st (.lf (.d (.int k))) (.lf (.d x))) = if isNone (faultE bk.length ds gs x) then
      .ok .nx (gaS bk th (stp ds gs x).1 (stp ds gs x).2 (st ++ stepsOf bk ds gs x) (.lf (.d (.int k))) (.lf (.d x)))
      else .ok (.rt (.lf (.d (.tuple [.tuple [.str (so "row"), .int k, faultE bk.length ds gs x], .tuple ds, .tuple gs, .tuple st])))) (gaS bk th ds gs st (.lf (.d (.int k))) (.lf (.d x))) := by
  have re := fun n ρ => r_law_is_entry n ρ x (Nat.le_refl _) hx
  have hl := hk.l
  have o1 := ok_do
  have o2 := ok_mac
  have o3 := ok_undo
  have o4 := ok_redo
  have n1 := ne_do_undo
  have n2 := ne_do_redo
  have n3 := ne_mac_undo
  have n4 := ne_mac_redo
  have n5 := ne_mac_do
  have n6 := ne_redo_undo
  have n3' : ¬ (so "undo" = so "macro") := fun h => n3 h.symm
  have n4' : ¬ (so "redo" = so "macro") := fun h => n4 h.symm
  have n5' : ¬ (so "do" = so "macro") := fun h => n5 h.symm
  have n6' : ¬ (so "undo" = so "redo") := fun h => n6 h.symm
  have z0 := sz0
  have z3 : 3 ≤ sizeLine := by decide
  have z4 : 4 ≤ sizeLine := by decide
  have e0 := nil_sh
  obtain ⟨sd, sg⟩ := hk.sht
  cases he : isEnt x with
  | false =>
    have hf : faultE bk.length ds gs x = .str (so "entry") := by unfold faultE; rw [he]; rfl
    simp [re, he, hf, z3, z4]
  | true =>
    rcases ent_cases he with rfl | rfl | ⟨s, rfl, h1⟩ | ⟨j, w, rfl, h1, h2⟩
    · have hf : faultE bk.length ds gs (.tuple [.str (so "undo")]) = fltD ds gs (so "undo") := by
        have : faultE bk.length ds gs (.tuple [.str (so "undo")]) = if isEnt (.tuple [.str (so "undo")]) = false then .str (so "entry") else fltD ds gs (so "undo") := rfl
        rw [this, he]; rfl
      by_cases hne : ds = []
      · subst hne
        simp [re, he, hf, z3, z4, PyData.eqv, PyData.eqvAll, n3', o2, o3, e0, fltD]
      · obtain ⟨e, d, rfl⟩ := snoc_of hne
        have hdd := hd.d d (by simp)
        have hrow := hdd.row hb
        have rr := fun n ρ => r_law_row_of_deed n ρ hb hdd
        have ru := fun n ρ => r_law_undoing n ρ hrow.2 (Nat.le_trans hrow.1 (by decide))
        have hf2 : fltD (e ++ [d]) gs (so "undo") = .none := by simp [fltD, n6']
        have hs : stepsOf bk (e ++ [d]) gs (.tuple [.str (so "undo")]) = und (rowD bk d) := by simp [stepsOf, dne]
        have l1 : gs.length + 1 ≤ sizeLine := by rw [List.length_append] at hl; simp at hl; omega
        have l2 : st.length + (und (rowD bk d)).length ≤ sizeLine := by rw [und_len]; omega
        have l2' : st.length + (rowD bk d).length ≤ sizeLine := by omega
        simp [re, he, hf, hf2, hs, z3, z4, PyData.eqv, PyData.eqvAll, n3', o2, o3, e0, sd, sg, eqvt_nil, rr, ru, l1, l2, stp]
    · have hf : faultE bk.length ds gs (.tuple [.str (so "redo")]) = fltD ds gs (so "redo") := by
        have : faultE bk.length ds gs (.tuple [.str (so "redo")]) = if isEnt (.tuple [.str (so "redo")]) = false then .str (so "entry") else fltD ds gs (so "redo") := rfl
        rw [this, he]; rfl
      by_cases hne : gs = []
      · subst hne
        simp [re, he, hf, z3, z4, PyData.eqv, PyData.eqvAll, n4', n6, o2, o3, o4, e0, fltD]
      · obtain ⟨e, d, rfl⟩ := snoc_of hne
        have hdd := hd.g d (by simp)
        have hrow := hdd.row hb
        have rr := fun n ρ => r_law_row_of_deed n ρ hb hdd
        have hf2 : fltD ds (e ++ [d]) (so "redo") = .none := by simp [fltD, n6]
        have hs : stepsOf bk ds (e ++ [d]) (.tuple [.str (so "redo")]) = rowD bk d := by simp [stepsOf, dne, n6]
        have l1 : ds.length + 1 ≤ sizeLine := by rw [List.length_append] at hl; simp at hl; omega
        have l2 : st.length + (rowD bk d).length ≤ sizeLine := by omega
        simp [re, he, hf, hf2, hs, z3, z4, PyData.eqv, PyData.eqvAll, n4', n6, o2, o3, o4, e0, sd, sg, eqvt_nil, rr, l1, l2, stp]
    · have hf : faultE bk.length ds gs (.tuple [.str (so "do"), s]) = fltD ds gs (so "do") := by
        have : faultE bk.length ds gs (.tuple [.str (so "do"), s]) = if isEnt (.tuple [.str (so "do"), s]) = false then .str (so "entry") else fltD ds gs (so "do") := by unfold faultE; cases s <;> rfl
        rw [this, he]; rfl
      have hdd : DeedOk bk.length (.tuple [.str (so "do"), s]) := .inl ⟨s, rfl, h1⟩
      have hrow := hdd.row hb
      have rr := fun n ρ => r_law_row_of_deed n ρ hb hdd
      have hf2 : fltD ds gs (so "do") = .none := by simp [fltD, n1, n2]
      have hs : stepsOf bk ds gs (.tuple [.str (so "do"), s]) = rowD bk (.tuple [.str (so "do"), s]) := by simp [stepsOf, dne, n1, n2]
      have l1 : ds.length + 1 ≤ sizeLine := by omega
      have l2 : st.length + (rowD bk (.tuple [.str (so "do"), s])).length ≤ sizeLine := by omega
      have e1 : 1 ≤ sizeLine := by decide
      simp [re, he, hf, hf2, hs, z0, z3, z4, PyData.eqv, PyData.eqvAll, n1, n2, n5', o1, o2, o3, o4, e0, sd, sg, eqvt_nil, rr, l1, l2, stp, e1]
    · obtain ⟨j, rfl⟩ := Int.eq_ofNat_of_zero_le h1
      have hf : faultE bk.length ds gs (.tuple [.str (so "macro"), .int j, .int w]) = if (bk.length : Int) ≤ j then .str (so "macro") else .none := by
        have : faultE bk.length ds gs (.tuple [.str (so "macro"), .int j, .int w]) = if isEnt (.tuple [.str (so "macro"), .int j, .int w]) = false then .str (so "entry") else if (bk.length : Int) ≤ j then .str (so "macro") else .none := rfl
        rw [this, he]; rfl
      by_cases hj : j < bk.length
      · have hji : ¬ ((bk.length : Int) ≤ j) := by omega
        have hjn : ¬ (bk.length ≤ j) := by omega
        have hdd : DeedOk bk.length (.tuple [.str (so "macro"), .int j, .int w]) := .inr ⟨j, w, rfl, hj, h2⟩
        have hrow := hdd.row hb
        have rr := fun n ρ => r_law_row_of_deed n ρ hb hdd
        have hs : stepsOf bk ds gs (.tuple [.str (so "macro"), .int j, .int w]) = rowD bk (.tuple [.str (so "macro"), .int j, .int w]) := by simp [stepsOf, dne, n3, n4]
        have l1 : ds.length + 1 ≤ sizeLine := by omega
        have l2 : st.length + (rowD bk (.tuple [.str (so "macro"), .int j, .int w])).length ≤ sizeLine := by omega
        have e1 : 1 ≤ sizeLine := by decide
        simp [re, he, hf, hs, z0, z3, z4, PyData.eqv, PyData.eqvAll, n3, n4, o1, o2, o3, o4, e0, sd, sg, eqvt_nil, rr, l1, l2, stp, e1, hji, hjn]
      · have hji : ((bk.length : Int) ≤ j) := by omega
        have hjn : (bk.length ≤ j) := by omega
        simp [re, he, hf, z0, z3, z4, PyData.eqv, PyData.eqvAll, n3, n4, o1, o2, o3, o4, e0, hji, hjn]
end K02

set_option maxRecDepth 100000
set_option maxHeartbeats 1000000
namespace K02
open PySem PySem.Spec DL
/-- the fault, as the law tells it -/
def fltV (nb : Nat) (xs : List PyData) (k : Nat) (ds gs : List PyData) : PyData := match fltAt nb xs k ds gs with
  | none => .none
  | some (j, f) => .tuple [.str (so "row"), .int j, f]
theorem ga_loop (n : Nat) {bk : List PyData} {th : Sl} (hb : BookOk bk) : ∀ (xs : List PyData) (k m : Nat) {ds gs st : List PyData} {s5 s6 : Sl}, DK m ds gs → Dd bk.length ds gs → st.length ≤ 4 * m → 4 * (m + xs.length) ≤ sizeLine → (∀ x ∈ xs, Nice 60 x) → s5 ≠ .lk → s6 ≠ .lk →
    (fltAt bk.length xs k ds gs = none ∧ ∃ t5 t6, forL (asgD [] (.tp [.nm 5, .nm 6])) (evB tab.P (n + 48) [] gaBody) (enumK k xs) (gaS bk th ds gs st s5 s6) = .ok .nx (gaS bk th (runD xs ds gs).1 (runD xs ds gs).2 (st ++ stepsR bk xs ds gs) t5 t6)) ∨
    (∃ f A B C r0 r1 r, fltAt bk.length xs k ds gs = some f ∧ forL (asgD [] (.tp [.nm 5, .nm 6])) (evB tab.P (n + 48) [] gaBody) (enumK k xs) (gaS bk th ds gs st s5 s6) = .ok (.rt (.lf (.d (.tuple [.tuple [.str (so "row"), .int f.1, f.2], .tuple A, .tuple B, .tuple C])))) (r0 :: r1 :: r))
  | [], k, m, ds, gs, st, s5, s6, _, _, _, _, _, _, _ => .inl ⟨rfl, s5, s6, by simp [runD, stepsR]⟩
  | x :: xs, k, m, ds, gs, st, s5, s6, hk, hd, hst, hm, hx, h5, h6 => by
    rw [List.length_cons] at hm
    have hx0 := hx x (List.mem_cons_self ..)
    have c1 := ga_one n (k := k) (th := th) hb hk hd (by omega) hst hx0
    have a1 : asgD [] (.tp [.nm 5, .nm 6]) (.tuple [.int (k : Nat), x]) (gaS bk th ds gs st s5 s6) = some (gaS bk th ds gs st (.lf (.d (.int k))) (.lf (.d x))) := by
      have p5 := fun i (ρ : Rho) s => putK_ne (i := i) (ρ := ρ) (s := s) h5
      have p6 := fun i (ρ : Rho) s => putK_ne (i := i) (ρ := ρ) (s := s) h6
      simp [p5, p6]
    rw [enumK_cons, q_forL_cons, a1]
    simp only [q_asgK_s]
    rw [c1]
    cases hf : isNone (faultE bk.length ds gs x) with
    | true =>
      have c := can_of hf
      have hs := hd.steps hb c
      rcases ga_loop n (th := th) hb xs (k + 1) (m + 1) (s5 := .lf (.d (.int k))) (s6 := .lf (.d x)) (st := st ++ stepsOf bk ds gs x) (hk.stp c hx0) (hd.stp c).1 (by rw [List.length_append]; omega) (by omega) (fun y hy => hx y (List.mem_cons_of_mem _ hy)) (by simp) (by simp) with ⟨e1, t5, t6, e2⟩ | ⟨f, A, B, C, r0, r1, r, e1, e2⟩
      · refine .inl ⟨?_, t5, t6, ?_⟩
        · rw [fltAt, if_pos hf]; exact e1
        · simp only [if_true, q_forK_nx]
          rw [e2, stepsR, runD, List.append_assoc]
      · refine .inr ⟨f, A, B, C, r0, r1, r, ?_, ?_⟩
        · rw [fltAt, if_pos hf]; exact e1
        · simp only [if_true, q_forK_nx]
          exact e2
    | false =>
      refine .inr ⟨(k, faultE bk.length ds gs x), ds, gs, st, .lf (.d (.tuple bk)), th, [.lf (.d (.tuple ds)), .lf (.d (.tuple gs)), .lf (.d (.tuple st)), .lf (.d (.int k)), .lf (.d x)], ?_, ?_⟩
      · rw [fltAt, if_neg (by simp [hf])]
      · simp
/-- a law's own walk: the fault; with none of it the desks and the steps -/
theorem r_gone_along (n : Nat) (ρ : Rho) {bk xs : List PyData} (hb : BookOk bk) (hx : ∀ x ∈ xs, Nice 60 x) (hl : xs.length ≤ 400) :
    ∃ A B C, callF (evB tab.P (n + 52)) D__law_gone_along [.lf (.d (.tuple bk)), .lf (.d (.tuple xs))] ρ = .ok (.lf (.d (.tuple [fltV bk.length xs 0 [] [], .tuple A, .tuple B, .tuple C]))) ρ ∧ (fltAt bk.length xs 0 [] [] = none → A = (runD xs [] []).1 ∧ B = (runD xs [] []).2 ∧ C = stepsR bk xs [] []) := by
  have z0 := sz0
  have z3 : 3 ≤ sizeLine := by decide
  have z4 : 4 ≤ sizeLine := by decide
  rcases ga_loop (n + 2) (th := .lf (.d (.tuple xs))) hb xs 0 0 (ds := []) (gs := []) (st := []) (s5 := .no) (s6 := .no) DK.nil Dd.nil (by simp) (Nat.le_trans (by omega) (show 1600 ≤ sizeLine by decide)) hx (by simp) (by simp) with ⟨e1, t5, t6, e2⟩ | ⟨f, A, B, C, r0, r1, r, e1, e2⟩
  · refine ⟨_, _, _, ?_, fun _ => ⟨rfl, rfl, rfl⟩⟩
    rw [D__law_gone_along, callF_mk]
    simp at e2
    simp [enumD_eq, e2, z0, z3, z4, fltV, e1]
  · refine ⟨A, B, C, ?_, fun z => by rw [e1] at z; cases z⟩
    rw [D__law_gone_along, callF_mk]
    simp [enumD_eq, e2, z0, z3, z4, fltV, e1]
end K02

set_option maxRecDepth 100000
set_option maxHeartbeats 1000000
namespace K02
open PySem PySem.Spec DL
theorem r_alike (n : Nat) (ρ : Rho) {d : PyData} {k m : Nat} (hn : Nice k d) (hk : k ≤ 60) (hs : Shw m d) (hm : m ≤ sizeLine) : callF (evB tab.P (n + 20)) D__law_alike [.lf (.d d), .lf (.d d)] ρ = .ok (.lf (.d (.bool true))) ρ := by
  rw [D__law_alike, callF_mk]
  have e := pd_repr hn hk hs hm
  have o := hs.o
  have s := hn.sh (Nat.le_trans hk (by decide))
  have r := hn.refl
  simp [e, o, s, r, PyData.eqv]
theorem r_alikeL (n : Nat) (ρ : Rho) (i : Nat) {d : List PyData} {k m : Nat} (hi : ρ[i]? = some (.lf (.ls d))) (hn : Nice k (.list d)) (hk : k ≤ 60) (hs : Shw m (.list d)) (hm : m ≤ sizeLine) : callF (evB tab.P (n + 20)) D__law_alike [.pl i, .lf (.ls d)] ρ = .ok (.lf (.d (.bool true))) ρ := by
  rw [D__law_alike, callF_mk]
  have e := pd_reprO hn hk hs hm
  have o := hs.o
  have s := hn.sh (Nat.le_trans hk (by decide))
  have r := hn.refl
  have hset : ρ.set i (.lf (.ls d)) = ρ := set_same hi
  simp [hi, e, o, s, r, PyData.eqv, hset]
/-! ### short rows -/
def GSt (x : PyData) : Prop := ∃ c w, x = .tuple [.str c, .int w] ∧ PyData.strOk c = true
theorem GSt.st {x : PyData} (h : GSt x) : IsSt x := by
  obtain ⟨c, w, rfl, _⟩ := h
  exact ⟨_, _, rfl⟩
theorem GSt.ctr {x : PyData} (h : GSt x) : GSt (ctr x) := by
  obtain ⟨c, w, rfl, h⟩ := h
  exact ⟨c, 0 - w, rfl, h⟩
theorem ctr_ctr {x : PyData} (h : GSt x) : ctr (ctr x) = x := by
  obtain ⟨c, w, rfl, h⟩ := h
  simp [ctr]
theorem GSt.lay {x : PyData} (h : GSt x) : Lay 1 x := by
  obtain ⟨c, w, rfl, h⟩ := h
  exact Lay.tup fun d hd => by
    simp at hd
    rcases hd with rfl | rfl
    · exact Lay.str h
    · exact Lay.int w
theorem GSt.eqv {x y : PyData} (hx : GSt x) (hy : GSt y) : PyData.eqv x y = true ↔ x = y := by
  obtain ⟨c, w, rfl, h⟩ := hx
  obtain ⟨d, v, rfl, h2⟩ := hy
  simp [PyData.eqv, PyData.eqvAll]
def psh (acc : List PyData) (s : PyData) : List PyData := match acc.getLast? with
  | some t => if PyData.eqv t (ctr s) then acc.dropLast else acc ++ [s]
  | none => acc ++ [s]
theorem nil_snoc (a : List PyData) : a = [] ∨ ∃ e d, a = e ++ [d] := by
  by_cases h : a = []
  · exact .inl h
  · exact .inr (snoc_of h)
theorem psh_nil (s : PyData) : psh [] s = [s] := rfl
theorem psh_snoc (acc : List PyData) (t s : PyData) : psh (acc ++ [t]) s = if PyData.eqv t (ctr s) then acc else acc ++ [t] ++ [s] := by
  unfold psh
  rw [List.getLast?_concat]
  simp
theorem psh_len (acc : List PyData) (s : PyData) : (psh acc s).length ≤ acc.length + 1 := by
  unfold psh
  split
  · split
    · simp; omega
    · simp
  · simp
theorem psh_all {acc : List PyData} {s : PyData} (h : ∀ x ∈ acc, GSt x) (hs : GSt s) : ∀ x ∈ psh acc s, GSt x := by
  intro x hx
  unfold psh at hx
  have ha : x ∈ acc ++ [s] → GSt x := fun hx => by
    rcases List.mem_append.mp hx with z | z
    · exact h x z
    · rw [List.mem_singleton.mp z]; exact hs
  split at hx
  · split at hx
    · exact h x ((List.dropLast_sublist acc).subset hx)
    · exact ha hx
  · exact ha hx
theorem sh_loop (n : Nat) {th : Sl} : ∀ (xs acc : List PyData) {s2 : Sl}, (∀ x ∈ xs, GSt x) → (∀ x ∈ acc, GSt x) → acc.length + xs.length ≤ sizeLine → s2 ≠ .lk →
    ∃ t2, forL (asgD [] (.nm 2)) (evB tab.P (n + 40) [] [.ite (.and (.p .ne [.v 1, .p .lst []]) (.p .eq [.p .ix [.v 1, .p .neg [.k (.int 1)]], .call "_law_contrary" [.v 2]])) [.ex (.m .pop (.v 1) [])] [.ex (.m .append (.v 1) [.v 2])]]) xs [th, .lf (.ls acc), s2] = .ok .nx [th, .lf (.ls (xs.foldl psh acc)), t2]
  | [], acc, s2, _, _, _, _ => ⟨s2, by simp⟩
  | x :: xs, acc, s2, hx, ha, hl, h2 => by
    rw [List.length_cons] at hl
    have hx0 := hx x (List.mem_cons_self ..)
    obtain ⟨t2, e⟩ := sh_loop n (th := th) xs (psh acc x) (s2 := .lf (.d x)) (fun y hy => hx y (List.mem_cons_of_mem _ hy)) (psh_all ha hx0) (by have := psh_len acc x; omega) (by simp)
    refine ⟨t2, ?_⟩
    have p2 := fun i (ρ : Rho) s => putK_ne (i := i) (ρ := ρ) (s := s) h2
    have rc := fun n ρ => r_law_contrary n ρ hx0.st
    have sl : SeqAt.shaped (.list acc) = true := (Lay.lst fun d hd => (ha d hd).lay).sh (by decide)
    have e0 := nil_shL
    have z0 := sz0
    have sc : SeqAt.shaped (ctr x) = true := hx0.ctr.lay.sh (by decide)
    have hlt : acc.length < sizeLine := by omega
    have zp : 0 < sizeLine := by decide
    rcases nil_snoc acc with rfl | ⟨a, t, rfl⟩
    · rw [psh_nil] at e
      simp [p2, rc, sl, e0, z0, zp, eqv_nil, psh_nil]
      simpa using e
    · have st : SeqAt.shaped t = true := (ha t (by simp)).lay.sh (by decide)
      rw [psh_snoc] at e
      simp at sl hlt
      cases hq : PyData.eqv t (ctr x) with
      | true =>
        rw [hq] at e
        simp [p2, rc, sl, e0, z0, eqv_nil, hlt, psh_snoc, hq, st, sc]
        simpa using e
      | false =>
        rw [hq] at e
        simp [p2, rc, sl, e0, z0, eqv_nil, hlt, psh_snoc, hq, st, sc]
        simpa using e
def short (xs : List PyData) : List PyData := xs.foldl psh []
theorem r_short (n : Nat) (ρ : Rho) {xs : List PyData} (hx : ∀ x ∈ xs, GSt x) (hl : xs.length ≤ sizeLine) : callF (evB tab.P (n + 50)) D__law_short [.lf (.d (.tuple xs))] ρ = .ok (.lf (.d (.tuple (short xs)))) ρ := by
  rw [D__law_short, callF_mk]
  obtain ⟨t2, e⟩ := sh_loop (n + 8) (th := .lf (.d (.tuple xs))) xs [] (s2 := .no) hx (by simp) (by simpa using hl) (by simp)
  have z0 := sz0
  simp [e, z0, short]
/-! ### what short rows keep -/
def Red : List PyData → Prop
  | [] => True
  | [_] => True
  | a :: b :: r => a ≠ ctr b ∧ Red (b :: r)
theorem red_app : ∀ {a : List PyData} {t : PyData}, Red (a ++ [t]) → Red a
  | [], _, _ => trivial
  | [_], _, _ => trivial
  | x :: y :: a, t, h => ⟨h.1, red_app (a := y :: a) h.2⟩
theorem red_snoc : ∀ {a : List PyData} {t s : PyData}, Red (a ++ [t]) → t ≠ ctr s → Red (a ++ [t] ++ [s])
  | [], _, _, _, h => ⟨h, trivial⟩
  | [x], t, s, h, h2 => ⟨h.1, h2, trivial⟩
  | x :: y :: a, t, s, h, h2 => ⟨h.1, red_snoc (a := y :: a) h.2 h2⟩
theorem red_last : ∀ {a : List PyData} {t s : PyData}, Red (a ++ [t] ++ [s]) → t ≠ ctr s
  | [], _, _, h => h.1
  | [_], _, _, h => h.2.1
  | _ :: y :: a, t, s, h => red_last (a := y :: a) h.2
structure Stk (a : List PyData) : Prop where
  g : ∀ x ∈ a, GSt x
  r : Red a
theorem Stk.psh {a : List PyData} {s : PyData} (h : Stk a) (hs : GSt s) : Stk (psh a s) := by
  refine ⟨psh_all h.g hs, ?_⟩
  rcases nil_snoc a with rfl | ⟨a, t, rfl⟩
  · trivial
  · rw [psh_snoc]
    split
    · exact red_app h.r
    · rename_i hq
      exact red_snoc h.r fun z => hq ((GSt.eqv (h.g t (by simp)) hs.ctr).mpr z)
theorem psh_back {a : List PyData} {s : PyData} (h : Stk a) (hs : GSt s) : psh (psh a s) (ctr s) = a := by
  have hc := ctr_ctr hs
  rcases nil_snoc a with rfl | ⟨a, t, rfl⟩
  · rw [psh_nil]
    have := psh_snoc [] s (ctr s)
    simp at this
    rw [this, hc, if_pos ((GSt.eqv hs hs).mpr rfl)]
  · have ht := h.g t (by simp)
    rw [psh_snoc]
    split
    · rename_i hq
      have e := (GSt.eqv ht hs.ctr).mp hq
      subst e
      rcases nil_snoc a with rfl | ⟨a, u, rfl⟩
      · rfl
      · rw [psh_snoc, hc]
        have hu := h.g u (by simp)
        have := red_last h.r
        rw [hc] at this
        rw [if_neg fun z => this ((GSt.eqv hu hs).mp z)]
    · rw [psh_snoc, hc, if_pos ((GSt.eqv hs hs).mpr rfl)]
theorem Stk.fold {a : List PyData} : ∀ {r : List PyData}, Stk a → (∀ x ∈ r, GSt x) → Stk (r.foldl K02.psh a)
  | [], h, _ => h
  | x :: r, h, hr => (h.psh (hr x (List.mem_cons_self ..))).fold fun y hy => hr y (List.mem_cons_of_mem _ hy)
theorem fold_back : ∀ (r : List PyData) {a : List PyData}, Stk a → (∀ x ∈ r, GSt x) → (und r).foldl psh (r.foldl psh a) = a
  | [], _, _, _ => rfl
  | x :: r, a, h, hr => by
    have hx := hr x (List.mem_cons_self ..)
    have hr' : ∀ y ∈ r, GSt y := fun y hy => hr y (List.mem_cons_of_mem _ hy)
    have e : und (x :: r) = und r ++ [ctr x] := by simp [und]
    rw [e, List.foldl_append, show (x :: r).foldl psh a = r.foldl psh (psh a x) from rfl, fold_back r (h.psh hx) hr']
    exact psh_back h hx
theorem short_steps {bk : List PyData} (hb : BookOk bk) (hg : ∀ x, DeedOk bk.length x → Nice 60 x → ∀ y ∈ rowD bk x, GSt y) : ∀ (xs : List PyData) (k m : Nat) {ds gs st : List PyData}, fltAt bk.length xs k ds gs = none → DK m ds gs → Dd bk.length ds gs → (∀ x ∈ xs, Nice 60 x) → st.foldl psh [] = (ds.flatMap (rowD bk)).foldl psh [] →
    (st ++ stepsR bk xs ds gs).foldl psh [] = ((runD xs ds gs).1.flatMap (rowD bk)).foldl psh []
  | [], _, _, _, _, _, _, _, _, _, h => by simpa [stepsR, runD] using h
  | x :: xs, k, m, ds, gs, st, hf, hk, hd, hx, h => by
    obtain ⟨c, hf'⟩ := flt_cons hf
    have hx0 := hx x (List.mem_cons_self ..)
    rw [stepsR, runD, ← List.append_assoc]
    refine short_steps hb hg xs (k + 1) (m + 1) hf' (hk.stp c hx0) (hd.stp c).1 (fun y hy => hx y (List.mem_cons_of_mem _ hy)) ?_
    have hall : ∀ (ds : List PyData), (∀ d ∈ ds, DeedOk bk.length d ∧ Nice 60 d) → Stk ((ds.flatMap (rowD bk)).foldl psh []) := fun ds h => Stk.fold ⟨by simp, trivial⟩ fun y hy => by
      obtain ⟨d, hd, hy⟩ := List.mem_flatMap.mp hy
      exact hg d (h d hd).1 (h d hd).2 y hy
    rcases c.cases2 with ⟨rfl, e, d, rfl, h1, h2⟩ | ⟨rfl, e, d, rfl, h1, h2⟩ | ⟨hdd, h1, h2⟩
    · rw [h1]
      have es : stepsOf bk (e ++ [d]) gs (.tuple [.str (so "undo")]) = und (rowD bk d) := by unfold stepsOf; rw [h2]; rfl
      rw [es, List.foldl_append, h, List.flatMap_append, List.foldl_append]
      simp only [List.flatMap_cons, List.flatMap_nil, List.append_nil]
      exact fold_back _ (hall e fun z hz => ⟨hd.d z (by simp [hz]), hk.d z (by simp [hz])⟩) (hg d (hd.d d (by simp)) (hk.d d (by simp)))
    · rw [h1]
      have es : stepsOf bk ds (e ++ [d]) (.tuple [.str (so "redo")]) = rowD bk d := by unfold stepsOf; rw [h2]; rfl
      rw [es, List.foldl_append, h, List.flatMap_append, List.foldl_append]
      simp
    · rw [h1]
      have es : stepsOf bk ds gs x = rowD bk x := by unfold stepsOf; rw [h2]; rfl
      rw [es, List.foldl_append, h, List.flatMap_append, List.foldl_append]
      simp
end K02

set_option maxRecDepth 100000
set_option maxHeartbeats 1000000
namespace K02
open PySem PySem.Spec DL
theorem r_take (n : Nat) (ρ : Rho) (i : Nat) {l : List PyData} {m : Int} (hi : ρ[i]? = some (.lf (.ls l))) (hb : Bag l) (h0 : 0 < m) (h1 : m < 1073741824) :
    ∃ v l', callF (evB tab.P (n + 20)) D__law_take [.pl i, .lf (.d (.int m))] ρ = .ok (.lf (.d (.int v))) (ρ.set i (.lf (.ls l'))) ∧ Bag l' ∧ 0 ≤ v ∧ v < m := lawTake n ρ i hi hb h0 h1
theorem r_some (n : Nat) (ρ : Rho) (i : Nat) {l xs : List PyData} (hi : ρ[i]? = some (.lf (.ls l))) (hb : Bag l) (h0 : 0 < xs.length) (h1 : xs.length < 1073741824) :
    ∃ x l', callF (evB tab.P (n + 30)) D__law_some [.pl i, .lf (.ls xs)] ρ = .ok (.lf (.d x)) (ρ.set i (.lf (.ls l'))) ∧ Bag l' ∧ x ∈ xs := lawSome fn__law_take n ρ i hi hb h0 h1
theorem sz63 : (63 : Nat) ≤ sizeLine := by decide
/-- the bag at first -/
theorem r_law_bag (n : Nat) (ρ : Rho) (ns : List Int) (h : ns.length ≤ 63) : ∃ l, callF (evB tab.P (n + 20)) D__law_bag [.lf (.d (scriptD ns))] ρ = .ok (.lf (.ls l)) ρ ∧ Bag l := by
  obtain ⟨cs, lc, h1, h2⟩ : ∃ cs, evE tab.P (n + 17) (.lc [1] (.nm 1) 0 [.p (.sl false true) [.v 0, .k (.int 63)]] [] (.p .abs [.v 1])) [.lf (.d (scriptD ns)), .no] = .ok (.lf (.ls cs)) [.lf (.d (scriptD ns)), .no] ∧ (∀ c ∈ cs, ∃ i : Int, c = .int i) ∧ cs.length ≤ 63 := by
    refine ⟨(ns.take 63).map fun i => .int (if i < 0 then -i else i), ?_, fun c hc => ?_, ?_⟩
    · exact lc_map (n := n + 16) (ys := ns.take 63) (ts := [.lf (.ls ((ns.take 63).map .int))]) .int (fun i => .int (if i < 0 then -i else i)) (by
        have e := cutD_to (ns.map .int) 63
        simp at e
        simp [scriptD, e]) (by simp) (by simp) (by simp) (fun y hy => ⟨_, by simp; rfl, rfl⟩) (by rw [List.length_take]; exact Nat.le_trans (Nat.min_le_left ..) sz63)
    · obtain ⟨i, _, rfl⟩ := List.mem_map.mp hc
      exact ⟨_, rfl⟩
    · rw [List.length_map, List.length_take]; omega
  refine ⟨[.int 0, .int 1234567891, .int 0, .list cs], ?_, _, _, _, _, rfl, h1, h2⟩
  rw [D__law_bag, callF_mk]
  have z4 : 4 ≤ sizeLine := by decide
  simp [lc, z4]
/-! ### what is drawn -/
def SS : List PyData := [.tuple [.str (so "a"), .int 1], .tuple [.str (so "a"), .int (-1)], .tuple [.str (so "b"), .int 1], .tuple [.str (so "b"), .int (-1)]]
theorem mem_SS {x c w : PyData} (hc : c ∈ [PyData.str (so "a"), .str (so "b")]) (hw : w = .int 1 ∨ w = .int (-1)) : .tuple [c, w] ∈ SS := by
  simp at hc
  rcases hc with rfl | rfl <;> rcases hw with rfl | rfl <;> simp [SS]
theorem ok_a : PyData.strOk (so "a") = true := by decide +kernel
theorem ok_b : PyData.strOk (so "b") = true := by decide +kernel
theorem SS_cases {x : PyData} (h : x ∈ SS) : ∃ c w, x = .tuple [.str c, .int w] ∧ (c = so "a" ∨ c = so "b") ∧ (w = 1 ∨ w = -1) := by
  simp [SS] at h
  rcases h with rfl | rfl | rfl | rfl <;> exact ⟨_, _, rfl, by simp, by simp⟩
theorem SS_g {x : PyData} (h : x ∈ SS) : GSt x := by
  obtain ⟨c, w, rfl, hc, _⟩ := SS_cases h
  refine ⟨c, w, rfl, ?_⟩
  rcases hc with rfl | rfl
  · exact ok_a
  · exact ok_b
theorem SS_ctr {x : PyData} (h : x ∈ SS) : ctr x ∈ SS := by
  obtain ⟨c, w, rfl, hc, hw⟩ := SS_cases h
  rcases hc with rfl | rfl <;> rcases hw with rfl | rfl <;> simp [SS, ctr]
structure DB (bk : List PyData) : Prop where
  r : ∀ r ∈ bk, ∃ xs, r = .tuple xs ∧ xs.length ≤ 4 ∧ ∀ x ∈ xs, x ∈ SS
  l : bk.length ≤ 3
theorem DB.ok {bk : List PyData} (h : DB bk) : BookOk bk := ⟨fun r hr => by
  obtain ⟨xs, e, l, s⟩ := h.r r hr
  exact ⟨xs, e, l, fun x hx => (SS_g (s x hx)).st⟩, h.l⟩
theorem one_step (n : Nat) (l : List PyData) (x z : PyData) (hB : Bag l) : ∃ r l', evE tab.P (n + 74) (.p .tup [.call "_law_some" [.v 0, .p .lst [.k (.str (so "a")), .k (.str (so "b"))]], .call "_law_some" [.v 0, .p .lst [.k (.int 1), .k (.int 1), .p .neg [.k (.int 1)]]]]) [.lf (.ls l), .lf (.d x), .lf (.d z)] = .ok (.lf r) [.lf (.ls l'), .lf (.d x), .lf (.d z)] ∧ Bag l' ∧ r.dat ∈ SS := by
  obtain ⟨c, l1, e1, B1, hc⟩ := r_some (n + 42) [.lf (.ls l), .lf (.d x), .lf (.d z)] 0 (xs := [.str (so "a"), .str (so "b")]) rfl hB (by simp) (by simp)
  obtain ⟨w, l2, e2, B2, hw⟩ := r_some (n + 42) [.lf (.ls l1), .lf (.d x), .lf (.d z)] 0 (xs := [.int 1, .int 1, .int (-1)]) rfl B1 (by simp) (by simp)
  have z2 := sz2
  have z3 : 3 ≤ sizeLine := by decide
  refine ⟨.d (.tuple [c, w]), l2, ?_, B2, mem_SS (x := .none) hc (by simpa using hw)⟩
  simp at e1 e2
  simp [e1, e2, z2, z3]
end K02

set_option maxRecDepth 100000
set_option maxHeartbeats 1000000
namespace K02
open PySem PySem.Spec DL
abbrev stepE : Ex := .p .tup [.call "_law_some" [.v 0, .p .lst [.k (.str (so "a")), .k (.str (so "b"))]], .call "_law_some" [.v 0, .p .lst [.k (.int 1), .k (.int 1), .p .neg [.k (.int 1)]]]]
abbrev rowE : Ex := .p .tuple [.lc [2] (.nm 2) 1 [.call "_law_take" [.v 0, .k (.int 5)]] [] stepE]
theorem k_ev {P : Pg} (n : Nat) (m : Int) (ρ : Rho) : evE P (n + 25) (.k (.int m)) ρ = .ok (.lf (.d (.int m))) ρ := rfl
theorem fn_take : tab.P.fn "_law_take" = some takeD := fn__law_take
theorem lc5 (n : Nat) (l : List PyData) (x : PyData) (hB : Bag l) : ∃ ys l', evE tab.P (n + 75) (.lc [2] (.nm 2) 1 [.call "_law_take" [.v 0, .k (.int 5)]] [] stepE) [.lf (.ls l), .lf (.d x), .no] = .ok (.lf (.ls ys)) [.lf (.ls l'), .lf (.d x), .no] ∧ Bag l' ∧ (ys.length : Int) < 5 ∧ ∀ y ∈ ys, y ∈ SS := by
  have h := lc_draw (P := tab.P) fn_take (n := n + 48) (ρ := [.lf (.ls l), .lf (.d x), .no]) (b := 0) (i := 2) (m := 5) (em := .k (.int 5)) (e := stepE) (l := l) (fun d => d ∈ SS) (fun ρ => k_ev (n + 48) 5 ρ) rfl hB rfl (by decide) (by decide) (fun l z hB => one_step n l x z hB)
  exact h
theorem one_row (n : Nat) (l : List PyData) (x : PyData) (hB : Bag l) : ∃ r l', evE tab.P (n + 76) rowE [.lf (.ls l), .lf (.d x), .no] = .ok (.lf r) [.lf (.ls l'), .lf (.d x), .no] ∧ Bag l' ∧ ∃ xs, r.dat = .tuple xs ∧ xs.length ≤ 4 ∧ ∀ x ∈ xs, x ∈ SS := by
  obtain ⟨ys, l2, e, B2, ln, hq⟩ := lc5 n l x hB
  refine ⟨.d (.tuple ys), l2, ?_, B2, ys, rfl, by omega, hq⟩
  simp [e]
theorem lc4 (n : Nat) (l : List PyData) (hB : Bag l) : ∃ ys l', evE tab.P (n + 77) (.lc [1] (.nm 1) 1 [.call "_law_take" [.v 0, .k (.int 4)]] [] rowE) [.lf (.ls l), .no, .no] = .ok (.lf (.ls ys)) [.lf (.ls l'), .no, .no] ∧ Bag l' ∧ (ys.length : Int) < 4 ∧ ∀ y ∈ ys, ∃ xs, y = .tuple xs ∧ xs.length ≤ 4 ∧ ∀ x ∈ xs, x ∈ SS := by
  have h := lc_draw (P := tab.P) fn_take (n := n + 50) (ρ := [.lf (.ls l), .no, .no]) (b := 0) (i := 1) (m := 4) (em := .k (.int 4)) (e := rowE) (l := l) (fun d => ∃ xs, d = .tuple xs ∧ xs.length ≤ 4 ∧ ∀ x ∈ xs, x ∈ SS) (fun ρ => k_ev (n + 50) 4 ρ) rfl hB rfl (by decide) (by decide) (fun l z hB => one_row n l z hB)
  exact h
theorem r_small_book (n : Nat) (ρ : Rho) (i : Nat) {l : List PyData} (hi : ρ[i]? = some (.lf (.ls l))) (hb : Bag l) : ∃ bk l', callF (evB tab.P (n + 80)) D__law_small_book [.pl i] ρ = .ok (.lf (.d (.tuple bk))) (ρ.set i (.lf (.ls l'))) ∧ Bag l' ∧ DB bk := by
  obtain ⟨ys, l2, e, B2, ln, hq⟩ := lc4 n l hb
  refine ⟨ys, l2, ?_, B2, hq, by omega⟩
  rw [D__law_small_book, callF_mk]
  simp [hi, e]
/-- an entry as drawn -/
def DE (nb : Nat) (x : PyData) : Prop := x = .tuple [.str (so "undo")] ∨ x = .tuple [.str (so "redo")] ∨ (∃ st ∈ SS, x = .tuple [.str (so "do"), st]) ∨ (∃ (j : Nat) (w : Int), j < nb ∧ (w = 1 ∨ w = -1) ∧ x = .tuple [.str (so "macro"), .int j, .int w])
theorem r_law_entry (n : Nat) (ρ : Rho) (i : Nat) {l bk : List PyData} (hi : ρ[i]? = some (.lf (.ls l))) (hb : Bag l) (hk : DB bk) : ∃ x l', callF (evB tab.P (n + 50)) D__law_entry [.pl i, .lf (.d (.tuple bk))] ρ = .ok (.lf (.d x)) (ρ.set i (.lf (.ls l'))) ∧ Bag l' ∧ DE bk.length x := by
  have o1 := ok_do
  have o2 := ok_mac
  have o3 := ok_undo
  have o4 := ok_redo
  have n1 := ne_do_undo
  have n2 := ne_do_redo
  have n3 := ne_mac_undo
  have n4 := ne_mac_redo
  have n5 := ne_mac_do
  have n6 := ne_redo_undo
  have n1' : ¬ (so "undo" = so "do") := fun h => n1 h.symm
  have n2' : ¬ (so "redo" = so "do") := fun h => n2 h.symm
  have n3' : ¬ (so "undo" = so "macro") := fun h => n3 h.symm
  have n4' : ¬ (so "redo" = so "macro") := fun h => n4 h.symm
  have n6' : ¬ (so "undo" = so "redo") := fun h => n6 h.symm
  have z1 : 1 ≤ sizeLine := by decide
  have z2 := sz2
  have z3 : 3 ≤ sizeLine := by decide
  have z7 : 7 ≤ sizeLine := by decide
  have ts := turns_sh
  have e0 := nil_sh
  have kl := hk.l
  have hs : SeqAt.shaped (.tuple bk) = true := (Lay.tup (k := 2) fun d hd => by
    obtain ⟨xs, rfl, hh⟩ := hk.r d hd
    exact Lay.tup (k := 1) fun y hy => (SS_g (hh.2 y hy)).lay).sh (by decide)
  rw [D__law_entry, callF_mk]
  obtain ⟨wd, l1, e1, B1, hw⟩ := r_some (n + 17) [.lf (.ls l), .lf (.d (.tuple bk)), .no] 0 (xs := [.str (so "do"), .str (so "do"), .str (so "macro"), .str (so "macro"), .str (so "undo"), .str (so "undo"), .str (so "redo")]) rfl hb (by simp) (by simp)
  have hw' : wd = .str (so "do") ∨ wd = .str (so "macro") ∨ wd = .str (so "undo") ∨ wd = .str (so "redo") := by
    simp at hw
    rcases hw with h | h | h | h <;> simp [h]
  simp at e1
  obtain ⟨c, l2, e2, B2, hc⟩ := r_some (n + 13) [.lf (.ls l1), .lf (.d (.tuple bk)), .lf (.d wd)] 0 (xs := [.str (so "a"), .str (so "b")]) rfl B1 (by simp) (by simp)
  obtain ⟨w, l3, e3, B3, hw3⟩ := r_some (n + 13) [.lf (.ls l2), .lf (.d (.tuple bk)), .lf (.d wd)] 0 (xs := [.int 1, .int (-1)]) rfl B2 (by simp) (by simp)
  simp at e2 e3
  have hdo : .tuple [c, w] ∈ SS := mem_SS (x := .none) hc (by simpa using hw3)
  rcases hw' with rfl | rfl | rfl | rfl
  · refine ⟨.tuple [.str (so "do"), .tuple [c, w]], l3, ?_, B3, .inr (.inr (.inl ⟨_, hdo, rfl⟩))⟩
    simp [hi, e1, e2, e3, z1, z2, z3, z7, PyData.eqv, o1, ts, n1, n2, n1', n2']
  · rcases nil_snoc bk with rfl | ⟨e, d, rfl⟩
    · refine ⟨.tuple [.str (so "do"), .tuple [c, w]], l3, ?_, B3, .inr (.inr (.inl ⟨_, hdo, rfl⟩))⟩
      simp [hi, e1, e2, e3, z1, z2, z3, z7, PyData.eqv, PyData.eqvAll, o1, o2, ts, n3, n4, n3', n4', n5, e0]
    · obtain ⟨j, l4, e4, B4, j0, j1⟩ := r_take (n + 26) [.lf (.ls l1), .lf (.d (.tuple (e ++ [d]))), .lf (.d (.str (so "macro")))] 0 (m := (e ++ [d]).length) rfl B1 (by rw [List.length_append]; simp; try omega) (by omega)
      obtain ⟨w, l5, e5, B5, hw5⟩ := r_some (n + 16) [.lf (.ls l4), .lf (.d (.tuple (e ++ [d]))), .lf (.d (.str (so "macro")))] 0 (xs := [.int 1, .int 1, .int (-1)]) rfl B4 (by simp) (by simp)
      have hww : ∃ v : Int, w = .int v ∧ (v = 1 ∨ v = -1) := by
        simp at hw5
        rcases hw5 with rfl | rfl
        · exact ⟨1, rfl, .inl rfl⟩
        · exact ⟨-1, rfl, .inr rfl⟩
      obtain ⟨v, rfl, hv⟩ := hww
      obtain ⟨jn, rfl⟩ := Int.eq_ofNat_of_zero_le j0
      refine ⟨.tuple [.str (so "macro"), .int jn, .int v], l5, ?_, B5, .inr (.inr (.inr ⟨jn, v, by omega, hv, rfl⟩))⟩
      simp at e4 e5 hs
      simp [hi, e1, e4, e5, z1, z2, z3, z7, PyData.eqv, eqvt_nil, o1, o2, ts, n3, n4, n3', n4', n5, e0, hs]
  · refine ⟨.tuple [.str (so "undo")], l1, ?_, B1, .inl rfl⟩
    simp [hi, e1, z1, z2, z3, z7, PyData.eqv, o3, ts]
  · refine ⟨.tuple [.str (so "redo")], l1, ?_, B1, .inr (.inl rfl)⟩
    simp [hi, e1, z1, z2, z3, z7, PyData.eqv, o4, ts]
end K02

set_option maxRecDepth 100000
set_option maxHeartbeats 1000000
namespace K02
open PySem PySem.Spec DL
def ALL : List PyData := [.tuple [.str (so "undo")], .tuple [.str (so "redo")]] ++ SS.map (fun s => .tuple [.str (so "do"), s]) ++ [(0, 1), (0, -1), (1, 1), (1, -1), (2, 1), (2, -1)].map fun (p : Nat × Int) => .tuple [.str (so "macro"), .int (p.1 : Nat), .int p.2]
theorem DE.all {nb : Nat} (h : nb ≤ 3) {x : PyData} (hx : DE nb x) : x ∈ ALL := by
  rcases hx with rfl | rfl | ⟨st, hs, rfl⟩ | ⟨j, w, hj, hw, rfl⟩
  · simp [ALL]
  · simp [ALL]
  · unfold ALL
    exact List.mem_append_left _ (List.mem_append_right _ (List.mem_map.mpr ⟨st, hs, rfl⟩))
  · unfold ALL
    refine List.mem_append_right _ (List.mem_map.mpr ⟨(j, w), ?_, rfl⟩)
    have : j = 0 ∨ j = 1 ∨ j = 2 := by omega
    rcases this with rfl | rfl | rfl <;> rcases hw with rfl | rfl <;> simp
/-- a closed thing that is as it should be -/
def okB (k m : Nat) (x : PyData) : Bool := (x.canLay0 && decide (x.depth ≤ k)) && (szOk x && (x.showable && (decide (x.shown.length ≤ m) && PyData.strOk x.shown)))
theorem okB_nice {k m : Nat} {x : PyData} (h : okB k m x = true) : Nice k x ∧ Shw m x := by
  unfold okB at h
  simp at h
  exact ⟨⟨⟨h.1.1, h.1.2⟩, h.2.1⟩, ⟨h.2.2.1, h.2.2.2.1, h.2.2.2.2⟩⟩
theorem ALL_ok : ALL.all (okB 5 40) = true := by decide +kernel
theorem SS_ok : SS.all (okB 5 20) = true := by decide +kernel
theorem DE.ok {nb : Nat} (h : nb ≤ 3) {x : PyData} (hx : DE nb x) : Nice 5 x ∧ Shw 40 x := okB_nice (List.all_eq_true.mp ALL_ok x (hx.all h))
theorem SS_nice {x : PyData} (h : x ∈ SS) : Nice 5 x ∧ Shw 20 x := okB_nice (List.all_eq_true.mp SS_ok x h)
structure HOK (bk h : List PyData) : Prop where
  e : ∀ x ∈ h, DE bk.length x
  f : fltAt bk.length h 0 [] [] = none
theorem isNone_flt {nb : Nat} {xs : List PyData} {k : Nat} {ds gs : List PyData} : isNone (fltV nb xs k ds gs) = true ↔ fltAt nb xs k ds gs = none := by
  unfold fltV
  cases fltAt nb xs k ds gs with
  | none => simp
  | some p => simp
abbrev hiBody : List Sx := [.asg (.nm 5) (.call "_law_entry" [.v 0, .v 1]), .asg (.nm 3) (.p .add [.v 3, .ite (.p .isN [.p .ix [.call "_law_gone_along" [.v 1, .p .add [.v 3, .p .tup [.v 5]]], .k (.int 0)]]) (.p .tup [.v 5]) (.p .tup [])])]
theorem hi_loop (n : Nat) {bk : List PyData} {mo : Sl} (hb : DB bk) : ∀ (xs h l : List PyData) (m : Nat) {s4 s5 : Sl}, Bag l → HOK bk h → h.length ≤ m → m + xs.length ≤ 300 → s4 ≠ .lk → s5 ≠ .lk →
    ∃ l' h' t4 t5, forL (asgD [0] (.nm 4)) (evB tab.P (n + 60) [0] hiBody) xs [.lf (.ls l), .lf (.d (.tuple bk)), mo, .lf (.d (.tuple h)), s4, s5] = .ok .nx [.lf (.ls l'), .lf (.d (.tuple bk)), mo, .lf (.d (.tuple h')), t4, t5] ∧ Bag l' ∧ HOK bk h' ∧ h'.length ≤ m + xs.length
  | [], h, l, m, s4, s5, B, H, hl, _, _, _ => ⟨l, h, s4, s5, by simp, B, H, by simpa using hl⟩
  | x :: xs, h, l, m, s4, s5, B, H, hl, hm, h4, h5 => by
    rw [List.length_cons] at hm
    have p4 := fun i (ρ : Rho) s => putK_ne (i := i) (ρ := ρ) (s := s) h4
    have p5 := fun i (ρ : Rho) s => putK_ne (i := i) (ρ := ρ) (s := s) h5
    obtain ⟨y, l1, e1, B1, hy⟩ := r_law_entry (n + 7) [.lf (.ls l), .lf (.d (.tuple bk)), mo, .lf (.d (.tuple h)), .lf (.d x), s5] 0 rfl B hb
    simp at e1
    have hall : ∀ z ∈ h ++ [y], Nice 60 z := fun z hz => by
      rcases List.mem_append.mp hz with q | q
      · exact ((H.e z q).ok hb.l).1.mono (by decide)
      · rw [List.mem_singleton.mp q]; exact (hy.ok hb.l).1.mono (by decide)
    have hlen : (h ++ [y]).length ≤ 400 := by rw [List.length_append, List.length_singleton]; omega
    obtain ⟨A, Bb, C, e2, _⟩ := r_gone_along n [.lf (.ls l1), .lf (.d (.tuple bk)), mo, .lf (.d (.tuple h)), .lf (.d x), .lf (.d y)] hb.ok hall hlen
    have z1 : 1 ≤ sizeLine := by decide
    have z0 := sz0
    have z300 : (300 : Nat) ≤ sizeLine := by decide
    have s1 : h.length + 1 ≤ sizeLine := by omega
    have s2 : h.length ≤ sizeLine := by omega
    cases hn : isNone (fltV bk.length (h ++ [y]) 0 [] []) with
    | true =>
      obtain ⟨l', h', t4, t5, e, B', H', hl'⟩ := hi_loop n (mo := mo) hb xs (h ++ [y]) l1 (m + 1) (s4 := .lf (.d x)) (s5 := .lf (.d y)) B1 ⟨fun z hz => by
        rcases List.mem_append.mp hz with q | q
        · exact H.e z q
        · rw [List.mem_singleton.mp q]; exact hy, isNone_flt.mp hn⟩ (by rw [List.length_append, List.length_singleton]; omega) (by omega) (by simp) (by simp)
      refine ⟨l', h', t4, t5, ?_, B', H', by rw [List.length_cons]; omega⟩
      simp [p4, p5, e1, e2, z1, z0, s1, hn]
      exact e
    | false =>
      obtain ⟨l', h', t4, t5, e, B', H', hl'⟩ := hi_loop n (mo := mo) hb xs h l1 (m + 1) (s4 := .lf (.d x)) (s5 := .lf (.d y)) B1 H (by omega) (by omega) (by simp) (by simp)
      refine ⟨l', h', t4, t5, ?_, B', H', by rw [List.length_cons]; omega⟩
      simp [p4, p5, e1, e2, z1, z0, s1, s2, hn]
      exact e
theorem r_law_history (n : Nat) (ρ : Rho) (i : Nat) {l bk : List PyData} (hi : ρ[i]? = some (.lf (.ls l))) (hb : Bag l) (hk : DB bk) : ∃ h l', callF (evB tab.P (n + 64)) D__law_history [.pl i, .lf (.d (.tuple bk)), .lf (.d (.int 12))] ρ = .ok (.lf (.d (.tuple h))) (ρ.set i (.lf (.ls l'))) ∧ Bag l' ∧ HOK bk h ∧ h.length ≤ 12 := by
  obtain ⟨v, l1, e1, B1, v0, v1⟩ := r_take (n + 41) [.lf (.ls l), .lf (.d (.tuple bk)), .lf (.d (.int 12)), .lf (.d (.tuple [])), .no, .no] 0 (m := 13) rfl hb (by decide) (by decide)
  obtain ⟨l', h', t4, t5, e, B', H', hl'⟩ := hi_loop (n + 2) (mo := .lf (.d (.int 12))) hk (rngD 0 v.toNat) [] l1 0 (s4 := .no) (s5 := .no) B1 ⟨by simp, rfl⟩ (by simp) (by rw [rng_len]; omega) (by simp) (by simp)
  rw [rng_len] at hl'
  refine ⟨h', l', ?_, B', H', by omega⟩
  have vv : -(4611686018427387904 : Int) ≤ v ∧ v < 4611686018427387904 := by omega
  have z0 := sz0
  rw [D__law_history, callF_mk]
  simp at e1
  simp [hi, e1, vv, z0, e]
def ODDS : List PyData := [.none, .bool true, .bool false, .int 0, .int 1, .int (-1), .int 2, .int 1000000000000000000000000000000, .str (so ""), .str (so "x"), .str (so "a9"), .str (so "aB"), .str (so "9a"), .str (so "undo"), .str (so "a2345678"), .str (so "a23456789"), .tuple [], .tuple [.tuple []], .list [], .list [.str (so "x")], .dict [], .tuple [.str (so "a"), .int 1], .tuple [.str (so "a"), .int (-1)], .tuple [.str (so "a"), .int 0],
  .tuple [.str (so "a"), .bool true], .tuple [.str (so "undo"), .int 1], .tuple [.tuple [.str (so "a"), .int 1]], .tuple [.tuple [.str (so "a"), .int 1], .tuple [.str (so "b"), .int 2]], .tuple [.int 0, .tuple []], .tuple [.int 1, .tuple [.tuple [.str (so "a"), .tuple [.int 0]]]], .tuple [.int 2, .tuple [.tuple [.int 0, .str (so "a"), .int 1]]], .tuple [.bool true, .tuple []], .tuple [.int 1, .tuple [.tuple [.str (so "a"), .int 0]]], .list [.tuple [.str (so "a"), .int 1]],
  .tuple [.tuple [.tuple [.str (so "a"), .int 1]]], .tuple [.int 1, .tuple [.tuple [.int 0, .str (so "do"), .int 0]]], .tuple [.int 1, .tuple [.tuple [.str (so "to"), .tuple [.int 0]]]]]
/-- what a check may be asked -/
def othB : PyData → Bool
  | .tuple xs => decide (xs.length ≤ 30) && xs.all (okB 20 60)
  | _ => true
theorem ODDS_ok : ODDS.all othB = true := by decide +kernel
theorem p30 : L2.CPow 10 30 := by decide
theorem r_law_odd (n : Nat) (ρ : Rho) (i : Nat) {l : List PyData} (hi : ρ[i]? = some (.lf (.ls l))) (hb : Bag l) : ∃ x l', callF (evB tab.P (n + 50)) D__law_odd [.pl i] ρ = .ok (.lf (.d x)) (ρ.set i (.lf (.ls l'))) ∧ Bag l' ∧ othB x = true := by
  rw [D__law_odd, callF_mk]
  obtain ⟨x, l', e1, B1, hx⟩ := r_some (n + 17) [.lf (.ls l), .lf (.ls (ODDS.take 34))] 0 (xs := ODDS) rfl hb (by decide) (by decide)
  refine ⟨x, l', ?_, B1, List.all_eq_true.mp ODDS_ok x hx⟩
  have p := p30
  have z1 : 1 ≤ sizeLine := by decide
  have z0 := sz0
  have z2 := sz2
  have z3 : 3 ≤ sizeLine := by decide
  have z24 : 24 ≤ sizeLine := by decide
  have z10 : 10 ≤ sizeLine := by decide
  have z34 : 34 ≤ sizeLine := by decide
  have z37 : 37 ≤ sizeLine := by decide
  simp [ODDS] at e1
  simp [hi, p, z0, z1, z2, z3, z24, z10, z34, z37, e1]
end K02

set_option maxRecDepth 100000
set_option maxHeartbeats 1000000
namespace K02
open PySem PySem.Spec DL
structure Both (k m : Nat) (d : PyData) : Prop where
  n : Nice k d
  s : Shw m d
theorem Both.mono {k m k2 m2 : Nat} {d : PyData} (h : Both k m d) (h1 : k ≤ k2) (h2 : m ≤ m2) : Both k2 m2 d := ⟨h.n.mono h1, h.s.mono h2⟩
theorem Both.tup {k m n : Nat} {xs : List PyData} (h : ∀ x ∈ xs, Both k m x) (hl : xs.length ≤ n) : Both (k + 1) (n * (m + 2) + 3) (.tuple xs) := ⟨Nice.tup fun x hx => (h x hx).n, Shw.tup (fun x hx => (h x hx).s) hl⟩
theorem Both.lst {k m n : Nat} {xs : List PyData} (h : ∀ x ∈ xs, Both k m x) (hl : xs.length ≤ n) : Both (k + 1) (n * (m + 2) + 3) (.list xs) := ⟨Nice.lst fun x hx => (h x hx).n, Shw.lst (fun x hx => (h x hx).s) hl⟩
theorem okB_both {k m : Nat} {x : PyData} (h : okB k m x = true) : Both k m x := ⟨(okB_nice h).1, (okB_nice h).2⟩
def WORDS : List PyData := [.str (so "entry"), .str (so "macro"), .str (so "undo"), .str (so "redo")]
theorem WORDS_ok : WORDS.all (okB 5 20) = true := by decide +kernel
theorem told_ok : okB 5 20 (.str (so "told")) = true := by decide +kernel
theorem row_ok : okB 5 20 (.str (so "row")) = true := by decide +kernel
theorem form_ok : okB 5 100 (.tuple [.str (so "row"), .int (-1), .str (so "form")]) = true := by decide +kernel
theorem fltD_words {ds gs : List PyData} {s : Str} (h : isNone (fltD ds gs s) = false) : fltD ds gs s ∈ WORDS := by
  unfold fltD at h ⊢
  split
  · simp [WORDS]
  · rename_i h1
    rw [if_neg h1] at h
    split
    · simp [WORDS]
    · rename_i h2
      rw [if_neg h2] at h
      simp at h
theorem faultE_words {nb : Nat} {ds gs : List PyData} {x : PyData} (h : isNone (faultE nb ds gs x) = false) : faultE nb ds gs x ∈ WORDS := by
  cases he : isEnt x with
  | false =>
    have : faultE nb ds gs x = .str (so "entry") := by unfold faultE; rw [he]; rfl
    rw [this]; simp [WORDS]
  | true =>
    rcases ent_cases he with rfl | rfl | ⟨s, rfl, h1⟩ | ⟨j, w, rfl, h1, h2⟩
    · have : faultE nb ds gs (.tuple [.str (so "undo")]) = if isEnt (.tuple [.str (so "undo")]) = false then .str (so "entry") else fltD ds gs (so "undo") := rfl
      rw [he] at this
      simp at this
      rw [this] at h ⊢
      exact fltD_words h
    · have : faultE nb ds gs (.tuple [.str (so "redo")]) = if isEnt (.tuple [.str (so "redo")]) = false then .str (so "entry") else fltD ds gs (so "redo") := rfl
      rw [he] at this
      simp at this
      rw [this] at h ⊢
      exact fltD_words h
    · have : faultE nb ds gs (.tuple [.str (so "do"), s]) = if isEnt (.tuple [.str (so "do"), s]) = false then .str (so "entry") else fltD ds gs (so "do") := by unfold faultE; cases s <;> rfl
      rw [he] at this
      simp at this
      rw [this] at h ⊢
      exact fltD_words h
    · have : faultE nb ds gs (.tuple [.str (so "macro"), .int j, .int w]) = if isEnt (.tuple [.str (so "macro"), .int j, .int w]) = false then .str (so "entry") else if (nb : Int) ≤ j then .str (so "macro") else .none := rfl
      rw [he] at this
      simp at this
      rw [this] at h ⊢
      split
      · simp [WORDS]
      · rename_i hn
        rw [if_neg hn] at h
        simp at h
theorem flt_bound {nb : Nat} : ∀ {xs : List PyData} {k : Nat} {ds gs : List PyData} {p : Nat × PyData}, fltAt nb xs k ds gs = some p → p.1 < k + xs.length ∧ p.2 ∈ WORDS
  | [], _, _, _, _, h => by cases h
  | x :: xs, k, ds, gs, p, h => by
    rw [fltAt] at h
    split at h
    · have := flt_bound h
      rw [List.length_cons]
      exact ⟨by omega, this.2⟩
    · rename_i hn
      cases h
      rw [List.length_cons]
      exact ⟨by show k < _; omega, faultE_words (by simpa using hn)⟩
def Oth (x : PyData) : Prop := isTupB x = false ∨ ∃ xs, x = .tuple xs ∧ xs.length ≤ 30 ∧ ∀ y ∈ xs, Both 20 60 y
theorem oth_of {x : PyData} (h : othB x = true) : Oth x := by
  unfold othB at h
  cases x with
  | tuple xs =>
    simp at h
    exact .inr ⟨xs, rfl, h.1, fun y hy => okB_both (h.2 y hy)⟩
  | _ => exact .inl rfl
/-- what a law expects of a check -/
def due (nb : Nat) (x : PyData) : PyData := match x with
  | .tuple xs => fltV nb xs 0 [] []
  | _ => .tuple [.str (so "row"), .int (-1), .str (so "form")]
theorem come_due {nb : Nat} {x : PyData} (h : Oth x) : come nb x = (if isNone (due nb x) then .tuple [.str (so "told"), x] else due nb x) ∧ Both 30 5000 (come nb x) := by
  rcases h with h | ⟨xs, rfl, hl, hy⟩
  · have e : come nb x = .tuple [.str (so "row"), .int (-1), .str (so "form")] ∧ due nb x = .tuple [.str (so "row"), .int (-1), .str (so "form")] := by
      cases x <;> first | (cases h; done) | exact ⟨rfl, rfl⟩
    rw [e.1, e.2]
    exact ⟨by simp, (okB_both form_ok).mono (by decide) (by decide)⟩
  · have hb : Both 21 (30 * 62 + 3) (.tuple xs) := Both.tup hy hl
    have l4 : ¬ 400 < xs.length := by omega
    cases hf : fltAt nb xs 0 [] [] with
    | none =>
      have ec : come nb (.tuple xs) = .tuple [.str (so "told"), .tuple xs] := by
        simp [come, l4, hf]
      have ed : due nb (.tuple xs) = .none := by simp [due, fltV, hf]
      rw [ec, ed]
      refine ⟨by simp, ?_⟩
      have := Both.tup (k := 21) (m := 1863) (n := 2) (xs := [.str (so "told"), .tuple xs]) (fun y hy => by
        simp at hy
        rcases hy with rfl | rfl
        · exact (okB_both told_ok).mono (by decide) (by decide)
        · exact hb) (by simp)
      exact this.mono (by decide) (by decide)
    | some p =>
      have ec : come nb (.tuple xs) = .tuple [.str (so "row"), .int p.1, p.2] := by
        simp [come, l4, hf]
      have ed : due nb (.tuple xs) = .tuple [.str (so "row"), .int p.1, p.2] := by simp [due, fltV, hf]
      rw [ec, ed]
      refine ⟨by simp, ?_⟩
      obtain ⟨h1, h2⟩ := flt_bound hf
      have hw : Both 5 20 p.2 := okB_both (List.all_eq_true.mp WORDS_ok _ h2)
      have hn := Shw.nat ⟨p.1, by omega⟩
      have := Both.tup (k := 21) (m := 100) (n := 3) (xs := [.str (so "row"), .int p.1, p.2]) (fun y hy => by
        simp at hy
        rcases hy with rfl | rfl | rfl
        · exact (okB_both row_ok).mono (by decide) (by decide)
        · exact ⟨Nice.int _, hn.mono (by decide)⟩
        · exact hw.mono (by decide) (by decide)) (by simp)
      exact this.mono (by decide) (by decide)
abbrev inBody : List Sx := [.asg (.nm 5) (.ite (.p (.isi "tuple") [.v 14]) (.p .ix [.call "_law_gone_along" [.v 3, .v 14], .k (.int 0)]) (.p .tup [.k (.str (so "row")), .p .neg [.k (.int 1)], .k (.str (so "form"))])), .ite (.not (.call "_law_alike" [.call "_law_come_to" [.v 3, .v 14], .ite (.p .isN [.v 5]) (.p .tup [.k (.str (so "told")), .v 14]) (.v 5)])) [.ret (.k (.bool false))] []]
theorem in_one (n : Nat) {bk : List PyData} (hb : DB bk) {x : PyData} (hx : Oth x) {sc sb s2 s4 s5 s6 s7 s8 s9 sA sB sC sD : Sl} (h5 : s5 ≠ .lk) :
    evB tab.P (n + 64) [] inBody [sc, sb, s2, .lf (.d (.tuple bk)), s4, s5, s6, s7, s8, s9, sA, sB, sC, sD, .lf (.d x), .no, .no] = .ok .nx [sc, sb, s2, .lf (.d (.tuple bk)), s4, .lf (.d (due bk.length x)), s6, s7, s8, s9, sA, sB, sC, sD, .lf (.d x), .no, .no] := by
  have p5 := fun i (ρ : Rho) s => putK_ne (i := i) (ρ := ρ) (s := s) h5
  obtain ⟨c1, c2⟩ := come_due (nb := bk.length) hx
  have ra := fun n ρ => r_alike n ρ c2.n (by decide) c2.s (by decide)
  have z2 := sz2
  have z3 : 3 ≤ sizeLine := by decide
  have hn : Nice 61 x ∨ isTupB x = false := by
    rcases hx with h | ⟨xs, rfl, _, hy⟩
    · exact .inr h
    · exact .inl ((Nice.tup fun y h => (hy y h).n).mono (by decide))
  have rc := fun n ρ => r_come_to n ρ (bk := bk) hn
  have e1 : evS tab.P (n + 63) [] (.asg (.nm 5) (.ite (.p (.isi "tuple") [.v 14]) (.p .ix [.call "_law_gone_along" [.v 3, .v 14], .k (.int 0)]) (.p .tup [.k (.str (so "row")), .p .neg [.k (.int 1)], .k (.str (so "form"))]))) [sc, sb, s2, .lf (.d (.tuple bk)), s4, s5, s6, s7, s8, s9, sA, sB, sC, sD, .lf (.d x), .no, .no] = .ok .nx [sc, sb, s2, .lf (.d (.tuple bk)), s4, .lf (.d (due bk.length x)), s6, s7, s8, s9, sA, sB, sC, sD, .lf (.d x), .no, .no] := by
    rcases hx with h | ⟨xs, rfl, hl, hy⟩
    · cases x <;> first | (cases h; done) | simp [isiB, p5, z3, due]
    · obtain ⟨A, B, C, e, _⟩ := r_gone_along (n + 7) [sc, sb, s2, .lf (.d (.tuple bk)), s4, s5, s6, s7, s8, s9, sA, sB, sC, sD, .lf (.d (.tuple xs)), .no, .no] hb.ok (fun y h => (hy y h).n.mono (by decide)) (by omega)
      simp [isiB, p5, e, due]
  rw [q_evB_s, q_seqL_cons, e1, Out.seq_nx]
  rw [c1] at ra rc
  cases hq : isNone (due bk.length x) with
  | true =>
    rw [hq] at ra rc
    simp at ra rc
    simp [hq, rc, ra, z2]
  | false =>
    rw [hq] at ra rc
    simp at ra rc
    simp [hq, rc, ra, z2]
theorem in_loop (n : Nat) {bk : List PyData} (hb : DB bk) {sc sb s2 s4 s6 s7 s8 s9 sA sB sC sD : Sl} : ∀ (xs : List PyData) {s5 sE : Sl}, (∀ x ∈ xs, Oth x) → s5 ≠ .lk → sE ≠ .lk →
    ∃ t5 tE, forL (asgD [] (.nm 14)) (evB tab.P (n + 64) [] inBody) xs [sc, sb, s2, .lf (.d (.tuple bk)), s4, s5, s6, s7, s8, s9, sA, sB, sC, sD, sE, .no, .no] = .ok .nx [sc, sb, s2, .lf (.d (.tuple bk)), s4, t5, s6, s7, s8, s9, sA, sB, sC, sD, tE, .no, .no] ∧ t5 ≠ .lk ∧ tE ≠ .lk
  | [], s5, sE, _, h5, hE => ⟨s5, sE, by simp, h5, hE⟩
  | x :: xs, s5, sE, hx, h5, hE => by
    have c := in_one n hb (hx x (List.mem_cons_self ..)) (sc := sc) (sb := sb) (s2 := s2) (s4 := s4) (s6 := s6) (s7 := s7) (s8 := s8) (s9 := s9) (sA := sA) (sB := sB) (sC := sC) (sD := sD) h5
    obtain ⟨t5, tE, e, h5', hE'⟩ := in_loop n hb (sc := sc) (sb := sb) (s2 := s2) (s4 := s4) (s6 := s6) (s7 := s7) (s8 := s8) (s9 := s9) (sA := sA) (sB := sB) (sC := sC) (sD := sD) xs (s5 := .lf (.d (due bk.length x))) (sE := .lf (.d x)) (fun y hy => hx y (List.mem_cons_of_mem _ hy)) (by simp) (by simp)
    refine ⟨t5, tE, ?_, h5', hE'⟩
    have a1 : asgD [] (.nm 14) x [sc, sb, s2, .lf (.d (.tuple bk)), s4, s5, s6, s7, s8, s9, sA, sB, sC, sD, sE, .no, .no] = some [sc, sb, s2, .lf (.d (.tuple bk)), s4, s5, s6, s7, s8, s9, sA, sB, sC, sD, .lf (.d x), .no, .no] := by
      have pE := fun i (ρ : Rho) s => putK_ne (i := i) (ρ := ρ) (s := s) hE
      simp [pE]
    rw [q_forL_cons, a1, q_asgK_s, c, q_forK_nx]
    exact e
end K02

set_option maxRecDepth 100000
set_option maxHeartbeats 2000000
namespace K02
open PySem PySem.Spec DL
theorem HOK.nice {bk h : List PyData} (H : HOK bk h) (hb : DB bk) : ∀ x ∈ h, Both 5 40 x := fun x hx => ⟨((H.e x hx).ok hb.l).1, ((H.e x hx).ok hb.l).2⟩
theorem run_mem {nb : Nat} (hn : nb ≤ 3) : ∀ (xs : List PyData) (k : Nat) {ds gs : List PyData}, fltAt nb xs k ds gs = none → (∀ x ∈ xs, DE nb x) → (∀ x ∈ ds, DE nb x) → (∀ x ∈ gs, DE nb x) → (∀ x ∈ (runD xs ds gs).1, DE nb x) ∧ (∀ x ∈ (runD xs ds gs).2, DE nb x) ∧ (runD xs ds gs).1.length + (runD xs ds gs).2.length ≤ xs.length + ds.length + gs.length
  | [], _, ds, gs, _, _, h1, h2 => ⟨h1, h2, by simp [runD]⟩
  | x :: xs, k, ds, gs, hf, hx, h1, h2 => by
    obtain ⟨c, hf'⟩ := flt_cons hf
    have hx' : ∀ y ∈ xs, DE nb y := fun y hy => hx y (List.mem_cons_of_mem _ hy)
    rw [runD]
    have hx0 := hx x (List.mem_cons_self ..)
    have key : (∀ y ∈ (stp ds gs x).1, DE nb y) ∧ (∀ y ∈ (stp ds gs x).2, DE nb y) ∧ (stp ds gs x).1.length + (stp ds gs x).2.length ≤ ds.length + gs.length + 1 := by
      rcases c.cases2 with ⟨rfl, e, d, rfl, q1, q2⟩ | ⟨rfl, e, d, rfl, q1, q2⟩ | ⟨hd, q1, q2⟩
      · rw [q1]
        exact ⟨fun y hy => h1 y (by simp [hy]), fun y hy => by
          rcases List.mem_append.mp hy with z | z
          · exact h2 y z
          · exact h1 y (by rw [List.mem_singleton.mp z]; simp), by simp; omega⟩
      · rw [q1]
        exact ⟨fun y hy => by
          rcases List.mem_append.mp hy with z | z
          · exact h1 y z
          · exact h2 y (by rw [List.mem_singleton.mp z]; simp), fun y hy => h2 y (by simp [hy]), by simp; try omega⟩
      · rw [q1]
        exact ⟨fun y hy => by
          rcases List.mem_append.mp hy with z | z
          · exact h1 y z
          · rw [List.mem_singleton.mp z]; exact hx0, by simp, by simp; try omega⟩
    obtain ⟨a, b, c⟩ := run_mem hn xs (k + 1) hf' hx' key.1 key.2.1
    exact ⟨a, b, by rw [List.length_cons]; omega⟩
theorem rowB_SS {bk : List PyData} (hb : DB bk) (j : Nat) : (rowB bk j).length ≤ 4 ∧ ∀ x ∈ rowB bk j, x ∈ SS := by
  unfold rowB
  cases e : bk[j]? with
  | none => simp
  | some r =>
    obtain ⟨xs, rfl, l, s⟩ := hb.r r (List.mem_of_getElem? e)
    exact ⟨l, s⟩
theorem und_SS {xs : List PyData} (h : ∀ x ∈ xs, x ∈ SS) : ∀ x ∈ und xs, x ∈ SS := fun x hx => by
  obtain ⟨y, hy, rfl⟩ := List.mem_map.mp hx
  exact SS_ctr (h y (List.mem_reverse.mp hy))
/-- a drawn deed's row -/
theorem row_SS {bk : List PyData} (hb : DB bk) {x : PyData} (h : DE bk.length x) (hd : DeedOk bk.length x) : (rowD bk x).length ≤ 4 ∧ ∀ y ∈ rowD bk x, y ∈ SS := by
  rcases h with rfl | rfl | ⟨st, hs, rfl⟩ | ⟨j, w, hj, hw, rfl⟩
  · simp [rowD]
  · simp [rowD]
  · exact ⟨by simp [rowD], fun y hy => by rw [List.mem_singleton.mp hy]; exact hs⟩
  · have := rowB_SS hb j
    rcases hw with rfl | rfl
    · simpa [rowD] using this
    · refine ⟨by simpa [rowD, und_len] using this.1, ?_⟩
      simpa [rowD] using und_SS this.2
theorem steps_SS {bk : List PyData} (hb : DB bk) : ∀ (xs : List PyData) (k : Nat) {ds gs : List PyData}, fltAt bk.length xs k ds gs = none → Dd bk.length ds gs → (∀ x ∈ xs, DE bk.length x) → (∀ x ∈ ds, DE bk.length x) → (∀ x ∈ gs, DE bk.length x) → (∀ y ∈ stepsR bk xs ds gs, y ∈ SS) ∧ (stepsR bk xs ds gs).length ≤ 4 * xs.length
  | [], _, _, _, _, _, _, _, _ => ⟨by simp [stepsR], by simp [stepsR]⟩
  | x :: xs, k, ds, gs, hf, hd, hx, h1, h2 => by
    obtain ⟨c, hf'⟩ := flt_cons hf
    have hx' : ∀ y ∈ xs, DE bk.length y := fun y hy => hx y (List.mem_cons_of_mem _ hy)
    have hx0 := hx x (List.mem_cons_self ..)
    have key : ((∀ y ∈ (stp ds gs x).1, DE bk.length y) ∧ (∀ y ∈ (stp ds gs x).2, DE bk.length y)) ∧ ((stepsOf bk ds gs x).length ≤ 4 ∧ ∀ y ∈ stepsOf bk ds gs x, y ∈ SS) := by
      have hdd := (hd.stp c).2
      rcases c.cases2 with ⟨rfl, e, d, rfl, q1, q2⟩ | ⟨rfl, e, d, rfl, q1, q2⟩ | ⟨hd1, q1, q2⟩
      · rw [q2] at hdd
        have es : stepsOf bk (e ++ [d]) gs (.tuple [.str (so "undo")]) = und (rowD bk d) := by unfold stepsOf; rw [q2]; rfl
        have hr := row_SS hb (h1 d (by simp)) hdd
        rw [q1, es, und_len]
        exact ⟨⟨fun y hy => h1 y (by simp [hy]), fun y hy => by
          rcases List.mem_append.mp hy with z | z
          · exact h2 y z
          · exact h1 y (by rw [List.mem_singleton.mp z]; simp)⟩, hr.1, und_SS hr.2⟩
      · rw [q2] at hdd
        have es : stepsOf bk ds (e ++ [d]) (.tuple [.str (so "redo")]) = rowD bk d := by unfold stepsOf; rw [q2]; rfl
        have hr := row_SS hb (h2 d (by simp)) hdd
        rw [q1, es]
        exact ⟨⟨fun y hy => by
          rcases List.mem_append.mp hy with z | z
          · exact h1 y z
          · exact h2 y (by rw [List.mem_singleton.mp z]; simp), fun y hy => h2 y (by simp [hy])⟩, hr⟩
      · have es : stepsOf bk ds gs x = rowD bk x := by unfold stepsOf; rw [q2]; rfl
        have hr := row_SS hb hx0 hd1
        rw [q1, es]
        exact ⟨⟨fun y hy => by
          rcases List.mem_append.mp hy with z | z
          · exact h1 y z
          · rw [List.mem_singleton.mp z]; exact hx0, by simp⟩, hr⟩
    obtain ⟨a, b⟩ := steps_SS hb xs (k + 1) hf' (hd.stp c).1 hx' key.1.1 key.1.2
    rw [stepsR]
    refine ⟨fun y hy => ?_, by rw [List.length_append, List.length_cons]; omega⟩
    rcases List.mem_append.mp hy with z | z
    · exact key.2.2 y z
    · exact a y z
theorem run_dd {bk : List PyData} : ∀ (xs : List PyData) (k : Nat) {ds gs : List PyData}, fltAt bk.length xs k ds gs = none → Dd bk.length ds gs → Dd bk.length (runD xs ds gs).1 (runD xs ds gs).2
  | [], _, _, _, _, h => h
  | x :: xs, k, ds, gs, hf, hd => by
    obtain ⟨c, hf'⟩ := flt_cons hf
    rw [runD]
    exact run_dd xs (k + 1) hf' (hd.stp c).1
/-- all that a drawn history brings -/
structure Hist (bk h ds gs st rs : List PyData) : Prop where
  b : DB bk
  k : HOK bk h
  l : h.length ≤ 12
  e : runD h [] [] = (ds, gs)
  t : stepsR bk h [] [] = st
  r : ds.flatMap (rowD bk) = rs
theorem flat_len {α β : Type} (f : α → List β) (k : Nat) : ∀ (xs : List α), (∀ x ∈ xs, (f x).length ≤ k) → (xs.flatMap f).length ≤ k * xs.length
  | [], _ => by simp
  | x :: xs, h => by
    have h1 := h x (List.mem_cons_self ..)
    have h2 := flat_len f k xs fun y hy => h y (List.mem_cons_of_mem _ hy)
    rw [List.flatMap_cons, List.length_append, List.length_cons, Nat.mul_add]
    omega
theorem Hist.all {bk h ds gs st rs : List PyData} (H : Hist bk h ds gs st rs) : (∀ x ∈ ds, DE bk.length x ∧ DeedOk bk.length x) ∧ (∀ x ∈ gs, DE bk.length x) ∧ ds.length ≤ 12 ∧ gs.length ≤ 12 ∧ (∀ x ∈ st, x ∈ SS) ∧ st.length ≤ 48 ∧ (∀ x ∈ rs, x ∈ SS) ∧ rs.length ≤ 48 ∧ short st = short rs := by
  have hl := H.l
  obtain ⟨a, b, c⟩ := run_mem H.b.l h 0 (ds := []) (gs := []) H.k.f H.k.e (by simp) (by simp)
  obtain ⟨s1, s2⟩ := steps_SS H.b h 0 (ds := []) (gs := []) H.k.f Dd.nil H.k.e (by simp) (by simp)
  have d := run_dd (bk := bk) h 0 (ds := []) (gs := []) H.k.f Dd.nil
  rw [H.e] at a b c d
  simp at a b c d
  rw [H.t] at s1 s2
  have hr : ∀ x ∈ ds, (rowD bk x).length ≤ 4 ∧ ∀ y ∈ rowD bk x, y ∈ SS := fun x hx => row_SS H.b (a x hx) (d.d x hx)
  have hlen := flat_len (rowD bk) 4 ds fun x hx => (hr x hx).1
  rw [H.r] at hlen
  refine ⟨fun x hx => ⟨a x hx, d.d x hx⟩, b, by omega, by omega, s1, by omega, fun y hy => ?_, by omega, ?_⟩
  · rw [← H.r] at hy
    obtain ⟨x, hx, hy⟩ := List.mem_flatMap.mp hy
    exact (hr x hx).2 y hy
  · have hg : ∀ x, DeedOk bk.length x → Nice 60 x → ∀ y ∈ rowD bk x, GSt y := fun x hx hn y hy => by
      rcases hx with ⟨s, rfl, hs⟩ | ⟨j, w, rfl, hj, hw⟩
      · have e : y = s := List.mem_singleton.mp hy
        subst e
        have hy1 := hn.untup y (by simp)
        unfold isStep at hs
        match y, hs, hy1 with
        | .tuple [c, .int w], hs, hy1 =>
          simp at hs
          have hc := hy1.untup c (by simp)
          cases c with
          | str c => exact ⟨c, w, rfl, str_sh (Nat.le_refl _) hc⟩
          | _ => simp [isName] at hs
        | .tuple [c, .none], h, _ => simp [isWay] at h
        | .tuple [c, .bool _], h, _ => simp [isWay] at h
        | .tuple [c, .str _], h, _ => simp [isWay] at h
        | .tuple [c, .list _], h, _ => simp [isWay] at h
        | .tuple [c, .tuple _], h, _ => simp [isWay] at h
        | .tuple [c, .dict _], h, _ => simp [isWay] at h
        | .tuple [], h, _ => simp at h
        | .tuple [_], h, _ => simp at h
        | .tuple (_ :: _ :: _ :: _), h, _ => simp at h
      · have hB := (rowB_SS H.b j).2
        rcases hw with rfl | rfl
        · exact SS_g (hB y (by simpa [rowD] using hy))
        · exact SS_g (und_SS hB y (by simpa [rowD] using hy))
    have := short_steps H.b.ok hg h 0 0 (ds := []) (gs := []) (st := []) H.k.f DK.nil Dd.nil (fun x hx => (H.k.nice H.b x hx).n.mono (by decide)) rfl
    rw [H.e, H.t] at this
    simp at this
    unfold short
    rw [← H.r]
    exact this
end K02

set_option maxRecDepth 100000
set_option maxHeartbeats 2000000
namespace K02
open PySem PySem.Spec DL
section
variable {sc s2 s3 s4 s5 s6 s7 s8 s9 sA sB sC sD sE : Sl} {l bk h ds gs st rs : List PyData}
abbrev dT (x : List PyData) : Sl := .lf (.d (.tuple x))
theorem t1 (n : Nat) (hb : Bag l) (h3 : s3 ≠ .lk) : ∃ bk l', evS tab.P (n + 99) [] (.asg (.nm 3) (.call "_law_small_book" [.v 1])) [sc, .lf (.ls l), s2, s3, s4, s5, s6, s7, s8, s9, sA, sB, sC, sD, sE, .no, .no] = .ok .nx [sc, .lf (.ls l'), s2, dT bk, s4, s5, s6, s7, s8, s9, sA, sB, sC, sD, sE, .no, .no] ∧ Bag l' ∧ DB bk := by
  obtain ⟨bk, l', e, B, D⟩ := r_small_book (n + 17) [sc, .lf (.ls l), s2, s3, s4, s5, s6, s7, s8, s9, sA, sB, sC, sD, sE, .no, .no] 1 rfl hb
  have p3 := fun i (ρ : Rho) s => putK_ne (i := i) (ρ := ρ) (s := s) h3
  simp at e
  exact ⟨bk, l', by simp [e, p3], B, D⟩
theorem t2 (n : Nat) (hb : Bag l) (hk : DB bk) (h4 : s4 ≠ .lk) : ∃ h l', evS tab.P (n + 99) [] (.asg (.nm 4) (.call "_law_history" [.v 1, .v 3, .k (.int 12)])) [sc, .lf (.ls l), s2, dT bk, s4, s5, s6, s7, s8, s9, sA, sB, sC, sD, sE, .no, .no] = .ok .nx [sc, .lf (.ls l'), s2, dT bk, dT h, s5, s6, s7, s8, s9, sA, sB, sC, sD, sE, .no, .no] ∧ Bag l' ∧ HOK bk h ∧ h.length ≤ 12 := by
  obtain ⟨h, l', e, B, D⟩ := r_law_history (n + 33) [sc, .lf (.ls l), s2, dT bk, s4, s5, s6, s7, s8, s9, sA, sB, sC, sD, sE, .no, .no] 1 rfl hb hk
  have p4 := fun i (ρ : Rho) s => putK_ne (i := i) (ρ := ρ) (s := s) h4
  simp at e
  exact ⟨h, l', by simp [e, p4], B, D⟩
theorem t3 (n : Nat) (hk : DB bk) (H : HOK bk h) (hl : h.length ≤ 12) (h5 : s5 ≠ .lk) (h6 : s6 ≠ .lk) (h7 : s7 ≠ .lk) (h8 : s8 ≠ .lk) : evS tab.P (n + 99) [] (.asg (.tp [.nm 5, .nm 6, .nm 7, .nm 8]) (.call "_law_gone_along" [.v 3, .v 4])) [sc, .lf (.ls l), s2, dT bk, dT h, s5, s6, s7, s8, s9, sA, sB, sC, sD, sE, .no, .no] = .ok .nx [sc, .lf (.ls l), s2, dT bk, dT h, .lf (.d .none), dT (runD h [] []).1, dT (runD h [] []).2, dT (stepsR bk h [] []), s9, sA, sB, sC, sD, sE, .no, .no] := by
  obtain ⟨A, B, C, e, hq⟩ := r_gone_along (n + 45) [sc, .lf (.ls l), s2, dT bk, dT h, s5, s6, s7, s8, s9, sA, sB, sC, sD, sE, .no, .no] hk.ok (fun x hx => (H.nice hk x hx).n.mono (by decide)) (show h.length ≤ 400 by omega)
  obtain ⟨rfl, rfl, rfl⟩ := hq H.f
  have ef : fltV bk.length h 0 [] [] = .none := isNone_iff.mp (isNone_flt.mpr H.f)
  rw [ef] at e
  have p5 := fun i (ρ : Rho) s => putK_ne (i := i) (ρ := ρ) (s := s) h5
  have p6 := fun i (ρ : Rho) s => putK_ne (i := i) (ρ := ρ) (s := s) h6
  have p7 := fun i (ρ : Rho) s => putK_ne (i := i) (ρ := ρ) (s := s) h7
  have p8 := fun i (ρ : Rho) s => putK_ne (i := i) (ρ := ρ) (s := s) h8
  simp [e, p5, p6, p7, p8]
theorem t4 (n : Nat) (hk : DB bk) (H : HOK bk h) (hl : h.length ≤ 12) : evS tab.P (n + 99) [] (.ite (.or (.p .notN [.v 5]) (.not (.call "_law_alike" [.call "_law_come_to" [.v 3, .v 4], .p .tup [.k (.str (so "told")), .v 4]]))) [.ret (.k (.bool false))] []) [sc, .lf (.ls l), s2, dT bk, dT h, .lf (.d .none), s6, s7, s8, s9, sA, sB, sC, sD, sE, .no, .no] = .ok .nx [sc, .lf (.ls l), s2, dT bk, dT h, .lf (.d .none), s6, s7, s8, s9, sA, sB, sC, sD, sE, .no, .no] := by
  have ho : Oth (.tuple h) := .inr ⟨h, rfl, by omega, fun y hy => (H.nice hk y hy).mono (by decide) (by decide)⟩
  obtain ⟨c1, c2⟩ := come_due (nb := bk.length) ho
  have hN : Nice 61 (.tuple h) := (Nice.tup fun y hy => (H.nice hk y hy).n).mono (by decide)
  have rc := fun n ρ => r_come_to n ρ (bk := bk) (.inl hN)
  have ra := fun n ρ => r_alike n ρ c2.n (by decide) c2.s (by decide)
  have ed : isNone (due bk.length (.tuple h)) = true := isNone_flt.mpr H.f
  rw [ed] at c1
  rw [c1] at rc ra
  simp at rc ra
  have z2 := sz2
  simp [rc, ra, z2]
theorem seqs_map (f : PyData → List PyData) : ∀ xs : List PyData, seqsOf (xs.map fun x => .list (f x)) = some (xs.map f)
  | [] => rfl
  | x :: xs => by simp [seqsOf, seqs_map f xs]
theorem t5 (n : Nat) (H : Hist bk h ds gs st rs) (h9 : s9 ≠ .lk) : evS tab.P (n + 99) [] (.asg (.nm 9) (.p .sumL [.lc [16] (.nm 16) 0 [.v 6] [] (.p .list [.call "_law_row_of_deed" [.v 3, .v 16]])])) [sc, .lf (.ls l), s2, dT bk, s4, s5, dT ds, s7, s8, s9, sA, sB, sC, sD, sE, .no, .no] = .ok .nx [sc, .lf (.ls l), s2, dT bk, s4, s5, dT ds, s7, s8, .lf (.ls rs), sA, sB, sC, sD, sE, .no, .no] := by
  obtain ⟨a, _, l1, _, _, _, _, l2, _⟩ := H.all
  have p9 := fun i (ρ : Rho) s => putK_ne (i := i) (ρ := ρ) (s := s) h9
  have lc : evE tab.P (n + 97) (.lc [16] (.nm 16) 0 [.v 6] [] (.p .list [.call "_law_row_of_deed" [.v 3, .v 16]])) [sc, .lf (.ls l), s2, dT bk, s4, s5, dT ds, s7, s8, s9, sA, sB, sC, sD, sE, .no, .no] = .ok (.lf (.ls (ds.map fun x => .list (rowD bk x)))) [sc, .lf (.ls l), s2, dT bk, s4, s5, dT ds, s7, s8, s9, sA, sB, sC, sD, sE, .no, .no] :=
    lc_map (n := n + 96) (ys := ds) (ts := [.lf (.d (.tuple ds))]) id (fun x => .list (rowD bk x)) (by simp) (by simp) (by simp) (by simp) (fun y hy => ⟨_, by
      have rr := fun n ρ => r_law_row_of_deed n ρ H.b.ok (a y hy).2
      simp [rr]; rfl, rfl⟩) (Nat.le_trans l1 (by decide))
  have ef : (ds.map (rowD bk)).flatten = rs := by rw [← H.r]; simp [List.flatMap]
  have el : rs.length ≤ sizeLine := Nat.le_trans l2 (by decide)
  have es := seqs_map (rowD bk) ds
  have el2 : (ds.map (rowD bk)).flatten.length ≤ sizeLine := by rw [ef]; exact el
  simp at el2
  simp [lc, es, ef, el2, p9]
theorem t6 (n : Nat) (H : Hist bk h ds gs st rs) (hA : sA ≠ .lk) : evS tab.P (n + 99) [] (.asg (.nm 10) (.p .lst [.call "standing" [.v 4], .call "to_redo" [.v 4], .call "row_of_deeds" [.v 3, .v 6], .call "row_done" [.v 3, .v 4], .call "without_undos" [.v 4]])) [sc, .lf (.ls l), s2, dT bk, dT h, s5, dT ds, s7, s8, s9, sA, sB, sC, sD, sE, .no, .no] = .ok .nx [sc, .lf (.ls l), s2, dT bk, dT h, s5, dT ds, s7, s8, s9, .lf (.ls [.tuple ds, .tuple gs, .tuple rs, .tuple st, .tuple ds]), sB, sC, sD, sE, .no, .no] := by
  obtain ⟨a, _, l1, _, _, _, _, l2, _⟩ := H.all
  have pA := fun i (ρ : Rho) s => putK_ne (i := i) (ρ := ρ) (s := s) hA
  have hx : ∀ x ∈ h, Nice 60 x := fun x hx => (H.k.nice H.b x hx).n.mono (by decide)
  have hl : h.length ≤ 400 := by have := H.l; omega
  have r1 := fun n ρ => r_standing n ρ H.k.f hx hl
  have r2 := fun n ρ => r_to_redo n ρ H.k.f hx hl
  have r3 := fun n ρ => r_row_of_deeds n ρ H.b.ok (fun x hx => (a x hx).2) (by rw [H.r]; exact Nat.le_trans l2 (by decide))
  have r4 := fun n ρ => r_row_done n ρ H.b.ok H.k.f hx hl
  have r5 := fun n ρ => r_without_undos n ρ H.k.f hx hl
  rw [H.e] at r1 r2 r5
  rw [H.r] at r3
  rw [H.t] at r4
  have z5 : 5 ≤ sizeLine := by decide
  simp [r1, r2, r3, r4, r5, pA, z5]
theorem t7 (n : Nat) (H : Hist bk h ds gs st rs) : evS tab.P (n + 99) [] (.ite (.or (.not (.call "_law_alike" [.v 10, .p .lst [.v 6, .v 7, .p .tuple [.v 9], .v 8, .v 6]])) (.p .ne [.call "_law_short" [.v 8], .call "_law_short" [.p .tuple [.v 9]]])) [.ret (.k (.bool false))] []) [sc, .lf (.ls l), s2, s3, s4, s5, dT ds, dT gs, dT st, .lf (.ls rs), .lf (.ls [.tuple ds, .tuple gs, .tuple rs, .tuple st, .tuple ds]), sB, sC, sD, sE, .no, .no] = .ok .nx [sc, .lf (.ls l), s2, s3, s4, s5, dT ds, dT gs, dT st, .lf (.ls rs), .lf (.ls [.tuple ds, .tuple gs, .tuple rs, .tuple st, .tuple ds]), sB, sC, sD, sE, .no, .no] := by
  obtain ⟨a, b, l1, l2, c1, l3, c2, l4, hs⟩ := H.all
  have bd : Both 6 3000 (.tuple ds) := (Both.tup (k := 5) (m := 40) (n := 12) (fun x hx => ⟨((a x hx).1.ok H.b.l).1, ((a x hx).1.ok H.b.l).2⟩) l1).mono (by decide) (by decide)
  have bg : Both 6 3000 (.tuple gs) := (Both.tup (k := 5) (m := 40) (n := 12) (fun x hx => ⟨((b x hx).ok H.b.l).1, ((b x hx).ok H.b.l).2⟩) l2).mono (by decide) (by decide)
  have bs : Both 6 3000 (.tuple st) := (Both.tup (k := 5) (m := 20) (n := 48) (fun x hx => ⟨(SS_nice (c1 x hx)).1, (SS_nice (c1 x hx)).2⟩) l3).mono (by decide) (by decide)
  have br : Both 6 3000 (.tuple rs) := (Both.tup (k := 5) (m := 20) (n := 48) (fun x hx => ⟨(SS_nice (c2 x hx)).1, (SS_nice (c2 x hx)).2⟩) l4).mono (by decide) (by decide)
  have bL : Both 7 (5 * 3002 + 3) (.list [.tuple ds, .tuple gs, .tuple rs, .tuple st, .tuple ds]) := Both.lst (k := 6) (m := 3000) (n := 5) (fun x hx => by
    simp at hx
    rcases hx with rfl | rfl | rfl | rfl | rfl
    · exact bd
    · exact bg
    · exact br
    · exact bs
    · exact bd) (by simp)
  have ra := fun n ρ hi => r_alikeL n ρ 10 hi bL.n (by decide) bL.s (by decide)
  have q1 := fun n ρ => r_short n ρ (fun x hx => SS_g (c1 x hx)) (Nat.le_trans l3 (by decide))
  have q2 := fun n ρ => r_short n ρ (fun x hx => SS_g (c2 x hx)) (Nat.le_trans l4 (by decide))
  rw [hs] at q1
  have hsh : ∀ x ∈ short rs, GSt x := by
    have : ∀ (xs acc : List PyData), (∀ x ∈ xs, GSt x) → (∀ x ∈ acc, GSt x) → ∀ x ∈ xs.foldl psh acc, GSt x := by
      intro xs
      induction xs with
      | nil => intro acc _ h; exact h
      | cons x xs ih => intro acc hx ha; exact ih (psh acc x) (fun y hy => hx y (List.mem_cons_of_mem _ hy)) (psh_all ha (hx x (List.mem_cons_self ..)))
    exact this rs [] (fun x hx => SS_g (c2 x hx)) (by simp)
  have lt : Lay 2 (.tuple (short rs)) := Lay.tup fun x hx => (hsh x hx).lay
  have e1 := lt.sh (by decide)
  have e2 := lt.refl
  have z5 : 5 ≤ sizeLine := by decide
  simp [ra, q1, q2, e1, e2, z5]
end
end K02

set_option maxRecDepth 100000
set_option maxHeartbeats 2000000
namespace K02
open PySem PySem.Spec DL
section
variable {sc s2 s3 s4 s5 s6 s7 s8 s9 sA sB sC sD sE : Sl} {l bk h ds gs st rs : List PyData}
theorem t8 (n : Nat) (hb : Bag l) (hl : h.length ≤ 12) (hB : sB ≠ .lk) : ∃ (k : Nat) (l' : List PyData), evS tab.P (n + 99) [] (.asg (.nm 11) (.call "_law_take" [.v 1, .p .add [.p .len [.v 4], .k (.int 1)]])) [sc, .lf (.ls l), s2, s3, dT h, s5, s6, s7, s8, s9, sA, sB, sC, sD, sE, .no, .no] = .ok .nx [sc, .lf (.ls l'), s2, s3, dT h, s5, s6, s7, s8, s9, sA, .lf (.d (.int k)), sC, sD, sE, .no, .no] ∧ Bag l' := by
  obtain ⟨v, l', e, B, v0, v1⟩ := r_take (n + 77) [sc, .lf (.ls l), s2, s3, dT h, s5, s6, s7, s8, s9, sA, sB, sC, sD, sE, .no, .no] 1 (m := h.length + 1) rfl hb (by omega) (by omega)
  obtain ⟨k, rfl⟩ := Int.eq_ofNat_of_zero_le v0
  have pB := fun i (ρ : Rho) s => putK_ne (i := i) (ρ := ρ) (s := s) hB
  simp at e
  exact ⟨k, l', by simp [e, pB], B⟩
abbrev odds1 (nb : Nat) : List PyData := [.tuple [.str (so "undo")], .tuple [.str (so "redo")], .tuple [.str (so "macro"), .int nb, .int 1], .tuple [.str (so "macro"), .int 0, .int 2], .tuple [.str (so "macro"), .int 0, .bool true], .tuple [.str (so "do"), .tuple [.str (so "a"), .int 0]], .tuple [.str (so "do"), .str (so "a")], .tuple [.str (so "undo"), .int 1], .none]
abbrev odds2 (nb : Nat) : List PyData := odds1 nb ++ [.tuple [.str (so "odd")], .list [.str (so "undo")], .tuple [.str (so "do"), .tuple [.str (so "a"), .int 1]]]
theorem odds_ok : [0, 1, 2, 3].all (fun nb => (odds2 nb).all (okB 10 60)) = true := by decide +kernel
theorem t9 (n : Nat) (hC : sC ≠ .lk) : evS tab.P (n + 99) [] (.asg (.nm 12) (.p .lst [.p .tup [.k (.str (so "undo"))], .p .tup [.k (.str (so "redo"))], .p .tup [.k (.str (so "macro")), .p .len [.v 3], .k (.int 1)], .p .tup [.k (.str (so "macro")), .k (.int 0), .k (.int 2)], .p .tup [.k (.str (so "macro")), .k (.int 0), .k (.bool true)], .p .tup [.k (.str (so "do")), .p .tup [.k (.str (so "a")), .k (.int 0)]], .p .tup [.k (.str (so "do")), .k (.str (so "a"))], .p .tup [.k (.str (so "undo")), .k (.int 1)], .k .none])) [sc, .lf (.ls l), s2, dT bk, s4, s5, s6, s7, s8, s9, sA, sB, sC, sD, sE, .no, .no] = .ok .nx [sc, .lf (.ls l), s2, dT bk, s4, s5, s6, s7, s8, s9, sA, sB, .lf (.ls (odds1 bk.length)), sD, sE, .no, .no] := by
  have pC := fun i (ρ : Rho) s => putK_ne (i := i) (ρ := ρ) (s := s) hC
  have z1 : 1 ≤ sizeLine := by decide
  have z2 := sz2
  have z3 : 3 ≤ sizeLine := by decide
  have z9 : 9 ≤ sizeLine := by decide
  simp [pC, z1, z2, z3, z9]
theorem t10 (n : Nat) (hb : Bag l) (hk : bk.length ≤ 3) (hD : sD ≠ .lk) : ∃ x l', evS tab.P (n + 99) [] (.asg (.nm 13) (.call "_law_some" [.v 1, .p .add [.v 12, .p .lst [.p .tup [.k (.str (so "odd"))], .p .lst [.k (.str (so "undo"))], .p .tup [.k (.str (so "do")), .p .tup [.k (.str (so "a")), .k (.int 1)]]]]])) [sc, .lf (.ls l), s2, dT bk, s4, s5, s6, s7, s8, s9, sA, sB, .lf (.ls (odds1 bk.length)), sD, sE, .no, .no] = .ok .nx [sc, .lf (.ls l'), s2, dT bk, s4, s5, s6, s7, s8, s9, sA, sB, .lf (.ls (odds1 bk.length)), .lf (.d x), sE, .no, .no] ∧ Bag l' ∧ Both 10 60 x := by
  obtain ⟨x, l', e, B, hx⟩ := r_some (n + 67) [sc, .lf (.ls l), s2, dT bk, s4, s5, s6, s7, s8, s9, sA, sB, .lf (.ls (odds1 bk.length)), sD, sE, .no, .no] 1 (xs := odds2 bk.length) rfl hb (by simp) (by simp)
  have pD := fun i (ρ : Rho) s => putK_ne (i := i) (ρ := ρ) (s := s) hD
  have z1 : 1 ≤ sizeLine := by decide
  have z2 := sz2
  have z3 : 3 ≤ sizeLine := by decide
  have z12 : 12 ≤ sizeLine := by decide
  simp at e
  refine ⟨x, l', by simp [pD, z1, z2, z3, z12, e], B, ?_⟩
  have h1 := List.all_eq_true.mp odds_ok bk.length (by
    have : bk.length = 0 ∨ bk.length = 1 ∨ bk.length = 2 ∨ bk.length = 3 := by omega
    rcases this with e | e | e | e <;> simp [e])
  exact okB_both (List.all_eq_true.mp h1 x hx)
theorem t11 (n : Nat) (hb : Bag l) (hk : DB bk) (H : HOK bk h) (hl : h.length ≤ 12) {k : Nat} {x : PyData} (hx : Both 10 60 x) (h5 : s5 ≠ .lk) (hE : sE ≠ .lk) : ∃ l' t5 tE, evS tab.P (n + 99) [] (.for_ (.nm 14) 0 [.p .tup [.p .add [.p .add [.p (.sl false true) [.v 4, .v 11], .p .tup [.v 13]], .p (.sl true false) [.v 4, .v 11]], .p (.sl true false) [.v 4, .k (.int 1)], .p .rev [.v 4], .p .list [.v 4], .call "_law_odd" [.v 1], .p .tup [.p .tup [.k (.str (so "undo"))]], .p .tup [.p .tup [.k (.str (so "redo"))]]]] inBody) [sc, .lf (.ls l), s2, dT bk, dT h, s5, s6, s7, s8, s9, sA, .lf (.d (.int k)), sC, .lf (.d x), sE, .no, .no] = .ok .nx [sc, .lf (.ls l'), s2, dT bk, dT h, t5, s6, s7, s8, s9, sA, .lf (.d (.int k)), sC, .lf (.d x), tE, .no, .no] ∧ Bag l' ∧ t5 ≠ .lk ∧ tE ≠ .lk := by
  obtain ⟨o, l1, e1, B1, ho⟩ := r_law_odd (n + 46) [sc, .lf (.ls l), s2, dT bk, dT h, s5, s6, s7, s8, s9, sA, .lf (.d (.int k)), sC, .lf (.d x), sE, .no, .no] 1 rfl hb
  simp at e1
  have hh : ∀ y ∈ h, Both 20 60 y := fun y hy => (H.nice hk y hy).mono (by decide) (by decide)
  have z1 : 1 ≤ sizeLine := by decide
  have z7 : 7 ≤ sizeLine := by decide
  have c1 := cutD_to h k
  have c2 := cutD_from h k
  have zl : min k h.length + 1 ≤ sizeLine := Nat.le_trans (show _ ≤ 13 by omega) (by decide)
  have zl2 : min k h.length + 1 + (h.length - k) ≤ sizeLine := Nat.le_trans (show _ ≤ 30 by omega) (by decide)
  obtain ⟨XS, eL, hall⟩ : ∃ XS, evL (evE tab.P (n + 98)) [.p .tup [.p .add [.p .add [.p (.sl false true) [.v 4, .v 11], .p .tup [.v 13]], .p (.sl true false) [.v 4, .v 11]], .p (.sl true false) [.v 4, .k (.int 1)], .p .rev [.v 4], .p .list [.v 4], .call "_law_odd" [.v 1], .p .tup [.p .tup [.k (.str (so "undo"))]], .p .tup [.p .tup [.k (.str (so "redo"))]]]] [sc, .lf (.ls l), s2, dT bk, dT h, s5, s6, s7, s8, s9, sA, .lf (.d (.int k)), sC, .lf (.d x), sE, .no, .no] = .ok [.lf (.d (.tuple XS))] [sc, .lf (.ls l1), s2, dT bk, dT h, s5, s6, s7, s8, s9, sA, .lf (.d (.int k)), sC, .lf (.d x), sE, .no, .no] ∧ ∀ z ∈ XS, Oth z := by
    refine ⟨[.tuple (h.take k ++ x :: h.drop k), .tuple h.tail, .tuple h.reverse, .list h, o, .tuple [.tuple [.str (so "undo")]], .tuple [.tuple [.str (so "redo")]]], by simp [c1, c2, e1, z1, z7, zl, zl2], fun z hz => ?_⟩
    simp at hz
    rcases hz with rfl | rfl | rfl | rfl | rfl | rfl | rfl
    · refine .inr ⟨_, rfl, by simp; omega, fun y hy => ?_⟩
      rcases List.mem_append.mp hy with q | q
      · exact hh y (List.mem_of_mem_take q)
      · rcases List.mem_cons.mp q with q | q
        · rw [q]; exact hx.mono (by decide) (by decide)
        · exact hh y (List.mem_of_mem_drop q)
    · exact .inr ⟨_, rfl, by simp; omega, fun y hy => hh y (List.mem_of_mem_tail hy)⟩
    · exact .inr ⟨_, rfl, by simp; omega, fun y hy => hh y (List.mem_reverse.mp hy)⟩
    · exact .inl rfl
    · exact oth_of ho
    · exact oth_of (by decide +kernel)
    · exact oth_of (by decide +kernel)
  obtain ⟨t5, tE, e, q5, qE⟩ := in_loop (n + 34) hk (sc := sc) (sb := .lf (.ls l1)) (s2 := s2) (s4 := dT h) (s6 := s6) (s7 := s7) (s8 := s8) (s9 := s9) (sA := sA) (sB := .lf (.d (.int k))) (sC := sC) (sD := .lf (.d x)) XS (s5 := s5) (sE := sE) hall h5 hE
  refine ⟨l1, t5, tE, ?_, B1, q5, qE⟩
  rw [q_evS_for, eL]
  simp [e]
end
end K02

set_option maxRecDepth 100000
set_option maxHeartbeats 2000000
namespace K02
open PySem PySem.Spec DL
abbrev TURN : List Sx := [.asg (.nm 3) (.call "_law_small_book" [.v 1]), .asg (.nm 4) (.call "_law_history" [.v 1, .v 3, .k (.int 12)]), .asg (.tp [.nm 5, .nm 6, .nm 7, .nm 8]) (.call "_law_gone_along" [.v 3, .v 4]), .ite (.or (.p .notN [.v 5]) (.not (.call "_law_alike" [.call "_law_come_to" [.v 3, .v 4], .p .tup [.k (.str (so "told")), .v 4]]))) [.ret (.k (.bool false))] [], .asg (.nm 9) (.p .sumL [.lc [16] (.nm 16) 0 [.v 6] [] (.p .list [.call "_law_row_of_deed" [.v 3, .v 16]])]), .asg (.nm 10) (.p .lst [.call "standing" [.v 4], .call "to_redo" [.v 4], .call "row_of_deeds" [.v 3, .v 6], .call "row_done" [.v 3, .v 4], .call "without_undos" [.v 4]]), .ite (.or (.not (.call "_law_alike" [.v 10, .p .lst [.v 6, .v 7, .p .tuple [.v 9], .v 8, .v 6]])) (.p .ne [.call "_law_short" [.v 8], .call "_law_short" [.p .tuple [.v 9]]])) [.ret (.k (.bool false))] [], .asg (.nm 11) (.call "_law_take" [.v 1, .p .add [.p .len [.v 4], .k (.int 1)]]), .asg (.nm 12) (.p .lst [.p .tup [.k (.str (so "undo"))], .p .tup [.k (.str (so "redo"))], .p .tup [.k (.str (so "macro")), .p .len [.v 3], .k (.int 1)], .p .tup [.k (.str (so "macro")), .k (.int 0), .k (.int 2)], .p .tup [.k (.str (so "macro")), .k (.int 0), .k (.bool true)], .p .tup [.k (.str (so "do")), .p .tup [.k (.str (so "a")), .k (.int 0)]], .p .tup [.k (.str (so "do")), .k (.str (so "a"))], .p .tup [.k (.str (so "undo")), .k (.int 1)], .k .none]), .asg (.nm 13) (.call "_law_some" [.v 1, .p .add [.v 12, .p .lst [.p .tup [.k (.str (so "odd"))], .p .lst [.k (.str (so "undo"))], .p .tup [.k (.str (so "do")), .p .tup [.k (.str (so "a")), .k (.int 1)]]]]]), .for_ (.nm 14) 0 [.p .tup [.p .add [.p .add [.p (.sl false true) [.v 4, .v 11], .p .tup [.v 13]], .p (.sl true false) [.v 4, .v 11]], .p (.sl true false) [.v 4, .k (.int 1)], .p .rev [.v 4], .p .list [.v 4], .call "_law_odd" [.v 1], .p .tup [.p .tup [.k (.str (so "undo"))]], .p .tup [.p .tup [.k (.str (so "redo"))]]]] [.asg (.nm 5) (.ite (.p (.isi "tuple") [.v 14]) (.p .ix [.call "_law_gone_along" [.v 3, .v 14], .k (.int 0)]) (.p .tup [.k (.str (so "row")), .p .neg [.k (.int 1)], .k (.str (so "form"))])), .ite (.not (.call "_law_alike" [.call "_law_come_to" [.v 3, .v 14], .ite (.p .isN [.v 5]) (.p .tup [.k (.str (so "told")), .v 14]) (.v 5)])) [.ret (.k (.bool false))] []]]
def NL (ts : List Sl) : Prop := ∀ s ∈ ts, s ≠ .lk
theorem turn_ok (n : Nat) {sc s2 : Sl} {l : List PyData} (B : Bag l) {s3 s4 s5 s6 s7 s8 s9 sA sB sC sD sE : Sl} (h : NL [s3, s4, s5, s6, s7, s8, s9, sA, sB, sC, sD, sE]) :
    ∃ l' t3 t4 t5 t6 t7 t8 t9 tA tB tC tD tE, evB tab.P (n + 100) [] TURN [sc, .lf (.ls l), s2, s3, s4, s5, s6, s7, s8, s9, sA, sB, sC, sD, sE, .no, .no] = .ok .nx [sc, .lf (.ls l'), s2, t3, t4, t5, t6, t7, t8, t9, tA, tB, tC, tD, tE, .no, .no] ∧ Bag l' ∧ NL [t3, t4, t5, t6, t7, t8, t9, tA, tB, tC, tD, tE] := by
  have hs : ∀ s, s ∈ [s3, s4, s5, s6, s7, s8, s9, sA, sB, sC, sD, sE] → s ≠ .lk := h
  obtain ⟨bk, l1, e1, B1, D⟩ := t1 (sc := sc) (s2 := s2) (s3 := s3) (s4 := s4) (s5 := s5) (s6 := s6) (s7 := s7) (s8 := s8) (s9 := s9) (sA := sA) (sB := sB) (sC := sC) (sD := sD) (sE := sE) n B (hs _ (by simp))
  obtain ⟨hh, l2, e2, B2, H, hl⟩ := t2 (sc := sc) (s2 := s2) (s4 := s4) (s5 := s5) (s6 := s6) (s7 := s7) (s8 := s8) (s9 := s9) (sA := sA) (sB := sB) (sC := sC) (sD := sD) (sE := sE) n B1 D (hs _ (by simp))
  have e3 := t3 (sc := sc) (s2 := s2) (l := l2) (s9 := s9) (sA := sA) (sB := sB) (sC := sC) (sD := sD) (sE := sE) n D H hl (hs s5 (by simp)) (hs s6 (by simp)) (hs s7 (by simp)) (hs s8 (by simp))
  have HH : Hist bk hh (runD hh [] []).1 (runD hh [] []).2 (stepsR bk hh [] []) ((runD hh [] []).1.flatMap (rowD bk)) := ⟨D, H, hl, rfl, rfl, rfl⟩
  generalize (runD hh [] []).1 = ds at *
  generalize (runD hh [] []).2 = gs at *
  generalize stepsR bk hh [] [] = st at *
  generalize ds.flatMap (rowD bk) = rs at *
  have e4 := t4 (sc := sc) (s2 := s2) (l := l2) (s6 := dT ds) (s7 := dT gs) (s8 := dT st) (s9 := s9) (sA := sA) (sB := sB) (sC := sC) (sD := sD) (sE := sE) n D H hl
  have e5 := t5 (sc := sc) (s2 := s2) (l := l2) (s4 := dT hh) (s5 := .lf (.d .none)) (s7 := dT gs) (s8 := dT st) (s9 := s9) (sA := sA) (sB := sB) (sC := sC) (sD := sD) (sE := sE) n HH (hs s9 (by simp))
  have e6 := t6 (sc := sc) (s2 := s2) (l := l2) (s5 := .lf (.d .none)) (s7 := dT gs) (s8 := dT st) (s9 := .lf (.ls rs)) (sA := sA) (sB := sB) (sC := sC) (sD := sD) (sE := sE) n HH (hs sA (by simp))
  have e7 := t7 (sc := sc) (s2 := s2) (l := l2) (s3 := dT bk) (s4 := dT hh) (s5 := .lf (.d .none)) (sB := sB) (sC := sC) (sD := sD) (sE := sE) n HH
  obtain ⟨k, l3, e8, B3⟩ := t8 (sc := sc) (s2 := s2) (s3 := dT bk) (s5 := .lf (.d .none)) (s6 := dT ds) (s7 := dT gs) (s8 := dT st) (s9 := .lf (.ls rs)) (sA := .lf (.ls [.tuple ds, .tuple gs, .tuple rs, .tuple st, .tuple ds])) (sB := sB) (sC := sC) (sD := sD) (sE := sE) n B2 hl (hs sB (by simp))
  have e9 := t9 (sc := sc) (l := l3) (s2 := s2) (bk := bk) (s4 := dT hh) (s5 := .lf (.d .none)) (s6 := dT ds) (s7 := dT gs) (s8 := dT st) (s9 := .lf (.ls rs)) (sA := .lf (.ls [.tuple ds, .tuple gs, .tuple rs, .tuple st, .tuple ds])) (sB := .lf (.d (.int k))) (sC := sC) (sD := sD) (sE := sE) n (hs sC (by simp))
  obtain ⟨x, l4, e10, B4, hx⟩ := t10 (sc := sc) (s2 := s2) (bk := bk) (s4 := dT hh) (s5 := .lf (.d .none)) (s6 := dT ds) (s7 := dT gs) (s8 := dT st) (s9 := .lf (.ls rs)) (sA := .lf (.ls [.tuple ds, .tuple gs, .tuple rs, .tuple st, .tuple ds])) (sB := .lf (.d (.int k))) (sD := sD) (sE := sE) n B3 D.l (hs sD (by simp))
  obtain ⟨l5, t5, tE, e11, B5, q5, qE⟩ := t11 (sc := sc) (s2 := s2) (s5 := .lf (.d .none)) (s6 := dT ds) (s7 := dT gs) (s8 := dT st) (s9 := .lf (.ls rs)) (sA := .lf (.ls [.tuple ds, .tuple gs, .tuple rs, .tuple st, .tuple ds])) (sC := .lf (.ls (odds1 bk.length))) (sE := sE) (k := k) n B4 D H hl hx (by simp) (hs sE (by simp))
  refine ⟨l5, dT bk, dT hh, t5, dT ds, dT gs, dT st, .lf (.ls rs), .lf (.ls [.tuple ds, .tuple gs, .tuple rs, .tuple st, .tuple ds]), .lf (.d (.int k)), .lf (.ls (odds1 bk.length)), .lf (.d x), tE, ?_, B5, ?_⟩
  · rw [q_evB_s, q_seqL_cons, e1, Out.seq_nx, q_seqL_cons, e2, Out.seq_nx, q_seqL_cons, e3, Out.seq_nx, q_seqL_cons, e4, Out.seq_nx, q_seqL_cons, e5, Out.seq_nx, q_seqL_cons, e6, Out.seq_nx, q_seqL_cons, e7, Out.seq_nx, q_seqL_cons, e8, Out.seq_nx, q_seqL_cons, e9, Out.seq_nx, q_seqL_cons, e10, Out.seq_nx, q_seqL_cons, e11, Out.seq_nx, q_seqL_nil]
  · intro s hs
    simp at hs
    rcases hs with rfl | rfl | rfl | rfl | rfl | rfl | rfl | rfl | rfl | rfl | rfl | rfl <;> first | assumption | simp
theorem turns_ok (n : Nat) {sc : Sl} : ∀ (xs : List PyData) {l : List PyData} {s2 s3 s4 s5 s6 s7 s8 s9 sA sB sC sD sE : Sl}, Bag l → s2 ≠ .lk → NL [s3, s4, s5, s6, s7, s8, s9, sA, sB, sC, sD, sE] →
    ∃ l' t2 t3 t4 t5 t6 t7 t8 t9 tA tB tC tD tE, forL (asgD [] (.nm 2)) (evB tab.P (n + 100) [] TURN) xs [sc, .lf (.ls l), s2, s3, s4, s5, s6, s7, s8, s9, sA, sB, sC, sD, sE, .no, .no] = .ok .nx [sc, .lf (.ls l'), t2, t3, t4, t5, t6, t7, t8, t9, tA, tB, tC, tD, tE, .no, .no]
  | [], l, s2, s3, s4, s5, s6, s7, s8, s9, sA, sB, sC, sD, sE, _, _, _ => ⟨l, s2, s3, s4, s5, s6, s7, s8, s9, sA, sB, sC, sD, sE, by simp⟩
  | x :: xs, l, s2, s3, s4, s5, s6, s7, s8, s9, sA, sB, sC, sD, sE, B, h2, h => by
    obtain ⟨l1, t3, t4, t5, t6, t7, t8, t9, tA, tB, tC, tD, tE, e, B1, h'⟩ := turn_ok n (sc := sc) (s2 := .lf (.d x)) B h
    obtain ⟨l2, u2, u3, u4, u5, u6, u7, u8, u9, uA, uB, uC, uD, uE, e'⟩ := turns_ok n (sc := sc) xs (s2 := .lf (.d x)) B1 (by simp) h'
    refine ⟨l2, u2, u3, u4, u5, u6, u7, u8, u9, uA, uB, uC, uD, uE, ?_⟩
    have a1 : asgD [] (.nm 2) x [sc, .lf (.ls l), s2, s3, s4, s5, s6, s7, s8, s9, sA, sB, sC, sD, sE, .no, .no] = some [sc, .lf (.ls l), .lf (.d x), s3, s4, s5, s6, s7, s8, s9, sA, sB, sC, sD, sE, .no, .no] := by
      have p2 := fun i (ρ : Rho) s => putK_ne (i := i) (ρ := ρ) (s := s) h2
      simp [p2]
    rw [q_forL_cons, a1, q_asgK_s, e, q_forK_nx]
    exact e'
end K02

set_option maxRecDepth 100000
set_option maxHeartbeats 2000000
namespace K02
open PySem PySem.Spec DL
abbrev stD : PyData := .tuple [.str (so "do"), .tuple [.str (so "a"), .int 1]]
abbrev odD : PyData := .tuple [.str (so "odd")]
theorem stD_ent : isEnt stD = true := by decide +kernel
theorem stD_ok : okB 5 60 stD = true := by decide +kernel
theorem odD_ok : okB 5 60 odD = true := by decide +kernel
theorem flt_do : ∀ (m k : Nat) (ds gs : List PyData), fltAt 0 (List.replicate m stD) k ds gs = none
  | 0, _, _, _ => rfl
  | m + 1, k, ds, gs => by
    rw [List.replicate_succ, fltAt, if_pos]
    · exact flt_do m _ _ _
    · have n1 := ne_do_undo
      have n2 := ne_do_redo
      have : faultE 0 ds gs stD = if isEnt stD = false then .str (so "entry") else fltD ds gs (so "do") := rfl
      rw [this, stD_ent]
      simp [fltD, n1, n2]
theorem nice_rep {x : PyData} (h : okB 5 60 x = true) (m : Nat) : Nice 61 (.tuple (List.replicate m x)) := (Nice.tup fun y hy => by
  rw [List.eq_of_mem_replicate hy]
  exact (okB_nice h).1).mono (by decide)
theorem come400 : come 0 (.tuple (List.replicate 400 stD)) = .tuple [.str (so "told"), .tuple (List.replicate 400 stD)] := by
  unfold come
  simp only [List.length_replicate, flt_do]
  rfl
theorem comeL (x : PyData) : come 0 (.tuple (List.replicate 401 x)) = .tuple [.str (so "large"), .str (so "entries"), .int 400] := by
  unfold come
  simp only [List.length_replicate]
  rfl
theorem mul_rep (x : PyData) (k : Int) (h : 2 ≤ k ∧ k ≤ 1000) : mulF (.d (.tuple [x])) (.d (.int k)) = some (.d (.tuple (List.replicate k.toNat x))) := by
  rw [q_mulF_t, if_pos ⟨by simp, h.1, h.2, by simp⟩]
  simp
theorem large_ok : okB 5 100 (.tuple [.str (so "large"), .str (so "entries"), .int 400]) = true := by decide +kernel
theorem told_sh : PyData.strOk (so "told") = true := by decide +kernel
theorem law_true (ns : List Int) (h : ns.length ≤ 63) : LawTrue tab.P 102 R_law.D ns := by
  obtain ⟨l, e1, B⟩ := r_law_bag 79 (.lf (.d (scriptD ns)) :: List.replicate 16 .no) ns h
  obtain ⟨l', t2, t3, t4, t5, t6, t7, t8, t9, tA, tB, tC, tD, tE, e2⟩ := turns_ok 0 (sc := .lf (.d (scriptD ns))) (rngD 0 6) (s2 := .no) (s3 := .no) (s4 := .no) (s5 := .no) (s6 := .no) (s7 := .no) (s8 := .no) (s9 := .no) (sA := .no) (sB := .no) (sC := .no) (sD := .no) (sE := .no) B (by simp) (by intro s hs; simp at hs; rw [hs]; simp)
  have z0 := sz0
  have z1 : 1 ≤ sizeLine := by decide
  have z2 := sz2
  have z3 : 3 ≤ sizeLine := by decide
  have q1 : evS tab.P 101 [] (.asg (.nm 1) (.call "_law_bag" [.v 0])) (.lf (.d (scriptD ns)) :: List.replicate 16 .no) = .ok .nx [.lf (.d (scriptD ns)), .lf (.ls l), .no, .no, .no, .no, .no, .no, .no, .no, .no, .no, .no, .no, .no, .no, .no] := by
    simp at e1
    simp [e1]
  have q2 : evS tab.P 101 [] (.for_ (.nm 2) 1 [.k (.int 6)] TURN) [.lf (.d (scriptD ns)), .lf (.ls l), .no, .no, .no, .no, .no, .no, .no, .no, .no, .no, .no, .no, .no, .no, .no] = .ok .nx [.lf (.d (scriptD ns)), .lf (.ls l'), t2, t3, t4, t5, t6, t7, t8, t9, tA, tB, tC, tD, tE, .no, .no] := by
    have eL : evL (evE tab.P 100) [.k (.int 6)] [.lf (.d (scriptD ns)), .lf (.ls l), .no, .no, .no, .no, .no, .no, .no, .no, .no, .no, .no, .no, .no, .no, .no] = .ok [.lf (.d (.int 6))] [.lf (.d (scriptD ns)), .lf (.ls l), .no, .no, .no, .no, .no, .no, .no, .no, .no, .no, .no, .no, .no, .no, .no] := by simp
    have eI : (rds [.lf (.d (scriptD ns)), .lf (.ls l), .no, .no, .no, .no, .no, .no, .no, .no, .no, .no, .no, .no, .no, .no, .no] [.lf (.d (.int 6))]).bind (itemsW 1) = some (rngD 0 6) := rfl
    rw [q_evS_for, eL, Out.bind_ok, eI, q_itK_s]
    exact congrArg (forEnd [] _) e2
  have q3 : evS tab.P 101 [] (.asg (.nm 15) (.p .tup [.k (.str (so "do")), .p .tup [.k (.str (so "a")), .k (.int 1)]])) [.lf (.d (scriptD ns)), .lf (.ls l'), t2, t3, t4, t5, t6, t7, t8, t9, tA, tB, tC, tD, tE, .no, .no] = .ok .nx [.lf (.d (scriptD ns)), .lf (.ls l'), t2, t3, t4, t5, t6, t7, t8, t9, tA, tB, tC, tD, tE, .lf (.d stD), .no] := by
    simp [z2]
  generalize hρ : ([.lf (.d (scriptD ns)), .lf (.ls l'), t2, t3, t4, t5, t6, t7, t8, t9, tA, tB, tC, tD, tE, .lf (.d stD), .no] : Rho) = ρ at q3
  have h15 : ρ[15]? = some (.lf (.d stD)) := by rw [← hρ]; rfl
  have m4 := mul_rep stD 400 (by decide)
  have m5 := mul_rep stD 401 (by decide)
  have m6 := mul_rep odD 401 (by decide)
  have c4 : ∀ n, evE tab.P (n + 66) (.call "_law_come_to" [.p .tup [], .p .mul [.p .tup [.v 15], .k (.int 400)]]) ρ = .ok (.lf (.d (.tuple [.str (so "told"), .tuple (List.replicate 400 stD)]))) ρ := fun n => by
    have rc := r_come_to (n + 9) ρ (bk := []) (.inl (nice_rep stD_ok 400))
    have hL : evL (evE tab.P (n + 65)) [.p .tup [], .p .mul [.p .tup [.v 15], .k (.int 400)]] ρ = .ok [.lf (.d (.tuple [])), .lf (.d (.tuple (List.replicate 400 stD)))] ρ := by
      simp [-List.reduceReplicate, -q_mulF_t, h15, z0, z1, m4]
    rw [q_evE_call, fn__law_come_to, q_callK_s, hL, Out.bind_ok]
    exact rc.trans (by rw [List.length_nil, come400])
  have c5 : ∀ n, evE tab.P (n + 66) (.call "_law_come_to" [.p .tup [], .p .mul [.p .tup [.v 15], .k (.int 401)]]) ρ = .ok (.lf (.d (.tuple [.str (so "large"), .str (so "entries"), .int 400]))) ρ := fun n => by
    have rc := r_come_to (n + 9) ρ (bk := []) (.inl (nice_rep stD_ok 401))
    have hL : evL (evE tab.P (n + 65)) [.p .tup [], .p .mul [.p .tup [.v 15], .k (.int 401)]] ρ = .ok [.lf (.d (.tuple [])), .lf (.d (.tuple (List.replicate 401 stD)))] ρ := by
      simp [-List.reduceReplicate, -q_mulF_t, h15, z0, z1, m5]
    rw [q_evE_call, fn__law_come_to, q_callK_s, hL, Out.bind_ok]
    exact rc.trans (by rw [List.length_nil, comeL])
  have c6 : ∀ n, evE tab.P (n + 66) (.call "_law_come_to" [.p .tup [], .p .mul [.p .tup [.p .tup [.k (.str (so "odd"))]], .k (.int 401)]]) ρ = .ok (.lf (.d (.tuple [.str (so "large"), .str (so "entries"), .int 400]))) ρ := fun n => by
    have rc := r_come_to (n + 9) ρ (bk := []) (.inl (nice_rep odD_ok 401))
    have hL : evL (evE tab.P (n + 65)) [.p .tup [], .p .mul [.p .tup [.p .tup [.k (.str (so "odd"))]], .k (.int 401)]] ρ = .ok [.lf (.d (.tuple [])), .lf (.d (.tuple (List.replicate 401 odD)))] ρ := by
      simp [-List.reduceReplicate, -q_mulF_t, h15, z0, z1, m6]
    rw [q_evE_call, fn__law_come_to, q_callK_s, hL, Out.bind_ok]
    exact rc.trans (by rw [List.length_nil, comeL])
  have lsh : SeqAt.shaped (.tuple [.str (so "large"), .str (so "entries"), .int 400]) = true := (okB_nice large_ok).1.sh (by decide)
  have lrf : PyData.eqv (.tuple [.str (so "large"), .str (so "entries"), .int 400]) (.tuple [.str (so "large"), .str (so "entries"), .int 400]) = true := (okB_nice large_ok).1.refl
  have o := told_sh
  have h1 : evE tab.P 99 (.p .eq [.p .ix [.call "_law_come_to" [.p .tup [], .p .mul [.p .tup [.v 15], .k (.int 400)]], .k (.int 0)], .k (.str (so "told"))]) ρ = .ok (.lf (.d (.bool true))) ρ := by
    rw [q_evE_p, q_evL_cons, q_evE_p, q_evL_cons, c4 31]
    simp [-List.reduceReplicate, o, PyData.eqv]
  have h2 : evE tab.P 98 (.p .eq [.call "_law_come_to" [.p .tup [], .p .mul [.p .tup [.v 15], .k (.int 401)]], .p .tup [.k (.str (so "large")), .k (.str (so "entries")), .k (.int 400)]]) ρ = .ok (.lf (.d (.bool true))) ρ := by
    rw [q_evE_p, q_evL_cons, c5 31]
    simp [-List.reduceReplicate, lsh, lrf, z3]
  have h3 : evE tab.P 98 (.p .eq [.call "_law_come_to" [.p .tup [], .p .mul [.p .tup [.p .tup [.k (.str (so "odd"))]], .k (.int 401)]], .p .tup [.k (.str (so "large")), .k (.str (so "entries")), .k (.int 400)]]) ρ = .ok (.lf (.d (.bool true))) ρ := by
    rw [q_evE_p, q_evL_cons, c6 31]
    simp [-List.reduceReplicate, lsh, lrf, z3]
  refine ⟨ρ, ?_, by rw [← hρ]; simp⟩
  show evB tab.P 102 [] D_law.body (.lf (.d (scriptD ns)) :: List.replicate 16 .no) = _
  rw [D_law]
  show evB tab.P (101 + 1) [] (_ :: _ :: _ :: _ :: []) _ = _
  rw [q_evB_s, q_seqL_cons, q1, Out.seq_nx, q_seqL_cons, q2, Out.seq_nx, q_seqL_cons, q3, Out.seq_nx, q_seqL_cons]
  simp only [q_evS_ret, q_evE_and, h1, h2, h3, Out.bind_ok, q_boolOf_b, q_andK_s, if_true, q_retT_lf, Option.map_some, ofOpt_some, Out.seq_rt]
end K02

set_option maxRecDepth 100000
set_option maxHeartbeats 0
namespace K02
open PySem PySem.Spec PySem.W DL
abbrev R : PySem.W.OpenRow := PySem.W.OpenLaw.row PySem.Challenge.rw_undomacros_k02_histories_undone_and_done
abbrev file : Str := so "/claim/cut.py"
abbrev hk : PySem.W.Hook := hookX 6 tab file
def ob (s : PySem.W.SharedT) : AlX := obsX 6 tab file (HandSHeadRun.getT s)
theorem ob_eq (s : PySem.W.SharedT) : ob s = hk.obs s.abs := obsX_eq (HandSHeadRun.getT_eq s)
def looseS : List String := ["_wall", "UndoError", "BadRow", "TooLarge", "LETTERS", "DIGITS", "MOST_LETTERS", "RESERVED", "is_number", "is_index", "is_name", "is_sized", "is_step", "contrary", "undoing", "MOST_ENTRIES", "TURNS", "is_way", "is_deed_form", "is_entry_form", "Desk", "entry_fault", "checked_history", "desk_behind", "standing", "to_redo", "without_undos", "row_of", "row_of_deeds", "row_done", "_law_reserved", "_law_is_number", "_law_is_index", "_law_is_name", "_law_is_way", "_law_is_step", "_law_odd", "_law_small_book", "_law_bag"] ++ ["_law_take", "_law_some", "_law_alike", "_law_contrary", "_law_undoing", "_law_short", "_law_come_to", "_law_is_entry", "_law_row_of_deed", "_law_gone_along", "_law_entry", "_law_history"]
def loose : List Str := looseS.map so
theorem run (w : World) : HandSHeadRun.RunEq R (PySem.W.view R.prog [56]) hk ob 6000 loose w := by
  intro os
  kernel_rfl
end K02

set_option maxRecDepth 100000
set_option maxHeartbeats 0
open PySem PySem.W PySem.Calls PyProof.Rows
theorem PySem.Challenge.cw_undomacros_k02_histories_undone_and_done_holds : PySem.Challenge.rw_undomacros_k02_histories_undone_and_done.Holds := by
  w_on; o_law
  refine HandSHeadRun.head_any (r := OpenLaw.row PySem.Challenge.rw_undomacros_k02_histories_undone_and_done) (q := view (OpenLaw.row PySem.Challenge.rw_undomacros_k02_histories_undone_and_done).prog [56]) (H := K02.hk) (ob := K02.ob) (M := 6000) (loose := K02.loose) (d := HandSHeadRun.topDef (OpenLaw.row PySem.Challenge.rw_undomacros_k02_histories_undone_and_done).prog 56) (kwd := []) K02.ob_eq
    (by kernel_rfl) (fun s => by kernel_rfl) K02.run (by kernel_rfl) (by kernel_rfl) (by kernel_rfl) (by rfl) (by first | assumption | decide +kernel) (by decide +kernel) ⟨rfl, rfl, rfl, rfl, rfl, by decide +kernel⟩ ?hw ?hc
  case hw => w_witness2
  case hc =>
    exact DL.law_ofX (l := PySem.Challenge.rw_undomacros_k02_histories_undone_and_done) (nn := 63) (n := 102) (T := K02.tab) (file := K02.file) (r := K02.R_law) rfl (by decide) (by kernel_rfl) ⟨⟨rfl, by decide, by decide⟩, rfl⟩ K02.st_ok K02.ck_ok (by kernel_rfl) (by kernel_rfl) (by kernel_rfl) (by kernel_rfl) rfl (by decide) K02.law_true

