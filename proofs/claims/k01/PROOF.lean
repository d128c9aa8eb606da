import PyProof.Rows.All
import Wide.All
import OpenK.AllK
import Wide.FinOn
import HandS.ForMost
import HandS.ForExc
import HandS.IsInst
import HandS.Wide
import HandS.TupAny
import HandS.More
import PySem.Challenge.RW_partfirsts_k01_names_and_numbers
set_option Elab.async false
set_option linter.all false
set_option maxRecDepth 100000
set_option maxHeartbeats 8000000
set_option autoImplicit false
/-! Lt, part A: tree values, worlds, how a tree lies in the abstract heap, what a step keeps. -/
namespace Lt
open PySem L2

/-- a value as a tree; ref n: the n-th object of the store -/
inductive D where
  | non | bl (b : Bool) | int (i : Int) | str (s : Str)
  | lst (xs : List D) | tup (xs : List D)
  | obj (c : Str) (fs : List (Str × D))
  | ref (n : Nat)
  | scr (ns : List Int)
/-- shared; fresh (nobody else has it); read of a name that owns it -/
inductive Fl where | sh | own | bor
  deriving DecidableEq
/-- an object of the store -/
inductive SO where
  | lst (xs : List D)
abbrev Sto := List SO
/-- an error: its class, its attributes -/
structure Xc where
  c : Str
  fs : List (Str × D)
inductive R (α : Type) where
  | ok (a : α) (st : Sto) | exc (x : Xc) (st : Sto) | bad
def R.bind {α β : Type} (r : R α) (k : α → Sto → R β) : R β :=
  match r with
  | .ok a st => k a st
  | .exc x st => .exc x st
  | .bad => .bad
@[simp] theorem R.bind_ok {α β : Type} (a : α) (st : Sto) (k : α → Sto → R β) : (R.ok a st).bind k = k a st := rfl
@[simp] theorem R.bind_exc {α β : Type} (x : Xc) (st : Sto) (k : α → Sto → R β) : (R.exc x st : R α).bind k = .exc x st := rfl
@[simp] theorem R.bind_bad {α β : Type} (k : α → Sto → R β) : (R.bad : R α).bind k = .bad := rfl

/-- no error comes out -/
def R.calm {α : Type} (r : R α) : R α :=
  match r with
  | .ok a st => .ok a st
  | .exc _ _ => .bad
  | .bad => .bad
/-- one step an item -/
def walkR {α β : Type} (g : β → α → Sto → R α) : List β → R α → R α
  | [], r => r
  | d :: l, r => walkR g l (r.bind (g d))
theorem walkR_exc {α β : Type} (g : β → α → Sto → R α) : ∀ (l : List β) (x : Xc) (st : Sto), walkR g l (.exc x st) = .exc x st
  | [], _, _ => rfl
  | _ :: l, x, st => walkR_exc g l x st
theorem walkR_bad {α β : Type} (g : β → α → Sto → R α) : ∀ (l : List β), walkR g l .bad = .bad
  | [] => rfl
  | _ :: l => walkR_bad g l
theorem R.bind_assoc {α β γ : Type} (r : R α) (f : α → Sto → R β) (g : β → Sto → R γ) : (r.bind f).bind g = r.bind fun a st => (f a st).bind g := by cases r <;> rfl

/-- the store's addresses, the addresses that may still change, the abstract heap -/
structure Wd where
  φ : List Addr
  M : Addr → Prop
  H : Hp

section
variable (K : PySem.W.Frag)
/-- a list, a tuple that will not change; the script -/
def Ls (w : Wd) (a : Addr) (xs : List V) : Prop := ¬ w.M a ∧ w.H a = some (.lst xs)
def Sc (w : Wd) (a : Addr) (xs : List V) : Prop :=
  (¬ w.M a ∧ Rd w.H a (.lst xs)) ∨
    ∃ (o : Obj) (its : Array Value) (n : Nat), K.lookup a = some o ∧ o.cls = .type "list" ∧ o.dict = none ∧ o.data = .seq its n ∧ its.size ≤ sizeLine ∧ Vals xs its.toList
def Tp (w : Wd) (a : Addr) (xs : List V) : Prop :=
  (¬ w.M a ∧ Rd w.H a (.tup xs)) ∨
    ∃ (o : Obj) (its : Array Value) (n : Nat), K.lookup a = some o ∧ o.cls = .type "tuple" ∧ o.data = .seq its n ∧ its.size ≤ sizeLine ∧ Vals xs its.toList
mutual
inductive Rep (w : Wd) : V → D → Prop
  | non : Rep w .non .non
  | bl (b : Bool) : Rep w (.bl b) (.bl b)
  | int (i : Int) : Rep w (.int i) (.int i)
  | str (x : Str) : Rep w (.str x) (.str x)
  | lst {a : Addr} {xs : List V} {ds : List D} : Ls w a xs → RepL w xs ds → Rep w (.ref a) (.lst ds)
  | tup {a : Addr} {xs : List V} {ds : List D} : Tp K w a xs → RepL w xs ds → Rep w (.ref a) (.tup ds)
  | ref {n : Nat} {a : Addr} : w.φ[n]? = some a → Rep w (.ref a) (.ref n)
  | scr {a : Addr} {ns : List Int} : Sc K w a (ns.map V.int) → Rep w (.ref a) (.scr ns)
inductive RepL (w : Wd) : List V → List D → Prop
  | nil : RepL w [] []
  | cons {v : V} {vs : List V} {d : D} {ds : List D} : Rep w v d → RepL w vs ds → RepL w (v :: vs) (d :: ds)
end
end
variable {K : PySem.W.Frag}

theorem Ls.sq {w : Wd} {a : Addr} {xs : List V} (h : Ls w a xs) : SqL K w.H a xs := .inl (.inl h.2)
theorem Sc.sq {w : Wd} {a : Addr} {xs : List V} (h : Sc K w a xs) : SqL K w.H a xs := h.elim (fun z => .inl z.2) .inr
theorem Tp.sq {w : Wd} {a : Addr} {xs : List V} (h : Tp K w a xs) : SqT K w.H a xs := h.elim (fun z => .inl z.2) .inr

/-- what does not change any more stays -/
structure Fz (w w' : Wd) : Prop where
  pre : ∃ more, w'.φ = w.φ ++ more
  keep : ∀ a o, w.H a = some o → ¬ w.M a → w'.H a = some o ∧ ¬ w'.M a
/-- an expression's effect: everything stays but the store's objects -/
structure Eff (w w' : Wd) : Prop where
  pre : ∃ more, w'.φ = w.φ ++ more
  keep : ∀ a o, w.H a = some o → a ∉ w.φ → w'.H a = some o ∧ a ∉ w'.φ ∧ (w'.M a ↔ w.M a)
  there : ∀ a, w.H a ≠ none → w'.H a ≠ none
theorem Eff.refl (w : Wd) : Eff w w := ⟨⟨[], by simp⟩, fun _ _ h n => ⟨h, n, .rfl⟩, fun _ h => h⟩
theorem Eff.trans {a b c : Wd} (x : Eff a b) (y : Eff b c) : Eff a c := by
  refine ⟨?_, fun p o h n => ?_, fun p h => y.there p (x.there p h)⟩
  · obtain ⟨m, e⟩ := x.pre
    obtain ⟨m', e'⟩ := y.pre
    exact ⟨m ++ m', by rw [e', e, List.append_assoc]⟩
  · obtain ⟨h1, n1, i1⟩ := x.keep p o h n
    obtain ⟨h2, n2, i2⟩ := y.keep p o h1 n1
    exact ⟨h2, n2, i2.trans i1⟩
theorem Fz.refl (w : Wd) : Fz w w := ⟨⟨[], by simp⟩, fun _ _ h n => ⟨h, n⟩⟩
theorem Fz.trans {a b c : Wd} (x : Fz a b) (y : Fz b c) : Fz a c := by
  refine ⟨?_, fun p o h n => ?_⟩
  · obtain ⟨m, e⟩ := x.pre
    obtain ⟨m', e'⟩ := y.pre
    exact ⟨m ++ m', by rw [e', e, List.append_assoc]⟩
  · obtain ⟨h1, n1⟩ := x.keep p o h n
    exact y.keep p o h1 n1
theorem rd_some {H : Hp} {a : Addr} {u : HO} (h : Rd H a u) : ∃ o, H a = some o := h.elim (fun z => ⟨_, z⟩) fun ⟨o, z⟩ => ⟨_, z⟩
theorem rd_keep {H H' : Hp} {a : Addr} {u : HO} (h : Rd H a u) (k : ∀ o, H a = some o → H' a = some o) : Rd H' a u := h.elim (fun z => .inl (k _ z)) fun ⟨o, z⟩ => .inr ⟨o, k _ z⟩
theorem Ls.fz {w w' : Wd} {a : Addr} {xs : List V} (h : Ls w a xs) (e : Fz w w') : Ls w' a xs :=
  ⟨(e.keep a _ h.2 h.1).2, (e.keep a _ h.2 h.1).1⟩
theorem Sc.fz {w w' : Wd} {a : Addr} {xs : List V} (h : Sc K w a xs) (e : Fz w w') : Sc K w' a xs := by
  rcases h with ⟨n, r⟩ | h
  · obtain ⟨o, q⟩ := rd_some r
    exact .inl ⟨(e.keep a o q n).2, rd_keep r fun o z => (e.keep a o z n).1⟩
  · exact .inr h
theorem Tp.fz {w w' : Wd} {a : Addr} {xs : List V} (h : Tp K w a xs) (e : Fz w w') : Tp K w' a xs := by
  rcases h with ⟨n, r⟩ | h
  · obtain ⟨o, q⟩ := rd_some r
    exact .inl ⟨(e.keep a o q n).2, rd_keep r fun o z => (e.keep a o z n).1⟩
  · exact .inr h
mutual
theorem Rep.fz {w w' : Wd} (e : Fz w w') : ∀ {d : D} {v : V}, Rep K w v d → Rep K w' v d
  | _, _, .non => .non
  | _, _, .bl b => .bl b
  | _, _, .int i => .int i
  | _, _, .str x => .str x
  | _, _, .lst h r => .lst (h.fz e) (RepL.fz e r)
  | _, _, .tup h r => .tup (h.fz e) (RepL.fz e r)
  | _, _, .scr h => .scr (h.fz e)
  | _, _, .ref h => .ref (by
      obtain ⟨m, q⟩ := e.pre
      rw [q, List.getElem?_append_left (List.getElem?_eq_some_iff.mp h).1]
      exact h)
theorem RepL.fz {w w' : Wd} (e : Fz w w') : ∀ {ds : List D} {vs : List V}, RepL K w vs ds → RepL K w' vs ds
  | _, _, .nil => .nil
  | _, _, .cons h r => .cons (Rep.fz e h) (RepL.fz e r)
end
theorem RepL.length {w : Wd} : ∀ {vs : List V} {ds : List D}, RepL K w vs ds → vs.length = ds.length
  | _, _, .nil => rfl
  | _, _, .cons _ r => by simp [RepL.length r]
theorem RepL.get {w : Wd} : ∀ {vs : List V} {ds : List D} {i : Nat} {v : V}, RepL K w vs ds → vs[i]? = some v → ∃ d, ds[i]? = some d ∧ Rep K w v d
  | _, _, 0, v, .cons h _, e => by
    have e' := Option.some.inj e
    subst e'
    exact ⟨_, rfl, h⟩
  | _, _, i + 1, v, .cons _ r, e => RepL.get (i := i) r e
theorem RepL.getD {w : Wd} : ∀ {vs : List V} {ds : List D} {i : Nat} {d : D}, RepL K w vs ds → ds[i]? = some d → ∃ v, vs[i]? = some v ∧ Rep K w v d
  | _, _, 0, v, .cons h _, e => by
    have e' := Option.some.inj e
    subst e'
    exact ⟨_, rfl, h⟩
  | _, _, i + 1, v, .cons _ r, e => RepL.getD (i := i) r e
theorem RepL.append {w : Wd} : ∀ {vs us : List V} {ds es : List D}, RepL K w vs ds → RepL K w us es → RepL K w (vs ++ us) (ds ++ es)
  | _, _, _, _, .nil, s => s
  | _, _, _, _, .cons h r, s => .cons h (RepL.append r s)
theorem RepL.take {w : Wd} : ∀ {vs : List V} {ds : List D} (n : Nat), RepL K w vs ds → RepL K w (vs.take n) (ds.take n)
  | _, _, 0, _ => .nil
  | _, _, _ + 1, .nil => .nil
  | _, _, n + 1, .cons h r => .cons h (RepL.take n r)
theorem RepL.drop {w : Wd} : ∀ {vs : List V} {ds : List D} (n : Nat), RepL K w vs ds → RepL K w (vs.drop n) (ds.drop n)
  | _, _, 0, r => r
  | _, _, _ + 1, .nil => .nil
  | _, _, n + 1, .cons _ r => RepL.drop n r

/-- the store lies in the heap -/
def ObjRep (K : PySem.W.Frag) (w : Wd) (a : Addr) : SO → Prop
  | .lst ds => ∃ xs, w.H a = some (.lst xs) ∧ RepL K w xs ds
structure SRel (K : PySem.W.Frag) (st : Sto) (w : Wd) : Prop where
  len : w.φ.length = st.length
  nd : w.φ.Nodup
  mu : ∀ a ∈ w.φ, w.M a
  dom : ∀ a, w.M a → w.H a ≠ none
  objs : ∀ (n : Nat) so a, st[n]? = some so → w.φ[n]? = some a → ObjRep K w a so
theorem SRel.out {st : Sto} {w : Wd} (s : SRel K st w) {a : Addr} (h : ¬ w.M a) : a ∉ w.φ := fun z => h (s.mu a z)
theorem Eff.fz {st : Sto} {w w' : Wd} (s : SRel K st w) (e : Eff w w') : Fz w w' :=
  ⟨e.pre, fun a o h n => ⟨(e.keep a o h (s.out n)).1, fun z => n ((e.keep a o h (s.out n)).2.2.mp z)⟩⟩

/-- a list that may still change (its items will not) -/
def OwnL (K : PySem.W.Frag) (w : Wd) (a : Addr) (ds : List D) : Prop := w.M a ∧ a ∉ w.φ ∧ ∃ xs, w.H a = some (.lst xs) ∧ RepL K w xs ds
theorem OwnL.eff {st : Sto} {w w' : Wd} {a : Addr} {ds : List D} (h : OwnL K w a ds) (s : SRel K st w) (e : Eff w w') : OwnL K w' a ds := by
  obtain ⟨m, n, xs, q, r⟩ := h
  obtain ⟨h1, h2, h3⟩ := e.keep a _ q n
  exact ⟨h3.mpr m, h2, xs, h1, r.fz (e.fz s)⟩
/-- an expression's value, made since w -/
def TRep (K : PySem.W.Frag) (w w' : Wd) (v : V) (d : D) : Fl → Prop
  | .sh => Rep K w' v d
  | .own => ∃ a ds, v = .ref a ∧ d = .lst ds ∧ OwnL K w' a ds ∧ w.H a = none
  | .bor => ∃ a ds, v = .ref a ∧ d = .lst ds ∧ OwnL K w' a ds
theorem TRep.eff {st : Sto} {w w1 w2 : Wd} {v : V} {d : D} {f : Fl} (h : TRep K w w1 v d f) (s : SRel K st w1) (e : Eff w1 w2) : TRep K w w2 v d f := by
  cases f with
  | sh => exact Rep.fz (e.fz s) h
  | own =>
    obtain ⟨a, ds, r1, r2, r3, r4⟩ := h
    exact ⟨a, ds, r1, r2, r3.eff s e, r4⟩
  | bor =>
    obtain ⟨a, ds, r1, r2, r3⟩ := h
    exact ⟨a, ds, r1, r2, r3.eff s e⟩
theorem TRep.base {w0 w w1 : Wd} {v : V} {d : D} {f : Fl} (h : TRep K w w1 v d f) (e : Eff w0 w) : TRep K w0 w1 v d f := by
  cases f with
  | sh => exact h
  | own =>
    obtain ⟨a, ds, r1, r2, r3, r4⟩ := h
    refine ⟨a, ds, r1, r2, r3, ?_⟩
    cases q : w0.H a with
    | none => rfl
    | some o => exact absurd r4 (e.there a (by rw [q]; exact fun z => nomatch z))
  | bor => exact h
/-- the list that a value is, read -/
theorem TRep.list {w w' : Wd} {v : V} {ds : List D} {f : Fl} (h : TRep K w w' v (.lst ds) f) : ∃ a xs, v = .ref a ∧ w'.H a = some (.lst xs) ∧ RepL K w' xs ds := by
  cases f with
  | sh => cases h with | lst l r => exact ⟨_, _, rfl, l.2, r⟩
  | own =>
    obtain ⟨a, es, rfl, e, ⟨_, _, xs, q, r⟩, _⟩ := h
    cases e
    exact ⟨a, xs, rfl, q, r⟩
  | bor =>
    obtain ⟨a, es, rfl, e, ⟨_, _, xs, q, r⟩⟩ := h
    cases e
    exact ⟨a, xs, rfl, q, r⟩
theorem TRep.notlist {w w' : Wd} {v : V} {d : D} {f : Fl} (h : TRep K w w' v d f) (n : ∀ ds, d ≠ .lst ds) : Rep K w' v d := by
  cases f with
  | sh => exact h
  | own => obtain ⟨a, es, _, e, _⟩ := h; exact absurd e (n es)
  | bor => obtain ⟨a, es, _, e, _⟩ := h; exact absurd e (n es)
/-- nobody changes it any more -/
def frozen (w : Wd) (p : Addr) : Wd := { w with M := fun x => w.M x ∧ x ≠ p }
theorem fz_frozen (w : Wd) (p : Addr) : Fz w (frozen w p) := ⟨⟨[], by simp [frozen]⟩, fun a o h n => ⟨h, fun z => n z.1⟩⟩
theorem SRel.frozen {st : Sto} {w : Wd} {p : Addr} (s : SRel K st w) (n : p ∉ w.φ) : SRel K st (frozen w p) := by
  refine ⟨s.len, s.nd, fun a h => ⟨s.mu a h, fun z => n (z ▸ h)⟩, fun a h => s.dom a h.1, fun m so a h1 h2 => ?_⟩
  have q := s.objs m so a h1 h2
  cases so with
  | lst ds =>
    obtain ⟨xs, q1, q2⟩ := q
    exact ⟨xs, q1, q2.fz (fz_frozen w p)⟩
theorem Eff.frozen {w0 w : Wd} {p : Addr} (e : Eff w0 w) (n : w0.H p = none) : Eff w0 (frozen w p) :=
  ⟨e.pre, fun a o h m => by
    obtain ⟨h1, h2, h3⟩ := e.keep a o h m
    have ne : a ≠ p := fun z => by rw [z, n] at h; cases h
    exact ⟨h1, h2, ⟨fun z => h3.mp z.1, fun z => ⟨h3.mpr z, ne⟩⟩⟩, e.there⟩
/-- a value is handed on: shared from now on -/
theorem TRep.share {st : Sto} {w w' : Wd} {v : V} {d : D} {f : Fl} (h : TRep K w w' v d f) (s : SRel K st w') (e : Eff w w') (nb : f ≠ .bor) :
    ∃ w'', w''.H = w'.H ∧ w''.φ = w'.φ ∧ Eff w w'' ∧ Fz w' w'' ∧ SRel K st w'' ∧ Rep K w'' v d := by
  cases f with
  | sh => exact ⟨w', rfl, rfl, e, .refl _, s, h⟩
  | bor => exact absurd rfl nb
  | own =>
    obtain ⟨a, ds, rfl, rfl, ⟨m, n, xs, q, r⟩, z⟩ := h
    refine ⟨Lt.frozen w' a, rfl, rfl, e.frozen z, fz_frozen w' a, s.frozen n, .lst ⟨fun y => y.2 rfl, q⟩ (r.fz (fz_frozen w' a))⟩

/-! ### laying a new object -/
/-- a new frozen object -/
def laid (w : Wd) (p : Addr) (o : HO) : Wd := { w with H := upd w.H p o }
/-- a new object that may change -/
def laidM (w : Wd) (p : Addr) (o : HO) : Wd := { w with H := upd w.H p o, M := fun x => w.M x ∨ x = p }
theorem eff_laid {w : Wd} {p : Addr} {o : HO} (n : w.H p = none) : Eff w (laid w p o) :=
  ⟨⟨[], by simp [laid]⟩, fun a u h m => ⟨by show upd w.H p o a = _; rw [upd_ne (ne_of_none h n)]; exact h, m, .rfl⟩, fun a h => by
    show upd w.H p o a ≠ none
    by_cases z : a = p
    · rw [z, upd_same]; exact fun q => nomatch q
    · rw [upd_ne z]; exact h⟩
theorem eff_laidM {w : Wd} {p : Addr} {o : HO} (n : w.H p = none) : Eff w (laidM w p o) :=
  ⟨⟨[], by simp [laidM]⟩, fun a u h m => ⟨by show upd w.H p o a = _; rw [upd_ne (ne_of_none h n)]; exact h, m, ⟨fun z => z.elim id fun y => absurd y (ne_of_none h n), .inl⟩⟩, fun a h => by
    show upd w.H p o a ≠ none
    by_cases z : a = p
    · rw [z, upd_same]; exact fun q => nomatch q
    · rw [upd_ne z]; exact h⟩
theorem SRel.fresh {st : Sto} {w : Wd} (s : SRel K st w) {p : Addr} (n : w.H p = none) : ¬ w.M p := fun z => s.dom p z n
theorem SRel.eff_objs {st : Sto} {w w' : Wd} (s : SRel K st w) (f : Fz w w') (same : ∀ a ∈ w.φ, w'.H a = w.H a) (hφ : w'.φ = w.φ) : ∀ (n : Nat) so a, st[n]? = some so → w'.φ[n]? = some a → ObjRep K w' a so := fun n so a h1 h2 => by
  rw [hφ] at h2
  have q := s.objs n so a h1 h2
  cases so with
  | lst ds =>
    obtain ⟨xs, q1, q2⟩ := q
    exact ⟨xs, by rw [same a (List.mem_of_getElem? h2)]; exact q1, q2.fz f⟩
theorem SRel.laid {st : Sto} {w : Wd} {p : Addr} {o : HO} (s : SRel K st w) (n : w.H p = none) : SRel K st (laid w p o) := by
  have np := s.fresh n
  refine ⟨s.len, s.nd, s.mu, fun a h => (eff_laid n).there a (s.dom a h), s.eff_objs ((eff_laid n).fz s) (fun a h => ?_) rfl⟩
  show upd w.H p o a = _
  rw [upd_ne (show a ≠ p from fun z => np (z ▸ s.mu a h))]
theorem SRel.laidM {st : Sto} {w : Wd} {p : Addr} {o : HO} (s : SRel K st w) (n : w.H p = none) : SRel K st (laidM w p o) := by
  have np := s.fresh n
  refine ⟨s.len, s.nd, fun a h => .inl (s.mu a h), fun a h => ?_, s.eff_objs ((eff_laidM n).fz s) (fun a h => ?_) rfl⟩
  · rcases h with h | h
    · exact (eff_laidM n).there a (s.dom a h)
    · show upd w.H p o a ≠ none
      rw [h, upd_same]; exact fun q => nomatch q
  · show upd w.H p o a = _
    rw [upd_ne (show a ≠ p from fun z => np (z ▸ s.mu a h))]
/-- a new list -/
theorem own_new {st : Sto} {w : Wd} {p : Addr} {xs : List V} {ds : List D} (s : SRel K st w) (n : w.H p = none) (r : RepL K w xs ds) : TRep K w (laidM w p (.lst xs)) (.ref p) (.lst ds) .own :=
  ⟨p, ds, rfl, rfl, ⟨.inr rfl, fun z => s.fresh n (s.mu p z), xs, upd_same, r.fz ((eff_laidM n).fz s)⟩, n⟩
theorem tup_new {st : Sto} {w : Wd} {p : Addr} {xs : List V} {ds : List D} (s : SRel K st w) (n : w.H p = none) (r : RepL K w xs ds) : Rep K (laid w p (.tup xs)) (.ref p) (.tup ds) :=
  .tup (.inl ⟨s.fresh n, .inl upd_same⟩) (r.fz ((eff_laid n).fz s))

/-! ### names -/
abbrev Env := List (Option (D × Bool))
structure SR (K : PySem.W.Frag) (Γ : Env) (σ : L2.St) (w : Wd) : Prop where
  len : Γ.length = σ.length
  sh : ∀ (i : Nat) d, Γ[i]? = some (some (d, false)) → ∃ v, σ[i]? = some (some v) ∧ Rep K w v d
  own : ∀ (i : Nat) d, Γ[i]? = some (some (d, true)) → ∃ a ds, σ[i]? = some (some (.ref a)) ∧ d = .lst ds ∧ OwnL K w a ds
  inj : ∀ (i j : Nat) d e a, Γ[i]? = some (some (d, true)) → Γ[j]? = some (some (e, true)) → σ[i]? = some (some (.ref a)) → σ[j]? = some (some (.ref a)) → i = j
theorem SR.eff {st : Sto} {Γ : Env} {σ : L2.St} {w w' : Wd} (x : SR K Γ σ w) (s : SRel K st w) (e : Eff w w') : SR K Γ σ w' :=
  ⟨x.len, fun i d h => by
    obtain ⟨v, h1, h2⟩ := x.sh i d h
    exact ⟨v, h1, h2.fz (e.fz s)⟩, fun i d h => by
    obtain ⟨a, ds, h1, h2, h3⟩ := x.own i d h
    exact ⟨a, ds, h1, h2, h3.eff s e⟩, x.inj⟩
end Lt

/-! Lt, part B: the small language and its evaluation over trees. -/
namespace Lt
open PySem L2

inductive Bop where | add | sub | mul | fdiv | mod | pow
  deriving DecidableEq
inductive Cop where | lt | le | gt | ge | eq | ne | isn | notn | inn | notin
  deriving DecidableEq
inductive Blt where | len | all | any | int | list
  deriving DecidableEq
inductive Ik where | seq | rng1 | rng2 | enum | zip
  deriving DecidableEq
/-- a type's name in isinstance -/
inductive Ty where | tint | tbool | tstr | tlist | ttup
  deriving DecidableEq
/-- a target: a slot, or a tuple of targets -/
inductive Tg where
  | n (i : Nat) | t (ts : List Tg)

inductive E where
  | c (d : D) | var (i : Nat) | glob (x : Str)
  | bin (op : Bop) (a b : E) | neg (a : E)
  | cmp (op : Cop) (a b : E) | chain (o1 o2 : Cop) (a b c : E)
  | and (a b : E) | or (a b : E) | not (a : E) | ife (c a b : E)
  | lst (es : List E) | tup (es : List E)
  | idx (a i : E) | slice (a : E) (lo hi : Option E)
  | call (f : Str) (es : List E) (ks : List Str)
  | blt (b : Blt) (es : List E)
  | join (s x : E)
  | isi (a : E) (ts : List Ty)
  | lc (own : List Nat) (k : Ik) (tg : Tg) (srcs : List E) (ifs : List E) (elt : E)

/-! ### operations on trees -/
mutual
def toPy : D → Option PyData
  | .non => some .none
  | .bl b => some (.bool b)
  | .int i => some (.int i)
  | .str s => some (.str s)
  | .lst xs => (toPys xs).map .list
  | .tup xs => (toPys xs).map .tuple
  | .obj _ _ => none
  | .ref _ => none
  | .scr _ => none
def toPys : List D → Option (List PyData)
  | [] => some []
  | x :: xs => match toPy x, toPys xs with
    | some y, some ys => some (y :: ys)
    | _, _ => none
end
def eqD (a b : D) : Option Bool :=
  match toPy a, toPy b with
  | some p, some q => if SeqAt.shaped p && SeqAt.shaped q then some (PyData.eqv p q) else none
  | _, _ => none
def binF (op : Bop) (a b : D) : Option (D × Fl) :=
  match op, a, b with
  | .add, .int i, .int j => some (.int (i + j), .sh)
  | .add, .str x, .str y => if x.length + y.length ≤ sizeLine then some (.str (x ++ y), .sh) else none
  | .add, .lst xs, .lst ys => if xs.length + ys.length ≤ sizeLine then some (.lst (xs ++ ys), .own) else none
  | .sub, .int i, .int j => some (.int (i - j), .sh)
  | .mul, .int i, .int j => if (-(2 ^ 64) < i ∧ i < 2 ^ 64) ∨ (-(2 ^ 64) < j ∧ j < 2 ^ 64) then some (.int (i * j), .sh) else none
  | .fdiv, .int i, .int j => if 0 < j ∧ j < 1073741824 then some (.int (i / j), .sh) else none
  | .mod, .int i, .int j => if 0 < j then some (.int (i % j), .sh) else none
  | .pow, .int i, .int j => if 0 ≤ j ∧ j ≤ 1000000 ∧ i.natAbs < 2 ^ 64 then some (.int (i ^ j.toNat), .sh) else none
  | _, _, _ => none
def isNon : D → Bool
  | .non => true
  | _ => false
def strIn (x y : Str) : Bool := !(Builtin.Str.occurrences y x 0 y.length 1).isEmpty
def cmpF (op : Cop) (a b : D) : Option Bool :=
  match op with
  | .lt => match a, b with | .int i, .int j => some (decide (i < j)) | _, _ => none
  | .le => match a, b with | .int i, .int j => some (decide (i ≤ j)) | _, _ => none
  | .gt => match a, b with | .int i, .int j => some (decide (j < i)) | _, _ => none
  | .ge => match a, b with | .int i, .int j => some (decide (j ≤ i)) | _, _ => none
  | .eq => eqD a b
  | .ne => (eqD a b).map (!·)
  | .isn => match b with | .non => some (isNon a) | _ => none
  | .notn => match b with | .non => some (!isNon a) | _ => none
  | .inn => match a, b with | .str x, .str y => some (strIn x y) | _, _ => none
  | .notin => match a, b with | .str x, .str y => some (!strIn x y) | _, _ => none
def bools : List D → Option (List Bool)
  | [] => some []
  | .bl b :: r => (bools r).map (b :: ·)
  | _ :: _ => none
def strs_ : List D → Option (List Str)
  | [] => some []
  | .str b :: r => (strs_ r).map (b :: ·)
  | _ :: _ => none
def lenF : D → Option Int
  | .lst xs => some xs.length
  | .tup xs => some xs.length
  | .str x => if x.length ≤ sizeLine then some x.length else none
  | _ => none
/-- what stands for a store's list -/
def deref (st : Sto) : D → Option D
  | .ref n => match st[n]? with | some (.lst xs) => some (.lst xs) | none => none
  | d => some d
def bltF (b : Blt) (ds : List D) : Option (D × Fl) :=
  match b, ds with
  | .len, [x] => (lenF x).map fun n => (.int n, .sh)
  | .all, [.lst xs] => (bools xs).map fun bs => (.bl (bs.all id), .sh)
  | .any, [.lst xs] => (bools xs).map fun bs => (.bl (bs.any id), .sh)
  | .int, [.int i] => some (.int i, .sh)
  | .int, [.bl b] => some (.int (if b then 1 else 0), .sh)
  | .list, [.lst xs] => some (.lst xs, .own)
  | .list, [.tup xs] => some (.lst xs, .own)
  | _, _ => none
def isF (d : D) (t : Ty) : Option Bool :=
  match d with
  | .non => some false
  | .bl _ => match t with | .tbool => some true | .tint => some true | _ => some false
  | .int _ => match t with | .tint => some true | _ => some false
  | .str _ => match t with | .tstr => some true | _ => some false
  | .lst _ => match t with | .tlist => some true | _ => some false
  | .tup _ => match t with | .ttup => some true | _ => some false
  | _ => none
def isFs (d : D) (ts : List Ty) : Option Bool :=
  ts.foldr (fun t r => match isF d t, r with | some a, some b => some (a || b) | _, _ => none) (some false)
def cutD (xs : List D) (lo hi : Option Int) : List D := (xs.drop (HT.sIx xs.length 0 lo)).take (HT.sIx xs.length xs.length hi - HT.sIx xs.length 0 lo)
def sliceF (d : D) (lo hi : Option Int) : Option (D × Fl) :=
  match d with
  | .lst xs => some (.lst (cutD xs lo hi), .own)
  | .scr ns => some (.lst (cutD (ns.map .int) lo hi), .own)
  | .tup xs => if HT.sIx xs.length 0 lo = 0 ∧ HT.sIx xs.length xs.length hi = xs.length then some (.tup xs, .sh) else some (.tup (cutD xs lo hi), .sh)
  | .str z => if z.length ≤ sizeLine then some (.str (cutS z lo hi), .sh) else none
  | _ => none
def idxF (d : D) (i : D) : Option D :=
  match i with
  | .int i => match d with
    | .lst xs => atI xs i
    | .tup xs => atI xs i
    | .str z => if z.length ≤ sizeLine then (atI z.cps.toList i).map fun c => .str ⟨#[c]⟩ else none
    | _ => none
  | _ => none
def joinF (s x : D) : Option D :=
  match s, x with
  | .str a, .lst xs => (strs_ xs).bind fun ys => if (ys.map (·.length)).sum + ys.length * a.length ≤ 16777216 then some (.str (Txt.join a ys)) else none
  | _, _ => none
def rangeD (lo : Int) (n : Nat) : List D := (List.range n).map fun (i : Nat) => .int (lo + i)
def enumFrom (i : Nat) : List D → List D
  | [] => []
  | x :: r => .tup [.int (i : Nat), x] :: enumFrom (i + 1) r
def enumD (xs : List D) : List D := enumFrom 0 xs
def zipD : List D → List D → List D
  | x :: xs, y :: ys => .tup [x, y] :: zipD xs ys
  | _, _ => []
def charsD (z : Str) : List D := z.cps.toList.map fun c => .str ⟨#[c]⟩
/-- the items that a loop walks -/
def itF (k : Ik) (ds : List D) : Option (List D) :=
  match k, ds with
  | .seq, [.lst xs] => some xs
  | .seq, [.tup xs] => some xs
  | .seq, [.str z] => some (charsD z)
  | .rng1, [.int j] => if -(2 ^ 62) ≤ j ∧ j < 2 ^ 62 then some (rangeD 0 j.toNat) else none
  | .rng2, [.int i, .int j] => if -(2 ^ 62) ≤ i ∧ i < 2 ^ 62 ∧ -(2 ^ 62) ≤ j ∧ j < 2 ^ 62 then some (rangeD i (j - i).toNat) else none
  | .enum, [.lst xs] => some (enumD xs)
  | .zip, [.lst xs, .lst ys] => some (zipD xs ys)
  | _, _ => none
def ofO {α : Type} (o : Option α) (st : Sto) : R α := match o with | some a => .ok a st | none => .bad

/-! ### names -/
def wipeE (Γ : Env) : List Nat → Env
  | [] => Γ
  | i :: r => (wipeE Γ r).set i none
mutual
def bindT (Γ : Env) : Tg → D → Option Env
  | .n i, d => if i < Γ.length then some (Γ.set i (some (d, false))) else none
  | .t ts, .tup ds => if ts.length = ds.length then bindTs Γ ts ds else none
  | .t _, _ => none
def bindTs (Γ : Env) : List Tg → List D → Option Env
  | [], [] => some Γ
  | t :: ts, d :: ds => (bindT Γ t d).bind fun Γ' => bindTs Γ' ts ds
  | _, _ => none
end
/-- the parameters' order: m positional values, then those of the keywords ks -/
def permF (m : Nat) (ks : List Str) : List Str → Option (List Nat)
  | [] => some []
  | p :: r => match permF m ks r, ks.findIdx? (· == p) with
    | some r, some i => some ((m + i) :: r)
    | _, _ => none
def permK (ps : List Str) (m : Nat) (ks : List Str) : Option (List Nat) := (permF m ks (ps.drop m)).map (List.range m ++ ·)
def pick {α : Type} : List Nat → List α → Option (List α)
  | [], _ => some []
  | i :: r, xs => match xs[i]?, pick r xs with | some x, some ys => some (x :: ys) | _, _ => none
def order {α : Type} (ps ks : List Str) (xs : List α) : Option (List α) :=
  if xs.length = ps.length ∧ ks.length ≤ xs.length then (permK ps (xs.length - ks.length) ks).bind fun ix => pick ix xs else none

def callO (sig : Str → Option (List Str)) (call : Str → List D → Sto → R (D × Fl)) (f : Str) (ks : List Str) (ds : List D) (st : Sto) : R (D × Fl) :=
  match (sig f).bind fun ps => order ps ks ds with
  | some ds => call f ds st
  | none => .bad
section
variable (G : Str → Option D) (sig : Str → Option (List Str)) (call : Str → List D → Sto → R (D × Fl))
mutual
def ev (Γ : Env) (st : Sto) : E → R (D × Fl)
  | .c d => .ok (d, .sh) st
  | .var i => match Γ[i]? with
    | some (some (d, o)) => .ok (d, if o then .bor else .sh) st
    | _ => .bad
  | .glob x => ofO ((G x).map fun d => (d, .sh)) st
  | .bin op a b => (ev Γ st a).bind fun x st => (ev Γ st b).bind fun y st => ofO (binF op x.1 y.1) st
  | .neg a => (ev Γ st a).bind fun x st => match x.1 with | .int i => .ok (.int (-i), .sh) st | _ => .bad
  | .cmp op a b => (ev Γ st a).bind fun x st => (ev Γ st b).bind fun y st => ofO ((cmpF op x.1 y.1).map fun r => (.bl r, .sh)) st
  | .chain o1 o2 a b c => (ev Γ st a).bind fun x st => (ev Γ st b).bind fun y st => match cmpF o1 x.1 y.1 with
    | some false => .ok (.bl false, .sh) st
    | some true => (ev Γ st c).bind fun z st => ofO ((cmpF o2 y.1 z.1).map fun r => (.bl r, .sh)) st
    | none => .bad
  | .and a b => (ev Γ st a).bind fun x st => match x.1 with | .bl false => .ok (.bl false, .sh) st | .bl true => ev Γ st b | _ => .bad
  | .or a b => (ev Γ st a).bind fun x st => match x.1 with | .bl true => .ok (.bl true, .sh) st | .bl false => ev Γ st b | _ => .bad
  | .not a => (ev Γ st a).bind fun x st => match x.1 with | .bl b => .ok (.bl (!b), .sh) st | _ => .bad
  | .ife c a b => (ev Γ st c).bind fun x st => match x.1 with | .bl true => ev Γ st a | .bl false => ev Γ st b | _ => .bad
  | .lst es => (evs Γ st es).bind fun ds st => if ds.length ≤ sizeLine then .ok (.lst ds, .own) st else .bad
  | .tup es => (evs Γ st es).bind fun ds st => if ds.length ≤ sizeLine then .ok (.tup ds, .sh) st else .bad
  | .idx a i => (ev Γ st a).bind fun x st => (ev Γ st i).bind fun y st => ofO ((deref st x.1).bind fun d => (idxF d y.1).map fun r => (r, .sh)) st
  | .slice a lo hi => (ev Γ st a).bind fun x st => (evo Γ st lo).bind fun l st => (evo Γ st hi).bind fun h st => ofO (sliceF x.1 l h) st
  | .call f es ks => (evs Γ st es).bind fun ds st => callO sig call f ks ds st
  | .blt b es => (evr Γ st es).bind fun ds st => ofO (bltF b ds) st
  | .join s x => (ev Γ st s).bind fun a st => (ev Γ st x).bind fun b st => ofO ((joinF a.1 b.1).map fun r => (r, .sh)) st
  | .isi a ts => (ev Γ st a).bind fun x st => ofO ((isFs x.1 ts).map fun r => (.bl r, .sh)) st
  | .lc own k tg srcs ifs elt => ((evr Γ st srcs).bind fun ds st => ofO (itF k ds) st).bind fun items st =>
      (walkR (fun d (acc : List D) st => match bindT (wipeE Γ own) tg d with
        | some Γ' => (evt Γ' st ifs).calm.bind fun t st => if t then (ev Γ' st elt).calm.bind fun y st => if y.2 = .bor ∨ sizeLine ≤ acc.length then .bad else .ok (acc ++ [y.1]) st else .ok acc st
        | none => .bad) items (.ok [] st)).bind fun acc st => .ok (.lst acc, .own) st
/-- values that are handed on -/
def evs (Γ : Env) (st : Sto) : List E → R (List D)
  | [] => .ok [] st
  | e :: es => (ev Γ st e).bind fun x st => if x.2 = .bor then .bad else (evs Γ st es).bind fun ds st => .ok (x.1 :: ds) st
/-- values that are read -/
def evr (Γ : Env) (st : Sto) : List E → R (List D)
  | [] => .ok [] st
  | e :: es => (ev Γ st e).bind fun x st => (evr Γ st es).bind fun ds st => .ok (x.1 :: ds) st
def evo (Γ : Env) (st : Sto) : Option E → R (Option Int)
  | none => .ok none st
  | some e => (ev Γ st e).bind fun x st => match x.1 with | .int i => .ok (some i) st | _ => .bad
/-- tests of a comprehension -/
def evt (Γ : Env) (st : Sto) : List E → R Bool
  | [] => .ok true st
  | e :: es => (ev Γ st e).bind fun x st => match x.1 with | .bl true => evt Γ st es | .bl false => .ok false st | _ => .bad
end
end
end Lt

/-! Lt, part C: what an evaluation's outcome promises; the operations. -/
namespace Lt
open PySem L2
section
variable (K : PySem.W.Frag) (XR : Wd → Value → Option Addr → Xc → Prop) (W : WX) (σ : L2.St)
def Post {α β : Type} (J : Wd → Wd → β → α → Prop) (r : R α) (w : Wd) (Q : β → Hp → Prop) : Prop :=
  match r with
  | .ok a st => ∀ b w', Eff w w' → SRel K st w' → J w w' b a → Q b w'.H
  | .exc x st => ∀ cls dx w', Eff w w' → SRel K st w' → XR w' cls dx x → W cls dx σ w'.H
  | .bad => False
end
section
variable {K : PySem.W.Frag} {XR : Wd → Value → Option Addr → Xc → Prop} {W : WX} {σ : L2.St}
def JE (K : PySem.W.Frag) : Wd → Wd → V → D × Fl → Prop := fun w w' v x => TRep K w w' v x.1 x.2
def JL (K : PySem.W.Frag) : Wd → Wd → List V → List D → Prop := fun _ w' vs ds => RepL K w' vs ds
def JQ {α : Type} : Wd → Wd → α → α → Prop := fun _ _ a b => a = b
/-- a value that is read -/
def Rdv (K : PySem.W.Frag) (w : Wd) (v : V) (d : D) : Prop := Rep K w v d ∨ ∃ a ds, v = .ref a ∧ d = .lst ds ∧ OwnL K w a ds
inductive RdvL (K : PySem.W.Frag) (w : Wd) : List V → List D → Prop
  | nil : RdvL K w [] []
  | cons {v : V} {vs : List V} {d : D} {ds : List D} : Rdv K w v d → RdvL K w vs ds → RdvL K w (v :: vs) (d :: ds)
def JR (K : PySem.W.Frag) : Wd → Wd → List V → List D → Prop := fun _ w' vs ds => RdvL K w' vs ds
theorem TRep.rdv {w w' : Wd} {v : V} {d : D} {f : Fl} (h : TRep K w w' v d f) : Rdv K w' v d := by
  cases f with
  | sh => exact .inl h
  | own => obtain ⟨a, ds, h1, h2, h3, _⟩ := h; exact .inr ⟨a, ds, h1, h2, h3⟩
  | bor => exact .inr h
theorem Rdv.eff {st : Sto} {w w' : Wd} {v : V} {d : D} (h : Rdv K w v d) (s : SRel K st w) (e : Eff w w') : Rdv K w' v d := by
  rcases h with h | ⟨a, ds, h1, h2, h3⟩
  · exact .inl (h.fz (e.fz s))
  · exact .inr ⟨a, ds, h1, h2, h3.eff s e⟩
theorem RdvL.eff {st : Sto} {w w' : Wd} (s : SRel K st w) (e : Eff w w') : ∀ {vs : List V} {ds : List D}, RdvL K w vs ds → RdvL K w' vs ds
  | _, _, .nil => .nil
  | _, _, .cons h r => .cons (h.eff s e) (RdvL.eff s e r)
theorem Rdv.list {w : Wd} {v : V} {ds : List D} (h : Rdv K w v (.lst ds)) : ∃ a xs, v = .ref a ∧ w.H a = some (.lst xs) ∧ RepL K w xs ds := by
  rcases h with h | ⟨a, es, rfl, e, _, _, xs, q, r⟩
  · cases h with | lst l r => exact ⟨_, _, rfl, l.2, r⟩
  · cases e
    exact ⟨a, xs, rfl, q, r⟩
theorem Rdv.rep {w : Wd} {v : V} {d : D} (h : Rdv K w v d) (n : ∀ ds, d ≠ .lst ds) : Rep K w v d := by
  rcases h with h | ⟨a, es, rfl, e, _⟩
  · exact h
  · exact absurd e (n es)
theorem Rdv.int {w : Wd} {v : V} {i : Int} (h : Rdv K w v (.int i)) : v = .int i := by
  cases h.rep (fun _ z => nomatch z); rfl
theorem Rdv.bl {w : Wd} {v : V} {i : Bool} (h : Rdv K w v (.bl i)) : v = .bl i := by
  cases h.rep (fun _ z => nomatch z); rfl
theorem Rdv.str {w : Wd} {v : V} {i : Str} (h : Rdv K w v (.str i)) : v = .str i := by
  cases h.rep (fun _ z => nomatch z); rfl
theorem Rdv.tup {w : Wd} {v : V} {ds : List D} (h : Rdv K w v (.tup ds)) : ∃ a xs, v = .ref a ∧ Tp K w a xs ∧ RepL K w xs ds := by
  cases h.rep (fun _ z => nomatch z) with | tup t r => exact ⟨_, _, rfl, t, r⟩
theorem Rdv.scr {w : Wd} {v : V} {ns : List Int} (h : Rdv K w v (.scr ns)) : ∃ a, v = .ref a ∧ Sc K w a (ns.map V.int) := by
  cases h.rep (fun _ z => nomatch z) with | scr t => exact ⟨_, rfl, t⟩

/-! ### outcomes -/
theorem Post.imp {α β : Type} {J : Wd → Wd → β → α → Prop} {r : R α} {w : Wd} {Q Q' : β → Hp → Prop} (h : Post K XR W σ J r w Q) (f : ∀ b H, Q b H → Q' b H) : Post K XR W σ J r w Q' := by
  cases r with
  | ok a st => exact fun b w' e s j => f _ _ (h b w' e s j)
  | exc x st => exact h
  | bad => exact h
def BaseMono {α β : Type} (J : Wd → Wd → β → α → Prop) : Prop := ∀ w0 w w' b a, Eff w0 w → J w w' b a → J w0 w' b a
theorem bm_E : BaseMono (JE K) := fun _ _ _ _ _ e j => TRep.base j e
theorem bm_L : BaseMono (JL K) := fun _ _ _ _ _ _ j => j
theorem bm_R : BaseMono (JR K) := fun _ _ _ _ _ _ j => j
theorem bm_Q {α : Type} : BaseMono (JQ (α := α)) := fun _ _ _ _ _ _ j => j
theorem Post.base {α β : Type} {J : Wd → Wd → β → α → Prop} {r : R α} {w0 w : Wd} {Q : β → Hp → Prop} (bm : BaseMono J) (e : Eff w0 w) (h : Post K XR W σ J r w0 Q) : Post K XR W σ J r w Q := by
  cases r with
  | ok a st => exact fun b w' e' s j => h b w' (e.trans e') s (bm _ _ _ _ _ e j)
  | exc x st => exact fun c d w' e' s j => h c d w' (e.trans e') s j
  | bad => exact h
theorem Post.bind {α β γ δ : Type} {J1 : Wd → Wd → β → α → Prop} {J2 : Wd → Wd → δ → γ → Prop} {r : R α} {k : α → Sto → R γ} {w : Wd} {Q : δ → Hp → Prop} (bm : BaseMono J2) (h : Post K XR W σ J2 (r.bind k) w Q) :
    Post K XR W σ J1 r w fun b H1 => ∃ a st1 w1, w1.H = H1 ∧ Eff w w1 ∧ SRel K st1 w1 ∧ J1 w w1 b a ∧ Post K XR W σ J2 (k a st1) w1 Q ∧ Post K XR W σ J2 (k a st1) w Q ∧ r = .ok a st1 := by
  cases r with
  | ok a st => exact fun b w' e s j => ⟨a, st, w', rfl, e, s, j, Post.base bm e h, h, rfl⟩
  | exc x st => exact h
  | bad => exact h
theorem post_ofO {α β : Type} {J : Wd → Wd → β → α → Prop} {o : Option α} {st : Sto} {w : Wd} {Q : β → Hp → Prop} (h : Post K XR W σ J (ofO o st) w Q) : ∃ a, o = some a ∧ Post K XR W σ J (.ok a st) w Q := by
  cases o with
  | none => exact h.elim
  | some a => exact ⟨a, rfl, h⟩

/-! ### data -/
mutual
theorem Rep.dp {w : Wd} : ∀ {d : D} {v : V} {p : PyData}, Rep K w v d → toPy d = some p → Dp K w.H v p
  | _, _, p, .non, e => by simp only [toPy] at e; cases e; exact .non
  | _, _, p, .bl b, e => by simp only [toPy] at e; cases e; exact .bl b
  | _, _, p, .int b, e => by simp only [toPy] at e; cases e; exact .int b
  | _, _, p, .str b, e => by simp only [toPy] at e; cases e; exact .str b
  | _, _, p, .lst (ds := ds) l r, e => by
    simp only [toPy] at e
    cases q : toPys ds with
    | none => rw [q] at e; cases e
    | some ps =>
      rw [q] at e
      cases e
      exact .lst l.sq (RepL.dp r q)
  | _, _, p, .tup (ds := ds) l r, e => by
    simp only [toPy] at e
    cases q : toPys ds with
    | none => rw [q] at e; cases e
    | some ps =>
      rw [q] at e
      cases e
      exact .tup l.sq (RepL.dp r q)
  | _, _, p, .ref _, e => by simp only [toPy] at e; cases e
  | _, _, p, .scr _, e => by simp only [toPy] at e; cases e
theorem RepL.dp {w : Wd} : ∀ {ds : List D} {vs : List V} {ps : List PyData}, RepL K w vs ds → toPys ds = some ps → DpAll K w.H vs ps
  | _, _, ps, .nil, e => by simp only [toPys] at e; cases e; exact .nil
  | _, _, ps, .cons (d := d) (ds := ds) h r, e => by
    simp only [toPys] at e
    cases q1 : toPy d with
    | none => rw [q1] at e; cases e
    | some p1 =>
      cases q2 : toPys ds with
      | none => rw [q1, q2] at e; cases e
      | some p2 =>
        rw [q1, q2] at e
        cases e
        exact .cons (Rep.dp h q1) (RepL.dp r q2)
end
theorem Rdv.dp {w : Wd} {d : D} {v : V} {p : PyData} (h : Rdv K w v d) (e : toPy d = some p) : Dp K w.H v p := by
  rcases h with h | ⟨a, ds, rfl, rfl, _, _, xs, q, r⟩
  · exact h.dp e
  · simp only [toPy] at e
    cases q2 : toPys ds with
    | none => rw [q2] at e; cases e
    | some ps =>
      rw [q2] at e
      cases e
      exact .lst (SqL.of q) (r.dp q2)

/-! ### operators -/
def bopOf : Bop → Operator
  | .add => .Add | .sub => .Sub | .mul => .Mult | .fdiv => .FloorDiv | .mod => .Mod | .pow => .Pow
def rBin : Bop → R2
  | .add => fun x y H Q => (rI0 fun i j => .int (i + j)) x y H Q ∨ (∃ i j, x = .str i ∧ y = .str j ∧ i.length + j.length ≤ sizeLine ∧ Q (.str (i ++ j)) H) ∨ rCat x y H Q
  | .sub => rI0 fun i j => .int (i - j)
  | .mul => rI CMul fun i j => .int (i * j)
  | .fdiv => rI CDiv fun i j => .int (i / j)
  | .mod => rI (fun _ j => 0 < j) fun i j => .int (i % j)
  | .pow => rI CPow fun i j => .int (i ^ j.toNat)
theorem opr_bin {X : Cx} : ∀ op : Bop, OpR X (binaryOp (bopOf op)) (rBin op)
  | .add => OpR.or op_add (OpR.or op_add_str op_cat)
  | .sub => op_sub
  | .mul => op_mul
  | .fdiv => op_fdiv
  | .mod => op_mod
  | .pow => op_pow
theorem bin_ok {op : Bop} {st : Sto} {w : Wd} {v1 v2 : V} {d1 d2 : D} {x : D × Fl} {Q : VK} (s : SRel K st w) (h1 : Rdv K w v1 d1) (h2 : Rdv K w v2 d2) (e : binF op d1 d2 = some x) (p : Post K XR W σ (JE K) (.ok x st) w Q) : rBin op v1 v2 w.H Q := by
  have int2 : ∀ {i : Int}, x = (.int i, .sh) → Q (.int i) w.H := fun {i} z => by subst z; exact p _ w (.refl w) s (.int i)
  unfold binF at e
  split at e
  · cases h1.int; cases h2.int; cases e; exact .inl ⟨_, _, rfl, rfl, int2 rfl⟩
  · cases h1.str; cases h2.str
    split at e
    · rename_i hz; cases e; exact .inr (.inl ⟨_, _, rfl, rfl, hz, p _ w (.refl w) s (.str _)⟩)
    · cases e
  · split at e
    · rename_i hz
      cases e
      obtain ⟨a, xs, rfl, ha, ra⟩ := h1.list
      obtain ⟨b, ys, rfl, hb, rb⟩ := h2.list
      refine .inr (.inr ⟨a, b, xs, ys, rfl, rfl, ha, hb, by rw [ra.length, rb.length]; exact hz, fun q hq => ?_⟩)
      exact p _ _ (eff_laidM hq) (s.laidM hq) (own_new s hq (ra.append rb))
    · cases e
  · cases h1.int; cases h2.int; cases e; exact ⟨_, _, rfl, rfl, int2 rfl⟩
  · cases h1.int; cases h2.int
    split at e
    · rename_i hz; cases e; exact ⟨_, _, rfl, rfl, hz, int2 rfl⟩
    · cases e
  · cases h1.int; cases h2.int
    split at e
    · rename_i hz; cases e; exact ⟨_, _, rfl, rfl, hz, int2 rfl⟩
    · cases e
  · cases h1.int; cases h2.int
    split at e
    · rename_i hz; cases e; exact ⟨_, _, rfl, rfl, hz, int2 rfl⟩
    · cases e
  · cases h1.int; cases h2.int
    split at e
    · rename_i hz; cases e; exact ⟨_, _, rfl, rfl, hz, int2 rfl⟩
    · cases e
  · cases e
def copOf : Cop → CmpOp
  | .lt => .Lt | .le => .LtE | .gt => .Gt | .ge => .GtE | .eq => .Eq | .ne => .NotEq | .isn => .Is | .notn => .IsNot | .inn => .In | .notin => .NotIn
def rCmp (K : PySem.W.Frag) : Cop → R2
  | .lt => rI0 fun i j => .bl (decide (i < j))
  | .le => rI0 fun i j => .bl (decide (i ≤ j))
  | .gt => rI0 fun i j => .bl (decide (j < i))
  | .ge => rI0 fun i j => .bl (decide (j ≤ i))
  | .eq => rEqD K
  | .ne => rNeD K
  | .isn => fun x y H Q => y = .non ∧ Q (.bl (decide (x = .non))) H
  | .notn => fun x y H Q => y = .non ∧ Q (.bl (!decide (x = .non))) H
  | .inn => fun x y H Q => ∃ i j, x = .str i ∧ y = .str j ∧ Q (.bl (!(Builtin.Str.occurrences j i 0 j.length 1).isEmpty)) H
  | .notin => fun x y H Q => ∃ i j, x = .str i ∧ y = .str j ∧ Q (.bl (!(!(Builtin.Str.occurrences j i 0 j.length 1).isEmpty))) H
theorem opr_cmp {X : Cx} (hu : X.A.units + 64 < cLine) : ∀ op : Cop, OpR X (compareOp (copOf op)) (rCmp X.K op)
  | .lt => op_lt | .le => op_le | .gt => op_gt | .ge => op_ge | .eq => op_eqD hu | .ne => op_neD hu | .isn => op_isN | .notn => op_notN | .inn => op_in_str | .notin => op_notin_str
theorem isNon_ok {w : Wd} {v : V} {d : D} (h : Rdv K w v d) : decide (v = .non) = isNon d := by
  rcases h with h | ⟨a, ds, rfl, rfl, _⟩
  · cases h <;> rfl
  · rfl
theorem cmp_ok {op : Cop} {w : Wd} {v1 v2 : V} {d1 d2 : D} {b : Bool} {Q : VK} (h1 : Rdv K w v1 d1) (h2 : Rdv K w v2 d2) (e : cmpF op d1 d2 = some b) (p : Q (.bl b) w.H) : rCmp K op v1 v2 w.H Q := by
  have eqc : ∀ {b : Bool}, eqD d1 d2 = some b → ∃ d e', Dp K w.H v1 d ∧ Dp K w.H v2 e' ∧ SeqAt.shaped d = true ∧ SeqAt.shaped e' = true ∧ PyData.eqv d e' = b := fun {b} z => by
    unfold eqD at z
    split at z
    · rename_i p1 p2 q1 q2
      split at z
      · rename_i hz
        cases z
        have hz := Bool.and_eq_true_iff.mp hz
        exact ⟨_, _, h1.dp q1, h2.dp q2, hz.1, hz.2, rfl⟩
      · cases z
    · cases z
  cases op with
  | lt => simp only [cmpF] at e; split at e <;> cases e; cases h1.int; cases h2.int; exact ⟨_, _, rfl, rfl, p⟩
  | le => simp only [cmpF] at e; split at e <;> cases e; cases h1.int; cases h2.int; exact ⟨_, _, rfl, rfl, p⟩
  | gt => simp only [cmpF] at e; split at e <;> cases e; cases h1.int; cases h2.int; exact ⟨_, _, rfl, rfl, p⟩
  | ge => simp only [cmpF] at e; split at e <;> cases e; cases h1.int; cases h2.int; exact ⟨_, _, rfl, rfl, p⟩
  | eq =>
    obtain ⟨d, e', h3, h4, h5, h6, rfl⟩ := eqc e
    exact ⟨d, e', h3, h4, h5, h6, p⟩
  | ne =>
    simp only [cmpF] at e
    cases z : eqD d1 d2 with
    | none => rw [z] at e; cases e
    | some c =>
      rw [z] at e
      cases e
      obtain ⟨d, e', h3, h4, h5, h6, rfl⟩ := eqc z
      exact ⟨d, e', h3, h4, h5, h6, p⟩
  | isn =>
    simp only [cmpF] at e
    split at e <;> cases e
    cases h2.rep (fun _ z => nomatch z)
    exact ⟨rfl, by rw [isNon_ok h1]; exact p⟩
  | notn =>
    simp only [cmpF] at e
    split at e <;> cases e
    cases h2.rep (fun _ z => nomatch z)
    exact ⟨rfl, by rw [isNon_ok h1]; exact p⟩
  | inn => simp only [cmpF] at e; split at e <;> cases e; cases h1.str; cases h2.str; exact ⟨_, _, rfl, rfl, p⟩
  | notin => simp only [cmpF] at e; split at e <;> cases e; cases h1.str; cases h2.str; exact ⟨_, _, rfl, rfl, p⟩
theorem RepL.bools {w : Wd} : ∀ {ds : List D} {xs : List V} {bs : List Bool}, RepL K w xs ds → bools ds = some bs → xs = bs.map V.bl
  | _, _, _, .nil, e => by simp only [Lt.bools] at e; cases e; rfl
  | _, _, bs, .cons (d := d) (ds := ds) h r, e => by
    cases d <;> simp only [Lt.bools] at e <;> try cases e
    rename_i b
    cases q : Lt.bools ds with
    | none => rw [q] at e; cases e
    | some cs =>
      rw [q] at e
      cases e
      cases h
      rw [RepL.bools r q]
      rfl
theorem RepL.strs {w : Wd} : ∀ {ds : List D} {xs : List V} {bs : List Str}, RepL K w xs ds → strs_ ds = some bs → xs = bs.map V.str
  | _, _, _, .nil, e => by simp only [Lt.strs_] at e; cases e; rfl
  | _, _, bs, .cons (d := d) (ds := ds) h r, e => by
    cases d <;> simp only [Lt.strs_] at e <;> try cases e
    rename_i b
    cases q : Lt.strs_ ds with
    | none => rw [q] at e; cases e
    | some cs =>
      rw [q] at e
      cases e
      cases h
      rw [RepL.strs r q]
      rfl
end
end Lt

/-! Lt, part D: built-ins, items, slices, isinstance, join; what a loop walks. -/
namespace Lt
open PySem L2
section
variable {K : PySem.W.Frag} {XR : Wd → Value → Option Addr → Xc → Prop} {W : WX} {σ : L2.St}
def bltV : Blt → Value
  | .len => .builtin "len" | .all => .builtin "all" | .any => .builtin "any" | .int => .type "int" | .list => .type "list"
def rBlt (K : PySem.W.Frag) : Blt → List V → Hp → VK → Prop
  | .len => fun xs H Q => ∃ x n, xs = [x] ∧ LenV K x H n ∧ Q (.int n) H
  | .all => rAll K
  | .any => rAny K
  | .int => fun xs H Q => (∃ i, xs = [.int i] ∧ Q (.int i) H) ∨ ∃ k, xs = [.bl k] ∧ Q (.int (if k then 1 else 0)) H
  | .list => fun xs H Q => ∃ p ys, xs = [.ref p] ∧ (SqL K H p ys ∨ SqT K H p ys) ∧ ∀ l, H l = none → Q (.ref l) (upd H l (.lst ys))
theorem clr_blt {X : Cx} (hc : X.calm = true) : ∀ b : Blt, CallR X (bltV b) (rBlt X.K b)
  | .len => call_len | .all => cr_all hc | .any => cr_any hc | .int => call_int1 | .list => call_list_of
theorem RdvL.one {w : Wd} {vs : List V} {d : D} (h : RdvL K w vs [d]) : ∃ v, vs = [v] ∧ Rdv K w v d := by
  cases h with | cons h r => cases r; exact ⟨_, rfl, h⟩
theorem RdvL.two {w : Wd} {vs : List V} {d e : D} (h : RdvL K w vs [d, e]) : ∃ v u, vs = [v, u] ∧ Rdv K w v d ∧ Rdv K w u e := by
  cases h with | cons h r => cases r with | cons h' r => cases r; exact ⟨_, _, rfl, h, h'⟩
theorem len_ok {w : Wd} {v : V} {d : D} {n : Int} (h : Rdv K w v d) (e : lenF d = some n) : ∃ m : Nat, n = m ∧ LenV K v w.H m := by
  unfold lenF at e
  split at e
  · cases e
    obtain ⟨a, xs, rfl, ha, r⟩ := h.list
    exact ⟨_, rfl, .inl ⟨xs, SqL.of ha, r.length.symm⟩⟩
  · cases e
    obtain ⟨a, xs, rfl, ha, r⟩ := h.tup
    exact ⟨_, rfl, .inr ⟨xs, ha.sq, r.length.symm⟩⟩
  · cases h.str
    split at e
    · rename_i hz
      cases e
      exact ⟨_, rfl, hz, rfl⟩
    · cases e
  · cases e
theorem blt_ok {b : Blt} {st : Sto} {w : Wd} {vs : List V} {ds : List D} {x : D × Fl} {Q : VK} (s : SRel K st w) (h : RdvL K w vs ds) (e : bltF b ds = some x) (p : Post K XR W σ (JE K) (.ok x st) w Q) : rBlt K b vs w.H Q := by
  have int2 : ∀ {i : Int}, x = (.int i, .sh) → Q (.int i) w.H := fun {i} z => by subst z; exact p _ w (.refl w) s (.int i)
  have bl2 : ∀ {i : Bool}, x = (.bl i, .sh) → Q (.bl i) w.H := fun {i} z => by subst z; exact p _ w (.refl w) s (.bl i)
  unfold bltF at e
  split at e
  · rename_i d
    obtain ⟨v, rfl, g⟩ := h.one
    cases q : lenF d with
    | none => rw [q] at e; cases e
    | some n =>
      rw [q] at e
      cases e
      obtain ⟨m, rfl, hm⟩ := len_ok g q
      exact ⟨_, m, rfl, hm, int2 rfl⟩
  · rename_i xs
    obtain ⟨v, rfl, g⟩ := h.one
    obtain ⟨a, ys, rfl, ha, r⟩ := g.list
    cases q : bools xs with
    | none => rw [q] at e; cases e
    | some bs =>
      rw [q] at e
      cases e
      rw [r.bools q] at ha
      exact ⟨a, bs, rfl, SqL.of ha, bl2 rfl⟩
  · rename_i xs
    obtain ⟨v, rfl, g⟩ := h.one
    obtain ⟨a, ys, rfl, ha, r⟩ := g.list
    cases q : bools xs with
    | none => rw [q] at e; cases e
    | some bs =>
      rw [q] at e
      cases e
      rw [r.bools q] at ha
      exact ⟨a, bs, rfl, SqL.of ha, bl2 rfl⟩
  · obtain ⟨v, rfl, g⟩ := h.one
    cases e; cases g.int
    exact .inl ⟨_, rfl, int2 rfl⟩
  · obtain ⟨v, rfl, g⟩ := h.one
    cases e; cases g.bl
    exact .inr ⟨_, rfl, int2 rfl⟩
  · obtain ⟨v, rfl, g⟩ := h.one
    cases e
    obtain ⟨a, ys, rfl, ha, r⟩ := g.list
    exact ⟨a, ys, rfl, .inl (SqL.of ha), fun l hl => p _ _ (eff_laidM hl) (s.laidM hl) (own_new s hl r)⟩
  · obtain ⟨v, rfl, g⟩ := h.one
    cases e
    obtain ⟨a, ys, rfl, ha, r⟩ := g.tup
    exact ⟨a, ys, rfl, .inr ha.sq, fun l hl => p _ _ (eff_laidM hl) (s.laidM hl) (own_new s hl r)⟩
  · cases e
/-! ### items -/
def rIdx (K : PySem.W.Frag) : R2 := fun x y H Q => (rIxL K x y H Q ∨ rIxT K x y H Q) ∨ rIxS x y H Q
theorem ixr_idx {X : Cx} : IxR X (rIdx X.K) := IxR.or (IxR.or ix_list ix_tup) ix_str
theorem atI_rep {w : Wd} {xs : List V} {ds : List D} {i : Int} {d : D} (r : RepL K w xs ds) (e : atI ds i = some d) : ∃ v, atI xs i = some v ∧ Rep K w v d := by
  unfold atI at e ⊢
  rw [r.length]
  cases q : ixN ds.length i with
  | none => rw [q] at e; cases e
  | some j => rw [q] at e; exact r.getD e
theorem idx_list {w : Wd} {a : Addr} {xs : List V} {ds : List D} {i : Int} {d : D} {st : Sto} {Q : VK} (s : SRel K st w) (ha : w.H a = some (.lst xs)) (r : RepL K w xs ds) (e : atI ds i = some d)
    (p : Post K XR W σ (JE K) (.ok (d, .sh) st) w Q) : rIdx K (.ref a) (.int i) w.H Q := by
  obtain ⟨v, h1, h2⟩ := atI_rep r e
  exact .inl (.inl ⟨a, xs, i, v, rfl, rfl, SqL.of ha, h1, p _ w (.refl w) s h2⟩)
theorem idx_ok {st : Sto} {w : Wd} {v1 v2 : V} {d1 d2 d r : D} {Q : VK} (s : SRel K st w) (h1 : Rdv K w v1 d1) (h2 : Rdv K w v2 d2) (e1 : deref st d1 = some d) (e2 : idxF d d2 = some r) (p : Post K XR W σ (JE K) (.ok (r, .sh) st) w Q) : rIdx K v1 v2 w.H Q := by
  unfold idxF at e2
  split at e2
  · rename_i i
    cases h2.int
    by_cases hr : ∃ n, d1 = .ref n
    · obtain ⟨n, rfl⟩ := hr
      simp only [deref] at e1
      split at e1
      · rename_i xs hx
        cases e1
        cases h1.rep (fun _ z => nomatch z) with
        | ref hφ =>
          obtain ⟨ys, q1, q2⟩ := s.objs n _ _ hx hφ
          exact idx_list s q1 q2 e2 p
      · cases e1
    · have e1' : d = d1 := by
        unfold deref at e1
        split at e1
        · exact absurd ⟨_, rfl⟩ hr
        · exact (Option.some.inj e1).symm
      subst e1'
      split at e2
      · obtain ⟨a, xs, rfl, ha, rr⟩ := h1.list
        exact idx_list s ha rr e2 p
      · obtain ⟨a, xs, rfl, ha, rr⟩ := h1.tup
        obtain ⟨v, h1, h2⟩ := atI_rep rr e2
        exact .inl (.inr ⟨a, xs, i, v, rfl, rfl, ha.sq, h1, p _ w (.refl w) s h2⟩)
      · rename_i z
        cases h1.str
        split at e2
        · rename_i hz
          cases q : atI z.cps.toList i with
          | none => rw [q] at e2; cases e2
          | some c =>
            rw [q] at e2
            cases e2
            exact .inr ⟨_, i, c, rfl, rfl, hz, q, p _ w (.refl w) s (.str _)⟩
        · cases e2
      · cases e2
  · cases e2
/-! ### slices -/
def rSlice (K : PySem.W.Frag) : V → Option Int → Option Int → Hp → VK → Prop := fun x lo hi H Q => (rSlL K x lo hi H Q ∨ rSlA K x lo hi H Q) ∨ (∃ z, x = .str z ∧ z.length ≤ sizeLine ∧ Q (.str (cutS z lo hi)) H)
theorem slr_slice {X : Cx} : SlR X (rSlice X.K) := SlR.or (SlR.or sl_list sl_tupA) sl_str
theorem cut_rep {w : Wd} {xs : List V} {ds : List D} {lo hi : Option Int} (r : RepL K w xs ds) : RepL K w (cutV xs lo hi) (cutD ds lo hi) := by
  unfold cutV cutD
  rw [r.length]
  exact (r.drop _).take _
theorem rep_ints {w : Wd} : ∀ ns : List Int, RepL K w (ns.map V.int) (ns.map D.int)
  | [] => .nil
  | n :: r => .cons (.int n) (rep_ints r)
theorem slice_ok {st : Sto} {w : Wd} {v : V} {d : D} {lo hi : Option Int} {x : D × Fl} {Q : VK} (s : SRel K st w) (h : Rdv K w v d) (e : sliceF d lo hi = some x) (p : Post K XR W σ (JE K) (.ok x st) w Q) : rSlice K v lo hi w.H Q := by
  cases d <;> simp only [sliceF] at e <;> try cases e
  · split at e
    · rename_i hz
      cases e; cases h.str
      exact .inr ⟨_, rfl, hz, p _ w (.refl w) s (.str _)⟩
    · cases e
  · obtain ⟨a, xs, rfl, ha, r⟩ := h.list
    exact .inl (.inl ⟨a, xs, rfl, SqL.of ha, fun q hq => p _ _ (eff_laidM hq) (s.laidM hq) (own_new s hq (cut_rep r))⟩)
  · obtain ⟨a, xs, rfl, ha, r⟩ := h.tup
    have hl := r.length
    refine .inl (.inr ⟨a, xs, rfl, ha.sq, fun hw => ?_, fun hw q hq => ?_⟩)
    · rw [hl] at hw
      rw [if_pos hw] at e
      cases e
      exact p _ w (.refl w) s (.tup ha r)
    · rw [hl] at hw
      rw [if_neg hw] at e
      cases e
      exact p _ _ (eff_laid hq) (s.laid hq) (tup_new s hq (cut_rep r))
  · obtain ⟨a, rfl, ha⟩ := h.scr
    exact .inl (.inl ⟨a, _, rfl, ha.sq, fun q hq => p _ _ (eff_laidM hq) (s.laidM hq) (own_new s hq (cut_rep (rep_ints _)))⟩)
/-! ### isinstance -/
def tyS : Ty → String
  | .tint => "int" | .tbool => "bool" | .tstr => "str" | .tlist => "list" | .ttup => "tuple"
theorem ty_of {w : Wd} {v : V} {d : D} {t : Ty} {b : Bool} (h : Rdv K w v d) (e : isF d t = some b) : ∃ n, TyX K w.H v (.type n) ∧ ∀ t b, isF d t = some b → kitB n (tyS t) = some b := by
  have key : ∀ n, (∀ t b, isF d t = some b → kitB n (tyS t) = some b) → TyX K w.H v (.type n) → ∃ n, TyX K w.H v (.type n) ∧ ∀ t b, isF d t = some b → kitB n (tyS t) = some b := fun n a b => ⟨n, b, a⟩
  rcases h with h | ⟨a, ds, rfl, rfl, _, _, xs, q, r⟩
  · cases h with
    | non => exact key "NoneType" (fun t b z => by cases t <;> (cases z; decide +kernel)) (.base .non)
    | bl x => exact key "bool" (fun t b z => by cases t <;> (cases z; decide +kernel)) (.base (.bl x))
    | int x => exact key "int" (fun t b z => by cases t <;> (cases z; decide +kernel)) (.base (.int x))
    | str x => exact key "str" (fun t b z => by cases t <;> (cases z; decide +kernel)) (.base (.str x))
    | lst l r => exact key "list" (fun t b z => by cases t <;> (cases z; decide +kernel)) (.base (.lst l.2))
    | tup l r =>
      refine key "tuple" (fun t b z => by cases t <;> (cases z; decide +kernel)) ?_
      rcases l with ⟨_, l | ⟨o, l⟩⟩ | ⟨o, its, n, k, c, _⟩
      · exact .base (.tup l)
      · exact .fTuple l
      · exact .kTuple k c
    | ref _ => cases e
    | scr _ => cases e
  · exact key "list" (fun t b z => by cases t <;> (cases z; decide +kernel)) (.base (.lst q))
theorem isFs_cons {d : D} {t : Ty} {ts : List Ty} {b : Bool} (e : isFs d (t :: ts) = some b) : ∃ a c, isF d t = some a ∧ isFs d ts = some c ∧ b = (a || c) := by
  have e' : (match isF d t, isFs d ts with | some a, some b => some (a || b) | _, _ => none) = some b := e
  split at e'
  · rename_i a c h1 h2
    exact ⟨a, c, h1, h2, (Option.some.inj e').symm⟩
  · cases e'
theorem kitAny_ok {n : String} {d : D} (h : ∀ t b, isF d t = some b → kitB n (tyS t) = some b) : ∀ {ts : List Ty} {b : Bool}, isFs d ts = some b → PySem.W.kitAny K (.type n) (ts.map fun t => Value.type (tyS t)) = some b
  | [], b, e => by cases e; rfl
  | t :: ts, b, e => by
    obtain ⟨a, c, h1, h2, rfl⟩ := isFs_cons e
    refine kitAny_cons (kit_ty (h t a h1)) (fun z => ?_) (fun z => by rw [z]; rfl)
    rw [z, Bool.false_or]
    exact kitAny_ok h h2
/-! ### join -/
abbrev rJoin (K : PySem.W.Frag) : V → List V → Hp → VK → Prop := fun x xs H Q => ∃ a p, ∃ ys : List Str, x = .str a ∧ xs = [.ref p] ∧ (SqL K H p (ys.map V.str) ∨ SqT K H p (ys.map V.str)) ∧
      (ys.map (·.length)).sum + ys.length * a.length ≤ 16777216 ∧ Q (.str (Txt.join a ys)) H
theorem join_ok {st : Sto} {w : Wd} {v1 v2 : V} {d1 d2 r : D} {Q : VK} (s : SRel K st w) (h1 : Rdv K w v1 d1) (h2 : Rdv K w v2 d2) (e : joinF d1 d2 = some r) (p : Post K XR W σ (JE K) (.ok (r, .sh) st) w Q) : rJoin K v1 [v2] w.H Q := by
  unfold joinF at e
  split at e
  · rename_i a xs
    cases h1.str
    obtain ⟨b, ys, rfl, hb, rr⟩ := h2.list
    cases q : strs_ xs with
    | none => rw [q] at e; cases e
    | some zs =>
      rw [q, Option.bind_some] at e
      split at e
      · rename_i hz
        cases e
        rw [rr.strs q] at hb
        exact ⟨a, b, zs, rfl, rfl, .inl (SqL.of hb), hz, p _ w (.refl w) s (.str _)⟩
      · cases e
  · cases e

/-! ### what a loop walks -/
def ItOk (K : PySem.W.Frag) (Rl : Wd → Wd → Prop) (w : Wd) (J : It) (items : List D) : Prop := ∀ w1 st, Rl w w1 → SRel K st w1 →
  (∀ i : Nat, i < items.length → J.go i w1.H ∧ ∀ x H', J.yld i w1.H x H' → ∃ w2, w2.H = H' ∧ Eff w1 w2 ∧ SRel K st w2 ∧ ∃ d, items[i]? = some d ∧ Rep K w2 x d) ∧ J.stop items.length w1.H
/-- a list, a tuple that stays while the loop runs -/
def StL (K : PySem.W.Frag) (Rl : Wd → Wd → Prop) (w : Wd) (a : Addr) (ds : List D) : Prop := ∀ w1 st, Rl w w1 → SRel K st w1 → ∃ xs, w1.H a = some (.lst xs) ∧ RepL K w1 xs ds
def StT (K : PySem.W.Frag) (Rl : Wd → Wd → Prop) (w : Wd) (a : Addr) (ds : List D) : Prop := ∀ w1 st, Rl w w1 → SRel K st w1 → ∃ xs, SqT K w1.H a xs ∧ RepL K w1 xs ds
theorem it_list {Rl : Wd → Wd → Prop} {w : Wd} {a : Addr} {ds : List D} (h : StL K Rl w a ds) : ItOk K Rl w (Itl K a) ds := fun w1 st e s => by
  obtain ⟨xs, q, r⟩ := h w1 st e s
  refine ⟨fun i hi => ?_, xs, SqL.of q, by rw [r.length]; exact Nat.le_refl _⟩
  have hd : ds[i]? = some ds[i] := List.getElem?_eq_getElem hi
  obtain ⟨v, hv, rv⟩ := r.getD hd
  refine ⟨⟨xs, v, SqL.of q, hv⟩, fun x H' ⟨e1, y⟩ => ⟨w1, e1.symm, .refl _, s, _, hd, ?_⟩⟩
  have := y xs (SqL.of q)
  rw [hv] at this
  cases this
  exact rv
theorem it_tup {Rl : Wd → Wd → Prop} {w : Wd} {a : Addr} {ds : List D} (h : StT K Rl w a ds) : ItOk K Rl w (Itt K a) ds := fun w1 st e s => by
  obtain ⟨xs, q, r⟩ := h w1 st e s
  refine ⟨fun i hi => ?_, xs, q, by rw [r.length]; exact Nat.le_refl _⟩
  have hd : ds[i]? = some ds[i] := List.getElem?_eq_getElem hi
  obtain ⟨v, hv, rv⟩ := r.getD hd
  refine ⟨⟨xs, v, q, hv⟩, fun x H' ⟨e1, y⟩ => ⟨w1, e1.symm, .refl _, s, _, hd, ?_⟩⟩
  have := y xs q
  rw [hv] at this
  cases this
  exact rv
theorem it_rng {Rl : Wd → Wd → Prop} {w : Wd} {lo : Int} {n : Nat} : ItOk K Rl w (Itr lo n) (rangeD lo n) := fun w1 st e s => by
  have hl : (rangeD lo n).length = n := by simp [rangeD]
  refine ⟨fun i hi => ⟨by rw [hl] at hi; exact hi, fun x H' ⟨e1, e2⟩ => ⟨w1, e1.symm, .refl _, s, .int (lo + i), ?_, by rw [e2]; exact .int _⟩⟩, by show n ≤ _; rw [hl]; exact Nat.le_refl _⟩
  rw [hl] at hi
  simp [rangeD, hi]
theorem it_str {Rl : Wd → Wd → Prop} {w : Wd} {z : Str} : ItOk K Rl w (Its z) (charsD z) := fun w1 st e s => by
  have hl : (charsD z).length = z.cps.size := by simp [charsD]
  refine ⟨fun i hi => ⟨by rw [hl] at hi; exact hi, fun x H' ⟨e1, c, e2, e3⟩ => ⟨w1, e1.symm, .refl _, s, .str ⟨#[c]⟩, ?_, by rw [e3]; exact .str _⟩⟩, by show z.cps.size ≤ _; rw [hl]; exact Nat.le_refl _⟩
  have e2' : z.cps.toList[i]? = some c := by simpa using e2
  simp [charsD, e2']
theorem enumFrom_length : ∀ (ds : List D) (k : Nat), (enumFrom k ds).length = ds.length
  | [], _ => rfl
  | _ :: r, k => by simp [enumFrom, enumFrom_length r]
theorem enumFrom_get : ∀ (ds : List D) (k i : Nat) (d : D), ds[i]? = some d → (enumFrom k ds)[i]? = some (.tup [.int ((k + i : Nat) : Int), d])
  | [], _, _, _, e => by simp at e
  | x :: r, k, 0, d, e => by
    have e' : x = d := Option.some.inj e
    subst e'
    rfl
  | x :: r, k, i + 1, d, e => by
    have := enumFrom_get r (k + 1) i d e
    rw [show k + 1 + i = k + (i + 1) by omega] at this
    exact this
theorem it_enum {Rl : Wd → Wd → Prop} {w : Wd} {a : Addr} {ds : List D} (h : StL K Rl w a ds) : ItOk K Rl w (Ite K a) (enumD ds) := fun w1 st e s => by
  obtain ⟨xs, q, r⟩ := h w1 st e s
  have hl : (enumD ds).length = ds.length := enumFrom_length ds 0
  refine ⟨fun i hi => ?_, xs, SqL.of q, by rw [hl, r.length]; exact Nat.le_refl _⟩
  rw [hl] at hi
  have hd : ds[i]? = some ds[i] := List.getElem?_eq_getElem hi
  obtain ⟨v, hv, rv⟩ := r.getD hd
  refine ⟨⟨xs, v, SqL.of q, hv⟩, fun x H' ⟨T, y, e1, nT, e2, f⟩ => ⟨laid w1 T (.tup [.int (i : Nat), y]), e2.symm, eff_laid nT, s.laid nT, .tup [.int ((0 + i : Nat) : Int), ds[i]], enumFrom_get ds 0 i _ hd, ?_⟩⟩
  have hy := f xs (SqL.of q)
  rw [hv] at hy
  cases hy
  rw [e1, Nat.zero_add]
  exact tup_new s nT (.cons (.int _) (.cons rv .nil))
theorem zipD_length : ∀ xs ys : List D, (zipD xs ys).length = min xs.length ys.length
  | [], _ => by simp [zipD]
  | _ :: _, [] => by simp [zipD]
  | _ :: xs, _ :: ys => by simp [zipD, zipD_length xs ys]
theorem zipD_get : ∀ (xs ys : List D) (i : Nat) (x y : D), xs[i]? = some x → ys[i]? = some y → (zipD xs ys)[i]? = some (.tup [x, y])
  | [], _, _, _, _, e, _ => by simp at e
  | _ :: _, [], _, _, _, _, e => by simp at e
  | a :: xs, b :: ys, 0, x, y, e1, e2 => by
    have e1' : a = x := Option.some.inj e1
    have e2' : b = y := Option.some.inj e2
    subst e1' e2'
    rfl
  | a :: xs, b :: ys, i + 1, x, y, e1, e2 => zipD_get xs ys i x y e1 e2
theorem it_zip {Rl : Wd → Wd → Prop} {w : Wd} {a b : Addr} {ds es : List D} (h : StL K Rl w a ds) (h' : StL K Rl w b es) : ItOk K Rl w (Itz K a b) (zipD ds es) := fun w1 st e s => by
  obtain ⟨xs, q, r⟩ := h w1 st e s
  obtain ⟨ys, q', r'⟩ := h' w1 st e s
  have hl : (zipD ds es).length = min ds.length es.length := zipD_length ds es
  refine ⟨fun i hi => ?_, xs, ys, SqL.of q, SqL.of q', by rw [hl, r.length, r'.length]; omega⟩
  rw [hl] at hi
  have i1 : i < ds.length := by omega
  have i2 : i < es.length := by omega
  have hd : ds[i]? = some ds[i] := List.getElem?_eq_getElem i1
  have hd' : es[i]? = some es[i] := List.getElem?_eq_getElem i2
  obtain ⟨v, hv, rv⟩ := r.getD hd
  obtain ⟨u, hu, ru⟩ := r'.getD hd'
  refine ⟨⟨xs, ys, v, u, SqL.of q, SqL.of q', hv, hu⟩, fun x H' ⟨T, y, z, e1, nT, e2, f, g⟩ => ⟨laid w1 T (.tup [y, z]), e2.symm, eff_laid nT, s.laid nT, .tup [ds[i], es[i]], zipD_get ds es i _ _ hd hd', ?_⟩⟩
  have hy := f xs (SqL.of q)
  rw [hv] at hy
  cases hy
  have hz := g ys (SqL.of q')
  rw [hu] at hz
  cases hz
  rw [e1]
  exact tup_new s nT (.cons rv (.cons ru .nil))
/-- what is read in an expression stays while it runs -/
theorem StL.of_rdv {st : Sto} {w : Wd} {v : V} {ds : List D} (s : SRel K st w) (h : Rdv K w v (.lst ds)) : ∃ a, v = .ref a ∧ (∃ xs, w.H a = some (.lst xs)) ∧ StL K Eff w a ds := by
  rcases h with h | ⟨a, es, rfl, e, ow⟩
  · cases h with
    | lst l r => exact ⟨_, rfl, ⟨_, l.2⟩, fun w1 _ e _ => ⟨_, (l.fz (e.fz s)).2, r.fz (e.fz s)⟩⟩
  · cases e
    obtain ⟨_, _, xs, q, _⟩ := id ow
    exact ⟨a, rfl, ⟨xs, q⟩, fun w1 _ e _ => by
      obtain ⟨_, _, xs', q', r'⟩ := ow.eff s e
      exact ⟨xs', q', r'⟩⟩
theorem StT.of_rdv {st : Sto} {w : Wd} {v : V} {ds : List D} (s : SRel K st w) (h : Rdv K w v (.tup ds)) : ∃ a, v = .ref a ∧ (∃ xs, SqT K w.H a xs) ∧ StT K Eff w a ds := by
  obtain ⟨a, xs, rfl, t, r⟩ := h.tup
  exact ⟨a, rfl, ⟨xs, t.sq⟩, fun w1 _ e _ => ⟨xs, (t.fz (e.fz s)).sq, r.fz (e.fz s)⟩⟩
/-- what is shared stays through a whole loop -/
theorem StL.of_rep {w : Wd} {v : V} {ds : List D} (h : Rep K w v (.lst ds)) : ∃ a, v = .ref a ∧ (∃ xs, w.H a = some (.lst xs)) ∧ StL K Fz w a ds := by
  cases h with
  | lst l r => exact ⟨_, rfl, ⟨_, l.2⟩, fun w1 _ e _ => ⟨_, (l.fz e).2, r.fz e⟩⟩
theorem StT.of_rep {w : Wd} {v : V} {ds : List D} (h : Rep K w v (.tup ds)) : ∃ a, v = .ref a ∧ (∃ xs, SqT K w.H a xs) ∧ StT K Fz w a ds := by
  cases h with
  | tup t r => exact ⟨_, rfl, ⟨_, t.sq⟩, fun w1 _ e _ => ⟨_, (t.fz e).sq, r.fz e⟩⟩
end
end Lt

/-! Lt, part E: from the text to the small language. -/
namespace Lt
open PySem L2
/-- the names by slot, the scope, which cells may be stored -/
structure CC where
  N : List Str
  sc : Scope
  fnb : Str → Bool
def slot (N : List Str) (x : Str) : Option Nat := N.findIdx? (· == x)
def CC.kind (cc : CC) (x : Str) : Option NameKind := cc.sc.names.lookup x
def CC.vis (cc : CC) (x : Str) : Bool := (cc.kind x == some .local || cc.kind x == some .cell || cc.kind x == some .free) && !(x == ("__debug__" : Str)) && !(x == ("__classdict__" : Str))
def CC.loc (cc : CC) (x : Str) : Bool := cc.kind x == some .local || (cc.kind x == some .cell && cc.fnb x)
def CC.gl (cc : CC) (x : Str) : Bool := cc.kind x == some .globalImplicit && !(x == ("__debug__" : Str)) && !(x == ("__name__" : Str))
def CC.inner (cc : CC) (scope : Scope) : CC := ⟨cc.N, relS scope cc.sc, fun x => scope.names.lookup x == some .cell⟩
def cBop : Operator → Option Bop
  | .Add => some .add | .Sub => some .sub | .Mult => some .mul | .FloorDiv => some .fdiv | .Mod => some .mod | .Pow => some .pow
  | _ => none
def cCop : CmpOp → Option Cop
  | .Lt => some .lt | .LtE => some .le | .Gt => some .gt | .GtE => some .ge | .Eq => some .eq | .NotEq => some .ne | .Is => some .isn | .IsNot => some .notn | .In => some .inn | .NotIn => some .notin
def cBlt (x : Str) : Option Blt :=
  if x == ("len" : Str) then some .len else if x == ("all" : Str) then some .all else if x == ("any" : Str) then some .any else if x == ("int" : Str) then some .int else if x == ("list" : Str) then some .list else none
def cTy (cc : CC) : Expr → Option Ty
  | .Name x _ => if cc.gl x then (if x == ("int" : Str) then some .tint else if x == ("bool" : Str) then some .tbool else if x == ("str" : Str) then some .tstr else if x == ("list" : Str) then some .tlist else if x == ("tuple" : Str) then some .ttup else none) else none
  | _ => none
def cTys (cc : CC) : List Expr → Option (List Ty)
  | [] => some []
  | e :: r => match cTy cc e, cTys cc r with | some t, some ts => some (t :: ts) | _, _ => none
def noStar : Expr → Bool
  | .Starred _ _ => false
  | _ => true
def cTg : Nat → CC → Expr → Option Tg
  | 0, _, _ => none
  | _ + 1, cc, .Name x _ => if cc.loc x then (slot cc.N x).map .n else none
  | n + 1, cc, .Tuple es _ _ => (es.mapM (fun e => if noStar e then cTg n cc e else none)).map .t
  | _ + 1, _, _ => none
mutual
def tslots : Tg → List Nat
  | .n i => [i]
  | .t ts => tslotss ts
def tslotss : List Tg → List Nat
  | [] => []
  | t :: ts => tslots t ++ tslotss ts
end
def isTup : Expr → Bool
  | .Tuple _ _ _ => true
  | _ => false
/-- what a loop walks: its kind and sources -/
def cIter (cc : CC) (tg : Expr) : Expr → Option (Ik × List Expr)
  | .Call (.Name f p) args [] pos =>
    if cc.gl f && f == ("range" : Str) && args.length == 1 && args.all noStar then some (.rng1, args)
    else if cc.gl f && f == ("range" : Str) && args.length == 2 && args.all noStar then some (.rng2, args)
    else if cc.gl f && f == ("enumerate" : Str) && args.length == 1 && args.all noStar && isTup tg then some (.enum, args)
    else if cc.gl f && f == ("zip" : Str) && args.length == 2 && args.all noStar && isTup tg then some (.zip, args)
    else if f == ("range" : Str) || f == ("enumerate" : Str) || f == ("zip" : Str) then none
    else some (.seq, [.Call (.Name f p) args [] pos])
  | e => some (.seq, [e])
def noSet : Expr → Bool
  | .Set _ _ _ => false
  | _ => true
/-- the slots of a block's own names -/
def ownOf (N : List Str) (scope : Scope) : List (Str × Nat) := scope.names.filterMap fun (x, k) => if k == .local || k == .cell then (slot N x).map fun i => (x, i) else none
def isIf : Expr → Bool
  | .IfExp _ _ _ _ => true
  | _ => false
def opt2 (f : E → E → E) : Option E → Option E → Option E
  | some x, some y => some (f x y)
  | _, _ => none
theorem opt2_some {f : E → E → E} {a b : Option E} {r : E} (h : opt2 f a b = some r) : ∃ x y, a = some x ∧ b = some y ∧ r = f x y := by
  unfold opt2 at h
  split at h
  · cases h; exact ⟨_, _, rfl, rfl, rfl⟩
  · cases h
section
variable (sig : Str → Option (List Str)) (shp : Str → List (List Str))
def cE : Nat → CC → Expr → Option E
  | 0, _, _ => none
  | n + 1, cc, e =>
    match e with
    | .Name x _ => if cc.vis x then (slot cc.N x).map .var else if cc.gl x then some (.glob x) else none
    | .Constant (.int i) _ _ => some (.c (.int i))
    | .Constant (.bool i) _ _ => some (.c (.bl i))
    | .Constant .none _ _ => some (.c .non)
    | .Constant (.str i) _ _ => some (.c (.str i))
    | .BinOp a op b _ => match cBop op, cE n cc a, cE n cc b with | some o, some x, some y => some (.bin o x y) | _, _, _ => none
    | .UnaryOp .USub a _ => (cE n cc a).map .neg
    | .UnaryOp .Not a _ => if isIf a then none else (cE n cc a).map .not
    | .BoolOp _ [a] _ => if isIf a then none else cE n cc a
    | .BoolOp .And (a :: b :: r) pos => if isIf a then none else match cE n cc a, cE n cc (.BoolOp .And (b :: r) pos) with | some x, some y => some (.and x y) | _, _ => none
    | .BoolOp .Or (a :: b :: r) pos => if isIf a then none else match cE n cc a, cE n cc (.BoolOp .Or (b :: r) pos) with | some x, some y => some (.or x y) | _, _ => none
    | .Compare a [op] [b] _ => if behindInMarks op b then none else match cCop op, cE n cc a, cE n cc b with | some o, some x, some y => some (.cmp o x y) | _, _, _ => none
    | .Compare a [op, op'] [b, c] _ => if behindInMarks op b || behindInMarks op' c then none else match cCop op, cCop op', cE n cc a, cE n cc b, cE n cc c with | some o, some o', some x, some y, some z => some (.chain o o' x y z) | _, _, _, _, _ => none
    | .IfExp c a b _ => if isIf c then none else match cE n cc c, cE n cc a, cE n cc b with | some x, some y, some z => some (.ife x y z) | _, _, _ => none
    | .List es _ => if es.all noStar then (es.mapM (cE n cc)).map .lst else none
    | .Tuple es _ _ => if es.all noStar then (es.mapM (cE n cc)).map .tup else none
    | .Subscript a (.Slice lo hi none _) _ =>
      match cE n cc a, (match lo with | none => some none | some e => (cE n cc e).map some), (match hi with | none => some none | some e => (cE n cc e).map some) with
      | some x, some l, some h => some (.slice x l h)
      | _, _, _ => none
    | .Subscript a b _ => opt2 .idx (cE n cc a) (cE n cc b)
    | .Call (.Name f _) args kws _ =>
      if cc.gl f && args.all noStar then
        match sig f with
        | some ps =>
          if kws.all (fun k => k.arg.isSome) && (shp f).contains (kws.filterMap (·.arg)) then
            match args.mapM (cE n cc), kws.mapM (fun k => cE n cc k.value) with
            | some xs, some ys => some (.call f (xs ++ ys) (kws.filterMap (·.arg)))
            | _, _ => none
          else none
        | none => match kws with
          | [] =>
            if f == ("isinstance" : Str) then
              match args with
              | [a, .Tuple ts _ _] => match cE n cc a, cTys cc ts with | some x, some (t :: ts) => if (t :: ts).length ≤ 8 then some (.isi x (t :: ts)) else none | _, _ => none
              | [a, t] => match cE n cc a, cTy cc t with | some x, some t => some (.isi x [t]) | _, _ => none
              | _ => none
            else match cBlt f, args with
              | some b, _ :: _ => (args.mapM (cE n cc)).map (.blt b)
              | _, _ => none
          | _ => none
      else none
    | .Call (.Attribute o m apos) args kws pos => match o, args, kws with
      | .Constant (.str s) _ _, [x], [] => if m == ("join" : Str) && apos.endLine == pos.line && noStar x then (cE n cc x).map fun y => .join (.c (.str s)) y else none
      | _, _, _ => none
    | .ListComp elt [⟨tg, iter, ifs, a⟩] scope _ =>
      if a == 0 && ifs.length < 2 && blkC cc.N cc.sc scope (ownOf cc.N scope) && noSet iter && !(ifs.any isIf) then
        match cIter cc tg iter with
        | some (k, srcs) => match srcs.mapM (cE n cc), cTg n (cc.inner scope) tg, ifs.mapM (cE n (cc.inner scope)), cE n (cc.inner scope) elt with
          | some ss, some t, some is, some y => if (tslots t).all (fun i => ((ownOf cc.N scope).map (·.2)).contains i) then some (.lc ((ownOf cc.N scope).map (·.2)) k t ss is y) else none
          | _, _, _, _ => none
        | none => none
      else none
    | _ => none
end
end Lt

/-! Lt, part F: the readings of the small language are those of the text: names, operators, displays, calls. -/
namespace Lt
open PySem L2
/-- how errors lie, the module's constants, the defs' parameters, the keywords they are called with, the defs -/
structure Sy where
  XR : Wd → Value → Option Addr → Xc → Prop
  G : Str → Option D
  sig : Str → Option (List Str)
  shp : Str → List (List Str)
  call : Str → List D → Sto → R (D × Fl)
section
variable (K : PySem.W.Frag) (y : Sy)
/-- what a def promises -/
def spF (f : Str) (ps : List Str) : Sp := fun vs H Q E => ∃ wd st ds, wd.H = H ∧ SRel K st wd ∧ RepL K wd vs ds ∧ ds.length = ps.length ∧ Post K y.XR (fun c d _ H => E c d H) [] (JE K) (y.call f ds st) wd Q
structure Env1 (P : Program) (w : World) (mg : Str → Option Value) (base : Heap) (k : Nat) : Prop where
  hG : ∀ x d, y.G x = some d → ∃ v u, mg x = some u ∧ RelV v u ∧ ∀ wd, Rep K wd v d
  hC : ∀ f ps, y.sig f = some ps → ∃ a fd, FnOk P w K mg base (L2.CX P w) k a fd ps (spF K y f ps) ∧ mg f = some (.ref a) ∧ PySem.W.keepIn K (.ref a) = true ∧
    ∀ ks ∈ y.shp f, ∀ (s : Shared) (us us' : List Value), K.In s.heap → order ps ks us = some us' → BindsTo s fd ⟨us.take (us.length - ks.length), ks.zip (us.drop (us.length - ks.length))⟩ (ps.zip us')
  hB : ∀ x ∈ (["len", "all", "any", "int", "list", "isinstance", "bool", "str", "tuple", "range", "enumerate", "zip"] : List Str), mg x = none
variable (W : WX)
def tEv (il : E) : TE := fun σ H Q => ∃ Γ st wd, wd.H = H ∧ SR K Γ σ wd ∧ SRel K st wd ∧ Post K y.XR W σ (JE K) (ev y.G y.sig y.call Γ st il) wd Q
def tEvs (ils : List E) : TA := fun σ H Q => ∃ Γ st wd, wd.H = H ∧ SR K Γ σ wd ∧ SRel K st wd ∧ Post K y.XR W σ (JL K) (evs y.G y.sig y.call Γ st ils) wd Q
def tEvr (ils : List E) : TA := fun σ H Q => ∃ Γ st wd, wd.H = H ∧ SR K Γ σ wd ∧ SRel K st wd ∧ Post K y.XR W σ (JR K) (evr y.G y.sig y.call Γ st ils) wd Q
def tEvo (o : Option E) : TO := fun σ H Q => ∃ Γ st wd, wd.H = H ∧ SR K Γ σ wd ∧ SRel K st wd ∧ Post K y.XR W σ JQ (evo y.G y.sig y.call Γ st o) wd Q
end
structure Fit (X : Cx) (cc : CC) (k : Nat) : Prop where
  N : X.N = cc.N
  nd : X.N.Nodup
  sc : X.env.scope = cc.sc
  fn : ∀ x, cc.fnb x = true → X.fn x = true
  calm : X.calm = true
  room : Room k X.A
theorem pe_imp {X : Cx} {e : Expr} {t t' : TE} (h : PE X e t) (f : ∀ σ H Q, t' σ H Q → t σ H Q) : PE X e t' := ⟨fun pins s σ H Q I q => h.run pins s σ H Q I (f σ H Q q)⟩
theorem pt_imp {X : Cx} {e : Expr} {t t' : TT} (h : PT X e t) (f : ∀ σ H Q, t' σ H Q → t σ H Q) : PT X e t' := ⟨fun pins s σ H Q I q => h.run pins s σ H Q I (f σ H Q q)⟩
theorem pw_imp {X : Cx} {e : Expr} {t t' : TT} (h : PW X e t) (f : ∀ σ H Q, t' σ H Q → t σ H Q) : PW X e t' := ⟨fun wh pins s σ H Q I q => h.run wh pins s σ H Q I (f σ H Q q)⟩
theorem pa_imp {X : Cx} {e : List Expr} {t t' : TA} (h : PA X e t) (f : ∀ σ H Q, t' σ H Q → t σ H Q) : PA X e t' := ⟨fun pos pins s σ H Q I q => h.run pos pins s σ H Q I (f σ H Q q)⟩
theorem po_imp {X : Cx} {e : Option Expr} {t t' : TO} (h : PO X e t) (f : ∀ σ H Q, t' σ H Q → t σ H Q) : PO X e t' := ⟨fun pins s σ H Q I q => h.run pins s σ H Q I (f σ H Q q)⟩
theorem slot_ok {N : List Str} {x : Str} {i : Nat} (h : slot N x = some i) : N[i]? = some x := by
  unfold slot at h
  obtain ⟨h1, h2⟩ := List.findIdx?_eq_some_iff_getElem.mp h
  rw [List.getElem?_eq_getElem h1]
  have := h2.1
  simp only [beq_iff_eq] at this
  rw [this]
theorem Fit.vis {X : Cx} {cc : CC} {k : Nat} (F : Fit X cc k) {x : Str} (h : cc.vis x = true) : Vis X.env.scope x ∧ (x == ("__debug__" : Str)) = false ∧ (x == ("__classdict__" : Str)) = false := by
  unfold CC.vis CC.kind at h
  rw [← F.sc] at h
  simp only [Bool.and_eq_true, Bool.or_eq_true, beq_iff_eq, Bool.not_eq_true'] at h
  obtain ⟨⟨h1, h2⟩, h3⟩ := h
  refine ⟨?_, h2, h3⟩
  rcases h1 with (h1 | h1) | h1
  · exact .inl h1
  · exact .inr (.inl h1)
  · exact .inr (.inr h1)
theorem Fit.gl {X : Cx} {cc : CC} {k : Nat} (F : Fit X cc k) {x : Str} (h : cc.gl x = true) : Gl X x ∧ (x == ("__debug__" : Str)) = false ∧ x ≠ "__name__" := by
  unfold CC.gl CC.kind at h
  rw [← F.sc] at h
  simp only [Bool.and_eq_true, beq_iff_eq, Bool.not_eq_true'] at h
  exact ⟨h.1.1, h.1.2, fun z => by rw [z] at h; simp at h⟩
theorem star_cons {e : Expr} {es : List Expr} {env : PySem.Env} (h : noStar e = true) : starEach (e :: es) env = (false, eval e env) :: starEach es env := by
  cases e <;> first | rfl | (cases h)
theorem star_any {pos : Pos} {env : PySem.Env} : ∀ {es : List Expr}, es.all noStar = true → (backTo pos (starEach es env)).any (·.1) = false
  | [], _ => rfl
  | e :: es, h => by
    simp only [List.all_cons, Bool.and_eq_true] at h
    rw [star_cons h.1]
    show (false || (backTo pos (starEach es env)).any (·.1)) = false
    rw [star_any h.2]
    rfl
theorem post_out {K : PySem.W.Frag} {XR : Wd → Value → Option Addr → Xc → Prop} {W : WX} {σ : L2.St} {α β : Type} {J : Wd → Wd → β → α → Prop} {a : α} {st : Sto} {w : Wd} {Q : β → Hp → Prop} {b : β} (h : Post K XR W σ J (.ok a st) w Q) (s : SRel K st w) (j : J w w b a) : Q b w.H := h b w (.refl w) s j
section
variable {X : Cx} {y : Sy} {W : WX}
theorem so_var {i : Nat} {x : Str} {pos : Pos} (hN : X.N[i]? = some x) (hv : Vis X.env.scope x) (h1 : (x == ("__debug__" : Str)) = false) (h2 : (x == ("__classdict__" : Str)) = false) : PE X (.Name x pos) (tEv X.K y W (.var i)) :=
  pe_imp (pe_var hN hv h1 h2) fun σ H Q ⟨Γ, st, wd, e, sr, s, p⟩ => by
    subst e
    simp only [ev] at p
    split at p
    · rename_i d o q
      cases o with
      | false =>
        obtain ⟨v, h1, h2⟩ := sr.sh i d q
        exact ⟨v, h1, post_out p s h2⟩
      | true =>
        obtain ⟨a, ds, h1, h2, h3⟩ := sr.own i d q
        exact ⟨_, h1, post_out p s ⟨a, ds, rfl, h2, h3⟩⟩
    · exact p.elim
theorem so_const {e : Expr} {v : V} {d : D} (h : PE X e (tC v)) (r : ∀ wd, Rep X.K wd v d) : PE X e (tEv X.K y W (.c d)) :=
  pe_imp h fun σ H Q ⟨Γ, st, wd, e, sr, s, p⟩ => by
    subst e
    exact post_out p s (r wd)
theorem so_glob {x : Str} {v : V} {e : Expr} {d : D} (h : PE X e (tC v)) (hg : y.G x = some d) (r : ∀ wd, Rep X.K wd v d) : PE X e (tEv X.K y W (.glob x)) :=
  pe_imp h fun σ H Q ⟨Γ, st, wd, e, sr, s, p⟩ => by
    subst e
    simp only [ev, hg, Option.map_some, ofO] at p
    exact post_out p s (r wd)
/-- the next step's start -/
theorem tEv_go {il : E} {Γ : Env} {st : Sto} {wd w1 : Wd} {st1 : Sto} {σ : L2.St} {Q : VK} (sr : SR X.K Γ σ wd) (s : SRel X.K st wd) (e : Eff wd w1) (s1 : SRel X.K st1 w1) (p : Post X.K y.XR W σ (JE X.K) (ev y.G y.sig y.call Γ st1 il) w1 Q) : tEv X.K y W il σ w1.H Q :=
  ⟨Γ, st1, w1, rfl, sr.eff s e, s1, p⟩
theorem so_bin {a b : Expr} {op : Bop} {x z : E} {pos : Pos} (ha : PE X a (tEv X.K y W x)) (hb : PE X b (tEv X.K y W z)) : PE X (.BinOp a (bopOf op) b pos) (tEv X.K y W (.bin op x z)) :=
  pe_imp (pe_op (opr_bin op) ha hb) fun σ H Q ⟨Γ, st, wd, e, sr, s, p⟩ => by
    subst e
    simp only [ev] at p
    refine ⟨Γ, st, wd, rfl, sr, s, (p.bind (J1 := JE X.K) bm_E).imp ?_⟩
    rintro v1 H1 ⟨d1, st1, w1, rfl, e1, s1, t1, p1, _⟩
    refine ⟨Γ, st1, w1, rfl, sr.eff s e1, s1, (p1.bind (J1 := JE X.K) bm_E).imp ?_⟩
    rintro v2 H2 ⟨d2, st2, w2, rfl, e2, s2, t2, p2, _⟩
    obtain ⟨r, h1, h2⟩ := post_ofO p2
    exact bin_ok s2 (t1.rdv.eff s1 e2) t2.rdv h1 h2
theorem so_neg {a : Expr} {x : E} {pos : Pos} (ha : PE X a (tEv X.K y W x)) : PE X (.UnaryOp .USub a pos) (tEv X.K y W (.neg x)) :=
  pe_imp (pe_un un_neg ha) fun σ H Q ⟨Γ, st, wd, e, sr, s, p⟩ => by
    subst e
    simp only [ev] at p
    refine ⟨Γ, st, wd, rfl, sr, s, (p.bind (J1 := JE X.K) bm_E).imp ?_⟩
    rintro v1 H1 ⟨d1, st1, w1, rfl, e1, s1, t1, p1, _⟩
    split at p1
    · rename_i i q
      have t1 := t1.rdv
      rw [q] at t1
      cases t1.int
      exact ⟨i, rfl, post_out p1 s1 (.int _)⟩
    · exact p1.elim
theorem cmp_post {op : Cop} {st : Sto} {w : Wd} {σ : L2.St} {d1 d2 : D} {Q : VK} (h : Post X.K y.XR W σ (JE X.K) (ofO ((cmpF op d1 d2).map fun r => (D.bl r, Fl.sh)) st) w Q) : ∃ b, cmpF op d1 d2 = some b ∧ Post X.K y.XR W σ (JE X.K) (.ok (.bl b, .sh) st) w Q := by
  cases q : cmpF op d1 d2 with
  | none => rw [q] at h; exact h.elim
  | some b => rw [q] at h; exact ⟨b, rfl, h⟩
theorem rd_cmp {op : Cop} {x z : E} {σ : L2.St} {H : Hp} {Q : VK} (h : tEv X.K y W (.cmp op x z) σ H Q) : tOp (rCmp X.K op) (tEv X.K y W x) (tEv X.K y W z) σ H Q := by
  obtain ⟨Γ, st, wd, e, sr, s, p⟩ := h
  subst e
  simp only [ev] at p
  refine ⟨Γ, st, wd, rfl, sr, s, (p.bind (J1 := JE X.K) bm_E).imp ?_⟩
  rintro v1 H1 ⟨d1, st1, w1, rfl, e1, s1, t1, p1, _⟩
  refine ⟨Γ, st1, w1, rfl, sr.eff s e1, s1, (p1.bind (J1 := JE X.K) bm_E).imp ?_⟩
  rintro v2 H2 ⟨d2, st2, w2, rfl, e2, s2, t2, p2, _⟩
  obtain ⟨b, h1, h2⟩ := cmp_post p2
  exact cmp_ok (t1.rdv.eff s1 e2) t2.rdv h1 (post_out h2 s2 (.bl b))
theorem rd_chain {op op' : Cop} {x z u : E} {σ : L2.St} {H : Hp} {Q : VK} (h : tEv X.K y W (.chain op op' x z u) σ H Q) : tChain (rCmp X.K op) (rCmp X.K op') (tEv X.K y W x) (tEv X.K y W z) (tEv X.K y W u) σ H Q := by
  obtain ⟨Γ, st, wd, e, sr, s, p⟩ := h
  subst e
  simp only [ev] at p
  refine ⟨Γ, st, wd, rfl, sr, s, (p.bind (J1 := JE X.K) bm_E).imp ?_⟩
  rintro v1 H1 ⟨d1, st1, w1, rfl, e1, s1, t1, p1, _⟩
  refine ⟨Γ, st1, w1, rfl, sr.eff s e1, s1, (p1.bind (J1 := JE X.K) bm_E).imp ?_⟩
  rintro v2 H2 ⟨d2, st2, w2, rfl, e2, s2, t2, p2, _⟩
  split at p2
  · rename_i q
    exact cmp_ok (t1.rdv.eff s1 e2) t2.rdv q ⟨false, rfl, post_out p2 s2 (.bl _)⟩
  · rename_i q
    refine cmp_ok (t1.rdv.eff s1 e2) t2.rdv q ⟨true, rfl, ?_⟩
    show tEv X.K y W u σ w2.H _
    refine ⟨Γ, st2, w2, rfl, (sr.eff s e1).eff s1 e2, s2, (p2.bind (J1 := JE X.K) bm_E).imp ?_⟩
    rintro v3 H3 ⟨d3, st3, w3, rfl, e3, s3, t3, p3, _⟩
    obtain ⟨b, h1, h2⟩ := cmp_post p3
    exact cmp_ok (t2.rdv.eff s2 e3) t3.rdv h1 (post_out h2 s3 (.bl b))
  · exact p2.elim
theorem rd_and {x z : E} {σ : L2.St} {H : Hp} {Q : VK} (h : tEv X.K y W (.and x z) σ H Q) : tAndV (tEv X.K y W x) (tEv X.K y W z) σ H Q := by
  obtain ⟨Γ, st, wd, e, sr, s, p⟩ := h
  subst e
  simp only [ev] at p
  refine ⟨Γ, st, wd, rfl, sr, s, (p.bind (J1 := JE X.K) bm_E).imp ?_⟩
  rintro v1 H1 ⟨d1, st1, w1, rfl, e1, s1, t1, p1, _⟩
  have t1 := t1.rdv
  split at p1
  · rename_i q
    rw [q] at t1
    exact ⟨false, t1.bl, post_out p1 s1 (.bl _)⟩
  · rename_i q
    rw [q] at t1
    exact ⟨true, t1.bl, tEv_go sr s e1 s1 p1⟩
  · exact p1.elim
theorem rd_or {x z : E} {σ : L2.St} {H : Hp} {Q : VK} (h : tEv X.K y W (.or x z) σ H Q) : tOrV (tEv X.K y W x) (tEv X.K y W z) σ H Q := by
  obtain ⟨Γ, st, wd, e, sr, s, p⟩ := h
  subst e
  simp only [ev] at p
  refine ⟨Γ, st, wd, rfl, sr, s, (p.bind (J1 := JE X.K) bm_E).imp ?_⟩
  rintro v1 H1 ⟨d1, st1, w1, rfl, e1, s1, t1, p1, _⟩
  have t1 := t1.rdv
  split at p1
  · rename_i q
    rw [q] at t1
    exact ⟨true, t1.bl, post_out p1 s1 (.bl _)⟩
  · rename_i q
    rw [q] at t1
    exact ⟨false, t1.bl, tEv_go sr s e1 s1 p1⟩
  · exact p1.elim
theorem rd_not {x : E} {σ : L2.St} {H : Hp} {Q : VK} (h : tEv X.K y W (.not x) σ H Q) : tNotV (tEv X.K y W x) σ H Q := by
  obtain ⟨Γ, st, wd, e, sr, s, p⟩ := h
  subst e
  simp only [ev] at p
  refine ⟨Γ, st, wd, rfl, sr, s, (p.bind (J1 := JE X.K) bm_E).imp ?_⟩
  rintro v1 H1 ⟨d1, st1, w1, rfl, e1, s1, t1, p1, _⟩
  have t1 := t1.rdv
  split at p1
  · rename_i b q
    rw [q] at t1
    exact ⟨b, t1.bl, post_out p1 s1 (.bl _)⟩
  · exact p1.elim
theorem rd_ife {c x z : E} {σ : L2.St} {H : Hp} {Q : VK} (h : tEv X.K y W (.ife c x z) σ H Q) : tIf (tTest (tEv X.K y W c)) (tEv X.K y W x) (tEv X.K y W z) σ H Q := by
  obtain ⟨Γ, st, wd, e, sr, s, p⟩ := h
  subst e
  simp only [ev] at p
  refine ⟨Γ, st, wd, rfl, sr, s, (p.bind (J1 := JE X.K) bm_E).imp ?_⟩
  rintro v1 H1 ⟨d1, st1, w1, rfl, e1, s1, t1, p1, _⟩
  have t1 := t1.rdv
  split at p1
  · rename_i q
    rw [q] at t1
    exact ⟨true, t1.bl, tEv_go sr s e1 s1 p1⟩
  · rename_i q
    rw [q] at t1
    exact ⟨false, t1.bl, tEv_go sr s e1 s1 p1⟩
  · exact p1.elim
/-- tests by truth of the same values -/
theorem rd_tand {x z : E} {σ : L2.St} {H : Hp} {Q : Bool → Hp → Prop} (h : tTest (tEv X.K y W (.and x z)) σ H Q) : tAnd (tTest (tEv X.K y W x)) (tTest (tEv X.K y W z)) σ H Q := by
  obtain ⟨Γ, st, wd, e, sr, s, p⟩ := rd_and h
  refine ⟨Γ, st, wd, e, sr, s, p.imp ?_⟩
  rintro v1 H1 ⟨c, rfl, q⟩
  refine ⟨c, rfl, ?_⟩
  cases c with
  | true => exact q
  | false =>
    obtain ⟨k, ek, q⟩ := q
    cases ek
    exact q
theorem rd_tor {x z : E} {σ : L2.St} {H : Hp} {Q : Bool → Hp → Prop} (h : tTest (tEv X.K y W (.or x z)) σ H Q) : tOr (tTest (tEv X.K y W x)) (tTest (tEv X.K y W z)) σ H Q := by
  obtain ⟨Γ, st, wd, e, sr, s, p⟩ := rd_or h
  refine ⟨Γ, st, wd, e, sr, s, p.imp ?_⟩
  rintro v1 H1 ⟨c, rfl, q⟩
  refine ⟨c, rfl, ?_⟩
  cases c with
  | false => exact q
  | true =>
    obtain ⟨k, ek, q⟩ := q
    cases ek
    exact q
theorem rd_tnot {x : E} {σ : L2.St} {H : Hp} {Q : Bool → Hp → Prop} (h : tTest (tEv X.K y W (.not x)) σ H Q) : tNot (tTest (tEv X.K y W x)) σ H Q := by
  obtain ⟨Γ, st, wd, e, sr, s, p⟩ := rd_not h
  refine ⟨Γ, st, wd, e, sr, s, p.imp ?_⟩
  rintro v1 H1 ⟨c, rfl, k, ek, q⟩
  cases ek
  exact ⟨c, rfl, q⟩
/-! ### lists of values -/
theorem rd_evs_cons {il : E} {ils : List E} {σ : L2.St} {H : Hp} {Q : List V → Hp → Prop} (h : tEvs X.K y W (il :: ils) σ H Q) : tEv X.K y W il σ H fun v H1 => tEvs X.K y W ils σ H1 fun vs H2 => Q (v :: vs) H2 := by
  obtain ⟨Γ, st, wd, rfl, sr, s, p⟩ := h
  simp only [evs] at p
  refine ⟨Γ, st, wd, rfl, sr, s, (p.bind (J1 := JE X.K) bm_L).imp ?_⟩
  rintro v1 H1 ⟨⟨d1, f1⟩, st1, w1, rfl, e1, s1, t1, _, p1, _⟩
  split at p1
  · exact p1.elim
  · rename_i nb
    obtain ⟨w2, hH, hφ, e2, fz, s2, r2⟩ := t1.share s1 e1 nb
    refine ⟨Γ, st1, w2, hH, sr.eff s e2, s2, ((p1.base bm_L e2).bind (J1 := JL X.K) bm_L).imp ?_⟩
    rintro vs H2 ⟨ds, st3, w3, rfl, e3, s3, t3, p3, _⟩
    exact post_out (b := v1 :: vs) p3 s3 (.cons (r2.fz (e3.fz s2)) t3)
theorem rd_evs_nil {σ : L2.St} {H : Hp} {Q : List V → Hp → Prop} (h : tEvs X.K y W [] σ H Q) : Q [] H := by
  obtain ⟨Γ, st, wd, rfl, sr, s, p⟩ := h
  simp only [evs] at p
  exact post_out (b := []) p s .nil
theorem so_evs : ∀ {es : List Expr} {ils : List E}, es.all noStar = true → (∀ p ∈ es.zip ils, PE X p.1 (tEv X.K y W p.2)) → es.length = ils.length → PA X es (tEvs X.K y W ils)
  | [], [], _, _, _ => pa_imp pa_nil fun σ H Q ⟨Γ, st, wd, e, sr, s, p⟩ => by
    subst e
    simp only [evs] at p
    exact post_out (b := []) p s .nil
  | e :: es, il :: ils, hs, h, hl => by
    simp only [List.all_cons, Bool.and_eq_true] at hs
    refine pa_imp (pa_cons (h (e, il) List.mem_cons_self) (so_evs hs.2 (fun p hp => h p (List.mem_cons_of_mem _ hp)) (Nat.succ.inj hl)) (star_cons hs.1)) ?_
    rintro σ H Q ⟨Γ, st, wd, rfl, sr, s, p⟩
    simp only [evs] at p
    refine ⟨Γ, st, wd, rfl, sr, s, (p.bind (J1 := JE X.K) bm_L).imp ?_⟩
    rintro v1 H1 ⟨⟨d1, f1⟩, st1, w1, rfl, e1, s1, t1, _, p1, _⟩
    split at p1
    · exact p1.elim
    · rename_i nb
      obtain ⟨w2, hH, hφ, e2, fz, s2, r2⟩ := t1.share s1 e1 nb
      refine ⟨Γ, st1, w2, hH, sr.eff s e2, s2, ((p1.base bm_L e2).bind (J1 := JL X.K) bm_L).imp ?_⟩
      rintro vs H2 ⟨ds, st3, w3, rfl, e3, s3, t3, p3, _⟩
      exact post_out (b := v1 :: vs) p3 s3 (.cons (r2.fz (e3.fz s2)) t3)
  | [], _ :: _, _, _, hl => by cases hl
  | _ :: _, [], _, _, hl => by cases hl
theorem so_evr : ∀ {es : List Expr} {ils : List E}, es.all noStar = true → (∀ p ∈ es.zip ils, PE X p.1 (tEv X.K y W p.2)) → es.length = ils.length → PA X es (tEvr X.K y W ils)
  | [], [], _, _, _ => pa_imp pa_nil fun σ H Q ⟨Γ, st, wd, e, sr, s, p⟩ => by
    subst e
    simp only [evr] at p
    exact post_out (b := []) p s .nil
  | e :: es, il :: ils, hs, h, hl => by
    simp only [List.all_cons, Bool.and_eq_true] at hs
    refine pa_imp (pa_cons (h (e, il) List.mem_cons_self) (so_evr hs.2 (fun p hp => h p (List.mem_cons_of_mem _ hp)) (Nat.succ.inj hl)) (star_cons hs.1)) ?_
    rintro σ H Q ⟨Γ, st, wd, rfl, sr, s, p⟩
    simp only [evr] at p
    refine ⟨Γ, st, wd, rfl, sr, s, (p.bind (J1 := JE X.K) bm_R).imp ?_⟩
    rintro v1 H1 ⟨d1, st1, w1, rfl, e1, s1, t1, p1, _⟩
    refine ⟨Γ, st1, w1, rfl, sr.eff s e1, s1, (p1.bind (J1 := JR X.K) bm_R).imp ?_⟩
    rintro vs H2 ⟨ds, st3, w3, rfl, e3, s3, t3, p3, _⟩
    exact post_out (b := v1 :: vs) p3 s3 (.cons (t1.rdv.eff s1 e3) t3)
  | [], _ :: _, _, _, hl => by cases hl
  | _ :: _, [], _, _, hl => by cases hl
/-! ### displays, items, slices, built-ins -/
theorem so_lst {es : List Expr} {ils : List E} {pos : Pos} (h : PA X es (tEvs X.K y W ils)) : PE X (.List es pos) (tEv X.K y W (.lst ils)) :=
  pe_imp (pe_lst h) fun σ H Q ⟨Γ, st, wd, e, sr, s, p⟩ => by
    subst e
    simp only [ev] at p
    refine ⟨Γ, st, wd, rfl, sr, s, (p.bind (J1 := JL X.K) bm_E).imp ?_⟩
    rintro vs H1 ⟨ds, st1, w1, rfl, e1, s1, t1, p1, _⟩
    split at p1
    · rename_i hz
      exact ⟨by rw [RepL.length t1]; exact hz, fun q hq => p1 _ _ (eff_laidM hq) (s1.laidM hq) (own_new s1 hq t1)⟩
    · exact p1.elim
theorem so_tup {es : List Expr} {ils : List E} {k : Nat} {pos : Pos} (h : PA X es (tEvs X.K y W ils)) : PE X (.Tuple es k pos) (tEv X.K y W (.tup ils)) :=
  pe_imp (pe_tup h) fun σ H Q ⟨Γ, st, wd, e, sr, s, p⟩ => by
    subst e
    simp only [ev] at p
    refine ⟨Γ, st, wd, rfl, sr, s, (p.bind (J1 := JL X.K) bm_E).imp ?_⟩
    rintro vs H1 ⟨ds, st1, w1, rfl, e1, s1, t1, p1, _⟩
    split at p1
    · rename_i hz
      exact ⟨by rw [RepL.length t1]; exact hz, fun q hq => p1 _ _ (eff_laid hq) (s1.laid hq) (tup_new s1 hq t1)⟩
    · exact p1.elim
theorem so_idx {a b : Expr} {x z : E} {pos : Pos} (ha : PE X a (tEv X.K y W x)) (hb : PE X b (tEv X.K y W z)) (hs : PlainIx b) : PE X (.Subscript a b pos) (tEv X.K y W (.idx x z)) :=
  pe_imp (pe_ix ixr_idx ha hb hs) fun σ H Q ⟨Γ, st, wd, e, sr, s, p⟩ => by
    subst e
    simp only [ev] at p
    refine ⟨Γ, st, wd, rfl, sr, s, (p.bind (J1 := JE X.K) bm_E).imp ?_⟩
    rintro v1 H1 ⟨d1, st1, w1, rfl, e1, s1, t1, p1, _⟩
    refine ⟨Γ, st1, w1, rfl, sr.eff s e1, s1, (p1.bind (J1 := JE X.K) bm_E).imp ?_⟩
    rintro v2 H2 ⟨d2, st2, w2, rfl, e2, s2, t2, p2, _⟩
    obtain ⟨r, h1, h2⟩ := post_ofO p2
    cases q1 : deref st2 d1.1 with
    | none => rw [q1] at h1; cases h1
    | some d =>
      rw [q1, Option.bind_some] at h1
      cases q2 : idxF d d2.1 with
      | none => rw [q2] at h1; cases h1
      | some r' =>
        rw [q2] at h1
        cases h1
        exact idx_ok s2 (t1.rdv.eff s1 e2) t2.rdv q1 q2 h2
theorem so_evo_none : PO X none (tEvo X.K y W none) := po_imp po_none fun σ H Q ⟨Γ, st, wd, e, sr, s, p⟩ => by
  subst e
  simp only [evo] at p
  exact post_out (b := none) p s rfl
theorem so_evo_some {e : Expr} {x : E} (h : PE X e (tEv X.K y W x)) : PO X (some e) (tEvo X.K y W (some x)) := po_imp (po_some h) fun σ H Q ⟨Γ, st, wd, e, sr, s, p⟩ => by
  subst e
  simp only [evo] at p
  refine ⟨Γ, st, wd, rfl, sr, s, (p.bind (J1 := JE X.K) bm_Q).imp ?_⟩
  rintro v1 H1 ⟨d1, st1, w1, rfl, e1, s1, t1, p1, _⟩
  split at p1
  · rename_i i q
    have t1 := t1.rdv
    rw [q] at t1
    exact ⟨i, t1.int, post_out (b := some i) p1 s1 rfl⟩
  · exact p1.elim
theorem so_slice {a : Expr} {lo hi : Option Expr} {x : E} {l h : Option E} {pos p2 : Pos} (ha : PE X a (tEv X.K y W x)) (hl : PO X lo (tEvo X.K y W l)) (hh : PO X hi (tEvo X.K y W h)) : PE X (.Subscript a (.Slice lo hi none p2) pos) (tEv X.K y W (.slice x l h)) :=
  pe_imp (pe_slice slr_slice ha hl hh) fun σ H Q ⟨Γ, st, wd, e, sr, s, p⟩ => by
    subst e
    simp only [ev] at p
    refine ⟨Γ, st, wd, rfl, sr, s, (p.bind (J1 := JE X.K) bm_E).imp ?_⟩
    rintro v1 H1 ⟨d1, st1, w1, rfl, e1, s1, t1, p1, _⟩
    refine ⟨Γ, st1, w1, rfl, sr.eff s e1, s1, (p1.bind (J1 := JQ) bm_E).imp ?_⟩
    rintro v2 H2 ⟨d2, st2, w2, rfl, e2, s2, t2, p2, _⟩
    refine ⟨Γ, st2, w2, rfl, (sr.eff s e1).eff s1 e2, s2, (p2.bind (J1 := JQ) bm_E).imp ?_⟩
    rintro v3 H3 ⟨d3, st3, w3, rfl, e3, s3, t3, p3, _⟩
    cases t2
    cases t3
    obtain ⟨r, h1, h2⟩ := post_ofO p3
    exact slice_ok s3 ((t1.rdv.eff s1 e2).eff s2 e3) h1 h2
theorem rd_blt {b : Blt} {ils : List E} {σ : L2.St} {H : Hp} {Q : VK} (h : tEv X.K y W (.blt b ils) σ H Q) : tCB (rBlt X.K b) (tEvr X.K y W ils) σ H Q := by
  obtain ⟨Γ, st, wd, e, sr, s, p⟩ := h
  subst e
  simp only [ev] at p
  refine ⟨Γ, st, wd, rfl, sr, s, (p.bind (J1 := JR X.K) bm_E).imp ?_⟩
  rintro vs H1 ⟨ds, st1, w1, rfl, e1, s1, t1, p1, _⟩
  obtain ⟨r, h1, h2⟩ := post_ofO p1
  exact blt_ok s1 t1 h1 h2
theorem so_join {s : Str} {e : Expr} {x : E} {k : Nat} {p0 apos pos : Pos} (he : PE X e (tEv X.K y W x)) (hs : noStar e = true) (hline : (apos.endLine == pos.line) = true) :
    PE X (.Call (.Attribute (.Constant (.str s) k p0) "join" apos) [e] [] pos) (tEv X.K y W (.join (.c (.str s)) x)) :=
  pe_imp (pe_join pe_str he (star_cons hs) rfl hline) fun σ H Q ⟨Γ, st, wd, e, sr, s, p⟩ => by
    subst e
    simp only [ev, R.bind_ok] at p
    refine ⟨⟨_, rfl⟩, Γ, st, wd, rfl, sr, s, (p.bind (J1 := JE X.K) bm_E).imp ?_⟩
    rintro v1 H1 ⟨d1, st1, w1, rfl, e1, s1, t1, p1, _⟩
    obtain ⟨r, h1, h2⟩ := post_ofO p1
    cases q : joinF (.str ‹Str›) d1.1 with
    | none => rw [q] at h1; cases h1
    | some r' =>
      rw [q] at h1
      cases h1
      exact join_ok s1 (.inl (.str _)) t1.rdv q h2
end
end Lt

/-! Lt, part G: targets, what a loop walks, calls of defs, isinstance. -/
namespace Lt
open PySem L2
section
variable {K : PySem.W.Frag}
theorem wipe_in {σ : L2.St} {i : Nat} : ∀ {vs : List Nat}, i ∈ vs → i < σ.length → (wipe σ vs)[i]? = some none
  | v :: vs, h, hl => by
    unfold wipe
    by_cases e : v = i
    · subst e
      rw [List.getElem?_set_self (by rw [wipe_length]; exact hl)]
    · rw [List.getElem?_set_ne e]
      exact wipe_in ((List.mem_cons.mp h).resolve_left fun z => e z.symm) hl
theorem wipe_set {σ : L2.St} {i : Nat} {x : Option V} {vs : List Nat} (h : i ∈ vs) : wipe (σ.set i x) vs = wipe σ vs := by
  refine List.ext_getElem? fun j => ?_
  by_cases hj : j ∈ vs
  · by_cases hl : j < σ.length
    · rw [wipe_in hj hl, wipe_in hj (by rw [List.length_set]; exact hl)]
    · rw [List.getElem?_eq_none (by rw [wipe_length, List.length_set]; omega), List.getElem?_eq_none (by rw [wipe_length]; omega)]
  · rw [wipe_out hj, wipe_out hj, List.getElem?_set_ne (show i ≠ j from fun z => hj (z ▸ h))]
theorem wipe_idem {σ : L2.St} {vs : List Nat} : wipe (wipe σ vs) vs = wipe σ vs := by
  refine List.ext_getElem? fun j => ?_
  by_cases hj : j ∈ vs
  · by_cases hl : j < σ.length
    · rw [wipe_in hj hl, wipe_in hj (by rw [wipe_length]; exact hl)]
    · rw [List.getElem?_eq_none (by rw [wipe_length, wipe_length]; omega), List.getElem?_eq_none (by rw [wipe_length]; omega)]
  · rw [wipe_out hj]
theorem SR.set {Γ : Env} {σ : L2.St} {w : Wd} {i : Nat} {v : V} {d : D} (h : SR K Γ σ w) (r : Rep K w v d) : SR K (Γ.set i (some (d, false))) (σ.set i (some v)) w := by
  refine ⟨by rw [List.length_set, List.length_set]; exact h.len, fun j e q => ?_, fun j e q => ?_, fun j k e f a q1 q2 q3 q4 => ?_⟩
  · by_cases hj : i = j
    · subst hj
      by_cases hl : i < Γ.length
      · rw [List.getElem?_set_self hl] at q
        cases q
        exact ⟨v, List.getElem?_set_self (by rw [← h.len]; exact hl), r⟩
      · rw [List.getElem?_eq_none (by rw [List.length_set]; omega)] at q
        cases q
    · rw [List.getElem?_set_ne hj] at q ⊢
      exact h.sh j e q
  · by_cases hj : i = j
    · subst hj
      by_cases hl : i < Γ.length
      · rw [List.getElem?_set_self hl] at q
        cases q
      · rw [List.getElem?_eq_none (by rw [List.length_set]; omega)] at q
        cases q
    · rw [List.getElem?_set_ne hj] at q ⊢
      exact h.own j e q
  · have ne : ∀ {j : Nat} {e : D}, (Γ.set i (some (d, false)))[j]? = some (some (e, true)) → i ≠ j := fun {j e} q z => by
      subst z
      by_cases hl : i < Γ.length
      · rw [List.getElem?_set_self hl] at q
        cases q
      · rw [List.getElem?_eq_none (by rw [List.length_set]; omega)] at q
        cases q
    have n1 := ne q1
    have n2 := ne q2
    rw [List.getElem?_set_ne n1] at q1 q3
    rw [List.getElem?_set_ne n2] at q2 q4
    exact h.inj j k e f a q1 q2 q3 q4
theorem SR.unset {Γ : Env} {σ : L2.St} {w : Wd} {i : Nat} (h : SR K Γ σ w) {x : Option V} : SR K (Γ.set i none) (σ.set i x) w := by
  have ne : ∀ {j : Nat} {e : D × Bool}, (Γ.set i none)[j]? = some (some e) → i ≠ j := fun {j e} q z => by
    subst z
    by_cases hl : i < Γ.length
    · rw [List.getElem?_set_self hl] at q
      cases q
    · rw [List.getElem?_eq_none (by rw [List.length_set]; omega)] at q
      cases q
  refine ⟨by rw [List.length_set, List.length_set]; exact h.len, fun j e q => ?_, fun j e q => ?_, fun j k e f a q1 q2 q3 q4 => ?_⟩
  · have n := ne q
    rw [List.getElem?_set_ne n] at q ⊢
    exact h.sh j e q
  · have n := ne q
    rw [List.getElem?_set_ne n] at q ⊢
    exact h.own j e q
  · have n1 := ne q1
    have n2 := ne q2
    rw [List.getElem?_set_ne n1] at q1 q3
    rw [List.getElem?_set_ne n2] at q2 q4
    exact h.inj j k e f a q1 q2 q3 q4
theorem SR.wipe {Γ : Env} {σ : L2.St} {w : Wd} (h : SR K Γ σ w) : ∀ vs : List Nat, SR K (wipeE Γ vs) (L2.wipe σ vs) w
  | [] => h
  | v :: vs => (SR.wipe h vs).unset
end
/-- what is owned behind it was owned before -/
def KeepOwn (Γ : Env) (σ : L2.St) (Γ' : Env) (σ' : L2.St) : Prop := ∀ (j : Nat) d, Γ'[j]? = some (some (d, true)) → Γ[j]? = some (some (d, true)) ∧ σ'[j]? = σ[j]?
theorem KeepOwn.refl (Γ : Env) (σ : L2.St) : KeepOwn Γ σ Γ σ := fun _ _ h => ⟨h, rfl⟩
theorem KeepOwn.trans {Γ Γ1 Γ2 : Env} {σ σ1 σ2 : L2.St} (a : KeepOwn Γ σ Γ1 σ1) (b : KeepOwn Γ1 σ1 Γ2 σ2) : KeepOwn Γ σ Γ2 σ2 := fun j d h => ⟨(a j d (b j d h).1).1, (b j d h).2.trans (a j d (b j d h).1).2⟩
theorem KeepOwn.set {Γ : Env} {σ : L2.St} {i : Nat} {v : V} {d : D} : KeepOwn Γ σ (Γ.set i (some (d, false))) (σ.set i (some v)) := fun j e h => by
  by_cases hj : i = j
  · subst hj
    by_cases hl : i < Γ.length
    · rw [List.getElem?_set_self hl] at h
      cases h
    · rw [List.getElem?_eq_none (by rw [List.length_set]; omega)] at h
      cases h
  · rw [List.getElem?_set_ne hj] at h ⊢
    exact ⟨h, rfl⟩
section
variable (K : PySem.W.Frag)
def gB (t : Tg) : TG := fun v σ H Q => ∃ Γ wd d Γ', wd.H = H ∧ SR K Γ σ wd ∧ Rep K wd v d ∧ bindT Γ t d = some Γ' ∧ ∀ σ', SR K Γ' σ' wd → (∀ us, (∀ i ∈ tslots t, i ∈ us) → wipe σ' us = wipe σ us) → KeepOwn Γ σ Γ' σ' → Q σ' H
def gBs (ts : List Tg) : TGs := fun vs σ H Q => ∃ Γ wd ds Γ', wd.H = H ∧ SR K Γ σ wd ∧ RepL K wd vs ds ∧ bindTs Γ ts ds = some Γ' ∧ ∀ σ', SR K Γ' σ' wd → (∀ us, (∀ i ∈ tslotss ts, i ∈ us) → wipe σ' us = wipe σ us) → KeepOwn Γ σ Γ' σ' → Q σ' H
end
theorem pg_imp {X : Cx} {e : Expr} {t t' : TG} (h : PG X e t) (f : ∀ v σ H Q, t' v σ H Q → t v σ H Q) : PG X e t' := ⟨fun pins s σ H v u Q I r q => h.run pins s σ H v u Q I r (f v σ H Q q)⟩
theorem pgs_imp {X : Cx} {e : List Expr} {t t' : TGs} (h : PGs X e t) (f : ∀ v σ H Q, t' v σ H Q → t v σ H Q) : PGs X e t' := ⟨fun pins s σ H v u Q I r q => h.run pins s σ H v u Q I r (f v σ H Q q)⟩
theorem pi_imp {X : Cx} {tg e : Expr} {t t' : TI} (h : PI X tg e t) (f : ∀ σ H Q, t' σ H Q → t σ H Q) : PI X tg e t' := ⟨fun pins s σ H Q I q => h.run pins s σ H Q I (f σ H Q q)⟩
section
variable {X : Cx} {cc : CC} {k : Nat}
theorem Fit.loc (F : Fit X cc k) {x : Str} (h : cc.loc x = true) : Loc X.env.scope x ∧ (X.fn x = true ∨ X.env.scope.names.lookup x = some .local) := by
  unfold CC.loc CC.kind at h
  rw [← F.sc] at h
  simp only [Bool.and_eq_true, Bool.or_eq_true, beq_iff_eq] at h
  rcases h with h | ⟨h, f⟩
  · exact ⟨.inl h, .inr h⟩
  · exact ⟨.inr h, .inl (F.fn x f)⟩
theorem asg_cons {e : Expr} {es : List Expr} {env : PySem.Env} (h : noStar e = true) : assignEach (e :: es) env = (false, assign e env) :: assignEach es env := by
  cases e <;> first | rfl | (cases h)
theorem asg_len {env : PySem.Env} : ∀ {es : List Expr}, es.all noStar = true → (assignEach es env).length = es.length ∧ (assignEach es env).findIdx? (·.1) = none
  | [], _ => ⟨rfl, rfl⟩
  | e :: es, h => by
    simp only [List.all_cons, Bool.and_eq_true] at h
    obtain ⟨h1, h2⟩ := asg_len (env := env) h.2
    rw [asg_cons h.1]
    refine ⟨by rw [List.length_cons, List.length_cons, h1], ?_⟩
    rw [List.findIdx?_cons]
    simp only [Bool.false_eq_true, if_false]
    rw [h2]
    rfl
theorem mapM_star {α : Type} {f : Expr → Option α} : ∀ {es : List Expr} {ts : List α}, es.mapM (fun e => if noStar e then f e else none) = some ts → es.all noStar = true ∧ es.length = ts.length ∧ ∀ p ∈ es.zip ts, f p.1 = some p.2
  | [], ts, h => by
    simp at h
    subst h
    exact ⟨rfl, rfl, fun p hp => by simp at hp⟩
  | e :: es, ts, h => by
    rw [List.mapM_cons] at h
    by_cases hs : noStar e = true
    · rw [if_pos hs] at h
      cases q : f e with
      | none => rw [q] at h; cases h
      | some t =>
        rw [q] at h
        cases q2 : es.mapM (fun e => if noStar e then f e else none) with
        | none => rw [q2] at h; cases h
        | some us =>
          rw [q2] at h
          cases h
          obtain ⟨h1, h2, h3⟩ := mapM_star q2
          refine ⟨by simp [hs, h1], by simp [h2], fun p hp => ?_⟩
          rcases List.mem_cons.mp hp with rfl | hp
          · exact q
          · exact h3 p hp
    · rw [if_neg hs] at h
      cases h
theorem mapM_all {α β : Type} {f : β → Option α} : ∀ {es : List β} {ts : List α}, es.mapM f = some ts → es.length = ts.length ∧ ∀ p ∈ es.zip ts, f p.1 = some p.2
  | [], ts, h => by
    simp at h
    subst h
    exact ⟨rfl, fun p hp => by simp at hp⟩
  | e :: es, ts, h => by
    rw [List.mapM_cons] at h
    cases q : f e with
    | none => rw [q] at h; cases h
    | some t =>
      rw [q] at h
      cases q2 : es.mapM f with
      | none => rw [q2] at h; cases h
      | some us =>
        rw [q2] at h
        cases h
        obtain ⟨h2, h3⟩ := mapM_all q2
        refine ⟨by simp [h2], fun p hp => ?_⟩
        rcases List.mem_cons.mp hp with rfl | hp
        · exact q
        · exact h3 p hp
theorem so_tgs (h : ∀ e t, noStar e = true → cTg k cc e = some t → PG X e (gB X.K t)) : ∀ {es : List Expr} {ts : List Tg}, es.all noStar = true → es.length = ts.length → (∀ p ∈ es.zip ts, cTg k cc p.1 = some p.2) → PGs X es (gBs X.K ts)
  | [], [], _, _, _ => pgs_imp pgs_nil fun vs σ H Q ⟨Γ, wd, ds, Γ', e, sr, r, b, q⟩ => by
    cases r with
    | nil =>
      simp only [bindTs] at b
      cases b
      exact ⟨rfl, q σ sr (fun _ _ => rfl) (.refl _ _)⟩
    | cons a b' => simp only [bindTs] at b; cases b
  | e :: es, t :: ts, hs, hl, hp => by
    simp only [List.all_cons, Bool.and_eq_true] at hs
    refine pgs_imp (pgs_cons (h e t hs.1 (hp (e, t) List.mem_cons_self)) (so_tgs h hs.2 (Nat.succ.inj hl) fun p q => hp p (List.mem_cons_of_mem _ q)) (by rw [asg_cons hs.1]; rfl)) ?_
    rintro vs σ H Q ⟨Γ, wd, ds, Γ', rfl, sr, r, b, q⟩
    cases r with
    | nil => simp only [bindTs] at b; cases b
    | @cons v vr d dr r1 r2 =>
      simp only [bindTs] at b
      cases q1 : bindT Γ t d with
      | none => rw [q1] at b; cases b
      | some Γ1 =>
        rw [q1, Option.bind_some] at b
        refine ⟨v, vr, rfl, Γ, wd, d, Γ1, rfl, sr, r1, q1, fun σ1 sr1 w1 k1 => ?_⟩
        refine ⟨Γ1, wd, dr, Γ', rfl, sr1, r2, b, fun σ2 sr2 w2 k2 => q σ2 sr2 (fun us hus => ?_) (k1.trans k2)⟩
        rw [w2 us fun i hi => hus i (by simp only [tslotss]; exact List.mem_append_right _ hi), w1 us fun i hi => hus i (by simp only [tslotss]; exact List.mem_append_left _ hi)]
  | [], _ :: _, _, hl, _ => by cases hl
  | _ :: _, [], _, hl, _ => by cases hl
theorem so_tg {k : Nat} (F : Fit X cc k) : ∀ (n : Nat) {e : Expr} {t : Tg}, cTg n cc e = some t → PG X e (gB X.K t)
  | 0, _, _, h => by simp only [cTg] at h; cases h
  | n + 1, .Name x pos, t, h => by
    simp only [cTg] at h
    split at h
    · rename_i hl
      cases q : slot cc.N x with
      | none => rw [q] at h; cases h
      | some i =>
        rw [q] at h
        cases h
        obtain ⟨l1, l2⟩ := F.loc hl
        refine pg_imp (pg_name (i := i) F.nd (by rw [F.N]; exact slot_ok q) l1 l2) ?_
        rintro v σ H Q ⟨Γ, wd, d, Γ', rfl, sr, r, b, q⟩
        simp only [bindT] at b
        split at b
        · cases b
          exact q _ (sr.set r) (fun us hus => wipe_set (hus i (by simp [tslots]))) .set
        · cases b
    · cases h
  | n + 1, .Tuple es kk pos, t, h => by
    simp only [cTg] at h
    cases q : es.mapM (fun e => if noStar e then cTg n cc e else none) with
    | none => rw [q] at h; cases h
    | some ts =>
      rw [q] at h
      cases h
      obtain ⟨h1, h2, h3⟩ := mapM_star q
      obtain ⟨a1, a2⟩ := asg_len (env := X.env) h1
      refine pg_imp (pg_tup (n := es.length) F.calm (so_tgs (k := n) (fun e t _ z => so_tg F n z) h1 h2 h3) a1 a2) ?_
      rintro v σ H Q ⟨Γ, wd, d, Γ', rfl, sr, r, b, q⟩
      cases d with
      | tup ds =>
        simp only [bindT] at b
        split at b
        · rename_i hl
          cases r with
          | tup tp rr =>
            refine ⟨_, _, rfl, tp.sq, by rw [rr.length, h2, hl], Γ, wd, ds, Γ', rfl, sr, rr, b, fun σ' s' w' k' => q σ' s' (fun us hus => w' us fun i hi => hus i (by simp only [tslots]; exact hi)) k'⟩
        · cases b
      | _ => simp only [bindT] at b; cases b
  | n + 1, .BoolOp .., _, h | n + 1, .NamedExpr .., _, h | n + 1, .BinOp .., _, h | n + 1, .UnaryOp .., _, h | n + 1, .Lambda .., _, h | n + 1, .IfExp .., _, h | n + 1, .Dict .., _, h | n + 1, .Set .., _, h | n + 1, .ListComp .., _, h
  | n + 1, .SetComp .., _, h | n + 1, .DictComp .., _, h | n + 1, .GeneratorExp .., _, h | n + 1, .Await .., _, h | n + 1, .Yield .., _, h | n + 1, .YieldFrom .., _, h | n + 1, .Compare .., _, h | n + 1, .Call .., _, h
  | n + 1, .FormattedValue .., _, h | n + 1, .JoinedStr .., _, h | n + 1, .Constant .., _, h | n + 1, .Attribute .., _, h | n + 1, .Subscript .., _, h | n + 1, .Starred .., _, h | n + 1, .List .., _, h | n + 1, .Slice .., _, h => by simp only [cTg] at h; cases h
end
end Lt

/-! Lt, part H: what a loop walks, comprehensions. -/
namespace Lt
open PySem L2
section
variable {K : PySem.W.Frag}
def SrcV (K : PySem.W.Frag) (Rl : Wd → Wd → Prop) (w : Wd) (v : V) : D → Prop
  | .lst ds => ∃ a, v = .ref a ∧ (∃ xs, w.H a = some (.lst xs)) ∧ StL K Rl w a ds
  | .tup ds => ∃ a, v = .ref a ∧ (∃ xs, SqT K w.H a xs) ∧ StT K Rl w a ds
  | .int i => v = .int i
  | .str z => v = .str z
  | _ => True
theorem SrcV.of_rdv {st : Sto} {w : Wd} {v : V} {d : D} (s : SRel K st w) (h : Rdv K w v d) : SrcV K Eff w v d := by
  cases d with
  | lst ds => exact StL.of_rdv s h
  | tup ds => exact StT.of_rdv s h
  | int i => exact h.int
  | str z => exact h.str
  | _ => exact True.intro
theorem SrcV.of_rep {w : Wd} {v : V} {d : D} (h : Rep K w v d) : SrcV K Fz w v d := by
  cases d with
  | lst ds => exact StL.of_rep h
  | tup ds => exact StT.of_rep h
  | int i => cases h; rfl
  | str z => cases h; rfl
  | _ => exact True.intro
inductive SrcL (K : PySem.W.Frag) (Rl : Wd → Wd → Prop) (w : Wd) : List V → List D → Prop
  | nil : SrcL K Rl w [] []
  | cons {v : V} {vs : List V} {d : D} {ds : List D} : SrcV K Rl w v d → SrcL K Rl w vs ds → SrcL K Rl w (v :: vs) (d :: ds)
theorem SrcL.of_rdv {st : Sto} {w : Wd} (s : SRel K st w) : ∀ {vs : List V} {ds : List D}, RdvL K w vs ds → SrcL K Eff w vs ds
  | _, _, .nil => .nil
  | _, _, .cons h r => .cons (.of_rdv s h) (SrcL.of_rdv s r)
theorem SrcL.of_rep {w : Wd} : ∀ {vs : List V} {ds : List D}, RepL K w vs ds → SrcL K Fz w vs ds
  | _, _, .nil => .nil
  | _, _, .cons h r => .cons (.of_rep h) (SrcL.of_rep r)
def iSeq (K : PySem.W.Frag) (tl : TE) : TI := fun σ H R => tl σ H fun x H1 => (∃ a, x = .ref a ∧ (∃ xs, SqL K H1 a xs) ∧ R (Itl K a) H1) ∨ (∃ a, x = .ref a ∧ (∃ xs, SqT K H1 a xs) ∧ R (Itt K a) H1) ∨ ∃ z, x = .str z ∧ R (Its z) H1
def JI (K : PySem.W.Frag) (Rl : Wd → Wd → Prop) : Wd → Wd → It → List D → Prop := fun _ w' J items => ItOk K Rl w' J items
theorem bm_I {Rl : Wd → Wd → Prop} : BaseMono (JI K Rl) := fun _ _ _ _ _ _ j => j
section
variable {Rl : Wd → Wd → Prop} {w : Wd} {items : List D} {R : It → Hp → Prop}
theorem src_seq {v : V} {d : D} (h : SrcV K Rl w v d) (e : itF .seq [d] = some items) (q : ∀ J, ItOk K Rl w J items → R J w.H) :
    (∃ a, v = .ref a ∧ (∃ xs, SqL K w.H a xs) ∧ R (Itl K a) w.H) ∨ (∃ a, v = .ref a ∧ (∃ xs, SqT K w.H a xs) ∧ R (Itt K a) w.H) ∨ ∃ z, v = .str z ∧ R (Its z) w.H := by
  cases d <;> simp only [itF] at e <;> cases e
  · exact .inr (.inr ⟨_, h, q _ it_str⟩)
  · obtain ⟨a, rfl, ⟨xs, hx⟩, st⟩ := h
    exact .inl ⟨a, rfl, ⟨xs, SqL.of hx⟩, q _ (it_list st)⟩
  · obtain ⟨a, rfl, hx, st⟩ := h
    exact .inr (.inl ⟨a, rfl, hx, q _ (it_tup st)⟩)
theorem SrcL.one {vs : List V} {d : D} (h : SrcL K Rl w vs [d]) : ∃ v, vs = [v] ∧ SrcV K Rl w v d := by
  cases h with | cons h r => cases r; exact ⟨_, rfl, h⟩
theorem SrcL.two {vs : List V} {d e : D} (h : SrcL K Rl w vs [d, e]) : ∃ v u, vs = [v, u] ∧ SrcV K Rl w v d ∧ SrcV K Rl w u e := by
  cases h with | cons h r => cases r with | cons h' r => cases r; exact ⟨_, _, rfl, h, h'⟩
theorem itF_rng1 {ds : List D} (e : itF .rng1 ds = some items) : ∃ j, ds = [.int j] ∧ (-(2 ^ 62) ≤ j ∧ j < 2 ^ 62) ∧ items = rangeD 0 j.toNat := by
  unfold itF at e
  split at e <;> first | (cases e; done) | skip
  all_goals first | contradiction | skip
  split at e
  · rename_i hz; cases e; exact ⟨_, rfl, hz, rfl⟩
  · cases e
theorem itF_rng2 {ds : List D} (e : itF .rng2 ds = some items) : ∃ i j, ds = [.int i, .int j] ∧ (-(2 ^ 62) ≤ i ∧ i < 2 ^ 62 ∧ -(2 ^ 62) ≤ j ∧ j < 2 ^ 62) ∧ items = rangeD i (j - i).toNat := by
  unfold itF at e
  split at e <;> first | (cases e; done) | skip
  all_goals first | contradiction | skip
  split at e
  · rename_i hz; cases e; exact ⟨_, _, rfl, hz, rfl⟩
  · cases e
theorem itF_enum {ds : List D} (e : itF .enum ds = some items) : ∃ xs, ds = [.lst xs] ∧ items = enumD xs := by
  unfold itF at e
  split at e <;> first | (cases e; exact ⟨_, rfl, rfl⟩) | (cases e; done) | contradiction
theorem itF_zip {ds : List D} (e : itF .zip ds = some items) : ∃ xs ys, ds = [.lst xs, .lst ys] ∧ items = zipD xs ys := by
  unfold itF at e
  split at e <;> first | (cases e; exact ⟨_, _, rfl, rfl⟩) | (cases e; done) | contradiction
theorem src_rng1 {vs : List V} {ds : List D} (h : SrcL K Rl w vs ds) (e : itF .rng1 ds = some items) (q : ∀ J, ItOk K Rl w J items → R J w.H) : ∃ j : Int, vs = [.int j] ∧ -(2 ^ 62) ≤ j ∧ j < 2 ^ 62 ∧ R (Itr 0 j.toNat) w.H := by
  obtain ⟨j, rfl, hz, rfl⟩ := itF_rng1 e
  obtain ⟨v, rfl, hv⟩ := h.one
  cases hv
  exact ⟨j, rfl, hz.1, hz.2, q _ it_rng⟩
theorem src_rng2 {vs : List V} {ds : List D} (h : SrcL K Rl w vs ds) (e : itF .rng2 ds = some items) (q : ∀ J, ItOk K Rl w J items → R J w.H) : ∃ i j : Int, vs = [.int i, .int j] ∧ (-(2 ^ 62) ≤ i ∧ i < 2 ^ 62 ∧ -(2 ^ 62) ≤ j ∧ j < 2 ^ 62) ∧ R (Itr i (j - i).toNat) w.H := by
  obtain ⟨i, j, rfl, hz, rfl⟩ := itF_rng2 e
  obtain ⟨v, u, rfl, hv, hu⟩ := h.two
  cases hv
  cases hu
  exact ⟨i, j, rfl, hz, q _ it_rng⟩
theorem src_enum {vs : List V} {ds : List D} (h : SrcL K Rl w vs ds) (e : itF .enum ds = some items) (q : ∀ J, ItOk K Rl w J items → R J w.H) : ∃ a xs, vs = [.ref a] ∧ SqL K w.H a xs ∧ R (Ite K a) w.H := by
  obtain ⟨xs, rfl, rfl⟩ := itF_enum e
  obtain ⟨v, rfl, a, rfl, ⟨ys, hx⟩, st⟩ := h.one
  exact ⟨a, ys, rfl, SqL.of hx, q _ (it_enum st)⟩
theorem src_zip {vs : List V} {ds : List D} (h : SrcL K Rl w vs ds) (e : itF .zip ds = some items) (q : ∀ J, ItOk K Rl w J items → R J w.H) : ∃ a b xs ys, vs = [.ref a, .ref b] ∧ SqL K w.H a xs ∧ SqL K w.H b ys ∧ R (Itz K a b) w.H := by
  obtain ⟨xs, ys, rfl, rfl⟩ := itF_zip e
  obtain ⟨v, u, rfl, ⟨a, rfl, ⟨xs', hx⟩, st⟩, b, rfl, ⟨ys', hy⟩, st'⟩ := h.two
  exact ⟨a, b, xs', ys', rfl, SqL.of hx, SqL.of hy, q _ (it_zip st st')⟩
end
end
section
variable {X : Cx} {y : Sy} {W : WX} {tg : Expr}
theorem pi_seq {l : Expr} {tl : TE} (hl : PE X l tl) : PI X tg l (iSeq X.K tl) := by
  refine ⟨fun pins s σ H R I h => ?_⟩
  refine thn (hl.run pins s σ H _ I h) fun v s1 ⟨x, H1, I1, r1, q1⟩ => ?_
  rcases q1 with ⟨a, rfl, ⟨xs, hq⟩, q⟩ | ⟨a, rfl, ⟨xs, hq⟩, q⟩ | ⟨z, rfl, q⟩
  · cases r1
    obtain ⟨its, rv, p, hz⟩ := I1.list hq
    refine wpAny_pyIter_list p.isList ?_
    exact pi_one (tk := s1.toks) I1 _ (turn_list a _) ⟨_, Heap.get?_push_size _ rfl, rfl, rfl⟩ q
  · cases r1
    obtain ⟨its, rv, p, hz⟩ := I1.tuple hq
    refine wpAny_pyIter_tuple (show s1.heap.IsTuple a its.toArray from p) ?_
    exact pi_one (tk := s1.toks) I1 _ (turn_tuple a _) ⟨_, Heap.get?_push_size _ rfl, rfl, rfl⟩ q
  · obtain ⟨t, rfl⟩ := r1
    cases ha : z.cps.all (· < 128)
    · exact wpAny_pyIter_wide ha (pi_one (tk := s1.toks) I1 _ (turn_str _ z t "str_iterator" (.inr rfl)) ⟨_, Heap.get?_push_size _ rfl, rfl, rfl⟩ q)
    · exact wpAny_pyIter_ascii ha (pi_one (tk := s1.toks) I1 _ (turn_str _ z t "str_ascii_iterator" (.inl rfl)) ⟨_, Heap.get?_push_size _ rfl, rfl, rfl⟩ q)
/-- sources that are read (a comprehension's), sources that are shared (a loop's) -/
def tItR (K : PySem.W.Frag) (y : Sy) (W : WX) (k : Ik) (ils : List E) : TI := fun σ H R => ∃ Γ st wd, wd.H = H ∧ SR K Γ σ wd ∧ SRel K st wd ∧ Post K y.XR W σ (JI K Eff) ((evr y.G y.sig y.call Γ st ils).bind fun ds st => ofO (itF k ds) st) wd R
def tItS (K : PySem.W.Frag) (y : Sy) (W : WX) (k : Ik) (ils : List E) : TI := fun σ H R => ∃ Γ st wd, wd.H = H ∧ SR K Γ σ wd ∧ SRel K st wd ∧ Post K y.XR W σ (JI K Fz) ((evs y.G y.sig y.call Γ st ils).bind fun ds st => ofO (itF k ds) st) wd R
theorem itR_args {k : Ik} {ils : List E} {σ : L2.St} {H : Hp} {R : It → Hp → Prop} {Q : List V → Hp → Prop} (h : tItR X.K y W k ils σ H R)
    (f : ∀ (vs : List V) (ds items : List D) (w : Wd), SrcL X.K Eff w vs ds → itF k ds = some items → (∀ J, ItOk X.K Eff w J items → R J w.H) → Q vs w.H) : tEvr X.K y W ils σ H Q := by
  obtain ⟨Γ, st, wd, e, sr, s, p⟩ := h
  subst e
  refine ⟨Γ, st, wd, rfl, sr, s, (p.bind (J1 := JR X.K) bm_I).imp ?_⟩
  rintro vs H1 ⟨ds, st1, w1, rfl, e1, s1, t1, p1, _⟩
  obtain ⟨items, h1, h2⟩ := post_ofO p1
  exact f vs ds items w1 (.of_rdv s1 t1) h1 fun J z => post_out h2 s1 z
theorem itS_args {k : Ik} {ils : List E} {σ : L2.St} {H : Hp} {R : It → Hp → Prop} {Q : List V → Hp → Prop} (h : tItS X.K y W k ils σ H R)
    (f : ∀ (vs : List V) (ds items : List D) (w : Wd), SrcL X.K Fz w vs ds → itF k ds = some items → (∀ J, ItOk X.K Fz w J items → R J w.H) → Q vs w.H) : tEvs X.K y W ils σ H Q := by
  obtain ⟨Γ, st, wd, e, sr, s, p⟩ := h
  subst e
  refine ⟨Γ, st, wd, rfl, sr, s, (p.bind (J1 := JL X.K) bm_I).imp ?_⟩
  rintro vs H1 ⟨ds, st1, w1, rfl, e1, s1, t1, p1, _⟩
  obtain ⟨items, h1, h2⟩ := post_ofO p1
  exact f vs ds items w1 (.of_rep t1) h1 fun J z => post_out h2 s1 z
theorem itR_seq {il : E} {σ : L2.St} {H : Hp} {R : It → Hp → Prop} (h : tItR X.K y W .seq [il] σ H R) : iSeq X.K (tEv X.K y W il) σ H R := by
  obtain ⟨Γ, st, wd, e, sr, s, p⟩ := h
  subst e
  simp only [evr, Lt.R.bind_ok, Lt.R.bind_assoc] at p
  refine ⟨Γ, st, wd, rfl, sr, s, (p.bind (J1 := JE X.K) bm_I).imp ?_⟩
  rintro v1 H1 ⟨d1, st1, w1, rfl, e1, s1, t1, p1, _⟩
  obtain ⟨items, h1, h2⟩ := post_ofO p1
  exact src_seq (.of_rdv s1 t1.rdv) h1 fun J z => post_out h2 s1 z
theorem itS_seq {il : E} {σ : L2.St} {H : Hp} {R : It → Hp → Prop} (h : tItS X.K y W .seq [il] σ H R) : iSeq X.K (tEv X.K y W il) σ H R := by
  obtain ⟨Γ, st, wd, e, sr, s, p⟩ := h
  subst e
  simp only [evs, Lt.R.bind_ok, Lt.R.bind_assoc] at p
  refine ⟨Γ, st, wd, rfl, sr, s, (p.bind (J1 := JE X.K) bm_I).imp ?_⟩
  rintro v1 H1 ⟨⟨d1, f1⟩, st1, w1, rfl, e1, s1, t1, _, p1, _⟩
  split at p1
  · exact p1.elim
  · rename_i nb
    obtain ⟨w2, hH, hφ, e2, fz, s2, r2⟩ := t1.share s1 e1 nb
    have p1 := p1.base bm_I e2
    simp only [Lt.R.bind_ok] at p1
    obtain ⟨items, h1, h2⟩ := post_ofO p1
    rw [← hH]
    exact src_seq (.of_rep r2) h1 fun J z => post_out h2 s2 z
end
end Lt

/-! Lt, part I: comprehensions. -/
namespace Lt
open PySem L2
section
variable {K : PySem.W.Frag}
/-- an own list is changed -/
def setL (w : Wd) (a : Addr) (o : HO) : Wd := { w with H := upd w.H a o }
theorem setL_fz {w : Wd} {a : Addr} {o : HO} (m : w.M a) : Fz w (setL w a o) := ⟨⟨[], by simp [setL]⟩, fun b u h n => ⟨by
  show upd w.H a o b = _
  rw [upd_ne (show b ≠ a from fun z => n (z ▸ m))]
  exact h, n⟩⟩
theorem setL_there {w : Wd} {a : Addr} {o : HO} (b : Addr) (h : w.H b ≠ none) : (setL w a o).H b ≠ none := by
  show upd w.H a o b ≠ none
  by_cases z : b = a
  · rw [z, upd_same]; exact fun q => nomatch q
  · rw [upd_ne z]; exact h
theorem setL_eff {w0 w : Wd} {a : Addr} {o : HO} (e : Eff w0 w) (n : w0.H a = none) : Eff w0 (setL w a o) := ⟨e.pre, fun b u h m => by
    obtain ⟨h1, h2, h3⟩ := e.keep b u h m
    refine ⟨?_, h2, h3⟩
    show upd w.H a o b = _
    rw [upd_ne (show b ≠ a from fun z => by rw [z, n] at h; cases h)]
    exact h1, fun b h => setL_there b (e.there b h)⟩
theorem SRel.setL {st : Sto} {w : Wd} {a : Addr} {o : HO} (s : SRel K st w) (m : w.M a) (n : a ∉ w.φ) : SRel K st (setL w a o) :=
  ⟨s.len, s.nd, s.mu, fun b h => setL_there b (s.dom b h), s.eff_objs (setL_fz m) (fun b h => by
    show upd w.H a o b = _
    rw [upd_ne (show b ≠ a from fun z => n (z ▸ h))]) rfl⟩
theorem OwnL.setL {w : Wd} {a : Addr} {ds es : List D} {xs : List V} (h : OwnL K w a ds) (r : RepL K w xs es) : OwnL K (setL w a (.lst xs)) a es :=
  ⟨h.1, h.2.1, xs, upd_same, r.fz (setL_fz h.1)⟩
end
section
variable {X : Cx} {y : Sy} {W : WX}
def tEvT (K : PySem.W.Frag) (y : Sy) (W : WX) (is : List E) : TT := fun σ H Q => ∃ Γ st wd, wd.H = H ∧ SR K Γ σ wd ∧ SRel K st wd ∧ Post K y.XR W σ JQ (evt y.G y.sig y.call Γ st is) wd Q
theorem pts_imp {X : Cx} {e : List Expr} {t t' : TT} (h : PTs X e t) (f : ∀ σ H Q, t' σ H Q → t σ H Q) : PTs X e t' := ⟨fun pins s σ H Q I q => h.run pins s σ H Q I (f σ H Q q)⟩
theorem so_evt0 : PTs X [] (tEvT X.K y W []) := pts_imp pts_nil fun σ H Q ⟨Γ, st, wd, e, sr, s, p⟩ => by
  subst e
  simp only [evt] at p
  exact post_out (b := true) p s rfl
theorem so_evt1 {c : Expr} {il : E} (h : PT X c (tTest (tEv X.K y W il))) : PTs X [c] (tEvT X.K y W [il]) := pts_imp (pts_one h) fun σ H Q ⟨Γ, st, wd, e, sr, s, p⟩ => by
  subst e
  simp only [evt] at p
  refine ⟨Γ, st, wd, rfl, sr, s, (p.bind (J1 := JE X.K) bm_Q).imp ?_⟩
  rintro v1 H1 ⟨d1, st1, w1, rfl, e1, s1, t1, p1, _⟩
  have t1 := t1.rdv
  split at p1
  · rename_i q
    rw [q] at t1
    exact ⟨true, t1.bl, post_out (b := true) p1 s1 rfl⟩
  · rename_i q
    rw [q] at t1
    exact ⟨false, t1.bl, post_out (b := false) p1 s1 rfl⟩
  · exact p1.elim
theorem rd_lc {own : List (Str × Nat)} {k : Ik} {srcs is : List E} {el : E} {t : Tg} {W0 : WX} (ht : ∀ i ∈ tslots t, i ∈ own.map (·.2)) : ∀ {σ : L2.St} {H : Hp} {Q : VK}, tEv X.K y W (.lc (own.map (·.2)) k t srcs is el) σ H Q →
    tLc (tItR X.K y W k srcs) (gB X.K t) (tEvT X.K y W0 is) (tEv X.K y W0 el) (own.map (·.2)) σ H Q := by
  rintro σ H Q ⟨Γ, st, wd, rfl, sr, s, p⟩
  simp only [ev] at p
  refine ⟨Γ, st, wd, rfl, sr, s, (p.bind (J1 := JI X.K Eff) bm_E).imp ?_⟩
  rintro J H1 ⟨items, st1, w1, rfl, e1, s1, it, p1, _⟩
  intro D hD
  generalize hG : (fun (d : Lt.D) (acc : List Lt.D) (st : Sto) => (match bindT (wipeE Γ (own.map (·.2))) t d with
        | some Γ' => (evt y.G y.sig y.call Γ' st is).calm.bind fun t st => if t then (ev y.G y.sig y.call Γ' st el).calm.bind fun y st => if y.2 = .bor ∨ sizeLine ≤ acc.length then .bad else .ok (acc ++ [y.1]) st else .ok acc st
        | none => .bad : R (List Lt.D))) = g
  have p1 : Post X.K y.XR W σ (JE X.K) ((walkR g items (.ok [] st1)).bind fun acc st => .ok (.lst acc, .own) st) w1 Q := by
    rw [← hG]
    exact p1
  refine ⟨fun i m H => ∃ w st acc, w.H = H ∧ m = items.length - i ∧ i ≤ items.length ∧ Eff w1 w ∧ SRel X.K st w ∧ OwnL X.K w D acc ∧
    Post X.K y.XR W σ (JE X.K) ((walkR g (items.drop i) (.ok acc st)).bind fun acc st => .ok (.lst acc, .own) st) w1 Q,
    ⟨items.length, laidM w1 D (.lst []), st1, [], rfl, by simp, Nat.zero_le _, eff_laidM hD, s1.laidM hD, ⟨.inr rfl, fun z => s1.fresh hD (s1.mu D z), [], upd_same, .nil⟩, p1⟩, ?_⟩
  rintro i m H ⟨w, st2, acc, rfl, rfl, hi, e2, s2, ow, p2⟩
  obtain ⟨it1, it2⟩ := it w st2 e2 s2
  by_cases hlt : i < items.length
  · obtain ⟨g1, g2⟩ := it1 i hlt
    refine .inr ⟨g1, fun H' => ∃ w st acc, w.H = H' ∧ Eff w1 w ∧ SRel X.K st w ∧ OwnL X.K w D acc ∧
      Post X.K y.XR W σ (JE X.K) ((walkR g (items.drop (i + 1)) (.ok acc st)).bind fun acc st => .ok (.lst acc, .own) st) w1 Q, ?_, ?_⟩
    · rintro H' ⟨w', st', acc', h1, h2, h3, h4, h5⟩
      exact ⟨items.length - (i + 1), by omega, w', st', acc', h1, rfl, hlt, h2, h3, h4, h5⟩
    · intro x H' hy
      obtain ⟨w3, rfl, e3, s3, d, hd, rd⟩ := g2 x H' hy
      have hdrop : items.drop i = d :: items.drop (i + 1) := by
        obtain ⟨h1, h2⟩ := List.getElem?_eq_some_iff.mp hd
        rw [← h2]
        exact List.drop_eq_getElem_cons h1
      rw [hdrop] at p2
      have sw : SR X.K (wipeE Γ (own.map (·.2))) (wipe σ (own.map (·.2))) w3 := ((sr.eff s e1).eff s1 (e2.trans e3)).wipe _
      have ow3 := ow.eff s2 e3
      have p2 : Post X.K y.XR W σ (JE X.K) ((walkR g (items.drop (i + 1)) (g d acc st2)).bind fun acc st => .ok (.lst acc, .own) st) w1 Q := p2
      have gd := (congrFun (congrFun (congrFun hG d) acc) st2).symm
      cases qb : bindT (wipeE Γ (own.map (·.2))) t d with
      | none =>
        simp only [qb] at gd
        rw [gd, walkR_bad] at p2
        exact p2.elim
      | some Γ' =>
        simp only [qb] at gd
        refine ⟨_, w3, d, Γ', rfl, sw, rd, qb, fun σ' sr' hw _ => ⟨?_, Γ', st2, w3, rfl, sr', s3, ?_⟩⟩
        · rw [hw _ ht, wipe_idem]
        · cases qt : evt y.G y.sig y.call Γ' st2 is with
          | bad =>
            rw [qt] at gd
            simp only [R.calm, R.bind_bad] at gd
            rw [gd, walkR_bad] at p2
            exact p2.elim
          | exc x st4 =>
            rw [qt] at gd
            simp only [R.calm, R.bind_bad] at gd
            rw [gd, walkR_bad] at p2
            exact p2.elim
          | ok b st4 =>
            rw [qt] at gd
            simp only [R.calm, R.bind_ok] at gd
            intro b' w4 e4 s4 hb
            cases hb
            have ow4 := ow3.eff s3 e4
            cases b with
            | false =>
              simp only [Bool.false_eq_true, if_false] at gd ⊢
              rw [gd] at p2
              exact ⟨w4, st4, acc, rfl, (e2.trans e3).trans e4, s4, ow4, p2⟩
            | true =>
              simp only [if_true] at gd ⊢
              refine ⟨Γ', st4, w4, rfl, sr'.eff s3 e4, s4, ?_⟩
              cases qe : ev y.G y.sig y.call Γ' st4 el with
              | bad =>
                rw [qe] at gd
                simp only [R.bind_bad] at gd
                rw [gd, walkR_bad] at p2
                exact p2.elim
              | exc x st5 =>
                rw [qe] at gd
                simp only [R.bind_bad] at gd
                rw [gd, walkR_bad] at p2
                exact p2.elim
              | ok r st5 =>
                rw [qe] at gd
                simp only [R.bind_ok] at gd
                by_cases hbad : r.2 = .bor ∨ sizeLine ≤ acc.length
                · rw [if_pos hbad] at gd
                  rw [gd, walkR_bad] at p2
                  exact p2.elim
                · rw [if_neg hbad] at gd
                  rw [gd] at p2
                  intro v w5 e5 s5 t5
                  obtain ⟨w6, hH, hφ, e6, fz6, s6, r6⟩ := TRep.share t5 s5 e5 fun z => hbad (.inl z)
                  have ow6 := ow4.eff s4 e6
                  obtain ⟨m6, n6, xs, q6, rx⟩ := id ow6
                  have hlen := rx.length
                  refine ⟨xs, by rw [← hH]; exact q6, by rw [hlen]; exact Nat.lt_of_not_le fun z => hbad (.inr z), ?_⟩
                  refine ⟨setL w6 D (.lst (xs ++ [v])), st5, acc ++ [r.1], by show upd w6.H D _ = _; rw [hH], setL_eff (((e2.trans e3).trans e4).trans e6) hD, s6.setL m6 n6, ow6.setL (rx.append (.cons r6 .nil)), p2⟩
  · have hi' : i = items.length := by omega
    subst hi'
    rw [List.drop_length] at p2
    exact .inl ⟨it2, p2 (.ref D) w e2 s2 ⟨D, acc, rfl, rfl, ow, hD⟩⟩
theorem so_lc {elt tg iter : Expr} {ifs : List Expr} {scope : Scope} {own : List (Str × Nat)} {pos : Pos} {k : Ik} {srcs is : List E} {el : E} {t : Tg} {W0 : WX} (hc : X.calm = true) (hN : X.N.Nodup)
    (hi : PI X tg iter (tItR X.K y W k srcs)) (ok : BlkOk X.N X.env.scope scope own) (ht : ∀ i ∈ tslots t, i ∈ own.map (·.2))
    (hg : ∀ (s : Shared) (H : Hp) (C : Addr) (cl : List (Str × Addr)) (fp : List Addr), PG (X.blk s H scope (compEnvC scope cl C X.env) fp) tg (gB X.K t))
    (hif : ∀ (s : Shared) (H : Hp) (C : Addr) (cl : List (Str × Addr)) (fp : List Addr), PTs (X.blk s H scope (compEnvC scope cl C X.env) fp) ifs (tEvT X.K y W0 is))
    (he : ∀ (s : Shared) (H : Hp) (C : Addr) (cl : List (Str × Addr)) (fp : List Addr), PE (X.blk s H scope (compEnvC scope cl C X.env) fp) elt (tEv X.K y W0 el)) (hs : ∀ x, foldedSetIterable iter X.env x = pure x) :
    PE X (.ListComp elt [⟨tg, iter, ifs, 0⟩] scope pos) (tEv X.K y W (.lc (own.map (·.2)) k t srcs is el)) :=
  pe_imp (pe_lc hc hN hi ok hg hif he hs) fun σ H Q z => rd_lc ht z
theorem so_setLc {i : Nat} {v : Str} {py : Pos} {elt tg iter : Expr} {ifs : List Expr} {scope : Scope} {own : List (Str × Nat)} {pos spos : Pos} {k : Ik} {srcs is : List E} {el : E} {t : Tg} {W0 : WX} (hc : X.calm = true) (hN : X.N.Nodup)
    (hy : X.N[i]? = some v) (hyl : X.env.scope.names.lookup v = some .local) (hsw : swapsWith (.ListComp elt [⟨tg, iter, ifs, 0⟩] scope pos) (some (.Name v py)) spos.line X.env = pure true)
    (hi : PI X tg iter (tItR X.K y W k srcs)) (ok : BlkOk X.N X.env.scope scope own) (ht : ∀ i ∈ tslots t, i ∈ own.map (·.2))
    (hg : ∀ (s : Shared) (H : Hp) (C : Addr) (cl : List (Str × Addr)) (fp : List Addr), PG (X.blk s H scope (compEnvC scope cl C X.env) fp) tg (gB X.K t))
    (hif : ∀ (s : Shared) (H : Hp) (C : Addr) (cl : List (Str × Addr)) (fp : List Addr), PTs (X.blk s H scope (compEnvC scope cl C X.env) fp) ifs (tEvT X.K y W0 is))
    (he : ∀ (s : Shared) (H : Hp) (C : Addr) (cl : List (Str × Addr)) (fp : List Addr), PE (X.blk s H scope (compEnvC scope cl C X.env) fp) elt (tEv X.K y W0 el)) (hs : ∀ x, foldedSetIterable iter X.env x = pure x) :
    PS X (.Assign [.Name v py] (.ListComp elt [⟨tg, iter, ifs, 0⟩] scope pos) spos) (tAsg (tEv X.K y W (.lc (own.map (·.2)) k t srcs is el)) (gName i)) :=
  ⟨fun pins s σ H D I q => (ps_setLc hc hN hy hyl hsw hi ok hg hif he hs).run pins s σ H D I (rd_lc ht q)⟩
end
end Lt

/-! Lt, part J: calls of defs, isinstance. -/
namespace Lt
open PySem L2
theorem pick_vals : ∀ {ix : List Nat} {xs xs' : List V} {us : List Value}, pick ix xs = some xs' → Vals xs us → ∃ us', pick ix us = some us' ∧ Vals xs' us'
  | [], _, _, _, h, _ => by simp only [pick] at h; cases h; exact ⟨[], rfl, .nil⟩
  | i :: ix, xs, xs', us, h, r => by
    simp only [pick] at h
    split at h
    · rename_i x ys h1 h2
      cases h
      obtain ⟨u, h3, h4⟩ := r.get h1
      obtain ⟨us', h5, h6⟩ := pick_vals h2 r
      exact ⟨u :: us', by simp only [pick, h3, h5], .cons h4 h6⟩
    · cases h
theorem pick_rep {K : PySem.W.Frag} {w : Wd} : ∀ {ix : List Nat} {ds ds' : List D} {vs : List V}, pick ix ds = some ds' → RepL K w vs ds → ∃ vs', pick ix vs = some vs' ∧ RepL K w vs' ds'
  | [], _, _, _, h, _ => by simp only [pick] at h; cases h; exact ⟨[], rfl, .nil⟩
  | i :: ix, xs, xs', us, h, r => by
    simp only [pick] at h
    split at h
    · rename_i x ys h1 h2
      cases h
      obtain ⟨u, h3, h4⟩ := r.getD h1
      obtain ⟨us', h5, h6⟩ := pick_rep h2 r
      exact ⟨u :: us', by simp only [pick, h3, h5], .cons h4 h6⟩
    · cases h
theorem pick_length {α : Type} : ∀ {ix : List Nat} {xs xs' : List α}, pick ix xs = some xs' → xs'.length = ix.length
  | [], _, _, h => by simp only [pick] at h; cases h; rfl
  | i :: ix, xs, xs', h => by
    simp only [pick] at h
    split at h
    · rename_i x ys h1 h2
      cases h
      simp [pick_length h2]
    · cases h
theorem order_rep {K : PySem.W.Frag} {w : Wd} {ps ks : List Str} {ds ds' : List D} {vs : List V} (h : order ps ks ds = some ds') (r : RepL K w vs ds) : ∃ vs', order ps ks vs = some vs' ∧ RepL K w vs' ds' := by
  unfold order at h ⊢
  rw [r.length]
  split at h
  · rename_i hz
    rw [if_pos hz]
    cases q : permK ps (ds.length - ks.length) ks with
    | none => rw [q] at h; cases h
    | some ix => rw [q] at h; exact pick_rep h r
  · cases h
theorem order_vals {ps ks : List Str} {vs vs' : List V} {us : List Value} (h : order ps ks vs = some vs') (r : Vals vs us) : ∃ us', order ps ks us = some us' ∧ Vals vs' us' := by
  unfold order at h ⊢
  rw [← r.length]
  split at h
  · rename_i hz
    rw [if_pos hz]
    cases q : permK ps (vs.length - ks.length) ks with
    | none => rw [q] at h; cases h
    | some ix => rw [q] at h; exact pick_vals h r
  · cases h
theorem perm_length {ks : List Str} {m : Nat} : ∀ {ps : List Str} {ix : List Nat}, permF m ks ps = some ix → ix.length = ps.length
  | [], ix, h => by simp only [permF] at h; cases h; rfl
  | p :: ps, ix, h => by
    simp only [permF] at h
    split at h
    · rename_i r i h1 h2
      cases h
      simp [perm_length h1]
    · cases h
theorem order_length {α : Type} {ps ks : List Str} {ds ds' : List α} (h : order ps ks ds = some ds') : ds'.length = ps.length := by
  unfold order at h
  split at h
  · rename_i hz
    cases q : permK ps (ds.length - ks.length) ks with
    | none => rw [q] at h; cases h
    | some ix =>
      rw [q] at h
      rw [pick_length h]
      unfold permK at q
      cases q2 : permF (ds.length - ks.length) ks (ps.drop (ds.length - ks.length)) with
      | none => rw [q2] at q; cases q
      | some jx =>
        rw [q2] at q
        cases q
        rw [List.length_append, List.length_range, perm_length q2, List.length_drop]
        omega
  · cases h
theorem post_w {K : PySem.W.Frag} {XR : Wd → Value → Option Addr → Xc → Prop} {W : WX} {σ : L2.St} {α β : Type} {J : Wd → Wd → β → α → Prop} {r : R α} {w : Wd} {Q : β → Hp → Prop} (h : Post K XR W σ J r w Q) : Post K XR (fun c d _ H => W c d σ H) [] J r w Q := by
  cases r <;> exact h
section
variable {G : Str → Option D} {sig : Str → Option (List Str)} {call : Str → List D → Sto → R (D × Fl)}
theorem evs_append {Γ : Env} : ∀ (xs ys : List E) (st : Sto), evs G sig call Γ st (xs ++ ys) = (evs G sig call Γ st xs).bind fun a st => (evs G sig call Γ st ys).bind fun b st => .ok (a ++ b) st
  | [], ys, st => by
    simp only [List.nil_append, evs, R.bind_ok]
    cases evs G sig call Γ st ys <;> rfl
  | x :: xs, ys, st => by
    simp only [List.cons_append, evs, R.bind_assoc]
    congr 1
    funext d st1
    split
    · rfl
    · rw [evs_append xs ys st1]
      simp only [R.bind_assoc, R.bind_ok]
      rfl
end
section
variable {X : Cx} {y : Sy} {W : WX}
theorem pk_imp {X : Cx} {e : List Keyword} {t t' : TA} (h : PK X e t) (f : ∀ σ H Q, t' σ H Q → t σ H Q) : PK X e t' := ⟨fun pos pins s σ H Q I q => h.run pos pins s σ H Q I (f σ H Q q)⟩
theorem so_evk : ∀ {es : List Keyword} {ils : List E}, (∀ p ∈ es.zip ils, PE X p.1.value (tEv X.K y W p.2)) → es.length = ils.length → PK X es (tEvs X.K y W ils)
  | [], [], _, _ => pk_imp pk_nil fun σ H Q ⟨Γ, st, wd, e, sr, s, p⟩ => by
    subst e
    simp only [evs] at p
    exact post_out (b := []) p s .nil
  | ⟨nm, e, kp⟩ :: es, il :: ils, h, hl => by
    refine pk_imp (pk_cons (h (⟨nm, e, kp⟩, il) List.mem_cons_self) (so_evk (fun p hp => h p (List.mem_cons_of_mem _ hp)) (Nat.succ.inj hl))) ?_
    rintro σ H Q ⟨Γ, st, wd, rfl, sr, s, p⟩
    simp only [evs] at p
    refine ⟨Γ, st, wd, rfl, sr, s, (p.bind (J1 := JE X.K) bm_L).imp ?_⟩
    rintro v1 H1 ⟨⟨d1, f1⟩, st1, w1, rfl, e1, s1, t1, _, p1, _⟩
    split at p1
    · exact p1.elim
    · rename_i nb
      obtain ⟨w2, hH, hφ, e2, fz, s2, r2⟩ := t1.share s1 e1 nb
      refine ⟨Γ, st1, w2, hH, sr.eff s e2, s2, ((p1.base bm_L e2).bind (J1 := JL X.K) bm_L).imp ?_⟩
      rintro vs H2 ⟨ds, st3, w3, rfl, e3, s3, t3, p3, _⟩
      exact post_out (b := v1 :: vs) p3 s3 (.cons (r2.fz (e3.fz s2)) t3)
  | [], _ :: _, _, hl => by cases hl
  | _ :: _, [], _, hl => by cases hl
theorem kw_names {env : PySem.Env} {pos : Pos} : ∀ kws : List Keyword, (backToKw pos (keywordEach kws env)).map (·.1) = kws.map (·.arg)
  | [] => rfl
  | ⟨nm, e, kp⟩ :: r => by
    show nm :: (backToKw pos (keywordEach r env)).map (·.1) = nm :: r.map (·.arg)
    rw [kw_names r]
theorem kw_fm {env : PySem.Env} {pos : Pos} : ∀ kws : List Keyword, (backToKw pos (keywordEach kws env)).filterMap (·.1) = kws.filterMap (·.arg)
  | [] => rfl
  | ⟨some nm, e, kp⟩ :: r => by
    show nm :: (backToKw pos (keywordEach r env)).filterMap (·.1) = nm :: r.filterMap (·.arg)
    rw [kw_fm r]
  | ⟨none, e, kp⟩ :: r => kw_fm r
theorem names_all {env : PySem.Env} {pos : Pos} {kws : List Keyword} (h : kws.all (fun k => k.arg.isSome) = true) : (backToKw pos (keywordEach kws env)).all (·.1.isSome) = true ∧ (backToKw pos (keywordEach kws env)).any (·.1.isNone) = false ∧ (backToKw pos (keywordEach kws env)).filterMap (·.1) = kws.filterMap (·.arg) := by
  have e := kw_names (env := env) (pos := pos) kws
  have a1 : ((backToKw pos (keywordEach kws env)).map (·.1)).all (·.isSome) = true := by
    rw [e, List.all_map]
    exact h
  refine ⟨by rw [List.all_map] at a1; exact a1, ?_, ?_⟩
  · rw [← Bool.not_eq_true, List.any_eq_true]
    rintro ⟨p, hp, hn⟩
    rw [List.all_map, List.all_eq_true] at a1
    have := a1 p hp
    simp only [Function.comp] at this
    cases q : p.1 with
    | none => rw [q] at this; cases this
    | some _ => rw [q] at hn; cases hn
  · exact kw_fm kws
theorem named_len {kws : List Keyword} (h : kws.all (fun k => k.arg.isSome) = true) : (kws.filterMap (·.arg)).length = kws.length := by
  induction kws with
  | nil => rfl
  | cons k r ih =>
    simp only [List.all_cons, Bool.and_eq_true] at h
    obtain ⟨a, ha⟩ := Option.isSome_iff_exists.mp h.1
    rw [List.filterMap_cons, ha]
    simp [ih h.2]
theorem evs_len {Γ : Env} : ∀ {es : List E} {st st' : Sto} {ds : List D}, evs y.G y.sig y.call Γ st es = .ok ds st' → ds.length = es.length
  | [], st, st', ds, h => by simp only [evs] at h; cases h; rfl
  | e :: es, st, st', ds, h => by
    simp only [evs] at h
    cases q : ev y.G y.sig y.call Γ st e with
    | bad => rw [q] at h; cases h
    | exc x s => rw [q] at h; cases h
    | ok d s =>
      rw [q, R.bind_ok] at h
      split at h
      · cases h
      · cases q2 : evs y.G y.sig y.call Γ s es with
        | bad => rw [q2] at h; cases h
        | exc x s => rw [q2] at h; cases h
        | ok d2 s2 =>
          rw [q2, R.bind_ok] at h
          cases h
          simp [evs_len q2]
theorem so_call {f : Str} {ps : List Str} {args : List Expr} {kws : List Keyword} {xs ys : List E} {k : Nat} {p pos : Pos} (E1 : Env1 X.K y X.prog X.w X.mg X.base k) (hr : Room k X.A) (hg : Gl X f) (hd : (f == ("__debug__" : Str)) = false)
    (hs : y.sig f = some ps) (hk : kws.filterMap (·.arg) ∈ y.shp f) (ha : args.all noStar = true) (hn : kws.all (fun k => k.arg.isSome) = true) (hx : PA X args (tEvs X.K y W xs)) (hy : PK X kws (tEvs X.K y W ys)) (hlx : args.length = xs.length) (hly : kws.length = ys.length) (tk : Takes X W) :
    PE X (.Call (.Name f p) args kws pos) (tEv X.K y W (.call f (xs ++ ys) (kws.filterMap (·.arg)))) := by
  obtain ⟨a, fd, F, hm, kp, hb⟩ := E1.hC f ps hs
  obtain ⟨n1, n2, n3⟩ := names_all (env := X.env) (pos := pos) hn
  refine ⟨fun pins s σ H Q I h => ?_⟩
  obtain ⟨Γ, st, wd, rfl, sr, s0, q⟩ := h
  simp only [ev] at q
  rw [evs_append, R.bind_assoc] at q
  refine wpAny_Call_Name_kw (ld_glob I hg hm ?_ hd)
  have q1 := q.bind (J1 := JL X.K) bm_E
  -- behind the arguments
  have fin : ∀ (us ws : List Value) (vs zs : List V) (s2 : Shared) (d1 d2 : List D) (st2 : Sto) (w2 : Wd), Inv X pins σ w2.H s2 → Vals vs us → Vals zs ws → RepL X.K w2 vs d1 → RepL X.K w2 zs d2 → SRel X.K st2 w2 → zs.length = ys.length →
      Post X.K y.XR W σ (JE X.K) (callO y.sig y.call f (kws.filterMap (·.arg)) (d1 ++ d2) st2) w2 Q →
      wpAny (model X.prog X.w) X.A (PySem.call (.ref a) us ((kws.filterMap (·.arg)).zip ws)) (EP X pins σ Q) X.xe s2 := fun us ws vs zs s2 d1 d2 st2 w2 I2 r1 r2 t1 t2 s4 lz pp => by
    unfold callO at pp
    rw [hs, Option.bind_some] at pp
    cases qo : order ps (kws.filterMap (·.arg)) (d1 ++ d2) with
    | none => rw [qo] at pp; exact pp.elim
    | some ds =>
      rw [qo] at pp
      obtain ⟨vs', o1, o2⟩ := order_rep qo (t1.append t2)
      obtain ⟨us', o3, o4⟩ := order_vals o1 (r1.append r2)
      have bt := hb _ hk s2 (us ++ ws) us' I2.kIn o3
      have l1 : (us ++ ws).length - (kws.filterMap (·.arg)).length = us.length := by
        rw [List.length_append, named_len hn, ← r2.length, lz, hly]
        omega
      rw [l1, List.take_left, List.drop_left] at bt
      refine wpAny_call (codeAny_mono (F.run X.A X.stack s2 w2.H ⟨us, (kws.filterMap (·.arg)).zip ws⟩ us' vs' Q (fun c d H => W c d σ H) hr I2.env0 bt o4 ⟨w2, st2, ds, rfl, s4, o2, order_length qo, post_w pp⟩) fun r s' hq => ?_)
      cases r with
      | error e => exact passAt tk σ pins w2.H s2 e s' I2 hq
      | ok fl =>
        cases fl with
        | ret u => exact I2.after hq
        | next => exact False.elim hq
        | brk => exact False.elim hq
        | cont => exact False.elim hq
  have kwrun : ∀ (us : List Value) (vs : List V) (s1 : Shared) (d1 : List D) (st1 : Sto) (w1 : Wd), Inv X pins σ w1.H s1 → Vals vs us → RepL X.K w1 vs d1 → SRel X.K st1 w1 → SR X.K Γ σ w1 →
      Post X.K y.XR W σ (JE X.K) ((evs y.G y.sig y.call Γ st1 ys).bind fun b st => callO y.sig y.call f (kws.filterMap (·.arg)) (d1 ++ b) st) w1 Q →
      wpAny (model X.prog X.w) X.A (evalAll ((backToKw pos (keywordEach kws X.env)).map (·.2))) (fun ks s₂ => X.K.In s₂.heap ∧ wpAny (model X.prog X.w) X.A (PySem.call (.ref a) us (((backToKw pos (keywordEach kws X.env)).filterMap (·.1)).zip ks)) (EP X pins σ Q) X.xe s₂) X.xe s1 := fun us vs s1 d1 st1 w1 I1 r1 t1 s2 sr1 pp => by
    have pp1 := pp.bind (J1 := JL X.K) bm_E
    refine thn (hy.run pos pins s1 σ w1.H _ I1 ⟨Γ, st1, w1, rfl, sr1, s2, pp1⟩) fun ws s3 ⟨zs, H3, I3, r3, d2, st3, w3, hH, e3, s4, t3, p3, _, eq3⟩ => ⟨I3.kIn, ?_⟩
    subst hH
    rw [n3]
    have lz : zs.length = ys.length := by
      rw [RepL.length t3]
      exact evs_len eq3
    exact fin us ws vs zs s3 d1 d2 st3 w3 I3 r1 r3 (t1.fz (e3.fz s2)) t3 s4 lz p3
  cases args with
  | nil =>
    refine PySem.W.callWith_KW0 (h₀ := X.base) I.ok.mod.kin kp n1 ?_ (by rw [n2]; rfl)
    cases xs with
    | nil =>
      simp only [evs, R.bind_ok, R.bind_assoc, List.nil_append] at q
      exact kwrun [] [] s [] st wd I .nil .nil s0 sr (by simpa using q)
    | cons x xr => cases hlx
  | cons e es =>
    simp only [List.all_cons, Bool.and_eq_true] at ha
    refine PySem.W.callWith_KW (h₀ := X.base) I.ok.mod.kin kp n1 ?_ (by rw [n2, star_any (by simp [ha.1, ha.2])]; rfl) (star_cons ha.1)
    refine thn (hx.run pos pins s σ wd.H _ I ⟨Γ, st, wd, rfl, sr, s0, q1⟩) fun us s1 ⟨vs, H1, I1, r1, d1, st1, w1, hH, e1, s2, t1, p1, _, _⟩ => ?_
    subst hH
    simp only [R.bind_assoc, R.bind_ok] at p1
    exact kwrun us vs s1 d1 st1 w1 I1 r1 t1 s2 (sr.eff s0 e1) p1
end
end Lt

/-! Lt, part K: isinstance; every expression. -/
namespace Lt
open PySem L2
def tyN : Ty → Str
  | .tint => "int" | .tbool => "bool" | .tstr => "str" | .tlist => "list" | .ttup => "tuple"
theorem cTy_ok {cc : CC} {e : Expr} {t : Ty} (h : cTy cc e = some t) : ∃ p, e = .Name (tyN t) p ∧ cc.gl (tyN t) = true := by
  cases e <;> simp only [cTy] at h <;> try cases h
  rename_i x p
  split at h
  · rename_i hg
    split at h
    · rename_i q; rw [beq_iff_eq] at q; subst q; cases h; exact ⟨p, rfl, hg⟩
    · split at h
      · rename_i q; rw [beq_iff_eq] at q; subst q; cases h; exact ⟨p, rfl, hg⟩
      · split at h
        · rename_i q; rw [beq_iff_eq] at q; subst q; cases h; exact ⟨p, rfl, hg⟩
        · split at h
          · rename_i q; rw [beq_iff_eq] at q; subst q; cases h; exact ⟨p, rfl, hg⟩
          · split at h
            · rename_i q; rw [beq_iff_eq] at q; subst q; cases h; exact ⟨p, rfl, hg⟩
            · cases h
  · cases h
theorem boot_ty (t : Ty) : bootBuiltins (tyN t) = some (.type (tyS t)) := by cases t <;> rfl
section
variable {X : Cx} {y : Sy} {W : WX} {cc : CC} {k : Nat}
theorem pe_ty (F : Fit X cc k) (E1 : Env1 X.K y X.prog X.w X.mg X.base k) {e : Expr} {t : Ty} (h : cTy cc e = some t) : PE X e (tC (.ty (tyS t))) := by
  obtain ⟨p, rfl, hg⟩ := cTy_ok h
  obtain ⟨g1, g2, g3⟩ := F.gl hg
  exact pe_bltn g1 (E1.hB _ (by cases t <;> simp [tyN])) (boot_ty t) rfl g3 g2
theorem rd_isi {t : Ty} {x : E} {σ : L2.St} {H : Hp} {Q : VK} (h : tEv X.K y W (.isi x [t]) σ H Q) : tCB (rIsi X.K) (tCons (tEv X.K y W x) (tCons (tC (.ty (tyS t))) tNil)) σ H Q := by
  obtain ⟨Γ, st, wd, e, sr, s, p⟩ := h
  subst e
  simp only [ev] at p
  refine ⟨Γ, st, wd, rfl, sr, s, (p.bind (J1 := JE X.K) bm_E).imp ?_⟩
  rintro v1 H1 ⟨d1, st1, w1, rfl, e1, s1, t1, p1, _⟩
  obtain ⟨r, h1, h2⟩ := post_ofO p1
  cases q : isFs d1.1 [t] with
  | none => rw [q] at h1; cases h1
  | some b =>
    rw [q] at h1
    cases h1
    obtain ⟨a, c, h3, h4, h5⟩ := isFs_cons q
    obtain ⟨n, h6, h7⟩ := ty_of t1.rdv h3
    have hc : c = false := by cases h4; rfl
    refine ⟨v1, .ty (tyS t), .type n, .type (tyS t), b, rfl, .ty _, h6, ?_, post_out h2 s1 (.bl b)⟩
    rw [h5, hc, Bool.or_false]
    exact kit_ty (h7 t a h3)
theorem pa_tys (F : Fit X cc k) (E1 : Env1 X.K y X.prog X.w X.mg X.base k) : ∀ {es : List Expr} {ts : List Ty}, cTys cc es = some ts → PA X es (fun _ H Q => Q (ts.map fun t => V.ty (tyS t)) H)
  | [], ts, h => by
    simp only [cTys] at h
    cases h
    exact pa_nil
  | e :: es, ts, h => by
    simp only [cTys] at h
    split at h
    · rename_i t us h1 h2
      cases h
      have hs : noStar e = true := by
        obtain ⟨p, rfl, _⟩ := cTy_ok h1
        rfl
      exact pa_imp (pa_cons (pe_ty F E1 h1) (pa_tys F E1 h2) (star_cons hs)) fun σ H Q q => q
    · cases h
theorem clsv_all : ∀ ts : List Ty, Paired ClsV (ts.map fun t => V.ty (tyS t)) (ts.map fun t => Value.type (tyS t))
  | [] => .nil
  | t :: ts => .cons (.ty _) (clsv_all ts)
theorem rd_isiT {ts : List Ty} {x : E} {σ : L2.St} {H : Hp} {Q : VK} (hz : ts.length ≤ sizeLine) (hne : ts ≠ []) (h : tEv X.K y W (.isi x ts) σ H Q) : tCB (rIsiT X.K) (tCons (tEv X.K y W x) (tCons (tTup (fun _ H Q => Q (ts.map fun t => V.ty (tyS t)) H)) tNil)) σ H Q := by
  obtain ⟨Γ, st, wd, e, sr, s, p⟩ := h
  subst e
  simp only [ev] at p
  refine ⟨Γ, st, wd, rfl, sr, s, (p.bind (J1 := JE X.K) bm_E).imp ?_⟩
  rintro v1 H1 ⟨d1, st1, w1, rfl, e1, s1, t1, p1, _⟩
  obtain ⟨r, h1, h2⟩ := post_ofO p1
  cases q : isFs d1.1 ts with
  | none => rw [q] at h1; cases h1
  | some b =>
    rw [q] at h1
    cases h1
    refine ⟨by rw [List.length_map]; exact hz, fun tp hp => ?_⟩
    have e2 := eff_laid (o := .tup (ts.map fun t => V.ty (tyS t))) hp
    have s2 := s1.laid (o := .tup (ts.map fun t => V.ty (tyS t))) hp
    cases ts with
    | nil => exact absurd rfl hne
    | cons t ts =>
      obtain ⟨a, c, h3, h4, h5⟩ := isFs_cons q
      obtain ⟨n, h6, h7⟩ := ty_of (t1.rdv.eff s1 e2) h3
      exact ⟨v1, tp, _, .type n, _, b, rfl, upd_same, clsv_all _, h6, kitAny_ok h7 q, h2 _ _ e2 s2 (.bl b)⟩
theorem boot_blt {x : Str} {b : Blt} (h : cBlt x = some b) : bootBuiltins x = some (bltV b) ∧ x ∈ (["len", "all", "any", "int", "list", "isinstance", "bool", "str", "tuple", "range", "enumerate", "zip"] : List Str) := by
  unfold cBlt at h
  split at h
  · rename_i q; rw [beq_iff_eq] at q; subst q; cases h; exact ⟨rfl, by simp⟩
  · split at h
    · rename_i q; rw [beq_iff_eq] at q; subst q; cases h; exact ⟨rfl, by simp⟩
    · split at h
      · rename_i q; rw [beq_iff_eq] at q; subst q; cases h; exact ⟨rfl, by simp⟩
      · split at h
        · rename_i q; rw [beq_iff_eq] at q; subst q; cases h; exact ⟨rfl, by simp⟩
        · split at h
          · rename_i q; rw [beq_iff_eq] at q; subst q; cases h; exact ⟨rfl, by simp⟩
          · cases h
theorem so_blt {f : Str} {b : Blt} {e : Expr} {es : List Expr} {ils : List E} {p pos : Pos} (F : Fit X cc k) (E1 : Env1 X.K y X.prog X.w X.mg X.base k) (hg : cc.gl f = true) (hb : cBlt f = some b) (hs : (e :: es).all noStar = true) (ha : PA X (e :: es) (tEvr X.K y W ils)) :
    PE X (.Call (.Name f p) (e :: es) [] pos) (tEv X.K y W (.blt b ils)) := by
  obtain ⟨g1, g2, g3⟩ := F.gl hg
  obtain ⟨b1, b2⟩ := boot_blt hb
  have hs' := hs
  simp only [List.all_cons, Bool.and_eq_true] at hs'
  have hm := E1.hB f b2
  cases b with
  | len => exact pe_imp (pe_callB (clr_blt F.calm .len) g1 hm b1 ha g3 g2 (star_cons hs'.1) (star_any hs'.2)) fun σ H Q h => rd_blt h
  | all => exact pe_imp (pe_callB (clr_blt F.calm .all) g1 hm b1 ha g3 g2 (star_cons hs'.1) (star_any hs'.2)) fun σ H Q h => rd_blt h
  | any => exact pe_imp (pe_callB (clr_blt F.calm .any) g1 hm b1 ha g3 g2 (star_cons hs'.1) (star_any hs'.2)) fun σ H Q h => rd_blt h
  | int => exact pe_imp (pe_callTy (clr_blt F.calm .int) g1 hm b1 ha g3 g2 (star_cons hs'.1) (star_any hs'.2)) fun σ H Q h => rd_blt h
  | list => exact pe_imp (pe_callTy (clr_blt F.calm .list) g1 hm b1 ha g3 g2 (star_cons hs'.1) (star_any hs'.2)) fun σ H Q h => rd_blt h
theorem so_isi {a t : Expr} {x : E} {ty : Ty} {p pos : Pos} (F : Fit X cc k) (E1 : Env1 X.K y X.prog X.w X.mg X.base k) (hg : cc.gl ("isinstance" : Str) = true) (hs : noStar a = true) (ha : PE X a (tEv X.K y W x)) (ht : cTy cc t = some ty) :
    PE X (.Call (.Name "isinstance" p) [a, t] [] pos) (tEv X.K y W (.isi x [ty])) := by
  obtain ⟨g1, g2, g3⟩ := F.gl hg
  have hst : noStar t = true := by
    obtain ⟨p, rfl, _⟩ := cTy_ok ht
    rfl
  exact pe_imp (pe_callB call_isi g1 (E1.hB _ (by simp)) rfl (pa_cons ha (pa_cons (pe_ty F E1 ht) pa_nil (star_cons hst)) (star_cons hs)) g3 g2 (star_cons hs) (star_any (by simp [hst]))) fun σ H Q h => rd_isi h
theorem so_isiT {a : Expr} {ts : List Expr} {x : E} {tys : List Ty} {kk : Nat} {p pt pos : Pos} (F : Fit X cc k) (E1 : Env1 X.K y X.prog X.w X.mg X.base k) (hg : cc.gl ("isinstance" : Str) = true) (hs : noStar a = true) (ha : PE X a (tEv X.K y W x)) (ht : cTys cc ts = some tys) (hne : tys ≠ []) (hz : tys.length ≤ 8) :
    PE X (.Call (.Name "isinstance" p) [a, .Tuple ts kk pt] [] pos) (tEv X.K y W (.isi x tys)) := by
  obtain ⟨g1, g2, g3⟩ := F.gl hg
  have hz' : tys.length ≤ sizeLine := Nat.le_trans hz (by decide)
  exact pe_imp (pe_callB call_isiT g1 (E1.hB _ (by simp)) rfl (pa_cons ha (pa_cons (pe_tup (pa_tys F E1 ht)) pa_nil (star_cons rfl)) (star_cons hs)) g3 g2 (star_cons hs) (star_any rfl)) fun σ H Q h => rd_isiT hz' hne h
end
end Lt

/-! Lt, part L: every expression. -/
namespace Lt
open PySem L2
section
variable {X : Cx} {y : Sy} {W : WX} {cc : CC} {k : Nat}
theorem iter_ok {tg iter : Expr} {ik : Ik} {srcs : List Expr} (F : Fit X cc k) (E1 : Env1 X.K y X.prog X.w X.mg X.base k) (h : cIter cc tg iter = some (ik, srcs)) :
    (∀ ils : List E, srcs.length = ils.length → (∀ p ∈ srcs.zip ils, PE X p.1 (tEv X.K y W p.2)) → PI X tg iter (tItR X.K y W ik ils)) ∧
    (∀ ils : List E, srcs.length = ils.length → (∀ p ∈ srcs.zip ils, PE X p.1 (tEv X.K y W p.2)) → PI X tg iter (tItS X.K y W ik ils)) := by
  have seq : ∀ e : Expr, ik = .seq → srcs = [e] → iter = e → (∀ ils : List E, srcs.length = ils.length → (∀ p ∈ srcs.zip ils, PE X p.1 (tEv X.K y W p.2)) → PI X tg iter (tItR X.K y W ik ils)) ∧
    (∀ ils : List E, srcs.length = ils.length → (∀ p ∈ srcs.zip ils, PE X p.1 (tEv X.K y W p.2)) → PI X tg iter (tItS X.K y W ik ils)) := by
    rintro e rfl rfl rfl
    refine ⟨fun ils hl hp => ?_, fun ils hl hp => ?_⟩
    · match ils, hl with
      | [il], _ => exact pi_imp (pi_seq (hp (_, il) (by simp))) fun σ H R z => itR_seq z
    · match ils, hl with
      | [il], _ => exact pi_imp (pi_seq (hp (_, il) (by simp))) fun σ H R z => itS_seq z
  unfold cIter at h
  split at h
  · rename_i f p args pos
    split at h
    · rename_i q
      simp only [Bool.and_eq_true, beq_iff_eq] at q
      obtain ⟨⟨⟨q1, q2⟩, q3⟩, q4⟩ := q
      subst q2
      cases h
      obtain ⟨g1, g2, g3⟩ := F.gl q1
      match srcs, q3 with
      | [a], _ =>
        refine ⟨fun ils hl hp => ?_, fun ils hl hp => ?_⟩
        · exact pi_imp (pi_range1 g1 (E1.hB _ (by simp)) (so_evr q4 hp hl) (star_cons (by simpa using q4))) fun σ H R z => itR_args z fun vs ds items w h1 h2 h3 => src_rng1 h1 h2 h3
        · exact pi_imp (pi_range1 g1 (E1.hB _ (by simp)) (so_evs q4 hp hl) (star_cons (by simpa using q4))) fun σ H R z => itS_args z fun vs ds items w h1 h2 h3 => src_rng1 h1 h2 h3
    · split at h
      · rename_i q
        simp only [Bool.and_eq_true, beq_iff_eq] at q
        obtain ⟨⟨⟨q1, q2⟩, q3⟩, q4⟩ := q
        subst q2
        cases h
        obtain ⟨g1, g2, g3⟩ := F.gl q1
        match srcs, q3 with
        | [a, b], _ =>
          have q5 := q4
          simp only [List.all_cons, List.all_nil, Bool.and_eq_true] at q5
          have st2 : starEach [b] X.env = [(false, eval b X.env)] := star_cons q5.2.1
          have st1 : starEach [a, b] X.env = [(false, eval a X.env), (false, eval b X.env)] := by rw [star_cons q5.1, st2]
          refine ⟨fun ils hl hp => ?_, fun ils hl hp => ?_⟩
          · exact pi_imp (pi_range2 g1 (E1.hB _ (by simp)) (so_evr q4 hp hl) st1 st2) fun σ H R z => itR_args z fun vs ds items w h1 h2 h3 => src_rng2 h1 h2 h3
          · exact pi_imp (pi_range2 g1 (E1.hB _ (by simp)) (so_evs q4 hp hl) st1 st2) fun σ H R z => itS_args z fun vs ds items w h1 h2 h3 => src_rng2 h1 h2 h3
      · split at h
        · rename_i q
          simp only [Bool.and_eq_true, beq_iff_eq] at q
          obtain ⟨⟨⟨⟨q1, q2⟩, q3⟩, q4⟩, q5⟩ := q
          subst q2
          cases h
          obtain ⟨g1, g2, g3⟩ := F.gl q1
          cases tg <;> simp only [isTup] at q5 <;> try cases q5
          match srcs, q3 with
          | [a], _ =>
            refine ⟨fun ils hl hp => ?_, fun ils hl hp => ?_⟩
            · exact pi_imp (pi_enum g1 (E1.hB _ (by simp)) (so_evr q4 hp hl) (star_cons (by simpa using q4))) fun σ H R z => itR_args z fun vs ds items w h1 h2 h3 => src_enum h1 h2 h3
            · exact pi_imp (pi_enum g1 (E1.hB _ (by simp)) (so_evs q4 hp hl) (star_cons (by simpa using q4))) fun σ H R z => itS_args z fun vs ds items w h1 h2 h3 => src_enum h1 h2 h3
        · split at h
          · rename_i q
            simp only [Bool.and_eq_true, beq_iff_eq] at q
            obtain ⟨⟨⟨⟨q1, q2⟩, q3⟩, q4⟩, q5⟩ := q
            subst q2
            cases h
            obtain ⟨g1, g2, g3⟩ := F.gl q1
            cases tg <;> simp only [isTup] at q5 <;> try cases q5
            match srcs, q3 with
            | [a, b], _ =>
              have q6 := q4
              simp only [List.all_cons, List.all_nil, Bool.and_eq_true] at q6
              refine ⟨fun ils hl hp => ?_, fun ils hl hp => ?_⟩
              · exact pi_imp (pi_zip g1 (E1.hB _ (by simp)) (so_evr q4 hp hl) (star_cons q6.1) (star_any (by simp [q6.2.1]))) fun σ H R z => itR_args z fun vs ds items w h1 h2 h3 => src_zip h1 h2 h3
              · exact pi_imp (pi_zip g1 (E1.hB _ (by simp)) (so_evs q4 hp hl) (star_cons q6.1) (star_any (by simp [q6.2.1]))) fun σ H R z => itS_args z fun vs ds items w h1 h2 h3 => src_zip h1 h2 h3
          · split at h
            · cases h
            · cases h
              exact seq _ rfl rfl rfl
  · cases h
    exact seq _ rfl rfl rfl
theorem noset_ok {e : Expr} {env : PySem.Env} (h : noSet e = true) (x : Value) : foldedSetIterable e env x = pure x := by
  cases e <;> first | rfl | (cases h)
theorem fit_blk (F : Fit X cc k) {scope : Scope} (s : Shared) (H : Hp) (C : Addr) (cl : List (Str × Addr)) (fp : List Addr) : Fit (X.blk s H scope (compEnvC scope cl C X.env) fp) (cc.inner scope) k :=
  ⟨F.N, F.nd, by
    show relS scope X.env.scope = relS scope cc.sc
    rw [F.sc], fun x h => h, F.calm, F.room⟩
theorem plainIx_of {b : Expr} (h : ∀ lo hi st p, b ≠ .Slice lo hi st p) : PlainIx b := by
  intro o i
  cases b <;> first | rfl | exact absurd rfl (h _ _ _ _)
end
def Snd (y : Sy) (k n : Nat) (X : Cx) (W : WX) (cc : CC) : Prop :=
  (∀ e il, cE y.sig y.shp n cc e = some il → PE X e (tEv X.K y W il)) ∧
  (∀ e il, isIf e = false → cE y.sig y.shp n cc e = some il → PT X e (tTest (tEv X.K y W il))) ∧
  (∀ op vs pos il, cE y.sig y.shp n cc (.BoolOp op vs pos) = some il → PW X (.BoolOp op vs pos) (tTest (tEv X.K y W il)))
section
variable {X : Cx} {y : Sy} {W : WX} {cc : CC} {k : Nat}
theorem cBop_ok {op : Operator} {o : Bop} (h : cBop op = some o) : op = bopOf o := by cases op <;> simp only [cBop] at h <;> cases h <;> rfl
theorem cCop_ok {op : CmpOp} {o : Cop} (h : cCop op = some o) : op = copOf o := by cases op <;> simp only [cCop] at h <;> cases h <;> rfl
end
end Lt

/-! Lt, part M: every expression, by induction. -/
namespace Lt
open PySem L2
section
variable {X : Cx} {y : Sy} {W : WX} {cc : CC} {k n : Nat}
abbrev IH (y : Sy) (k n : Nat) : Prop := ∀ (X : Cx) (W : WX) (cc : CC), Fit X cc k → Env1 X.K y X.prog X.w X.mg X.base k → Takes X W → Snd y k n X W cc
theorem st_list (ih : Snd y k n X W cc) {es : List Expr} {ils : List E} (h : es.mapM (cE y.sig y.shp n cc) = some ils) : es.length = ils.length ∧ ∀ p ∈ es.zip ils, PE X p.1 (tEv X.K y W p.2) := by
  obtain ⟨h1, h2⟩ := mapM_all h
  exact ⟨h1, fun p hp => ih.1 _ _ (h2 p hp)⟩
theorem st_name (F : Fit X cc k) (E1 : Env1 X.K y X.prog X.w X.mg X.base k) {x : Str} {p : Pos} {il : E} (h : cE y.sig y.shp (n + 1) cc (.Name x p) = some il) : PE X (.Name x p) (tEv X.K y W il) := by
  simp only [cE] at h
  split at h
  · rename_i hv
    cases q : slot cc.N x with
    | none => rw [q] at h; cases h
    | some i =>
      rw [q] at h
      cases h
      obtain ⟨v1, v2, v3⟩ := F.vis hv
      exact so_var (by rw [F.N]; exact slot_ok q) v1 v2 v3
  · split at h
    · rename_i hg
      cases h
      obtain ⟨g1, g2, g3⟩ := F.gl hg
      cases q : y.G x with
      | none =>
        refine ⟨fun pins s σ H Q I h => ?_⟩
        obtain ⟨Γ, st, wd, rfl, sr, s0, p⟩ := h
        simp only [ev, q, Option.map_none, ofO] at p
        exact p.elim
      | some d =>
        obtain ⟨v, u, m1, m2, m3⟩ := E1.hG x d q
        exact so_glob (pe_glob g1 m1 m2 g2) q m3
    · cases h
theorem st_const {c : Const} {j : Nat} {p : Pos} {il : E} (h : cE y.sig y.shp (n + 1) cc (.Constant c j p) = some il) : PE X (.Constant c j p) (tEv X.K y W il) := by
  cases c <;> simp only [cE] at h <;> cases h
  · exact so_const pe_non fun _ => .non
  · exact so_const pe_bl fun _ => .bl _
  · exact so_const pe_int fun _ => .int _
  · exact so_const pe_str fun _ => .str _
theorem st_bin (ih : Snd y k n X W cc) {a b : Expr} {op : Operator} {p : Pos} {il : E} (h : cE y.sig y.shp (n + 1) cc (.BinOp a op b p) = some il) : PE X (.BinOp a op b p) (tEv X.K y W il) := by
  simp only [cE] at h
  split at h
  · rename_i o x z h1 h2 h3
    cases h
    rw [cBop_ok h1]
    exact so_bin (ih.1 _ _ h2) (ih.1 _ _ h3)
  · cases h
theorem st_un (ih : Snd y k n X W cc) {a : Expr} {op : UnaryOp} {p : Pos} {il : E} (h : cE y.sig y.shp (n + 1) cc (.UnaryOp op a p) = some il) : PE X (.UnaryOp op a p) (tEv X.K y W il) ∧ PT X (.UnaryOp op a p) (tTest (tEv X.K y W il)) := by
  cases op <;> simp only [cE] at h <;> try (cases h; done)
  · split at h
    · cases h
    · rename_i hif
      cases q : cE y.sig y.shp n cc a with
      | none => rw [q] at h; cases h
      | some x =>
        rw [q] at h
        cases h
        exact ⟨pe_imp (pe_not (ih.1 _ _ q)) fun σ H Q z => rd_not z, pt_imp (pt_not (ih.2.1 _ _ (by simpa using hif) q)) fun σ H Q z => rd_tnot z⟩
  · cases q : cE y.sig y.shp n cc a with
    | none => rw [q] at h; cases h
    | some x =>
      rw [q] at h
      cases h
      have pe := so_neg (pos := p) (ih.1 _ _ q)
      exact ⟨pe, pt_val pe⟩
theorem st_bool (ih : Snd y k n X W cc) {op : BoolOp} {vs : List Expr} {p : Pos} {il : E} (h : cE y.sig y.shp (n + 1) cc (.BoolOp op vs p) = some il) : PE X (.BoolOp op vs p) (tEv X.K y W il) ∧ PW X (.BoolOp op vs p) (tTest (tEv X.K y W il)) := by
  match vs, op, h with
  | [], .And, h => simp only [cE] at h; cases h
  | [], .Or, h => simp only [cE] at h; cases h
  | [a], .And, h =>
    simp only [cE] at h
    split at h
    · cases h
    · rename_i hif
      exact ⟨pe_one (ih.1 _ _ h), pw_and1 (ih.2.1 _ _ (by simpa using hif) h)⟩
  | [a], .Or, h =>
    simp only [cE] at h
    split at h
    · cases h
    · rename_i hif
      exact ⟨pe_one (ih.1 _ _ h), pw_or1 (ih.2.1 _ _ (by simpa using hif) h)⟩
  | a :: b :: r, .And, h =>
    simp only [cE] at h
    split at h
    · cases h
    · rename_i hif
      split at h
      · rename_i x z h1 h2
        cases h
        exact ⟨pe_imp (pe_and (ih.1 _ _ h1) (ih.1 _ _ h2)) fun σ H Q z => rd_and z, pw_imp (pw_and (ih.2.1 _ _ (by simpa using hif) h1) (ih.2.2 _ _ _ _ h2)) fun σ H Q z => rd_tand z⟩
      · cases h
  | a :: b :: r, .Or, h =>
    simp only [cE] at h
    split at h
    · cases h
    · rename_i hif
      split at h
      · rename_i x z h1 h2
        cases h
        exact ⟨pe_imp (pe_or (ih.1 _ _ h1) (ih.1 _ _ h2)) fun σ H Q z => rd_or z, pw_imp (pw_or (ih.2.1 _ _ (by simpa using hif) h1) (ih.2.2 _ _ _ _ h2)) fun σ H Q z => rd_tor z⟩
      · cases h
theorem st_cmp (F : Fit X cc k) (ih : Snd y k n X W cc) {a : Expr} {ops : List CmpOp} {bs : List Expr} {p : Pos} {il : E} (h : cE y.sig y.shp (n + 1) cc (.Compare a ops bs p) = some il) : PE X (.Compare a ops bs p) (tEv X.K y W il) ∧ PT X (.Compare a ops bs p) (tTest (tEv X.K y W il)) := by
  match ops, bs, h with
  | [op], [b], h =>
    simp only [cE] at h
    split at h
    · cases h
    · rename_i hm
      split at h
      · rename_i o x z h1 h2 h3
        cases h
        have hm' : behindInMarks op b = false := by simpa using hm
        rw [cCop_ok h1] at hm' ⊢
        exact ⟨pe_imp (pe_cmpR (opr_cmp F.room.units o) (ih.1 _ _ h2) (ih.1 _ _ h3) hm') fun σ H Q z => rd_cmp z, pt_imp (pt_cmpR (opr_cmp F.room.units o) (ih.1 _ _ h2) (ih.1 _ _ h3) hm') fun σ H Q z => rd_cmp z⟩
      · cases h
  | [op, op'], [b, c], h =>
    simp only [cE] at h
    split at h
    · cases h
    · rename_i hm
      split at h
      · rename_i o o' x z u h1 h1' h2 h3 h4
        cases h
        have hm' : behindInMarks op' c = false := by
          simp only [Bool.or_eq_true, not_or, Bool.not_eq_true] at hm
          exact hm.2
        have hm2 : lastMarks [op, op'] [b, c] = false := hm'
        rw [cCop_ok h1, cCop_ok h1'] at hm2 ⊢
        exact ⟨pe_imp (pe_chain (opr_cmp F.room.units o) (opr_cmp F.room.units o') (ih.1 _ _ h2) (ih.1 _ _ h3) (ih.1 _ _ h4) hm2) fun σ H Q z => rd_chain z, pt_imp (pt_chain (opr_cmp F.room.units o) (opr_cmp F.room.units o') (ih.1 _ _ h2) (ih.1 _ _ h3) (ih.1 _ _ h4) hm2) fun σ H Q z => rd_chain z⟩
      · cases h
  | [], _, h => simp only [cE] at h; cases h
  | [_], [], h => simp only [cE] at h; cases h
  | [_], _ :: _ :: _, h => simp only [cE] at h; cases h
  | [_, _], [], h => simp only [cE] at h; cases h
  | [_, _], [_], h => simp only [cE] at h; cases h
  | [_, _], _ :: _ :: _ :: _, h => simp only [cE] at h; cases h
  | _ :: _ :: _ :: _, _, h => simp only [cE] at h; cases h
theorem st_ife (ih : Snd y k n X W cc) {c a b : Expr} {p : Pos} {il : E} (h : cE y.sig y.shp (n + 1) cc (.IfExp c a b p) = some il) : PE X (.IfExp c a b p) (tEv X.K y W il) := by
  simp only [cE] at h
  split at h
  · cases h
  · rename_i hif
    split at h
    · rename_i x z u h1 h2 h3
      cases h
      exact pe_imp (pe_ifExp (ih.2.1 _ _ (by simpa using hif) h1) (ih.1 _ _ h2) (ih.1 _ _ h3)) fun σ H Q z => rd_ife z
    · cases h
theorem st_lst (ih : Snd y k n X W cc) {es : List Expr} {p : Pos} {il : E} (h : cE y.sig y.shp (n + 1) cc (.List es p) = some il) : PE X (.List es p) (tEv X.K y W il) := by
  simp only [cE] at h
  split at h
  · rename_i hs
    cases q : es.mapM (cE y.sig y.shp n cc) with
    | none => rw [q] at h; cases h
    | some ils =>
      rw [q] at h
      cases h
      obtain ⟨h1, h2⟩ := st_list ih q
      exact so_lst (so_evs hs h2 h1)
  · cases h
theorem st_tup (ih : Snd y k n X W cc) {es : List Expr} {kk : Nat} {p : Pos} {il : E} (h : cE y.sig y.shp (n + 1) cc (.Tuple es kk p) = some il) : PE X (.Tuple es kk p) (tEv X.K y W il) := by
  simp only [cE] at h
  split at h
  · rename_i hs
    cases q : es.mapM (cE y.sig y.shp n cc) with
    | none => rw [q] at h; cases h
    | some ils =>
      rw [q] at h
      cases h
      obtain ⟨h1, h2⟩ := st_list ih q
      exact so_tup (so_evs hs h2 h1)
  · cases h
theorem st_part (ih : Snd y k n X W cc) {o : Option Expr} {l : Option E} (h : (match o with | none => some none | some e => (cE y.sig y.shp n cc e).map some) = some l) : PO X o (tEvo X.K y W l) := by
  cases o with
  | none => cases h; exact so_evo_none
  | some e =>
    cases q : cE y.sig y.shp n cc e with
    | none => simp only [q] at h; cases h
    | some x =>
      simp only [q] at h
      cases h
      exact so_evo_some (ih.1 _ _ q)
theorem st_sub (ih : Snd y k n X W cc) {a b : Expr} {p : Pos} {il : E} (h : cE y.sig y.shp (n + 1) cc (.Subscript a b p) = some il) : PE X (.Subscript a b p) (tEv X.K y W il) := by
  by_cases hsl : ∃ lo hi st q, b = .Slice lo hi st q
  · obtain ⟨lo, hi, st, q, rfl⟩ := hsl
    cases st with
    | none =>
      simp only [cE] at h
      split at h
      · rename_i x l u h1 h2 h3
        cases h
        exact so_slice (ih.1 _ _ h1) (st_part ih h2) (st_part ih h3)
      · cases h
    | some e =>
      simp only [cE] at h
      obtain ⟨x, z, h1, h2, _⟩ := opt2_some h
      cases n with
      | zero => simp only [cE] at h2; cases h2
      | succ n => simp only [cE] at h2; cases h2
  · have hb : ∀ lo hi st q, b ≠ .Slice lo hi st q := fun lo hi st q z => hsl ⟨lo, hi, st, q, z⟩
    have h' : opt2 E.idx (cE y.sig y.shp n cc a) (cE y.sig y.shp n cc b) = some il := by
      cases b <;> first | (simpa only [cE] using h) | exact absurd rfl (hb _ _ _ _)
    obtain ⟨x, z, h1, h2, rfl⟩ := opt2_some h'
    exact so_idx (ih.1 _ _ h1) (ih.1 _ _ h2) (plainIx_of hb)
end
end Lt

/-! Lt, part N: every expression, by induction: calls, comprehensions, the end. -/
namespace Lt
open PySem L2
section
variable {X : Cx} {y : Sy} {W : WX} {cc : CC} {k n : Nat}
theorem st_callN (F : Fit X cc k) (E1 : Env1 X.K y X.prog X.w X.mg X.base k) (tk : Takes X W) (ih : Snd y k n X W cc) {f : Str} {p0 p : Pos} {args : List Expr} {kws : List Keyword} {il : E} (h : cE y.sig y.shp (n + 1) cc (.Call (.Name f p0) args kws p) = some il) : PE X (.Call (.Name f p0) args kws p) (tEv X.K y W il) := by
  simp only [cE] at h
  split at h
  · rename_i hc
    simp only [Bool.and_eq_true] at hc
    obtain ⟨hg, hs⟩ := hc
    obtain ⟨g1, g2, g3⟩ := F.gl hg
    split at h
    · rename_i ps hsig
      split at h
      · rename_i hk
        simp only [Bool.and_eq_true, List.contains_iff_mem] at hk
        split at h
        · rename_i xs ys h1 h2
          cases h
          obtain ⟨l1, q1⟩ := st_list ih h1
          obtain ⟨l2, q2⟩ := mapM_all h2
          exact so_call E1 F.room g1 g2 hsig hk.2 hs hk.1 (so_evs hs q1 l1) (so_evk (fun p hp => ih.1 _ _ (q2 p hp)) l2) l1 l2 tk
        · cases h
      · cases h
    · rename_i hsig
      split at h
      · split at h
        · rename_i hi
          rw [beq_iff_eq] at hi
          subst hi
          split at h
          · rename_i a ts _ _
            split at h
            · rename_i x t tys h1 h2
              split at h
              · rename_i hz
                cases h
                simp only [List.all_cons, Bool.and_eq_true] at hs
                exact so_isiT F E1 hg hs.1 (ih.1 _ _ h1) h2 (by simp) hz
              · cases h
            · cases h
          · rename_i a t _
            split at h
            · rename_i x ty h1 h2
              cases h
              simp only [List.all_cons, Bool.and_eq_true] at hs
              exact so_isi F E1 hg hs.1 (ih.1 _ _ h1) h2
            · cases h
          · cases h
        · split at h
          · rename_i b e es hb
            cases q : (e :: es).mapM (cE y.sig y.shp n cc) with
            | none => rw [q] at h; cases h
            | some ils =>
              rw [q] at h
              cases h
              obtain ⟨l1, q1⟩ := st_list ih q
              exact so_blt F E1 hg hb hs (so_evr hs q1 l1)
          · cases h
      · cases h
  · cases h
theorem st_callA (ih : Snd y k n X W cc) {o : Expr} {m : Str} {ap p : Pos} {args : List Expr} {kws : List Keyword} {il : E} (h : cE y.sig y.shp (n + 1) cc (.Call (.Attribute o m ap) args kws p) = some il) : PE X (.Call (.Attribute o m ap) args kws p) (tEv X.K y W il) := by
  simp only [cE] at h
  split at h
  · rename_i s _ _ x
    split at h
    · rename_i hc
      simp only [Bool.and_eq_true, beq_iff_eq] at hc
      obtain ⟨⟨h1, h2⟩, h3⟩ := hc
      subst h1
      cases q : cE y.sig y.shp n cc x with
      | none => rw [q] at h; cases h
      | some z =>
        rw [q] at h
        cases h
        exact so_join (ih.1 _ _ q) h3 (by simpa using h2)
    · cases h
  · cases h
theorem st_lc (ih : IH y k n) (F : Fit X cc k) (E1 : Env1 X.K y X.prog X.w X.mg X.base k) (tk : Takes X W) {elt : Expr} {gs : List Comprehension} {scope : Scope} {p : Pos} {il : E} (h : cE y.sig y.shp (n + 1) cc (.ListComp elt gs scope p) = some il) : PE X (.ListComp elt gs scope p) (tEv X.K y W il) := by
  match gs, h with
  | [], h => simp only [cE] at h; cases h
  | _ :: _ :: _, h => simp only [cE] at h; cases h
  | [⟨tg, iter, ifs, a⟩], h =>
    simp only [cE] at h
    split at h
    · rename_i hc
      simp only [Bool.and_eq_true, beq_iff_eq, Bool.not_eq_true', decide_eq_true_eq] at hc
      obtain ⟨⟨⟨⟨h1, h2⟩, h3⟩, h4⟩, h5⟩ := hc
      subst h1
      split at h
      · rename_i ik srcs hit
        split at h
        · rename_i ss t is el q1 q2 q3 q4
          split at h
          · rename_i hsl
            cases h
            have ihX := ih X W cc F E1 tk
            obtain ⟨l1, e1⟩ := st_list ihX q1
            have blk : ∀ (s : Shared) (H : Hp) (C : Addr) (cl : List (Str × Addr)) (fp : List Addr), Snd y k n (X.blk s H scope (compEnvC scope cl C X.env) fp) (fun _ _ _ _ => False) (cc.inner scope) := fun s H C cl fp =>
              ih _ _ _ (fit_blk F s H C cl fp) E1 takes0
            refine so_lc (W0 := fun _ _ _ _ => False) F.calm F.nd ((iter_ok F E1 hit).1 ss l1 e1) (by rw [F.N, F.sc]; exact blkOk_by h3) (fun i hi => ?_) (fun s H C cl fp => so_tg (fit_blk F s H C cl fp) n q2) (fun s H C cl fp => ?_) (fun s H C cl fp => (blk s H C cl fp).1 _ _ q4) (noset_ok h4)
            · have := List.all_eq_true.mp hsl i hi
              simpa using this
            · obtain ⟨l3, e3⟩ := mapM_all q3
              match ifs, is, h2, l3, e3, h5 with
              | [], [], _, _, _, _ => exact so_evt0
              | [c], [il], _, _, e3, h5 => exact so_evt1 ((blk s H C cl fp).2.1 _ _ (by simpa using h5) (e3 (c, il) (by simp)))
          · cases h
        · cases h
      · cases h
    · cases h
theorem sound_step (ih : IH y k n) : IH y k (n + 1) := fun X W cc F E1 tk => by
  have ihX := ih X W cc F E1 tk
  have pe : ∀ e il, cE y.sig y.shp (n + 1) cc e = some il → PE X e (tEv X.K y W il) := fun e il h => by
    cases e with
    | Name x p => exact st_name F E1 h
    | Constant c j p => exact st_const h
    | BinOp a op b p => exact st_bin ihX h
    | UnaryOp op a p => exact (st_un ihX h).1
    | BoolOp op vs p => exact (st_bool ihX h).1
    | Compare a ops bs p => exact (st_cmp F ihX h).1
    | IfExp c a b p => exact st_ife ihX h
    | List es p => exact st_lst ihX h
    | Tuple es kk p => exact st_tup ihX h
    | Subscript a b p => exact st_sub ihX h
    | Call f args kws p =>
      cases f with
      | Name f p0 => exact st_callN F E1 tk ihX h
      | Attribute o m ap => exact st_callA ihX h
      | _ => simp only [cE] at h; cases h
    | ListComp elt gs scope p => exact st_lc ih F E1 tk h
    | _ => simp only [cE] at h; cases h
  refine ⟨pe, fun e il hif h => ?_, fun op vs pos il h => (st_bool ihX h).2⟩
  cases e with
  | UnaryOp op a p => exact (st_un ihX h).2
  | BoolOp op vs p => exact (st_bool ihX h).2.pt
  | Compare a ops bs p => exact (st_cmp F ihX h).2
  | IfExp c a b p => cases hif
  | _ => exact pt_val (pe _ _ h)
theorem sound : ∀ n : Nat, IH y k n
  | 0 => fun X W cc F E1 tk => ⟨fun e il h => (by simp only [cE] at h; cases h), fun e il _ h => (by simp only [cE] at h; cases h), fun _ _ _ _ h => (by simp only [cE] at h; cases h)⟩
  | n + 1 => sound_step (sound n)
end
end Lt

/-! Lt, part O: statements and their evaluation. -/
namespace Lt
open PySem L2
inductive S where
  | ret (e : E) | retN | asg (i : Nat) (e : E) | asgT (t : Tg) (e : E) | asgSto (i : Nat) (e : E) | drop (e : E)
  | app (i : Nat) (e : E) | ins (i : Nat) (a e : E) | setI (o i e : E)
  | ife (c : E) (a b : List S) | for_ (k : Ik) (tg : Tg) (srcs : List E) (body : List S) | while_ (c : E) (body : List S)
  | pass | brk | cont
/-! slots whose values are handed on -/
mutual
def esc : Bool → E → List Nat
  | m, .var i => if m then [i] else []
  | _, .c _ => []
  | _, .glob _ => []
  | _, .bin _ a b => esc false a ++ esc false b
  | _, .neg a => esc false a
  | _, .cmp _ a b => esc false a ++ esc false b
  | _, .chain _ _ a b c => esc false a ++ esc false b ++ esc false c
  | m, .and a b => esc m a ++ esc m b
  | m, .or a b => esc m a ++ esc m b
  | _, .not a => esc false a
  | m, .ife c a b => esc false c ++ esc m a ++ esc m b
  | _, .lst es => escs true es
  | _, .tup es => escs true es
  | _, .idx a i => esc false a ++ esc false i
  | _, .slice a lo hi => esc false a ++ esco lo ++ esco hi
  | _, .call _ es _ => escs true es
  | _, .blt _ es => escs false es
  | _, .join a b => esc false a ++ esc false b
  | _, .isi a _ => esc false a
  | _, .lc own _ _ srcs ifs elt => escs false srcs ++ (escs false ifs ++ esc true elt).filter fun i => !own.contains i
def escs : Bool → List E → List Nat
  | _, [] => []
  | m, e :: es => esc m e ++ escs m es
def esco : Option E → List Nat
  | none => []
  | some e => esc false e
end
/-- these slots own nothing any more -/
def freeze (Γ : Env) : List Nat → Env
  | [] => Γ
  | i :: r => match (freeze Γ r)[i]? with
    | some (some (d, true)) => (freeze Γ r).set i (some (d, false))
    | _ => freeze Γ r
inductive RS where
  | nx (Γ : Env) (st : Sto) | rt (x : D × Fl) (st : Sto) | bk (Γ : Env) (st : Sto) | ct (Γ : Env) (st : Sto) | exc (x : Xc) (Γ : Env) (st : Sto) | bad
def bindS {α : Type} (Γ : Env) (r : R α) (k : α → Sto → RS) : RS :=
  match r with
  | .ok a st => k a st
  | .exc x st => .exc x Γ st
  | .bad => .bad
def RS.andThen (r : RS) (k : Env → Sto → RS) : RS :=
  match r with
  | .nx Γ st => k Γ st
  | r => r
def loopS (tg : Tg) (body : Env → Sto → RS) : List D → Env → Sto → RS
  | [], Γ, st => .nx Γ st
  | d :: r, Γ, st => match bindT Γ tg d with
    | some Γ' => match body Γ' st with
      | .nx Γ st => loopS tg body r Γ st
      | .ct Γ st => loopS tg body r Γ st
      | .bk Γ st => .nx Γ st
      | x => x
    | none => .bad
def whileS (c : Env → Sto → R (D × Fl)) (body : Env → Sto → RS) : Nat → Env → Sto → RS
  | 0, _, _ => .bad
  | n + 1, Γ, st => bindS Γ (c Γ st) fun x st => match x.1 with
    | .bl false => .nx Γ st
    | .bl true => match body Γ st with
      | .nx Γ st => whileS c body n Γ st
      | .ct Γ st => whileS c body n Γ st
      | .bk Γ st => .nx Γ st
      | x => x
    | _ => .bad
/-- an item of a store's list is set -/
def stoSet (st : Sto) (o i : D) (v : D) : Option Sto :=
  match o, i with
  | .ref n, .int i => match st[n]? with
    | some (.lst xs) => (ixN xs.length i).map fun j => st.set n (.lst (xs.set j v))
    | none => none
  | _, _ => none
section
variable (G : Str → Option D) (sig : Str → Option (List Str)) (call : Str → List D → Sto → R (D × Fl)) (fu : Nat)
mutual
def evS (Γ : Env) (st : Sto) : S → RS
  | .ret e => bindS (freeze Γ (esc true e)) (ev G sig call (freeze Γ (esc true e)) st e) fun x st => if x.2 = .bor then .bad else .rt x st
  | .retN => .rt (.non, .sh) st
  | .asg i e => bindS (freeze Γ (esc true e)) (ev G sig call (freeze Γ (esc true e)) st e) fun x st => if i < Γ.length then (match x.2 with
      | .sh => .nx ((freeze Γ (esc true e)).set i (some (x.1, false))) st
      | .own => .nx ((freeze Γ (esc true e)).set i (some (x.1, true))) st
      | .bor => .bad) else .bad
  | .asgT t e => bindS (freeze Γ (esc true e)) (ev G sig call (freeze Γ (esc true e)) st e) fun x st => if x.2 = .sh then (match bindT (freeze Γ (esc true e)) t x.1 with
      | some Γ' => .nx Γ' st
      | none => .bad) else .bad
  | .asgSto i e => bindS (freeze Γ (esc true e)) (ev G sig call (freeze Γ (esc true e)) st e) fun x st => if i < Γ.length then (match x with
      | (.lst ds, .own) => .nx ((freeze Γ (esc true e)).set i (some (.ref st.length, false))) (st ++ [.lst ds])
      | _ => .bad) else .bad
  | .drop e => bindS (freeze Γ (esc false e)) (ev G sig call (freeze Γ (esc false e)) st e) fun _ st => .nx (freeze Γ (esc false e)) st
  | .app i e => match (freeze Γ (escs true [e]))[i]? with
      | some (some (.lst xs, true)) => bindS (freeze Γ (escs true [e])) (evs G sig call (freeze Γ (escs true [e])) st [e]) fun ds st => (match ds with
        | [d] => if sizeLine ≤ xs.length then .bad else .nx ((freeze Γ (escs true [e])).set i (some (.lst (xs ++ [d]), true))) st
        | _ => .bad)
      | _ => .bad
  | .ins i a e => match (freeze Γ (escs true [a, e]))[i]? with
      | some (some (.lst xs, true)) => bindS (freeze Γ (escs true [a, e])) (evs G sig call (freeze Γ (escs true [a, e])) st [a, e]) fun ds st => (match ds with
        | [.int j, d] => if sizeLine ≤ xs.length ∨ ¬ (0 ≤ j ∧ j < 2 ^ 63) then .bad else .nx ((freeze Γ (escs true [a, e])).set i (some (.lst (xs.take j.toNat ++ [d] ++ xs.drop j.toNat), true))) st
        | _ => .bad)
      | _ => .bad
  | .setI o i e => bindS (freeze Γ (escs true [e, o, i])) (evs G sig call (freeze Γ (escs true [e, o, i])) st [e, o, i]) fun ds st => match ds with
      | [d, p, j] => (match stoSet st p j d with
        | some st => .nx (freeze Γ (escs true [e, o, i])) st
        | none => .bad)
      | _ => .bad
  | .ife c a b => bindS (freeze Γ (esc false c)) (ev G sig call (freeze Γ (esc false c)) st c) fun x st => match x.1 with
      | .bl true => evSs (freeze Γ (esc false c)) st a
      | .bl false => evSs (freeze Γ (esc false c)) st b
      | _ => .bad
  | .for_ k tg srcs body => bindS (freeze Γ (escs true srcs)) ((evs G sig call (freeze Γ (escs true srcs)) st srcs).bind fun ds st => ofO (itF k ds) st) fun items st =>
      loopS tg (fun Γ st => evSs Γ st body) items (freeze Γ (escs true srcs)) st
  | .while_ c body => whileS (fun Γ st => ev G sig call Γ st c) (fun Γ st => evSs Γ st body) fu (freeze Γ (esc false c)) st
  | .pass => .nx Γ st
  | .brk => .bk Γ st
  | .cont => .ct Γ st
def evSs (Γ : Env) (st : Sto) : List S → RS
  | [] => .nx Γ st
  | s :: ss => (evS Γ st s).andThen fun Γ st => evSs Γ st ss
end
end
end Lt

/-! Lt, part P: what a statement's outcome promises; simple statements. -/
namespace Lt
open PySem L2
section
variable (K : PySem.W.Frag)
/-- a frame: w0 its entry, wz an earlier state -/
structure FR (w0 wz : Wd) (Γ : Env) (σ : L2.St) (st : Sto) (w : Wd) : Prop where
  eff : Eff w0 w
  fz : Fz wz w
  s : SRel K st w
  sr : SR K Γ σ w
  fresh : ∀ (i : Nat) d a, Γ[i]? = some (some (d, true)) → σ[i]? = some (some (.ref a)) → w0.H a = none
variable (XR : Wd → Value → Option Addr → Xc → Prop) (W : WX)
def PostS (r : RS) (w0 wz : Wd) (D : Ends) : Prop :=
  match r with
  | .nx Γ st => ∀ σ w, FR K w0 wz Γ σ st w → D.nx σ w.H
  | .bk Γ st => ∀ σ w, FR K w0 wz Γ σ st w → D.bk σ w.H
  | .ct Γ st => ∀ σ w, FR K w0 wz Γ σ st w → D.ct σ w.H
  | .rt x st => ∀ v w, Eff w0 w → SRel K st w → TRep K w0 w v x.1 x.2 → D.rt v w.H
  | .exc x Γ st => ∀ σ cls dx w, FR K w0 wz Γ σ st w → XR w cls dx x → W cls dx σ w.H
  | .bad => False
end
section
variable {K : PySem.W.Frag} {XR : Wd → Value → Option Addr → Xc → Prop} {W : WX} {w0 wz w : Wd} {Γ : Env} {σ : L2.St} {st : Sto}
theorem FR.go (f : FR K w0 wz Γ σ st w) {w1 : Wd} {st1 : Sto} (e : Eff w w1) (s1 : SRel K st1 w1) : FR K w0 wz Γ σ st1 w1 := ⟨f.eff.trans e, f.fz.trans (e.fz f.s), s1, f.sr.eff f.s e, f.fresh⟩
theorem FR.rez (f : FR K w0 wz Γ σ st w) {wy : Wd} (h : Fz wy wz) : FR K w0 wy Γ σ st w := ⟨f.eff, h.trans f.fz, f.s, f.sr, f.fresh⟩
theorem FR.here (f : FR K w0 wz Γ σ st w) : FR K w0 w Γ σ st w := ⟨f.eff, .refl _, f.s, f.sr, f.fresh⟩
theorem PostS.fz {r : RS} {D : Ends} {wy : Wd} (h : PostS K XR W r w0 wy D) (z : Fz wy wz) : PostS K XR W r w0 wz D := by
  cases r with
  | nx Γ st => exact fun σ w f => h σ w (f.rez z)
  | bk Γ st => exact fun σ w f => h σ w (f.rez z)
  | ct Γ st => exact fun σ w f => h σ w (f.rez z)
  | rt x st => exact h
  | exc x Γ st => exact fun σ c d w f => h σ c d w (f.rez z)
  | bad => exact h
theorem SR.unown {i : Nat} {d : D} {a : Addr} (h : SR K Γ σ w) (hi : Γ[i]? = some (some (d, true))) (ha : σ[i]? = some (some (.ref a))) : SR K (Γ.set i (some (d, false))) σ (frozen w a) := by
  have hl : i < Γ.length := (List.getElem?_eq_some_iff.mp hi).1
  refine ⟨by rw [List.length_set]; exact h.len, fun j e q => ?_, fun j e q => ?_, fun j k e f b q1 q2 q3 q4 => ?_⟩
  · by_cases hj : i = j
    · subst hj
      rw [List.getElem?_set_self hl] at q
      cases q
      obtain ⟨b, ds, h1, rfl, m, n, xs, hx, r⟩ := h.own i d hi
      rw [ha] at h1
      cases h1
      exact ⟨_, ha, .lst ⟨fun z => z.2 rfl, hx⟩ (r.fz (fz_frozen w a))⟩
    · rw [List.getElem?_set_ne hj] at q
      obtain ⟨v, h1, h2⟩ := h.sh j e q
      exact ⟨v, h1, h2.fz (fz_frozen w a)⟩
  · by_cases hj : i = j
    · subst hj
      rw [List.getElem?_set_self hl] at q
      cases q
    · rw [List.getElem?_set_ne hj] at q
      obtain ⟨b, ds, h1, rfl, m, n, xs, hx, r⟩ := h.own j e q
      refine ⟨b, ds, h1, rfl, ⟨m, fun z => ?_⟩, n, xs, hx, r.fz (fz_frozen w a)⟩
      subst z
      exact hj (h.inj i j d _ b hi q ha h1)
  · have ne : ∀ {j : Nat} {e : D}, (Γ.set i (some (d, false)))[j]? = some (some (e, true)) → i ≠ j := fun {j e} q z => by
      subst z
      rw [List.getElem?_set_self hl] at q
      cases q
    have n1 := ne q1
    have n2 := ne q2
    rw [List.getElem?_set_ne n1] at q1
    rw [List.getElem?_set_ne n2] at q2
    exact h.inj j k e f b q1 q2 q3 q4
theorem FR.freeze (f : FR K w0 wz Γ σ st w) : ∀ is : List Nat, ∃ w', w'.H = w.H ∧ w'.φ = w.φ ∧ Fz w w' ∧ FR K w0 wz (freeze Γ is) σ st w'
  | [] => ⟨w, rfl, rfl, .refl _, f⟩
  | i :: is => by
    obtain ⟨w', h1, h2, h3, g⟩ := FR.freeze f is
    unfold Lt.freeze
    split
    · rename_i d hi
      obtain ⟨a, ds, ha, rfl, m, n, xs, hx, r⟩ := g.sr.own i d hi
      have fr := g.fresh i _ a hi ha
      refine ⟨frozen w' a, h1, h2, h3.trans (fz_frozen w' a), g.eff.frozen fr, g.fz.trans (fz_frozen w' a), g.s.frozen n, g.sr.unown hi ha, fun j e b q1 q2 => ?_⟩
      have hl : i < (Lt.freeze Γ is).length := (List.getElem?_eq_some_iff.mp hi).1
      by_cases hj : i = j
      · subst hj
        rw [List.getElem?_set_self hl] at q1
        cases q1
      · rw [List.getElem?_set_ne hj] at q1
        exact g.fresh j e b q1 q2
    · exact ⟨w', h1, h2, h3, g⟩
/-- a shared value is stored -/
theorem FR.set (f : FR K w0 wz Γ σ st w) {i : Nat} {v : V} {d : D} (r : Rep K w v d) : FR K w0 wz (Γ.set i (some (d, false))) (σ.set i (some v)) st w := by
  refine ⟨f.eff, f.fz, f.s, f.sr.set r, fun j e b q1 q2 => ?_⟩
  by_cases hj : i = j
  · subst hj
    by_cases hl : i < Γ.length
    · rw [List.getElem?_set_self hl] at q1
      cases q1
    · rw [List.getElem?_eq_none (by rw [List.length_set]; omega)] at q1
      cases q1
  · rw [List.getElem?_set_ne hj] at q1 q2
    exact f.fresh j e b q1 q2
theorem FR.bound (f : FR K w0 wz Γ σ st w) {Γ' : Env} {σ' : L2.St} (sr : SR K Γ' σ' w) (k : KeepOwn Γ σ Γ' σ') : FR K w0 wz Γ' σ' st w :=
  ⟨f.eff, f.fz, f.s, sr, fun i d a q1 q2 => f.fresh i d a (k i d q1).1 (by rw [← (k i d q1).2]; exact q2)⟩
/-- a fresh list is stored -/
theorem FR.setOwn {wa : Wd} {sta : Sto} (fa : FR K w0 wz Γ σ sta wa) (f : FR K w0 wz Γ σ st w) {i : Nat} {v : V} {d : D} (hi : i < Γ.length) (r : TRep K wa w v d .own) : FR K w0 wz (Γ.set i (some (d, true))) (σ.set i (some v)) st w := by
  obtain ⟨a, ds, rfl, rfl, ow, hn⟩ := r
  have hσ : i < σ.length := by rw [← f.sr.len]; exact hi
  have old : ∀ (j : Nat) e b, Γ[j]? = some (some (e, true)) → σ[j]? = some (some (.ref b)) → b ≠ a := fun j e b q1 q2 z => by
    obtain ⟨c, ds, h1, _, _, _, xs, hx, _⟩ := fa.sr.own j e q1
    rw [q2] at h1
    cases h1
    rw [z, hn] at hx
    cases hx
  refine ⟨f.eff, f.fz, f.s, ⟨by rw [List.length_set, List.length_set]; exact f.sr.len, fun j e q => ?_, fun j e q => ?_, fun j k e g b q1 q2 q3 q4 => ?_⟩, fun j e b q1 q2 => ?_⟩
  · by_cases hj : i = j
    · subst hj
      rw [List.getElem?_set_self hi] at q
      cases q
    · rw [List.getElem?_set_ne hj] at q ⊢
      exact f.sr.sh j e q
  · by_cases hj : i = j
    · subst hj
      rw [List.getElem?_set_self hi] at q
      cases q
      exact ⟨a, ds, List.getElem?_set_self hσ, rfl, ow⟩
    · rw [List.getElem?_set_ne hj] at q ⊢
      exact f.sr.own j e q
  · by_cases hj : i = j
    · subst hj
      rw [List.getElem?_set_self hσ] at q3
      cases q3
      by_cases hk : i = k
      · exact hk
      · rw [List.getElem?_set_ne hk] at q2 q4
        exact absurd rfl (old k g a q2 q4)
    · rw [List.getElem?_set_ne hj] at q1 q3
      by_cases hk : i = k
      · subst hk
        rw [List.getElem?_set_self hσ] at q4
        cases q4
        exact absurd rfl (old j e a q1 q3)
      · rw [List.getElem?_set_ne hk] at q2 q4
        exact f.sr.inj j k e g b q1 q2 q3 q4
  · by_cases hj : i = j
    · subst hj
      rw [List.getElem?_set_self hσ] at q2
      cases q2
      cases q : w0.H a with
      | none => rfl
      | some o => exact absurd hn (fa.eff.there a (by rw [q]; exact fun z => nomatch z))
    · rw [List.getElem?_set_ne hj] at q1 q2
      exact f.fresh j e b q1 q2
/-- a fresh list goes into the store -/
theorem FR.sto {wa : Wd} {sta : Sto} (fa : FR K w0 wz Γ σ sta wa) (f : FR K w0 wz Γ σ st w) {i : Nat} {v : V} {ds : List D} (r : TRep K wa w v (.lst ds) .own) :
    ∃ w', w'.H = w.H ∧ FR K w0 wz (Γ.set i (some (.ref st.length, false))) (σ.set i (some v)) (st ++ [.lst ds]) w' := by
  obtain ⟨a, ds', rfl, e, ⟨m, n, xs, hx, rx⟩, hn⟩ := r
  cases e
  have old : ∀ (j : Nat) e b, Γ[j]? = some (some (e, true)) → σ[j]? = some (some (.ref b)) → b ≠ a := fun j e b q1 q2 z => by
    obtain ⟨c, ds, h1, _, _, _, xs, hx, _⟩ := fa.sr.own j e q1
    rw [q2] at h1
    cases h1
    rw [z, hn] at hx
    cases hx
  have h0 : w0.H a = none := by
    cases q : w0.H a with
    | none => rfl
    | some o => exact absurd hn (fa.eff.there a (by rw [q]; exact fun z => nomatch z))
  have fz : Fz w { w with φ := w.φ ++ [a] } := ⟨⟨[a], rfl⟩, fun _ _ h n => ⟨h, n⟩⟩
  have g : FR K w0 wz Γ σ (st ++ [.lst ds]) { w with φ := w.φ ++ [a] } := by
    refine ⟨⟨?_, fun b u h m' => ?_, f.eff.there⟩, f.fz.trans fz, ⟨by simp [f.s.len], ?_, fun b h => ?_, f.s.dom, fun m' so b h1 h2 => ?_⟩, ⟨f.sr.len, fun j e q => ?_, fun j e q => ?_, f.sr.inj⟩, f.fresh⟩
    · obtain ⟨more, q⟩ := f.eff.pre
      exact ⟨more ++ [a], by show w.φ ++ [a] = _; rw [q, List.append_assoc]⟩
    · obtain ⟨h1, h2, h3⟩ := f.eff.keep b u h m'
      refine ⟨h1, fun z => ?_, h3⟩
      rcases List.mem_append.mp z with z | z
      · exact h2 z
      · have : b = a := by simpa using z
        rw [this, h0] at h
        cases h
    · show (w.φ ++ [a]).Nodup
      rw [List.nodup_append]
      refine ⟨f.s.nd, by simp, fun b hb c hc z => ?_⟩
      have : c = a := by simpa using hc
      rw [this] at z
      exact n (z ▸ hb)
    · rcases List.mem_append.mp h with z | z
      · exact f.s.mu b z
      · have : b = a := by simpa using z
        rw [this]
        exact m
    · have h2 : (w.φ ++ [a])[m']? = some b := h2
      by_cases hm : m' < st.length
      · rw [List.getElem?_append_left hm] at h1
        rw [List.getElem?_append_left (by rw [f.s.len]; exact hm)] at h2
        have q := f.s.objs m' so b h1 h2
        cases so with
        | lst es =>
          obtain ⟨ys, q1, q2⟩ := q
          exact ⟨ys, q1, q2.fz fz⟩
      · have hm2 : m' = st.length := by
          have := (List.getElem?_eq_some_iff.mp h1).1
          simp at this
          omega
        subst hm2
        rw [List.getElem?_append_right (Nat.le_refl _), Nat.sub_self] at h1
        rw [List.getElem?_append_right (by rw [f.s.len]; exact Nat.le_refl _), f.s.len, Nat.sub_self] at h2
        cases h1
        cases h2
        exact ⟨xs, hx, rx.fz fz⟩
    · obtain ⟨v, h1, h2⟩ := f.sr.sh j e q
      exact ⟨v, h1, h2.fz fz⟩
    · obtain ⟨b, es, h1, h2, m2, n2, ys, hy, ry⟩ := f.sr.own j e q
      refine ⟨b, es, h1, h2, m2, fun z => ?_, ys, hy, ry.fz fz⟩
      rcases List.mem_append.mp z with z | z
      · exact n2 z
      · have : b = a := by simpa using z
        exact old j e b q h1 this
  refine ⟨{ w with φ := w.φ ++ [a] }, rfl, g.set (.ref ?_)⟩
  show (w.φ ++ [a])[st.length]? = some a
  rw [List.getElem?_append_right (by rw [f.s.len]; exact Nat.le_refl _), f.s.len, Nat.sub_self]
  rfl
/-- an own list is changed -/
theorem FR.upd (f : FR K w0 wz Γ σ st w) {i : Nat} {ds es : List D} {a : Addr} {xs : List V} (hi : Γ[i]? = some (some (.lst ds, true))) (ha : σ[i]? = some (some (.ref a))) (r : RepL K w xs es) : FR K w0 wz (Γ.set i (some (.lst es, true))) σ st (setL w a (.lst xs)) := by
  have hl : i < Γ.length := (List.getElem?_eq_some_iff.mp hi).1
  obtain ⟨b, ds', h1, e1, ow⟩ := f.sr.own i _ hi
  rw [ha] at h1
  cases h1
  cases e1
  have fz := setL_fz (o := .lst xs) ow.1
  refine ⟨setL_eff f.eff (f.fresh i _ a hi ha), f.fz.trans fz, f.s.setL ow.1 ow.2.1, ⟨by rw [List.length_set]; exact f.sr.len, fun j e q => ?_, fun j e q => ?_, fun j k e g b q1 q2 q3 q4 => ?_⟩, fun j e b q1 q2 => ?_⟩
  · by_cases hj : i = j
    · subst hj
      rw [List.getElem?_set_self hl] at q
      cases q
    · rw [List.getElem?_set_ne hj] at q
      obtain ⟨v, h1, h2⟩ := f.sr.sh j e q
      exact ⟨v, h1, h2.fz fz⟩
  · by_cases hj : i = j
    · subst hj
      rw [List.getElem?_set_self hl] at q
      cases q
      exact ⟨a, es, ha, rfl, ow.setL r⟩
    · rw [List.getElem?_set_ne hj] at q
      obtain ⟨b, ds2, h1, e2, m, n, ys, hy, ry⟩ := f.sr.own j e q
      refine ⟨b, ds2, h1, e2, m, n, ys, ?_, ry.fz fz⟩
      show L2.upd w.H a _ b = _
      rw [upd_ne (show b ≠ a from fun z => hj (f.sr.inj i j _ _ a hi q ha (by rw [h1, z])))]
      exact hy
  · have back : ∀ {j : Nat} {e : D}, (Γ.set i (some (.lst es, true)))[j]? = some (some (e, true)) → ∃ e', Γ[j]? = some (some (e', true)) := fun {j e} q => by
      by_cases hj : i = j
      · subst hj
        exact ⟨_, hi⟩
      · rw [List.getElem?_set_ne hj] at q
        exact ⟨_, q⟩
    obtain ⟨e', q1'⟩ := back q1
    obtain ⟨g', q2'⟩ := back q2
    exact f.sr.inj j k e' g' b q1' q2' q3 q4
  · by_cases hj : i = j
    · subst hj
      exact f.fresh i _ b hi q2
    · rw [List.getElem?_set_ne hj] at q1
      exact f.fresh j e b q1 q2
end
end Lt

/-! Lt, part Q: statements of the text; simple ones are sound. -/
namespace Lt
open PySem L2
def isComp : Expr → Bool
  | .ListComp .. | .SetComp .. | .DictComp .. | .GeneratorExp .. => true
  | _ => false
def isSlice : Expr → Bool
  | .Slice .. => true
  | _ => false
/-- the comprehension's list is stored within its own frame -/
def swap (cc : CC) (x : Str) (py : Pos) : Expr → Bool
  | .ListComp _ _ scope pos => cc.kind x == some .local && py.line == pos.line && !(scope.names.any fun (n, k) => n == x && (k == .local || k == .cell))
  | _ => false
/-- what it makes goes into the store -/
def mkSto : Expr → Bool
  | .Call (.Name f _) _ _ _ => f == ("_law_open" : Str)
  | _ => false
/-- an expression by itself -/
def cX (cEn : Expr → Option E) (cc : CC) : Expr → Option S
  | .Call (.Attribute (.Name x _) m ap) args [] p =>
    if cc.vis x && ap.endLine == p.line && args.all noStar then (match args with
      | [a] => if m == ("append" : Str) then (match slot cc.N x, cEn a with | some i, some z => some (.app i z) | _, _ => none) else none
      | [a, b] => if m == ("insert" : Str) then (match slot cc.N x, cEn a, cEn b with | some i, some z, some u => some (.ins i z u) | _, _, _ => none) else none
      | _ => none) else none
  | e => if isComp e then none else (cEn e).map .drop
section
variable (sig : Str → Option (List Str)) (shp : Str → List (List Str))
def cS : Nat → CC → Stmt → Option S
  | 0, _, _ => none
  | n + 1, cc, s =>
    match s with
    | .Return (some e) _ => (cE sig shp n cc e).map .ret
    | .Return none _ => some .retN
    | .Pass _ => some .pass
    | .Break _ => some .brk
    | .Continue _ => some .cont
    | .Assign [t] e _ => match t with
      | .Name x _ => if cc.loc x then (match slot cc.N x, cE sig shp n cc e with
        | some i, some il => if mkSto e then some (.asgSto i il) else some (.asg i il)
        | _, _ => none) else none
      | .Tuple _ _ _ => if isTup e || isComp e then none else match cTg n cc t, cE sig shp n cc e with
        | some t, some il => some (.asgT t il)
        | _, _ => none
      | .Subscript o i _ => if isComp e || isSlice i then none else match cE sig shp n cc o, cE sig shp n cc i, cE sig shp n cc e with
        | some a, some b, some c => some (.setI a b c)
        | _, _, _ => none
      | _ => none
    | .Expr e _ => cX (cE sig shp n cc) cc e
    | .If c a b _ => if isIf c then none else match cE sig shp n cc c, a.mapM (cS n cc), b.mapM (cS n cc) with
      | some x, some y, some z => some (.ife x y z)
      | _, _, _ => none
    | .For tg it body [] _ => if noSet it then (match cIter cc tg it with
      | some (k, srcs) => match cTg n cc tg, srcs.mapM (cE sig shp n cc), body.mapM (cS n cc) with
        | some t, some ss, some b => some (.for_ k t ss b)
        | _, _, _ => none
      | none => none) else none
    | .While c body [] _ => if isIf c then none else match cE sig shp n cc c, body.mapM (cS n cc) with
      | some x, some b => some (.while_ x b)
      | _, _ => none
    | _ => none
end
section
variable (K : PySem.W.Frag) (y : Sy) (fu : Nat) (W : WX)
def tS (s : S) : TS := fun D σ H => ∃ w0 wz Γ st w, w.H = H ∧ FR K w0 wz Γ σ st w ∧ PostS K y.XR W (evS y.G y.sig y.call fu Γ st s) w0 wz D
def tSs (ss : List S) : TS := fun D σ H => ∃ w0 wz Γ st w, w.H = H ∧ FR K w0 wz Γ σ st w ∧ PostS K y.XR W (evSs y.G y.sig y.call fu Γ st ss) w0 wz D
end
theorem ps_imp {X : Cx} {e : Stmt} {t t' : TS} (h : PS X e t) (f : ∀ D σ H, t' D σ H → t D σ H) : PS X e t' := ⟨fun pins s σ H D I q => h.run pins s σ H D I (f D σ H q)⟩
theorem pss_imp {X : Cx} {e : List Stmt} {t t' : TS} (h : PSs X e t) (f : ∀ D σ H, t' D σ H → t D σ H) : PSs X e t' := ⟨fun pins s σ H D I q => h.run pins s σ H D I (f D σ H q)⟩
section
variable {X : Cx} {y : Sy} {W : WX} {fu : Nat} {w0 wz w : Wd} {Γ : Env} {σ : L2.St} {st : Sto} {D : Ends}
theorem S_ev {e : E} {kont : Lt.D × Fl → Sto → RS} {Q : VK} (f : FR X.K w0 wz Γ σ st w) (p : PostS X.K y.XR W (bindS Γ (ev y.G y.sig y.call Γ st e) kont) w0 wz D)
    (q : ∀ x st1 v w1, Eff w w1 → FR X.K w0 wz Γ σ st1 w1 → TRep X.K w w1 v x.1 x.2 → PostS X.K y.XR W (kont x st1) w0 wz D → Q v w1.H) : tEv X.K y W e σ w.H Q := by
  refine ⟨Γ, st, w, rfl, f.sr, f.s, ?_⟩
  cases h : ev y.G y.sig y.call Γ st e with
  | ok x st1 =>
    rw [h] at p
    exact fun v w1 e1 s1 t1 => q x st1 v w1 e1 (f.go e1 s1) t1 p
  | exc x st1 =>
    rw [h] at p
    exact fun c d w1 e1 s1 r => p σ c d w1 (f.go e1 s1) r
  | bad =>
    rw [h] at p
    exact p
theorem S_evs {es : List E} {kont : List Lt.D → Sto → RS} {Q : List V → Hp → Prop} (f : FR X.K w0 wz Γ σ st w) (p : PostS X.K y.XR W (bindS Γ (evs y.G y.sig y.call Γ st es) kont) w0 wz D)
    (q : ∀ ds st1 vs w1, Eff w w1 → FR X.K w0 wz Γ σ st1 w1 → RepL X.K w1 vs ds → PostS X.K y.XR W (kont ds st1) w0 wz D → Q vs w1.H) : tEvs X.K y W es σ w.H Q := by
  refine ⟨Γ, st, w, rfl, f.sr, f.s, ?_⟩
  cases h : evs y.G y.sig y.call Γ st es with
  | ok x st1 =>
    rw [h] at p
    exact fun v w1 e1 s1 t1 => q x st1 v w1 e1 (f.go e1 s1) t1 p
  | exc x st1 =>
    rw [h] at p
    exact fun c d w1 e1 s1 r => p σ c d w1 (f.go e1 s1) r
  | bad =>
    rw [h] at p
    exact p
theorem rd_ret {e : E} {σ : L2.St} {H : Hp} (h : tS X.K y fu W (.ret e) D σ H) : tRet (tEv X.K y W e) D σ H := by
  obtain ⟨w0, wz, Γ, st, w, rfl, f, p⟩ := h
  simp only [evS] at p
  obtain ⟨w', hH, _, _, f'⟩ := f.freeze (esc true e)
  rw [← hH]
  refine S_ev f' p fun x st1 v w1 e1 f1 t1 p1 => ?_
  split at p1
  · exact p1.elim
  · exact p1 v w1 f1.eff f1.s (t1.base f'.eff)
theorem rd_asg {i : Nat} {e : E} {σ : L2.St} {H : Hp} (h : tS X.K y fu W (.asg i e) D σ H) : tAsg (tEv X.K y W e) (gName i) D σ H := by
  obtain ⟨w0, wz, Γ, st, w, rfl, f, p⟩ := h
  simp only [evS] at p
  obtain ⟨w', hH, _, _, f'⟩ := f.freeze (esc true e)
  have hlen : (freeze Γ (esc true e)).length = Γ.length := by rw [f'.sr.len, f.sr.len]
  rw [← hH]
  refine S_ev f' p fun x st1 v w1 e1 f1 t1 p1 => ?_
  split at p1
  · rename_i hi
    obtain ⟨d, fl⟩ := x
    cases fl with
    | sh => exact p1 _ _ (f1.set t1)
    | own => exact p1 _ _ (FR.setOwn f' f1 (by rw [hlen]; exact hi) t1)
    | bor => exact p1.elim
  · exact p1.elim
theorem rd_asgSto {i : Nat} {e : E} {σ : L2.St} {H : Hp} (h : tS X.K y fu W (.asgSto i e) D σ H) : tAsg (tEv X.K y W e) (gName i) D σ H := by
  obtain ⟨w0, wz, Γ, st, w, rfl, f, p⟩ := h
  simp only [evS] at p
  obtain ⟨w', hH, _, _, f'⟩ := f.freeze (esc true e)
  have hlen : (freeze Γ (esc true e)).length = Γ.length := by rw [f'.sr.len, f.sr.len]
  rw [← hH]
  refine S_ev f' p fun x st1 v w1 e1 f1 t1 p1 => ?_
  split at p1
  · rename_i hi
    split at p1
    · obtain ⟨w2, hH2, f2⟩ := FR.sto (i := i) f' f1 t1
      have := p1 _ w2 f2
      rw [hH2] at this
      exact this
    · exact p1.elim
  · exact p1.elim
theorem rd_asgT {t : Tg} {e : E} {σ : L2.St} {H : Hp} (h : tS X.K y fu W (.asgT t e) D σ H) : tAsg (tEv X.K y W e) (gB X.K t) D σ H := by
  obtain ⟨w0, wz, Γ, st, w, rfl, f, p⟩ := h
  simp only [evS] at p
  obtain ⟨w', hH, _, _, f'⟩ := f.freeze (esc true e)
  rw [← hH]
  refine S_ev f' p fun x st1 v w1 e1 f1 t1 p1 => ?_
  split at p1
  · rename_i hs
    obtain ⟨d, fl⟩ := x
    cases hs
    split at p1
    · rename_i Γ' hb
      exact ⟨_, w1, d, Γ', rfl, f1.sr, t1, hb, fun σ' sr' _ k => p1 σ' w1 (f1.bound sr' k)⟩
    · exact p1.elim
  · exact p1.elim
theorem rd_drop {e : E} {σ : L2.St} {H : Hp} (h : tS X.K y fu W (.drop e) D σ H) : tDrop (tEv X.K y W e) D σ H := by
  obtain ⟨w0, wz, Γ, st, w, rfl, f, p⟩ := h
  simp only [evS] at p
  obtain ⟨w', hH, _, _, f'⟩ := f.freeze (esc false e)
  rw [← hH]
  exact S_ev f' p fun x st1 v w1 e1 f1 t1 p1 => p1 σ w1 f1
theorem rd_if {c : E} {a b : List S} {σ : L2.St} {H : Hp} (h : tS X.K y fu W (.ife c a b) D σ H) : tIfS (tTest (tEv X.K y W c)) (tSs X.K y fu W a) (tSs X.K y fu W b) D σ H := by
  obtain ⟨w0, wz, Γ, st, w, rfl, f, p⟩ := h
  simp only [evS] at p
  obtain ⟨w', hH, _, _, f'⟩ := f.freeze (esc false c)
  rw [← hH]
  refine S_ev f' p fun x st1 v w1 e1 f1 t1 p1 => ?_
  have t1 := t1.rdv
  split at p1
  · rename_i q
    rw [q] at t1
    exact ⟨true, t1.bl, w0, wz, _, st1, w1, rfl, f1, p1⟩
  · rename_i q
    rw [q] at t1
    exact ⟨false, t1.bl, w0, wz, _, st1, w1, rfl, f1, p1⟩
  · exact p1.elim
end
end Lt

/-! Lt, part R: lists that change, loops. -/
namespace Lt
open PySem L2
section
variable {K : PySem.W.Frag} {w0 wz w : Wd} {Γ : Env} {σ : L2.St} {st : Sto}
theorem RepL.set {v : V} {d : D} (r : Rep K w v d) : ∀ {vs : List V} {ds : List D} (j : Nat), RepL K w vs ds → RepL K w (vs.set j v) (ds.set j d)
  | _, _, _, .nil => .nil
  | _, _, 0, .cons _ t => .cons r t
  | _, _, j + 1, .cons h t => .cons h (RepL.set r j t)
/-- an item of a store's list is set -/
theorem FR.put (f : FR K w0 wz Γ σ st w) {n : Nat} {ds : List D} {a : Addr} {xs : List V} {v : V} {d : D} (j : Nat) (hn : st[n]? = some (.lst ds)) (ha : w.φ[n]? = some a) (hx : w.H a = some (.lst xs)) (rx : RepL K w xs ds) (r : Rep K w v d) :
    FR K w0 wz Γ σ (st.set n (.lst (ds.set j d))) (setL w a (.lst (xs.set j v))) := by
  have hmem : a ∈ w.φ := List.mem_of_getElem? ha
  have hM := f.s.mu a hmem
  have fz := setL_fz (o := .lst (xs.set j v)) hM
  refine ⟨⟨f.eff.pre, fun b u h m => ?_, fun b h => setL_there b (f.eff.there b h)⟩, f.fz.trans fz, ⟨by rw [List.length_set]; exact f.s.len, f.s.nd, f.s.mu, fun b h => setL_there b (f.s.dom b h), fun m so b h1 h2 => ?_⟩,
    ⟨f.sr.len, fun i e q => ?_, fun i e q => ?_, f.sr.inj⟩, f.fresh⟩
  · obtain ⟨h1, h2, h3⟩ := f.eff.keep b u h m
    refine ⟨?_, h2, h3⟩
    show L2.upd w.H a _ b = _
    rw [upd_ne (show b ≠ a from fun z => h2 (z ▸ hmem))]
    exact h1
  · by_cases hm : n = m
    · subst hm
      have h2' : w.φ[n]? = some b := h2
      rw [ha] at h2'
      cases h2'
      rw [List.getElem?_set_self (List.getElem?_eq_some_iff.mp hn).1] at h1
      cases h1
      exact ⟨_, upd_same, (RepL.set r j rx).fz fz⟩
    · rw [List.getElem?_set_ne hm] at h1
      have q := f.s.objs m so b h1 h2
      have hb : b ≠ a := fun z => by
        subst z
        have h2' : w.φ[m]? = some b := h2
        obtain ⟨l1, e1⟩ := List.getElem?_eq_some_iff.mp ha
        obtain ⟨l2, e2⟩ := List.getElem?_eq_some_iff.mp h2'
        exact hm ((List.getElem_inj f.s.nd).mp (e1.trans e2.symm))
      cases so with
      | lst es =>
        obtain ⟨ys, q1, q2⟩ := q
        refine ⟨ys, ?_, q2.fz fz⟩
        show L2.upd w.H a _ b = _
        rw [upd_ne hb]
        exact q1
  · obtain ⟨v, h1, h2⟩ := f.sr.sh i e q
    exact ⟨v, h1, h2.fz fz⟩
  · obtain ⟨b, es, h1, h2, m, n', ys, hy, ry⟩ := f.sr.own i e q
    refine ⟨b, es, h1, h2, m, n', ys, ?_, ry.fz fz⟩
    show L2.upd w.H a _ b = _
    rw [upd_ne (show b ≠ a from fun z => n' (z ▸ hmem))]
    exact hy
end
section
variable {X : Cx} {y : Sy} {W : WX} {fu : Nat} {D : Ends}
theorem rd_app {i : Nat} {a : E} {σ : L2.St} {H : Hp} (h : tS X.K y fu W (.app i a) D σ H) : tDrop (tBM X.K "list" rAppend (tVar i) (tEvs X.K y W [a])) D σ H := by
  obtain ⟨w0, wz, Γ, st, w, rfl, f, p⟩ := h
  simp only [evS] at p
  obtain ⟨w', hH, _, _, f'⟩ := f.freeze (escs true [a])
  rw [← hH]
  split at p
  · rename_i xs hi
    obtain ⟨b, ds, hb, e1, m, n, vs, hx, rx⟩ := f'.sr.own i _ hi
    cases e1
    refine ⟨_, hb, .inl ⟨rfl, _, SqL.of hx⟩, S_evs f' p fun ds st1 us w1 e1 f1 t1 p1 => ?_⟩
    split at p1
    · split at p1
      · exact p1.elim
      · rename_i hz
        cases t1 with
        | cons t1 t2 =>
          cases t2
          obtain ⟨b', ds', hb', e2, m', n', vs', hx', rx'⟩ := f1.sr.own i _ hi
          cases e2
          rw [hb] at hb'
          cases hb'
          exact ⟨b, vs', _, rfl, rfl, hx', by rw [rx'.length]; omega, p1 _ _ (f1.upd hi hb (rx'.append (.cons t1 .nil)))⟩
    · exact p1.elim
  · exact p.elim
abbrev rInsert : V → List V → Hp → VK → Prop := fun x vs H Q => ∃ (l : Addr) (xs : List V) (i : Int) (y : V), x = .ref l ∧ vs = [.int i, y] ∧ H l = some (.lst xs) ∧ xs.length < sizeLine ∧ 0 ≤ i ∧ i < 2 ^ 63 ∧
    Q .non (upd H l (.lst (xs.take i.toNat ++ [y] ++ xs.drop i.toNat)))
theorem rd_ins {i : Nat} {a b : E} {σ : L2.St} {H : Hp} (h : tS X.K y fu W (.ins i a b) D σ H) : tDrop (tBM X.K "list" rInsert (tVar i) (tEvs X.K y W [a, b])) D σ H := by
  obtain ⟨w0, wz, Γ, st, w, rfl, f, p⟩ := h
  simp only [evS] at p
  obtain ⟨w', hH, _, _, f'⟩ := f.freeze (escs true [a, b])
  rw [← hH]
  split at p
  · rename_i xs hi
    obtain ⟨b, ds, hb, e1, m, n, vs, hx, rx⟩ := f'.sr.own i _ hi
    cases e1
    refine ⟨_, hb, .inl ⟨rfl, _, SqL.of hx⟩, S_evs f' p fun ds st1 us w1 e1 f1 t1 p1 => ?_⟩
    split at p1
    · split at p1
      · exact p1.elim
      · rename_i hz
        simp only [not_or, Classical.not_not] at hz
        cases t1 with
        | cons t1 t2 =>
          cases t2 with
          | cons t2 t3 =>
            cases t3
            cases t1
            obtain ⟨b', ds', hb', e2, m', n', vs', hx', rx'⟩ := f1.sr.own i _ hi
            cases e2
            rw [hb] at hb'
            cases hb'
            exact ⟨b, vs', _, _, rfl, rfl, hx', by rw [rx'.length]; omega, hz.2.1, hz.2.2, p1 _ _ (f1.upd hi hb (((rx'.take _).append (.cons t2 .nil)).append (rx'.drop _)))⟩
    · exact p1.elim
  · exact p.elim
theorem rd_setI {o i e : E} {σ : L2.St} {H : Hp} (h : tS X.K y fu W (.setI o i e) D σ H) : tAsg (tEv X.K y W e) (gSub (tEv X.K y W o) (tEv X.K y W i) rSetL) D σ H := by
  obtain ⟨w0, wz, Γ, st, w, rfl, f, p⟩ := h
  simp only [evS] at p
  obtain ⟨w', hH, _, _, f'⟩ := f.freeze (escs true [e, o, i])
  rw [← hH]
  have q : tEvs X.K y W [e, o, i] σ w'.H (fun vs H3 => ∃ x ov iv, vs = [x, ov, iv] ∧ rSetL ov iv x H3 fun H4 => D.nx σ H4) := S_evs f' p fun ds st1 us w1 e1 f1 t1 p1 => by
    split at p1
    · rename_i d q j
      split at p1
      · rename_i st2 hst
        cases t1 with
        | cons t1 t2 =>
          cases t2 with
          | cons t2 t3 =>
            cases t3 with
            | cons t3 t4 =>
              cases t4
              refine ⟨_, _, _, rfl, ?_⟩
              unfold stoSet at hst
              split at hst
              · rename_i n k
                split at hst
                · rename_i xs hn
                  cases t3
                  cases t2 with
                  | ref hφ =>
                    obtain ⟨ys, q1, q2⟩ := f1.s.objs n _ _ hn hφ
                    cases qi : ixN xs.length k with
                    | none => rw [qi] at hst; cases hst
                    | some jj =>
                      rw [qi] at hst
                      cases hst
                      exact ⟨_, ys, k, jj, rfl, rfl, q1, by rw [q2.length]; exact qi, p1 _ _ (f1.put jj hn hφ q1 q2 t1)⟩
                · cases hst
              · cases hst
      · exact p1.elim
    · exact p1.elim
  obtain ⟨Γ2, st2, w2, h1, h2, h3, h4⟩ := rd_evs_cons q
  refine ⟨Γ2, st2, w2, h1, h2, h3, h4.imp fun x H1 q1 => ?_⟩
  obtain ⟨Γ3, st3, w3, h5, h6, h7, h8⟩ := rd_evs_cons q1
  refine ⟨Γ3, st3, w3, h5, h6, h7, h8.imp fun ov H2 q2 => ?_⟩
  obtain ⟨Γ4, st4, w4, h9, h10, h11, h12⟩ := rd_evs_cons q2
  refine ⟨Γ4, st4, w4, h9, h10, h11, h12.imp fun iv H3 q3 => ?_⟩
  obtain ⟨x', ov', iv', e, q4⟩ := rd_evs_nil q3
  cases e
  exact q4
theorem rd_seq {s : S} {ss : List S} {σ : L2.St} {H : Hp} (h : tSs X.K y fu W (s :: ss) D σ H) : tSeq (tS X.K y fu W s) (tSs X.K y fu W ss) D σ H := by
  obtain ⟨w0, wz, Γ, st, w, rfl, f, p⟩ := h
  simp only [evSs] at p
  refine ⟨w0, wz, Γ, st, w, rfl, f, ?_⟩
  cases q : evS y.G y.sig y.call fu Γ st s with
  | nx Γ1 st1 =>
    rw [q] at p
    exact fun σ1 w1 f1 => ⟨w0, wz, Γ1, st1, w1, rfl, f1, p⟩
  | bk Γ1 st1 => rw [q] at p; exact p
  | ct Γ1 st1 => rw [q] at p; exact p
  | rt x st1 => rw [q] at p; exact p
  | exc x Γ1 st1 => rw [q] at p; exact p
  | bad => rw [q] at p; exact p
theorem rd_nil {σ : L2.St} {H : Hp} (h : tSs X.K y fu W [] D σ H) : tNext D σ H := by
  obtain ⟨w0, wz, Γ, st, w, rfl, f, p⟩ := h
  simp only [evSs] at p
  exact p σ w f
theorem rd_for {k : Ik} {t : Tg} {srcs : List E} {body : List S} {σ : L2.St} {H : Hp} (h : tS X.K y fu W (.for_ k t srcs body) D σ H) : tFor (tItS X.K y W k srcs) (gB X.K t) (tSs X.K y fu W body) D σ H := by
  obtain ⟨w0, wz, Γ, st, w, rfl, f, p⟩ := h
  simp only [evS] at p
  obtain ⟨w', hH, _, _, f'⟩ := f.freeze (escs true srcs)
  rw [← hH]
  refine ⟨_, st, w', rfl, f'.sr, f'.s, ?_⟩
  cases q : ((evs y.G y.sig y.call (freeze Γ (escs true srcs)) st srcs).bind fun ds st => ofO (itF k ds) st) with
  | bad => rw [q] at p; exact p.elim
  | exc x st1 =>
    rw [q] at p
    exact fun c d w1 e1 s1 r => p σ c d w1 (f'.go e1 s1) r
  | ok items st1 =>
    rw [q] at p
    intro J w1 e1 s1 it
    have f1 := f'.go e1 s1
    refine ⟨fun i m σ H => ∃ Γ st w, w.H = H ∧ m = items.length - i ∧ i ≤ items.length ∧ FR X.K w0 wz Γ σ st w ∧ Fz w1 w ∧ PostS X.K y.XR W (loopS t (fun Γ st => evSs y.G y.sig y.call fu Γ st body) (items.drop i) Γ st) w0 wz D,
      ⟨items.length, _, st1, w1, rfl, by simp, Nat.zero_le _, f1, .refl _, p⟩, ?_⟩
    rintro i m σ2 H ⟨Γ2, st2, w2, rfl, rfl, hi, f2, fz2, p2⟩
    obtain ⟨it1, it2⟩ := it w2 st2 fz2 f2.s
    by_cases hlt : i < items.length
    · obtain ⟨g1, g2⟩ := it1 i hlt
      refine .inr ⟨g1, fun σ' H' => ∃ Γ st w, w.H = H' ∧ FR X.K w0 wz Γ σ' st w ∧ Fz w1 w ∧ PostS X.K y.XR W (loopS t (fun Γ st => evSs y.G y.sig y.call fu Γ st body) (items.drop (i + 1)) Γ st) w0 wz D, ?_, ?_⟩
      · rintro σ' H' ⟨Γ', st', w', h1, h2, h3, h4⟩
        exact ⟨items.length - (i + 1), by omega, Γ', st', w', h1, rfl, hlt, h2, h3, h4⟩
      · intro x H' hy
        obtain ⟨w3, rfl, e3, s3, d, hd, rd⟩ := g2 x H' hy
        have hdrop : items.drop i = d :: items.drop (i + 1) := by
          obtain ⟨h1, h2⟩ := List.getElem?_eq_some_iff.mp hd
          rw [← h2]
          exact List.drop_eq_getElem_cons h1
        rw [hdrop] at p2
        simp only [loopS] at p2
        have f3 := f2.go e3 s3
        have fz3 : Fz w1 w3 := fz2.trans (e3.fz f2.s)
        split at p2
        · rename_i Γ' hb
          refine ⟨_, w3, d, Γ', rfl, f3.sr, rd, hb, fun σ' sr' _ ko => ?_⟩
          have f4 := f3.bound sr' ko
          refine ⟨w0, w3, Γ', st2, w3, rfl, f4.here, ?_⟩
          have fzz : Fz wz w3 := f4.fz
          cases qb : evSs y.G y.sig y.call fu Γ' st2 body with
          | nx Γ5 st5 =>
            rw [qb] at p2
            exact fun σ5 w5 f5 => ⟨Γ5, st5, w5, rfl, f5.rez fzz, fz3.trans f5.fz, p2⟩
          | ct Γ5 st5 =>
            rw [qb] at p2
            exact fun σ5 w5 f5 => ⟨Γ5, st5, w5, rfl, f5.rez fzz, fz3.trans f5.fz, p2⟩
          | bk Γ5 st5 =>
            rw [qb] at p2
            exact fun σ5 w5 f5 => p2 σ5 w5 (f5.rez fzz)
          | rt x5 st5 =>
            rw [qb] at p2
            exact p2
          | exc x5 Γ5 st5 =>
            rw [qb] at p2
            exact fun σ5 c5 d5 w5 f5 r5 => p2 σ5 c5 d5 w5 (f5.rez fzz) r5
          | bad =>
            rw [qb] at p2
            exact p2.elim
        · exact p2.elim
    · have hi' : i = items.length := by omega
      subst hi'
      rw [List.drop_length] at p2
      exact .inl ⟨it2, p2 σ2 w2 f2⟩
theorem rd_while {c : E} {body : List S} {σ : L2.St} {H : Hp} (h : tS X.K y fu W (.while_ c body) D σ H) : tWhile (tTest (tEv X.K y W c)) (tSs X.K y fu W body) D σ H := by
  obtain ⟨w0, wz, Γ, st, w, rfl, f, p⟩ := h
  simp only [evS] at p
  obtain ⟨w', hH, _, _, f'⟩ := f.freeze (esc false c)
  rw [← hH]
  refine ⟨fun m σ H => ∃ Γ st w, w.H = H ∧ FR X.K w0 wz Γ σ st w ∧ PostS X.K y.XR W (whileS (fun Γ st => ev y.G y.sig y.call Γ st c) (fun Γ st => evSs y.G y.sig y.call fu Γ st body) m Γ st) w0 wz D, ⟨fu, _, st, w', rfl, f', p⟩, ?_⟩
  rintro m σ2 H ⟨Γ2, st2, w2, rfl, f2, p2⟩
  cases m with
  | zero => exact p2.elim
  | succ m =>
    simp only [whileS] at p2
    refine S_ev f2 p2 fun x st1 v w1 e1 f1 t1 p1 => ?_
    have t1 := t1.rdv
    split at p1
    · rename_i q
      rw [q] at t1
      exact ⟨false, t1.bl, p1 σ2 w1 f1⟩
    · rename_i q
      rw [q] at t1
      refine ⟨true, t1.bl, fun σ' H' => ∃ Γ st w, w.H = H' ∧ FR X.K w0 wz Γ σ' st w ∧ PostS X.K y.XR W (whileS (fun Γ st => ev y.G y.sig y.call Γ st c) (fun Γ st => evSs y.G y.sig y.call fu Γ st body) m Γ st) w0 wz D, fun σ' H' hn => ⟨m, Nat.lt_succ_self _, hn⟩, ?_⟩
      refine ⟨w0, wz, Γ2, st1, w1, rfl, f1, ?_⟩
      cases qb : evSs y.G y.sig y.call fu Γ2 st1 body with
      | nx Γ5 st5 =>
        rw [qb] at p1
        exact fun σ5 w5 f5 => ⟨Γ5, st5, w5, rfl, f5, p1⟩
      | ct Γ5 st5 =>
        rw [qb] at p1
        exact fun σ5 w5 f5 => ⟨Γ5, st5, w5, rfl, f5, p1⟩
      | bk Γ5 st5 => rw [qb] at p1; exact p1
      | rt x5 st5 => rw [qb] at p1; exact p1
      | exc x5 Γ5 st5 => rw [qb] at p1; exact p1
      | bad => rw [qb] at p1; exact p1.elim
    · exact p1.elim
end
end Lt

/-! Lt, part S: every statement is sound. -/
namespace Lt
open PySem L2
section
variable {X : Cx} {y : Sy} {W : WX} {cc : CC} {k fu : Nat}
theorem ss_list {n : Nat} (ih : ∀ s il, cS y.sig y.shp n cc s = some il → PS X s (tS X.K y fu W il)) : ∀ {ss : List Stmt} {ils : List S}, ss.mapM (cS y.sig y.shp n cc) = some ils → PSs X ss (tSs X.K y fu W ils)
  | [], ils, h => by
    simp at h
    subst h
    exact pss_imp pss_nil fun D σ H z => rd_nil z
  | s :: ss, ils, h => by
    rw [List.mapM_cons] at h
    cases q : cS y.sig y.shp n cc s with
    | none => rw [q] at h; cases h
    | some t =>
      rw [q] at h
      cases q2 : ss.mapM (cS y.sig y.shp n cc) with
      | none => rw [q2] at h; cases h
      | some us =>
        rw [q2] at h
        cases h
        exact pss_imp (pss_cons (ih _ _ q) (ss_list ih q2)) fun D σ H z => rd_seq z
theorem nocomp {e : Expr} (h : isComp e = false) (t : Option Expr) (l : Nat) (env : PySem.Env) : swapsWith e t l env = pure false := by
  cases e <;> first | rfl | (cases h)
theorem nocomp1 {t e : Expr} (h : isComp e = false) (l : Nat) (env : PySem.Env) : swapsWithSole [t] e l env = pure false := nocomp h (some t) l env
theorem sub_asg {o i : Expr} {pos : Pos} {env : PySem.Env} (h : isSlice i = false) : ∀ v, assign (.Subscript o i pos) env v = (do
      let ov ← holding [v] (eval o env)
      let iv ← holding [v, ov] (eval i env)
      standAt pos
      holding [v, ov, iv] (setItem ov iv v)
      release [v, ov, iv] []) := by
  intro v
  cases i <;> first | rfl | (cases h)
theorem notup {t e : Expr} (h : isTup e = false) (env : PySem.Env) : swappedStores [t] e env = pure none := by
  cases e <;> first | (cases t <;> rfl) | (cases h)
theorem noswapN {x : Str} {p : Pos} {e : Expr} (env : PySem.Env) : swappedStores [.Name x p] e env = pure none := by
  cases e <;> rfl
theorem noswapS {o i : Expr} {p : Pos} {e : Expr} (env : PySem.Env) : swappedStores [.Subscript o i p] e env = pure none := by
  cases e <;> rfl
/-- name = comprehension, the name no plain local of that line -/
theorem swap_false {elt : Expr} {gs : List Comprehension} {scope : Scope} {pos py : Pos} {x : Str} {l : Nat} (F : Fit X cc k) (h : swap cc x py (.ListComp elt gs scope pos) = false) : swapsWith (.ListComp elt gs scope pos) (some (.Name x py)) l X.env = pure false := by
  have h' : (X.env.kindOf x == some .local && py.line == pos.line && !(scope.names.any fun (n, k) => n == x && (k == .local || k == .cell))) = false := by
    have e : X.env.kindOf x = cc.kind x := by
      show X.env.scope.names.lookup x = cc.sc.names.lookup x
      rw [F.sc]
    rw [e]
    exact h
  unfold swapsWith
  show (pure (X.env.blockKind == .function && X.env.kindOf x == some .local && py.line == (Expr.ListComp elt gs scope pos).pos.line && !(scope.names.any fun (n, k) => n == x && (k == .local || k == .cell))) : Sem Bool) = pure false
  have e2 : (Expr.ListComp elt gs scope pos).pos = pos := rfl
  rw [e2, Bool.and_assoc, Bool.and_assoc, ← Bool.and_assoc (X.env.kindOf x == some .local), h', Bool.and_false]
theorem ss_asg {n : Nat} (F : Fit X cc k) (E1 : Env1 X.K y X.prog X.w X.mg X.base k) (tk : Takes X W) (hk : X.env.scope.kind = .function) {x : Str} {py pos : Pos} {e : Expr} {i : Nat} {il : E} (hl : cc.loc x = true) (hi : slot cc.N x = some i) (h : cE y.sig y.shp n cc e = some il) :
    PS X (.Assign [.Name x py] e pos) (tS X.K y fu W (.asg i il)) := by
  obtain ⟨l1, l2⟩ := F.loc hl
  have hN : X.N[i]? = some x := by rw [F.N]; exact slot_ok hi
  by_cases hs : swap cc x py e = true
  · cases e with
    | ListComp elt gs scope p =>
      simp only [swap, Bool.and_eq_true, beq_iff_eq, Bool.not_eq_true'] at hs
      obtain ⟨⟨s1, s2⟩, s3⟩ := hs
      have hyl : X.env.scope.names.lookup x = some .local := by rw [F.sc]; exact s1
      have hsw : swapsWith (.ListComp elt gs scope p) (some (.Name x py)) pos.line X.env = pure true := sw_true hk hyl (by simpa using s2) s3
      cases n with
      | zero => simp only [cE] at h; cases h
      | succ n =>
        match gs, h, hsw with
        | [], h, _ => simp only [cE] at h; cases h
        | _ :: _ :: _, h, _ => simp only [cE] at h; cases h
        | [⟨tg, iter, ifs, a⟩], h, hsw =>
          simp only [cE] at h
          split at h
          · rename_i hc
            simp only [Bool.and_eq_true, beq_iff_eq, Bool.not_eq_true', decide_eq_true_eq] at hc
            obtain ⟨⟨⟨⟨h1, h2⟩, h3⟩, h4⟩, h5⟩ := hc
            subst h1
            split at h
            · rename_i ik srcs hit
              split at h
              · rename_i ss t is el q1 q2 q3 q4
                split at h
                · rename_i hsl
                  cases h
                  have ihX := sound (y := y) (k := k) n X W cc F E1 tk
                  obtain ⟨m1, e1⟩ := st_list ihX q1
                  have blk : ∀ (s : Shared) (H : Hp) (C : Addr) (cl : List (Str × Addr)) (fp : List Addr), Snd y k n (X.blk s H scope (compEnvC scope cl C X.env) fp) (fun _ _ _ _ => False) (cc.inner scope) := fun s H C cl fp =>
                    sound n _ _ _ (fit_blk F s H C cl fp) E1 takes0
                  refine ps_imp (so_setLc (W0 := fun _ _ _ _ => False) F.calm F.nd hN hyl hsw ((iter_ok F E1 hit).1 ss m1 e1) (by rw [F.N, F.sc]; exact blkOk_by h3) (fun i hi => ?_) (fun s H C cl fp => so_tg (fit_blk F s H C cl fp) n q2) (fun s H C cl fp => ?_) (fun s H C cl fp => (blk s H C cl fp).1 _ _ q4) (noset_ok h4)) fun D σ H z => rd_asg z
                  · have := List.all_eq_true.mp hsl i hi
                    simpa using this
                  · obtain ⟨l3, e3⟩ := mapM_all q3
                    match ifs, is, h2, l3, e3, h5 with
                    | [], [], _, _, _, _ => exact so_evt0
                    | [c], [il], _, _, e3, h5 => exact so_evt1 ((blk s H C cl fp).2.1 _ _ (by simpa using h5) (e3 (c, il) (by simp)))
                · cases h
              · cases h
            · cases h
          · cases h
    | _ => cases hs
  · have hs : swap cc x py e = false := by simpa using hs
    have pe := (sound (y := y) (k := k) n X W cc F E1 tk).1 _ _ h
    refine ps_imp (ps_set (i := i) F.nd hN l1 pe ?_ l2) fun D σ H z => rd_asg z
    cases e with
    | ListComp elt gs scope p => exact swap_false F hs
    | SetComp => cases n <;> simp only [cE] at h <;> cases h
    | DictComp => cases n <;> simp only [cE] at h <;> cases h
    | GeneratorExp => rfl
    | _ => rfl
theorem few_ok {e : Expr} {es : List Expr} {pos : Pos} {env : PySem.Env} (h : (e :: es).all noStar = true) (hz : (e :: es).length < 30) : ((backTo pos (starEach (e :: es) env)).all (fun x => !x.1) && (backToKw pos (keywordEach [] env)).all (fun x => x.1.isSome)
      && decide ((e :: es).length + ([] : List Keyword).length + (if ([] : List Keyword).isEmpty then 0 else 1) < 30)) = true := by
  have a := star_any (pos := pos) (env := env) h
  have b : (backTo pos (starEach (e :: es) env)).all (fun x => !x.1) = true := by
    rw [List.all_eq_true]
    intro p hp
    have := List.any_eq_false.mp a p hp
    simpa using this
  rw [b]
  show ((true && true) && decide ((e :: es).length + 0 + 0 < 30)) = true
  simpa using hz
theorem ss_app {x : Str} {px ap p pos : Pos} {i : Nat} {e : Expr} {il : E} (F : Fit X cc k) (hv : cc.vis x = true) (hi : slot cc.N x = some i) (hl : (ap.endLine == p.line) = true) (hs : noStar e = true) (he : PE X e (tEv X.K y W il)) :
    PS X (.Expr (.Call (.Attribute (.Name x px) "append" ap) [e] [] p) pos) (tS X.K y fu W (.app i il)) := by
  obtain ⟨v1, v2, v3⟩ := F.vis hv
  have all : [e].all noStar = true := by simp [hs]
  exact ps_imp (ps_expr (pe_bm PySem.F.plainAttrs_list PySem.F.slot_list_append PySem.F.type_list_append mt_append (pe_var (i := i) (by rw [F.N]; exact slot_ok hi) v1 v2 v3) (so_evs all (fun q hq => by simp at hq; rw [hq]; exact he) rfl) rfl (few_ok all (by simp)) hl (star_cons hs) rfl)) fun D σ H z => rd_app z
theorem ss_ins {x : Str} {px ap p pos : Pos} {i : Nat} {e g : Expr} {il jl : E} (F : Fit X cc k) (hv : cc.vis x = true) (hi : slot cc.N x = some i) (hl : (ap.endLine == p.line) = true) (hs : noStar e = true) (hs2 : noStar g = true) (he : PE X e (tEv X.K y W il)) (hg : PE X g (tEv X.K y W jl)) :
    PS X (.Expr (.Call (.Attribute (.Name x px) "insert" ap) [e, g] [] p) pos) (tS X.K y fu W (.ins i il jl)) := by
  obtain ⟨v1, v2, v3⟩ := F.vis hv
  have all : [e, g].all noStar = true := by simp [hs, hs2]
  exact ps_imp (ps_expr (pe_bm PySem.F.plainAttrs_list PySem.F.slot_list_insert PySem.F.type_list_insert mt_insert (pe_var (i := i) (by rw [F.N]; exact slot_ok hi) v1 v2 v3) (so_evs all (fun q hq => by simp at hq; rcases hq with hq | hq <;> (rw [hq]; assumption)) rfl) rfl (few_ok all (by simp)) hl (star_cons hs) (star_any (by simp [hs2])))) fun D σ H z => rd_ins z
theorem ss_expr {n : Nat} (F : Fit X cc k) (ihE : Snd y k n X W cc) {e : Expr} {p : Pos} {il : S} (h : cS y.sig y.shp (n + 1) cc (.Expr e p) = some il) : PS X (.Expr e p) (tS X.K y fu W il) := by
  have gen : isComp e = false → ∀ x, cE y.sig y.shp n cc e = some x → PS X (.Expr e p) (tS X.K y fu W (.drop x)) := fun hc x hx => ps_imp (ps_expr (ihE.1 _ _ hx) (nocomp hc _ _ _)) fun D σ H z => rd_drop z
  simp only [cS] at h
  unfold cX at h
  split at h
  · split at h
    · rename_i hc
      simp only [Bool.and_eq_true] at hc
      obtain ⟨⟨hv, hl⟩, hs⟩ := hc
      split at h
      · split at h
        · rename_i hm
          rw [beq_iff_eq] at hm
          subst hm
          split at h
          · rename_i i z h1 h2
            cases h
            exact ss_app F hv h1 hl (by simpa using hs) (ihE.1 _ _ h2)
          · cases h
        · cases h
      · split at h
        · rename_i hm
          rw [beq_iff_eq] at hm
          subst hm
          split at h
          · rename_i i z u h1 h2 h3
            cases h
            simp only [List.all_cons, List.all_nil, Bool.and_eq_true] at hs
            exact ss_ins F hv h1 hl hs.1 hs.2.1 (ihE.1 _ _ h2) (ihE.1 _ _ h3)
          · cases h
        · cases h
      · cases h
    · cases h
  · split at h
    · cases h
    · rename_i hc
      cases q : cE y.sig y.shp n cc e with
      | none => rw [q] at h; cases h
      | some x =>
        rw [q] at h
        cases h
        exact gen (by simpa using hc) x q
theorem snd_S (F : Fit X cc k) (E1 : Env1 X.K y X.prog X.w X.mg X.base k) (tk : Takes X W) (hp : PassesOwn (model X.prog X.w) X.A X.env X.xe) (hk : X.env.scope.kind = .function) : ∀ (n : Nat) (s : Stmt) (il : S), cS y.sig y.shp n cc s = some il → PS X s (tS X.K y fu W il)
  | 0, s, il, h => by simp only [cS] at h; cases h
  | n + 1, s, il, h => by
    have ih := snd_S F E1 tk hp hk n
    have ihE := sound (y := y) (k := k) n X W cc F E1 tk
    cases s with
    | Return o p =>
      cases o with
      | none =>
        simp only [cS] at h
        cases h
        exact ps_imp ps_retN fun D σ H ⟨w0, wz, Γ, st, w, e, f, q⟩ => by subst e; exact q .non w f.eff f.s (.non)
      | some e =>
        simp only [cS] at h
        cases q : cE y.sig y.shp n cc e with
        | none => rw [q] at h; cases h
        | some x =>
          rw [q] at h
          cases h
          exact ps_imp (ps_ret (ihE.1 _ _ q)) fun D σ H z => rd_ret z
    | Pass p =>
      simp only [cS] at h
      cases h
      exact ps_imp ps_pass fun D σ H ⟨w0, wz, Γ, st, w, e, f, q⟩ => by subst e; exact q σ w f
    | Break p =>
      simp only [cS] at h
      cases h
      exact ps_imp ps_break fun D σ H ⟨w0, wz, Γ, st, w, e, f, q⟩ => by subst e; exact q σ w f
    | Continue p =>
      simp only [cS] at h
      cases h
      exact ps_imp ps_continue fun D σ H ⟨w0, wz, Γ, st, w, e, f, q⟩ => by subst e; exact q σ w f
    | Assign ts e p =>
      match ts, h with
      | [], h => simp only [cS] at h; cases h
      | _ :: _ :: _, h => simp only [cS] at h; cases h
      | [t], h =>
        simp only [cS] at h
        split at h
        · split at h
          · rename_i hl
            split at h
            · rename_i i il' h1 h2
              split at h
              · rename_i hm
                cases h
                obtain ⟨l1, l2⟩ := F.loc hl
                refine ps_imp (ps_set (i := i) F.nd (by rw [F.N]; exact slot_ok h1) l1 (ihE.1 _ _ h2) ?_ l2) fun D σ H z => rd_asgSto z
                cases e <;> first | rfl | (cases hm)
              · cases h
                exact ss_asg F E1 tk hk hl h1 h2
            · cases h
          · cases h
        · split at h
          · cases h
          · rename_i hn
            simp only [Bool.or_eq_true, not_or, Bool.not_eq_true] at hn
            split at h
            · rename_i t' il' h1 h2
              cases h
              exact ps_imp (ps_asg (ihE.1 _ _ h2) (so_tg F n h1) (nocomp1 hn.2 _ _) (notup hn.1 _) rfl) fun D σ H z => rd_asgT z
            · cases h
        · split at h
          · cases h
          · rename_i hn
            simp only [Bool.or_eq_true, not_or, Bool.not_eq_true] at hn
            split at h
            · rename_i a b c h1 h2 h3
              cases h
              exact ps_imp (ps_asg (ihE.1 _ _ h3) (pg_sub (ihE.1 _ _ h1) (ihE.1 _ _ h2) set_list (sub_asg hn.2)) (nocomp1 hn.1 _ _) (noswapS _) rfl) fun D σ H z => rd_setI z
            · cases h
        · cases h
    | Expr e p => exact ss_expr F ihE h
    | If c a b p =>
      simp only [cS] at h
      split at h
      · cases h
      · rename_i hif
        split at h
        · rename_i x ya za h1 h2 h3
          cases h
          exact ps_imp (ps_if (ihE.2.1 _ _ (by simpa using hif) h1) (ss_list ih h2) (ss_list ih h3)) fun D σ H z => rd_if z
        · cases h
    | For tg it body els p =>
      cases els with
      | nil =>
        simp only [cS] at h
        split at h
        · rename_i hns
          split at h
          · rename_i ik srcs hit
            split at h
            · rename_i t ss b h1 h2 h3
              cases h
              obtain ⟨l1, e1⟩ := st_list ihE h2
              exact ps_imp (ps_for hp F.calm ((iter_ok F E1 hit).2 ss l1 e1) (so_tg F n h1) (ss_list ih h3) (noset_ok hns)) fun D σ H z => rd_for z
            · cases h
          · cases h
        · cases h
      | cons _ _ => simp only [cS] at h; cases h
    | While c body els p =>
      cases els with
      | nil =>
        simp only [cS] at h
        split at h
        · cases h
        · rename_i hif
          split at h
          · rename_i x b h1 h2
            cases h
            exact ps_imp (ps_while hp (ihE.2.1 _ _ (by simpa using hif) h1) (ss_list ih h2)) fun D σ H z => rd_while z
          · cases h
      | cons _ _ => simp only [cS] at h; cases h
    | _ => simp only [cS] at h; cases h
end
end Lt

/-! Lt, part T: a whole program. -/
namespace Lt
open PySem L2
structure Fn where
  ps : List Str
  N : List Str
  body : List S
  shp : List (List Str)
def fin (r : RS) : R (D × Fl) :=
  match r with
  | .nx _ st => .ok (.non, .sh) st
  | .rt x st => .ok x st
  | .exc x _ st => .exc x st
  | _ => .bad
def startE (N : List Str) (ds : List D) : Env := ds.map (fun d => some (d, false)) ++ List.replicate (N.length - ds.length) none
section
variable (G : Str → Option D) (pg : Str → Option Fn) (fu : Nat)
def sigF (f : Str) : Option (List Str) := (pg f).map (·.ps)
def shpF (f : Str) : List (List Str) := ((pg f).map (·.shp)).getD []
def callF : Nat → Str → List D → Sto → R (D × Fl)
  | 0, _, _, _ => .bad
  | n + 1, f, ds, st => match pg f with
    | some fn => if ds.length = fn.ps.length then fin (evSs G (sigF pg) (callF n) fu (startE fn.N ds) st fn.body) else .bad
    | none => .bad
end
/-- what stands of a def behind the top -/
def FnFact (K : PySem.W.Frag) (mg : Str → Option Value) (pg : Str → Option Fn) (f : Str) (fn : Fn) : Prop :=
  ∃ (st : Stmt) (a : Addr) (fd : FuncData), Fun K f f st a fd ∧ FnScope fn.N fn.ps (defScope st) ∧ (defBody st).mapM (cS (sigF pg) (shpF pg) 60 ⟨fn.N, defScope st, fun _ => true⟩) = some fn.body ∧ mg f = some (.ref a) ∧
    ∀ ks ∈ fn.shp, ∀ (s : Shared) (us us' : List Value), K.In s.heap → order fn.ps ks us = some us' → BindsTo s fd ⟨us.take (us.length - ks.length), ks.zip (us.drop (us.length - ks.length))⟩ (fn.ps.zip us')
def sysF (XR : Wd → Value → Option Addr → Xc → Prop) (G : Str → Option D) (pg : Str → Option Fn) (fu n : Nat) : Sy := ⟨XR, G, sigF pg, shpF pg, callF G pg fu n⟩
theorem SR.start {K : PySem.W.Frag} {w : Wd} {N : List Str} {vs : List V} {ds : List D} (r : RepL K w vs ds) : SR K (startE N ds) (L2.start N vs) w := by
  have hl := r.length
  have own : ∀ (i : Nat) (d : D), (startE N ds)[i]? ≠ some (some (d, true)) := fun i d q => by
    unfold startE at q
    by_cases hi : i < ds.length
    · rw [List.getElem?_append_left (by simpa using hi), List.getElem?_map, List.getElem?_eq_getElem hi] at q
      cases q
    · rw [List.getElem?_append_right (by simpa using hi)] at q
      have := List.mem_of_getElem? q
      rw [List.mem_replicate] at this
      cases this.2
  refine ⟨?_, fun i d q => ?_, fun i d q => absurd q (own i d), fun i j d e a q => absurd q (own i d)⟩
  · unfold startE L2.start
    simp [hl]
  · unfold startE at q
    unfold L2.start
    by_cases hi : i < ds.length
    · rw [List.getElem?_append_left (by simpa using hi), List.getElem?_map, List.getElem?_eq_getElem hi] at q
      cases q
      obtain ⟨v, h1, h2⟩ := r.getD (List.getElem?_eq_getElem hi)
      refine ⟨v, ?_, h2⟩
      rw [List.getElem?_append_left (by simp; omega), List.getElem?_map, h1]
      rfl
    · rw [List.getElem?_append_right (by simpa using hi)] at q
      have := List.mem_of_getElem? q
      rw [List.mem_replicate] at this
      cases this.2
section
variable {P : Program} {w : World} {K : PySem.W.Frag} {mg : Str → Option Value} {base : Heap} {XR : Wd → Value → Option Addr → Xc → Prop} {G : Str → Option D} {pg : Str → Option Fn} {fu : Nat}
theorem fn_one {n : Nat} {f : Str} {fn : Fn} {st : Stmt} {a : Addr} {fd : FuncData} (E1 : Env1 K (sysF XR G pg fu n) P w mg base n) (hf : pg f = some fn) (Fu : Fun K f f st a fd) (S : FnScope fn.N fn.ps (defScope st))
    (hc : (defBody st).mapM (cS (sigF pg) (shpF pg) 60 ⟨fn.N, defScope st, fun _ => true⟩) = some fn.body) : FnOk P w K mg base (L2.CX P w) (n + 1) a fd fn.ps (spF K (sysF XR G pg fu (n + 1)) f fn.ps) := by
  refine Fu.okX S (fun vs H Q E h => ?_) (fun cdv A outer s H vs Q E hr h => ?_)
  · obtain ⟨wd, st, ds, _, _, r, hl, _⟩ := h
    rw [r.length, hl]
  · obtain ⟨wd, sto, ds, hH, s0, r, hl, p⟩ := h
    subst hH
    have fit : Fit (cxOf (L2.CX P w) P w K mg base fn.N f (defScope st) a cdv A outer s wd.H E) ⟨fn.N, defScope st, fun _ => true⟩ n := ⟨rfl, S.nd, rfl, fun _ _ => rfl, rfl, hr⟩
    have tk : Takes (cxOf (L2.CX P w) P w K mg base fn.N f (defScope st) a cdv A outer s wd.H E) (fun cls d _ H => E cls d H) := takes_of rfl rfl rfl rfl
    refine ⟨tSs K (sysF XR G pg fu n) fu (fun cls d _ H => E cls d H) fn.body, ?_, ?_⟩
    · exact ss_list (X := cxOf (L2.CX P w) P w K mg base fn.N f (defScope st) a cdv A outer s wd.H E) (y := sysF XR G pg fu n) (fun s' il h' => snd_S fit E1 tk (passes_of rfl) S.kind 60 s' il h') hc
    · refine ⟨wd, wd, startE fn.N ds, sto, wd, rfl, ⟨.refl _, .refl _, s0, SR.start r, fun i d b q => ?_⟩, ?_⟩
      · have sr := SR.start (N := fn.N) r
        unfold startE at q
        by_cases hi : i < ds.length
        · rw [List.getElem?_append_left (by simpa using hi), List.getElem?_map, List.getElem?_eq_getElem hi] at q
          cases q
        · rw [List.getElem?_append_right (by simpa using hi)] at q
          have := List.mem_of_getElem? q
          rw [List.mem_replicate] at this
          cases this.2
      · have p' : Post K XR (fun c d _ H => E c d H) [] (JE K) (fin (evSs G (sigF pg) (callF G pg fu n) fu (startE fn.N ds) sto fn.body)) wd Q := by
          have e : (sysF XR G pg fu (n + 1)).call f ds sto = fin (evSs G (sigF pg) (callF G pg fu n) fu (startE fn.N ds) sto fn.body) := by
            show callF G pg fu (n + 1) f ds sto = _
            simp only [callF, hf, hl, if_true]
          rw [← e]
          exact p
        show PostS K XR (fun cls d _ H => E cls d H) (evSs G (sigF pg) (callF G pg fu n) fu (startE fn.N ds) sto fn.body) wd wd _
        cases q : evSs G (sigF pg) (callF G pg fu n) fu (startE fn.N ds) sto fn.body with
        | nx Γ st' =>
          rw [q] at p'
          exact fun σ w' f' => p' .non w' f'.eff f'.s .non
        | rt x st' =>
          rw [q] at p'
          exact fun v w' e' s' t' => p' v w' e' s' t'
        | exc x Γ st' =>
          rw [q] at p'
          exact fun σ c d w' f' r' => p' c d w' f'.eff f'.s r'
        | bk Γ st' => rw [q] at p'; exact p'.elim
        | ct Γ st' => rw [q] at p'; exact p'.elim
        | bad => rw [q] at p'; exact p'.elim
theorem fn_step {n : Nat} {f : Str} {fn : Fn} (E1 : Env1 K (sysF XR G pg fu n) P w mg base n) (hf : pg f = some fn) (F : FnFact K mg pg f fn) : ∃ a fd, FnOk P w K mg base (L2.CX P w) (n + 1) a fd fn.ps (spF K (sysF XR G pg fu (n + 1)) f fn.ps) ∧ mg f = some (.ref a) ∧ PySem.W.keepIn K (.ref a) = true ∧
    ∀ ks ∈ fn.shp, ∀ (s : Shared) (us us' : List Value), K.In s.heap → order fn.ps ks us = some us' → BindsTo s fd ⟨us.take (us.length - ks.length), ks.zip (us.drop (us.length - ks.length))⟩ (fn.ps.zip us') := by
  obtain ⟨st, a, fd, Fu, S, hc, hm, hb⟩ := F
  exact ⟨a, fd, fn_one E1 hf Fu S hc, hm, Fu.kp, hb⟩
theorem all_ok (hG : ∀ x d, G x = some d → ∃ v u, mg x = some u ∧ RelV v u ∧ ∀ wd, Rep K wd v d) (hB : ∀ x ∈ (["len", "all", "any", "int", "list", "isinstance", "bool", "str", "tuple", "range", "enumerate", "zip"] : List Str), mg x = none)
    (hF : ∀ f fn, pg f = some fn → FnFact K mg pg f fn) : ∀ n : Nat, Env1 K (sysF XR G pg fu n) P w mg base n
  | 0 => ⟨hG, fun f ps hs => by
      have hs : (pg f).map (·.ps) = some ps := hs
      cases hf : pg f with
      | none => rw [hf] at hs; cases hs
      | some fn =>
        rw [hf] at hs
        cases hs
        obtain ⟨st, a, fd, Fu, S, hc, hm, hb⟩ := hF f fn hf
        refine ⟨a, fd, ⟨fun vs H Q E h => ?_, fun A outer s H args us vs Q E _ _ _ _ h => ?_⟩, hm, Fu.kp, ?_⟩
        · obtain ⟨_, _, _, _, _, _, _, p⟩ := h
          exact p.elim
        · obtain ⟨_, _, _, _, _, _, _, p⟩ := h
          exact p.elim
        · have e : shpF pg f = fn.shp := by simp [shpF, hf]
          show ∀ ks ∈ shpF pg f, _
          rw [e]
          exact hb, hB⟩
  | n + 1 => ⟨hG, fun f ps hs => by
      have hs : (pg f).map (·.ps) = some ps := hs
      cases hf : pg f with
      | none => rw [hf] at hs; cases hs
      | some fn =>
        rw [hf] at hs
        cases hs
        have e : shpF pg f = fn.shp := by simp [shpF, hf]
        show ∃ a fd, _ ∧ _ ∧ _ ∧ ∀ ks ∈ shpF pg f, _
        rw [e]
        exact fn_step (all_ok hG hB hF n) hf (hF f fn hf), hB⟩
end
end Lt

/-! Lt, part U: from the top's facts to the law. -/
namespace Lt
open PySem L2
theorem fact_mk {K : PySem.W.Frag} {mg : Str → Option Value} {h : Heap} {pg : Str → Option Fn} {f : Str} {fn : Fn} {st : Stmt} {a : Addr} {oc : Value} {od an : Option Addr} {osl : Array (Option Value)} {kV doc pm cdv ct : Value} (X : K.In h) (Gn : h.Ns mainGlobals mg)
    (a1 : PySem.W.nsIn K mainGlobals f = some (some (.ref a))) (l : K.lookup a = some ⟨oc, od, .func (PySem.W.fnOf f f (defArgs st) (defBody st) (defScope st) .none kV doc pm an cdv ct), osl⟩)
    (c : PySem.W.codeIn K cdv f = true) (k : PySem.W.keepIn K (.ref a) = true) (S : FnScope fn.N fn.ps (defScope st)) (hc : (defBody st).mapM (cS (sigF pg) (shpF pg) 60 ⟨fn.N, defScope st, fun _ => true⟩) = some fn.body)
    (hb : ∀ ks ∈ fn.shp, ∀ (us us' : List Value), order fn.ps ks us = some us' → ∀ (kV doc pm : Value) (an : Option Addr) (cdv ct : Value), bindArgs (PySem.W.fnOf f f (defArgs st) (defBody st) (defScope st) .none kV doc pm an cdv ct) ⟨us.take (us.length - ks.length), ks.zip (us.drop (us.length - ks.length))⟩ = pure (fn.ps.zip us')) : FnFact K mg pg f fn :=
  ⟨st, a, _, fun_mk l c k, S, hc, PySem.W.mg_of X Gn a1, fun ks hk s us us' _ ho => .of_eq (hb ks hk us us' ho _ _ _ _ _ _)⟩
theorem order_len {α : Type} {ps ks : List Str} {ds ds' : List α} (h : order ps ks ds = some ds') : ds.length = ps.length := by
  unfold order at h
  split at h
  · rename_i hz; exact hz.1
  · cases h
theorem cx_none {P : Program} {w : World} {outer : List PySem.Env} {H : Hp} {s : Shared} {e : Value} {s' : Shared} (h : L2.CX P w outer H s (fun _ _ _ => False) e s') : False := by
  unfold L2.CX at h
  simp at h
theorem sp_law {K : PySem.W.Frag} {y : Sy} {x : Str} {H : Hp} {a : Addr} {ns : List Int} {st : Sto} (hS : SqL K H a (ns.map V.int)) (h : y.call "law" [.scr ns] [] = .ok (.bl true, .sh) st) : spF K y "law" [x] [.ref a] H (fun v _ => v = .bl true) fun _ _ _ => False := by
  refine ⟨⟨[], fun _ => False, H⟩, [], [.scr ns], rfl, ⟨rfl, .nil, fun _ h => (by simp at h), fun _ h => h.elim, fun n so b h => (by simp at h)⟩, .cons (.scr ?_) .nil, rfl, ?_⟩
  · rcases hS with hS | hS
    · exact .inl ⟨fun z => z, hS⟩
    · exact .inr hS
  · rw [h]
    intro v w' _ _ t
    cases t
    rfl
theorem const_str {K : PySem.W.Frag} {mg : Str → Option Value} {h : Heap} {x z : Str} {t : Tok} (X : K.In h) (Gn : h.Ns mainGlobals mg) (a1 : PySem.W.nsIn K mainGlobals x = some (some (.str z t))) : ∃ v u, mg x = some u ∧ RelV v u ∧ ∀ wd, Rep K wd v (.str z) :=
  ⟨.str z, _, PySem.W.mg_of X Gn a1, ⟨t, rfl⟩, fun _ => .str z⟩
theorem const_int {K : PySem.W.Frag} {mg : Str → Option Value} {h : Heap} {x : Str} {z : Int} {t : Tok} (X : K.In h) (Gn : h.Ns mainGlobals mg) (a1 : PySem.W.nsIn K mainGlobals x = some (some (.int z t))) : ∃ v u, mg x = some u ∧ RelV v u ∧ ∀ wd, Rep K wd v (.int z) :=
  ⟨.int z, _, PySem.W.mg_of X Gn a1, ⟨t, rfl⟩, fun _ => .int z⟩
end Lt

/-! Lt, part V: evaluation step by step (rules for simp), what an outcome is to be. -/
namespace Lt
open PySem L2
section
variable {G : Str → Option D} {sig : Str → Option (List Str)} {call : Str → List D → Sto → R (D × Fl)} {fu : Nat} {Γ : Env} {st : Sto}
@[simp] theorem ev_c (d : D) : ev G sig call Γ st (.c d) = .ok (d, .sh) st := rfl
theorem ev_var (i : Nat) : ev G sig call Γ st (.var i) = match Γ[i]? with
    | some (some (d, o)) => .ok (d, if o then .bor else .sh) st
    | _ => .bad := rfl
@[simp] theorem ev_glob (x : Str) : ev G sig call Γ st (.glob x) = ofO ((G x).map fun d => (d, .sh)) st := rfl
@[simp] theorem ev_bin (op : Bop) (a b : E) : ev G sig call Γ st (.bin op a b) = (ev G sig call Γ st a).bind fun x st => (ev G sig call Γ st b).bind fun y st => ofO (binF op x.1 y.1) st := rfl
@[simp] theorem ev_neg (a : E) : ev G sig call Γ st (.neg a) = (ev G sig call Γ st a).bind fun x st => match x.1 with | .int i => .ok (.int (-i), .sh) st | _ => .bad := rfl
@[simp] theorem ev_cmp (op : Cop) (a b : E) : ev G sig call Γ st (.cmp op a b) = (ev G sig call Γ st a).bind fun x st => (ev G sig call Γ st b).bind fun y st => ofO ((cmpF op x.1 y.1).map fun r => (.bl r, .sh)) st := rfl
@[simp] theorem ev_chain (o1 o2 : Cop) (a b c : E) : ev G sig call Γ st (.chain o1 o2 a b c) = (ev G sig call Γ st a).bind fun x st => (ev G sig call Γ st b).bind fun y st => match cmpF o1 x.1 y.1 with
    | some false => .ok (.bl false, .sh) st
    | some true => (ev G sig call Γ st c).bind fun z st => ofO ((cmpF o2 y.1 z.1).map fun r => (.bl r, .sh)) st
    | none => .bad := rfl
@[simp] theorem ev_and (a b : E) : ev G sig call Γ st (.and a b) = (ev G sig call Γ st a).bind fun x st => match x.1 with | .bl false => .ok (.bl false, .sh) st | .bl true => ev G sig call Γ st b | _ => .bad := rfl
@[simp] theorem ev_or (a b : E) : ev G sig call Γ st (.or a b) = (ev G sig call Γ st a).bind fun x st => match x.1 with | .bl true => .ok (.bl true, .sh) st | .bl false => ev G sig call Γ st b | _ => .bad := rfl
@[simp] theorem ev_not (a : E) : ev G sig call Γ st (.not a) = (ev G sig call Γ st a).bind fun x st => match x.1 with | .bl b => .ok (.bl (!b), .sh) st | _ => .bad := rfl
@[simp] theorem ev_ife (c a b : E) : ev G sig call Γ st (.ife c a b) = (ev G sig call Γ st c).bind fun x st => match x.1 with | .bl true => ev G sig call Γ st a | .bl false => ev G sig call Γ st b | _ => .bad := rfl
@[simp] theorem ev_lst (es : List E) : ev G sig call Γ st (.lst es) = (evs G sig call Γ st es).bind fun ds st => if ds.length ≤ sizeLine then .ok (.lst ds, .own) st else .bad := rfl
@[simp] theorem ev_tup (es : List E) : ev G sig call Γ st (.tup es) = (evs G sig call Γ st es).bind fun ds st => if ds.length ≤ sizeLine then .ok (.tup ds, .sh) st else .bad := rfl
@[simp] theorem ev_idx (a i : E) : ev G sig call Γ st (.idx a i) = (ev G sig call Γ st a).bind fun x st => (ev G sig call Γ st i).bind fun y st => ofO ((deref st x.1).bind fun d => (idxF d y.1).map fun r => (r, .sh)) st := rfl
@[simp] theorem ev_slice (a : E) (lo hi : Option E) : ev G sig call Γ st (.slice a lo hi) = (ev G sig call Γ st a).bind fun x st => (evo G sig call Γ st lo).bind fun l st => (evo G sig call Γ st hi).bind fun h st => ofO (sliceF x.1 l h) st := rfl
@[simp] theorem ev_call (f : Str) (es : List E) (ks : List Str) : ev G sig call Γ st (.call f es ks) = (evs G sig call Γ st es).bind fun ds st => callO sig call f ks ds st := rfl
@[simp] theorem ev_blt (b : Blt) (es : List E) : ev G sig call Γ st (.blt b es) = (evr G sig call Γ st es).bind fun ds st => ofO (bltF b ds) st := rfl
@[simp] theorem ev_join (s x : E) : ev G sig call Γ st (.join s x) = (ev G sig call Γ st s).bind fun a st => (ev G sig call Γ st x).bind fun b st => ofO ((joinF a.1 b.1).map fun r => (r, .sh)) st := rfl
@[simp] theorem ev_isi (a : E) (ts : List Ty) : ev G sig call Γ st (.isi a ts) = (ev G sig call Γ st a).bind fun x st => ofO ((isFs x.1 ts).map fun r => (.bl r, .sh)) st := rfl
/-- one turn of a comprehension -/
def turnC (G : Str → Option D) (sig : Str → Option (List Str)) (call : Str → List D → Sto → R (D × Fl)) (Γ : Env) (tg : Tg) (ifs : List E) (elt : E) (d : D) (acc : List D) (st : Sto) : R (List D) :=
  match bindT Γ tg d with
  | some Γ' => (evt G sig call Γ' st ifs).calm.bind fun t st => if t then (ev G sig call Γ' st elt).calm.bind fun y st => if y.2 = .bor ∨ sizeLine ≤ acc.length then .bad else .ok (acc ++ [y.1]) st else .ok acc st
  | none => .bad
@[simp] theorem ev_lc (own : List Nat) (k : Ik) (tg : Tg) (srcs ifs : List E) (elt : E) : ev G sig call Γ st (.lc own k tg srcs ifs elt) = ((evr G sig call Γ st srcs).bind fun ds st => ofO (itF k ds) st).bind fun items st =>
      (walkR (turnC G sig call (wipeE Γ own) tg ifs elt) items (.ok [] st)).bind fun acc st => .ok (.lst acc, .own) st := rfl
@[simp] theorem evs_nil : evs G sig call Γ st [] = .ok [] st := rfl
@[simp] theorem evs_cons (e : E) (es : List E) : evs G sig call Γ st (e :: es) = (ev G sig call Γ st e).bind fun x st => if x.2 = .bor then .bad else (evs G sig call Γ st es).bind fun ds st => .ok (x.1 :: ds) st := rfl
@[simp] theorem evr_nil : evr G sig call Γ st [] = .ok [] st := rfl
@[simp] theorem evr_cons (e : E) (es : List E) : evr G sig call Γ st (e :: es) = (ev G sig call Γ st e).bind fun x st => (evr G sig call Γ st es).bind fun ds st => .ok (x.1 :: ds) st := rfl
@[simp] theorem evo_none : evo G sig call Γ st none = .ok none st := rfl
@[simp] theorem evo_some (e : E) : evo G sig call Γ st (some e) = (ev G sig call Γ st e).bind fun x st => match x.1 with | .int i => .ok (some i) st | _ => .bad := rfl
@[simp] theorem evt_nil : evt G sig call Γ st [] = .ok true st := rfl
@[simp] theorem evt_cons (e : E) (es : List E) : evt G sig call Γ st (e :: es) = (ev G sig call Γ st e).bind fun x st => match x.1 with | .bl true => evt G sig call Γ st es | .bl false => .ok false st | _ => .bad := rfl
@[simp] theorem ofO_some {α : Type} (a : α) : ofO (some a) st = .ok a st := rfl
@[simp] theorem ofO_none {α : Type} : ofO (none : Option α) st = .bad := rfl
@[simp] theorem bindS_ok {α : Type} (a : α) (k : α → Sto → RS) : bindS Γ (.ok a st) k = k a st := rfl
@[simp] theorem andThen_nx (k : Env → Sto → RS) : (RS.nx Γ st).andThen k = k Γ st := rfl
@[simp] theorem andThen_rt (x : D × Fl) (k : Env → Sto → RS) : (RS.rt x st).andThen k = .rt x st := rfl
@[simp] theorem calm_ok {α : Type} (a : α) : (R.ok a st).calm = .ok a st := rfl
@[simp] theorem evSs_nil : evSs G sig call fu Γ st [] = .nx Γ st := rfl
@[simp] theorem evSs_cons (s : S) (ss : List S) : evSs G sig call fu Γ st (s :: ss) = (evS G sig call fu Γ st s).andThen fun Γ st => evSs G sig call fu Γ st ss := rfl
theorem evS_ret (e : E) : evS G sig call fu Γ st (.ret e) = bindS (freeze Γ (esc true e)) (ev G sig call (freeze Γ (esc true e)) st e) fun x st => if x.2 = .bor then .bad else .rt x st := rfl
end
/-! ### an outcome that is to be good -/
def wpR {α : Type} (r : R α) (Q : α → Sto → Prop) : Prop :=
  match r with
  | .ok a st => Q a st
  | _ => False
def wpS (r : RS) (Q : Env → Sto → Prop) (T : D × Fl → Sto → Prop) : Prop :=
  match r with
  | .nx Γ st => Q Γ st
  | .rt x st => T x st
  | _ => False
@[simp] theorem wpR_ok {α : Type} {a : α} {st : Sto} {Q : α → Sto → Prop} : wpR (.ok a st) Q = Q a st := rfl
theorem wpR_bind {α β : Type} {r : R α} {k : α → Sto → R β} {Q : β → Sto → Prop} (h : wpR r fun a st => wpR (k a st) Q) : wpR (r.bind k) Q := by
  cases r <;> exact h
theorem wpR_mono {α : Type} {r : R α} {Q Q' : α → Sto → Prop} (h : wpR r Q) (f : ∀ a st, Q a st → Q' a st) : wpR r Q' := by
  cases r with
  | ok a st => exact f a st h
  | exc x st => exact h
  | bad => exact h
theorem wpS_bind {α : Type} {Γ : Env} {r : R α} {k : α → Sto → RS} {Q : Env → Sto → Prop} {T : D × Fl → Sto → Prop} (h : wpR r fun a st => wpS (k a st) Q T) : wpS (bindS Γ r k) Q T := by
  cases r <;> exact h
theorem wpS_then {r : RS} {k : Env → Sto → RS} {Q : Env → Sto → Prop} {T : D × Fl → Sto → Prop} (h : wpS r (fun Γ st => wpS (k Γ st) Q T) T) : wpS (r.andThen k) Q T := by
  cases r <;> exact h
theorem wpS_mono {r : RS} {Q Q' : Env → Sto → Prop} {T T' : D × Fl → Sto → Prop} (h : wpS r Q T) (f : ∀ Γ st, Q Γ st → Q' Γ st) (g : ∀ x st, T x st → T' x st) : wpS r Q' T' := by
  cases r with
  | nx Γ st => exact f _ _ h
  | rt x st => exact g _ _ h
  | bk Γ st => exact h
  | ct Γ st => exact h
  | exc x Γ st => exact h
  | bad => exact h
theorem wpR_ofO {α : Type} {o : Option α} {a : α} {st : Sto} {Q : α → Sto → Prop} (e : o = some a) (h : Q a st) : wpR (ofO o st) Q := by
  subst e
  exact h
/-- a loop by an invariant -/
theorem wp_loop {tg : Tg} {body : Env → Sto → RS} {T : D × Fl → Sto → Prop} (P : Nat → Env → Sto → Prop) : ∀ (items : List D) (i : Nat) (Γ : Env) (st : Sto), P i Γ st →
    (∀ (j : Nat) d Γ st, items[j]? = some d → P (i + j) Γ st → ∃ Γ', bindT Γ tg d = some Γ' ∧ wpS (body Γ' st) (P (i + j + 1)) T) → wpS (loopS tg body items Γ st) (P (i + items.length)) T
  | [], i, Γ, st, h0, _ => h0
  | d :: r, i, Γ, st, h0, hs => by
    obtain ⟨Γ', e, w⟩ := hs 0 d Γ st rfl h0
    simp only [loopS, e]
    cases q : body Γ' st with
    | nx Γ2 st2 =>
      rw [q] at w
      have := wp_loop P r (i + 1) Γ2 st2 w fun j d' Γ st hd hp => by
        have := hs (j + 1) d' Γ st hd (by rw [show i + (j + 1) = i + 1 + j by omega]; exact hp)
        rw [show i + (j + 1) + 1 = i + 1 + j + 1 by omega] at this
        exact this
      rw [show i + 1 + r.length = i + (d :: r).length by simp; omega] at this
      exact this
    | rt x st2 => rw [q] at w; exact w
    | bk Γ2 st2 => rw [q] at w; exact w.elim
    | ct Γ2 st2 => rw [q] at w; exact w.elim
    | exc x Γ2 st2 => rw [q] at w; exact w
    | bad => rw [q] at w; exact w
/-- a comprehension by an invariant of what it has made -/
theorem wp_walk {α β : Type} {g : β → α → Sto → R α} (P : Nat → α → Sto → Prop) : ∀ (items : List β) (i : Nat) (a : α) (st : Sto), P i a st →
    (∀ (j : Nat) d a st, items[j]? = some d → P (i + j) a st → wpR (g d a st) (P (i + j + 1))) → wpR (walkR g items (.ok a st)) (P (i + items.length))
  | [], i, a, st, h0, _ => h0
  | d :: r, i, a, st, h0, hs => by
    have w := hs 0 d a st rfl h0
    show wpR (walkR g r (g d a st)) _
    cases q : g d a st with
    | ok a2 st2 =>
      rw [q] at w
      have := wp_walk P r (i + 1) a2 st2 w fun j d' a st hd hp => by
        have := hs (j + 1) d' a st hd (by rw [show i + (j + 1) = i + 1 + j by omega]; exact hp)
        rw [show i + (j + 1) + 1 = i + 1 + j + 1 by omega] at this
        exact this
      rw [show i + 1 + r.length = i + (d :: r).length by simp; omega] at this
      exact this
    | exc x st2 => rw [q] at w; exact w.elim
    | bad => rw [q] at w; exact w.elim
end Lt

/-! Lt, part W: the draws of a law. -/
namespace Lt
open PySem L2
@[simp] theorem cmp_eqI (a b : Int) : cmpF .eq (.int a) (.int b) = some (a == b) := rfl
@[simp] theorem cmp_neI (a b : Int) : cmpF .ne (.int a) (.int b) = some (!(a == b)) := rfl
@[simp] theorem cmp_ltI (a b : Int) : cmpF .lt (.int a) (.int b) = some (decide (a < b)) := rfl
@[simp] theorem cmp_leI (a b : Int) : cmpF .le (.int a) (.int b) = some (decide (a ≤ b)) := rfl
@[simp] theorem cmp_gtI (a b : Int) : cmpF .gt (.int a) (.int b) = some (decide (b < a)) := rfl
@[simp] theorem cmp_geI (a b : Int) : cmpF .ge (.int a) (.int b) = some (decide (b ≤ a)) := rfl
@[simp] theorem cmp_eqB (a b : Bool) : cmpF .eq (.bl a) (.bl b) = some (a == b) := rfl
@[simp] theorem cmp_neB (a b : Bool) : cmpF .ne (.bl a) (.bl b) = some (!(a == b)) := rfl
@[simp] theorem cmp_isn (a : D) : cmpF .isn a .non = some (isNon a) := rfl
@[simp] theorem cmp_notn (a : D) : cmpF .notn a .non = some (!isNon a) := rfl
@[simp] theorem bin_addI (a b : Int) : binF .add (.int a) (.int b) = some (.int (a + b), .sh) := rfl
@[simp] theorem bin_subI (a b : Int) : binF .sub (.int a) (.int b) = some (.int (a - b), .sh) := rfl
theorem bin_mulI {a b : Int} (h : (-(2 ^ 64) < a ∧ a < 2 ^ 64) ∨ (-(2 ^ 64) < b ∧ b < 2 ^ 64)) : binF .mul (.int a) (.int b) = some (.int (a * b), .sh) := if_pos h
theorem bin_divI {a b : Int} (h : 0 < b ∧ b < 1073741824) : binF .fdiv (.int a) (.int b) = some (.int (a / b), .sh) := if_pos h
theorem bin_modI {a b : Int} (h : 0 < b) : binF .mod (.int a) (.int b) = some (.int (a % b), .sh) := if_pos h
@[simp] theorem blt_intI (a : Int) : bltF .int [.int a] = some (.int a, .sh) := rfl
@[simp] theorem blt_lenL (xs : List D) : bltF .len [.lst xs] = some (.int xs.length, .sh) := rfl
@[simp] theorem blt_lenT (xs : List D) : bltF .len [.tup xs] = some (.int xs.length, .sh) := rfl
@[simp] theorem deref_lst (st : Sto) (xs : List D) : deref st (.lst xs) = some (.lst xs) := rfl
@[simp] theorem deref_tup (st : Sto) (xs : List D) : deref st (.tup xs) = some (.tup xs) := rfl
@[simp] theorem deref_str (st : Sto) (x : Str) : deref st (.str x) = some (.str x) := rfl
/-- the bag: its cells, the next one, the great one, the seed, the count -/
def bagO (cells : List Int) (p g s c : Int) : SO := .lst [.lst (cells.map .int), .int p, .int g, .int s, .int c]
def BagOk (st : Sto) : Prop := ∃ cells p g s c rest, st = bagO cells p g s c :: rest ∧ 0 ≤ p ∧ 0 ≤ g ∧ 0 ≤ s ∧ s < 2147483587
theorem deref_bag {cells : List Int} {p g s c : Int} {rest : Sto} : deref (bagO cells p g s c :: rest) (.ref 0) = some (.lst [.lst (cells.map .int), .int p, .int g, .int s, .int c]) := rfl
theorem stoSet_bag {cells : List Int} {p g s c : Int} {rest : Sto} (v : D) : stoSet (bagO cells p g s c :: rest) (.ref 0) (.int 1) v = some (.lst [.lst (cells.map .int), v, .int g, .int s, .int c] :: rest) ∧ stoSet (bagO cells p g s c :: rest) (.ref 0) (.int 2) v = some (.lst [.lst (cells.map .int), .int p, v, .int s, .int c] :: rest) ∧
    stoSet (bagO cells p g s c :: rest) (.ref 0) (.int 3) v = some (.lst [.lst (cells.map .int), .int p, .int g, v, .int c] :: rest) ∧ stoSet (bagO cells p g s c :: rest) (.ref 0) (.int 4) v = some (.lst [.lst (cells.map .int), .int p, .int g, .int s, v] :: rest) := ⟨rfl, rfl, rfl, rfl⟩
def bDraw1 : S := (.ife (.and (.cmp .eq (.idx (.var 0) (.c (.int 2))) (.c (.int 0))) (.cmp .lt (.idx (.var 0) (.c (.int 1))) (.blt .len [(.idx (.var 0) (.c (.int 0)))]))) [(.asg 2 (.idx (.idx (.var 0) (.c (.int 0))) (.idx (.var 0) (.c (.int 1))))), (.setI (.var 0) (.c (.int 1)) (.bin .add (.idx (.var 0) (.c (.int 1))) (.c (.int 1)))), (.setI (.var 0) (.c (.int 2)) (.ife (.cmp .ge (.var 2) (.bin .pow (.c (.int 10)) (.c (.int 18)))) (.var 2) (.c (.int 0)))), (.setI (.var 0) (.c (.int 3)) (.bin .mod (.blt .int [(.bin .add (.bin .add (.bin .mul (.idx (.var 0) (.c (.int 3))) (.c (.int 40013))) (.bin .mul (.bin .mod (.blt .int [(.var 2)]) (.c (.int 2147483549))) (.c (.int 293)))) (.c (.int 2003)))]) (.c (.int 2147483587))))] [])
def bDraw2 : List S := [(.ife (.cmp .gt (.idx (.var 0) (.c (.int 2))) (.c (.int 0))) [(.asg 3 (.bin .mod (.blt .int [(.idx (.var 0) (.c (.int 2)))]) (.var 1))), (.setI (.var 0) (.c (.int 2)) (.bin .fdiv (.idx (.var 0) (.c (.int 2))) (.var 1))), (.ret (.var 3))] []),
    (.setI (.var 0) (.c (.int 4)) (.bin .add (.idx (.var 0) (.c (.int 4))) (.c (.int 1)))),
    (.asg 4 (.idx (.var 0) (.c (.int 3)))),
    (.setI (.var 0) (.c (.int 3)) (.bin .mod (.blt .int [(.bin .add (.bin .add (.bin .add (.bin .mul (.var 4) (.var 4)) (.bin .mul (.c (.int 65063)) (.var 4))) (.bin .mul (.c (.int 6661)) (.idx (.var 0) (.c (.int 4))))) (.c (.int 40009)))]) (.c (.int 2147483587)))),
    (.ret (.bin .mod (.blt .int [(.bin .add (.bin .add (.bin .fdiv (.idx (.var 0) (.c (.int 3))) (.c (.int 59))) (.bin .mul (.var 4) (.c (.int 32003)))) (.idx (.var 0) (.c (.int 4))))]) (.var 1)))]
section
variable {G : Str → Option D} {sig : Str → Option (List Str)} {call : Str → List D → Sto → R (D × Fl)} {fu : Nat}
theorem idx_bag (cells : List Int) (p g s c : Int) : idxF (.lst [.lst (cells.map .int), .int p, .int g, .int s, .int c]) (.int 0) = some (.lst (cells.map .int)) ∧ idxF (.lst [.lst (cells.map .int), .int p, .int g, .int s, .int c]) (.int 1) = some (.int p) ∧ idxF (.lst [.lst (cells.map .int), .int p, .int g, .int s, .int c]) (.int 2) = some (.int g) ∧
    idxF (.lst [.lst (cells.map .int), .int p, .int g, .int s, .int c]) (.int 3) = some (.int s) ∧ idxF (.lst [.lst (cells.map .int), .int p, .int g, .int s, .int c]) (.int 4) = some (.int c) := ⟨rfl, rfl, rfl, rfl, rfl⟩
theorem draw2 {cells : List Int} {p g s c m : Int} {x : Option (D × Bool)} {rest : Sto} (hg : 0 ≤ g) (hs : 0 ≤ s) (hs2 : s < 2147483587) (hp : 0 ≤ p) (hm : 0 < m) (hm2 : m < 1073741824) (hx : ∀ d, x ≠ some (d, true)) :
    ∃ r st', evSs G sig call fu [some (.ref 0, false), some (.int m, false), x, none, none] (bagO cells p g s c :: rest) bDraw2 = .rt (.int r, .sh) st' ∧ 0 ≤ r ∧ r < m ∧ BagOk st' := by
  by_cases h : 0 < g
  · have e1 : binF .mod (.int g) (.int m) = some (.int (g % m), .sh) := bin_modI hm
    have e2 : binF .fdiv (.int g) (.int m) = some (.int (g / m), .sh) := bin_divI ⟨hm, hm2⟩
    refine ⟨g % m, _, ?_, Int.emod_nonneg _ (by omega), Int.emod_lt_of_pos _ hm, cells, p, g / m, s, c, rest, rfl, hp, Int.ediv_nonneg hg (by omega), hs, hs2⟩
    simp [bDraw2, evS, freeze, esc, escs, ev_var, deref_bag, idx_bag, h, e1, e2, stoSet_bag]
    rfl
  · have e0 : g = 0 := by omega
    subst e0
    have m1 : binF .mul (.int s) (.int s) = some (.int (s * s), .sh) := bin_mulI (.inl ⟨by omega, by omega⟩)
    have m2 : binF .mul (.int 65063) (.int s) = some (.int (65063 * s), .sh) := bin_mulI (.inl ⟨by omega, by omega⟩)
    have m3 : binF .mul (.int 6661) (.int (c + 1)) = some (.int (6661 * (c + 1)), .sh) := bin_mulI (.inl ⟨by omega, by omega⟩)
    have m4 : binF .mul (.int s) (.int 32003) = some (.int (s * 32003), .sh) := bin_mulI (.inr ⟨by omega, by omega⟩)
    have m5 : ∀ z : Int, binF .mod (.int z) (.int 2147483587) = some (.int (z % 2147483587), .sh) := fun z => bin_modI (by omega)
    have m6 : ∀ z : Int, binF .fdiv (.int z) (.int 59) = some (.int (z / 59), .sh) := fun z => bin_divI ⟨by omega, by omega⟩
    have m7 : ∀ z : Int, binF .mod (.int z) (.int m) = some (.int (z % m), .sh) := fun z => bin_modI hm
    have s1 : ∀ v, stoSet (bagO cells p 0 s c :: rest) (.ref 0) (.int 4) (.int v) = some (bagO cells p 0 s v :: rest) := fun v => rfl
    have s2 : ∀ c v, stoSet (bagO cells p 0 s c :: rest) (.ref 0) (.int 3) (.int v) = some (bagO cells p 0 v c :: rest) := fun c v => rfl
    refine ⟨((s * s + 65063 * s + 6661 * (c + 1) + 40009) % 2147483587 / 59 + s * 32003 + (c + 1)) % m, bagO cells p 0 ((s * s + 65063 * s + 6661 * (c + 1) + 40009) % 2147483587) (c + 1) :: rest, ?_, Int.emod_nonneg _ (by omega), Int.emod_lt_of_pos _ hm, cells, p, 0, _, c + 1, rest, rfl, hp, by omega, Int.emod_nonneg _ (by omega), Int.emod_lt_of_pos _ (by omega)⟩
    simp [bDraw2, evS, freeze, esc, escs, ev_var, deref_bag, idx_bag, s1, s2, m1, m2, m3, m4, m5, m6, m7]
theorem draw1 {cells : List Int} {p g s c m : Int} {rest : Sto} (hg : 0 ≤ g) (hs : 0 ≤ s) (hs2 : s < 2147483587) (hp : 0 ≤ p) :
    ∃ x p' g' s' c', evS G sig call fu [some (.ref 0, false), some (.int m, false), none, none, none] (bagO cells p g s c :: rest) bDraw1 = .nx [some (.ref 0, false), some (.int m, false), x, none, none] (bagO cells p' g' s' c' :: rest) ∧ (∀ d, x ≠ some (d, true)) ∧ 0 ≤ p' ∧ 0 ≤ g' ∧ 0 ≤ s' ∧ s' < 2147483587 := by
  by_cases h : g = 0
  · subst h
    by_cases hl : p < (cells.length : Int)
    · have hj : p.toNat < cells.length := by omega
      have ec : idxF (.lst (cells.map .int)) (.int p) = some (.int cells[p.toNat]) := by
        have : ixN (cells.map D.int).length p = some p.toNat := by
          unfold ixN
          rw [if_pos hp, if_pos (by simpa using hl)]
        show atI (cells.map D.int) p = _
        unfold atI
        rw [this, Option.bind_some, List.getElem?_map, List.getElem?_eq_getElem hj]
        rfl
      generalize cells[p.toNat] = z at ec
      have m1 : binF .mul (.int s) (.int 40013) = some (.int (s * 40013), .sh) := bin_mulI (.inr ⟨by omega, by omega⟩)
      have m2 : ∀ z : Int, binF .mul (.int z) (.int 293) = some (.int (z * 293), .sh) := fun z => bin_mulI (.inr ⟨by omega, by omega⟩)
      have m5 : ∀ z : Int, binF .mod (.int z) (.int 2147483587) = some (.int (z % 2147483587), .sh) := fun z => bin_modI (by omega)
      have m6 : ∀ z : Int, binF .mod (.int z) (.int 2147483549) = some (.int (z % 2147483549), .sh) := fun z => bin_modI (by omega)
      have m7 : binF .pow (.int 10) (.int 18) = some (.int 1000000000000000000, .sh) := rfl
      have s1 : ∀ g s v, stoSet (bagO cells p g s c :: rest) (.ref 0) (.int 1) (.int v) = some (bagO cells v g s c :: rest) := fun _ _ v => rfl
      have s2 : ∀ p g s v, stoSet (bagO cells p g s c :: rest) (.ref 0) (.int 2) (.int v) = some (bagO cells p v s c :: rest) := fun _ _ _ v => rfl
      have s3 : ∀ p g s v, stoSet (bagO cells p g s c :: rest) (.ref 0) (.int 3) (.int v) = some (bagO cells p g v c :: rest) := fun _ _ _ v => rfl
      by_cases hz : (1000000000000000000 : Int) ≤ z
      · refine ⟨some (.int z, false), p + 1, z, (s * 40013 + z % 2147483549 * 293 + 2003) % 2147483587, c, ?_, by simp, by omega, by omega, Int.emod_nonneg _ (by omega), Int.emod_lt_of_pos _ (by omega)⟩
        simp [bDraw1, evS, freeze, esc, escs, ev_var, deref_bag, idx_bag, hl, ec, m1, m2, m5, m6, m7, s1, s2, s3, hz]
      · refine ⟨some (.int z, false), p + 1, 0, (s * 40013 + z % 2147483549 * 293 + 2003) % 2147483587, c, ?_, by simp, by omega, by omega, Int.emod_nonneg _ (by omega), Int.emod_lt_of_pos _ (by omega)⟩
        simp [bDraw1, evS, freeze, esc, escs, ev_var, deref_bag, idx_bag, hl, ec, m1, m2, m5, m6, m7, s1, s2, s3, hz]
    · refine ⟨none, p, 0, s, c, ?_, by simp, hp, by omega, hs, hs2⟩
      simp [bDraw1, evS, freeze, esc, escs, ev_var, deref_bag, idx_bag, hl]
  · refine ⟨none, p, g, s, c, ?_, by simp, hp, hg, hs, hs2⟩
    have hb : (g == 0) = false := by simpa using h
    simp [bDraw1, evS, freeze, esc, escs, ev_var, deref_bag, idx_bag, hb]
theorem draw_ok {st : Sto} {m : Int} (hb : BagOk st) (hm : 0 < m) (hm2 : m < 1073741824) :
    ∃ r st', evSs G sig call fu [some (.ref 0, false), some (.int m, false), none, none, none] st (bDraw1 :: bDraw2) = .rt (.int r, .sh) st' ∧ 0 ≤ r ∧ r < m ∧ BagOk st' := by
  obtain ⟨cells, p, g, s, c, rest, rfl, hp, hg, hs, hs2⟩ := hb
  obtain ⟨x, p', g', s', c', e, hx, h1, h2, h3, h4⟩ := draw1 (G := G) (sig := sig) (call := call) (fu := fu) (cells := cells) (c := c) (m := m) (rest := rest) hg hs hs2 hp
  obtain ⟨r, st', e2, r1, r2, b⟩ := draw2 (G := G) (sig := sig) (call := call) (fu := fu) (cells := cells) (c := c') (x := x) (rest := rest) h2 h3 h4 h1 hm hm2 hx
  exact ⟨r, st', by rw [evSs_cons, e, andThen_nx]; exact e2, r1, r2, b⟩
end
end Lt

/-! Lt, part X: the helpers that every law has. -/
namespace Lt
open PySem L2
def bOf : List S := [(.ret (.idx (.var 1) (.call "_law_draw" [(.var 0), (.blt .len [(.var 1)])] [])))]
def bOpen : List S := [(.ret (.lst [(.blt .list [(.slice (.var 0) none (some (.c (.int 63))))]), (.c (.int 0)), (.c (.int 0)), (.c (.int 100081)), (.c (.int 0))]))]
def bLike : List S := [(.ife (.isi (.var 1) [.tlist, .ttup]) [(.ife (.or (.cmp .ne (.isi (.var 0) [.tlist]) (.isi (.var 1) [.tlist])) (.cmp .ne (.isi (.var 0) [.ttup]) (.isi (.var 1) [.ttup]))) [(.ret (.c (.bl false)))] []), (.ret (.and (.cmp .eq (.blt .len [(.var 0)]) (.blt .len [(.var 1)])) (.blt .all [(.lc [2, 3] .zip (.t [(.n 2), (.n 3)]) [(.var 0), (.var 1)] [] (.call "_law_like" [(.var 2), (.var 3)] []))])))] []),
    (.ife (.or (.cmp .isn (.var 1) (.c .non)) (.cmp .isn (.var 0) (.c .non))) [(.ret (.and (.cmp .isn (.var 1) (.c .non)) (.cmp .isn (.var 0) (.c .non))))] []),
    (.ife (.or (.cmp .ne (.isi (.var 0) [.tbool]) (.isi (.var 1) [.tbool])) (.cmp .ne (.isi (.var 0) [.tint]) (.isi (.var 1) [.tint]))) [(.ret (.c (.bl false)))] []),
    (.ret (.and (.cmp .eq (.isi (.var 0) [.tstr]) (.isi (.var 1) [.tstr])) (.cmp .eq (.var 0) (.var 1))))]
structure Std (pg : Str → Option Fn) : Prop where
  draw : ∃ shp, pg "_law_draw" = some ⟨["_law_bag", "_law_many"], ["_law_bag", "_law_many", "_law_cell", "_law_digit", "_law_seed"], bDraw1 :: bDraw2, shp⟩
  of_ : ∃ shp, pg "_law_of" = some ⟨["_law_bag", "_law_things"], ["_law_bag", "_law_things"], bOf, shp⟩
  like : ∃ shp, pg "_law_like" = some ⟨["_law_found", "_law_due"], ["_law_found", "_law_due", "_law_one", "_law_other"], bLike, shp⟩
  open_ : ∃ shp, pg "_law_open" = some ⟨["_law_script"], ["_law_script"], bOpen, shp⟩
section
variable {G : Str → Option D} {pg : Str → Option Fn} {fu : Nat} {st : Sto}
/-- a call by place -/
theorem callO_pos {sig : Str → Option (List Str)} {call : Str → List D → Sto → R (D × Fl)} {f : Str} {ps : List Str} {ds : List D} (hs : sig f = some ps) (ho : order ps [] ds = some ds) : callO sig call f [] ds st = call f ds st := by
  unfold callO
  rw [hs, Option.bind_some, ho]
theorem callF_eq {n : Nat} {f : Str} {fn : Fn} {ds : List D} (e : pg f = some fn) (hl : ds.length = fn.ps.length) : callF G pg fu (n + 1) f ds st = fin (evSs G (sigF pg) (callF G pg fu n) fu (startE fn.N ds) st fn.body) := by
  simp only [callF, e, hl, if_true]
theorem call_draw (S : Std pg) (n : Nat) {m : Int} (hb : BagOk st) (hm : 0 < m) (hm2 : m < 1073741824) : ∃ r st', callO (sigF pg) (callF G pg fu (n + 1)) "_law_draw" [] [.ref 0, .int m] st = .ok (.int r, .sh) st' ∧ 0 ≤ r ∧ r < m ∧ BagOk st' := by
  obtain ⟨shp, e⟩ := S.draw
  obtain ⟨r, st', e2, h1, h2, h3⟩ := draw_ok (G := G) (sig := sigF pg) (call := callF G pg fu n) (fu := fu) hb hm hm2
  refine ⟨r, st', ?_, h1, h2, h3⟩
  rw [callO_pos (ps := ["_law_bag", "_law_many"]) (by simp [sigF, e]) rfl]
  rw [callF_eq e rfl]
  show fin (evSs G (sigF pg) (callF G pg fu n) fu [some (.ref 0, false), some (.int m, false), none, none, none] st (bDraw1 :: bDraw2)) = _
  rw [e2]
  rfl
theorem call_ofL (S : Std pg) (n : Nat) {xs : List D} (hb : BagOk st) (h0 : 0 < xs.length) (h1 : xs.length < 1073741824) : ∃ (i : Nat) (x : D) (st' : Sto), callO (sigF pg) (callF G pg fu (n + 2)) "_law_of" [] [.ref 0, .lst xs] st = .ok (x, .sh) st' ∧ xs[i]? = some x ∧ BagOk st' := by
  obtain ⟨shp, e⟩ := S.of_
  obtain ⟨r, st', e2, h2, h3, h4⟩ := call_draw (G := G) (fu := fu) (st := st) S n (m := xs.length) hb (by omega) (by omega)
  have hr : r.toNat < xs.length := by omega
  refine ⟨r.toNat, xs[r.toNat], st', ?_, List.getElem?_eq_getElem hr, h4⟩
  rw [callO_pos (ps := ["_law_bag", "_law_things"]) (by simp [sigF, e]) rfl]
  have hi : idxF (.lst xs) (.int r) = some xs[r.toNat] := by
    show atI xs r = _
    unfold atI
    rw [show ixN xs.length r = some r.toNat by unfold ixN; rw [if_pos h2, if_pos h3], Option.bind_some, List.getElem?_eq_getElem hr]
  rw [callF_eq e rfl]
  simp [bOf, evS, startE, freeze, esc, escs, ev_var, e2, hi, fin]
theorem call_ofS (S : Std pg) (n : Nat) {z : Str} (hb : BagOk st) (h0 : 0 < z.length) (h1 : z.length ≤ 1000) : ∃ (c : Nat) (st' : Sto), callO (sigF pg) (callF G pg fu (n + 2)) "_law_of" [] [.ref 0, .str z] st = .ok (.str ⟨#[c]⟩, .sh) st' ∧ c ∈ z.cps.toList ∧ BagOk st' := by
  obtain ⟨shp, e⟩ := S.of_
  have hz : z.length ≤ sizeLine := Nat.le_trans h1 (by decide)
  obtain ⟨r, st', e2, h2, h3, h4⟩ := call_draw (G := G) (fu := fu) (st := st) S n (m := z.length) hb (by omega) (by omega)
  have hlen : z.cps.toList.length = z.length := by simp [Str.length]
  have hr : r.toNat < z.cps.toList.length := by omega
  refine ⟨z.cps.toList[r.toNat], st', ?_, List.getElem_mem _, h4⟩
  rw [callO_pos (ps := ["_law_bag", "_law_things"]) (by simp [sigF, e]) rfl]
  have hl : bltF .len [.str z] = some (.int z.length, .sh) := by
    show (if z.length ≤ sizeLine then some (z.length : Int) else none).map _ = _
    rw [if_pos hz]
    rfl
  have hi : idxF (.str z) (.int r) = some (.str ⟨#[z.cps.toList[r.toNat]]⟩) := by
    show (if z.length ≤ sizeLine then (atI z.cps.toList r).map _ else none) = _
    rw [if_pos hz]
    unfold atI
    rw [show ixN z.cps.toList.length r = some r.toNat by unfold ixN; rw [if_pos h2, if_pos (by omega)], Option.bind_some, List.getElem?_eq_getElem hr]
    rfl
  rw [callF_eq e rfl]
  simp [bOf, evS, startE, freeze, esc, escs, ev_var, e2, hl, hi, fin]
theorem call_open (S : Std pg) (n : Nat) {ns : List Int} (h : ns.length ≤ 63) : callO (sigF pg) (callF G pg fu (n + 1)) "_law_open" [] [.scr ns] st = .ok (.lst [.lst (ns.map .int), .int 0, .int 0, .int 100081, .int 0], .own) st := by
  obtain ⟨shp, e⟩ := S.open_
  rw [callO_pos (ps := ["_law_script"]) (by simp [sigF, e]) rfl]
  rw [callF_eq e rfl]
  have hc : sliceF (.scr ns) none (some 63) = some (.lst (ns.map .int), .own) := by
    show some (D.lst (cutD (ns.map .int) none (some 63)), Fl.own) = _
    have : cutD (ns.map D.int) none (some 63) = ns.map .int := by
      unfold cutD
      have e1 : HT.sIx (ns.map D.int).length 0 none = 0 := HT.sIx_none _ _
      have e2 : HT.sIx (ns.map D.int).length (ns.map D.int).length (some 63) = (ns.map D.int).length := by
        rw [show HT.sIx (ns.map D.int).length (ns.map D.int).length (some 63) = min 63 (ns.map D.int).length from HT.sIx_nat _ _ 63]
        simp
        omega
      rw [e1, e2, List.drop_zero, Nat.sub_zero, List.take_length]
    rw [this]
  have hl : bltF .list [.lst (ns.map .int)] = some (.lst (ns.map .int), .own) := rfl
  have hz : 5 ≤ sizeLine := by decide
  simp [bOpen, evS, startE, freeze, esc, escs, esco, ev_var, hc, hl, hz, fin]
/-! ### _law_like of equal things -/
theorem like_bl (S : Std pg) (n : Nat) (b : Bool) : callO (sigF pg) (callF G pg fu (n + 1)) "_law_like" [] [.bl b, .bl b] st = .ok (.bl true, .sh) st := by
  obtain ⟨shp, e⟩ := S.like
  rw [callO_pos (ps := ["_law_found", "_law_due"]) (by simp [sigF, e]) rfl, callF_eq e rfl]
  cases b <;> rfl
theorem bools_true (k : Nat) : bools (List.replicate k (.bl true)) = some (List.replicate k true) := by
  induction k with
  | zero => rfl
  | succ k ih => rw [List.replicate_succ, bools, ih]; rfl
theorem zipD_self : ∀ xs : List D, zipD xs xs = xs.map fun x => D.tup [x, x]
  | [] => rfl
  | x :: r => by rw [zipD, zipD_self r]; rfl
theorem like_turn {sig : Str → Option (List Str)} {call : Str → List D → Sto → R (D × Fl)} {A B : Option (D × Bool)} {x : D} {acc : List D} (hx : callO sig call "_law_like" [] [x, x] st = .ok (.bl true, .sh) st) (ha : acc.length < sizeLine) :
    turnC G sig call [A, B, none, none] (.t [.n 2, .n 3]) [] (.call "_law_like" [.var 2, .var 3] []) (.tup [x, x]) acc st = .ok (acc ++ [.bl true]) st := by
  have hb : bindT [A, B, none, none] (.t [.n 2, .n 3]) (.tup [x, x]) = some [A, B, some (x, false), some (x, false)] := rfl
  have hn : ¬ sizeLine ≤ acc.length := by omega
  simp [turnC, hb, ev_var, hx, hn]
theorem like_walk {sig : Str → Option (List Str)} {call : Str → List D → Sto → R (D × Fl)} {A B : Option (D × Bool)} : ∀ (xs acc : List D), (∀ x ∈ xs, callO sig call "_law_like" [] [x, x] st = .ok (.bl true, .sh) st) → acc.length + xs.length ≤ sizeLine →
    walkR (turnC G sig call [A, B, none, none] (.t [.n 2, .n 3]) [] (.call "_law_like" [.var 2, .var 3] [])) (xs.map fun x => D.tup [x, x]) (.ok acc st) = .ok (acc ++ List.replicate xs.length (.bl true)) st
  | [], acc, _, _ => by simp [walkR]
  | x :: r, acc, h, hz => by
    rw [List.map_cons, walkR, R.bind_ok, like_turn (h x List.mem_cons_self) (by simp at hz; omega), like_walk r _ (fun y hy => h y (List.mem_cons_of_mem _ hy)) (by simp at hz ⊢; omega)]
    simp [List.replicate_succ]
theorem like_lst (S : Std pg) (n : Nat) (xs : List D) (hx : ∀ x ∈ xs, callO (sigF pg) (callF G pg fu (n + 1)) "_law_like" [] [x, x] st = .ok (.bl true, .sh) st) (hz : xs.length ≤ sizeLine) : callO (sigF pg) (callF G pg fu (n + 2)) "_law_like" [] [.lst xs, .lst xs] st = .ok (.bl true, .sh) st := by
  obtain ⟨shp, e⟩ := S.like
  rw [callO_pos (ps := ["_law_found", "_law_due"]) (by simp [sigF, e]) rfl, callF_eq e rfl]
  have hw := like_walk (G := G) (A := some (.lst xs, false)) (B := some (.lst xs, false)) xs [] hx (by simpa using hz)
  have ha : bltF .all [.lst (List.replicate xs.length (.bl true))] = some (.bl true, .sh) := by
    show (bools _).map _ = _
    rw [bools_true]
    simp
  have hi : itF .zip [.lst xs, .lst xs] = some (xs.map fun x => D.tup [x, x]) := by rw [← zipD_self]; rfl
  have i1 : isFs (.lst xs) [.tlist, .ttup] = some true := rfl
  have i2 : isFs (.lst xs) [.tlist] = some true := rfl
  have i3 : isFs (.lst xs) [.ttup] = some false := rfl
  have hwp : wipeE [some (.lst xs, false), some (.lst xs, false), none, none] [2, 3] = [some (.lst xs, false), some (.lst xs, false), none, none] := rfl
  simp [bLike, evS, startE, freeze, esc, escs, ev_var, i1, i2, i3, hi, hwp, hw, ha, fin]
end
end Lt

namespace My
open PySem L2 Lt
def topS (i : Nat) : Stmt := PySem.Challenge.pw_partfirsts_k01_names_and_numbers.main.body.getD i (.Pass ⟨0, 0, 0, 0⟩)
def b_is_number : List S := [(.ret (.and (.isi (.var 0) [.tint]) (.and (.not (.isi (.var 0) [.tbool])) (.chain .le .le (.var 1) (.var 0) (.var 2)))))]
def f_is_number : Fn := ⟨["value", "least", "most"], ["value", "least", "most"], b_is_number, [[], ["value", "most", "least"]]⟩
def b_is_name : List S := [(.ife (.or (.not (.isi (.var 0) [.tstr])) (.not (.chain .le .le (.c (.int 1)) (.blt .len [(.var 0)]) (.glob "MOST_LETTERS")))) [(.ret (.c (.bl false)))] []),
  (.ret (.blt .all [(.lc [1] .seq (.n 1) [(.var 0)] [] (.cmp .inn (.var 1) (.glob "LETTERS")))]))]
def f_is_name : Fn := ⟨["value"], ["value", "letter"], b_is_name, [[], ["value"]]⟩
def b__law_open : List S := [(.ret (.lst [(.blt .list [(.slice (.var 0) none (some (.c (.int 63))))]), (.c (.int 0)), (.c (.int 0)), (.c (.int 100081)), (.c (.int 0))]))]
def f__law_open : Fn := ⟨["_law_script"], ["_law_script"], b__law_open, [[]]⟩
def b__law_draw : List S := [(.ife (.and (.cmp .eq (.idx (.var 0) (.c (.int 2))) (.c (.int 0))) (.cmp .lt (.idx (.var 0) (.c (.int 1))) (.blt .len [(.idx (.var 0) (.c (.int 0)))]))) [(.asg 2 (.idx (.idx (.var 0) (.c (.int 0))) (.idx (.var 0) (.c (.int 1))))), (.setI (.var 0) (.c (.int 1)) (.bin .add (.idx (.var 0) (.c (.int 1))) (.c (.int 1)))), (.setI (.var 0) (.c (.int 2)) (.ife (.cmp .ge (.var 2) (.bin .pow (.c (.int 10)) (.c (.int 18)))) (.var 2) (.c (.int 0)))), (.setI (.var 0) (.c (.int 3)) (.bin .mod (.blt .int [(.bin .add (.bin .add (.bin .mul (.idx (.var 0) (.c (.int 3))) (.c (.int 40013))) (.bin .mul (.bin .mod (.blt .int [(.var 2)]) (.c (.int 2147483549))) (.c (.int 293)))) (.c (.int 2003)))]) (.c (.int 2147483587))))] []),
  (.ife (.cmp .gt (.idx (.var 0) (.c (.int 2))) (.c (.int 0))) [(.asg 3 (.bin .mod (.blt .int [(.idx (.var 0) (.c (.int 2)))]) (.var 1))), (.setI (.var 0) (.c (.int 2)) (.bin .fdiv (.idx (.var 0) (.c (.int 2))) (.var 1))), (.ret (.var 3))] []),
  (.setI (.var 0) (.c (.int 4)) (.bin .add (.idx (.var 0) (.c (.int 4))) (.c (.int 1)))),
  (.asg 4 (.idx (.var 0) (.c (.int 3)))),
  (.setI (.var 0) (.c (.int 3)) (.bin .mod (.blt .int [(.bin .add (.bin .add (.bin .add (.bin .mul (.var 4) (.var 4)) (.bin .mul (.c (.int 65063)) (.var 4))) (.bin .mul (.c (.int 6661)) (.idx (.var 0) (.c (.int 4))))) (.c (.int 40009)))]) (.c (.int 2147483587)))),
  (.ret (.bin .mod (.blt .int [(.bin .add (.bin .add (.bin .fdiv (.idx (.var 0) (.c (.int 3))) (.c (.int 59))) (.bin .mul (.var 4) (.c (.int 32003)))) (.idx (.var 0) (.c (.int 4))))]) (.var 1)))]
def f__law_draw : Fn := ⟨["_law_bag", "_law_many"], ["_law_bag", "_law_many", "_law_cell", "_law_digit", "_law_seed"], b__law_draw, [[]]⟩
def b__law_of : List S := [(.ret (.idx (.var 1) (.call "_law_draw" [(.var 0), (.blt .len [(.var 1)])] [])))]
def f__law_of : Fn := ⟨["_law_bag", "_law_things"], ["_law_bag", "_law_things"], b__law_of, [[]]⟩
def b__law_like : List S := [(.ife (.isi (.var 1) [.tlist, .ttup]) [(.ife (.or (.cmp .ne (.isi (.var 0) [.tlist]) (.isi (.var 1) [.tlist])) (.cmp .ne (.isi (.var 0) [.ttup]) (.isi (.var 1) [.ttup]))) [(.ret (.c (.bl false)))] []), (.ret (.and (.cmp .eq (.blt .len [(.var 0)]) (.blt .len [(.var 1)])) (.blt .all [(.lc [2, 3] .zip (.t [(.n 2), (.n 3)]) [(.var 0), (.var 1)] [] (.call "_law_like" [(.var 2), (.var 3)] []))])))] []),
  (.ife (.or (.cmp .isn (.var 1) (.c .non)) (.cmp .isn (.var 0) (.c .non))) [(.ret (.and (.cmp .isn (.var 1) (.c .non)) (.cmp .isn (.var 0) (.c .non))))] []),
  (.ife (.or (.cmp .ne (.isi (.var 0) [.tbool]) (.isi (.var 1) [.tbool])) (.cmp .ne (.isi (.var 0) [.tint]) (.isi (.var 1) [.tint]))) [(.ret (.c (.bl false)))] []),
  (.ret (.and (.cmp .eq (.isi (.var 0) [.tstr]) (.isi (.var 1) [.tstr])) (.cmp .eq (.var 0) (.var 1))))]
def f__law_like : Fn := ⟨["_law_found", "_law_due"], ["_law_found", "_law_due", "_law_one", "_law_other"], b__law_like, [[]]⟩
def b_law : List S := [(.asgSto 1 (.call "_law_open" [(.var 0)] [])),
  (.asg 2 (.c (.str "abcdefghijklmnopqrstuvwxyz"))),
  (.for_ .rng1 (.n 3) [(.c (.int 8))] [(.asg 4 (.join (.c (.str "")) (.lc [5] .rng1 (.n 5) [(.call "_law_draw" [(.var 1), (.c (.int 11))] [])] [] (.call "_law_of" [(.var 1), (.var 2)] [])))), (.asg 6 (.call "_law_draw" [(.var 1), (.bin .add (.blt .len [(.var 4)]) (.c (.int 1)))] [])), (.asg 7 (.bin .add (.bin .add (.slice (.var 4) none (some (.var 6))) (.call "_law_of" [(.var 1), (.lst [(.c (.str "")), (.c (.str "A")), (.c (.str "0")), (.c (.str " ")), (.c (.str "_")), (.c (.str "."))])] [])) (.slice (.var 4) (some (.var 6)) none))), (.asg 8 (.and (.chain .le .le (.c (.int 1)) (.blt .len [(.var 7)]) (.c (.int 8))) (.blt .all [(.lc [9] .seq (.n 9) [(.var 7)] [] (.cmp .inn (.var 9) (.var 2)))]))), (.ife (.not (.call "_law_like" [(.lst [(.call "is_name" [(.var 4)] []), (.call "is_name" [(.var 7)] ["value"])]), (.lst [(.chain .le .le (.c (.int 1)) (.blt .len [(.var 4)]) (.c (.int 8))), (.var 8)])] [])) [(.ret (.c (.bl false)))] []), (.asg 10 (.call "_law_of" [(.var 1), (.lst [(.c (.int 0)), (.c (.int 1)), (.bin .sub (.c (.int 0)) (.c (.int 5))), (.bin .pow (.c (.int 10)) (.c (.int 9))), (.call "_law_draw" [(.var 1), (.bin .pow (.c (.int 10)) (.c (.int 6)))] [])])] [])), (.asg 11 (.bin .sub (.bin .add (.var 10) (.call "_law_of" [(.var 1), (.lst [(.c (.int 0)), (.c (.int 1)), (.c (.int 9)), (.bin .pow (.c (.int 10)) (.c (.int 9)))])] [])) (.call "_law_draw" [(.var 1), (.c (.int 2))] []))), (.for_ .seq (.n 12) [(.lst [(.var 10), (.bin .sub (.var 10) (.c (.int 1))), (.var 11), (.bin .add (.var 11) (.c (.int 1))), (.bin .add (.var 10) (.c (.int 1))), (.c (.int 0))])] [(.ife (.not (.call "_law_like" [(.call "is_number" [(.var 12), (.var 10), (.var 11)] []), (.chain .le .le (.var 10) (.var 12) (.var 11))] [])) [(.ret (.c (.bl false)))] [])]), (.asg 13 (.call "_law_of" [(.var 1), (.lst [(.c .non), (.c (.bl true)), (.c (.bl false)), (.c (.str "0")), (.c (.str "")), (.tup [(.c (.int 0))]), (.lst [(.c (.int 1))]), (.tup [(.c (.str "a"))]), (.lst [(.c (.str "a"))])])] [])), (.ife (.not (.call "_law_like" [(.lst [(.call "is_number" [(.var 13), (.bin .sub (.c (.int 0)) (.c (.int 9))), (.c (.int 9))] []), (.call "is_name" [(.var 13)] [])]), (.lst [(.c (.bl false)), (.c (.bl false))])] [])) [(.ret (.c (.bl false)))] [])]),
  (.ret (.call "_law_like" [(.lst [(.call "is_name" [(.c (.int 5))] []), (.call "is_number" [(.c (.int 3)), (.c (.int 4)), (.c (.int 3))] ["value", "most", "least"]), (.call "is_name" [(.c (.str "abcdefgh"))] [])]), (.lst [(.c (.bl false)), (.c (.bl true)), (.c (.bl true))])] []))]
def f_law : Fn := ⟨["_law_script"], ["_law_script", "_law_bag", "_law_abc", "_law_turn", "_law_word", "_law_k", "_law_at", "_law_bent", "_law_good", "_law_sign", "_law_least_z", "_law_most_z", "_law_thing", "_law_odd"], b_law, [[]]⟩
def tbl : List (Str × Fn) := [("is_number", f_is_number), ("is_name", f_is_name), ("_law_open", f__law_open), ("_law_draw", f__law_draw), ("_law_of", f__law_of), ("_law_like", f__law_like), ("law", f_law)]
def pg (f : Str) : Option Fn := tbl.lookup f
def gtbl : List (Str × D) := [("LETTERS", .str "abcdefghijklmnopqrstuvwxyz"), ("MOST_LETTERS", .int 8)]
def G (x : Str) : Option D := gtbl.lookup x
def XR : Wd → Value → Option Addr → Xc → Prop := fun _ _ _ _ => False
end My
namespace My
open PySem L2 Lt
theorem std : Std pg := ⟨⟨_, rfl⟩, ⟨_, rfl⟩, ⟨_, rfl⟩, ⟨_, rfl⟩⟩
abbrev abc : Str := "abcdefghijklmnopqrstuvwxyz"
theorem is_number_int (n : Nat) (v a b : Int) (st : Sto) : callO (sigF pg) (callF G pg 2000 (n + 1)) "is_number" [] [.int v, .int a, .int b] st = .ok (.bl (decide (a ≤ v) && decide (v ≤ b)), .sh) st := by
  rw [callO_pos (ps := ["value", "least", "most"]) rfl rfl, callF_eq (fn := f_is_number) rfl rfl]
  have i1 : isFs (.int v) [.tint] = some true := rfl
  have i2 : isFs (.int v) [.tbool] = some false := rfl
  by_cases h1 : a ≤ v <;> by_cases h2 : v ≤ b <;> simp [f_is_number, b_is_number, evS, ev_var, startE, freeze, esc, i1, i2, h1, h2, fin]
def odd (d : D) : Prop := d = .non ∨ (∃ x, d = .bl x) ∨ (∃ x, d = .lst x) ∨ ∃ x, d = .tup x
theorem is_number_odd (n : Nat) (d : D) (a b : Int) (st : Sto) (h : odd d ∨ ∃ x, d = .str x) : callO (sigF pg) (callF G pg 2000 (n + 1)) "is_number" [] [d, .int a, .int b] st = .ok (.bl false, .sh) st := by
  rcases h with (rfl | ⟨x, rfl⟩ | ⟨x, rfl⟩ | ⟨x, rfl⟩) | ⟨x, rfl⟩ <;> rfl
theorem is_name_odd (n : Nat) (d : D) (st : Sto) (h : odd d ∨ ∃ x, d = .int x) : callO (sigF pg) (callF G pg 2000 (n + 1)) "is_name" [] [d] st = .ok (.bl false, .sh) st := by
  rcases h with (rfl | ⟨x, rfl⟩ | ⟨x, rfl⟩ | ⟨x, rfl⟩) | ⟨x, rfl⟩ <;> rfl
/-- every sign is a letter -/
def letters (z : Str) : Bool := z.cps.toList.all fun c => strIn ⟨#[c]⟩ abc
theorem bools_map {α : Type} (f : α → Bool) : ∀ xs : List α, bools (xs.map fun x => D.bl (f x)) = some (xs.map f)
  | [] => rfl
  | x :: r => by
    rw [List.map_cons, bools, bools_map f r]
    rfl
/-- [letter in abc for letter in z] -/
theorem walk_letters {sig : Str → Option (List Str)} {call : Str → List D → Sto → R (D × Fl)} {Γ : Lt.Env} {i : Nat} {e : E} {st : Sto} (hi : i < Γ.length) (he : ∀ c : Nat, ev G sig call (Γ.set i (some (.str ⟨#[c]⟩, false))) st e = .ok (.bl (strIn ⟨#[c]⟩ abc), .sh) st) :
    ∀ (cs : List Nat) (acc : List D), acc.length + cs.length ≤ sizeLine → walkR (turnC G sig call Γ (.n i) [] e) (cs.map fun c => D.str ⟨#[c]⟩) (.ok acc st) = .ok (acc ++ cs.map fun c => .bl (strIn ⟨#[c]⟩ abc)) st
  | [], acc, _ => by simp [walkR]
  | c :: r, acc, hz => by
    have hn : ¬ sizeLine ≤ acc.length := by simp at hz; omega
    have t : turnC G sig call Γ (.n i) [] e (.str ⟨#[c]⟩) acc st = .ok (acc ++ [.bl (strIn ⟨#[c]⟩ abc)]) st := by
      simp [turnC, bindT, hi, he, hn]
    rw [List.map_cons, walkR, R.bind_ok, t, walk_letters hi he r _ (by simp at hz ⊢; omega)]
    simp
theorem is_name_str (n : Nat) (z : Str) (st : Sto) (hz : z.length ≤ 1000) : callF G pg 2000 (n + 1) "is_name" [.str z] st = .ok (.bl ((decide ((1 : Int) ≤ z.length) && decide ((z.length : Int) ≤ 8)) && letters z), .sh) st := by
  rw [callF_eq (fn := f_is_name) rfl rfl]
  have hz' : z.length ≤ sizeLine := Nat.le_trans hz (by decide)
  have hl : bltF .len [.str z] = some (.int z.length, .sh) := by
    show (if z.length ≤ sizeLine then some (z.length : Int) else none).map _ = _
    rw [if_pos hz']
    rfl
  have i1 : isFs (.str z) [.tstr] = some true := rfl
  have g1 : G "MOST_LETTERS" = some (.int 8) := rfl
  have g2 : G "LETTERS" = some (.str abc) := rfl
  have hi : itF .seq [.str z] = some (z.cps.toList.map fun c => D.str ⟨#[c]⟩) := rfl
  have hw : wipeE [some (.str z, false), none] [1] = [some (.str z, false), none] := rfl
  have w := walk_letters (sig := sigF pg) (call := callF G pg 2000 n) (Γ := [some (.str z, false), none]) (i := 1) (e := .cmp .inn (.var 1) (.glob "LETTERS")) (st := st) (by simp) (fun c => by
    simp [ev_var, g2]; rfl) z.cps.toList [] (by simpa [Str.length] using hz')
  have ha : bltF .all [.lst (z.cps.toList.map fun c => D.bl (strIn ⟨#[c]⟩ abc))] = some (.bl (letters z), .sh) := by
    show (bools _).map _ = _
    rw [bools_map]
    simp [letters, List.all_map, Function.comp]
  by_cases h1 : (1 : Int) ≤ z.length <;> by_cases h2 : (z.length : Int) ≤ 8 <;> simp [f_is_name, b_is_name, evS, ev_var, startE, freeze, esc, escs, i1, hl, g1, h1, h2, hi, hw, w, ha, fin]
end My

namespace My
open PySem L2 Lt
theorem fold_signs : ∀ (cs : List Nat) (a : Array Nat), (cs.map fun c => (⟨#[c]⟩ : Str)).foldl (fun acc p => acc ++ (Str.ofString "").cps ++ p.cps) a = a ++ cs.toArray
  | [], a => by simp
  | c :: r, a => by
    rw [List.map_cons, List.foldl_cons, fold_signs r]
    have e : (Str.ofString "").cps = #[] := by decide +kernel
    rw [e]
    apply Array.ext'
    simp
theorem join_signs (cs : List Nat) : Txt.join (Str.ofString "") (cs.map fun c => (⟨#[c]⟩ : Str)) = ⟨cs.toArray⟩ := by
  cases cs with
  | nil => rfl
  | cons c r =>
    show (⟨(r.map fun c => (⟨#[c]⟩ : Str)).foldl (fun acc p => acc ++ (Str.ofString "").cps ++ p.cps) #[c]⟩ : Str) = _
    rw [fold_signs]
    congr 1
    apply Array.ext'
    simp
theorem strs_signs : ∀ cs : List Nat, strs_ (cs.map fun c => D.str ⟨#[c]⟩) = some (cs.map fun c => (⟨#[c]⟩ : Str))
  | [] => rfl
  | c :: r => by rw [List.map_cons, strs_, strs_signs r]; rfl
theorem in_abc : ∀ c ∈ abc.cps.toList, strIn ⟨#[c]⟩ abc = true := by decide +kernel
theorem abc_len : abc.length = 26 := by decide +kernel
theorem join_word (cs : List Nat) (h : cs.length ≤ 1000) : joinF (.str (Str.ofString "")) (.lst (cs.map fun c => D.str ⟨#[c]⟩)) = some (.str ⟨cs.toArray⟩) := by
  show ((strs_ _).bind fun ys => _) = _
  rw [strs_signs, Option.bind_some, join_signs]
  refine if_pos ?_
  have e0 : (Str.ofString "").length = 0 := by decide +kernel
  have e1 : ((cs.map fun c => (⟨#[c]⟩ : Str)).map (·.length)).sum = cs.length := by
    induction cs with
    | nil => rfl
    | cons c r ih => simp only [List.map_cons, List.sum_cons]; rw [ih (by simp at h; omega)]; simp [Str.length]; omega
  rw [e1, e0]
  simp
  omega
abbrev C (n : Nat) := callF G pg 2000 n
abbrev sg := sigF pg
def no (v : Option (D × Bool)) : Prop := v = none ∨ ∃ d, v = some (d, false)
/-- ''.join([_law_of(bag, abc) for k in range(_law_draw(bag, 11))]) -/
theorem word_ok {ns : List Int} {st : Sto} (hb : BagOk st) {v3 v4 v5 v6 v7 v8 v9 v10 v11 v12 v13 : Option (D × Bool)} :
    ∃ (cs : List Nat) (st' : Sto), evS G sg (C 29) 2000 [some (.scr ns, false), some (.ref 0, false), some (.str abc, false), v3, v4, v5, v6, v7, v8, v9, v10, v11, v12, v13] st
      (.asg 4 (.join (.c (.str "")) (.lc [5] .rng1 (.n 5) [(.call "_law_draw" [(.var 1), (.c (.int 11))] [])] [] (.call "_law_of" [(.var 1), (.var 2)] [])))) =
      .nx [some (.scr ns, false), some (.ref 0, false), some (.str abc, false), v3, some (.str ⟨cs.toArray⟩, false), v5, v6, v7, v8, v9, v10, v11, v12, v13] st' ∧ cs.length ≤ 10 ∧ (∀ c ∈ cs, c ∈ abc.cps.toList) ∧ BagOk st' := by
  obtain ⟨r, st1, e1, r1, r2, b1⟩ := call_draw (G := G) (fu := 2000) (st := st) std 28 (m := 11) hb (by omega) (by omega)
  have hit : itF .rng1 [.int r] = some (rangeD 0 r.toNat) := if_pos ⟨by omega, by omega⟩
  have hlen : (rangeD 0 r.toNat).length = r.toNat := by simp [rangeD]
  have w := wp_walk (g := turnC G sg (C 29) [some (.scr ns, false), some (.ref 0, false), some (.str abc, false), v3, v4, none, v6, v7, v8, v9, v10, v11, v12, v13] (.n 5) [] (.call "_law_of" [(.var 1), (.var 2)] []))
    (fun i (acc : List D) st => ∃ cs : List Nat, acc = cs.map (fun c => D.str ⟨#[c]⟩) ∧ cs.length = i ∧ (∀ c ∈ cs, c ∈ abc.cps.toList) ∧ BagOk st) (rangeD 0 r.toNat) 0 [] st1 ⟨[], rfl, rfl, by simp, b1⟩ (fun j d acc st hd hp => by
      obtain ⟨cs, rfl, hl, hc, hb⟩ := hp
      obtain ⟨c, st2, e2, c1, b2⟩ := call_ofS (G := G) (fu := 2000) (st := st) std 27 (z := abc) hb (by rw [abc_len]; omega) (by rw [abc_len]; omega)
      have hj : j < r.toNat := by
        have := (List.getElem?_eq_some_iff.mp hd).1
        omega
      have hn : ¬ sizeLine ≤ cs.length := by
        have : (1000 : Nat) ≤ sizeLine := by decide
        omega
      have t : turnC G sg (C 29) [some (.scr ns, false), some (.ref 0, false), some (.str abc, false), v3, v4, none, v6, v7, v8, v9, v10, v11, v12, v13] (.n 5) [] (.call "_law_of" [(.var 1), (.var 2)] []) d (cs.map fun c => D.str ⟨#[c]⟩) st = .ok (cs.map (fun c => D.str ⟨#[c]⟩) ++ [.str ⟨#[c]⟩]) st2 := by
        simp [turnC, bindT, ev_var, e2, hn]
      rw [t]
      refine ⟨cs ++ [c], by simp, by simp; omega, fun x hx => ?_, b2⟩
      rcases List.mem_append.mp hx with hx | hx
      · exact hc x hx
      · have : x = c := by simpa using hx
        rw [this]; exact c1)
  rw [Nat.zero_add, hlen] at w
  cases q : walkR (turnC G sg (C 29) [some (.scr ns, false), some (.ref 0, false), some (.str abc, false), v3, v4, none, v6, v7, v8, v9, v10, v11, v12, v13] (.n 5) [] (.call "_law_of" [(.var 1), (.var 2)] [])) (rangeD 0 r.toNat) (.ok [] st1) with
  | bad => rw [q] at w; exact w.elim
  | exc x st => rw [q] at w; exact w.elim
  | ok acc st2 =>
    rw [q] at w
    obtain ⟨cs, rfl, hl, hc, hb⟩ := w
    refine ⟨cs, st2, ?_, by omega, hc, hb⟩
    have hw : wipeE [some (.scr ns, false), some (.ref 0, false), some (.str abc, false), v3, v4, v5, v6, v7, v8, v9, v10, v11, v12, v13] [5] = [some (.scr ns, false), some (.ref 0, false), some (.str abc, false), v3, v4, none, v6, v7, v8, v9, v10, v11, v12, v13] := rfl
    have hj := join_word cs (by omega)
    simp [evS, freeze, esc, escs, ev_var, e1, hit, hw, q, hj]
end My

namespace My
open PySem L2 Lt
theorem len_str {z : Str} (h : z.length ≤ 1000) : bltF .len [.str z] = some (.int z.length, .sh) := by
  show (if z.length ≤ sizeLine then some (z.length : Int) else none).map _ = _
  rw [if_pos (Nat.le_trans h (by decide))]
  rfl
theorem slice_str {z : Str} (h : z.length ≤ 1000) (lo hi : Option Int) : sliceF (.str z) lo hi = some (.str (cutS z lo hi), .sh) := if_pos (Nat.le_trans h (by decide))
theorem cutS_len (z : Str) (lo hi : Option Int) : (cutS z lo hi).length ≤ z.length := by
  show ((z.cps.toList.drop _).take _).toArray.size ≤ z.cps.size
  simp
  omega
theorem add_str {x y : Str} (h1 : x.length ≤ 1000) (h2 : y.length ≤ 1000) : binF .add (.str x) (.str y) = some (.str (x ++ y), .sh) := if_pos (by
  have : (2000 : Nat) ≤ sizeLine := by decide
  omega)
theorem app_len (x y : Str) : (x ++ y).length = x.length + y.length := by
  show (x.cps ++ y.cps).size = _
  simp [Str.length]
/-- one of six short texts -/
def bits : List D := [.str "", .str "A", .str "0", .str " ", .str "_", .str "."]
theorem bits_ok {i : Nat} {x : D} (h : bits[i]? = some x) : ∃ z : Str, x = .str z ∧ z.length ≤ 1 := by
  have hm : x ∈ bits := List.mem_of_getElem? h
  simp only [bits, List.mem_cons, List.not_mem_nil, or_false] at hm
  rcases hm with rfl | rfl | rfl | rfl | rfl | rfl <;> exact ⟨_, rfl, by decide +kernel⟩
theorem letters_word {cs : List Nat} (h : ∀ c ∈ cs, c ∈ abc.cps.toList) : letters ⟨cs.toArray⟩ = true := by
  unfold letters
  rw [List.all_eq_true]
  intro c hc
  exact in_abc c (h c (by simpa using hc))
abbrev isN (z : Str) : Bool := (decide ((1 : Int) ≤ z.length) && decide ((z.length : Int) ≤ 8)) && letters z
/-- 1 <= len(bent) <= 8 and all([sign in abc for sign in bent]) -/
theorem good_ok {Γ : Lt.Env} {st : Sto} {z : Str} (hz : z.length ≤ 1000) (h7 : Γ[7]? = some (some (.str z, false))) (h2 : Γ[2]? = some (some (.str abc, false))) (hl : Γ.length = 14) :
    ev G sg (C 29) Γ st (.and (.chain .le .le (.c (.int 1)) (.blt .len [(.var 7)]) (.c (.int 8))) (.blt .all [(.lc [9] .seq (.n 9) [(.var 7)] [] (.cmp .inn (.var 9) (.var 2)))])) = .ok (.bl (isN z), .sh) st := by
  have hi : itF .seq [.str z] = some (z.cps.toList.map fun c => D.str ⟨#[c]⟩) := rfl
  have w := walk_letters (sig := sg) (call := C 29) (Γ := wipeE Γ [9]) (i := 9) (e := .cmp .inn (.var 9) (.var 2)) (st := st) (by simp [wipeE, hl]) (fun c => by
    have e9 : ((wipeE Γ [9]).set 9 (some (.str ⟨#[c]⟩, false)))[9]? = some (some (.str ⟨#[c]⟩, false)) := by simp [wipeE, hl]
    have e2 : ((wipeE Γ [9]).set 9 (some (.str ⟨#[c]⟩, false)))[2]? = some (some (.str abc, false)) := by simp [wipeE, h2]
    simp only [ev_cmp, ev_var, e9, e2, R.bind_ok]
    rfl) z.cps.toList [] (by
      have : (1000 : Nat) ≤ sizeLine := by decide
      simp [Str.length] at hz ⊢
      omega)
  have ha : bltF .all [.lst (z.cps.toList.map fun c => D.bl (strIn ⟨#[c]⟩ abc))] = some (.bl (letters z), .sh) := by
    show (bools _).map _ = _
    rw [bools_map]
    simp [letters, List.all_map, Function.comp]
  have hlen := len_str hz
  by_cases a1 : (1 : Int) ≤ z.length <;> by_cases a2 : (z.length : Int) ≤ 8 <;> simp [ev_var, h7, hlen, hi, w, ha, a1, a2, isN]
theorem is_name_kw (n : Nat) (z : Str) (st : Sto) (hz : z.length ≤ 1000) : callO sg (C (n + 1)) "is_name" ["value"] [.str z] st = .ok (.bl (isN z), .sh) st := by
  show C (n + 1) "is_name" [.str z] st = _
  exact is_name_str n z st hz
theorem is_name_pos (n : Nat) (z : Str) (st : Sto) (hz : z.length ≤ 1000) : callO sg (C (n + 1)) "is_name" [] [.str z] st = .ok (.bl (isN z), .sh) st := by
  show C (n + 1) "is_name" [.str z] st = _
  exact is_name_str n z st hz
theorem like2 (st : Sto) (a b : Bool) : callO sg (C 29) "_law_like" [] [.lst [.bl a, .bl b], .lst [.bl a, .bl b]] st = .ok (.bl true, .sh) st :=
  like_lst std 27 _ (fun x hx => by
    simp only [List.mem_cons, List.not_mem_nil, or_false] at hx
    rcases hx with rfl | rfl <;> exact like_bl std 27 _) (by show 2 ≤ sizeLine; decide)
theorem like3 (st : Sto) (a b c : Bool) : callO sg (C 29) "_law_like" [] [.lst [.bl a, .bl b, .bl c], .lst [.bl a, .bl b, .bl c]] st = .ok (.bl true, .sh) st :=
  like_lst std 27 _ (fun x hx => by
    simp only [List.mem_cons, List.not_mem_nil, or_false] at hx
    rcases hx with rfl | rfl | rfl <;> exact like_bl std 27 _) (by show 3 ≤ sizeLine; decide)
theorem like1 (st : Sto) (a : Bool) : callO sg (C 29) "_law_like" [] [.bl a, .bl a] st = .ok (.bl true, .sh) st := like_bl std 28 a
/-- the values that are no numbers and no names -/
def odds : List D := [.non, .bl true, .bl false, .str "0", .str "", .tup [.int 0], .lst [.int 1], .tup [.str "a"], .lst [.str "a"]]
theorem odds_ok {i : Nat} {x : D} (h : odds[i]? = some x) (n : Nat) (st : Sto) : callO sg (C (n + 1)) "is_number" [] [x, .int (-9), .int 9] st = .ok (.bl false, .sh) st ∧ callO sg (C (n + 1)) "is_name" [] [x] st = .ok (.bl false, .sh) st := by
  have hm : x ∈ odds := List.mem_of_getElem? h
  simp only [odds, List.mem_cons, List.not_mem_nil, or_false] at hm
  rcases hm with rfl | rfl | rfl | rfl | rfl | rfl | rfl | rfl | rfl
  · exact ⟨is_number_odd n _ _ _ st (.inl (.inl rfl)), is_name_odd n _ st (.inl (.inl rfl))⟩
  · exact ⟨is_number_odd n _ _ _ st (.inl (.inr (.inl ⟨_, rfl⟩))), is_name_odd n _ st (.inl (.inr (.inl ⟨_, rfl⟩)))⟩
  · exact ⟨is_number_odd n _ _ _ st (.inl (.inr (.inl ⟨_, rfl⟩))), is_name_odd n _ st (.inl (.inr (.inl ⟨_, rfl⟩)))⟩
  · refine ⟨is_number_odd n _ _ _ st (.inr ⟨_, rfl⟩), ?_⟩
    rw [is_name_pos n _ st (by decide +kernel)]
    rw [show isN (Str.ofString "0") = false by decide +kernel]
  · refine ⟨is_number_odd n _ _ _ st (.inr ⟨_, rfl⟩), ?_⟩
    rw [is_name_pos n _ st (by decide +kernel)]
    rw [show isN (Str.ofString "") = false by decide +kernel]
  · exact ⟨is_number_odd n _ _ _ st (.inl (.inr (.inr (.inr ⟨_, rfl⟩)))), is_name_odd n _ st (.inl (.inr (.inr (.inr ⟨_, rfl⟩))))⟩
  · exact ⟨is_number_odd n _ _ _ st (.inl (.inr (.inr (.inl ⟨_, rfl⟩)))), is_name_odd n _ st (.inl (.inr (.inr (.inl ⟨_, rfl⟩))))⟩
  · exact ⟨is_number_odd n _ _ _ st (.inl (.inr (.inr (.inr ⟨_, rfl⟩)))), is_name_odd n _ st (.inl (.inr (.inr (.inr ⟨_, rfl⟩))))⟩
  · exact ⟨is_number_odd n _ _ _ st (.inl (.inr (.inr (.inl ⟨_, rfl⟩)))), is_name_odd n _ st (.inl (.inr (.inr (.inl ⟨_, rfl⟩))))⟩
end My

namespace My
open PySem L2 Lt
/-- the law's loop body -/
def bTurn : List S := match b_law with
  | [_, _, .for_ _ _ _ b, _] => b
  | _ => []
theorem nums_ok {x : D} {st st' : Sto} {i : Nat} {xs : List D} (h : xs[i]? = some x) (ha : ∀ y ∈ xs, ∃ n, y = D.int n) : ∃ n, x = .int n := ha x (List.mem_of_getElem? h)
theorem turn_ok {ns : List Int} {st : Sto} (hb : BagOk st) {v3 v4 v5 v6 v7 v8 v9 v10 v11 v12 v13 : Option (D × Bool)} :
    wpS (evSs G sg (C 29) 2000 [some (.scr ns, false), some (.ref 0, false), some (.str abc, false), v3, v4, v5, v6, v7, v8, v9, v10, v11, v12, v13] st bTurn)
      (fun Γ st => BagOk st ∧ ∃ u3 u4 u5 u6 u7 u8 u9 u10 u11 u12 u13, Γ = [some (.scr ns, false), some (.ref 0, false), some (.str abc, false), u3, u4, u5, u6, u7, u8, u9, u10, u11, u12, u13]) (fun _ _ => False) := by
  obtain ⟨cs, st1, e1, l1, a1, b1⟩ := word_ok (ns := ns) hb (v3 := v3) (v4 := v4) (v5 := v5) (v6 := v6) (v7 := v7) (v8 := v8) (v9 := v9) (v10 := v10) (v11 := v11) (v12 := v12) (v13 := v13)
  show wpS (evSs G sg (C 29) 2000 _ st (_ :: _)) _ _
  rw [evSs_cons, e1, andThen_nx]
  -- at
  have wl : (⟨cs.toArray⟩ : Str).length = cs.length := by simp [Str.length]
  generalize hw : (⟨cs.toArray⟩ : Str) = word at wl
  have hlet : letters word = true := by rw [← hw]; exact letters_word a1
  have hl1 := len_str (z := word) (by omega)
  obtain ⟨r, st2, e2, r1, r2, b2⟩ := call_draw (G := G) (fu := 2000) (st := st1) std 28 (m := (word.length : Int) + 1) b1 (by omega) (by omega)
  have s2 : evS G sg (C 29) 2000 [some (.scr ns, false), some (.ref 0, false), some (.str abc, false), v3, some (.str word, false), v5, v6, v7, v8, v9, v10, v11, v12, v13] st1 (.asg 6 (.call "_law_draw" [(.var 1), (.bin .add (.blt .len [(.var 4)]) (.c (.int 1)))] [])) =
      .nx [some (.scr ns, false), some (.ref 0, false), some (.str abc, false), v3, some (.str word, false), v5, some (.int r, false), v7, v8, v9, v10, v11, v12, v13] st2 := by
    simp [evS, freeze, esc, escs, ev_var, hl1, e2]
  rw [evSs_cons, s2, andThen_nx]
  -- bent
  obtain ⟨i, x, st3, e3, x1, b3⟩ := call_ofL (G := G) (fu := 2000) (st := st2) std 27 (xs := bits) b2 (by decide) (by decide)
  obtain ⟨z, rfl, z1⟩ := bits_ok x1
  have c1 := cutS_len word none (some r)
  have c2 := cutS_len word (some r) none
  have d1 : binF .add (.str (cutS word none (some r))) (.str z) = some (.str (cutS word none (some r) ++ z), .sh) := add_str (by omega) (by omega)
  have q1 := app_len (cutS word none (some r)) z
  have d2 : binF .add (.str (cutS word none (some r) ++ z)) (.str (cutS word (some r) none)) = some (.str (cutS word none (some r) ++ z ++ cutS word (some r) none), .sh) := add_str (by omega) (by omega)
  have q2 := app_len (cutS word none (some r) ++ z) (cutS word (some r) none)
  generalize hbent : cutS word none (some r) ++ z ++ cutS word (some r) none = bent at d2 q2
  have p1 := slice_str (z := word) (by omega) none (some r)
  have p2 := slice_str (z := word) (by omega) (some r) none
  have six : 6 ≤ sizeLine := by decide
  have s3 : evS G sg (C 29) 2000 [some (.scr ns, false), some (.ref 0, false), some (.str abc, false), v3, some (.str word, false), v5, some (.int r, false), v7, v8, v9, v10, v11, v12, v13] st2 (.asg 7 (.bin .add (.bin .add (.slice (.var 4) none (some (.var 6))) (.call "_law_of" [(.var 1), (.lst [(.c (.str "")), (.c (.str "A")), (.c (.str "0")), (.c (.str " ")), (.c (.str "_")), (.c (.str "."))])] [])) (.slice (.var 4) (some (.var 6)) none))) =
      .nx [some (.scr ns, false), some (.ref 0, false), some (.str abc, false), v3, some (.str word, false), v5, some (.int r, false), some (.str bent, false), v8, v9, v10, v11, v12, v13] st3 := by
    unfold bits at e3
    simp [evS, freeze, esc, escs, esco, ev_var, p1, p2, e3, d1, d2, six]
  rw [evSs_cons, s3, andThen_nx]
  -- good
  have g1 := good_ok (Γ := [some (.scr ns, false), some (.ref 0, false), some (.str abc, false), v3, some (.str word, false), v5, some (.int r, false), some (.str bent, false), v8, v9, v10, v11, v12, v13]) (st := st3) (z := bent) (by omega) rfl rfl rfl
  have s4 : evS G sg (C 29) 2000 [some (.scr ns, false), some (.ref 0, false), some (.str abc, false), v3, some (.str word, false), v5, some (.int r, false), some (.str bent, false), v8, v9, v10, v11, v12, v13] st3 (.asg 8 (.and (.chain .le .le (.c (.int 1)) (.blt .len [(.var 7)]) (.c (.int 8))) (.blt .all [(.lc [9] .seq (.n 9) [(.var 7)] [] (.cmp .inn (.var 9) (.var 2)))]))) =
      .nx [some (.scr ns, false), some (.ref 0, false), some (.str abc, false), v3, some (.str word, false), v5, some (.int r, false), some (.str bent, false), some (.bl (isN bent), false), v9, v10, v11, v12, v13] st3 := by
    show bindS _ (ev G sg (C 29) _ st3 _) _ = _
    have hf : freeze [some (.scr ns, false), some (.ref 0, false), some (.str abc, false), v3, some (.str word, false), v5, some (.int r, false), some (.str bent, false), v8, v9, v10, v11, v12, v13] (esc true (.and (.chain .le .le (.c (.int 1)) (.blt .len [(.var 7)]) (.c (.int 8))) (.blt .all [(.lc [9] .seq (.n 9) [(.var 7)] [] (.cmp .inn (.var 9) (.var 2)))]))) = [some (.scr ns, false), some (.ref 0, false), some (.str abc, false), v3, some (.str word, false), v5, some (.int r, false), some (.str bent, false), v8, v9, v10, v11, v12, v13] := rfl
    rw [hf, g1]
    rfl
  rw [evSs_cons, s4, andThen_nx]
  -- the names
  have hN : isN word = (decide ((1 : Int) ≤ word.length) && decide ((word.length : Int) ≤ 8)) := by simp [isN, hlet]
  have n1 := is_name_pos 28 word st3 (by omega)
  have n2 := is_name_kw 28 bent st3 (by omega)
  have k1 := like2 st3 (isN word) (isN bent)
  have two : 2 ≤ sizeLine := by decide
  have ch : ∀ Γ : Lt.Env, Γ[4]? = some (some (.str word, false)) → ev G sg (C 29) Γ st3 (.chain .le .le (.c (.int 1)) (.blt .len [(.var 4)]) (.c (.int 8))) = .ok (.bl (isN word), .sh) st3 := fun Γ h4 => by
    rw [hN]
    by_cases t1 : (1 : Int) ≤ word.length <;> by_cases t2 : (word.length : Int) ≤ 8 <;> simp [ev_var, h4, hl1, t1, t2]
  have s5 : evS G sg (C 29) 2000 [some (.scr ns, false), some (.ref 0, false), some (.str abc, false), v3, some (.str word, false), v5, some (.int r, false), some (.str bent, false), some (.bl (isN bent), false), v9, v10, v11, v12, v13] st3 (.ife (.not (.call "_law_like" [(.lst [(.call "is_name" [(.var 4)] []), (.call "is_name" [(.var 7)] ["value"])]), (.lst [(.chain .le .le (.c (.int 1)) (.blt .len [(.var 4)]) (.c (.int 8))), (.var 8)])] [])) [(.ret (.c (.bl false)))] []) =
      .nx [some (.scr ns, false), some (.ref 0, false), some (.str abc, false), v3, some (.str word, false), v5, some (.int r, false), some (.str bent, false), some (.bl (isN bent), false), v9, v10, v11, v12, v13] st3 := by
    simp [-ev_chain, evS, freeze, esc, escs, ev_var, n1, n2, ch, k1, two]
  rw [evSs_cons, s5, andThen_nx]
  -- least
  generalize hΓ : [some (D.scr ns, false), some (.ref 0, false), some (.str abc, false), v3, some (.str word, false), v5, some (.int r, false), some (.str bent, false), some (.bl (isN bent), false), v9, v10, v11, v12, v13] = Γ0
  obtain ⟨a, st4, e4, a1', a2, b4⟩ := call_draw (G := G) (fu := 2000) (st := st3) std 28 (m := 1000000) b3 (by omega) (by omega)
  obtain ⟨i5, x5, st5, e5, h5, b5⟩ := call_ofL (G := G) (fu := 2000) (st := st4) std 27 (xs := [.int 0, .int 1, .int (0 - 5), .int 1000000000, .int a]) b4 (by simp) (by simp)
  obtain ⟨lo, rfl⟩ := nums_ok h5 (st := st5) (st' := st5) (fun y hy => by simp only [List.mem_cons, List.not_mem_nil, or_false] at hy; rcases hy with rfl | rfl | rfl | rfl | rfl <;> exact ⟨_, rfl⟩)
  have pw9 : binF .pow (.int 10) (.int 9) = some (.int 1000000000, .sh) := rfl
  have pw6 : binF .pow (.int 10) (.int 6) = some (.int 1000000, .sh) := rfl
  have five : 5 ≤ sizeLine := by decide
  have four : 4 ≤ sizeLine := by decide
  have nine : 9 ≤ sizeLine := by decide
  have one : 1 ≤ sizeLine := by decide
  have s6 : evS G sg (C 29) 2000 Γ0 st3 (.asg 10 (.call "_law_of" [(.var 1), (.lst [(.c (.int 0)), (.c (.int 1)), (.bin .sub (.c (.int 0)) (.c (.int 5))), (.bin .pow (.c (.int 10)) (.c (.int 9))), (.call "_law_draw" [(.var 1), (.bin .pow (.c (.int 10)) (.c (.int 6)))] [])])] [])) = .nx (Γ0.set 10 (some (.int lo, false))) st5 := by
    subst hΓ
    simp at e5
    simp [evS, freeze, esc, escs, ev_var, pw9, pw6, e4, e5, five]
  rw [evSs_cons, s6, andThen_nx]
  -- most
  obtain ⟨i6, x6, st6, e6, h6, b6⟩ := call_ofL (G := G) (fu := 2000) (st := st5) std 27 (xs := [.int 0, .int 1, .int 9, .int 1000000000]) b5 (by simp) (by simp)
  obtain ⟨up, rfl⟩ := nums_ok h6 (st := st5) (st' := st5) (fun y hy => by simp only [List.mem_cons, List.not_mem_nil, or_false] at hy; rcases hy with rfl | rfl | rfl | rfl <;> exact ⟨_, rfl⟩)
  obtain ⟨dn, st7, e7, _, _, b7⟩ := call_draw (G := G) (fu := 2000) (st := st6) std 28 (m := 2) b6 (by omega) (by omega)
  have s7 : evS G sg (C 29) 2000 (Γ0.set 10 (some (.int lo, false))) st5 (.asg 11 (.bin .sub (.bin .add (.var 10) (.call "_law_of" [(.var 1), (.lst [(.c (.int 0)), (.c (.int 1)), (.c (.int 9)), (.bin .pow (.c (.int 10)) (.c (.int 9)))])] [])) (.call "_law_draw" [(.var 1), (.c (.int 2))] []))) = .nx ((Γ0.set 10 (some (.int lo, false))).set 11 (some (.int (lo + up - dn), false))) st7 := by
    subst hΓ
    simp [evS, freeze, esc, escs, ev_var, pw9, e6, e7, four]
  rw [evSs_cons, s7, andThen_nx]
  generalize lo + up - dn = hi
  -- the numbers
  have six6 : ∀ x ∈ [D.int lo, .int (lo - 1), .int hi, .int (hi + 1), .int (lo + 1), .int 0], ∃ n, x = D.int n := fun y hy => by simp only [List.mem_cons, List.not_mem_nil, or_false] at hy; rcases hy with rfl | rfl | rfl | rfl | rfl | rfl <;> exact ⟨_, rfl⟩
  have s8 : wpS (evS G sg (C 29) 2000 ((Γ0.set 10 (some (.int lo, false))).set 11 (some (.int hi, false))) st7 (.for_ .seq (.n 12) [(.lst [(.var 10), (.bin .sub (.var 10) (.c (.int 1))), (.var 11), (.bin .add (.var 11) (.c (.int 1))), (.bin .add (.var 10) (.c (.int 1))), (.c (.int 0))])] [(.ife (.not (.call "_law_like" [(.call "is_number" [(.var 12), (.var 10), (.var 11)] []), (.chain .le .le (.var 10) (.var 12) (.var 11))] [])) [(.ret (.c (.bl false)))] [])]))
      (fun Γ st => st = st7 ∧ ∃ u12, Γ = (((Γ0.set 10 (some (.int lo, false))).set 11 (some (.int hi, false))).set 12 u12)) (fun _ _ => False) := by
    have src : (evs G sg (C 29) (freeze ((Γ0.set 10 (some (.int lo, false))).set 11 (some (.int hi, false))) (escs true [(.lst [(.var 10), (.bin .sub (.var 10) (.c (.int 1))), (.var 11), (.bin .add (.var 11) (.c (.int 1))), (.bin .add (.var 10) (.c (.int 1))), (.c (.int 0))])])) st7 [(.lst [(.var 10), (.bin .sub (.var 10) (.c (.int 1))), (.var 11), (.bin .add (.var 11) (.c (.int 1))), (.bin .add (.var 10) (.c (.int 1))), (.c (.int 0))])]).bind (fun ds st => ofO (itF .seq ds) st) = .ok [D.int lo, .int (lo - 1), .int hi, .int (hi + 1), .int (lo + 1), .int 0] st7 := by
      subst hΓ
      simp [freeze, esc, escs, ev_var, six]
      rfl
    have fr : freeze ((Γ0.set 10 (some (.int lo, false))).set 11 (some (.int hi, false))) (escs true [(.lst [(.var 10), (.bin .sub (.var 10) (.c (.int 1))), (.var 11), (.bin .add (.var 11) (.c (.int 1))), (.bin .add (.var 10) (.c (.int 1))), (.c (.int 0))])]) = ((Γ0.set 10 (some (.int lo, false))).set 11 (some (.int hi, false))) := by
      subst hΓ
      rfl
    simp only [evS]
    rw [src, bindS_ok, fr]
    refine wp_loop (fun _ Γ st => st = st7 ∧ ∃ u12, Γ = (((Γ0.set 10 (some (.int lo, false))).set 11 (some (.int hi, false))).set 12 u12)) _ 0 _ st7 ⟨rfl, v12, by subst hΓ; rfl⟩ ?_
    rintro j d Γ st hd ⟨rfl, u12, rfl⟩
    obtain ⟨t, rfl⟩ := six6 d (List.mem_of_getElem? hd)
    refine ⟨((Γ0.set 10 (some (.int lo, false))).set 11 (some (.int hi, false))).set 12 (some (.int t, false)), by subst hΓ; rfl, ?_⟩
    have m1 := is_number_int 28 t lo hi st
    have m2 := like1 st (decide (lo ≤ t) && decide (t ≤ hi))
    have ch2 : ∀ Γ : Lt.Env, Γ[10]? = some (some (.int lo, false)) → Γ[11]? = some (some (.int hi, false)) → Γ[12]? = some (some (.int t, false)) → ev G sg (C 29) Γ st (.chain .le .le (.var 10) (.var 12) (.var 11)) = .ok (.bl (decide (lo ≤ t) && decide (t ≤ hi)), .sh) st := fun Γ h10 h11 h12 => by
      by_cases t1 : lo ≤ t <;> by_cases t2 : t ≤ hi <;> simp [ev_var, h10, h11, h12, t1, t2]
    have ev1 : evSs G sg (C 29) 2000 (((Γ0.set 10 (some (.int lo, false))).set 11 (some (.int hi, false))).set 12 (some (.int t, false))) st [(.ife (.not (.call "_law_like" [(.call "is_number" [(.var 12), (.var 10), (.var 11)] []), (.chain .le .le (.var 10) (.var 12) (.var 11))] [])) [(.ret (.c (.bl false)))] [])] = .nx (((Γ0.set 10 (some (.int lo, false))).set 11 (some (.int hi, false))).set 12 (some (.int t, false))) st := by
      subst hΓ
      simp [-ev_chain, evS, freeze, esc, escs, ev_var, m1, ch2, m2]
    rw [ev1]
    exact ⟨rfl, _, rfl⟩
  rw [evSs_cons]
  refine wpS_then (wpS_mono s8 ?_ fun _ _ h => h)
  rintro Γ1 st8 ⟨rfl, u12, rfl⟩
  -- odd values
  obtain ⟨i9, x9, st9, e9, h9, b9⟩ := call_ofL (G := G) (fu := 2000) (st := st8) std 27 (xs := odds) b7 (by decide) (by decide)
  have s9 : evS G sg (C 29) 2000 (((Γ0.set 10 (some (.int lo, false))).set 11 (some (.int hi, false))).set 12 u12) st8 (.asg 13 (.call "_law_of" [(.var 1), (.lst [(.c .non), (.c (.bl true)), (.c (.bl false)), (.c (.str "0")), (.c (.str "")), (.tup [(.c (.int 0))]), (.lst [(.c (.int 1))]), (.tup [(.c (.str "a"))]), (.lst [(.c (.str "a"))])])] [])) = .nx ((((Γ0.set 10 (some (.int lo, false))).set 11 (some (.int hi, false))).set 12 u12).set 13 (some (x9, false))) st9 := by
    subst hΓ
    unfold odds at e9
    simp [evS, freeze, esc, escs, ev_var, e9, nine, one]
  rw [evSs_cons, s9, andThen_nx]
  obtain ⟨o1, o2⟩ := odds_ok h9 28 st9
  have k2 := like2 st9 false false
  have s10 : evS G sg (C 29) 2000 ((((Γ0.set 10 (some (.int lo, false))).set 11 (some (.int hi, false))).set 12 u12).set 13 (some (x9, false))) st9 (.ife (.not (.call "_law_like" [(.lst [(.call "is_number" [(.var 13), (.bin .sub (.c (.int 0)) (.c (.int 9))), (.c (.int 9))] []), (.call "is_name" [(.var 13)] [])]), (.lst [(.c (.bl false)), (.c (.bl false))])] [])) [(.ret (.c (.bl false)))] []) = .nx ((((Γ0.set 10 (some (.int lo, false))).set 11 (some (.int hi, false))).set 12 u12).set 13 (some (x9, false))) st9 := by
    subst hΓ
    simp [evS, freeze, esc, escs, ev_var, o1, o2, k2, two]
  rw [evSs_cons, s10, andThen_nx]
  subst hΓ
  exact ⟨b9, _, _, _, _, _, _, _, _, _, _, _, rfl⟩
theorem law_true (ns : List Int) (h : ns.length ≤ 63) : ∃ st, callF G pg 2000 30 "law" [.scr ns] [] = .ok (.bl true, .sh) st := by
  rw [callF_eq (fn := f_law) rfl rfl]
  have e0 := call_open (G := G) (fu := 2000) (st := []) std 28 h
  have s1 : evS G sg (C 29) 2000 (startE f_law.N [.scr ns]) [] (.asgSto 1 (.call "_law_open" [(.var 0)] [])) = .nx [some (.scr ns, false), some (.ref 0, false), none, none, none, none, none, none, none, none, none, none, none, none] [bagO ns 0 0 100081 0] := by
    show evS G sg (C 29) 2000 [some (.scr ns, false), none, none, none, none, none, none, none, none, none, none, none, none, none] [] _ = _
    simp [evS, freeze, esc, escs, ev_var, e0, bagO]
  have s2 : ∀ st, evS G sg (C 29) 2000 [some (.scr ns, false), some (.ref 0, false), none, none, none, none, none, none, none, none, none, none, none, none] st (.asg 2 (.c (.str "abcdefghijklmnopqrstuvwxyz"))) = .nx [some (.scr ns, false), some (.ref 0, false), some (.str abc, false), none, none, none, none, none, none, none, none, none, none, none] st := fun st => rfl
  have b0 : BagOk [bagO ns 0 0 100081 0] := ⟨ns, 0, 0, 100081, 0, [], rfl, by omega, by omega, by omega, by omega⟩
  have main : wpS (evSs G sg (C 29) 2000 (startE f_law.N [.scr ns]) [] f_law.body) (fun _ _ => False) (fun x _ => x = (.bl true, .sh)) := by
    show wpS (evSs G sg (C 29) 2000 _ [] (_ :: _)) _ _
    rw [evSs_cons, s1, andThen_nx, evSs_cons, s2, andThen_nx, evSs_cons]
    have it : (evs G sg (C 29) (freeze [some (.scr ns, false), some (.ref 0, false), some (.str abc, false), none, none, none, none, none, none, none, none, none, none, none] (escs true [.c (.int 8)])) [bagO ns 0 0 100081 0] [.c (.int 8)]).bind (fun ds st => ofO (itF .rng1 ds) st) = .ok (rangeD 0 8) [bagO ns 0 0 100081 0] := rfl
    refine wpS_then ?_
    simp only [evS]
    rw [it, bindS_ok]
    refine wpS_mono (wp_loop (T := fun x _ => x = (.bl true, .sh)) (fun _ Γ st => BagOk st ∧ ∃ u3 u4 u5 u6 u7 u8 u9 u10 u11 u12 u13, Γ = [some (.scr ns, false), some (.ref 0, false), some (.str abc, false), u3, u4, u5, u6, u7, u8, u9, u10, u11, u12, u13]) _ 0 _ _ ⟨b0, _, _, _, _, _, _, _, _, _, _, _, rfl⟩ ?_) ?_ fun _ _ h => h
    · rintro j d Γ st hd ⟨hb, u3, u4, u5, u6, u7, u8, u9, u10, u11, u12, u13, rfl⟩
      exact ⟨_, rfl, wpS_mono (turn_ok hb) (fun _ _ h => h) fun _ _ h => h.elim⟩
    · rintro Γ st ⟨hb, u3, u4, u5, u6, u7, u8, u9, u10, u11, u12, u13, rfl⟩
      have n1 := is_name_odd 28 (.int 5) st (.inr ⟨_, rfl⟩)
      have n2 : callO sg (C 29) "is_number" ["value", "most", "least"] [.int 3, .int 4, .int 3] st = .ok (.bl true, .sh) st := rfl
      have n3 : callO sg (C 29) "is_name" [] [.str "abcdefgh"] st = .ok (.bl true, .sh) st := by
        rw [is_name_pos 28 _ st (by decide +kernel)]
        rw [show isN (Str.ofString "abcdefgh") = true by decide +kernel]
      have k := like3 st false true true
      have three : 3 ≤ sizeLine := by decide
      simp [evS, freeze, esc, escs, ev_var, n1, n2, n3, k, three]
      rfl
  cases q : evSs G sg (C 29) 2000 (startE f_law.N [.scr ns]) [] f_law.body with
  | rt x st =>
    rw [q] at main
    refine ⟨st, ?_⟩
    show R.ok x st = _
    rw [main]
  | nx _ _ => rw [q] at main; exact main.elim
  | bk _ _ => rw [q] at main; exact main.elim
  | ct _ _ => rw [q] at main; exact main.elim
  | exc _ _ _ => rw [q] at main; exact main.elim
  | bad => rw [q] at main; exact main.elim
end My

namespace My
open PySem L2 Lt
theorem c_is_number : (defBody (topS 3)).mapM (cS (sigF pg) (shpF pg) 60 ⟨f_is_number.N, defScope (topS 3), fun _ => true⟩) = some f_is_number.body := by rfl
theorem s_is_number : FnScope f_is_number.N f_is_number.ps (defScope (topS 3)) := ⟨rfl, rfl, rfl, by decide +kernel, rfl, by decide +kernel, by decide +kernel⟩
theorem d_is_number : ∀ ks ∈ f_is_number.shp, ∀ (us us' : List Value), order f_is_number.ps ks us = some us' → ∀ (kV doc pm : Value) (an : Option Addr) (cdv ct : Value), bindArgs (PySem.W.fnOf "is_number" "is_number" (defArgs (topS 3)) (defBody (topS 3)) (defScope (topS 3)) .none kV doc pm an cdv ct) ⟨us.take (us.length - ks.length), ks.zip (us.drop (us.length - ks.length))⟩ = pure (f_is_number.ps.zip us') := by
  intro ks hk us us' h
  have hl := order_len h
  simp only [f_is_number, List.mem_cons, List.not_mem_nil, or_false] at hk
  match us, hl with
  | [u0, u1, u2], _ =>
    rcases hk with rfl | rfl
    · (have e : us' = [u0, u1, u2] := (Option.some.inj (show some [u0, u1, u2] = some us' from h)).symm; subst e; intro _ _ _ _ _ _; rfl)
    · (have e : us' = [u0, u2, u1] := (Option.some.inj (show some [u0, u2, u1] = some us' from h)).symm; subst e; intro _ _ _ _ _ _; rfl)
theorem c_is_name : (defBody (topS 4)).mapM (cS (sigF pg) (shpF pg) 60 ⟨f_is_name.N, defScope (topS 4), fun _ => true⟩) = some f_is_name.body := by rfl
theorem s_is_name : FnScope f_is_name.N f_is_name.ps (defScope (topS 4)) := ⟨rfl, rfl, rfl, by decide +kernel, rfl, by decide +kernel, by decide +kernel⟩
theorem d_is_name : ∀ ks ∈ f_is_name.shp, ∀ (us us' : List Value), order f_is_name.ps ks us = some us' → ∀ (kV doc pm : Value) (an : Option Addr) (cdv ct : Value), bindArgs (PySem.W.fnOf "is_name" "is_name" (defArgs (topS 4)) (defBody (topS 4)) (defScope (topS 4)) .none kV doc pm an cdv ct) ⟨us.take (us.length - ks.length), ks.zip (us.drop (us.length - ks.length))⟩ = pure (f_is_name.ps.zip us') := by
  intro ks hk us us' h
  have hl := order_len h
  simp only [f_is_name, List.mem_cons, List.not_mem_nil, or_false] at hk
  match us, hl with
  | [u0], _ =>
    rcases hk with rfl | rfl
    · (have e : us' = [u0] := (Option.some.inj (show some [u0] = some us' from h)).symm; subst e; intro _ _ _ _ _ _; rfl)
    · (have e : us' = [u0] := (Option.some.inj (show some [u0] = some us' from h)).symm; subst e; intro _ _ _ _ _ _; rfl)
theorem c__law_open : (defBody (topS 6)).mapM (cS (sigF pg) (shpF pg) 60 ⟨f__law_open.N, defScope (topS 6), fun _ => true⟩) = some f__law_open.body := by rfl
theorem s__law_open : FnScope f__law_open.N f__law_open.ps (defScope (topS 6)) := ⟨rfl, rfl, rfl, by decide +kernel, rfl, by decide +kernel, by decide +kernel⟩
theorem d__law_open : ∀ ks ∈ f__law_open.shp, ∀ (us us' : List Value), order f__law_open.ps ks us = some us' → ∀ (kV doc pm : Value) (an : Option Addr) (cdv ct : Value), bindArgs (PySem.W.fnOf "_law_open" "_law_open" (defArgs (topS 6)) (defBody (topS 6)) (defScope (topS 6)) .none kV doc pm an cdv ct) ⟨us.take (us.length - ks.length), ks.zip (us.drop (us.length - ks.length))⟩ = pure (f__law_open.ps.zip us') := by
  intro ks hk us us' h
  have hl := order_len h
  simp only [f__law_open, List.mem_cons, List.not_mem_nil, or_false] at hk
  match us, hl with
  | [u0], _ =>
    subst hk
    (have e : us' = [u0] := (Option.some.inj (show some [u0] = some us' from h)).symm; subst e; intro _ _ _ _ _ _; rfl)
theorem c__law_draw : (defBody (topS 7)).mapM (cS (sigF pg) (shpF pg) 60 ⟨f__law_draw.N, defScope (topS 7), fun _ => true⟩) = some f__law_draw.body := by rfl
theorem s__law_draw : FnScope f__law_draw.N f__law_draw.ps (defScope (topS 7)) := ⟨rfl, rfl, rfl, by decide +kernel, rfl, by decide +kernel, by decide +kernel⟩
theorem d__law_draw : ∀ ks ∈ f__law_draw.shp, ∀ (us us' : List Value), order f__law_draw.ps ks us = some us' → ∀ (kV doc pm : Value) (an : Option Addr) (cdv ct : Value), bindArgs (PySem.W.fnOf "_law_draw" "_law_draw" (defArgs (topS 7)) (defBody (topS 7)) (defScope (topS 7)) .none kV doc pm an cdv ct) ⟨us.take (us.length - ks.length), ks.zip (us.drop (us.length - ks.length))⟩ = pure (f__law_draw.ps.zip us') := by
  intro ks hk us us' h
  have hl := order_len h
  simp only [f__law_draw, List.mem_cons, List.not_mem_nil, or_false] at hk
  match us, hl with
  | [u0, u1], _ =>
    subst hk
    (have e : us' = [u0, u1] := (Option.some.inj (show some [u0, u1] = some us' from h)).symm; subst e; intro _ _ _ _ _ _; rfl)
theorem c__law_of : (defBody (topS 8)).mapM (cS (sigF pg) (shpF pg) 60 ⟨f__law_of.N, defScope (topS 8), fun _ => true⟩) = some f__law_of.body := by rfl
theorem s__law_of : FnScope f__law_of.N f__law_of.ps (defScope (topS 8)) := ⟨rfl, rfl, rfl, by decide +kernel, rfl, by decide +kernel, by decide +kernel⟩
theorem d__law_of : ∀ ks ∈ f__law_of.shp, ∀ (us us' : List Value), order f__law_of.ps ks us = some us' → ∀ (kV doc pm : Value) (an : Option Addr) (cdv ct : Value), bindArgs (PySem.W.fnOf "_law_of" "_law_of" (defArgs (topS 8)) (defBody (topS 8)) (defScope (topS 8)) .none kV doc pm an cdv ct) ⟨us.take (us.length - ks.length), ks.zip (us.drop (us.length - ks.length))⟩ = pure (f__law_of.ps.zip us') := by
  intro ks hk us us' h
  have hl := order_len h
  simp only [f__law_of, List.mem_cons, List.not_mem_nil, or_false] at hk
  match us, hl with
  | [u0, u1], _ =>
    subst hk
    (have e : us' = [u0, u1] := (Option.some.inj (show some [u0, u1] = some us' from h)).symm; subst e; intro _ _ _ _ _ _; rfl)
theorem c__law_like : (defBody (topS 9)).mapM (cS (sigF pg) (shpF pg) 60 ⟨f__law_like.N, defScope (topS 9), fun _ => true⟩) = some f__law_like.body := by rfl
theorem s__law_like : FnScope f__law_like.N f__law_like.ps (defScope (topS 9)) := ⟨rfl, rfl, rfl, by decide +kernel, rfl, by decide +kernel, by decide +kernel⟩
theorem d__law_like : ∀ ks ∈ f__law_like.shp, ∀ (us us' : List Value), order f__law_like.ps ks us = some us' → ∀ (kV doc pm : Value) (an : Option Addr) (cdv ct : Value), bindArgs (PySem.W.fnOf "_law_like" "_law_like" (defArgs (topS 9)) (defBody (topS 9)) (defScope (topS 9)) .none kV doc pm an cdv ct) ⟨us.take (us.length - ks.length), ks.zip (us.drop (us.length - ks.length))⟩ = pure (f__law_like.ps.zip us') := by
  intro ks hk us us' h
  have hl := order_len h
  simp only [f__law_like, List.mem_cons, List.not_mem_nil, or_false] at hk
  match us, hl with
  | [u0, u1], _ =>
    subst hk
    (have e : us' = [u0, u1] := (Option.some.inj (show some [u0, u1] = some us' from h)).symm; subst e; intro _ _ _ _ _ _; rfl)
theorem c_law : (defBody (topS 10)).mapM (cS (sigF pg) (shpF pg) 60 ⟨f_law.N, defScope (topS 10), fun _ => true⟩) = some f_law.body := by rfl
theorem s_law : FnScope f_law.N f_law.ps (defScope (topS 10)) := ⟨rfl, rfl, rfl, by decide +kernel, rfl, by decide +kernel, by decide +kernel⟩
theorem d_law : ∀ ks ∈ f_law.shp, ∀ (us us' : List Value), order f_law.ps ks us = some us' → ∀ (kV doc pm : Value) (an : Option Addr) (cdv ct : Value), bindArgs (PySem.W.fnOf "law" "law" (defArgs (topS 10)) (defBody (topS 10)) (defScope (topS 10)) .none kV doc pm an cdv ct) ⟨us.take (us.length - ks.length), ks.zip (us.drop (us.length - ks.length))⟩ = pure (f_law.ps.zip us') := by
  intro ks hk us us' h
  have hl := order_len h
  simp only [f_law, List.mem_cons, List.not_mem_nil, or_false] at hk
  match us, hl with
  | [u0], _ =>
    subst hk
    (have e : us' = [u0] := (Option.some.inj (show some [u0] = some us' from h)).symm; subst e; intro _ _ _ _ _ _; rfl)
theorem all_mk {l : PySem.W.OpenLaw} {w : World} {K : PySem.W.Frag} {h : Heap} {mg : Str → Option Value} {fa : Addr} (X : K.In h) (Gn : h.Ns mainGlobals mg) (hfa : mg "law" = some (.ref fa))
    {a0 : Addr} {oc0 : Value} {od0 an0 : Option Addr} {sl0 : Array (Option Value)} {kV0 dc0 pm0 cd0 ct0 : Value}
    {a1 : Addr} {oc1 : Value} {od1 an1 : Option Addr} {sl1 : Array (Option Value)} {kV1 dc1 pm1 cd1 ct1 : Value}
    {a2 : Addr} {oc2 : Value} {od2 an2 : Option Addr} {sl2 : Array (Option Value)} {kV2 dc2 pm2 cd2 ct2 : Value}
    {a3 : Addr} {oc3 : Value} {od3 an3 : Option Addr} {sl3 : Array (Option Value)} {kV3 dc3 pm3 cd3 ct3 : Value}
    {a4 : Addr} {oc4 : Value} {od4 an4 : Option Addr} {sl4 : Array (Option Value)} {kV4 dc4 pm4 cd4 ct4 : Value}
    {a5 : Addr} {oc5 : Value} {od5 an5 : Option Addr} {sl5 : Array (Option Value)} {kV5 dc5 pm5 cd5 ct5 : Value}
    {a6 : Addr} {oc6 : Value} {od6 an6 : Option Addr} {sl6 : Array (Option Value)} {kV6 dc6 pm6 cd6 ct6 : Value}
    {t0 : Tok}
    {t1 : Tok}
    (p0 : PySem.W.nsIn K mainGlobals "is_number" = some (some (.ref a0))) (l0 : K.lookup a0 = some ⟨oc0, od0, .func (PySem.W.fnOf "is_number" "is_number" (defArgs (topS 3)) (defBody (topS 3)) (defScope (topS 3)) .none kV0 dc0 pm0 an0 cd0 ct0), sl0⟩) (c0 : PySem.W.codeIn K cd0 "is_number" = true) (k0 : PySem.W.keepIn K (.ref a0) = true)
    (p1 : PySem.W.nsIn K mainGlobals "is_name" = some (some (.ref a1))) (l1 : K.lookup a1 = some ⟨oc1, od1, .func (PySem.W.fnOf "is_name" "is_name" (defArgs (topS 4)) (defBody (topS 4)) (defScope (topS 4)) .none kV1 dc1 pm1 an1 cd1 ct1), sl1⟩) (c1 : PySem.W.codeIn K cd1 "is_name" = true) (k1 : PySem.W.keepIn K (.ref a1) = true)
    (p2 : PySem.W.nsIn K mainGlobals "_law_open" = some (some (.ref a2))) (l2 : K.lookup a2 = some ⟨oc2, od2, .func (PySem.W.fnOf "_law_open" "_law_open" (defArgs (topS 6)) (defBody (topS 6)) (defScope (topS 6)) .none kV2 dc2 pm2 an2 cd2 ct2), sl2⟩) (c2 : PySem.W.codeIn K cd2 "_law_open" = true) (k2 : PySem.W.keepIn K (.ref a2) = true)
    (p3 : PySem.W.nsIn K mainGlobals "_law_draw" = some (some (.ref a3))) (l3 : K.lookup a3 = some ⟨oc3, od3, .func (PySem.W.fnOf "_law_draw" "_law_draw" (defArgs (topS 7)) (defBody (topS 7)) (defScope (topS 7)) .none kV3 dc3 pm3 an3 cd3 ct3), sl3⟩) (c3 : PySem.W.codeIn K cd3 "_law_draw" = true) (k3 : PySem.W.keepIn K (.ref a3) = true)
    (p4 : PySem.W.nsIn K mainGlobals "_law_of" = some (some (.ref a4))) (l4 : K.lookup a4 = some ⟨oc4, od4, .func (PySem.W.fnOf "_law_of" "_law_of" (defArgs (topS 8)) (defBody (topS 8)) (defScope (topS 8)) .none kV4 dc4 pm4 an4 cd4 ct4), sl4⟩) (c4 : PySem.W.codeIn K cd4 "_law_of" = true) (k4 : PySem.W.keepIn K (.ref a4) = true)
    (p5 : PySem.W.nsIn K mainGlobals "_law_like" = some (some (.ref a5))) (l5 : K.lookup a5 = some ⟨oc5, od5, .func (PySem.W.fnOf "_law_like" "_law_like" (defArgs (topS 9)) (defBody (topS 9)) (defScope (topS 9)) .none kV5 dc5 pm5 an5 cd5 ct5), sl5⟩) (c5 : PySem.W.codeIn K cd5 "_law_like" = true) (k5 : PySem.W.keepIn K (.ref a5) = true)
    (p6 : PySem.W.nsIn K mainGlobals "law" = some (some (.ref a6))) (l6 : K.lookup a6 = some ⟨oc6, od6, .func (PySem.W.fnOf "law" "law" (defArgs (topS 10)) (defBody (topS 10)) (defScope (topS 10)) .none kV6 dc6 pm6 an6 cd6 ct6), sl6⟩) (c6 : PySem.W.codeIn K cd6 "law" = true) (k6 : PySem.W.keepIn K (.ref a6) = true)
    (cc0 : PySem.W.nsIn K mainGlobals "LETTERS" = some (some (.str "abcdefghijklmnopqrstuvwxyz" t0)))
    (cc1 : PySem.W.nsIn K mainGlobals "MOST_LETTERS" = some (some (.int 8 t1)))
    (z0 : PySem.W.nsIn K mainGlobals "len" = some none)
    (z1 : PySem.W.nsIn K mainGlobals "all" = some none)
    (z2 : PySem.W.nsIn K mainGlobals "any" = some none)
    (z3 : PySem.W.nsIn K mainGlobals "int" = some none)
    (z4 : PySem.W.nsIn K mainGlobals "list" = some none)
    (z5 : PySem.W.nsIn K mainGlobals "isinstance" = some none)
    (z6 : PySem.W.nsIn K mainGlobals "bool" = some none)
    (z7 : PySem.W.nsIn K mainGlobals "str" = some none)
    (z8 : PySem.W.nsIn K mainGlobals "tuple" = some none)
    (z9 : PySem.W.nsIn K mainGlobals "range" = some none)
    (z10 : PySem.W.nsIn K mainGlobals "enumerate" = some none)
    (z11 : PySem.W.nsIn K mainGlobals "zip" = some none)
    : ∃ fd : FuncData, (∀ (s : Shared) (v : Value), BindsTo s fd ⟨[v], []⟩ [("_law_script", v)]) ∧ ∀ base : Heap, K.In base → base.Ns mainGlobals mg → FnOk l.prog w K mg base (L2.CX l.prog w) 30 fa fd ["_law_script"] (spF K (sysF XR G pg 2000 30) "law" ["_law_script"]) := by
  have e := hfa.symm.trans (PySem.W.mg_of X Gn p6)
  cases e
  have hF : ∀ f fn, pg f = some fn → FnFact K mg pg f fn := by
    intro f fn hh
    have hm := PySem.mem_of_lookup hh
    simp only [tbl, List.mem_cons, List.not_mem_nil, or_false, Prod.mk.injEq] at hm
    rcases hm with ⟨rfl, rfl⟩ | ⟨rfl, rfl⟩ | ⟨rfl, rfl⟩ | ⟨rfl, rfl⟩ | ⟨rfl, rfl⟩ | ⟨rfl, rfl⟩ | ⟨rfl, rfl⟩
    · exact fact_mk X Gn p0 l0 c0 k0 s_is_number c_is_number d_is_number
    · exact fact_mk X Gn p1 l1 c1 k1 s_is_name c_is_name d_is_name
    · exact fact_mk X Gn p2 l2 c2 k2 s__law_open c__law_open d__law_open
    · exact fact_mk X Gn p3 l3 c3 k3 s__law_draw c__law_draw d__law_draw
    · exact fact_mk X Gn p4 l4 c4 k4 s__law_of c__law_of d__law_of
    · exact fact_mk X Gn p5 l5 c5 k5 s__law_like c__law_like d__law_like
    · exact fact_mk X Gn p6 l6 c6 k6 s_law c_law d_law
  have hG : ∀ x d, G x = some d → ∃ v u, mg x = some u ∧ RelV v u ∧ ∀ wd, Rep K wd v d := by
    intro x d hh
    have hm := PySem.mem_of_lookup hh
    simp only [gtbl, List.mem_cons, List.not_mem_nil, or_false, Prod.mk.injEq] at hm
    rcases hm with ⟨rfl, rfl⟩ | ⟨rfl, rfl⟩
    · exact const_str X Gn cc0
    · exact const_int X Gn cc1
  have hB : ∀ x ∈ (["len", "all", "any", "int", "list", "isinstance", "bool", "str", "tuple", "range", "enumerate", "zip"] : List Str), mg x = none := by
    intro x hx
    simp only [List.mem_cons, List.not_mem_nil, or_false] at hx
    rcases hx with rfl | rfl | rfl | rfl | rfl | rfl | rfl | rfl | rfl | rfl | rfl | rfl
    · exact PySem.W.mg_none_of X Gn z0
    · exact PySem.W.mg_none_of X Gn z1
    · exact PySem.W.mg_none_of X Gn z2
    · exact PySem.W.mg_none_of X Gn z3
    · exact PySem.W.mg_none_of X Gn z4
    · exact PySem.W.mg_none_of X Gn z5
    · exact PySem.W.mg_none_of X Gn z6
    · exact PySem.W.mg_none_of X Gn z7
    · exact PySem.W.mg_none_of X Gn z8
    · exact PySem.W.mg_none_of X Gn z9
    · exact PySem.W.mg_none_of X Gn z10
    · exact PySem.W.mg_none_of X Gn z11
  exact ⟨_, fun s v => .of_eq rfl, fun base _ _ => fn_one (all_ok hG hB hF 29) rfl (fun_mk l6 c6 k6) s_law c_law⟩
end My
open PySem PySem.W PyProof.Rows
set_option maxHeartbeats 0 in
theorem PySem.Challenge.cw_partfirsts_k01_names_and_numbers_holds : PySem.Challenge.rw_partfirsts_k01_names_and_numbers.Holds := by
  w_on; o_law; k_head; (case hw => w_witness2)
  k_fill
  refine L2.walk_of (l := PySem.Challenge.rw_partfirsts_k01_names_and_numbers) (n := 63) (k := 30) (x := "_law_script") (CX := fun w => L2.CX PySem.Challenge.pw_partfirsts_k01_names_and_numbers w) (sp := fun w => Lt.spF _ (Lt.sysF My.XR My.G My.pg 2000 30) "law" ["_law_script"]) rfl (by decide) rfl ⟨rfl, by decide, by decide⟩ (fun w h Y => PySem.W.kIn_of Y) ?F (fun _ _ a ns hl _ hS => (My.law_true ns hl).elim fun st e => Lt.sp_law hS e) (fun _ _ _ _ _ h => Lt.cx_none h)
  case F =>
    intro w mg fa h KX G hmg
    refine' My.all_mk KX G hmg ?p0 ?l0 ?c0 ?k0 ?p1 ?l1 ?c1 ?k1 ?p2 ?l2 ?c2 ?k2 ?p3 ?l3 ?c3 ?k3 ?p4 ?l4 ?c4 ?k4 ?p5 ?l5 ?c5 ?k5 ?p6 ?l6 ?c6 ?k6 ?cc0 ?cc1 ?z0 ?z1 ?z2 ?z3 ?z4 ?z5 ?z6 ?z7 ?z8 ?z9 ?z10 ?z11
    (case p0 => k_is)
    (case l0 => k_is)
    (case c0 => k_is)
    (case k0 => k_is)
    (case p1 => k_is)
    (case l1 => k_is)
    (case c1 => k_is)
    (case k1 => k_is)
    (case p2 => k_is)
    (case l2 => k_is)
    (case c2 => k_is)
    (case k2 => k_is)
    (case p3 => k_is)
    (case l3 => k_is)
    (case c3 => k_is)
    (case k3 => k_is)
    (case p4 => k_is)
    (case l4 => k_is)
    (case c4 => k_is)
    (case k4 => k_is)
    (case p5 => k_is)
    (case l5 => k_is)
    (case c5 => k_is)
    (case k5 => k_is)
    (case p6 => k_is)
    (case l6 => k_is)
    (case c6 => k_is)
    (case k6 => k_is)
    (case cc0 => k_is)
    (case cc1 => k_is)
    (case z0 => k_is)
    (case z1 => k_is)
    (case z2 => k_is)
    (case z3 => k_is)
    (case z4 => k_is)
    (case z5 => k_is)
    (case z6 => k_is)
    (case z7 => k_is)
    (case z8 => k_is)
    (case z9 => k_is)
    (case z10 => k_is)
    (case z11 => k_is)
