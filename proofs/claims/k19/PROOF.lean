import PyProof.Rows.All
import Wide.All
import OpenK.AllK
import Wide.FinOn
import HandS.ForMost
import HandS.ForExc
import HandS.Wide
import HandS.IsInst
import HandS.ExcIs
import HandS.Lambda
import HandS.CallLocal
import HandS.Flow
import HandS.Ends
import HandS.ExcSuper
import KE.KExcSuper
import HandS.Head0
import HandS.Head1
import HandS.Head2
import HandS.HeadEnd
import HandS.HeadHook1
import HandS.HeadHook2
import HandS.HeadHook4
import HandS.HeadWalk
import HandS.Deep
import HandS.SetFor
import HandS.RaiseMore
import HandS.HeadNt
import HandS.TupLe
import HandS.TupSets
import PySem.Challenge.RW_spoiltrows_k19_whole_bounds_by_length_an
set_option Elab.async false
set_option linter.all false
set_option maxRecDepth 100000
set_option maxHeartbeats 4000000
/-! Data behind values: what a value denotes, told apart from what a def changes. -/
namespace Spr
open PySem PySem.Spec PyProof.Rows L2

/-- what a value denotes -/
inductive D where
  | non | bl (b : Bool) | int (i : Int) | str (s : Str) | tup (l : List D) | lst (l : List D) | raw (v : V) | obj (C : Addr) (fs : List (Str × D)) | tl (l : List D)

/-- a list, a tuple written at the top -/
def KL (K : PySem.W.Frag) (a : Addr) (xs : List V) : Prop :=
  ∃ (o : Obj) (its : Array Value) (n : Nat), K.lookup a = some o ∧ o.cls = .type "list" ∧ o.dict = none ∧ o.data = .seq its n ∧ its.size ≤ sizeLine ∧ Vals xs its.toList
def KT (K : PySem.W.Frag) (a : Addr) (xs : List V) : Prop :=
  ∃ (o : Obj) (its : Array Value) (n : Nat), K.lookup a = some o ∧ o.cls = .type "tuple" ∧ o.data = .seq its n ∧ its.size ≤ sizeLine ∧ Vals xs its.toList

mutual
/-- v denotes d in H; S: the addresses that may change, which d does not lean on -/
inductive Den (K : PySem.W.Frag) (S : Addr → Prop) (H : Hp) : V → D → Prop
  | non : Den K S H .non .non
  | bl (b : Bool) : Den K S H (.bl b) (.bl b)
  | int (i : Int) : Den K S H (.int i) (.int i)
  | str (s : Str) : Den K S H (.str s) (.str s)
  | raw (v : V) : Den K S H v (.raw v)
  | tup {a : Addr} {xs : List V} {l : List D} : Rd H a (.tup xs) → ¬ S a → DenL K S H xs l → Den K S H (.ref a) (.tup l)
  | tupK {a : Addr} {xs : List V} {l : List D} : KT K a xs → DenL K S H xs l → Den K S H (.ref a) (.tup l)
  | lst {a : Addr} {xs : List V} {l : List D} : Rd H a (.lst xs) → ¬ S a → DenL K S H xs l → Den K S H (.ref a) (.lst l)
  | lstK {a : Addr} {xs : List V} {l : List D} : KL K a xs → DenL K S H xs l → Den K S H (.ref a) (.lst l)
  | tl {a : Addr} {xs : List V} {l : List D} : Rd H a (.lst xs) → ¬ S a → DenL K S H xs l → Den K S H (.ref a) (.tl l)
  | obj {a C dx : Addr} {fs : List (Str × V)} {gs : List (Str × D)} : H a = some (.ins C dx fs) → ¬ S a → DenF K S H fs gs → Den K S H (.ref a) (.obj C gs)
inductive DenL (K : PySem.W.Frag) (S : Addr → Prop) (H : Hp) : List V → List D → Prop
  | nil : DenL K S H [] []
  | cons {v : V} {vs : List V} {d : D} {ds : List D} : Den K S H v d → DenL K S H vs ds → DenL K S H (v :: vs) (d :: ds)
inductive DenF (K : PySem.W.Frag) (S : Addr → Prop) (H : Hp) : List (Str × V) → List (Str × D) → Prop
  | nil : DenF K S H [] []
  | cons {x : Str} {v : V} {vs : List (Str × V)} {d : D} {ds : List (Str × D)} : Den K S H v d → DenF K S H vs ds → DenF K S H ((x, v) :: vs) ((x, d) :: ds)
end

/-- a table of code objects -/
def IsT (o : HO) : Prop := ∃ ps, o = .tbl ps
/-- what stood and may not change stands, and may not change -/
def Rl (S : Addr → Prop) (H : Hp) (S' : Addr → Prop) (H' : Hp) : Prop := ∀ a o, ¬ S a → H a = some o → ¬ IsT o → H' a = some o ∧ ¬ S' a
theorem Rl.refl {S : Addr → Prop} {H : Hp} : Rl S H S H := fun _ _ n h _ => ⟨h, n⟩
theorem Rl.trans {S S1 S2 : Addr → Prop} {H H1 H2 : Hp} (a : Rl S H S1 H1) (b : Rl S1 H1 S2 H2) : Rl S H S2 H2 := fun x o n h z =>
  let ⟨h1, n1⟩ := a x o n h z
  b x o n1 h1 z
theorem Rl.of {S : Addr → Prop} {H H' : Hp} (e : Same H H') : Rl S H S H' := fun a o n h _ => ⟨e a o h, n⟩
theorem Rl.rd {S S' : Addr → Prop} {H H' : Hp} {a : Addr} {u : HO} (r : Rl S H S' H') (h : Rd H a u) (n : ¬ S a) (z : ¬ IsT u) : Rd H' a u ∧ ¬ S' a := by
  rcases h with h | ⟨o, h⟩
  · exact ⟨.inl (r a _ n h z).1, (r a _ n h z).2⟩
  · have zf : ¬ IsT (.frz o u) := fun ⟨ps, e⟩ => by cases e
    exact ⟨.inr ⟨o, (r a _ n h zf).1⟩, (r a _ n h zf).2⟩
theorem nt_tup {xs : List V} : ¬ IsT (.tup xs) := fun ⟨ps, e⟩ => by cases e
theorem nt_lst {xs : List V} : ¬ IsT (.lst xs) := fun ⟨ps, e⟩ => by cases e
theorem nt_ins {C d : Addr} {fs : List (Str × V)} : ¬ IsT (.ins C d fs) := fun ⟨ps, e⟩ => by cases e

section
variable {K : PySem.W.Frag} {S S' : Addr → Prop} {H H' : Hp}
mutual
theorem Den.go (r : Rl S H S' H') : ∀ (d : D) (v : V), Den K S H v d → Den K S' H' v d
  | .non, _, .non => .non
  | .bl b, _, .bl _ => .bl b
  | .int i, _, .int _ => .int i
  | .str s, _, .str _ => .str s
  | .raw v, _, .raw _ => .raw v
  | .tup l, _, .tup h n hl => .tup (r.rd h n nt_tup).1 (r.rd h n nt_tup).2 (DenL.go r l _ hl)
  | .tup l, _, .tupK h hl => .tupK h (DenL.go r l _ hl)
  | .lst l, _, .lst h n hl => .lst (r.rd h n nt_lst).1 (r.rd h n nt_lst).2 (DenL.go r l _ hl)
  | .lst l, _, .lstK h hl => .lstK h (DenL.go r l _ hl)
  | .tl l, _, .tl h n hl => .tl (r.rd h n nt_lst).1 (r.rd h n nt_lst).2 (DenL.go r l _ hl)
  | .obj C gs, _, .obj h n hf => .obj (r _ _ n h nt_ins).1 (r _ _ n h nt_ins).2 (DenF.go r gs _ hf)
theorem DenL.go (r : Rl S H S' H') : ∀ (l : List D) (xs : List V), DenL K S H xs l → DenL K S' H' xs l
  | [], _, .nil => .nil
  | d :: ds, _, .cons h t => .cons (Den.go r d _ h) (DenL.go r ds _ t)
theorem DenF.go (r : Rl S H S' H') : ∀ (l : List (Str × D)) (xs : List (Str × V)), DenF K S H xs l → DenF K S' H' xs l
  | [], _, .nil => .nil
  | (_, d) :: ds, _, .cons h t => .cons (Den.go r d _ h) (DenF.go r ds _ t)
end
theorem Den.mono {v : V} {d : D} (h : Den K S H v d) (r : Rl S H S' H') : Den K S' H' v d := Den.go r d v h
theorem DenL.mono {xs : List V} {l : List D} (h : DenL K S H xs l) (r : Rl S H S' H') : DenL K S' H' xs l := DenL.go r l xs h
theorem Den.ext {v : V} {d : D} (h : Den K S H v d) (e : Same H H') : Den K S H' v d := h.mono (.of e)
theorem DenL.ext {xs : List V} {l : List D} (h : DenL K S H xs l) (e : Same H H') : DenL K S H' xs l := h.mono (.of e)
/-- what may change may be told smaller -/
theorem Den.less {v : V} {d : D} (h : Den K S H v d) (r : ∀ a, S' a → S a) : Den K S' H v d := h.mono fun a o n q _ => ⟨q, fun z => n (r a z)⟩
theorem DenL.less {xs : List V} {l : List D} (h : DenL K S H xs l) (r : ∀ a, S' a → S a) : DenL K S' H xs l := h.mono fun a o n q _ => ⟨q, fun z => n (r a z)⟩

theorem Den.int_ {v : V} {i : Int} (h : Den K S H v (.int i)) : v = .int i := by cases h; rfl
theorem Den.bl_ {v : V} {b : Bool} (h : Den K S H v (.bl b)) : v = .bl b := by cases h; rfl
theorem Den.str_ {v : V} {s : Str} (h : Den K S H v (.str s)) : v = .str s := by cases h; rfl
theorem Den.non_ {v : V} (h : Den K S H v .non) : v = .non := by cases h; rfl
theorem Den.raw_ {v u : V} (h : Den K S H v (.raw u)) : v = u := by cases h; rfl
theorem Den.tup_ {v : V} {l : List D} (h : Den K S H v (.tup l)) : ∃ a xs, v = .ref a ∧ SqT K H a xs ∧ DenL K S H xs l := by
  cases h with
  | tup r n hl => exact ⟨_, _, rfl, .inl r, hl⟩
  | tupK r hl => exact ⟨_, _, rfl, .inr r, hl⟩
theorem Den.lst_ {v : V} {l : List D} (h : Den K S H v (.lst l)) : ∃ a xs, v = .ref a ∧ SqL K H a xs ∧ DenL K S H xs l := by
  cases h with
  | lst r n hl => exact ⟨_, _, rfl, .inl r, hl⟩
  | lstK r hl => exact ⟨_, _, rfl, .inr r, hl⟩
theorem Den.tl_ {v : V} {l : List D} (h : Den K S H v (.tl l)) : ∃ a xs, v = .ref a ∧ Rd H a (.lst xs) ∧ ¬ S a ∧ DenL K S H xs l := by
  cases h with
  | tl r n hl => exact ⟨_, _, rfl, r, n, hl⟩
theorem Den.up {v : V} {l : List D} (h : Den K S H v (.tl l)) : Den K S H v (.lst l) := by
  obtain ⟨a, xs, rfl, r, n, hl⟩ := h.tl_
  exact .lst r n hl
theorem Den.obj_ {v : V} {C : Addr} {gs : List (Str × D)} (h : Den K S H v (.obj C gs)) : ∃ a dx fs, v = .ref a ∧ H a = some (.ins C dx fs) ∧ DenF K S H fs gs := by
  cases h with
  | obj h n hl => exact ⟨_, _, _, rfl, h, hl⟩
def LiL (K : PySem.W.Frag) (S : Addr → Prop) (H : Hp) (a : Addr) (xs : List V) : Prop := (Rd H a (.lst xs) ∧ ¬ S a) ∨ KL K a xs
def LiT (K : PySem.W.Frag) (S : Addr → Prop) (H : Hp) (a : Addr) (xs : List V) : Prop := (Rd H a (.tup xs) ∧ ¬ S a) ∨ KT K a xs
theorem LiL.sq {a : Addr} {xs : List V} (h : LiL K S H a xs) : SqL K H a xs := h.elim (fun z => .inl z.1) .inr
theorem LiT.sq {a : Addr} {xs : List V} (h : LiT K S H a xs) : SqT K H a xs := h.elim (fun z => .inl z.1) .inr
theorem LiL.mono {a : Addr} {xs : List V} (h : LiL K S H a xs) (r : Rl S H S' H') : LiL K S' H' a xs := h.elim (fun z => .inl (r.rd z.1 z.2 nt_lst)) .inr
theorem LiT.mono {a : Addr} {xs : List V} (h : LiT K S H a xs) (r : Rl S H S' H') : LiT K S' H' a xs := h.elim (fun z => .inl (r.rd z.1 z.2 nt_tup)) .inr
theorem Den.tupL {v : V} {l : List D} (h : Den K S H v (.tup l)) : ∃ a xs, v = .ref a ∧ LiT K S H a xs ∧ DenL K S H xs l := by
  cases h with
  | tup r n hl => exact ⟨_, _, rfl, .inl ⟨r, n⟩, hl⟩
  | tupK r hl => exact ⟨_, _, rfl, .inr r, hl⟩
theorem Den.lstL {v : V} {l : List D} (h : Den K S H v (.lst l)) : ∃ a xs, v = .ref a ∧ LiL K S H a xs ∧ DenL K S H xs l := by
  cases h with
  | lst r n hl => exact ⟨_, _, rfl, .inl ⟨r, n⟩, hl⟩
  | lstK r hl => exact ⟨_, _, rfl, .inr r, hl⟩
theorem LiL.den {a : Addr} {xs : List V} {l : List D} (h : LiL K S H a xs) (hl : DenL K S H xs l) : Den K S H (.ref a) (.lst l) := h.elim (fun z => .lst z.1 z.2 hl) fun z => .lstK z hl
theorem LiT.den {a : Addr} {xs : List V} {l : List D} (h : LiT K S H a xs) (hl : DenL K S H xs l) : Den K S H (.ref a) (.tup l) := h.elim (fun z => .tup z.1 z.2 hl) fun z => .tupK z hl
theorem DenL.length : ∀ {xs : List V} {l : List D}, DenL K S H xs l → xs.length = l.length
  | _, _, .nil => rfl
  | _, _, .cons _ t => congrArg (· + 1) (DenL.length t)
theorem DenL.get : ∀ {xs : List V} {l : List D} {i : Nat} {x : V}, DenL K S H xs l → xs[i]? = some x → ∃ d, l[i]? = some d ∧ Den K S H x d
  | _, _, _, _, .nil, e => by simp at e
  | _, _, 0, _, .cons h _, e => by simp at e; subst e; exact ⟨_, rfl, h⟩
  | _, _, i + 1, x, .cons _ t, e => by
    obtain ⟨d, h1, h2⟩ := DenL.get (i := i) (x := x) t (by simpa using e)
    exact ⟨d, by simpa using h1, h2⟩
theorem DenL.at_ : ∀ {xs : List V} {l : List D} {i : Nat} {d : D}, DenL K S H xs l → l[i]? = some d → ∃ x, xs[i]? = some x ∧ Den K S H x d
  | _, _, _, _, .nil, e => by simp at e
  | _, _, 0, _, .cons h _, e => by simp at e; subst e; exact ⟨_, rfl, h⟩
  | _, _, i + 1, d, .cons _ t, e => by
    obtain ⟨x, h1, h2⟩ := DenL.at_ (i := i) (d := d) t (by simpa using e)
    exact ⟨x, by simpa using h1, h2⟩
theorem DenL.append : ∀ {xs ys : List V} {l m : List D}, DenL K S H xs l → DenL K S H ys m → DenL K S H (xs ++ ys) (l ++ m)
  | _, _, _, _, .nil, h => h
  | _, _, _, _, .cons h t, q => .cons h (DenL.append t q)
theorem DenL.set {x : V} {d : D} (r : Den K S H x d) : ∀ {xs : List V} {l : List D} (i : Nat), DenL K S H xs l → DenL K S H (xs.set i x) (l.set i d)
  | _, _, _, .nil => .nil
  | _, _, 0, .cons _ t => .cons r t
  | _, _, i + 1, .cons h t => .cons h (DenL.set r i t)
theorem DenL.drop : ∀ {xs : List V} {l : List D} (n : Nat), DenL K S H xs l → DenL K S H (xs.drop n) (l.drop n)
  | _, _, 0, h => h
  | _, _, _ + 1, .nil => .nil
  | _, _, n + 1, .cons _ t => DenL.drop n t
theorem DenL.take : ∀ {xs : List V} {l : List D} (n : Nat), DenL K S H xs l → DenL K S H (xs.take n) (l.take n)
  | _, _, 0, _ => .nil
  | _, _, _ + 1, .nil => .nil
  | _, _, n + 1, .cons h t => .cons h (DenL.take n t)
theorem DenL.ints : ∀ {xs : List V} {ns : List Int}, DenL K S H xs (ns.map .int) → xs = ns.map .int
  | _, [], .nil => rfl
  | _, n :: ns, .cons h t => by rw [h.int_, DenL.ints t] <;> rfl
theorem DenL.of_ints : ∀ (ns : List Int), DenL K S H (ns.map .int) (ns.map .int)
  | [] => .nil
  | n :: ns => .cons (.int n) (DenL.of_ints ns)
theorem DenL.bls : ∀ {xs : List V} {ns : List Bool}, DenL K S H xs (ns.map .bl) → xs = ns.map .bl
  | _, [], .nil => rfl
  | _, n :: ns, .cons h t => by rw [h.bl_, DenL.bls t] <;> rfl
end

/-! ### the slots -/
/-- a slot: a thing that does not change; a list of one's own -/
inductive Ent where
  | im (d : D)
  | ow (l : List D)
def EntAt (K : PySem.W.Frag) (S : Addr → Prop) (H : Hp) (v : V) : Ent → Prop
  | .im d => Den K S H v d
  | .ow l => ∃ a xs, v = .ref a ∧ S a ∧ H a = some (.lst xs) ∧ DenL K S H xs l
abbrev Gm := List (Option Ent)

/-- what is fixed through a def: the written part, the entry (what may change there, the heap), what the def itself may change, its tables of code objects, the arguments that it changes (slot, value) -/
structure Cn where
  S0 : Addr → Prop
  H0 : Hp
  tb : List (Addr × Str)
  fx : List (Nat × V)
/-- what the def itself may change of what stood -/
def Cn.T0 (c : Cn) (a : Addr) : Prop := (∃ p ∈ c.fx, p.2 = .ref a) ∨ ∃ p ∈ c.tb, p.1 = a
/-- a table of another, where the def itself writes tables -/
def Cn.Tb (c : Cn) (a : Addr) : Prop := c.tb ≠ [] ∧ ∃ o, c.H0 a = some o ∧ IsT o
structure Gd (K : PySem.W.Frag) (c : Cn) (S : Addr → Prop) (σ : L2.St) (H : Hp) (Γ : Gm) : Prop where
  len : σ.length = Γ.length
  at_ : ∀ (i : Nat) (e : Ent), Γ[i]? = some (some e) → ∃ v, σ[i]? = some (some v) ∧ EntAt K S H v e
  sep : ∀ (i j : Nat) (a : Addr) (l l' : List D), Γ[i]? = some (some (.ow l)) → Γ[j]? = some (some (.ow l')) → σ[i]? = some (some (.ref a)) → σ[j]? = some (some (.ref a)) → i = j
  loc : ∀ (i : Nat) (l : List D) (a : Addr), Γ[i]? = some (some (.ow l)) → σ[i]? = some (some (.ref a)) → (∀ p ∈ c.fx, p.1 ≠ i) → ¬ c.S0 a
  sub : ∀ a, c.S0 a → S a
  new : ∀ a, S a → c.S0 a ∨ c.H0 a = none ∨ c.Tb a
  chg : ∀ a o, c.H0 a = some o → ¬ c.T0 a → ¬ c.Tb a → H a = some o
  dom : ∀ a, S a → H a ≠ none
  dm0 : ∀ a, c.H0 a ≠ none → ¬ c.Tb a → H a ≠ none
  fix : ∀ p ∈ c.fx, σ[p.1]? = some (some p.2)
  tab : LamX.Tabs c.tb H
  tbS : ∀ p ∈ c.tb, c.S0 p.1
section
variable {K : PySem.W.Frag} {c : Cn} {S : Addr → Prop} {σ : L2.St} {H H' : Hp} {Γ : Gm}
theorem EntAt.ext {v : V} : ∀ {e : Ent}, EntAt K S H v e → Same H H' → EntAt K S H' v e
  | .im d, h, e => Den.ext h e
  | .ow l, ⟨a, xs, h1, h2, h3, h4⟩, e => ⟨a, xs, h1, h2, e _ _ h3, h4.ext e⟩
theorem Same.some {H H' : Hp} (e : Same H H') {a : Addr} (h : H a ≠ none) : H' a ≠ none := fun z => h (e.free z)
/-- the heap has grown -/
theorem Gd.ext (t : Gd K c S σ H Γ) (e : Same H H') : Gd K c S σ H' Γ where
  len := t.len
  at_ := fun i en h => let ⟨v, h1, h2⟩ := t.at_ i en h; ⟨v, h1, h2.ext e⟩
  sep := t.sep
  loc := t.loc
  sub := t.sub
  new := t.new
  chg := fun a o h n nt => e _ _ (t.chg a o h n nt)
  dom := fun a h => Same.some e (t.dom a h)
  dm0 := fun a h nt => Same.some e (t.dm0 a h nt)
  fix := t.fix
  tab := t.tab.ext e
  tbS := t.tbS
theorem Gd.im (t : Gd K c S σ H Γ) {i : Nat} {d : D} (h : Γ[i]? = some (some (.im d))) : ∃ v, σ[i]? = some (some v) ∧ Den K S H v d := t.at_ i _ h
theorem Gd.ow (t : Gd K c S σ H Γ) {i : Nat} {l : List D} (h : Γ[i]? = some (some (.ow l))) : ∃ a xs, σ[i]? = some (some (.ref a)) ∧ S a ∧ H a = some (.lst xs) ∧ DenL K S H xs l := by
  obtain ⟨v, h1, a, xs, rfl, h2, h3, h4⟩ := t.at_ i _ h
  exact ⟨a, xs, h1, h2, h3, h4⟩
/-- a slot gets a thing -/
theorem Gd.setIm (t : Gd K c S σ H Γ) {i : Nat} {v : V} {d : D} (hv : Den K S H v d) (hf : ∀ p ∈ c.fx, p.1 ≠ i) : Gd K c S (σ.set i (some v)) H (Γ.set i (some (.im d))) := by
  refine ⟨by simpa using t.len, fun j e h => ?_, fun j k a l l' h1 h2 h3 h4 => ?_, fun j l a h1 h2 h3 => ?_, t.sub, t.new, t.chg, t.dom, t.dm0, fun p hp => ?_, t.tab, t.tbS⟩
  · by_cases hj : i = j
    · subst hj
      have hl : i < Γ.length := by
        have q := (List.getElem?_eq_some_iff.mp h).1
        simpa using q
      rw [List.getElem?_set_self hl] at h
      cases h
      exact ⟨v, List.getElem?_set_self (by rw [t.len]; exact hl), hv⟩
    · rw [List.getElem?_set_ne hj] at h ⊢
      exact t.at_ j e h
  · have n1 : i ≠ j := fun z => by
      subst z
      have q := (List.getElem?_eq_some_iff.mp h1).1
      rw [List.getElem?_set_self (by simpa using q)] at h1
      cases h1
    have n2 : i ≠ k := fun z => by
      subst z
      have q := (List.getElem?_eq_some_iff.mp h2).1
      rw [List.getElem?_set_self (by simpa using q)] at h2
      cases h2
    rw [List.getElem?_set_ne n1] at h1 h3
    rw [List.getElem?_set_ne n2] at h2 h4
    exact t.sep j k a l l' h1 h2 h3 h4
  · have n1 : i ≠ j := fun z => by
      subst z
      have q := (List.getElem?_eq_some_iff.mp h1).1
      rw [List.getElem?_set_self (by simpa using q)] at h1
      cases h1
    rw [List.getElem?_set_ne n1] at h1 h2
    exact t.loc j l a h1 h2 h3
  · rw [List.getElem?_set_ne (fun z => hf p hp z.symm)]
    exact t.fix p hp
/-- a slot is forgotten -/
theorem Gd.drop (t : Gd K c S σ H Γ) (i : Nat) : Gd K c S σ H (Γ.set i none) := by
  refine ⟨by simpa using t.len, fun j e h => ?_, fun j k a l l' h1 h2 h3 h4 => ?_, fun j l a h1 h2 h3 => ?_, t.sub, t.new, t.chg, t.dom, t.dm0, t.fix, t.tab, t.tbS⟩
  · by_cases hj : i = j
    · subst hj
      have hl : i < Γ.length := by
        have q := (List.getElem?_eq_some_iff.mp h).1
        simpa using q
      rw [List.getElem?_set_self hl] at h
      cases h
    · rw [List.getElem?_set_ne hj] at h
      exact t.at_ j e h
  · have n1 : i ≠ j := fun z => by
      subst z
      have q := (List.getElem?_eq_some_iff.mp h1).1
      rw [List.getElem?_set_self (by simpa using q)] at h1
      cases h1
    have n2 : i ≠ k := fun z => by
      subst z
      have q := (List.getElem?_eq_some_iff.mp h2).1
      rw [List.getElem?_set_self (by simpa using q)] at h2
      cases h2
    rw [List.getElem?_set_ne n1] at h1
    rw [List.getElem?_set_ne n2] at h2
    exact t.sep j k a l l' h1 h2 h3 h4
  · have n1 : i ≠ j := fun z => by
      subst z
      have q := (List.getElem?_eq_some_iff.mp h1).1
      rw [List.getElem?_set_self (by simpa using q)] at h1
      cases h1
    rw [List.getElem?_set_ne n1] at h1
    exact t.loc j l a h1 h2 h3
/-- a slot is emptied -/
theorem Gd.unset (t : Gd K c S σ H Γ) {i : Nat} (hf : ∀ p ∈ c.fx, p.1 ≠ i) : Gd K c S (σ.set i none) H (Γ.set i none) := by
  have key : ∀ (j : Nat) (e : Ent), (Γ.set i none)[j]? = some (some e) → i ≠ j ∧ Γ[j]? = some (some e) := fun j e h => by
    have n : i ≠ j := fun z => by
      subst z
      have q := (List.getElem?_eq_some_iff.mp h).1
      rw [List.getElem?_set_self (by simpa using q)] at h
      cases h
    rw [List.getElem?_set_ne n] at h
    exact ⟨n, h⟩
  refine ⟨by simpa using t.len, fun j e h => ?_, fun j k a l l' h1 h2 h3 h4 => ?_, fun j l a h1 h2 h3 => ?_, t.sub, t.new, t.chg, t.dom, t.dm0, fun p hp => ?_, t.tab, t.tbS⟩
  · obtain ⟨n, h⟩ := key j e h
    rw [List.getElem?_set_ne n]
    exact t.at_ j e h
  · obtain ⟨n1, h1⟩ := key j _ h1
    obtain ⟨n2, h2⟩ := key k _ h2
    rw [List.getElem?_set_ne n1] at h3
    rw [List.getElem?_set_ne n2] at h4
    exact t.sep j k a l l' h1 h2 h3 h4
  · obtain ⟨n1, h1⟩ := key j _ h1
    rw [List.getElem?_set_ne n1] at h2
    exact t.loc j l a h1 h2 h3
  · rw [List.getElem?_set_ne (fun z => hf p hp z.symm)]
    exact t.fix p hp
def wipeG (Γ : Gm) : List Nat → Gm
  | [] => Γ
  | v :: vs => (wipeG Γ vs).set v none
theorem Gd.wipe (t : Gd K c S σ H Γ) : ∀ vs : List Nat, (∀ v ∈ vs, ∀ p ∈ c.fx, p.1 ≠ v) → Gd K c S (L2.wipe σ vs) H (wipeG Γ vs)
  | [], _ => t
  | v :: vs, hf => (Gd.wipe t vs fun u hu => hf u (List.mem_cons_of_mem _ hu)).unset (hf v List.mem_cons_self)
theorem wipe_at (σ : L2.St) : ∀ (vs : List Nat) (i : Nat), i < σ.length → (L2.wipe σ vs)[i]? = if i ∈ vs then some none else σ[i]?
  | [], i, _ => by simp [L2.wipe]
  | v :: vs, i, h => by
    show ((L2.wipe σ vs).set v none)[i]? = _
    by_cases e : v = i
    · subst e
      rw [List.getElem?_set_self (by rw [L2.wipe_length]; exact h), if_pos List.mem_cons_self]
    · rw [List.getElem?_set_ne e, wipe_at σ vs i h]
      by_cases q : i ∈ vs
      · rw [if_pos q, if_pos (List.mem_cons_of_mem _ q)]
      · rw [if_neg q, if_neg (by simp only [List.mem_cons, not_or]; exact ⟨fun z => e z.symm, q⟩)]
theorem wipe_wipe (σ : L2.St) (vs : List Nat) {j : Nat} (hj : j ∈ vs) (x : Option V) : L2.wipe ((L2.wipe σ vs).set j x) vs = L2.wipe σ vs := by
  apply List.ext_getElem?
  intro i
  by_cases h : i < σ.length
  · rw [wipe_at _ vs i (by simpa [L2.wipe_length] using h), wipe_at σ vs i h]
    by_cases q : i ∈ vs
    · rw [if_pos q, if_pos q]
    · have n : j ≠ i := fun z => q (by rw [← z]; exact hj)
      rw [if_neg q, if_neg q, List.getElem?_set_ne n, wipe_at σ vs i h, if_neg q]
  · rw [List.getElem?_eq_none (by simpa [L2.wipe_length] using h), List.getElem?_eq_none (by simpa [L2.wipe_length] using h)]
/-- what may change, and one more place -/
def more (S : Addr → Prop) (p : Addr) : Addr → Prop := fun a => S a ∨ a = p
theorem rl_more {p : Addr} (h : H p = none) (e : Same H H') : Rl S H (more S p) H' := fun a o n q _ => ⟨e a o q, fun z => z.elim n fun z => by rw [z, h] at q; cases q⟩
/-- a new list is laid: nothing leans on it -/
theorem Gd.plus (t : Gd K c S σ H Γ) {p : Addr} (h : H p = none) (e : Same H H') (hp : H' p ≠ none) : Gd K c (more S p) σ H' Γ where
  len := t.len
  at_ := fun i en q => by
    obtain ⟨v, h1, h2⟩ := t.at_ i en q
    refine ⟨v, h1, ?_⟩
    cases en with
    | im d => exact Den.mono h2 (rl_more h e)
    | ow l =>
      obtain ⟨a, xs, h3, h4, h5, h6⟩ := h2
      exact ⟨a, xs, h3, .inl h4, e _ _ h5, h6.mono (rl_more h e)⟩
  sep := t.sep
  loc := t.loc
  sub := fun a q => .inl (t.sub a q)
  new := fun a q => q.elim (t.new a) fun z => by
    subst z
    right
    cases q2 : c.H0 a with
    | none => exact .inl rfl
    | some o => exact .inr (Classical.byContradiction fun nt => absurd h (t.dm0 a (by rw [q2]; simp) nt))
  chg := fun a o q n nt => e _ _ (t.chg a o q n nt)
  dom := fun a q => q.elim (fun z => Same.some e (t.dom a z)) fun z => by rw [z]; exact hp
  dm0 := fun a q nt => Same.some e (t.dm0 a q nt)
  fix := t.fix
  tab := t.tab.ext e
  tbS := t.tbS
/-- tables of code objects do not lean on lists -/
theorem tabs_upd {T : List (Addr × Str)} {p : Addr} {xs ys : List V} (t : LamX.Tabs T H) (h : H p = some (.lst xs)) : LamX.Tabs T (upd H p (.lst ys)) := fun q hq => by
  obtain ⟨ps, h1, h2, h3⟩ := t q hq
  refine ⟨ps, ?_, h2, fun pos cv hc => ?_⟩
  · rw [upd_ne (fun z => by rw [z, h] at h1; cases h1)]
    exact h1
  · obtain ⟨a, h4, h5⟩ := h3 pos cv hc
    refine ⟨a, h4, ?_⟩
    rw [upd_ne (fun z => by rw [z, h] at h5; unfold LamX.CodeO at h5; cases h5)]
    exact h5
theorem rl_upd {p : Addr} {o : HO} (h : S p) : Rl S H S (upd H p o) := fun a u n q _ => ⟨by rw [upd_ne (fun z => n (by rw [z]; exact h))]; exact q, n⟩
/-- a slot's own list is changed -/
theorem Gd.change (t : Gd K c S σ H Γ) {i : Nat} {a : Addr} {l l' : List D} {xs ys : List V} (hi : Γ[i]? = some (some (.ow l))) (hs : σ[i]? = some (some (.ref a))) (hS : S a) (hH : H a = some (.lst xs)) (hy : DenL K S H ys l') :
    Gd K c S σ (upd H a (.lst ys)) (Γ.set i (some (.ow l'))) := by
  have r : Rl S H S (upd H a (.lst ys)) := rl_upd hS
  have hT : ∀ o, c.H0 a = some o → ¬ c.Tb a → c.T0 a := fun o ho nt => by
    by_cases hm : ∃ p ∈ c.fx, p.1 = i
    · obtain ⟨p, hp, e⟩ := hm
      have q := t.fix p hp
      rw [e, hs] at q
      have q2 : V.ref a = p.2 := by simpa using q
      exact .inl ⟨p, hp, q2.symm⟩
    · have n0 := t.loc i l a hi hs fun p hp e => hm ⟨p, hp, e⟩
      rcases t.new a hS with z | z | z
      · exact absurd z n0
      · rw [ho] at z
        cases z
      · exact absurd z nt
  refine ⟨by simpa using t.len, fun j e h => ?_, fun j k b m m' h1 h2 h3 h4 => ?_, fun j m b h1 h2 h3 => ?_, t.sub, t.new, fun b o h n nt => ?_, fun b h => ?_, fun b h nt => ?_, t.fix, tabs_upd t.tab hH, t.tbS⟩
  · by_cases hj : i = j
    · subst hj
      rw [List.getElem?_set_self (List.getElem?_eq_some_iff.mp hi).1] at h
      cases h
      exact ⟨.ref a, hs, a, ys, rfl, hS, upd_same, hy.mono r⟩
    · rw [List.getElem?_set_ne hj] at h
      obtain ⟨v, h1, h2⟩ := t.at_ j e h
      refine ⟨v, h1, ?_⟩
      cases e with
      | im d => exact Den.mono h2 r
      | ow m =>
        obtain ⟨b, zs, rfl, h3, h4, h5⟩ := h2
        have nb : b ≠ a := fun z => hj (t.sep i j a l m hi h hs (by rw [← z]; exact h1))
        exact ⟨b, zs, rfl, h3, by rw [upd_ne nb]; exact h4, h5.mono r⟩
  · have q : ∀ (k : Nat) (m : List D), (Γ.set i (some (.ow l')))[k]? = some (some (.ow m)) → ∃ m2, Γ[k]? = some (some (.ow m2)) := fun k m hk => by
      by_cases hj : i = k
      · subst hj
        exact ⟨l, hi⟩
      · rw [List.getElem?_set_ne hj] at hk
        exact ⟨m, hk⟩
    obtain ⟨m1, q1⟩ := q j m h1
    obtain ⟨m2, q2⟩ := q k m' h2
    exact t.sep j k b m1 m2 q1 q2 h3 h4
  · by_cases hj : i = j
    · subst hj
      exact t.loc i l b hi h2 h3
    · rw [List.getElem?_set_ne hj] at h1
      exact t.loc j m b h1 h2 h3
  · by_cases hb : b = a
    · exact absurd (hT o (by rw [← hb]; exact h) (by rw [← hb]; exact nt)) (by rw [← hb]; exact n)
    · rw [upd_ne hb]
      exact t.chg b o h n nt
  · by_cases hb : b = a
    · rw [hb, upd_same]; simp
    · rw [upd_ne hb]
      exact t.dom b h
  · by_cases hb : b = a
    · rw [hb, upd_same]; simp
    · rw [upd_ne hb]
      exact t.dm0 b h nt
/-- a slot gets a new list of its own -/
theorem Gd.setOw (t : Gd K c S σ H Γ) {i : Nat} {p : Addr} {l : List D} {xs : List V} (h : H p = none) (e : Same H H') (hp : H' p = some (.lst xs)) (hl : DenL K (more S p) H' xs l) (hf : ∀ q ∈ c.fx, q.1 ≠ i) : Gd K c (more S p) (σ.set i (some (.ref p))) H' (Γ.set i (some (.ow l))) := by
  have g := t.plus h e (by rw [hp]; simp)
  have n0 : ¬ c.S0 p := fun z => t.dom p (t.sub p z) h
  have other : ∀ (j : Nat) (m : List D), Γ[j]? = some (some (.ow m)) → σ[j]? ≠ some (some (.ref p)) := fun j m hj hs => by
    obtain ⟨a, ys, h1, h2, h3, _⟩ := t.ow hj
    rw [hs] at h1
    cases h1
    rw [h] at h3
    cases h3
  refine ⟨by simpa using g.len, fun j en q => ?_, fun j k a m m' h1 h2 h3 h4 => ?_, fun j m a h1 h2 h3 => ?_, g.sub, g.new, g.chg, g.dom, g.dm0, fun q hq => ?_, g.tab, g.tbS⟩
  · by_cases hj : i = j
    · subst hj
      have hl2 : i < Γ.length := by
        have q2 := (List.getElem?_eq_some_iff.mp q).1
        simpa using q2
      rw [List.getElem?_set_self hl2] at q
      cases q
      exact ⟨.ref p, List.getElem?_set_self (by rw [t.len]; exact hl2), p, xs, rfl, .inr rfl, hp, hl⟩
    · rw [List.getElem?_set_ne hj] at q ⊢
      exact g.at_ j en q
  · by_cases hj : i = j
    · by_cases hk : i = k
      · exact hj.symm.trans hk
      · subst hj
        rw [List.getElem?_set_ne hk] at h2 h4
        rw [List.getElem?_set_self (by have q2 := (List.getElem?_eq_some_iff.mp h3).1; simpa using q2)] at h3
        cases h3
        exact absurd h4 (other k m' h2)
    · by_cases hk : i = k
      · subst hk
        rw [List.getElem?_set_ne hj] at h1 h3
        rw [List.getElem?_set_self (by have q2 := (List.getElem?_eq_some_iff.mp h4).1; simpa using q2)] at h4
        cases h4
        exact absurd h3 (other j m h1)
      · rw [List.getElem?_set_ne hj] at h1 h3
        rw [List.getElem?_set_ne hk] at h2 h4
        exact t.sep j k a m m' h1 h2 h3 h4
  · by_cases hj : i = j
    · subst hj
      rw [List.getElem?_set_self (by have q2 := (List.getElem?_eq_some_iff.mp h2).1; simpa using q2)] at h2
      cases h2
      exact n0
    · rw [List.getElem?_set_ne hj] at h1 h2
      exact t.loc j m a h1 h2 h3
  · rw [List.getElem?_set_ne (fun z => hf q hq z.symm)]
    exact t.fix q hq
/-- a slot's own list changes no more -/
theorem Gd.freeze (t : Gd K c S σ H Γ) {i : Nat} {l : List D} (hi : Γ[i]? = some (some (.ow l))) (hf : ∀ q ∈ c.fx, q.1 ≠ i) : ∃ S', Rl S H S' H ∧ Gd K c S' σ H (Γ.set i (some (.im (.lst l)))) := by
  obtain ⟨a, xs, h1, h2, h3, h4⟩ := t.ow hi
  have n0 : ¬ c.S0 a := t.loc i l a hi h1 hf
  have r : Rl S H (fun b => S b ∧ b ≠ a) H := fun b o n q _ => ⟨q, fun z => n z.1⟩
  have hlt := (List.getElem?_eq_some_iff.mp hi).1
  refine ⟨fun b => S b ∧ b ≠ a, r, by simpa using t.len, fun j e h => ?_, fun j k b m m' q1 q2 q3 q4 => ?_, fun j m b q1 q2 q3 => ?_, fun b z => ⟨t.sub b z, fun y => n0 (y ▸ z)⟩, fun b z => t.new b z.1, t.chg, fun b z => t.dom b z.1, t.dm0, t.fix, t.tab, t.tbS⟩
  · by_cases hj : i = j
    · subst hj
      rw [List.getElem?_set_self hlt] at h
      cases h
      exact ⟨.ref a, h1, .lst (.inl h3) (fun z => z.2 rfl) (h4.mono r)⟩
    · rw [List.getElem?_set_ne hj] at h
      obtain ⟨v, q1, q2⟩ := t.at_ j e h
      refine ⟨v, q1, ?_⟩
      cases e with
      | im d => exact Den.mono q2 r
      | ow m =>
        obtain ⟨b, zs, rfl, h5, h6, h7⟩ := q2
        exact ⟨b, zs, rfl, ⟨h5, fun z => hj (t.sep i j a l m hi h h1 (by rw [← z]; exact q1))⟩, h6, h7.mono r⟩
  · have n1 : i ≠ j := fun z => by
      subst z
      rw [List.getElem?_set_self hlt] at q1
      cases q1
    have n2 : i ≠ k := fun z => by
      subst z
      rw [List.getElem?_set_self hlt] at q2
      cases q2
    rw [List.getElem?_set_ne n1] at q1
    rw [List.getElem?_set_ne n2] at q2
    exact t.sep j k b m m' q1 q2 q3 q4
  · have n1 : i ≠ j := fun z => by
      subst z
      rw [List.getElem?_set_self hlt] at q1
      cases q1
    rw [List.getElem?_set_ne n1] at q1
    exact t.loc j m b q1 q2 q3
end
end Spr

set_option Elab.async false
set_option linter.all false
set_option maxRecDepth 100000
set_option maxHeartbeats 4000000
/-! Expressions: what they come to, by what the slots hold. -/
namespace Spr
open PySem PySem.Spec PyProof.Rows L2

theorem PE.wk {X : Cx} {e : Expr} {t t' : TE} (h : PE X e t) (w : ∀ σ H Q, t' σ H Q → t σ H Q) : PE X e t' := ⟨fun pins s σ H Q I q => h.run pins s σ H Q I (w σ H Q q)⟩
theorem PT.wk {X : Cx} {e : Expr} {t t' : TT} (h : PT X e t) (w : ∀ σ H Q, t' σ H Q → t σ H Q) : PT X e t' := ⟨fun pins s σ H Q I q => h.run pins s σ H Q I (w σ H Q q)⟩
theorem PW.wk {X : Cx} {e : Expr} {t t' : TT} (h : PW X e t) (w : ∀ σ H Q, t' σ H Q → t σ H Q) : PW X e t' := ⟨fun wh pins s σ H Q I q => h.run wh pins s σ H Q I (w σ H Q q)⟩
theorem PA.wk {X : Cx} {e : List Expr} {t t' : TA} (h : PA X e t) (w : ∀ σ H Q, t' σ H Q → t σ H Q) : PA X e t' := ⟨fun p pins s σ H Q I q => h.run p pins s σ H Q I (w σ H Q q)⟩

/-- the expression comes to d, all else is as it was -/
def tP (K : PySem.W.Frag) (c : Cn) (Γ : Gm) (d : D) : TE := fun σ H Q => ∃ S, Gd K c S σ H Γ ∧ ∀ v H', Same H H' → Den K S H' v d → Q v H'
def tQ (K : PySem.W.Frag) (c : Cn) (Γ : Gm) (b : Bool) : TT := fun σ H Q => ∃ S, Gd K c S σ H Γ ∧ ∀ H', Same H H' → Q b H'
def tAs (K : PySem.W.Frag) (c : Cn) (Γ : Gm) (ds : List D) : TA := fun σ H Q => ∃ S, Gd K c S σ H Γ ∧ ∀ vs H', Same H H' → DenL K S H' vs ds → Q vs H'
abbrev Pe (X : Cx) (c : Cn) (Γ : Gm) (e : Expr) (d : D) : Prop := PE X e (tP X.K c Γ d)
abbrev Pt (X : Cx) (c : Cn) (Γ : Gm) (e : Expr) (b : Bool) : Prop := PT X e (tQ X.K c Γ b)
abbrev Pw (X : Cx) (c : Cn) (Γ : Gm) (e : Expr) (b : Bool) : Prop := PW X e (tQ X.K c Γ b)
abbrev Pa (X : Cx) (c : Cn) (Γ : Gm) (es : List Expr) (ds : List D) : Prop := PA X es (tAs X.K c Γ ds)

section
variable {X : Cx} {c : Cn} {Γ : Gm} {a b e : Expr} {es : List Expr} {pos : Pos} {da db dc d : D}

/-! ### names, constants -/
theorem p_var (i : Nat) {x : Str} {d : D} {pos : Pos} (h : Γ[i]? = some (some (.im d)) := by rfl) (hN : X.N[i]? = some x := by rfl) (hv : Vis X.env.scope x := by first | exact Or.inl rfl | exact Or.inr (Or.inl rfl) | exact Or.inr (Or.inr rfl)) (hd : (x == ("__debug__" : Str)) = false := by decide)
    (hcd : (x == ("__classdict__" : Str)) = false := by decide) : Pe X c Γ (.Name x pos) d :=
  PE.wk (pe_var hN hv hd hcd) fun σ H Q ⟨S, t, q⟩ => let ⟨v, h1, h2⟩ := t.im h; ⟨v, h1, q v H (Same.refl H) h2⟩
theorem p_int {i : Int} {j pos} : Pe X c Γ (.Constant (.int i) j pos) (.int i) := PE.wk pe_int fun σ H Q ⟨S, t, q⟩ => q _ _ (Same.refl H) (.int i)
theorem p_bl {i : Bool} {j pos} : Pe X c Γ (.Constant (.bool i) j pos) (.bl i) := PE.wk pe_bl fun σ H Q ⟨S, t, q⟩ => q _ _ (Same.refl H) (.bl i)
theorem p_str {i : Str} {j pos} : Pe X c Γ (.Constant (.str i) j pos) (.str i) := PE.wk pe_str fun σ H Q ⟨S, t, q⟩ => q _ _ (Same.refl H) (.str i)
theorem p_non {j pos} : Pe X c Γ (.Constant .none j pos) .non := PE.wk pe_non fun σ H Q ⟨S, t, q⟩ => q _ _ (Same.refl H) .non
theorem p_glob {x : Str} {v : V} {u : Value} {pos : Pos} (hm : X.mg x = some u) (r : RelV v u) (hg : Gl X x := by rfl) (hd : (x == ("__debug__" : Str)) = false := by decide) : Pe X c Γ (.Name x pos) (.raw v) :=
  PE.wk (pe_glob hg hm r hd) fun σ H Q ⟨S, t, q⟩ => q _ _ (Same.refl H) (.raw v)
theorem p_ty {x : Str} {n : String} {pos : Pos} (hm : X.mg x = none) (hv : bootBuiltins x = some (.type n)) (hg : Gl X x := by rfl) (hn : x ≠ "__name__" := by decide) (hd : (x == ("__debug__" : Str)) = false := by decide) : Pe X c Γ (.Name x pos) (.raw (.ty n)) :=
  PE.wk (pe_bltn (v := .ty n) hg hm hv rfl hn hd) fun σ H Q ⟨S, t, q⟩ => q _ _ (Same.refl H) (.raw (.ty n))

/-! ### operators -/
/-- a two-place operator on what is denoted -/
def Bn (X : Cx) (op : Operator) (da db d : D) : Prop :=
  ∃ r : R2, OpR X (binaryOp op) r ∧ ∀ S H v w, (∀ a, S a → H a ≠ none) → Den X.K S H v da → Den X.K S H w db → ∀ Q : VK, (∀ u H', Same H H' → Den X.K S H' u d → Q u H') → r v w H Q
theorem p_bin {op : Operator} (ha : Pe X c Γ a da) (hb : Pe X c Γ b db) (ho : Bn X op da db d) : Pe X c Γ (.BinOp a op b pos) d := by
  obtain ⟨r, h1, h2⟩ := ho
  exact PE.wk (pe_op h1 ha hb) fun σ H Q ⟨S, t, q⟩ => ⟨S, t, fun v H1 e1 d1 => ⟨S, t.ext e1, fun w H2 e2 d2 => h2 S H2 v w (t.ext (e1.trans e2)).dom (d1.ext e2) d2 Q fun u H3 e3 d3 => q u H3 ((e1.trans e2).trans e3) d3⟩⟩
theorem bn_add {i j : Int} : Bn X .Add (.int i) (.int j) (.int (i + j)) := ⟨_, op_add, fun S H v w _ h1 h2 Q q => ⟨i, j, h1.int_, h2.int_, q _ _ (Same.refl H) (.int _)⟩⟩
theorem bn_sub {i j : Int} : Bn X .Sub (.int i) (.int j) (.int (i - j)) := ⟨_, op_sub, fun S H v w _ h1 h2 Q q => ⟨i, j, h1.int_, h2.int_, q _ _ (Same.refl H) (.int _)⟩⟩
theorem bn_mul {i j : Int} (hc : CMulW i j) : Bn X .Mult (.int i) (.int j) (.int (i * j)) := ⟨_, op_mulW, fun S H v w _ h1 h2 Q q => ⟨i, j, h1.int_, h2.int_, hc, q _ _ (Same.refl H) (.int _)⟩⟩
/-- one factor small -/
theorem bn_mul64 {i j : Int} (hc : CMul i j) : Bn X .Mult (.int i) (.int j) (.int (i * j)) := ⟨_, op_mul, fun S H v w _ h1 h2 Q q => ⟨i, j, h1.int_, h2.int_, hc, q _ _ (Same.refl H) (.int _)⟩⟩
theorem bn_fdiv {i j : Int} (hc : CDivW i j) : Bn X .FloorDiv (.int i) (.int j) (.int (i / j)) := ⟨_, op_fdivW, fun S H v w _ h1 h2 Q q => ⟨i, j, h1.int_, h2.int_, hc, q _ _ (Same.refl H) (.int _)⟩⟩
theorem bn_mod {i j : Int} (hc : 0 < j) : Bn X .Mod (.int i) (.int j) (.int (i % j)) := ⟨_, op_mod, fun S H v w _ h1 h2 Q q => ⟨i, j, h1.int_, h2.int_, hc, q _ _ (Same.refl H) (.int _)⟩⟩
theorem bn_pow {i j : Int} (hc : CPow i j) : Bn X .Pow (.int i) (.int j) (.int (i ^ j.toNat)) := ⟨_, op_pow, fun S H v w _ h1 h2 Q q => ⟨i, j, h1.int_, h2.int_, hc, q _ _ (Same.refl H) (.int _)⟩⟩
theorem same_new {H : Hp} {p : Addr} {o : HO} (h : H p = none) : Same H (upd H p o) := fun a u e => by
  rw [upd_ne (ne_of_none e h)]
  exact e
theorem not_S {S : Addr → Prop} {H : Hp} (hd : ∀ a, S a → H a ≠ none) {p : Addr} (h : H p = none) : ¬ S p := fun z => hd p z h
/-- a new list | tuple of things that are known -/
theorem Den.newL {K : PySem.W.Frag} {S : Addr → Prop} {H : Hp} {p : Addr} {xs : List V} {l : List D} (hd : ∀ a, S a → H a ≠ none) (h : H p = none) (hl : DenL K S H xs l) : Den K S (upd H p (.lst xs)) (.ref p) (.lst l) :=
  .lst (.inl upd_same) (not_S hd h) (hl.ext (same_new h))
theorem Den.newT {K : PySem.W.Frag} {S : Addr → Prop} {H : Hp} {p : Addr} {xs : List V} {l : List D} (hd : ∀ a, S a → H a ≠ none) (h : H p = none) (hl : DenL K S H xs l) : Den K S (upd H p (.tup xs)) (.ref p) (.tup l) :=
  .tup (.inl upd_same) (not_S hd h) (hl.ext (same_new h))
/-- the lists that list + list asks for are tracked ones -/
theorem Den.lstT {K : PySem.W.Frag} {S : Addr → Prop} {H : Hp} {v : V} {l : List D} (h : Den K S H v (.lst l)) : (∃ a xs, v = .ref a ∧ Rd H a (.lst xs) ∧ ¬ S a ∧ DenL K S H xs l) ∨ ∃ a xs, v = .ref a ∧ KL K a xs ∧ DenL K S H xs l := by
  cases h with
  | lst r n hl => exact .inl ⟨_, _, rfl, r, n, hl⟩
  | lstK r hl => exact .inr ⟨_, _, rfl, r, hl⟩

theorem p_neg {i : Int} (ha : Pe X c Γ a (.int i)) : Pe X c Γ (.UnaryOp .USub a pos) (.int (-i)) :=
  PE.wk (pe_un un_neg ha) fun σ H Q ⟨S, t, q⟩ => ⟨S, t, fun v H1 e1 d1 => ⟨i, d1.int_, q _ _ e1 (.int _)⟩⟩
theorem p_notV {i : Bool} (ha : Pe X c Γ a (.bl i)) : Pe X c Γ (.UnaryOp .Not a pos) (.bl (!i)) :=
  PE.wk (pe_not ha) fun σ H Q ⟨S, t, q⟩ => ⟨S, t, fun v H1 e1 d1 => ⟨i, d1.bl_, q _ _ e1 (.bl _)⟩⟩

/-! ### comparisons -/
def Cm (X : Cx) (op : CmpOp) (da db : D) (k : Bool) : Prop :=
  ∃ r : R2, OpR X (compareOp op) r ∧ ∀ S H v w, Den X.K S H v da → Den X.K S H w db → ∀ Q : VK, Q (.bl k) H → r v w H Q
theorem c_lt {i j : Int} : Cm X .Lt (.int i) (.int j) (decide (i < j)) := ⟨_, op_lt, fun S H v w h1 h2 Q q => ⟨i, j, h1.int_, h2.int_, q⟩⟩
theorem c_le {i j : Int} : Cm X .LtE (.int i) (.int j) (decide (i ≤ j)) := ⟨_, op_le, fun S H v w h1 h2 Q q => ⟨i, j, h1.int_, h2.int_, q⟩⟩
theorem c_gt {i j : Int} : Cm X .Gt (.int i) (.int j) (decide (j < i)) := ⟨_, op_gt, fun S H v w h1 h2 Q q => ⟨i, j, h1.int_, h2.int_, q⟩⟩
theorem c_ge {i j : Int} : Cm X .GtE (.int i) (.int j) (decide (j ≤ i)) := ⟨_, op_ge, fun S H v w h1 h2 Q q => ⟨i, j, h1.int_, h2.int_, q⟩⟩
theorem c_eqI {i j : Int} : Cm X .Eq (.int i) (.int j) (decide (i = j)) := ⟨_, op_eq, fun S H v w h1 h2 Q q => by
  rw [h1.int_, h2.int_]
  exact ⟨rfl, by rw [dec_int]; rw [Bool.beq_eq_decide_eq]; exact q⟩⟩
theorem c_neI {i j : Int} : Cm X .NotEq (.int i) (.int j) (!decide (i = j)) := ⟨_, op_ne, fun S H v w h1 h2 Q q => by
  rw [h1.int_, h2.int_]
  exact ⟨rfl, by rw [dec_int]; rw [Bool.beq_eq_decide_eq]; exact q⟩⟩
/-- of two things None, flags, ints, texts; by their kinds -/
def isN : D → Bool
  | .non => true
  | _ => false
theorem Den.non_iff {K : PySem.W.Frag} {S : Addr → Prop} {H : Hp} {v : V} {d : D} (h : Den K S H v d) (hr : ∀ u, d ≠ .raw u) : decide (v = .non) = isN d := by
  cases h <;> first | rfl | exact absurd rfl (hr _) | simp [isN]
theorem c_is {d : D} (hr : ∀ u, d ≠ .raw u := by intro _ z; cases z) : Cm X .Is d .non (isN d) := ⟨_, op_isN, fun S H v w h1 h2 Q q => ⟨h2.non_, by rw [h1.non_iff hr]; exact q⟩⟩
theorem c_isnot {d : D} (hr : ∀ u, d ≠ .raw u := by intro _ z; cases z) : Cm X .IsNot d .non (!isN d) := ⟨_, op_notN, fun S H v w h1 h2 Q q => ⟨h2.non_, by rw [h1.non_iff hr]; exact q⟩⟩

/-! data as the library's == sees it -/
mutual
def toPy : D → PyData
  | .non => .none
  | .bl b => .bool b
  | .int i => .int i
  | .str s => .str s
  | .tup l => .tuple (toPyL l)
  | .lst l => .list (toPyL l)
  | .raw _ => .none
  | .obj _ _ => .none
  | .tl _ => .none
def toPyL : List D → List PyData
  | [] => []
  | d :: ds => toPy d :: toPyL ds
end
mutual
def pyOk : D → Bool
  | .raw _ => false
  | .tl _ => false
  | .obj _ _ => false
  | .tup l => pyOkL l
  | .lst l => pyOkL l
  | _ => true
def pyOkL : List D → Bool
  | [] => true
  | d :: ds => pyOk d && pyOkL ds
end
section
variable {K : PySem.W.Frag} {S : Addr → Prop} {H : Hp}
mutual
theorem Den.dp : ∀ (d : D) (v : V), pyOk d = true → Den K S H v d → Dp K H v (toPy d)
  | .non, _, _, .non => .non
  | .bl b, _, _, .bl _ => .bl b
  | .int i, _, _, .int _ => .int i
  | .str s, _, _, .str _ => .str s
  | .raw v, _, h, _ => by cases h
  | .tup l, _, h, .tup r n hl => .tup (.inl r) (DenL.dp l _ h hl)
  | .tup l, _, h, .tupK r hl => .tup (.inr r) (DenL.dp l _ h hl)
  | .lst l, _, h, .lst r n hl => .lst (.inl r) (DenL.dp l _ h hl)
  | .lst l, _, h, .lstK r hl => .lst (.inr r) (DenL.dp l _ h hl)
  | .obj C gs, _, h, _ => by cases h
  | .tl l, _, h, _ => by cases h
theorem DenL.dp : ∀ (l : List D) (xs : List V), pyOkL l = true → DenL K S H xs l → DpAll K H xs (toPyL l)
  | [], _, _, .nil => .nil
  | d :: ds, _, h, .cons q t => by
    have h2 : (pyOk d && pyOkL ds) = true := h
    obtain ⟨h3, h4⟩ := Bool.and_eq_true_iff.mp h2
    exact .cons (Den.dp d _ h3 q) (DenL.dp ds _ h4 t)
end
end
/-- == on things -/
def deq (a b : D) : Bool := PyData.eqv (toPy a) (toPy b)
/-- what == takes -/
def eqOk (d : D) : Bool := pyOk d && SeqAt.shaped (toPy d)
theorem c_eq (hu : X.A.units + 64 < cLine) (h1 : eqOk da = true) (h2 : eqOk db = true) : Cm X .Eq da db (deq da db) := ⟨_, op_eqD hu, fun S H v w d1 d2 Q q => by
  obtain ⟨p1, p2⟩ := Bool.and_eq_true_iff.mp h1
  obtain ⟨p3, p4⟩ := Bool.and_eq_true_iff.mp h2
  exact ⟨_, _, Den.dp _ _ p1 d1, Den.dp _ _ p3 d2, p2, p4, q⟩⟩
theorem c_ne (hu : X.A.units + 64 < cLine) (h1 : eqOk da = true) (h2 : eqOk db = true) : Cm X .NotEq da db (!deq da db) := ⟨_, op_neD hu, fun S H v w d1 d2 Q q => by
  obtain ⟨p1, p2⟩ := Bool.and_eq_true_iff.mp h1
  obtain ⟨p3, p4⟩ := Bool.and_eq_true_iff.mp h2
  exact ⟨_, _, Den.dp _ _ p1 d1, Den.dp _ _ p3 d2, p2, p4, q⟩⟩

theorem p_cmp {op : CmpOp} {k : Bool} (ha : Pe X c Γ a da) (hb : Pe X c Γ b db) (h : Cm X op da db k) (hm : behindInMarks op b = false := by first | exact nomark _ | rfl) : Pe X c Γ (.Compare a [op] [b] pos) (.bl k) := by
  obtain ⟨r, h1, h2⟩ := h
  exact PE.wk (pe_cmpR h1 ha hb hm) fun σ H Q ⟨S, t, q⟩ => ⟨S, t, fun v H1 e1 d1 => ⟨S, t.ext e1, fun w H2 e2 d2 => h2 S H2 v w (d1.ext e2) d2 Q (q _ H2 (e1.trans e2) (.bl k))⟩⟩
theorem t_cmp {op : CmpOp} {k : Bool} (ha : Pe X c Γ a da) (hb : Pe X c Γ b db) (h : Cm X op da db k) (hm : behindInMarks op b = false := by first | exact nomark _ | rfl) : Pt X c Γ (.Compare a [op] [b] pos) k := by
  obtain ⟨r, h1, h2⟩ := h
  exact PT.wk (pt_cmpR h1 ha hb hm) fun σ H Q ⟨S, t, q⟩ => ⟨S, t, fun v H1 e1 d1 => ⟨S, t.ext e1, fun w H2 e2 d2 => h2 S H2 v w (d1.ext e2) d2 _ ⟨k, rfl, q H2 (e1.trans e2)⟩⟩⟩
theorem p_chain {op op' : CmpOp} {e : Expr} {k k' : Bool} (ha : Pe X c Γ a da) (hb : Pe X c Γ b db) (hc : k = true → Pe X c Γ e dc) (h : Cm X op da db k) (h' : k = true → Cm X op' db dc k') (hm : lastMarks [op, op'] [b, e] = false := by with_unfolding_all rfl) :
    Pe X c Γ (.Compare a [op, op'] [b, e] pos) (.bl (k && k')) := by
  obtain ⟨r, h1, h2⟩ := h
  cases k with
  | true =>
    obtain ⟨r', h3, h4⟩ := h' rfl
    exact PE.wk (pe_chain h1 h3 ha hb (hc rfl) hm) fun σ H Q ⟨S, t, q⟩ => ⟨S, t, fun v H1 e1 d1 => ⟨S, t.ext e1, fun w H2 e2 d2 => h2 S H2 v w (d1.ext e2) d2 _ ⟨true, rfl, by
      refine iteT ?_
      exact ⟨S, t.ext (e1.trans e2), fun u H3 e3 d3 => h4 S H3 w u (d2.ext e3) d3 Q (q _ H3 ((e1.trans e2).trans e3) (.bl _))⟩⟩⟩⟩
  | false =>
    have hN : PE X e (fun _ _ _ => False) := ⟨fun _ _ _ _ _ _ z => z.elim⟩
    have hO : OpR X (compareOp op') (fun _ _ _ _ => False) := fun _ _ _ _ _ _ _ _ _ _ _ _ z => z.elim
    exact PE.wk (pe_chain h1 hO ha hb hN hm) fun σ H Q ⟨S, t, q⟩ => ⟨S, t, fun v H1 e1 d1 => ⟨S, t.ext e1, fun w H2 e2 d2 => h2 S H2 v w (d1.ext e2) d2 _ ⟨false, rfl, by
      refine iteF ?_
      exact q _ H2 (e1.trans e2) (.bl _)⟩⟩⟩
theorem t_chain {op op' : CmpOp} {e : Expr} {k k' : Bool} (ha : Pe X c Γ a da) (hb : Pe X c Γ b db) (hc : k = true → Pe X c Γ e dc) (h : Cm X op da db k) (h' : k = true → Cm X op' db dc k') (hm : lastMarks [op, op'] [b, e] = false := by with_unfolding_all rfl) :
    Pt X c Γ (.Compare a [op, op'] [b, e] pos) (k && k') := by
  obtain ⟨r, h1, h2⟩ := h
  cases k with
  | true =>
    obtain ⟨r', h3, h4⟩ := h' rfl
    exact PT.wk (pt_chain h1 h3 ha hb (hc rfl) hm) fun σ H Q ⟨S, t, q⟩ => ⟨S, t, fun v H1 e1 d1 => ⟨S, t.ext e1, fun w H2 e2 d2 => h2 S H2 v w (d1.ext e2) d2 _ ⟨true, rfl, by
      refine iteT ?_
      exact ⟨S, t.ext (e1.trans e2), fun u H3 e3 d3 => h4 S H3 w u (d2.ext e3) d3 _ ⟨_, rfl, q H3 ((e1.trans e2).trans e3)⟩⟩⟩⟩⟩
  | false =>
    have hN : PE X e (fun _ _ _ => False) := ⟨fun _ _ _ _ _ _ z => z.elim⟩
    have hO : OpR X (compareOp op') (fun _ _ _ _ => False) := fun _ _ _ _ _ _ _ _ _ _ _ _ z => z.elim
    exact PT.wk (pt_chain h1 hO ha hb hN hm) fun σ H Q ⟨S, t, q⟩ => ⟨S, t, fun v H1 e1 d1 => ⟨S, t.ext e1, fun w H2 e2 d2 => h2 S H2 v w (d1.ext e2) d2 _ ⟨false, rfl, by
      refine iteF ?_
      exact ⟨_, rfl, q H2 (e1.trans e2)⟩⟩⟩⟩

/-! ### tests -/
theorem t_val {k : Bool} (h : Pe X c Γ e (.bl k)) (he : ∀ whole, isTrue e X.env whole = (do let v ← whole; standAt e.pos; holding [v] (truthy v)) := by intro _; rfl) : Pt X c Γ e k :=
  PT.wk (pt_val h he) fun σ H Q ⟨S, t, q⟩ => ⟨S, t, fun v H1 e1 d1 => ⟨k, d1.bl_, q H1 e1⟩⟩
theorem t_not {k : Bool} (h : Pt X c Γ a k) : Pt X c Γ (.UnaryOp .Not a pos) (!k) :=
  PT.wk (pt_not h) fun σ H Q ⟨S, t, q⟩ => ⟨S, t, fun H1 e1 => q H1 e1⟩
theorem t_pw {k : Bool} (h : Pw X c Γ e k) : Pt X c Γ e k := PW.pt h
theorem w_and1 {k : Bool} (h : Pt X c Γ a k) : Pw X c Γ (.BoolOp .And [a] pos) k := pw_and1 h
theorem w_or1 {k : Bool} (h : Pt X c Γ a k) : Pw X c Γ (.BoolOp .Or [a] pos) k := pw_or1 h
theorem w_and {k k' : Bool} (h : Pt X c Γ a k) (h' : k = true → Pw X c Γ (.BoolOp .And (b :: es) pos) k') : Pw X c Γ (.BoolOp .And (a :: b :: es) pos) (k && k') := by
  cases k with
  | true => exact PW.wk (pw_and h (h' rfl)) fun σ H Q ⟨S, t, q⟩ => ⟨S, t, fun H1 e1 => by
      refine iteT ?_
      exact ⟨S, t.ext e1, fun H2 e2 => q H2 (e1.trans e2)⟩⟩
  | false =>
    have hN : PW X (.BoolOp .And (b :: es) pos) (fun _ _ _ => False) := ⟨fun _ _ _ _ _ _ _ z => z.elim⟩
    exact PW.wk (pw_and h hN) fun σ H Q ⟨S, t, q⟩ => ⟨S, t, fun H1 e1 => by
      refine iteF ?_
      exact q H1 e1⟩
theorem w_or {k k' : Bool} (h : Pt X c Γ a k) (h' : k = false → Pw X c Γ (.BoolOp .Or (b :: es) pos) k') : Pw X c Γ (.BoolOp .Or (a :: b :: es) pos) (k || k') := by
  cases k with
  | false => exact PW.wk (pw_or h (h' rfl)) fun σ H Q ⟨S, t, q⟩ => ⟨S, t, fun H1 e1 => by
      refine iteF ?_
      exact ⟨S, t.ext e1, fun H2 e2 => q H2 (e1.trans e2)⟩⟩
  | true =>
    have hN : PW X (.BoolOp .Or (b :: es) pos) (fun _ _ _ => False) := ⟨fun _ _ _ _ _ _ _ z => z.elim⟩
    exact PW.wk (pw_or h hN) fun σ H Q ⟨S, t, q⟩ => ⟨S, t, fun H1 e1 => by
      refine iteT ?_
      exact q H1 e1⟩
theorem t_is {k k' : Bool} (h : Pt X c Γ e k) (q : k = k') : Pt X c Γ e k' := q ▸ h
theorem p_is {d' : D} (h : Pe X c Γ e d) (q : d = d') : Pe X c Γ e d' := q ▸ h
/-! .. as values, flags -/
theorem p_one {op} (h : Pe X c Γ a d) : Pe X c Γ (.BoolOp op [a] pos) d := pe_one h
theorem p_and {k k' : Bool} (h : Pe X c Γ a (.bl k)) (h' : k = true → Pe X c Γ (.BoolOp .And (b :: es) pos) (.bl k')) : Pe X c Γ (.BoolOp .And (a :: b :: es) pos) (.bl (k && k')) := by
  cases k with
  | true => exact PE.wk (pe_and h (h' rfl)) fun σ H Q ⟨S, t, q⟩ => ⟨S, t, fun v H1 e1 d1 => ⟨true, d1.bl_, by
      refine iteT ?_
      exact ⟨S, t.ext e1, fun w H2 e2 d2 => q w H2 (e1.trans e2) d2⟩⟩⟩
  | false =>
    have hN : PE X (.BoolOp .And (b :: es) pos) (fun _ _ _ => False) := ⟨fun _ _ _ _ _ _ z => z.elim⟩
    exact PE.wk (pe_and h hN) fun σ H Q ⟨S, t, q⟩ => ⟨S, t, fun v H1 e1 d1 => ⟨false, d1.bl_, by
      refine iteF ?_
      exact q _ H1 e1 (.bl _)⟩⟩
theorem p_or {k k' : Bool} (h : Pe X c Γ a (.bl k)) (h' : k = false → Pe X c Γ (.BoolOp .Or (b :: es) pos) (.bl k')) : Pe X c Γ (.BoolOp .Or (a :: b :: es) pos) (.bl (k || k')) := by
  cases k with
  | false => exact PE.wk (pe_or h (h' rfl)) fun σ H Q ⟨S, t, q⟩ => ⟨S, t, fun v H1 e1 d1 => ⟨false, d1.bl_, by
      refine iteF ?_
      exact ⟨S, t.ext e1, fun w H2 e2 d2 => q w H2 (e1.trans e2) d2⟩⟩⟩
  | true =>
    have hN : PE X (.BoolOp .Or (b :: es) pos) (fun _ _ _ => False) := ⟨fun _ _ _ _ _ _ z => z.elim⟩
    exact PE.wk (pe_or h hN) fun σ H Q ⟨S, t, q⟩ => ⟨S, t, fun v H1 e1 d1 => ⟨true, d1.bl_, by
      refine iteT ?_
      exact q _ H1 e1 (.bl _)⟩⟩
theorem p_if {k : Bool} {c' : Expr} (h : Pt X c Γ c' k) (h1 : k = true → Pe X c Γ a d) (h2 : k = false → Pe X c Γ b d) : Pe X c Γ (.IfExp c' a b pos) d := by
  cases k with
  | true =>
    have hN : PE X b (fun _ _ _ => False) := ⟨fun _ _ _ _ _ _ z => z.elim⟩
    exact PE.wk (pe_ifExp h (h1 rfl) hN) fun σ H Q ⟨S, t, q⟩ => ⟨S, t, fun H1 e1 => by
      refine iteT ?_
      exact ⟨S, t.ext e1, fun w H2 e2 d2 => q w H2 (e1.trans e2) d2⟩⟩
  | false =>
    have hN : PE X a (fun _ _ _ => False) := ⟨fun _ _ _ _ _ _ z => z.elim⟩
    exact PE.wk (pe_ifExp h hN (h2 rfl)) fun σ H Q ⟨S, t, q⟩ => ⟨S, t, fun H1 e1 => by
      refine iteF ?_
      exact ⟨S, t.ext e1, fun w H2 e2 d2 => q w H2 (e1.trans e2) d2⟩⟩

/-! ### arguments, displays -/
theorem a_nil : Pa X c Γ [] [] := PA.wk pa_nil fun σ H Q ⟨S, t, q⟩ => q [] H (Same.refl H) .nil
theorem a_cons {ds : List D} (h : Pe X c Γ e d) (hr : Pa X c Γ es ds) (hs : starEach (e :: es) X.env = (false, eval e X.env) :: starEach es X.env := by rfl) : Pa X c Γ (e :: es) (d :: ds) :=
  PA.wk (pa_cons h hr hs) fun σ H Q ⟨S, t, q⟩ => ⟨S, t, fun v H1 e1 d1 => ⟨S, t.ext e1, fun vs H2 e2 d2 => q _ H2 (e1.trans e2) (.cons (d1.ext e2) d2)⟩⟩
theorem small_line {n : Nat} (h : n ≤ 16000000) : n ≤ sizeLine := Nat.le_trans h (by decide)
theorem p_tup {x1} {ds : List D} (h : Pa X c Γ es ds) (hl : ds.length ≤ 16000000 := by simp) : Pe X c Γ (.Tuple es x1 pos) (.tup ds) :=
  PE.wk (pe_tup h) fun σ H Q ⟨S, t, q⟩ => ⟨S, t, fun vs H1 e1 d1 => ⟨by rw [d1.length]; exact small_line hl, fun p hp => q _ _ (e1.trans (same_new hp)) (Den.newT (t.ext e1).dom hp d1)⟩⟩
theorem p_lst {ds : List D} (h : Pa X c Γ es ds) (hl : ds.length ≤ 16000000 := by simp) : Pe X c Γ (.List es pos) (.lst ds) :=
  PE.wk (pe_lst h) fun σ H Q ⟨S, t, q⟩ => ⟨S, t, fun vs H1 e1 d1 => ⟨by rw [d1.length]; exact small_line hl, fun p hp => q _ _ (e1.trans (same_new hp)) (Den.newL (t.ext e1).dom hp d1)⟩⟩

/-! ### items, slices -/
theorem atI_of {α β : Type} {xs : List α} {l : List β} (hl : xs.length = l.length) {i : Int} {d : β} (h : atI l i = some d) : ∃ j, ixN xs.length i = some j ∧ l[j]? = some d := by
  unfold atI at h
  rw [hl]
  cases e : ixN l.length i with
  | none => rw [e] at h; cases h
  | some j => rw [e] at h; exact ⟨j, rfl, h⟩
theorem DenL.atI {K : PySem.W.Frag} {S : Addr → Prop} {H : Hp} {xs : List V} {l : List D} {i : Int} {d : D} (h : DenL K S H xs l) (q : L2.atI l i = some d) : ∃ x, L2.atI xs i = some x ∧ Den K S H x d := by
  obtain ⟨j, h1, h2⟩ := atI_of h.length q
  obtain ⟨x, h3, h4⟩ := h.at_ h2
  refine ⟨x, ?_, h4⟩
  show (ixN xs.length i).bind (fun j => xs[j]?) = some x
  rw [h1]
  exact h3
theorem p_ixT {l : List D} {i : Int} (ha : Pe X c Γ a (.tup l)) (hb : Pe X c Γ b (.int i)) (h : L2.atI l i = some d) (hs : PlainIx b := by exact fun _ _ => rfl) : Pe X c Γ (.Subscript a b pos) d :=
  PE.wk (pe_ix ix_tup ha hb hs) fun σ H Q ⟨S, t, q⟩ => ⟨S, t, fun v H1 e1 d1 => ⟨S, t.ext e1, fun w H2 e2 d2 => by
    obtain ⟨p, xs, rfl, h1, h2⟩ := (d1.ext e2).tup_
    obtain ⟨x, h3, h4⟩ := h2.atI h
    exact ⟨p, xs, i, x, rfl, d2.int_, h1, h3, q x H2 (e1.trans e2) h4⟩⟩⟩
theorem p_ixL {l : List D} {i : Int} (ha : Pe X c Γ a (.lst l)) (hb : Pe X c Γ b (.int i)) (h : L2.atI l i = some d) (hs : PlainIx b := by exact fun _ _ => rfl) : Pe X c Γ (.Subscript a b pos) d :=
  PE.wk (pe_ix ix_list ha hb hs) fun σ H Q ⟨S, t, q⟩ => ⟨S, t, fun v H1 e1 d1 => ⟨S, t.ext e1, fun w H2 e2 d2 => by
    obtain ⟨p, xs, rfl, h1, h2⟩ := (d1.ext e2).lst_
    obtain ⟨x, h3, h4⟩ := h2.atI h
    exact ⟨p, xs, i, x, rfl, d2.int_, h1, h3, q x H2 (e1.trans e2) h4⟩⟩⟩
/-- an item of a list of one's own -/
theorem p_ixO (k : Nat) {l : List D} {i : Int} {x : Str} {p1 : Pos} (hk : Γ[k]? = some (some (.ow l))) (hb : Pe X c Γ b (.int i)) (h : L2.atI l i = some d) (hN : X.N[k]? = some x := by rfl) (hv : Vis X.env.scope x := by first | exact Or.inl rfl | exact Or.inr (Or.inl rfl) | exact Or.inr (Or.inr rfl))
    (hd : (x == ("__debug__" : Str)) = false := by decide) (hcd : (x == ("__classdict__" : Str)) = false := by decide) (hs : PlainIx b := by exact fun _ _ => rfl) : Pe X c Γ (.Subscript (.Name x p1) b pos) d :=
  PE.wk (pe_ix ix_list (pe_var hN hv hd hcd) hb hs) fun σ H Q ⟨S, t, q⟩ => by
    obtain ⟨p, xs, h1, h2, h3, h4⟩ := t.ow hk
    refine ⟨_, h1, S, t, fun w H2 e2 d2 => ?_⟩
    obtain ⟨y, h5, h6⟩ := h4.atI h
    exact ⟨p, xs, i, y, rfl, d2.int_, SqL.of (e2 _ _ h3), h5, q y H2 e2 (h6.ext e2)⟩
end
end Spr

set_option Elab.async false
set_option linter.all false
set_option maxRecDepth 100000
set_option maxHeartbeats 4000000
/-! Calls of defs that change nothing, of built-ins. -/
namespace Spr
open PySem PySem.Spec PyProof.Rows L2

/-- an error: its class, its fields -/
structure Er where
  C : Addr
  fs : List (Str × V)
def ErrAt (e : Er) (cls : Value) (dx : Option Addr) (H : Hp) : Prop := cls = .ref e.C ∧ ((e.fs = [] ∧ dx = none) ∨ (e.fs ≠ [] ∧ ∃ d, dx = some d ∧ H d = some (.xd e.fs)))
/-- a def that changes nothing: from what its arguments denote to what it gives, or raises -/
abbrev Fs := List D → Except Er D → Prop
def upP (K : PySem.W.Frag) (F : Fs) : Sp := fun vs H Q E => ∃ (S : Addr → Prop) (ds : List D) (r : Except Er D), (∀ a, S a → H a ≠ none) ∧ DenL K S H vs ds ∧ F ds r ∧
  (∀ d, r = .ok d → ∀ v H', Same H H' → Den K S H' v d → Q v H') ∧ (∀ e, r = .error e → ∀ cls dx H', Same H H' → ErrAt e cls dx H' → E cls dx H')
/-- a def of the module by its name -/
structure Fo (P : Program) (w : World) (K : PySem.W.Frag) (mg : Str → Option Value) (base : Heap) (k : Nat) (x : Str) (sp : Sp) : Prop where
  ex : ∃ (f : Addr) (fd : FuncData) (ps : List Str), FnOk P w K mg base (L2.CX P w) k f fd ps sp ∧ mg x = some (.ref f) ∧ PySem.W.keepIn K (.ref f) = true ∧ Binds K fd ps []
abbrev FoP (P : Program) (w : World) (K : PySem.W.Frag) (mg : Str → Option Value) (base : Heap) (k : Nat) (x : Str) (F : Fs) : Prop := Fo P w K mg base k x (upP K F)
abbrev FoX (X : Cx) (k : Nat) (x : Str) (F : Fs) : Prop := FoP X.prog X.w X.K X.mg X.base k x F

section
variable {X : Cx} {c : Cn} {Γ : Gm} {a b e : Expr} {es : List Expr} {pos p : Pos} {da db dc d : D} {j k : Nat} {x : Str}
theorem p_call {F : Fs} {ds : List D} (G : FoX X k x F) (hr : Room j X.A) (ha : Pa X c Γ (e :: es) ds) (hF : F ds (.ok d)) (hk : k ≤ j := by decide) (hg : Gl X x := by rfl)
    (hdb : (x == ("__debug__" : Str)) = false := by decide) (he : starEach (e :: es) X.env = (false, eval e X.env) :: starEach es X.env := by rfl) (hpl : (backTo pos (starEach es X.env)).any (·.1) = false := by rfl) :
    Pe X c Γ (.Call (.Name x p) (e :: es) [] pos) d := by
  obtain ⟨f, fd, ps, h1, h2, h3, h4⟩ := G.ex
  exact PE.wk (pe_call h1 (hr.mono hk) hg h2 h3 h4 .nil passL ha hdb he hpl) fun σ H Q ⟨S, t, q⟩ => ⟨S, t, fun vs H1 e1 d1 => by
    show upP X.K F (vs ++ []) H1 Q E0
    rw [List.append_nil]
    exact ⟨S, ds, .ok d, (t.ext e1).dom, d1, hF, fun d' hd v H2 e2 d2 => by cases hd; exact q v H2 (e1.trans e2) d2, fun _ hd => by cases hd⟩⟩
theorem p_call0 {F : Fs} (G : FoX X k x F) (hr : Room j X.A) (hF : F [] (.ok d)) (hk : k ≤ j := by decide) (hg : Gl X x := by rfl) (hdb : (x == ("__debug__" : Str)) = false := by decide) :
    Pe X c Γ (.Call (.Name x p) [] [] pos) d := by
  obtain ⟨f, fd, ps, h1, h2, h3, h4⟩ := G.ex
  exact PE.wk (pe_call0 h1 (hr.mono hk) hg h2 h3 h4 .nil passL hdb) fun σ H Q ⟨S, t, q⟩ =>
    ⟨S, [], .ok d, t.dom, .nil, hF, fun d' hd v H2 e2 d2 => by cases hd; exact q v H2 e2 d2, fun _ hd => by cases hd⟩

/-! ### built-ins by their names -/
/-- a call of a built-in on what its arguments denote -/
def Cb (X : Cx) (f : Value) (ds : List D) (d : D) : Prop :=
  ∃ r : List V → Hp → VK → Prop, CallR X f r ∧ ∀ S H vs, (∀ a, S a → H a ≠ none) → DenL X.K S H vs ds → ∀ Q : VK, (∀ u H', Same H H' → Den X.K S H' u d → Q u H') → r vs H Q
theorem p_blt {id : String} {ds : List D} (h : Cb X (.builtin id) ds d) (ha : Pa X c Γ (e :: es) ds) (hm : X.mg x = none) (hv : bootBuiltins x = some (.builtin id)) (hg : Gl X x := by rfl) (hn : x ≠ "__name__" := by decide) (hdb : (x == ("__debug__" : Str)) = false := by decide)
    (he : starEach (e :: es) X.env = (false, eval e X.env) :: starEach es X.env := by rfl) (hpl : (backTo pos (starEach es X.env)).any (·.1) = false := by rfl) : Pe X c Γ (.Call (.Name x p) (e :: es) [] pos) d := by
  obtain ⟨r, h1, h2⟩ := h
  exact PE.wk (pe_callB h1 hg hm hv ha hn hdb he hpl) fun σ H Q ⟨S, t, q⟩ => ⟨S, t, fun vs H1 e1 d1 => h2 S H1 vs (t.ext e1).dom d1 Q fun u H2 e2 d2 => q u H2 (e1.trans e2) d2⟩
theorem p_bty {T : String} {ds : List D} (h : Cb X (.type T) ds d) (ha : Pa X c Γ (e :: es) ds) (hm : X.mg x = none) (hv : bootBuiltins x = some (.type T)) (hg : Gl X x := by rfl) (hn : x ≠ "__name__" := by decide) (hdb : (x == ("__debug__" : Str)) = false := by decide)
    (he : starEach (e :: es) X.env = (false, eval e X.env) :: starEach es X.env := by rfl) (hpl : (backTo pos (starEach es X.env)).any (·.1) = false := by rfl) : Pe X c Γ (.Call (.Name x p) (e :: es) [] pos) d := by
  obtain ⟨r, h1, h2⟩ := h
  exact PE.wk (pe_callTy h1 hg hm hv ha hn hdb he hpl) fun σ H Q ⟨S, t, q⟩ => ⟨S, t, fun vs H1 e1 d1 => h2 S H1 vs (t.ext e1).dom d1 Q fun u H2 e2 d2 => q u H2 (e1.trans e2) d2⟩
section
variable {K : PySem.W.Frag} {S : Addr → Prop} {H : Hp}
theorem DenL.one {vs : List V} (h : DenL K S H vs [d]) : ∃ v, vs = [v] ∧ Den K S H v d := by
  cases h with
  | cons h t => cases t; exact ⟨_, rfl, h⟩
theorem DenL.two {vs : List V} (h : DenL K S H vs [da, db]) : ∃ v w, vs = [v, w] ∧ Den K S H v da ∧ Den K S H w db := by
  cases h with
  | cons h t =>
    cases t with
    | cons h2 t => cases t; exact ⟨_, _, rfl, h, h2⟩
theorem DenL.three {vs : List V} (h : DenL K S H vs [da, db, dc]) : ∃ v w u, vs = [v, w, u] ∧ Den K S H v da ∧ Den K S H w db ∧ Den K S H u dc := by
  cases h with
  | cons h t =>
    obtain ⟨v, w, rfl, h1, h2⟩ := t.two
    exact ⟨_, _, _, rfl, h, h1, h2⟩
end
theorem cb_abs {i : Int} : Cb X (.builtin "abs") [.int i] (.int (i.natAbs : Int)) := ⟨_, call_abs, fun S H vs _ h Q q => by
  obtain ⟨v, rfl, h1⟩ := h.one
  refine ⟨i, by rw [h1.int_], ?_⟩
  have e : (if i < 0 then -i else i) = (i.natAbs : Int) := by split <;> omega
  rw [e]
  exact q _ H (Same.refl H) (.int _)⟩
theorem cb_int {i : Int} : Cb X (.type "int") [.int i] (.int i) := ⟨_, call_int1, fun S H vs _ h Q q => by
  obtain ⟨v, rfl, h1⟩ := h.one
  exact .inl ⟨i, by rw [h1.int_], q _ H (Same.refl H) (.int _)⟩⟩
theorem cb_intb {k : Bool} : Cb X (.type "int") [.bl k] (.int (if k then 1 else 0)) := ⟨_, call_int1, fun S H vs _ h Q q => by
  obtain ⟨v, rfl, h1⟩ := h.one
  exact .inr ⟨k, by rw [h1.bl_], q _ H (Same.refl H) (.int _)⟩⟩
theorem cb_len {l : List D} : Cb X (.builtin "len") [.lst l] (.int l.length) := ⟨_, call_len_seq, fun S H vs _ h Q q => by
  obtain ⟨v, rfl, h1⟩ := h.one
  obtain ⟨a, xs, rfl, h2, h3⟩ := h1.lst_
  exact ⟨a, xs, rfl, .inl h2, q _ H (Same.refl H) (by rw [h3.length]; exact .int _)⟩⟩
theorem cb_lenT {l : List D} : Cb X (.builtin "len") [.tup l] (.int l.length) := ⟨_, call_len_seq, fun S H vs _ h Q q => by
  obtain ⟨v, rfl, h1⟩ := h.one
  obtain ⟨a, xs, rfl, h2, h3⟩ := h1.tup_
  exact ⟨a, xs, rfl, .inr h2, q _ H (Same.refl H) (by rw [h3.length]; exact .int _)⟩⟩
theorem cb_lenS {s : Str} (hs : s.length ≤ 16000000 := by decide) : Cb X (.builtin "len") [.str s] (.int s.length) := ⟨_, call_len_str, fun S H vs _ h Q q => by
  obtain ⟨v, rfl, h1⟩ := h.one
  exact ⟨s, by rw [h1.str_], small_line hs, q _ H (Same.refl H) (.int _)⟩⟩
theorem cb_sum {ns : List Int} (hc : X.calm = true := by rfl) : Cb X (.builtin "sum") [.lst (ns.map .int)] (.int ns.sum) := ⟨_, cr_sum hc, fun S H vs _ h Q q => by
  obtain ⟨v, rfl, h1⟩ := h.one
  obtain ⟨a, xs, rfl, h2, h3⟩ := h1.lst_
  exact ⟨a, ns, rfl, by rw [← h3.ints]; exact h2, q _ H (Same.refl H) (.int _)⟩⟩
theorem cb_all {bs : List Bool} (hc : X.calm = true := by rfl) : Cb X (.builtin "all") [.lst (bs.map .bl)] (.bl (bs.all id)) := ⟨_, cr_all hc, fun S H vs _ h Q q => by
  obtain ⟨v, rfl, h1⟩ := h.one
  obtain ⟨a, xs, rfl, h2, h3⟩ := h1.lst_
  exact ⟨a, bs, rfl, by rw [← h3.bls]; exact h2, q _ H (Same.refl H) (.bl _)⟩⟩
theorem cb_any {bs : List Bool} (hc : X.calm = true := by rfl) : Cb X (.builtin "any") [.lst (bs.map .bl)] (.bl (bs.any id)) := ⟨_, cr_any hc, fun S H vs _ h Q q => by
  obtain ⟨v, rfl, h1⟩ := h.one
  obtain ⟨a, xs, rfl, h2, h3⟩ := h1.lst_
  exact ⟨a, bs, rfl, by rw [← h3.bls]; exact h2, q _ H (Same.refl H) (.bl _)⟩⟩
/-- the least, the greatest of some ints -/
def minL : List Int → Int
  | [] => 0
  | [a] => a
  | a :: b :: r => min a (minL (b :: r))
def maxL : List Int → Int
  | [] => 0
  | [a] => a
  | a :: b :: r => max a (maxL (b :: r))
theorem minL_le : ∀ (l : List Int) (y : Int), y ∈ l → minL l ≤ y
  | [], y, h => by cases h
  | [a], y, h => by
    have e : y = a := by simpa using h
    rw [e]
    exact Int.le_refl a
  | a :: b :: r, y, h => by
    show min a (minL (b :: r)) ≤ y
    rcases List.mem_cons.mp h with e | e
    · rw [e]; exact Int.min_le_left _ _
    · exact Int.le_trans (Int.min_le_right _ _) (minL_le (b :: r) y e)
theorem minL_mem : ∀ (l : List Int), l ≠ [] → minL l ∈ l
  | [], h => absurd rfl h
  | [a], _ => by simp [minL]
  | a :: b :: r, _ => by
    show min a (minL (b :: r)) ∈ a :: b :: r
    have ih := minL_mem (b :: r) (by simp)
    rcases Int.le_total a (minL (b :: r)) with q | q
    · rw [Int.min_eq_left q]; exact List.mem_cons_self
    · rw [Int.min_eq_right q]; exact List.mem_cons_of_mem _ ih
theorem le_maxL : ∀ (l : List Int) (y : Int), y ∈ l → y ≤ maxL l
  | [], y, h => by cases h
  | [a], y, h => by
    have e : y = a := by simpa using h
    rw [e]
    exact Int.le_refl a
  | a :: b :: r, y, h => by
    show y ≤ max a (maxL (b :: r))
    rcases List.mem_cons.mp h with e | e
    · rw [e]; exact Int.le_max_left _ _
    · exact Int.le_trans (le_maxL (b :: r) y e) (Int.le_max_right _ _)
theorem maxL_mem : ∀ (l : List Int), l ≠ [] → maxL l ∈ l
  | [], h => absurd rfl h
  | [a], _ => by simp [maxL]
  | a :: b :: r, _ => by
    show max a (maxL (b :: r)) ∈ a :: b :: r
    have ih := maxL_mem (b :: r) (by simp)
    rcases Int.le_total a (maxL (b :: r)) with q | q
    · rw [Int.max_eq_right q]; exact List.mem_cons_of_mem _ ih
    · rw [Int.max_eq_left q]; exact List.mem_cons_self
theorem cb_min {ns : List Int} (h0 : ns ≠ []) (hc : X.calm = true := by rfl) : Cb X (.builtin "min") [.lst (ns.map .int)] (.int (minL ns)) := ⟨_, cr_min hc, fun S H vs _ h Q q => by
  obtain ⟨v, rfl, h1⟩ := h.one
  obtain ⟨a, xs, rfl, h2, h3⟩ := h1.lst_
  refine ⟨a, ns, rfl, by rw [← h3.ints]; exact h2, List.length_pos_iff.mpr h0, fun m hm hl => ?_⟩
  have e : m = minL ns := by
    have h4 := minL_le ns m hm
    have h5 := hl _ (minL_mem ns h0)
    omega
  rw [e]
  exact q _ H (Same.refl H) (.int _)⟩
theorem cb_max {ns : List Int} (h0 : ns ≠ []) (hc : X.calm = true := by rfl) : Cb X (.builtin "max") [.lst (ns.map .int)] (.int (maxL ns)) := ⟨_, cr_max hc, fun S H vs _ h Q q => by
  obtain ⟨v, rfl, h1⟩ := h.one
  obtain ⟨a, xs, rfl, h2, h3⟩ := h1.lst_
  refine ⟨a, ns, rfl, by rw [← h3.ints]; exact h2, List.length_pos_iff.mpr h0, fun m hm hl => ?_⟩
  have e : m = maxL ns := by
    have h4 := le_maxL ns m hm
    have h5 := hl _ (maxL_mem ns h0)
    omega
  rw [e]
  exact q _ H (Same.refl H) (.int _)⟩
theorem cb_min2 {i j : Int} (hc : X.calm = true := by rfl) : Cb X (.builtin "min") [.int i, .int j] (.int (min i j)) := ⟨_, call_min2 hc, fun S H vs _ h Q q => by
  obtain ⟨v, w, rfl, h1, h2⟩ := h.two
  refine ⟨i, j, by rw [h1.int_, h2.int_], ?_⟩
  have e : (if j < i then j else i) = min i j := by split <;> omega
  rw [e]
  exact q _ H (Same.refl H) (.int _)⟩
theorem cb_max2 {i j : Int} (hc : X.calm = true := by rfl) : Cb X (.builtin "max") [.int i, .int j] (.int (max i j)) := ⟨_, call_max2 hc, fun S H vs _ h Q q => by
  obtain ⟨v, w, rfl, h1, h2⟩ := h.two
  refine ⟨i, j, by rw [h1.int_, h2.int_], ?_⟩
  have e : (if j > i then j else i) = max i j := by split <;> omega
  rw [e]
  exact q _ H (Same.refl H) (.int _)⟩
theorem cb_list {l : List D} : Cb X (.type "list") [.lst l] (.lst l) := ⟨_, call_list_of, fun S H vs hd h Q q => by
  obtain ⟨v, rfl, h1⟩ := h.one
  obtain ⟨a, xs, rfl, h2, h3⟩ := h1.lst_
  exact ⟨a, xs, rfl, .inl h2, fun p hp => q _ _ (same_new hp) (Den.newL hd hp h3)⟩⟩
theorem cb_listT {l : List D} : Cb X (.type "list") [.tup l] (.lst l) := ⟨_, call_list_of, fun S H vs hd h Q q => by
  obtain ⟨v, rfl, h1⟩ := h.one
  obtain ⟨a, xs, rfl, h2, h3⟩ := h1.tup_
  exact ⟨a, xs, rfl, .inr h2, fun p hp => q _ _ (same_new hp) (Den.newL hd hp h3)⟩⟩
theorem cb_tuple {l : List D} : Cb X (.type "tuple") [.lst l] (.tup l) := ⟨_, call_tuple_of, fun S H vs hd h Q q => by
  obtain ⟨v, rfl, h1⟩ := h.one
  obtain ⟨a, xs, rfl, h2, h3⟩ := h1.lst_
  exact ⟨a, xs, rfl, .inl ⟨h2, fun p hp => q _ _ (same_new hp) (Den.newT hd hp h3)⟩⟩⟩
theorem cb_tupleT {l : List D} : Cb X (.type "tuple") [.tup l] (.tup l) := ⟨_, call_tuple_of, fun S H vs hd h Q q => by
  obtain ⟨v, rfl, h1⟩ := h.one
  obtain ⟨a, xs, e, h2, h3⟩ := h1.tup_
  exact ⟨a, xs, by rw [e], .inr ⟨h2, by rw [← e]; exact q _ H (Same.refl H) h1⟩⟩⟩

/-! ### isinstance of a thing and a built-in class -/
def tyName : D → String
  | .non => "NoneType"
  | .bl _ => "bool"
  | .int _ => "int"
  | .str _ => "str"
  | .tup _ => "tuple"
  | .lst _ => "list"
  | _ => ""
def tyGood : D → Bool
  | .raw _ => false
  | .obj _ _ => false
  | .tl _ => false
  | _ => true
theorem Den.ty {K : PySem.W.Frag} {S : Addr → Prop} {H : Hp} {v : V} {d : D} (h : Den K S H v d) (hg : tyGood d = true) : TyX K H v (.type (tyName d)) := by
  cases h with
  | non => exact .base .non
  | bl b => exact .base (.bl b)
  | int i => exact .base (.int i)
  | str s => exact .base (.str s)
  | raw v => cases hg
  | tup r n hl =>
    rcases r with r | ⟨o, r⟩
    · exact .base (.tup r)
    · exact .fTuple r
  | tupK r hl =>
    obtain ⟨o, its, n, h1, h2, _⟩ := r
    exact .kTuple h1 h2
  | lst r n hl =>
    rcases r with r | ⟨o, r⟩
    · exact .base (.lst r)
    · exact .base (.frz r)
  | lstK r hl =>
    obtain ⟨o, its, n, h1, h2, _⟩ := r
    exact .kList h1 h2
  | obj h n hl => cases hg
  | tl h n hl => cases hg
/-- what isinstance says of the classes by their names -/
def isaN (t n : String) : Bool := t == n || (t == "bool" && n == "int")
def kitGood : List String := ["NoneType", "bool", "int", "str", "tuple", "list"]
def kitCls0 : List String := ["int", "bool", "str", "tuple", "list", "dict"]
theorem kit_ty {K : PySem.W.Frag} : ∀ t ∈ kitGood, ∀ n ∈ kitCls0, PySem.W.kitOne K (.type t) (.type n) = some (isaN t n) := by
  simp only [kitGood, kitCls0, List.forall_mem_cons, List.not_mem_nil, false_implies, implies_true, and_true]
  refine ⟨⟨?_, ?_, ?_, ?_, ?_, ?_⟩, ⟨?_, ?_, ?_, ?_, ?_, ?_⟩, ⟨?_, ?_, ?_, ?_, ?_, ?_⟩, ⟨?_, ?_, ?_, ?_, ?_, ?_⟩, ⟨?_, ?_, ?_, ?_, ?_, ?_⟩, ⟨?_, ?_, ?_, ?_, ?_, ?_⟩⟩ <;> kernel_rfl
theorem ty_good {d : D} (hg : tyGood d = true) : tyName d ∈ kitGood := by
  cases d <;> first | (cases hg; done) | simp [tyName, kitGood]
theorem cb_isa {n : String} (hg : tyGood d = true := by rfl) (hn : n ∈ kitCls0 := by decide) : Cb X (.builtin "isinstance") [d, .raw (.ty n)] (.bl (isaN (tyName d) n)) := ⟨_, call_isi, fun S H vs _ h Q q => by
  obtain ⟨v, w, rfl, h1, h2⟩ := h.two
  exact ⟨v, w, _, _, _, rfl, by rw [h2.raw_]; exact .ty n, h1.ty hg, kit_ty _ (ty_good hg) _ hn, q _ H (Same.refl H) (.bl _)⟩⟩
end
end Spr

set_option Elab.async false
set_option linter.all false
set_option maxRecDepth 100000
set_option maxHeartbeats 4000000
/-! Statements: how a block ends, by what the slots hold. -/
namespace Spr
open PySem PySem.Spec PyProof.Rows L2

/-- the ends of a block: what follows, what is returned, break, continue -/
structure Post where
  nx : Gm → Prop
  rt : Ent → Gm → Prop
  bk : Gm → Prop := fun _ => False
  ct : Gm → Prop := fun _ => False
/-- a result: a thing, or a list that is new -/
def Rs (K : PySem.W.Frag) (c : Cn) (S : Addr → Prop) (σ : L2.St) (H : Hp) (Γ : Gm) (v : V) : Ent → Prop
  | .im d => Den K S H v d
  | .ow l => ∃ a xs, v = .ref a ∧ S a ∧ ¬ c.S0 a ∧ H a = some (.lst xs) ∧ DenL K S H xs l ∧ ∀ (j : Nat) (l' : List D), Γ[j]? = some (some (.ow l')) → σ[j]? ≠ some (some (.ref a))
/-- what is wanted at each end, from the state S, H on -/
structure Fin (K : PySem.W.Frag) (c : Cn) (S : Addr → Prop) (H : Hp) (Po : Post) (D : Ends) : Prop where
  nx : ∀ σ' H' S' Γ', Rl S H S' H' → Gd K c S' σ' H' Γ' → Po.nx Γ' → D.nx σ' H'
  rt : ∀ v σ' H' S' Γ' en, Rl S H S' H' → Gd K c S' σ' H' Γ' → Rs K c S' σ' H' Γ' v en → Po.rt en Γ' → D.rt v H'
  bk : ∀ σ' H' S' Γ', Rl S H S' H' → Gd K c S' σ' H' Γ' → Po.bk Γ' → D.bk σ' H'
  ct : ∀ σ' H' S' Γ', Rl S H S' H' → Gd K c S' σ' H' Γ' → Po.ct Γ' → D.ct σ' H'
theorem Fin.go {K : PySem.W.Frag} {c : Cn} {S S1 : Addr → Prop} {H H1 : Hp} {Po : Post} {D : Ends} (f : Fin K c S H Po D) (r : Rl S H S1 H1) : Fin K c S1 H1 Po D :=
  ⟨fun σ' H' S' Γ' r' => f.nx σ' H' S' Γ' (r.trans r'), fun v σ' H' S' Γ' en r' => f.rt v σ' H' S' Γ' en (r.trans r'), fun σ' H' S' Γ' r' => f.bk σ' H' S' Γ' (r.trans r'), fun σ' H' S' Γ' r' => f.ct σ' H' S' Γ' (r.trans r')⟩
theorem Fin.ext {K : PySem.W.Frag} {c : Cn} {S : Addr → Prop} {H H1 : Hp} {Po : Post} {D : Ends} (f : Fin K c S H Po D) (e : Same H H1) : Fin K c S H1 Po D := f.go (.of e)
def tB (K : PySem.W.Frag) (c : Cn) (Γ : Gm) (Po : Post) : TS := fun D σ H => ∃ S, Gd K c S σ H Γ ∧ Fin K c S H Po D
abbrev Bl (X : Cx) (c : Cn) (Γ : Gm) (ss : List Stmt) (Po : Post) : Prop := PSs X ss (tB X.K c Γ Po)
theorem PSs.wk {X : Cx} {ss : List Stmt} {t t' : TS} (h : PSs X ss t) (w : ∀ D σ H, t' D σ H → t D σ H) : PSs X ss t' := ⟨fun pins s σ H D I q => h.run pins s σ H D I (w D σ H q)⟩
theorem PS.wk {X : Cx} {s : Stmt} {t t' : TS} (h : PS X s t) (w : ∀ D σ H, t' D σ H → t D σ H) : PS X s t' := ⟨fun pins s σ H D I q => h.run pins s σ H D I (w D σ H q)⟩
/-- a statement ahead of a block: where the statement goes on with Γ', the block's own word for Γ' is told -/
abbrev Sm (X : Cx) (c : Cn) (Γ : Gm) (s : Stmt) (Po : Post) : Prop := PS X s (tB X.K c Γ Po)
/-- the block that follows, told by a word of the slots -/
def tF (X : Cx) (c : Cn) (rest : List Stmt) (Po : Post) : TS := fun D σ H => ∃ Γ', Bl X c Γ' rest Po ∧ tB X.K c Γ' Po D σ H
theorem bl_F {X : Cx} {c : Cn} {rest : List Stmt} {Po : Post} : PSs X rest (tF X c rest Po) := ⟨fun pins s σ H D I ⟨Γ', hb, q⟩ => hb.run pins s σ H D I q⟩
abbrev Post.then (Po : Post) (X : Cx) (c : Cn) (rest : List Stmt) : Post := { Po with nx := fun Γ' => Bl X c Γ' rest Po }

section
variable {X : Cx} {c : Cn} {Γ : Gm} {a b e : Expr} {es : List Expr} {pos p : Pos} {da db dc d : D} {st : Stmt} {rest A B : List Stmt} {Po : Post} {x : Str}

theorem b_cons (h : Sm X c Γ st (Po.then X c rest)) : Bl X c Γ (st :: rest) Po :=
  PSs.wk (pss_cons h bl_F) fun D σ H ⟨S, t, q⟩ => ⟨S, t, ⟨fun σ' H' S' Γ' r t' hb => ⟨Γ', hb, S', t', q.go r⟩, q.rt, q.bk, q.ct⟩⟩
theorem b_one (h : Sm X c Γ st Po) : Bl X c Γ [st] Po := pss_one h
theorem b_nil (h : Po.nx Γ) : Bl X c Γ [] Po := PSs.wk pss_nil fun D σ H ⟨S, t, q⟩ => q.nx σ H S Γ .refl t h
/-- another word of the same end -/
theorem b_post {Po' : Post} (h : Bl X c Γ A Po) (h1 : ∀ Γ', Po.nx Γ' → Po'.nx Γ') (h2 : ∀ e Γ', Po.rt e Γ' → Po'.rt e Γ') (h3 : ∀ Γ', Po.bk Γ' → Po'.bk Γ') (h4 : ∀ Γ', Po.ct Γ' → Po'.ct Γ') : Bl X c Γ A Po' :=
  PSs.wk h fun D σ H ⟨S, t, q⟩ => ⟨S, t, ⟨fun σ' H' S' Γ' r t' hb => q.nx σ' H' S' Γ' r t' (h1 _ hb), fun v σ' H' S' Γ' en r t' rs hb => q.rt v σ' H' S' Γ' en r t' rs (h2 _ _ hb), fun σ' H' S' Γ' r t' hb => q.bk σ' H' S' Γ' r t' (h3 _ hb), fun σ' H' S' Γ' r t' hb => q.ct σ' H' S' Γ' r t' (h4 _ hb)⟩⟩
def fxB (fx : List (Nat × V)) (i : Nat) : Bool := fx.all fun p => p.1 != i
theorem fxB_ok {fx : List (Nat × V)} {i : Nat} (h : fxB fx i = true) : ∀ p ∈ fx, p.1 ≠ i := fun p hp => by
  have q := List.all_eq_true.mp h p hp
  simpa using q
/-- the name in slot i gets a thing -/
theorem s_set (i : Nat) {pos' : Pos} (he : Pe X c Γ e d) (hr : Po.nx (Γ.set i (some (.im d)))) (hN : X.N.Nodup) (hi : X.N[i]? = some x := by rfl) (hx : Loc X.env.scope x := by first | exact Or.inl rfl | exact Or.inr rfl) (hf : fxB c.fx i = true := by rfl)
    (hs : swapsWith e (some (.Name x pos')) pos.line X.env = pure false := by rfl) (hfn : X.fn x = true ∨ X.env.scope.names.lookup x = some .local := by first | exact .inl rfl | exact .inr rfl) : Sm X c Γ (.Assign [.Name x pos'] e pos) Po :=
  PS.wk (ps_set hN hi hx he hs hfn) fun D σ H ⟨S, t, q⟩ => ⟨S, t, fun v H1 e1 d1 => q.nx _ H1 S _ (.of e1) ((t.ext e1).setIm d1 (fxB_ok hf)) hr⟩
/-- a, b = e1, e2 -/
theorem s_par (i j : Nat) {y : Str} {px py pt : Pos} {kt k2 pt2} {d1 d2 : D} (ha : Pa X c Γ [a, b] [d1, d2]) (hr : Po.nx ((Γ.set i (some (.im d1))).set j (some (.im d2)))) (hN : X.N.Nodup) (hij : i ≠ j := by decide) (hc : X.calm = true := by rfl) (hi : X.N[i]? = some x := by rfl) (hj : X.N[j]? = some y := by rfl)
    (hx : X.env.scope.names.lookup x = some .local := by rfl) (hy : X.env.scope.names.lookup y = some .local := by rfl) (hf : fxB c.fx i = true := by rfl) (hf2 : fxB c.fx j = true := by rfl)
    (hw : swappedStores [.Tuple [.Name x px, .Name y py] kt pt] (.Tuple [a, b] k2 pt2) X.env = pure (some [x, y]) := by rfl)
    (hs : swapsWithSole [.Tuple [.Name x px, .Name y py] kt pt] (.Tuple [a, b] k2 pt2) pos.line X.env = pure false := by rfl) :
    Sm X c Γ (.Assign [.Tuple [.Name x px, .Name y py] kt pt] (.Tuple [a, b] k2 pt2) pos) Po :=
  PS.wk (ps_par hc hN hi hj hij hx hy ha hw hs) fun D σ H ⟨S, t, q⟩ => ⟨S, t, fun vs H1 e1 dv => by
    obtain ⟨v, w, rfl, h1, h2⟩ := dv.two
    exact ⟨v, w, rfl, q.nx _ H1 S _ (.of e1) (((t.ext e1).setIm h1 (fxB_ok hf)).setIm h2 (fxB_ok hf2)) hr⟩⟩
/-- targets: names, each with its slot -/
def setAll (Γ : Gm) : List Nat → List D → Gm
  | i :: is, d :: ds => setAll (Γ.set i (some (.im d))) is ds
  | _, _ => Γ
theorem gd_setAll {K : PySem.W.Frag} {S : Addr → Prop} {H : Hp} : ∀ (is : List Nat) (ds : List D) (xs : List V) {σ : L2.St} {Γ : Gm}, is.length = ds.length → (∀ i ∈ is, fxB c.fx i = true) → DenL K S H xs ds → Gd K c S σ H Γ →
    ∀ {t : TGs} {Q : L2.St → Hp → Prop}, (t = is.foldr (fun i u => gCons (gName i) u) gNil) → (∀ σ', Gd K c S σ' H (setAll Γ is ds) → Q σ' H) → t xs σ H Q
  | [], [], _, σ, Γ, _, _, .nil, g, t, Q, ht, q => by subst ht; exact ⟨rfl, q σ g⟩
  | i :: is, d :: ds, _, σ, Γ, hl, hf, .cons h tl, g, t, Q, ht, q => by
    subst ht
    exact ⟨_, _, rfl, gd_setAll is ds _ (by simpa using hl) (fun j hj => hf j (List.mem_cons_of_mem _ hj)) tl (g.setIm h (fxB_ok (hf i List.mem_cons_self))) rfl q⟩
  | [], _ :: _, _, _, _, hl, _, _, _, _, _, _, _ => by simp at hl
  | _ :: _, [], _, _, _, hl, _, _, _, _, _, _, _ => by simp at hl
/-- a, b, .. = e, a tuple -/
theorem s_unpack (is : List Nat) {ts : List Expr} {k : Nat} {p1 : Pos} {ds : List D} (he : Pe X c Γ e (.tup ds)) (hr : Po.nx (setAll Γ is ds)) (hl : is.length = ds.length := by rfl) (hg : PGs X ts (is.foldr (fun i u => gCons (gName i) u) gNil)) (hc : X.calm = true := by rfl) (hf : (is.all fun i => fxB c.fx i) = true := by rfl)
    (hn : (assignEach ts X.env).length = is.length := by rfl) (hst : (assignEach ts X.env).findIdx? (·.1) = none := by rfl)
    (hs : swapsWithSole [.Tuple ts k p1] e pos.line X.env = pure false := by rfl) (hw : swappedStores [.Tuple ts k p1] e X.env = pure none := by rfl) (h1 : (assignEach [.Tuple ts k p1] X.env).map (·.2) = [assign (.Tuple ts k p1) X.env] := by rfl) :
    Sm X c Γ (.Assign [.Tuple ts k p1] e pos) Po :=
  PS.wk (ps_asg he (pg_tup hc hg hn hst) hs hw h1) fun D σ H ⟨S, t, q⟩ => ⟨S, t, fun v H1 e1 d1 => by
    obtain ⟨p, xs, rfl, h2, h3⟩ := d1.tup_
    exact ⟨p, xs, rfl, h2, by rw [h3.length, hl], gd_setAll is ds xs hl (List.all_eq_true.mp hf) h3 (t.ext e1) rfl fun σ' g => q.nx σ' H1 S _ (.of e1) g hr⟩⟩
theorem s_if {k : Bool} {t' : Expr} (h : Pt X c Γ t' k) (h1 : k = true → Bl X c Γ A Po) (h2 : k = false → Bl X c Γ B Po) : Sm X c Γ (.If t' A B pos) Po := by
  cases k with
  | true =>
    have hN : PSs X B (fun _ _ _ => False) := ⟨fun _ _ _ _ _ _ z => z.elim⟩
    exact PS.wk (ps_if h (h1 rfl) hN) fun D σ H ⟨S, t, q⟩ => ⟨S, t, fun H1 e1 => by
      refine iteT ?_
      exact ⟨S, t.ext e1, q.ext e1⟩⟩
  | false =>
    have hN : PSs X A (fun _ _ _ => False) := ⟨fun _ _ _ _ _ _ z => z.elim⟩
    exact PS.wk (ps_if h hN (h2 rfl)) fun D σ H ⟨S, t, q⟩ => ⟨S, t, fun H1 e1 => by
      refine iteF ?_
      exact ⟨S, t.ext e1, q.ext e1⟩⟩
theorem s_ret (he : Pe X c Γ e d) (h : Po.rt (.im d) Γ) : Sm X c Γ (.Return (some e) pos) Po :=
  PS.wk (ps_ret he) fun D σ H ⟨S, t, q⟩ => ⟨S, t, fun v H1 e1 d1 => q.rt v σ H1 S Γ (.im d) (.of e1) (t.ext e1) d1 h⟩
theorem s_retN (h : Po.rt (.im .non) Γ) : Sm X c Γ (.Return none pos) Po :=
  PS.wk ps_retN fun D σ H ⟨S, t, q⟩ => q.rt .non σ H S Γ (.im .non) .refl t .non h
theorem s_pass (h : Po.nx Γ) : Sm X c Γ (.Pass pos) Po := PS.wk ps_pass fun D σ H ⟨S, t, q⟩ => q.nx σ H S Γ .refl t h
theorem s_break (h : Po.bk Γ) : Sm X c Γ (.Break pos) Po := PS.wk ps_break fun D σ H ⟨S, t, q⟩ => q.bk σ H S Γ .refl t h
theorem s_continue (h : Po.ct Γ) : Sm X c Γ (.Continue pos) Po := PS.wk ps_continue fun D σ H ⟨S, t, q⟩ => q.ct σ H S Γ .refl t h
/-- an expression whose value is dropped -/
theorem s_expr (he : Pe X c Γ e d) (h : Po.nx Γ) (hs : swapsWith e none pos.line X.env = pure false := by rfl) : Sm X c Γ (.Expr e pos) Po :=
  PS.wk (ps_expr he hs) fun D σ H ⟨S, t, q⟩ => ⟨S, t, fun v H1 e1 d1 => q.nx σ H1 S Γ (.of e1) (t.ext e1) h⟩
/-- n += k of ints -/
theorem s_augI (i : Nat) {op : Operator} {f : Int → Int → Int} {n m : Int} {pos' : Pos} (ho : PIp X op (ipI f)) (hi0 : Γ[i]? = some (some (.im (.int n)))) (he : Pe X c Γ e (.int m)) (hr : Po.nx (Γ.set i (some (.im (.int (f n m)))))) (hN : X.N.Nodup) (hi : X.N[i]? = some x := by rfl) (hx : Loc X.env.scope x := by first | exact Or.inl rfl | exact Or.inr rfl) (hf : fxB c.fx i = true := by rfl)
    (hfn : X.fn x = true ∨ X.env.scope.names.lookup x = some .local := by first | exact .inl rfl | exact .inr rfl) : Sm X c Γ (.AugAssign (.Name x pos') op e pos) Po :=
  PS.wk (ps_aug hN hi hx he ho hfn) fun D σ H ⟨S, t, q⟩ => by
    obtain ⟨v, h1, h2⟩ := t.im hi0
    refine ⟨v, h1, S, t, fun w H1 e1 d1 => ⟨n, m, h2.int_, d1.int_, q.nx _ H1 S _ (.of e1) ((t.ext e1).setIm (.int _) (fxB_ok hf)) hr⟩⟩

/-! ### errors -/
/-- an error with er may be let out -/
def Xr (X : Cx) (c : Cn) (er : Er → Gm → Prop) : Prop := ∃ W : WX, Takes X W ∧ ∀ e S σ H Γ cls dx, Gd X.K c S σ H Γ → ErrAt e cls dx H → er e Γ → W cls dx σ H
/-- raise C(..): the making of the error, er the error made -/
theorem s_raise {er : Er → Gm → Prop} {t : L2.St → Hp → XK → Prop} (hx : Xr X c er) (e0 : Er) (hm : PMk X e t) (ht : ∀ S σ H, Gd X.K c S σ H Γ → ∀ Q : XK, (∀ cls dx H', Same H H' → ErrAt e0 cls dx H' → Q cls dx H') → t σ H Q) (h : er e0 Γ) (hc : X.calm = true := by rfl) :
    Sm X c Γ (.Raise (some e) none pos) Po := by
  obtain ⟨W, tk, hW⟩ := hx
  exact PS.wk (ps_raise hc tk hm) fun D σ H ⟨S, g, _⟩ => ht S σ H g _ fun cls dx H' e1 er1 => hW e0 S σ H' Γ cls dx (g.ext e1) er1 h
/-- a call of a def that changes nothing and may raise: as a statement of its own, its value dropped -/
theorem s_callX {er : Er → Gm → Prop} {F : Fs} {ds : List D} {r : Except Er D} {j k : Nat} (hx : Xr X c er) (G : FoX X k x F) (hr : Room j X.A) (ha : Pa X c Γ (e :: es) ds) (hF : F ds r) (h : ∀ d, r = .ok d → Po.nx Γ) (h2 : ∀ e0, r = .error e0 → er e0 Γ) (hk : k ≤ j := by decide) (hg : Gl X x := by rfl)
    (hdb : (x == ("__debug__" : Str)) = false := by decide) (he : starEach (e :: es) X.env = (false, eval e X.env) :: starEach es X.env := by rfl) (hpl : (backTo p (starEach es X.env)).any (·.1) = false := by rfl) (hs : swapsWith (.Call (.Name x pos) (e :: es) [] p) none p.line X.env = pure false := by rfl) {p2 : Pos} (hs2 : swapsWith (.Call (.Name x pos) (e :: es) [] p) none p2.line X.env = pure false := by rfl) :
    Sm X c Γ (.Expr (.Call (.Name x pos) (e :: es) [] p) p2) Po := by
  obtain ⟨W, tk, hW⟩ := hx
  obtain ⟨f, fd, ps, h1, h3, h4, h5⟩ := G.ex
  refine PS.wk (ps_expr (pe_callS h1 (hr.mono hk) hg h3 h4 h5 (fun σ => passAt tk σ) ha hdb he hpl) hs2) fun D σ H ⟨S, t, q⟩ => ⟨S, t, fun vs H1 e1 d1 => ?_⟩
  exact ⟨S, ds, r, (t.ext e1).dom, d1, hF, fun d' hd v H2 e2 d2 => q.nx σ H2 S Γ (.of (e1.trans e2)) (t.ext (e1.trans e2)) (h d' hd), fun e0 hd cls dx H2 e2 er2 => hW e0 S σ H2 Γ cls dx (t.ext (e1.trans e2)) er2 (h2 e0 hd)⟩
/-- return f(..), f may raise -/
theorem s_retX {er : Er → Gm → Prop} {F : Fs} {ds : List D} {r : Except Er D} {j k : Nat} (hx : Xr X c er) (G : FoX X k x F) (hr : Room j X.A) (ha : Pa X c Γ (e :: es) ds) (hF : F ds r) (h : ∀ d, r = .ok d → Po.rt (.im d) Γ) (h2 : ∀ e0, r = .error e0 → er e0 Γ) (hk : k ≤ j := by decide) (hg : Gl X x := by rfl)
    (hdb : (x == ("__debug__" : Str)) = false := by decide) (he : starEach (e :: es) X.env = (false, eval e X.env) :: starEach es X.env := by rfl) (hpl : (backTo p (starEach es X.env)).any (·.1) = false := by rfl) {p2 : Pos} :
    Sm X c Γ (.Return (some (.Call (.Name x pos) (e :: es) [] p)) p2) Po := by
  obtain ⟨W, tk, hW⟩ := hx
  obtain ⟨f, fd, ps, h1, h3, h4, h5⟩ := G.ex
  refine PS.wk (ps_ret (pe_callS h1 (hr.mono hk) hg h3 h4 h5 (fun σ => passAt tk σ) ha hdb he hpl)) fun D σ H ⟨S, t, q⟩ => ⟨S, t, fun vs H1 e1 d1 => ?_⟩
  exact ⟨S, ds, r, (t.ext e1).dom, d1, hF, fun d' hd v H2 e2 d2 => q.rt v σ H2 S Γ (.im d') (.of (e1.trans e2)) (t.ext (e1.trans e2)) d2 (h d' hd), fun e0 hd cls dx H2 e2 er2 => hW e0 S σ H2 Γ cls dx (t.ext (e1.trans e2)) er2 (h2 e0 hd)⟩
/-- x = f(..), f may raise -/
theorem s_setX (i : Nat) {y : Str} {py : Pos} {er : Er → Gm → Prop} {F : Fs} {ds : List D} {r : Except Er D} {j k : Nat} (hx : Xr X c er) (G : FoX X k x F) (hr : Room j X.A) (ha : Pa X c Γ (e :: es) ds) (hF : F ds r) (h : ∀ d, r = .ok d → Po.nx (Γ.set i (some (.im d)))) (h2 : ∀ e0, r = .error e0 → er e0 Γ) (hN : X.N.Nodup) (hk : k ≤ j := by decide) (hg : Gl X x := by rfl)
    (hi : X.N[i]? = some y := by rfl) (hy : Loc X.env.scope y := by first | exact Or.inl rfl | exact Or.inr rfl) (hf : fxB c.fx i = true := by rfl)
    (hdb : (x == ("__debug__" : Str)) = false := by decide) (he : starEach (e :: es) X.env = (false, eval e X.env) :: starEach es X.env := by rfl) (hpl : (backTo p (starEach es X.env)).any (·.1) = false := by rfl) {p2 : Pos} (hs : swapsWith (.Call (.Name x pos) (e :: es) [] p) (some (.Name y py)) p2.line X.env = pure false := by rfl) (hfn : X.fn y = true ∨ X.env.scope.names.lookup y = some .local := by first | exact .inl rfl | exact .inr rfl) :
    Sm X c Γ (.Assign [.Name y py] (.Call (.Name x pos) (e :: es) [] p) p2) Po := by
  obtain ⟨W, tk, hW⟩ := hx
  obtain ⟨f, fd, ps, h1, h3, h4, h5⟩ := G.ex
  refine PS.wk (ps_set hN hi hy (pe_callS h1 (hr.mono hk) hg h3 h4 h5 (fun σ => passAt tk σ) ha hdb he hpl) hs hfn) fun D σ H ⟨S, t, q⟩ => ⟨S, t, fun vs H1 e1 d1 => ?_⟩
  exact ⟨S, ds, r, (t.ext e1).dom, d1, hF, fun d' hd v H2 e2 d2 => q.nx _ H2 S _ (.of (e1.trans e2)) ((t.ext (e1.trans e2)).setIm d2 (fxB_ok hf)) (h d' hd), fun e0 hd cls dx H2 e2 er2 => hW e0 S σ H2 Γ cls dx (t.ext (e1.trans e2)) er2 (h2 e0 hd)⟩

/-! ### loops -/
end
/-- a turn of a loop over things | numbers -/
def tTurn (K : PySem.W.Frag) (c : Cn) (j : Nat) (ds : List D) (I : Nat → Gm → Prop) (Po : Post) : TS := fun Ds σ H => ∃ (i : Nat) (d : D) (Γ' : Gm), ds[i]? = some d ∧ I i Γ' ∧ tB K c (Γ'.set j (some (.im d))) { nx := I (i + 1), rt := Po.rt, ct := I (i + 1), bk := Po.nx } Ds σ H
def tTurnR (K : PySem.W.Frag) (c : Cn) (j : Nat) (lo : Int) (n : Nat) (I : Nat → Gm → Prop) (Po : Post) : TS := fun Ds σ H => ∃ (i : Nat) (Γ' : Gm), i < n ∧ I i Γ' ∧ tB K c (Γ'.set j (some (.im (.int (lo + i))))) { nx := I (i + 1), rt := Po.rt, ct := I (i + 1), bk := Po.nx } Ds σ H
section
variable {X : Cx} {c : Cn} {Γ : Gm} {a b e : Expr} {es : List Expr} {pos p : Pos} {da db dc d : D} {st : Stmt} {rest A B : List Stmt} {Po : Post} {x : Str}
/-- for x in a list | tuple of things; I: by how many are gone through -/
theorem s_forL (j : Nat) {iter : Expr} {body : List Stmt} {px : Pos} {ds : List D} (I : Nat → Gm → Prop) (hi : Pe X c Γ iter (.lst ds)) (h0 : I 0 Γ) (hb : ∀ (i : Nat) (d : D) (Γ' : Gm), ds[i]? = some d → I i Γ' → Bl X c (Γ'.set j (some (.im d))) body { nx := I (i + 1), rt := Po.rt, ct := I (i + 1), bk := Po.nx })
    (hd : ∀ Γ', I ds.length Γ' → Po.nx Γ') (hp : PassesOwn (model X.prog X.w) X.A X.env X.xe) (hN : X.N.Nodup) (hc : X.calm = true := by rfl) (hj : X.N[j]? = some x := by rfl) (hx : Loc X.env.scope x := by first | exact Or.inl rfl | exact Or.inr rfl) (hf : fxB c.fx j = true := by rfl)
    (hs : ∀ x, foldedSetIterable iter X.env x = pure x := by intro _; rfl) (hfn : X.fn x = true ∨ X.env.scope.names.lookup x = some .local := by first | exact .inl rfl | exact .inr rfl) : Sm X c Γ (.For (.Name x px) iter body [] pos) Po := by
  -- the body by every turn and slots
  have hB : PSs X body (tTurn X.K c j ds I Po) :=
    ⟨fun pins s σ H Ds J ⟨i, d, Γ', h1, h2, q⟩ => (hb i d Γ' h1 h2).run pins s σ H Ds J q⟩
  refine PS.wk (ps_for hp hc (pi_list hi) (pg_name hN hj hx hfn) hB hs) fun Ds σ H ⟨S, t, q⟩ => ⟨S, t, fun v H1 e1 d1 => ?_⟩
  obtain ⟨p, xs, rfl, h2, h3⟩ := d1.lstL
  refine ⟨p, rfl, ⟨xs, h2.sq⟩, for_list (K := X.K) (a := p) (xs := xs) (g := gName j) (tb := tTurn X.K c j ds I Po) (D := Ds) (fun i σ' H' => ∃ S' Γ', Rl S H S' H' ∧ Gd X.K c S' σ' H' Γ' ∧ I i Γ' ∧ LiL X.K S' H' p xs ∧ DenL X.K S' H' xs ds) ⟨S, Γ, .of e1, t.ext e1, h0, h2, h3⟩ (fun i σ' H' _ ⟨S', Γ', _, _, _, z, _⟩ => z.sq) ?_ ?_⟩
  · rintro i y σ' H' hy ⟨S', Γ', r, g, hI, z, dd⟩
    obtain ⟨d, hd1, hd2⟩ := dd.get hy
    refine ⟨i, d, Γ', hd1, hI, S', g.setIm hd2 (fxB_ok hf), ⟨fun σ2 H2 S2 Γ2 r2 g2 h => ⟨S2, Γ2, r.trans r2, g2, h, z.mono r2, dd.mono r2⟩, fun v σ2 H2 S2 Γ2 en r2 g2 rs h => q.rt v σ2 H2 S2 Γ2 en (r.trans r2) g2 rs h,
      fun σ2 H2 S2 Γ2 r2 g2 h => q.nx σ2 H2 S2 Γ2 (r.trans r2) g2 h, fun σ2 H2 S2 Γ2 r2 g2 h => ⟨S2, Γ2, r.trans r2, g2, h, z.mono r2, dd.mono r2⟩⟩⟩
  · rintro σ' H' ⟨S', Γ', r, g, hI, z, dd⟩
    exact q.nx σ' H' S' Γ' r g (hd Γ' (by rw [← h3.length]; exact hI))
theorem s_forT (j : Nat) {iter : Expr} {body : List Stmt} {px : Pos} {ds : List D} (I : Nat → Gm → Prop) (hi : Pe X c Γ iter (.tup ds)) (h0 : I 0 Γ) (hb : ∀ (i : Nat) (d : D) (Γ' : Gm), ds[i]? = some d → I i Γ' → Bl X c (Γ'.set j (some (.im d))) body { nx := I (i + 1), rt := Po.rt, ct := I (i + 1), bk := Po.nx })
    (hd : ∀ Γ', I ds.length Γ' → Po.nx Γ') (hp : PassesOwn (model X.prog X.w) X.A X.env X.xe) (hN : X.N.Nodup) (hc : X.calm = true := by rfl) (hj : X.N[j]? = some x := by rfl) (hx : Loc X.env.scope x := by first | exact Or.inl rfl | exact Or.inr rfl) (hf : fxB c.fx j = true := by rfl)
    (hs : ∀ x, foldedSetIterable iter X.env x = pure x := by intro _; rfl) (hfn : X.fn x = true ∨ X.env.scope.names.lookup x = some .local := by first | exact .inl rfl | exact .inr rfl) : Sm X c Γ (.For (.Name x px) iter body [] pos) Po := by
  have hB : PSs X body (tTurn X.K c j ds I Po) :=
    ⟨fun pins s σ H Ds J ⟨i, d, Γ', h1, h2, q⟩ => (hb i d Γ' h1 h2).run pins s σ H Ds J q⟩
  refine PS.wk (ps_for hp hc (pi_tup hi) (pg_name hN hj hx hfn) hB hs) fun Ds σ H ⟨S, t, q⟩ => ⟨S, t, fun v H1 e1 d1 => ?_⟩
  obtain ⟨p, xs, rfl, h2, h3⟩ := d1.tupL
  refine ⟨p, rfl, ⟨xs, h2.sq⟩, for_tup (K := X.K) (a := p) (xs := xs) (g := gName j) (tb := tTurn X.K c j ds I Po) (D := Ds) (fun i σ' H' => ∃ S' Γ', Rl S H S' H' ∧ Gd X.K c S' σ' H' Γ' ∧ I i Γ' ∧ LiT X.K S' H' p xs ∧ DenL X.K S' H' xs ds) ⟨S, Γ, .of e1, t.ext e1, h0, h2, h3⟩ (fun i σ' H' _ ⟨S', Γ', _, _, _, z, _⟩ => z.sq) ?_ ?_⟩
  · rintro i y σ' H' hy ⟨S', Γ', r, g, hI, z, dd⟩
    obtain ⟨d, hd1, hd2⟩ := dd.get hy
    refine ⟨i, d, Γ', hd1, hI, S', g.setIm hd2 (fxB_ok hf), ⟨fun σ2 H2 S2 Γ2 r2 g2 h => ⟨S2, Γ2, r.trans r2, g2, h, z.mono r2, dd.mono r2⟩, fun v σ2 H2 S2 Γ2 en r2 g2 rs h => q.rt v σ2 H2 S2 Γ2 en (r.trans r2) g2 rs h,
      fun σ2 H2 S2 Γ2 r2 g2 h => q.nx σ2 H2 S2 Γ2 (r.trans r2) g2 h, fun σ2 H2 S2 Γ2 r2 g2 h => ⟨S2, Γ2, r.trans r2, g2, h, z.mono r2, dd.mono r2⟩⟩⟩
  · rintro σ' H' ⟨S', Γ', r, g, hI, z, dd⟩
    exact q.nx σ' H' S' Γ' r g (hd Γ' (by rw [← h3.length]; exact hI))
/-- for x in range(lo, hi) -/
theorem s_forR_ (j : Nat) {iter : Expr} {body : List Stmt} {px : Pos} {wi : TI} {lo : Int} {n : Nat} (I : Nat → Gm → Prop) (hi : PI X (.Name x px) iter wi) (hw : ∀ σ H S, Gd X.K c S σ H Γ → ∀ R : It → Hp → Prop, (∀ H1, Same H H1 → R (Itr lo n) H1) → wi σ H R) (h0 : I 0 Γ)
    (hb : ∀ (i : Nat) (Γ' : Gm), i < n → I i Γ' → Bl X c (Γ'.set j (some (.im (.int (lo + i))))) body { nx := I (i + 1), rt := Po.rt, ct := I (i + 1), bk := Po.nx })
    (hd : ∀ Γ', I n Γ' → Po.nx Γ') (hp : PassesOwn (model X.prog X.w) X.A X.env X.xe) (hN : X.N.Nodup) (hc : X.calm = true := by rfl) (hj : X.N[j]? = some x := by rfl) (hx : Loc X.env.scope x := by first | exact Or.inl rfl | exact Or.inr rfl) (hf : fxB c.fx j = true := by rfl)
    (hs : ∀ x, foldedSetIterable iter X.env x = pure x := by intro _; rfl) (hfn : X.fn x = true ∨ X.env.scope.names.lookup x = some .local := by first | exact .inl rfl | exact .inr rfl) : Sm X c Γ (.For (.Name x px) iter body [] pos) Po := by
  have hB : PSs X body (tTurnR X.K c j lo n I Po) :=
    ⟨fun pins s σ H Ds J ⟨i, Γ', h1, h2, q⟩ => (hb i Γ' h1 h2).run pins s σ H Ds J q⟩
  refine PS.wk (ps_for hp hc hi (pg_name hN hj hx hfn) hB hs) fun Ds σ H ⟨S, t, q⟩ => hw σ H S t _ fun H1 e1 => ?_
  refine for_range (lo := lo) (n := n) (g := gName j) (tb := tTurnR X.K c j lo n I Po) (D := Ds) (fun i σ' H' => ∃ S' Γ', Rl S H S' H' ∧ Gd X.K c S' σ' H' Γ' ∧ I i Γ') ⟨S, Γ, .of e1, t.ext e1, h0⟩ ?_ ?_
  · rintro i σ' H' hi ⟨S', Γ', r, g, hI⟩
    refine ⟨i, Γ', hi, hI, S', g.setIm (.int _) (fxB_ok hf), ⟨fun σ2 H2 S2 Γ2 r2 g2 h => ⟨S2, Γ2, r.trans r2, g2, h⟩, fun v σ2 H2 S2 Γ2 en r2 g2 rs h => q.rt v σ2 H2 S2 Γ2 en (r.trans r2) g2 rs h,
      fun σ2 H2 S2 Γ2 r2 g2 h => q.nx σ2 H2 S2 Γ2 (r.trans r2) g2 h, fun σ2 H2 S2 Γ2 r2 g2 h => ⟨S2, Γ2, r.trans r2, g2, h⟩⟩⟩
  · rintro σ' H' ⟨S', Γ', r, g, hI⟩
    exact q.nx σ' H' S' Γ' r g (hd Γ' hI)
/-- a small int, for a range -/
def Sml (i : Int) : Prop := -(2 ^ 62) ≤ i ∧ i < 2 ^ 62
theorem s_forR1 (j : Nat) {body : List Stmt} {px p1 p2 : Pos} {n : Int} (I : Nat → Gm → Prop) (ha : Pa X c Γ [a] [.int n]) (hn : Sml n) (h0 : I 0 Γ) (hb : ∀ (i : Nat) (Γ' : Gm), (i : Int) < n → I i Γ' → Bl X c (Γ'.set j (some (.im (.int (i : Int))))) body { nx := I (i + 1), rt := Po.rt, ct := I (i + 1), bk := Po.nx })
    (hd : ∀ Γ', I n.toNat Γ' → Po.nx Γ') (hm : X.mg "range" = none) (hp : PassesOwn (model X.prog X.w) X.A X.env X.xe) (hN : X.N.Nodup) (hc : X.calm = true := by rfl) (hj : X.N[j]? = some x := by rfl) (hx : Loc X.env.scope x := by first | exact Or.inl rfl | exact Or.inr rfl) (hf : fxB c.fx j = true := by rfl) (hg : Gl X "range" := by rfl)
    (hs0 : starEach [a] X.env = [(false, eval a X.env)] := by rfl) (hs : ∀ x, foldedSetIterable (.Call (.Name "range" p1) [a] [] p2) X.env x = pure x := by intro _; rfl) (hfn : X.fn x = true ∨ X.env.scope.names.lookup x = some .local := by first | exact .inl rfl | exact .inr rfl) : Sm X c Γ (.For (.Name x px) (.Call (.Name "range" p1) [a] [] p2) body [] pos) Po :=
  s_forR_ (lo := 0) (n := n.toNat) j I (pi_range1 hg hm ha hs0) (fun σ H S t R k => ⟨S, t, fun vs H1 e1 dv => by
    obtain ⟨v, rfl, h1⟩ := dv.one
    exact ⟨n, by rw [h1.int_], hn.1, hn.2, k H1 e1⟩⟩) h0 (fun i Γ' hi hI => by
      have e : (0 : Int) + (i : Int) = (i : Int) := Int.zero_add _
      rw [e]
      exact hb i Γ' (by omega) hI) hd hp hN hc hj hx hf hs hfn
theorem s_forR2 (j : Nat) {body : List Stmt} {px p1 p2 : Pos} {lo hi : Int} (I : Nat → Gm → Prop) (ha : Pa X c Γ [a, b] [.int lo, .int hi]) (hl : Sml lo) (hh : Sml hi) (h0 : I 0 Γ) (hb : ∀ (i : Nat) (Γ' : Gm), lo + (i : Int) < hi → I i Γ' → Bl X c (Γ'.set j (some (.im (.int (lo + i))))) body { nx := I (i + 1), rt := Po.rt, ct := I (i + 1), bk := Po.nx })
    (hd : ∀ Γ', I (hi - lo).toNat Γ' → Po.nx Γ') (hm : X.mg "range" = none) (hp : PassesOwn (model X.prog X.w) X.A X.env X.xe) (hN : X.N.Nodup) (hc : X.calm = true := by rfl) (hj : X.N[j]? = some x := by rfl) (hx : Loc X.env.scope x := by first | exact Or.inl rfl | exact Or.inr rfl) (hf : fxB c.fx j = true := by rfl) (hg : Gl X "range" := by rfl)
    (hs0 : starEach [a, b] X.env = [(false, eval a X.env), (false, eval b X.env)] := by rfl) (hs1 : starEach [b] X.env = [(false, eval b X.env)] := by rfl) (hs : ∀ x, foldedSetIterable (.Call (.Name "range" p1) [a, b] [] p2) X.env x = pure x := by intro _; rfl) (hfn : X.fn x = true ∨ X.env.scope.names.lookup x = some .local := by first | exact .inl rfl | exact .inr rfl) : Sm X c Γ (.For (.Name x px) (.Call (.Name "range" p1) [a, b] [] p2) body [] pos) Po :=
  s_forR_ (lo := lo) (n := (hi - lo).toNat) j I (pi_range2 hg hm ha hs0 hs1) (fun σ H S t R k => ⟨S, t, fun vs H1 e1 dv => by
    obtain ⟨v, w, rfl, h1, h2⟩ := dv.two
    exact ⟨lo, hi, by rw [h1.int_, h2.int_], ⟨hl.1, hl.2, hh.1, hh.2⟩, k H1 e1⟩⟩) h0 (fun i Γ' hi' hI => hb i Γ' (by omega) hI) hd hp hN hc hj hx hf hs hfn
/-- while; I by a measure -/
theorem s_while {k : Gm → Bool} {t' : Expr} {body : List Stmt} (I : Nat → Gm → Prop) (m0 : Nat) (h0 : I m0 Γ) (ht : ∀ m Γ', I m Γ' → Pt X c Γ' t' (k Γ')) (hb : ∀ m Γ', I m Γ' → k Γ' = true → Bl X c Γ' body { nx := fun Γ2 => ∃ m2, m2 < m ∧ I m2 Γ2, rt := Po.rt, ct := fun Γ2 => ∃ m2, m2 < m ∧ I m2 Γ2, bk := Po.nx })
    (hd : ∀ m Γ', I m Γ' → k Γ' = false → Po.nx Γ') (hp : PassesOwn (model X.prog X.w) X.A X.env X.xe) : Sm X c Γ (.While t' body [] pos) Po := by
  have hB : PSs X body (fun Ds σ H => ∃ (m : Nat) (Γ' : Gm), I m Γ' ∧ k Γ' = true ∧ tB X.K c Γ' { nx := fun Γ2 => ∃ m2, m2 < m ∧ I m2 Γ2, rt := Po.rt, ct := fun Γ2 => ∃ m2, m2 < m ∧ I m2 Γ2, bk := Po.nx } Ds σ H) :=
    ⟨fun pins s σ H Ds J ⟨m, Γ', h1, h2, q⟩ => (hb m Γ' h1 h2).run pins s σ H Ds J q⟩
  have hT : PT X t' (fun σ H Q => ∃ (m : Nat) (Γ' : Gm), I m Γ' ∧ tQ X.K c Γ' (k Γ') σ H Q) := ⟨fun pins s σ H Q J ⟨m, Γ', h1, q⟩ => (ht m Γ' h1).run pins s σ H Q J q⟩
  refine PS.wk (ps_while hp hT hB) fun Ds σ H ⟨S, t, q⟩ => ⟨fun m σ' H' => ∃ S' Γ', Rl S H S' H' ∧ Gd X.K c S' σ' H' Γ' ∧ I m Γ', ⟨m0, S, Γ, .refl, t, h0⟩, ?_⟩
  rintro m σ' H' ⟨S', Γ', r, g, hI⟩
  refine ⟨m, Γ', hI, S', g, fun H2 e2 => ?_⟩
  have g2 := g.ext e2
  have r2 : Rl S H S' H2 := r.trans (.of e2)
  cases hk : k Γ' with
  | true =>
    refine iteT ?_
    refine ⟨fun σ3 H3 => ∃ m', m' < m ∧ ∃ S3 Γ3, Rl S H S3 H3 ∧ Gd X.K c S3 σ3 H3 Γ3 ∧ I m' Γ3, fun σ3 H3 h => h, m, Γ', hI, hk, S', g2, ⟨fun σ4 H4 S4 Γ4 r4 g4 ⟨m2, l, h⟩ => ⟨m2, l, S4, Γ4, r2.trans r4, g4, h⟩, fun v σ4 H4 S4 Γ4 en r4 g4 rs h => q.rt v σ4 H4 S4 Γ4 en (r2.trans r4) g4 rs h,
      fun σ4 H4 S4 Γ4 r4 g4 h => q.nx σ4 H4 S4 Γ4 (r2.trans r4) g4 h, fun σ4 H4 S4 Γ4 r4 g4 ⟨m2, l, h⟩ => ⟨m2, l, S4, Γ4, r2.trans r4, g4, h⟩⟩⟩
  | false =>
    refine iteF ?_
    exact q.nx σ' H2 S' Γ' r2 g2 (hd m Γ' hI hk)
end
end Spr

set_option Elab.async false
set_option linter.all false
set_option maxRecDepth 100000
set_option maxHeartbeats 4000000
/-! New lists, lists of one's own, comprehensions; a def by its body. -/
namespace Spr
open PySem PySem.Spec PyProof.Rows L2

/-- the expression comes to a new list of l: nothing else leans on it -/
def tO (K : PySem.W.Frag) (c : Cn) (Γ : Gm) (l : List D) : TE := fun σ H Q => ∃ S, Gd K c S σ H Γ ∧ ∀ p xs H', Same H H' → H p = none → H' p = some (.lst xs) → DenL K (more S p) H' xs l → Q (.ref p) H'
abbrev Pn (X : Cx) (c : Cn) (Γ : Gm) (e : Expr) (l : List D) : Prop := PE X e (tO X.K c Γ l)

section
variable {X : Cx} {c : Cn} {Γ : Gm} {a b e : Expr} {es : List Expr} {pos p : Pos} {da db dc d : D} {st : Stmt} {rest A B : List Stmt} {Po : Post} {x : Str}
theorem DenL.off {K : PySem.W.Frag} {S : Addr → Prop} {H : Hp} {p : Addr} {xs : List V} {l : List D} (h : DenL K (more S p) H xs l) : DenL K S H xs l := h.less fun a z => .inl z
theorem tO_p {K : PySem.W.Frag} {l : List D} {σ : L2.St} {H : Hp} {Q : VK} (h : tP K c Γ (.lst l) σ H Q) : tO K c Γ l σ H Q := by
  obtain ⟨S, t, q⟩ := h
  exact ⟨S, t, fun p xs H' e hn hp hl => q _ H' e (.lst (.inl hp) (fun z => t.dom p z hn) hl.off)⟩
/-- as a thing -/
theorem n_p {l : List D} (h : Pn X c Γ e l) : Pe X c Γ e (.lst l) := PE.wk h fun σ H Q q => tO_p q
/-- as a thing that is tracked -/
theorem n_t {l : List D} (h : Pn X c Γ e l) : Pe X c Γ e (.tl l) := PE.wk h fun σ H Q ⟨S, t, q⟩ => ⟨S, t, fun p xs H' e hn hp hl => q _ H' e (.tl (.inl hp) (fun z => t.dom p z hn) hl.off)⟩
theorem p_up {l : List D} (h : Pe X c Γ e (.tl l)) : Pe X c Γ e (.lst l) := PE.wk h fun σ H Q ⟨S, t, q⟩ => ⟨S, t, fun v H1 e1 d1 => q v H1 e1 d1.up⟩
theorem n_is {l l' : List D} (h : Pn X c Γ e l) (q : l = l') : Pn X c Γ e l' := q ▸ h
theorem DenL.on {K : PySem.W.Frag} {S : Addr → Prop} {H : Hp} {p : Addr} {o : HO} {xs : List V} {l : List D} (h : DenL K S H xs l) (hn : H p = none) : DenL K (more S p) (upd H p o) xs l := h.mono (rl_more hn (same_new hn))
theorem n_lst {ds : List D} (h : Pa X c Γ es ds) (hl : ds.length ≤ 16000000 := by simp) : Pn X c Γ (.List es pos) ds :=
  PE.wk (pe_lst h) fun σ H Q ⟨S, t, q⟩ => ⟨S, t, fun vs H1 e1 d1 => ⟨by rw [d1.length]; exact small_line hl, fun p hp => q p vs _ (e1.trans (same_new hp)) (e1.free hp) upd_same (d1.on hp)⟩⟩
/-- list(xs), list(t) -/
theorem n_list {l : List D} (ha : Pe X c Γ a (.lst l)) (hm : X.mg "list" = none) (hg : Gl X "list" := by rfl) (he : starEach [a] X.env = (false, eval a X.env) :: starEach [] X.env := by rfl) : Pn X c Γ (.Call (.Name "list" p) [a] [] pos) l :=
  PE.wk (pe_callTy call_list_of hg hm (by decide +kernel) (a_cons ha a_nil he) (he := he)) fun σ H Q ⟨S, t, q⟩ => ⟨S, t, fun vs H1 e1 d1 => by
    obtain ⟨v, rfl, h1⟩ := d1.one
    obtain ⟨u, xs, rfl, h2, h3⟩ := h1.lst_
    exact ⟨u, xs, rfl, .inl h2, fun p hp => q p xs _ (e1.trans (same_new hp)) (e1.free hp) upd_same (h3.on hp)⟩⟩
theorem n_listT {l : List D} (ha : Pe X c Γ a (.tup l)) (hm : X.mg "list" = none) (hg : Gl X "list" := by rfl) (he : starEach [a] X.env = (false, eval a X.env) :: starEach [] X.env := by rfl) : Pn X c Γ (.Call (.Name "list" p) [a] [] pos) l :=
  PE.wk (pe_callTy call_list_of hg hm (by decide +kernel) (a_cons ha a_nil he) (he := he)) fun σ H Q ⟨S, t, q⟩ => ⟨S, t, fun vs H1 e1 d1 => by
    obtain ⟨v, rfl, h1⟩ := d1.one
    obtain ⟨u, xs, rfl, h2, h3⟩ := h1.tup_
    exact ⟨u, xs, rfl, .inr h2, fun p hp => q p xs _ (e1.trans (same_new hp)) (e1.free hp) upd_same (h3.on hp)⟩⟩
/-- a part of a slice -/
def tPt (K : PySem.W.Frag) (c : Cn) (Γ : Gm) (o : Option Int) : TO := fun σ H Q => ∃ S, Gd K c S σ H Γ ∧ ∀ H', Same H H' → Q o H'
theorem o_none : PO X none (tPt X.K c Γ none) := ⟨fun pins s σ H Q I ⟨S, t, q⟩ => po_none.run pins s σ H Q I (q H (Same.refl H))⟩
theorem o_some {i : Int} (h : Pe X c Γ e (.int i)) : PO X (some e) (tPt X.K c Γ (some i)) := ⟨fun pins s σ H Q I ⟨S, t, q⟩ => (po_some h).run pins s σ H Q I ⟨S, t, fun v H1 e1 d1 => ⟨i, d1.int_, q H1 e1⟩⟩⟩
def cutD (xs : List D) (lo hi : Option Int) : List D := (xs.drop (HT.sIx xs.length 0 lo)).take (HT.sIx xs.length xs.length hi - HT.sIx xs.length 0 lo)
theorem DenL.cut {K : PySem.W.Frag} {S : Addr → Prop} {H : Hp} {xs : List V} {l : List D} (h : DenL K S H xs l) (lo hi : Option Int) : DenL K S H (cutV xs lo hi) (cutD l lo hi) := by
  unfold cutV cutD
  rw [h.length]
  exact (h.drop _).take _
theorem n_slice {l : List D} {lo hi : Option Expr} {l1 h1 : Option Int} {p2 : Pos} (ha : Pe X c Γ a (.lst l)) (hl : PO X lo (tPt X.K c Γ l1)) (hh : PO X hi (tPt X.K c Γ h1)) : Pn X c Γ (.Subscript a (.Slice lo hi none p2) pos) (cutD l l1 h1) :=
  PE.wk (pe_slice sl_list ha hl hh) fun σ H Q ⟨S, t, q⟩ => ⟨S, t, fun v H1 e1 d1 => ⟨S, t.ext e1, fun H2 e2 => ⟨S, t.ext (e1.trans e2), fun H3 e3 => by
    obtain ⟨u, xs, rfl, h2, h3⟩ := (d1.ext (e2.trans e3)).lst_
    exact ⟨u, xs, rfl, h2, fun p hp => q p _ _ (((e1.trans e2).trans e3).trans (same_new hp)) (((e1.trans e2).trans e3).free hp) upd_same ((h3.cut l1 h1).on hp)⟩⟩⟩⟩
/-- xs + ys, both new -/
theorem n_cat {l m : List D} (ha : Pn X c Γ a l) (hb : Pn X c Γ b m) (hz : l.length + m.length ≤ 16000000) : Pn X c Γ (.BinOp a .Add b pos) (l ++ m) :=
  PE.wk (pe_op op_cat ha hb) fun σ H Q ⟨S, t, q⟩ => ⟨S, t, fun p1 xs H1 e1 n1 h1 d1 => ⟨S, t.ext e1, fun p2 ys H2 e2 n2 h2 d2 =>
    ⟨p1, p2, xs, ys, rfl, rfl, e2 _ _ h1, h2, by rw [d1.length, d2.length]; exact small_line hz, fun p hp => q p _ _ ((e1.trans e2).trans (same_new hp)) ((e1.trans e2).free hp) upd_same (((d1.off.ext e2).append d2.off).on hp)⟩⟩⟩

/-! ### comprehensions of one clause -/
def tIn {α : Type} (K : PySem.W.Frag) (c : Cn) (Γ : Gm) (j : Nat) (xs : List α) (enc : α → D) (f : α → D) (p : α → Bool) : TE := fun σ H Q => ∃ x, x ∈ xs ∧ p x = true ∧ tP K c (Γ.set j (some (.im (enc x)))) (f x) σ H Q
def tInT {α : Type} (K : PySem.W.Frag) (c : Cn) (Γ : Gm) (j : Nat) (xs : List α) (enc : α → D) (p : α → Bool) : TT := fun σ H Q => ∃ x, x ∈ xs ∧ tQ K c (Γ.set j (some (.im (enc x)))) (p x) σ H Q
/-- the contexts of a comprehension's block -/
abbrev InBlk (X : Cx) (scope : Scope) (P : Cx → Prop) : Prop := ∀ (s : Shared) (H : Hp) (C : Addr) (cl : List (Str × Addr)) (fp : List Addr), P (X.blk s H scope (compEnvC scope cl C X.env) fp)
theorem filt_take {α β : Type} {xs : List α} {p : α → Bool} {f : α → β} {i : Nat} {x : α} (h : xs[i]? = some x) : ((xs.take (i + 1)).filter p).map f = ((xs.take i).filter p).map f ++ (if p x = true then [f x] else []) := by
  have e : xs.take (i + 1) = xs.take i ++ [x] := by
    rw [List.take_succ, h]
    rfl
  rw [e, List.filter_append, List.map_append]
  congr 1
  by_cases q : p x = true
  · rw [if_pos q, List.filter_cons, if_pos q]; rfl
  · rw [if_neg q, List.filter_cons, if_neg q]; rfl
theorem filt_len {α β : Type} {xs : List α} {p : α → Bool} {f : α → β} : ((xs.filter p).map f).length ≤ xs.length := by
  rw [List.length_map]
  exact List.length_filter_le _ _
/-- what stays in a comprehension's turns: Dl its list -/
def LcI {α : Type} (K : PySem.W.Frag) (S : Addr → Prop) (H1 : Hp) (Dl : Addr) (xs : List α) (p : α → Bool) (f : α → D) (i : Nat) (H' : Hp) : Prop :=
  Same H1 H' ∧ ∃ acc, H' Dl = some (.lst acc) ∧ DenL K (more S Dl) H' acc (((xs.take i).filter p).map f)
theorem lc_turn {α : Type} {K : PySem.W.Frag} {S : Addr → Prop} {σ : L2.St} {H1 H' : Hp} {Dl : Addr} {j : Nat} {vs : List Nat} {xs : List α} {enc : α → D} {p : α → Bool} {f : α → D} {i : Nat} {x : α} {y : V} (t : Gd K c S σ H1 Γ) (hD : H1 Dl = none) (hz : xs.length ≤ 16000000)
    (hf : ∀ v ∈ vs, ∀ q ∈ c.fx, q.1 ≠ v) (hj : j ∈ vs) (hi : xs[i]? = some x) (hy : Den K S H1 y (enc x)) (h : LcI K S H1 Dl xs p f i H') :
    wipe ((wipe σ vs).set j (some y)) vs = wipe σ vs ∧ tInT K c (wipeG Γ vs) j xs enc p ((wipe σ vs).set j (some y)) H' fun b H3 => if b = true then tIn K c (wipeG Γ vs) j xs enc f p ((wipe σ vs).set j (some y)) H3 fun z H4 => ∃ acc, H4 Dl = some (.lst acc) ∧ acc.length < sizeLine ∧ LcI K S H1 Dl xs p f (i + 1) (upd H4 Dl (.lst (acc ++ [z])))
      else LcI K S H1 Dl xs p f (i + 1) H3 := by
  obtain ⟨e1, acc, h1, h2⟩ := h
  have g : Gd K c (more S Dl) ((wipe σ vs).set j (some y)) H' ((wipeG Γ vs).set j (some (.im (enc x)))) := ((t.plus hD e1 (by rw [h1]; simp)).wipe vs hf).setIm (hy.mono (rl_more hD e1)) (hf j hj)
  refine ⟨wipe_wipe σ vs hj _, x, List.mem_of_getElem? hi, more S Dl, g, fun H3 e3 => ?_⟩
  cases q : p x with
  | true =>
    refine iteT ?_
    refine ⟨x, List.mem_of_getElem? hi, q, more S Dl, g.ext e3, fun z H4 e4 d4 => ⟨acc, e4 _ _ (e3 _ _ h1), ?_, fun b o hb => ?_, acc ++ [z], upd_same, ?_⟩⟩
    · rw [h2.length]
      refine Nat.lt_of_le_of_lt (Nat.le_trans filt_len ?_) (by decide : 16000000 < sizeLine)
      rw [List.length_take]
      omega
    · rw [upd_ne (ne_of_none hb hD)]
      exact e4 _ _ (e3 _ _ (e1 _ _ hb))
    · rw [filt_take hi, if_pos q]
      exact ((h2.ext (e3.trans e4)).append (.cons d4 .nil)).mono (rl_upd (.inr rfl))
  | false =>
    refine iteF ?_
    refine ⟨e1.trans e3, acc, e3 _ _ h1, ?_⟩
    rw [filt_take hi, if_neg (by rw [q]; decide), List.append_nil]
    exact h2.ext e3
theorem lc_end {α : Type} {K : PySem.W.Frag} {S : Addr → Prop} {σ : L2.St} {H0 H1 H' : Hp} {Dl : Addr} {xs : List α} {p : α → Bool} {f : α → D} {Q : VK} (e0 : Same H0 H1) (hD : H1 Dl = none) (h : LcI K S H1 Dl xs p f xs.length H')
    (q : ∀ p' ys H', Same H0 H' → H0 p' = none → H' p' = some (.lst ys) → DenL K (more S p') H' ys ((xs.filter p).map f) → Q (.ref p') H') : Q (.ref Dl) H' := by
  obtain ⟨e1, acc, h1, h2⟩ := h
  rw [List.take_length] at h2
  exact q Dl acc H' (e0.trans e1) (e0.free hD) h1 h2
/-- over a list -/
theorem lcL_read {α : Type} {K : PySem.W.Frag} {ti : TE} {j : Nat} {vs : List Nat} {xs : List α} {enc : α → D} {p : α → Bool} {f : α → D} {σ : L2.St} {H : Hp} {Q : VK} (hi : ∀ S, Gd K c S σ H Γ → ∀ Q : VK, (∀ v H', Same H H' → Den K S H' v (.lst (xs.map enc)) → Q v H') → ti σ H Q)
    (hz : xs.length ≤ 16000000) (hf : ∀ v ∈ vs, ∀ q ∈ c.fx, q.1 ≠ v) (hj : j ∈ vs) (h : tO K c Γ ((xs.filter p).map f) σ H Q) :
    tLc (iList K ti) (gName j) (tInT K c (wipeG Γ vs) j xs enc p) (tIn K c (wipeG Γ vs) j xs enc f p) vs σ H Q := by
  obtain ⟨S, t, q⟩ := h
  refine hi S t _ fun v H1 e1 d1 => ?_
  obtain ⟨a, ys, rfl, h2, h3⟩ := d1.lstL
  have hlen : ys.length = xs.length := by rw [h3.length, List.length_map]
  refine ⟨a, rfl, ⟨ys, h2.sq⟩, fun Dl hD => lc_list (xs := ys) (LcI K S H1 Dl xs p f) ⟨same_new hD, [], upd_same, .nil⟩ (fun i H' _ z => (h2.mono (.of z.1)).sq) (fun i y H' hy z => ?_) fun H' z => lc_end (σ := σ) e1 hD (by rw [← hlen]; exact z) q⟩
  obtain ⟨d, h4, h5⟩ := h3.get hy
  rw [List.getElem?_map] at h4
  cases hx : xs[i]? with
  | none => rw [hx] at h4; cases h4
  | some x =>
    rw [hx] at h4
    cases h4
    exact lc_turn (t.ext e1) hD hz hf hj hx h5 z
theorem lcT_read {α : Type} {K : PySem.W.Frag} {ti : TE} {j : Nat} {vs : List Nat} {xs : List α} {enc : α → D} {p : α → Bool} {f : α → D} {σ : L2.St} {H : Hp} {Q : VK} (hi : ∀ S, Gd K c S σ H Γ → ∀ Q : VK, (∀ v H', Same H H' → Den K S H' v (.tup (xs.map enc)) → Q v H') → ti σ H Q)
    (hz : xs.length ≤ 16000000) (hf : ∀ v ∈ vs, ∀ q ∈ c.fx, q.1 ≠ v) (hj : j ∈ vs) (h : tO K c Γ ((xs.filter p).map f) σ H Q) :
    tLc (iTup K ti) (gName j) (tInT K c (wipeG Γ vs) j xs enc p) (tIn K c (wipeG Γ vs) j xs enc f p) vs σ H Q := by
  obtain ⟨S, t, q⟩ := h
  refine hi S t _ fun v H1 e1 d1 => ?_
  obtain ⟨a, ys, rfl, h2, h3⟩ := d1.tupL
  have hlen : ys.length = xs.length := by rw [h3.length, List.length_map]
  refine ⟨a, rfl, ⟨ys, h2.sq⟩, fun Dl hD => lc_tup (xs := ys) (LcI K S H1 Dl xs p f) ⟨same_new hD, [], upd_same, .nil⟩ (fun i H' _ z => (h2.mono (.of z.1)).sq) (fun i y H' hy z => ?_) fun H' z => lc_end (σ := σ) e1 hD (by rw [← hlen]; exact z) q⟩
  obtain ⟨d, h4, h5⟩ := h3.get hy
  rw [List.getElem?_map] at h4
  cases hx : xs[i]? with
  | none => rw [hx] at h4; cases h4
  | some x =>
    rw [hx] at h4
    cases h4
    exact lc_turn (t.ext e1) hD hz hf hj hx h5 z
/-- over numbers lo, lo + 1, .. -/
def encR (lo : Int) (i : Nat) : D := .int (lo + (i : Int))
theorem lcR_read {K : PySem.W.Frag} {wi : TI} {lo : Int} {n : Nat} {j : Nat} {vs : List Nat} {p : Nat → Bool} {f : Nat → D} {σ : L2.St} {H : Hp} {Q : VK} (hi : ∀ S, Gd K c S σ H Γ → ∀ R : It → Hp → Prop, (∀ H', Same H H' → R (Itr lo n) H') → wi σ H R)
    (hz : n ≤ 16000000) (hf : ∀ v ∈ vs, ∀ q ∈ c.fx, q.1 ≠ v) (hj : j ∈ vs) (h : tO K c Γ (((List.range n).filter p).map f) σ H Q) :
    tLc wi (gName j) (tInT K c (wipeG Γ vs) j (List.range n) (encR lo) p) (tIn K c (wipeG Γ vs) j (List.range n) (encR lo) f p) vs σ H Q := by
  obtain ⟨S, t, q⟩ := h
  refine hi S t _ fun H1 e1 Dl hD => ?_
  refine lc_range (lo := lo) (n := n) (LcI K S H1 Dl (List.range n) p f) ⟨same_new hD, [], upd_same, .nil⟩ (fun i H' hi z => ?_) fun H' z => lc_end (σ := σ) e1 hD (by rw [List.length_range]; exact z) q
  have hx : (List.range n)[i]? = some i := by simp [hi]
  exact lc_turn (y := .int (lo + i)) (t.ext e1) hD (by rw [List.length_range]; exact hz) hf hj hx (.int _) z
theorem wfx {vs : List Nat} (h : (vs.all fun v => fxB c.fx v) = true) : ∀ v ∈ vs, ∀ q ∈ c.fx, q.1 ≠ v := fun v hv => fxB_ok (List.all_eq_true.mp h v hv)

section
variable {α : Type} {elt iter tgx : Expr} {ifs : List Expr} {scope : Scope} {own : List (Str × Nat)} {ppos lpos : Pos} {y : Str} {xs : List α} {enc : α → D} {f : α → D} {pr : α → Bool} {j : Nat}
theorem in_elt (he : ∀ x, x ∈ xs → pr x = true → InBlk X scope fun X' => Pe X' c ((wipeG Γ (own.map (·.2))).set j (some (.im (enc x)))) elt (f x)) : InBlk X scope fun X' => PE X' elt (tIn X.K c (wipeG Γ (own.map (·.2))) j xs enc f pr) :=
  fun s H C cl fp => ⟨fun pins s1 σ H1 Q I ⟨x, h1, h2, q⟩ => (he x h1 h2 s H C cl fp).run pins s1 σ H1 Q I q⟩
theorem in_tst (ht : ∀ x, x ∈ xs → InBlk X scope fun X' => PTs X' ifs (tQ X.K c ((wipeG Γ (own.map (·.2))).set j (some (.im (enc x)))) (pr x))) : InBlk X scope fun X' => PTs X' ifs (tInT X.K c (wipeG Γ (own.map (·.2))) j xs enc pr) :=
  fun s H C cl fp => ⟨fun pins s1 σ H1 Q I ⟨x, h1, q⟩ => (ht x h1 s H C cl fp).run pins s1 σ H1 Q I q⟩
theorem ts_nil : PTs X [] (tQ X.K c Γ true) := ⟨fun pins s σ H Q I ⟨S, t, q⟩ => pts_nil.run pins s σ H Q I (q H (Same.refl H))⟩
theorem ts_one {k : Bool} (h : Pt X c Γ e k) : PTs X [e] (tQ X.K c Γ k) := pts_one h
/-- [elt for y in iter if ..], iter a list -/
theorem n_lcL (enc : α → D) (f : α → D) (pr : α → Bool) (hi : Pe X c Γ iter (.lst (xs.map enc))) (hz : xs.length ≤ 16000000) (ok : BlkOk X.N X.env.scope scope own) (hg : InBlk X scope fun X' => PG X' (.Name y ppos) (gName j))
    (ht : ∀ x, x ∈ xs → InBlk X scope fun X' => PTs X' ifs (tQ X.K c ((wipeG Γ (own.map (·.2))).set j (some (.im (enc x)))) (pr x))) (he : ∀ x, x ∈ xs → pr x = true → InBlk X scope fun X' => Pe X' c ((wipeG Γ (own.map (·.2))).set j (some (.im (enc x)))) elt (f x))
    (hN : X.N.Nodup) (hc : X.calm = true := by rfl) (hf : ((own.map (·.2)).all fun v => fxB c.fx v) = true := by rfl) (hj : j ∈ own.map (·.2) := by decide) (hs : ∀ x, foldedSetIterable iter X.env x = pure x := by intro _; rfl) :
    Pn X c Γ (.ListComp elt [⟨.Name y ppos, iter, ifs, 0⟩] scope lpos) ((xs.filter pr).map f) :=
  PE.wk (pe_lc hc hN (pi_list hi) ok hg (in_tst ht) (in_elt he) hs) fun σ H Q h => lcL_read (fun S t Q' q => ⟨S, t, q⟩) hz (wfx hf) hj h
theorem n_lcT (enc : α → D) (f : α → D) (pr : α → Bool) (hi : Pe X c Γ iter (.tup (xs.map enc))) (hz : xs.length ≤ 16000000) (ok : BlkOk X.N X.env.scope scope own) (hg : InBlk X scope fun X' => PG X' (.Name y ppos) (gName j))
    (ht : ∀ x, x ∈ xs → InBlk X scope fun X' => PTs X' ifs (tQ X.K c ((wipeG Γ (own.map (·.2))).set j (some (.im (enc x)))) (pr x))) (he : ∀ x, x ∈ xs → pr x = true → InBlk X scope fun X' => Pe X' c ((wipeG Γ (own.map (·.2))).set j (some (.im (enc x)))) elt (f x))
    (hN : X.N.Nodup) (hc : X.calm = true := by rfl) (hf : ((own.map (·.2)).all fun v => fxB c.fx v) = true := by rfl) (hj : j ∈ own.map (·.2) := by decide) (hs : ∀ x, foldedSetIterable iter X.env x = pure x := by intro _; rfl) :
    Pn X c Γ (.ListComp elt [⟨.Name y ppos, iter, ifs, 0⟩] scope lpos) ((xs.filter pr).map f) :=
  PE.wk (pe_lc hc hN (pi_tup hi) ok hg (in_tst ht) (in_elt he) hs) fun σ H Q h => lcT_read (fun S t Q' q => ⟨S, t, q⟩) hz (wfx hf) hj h
/-- [elt for y in range(n) if ..] -/
theorem n_lcR1 {n : Int} {p1 p2 : Pos} (f : Nat → D) (pr : Nat → Bool) (hi : Pa X c Γ [a] [.int n]) (hz : n ≤ 16000000) (hz0 : -(2 ^ 62) ≤ n) (ok : BlkOk X.N X.env.scope scope own) (hg : InBlk X scope fun X' => PG X' (.Name y ppos) (gName j))
    (ht : ∀ i : Nat, (i : Int) < n → InBlk X scope fun X' => PTs X' ifs (tQ X.K c ((wipeG Γ (own.map (·.2))).set j (some (.im (.int (i : Int))))) (pr i))) (he : ∀ i : Nat, (i : Int) < n → pr i = true → InBlk X scope fun X' => Pe X' c ((wipeG Γ (own.map (·.2))).set j (some (.im (.int (i : Int))))) elt (f i))
    (hN : X.N.Nodup) (hm : X.mg "range" = none) (hc : X.calm = true := by rfl) (hf : ((own.map (·.2)).all fun v => fxB c.fx v) = true := by rfl) (hj : j ∈ own.map (·.2) := by decide) (hg1 : Gl X "range" := by rfl) (hs0 : starEach [a] X.env = [(false, eval a X.env)] := by rfl) (hs : ∀ x, foldedSetIterable (.Call (.Name "range" p1) [a] [] p2) X.env x = pure x := by intro _; rfl) :
    Pn X c Γ (.ListComp elt [⟨.Name y ppos, .Call (.Name "range" p1) [a] [] p2, ifs, 0⟩] scope lpos) (((List.range n.toNat).filter pr).map f) := by
  have mem : ∀ {i : Nat}, i ∈ List.range n.toNat → (i : Int) < n := fun {i} h => by
    have q := List.mem_range.mp h
    omega
  have z : ∀ i : Nat, encR 0 i = .int (i : Int) := fun i => by unfold encR; rw [Int.zero_add]
  refine PE.wk (pe_lc hc hN (pi_range1 hg1 hm hi hs0) ok hg (in_tst (xs := List.range n.toNat) (enc := encR 0) (pr := pr) fun i h => by rw [z]; exact ht i (mem h)) (in_elt (xs := List.range n.toNat) (enc := encR 0) (pr := pr) (f := f) fun i h q => by rw [z]; exact he i (mem h) q) hs)
    fun σ H Q h => lcR_read (lo := 0) (n := n.toNat) (fun S t R q => ⟨S, t, fun vs H1 e1 dv => ?_⟩) (by omega) (wfx hf) hj h
  obtain ⟨v, rfl, h1⟩ := dv.one
  exact ⟨n, by rw [h1.int_], hz0, by omega, q H1 e1⟩
theorem n_lcR2 {lo hi' : Int} {p1 p2 : Pos} (f : Nat → D) (pr : Nat → Bool) (hi : Pa X c Γ [a, b] [.int lo, .int hi']) (hz : -16000000 ≤ lo ∧ lo ≤ 16000000 ∧ -16000000 ≤ hi' ∧ hi' ≤ 16000000 ∧ hi' - lo ≤ 16000000) (ok : BlkOk X.N X.env.scope scope own) (hg : InBlk X scope fun X' => PG X' (.Name y ppos) (gName j))
    (ht : ∀ i : Nat, lo + (i : Int) < hi' → InBlk X scope fun X' => PTs X' ifs (tQ X.K c ((wipeG Γ (own.map (·.2))).set j (some (.im (.int (lo + (i : Int)))))) (pr i))) (he : ∀ i : Nat, lo + (i : Int) < hi' → pr i = true → InBlk X scope fun X' => Pe X' c ((wipeG Γ (own.map (·.2))).set j (some (.im (.int (lo + (i : Int)))))) elt (f i))
    (hN : X.N.Nodup) (hm : X.mg "range" = none) (hc : X.calm = true := by rfl) (hf : ((own.map (·.2)).all fun v => fxB c.fx v) = true := by rfl) (hj : j ∈ own.map (·.2) := by decide) (hg1 : Gl X "range" := by rfl) (hs0 : starEach [a, b] X.env = [(false, eval a X.env), (false, eval b X.env)] := by rfl) (hs1 : starEach [b] X.env = [(false, eval b X.env)] := by rfl) (hs : ∀ x, foldedSetIterable (.Call (.Name "range" p1) [a, b] [] p2) X.env x = pure x := by intro _; rfl) :
    Pn X c Γ (.ListComp elt [⟨.Name y ppos, .Call (.Name "range" p1) [a, b] [] p2, ifs, 0⟩] scope lpos) (((List.range (hi' - lo).toNat).filter pr).map f) := by
  have mem : ∀ {i : Nat}, i ∈ List.range (hi' - lo).toNat → lo + (i : Int) < hi' := fun {i} h => by
    have q := List.mem_range.mp h
    omega
  refine PE.wk (pe_lc hc hN (pi_range2 hg1 hm hi hs0 hs1) ok hg (in_tst (xs := List.range (hi' - lo).toNat) (enc := encR lo) (pr := pr) fun i h => ht i (mem h)) (in_elt (xs := List.range (hi' - lo).toNat) (enc := encR lo) (pr := pr) (f := f) fun i h q => he i (mem h) q) hs)
    fun σ H Q h => lcR_read (lo := lo) (n := (hi' - lo).toNat) (fun S t R q => ⟨S, t, fun vs H1 e1 dv => ?_⟩) (by omega) (wfx hf) hj h
  obtain ⟨v, w, rfl, h1, h2⟩ := dv.two
  exact ⟨lo, hi', by rw [h1.int_, h2.int_], ⟨by omega, by omega, by omega, by omega⟩, q H1 e1⟩
end
theorem filt_all {α β : Type} {xs : List α} {f : α → β} : (xs.filter fun _ => true).map f = xs.map f := by
  rw [List.filter_eq_self.mpr (fun _ _ => rfl)]

/-! ### statements over lists of one's own -/
theorem s_setO (i : Nat) {l : List D} {pos' : Pos} (he : Pn X c Γ e l) (hr : Po.nx (Γ.set i (some (.ow l)))) (hN : X.N.Nodup) (hi : X.N[i]? = some x := by rfl) (hx : Loc X.env.scope x := by first | exact Or.inl rfl | exact Or.inr rfl) (hf : fxB c.fx i = true := by rfl)
    (hs : swapsWith e (some (.Name x pos')) pos.line X.env = pure false := by rfl) (hfn : X.fn x = true ∨ X.env.scope.names.lookup x = some .local := by first | exact .inl rfl | exact .inr rfl) : Sm X c Γ (.Assign [.Name x pos'] e pos) Po :=
  PS.wk (ps_set hN hi hx he hs hfn) fun D σ H ⟨S, t, q⟩ => ⟨S, t, fun p xs H1 e1 n1 h1 d1 => q.nx _ H1 _ _ (rl_more n1 e1) (t.setOw n1 e1 h1 d1 (fxB_ok hf)) hr⟩
/-- y = [.. for ..] on one line -/
theorem tAsg_n {K : PySem.W.Frag} {i : Nat} {l : List D} {te : TE} {Ds : Ends} {σ : L2.St} {H : Hp} (hte : ∀ σ H Q, tO K c Γ l σ H Q → te σ H Q) (hf : fxB c.fx i = true) (hr : Po.nx (Γ.set i (some (.ow l))) ∨ Po.nx (Γ.set i (some (.im (.lst l))))) (h : tB K c Γ Po Ds σ H) : tAsg te (gName i) Ds σ H := by
  obtain ⟨S, t, q⟩ := h
  refine hte σ H _ ⟨S, t, fun p xs H1 e1 n1 h1 d1 => ?_⟩
  rcases hr with hr | hr
  · exact q.nx _ H1 _ _ (rl_more n1 e1) (t.setOw n1 e1 h1 d1 (fxB_ok hf)) hr
  · exact q.nx _ H1 _ _ (.of e1) ((t.ext e1).setIm (.lst (.inl h1) (fun z => t.dom p z n1) d1.off) (fxB_ok hf)) hr
theorem s_freeze (i : Nat) {l : List D} (hi : Γ[i]? = some (some (.ow l))) (h : Bl X c (Γ.set i (some (.im (.lst l)))) A Po) (hf : fxB c.fx i = true := by rfl) : Bl X c Γ A Po :=
  PSs.wk h fun D σ H ⟨S, t, q⟩ => by
    obtain ⟨S', r, g⟩ := t.freeze hi (fxB_ok hf)
    exact ⟨S', g, q.go r⟩
/-- xs.append(e) -/
theorem s_app (k : Nat) {l : List D} {d : D} {p1 p2 p3 : Pos} (hk : Γ[k]? = some (some (.ow l))) (he : Pe X c Γ e d) (hz : l.length < 16000000) (hr : Po.nx (Γ.set k (some (.ow (l ++ [d]))))) (hN : X.N[k]? = some x := by rfl) (hv : Vis X.env.scope x := by first | exact Or.inl rfl | exact Or.inr (Or.inl rfl) | exact Or.inr (Or.inr rfl))
    (hd : (x == ("__debug__" : Str)) = false := by decide) (hcd : (x == ("__classdict__" : Str)) = false := by decide) (hst : starEach [e] X.env = (false, eval e X.env) :: starEach [] X.env := by rfl) {o : Expr} (ho : o = .Call (.Attribute (.Name x p1) "append" p2) [e] [] p3 := by rfl)
    (hbm : ∀ ta, PA X [e] ta → PE X o (tBM X.K "list" rAppend (tVar k) ta)) (hs : swapsWith o none pos.line X.env = pure false := by rfl) : Sm X c Γ (.Expr o pos) Po :=
  PS.wk (ps_expr (hbm _ (a_cons he a_nil hst)) hs) fun D σ H ⟨S, t, q⟩ => by
    obtain ⟨a, xs, h1, h2, h3, h4⟩ := t.ow hk
    refine ⟨.ref a, h1, .inl ⟨rfl, xs, SqL.of h3⟩, S, t, fun vs H1 e1 d1 => ?_⟩
    obtain ⟨v, rfl, h5⟩ := d1.one
    have hS := h2
    refine ⟨a, xs, v, rfl, rfl, e1 _ _ h3, by rw [h4.length]; exact Nat.lt_trans hz (by decide), ?_⟩
    exact q.nx σ _ S _ ((Rl.of e1).trans (rl_upd h2)) ((t.ext e1).change hk h1 h2 (e1 _ _ h3) ((h4.ext e1).append (.cons h5 .nil))) hr
/-- xs[i] = e -/
theorem s_put (k : Nat) {l : List D} {d : D} {i : Int} {m : Nat} {ix : Expr} {p1 p2 : Pos} (hk : Γ[k]? = some (some (.ow l))) (he : Pe X c Γ e d) (hi : Pe X c Γ ix (.int i)) (hm : ixN l.length i = some m) (hr : Po.nx (Γ.set k (some (.ow (l.set m d))))) (hN : X.N[k]? = some x := by rfl) (hv : Vis X.env.scope x := by first | exact Or.inl rfl | exact Or.inr (Or.inl rfl) | exact Or.inr (Or.inr rfl))
    (hd : (x == ("__debug__" : Str)) = false := by decide) (hcd : (x == ("__classdict__" : Str)) = false := by decide)
    (ha : ∀ v, assign (.Subscript (.Name x p1) ix p2) X.env v = (do
      let ov ← holding [v] (eval (.Name x p1) X.env)
      let iv ← holding [v, ov] (eval ix X.env)
      standAt p2
      holding [v, ov, iv] (setItem ov iv v)
      release [v, ov, iv] []) := by intro _; rfl)
    (hs : swapsWithSole [.Subscript (.Name x p1) ix p2] e pos.line X.env = pure false := by rfl) (hw : swappedStores [.Subscript (.Name x p1) ix p2] e X.env = pure none := by rfl)
    (h1 : (assignEach [.Subscript (.Name x p1) ix p2] X.env).map (·.2) = [assign (.Subscript (.Name x p1) ix p2) X.env] := by rfl) : Sm X c Γ (.Assign [.Subscript (.Name x p1) ix p2] e pos) Po :=
  PS.wk (ps_asg he (pg_sub (pe_var hN hv hd hcd) hi set_list ha) hs hw h1) fun D σ H ⟨S, t, q⟩ => ⟨S, t, fun v H1 e1 d1 => by
    obtain ⟨a, xs, h1, h2, h3, h4⟩ := t.ow hk
    refine ⟨.ref a, h1, S, t.ext e1, fun w H2 e2 d2 => ?_⟩
    have e12 := e1.trans e2
    refine ⟨a, xs, i, m, rfl, d2.int_, e12 _ _ h3, by rw [h4.length]; exact hm, ?_⟩
    exact q.nx σ _ S _ ((Rl.of e12).trans (rl_upd h2)) ((t.ext e12).change hk h1 h2 (e12 _ _ h3) (DenL.set (d1.ext e2) m (h4.ext e12))) hr⟩
/-- return xs, a list of one's own, from now on its caller's -/
theorem s_retO (i : Nat) {l : List D} {p1 : Pos} (hi : Γ[i]? = some (some (.ow l))) (h : Po.rt (.ow l) (Γ.set i none)) (hN : X.N[i]? = some x := by rfl) (hv : Vis X.env.scope x := by first | exact Or.inl rfl | exact Or.inr (Or.inl rfl) | exact Or.inr (Or.inr rfl)) (hf : fxB c.fx i = true := by rfl)
    (hd : (x == ("__debug__" : Str)) = false := by decide) (hcd : (x == ("__classdict__" : Str)) = false := by decide) : Sm X c Γ (.Return (some (.Name x p1)) pos) Po :=
  PS.wk (ps_ret (pe_var hN hv hd hcd)) fun D σ H ⟨S, t, q⟩ => by
    obtain ⟨a, xs, h1, h2, h3, h4⟩ := t.ow hi
    refine ⟨.ref a, h1, q.rt (.ref a) σ H S (Γ.set i none) (.ow l) .refl (t.drop i) ⟨a, xs, rfl, h2, t.loc i l a hi h1 (fxB_ok hf), h3, h4, fun j l' hj hs => ?_⟩ h⟩
    have n : i ≠ j := fun z => by
      subst z
      have q2 := (List.getElem?_eq_some_iff.mp hj).1
      rw [List.getElem?_set_self (by simpa using q2)] at hj
      cases hj
    rw [List.getElem?_set_ne n] at hj
    exact n (t.sep i j a l l' hi hj h1 hs)
/-- return [..], a new list, its caller's -/
theorem s_retN' {l : List D} (he : Pn X c Γ e l) (h : Po.rt (.ow l) Γ) : Sm X c Γ (.Return (some e) pos) Po :=
  PS.wk (ps_ret he) fun D σ H ⟨S, t, q⟩ => ⟨S, t, fun p xs H1 e1 n1 h1 d1 => by
    refine q.rt (.ref p) σ H1 (more S p) Γ (.ow l) (rl_more n1 e1) (t.plus n1 e1 (by rw [h1]; simp)) ⟨p, xs, rfl, .inr rfl, fun z => t.dom p (t.sub p z) n1, h1, d1, fun j l' hj hs => ?_⟩ h
    obtain ⟨a, ys, h2, h3, h4, _⟩ := t.ow hj
    rw [hs] at h2
    cases h2
    rw [n1] at h4
    cases h4⟩
end

/-! ### a def by its body -/
def toD : Ent → D
  | .im d => d
  | .ow l => .lst l
def gm0 (n : Nat) (es : List Ent) : Gm := es.map some ++ List.replicate (n - es.length) none
theorem Rs.den {K : PySem.W.Frag} {c : Cn} {S : Addr → Prop} {σ : L2.St} {H : Hp} {Γ : Gm} {v : V} (t : Gd K c S σ H Γ) : ∀ {en : Ent}, Rs K c S σ H Γ v en → Den K c.S0 H v (toD en)
  | .im d, h => Den.less h t.sub
  | .ow l, ⟨a, xs, e, h1, h2, h3, h4, _⟩ => by
    subst e
    exact .lst (.inl h3) h2 (h4.less t.sub)
theorem gd_start {K : PySem.W.Frag} {S : Addr → Prop} {H : Hp} {vs : List V} {ds : List D} {N : List Str} (hd : ∀ a, S a → H a ≠ none) (h : DenL K S H vs ds) : Gd K ⟨S, H, [], []⟩ S (L2.start N vs) H (gm0 N.length (ds.map .im)) := by
  have hl := h.length
  refine ⟨?_, fun i e q => ?_, fun i j a l l' h1 h2 _ _ => ?_, fun i l a h1 _ _ => ?_, fun a z => z, fun a z => .inl z, fun a o z _ _ => z, hd, fun a z _ => z, (fun p z => nomatch z), (fun p z => nomatch z), (fun p z => nomatch z)⟩
  · unfold L2.start gm0
    simp [hl]
  · unfold gm0 at q
    by_cases hi : i < ds.length
    · rw [List.getElem?_append_left (by simpa using hi)] at q
      simp only [List.getElem?_map] at q
      cases e2 : ds[i]? with
      | none => rw [e2] at q; cases q
      | some d =>
        rw [e2] at q
        cases q
        obtain ⟨v, h1, h2⟩ := h.at_ e2
        refine ⟨v, ?_, h2⟩
        unfold L2.start
        rw [List.getElem?_append_left (by rw [List.length_map, hl]; exact hi), List.getElem?_map, h1] <;> rfl
    · rw [List.getElem?_append_right (by simpa using hi), List.getElem?_replicate] at q
      split at q <;> cases q
  all_goals
    have no : ∀ (i : Nat) (l : List D), (gm0 N.length (ds.map .im))[i]? ≠ some (some (.ow l)) := fun i l q => by
      unfold gm0 at q
      by_cases hi : i < ds.length
      · rw [List.getElem?_append_left (by simpa using hi)] at q
        simp only [List.getElem?_map] at q
        cases e2 : ds[i]? with
        | none => rw [e2] at q; cases q
        | some d => rw [e2] at q; cases q
      · rw [List.getElem?_append_right (by simpa using hi), List.getElem?_replicate] at q
        split at q <;> cases q
    exact absurd h1 (no _ _)
section
variable {P : Program} {w : World} {K : PySem.W.Frag} {mg : Str → Option Value} {base : Heap}
/-- the context of a def's body -/
abbrev Bx (P : Program) (w : World) (K : PySem.W.Frag) (mg : Str → Option Value) (base : Heap) (N : List Str) (q : Str) (sc : Scope) (f : Addr) (cdv : Value) (A : Around) (outer : List Env) (s : Shared) (H : Hp) (E : XK) : Cx := cxOf (L2.CX P w) P w K mg base N q sc f cdv A outer s H E
/-- the post of a def that changes nothing -/
abbrev poP (r : Except Er D) : Post := { nx := fun _ => r = .ok .non, rt := fun en _ => r = .ok (toD en) }
theorem mkP {x q : Str} {stt : Stmt} {f : Addr} {fd : FuncData} {N ps : List Str} {k : Nat} {F : Fs} (Fn : Fun K x q stt f fd) (Sc : FnScope N ps (defScope stt)) (len : ∀ ds r, F ds r → ds.length = ps.length)
    (hb : ∀ (cdv : Value) (A : Around) (outer : List Env) (s : Shared) (H : Hp) (E : XK) (S0 : Addr → Prop) (H0 : Hp) (ds : List D) (r : Except Er D), Room k (Bx P w K mg base N q (defScope stt) f cdv A outer s H E).A → F ds r →
      Xr (Bx P w K mg base N q (defScope stt) f cdv A outer s H E) ⟨S0, H0, [], []⟩ (fun e _ => r = .error e) → Bl (Bx P w K mg base N q (defScope stt) f cdv A outer s H E) ⟨S0, H0, [], []⟩ (gm0 N.length (ds.map .im)) (defBody stt) (poP r)) : FnOk P w K mg base (L2.CX P w) (k + 1) f fd ps (upP K F) := by
  refine Fn.okX Sc (fun vs H Q E ⟨S, ds, r, _, hl, hF, _⟩ => by rw [hl.length]; exact len ds r hF) (fun cdv A outer s H vs Q E hr ⟨S, ds, r, hd, hl, hF, k1, k2⟩ => ⟨_, hb cdv A outer s H E S H ds r hr hF ?_, ?_⟩)
  · refine ⟨fun cls dx _ H' => E cls dx H', takes_of rfl rfl rfl rfl, fun e S' σ H' Γ cls dx g er hr' => k2 e hr' cls dx H' (fun a o z => g.chg a o z ?_ (fun nt => nt.1 rfl)) er⟩
    rintro (⟨p, hp, _⟩ | ⟨p, hp, _⟩) <;> cases hp
  · refine ⟨S, gd_start hd hl, ⟨fun σ' H' S' Γ' r' g hn => ?_, fun v σ' H' S' Γ' en r' g rs hn => ?_, fun _ _ _ _ _ _ z => z.elim, fun _ _ _ _ _ _ z => z.elim⟩⟩
    · exact k1 .non hn .non H' (fun a o z => g.chg a o z (by rintro (⟨p, hp, _⟩ | ⟨p, hp, _⟩) <;> cases hp) (fun nt => nt.1 rfl)) .non
    · exact k1 _ hn v H' (fun a o z => g.chg a o z (by rintro (⟨p, hp, _⟩ | ⟨p, hp, _⟩) <;> cases hp) (fun nt => nt.1 rfl)) (rs.den g)
end
end Spr

set_option Elab.async false
set_option linter.all false
set_option maxRecDepth 100000
set_option maxHeartbeats 4000000
/-! An own error class over ValueError whose __init__ says super().__init__(text), and keeps a field or none: C(), C(x) made. -/
namespace Spr
open PySem PySem.Spec PySem.Calls PyProof.Rows PySem.W

def xA (ps : List (Str × Pos)) : Arguments := { posonlyargs := [], args := ps.map fun p => { arg := p.1, annotation := none, pos := p.2 }, vararg := none, kwonlyargs := [], kw_defaults := [], kwarg := none, defaults := [] }
def xSup (p1 p2 p3 p4 p5 p6 : Pos) (k : Nat) (msg : Str) : Stmt := .Expr (.Call (.Attribute (.Call (.Name "super" p1) [] [] p2) "__init__" p3) [.Constant (.str msg) k p4] [] p5) p6

/-- what the written part says of an error class at C, its __init__ at fI -/
structure XTxt (K : Frag) (mg : Str → Option Value) (prog : Program) (x : Str) (C fI cc cda : Addr) : Prop where
  gC : mg x = some (.ref C)
  cls : ∃ nm q N bs bm sn sub ab col dd k0 k1 k2 k3 k5, K.lookup C = some (excClassObj nm q C N bs bm true sn sub ab col dd k0 k1 k2 k3 k5 "ValueError.__new__") ∧ HandSPX.refsVE bm = true ∧ alongIn K "__init__" (((Value.ref C :: bm).dropWhile (· != .ref C)).drop 1) = some (some (.builtin "ValueError.__init__"))
  iC : findIn K (.ref C) "__init__" = some (some (.ref fI))
  tC : typeIn K (.ref fI) = some (.type "function")
  kC : keepIn K (.ref C) = true
  exC : subIn K (.ref C) (.type "BaseException") = some true
  veC : subIn K (.ref C) (.type "ValueError") = some true
  tyC : typeIn K (.ref C) = some (.type "type")
  mro : mroIn K C (.ref C) = some true
  op : nsIn K cStatics "thirdparty.any" = some none
  noS : mg "super" = none
  cell : ∃ cl cld csl, K.lookup cc = some ⟨cl, cld, .cell (some (.ref C)), csl⟩
  code : ∃ (q : Str) (ccl : Value) (cdd : Option Addr) (vs : Array Value) (ccs : Array (Option Value)) (file : Str) (tf : Tok), codeIn K (.ref cda) q = true ∧ K.lookup cda = some ⟨ccl, cdd, .fields vs, ccs⟩ ∧ vs[2]? = some (.str file tf) ∧ ((prog.main.file : Str) == file) = true
  top : (prog.main.scope.names.lookup ("super" : Str)).isSome = false
/-- what __init__ leaves of a fresh exception at x -/
structure InitEnd0 (h h' : Heap) (x C t1 : Addr) : Prop where
  keep : ∀ b o, b ≠ x → h.get? b = some o → h'.get? b = some o
  obj : h'.get? x = some (HandSPX.excO C t1)
structure Made0 (h h' : Heap) (e C : Addr) : Prop where
  keep : ∀ b o, h.get? b = some o → h'.get? b = some o
  new : h.objs.size ≤ e
  obj : ∃ t1, h'.get? e = some (HandSPX.excO C t1)
section
variable {prog : Program} {w : World} {A : Around} {E : Value → Shared → Prop} {R : Result → Shared → Prop} {s : Shared} {K : Frag} {mg : Str → Option Value} {base : Heap} {x : Str} {C fI cc cda : Addr}
theorem call_mw {nm q : Str} {N : Addr} {bs bm : List Value} {hdct : Bool} {sn : List Str} {sub : List Value} {ab : Bool} {col : Option Bool} {dd : Option Addr} {k0 k1 k2 k3 k5 : Option Value} {h : Heap} {g : Array GenState} {d : Drawn} {t : Nat} {os : OsState} {u e t0 : Addr} {rest : List Value} {Q : Value → Shared → Prop}
    (hC : h.get? C = some (excClassObj nm q C N bs bm hdct sn sub ab col dd k0 k1 k2 k3 k5 "ValueError.__new__")) (he : h.get? e = some (HandSPX.excO C t0)) (hu : h.get? u = some (kxs_mw "ValueError.__init__" e)) (hrest : rest.length ≤ sizeLine)
    (hq : ∀ h' t1, (∀ b o, b ≠ e → h.get? b = some o → h'.get? b = some o) → h'.get? e = some (HandSPX.excO C t1) → Q .none ⟨h', g, d, t, os⟩) :
    wpAny (model prog w) A (call (.ref u) rest) Q E ⟨h, g, d, t, os⟩ := by
  refine wpAny_call (codeAny_of_tree ?_)
  show wpAny _ A.in1 (callAny (.ref u) ⟨rest, []⟩) _ _ _
  simp only [callAny]
  refine wpAny_bind (wpAny_load hu ?_)
  simp only [kxs_mw, show (Value.type "method-wrapper" == Value.type "method" || Value.type "method-wrapper" == Value.type "builtin_function_or_method" || Value.type "method-wrapper" == Value.type "method-wrapper") = true by decide, if_true]
  refine W.KFB.if_so (by decide) ?_
  refine wpAny_bind (ESX.check_bound PySem.F.excBase_ValueError hC he rfl ?_)
  refine wpAny_bind (wpAny_pure (wpAny_pure ?_))
  refine ⟨Code.quiet_builtin _ (by decide +kernel), codeAny_builtin PySem.F.excBase_ValueError.initEntry ?_⟩
  rw [Around.under_plainId PySem.F.excBase_ValueError.init.plain _]
  wp_walk
  refine hq _ h.objs.size (fun b o hb ho => ?_) ?_
  · rw [Heap.get?_update_other _ _ (Ne.symm hb)]
    exact Heap.get?_push_of_some _ ho
  · rw [Heap.get?_update_self _ (Heap.get?_push_of_some _ he) rfl]
    rfl
theorem ns_keep {h h' : Heap} {L : Addr} {m : Str → Option Value} (n : h.Ns L m) (k : ∀ b o, h.get? b = some o → h'.get? b = some o) : h'.Ns L m := by
  obtain ⟨oL, es, ep, hL, r⟩ := n
  exact ⟨oL, es, ep, k _ _ hL, r⟩
/-- super().__init__(msg) in the frame at L -/
theorem sup_init (T : XTxt K mg prog x C fI cc cda) (M : L2.Mod K mg base) {a t0 L : Addr} {q : Str} {sc : Scope} {body rest : List Stmt} {ps : List (Str × Pos)} {pself p1 p2 p3 p4 p5 p6 : Pos} {k : Nat} {msg : Str} {m : Str → Option Value} {Q : Flow → Shared → Prop}
    {oc dV kV doc pm ct : Value} {od an : Option Addr} {osl : Array (Option Value)}
    (hf : K.lookup fI = some ⟨oc, od, .func (ksFn "__init__" q (xA (("self", pself) :: ps)) body sc dV kV doc pm an (.ref cda) ct cc), osl⟩)
    (hk : ∀ b o, base.get? b = some o → s.heap.get? b = some o) (hn : s.heap.Ns L m) (hs : m "self" = some (.ref a)) (ha : s.heap.get? a = some (HandSPX.excO C t0)) (hna : K.lookup a = none)
    (e1 : sc.names.lookup ("super" : Str) = some .globalImplicit) (e2 : sc.names.lookup ("__class__" : Str) = some .free) (e3 : sc.names.lookup ("self" : Str) = some .local) (e4 : sc.kind = .function)
    {pl : Addr → Sem Bool} (he : ∀ L, eval (.Call (.Attribute (.Call (.Name "super" p1) [] [] p2) "__init__" p3) [.Constant (.str msg) k p4] [] p5) (ksEnv q sc L fI (.ref cda) cc) = (do
      let ov ← attributeBase (.Call (.Name "super" p1) [] [] p2) "__init__" (ksEnv q sc L fI (.ref cda) cc) (eval (.Call (.Name "super" p1) [] [] p2) (ksEnv q sc L fI (.ref cda) cc))
      standAt p3.atName
      let (fx, first) ← holding [ov] (getMethod ov "__init__" (pl L))
      callWith p5 fx first (backTo p5 (starEach [.Constant (.str msg) k p4] (ksEnv q sc L fI (.ref cda) cc))) []))
    (h : ∀ h' tk t1, (∀ b o, b ≠ a → s.heap.get? b = some o → h'.get? b = some o) → h'.get? a = some (HandSPX.excO C t1) → h'.Ns L m →
      _root_.PySem.wpAt (model prog w) (A.deeper (ksEnv q sc L fI (.ref cda) cc)) (.func body (ksEnv q sc L fI (.ref cda) cc)) (execs rest (ksEnv q sc L fI (.ref cda) cc)) Q E { s with heap := h', toks := tk }) :
    _root_.PySem.wpAt (model prog w) (A.deeper (ksEnv q sc L fI (.ref cda) cc)) (.func body (ksEnv q sc L fI (.ref cda) cc)) (execs (xSup p1 p2 p3 p4 p5 p6 k msg :: rest) (ksEnv q sc L fI (.ref cda) cc)) Q E s := by
  obtain ⟨nm, qn, N, bs, bm, sn, sub, ab, col, dd, k0, k1, k2, k3, k5, hC, hbm, hal⟩ := T.cls
  obtain ⟨cl, cld, csl, hcell⟩ := T.cell
  obtain ⟨q', ccl, cdd, vs, ccs, file, tf, _, hcode, hvs, hfile⟩ := T.code
  have hcls : clsIn K C = some { name := nm, bases := bs, mro := .ref C :: bm, ns := N, qualname := qn, hasDict := true, slotNames := sn, subclasses := sub, abstract := ab, collection := col, hasDel := false } := by unfold clsIn; rw [hC] <;> rfl
  have X : K.In s.heap := M.kin.keeps hk
  refine ks_wpAt_execs_cons ?_
  refine ks_wpAt_Expr_any ?_ (by unfold interactive; show (sc.kind == .module && _) = false; rw [e4]; rfl)
  refine ks_wpAt_MethodCall ?_ (he L)
  obtain ⟨mb, hb1, hb2⟩ := M.blt
  obtain ⟨hp, g, d, tk, os⟩ := s
  refine ks_wpAt_super_base (env := ksEnv q sc L fI (.ref cda) cc) e1 e2 (by decide) rfl (X _ _ hf) rfl rfl rfl (X _ _ hcode) rfl hvs hfile T.top ?_
  refine ks_loadName_global e4 e1 (loadGlobal_builtin (env := ksEnv q sc L fI (.ref cda) cc) (M.glob.keeps hk) T.noS (hb1.keeps hk) ((hb2 _ (by decide)).trans (show bootBuiltins "super" = some (.type "super") from by decide +kernel)) ⟨rfl, ?_⟩)
  refine wpAny_loadName_free e4 e2 rfl ⟨_, X _ _ hcell, rfl⟩ ?_
  refine wpAny_loadName_local e4 e3 hn hs ?_
  refine ks_wpAny_isType_cls (X _ _ hC) rfl ⟨rfl, ?_⟩
  refine ks_wpAny_call_super (X _ _ hC) rfl ha rfl (fun c e => by cases e) (looks_mroIn X T.mro) (fun h1 so1 kp1 => ?_)
  -- the method
  have X1 : K.In h1 := X.keeps kp1
  have ha1 := kp1 _ _ ha
  have hxC : a ≠ C := fun z => by rw [z, hC] at hna; cases hna
  have I1 : InstAt h1 a (HandSPX.excO C t0) C none := ⟨ha1, rfl, rfl, trivial⟩
  refine kxs_getMethod (B := "ValueError") (i := "ValueError.__init__") kxs_ValueError so1 (looks_opaque X1 T.op) (l₀ := .ref C :: bm) ?_ rfl X1 hal (I1.type.andThen (looks_subIn X1 T.veC)) hxC (by decide) ?_
  · exact fun A Q E s k q => wpAny_bind ((looks_clsIn X1 hcls) A _ E s k (wpAny_pure q))
  have hmw : (h1.push (kxs_mw "ValueError.__init__" a)).get? h1.objs.size = some (kxs_mw "ValueError.__init__" a) := Heap.get?_push_at rfl rfl
  have kp2 : ∀ b o, h1.get? b = some o → (h1.push (kxs_mw "ValueError.__init__" a)).get? b = some o := fun b o e => Heap.get?_push_of_some _ e
  refine kxs_callWith (i := "ValueError.__init__") (x := a) (by rfl) ?_
  refine evalArgs_plain ?_
  refine Calls.spliced_cons ?_
  refine Calls.Constant_str (k := k) (pos := p4) ?_
  refine Calls.spliced_nil ⟨hmw, ?_⟩
  refine call_mw (kp2 _ _ (kp1 _ _ (X _ _ hC))) (kp2 _ _ ha1) hmw (Nat.le_of_lt (by show 1 < sizeLine; decide)) fun h' t1 kp3 he' => ?_
  have hL : L ≠ a := fun z => by
    obtain ⟨oL, es, ep, hL, hd, _⟩ := id hn
    rw [z, ha] at hL
    cases hL
    cases hd
  refine h h' _ t1 (fun b o hb e => kp3 b o hb (kp2 b o (kp1 b o e))) he' ?_
  obtain ⟨oL, es, ep, hL1, r⟩ := id hn
  exact ⟨oL, es, ep, kp3 _ _ hL (kp2 _ _ (kp1 _ _ hL1)), r⟩
/-- the scopes of such an __init__ -/
def sc0 : Scope := { kind := .function, names := [(PySem.Str.ofString "self", .local), (PySem.Str.ofString "__class__", .free), (PySem.Str.ofString "super", .globalImplicit)], isGenerator := false, isCoroutine := false, more := [] }
def sc1 (f : Str) : Scope := { kind := .function, names := [(PySem.Str.ofString "self", .local), (f, .local), (PySem.Str.ofString "__class__", .free), (PySem.Str.ofString "super", .globalImplicit)], isGenerator := false, isCoroutine := false, more := [] }
theorem super_call0 (q : Str) (fI cda cc : Addr) (p1 p2 p3 p4 p5 : Pos) (k : Nat) (msg : Str) (hp : (p3.endLine == p5.line) = true) : ∃ pl : Addr → Sem Bool, ∀ L, eval (.Call (.Attribute (.Call (.Name "super" p1) [] [] p2) "__init__" p3) [.Constant (.str msg) k p4] [] p5) (ksEnv q sc0 L fI (.ref cda) cc) = (do
      let ov ← attributeBase (.Call (.Name "super" p1) [] [] p2) "__init__" (ksEnv q sc0 L fI (.ref cda) cc) (eval (.Call (.Name "super" p1) [] [] p2) (ksEnv q sc0 L fI (.ref cda) cc))
      standAt p3.atName
      let (fx, first) ← holding [ov] (getMethod ov "__init__" (pl L))
      callWith p5 fx first (backTo p5 (starEach [.Constant (.str msg) k p4] (ksEnv q sc0 L fI (.ref cda) cc))) []) := ⟨fun L => (do return (← importBound (.Call (.Name "super" p1) [] [] p2) (ksEnv q sc0 L fI (.ref cda) cc)).getD true), fun L => by
  have e : methodCallPos true (.Call (.Name "super" p1) [] [] p2) (ksEnv q sc0 L fI (.ref cda) cc) p3 p5 = pure p5 := by
    unfold methodCallPos
    rw [hp]
    rfl
  show (do
      let ov ← attributeBase (.Call (.Name "super" p1) [] [] p2) "__init__" (ksEnv q sc0 L fI (.ref cda) cc) (eval (.Call (.Name "super" p1) [] [] p2) (ksEnv q sc0 L fI (.ref cda) cc))
      standAt p3.atName
      let (fx, first) ← holding [ov] (getMethod ov "__init__" (do return (← importBound (.Call (.Name "super" p1) [] [] p2) (ksEnv q sc0 L fI (.ref cda) cc)).getD true))
      let callPos ← methodCallPos true (.Call (.Name "super" p1) [] [] p2) (ksEnv q sc0 L fI (.ref cda) cc) p3 p5
      callWith callPos fx first (backTo p5 (starEach [.Constant (.str msg) k p4] (ksEnv q sc0 L fI (.ref cda) cc))) []) = _
  rw [e]
  rfl⟩
theorem super_call1 (q f : Str) (fI cda cc : Addr) (p1 p2 p3 p4 p5 : Pos) (k : Nat) (msg : Str) (hp : (p3.endLine == p5.line) = true) : ∃ pl : Addr → Sem Bool, ∀ L, eval (.Call (.Attribute (.Call (.Name "super" p1) [] [] p2) "__init__" p3) [.Constant (.str msg) k p4] [] p5) (ksEnv q (sc1 f) L fI (.ref cda) cc) = (do
      let ov ← attributeBase (.Call (.Name "super" p1) [] [] p2) "__init__" (ksEnv q (sc1 f) L fI (.ref cda) cc) (eval (.Call (.Name "super" p1) [] [] p2) (ksEnv q (sc1 f) L fI (.ref cda) cc))
      standAt p3.atName
      let (fx, first) ← holding [ov] (getMethod ov "__init__" (pl L))
      callWith p5 fx first (backTo p5 (starEach [.Constant (.str msg) k p4] (ksEnv q (sc1 f) L fI (.ref cda) cc))) []) := ⟨fun L => (do return (← importBound (.Call (.Name "super" p1) [] [] p2) (ksEnv q (sc1 f) L fI (.ref cda) cc)).getD true), fun L => by
  have e : methodCallPos true (.Call (.Name "super" p1) [] [] p2) (ksEnv q (sc1 f) L fI (.ref cda) cc) p3 p5 = pure p5 := by
    unfold methodCallPos
    rw [hp]
    rfl
  show (do
      let ov ← attributeBase (.Call (.Name "super" p1) [] [] p2) "__init__" (ksEnv q (sc1 f) L fI (.ref cda) cc) (eval (.Call (.Name "super" p1) [] [] p2) (ksEnv q (sc1 f) L fI (.ref cda) cc))
      standAt p3.atName
      let (fx, first) ← holding [ov] (getMethod ov "__init__" (do return (← importBound (.Call (.Name "super" p1) [] [] p2) (ksEnv q (sc1 f) L fI (.ref cda) cc)).getD true))
      let callPos ← methodCallPos true (.Call (.Name "super" p1) [] [] p2) (ksEnv q (sc1 f) L fI (.ref cda) cc) p3 p5
      callWith callPos fx first (backTo p5 (starEach [.Constant (.str msg) k p4] (ksEnv q (sc1 f) L fI (.ref cda) cc))) []) = _
  rw [e]
  rfl⟩
/-- the def without a field -/
def XFn0 (K : Frag) (fI cc cda : Addr) : Prop :=
  ∃ (oc : Value) (od : Option Addr) (q : Str) (doc pm : Value) (an : Option Addr) (ct : Value) (osl : Array (Option Value)) (p0 p1 p2 p3 p4 p5 p6 : Pos) (k : Nat) (msg : Str),
    K.lookup fI = some ⟨oc, od, .func (ksFn "__init__" q (xA [("self", p0)]) [xSup p1 p2 p3 p4 p5 p6 k msg] sc0 .none .none doc pm an (.ref cda) ct cc), osl⟩ ∧ codeIn K (.ref cda) q = true ∧ (p3.endLine == p5.line) = true
theorem init0 (T : XTxt K mg prog x C fI cc cda) (F : XFn0 K fI cc cda) (M : L2.Mod K mg base) {a t0 : Addr} (hk : ∀ b o, base.get? b = some o → s.heap.get? b = some o) (hlim : s.heap.NoLimit) (ha : s.heap.get? a = some (HandSPX.excO C t0)) (hna : K.lookup a = none) (hroom : A.depth < recursionLimit)
    (hq : ∀ h' tk t1, (∀ b o, b ≠ a → s.heap.get? b = some o → h'.get? b = some o) → h'.get? a = some (HandSPX.excO C t1) → R (.ok (.ret .none)) { s with heap := h', toks := tk }) :
    codeAny (model prog w) A (.call (.ref fI) ⟨[.ref a], []⟩) R s := by
  obtain ⟨oc, od, q, doc, pm, an, ct, osl, p0, p1, p2, p3, p4, p5, p6, k, msg, hf, hcd, hp⟩ := F
  have X : K.In s.heap := M.kin.keeps hk
  obtain ⟨pl, he⟩ := super_call0 q fI cda cc p1 p2 p3 p4 p5 k msg hp
  refine ks_codeAny_call_defAt (binds := [("self", .ref a)]) hroom (X _ _ hf) rfl hlim (codeRec_of X hcd) rfl (.of_eq (by first | rfl | with_unfolding_all rfl)) (by show ∀ x ∈ sc0.names, x.2 ≠ .cell; decide) (fun y hy => by rcases List.mem_singleton.mp hy with rfl; rfl) (fun h1 hns hk1 => ?_)
  refine sup_init (s := { s with heap := h1, toks := s.toks + 1 }) (A := A) T M hf (fun b o e => hk1 b o (hk b o e)) hns rfl (hk1 _ _ ha) hna rfl rfl rfl rfl he (fun h' tk t1 kp ho hn' => ?_)
  exact wpAt_of_wpAny (wpAny_execs_nil (hq h' tk t1 (fun b o hb e => kp b o hb (hk1 b o e)) ho))
theorem made0 (T : XTxt K mg prog x C fI cc cda) (F : XFn0 K fI cc cda) (M : L2.Mod K mg base) (hk : ∀ b o, base.get? b = some o → s.heap.get? b = some o) (hlim : s.heap.NoLimit) (hroom : A.depth + 1 < recursionLimit)
    (hq : ∀ h' tk e, Made0 s.heap h' e C → R (.ok (.ret (.ref e))) { s with heap := h', toks := tk }) :
    codeAny (model prog w) A (.call (.ref C) ⟨[], []⟩) R s := by
  obtain ⟨nm, q, N, bs, bm, sn, sub, ab, col, dd, k0, k1, k2, k3, k5, hC, hbm, _⟩ := T.cls
  have X : K.In s.heap := M.kin.keeps hk
  obtain ⟨hp, g, dr, tk, os⟩ := s
  have k : ∀ b o, hp.get? b = some o → ((hp.push (kdv_tup [])).push (HandSPX.excO C hp.objs.size)).get? b = some o := fun b o e => Heap.get?_push_of_some _ (Heap.get?_push_of_some _ e)
  have hget : ((hp.push (kdv_tup [])).push (HandSPX.excO C hp.objs.size)).get? (hp.objs.size + 1) = some (HandSPX.excO C hp.objs.size) := by heap_get
  have hnx : K.lookup (hp.objs.size + 1) = none := by
    cases e : K.lookup (hp.objs.size + 1) with
    | none => rfl
    | some o =>
      have z : hp.get? (hp.objs.size + 1) = some o := X _ _ e
      exact absurd (Nat.lt_of_succ_lt (Heap.lt_size z)) (Nat.lt_irrefl _)
  refine HandSPX.call_own PySem.F.excBase_ValueError (fun X => HandSPX.refsVE_contains X bm hbm) (X _ _ hC) (looks_findIn X T.iC) (fun self => bind_fn X self T.tC) (Nat.zero_le _) ?_
  refine init0 (s := ⟨(hp.push (kdv_tup [])).push (HandSPX.excO C hp.objs.size), g, dr, tk, os⟩) T F M (fun b o e => k b o (hk b o e)) (hlim.keeps k) hget hnx ?_ fun h' tk' t1 k' hx => ?_
  · show A.depth + 1 < recursionLimit
    exact hroom
  · have old : ∀ b o, hp.get? b = some o → h'.get? b = some o := fun b o e => k' b o (Nat.ne_of_lt (Nat.lt_succ_of_lt (Heap.lt_size e))) (k b o e)
    exact ⟨rfl, hq h' tk' (hp.objs.size + 1) ⟨old, Nat.le_succ _, ⟨_, hx⟩⟩⟩
end
open L2 in
/-- C() -/
theorem pmk0 {X : Cx} {x : Str} {C fI cc cda : Addr} {p pos : Pos} {k : Nat} (T : XTxt X.K X.mg X.prog x C fI cc cda) (F : XFn0 X.K fI cc cda) (hr : Room k X.A) (hg : Gl X x) (hd : (x == ("__debug__" : Str)) = false) (hk : 1 ≤ k) :
    PMk X (.Call (.Name x p) [] [] pos) (fun σ H Q => Q (.ref C) none H) := by
  intro pins s σ H Q I h
  refine wpAny_Call_Name_kw (ld_glob I hg T.gC ?_ hd)
  refine PySem.W.callWith_K0 I.kIn T.kC ?_
  show wpAny _ _ (call (.ref C) []) _ _ _
  have hlim := I.nolimit
  obtain ⟨hp, g, dr, tk, os⟩ := s
  refine wpAny_call (made0 T F I.mod I.bk hlim (by have := hr.dp; omega) fun h' tk' e M => ?_)
  show MkP X pins σ Q (.ref e) ⟨h', g, dr, tk', os⟩
  obtain ⟨t1, hoe⟩ := M.obj
  exact ⟨e, _, _, ⟨hp, g, dr, tk, os⟩, H, .ref C, none, rfl, I, M.keep, by
    cases z : hp.get? e with
    | none => rfl
    | some o => exact absurd (Nat.lt_of_lt_of_le (Heap.lt_size z) M.new) (Nat.lt_irrefl _), hoe, ⟨rfl, rfl⟩, rfl, rfl, I.hok.fresh M.new, rfl, I.bare, raises_own T.exC T.tyC, h⟩
/-- raise C() -/
theorem s_raise0 {X : L2.Cx} {c : Cn} {Γ : Gm} {Po : Post} {x : Str} {C fI cc cda : Addr} {p pos pos2 : Pos} {k : Nat} {er : Er → Gm → Prop} (hx : Xr X c er) (T : XTxt X.K X.mg X.prog x C fI cc cda) (F : XFn0 X.K fI cc cda) (hr : L2.Room k X.A) (h : er ⟨C, []⟩ Γ) (hg : L2.Gl X x := by rfl) (hd : (x == ("__debug__" : Str)) = false := by decide) (hk : 1 ≤ k := by decide) (hc : X.calm = true := by rfl) :
    Sm X c Γ (.Raise (some (.Call (.Name x p) [] [] pos)) none pos2) Po :=
  s_raise hx ⟨C, []⟩ (pmk0 T F hr hg hd hk) (fun S σ H t Q q => q _ _ H (L2.Same.refl H) ⟨rfl, .inl ⟨rfl, rfl⟩⟩) h hc
end Spr

set_option Elab.async false
set_option linter.all false
set_option maxRecDepth 100000
set_option maxHeartbeats 4000000
/-! The head: what the top wrote, told by a Hook; the error classes' facts by a Bool. -/
namespace Spr
open PySem PySem.Spec PyProof.Rows PySem.W He

/-! ### the error classes -/
def clB (K : Frag) (C : Addr) : Bool := match K.lookup C with
  | some ⟨.type t, _, .cls ⟨_, _, .ref C' :: bm, _, _, hd, _, _, _, _, del⟩, ⟨[_, _, _, _, some (.builtin n), _]⟩⟩ =>
    decide (t = "type") && (decide (C' = C) && (decide (n = "ValueError.__new__") && (!del && (hd && (HandSPX.refsVE bm && eqO (alongIn K "__init__" (((Value.ref C :: bm).dropWhile (· != .ref C)).drop 1)) (some (some (.builtin "ValueError.__init__"))))))))
  | _ => false
theorem clB_ok {K : Frag} {C : Addr} (h : clB K C = true) : ∃ nm q N bs bm sn sub ab col dd k0 k1 k2 k3 k5, K.lookup C = some (excClassObj nm q C N bs bm true sn sub ab col dd k0 k1 k2 k3 k5 "ValueError.__new__") ∧ HandSPX.refsVE bm = true ∧ alongIn K "__init__" (((Value.ref C :: bm).dropWhile (· != .ref C)).drop 1) = some (some (.builtin "ValueError.__init__")) := by
  unfold clB at h
  split at h
  · rename_i t dd nm bs C' bm ns q hd sn sub ab col del k0 k1 k2 k3 n k5 e
    obtain ⟨h1, h⟩ := ba h
    obtain ⟨h2, h⟩ := ba h
    obtain ⟨h3, h⟩ := ba h
    obtain ⟨h4, h⟩ := ba h
    obtain ⟨h5, h⟩ := ba h
    obtain ⟨h6, h7⟩ := ba h
    have z1 := of_decide_eq_true h1
    have z2 := of_decide_eq_true h2
    have z3 := of_decide_eq_true h3
    have z4 : del = false := by cases del <;> first | rfl | cases h4
    subst z1 z2 z3 z4 h5
    exact ⟨nm, q, ns, bs, bm, sn, sub, ab, col, dd, k0, k1, k2, k3, k5, e, h6, eqO_ok h7⟩
  · cases h
/-- its __init__ -/
def iAd (K : Frag) (x : Str) : Addr := ma K (ga K x) "__init__"
def icc (K : Frag) (x : Str) : Addr := match K.lookup (iAd K x) with
  | some ⟨_, _, .func fd, _⟩ => (match fd.closure with
    | [(_, c)] => c
    | _ => 0)
  | _ => 0
def icd (K : Frag) (x : Str) : Addr := match K.lookup (iAd K x) with
  | some ⟨_, _, .func fd, _⟩ => (match fd.code with
    | .ref c => c
    | _ => 0)
  | _ => 0
def cellB (K : Frag) (cc C : Addr) : Bool := match K.lookup cc with
  | some ⟨_, _, .cell (some (.ref D)), _⟩ => decide (D = C)
  | _ => false
theorem cellB_ok {K : Frag} {cc C : Addr} (h : cellB K cc C = true) : ∃ cl cld csl, K.lookup cc = some ⟨cl, cld, .cell (some (.ref C)), csl⟩ := by
  unfold cellB at h
  split at h
  · rename_i cl cld D csl e
    have z := of_decide_eq_true h
    subst z
    exact ⟨_, _, _, e⟩
  · cases h
def codB (K : Frag) (prog : Program) (c : Addr) : Bool := match K.lookup c with
  | some ⟨_, _, .fields vs, _⟩ => (match vs.toList with
    | _ :: .str _ _ :: .str f _ :: _ => ((prog.main.file : Str) == f)
    | _ => false)
  | _ => false
theorem codB_ok {K : Frag} {prog : Program} {c : Addr} (h : codB K prog c = true) : ∃ (q : Str) (ccl : Value) (cdd : Option Addr) (vs : Array Value) (ccs : Array (Option Value)) (file : Str) (tf : Tok), codeIn K (.ref c) q = true ∧ K.lookup c = some ⟨ccl, cdd, .fields vs, ccs⟩ ∧ vs[2]? = some (.str file tf) ∧ ((prog.main.file : Str) == file) = true := by
  unfold codB at h
  split at h
  · rename_i ccl cdd vs ccs e
    split at h
    · rename_i a n t f t2 r hv
      refine ⟨n, ccl, cdd, vs, ccs, f, t2, ?_, e, by rw [← Array.getElem?_toList, hv]; rfl, h⟩
      unfold codeIn
      simp only [e, hv]
      exact beq_self_eq_true _
    · cases h
  · cases h
/-- all that XTxt asks, but mg -/
def xtB (prog : Program) (K : Frag) (x : Str) : Bool :=
  eqO (nsIn K mainGlobals x) (some (some (.ref (ga K x)))) && (clB K (ga K x) && (eqO (findIn K (.ref (ga K x)) "__init__") (some (some (.ref (iAd K x)))) && (decide (typeIn K (.ref (iAd K x)) = some (.type "function")) && (keepIn K (.ref (ga K x)) &&
  (decide (subIn K (.ref (ga K x)) (.type "BaseException") = some true) && (decide (subIn K (.ref (ga K x)) (.type "ValueError") = some true) && (decide (typeIn K (.ref (ga K x)) = some (.type "type")) && (decide (mroIn K (ga K x) (.ref (ga K x)) = some true) &&
  (eqO (nsIn K cStatics "thirdparty.any") (some none) && (eqO (nsIn K mainGlobals "super") (some none) && (cellB K (icc K x) (ga K x) && (codB K prog (icd K x) && !(prog.main.scope.names.lookup ("super" : Str)).isSome))))))))))))
theorem xtB_ok {prog : Program} {K : Frag} {x : Str} {h : Heap} {mg : Str → Option Value} (X : K.In h) (G : h.Ns mainGlobals mg) (c : xtB prog K x = true) : XTxt K mg prog x (ga K x) (iAd K x) (icc K x) (icd K x) := by
  unfold xtB at c
  obtain ⟨c1, c⟩ := ba c
  obtain ⟨c2, c⟩ := ba c
  obtain ⟨c3, c⟩ := ba c
  obtain ⟨c4, c⟩ := ba c
  obtain ⟨c5, c⟩ := ba c
  obtain ⟨c6, c⟩ := ba c
  obtain ⟨c7, c⟩ := ba c
  obtain ⟨c8, c⟩ := ba c
  obtain ⟨c9, c⟩ := ba c
  obtain ⟨c10, c⟩ := ba c
  obtain ⟨c11, c⟩ := ba c
  obtain ⟨c12, c⟩ := ba c
  obtain ⟨c13, c14⟩ := ba c
  exact { gC := PySem.W.mg_of X G (eqO_ok c1), cls := clB_ok c2, iC := eqO_ok c3, tC := of_decide_eq_true c4, kC := c5, exC := of_decide_eq_true c6, veC := of_decide_eq_true c7, tyC := of_decide_eq_true c8, mro := of_decide_eq_true c9, op := eqO_ok c10, noS := PySem.W.mg_none_of X G (eqO_ok c11), cell := cellB_ok c12, code := codB_ok c13, top := by simpa using c14 }
/-- __init__ without a field -/
def xf0B (K : Frag) (x : Str) : Bool := match K.lookup (iAd K x) with
  | some ⟨_, _, .func ⟨nm, q, ⟨[], [⟨a, none, _⟩], none, [], [], none, []⟩, .stmts [.Expr (.Call (.Attribute (.Call (.Name s _) [] [] _) i p3) [.Constant (.str _) _ _] [] p5) _], sc, gl, [(cn, cc)], .none, .none, _, _, _, .ref cda, _, bl⟩, _⟩ =>
    decide (nm = "__init__") && (decide (a = "self") && (decide (s = "super") && (decide (i = "__init__") && (decide (sc = sc0) && (decide (gl = mainGlobals) && (decide (cn = "__class__") && (decide (bl = builtinsNs) && (codeIn K (.ref cda) q && (decide (cc = icc K x) && (decide (cda = icd K x) && (p3.endLine == p5.line)))))))))))
  | _ => false
theorem xf0B_ok {K : Frag} {x : Str} (h : xf0B K x = true) : XFn0 K (iAd K x) (icc K x) (icd K x) := by
  unfold xf0B at h
  split at h
  · rename_i oc od nm q a p0 s p1 p2 i p3 m k p4 p5 p6 sc gl cn cc doc pm an cda ct bl osl e
    obtain ⟨h1, h⟩ := ba h
    obtain ⟨h2, h⟩ := ba h
    obtain ⟨h3, h⟩ := ba h
    obtain ⟨h4, h⟩ := ba h
    obtain ⟨h5, h⟩ := ba h
    obtain ⟨h6, h⟩ := ba h
    obtain ⟨h7, h⟩ := ba h
    obtain ⟨h8, h⟩ := ba h
    obtain ⟨h9, h⟩ := ba h
    obtain ⟨h10, h⟩ := ba h
    obtain ⟨h11, h12⟩ := ba h
    have z1 := of_decide_eq_true h1
    have z2 := of_decide_eq_true h2
    have z3 := of_decide_eq_true h3
    have z4 := of_decide_eq_true h4
    have z5 := of_decide_eq_true h5
    have z6 := of_decide_eq_true h6
    have z7 := of_decide_eq_true h7
    have z8 := of_decide_eq_true h8
    have z10 := of_decide_eq_true h10
    have z11 := of_decide_eq_true h11
    subst z1 z2 z3 z4 z5 z6 z7 z8
    rw [← z10, ← z11]
    exact ⟨oc, od, q, doc, pm, an, ct, osl, p0, p1, p2, p3, p4, p5, p6, k, m, e, h9, h12⟩
  · cases h

/-! ### the Hook -/
structure SaysS (fa : List Fa) (fn : List DefD) (tf : List Defn) (ex : Frag → Bool) (h : Heap) (K : Frag) : Prop where
  d : SaysD fa fn K
  more : ex K = true
  hd : ∀ p ∈ tf, codeHdIn K (cT K p).1 (cT K p).2 = true
  out : ∀ p ∈ tf, K.lookup (cT K p).2 = none
  empty : ∀ p ∈ tf, h.get? (cT K p).2 = some { cls := .none, data := .fields #[] }
abbrev AlS : Type := AlD × Bool
def asS (g : Addr → Option Obj) (n : Nat) : List Addr := asD g n ++ [cStatics]
def obsS (n : Nat) (fa : List Fa) (fn : List DefD) (tf : List Defn) (ex : Frag → Bool) (g : Addr → Option Obj) : AlS := (obsD fa fn (frT g (asS g n)), ex (frT g (asS g n)) && tabsB g tf (frT g (asS g n)))
def valS (fn : List DefD) : AlS := (valD fn, true)
theorem saysS_of {n : Nat} {fa : List Fa} {fn : List DefD} {tf : List Defn} {ex : Frag → Bool} {h : Heap} (e : obsS n fa fn tf ex h.get? = valS fn) : SaysS fa fn tf ex h (frT h.get? (asS h.get? n)) := by
  have e1 : obsD fa fn (frT h.get? (asS h.get? n)) = valD fn := congrArg (fun z : AlS => z.1) e
  have e2 : (ex (frT h.get? (asS h.get? n)) && tabsB h.get? tf (frT h.get? (asS h.get? n))) = true := congrArg (fun z : AlS => z.2) e
  obtain ⟨h1, h2⟩ := ba e2
  have key : ∀ p ∈ tf, codeHdIn (frT h.get? (asS h.get? n)) (cT (frT h.get? (asS h.get? n)) p).1 (cT (frT h.get? (asS h.get? n)) p).2 = true ∧ ∃ o, h.get? (cT (frT h.get? (asS h.get? n)) p).2 = some o ∧ emptyTab o = true := fun p hp => by
    obtain ⟨h3, h4⟩ := ba (List.all_eq_true.mp h2 p hp)
    refine ⟨h3, ?_⟩
    cases q : h.get? (cT (frT h.get? (asS h.get? n)) p).2 with
    | none => rw [q] at h4; cases h4
    | some o => rw [q] at h4; exact ⟨o, rfl, h4⟩
  exact ⟨e1, h1, fun p hp => (key p hp).1, fun p hp => by
    obtain ⟨_, o, q, z⟩ := key p hp
    exact frT_none q z, fun p hp => by
    obtain ⟨_, o, q, z⟩ := key p hp
    rw [q, emptyTab_eq z]⟩
def hookS (n : Nat) (fa : List Fa) (fn : List DefD) (tf : List Defn) (ex : Frag → Bool) : PySem.W.Hook where
  α := AlS
  obs := fun s => obsS n fa fn tf ex s.heap.get?
  val := fun _ => valS fn
  says := fun _ h => ∃ K : Frag, K.In h ∧ SaysS fa fn tf ex h K
  of := fun _ _ e => ⟨_, frT_in, saysS_of e⟩
  keeps := fun _ _ _ ⟨K, hK, c⟩ k => ⟨K, Frag.In.keeps hK k, ⟨c.d, c.more, c.hd, c.out, fun p hp => k _ _ (c.empty p hp)⟩⟩
theorem obsS_eq {n : Nat} {fa : List Fa} {fn : List DefD} {tf : List Defn} {ex : Frag → Bool} {g : Addr → Option Obj} {s : Shared} (h : ∀ a, g a = s.heap.get? a) : obsS n fa fn tf ex g = (hookS n fa fn tf ex).obs s := by
  have e : g = s.heap.get? := funext h
  rw [e] <;> rfl
end Spr

set_option Elab.async false
set_option linter.all false
set_option maxRecDepth 100000
set_option maxHeartbeats 4000000
/-! Calls of defs that change their first argument, a list of one's own (a law's hand of numbers); expressions with such calls in them. -/
namespace Spr
open PySem PySem.Spec PyProof.Rows L2

section
variable {K : PySem.W.Frag} {c : Cn} {S : Addr → Prop} {σ : L2.St} {H H' : Hp} {Γ : Gm}
/-- a slot's own list was changed by another, new things were laid beside -/
theorem Gd.call (t : Gd K c S σ H Γ) {i : Nat} {a : Addr} {l l' : List D} {xs ys : List V} (hi : Γ[i]? = some (some (.ow l))) (hs : σ[i]? = some (some (.ref a))) (hS : S a) (hH : H a = some (.lst xs))
    (k : ∀ b o, H b = some o → b ≠ a → H' b = some o) (hy : H' a = some (.lst ys)) (hl : DenL K S H' ys l') : Gd K c S σ H' (Γ.set i (some (.ow l'))) ∧ Rl S H S H' := by
  have e1 : Same H (upd H' a (.lst xs)) := fun b o e => by
    by_cases hb : b = a
    · rw [hb, upd_same, ← hH, ← hb]; exact e
    · rw [upd_ne hb]; exact k b o e hb
  have e2 : upd (upd H' a (.lst xs)) a (.lst ys) = H' := by
    funext b
    by_cases hb : b = a
    · rw [hb, upd_same, hy]
    · rw [upd_ne hb, upd_ne hb]
  have t1 := (t.ext e1).change hi hs hS upd_same (hl.mono (rl_upd hS))
  rw [e2] at t1
  exact ⟨t1, fun b o n q _ => ⟨k b o q fun z => n (by rw [z]; exact hS), n⟩⟩
end
/-- a def that may change its first argument, a list: from what it holds and the others denote to what it gives and the list's new state -/
abbrev Fh := List D → List D → D → List D → Prop
def upH (K : PySem.W.Frag) (F : Fh) : Sp := fun vs H Q E => ∃ (S : Addr → Prop) (a : Addr) (xs : List V) (l : List D) (vs' : List V) (ds : List D) (d : D) (l' : List D), vs = .ref a :: vs' ∧ (∀ a, S a → H a ≠ none) ∧ S a ∧ H a = some (.lst xs) ∧ DenL K S H xs l ∧ DenL K S H vs' ds ∧ F l ds d l' ∧
  ∀ v H' ys, (∀ b o, H b = some o → b ≠ a → H' b = some o) → H' a = some (.lst ys) → DenL K S H' ys l' → Den K S H' v d → Q v H'
abbrev FoH (X : Cx) (k : Nat) (x : Str) (F : Fh) : Prop := Fo X.prog X.w X.K X.mg X.base k x (upH X.K F)
/-- a def that gives a new list -/
abbrev Fl := List D → List D → Prop
def upN (K : PySem.W.Frag) (F : Fl) : Sp := fun vs H Q E => ∃ (S : Addr → Prop) (ds : List D) (l : List D), (∀ a, S a → H a ≠ none) ∧ DenL K S H vs ds ∧ F ds l ∧
  ∀ p xs H', Same H H' → H p = none → H' p = some (.lst xs) → DenL K (more S p) H' xs l → Q (.ref p) H'
abbrev FoN (X : Cx) (k : Nat) (x : Str) (F : Fl) : Prop := Fo X.prog X.w X.K X.mg X.base k x (upN X.K F)

/-- the expression comes to d; the lists of one's own are then as in Γ' -/
def tE (K : PySem.W.Frag) (c : Cn) (Γ : Gm) (d : D) (Γ' : Gm) : TE := fun σ H Q => ∃ S, Gd K c S σ H Γ ∧ ∀ v S' H', Rl S H S' H' → Gd K c S' σ H' Γ' → Den K S' H' v d → Q v H'
def tEs (K : PySem.W.Frag) (c : Cn) (Γ : Gm) (ds : List D) (Γ' : Gm) : TA := fun σ H Q => ∃ S, Gd K c S σ H Γ ∧ ∀ vs S' H', Rl S H S' H' → Gd K c S' σ H' Γ' → DenL K S' H' vs ds → Q vs H'
def tEt (K : PySem.W.Frag) (c : Cn) (Γ : Gm) (k : Bool) (Γ' : Gm) : TT := fun σ H Q => ∃ S, Gd K c S σ H Γ ∧ ∀ S' H', Rl S H S' H' → Gd K c S' σ H' Γ' → Q k H'
abbrev Ev (X : Cx) (c : Cn) (Γ : Gm) (e : Expr) (d : D) (Γ' : Gm) : Prop := PE X e (tE X.K c Γ d Γ')
abbrev Ea (X : Cx) (c : Cn) (Γ : Gm) (es : List Expr) (ds : List D) (Γ' : Gm) : Prop := PA X es (tEs X.K c Γ ds Γ')
abbrev Et (X : Cx) (c : Cn) (Γ : Gm) (e : Expr) (k : Bool) (Γ' : Gm) : Prop := PT X e (tEt X.K c Γ k Γ')
section
variable {X : Cx} {c : Cn} {Γ Γ1 Γ2 Γ3 : Gm} {a b e : Expr} {es : List Expr} {pos p : Pos} {da db dc d : D} {st : Stmt} {rest A B : List Stmt} {Po : Post} {x : Str} {k j : Nat}
theorem ev_p (h : Pe X c Γ e d) : Ev X c Γ e d Γ := PE.wk h fun σ H Q ⟨S, t, q⟩ => ⟨S, t, fun v H1 e1 d1 => q v S H1 (.of e1) (t.ext e1) d1⟩
theorem ea_p {ds : List D} (h : Pa X c Γ es ds) : Ea X c Γ es ds Γ := PA.wk h fun σ H Q ⟨S, t, q⟩ => ⟨S, t, fun v H1 e1 d1 => q v S H1 (.of e1) (t.ext e1) d1⟩
theorem et_p {k : Bool} (h : Pt X c Γ e k) : Et X c Γ e k Γ := PT.wk h fun σ H Q ⟨S, t, q⟩ => ⟨S, t, fun H1 e1 => q S H1 (.of e1) (t.ext e1)⟩
theorem ev_is {d' : D} (h : Ev X c Γ e d Γ1) (q : d = d') : Ev X c Γ e d' Γ1 := q ▸ h
theorem ev_isG (h : Ev X c Γ e d Γ1) (q : Γ1 = Γ2) : Ev X c Γ e d Γ2 := q ▸ h
theorem ea_nil : Ea X c Γ [] [] Γ := ea_p a_nil
theorem ea_cons {ds : List D} (h : Ev X c Γ e d Γ1) (hr : Ea X c Γ1 es ds Γ2) (hs : starEach (e :: es) X.env = (false, eval e X.env) :: starEach es X.env := by rfl) : Ea X c Γ (e :: es) (d :: ds) Γ2 :=
  PA.wk (pa_cons h hr hs) fun σ H Q ⟨S, t, q⟩ => ⟨S, t, fun v S1 H1 r1 t1 d1 => ⟨S1, t1, fun vs S2 H2 r2 t2 d2 => q _ S2 H2 (r1.trans r2) t2 (.cons (d1.mono r2) d2)⟩⟩
/-- x(hand, ..) -/
theorem ev_call (h : Nat) {y : Str} {py : Pos} {F : Fh} {ds l l' : List D} (G : FoH X k x F) (hr : Room j X.A) (ha : Ea X c Γ es ds Γ1) (hh : Γ1[h]? = some (some (.ow l))) (hF : F l ds d l') (hk : k ≤ j := by decide) (hg : Gl X x := by rfl) (h0 : ∃ l0, Γ[h]? = some (some (.ow l0)) := by exact ⟨_, rfl⟩)
    (hN : X.N[h]? = some y := by rfl) (hv : Vis X.env.scope y := by first | exact Or.inl rfl | exact Or.inr (Or.inl rfl) | exact Or.inr (Or.inr rfl)) (hd : (y == ("__debug__" : Str)) = false := by decide) (hcd : (y == ("__classdict__" : Str)) = false := by decide)
    (hdb : (x == ("__debug__" : Str)) = false := by decide) (he : starEach (.Name y py :: es) X.env = (false, eval (.Name y py) X.env) :: starEach es X.env := by rfl) (hpl : (backTo pos (starEach es X.env)).any (·.1) = false := by rfl) :
    Ev X c Γ (.Call (.Name x p) (.Name y py :: es) [] pos) d (Γ1.set h (some (.ow l'))) := by
  obtain ⟨f, fd, ps, h1, h2, h3, h4⟩ := G.ex
  obtain ⟨l0, hh0⟩ := h0
  refine PE.wk (pe_call h1 (hr.mono hk) hg h2 h3 h4 .nil passL (pa_cons (pe_var hN hv hd hcd) ha he) hdb he hpl) fun σ H Q ⟨S, t, q⟩ => ?_
  obtain ⟨a, xs0, g1, g2, g3, g4⟩ := t.ow hh0
  refine ⟨.ref a, g1, S, t, fun vs S1 H1 r1 t1 d1 => ?_⟩
  obtain ⟨a', xs, g5, g6, g7, g8⟩ := t1.ow hh
  have ea : a' = a := by rw [g1] at g5; cases g5; rfl
  subst ea
  show upH X.K F (_ ++ []) H1 Q E0
  rw [List.append_nil]
  refine ⟨S1, a', xs, l, vs, ds, d, l', rfl, t1.dom, g6, g7, g8, d1, hF, fun v H' ys k1 k2 k3 k4 => ?_⟩
  obtain ⟨t2, r2⟩ := t1.call hh g5 g6 g7 k1 k2 k3
  exact q v S1 H' (r1.trans r2) t2 k4
/-- a def that gives a new list, changes nothing -/
theorem n_call {F : Fl} {ds l : List D} (G : FoN X k x F) (hr : Room j X.A) (ha : Pa X c Γ (e :: es) ds) (hF : F ds l) (hk : k ≤ j := by decide) (hg : Gl X x := by rfl)
    (hdb : (x == ("__debug__" : Str)) = false := by decide) (he : starEach (e :: es) X.env = (false, eval e X.env) :: starEach es X.env := by rfl) (hpl : (backTo pos (starEach es X.env)).any (·.1) = false := by rfl) :
    Pn X c Γ (.Call (.Name x p) (e :: es) [] pos) l := by
  obtain ⟨f, fd, ps, h1, h2, h3, h4⟩ := G.ex
  exact PE.wk (pe_call h1 (hr.mono hk) hg h2 h3 h4 .nil passL ha hdb he hpl) fun σ H Q ⟨S, t, q⟩ => ⟨S, t, fun vs H1 e1 d1 => by
    show upN X.K F (vs ++ []) H1 Q E0
    rw [List.append_nil]
    exact ⟨S, ds, l, (t.ext e1).dom, d1, hF, fun p xs H2 e2 n2 h2 d2 => q p xs H2 (e1.trans e2) (e1.free n2) h2 d2⟩⟩
theorem ev_bin {op : Operator} (ha : Ev X c Γ a da Γ1) (hb : Ev X c Γ1 b db Γ2) (ho : Bn X op da db d) : Ev X c Γ (.BinOp a op b pos) d Γ2 := by
  obtain ⟨r, h1, h2⟩ := ho
  exact PE.wk (pe_op h1 ha hb) fun σ H Q ⟨S, t, q⟩ => ⟨S, t, fun v S1 H1 r1 t1 d1 => ⟨S1, t1, fun w S2 H2 r2 t2 d2 => h2 S2 H2 v w t2.dom (d1.mono r2) d2 Q fun u H3 e3 d3 => q u S2 H3 ((r1.trans r2).trans (.of e3)) (t2.ext e3) d3⟩⟩
theorem ev_cmp {op : CmpOp} {k : Bool} (ha : Ev X c Γ a da Γ1) (hb : Ev X c Γ1 b db Γ2) (h : Cm X op da db k) (hm : behindInMarks op b = false := by first | exact nomark _ | rfl) : Ev X c Γ (.Compare a [op] [b] pos) (.bl k) Γ2 := by
  obtain ⟨r, h1, h2⟩ := h
  exact PE.wk (pe_cmpR h1 ha hb hm) fun σ H Q ⟨S, t, q⟩ => ⟨S, t, fun v S1 H1 r1 t1 d1 => ⟨S1, t1, fun w S2 H2 r2 t2 d2 => h2 S2 H2 v w (d1.mono r2) d2 Q (q _ S2 H2 (r1.trans r2) t2 (.bl k))⟩⟩
theorem et_cmp {op : CmpOp} {k : Bool} (ha : Ev X c Γ a da Γ1) (hb : Ev X c Γ1 b db Γ2) (h : Cm X op da db k) (hm : behindInMarks op b = false := by first | exact nomark _ | rfl) : Et X c Γ (.Compare a [op] [b] pos) k Γ2 := by
  obtain ⟨r, h1, h2⟩ := h
  exact PT.wk (pt_cmpR h1 ha hb hm) fun σ H Q ⟨S, t, q⟩ => ⟨S, t, fun v S1 H1 r1 t1 d1 => ⟨S1, t1, fun w S2 H2 r2 t2 d2 => h2 S2 H2 v w (d1.mono r2) d2 _ ⟨k, rfl, q S2 H2 (r1.trans r2) t2⟩⟩⟩
theorem et_not {k : Bool} (h : Et X c Γ a k Γ1) : Et X c Γ (.UnaryOp .Not a pos) (!k) Γ1 :=
  PT.wk (pt_not h) fun σ H Q ⟨S, t, q⟩ => ⟨S, t, fun S1 H1 r1 t1 => q S1 H1 r1 t1⟩
theorem et_val {k : Bool} (h : Ev X c Γ e (.bl k) Γ1) (he : ∀ whole, isTrue e X.env whole = (do let v ← whole; standAt e.pos; holding [v] (truthy v)) := by intro _; rfl) : Et X c Γ e k Γ1 :=
  PT.wk (pt_val h he) fun σ H Q ⟨S, t, q⟩ => ⟨S, t, fun v S1 H1 r1 t1 d1 => ⟨k, d1.bl_, q S1 H1 r1 t1⟩⟩
theorem ev_tup {x1} {ds : List D} (h : Ea X c Γ es ds Γ1) (hl : ds.length ≤ 16000000 := by simp) : Ev X c Γ (.Tuple es x1 pos) (.tup ds) Γ1 :=
  PE.wk (pe_tup h) fun σ H Q ⟨S, t, q⟩ => ⟨S, t, fun vs S1 H1 r1 t1 d1 => ⟨by rw [d1.length]; exact small_line hl, fun p hp => q _ S1 _ (r1.trans (.of (same_new hp))) (t1.ext (same_new hp)) (Den.newT t1.dom hp d1)⟩⟩
theorem ev_lst {ds : List D} (h : Ea X c Γ es ds Γ1) (hl : ds.length ≤ 16000000 := by simp) : Ev X c Γ (.List es pos) (.lst ds) Γ1 :=
  PE.wk (pe_lst h) fun σ H Q ⟨S, t, q⟩ => ⟨S, t, fun vs S1 H1 r1 t1 d1 => ⟨by rw [d1.length]; exact small_line hl, fun p hp => q _ S1 _ (r1.trans (.of (same_new hp))) (t1.ext (same_new hp)) (Den.newL t1.dom hp d1)⟩⟩
theorem ev_ixL {l : List D} {i : Int} (ha : Ev X c Γ a (.lst l) Γ1) (hb : Ev X c Γ1 b (.int i) Γ2) (h : L2.atI l i = some d) (hs : PlainIx b := by exact fun _ _ => rfl) : Ev X c Γ (.Subscript a b pos) d Γ2 :=
  PE.wk (pe_ix ix_list ha hb hs) fun σ H Q ⟨S, t, q⟩ => ⟨S, t, fun v S1 H1 r1 t1 d1 => ⟨S1, t1, fun w S2 H2 r2 t2 d2 => by
    obtain ⟨p, xs, rfl, h1, h2⟩ := (d1.mono r2).lst_
    obtain ⟨x, h3, h4⟩ := h2.atI h
    exact ⟨p, xs, i, x, rfl, d2.int_, h1, h3, q x S2 H2 (r1.trans r2) t2 h4⟩⟩⟩
theorem ev_ixT {l : List D} {i : Int} (ha : Ev X c Γ a (.tup l) Γ1) (hb : Ev X c Γ1 b (.int i) Γ2) (h : L2.atI l i = some d) (hs : PlainIx b := by exact fun _ _ => rfl) : Ev X c Γ (.Subscript a b pos) d Γ2 :=
  PE.wk (pe_ix ix_tup ha hb hs) fun σ H Q ⟨S, t, q⟩ => ⟨S, t, fun v S1 H1 r1 t1 d1 => ⟨S1, t1, fun w S2 H2 r2 t2 d2 => by
    obtain ⟨p, xs, rfl, h1, h2⟩ := (d1.mono r2).tup_
    obtain ⟨x, h3, h4⟩ := h2.atI h
    exact ⟨p, xs, i, x, rfl, d2.int_, h1, h3, q x S2 H2 (r1.trans r2) t2 h4⟩⟩⟩
/-- a def that changes nothing, of arguments that do -/
theorem ev_callP {F : Fs} {ds : List D} (G : FoX X k x F) (hr : Room j X.A) (ha : Ea X c Γ (e :: es) ds Γ1) (hF : F ds (.ok d)) (hk : k ≤ j := by decide) (hg : Gl X x := by rfl)
    (hdb : (x == ("__debug__" : Str)) = false := by decide) (he : starEach (e :: es) X.env = (false, eval e X.env) :: starEach es X.env := by rfl) (hpl : (backTo pos (starEach es X.env)).any (·.1) = false := by rfl) :
    Ev X c Γ (.Call (.Name x p) (e :: es) [] pos) d Γ1 := by
  obtain ⟨f, fd, ps, h1, h2, h3, h4⟩ := G.ex
  exact PE.wk (pe_call h1 (hr.mono hk) hg h2 h3 h4 .nil passL ha hdb he hpl) fun σ H Q ⟨S, t, q⟩ => ⟨S, t, fun vs S1 H1 r1 t1 d1 => by
    show upP X.K F (vs ++ []) H1 Q E0
    rw [List.append_nil]
    exact ⟨S1, ds, .ok d, t1.dom, d1, hF, fun d' hd v H2 e2 d2 => by cases hd; exact q v S1 H2 (r1.trans (.of e2)) (t1.ext e2) d2, fun _ hd => by cases hd⟩⟩
theorem ev_blt {id : String} {ds : List D} (h : Cb X (.builtin id) ds d) (ha : Ea X c Γ (e :: es) ds Γ1) (hm : X.mg x = none) (hv : bootBuiltins x = some (.builtin id)) (hg : Gl X x := by rfl) (hn : x ≠ "__name__" := by decide) (hdb : (x == ("__debug__" : Str)) = false := by decide)
    (he : starEach (e :: es) X.env = (false, eval e X.env) :: starEach es X.env := by rfl) (hpl : (backTo pos (starEach es X.env)).any (·.1) = false := by rfl) : Ev X c Γ (.Call (.Name x p) (e :: es) [] pos) d Γ1 := by
  obtain ⟨r, h1, h2⟩ := h
  exact PE.wk (pe_callB h1 hg hm hv ha hn hdb he hpl) fun σ H Q ⟨S, t, q⟩ => ⟨S, t, fun vs S1 H1 r1 t1 d1 => h2 S1 H1 vs t1.dom d1 Q fun u H2 e2 d2 => q u S1 H2 (r1.trans (.of e2)) (t1.ext e2) d2⟩
theorem ev_bty {T : String} {ds : List D} (h : Cb X (.type T) ds d) (ha : Ea X c Γ (e :: es) ds Γ1) (hm : X.mg x = none) (hv : bootBuiltins x = some (.type T)) (hg : Gl X x := by rfl) (hn : x ≠ "__name__" := by decide) (hdb : (x == ("__debug__" : Str)) = false := by decide)
    (he : starEach (e :: es) X.env = (false, eval e X.env) :: starEach es X.env := by rfl) (hpl : (backTo pos (starEach es X.env)).any (·.1) = false := by rfl) : Ev X c Γ (.Call (.Name x p) (e :: es) [] pos) d Γ1 := by
  obtain ⟨r, h1, h2⟩ := h
  exact PE.wk (pe_callTy h1 hg hm hv ha hn hdb he hpl) fun σ H Q ⟨S, t, q⟩ => ⟨S, t, fun vs S1 H1 r1 t1 d1 => h2 S1 H1 vs t1.dom d1 Q fun u H2 e2 d2 => q u S1 H2 (r1.trans (.of e2)) (t1.ext e2) d2⟩
/-- a if t else b -/
theorem ev_if {k : Bool} {c' : Expr} (h : Et X c Γ c' k Γ1) (h1 : k = true → Ev X c Γ1 a d Γ2) (h2 : k = false → Ev X c Γ1 b d Γ2) : Ev X c Γ (.IfExp c' a b pos) d Γ2 := by
  cases k with
  | true =>
    have hN : PE X b (fun _ _ _ => False) := ⟨fun _ _ _ _ _ _ z => z.elim⟩
    exact PE.wk (pe_ifExp h (h1 rfl) hN) fun σ H Q ⟨S, t, q⟩ => ⟨S, t, fun S1 H1 r1 t1 => by
      refine iteT ?_
      exact ⟨S1, t1, fun w S2 H2 r2 t2 d2 => q w S2 H2 (r1.trans r2) t2 d2⟩⟩
  | false =>
    have hN : PE X a (fun _ _ _ => False) := ⟨fun _ _ _ _ _ _ z => z.elim⟩
    exact PE.wk (pe_ifExp h hN (h2 rfl)) fun σ H Q ⟨S, t, q⟩ => ⟨S, t, fun S1 H1 r1 t1 => by
      refine iteF ?_
      exact ⟨S1, t1, fun w S2 H2 r2 t2 d2 => q w S2 H2 (r1.trans r2) t2 d2⟩⟩

/-! ### statements -/
theorem s_setE (i : Nat) {pos' : Pos} (he : Ev X c Γ e d Γ1) (hr : Po.nx (Γ1.set i (some (.im d)))) (hN : X.N.Nodup) (hi : X.N[i]? = some x := by rfl) (hx : Loc X.env.scope x := by first | exact Or.inl rfl | exact Or.inr rfl) (hf : fxB c.fx i = true := by rfl)
    (hs : swapsWith e (some (.Name x pos')) pos.line X.env = pure false := by rfl) (hfn : X.fn x = true ∨ X.env.scope.names.lookup x = some .local := by first | exact .inl rfl | exact .inr rfl) : Sm X c Γ (.Assign [.Name x pos'] e pos) Po :=
  PS.wk (ps_set hN hi hx he hs hfn) fun D σ H ⟨S, t, q⟩ => ⟨S, t, fun v S1 H1 r1 t1 d1 => q.nx _ H1 S1 _ r1 (t1.setIm d1 (fxB_ok hf)) hr⟩
theorem s_parE (i j : Nat) {y : Str} {px py pt : Pos} {kt k2 pt2} {d1 d2 : D} (ha : Ea X c Γ [a, b] [d1, d2] Γ1) (hr : Po.nx ((Γ1.set i (some (.im d1))).set j (some (.im d2)))) (hN : X.N.Nodup) (hij : i ≠ j := by decide) (hc : X.calm = true := by rfl) (hi : X.N[i]? = some x := by rfl) (hj : X.N[j]? = some y := by rfl)
    (hx : X.env.scope.names.lookup x = some .local := by rfl) (hy : X.env.scope.names.lookup y = some .local := by rfl) (hf : fxB c.fx i = true := by rfl) (hf2 : fxB c.fx j = true := by rfl)
    (hw : swappedStores [.Tuple [.Name x px, .Name y py] kt pt] (.Tuple [a, b] k2 pt2) X.env = pure (some [x, y]) := by rfl)
    (hs : swapsWithSole [.Tuple [.Name x px, .Name y py] kt pt] (.Tuple [a, b] k2 pt2) pos.line X.env = pure false := by rfl) :
    Sm X c Γ (.Assign [.Tuple [.Name x px, .Name y py] kt pt] (.Tuple [a, b] k2 pt2) pos) Po :=
  PS.wk (ps_par hc hN hi hj hij hx hy ha hw hs) fun D σ H ⟨S, t, q⟩ => ⟨S, t, fun vs S1 H1 r1 t1 dv => by
    obtain ⟨v, w, rfl, h1, h2⟩ := dv.two
    exact ⟨v, w, rfl, q.nx _ H1 S1 _ r1 ((t1.setIm h1 (fxB_ok hf)).setIm h2 (fxB_ok hf2)) hr⟩⟩
theorem s_unpackE (is : List Nat) {ts : List Expr} {k : Nat} {p1 : Pos} {ds : List D} (he : Ev X c Γ e (.tup ds) Γ1) (hr : Po.nx (setAll Γ1 is ds)) (hl : is.length = ds.length := by rfl) (hg : PGs X ts (is.foldr (fun i u => gCons (gName i) u) gNil)) (hc : X.calm = true := by rfl) (hf : (is.all fun i => fxB c.fx i) = true := by rfl)
    (hn : (assignEach ts X.env).length = is.length := by rfl) (hst : (assignEach ts X.env).findIdx? (·.1) = none := by rfl)
    (hs : swapsWithSole [.Tuple ts k p1] e pos.line X.env = pure false := by rfl) (hw : swappedStores [.Tuple ts k p1] e X.env = pure none := by rfl) (h1 : (assignEach [.Tuple ts k p1] X.env).map (·.2) = [assign (.Tuple ts k p1) X.env] := by rfl) :
    Sm X c Γ (.Assign [.Tuple ts k p1] e pos) Po :=
  PS.wk (ps_asg he (pg_tup hc hg hn hst) hs hw h1) fun D σ H ⟨S, t, q⟩ => ⟨S, t, fun v S1 H1 r1 t1 d1 => by
    obtain ⟨p, xs, rfl, h2, h3⟩ := d1.tup_
    exact ⟨p, xs, rfl, h2, by rw [h3.length, hl], gd_setAll is ds xs hl (List.all_eq_true.mp hf) h3 t1 rfl fun σ' g => q.nx σ' H1 S1 _ r1 g hr⟩⟩
theorem s_ifE {k : Bool} {t' : Expr} (h : Et X c Γ t' k Γ1) (h1 : k = true → Bl X c Γ1 A Po) (h2 : k = false → Bl X c Γ1 B Po) : Sm X c Γ (.If t' A B pos) Po := by
  cases k with
  | true =>
    have hN : PSs X B (fun _ _ _ => False) := ⟨fun _ _ _ _ _ _ z => z.elim⟩
    exact PS.wk (ps_if h (h1 rfl) hN) fun D σ H ⟨S, t, q⟩ => ⟨S, t, fun S1 H1 r1 t1 => by
      refine iteT ?_
      exact ⟨S1, t1, q.go r1⟩⟩
  | false =>
    have hN : PSs X A (fun _ _ _ => False) := ⟨fun _ _ _ _ _ _ z => z.elim⟩
    exact PS.wk (ps_if h hN (h2 rfl)) fun D σ H ⟨S, t, q⟩ => ⟨S, t, fun S1 H1 r1 t1 => by
      refine iteF ?_
      exact ⟨S1, t1, q.go r1⟩⟩
theorem s_retE (he : Ev X c Γ e d Γ1) (h : Po.rt (.im d) Γ1) : Sm X c Γ (.Return (some e) pos) Po :=
  PS.wk (ps_ret he) fun D σ H ⟨S, t, q⟩ => ⟨S, t, fun v S1 H1 r1 t1 d1 => q.rt v σ H1 S1 Γ1 (.im d) r1 t1 d1 h⟩
theorem s_exprE (he : Ev X c Γ e d Γ1) (h : Po.nx Γ1) (hs : swapsWith e none pos.line X.env = pure false := by rfl) : Sm X c Γ (.Expr e pos) Po :=
  PS.wk (ps_expr he hs) fun D σ H ⟨S, t, q⟩ => ⟨S, t, fun v S1 H1 r1 t1 d1 => q.nx σ H1 S1 Γ1 r1 t1 h⟩
end

/-! ### a def whose first argument is such a list -/
def gmH (n : Nat) (l : List D) (ds : List D) : Gm := some (.ow l) :: gm0 (n - 1) (ds.map .im)
theorem gd_startH {K : PySem.W.Frag} {S : Addr → Prop} {H : Hp} {a : Addr} {xs vs : List V} {l ds : List D} {n : Str} {N : List Str} (hd : ∀ a, S a → H a ≠ none) (hS : S a) (hH : H a = some (.lst xs)) (hx : DenL K S H xs l) (h : DenL K S H vs ds) :
    Gd K ⟨S, H, [], [(0, .ref a)]⟩ S (L2.start (n :: N) (.ref a :: vs)) H (gmH (n :: N).length l ds) := by
  have g := gd_start (N := N) hd h
  have eσ : L2.start (n :: N) (.ref a :: vs) = some (.ref a) :: L2.start N vs := by
    unfold L2.start
    simp
  have eΓ : gmH (n :: N).length l ds = some (.ow l) :: gm0 N.length (ds.map .im) := rfl
  rw [eσ, eΓ]
  have no : ∀ (i : Nat) (l : List D), (gm0 N.length (ds.map .im))[i]? ≠ some (some (.ow l)) := fun i l q => by
    unfold gm0 at q
    by_cases hi : i < ds.length
    · rw [List.getElem?_append_left (by simpa using hi)] at q
      simp only [List.getElem?_map] at q
      cases e2 : ds[i]? with
      | none => rw [e2] at q; cases q
      | some d => rw [e2] at q; cases q
    · rw [List.getElem?_append_right (by simpa using hi), List.getElem?_replicate] at q
      split at q <;> cases q
  refine ⟨by simpa using g.len, fun i e q => ?_, fun i j b m m' h1 h2 _ _ => ?_, fun i m b h1 _ h3 => ?_, fun a z => z, fun a z => .inl z, fun a o z _ _ => z, hd, fun a z _ => z, fun p hp => ?_, (fun p z => nomatch z), (fun p z => nomatch z)⟩
  · cases i with
    | zero =>
      cases q
      exact ⟨.ref a, rfl, a, xs, rfl, hS, hH, hx⟩
    | succ i => exact g.at_ i e q
  · cases i with
    | zero =>
      cases j with
      | zero => rfl
      | succ j => exact absurd h2 (no j m')
    | succ i => exact absurd h1 (no i m)
  · cases i with
    | zero => exact absurd rfl (h3 (0, .ref a) List.mem_cons_self)
    | succ i => exact absurd h1 (no i m)
  · rcases List.mem_singleton.mp hp with rfl
    rfl
abbrev poH (d : D) (l' : List D) : Post := { nx := fun Γ' => d = .non ∧ Γ'[0]? = some (some (.ow l')), rt := fun en Γ' => d = toD en ∧ Γ'[0]? = some (some (.ow l')) }
section
variable {P : Program} {w : World} {K : PySem.W.Frag} {mg : Str → Option Value} {base : Heap}
theorem mkH {x q : Str} {stt : Stmt} {f : Addr} {fd : FuncData} {n : Str} {N ps : List Str} {k : Nat} {F : Fh} (Fn : Fun K x q stt f fd) (Sc : FnScope (n :: N) ps (defScope stt)) (len : ∀ l ds d l', F l ds d l' → ds.length + 1 = ps.length)
    (hb : ∀ (cdv : Value) (A : Around) (outer : List Env) (s : Shared) (H : Hp) (E : XK) (S0 : Addr → Prop) (H0 : Hp) (a : Addr) (l ds : List D) (d : D) (l' : List D), Room k (Bx P w K mg base (n :: N) q (defScope stt) f cdv A outer s H E).A → F l ds d l' →
      Bl (Bx P w K mg base (n :: N) q (defScope stt) f cdv A outer s H E) ⟨S0, H0, [], [(0, .ref a)]⟩ (gmH (n :: N).length l ds) (defBody stt) (poH d l')) : FnOk P w K mg base (L2.CX P w) (k + 1) f fd ps (upH K F) := by
  refine Fn.okX Sc (fun vs H Q E ⟨S, a, xs, l, vs', ds, d, l', e, _, _, _, _, hl, hF, _⟩ => by rw [e, List.length_cons, hl.length]; exact len l ds d l' hF) (fun cdv A outer s H vs Q E hr ⟨S, a, xs, l, vs', ds, d, l', e, hd, hS, hH, hx, hl, hF, k1⟩ => ⟨_, hb cdv A outer s H E S H a l ds d l' hr hF, ?_⟩)
  subst e
  have fin : ∀ {v : V} {σ' : L2.St} {H' : Hp} {S' : Addr → Prop} {Γ' : Gm}, Gd K ⟨S, H, [], [(0, .ref a)]⟩ S' σ' H' Γ' → Γ'[0]? = some (some (.ow l')) → Den K S H' v d → Q v H' := fun {v σ' H' S' Γ'} g h0 hv => by
    obtain ⟨a', ys, g1, g2, g3, g4⟩ := g.ow h0
    have f := g.fix (0, .ref a) List.mem_cons_self
    have ea : a' = a := by
      rw [show σ'[0]? = some (some (V.ref a)) from f] at g1
      cases g1
      rfl
    subst ea
    refine k1 v H' ys (fun b o hb0 hne => g.chg b o hb0 ?_ (fun nt => nt.1 rfl)) g3 (g4.less g.sub) hv
    rintro (⟨p, hp, e⟩ | ⟨p, hp, _⟩)
    · rcases List.mem_singleton.mp hp with rfl
      cases e
      exact hne rfl
    · cases hp
  refine ⟨S, gd_startH hd hS hH hx hl, ⟨fun σ' H' S' Γ' r' g hn => ?_, fun v σ' H' S' Γ' en r' g rs hn => ?_, fun _ _ _ _ _ _ z => z.elim, fun _ _ _ _ _ _ z => z.elim⟩⟩
  · obtain ⟨rfl, h0⟩ := hn
    exact fin g h0 .non
  · obtain ⟨rfl, h0⟩ := hn
    exact fin g h0 (rs.den g)
/-- a def that gives a new list -/
theorem mkN {x q : Str} {stt : Stmt} {f : Addr} {fd : FuncData} {N ps : List Str} {k : Nat} {F : Fl} (Fn : Fun K x q stt f fd) (Sc : FnScope N ps (defScope stt)) (len : ∀ ds l, F ds l → ds.length = ps.length)
    (hb : ∀ (cdv : Value) (A : Around) (outer : List Env) (s : Shared) (H : Hp) (E : XK) (S0 : Addr → Prop) (H0 : Hp) (ds l : List D), Room k (Bx P w K mg base N q (defScope stt) f cdv A outer s H E).A → F ds l →
      Bl (Bx P w K mg base N q (defScope stt) f cdv A outer s H E) ⟨S0, H0, [], []⟩ (gm0 N.length (ds.map .im)) (defBody stt) { nx := fun _ => False, rt := fun en _ => en = .ow l }) : FnOk P w K mg base (L2.CX P w) (k + 1) f fd ps (upN K F) := by
  refine Fn.okX Sc (fun vs H Q E ⟨S, ds, l, _, hl, hF, _⟩ => by rw [hl.length]; exact len ds l hF) (fun cdv A outer s H vs Q E hr ⟨S, ds, l, hd, hl, hF, k1⟩ => ⟨_, hb cdv A outer s H E S H ds l hr hF, ?_⟩)
  refine ⟨S, gd_start hd hl, ⟨fun _ _ _ _ _ _ z => z.elim, fun v σ' H' S' Γ' en r' g rs hn => ?_, fun _ _ _ _ _ _ z => z.elim, fun _ _ _ _ _ _ z => z.elim⟩⟩
  subst hn
  obtain ⟨a, xs, rfl, h1, h2, h3, h4, _⟩ := rs
  have sm : Same H H' := fun b o z => g.chg b o z (by rintro (⟨p, hp, _⟩ | ⟨p, hp, _⟩) <;> cases hp) (fun nt => nt.1 rfl)
  refine k1 a xs H' sm ?_ h3 (h4.less fun b z => z.elim (g.sub b) fun z => by rw [z]; exact h1)
  rcases g.new a h1 with z | z | z
  · exact absurd z h2
  · exact z
  · exact absurd rfl z.1
end
end Spr

set_option Elab.async false
set_option linter.all false
set_option maxRecDepth 100000
set_option maxHeartbeats 4000000
/-! in, index, count; a lambda handed to a def that calls it within try: what is said of an error. -/
namespace Spr
open PySem PySem.Spec PyProof.Rows L2

/-! ### l.count(x) over data -/
def rCountD (K : PySem.W.Frag) : V → List V → Hp → VK → Prop := fun x xs H Q => ∃ (a : Addr) (y : V) (d : PyData) (ds : List PyData), x = V.ref a ∧ xs = [y] ∧ Dp K H (V.ref a) (.list ds) ∧ Dp K H y d ∧
  SeqAt.shaped (.list ds) = true ∧ SeqAt.shaped d = true ∧ Q (.int ((ds.countP fun z => PyData.eqv z d : Nat) : Int)) H
theorem mt_countD {X : Cx} (hu : X.A.units + 65 < cLine) : MtR X "list.count" (rCountD X.K) := by
  intro pins s σ H x xs v us Q I rx rxs h
  obtain ⟨a, y, d, ds, rfl, rfl, hl, hy, sl, sd, q⟩ := h
  cases rx
  cases rxs with
  | cons ry rt =>
    rename_i uy ut
    cases rt
    obtain ⟨bs, r1⟩ := Dp.reads I d y uy hy ry
    have hxs : PyData.canLayAll0 ds = true := SeqAt.canLay_of_shaped sl
    have hroom : X.A.units + 1 + min (PyData.depthAll ds) d.depth < cLine := room_in_shaped sd hu
    cases hl with
    | lst hs ha =>
      obtain ⟨its, rv, ⟨⟨cls, dd, data, sls⟩, n, ho, hc, hdn, hdt⟩, hlen⟩ := I.list hs
      simp only at hc hdt
      subst hc hdt
      obtain ⟨as, h4⟩ := Dp.readsAll I ds _ its ha rv
      have hmap : its.map (SeqAt.readOf s.heap) = ds := SeqAt.readsAll_map ds its as hxs h4
      refine call_meets PySem.F.slot_list_count ⟨_, ho, rfl⟩ PySem.F.entry_list_count (PySem.F.args_list_count_2 _ _)
        (SeqAt.list_countAt a its.toArray n dd sls uy (fun u => PyData.eqv (SeqAt.readOf s.heap u) d)) ⟨ho, SeqAt.items_eqAt (vs := its.toArray) (show ReadsAll s.heap its.toArray.toList ds as from h4) r1 hxs (SeqAt.canLay_of_shaped sd) hroom, ?_⟩
      have ec : its.toArray.toList.countP (fun u => PyData.eqv (SeqAt.readOf s.heap u) d) = ds.countP fun z => PyData.eqv z d := by
        rw [← hmap, List.countP_map]
        rfl
      refine ⟨.int ((ds.countP fun z => PyData.eqv z d : Nat) : Int), H, I.tok _, ⟨s.toks, ?_⟩, q⟩
      show Value.int ((its.toArray.toList.countP (fun u => PyData.eqv (SeqAt.readOf s.heap u) d) : Nat) : Int) s.toks = Value.int ((ds.countP fun z => PyData.eqv z d : Nat) : Int) s.toks
      rw [ec]
def lstOk (l : List D) : Bool := eqOk (.lst l)
theorem dp_lst {K : PySem.W.Frag} {S : Addr → Prop} {H : Hp} {v : V} {l : List D} (h : Den K S H v (.lst l)) (hp : pyOk (.lst l) = true) : ∃ a, v = .ref a ∧ Dp K H (V.ref a) (.list (toPyL l)) := by
  obtain ⟨a, xs, rfl, _, _⟩ := h.lst_
  exact ⟨a, rfl, Den.dp _ _ hp h⟩
def cntD (l : List D) (d : D) : Nat := l.countP fun z => deq z d
theorem cnt_toPy (l : List D) (d : D) : (toPyL l).countP (fun z => PyData.eqv z (toPy d)) = cntD l d := by
  unfold cntD
  induction l with
  | nil => rfl
  | cons a l ih =>
    show List.countP _ (toPy a :: toPyL l) = _
    rw [List.countP_cons, List.countP_cons, ih]
    rfl
section
variable {X : Cx} {c : Cn} {Γ Γ1 : Gm} {a b e : Expr} {es : List Expr} {pos p apos cpos : Pos} {da db dc d : D} {Po : Post} {x : Str} {k j : Nat}
theorem p_count {l : List D} (hu : X.A.units + 65 < cLine) (ho : Pe X c Γ a (.lst l)) (ha : Pe X c Γ e d) (h1 : eqOk (.lst l) = true) (h2 : eqOk d = true)
    (hbm : ∀ to ta, PE X a to → PA X [e] ta → PE X (.Call (.Attribute a "count" apos) [e] [] cpos) (tBM X.K "list" (rCountD X.K) to ta)) (hst : starEach [e] X.env = (false, eval e X.env) :: starEach [] X.env := by rfl) : Pe X c Γ (.Call (.Attribute a "count" apos) [e] [] cpos) (.int (cntD l d)) :=
  PE.wk (hbm _ _ ho (a_cons ha a_nil hst)) fun σ H Q ⟨S, t, q⟩ => ⟨S, t, fun v H1 e1 d1 => by
    obtain ⟨u, xs, rfl, h3, h4⟩ := d1.lst_
    refine ⟨.inl ⟨rfl, xs, h3⟩, S, t.ext e1, fun vs H2 e2 d2 => ?_⟩
    obtain ⟨y, rfl, h5⟩ := d2.one
    obtain ⟨p1, p2⟩ := Bool.and_eq_true_iff.mp h1
    obtain ⟨p3, p4⟩ := Bool.and_eq_true_iff.mp h2
    refine ⟨u, y, toPy d, toPyL l, rfl, rfl, Den.dp _ _ p1 (d1.ext e2), Den.dp _ _ p3 h5, p2, p4, ?_⟩
    rw [cnt_toPy]
    exact q _ H2 (e1.trans e2) (.int _)⟩
theorem toPyL_get (l : List D) (i : Nat) : (toPyL l)[i]? = (l[i]?).map toPy := by
  induction l generalizing i with
  | nil => rfl
  | cons a l ih =>
    cases i with
    | zero => rfl
    | succ i => exact ih i
theorem p_index {l : List D} {n : Nat} {z : D} (hu : X.A.units + 65 < cLine) (ho : Pe X c Γ a (.lst l)) (ha : Pe X c Γ e d) (h1 : eqOk (.lst l) = true) (h2 : eqOk d = true) (hz : l[n]? = some z) (hq : deq z d = true) (hno : ∀ m z', m < n → l[m]? = some z' → deq z' d = false)
    (hbm : ∀ to ta, PE X a to → PA X [e] ta → PE X (.Call (.Attribute a "index" apos) [e] [] cpos) (tBM X.K "list" (rIndexD X.K) to ta)) (hst : starEach [e] X.env = (false, eval e X.env) :: starEach [] X.env := by rfl) : Pe X c Γ (.Call (.Attribute a "index" apos) [e] [] cpos) (.int n) :=
  PE.wk (hbm _ _ ho (a_cons ha a_nil hst)) fun σ H Q ⟨S, t, q⟩ => ⟨S, t, fun v H1 e1 d1 => by
    obtain ⟨u, xs, rfl, h3, h4⟩ := d1.lst_
    refine ⟨.inl ⟨rfl, xs, h3⟩, S, t.ext e1, fun vs H2 e2 d2 => ?_⟩
    obtain ⟨y, rfl, h5⟩ := d2.one
    obtain ⟨p1, p2⟩ := Bool.and_eq_true_iff.mp h1
    obtain ⟨p3, p4⟩ := Bool.and_eq_true_iff.mp h2
    refine ⟨u, y, toPy d, toPyL l, n, toPy z, rfl, rfl, Den.dp _ _ p1 (d1.ext e2), Den.dp _ _ p3 h5, p2, p4, by rw [toPyL_get, hz]; rfl, hq, fun m z' hm h6 => ?_, q _ H2 (e1.trans e2) (.int _)⟩
    rw [toPyL_get] at h6
    cases h7 : l[m]? with
    | none => rw [h7] at h6; cases h6
    | some y' =>
      rw [h7] at h6
      cases h6
      exact hno m y' hm h7⟩
/-! ### in a tuple | list of ints -/
theorem inV_int {i : Int} {ns : List Int} : inV (.int i) (ns.map .int) = decide (i ∈ ns) := by
  unfold inV
  rw [List.any_map]
  induction ns with
  | nil => rfl
  | cons n ns ih =>
    rw [List.any_cons, ih]
    have e : ((fun y => eqV y (V.int i)) ∘ V.int) n = decide (i = n) := by
      show eqV (.int n) (.int i) = _
      simp only [eqV]
      by_cases h : i = n
      · subst h; simp
      · have h' : n ≠ i := fun z => h z.symm
        simp [h, h']
    rw [e]
    simp
theorem flat_ints (ns : List Int) : ((ns.map V.int).all flatV) = true := by
  rw [List.all_map]
  exact List.all_eq_true.mpr fun _ _ => rfl
theorem c_inT {i : Int} {ns : List Int} : Cm X .In (.int i) (.tup (ns.map .int)) (decide (i ∈ ns)) := ⟨_, op_in_seq, fun S H v w h1 h2 Q q => by
  obtain ⟨a, xs, rfl, h3, h4⟩ := h2.tup_
  rw [h4.ints] at h3
  rw [h1.int_]
  exact ⟨a, _, rfl, .inr h3, rfl, flat_ints ns, by rw [if_neg Bool.false_ne_true, inV_int]; exact q⟩⟩
theorem c_inL {i : Int} {ns : List Int} : Cm X .In (.int i) (.lst (ns.map .int)) (decide (i ∈ ns)) := ⟨_, op_in_seq, fun S H v w h1 h2 Q q => by
  obtain ⟨a, xs, rfl, h3, h4⟩ := h2.lst_
  rw [h4.ints] at h3
  rw [h1.int_]
  exact ⟨a, _, rfl, .inl h3, rfl, flat_ints ns, by rw [if_neg Bool.false_ne_true, inV_int]; exact q⟩⟩
theorem c_notinT {i : Int} {ns : List Int} : Cm X .NotIn (.int i) (.tup (ns.map .int)) (!decide (i ∈ ns)) := ⟨_, op_notIn_seq, fun S H v w h1 h2 Q q => by
  obtain ⟨a, xs, rfl, h3, h4⟩ := h2.tup_
  rw [h4.ints] at h3
  rw [h1.int_]
  exact ⟨a, _, rfl, .inr h3, rfl, flat_ints ns, by rw [if_pos rfl, inV_int]; exact q⟩⟩
theorem c_notinL {i : Int} {ns : List Int} : Cm X .NotIn (.int i) (.lst (ns.map .int)) (!decide (i ∈ ns)) := ⟨_, op_notIn_seq, fun S H v w h1 h2 Q q => by
  obtain ⟨a, xs, rfl, h3, h4⟩ := h2.lst_
  rw [h4.ints] at h3
  rw [h1.int_]
  exact ⟨a, _, rfl, .inl h3, rfl, flat_ints ns, by rw [if_pos rfl, inV_int]; exact q⟩⟩
/-- a new list: a if t else b -/
theorem n_if {l : List D} {k : Bool} {c' : Expr} (h : Pt X c Γ c' k) (h1 : k = true → Pn X c Γ a l) (h2 : k = false → Pn X c Γ b l) : Pn X c Γ (.IfExp c' a b pos) l := by
  cases k with
  | true =>
    have hN : PE X b (fun _ _ _ => False) := ⟨fun _ _ _ _ _ _ z => z.elim⟩
    exact PE.wk (pe_ifExp h (h1 rfl) hN) fun σ H Q ⟨S, t, q⟩ => ⟨S, t, fun H1 e1 => by
      refine iteT ?_
      exact ⟨S, t.ext e1, fun p xs H2 e2 n2 h2 d2 => q p xs H2 (e1.trans e2) (e1.free n2) h2 d2⟩⟩
  | false =>
    have hN : PE X a (fun _ _ _ => False) := ⟨fun _ _ _ _ _ _ z => z.elim⟩
    exact PE.wk (pe_ifExp h hN (h2 rfl)) fun σ H Q ⟨S, t, q⟩ => ⟨S, t, fun H1 e1 => by
      refine iteF ?_
      exact ⟨S, t.ext e1, fun p xs H2 e2 n2 h2 d2 => q p xs H2 (e1.trans e2) (e1.free n2) h2 d2⟩⟩
end

/-! ### an expression that may raise -/
def tX (K : PySem.W.Frag) (c : Cn) (Γ : Gm) (r : Except Er D) (W : WX) : TE := fun σ H Q => ∃ S, Gd K c S σ H Γ ∧ (∀ d, r = .ok d → ∀ v H', Same H H' → Den K S H' v d → Q v H') ∧ (∀ e, r = .error e → ∀ cls dx H', Same H H' → ErrAt e cls dx H' → W cls dx σ H')
abbrev Px (X : Cx) (c : Cn) (Γ : Gm) (e : Expr) (r : Except Er D) (W : WX) : Prop := PE X e (tX X.K c Γ r W)
abbrev cE (E : XK) : WX := fun cls dx _ H => E cls dx H
section
variable {X : Cx} {c : Cn} {Γ Γ1 : Gm} {a b e : Expr} {es : List Expr} {pos p apos cpos : Pos} {da db dc d : D} {Po : Post} {x : Str} {k j : Nat} {E : XK} {W : WX}
theorem x_p (h : Pe X c Γ e d) : Px X c Γ e (.ok d) W := PE.wk h fun σ H Q ⟨S, t, q, _⟩ => ⟨S, t, fun v H1 e1 d1 => q d rfl v H1 e1 d1⟩
theorem x_is {r r' : Except Er D} (h : Px X c Γ e r W) (q : r = r') : Px X c Γ e r' W := q ▸ h
/-- f(..) by its name -/
theorem x_call {F : Fs} {ds : List D} {r : Except Er D} (tk : Takes X W) (G : FoX X k x F) (hr : Room j X.A) (ha : Pa X c Γ (e :: es) ds) (hF : F ds r) (hk : k ≤ j := by decide) (hg : Gl X x := by rfl)
    (hdb : (x == ("__debug__" : Str)) = false := by decide) (he : starEach (e :: es) X.env = (false, eval e X.env) :: starEach es X.env := by rfl) (hpl : (backTo pos (starEach es X.env)).any (·.1) = false := by rfl) : Px X c Γ (.Call (.Name x p) (e :: es) [] pos) r W := by
  obtain ⟨f, fd, ps, h1, h3, h4, h5⟩ := G.ex
  refine PE.wk (pe_callS h1 (hr.mono hk) hg h3 h4 h5 (fun σ => passAt tk σ) ha hdb he hpl) fun σ H Q ⟨S, t, q1, q2⟩ => ⟨S, t, fun vs H1 e1 d1 => ?_⟩
  exact ⟨S, ds, r, (t.ext e1).dom, d1, hF, fun d' hd v H2 e2 d2 => q1 d' hd v H2 (e1.trans e2) d2, fun e0 hd cls dx H2 e2 er2 => q2 e0 hd cls dx H2 (e1.trans e2) er2⟩
/-- f(..), f a local name that holds a def -/
structure HeldX (X : Cx) (k : Nat) (f : Addr) (sp : Sp) : Prop where
  ex : ∃ (fd : FuncData) (ps : List Str), FnOk X.prog X.w X.K X.mg X.base (L2.CX X.prog X.w) k f fd ps sp ∧ PySem.W.keepIn X.K (.ref f) = true ∧ Binds X.K fd ps []
theorem Fo.held {X : Cx} {k : Nat} {x : Str} {sp : Sp} (G : Fo X.prog X.w X.K X.mg X.base k x sp) : ∃ f, X.mg x = some (.ref f) ∧ HeldX X k f sp := by
  obtain ⟨f, fd, ps, h1, h2, h3, h4⟩ := G.ex
  exact ⟨f, h2, fd, ps, h1, h3, h4⟩
theorem x_callL (i : Nat) {f : Addr} {F : Fs} {ds : List D} {r : Except Er D} (tk : Takes X (cE E)) (hi : Γ[i]? = some (some (.im (.raw (.ref f))))) (G : HeldX X k f (upP X.K F)) (hr : Room j X.A) (ha : Pa X c Γ (e :: es) ds) (hF : F ds r) (hk : k ≤ j := by decide) (hN : X.N[i]? = some x := by rfl) (hv : Vis X.env.scope x := by first | exact Or.inl rfl | exact Or.inr (Or.inl rfl) | exact Or.inr (Or.inr rfl))
    (hdb : (x == ("__debug__" : Str)) = false := by decide) (hcd : (x == ("__classdict__" : Str)) = false := by decide) (he : starEach (e :: es) X.env = (false, eval e X.env) :: starEach es X.env := by rfl) (hpl : (backTo pos (starEach es X.env)).any (·.1) = false := by rfl) : Px X c Γ (.Call (.Name x p) (e :: es) [] pos) r (cE E) := by
  obtain ⟨fd, ps, h1, h4, h5⟩ := G.ex
  refine PE.wk (pe_callL (i := i) (dvs := []) h1 (hr.mono hk) hN hv h4 h5 .nil (passes_call tk fun _ _ _ _ z => z) ha hdb hcd he hpl) fun σ H Q ⟨S, t, q1, q2⟩ => ?_
  obtain ⟨v, g1, g2⟩ := t.im hi
  rw [g2.raw_] at g1
  refine ⟨g1, S, t, fun vs H1 e1 d1 => ?_⟩
  show upP X.K F (vs ++ []) H1 Q E
  rw [List.append_nil]
  exact ⟨S, ds, r, (t.ext e1).dom, d1, hF, fun d' hd v H2 e2 d2 => q1 d' hd v H2 (e1.trans e2) d2, fun e0 hd cls dx H2 e2 er2 => q2 e0 hd cls dx H2 (e1.trans e2) er2⟩
end

/-! ### a def that is handed a lambda: what it says of each outcome -/
/-- from the lambda's outcome to what is said -/
abbrev Fd := Except Er Unit → D → Prop
def TTd (K : PySem.W.Frag) (F : Fd) : (XK → Hp → VK → Prop) → Hp → VK → Prop := fun tl H Q => ∃ (S : Addr → Prop) (r : Except Er Unit) (rd : D), (∀ a, S a → H a ≠ none) ∧ F r rd ∧
  tl (fun cls dx H' => Same H H' ∧ ∃ e, r = .error e ∧ ErrAt e cls dx H') H (fun v H' => Same H H' ∧ r = .ok ()) ∧ ∀ v H', Same H H' → Den K S H' v rd → Q v H'
theorem PE.mono {X : Cx} {e : Expr} {t : TE} (h : PE X e t) : PE X e (fun σ H Q => ∃ Q', t σ H Q' ∧ ∀ v H', Q' v H' → Q v H') :=
  ⟨fun pins s σ H Q I ⟨Q', q, w⟩ => wpAny_mono (h.run pins s σ H Q' I q) (fun u s' ⟨v, H', I', r, z⟩ => ⟨v, H', I', r, w v H' z⟩) fun _ _ z => z⟩
/-- the context of such a def's body -/
abbrev Sx (X : Cx) (Ng : List Str) (x : Str) (sg : Scope) (g : Addr) (cdg : Value) (s : Shared) (H : Hp) : Cx := (cxOf C8.CX0 X.prog X.w X.K X.mg X.base Ng x sg g cdg X.A X.stack s H C8.E0).nox
theorem gd_any {K : PySem.W.Frag} {S : Addr → Prop} {σ : L2.St} {H H' : Hp} {n i : Nat} {v : V} (hl : σ.length = n) (hσ : σ[i]? = some (some v)) (e : Same H H') (hd : ∀ a, S a → H a ≠ none) : Gd K ⟨S, H, [], []⟩ S σ H' ((List.replicate n none).set i (some (.im (.raw v)))) := by
  have key : ∀ (j : Nat) (en : Ent), ((List.replicate n none).set i (some (.im (.raw v))) : Gm)[j]? = some (some en) → j = i ∧ en = .im (.raw v) := fun j en h => by
    by_cases hj : i = j
    · subst hj
      have q := (List.getElem?_eq_some_iff.mp h).1
      rw [List.getElem?_set_self (by simpa using q)] at h
      cases h
      exact ⟨rfl, rfl⟩
    · rw [List.getElem?_set_ne hj, List.getElem?_replicate] at h
      split at h <;> cases h
  refine ⟨by simpa using hl, fun j en h => ?_, fun j k a m m' h1 _ _ _ => ?_, fun j m a h1 _ _ => ?_, fun a z => z, fun a z => .inl z, fun a o z _ _ => e _ _ z, fun a z => Same.some e (hd a z), fun a z _ => Same.some e z, (fun p z => nomatch z), (fun p z => nomatch z), (fun p z => nomatch z)⟩
  · obtain ⟨rfl, rfl⟩ := key j en h
    exact ⟨v, hσ, .raw v⟩
  · obtain ⟨_, z⟩ := key j _ h1
    cases z
  · obtain ⟨_, z⟩ := key j _ h1
    cases z
/-- the slots within the suite: the error alone is known -/
def gmS (n i : Nat) (b : Addr) : Gm := (List.replicate n none).set i (some (.im (.raw (.ref b))))
/-- try: a() / except xe as n: suite / rest -/
theorem said_gives {X : Cx} {Ng : List Str} {x a xe n q : Str} {sg : Scope} {g CS : Addr} {cdg : Value} {p1 p2 p3 p4 p5 p6 : Pos} {b0 : Stmt} {suite rest : List Stmt} {F : Fd} (i : Nat)
    (hge : sg.names.lookup xe = some .globalImplicit) (hme : X.mg xe = some (.ref CS)) (hde : (xe == ("__debug__" : Str)) = false) (hNg : Ng.Nodup) (hi : Ng[i]? = some n) (hln : sg.names.lookup n = some .local)
    (hcat : ∀ e rd, F (.error e) rd → PySem.W.exmOne X.K (.ref e.C) (.ref CS) = some true)
    (hsu : ∀ (s : Shared) (H : Hp) (f : Addr) (S : Addr → Prop) (e : Er) (rd : D) (b : Addr) (oe : Obj) (dx : Option Addr) (pn : List (Addr × Obj)), F (.error e) rd → Zc (.ref e.C) dx oe → (e.fs = [] → dx = none) → (∃ vs, oe.data = .fields vs) →
      Bl ((Sx X Ng x sg g cdg s H).suite b ((b, oe) :: pn)) ⟨S, H, [], []⟩ (gmS Ng.length i b) (b0 :: suite) { nx := fun _ => False, rt := fun en _ => toD en = rd })
    (hre : ∀ (s : Shared) (H : Hp) (f : Addr) (S : Addr → Prop) (rd : D), F (.ok ()) rd → Bl (Sx X Ng x sg g cdg s H) ⟨S, H, [], []⟩ (gm0 Ng.length [.im (.raw (.ref f))]) rest { nx := fun _ => False, rt := fun en _ => toD en = rd })
    (hsw2 : ∀ s H, swapsWith (.Call (.Name a p1) [] [] p2) none p3.line (Sx X Ng x sg g cdg s H).env = pure false := by intro _ _; rfl) :
    LamX.GivesTo X Ng x sg g cdg (.Try [.Expr (.Call (.Name a p1) [] [] p2) p3] [.ExceptHandler (some (.Name xe p4)) (some n) (b0 :: suite) p5] [] [] p6 :: rest) a q (TTd X.K F) := by
  intro f c' s H Q tl act hc h
  obtain ⟨S, r, rd, hd, hF, htl, hQ⟩ := h
  have g0 : Gd X.K ⟨S, H, [], []⟩ S (L2.start Ng [.ref f]) H (gm0 Ng.length [.im (.raw (.ref f))]) := gd_start (ds := [.raw (.ref f)]) hd (.cons (.raw _) .nil)
  have hs0 : (L2.start Ng [V.ref f])[0]? = some (some (V.ref f)) := by
    unfold L2.start
    rfl
  have fin : ∀ {v : V} {σ' : L2.St} {H' : Hp} {S' : Addr → Prop} {Γ' : Gm} {en : Ent}, Gd X.K ⟨S, H, [], []⟩ S' σ' H' Γ' → Rs X.K ⟨S, H, [], []⟩ S' σ' H' Γ' v en → toD en = rd → Q v H' := fun {v σ' H' S' Γ' en} g rs hn =>
    hQ v H' (fun b o z => g.chg b o z (by rintro (⟨p, hp, _⟩ | ⟨p, hp, _⟩) <;> cases hp) (fun nt => nt.1 rfl)) (hn ▸ rs.den g)
  have fin2 : ∀ (S1 : Addr → Prop) (H1 : Hp) (D : Ends), D.rt = Q → Fin X.K ⟨S, H, [], []⟩ S1 H1 { nx := fun _ => False, rt := fun en _ => toD en = rd } D := fun S1 H1 D e => ⟨fun _ _ _ _ _ _ z => z.elim, fun v σ' H' S' Γ' en _ g rs hn => by
    rw [e]
    exact fin g rs hn, fun _ _ _ _ _ _ z => z.elim, fun _ _ _ _ _ _ z => z.elim⟩
  refine ⟨_, pss_cons (ps_try_as (X := Sx X Ng x sg g cdg s H) (i := i) (c := .ref CS) (tb := fun W D σ H2 => ∃ (Ech : XK) (Q' : VK), (∀ cls d σ' H', Ech cls d H' → W cls d σ' H') ∧ σ[0]? = some (some (.ref f)) ∧ H2 c' = some (LamX.CodeO c' q) ∧ tl Ech H2 Q' ∧ ∀ v H', Q' v H' → D.nx σ H')
      (ts := fun b cls d D σ H2 => ∃ e, cls = .ref e.C ∧ (e.fs = [] → d = none) ∧ F (.error e) rd ∧ (σ.length = Ng.length → tB X.K ⟨S, H, [], []⟩ (gmS Ng.length i b) { nx := fun _ => False, rt := fun en _ => toD en = rd } D σ H2))
      rfl rfl hNg hi hln ⟨hge, hde, .inl hme⟩ LamX.takes0 (fun W pn xe' tk _ => pss_one ?_) (fun b oe cls d pn hz hf => ⟨fun pins s' σ H' D I ⟨e, e1, e2, e3, q⟩ => ?_⟩)) (⟨fun pins s' σ H' D I ⟨hF, q⟩ => (hre s H f S rd hF).run pins s' σ H' D I q⟩ : PSs _ rest (fun D σ H2 => F (.ok ()) rd ∧ tB X.K ⟨S, H, [], []⟩ (gm0 Ng.length [.im (.raw (.ref f))]) { nx := fun _ => False, rt := fun en _ => toD en = rd } D σ H2)), ?_⟩
  · refine ⟨fun pins s' σ H' D I h' => ?_⟩
    obtain ⟨Ech, Q', hW, h1, h2, h3, h4⟩ := h'
    have hp := act W pn xe' Ech p1 p2 tk hW
    exact (ps_expr (pos := p3) (PE.mono hp) (hsw2 s H)).run pins s' σ H' D I ⟨Q', ⟨h1, h2, h3⟩, h4⟩
  · subst e1
    exact (hsu s H f S e rd b oe d pn e3 hz e2 hf).run pins s' σ H' D I (q I.len)
  · refine ⟨_, _, fun cls d σ' H' z => ?_, hs0, hc, htl, fun v H' z => ?_⟩
    · obtain ⟨e1, e, er, ea⟩ := id z
      have ec := ea.1
      subst er
      rw [ec]
      refine ⟨true, hcat e rd hF, fun _ b hb => ⟨e, rfl, fun hfs => ?_, hF, fun hl => ?_⟩, fun z => by cases z⟩
      · rcases ea.2 with ⟨_, z⟩ | ⟨z, _⟩
        · exact z
        · exact absurd hfs z
      · refine ⟨S, gd_any hl ?_ e1 hd, fin2 S H' _ rfl⟩
        rw [List.getElem?_set_self]
        have hlt := (List.getElem?_eq_some_iff.mp hi).1
        rw [List.length_set] at hl
        rw [hl]
        exact hlt
    · obtain ⟨e1, er⟩ := z
      subst er
      exact ⟨hF, S, g0.ext e1, fin2 S H' _ rfl⟩
/-- the tables have grown -/
theorem Gd.extN {K : PySem.W.Frag} {c : Cn} {S : Addr → Prop} {σ : L2.St} {H H1 : Hp} {Γ : Gm} (t : Gd K c S σ H Γ) (eN : LamX.ExtN H H1) (T1 : LamX.Tabs c.tb H1) (htb : c.tb ≠ []) (hfx : c.fx = []) (hS0 : ∀ a, c.S0 a → ∃ p ∈ c.tb, p.1 = a) :
    ∃ S1, Rl S H S1 H1 ∧ Gd K c S1 σ H1 Γ := by
  have keep : ∀ a o, H a = some o → ¬ IsT o → H1 a = some o := fun a o h n => eN a o h fun ps z => n ⟨ps, z⟩
  have r : Rl S H (fun a => S a ∧ H1 a ≠ none) H1 := fun a o n h z => ⟨keep a o h z, fun q => n q.1⟩
  have tn : ∀ a, (∃ p ∈ c.tb, p.1 = a) → H1 a ≠ none := fun a ⟨p, hp, e⟩ => by
    obtain ⟨ps, h1, _⟩ := T1 p hp
    rw [← e, h1]
    simp
  have key : ∀ a o, c.H0 a = some o → ¬ c.T0 a → ¬ c.Tb a → H1 a = some o := fun a o h n nt => keep a o (t.chg a o h n nt) fun z => nt ⟨htb, o, h, z⟩
  refine ⟨_, r, t.len, fun i e h => ?_, t.sep, t.loc, fun a z => ⟨t.sub a z, tn a (hS0 a z)⟩, fun a z => t.new a z.1, key, fun a z => z.2, fun a h nt => ?_, t.fix, T1, t.tbS⟩
  · obtain ⟨v, h1, h2⟩ := t.at_ i e h
    refine ⟨v, h1, ?_⟩
    cases e with
    | im d => exact Den.mono h2 r
    | ow l =>
      obtain ⟨b, xs, rfl, h3, h4, h5⟩ := h2
      have h6 := keep _ _ h4 nt_lst
      exact ⟨b, xs, rfl, ⟨h3, by rw [h6]; simp⟩, h6, h5.mono r⟩
  · by_cases h0 : c.T0 a
    · rcases h0 with ⟨p, hp, _⟩ | ⟨p, hp, e⟩
      · rw [hfx] at hp; cases hp
      · exact tn a ⟨p, hp, e⟩
    · cases e : c.H0 a with
      | none => exact absurd e h
      | some o => rw [key a o e h0 nt]; simp
def unitR (r : Except Er D) : Except Er Unit := match r with
  | .ok _ => .ok ()
  | .error e => .error e
/-- x(lambda: body) -/
theorem ev_lam {X : Cx} {c : Cn} {Γ : Gm} {F : Fd} {rd : D} {r : Except Er D} {x a : Str} {g cc P : Addr} {k : Nat} {pg : Arguments} {bg : List Stmt} {sg : Scope} {dV kV doc pm cdv ct oc : Value} {an od : Option Addr} {osl : Array (Option Value)} {Ng : List Str}
    {params : Arguments} {body : Expr} {scope : Scope} {p lpos pos : Pos} (hg : Gl X x) (hm : X.mg x = some (.ref g)) (hk : PySem.W.keepIn X.K (.ref g) = true)
    (lk : X.K.lookup g = some ⟨oc, od, .func (PySem.W.fnOf x x pg bg sg dV kV doc pm an cdv ct), osl⟩) (hcg : PySem.W.codeIn X.K cdv x = true) (hb : L2.Binds X.K (PySem.W.fnOf x x pg bg sg dV kV doc pm an cdv ct) [a] []) (Sg : FnScope Ng [a] sg) (hNg : Ng[0]? = some a) (hva : Vis sg a)
    (hG : LamX.GivesTo X Ng x sg g cdv bg a (X.env.qual ++ "<lambda>") (TTd X.K F))
    (TB : LamX.TabB X.base X.mg cc P) (hcode : X.env.code = .ref cc) (hmT : (P, X.env.qual ++ "<lambda>") ∈ c.tb) (hu : ∀ p ∈ c.tb, p.1 = P → p.2 = X.env.qual ++ "<lambda>") (hr : Room (k + 2) X.A) (L : LamX.LamS X.env.scope scope) (hdef : defaultsOf params X.env = ([], []))
    (hbind : ∀ (q : Str) (cl : List (Str × Addr)) (pm cv ctv : Value), bindArgs (PySem.W.kla_fn "<lambda>" q params body scope cl pm cv ctv) ⟨[], []⟩ = pure [])
    (hbody : ∀ (A : Around) (outer : List Env) (s : Shared) (H : Hp) (E : XK) (f c' : Addr), Room k (A.deeper (LamX.lamEnv X scope s.heap.objs.size f c')) → Px (LamX.lamCx X A outer s H E scope f c') c Γ body r (cE E))
    (hF : F (unitR r) rd) (hfx : c.fx = []) (hS0 : ∀ a, c.S0 a → ∃ p ∈ c.tb, p.1 = a)
    (hdb : (x == ("__debug__" : Str)) = false := by decide) (hd : (a == ("__debug__" : Str)) = false := by decide) (hcd : (a == ("__classdict__" : Str)) = false := by decide) :
    Ev X c Γ (.Call (.Name x p) [.Lambda params body scope lpos] [] pos) rd Γ := by
  refine PE.wk (LamX.pe_lamcall (T := c.tb) (t := fun E => tX X.K c Γ r (cE E)) hg hm hk lk hcg hb Sg hNg hva hG TB hcode hmT hu hr L hdef hbind hbody hdb hd hcd) fun σ H Q ⟨S, t, q⟩ => ⟨t.tab, fun H1 eN T1 => ?_⟩
  have htb : c.tb ≠ [] := fun z => by rw [z] at hmT; cases hmT
  obtain ⟨S1, r1, t1⟩ := t.extN eN T1 htb hfx hS0
  refine ⟨S1, unitR r, rd, t1.dom, hF, ⟨S1, t1, fun d hd v H' e _ => ⟨e, by rw [hd]; rfl⟩, fun e0 hd cls dx H' e er => ⟨e, e0, by rw [hd]; rfl, er⟩⟩, fun v H' e d1 => q v S1 H' (r1.trans (.of e)) (t1.ext e) d1⟩
end Spr

set_option Elab.async false
set_option linter.all false
set_option maxRecDepth 100000
set_option maxHeartbeats 4000000
/-! repr; the law's def; defs by the head's facts. -/
namespace Spr
open PySem PySem.Spec PyProof.Rows L2
section
variable {X : Cx}
theorem cb_reprI {i : Int} (hz : i.natAbs.log2 < 1920) : Cb X (.builtin "repr") [.int i] (.str (toString i)) := ⟨_, SkE.call_repr_int, fun S H vs _ h Q q => by
  obtain ⟨v, rfl, h1⟩ := h.one
  exact ⟨i, by rw [h1.int_], hz, q _ H (Same.refl H) (.str _)⟩⟩
theorem call_repr_non : CallR X (.builtin "repr") (fun xs H Q => xs = [.non] ∧ Q (.str "None") H) := by
  intro pins s σ H xs us Q I r h
  obtain ⟨rfl, q⟩ := h
  obtain ⟨u, rfl, ru⟩ := Vals.one r
  cases ru
  exact PySem.P.repr_of_none ⟨.str _, H, I.tok _, ⟨_, rfl⟩, q⟩
theorem cb_reprN : Cb X (.builtin "repr") [.non] (.str "None") := ⟨_, call_repr_non, fun S H vs _ h Q q => by
  obtain ⟨v, rfl, h1⟩ := h.one
  exact ⟨by rw [h1.non_], q _ H (Same.refl H) (.str _)⟩⟩
end
section
variable {P : Program} {w : World} {K : PySem.W.Frag} {mg : Str → Option Value} {base : Heap}
/-- a def by its name -/
theorem mkFo {x : Str} {params : Arguments} {body : List Stmt} {scope : Scope} {f : Addr} {fd : FuncData} {ps : List Str} {k : Nat} {sp : Sp} {kws : List (Str × V)} (F : FunD K x x params body scope [] kws f fd) (ok : FnOk P w K mg base (L2.CX P w) k f fd ps sp) (g : mg x = some (.ref f))
    (h : ∀ (kV doc pm : Value) (an : Option Addr) (cdv ct : Value) (us : List Value), us.length = ps.length → bindArgs (PySem.W.fnOf x x params body scope .none kV doc pm an cdv ct) ⟨us, []⟩ = pure (ps.zip us)) : Fo P w K mg base k x sp := ⟨f, fd, ps, ok, g, F.kp, F.bindsN h⟩
/-- the law: of a script of at most n whole numbers; its tables T -/
def spLaw (K : PySem.W.Frag) (T : List (Addr × Str)) (n : Nat) : Sp := fun vs H Q _ => ∃ (a : Addr) (ns : List Int), vs = [.ref a] ∧ ns.length ≤ n ∧ (∀ z ∈ ns, Builtin.Int.intBits z ≤ 1048576) ∧ SqL K H a (ns.map V.int) ∧ (∀ p ∈ T, H p.1 = some (.tbl #[])) ∧ ∀ H', Q (.bl true) H'
abbrev cLaw (H : Hp) (T : List (Addr × Str)) : Cn := ⟨fun a => ∃ p ∈ T, p.1 = a, H, T, []⟩
theorem den_ints {S : Addr → Prop} {H : Hp} {a : Addr} {ns : List Int} (h : SqL K H a (ns.map V.int)) (hn : (∃ xs, Rd H a (.lst xs)) → ¬ S a) : Den K S H (.ref a) (.lst (ns.map .int)) := by
  rcases h with h | h
  · exact .lst h (hn ⟨_, h⟩) (DenL.of_ints ns)
  · exact .lstK h (DenL.of_ints ns)
theorem mkLaw {stt : Stmt} {f cc : Addr} {N : List Str} {k n : Nat} {T : List (Addr × Str)} {dV kV doc pm ct oc : Value} {an od : Option Addr} {osl : Array (Option Value)}
    (lk : K.lookup f = some ⟨oc, od, .func (PySem.W.fnOf "law" "law" (defArgs stt) (defBody stt) (defScope stt) dV kV doc pm an (.ref cc) ct), osl⟩) (hcd : PySem.W.codeIn K (.ref cc) "law" = true) (Sc : FnScope N ["script"] (defScope stt))
    (hb : ∀ (A : Around) (outer : List Env) (s : Shared) (H : Hp) (E : XK) (H0 : Hp) (ns : List Int), Room k (Bx P w K mg base N "law" (defScope stt) f (.ref cc) A outer s H E).A → ns.length ≤ n → (∀ z ∈ ns, Builtin.Int.intBits z ≤ 1048576) →
      Bl (Bx P w K mg base N "law" (defScope stt) f (.ref cc) A outer s H E) (cLaw H0 T) (gm0 N.length [.im (.lst (ns.map .int))]) (defBody stt) { nx := fun _ => False, rt := fun en _ => toD en = .bl true }) :
    FnOk P w K mg base (L2.CX P w) (k + 1) f (PySem.W.fnOf "law" "law" (defArgs stt) (defBody stt) (defScope stt) dV kV doc pm an (.ref cc) ct) ["script"] (spLaw K T n) := by
  refine fn_of lk hcd Sc (fun vs H Q E ⟨a, ns, e, _⟩ => by rw [e]; rfl) (fun A outer s H vs Q E hr ⟨a, ns, e, hl, hz, hs, hT, hQ⟩ => ⟨_, hb A outer s H E H ns hr hl hz, ?_⟩)
  subst e
  have nS : (∃ xs, Rd H a (.lst xs)) → ¬ (∃ p ∈ T, p.1 = a) := fun ⟨xs, hs⟩ ⟨p, hp, e⟩ => by
    have q := hT p hp
    rw [e] at q
    rcases hs with h | ⟨o, h⟩
    · rw [q] at h; cases h
    · rw [q] at h; cases h
  have hd : ∀ a, (∃ p ∈ T, p.1 = a) → H a ≠ none := fun a ⟨p, hp, e⟩ => by rw [← e, hT p hp]; simp
  have g := gd_start (K := K) (N := N) (ds := [.lst (ns.map .int)]) hd (.cons (den_ints hs nS) .nil)
  refine ⟨_, ⟨g.len, g.at_, g.sep, g.loc, g.sub, fun a z => .inl z, fun a o z _ _ => z, g.dom, fun a z _ => z, g.fix, fun p hp => LamX.TabS.nil (hT p hp), fun p hp => ⟨p, hp, rfl⟩⟩, ⟨fun _ _ _ _ _ _ z => z.elim, fun v σ' H' S' Γ' en r' g rs hn => ?_, fun _ _ _ _ _ _ z => z.elim, fun _ _ _ _ _ _ z => z.elim⟩⟩
  have h := rs.den g
  rw [hn] at h
  rw [h.bl_]
  exact hQ H'
end
end Spr

set_option Elab.async false
set_option linter.all false
set_option maxRecDepth 100000
set_option maxHeartbeats 4000000
/-! Small help: blocks of comprehensions by a Bool, == of lists of ints. -/
namespace Spr
open PySem PySem.Spec PyProof.Rows L2
def blkB (N : List Str) (sc scope : Scope) (own : List (Str × Nat)) : Bool :=
  decide (scope.kind = .function) && (scope.names.all (fun y => decide (scope.names.lookup y.1 = some y.2)) && (own.all (fun p => decide (N[p.2]? = some p.1)) &&
  (scope.names.all (fun y => !decide (y.2 = .free) || (decide (sc.names.lookup y.1 = some .cell) || decide (sc.names.lookup y.1 = some .free))) && scope.names.all (fun y => !(decide (y.2 = .local) || decide (y.2 = .cell)) || ((own.map (·.1)).contains y.1 || !N.contains y.1)))))
theorem blkB_ok {N : List Str} {sc scope : Scope} {own : List (Str × Nat)} (h : blkB N sc scope own = true) : BlkOk N sc scope own := by
  unfold blkB at h
  simp only [Bool.and_eq_true, Bool.or_eq_true, Bool.not_eq_true', decide_eq_true_eq, decide_eq_false_iff_not, List.all_eq_true, List.contains_iff_mem] at h
  obtain ⟨h1, h2, h3, h4, h5⟩ := h
  refine ⟨h1, h2, h3, fun y hy e => ?_, fun y hy e => ?_⟩
  · rcases h4 y hy with z | z
    · exact absurd e z
    · exact z
  · rcases h5 y hy with z | z | z
    · rcases e with e | e
      · rw [e] at z; simp at z
      · rw [e] at z; simp at z
    · exact .inl z
    · exact .inr (by simpa using z)
theorem eqv_ints : ∀ (a b : List Int), PyData.eqv (.list (toPyL (a.map .int))) (.list (toPyL (b.map .int))) = decide (a = b)
  | [], [] => by simp [toPyL, PyData.eqv, PyData.eqvAll]
  | [], b :: bs => by simp [toPyL, PyData.eqv, PyData.eqvAll]
  | a :: as, [] => by simp [toPyL, PyData.eqv, PyData.eqvAll]
  | a :: as, b :: bs => by
    have ih := eqv_ints as bs
    simp only [PyData.eqv] at ih
    simp only [List.map, toPyL, PyData.eqv, PyData.eqvAll, toPy]
    rw [ih]
    by_cases h : a = b <;> simp [h]
theorem deq_ints (a b : List Int) : deq (.lst (a.map .int)) (.lst (b.map .int)) = decide (a = b) := eqv_ints a b
end Spr
namespace Spr
open PySem PySem.Spec PyProof.Rows L2
/-- list + list that are tracked -/
def rCatS : R2 := fun x y H Q => ∃ l b xs zs, x = .ref l ∧ y = .ref b ∧ Rd H l (.lst xs) ∧ Rd H b (.lst zs) ∧ xs.length + zs.length ≤ sizeLine ∧ ∀ p, H p = none → Q (.ref p) (upd H p (.lst (xs ++ zs)))
theorem op_catS {X : Cx} : OpR X (binaryOp .Add) rCatS := by
  intro pins s σ H x y v u Q I rx ry h
  obtain ⟨l, b, xs, zs, rfl, rfl, hH, hB, hz, q⟩ := h
  cases rx
  cases ry
  obtain ⟨z, its, n, r, e⟩ := hH.ok I.hok
  obtain ⟨z2, its2, n2, r2, e2⟩ := hB.ok I.hok
  have l1 := r.length
  have l2 := r2.length
  refine PySem.P.add_list e e2 ?_ (by rw [List.size_toArray, List.size_toArray]; omega)
  have ea : its.toArray ++ its2.toArray = (its ++ its2).toArray := by simp
  rw [ea]
  exact ⟨.ref _, _, I.lnew (t' := s.toks) (r.append r2) (by rw [List.length_append]; omega), rfl, q _ I.fresh⟩
section
variable {X : Cx} {c : Cn} {Γ Γ1 : Gm} {a b e : Expr} {es : List Expr} {pos p : Pos} {da db dc d : D} {Po : Post} {x : Str} {k j : Nat} {E : WX} {st : Stmt}
/-- xs + ys, a new list -/
theorem n_add {l m : List D} (ha : Pe X c Γ a (.tl l)) (hb : Pe X c Γ b (.tl m)) (hz : l.length + m.length ≤ 16000000 := by simp) : Pn X c Γ (.BinOp a .Add b pos) (l ++ m) :=
  PE.wk (pe_op op_catS ha hb) fun σ H Q ⟨S, t, q⟩ => ⟨S, t, fun v H1 e1 d1 => ⟨S, t.ext e1, fun w H2 e2 d2 => by
    obtain ⟨p1, xs, rfl, h1, _, k1⟩ := (d1.ext e2).tl_
    obtain ⟨p2, ys, rfl, h2, _, k2⟩ := d2.tl_
    exact ⟨p1, p2, xs, ys, rfl, rfl, h1, h2, by rw [k1.length, k2.length]; exact small_line hz, fun p hp => q p _ _ ((e1.trans e2).trans (same_new hp)) ((e1.trans e2).free hp) upd_same ((k1.append k2).on hp)⟩⟩⟩
/-! ### expressions that raise -/
theorem pa_false : ∀ {es : List Expr}, PA X es (fun _ _ _ => False) := ⟨fun _ _ _ _ _ _ _ z => z.elim⟩
theorem pe_false {e : Expr} : PE X e (fun _ _ _ => False) := ⟨fun _ _ _ _ _ _ z => z.elim⟩
/-- [e, ..], the first raises -/
theorem x_lstF {e0 : Er} (h : Px X c Γ a (.error e0) E) (hs : starEach (a :: es) X.env = (false, eval a X.env) :: starEach es X.env := by rfl) : Px X c Γ (.List (a :: es) pos) (.error e0) E :=
  PE.wk (pe_lst (pa_cons h pa_false hs)) fun σ H Q ⟨S, t, _, q⟩ => ⟨S, t, (fun d hd => nomatch hd), q⟩
/-- e op e', the first raises -/
theorem x_binF {op : Operator} {r : R2} {e0 : Er} (ho : OpR X (binaryOp op) r) (h : Px X c Γ a (.error e0) E) : Px X c Γ (.BinOp a op b pos) (.error e0) E :=
  PE.wk (pe_op ho h pe_false) fun σ H Q ⟨S, t, _, q⟩ => ⟨S, t, (fun d hd => nomatch hd), q⟩
/-- x = e, e raises -/
theorem s_setF (i : Nat) {er : Er → Gm → Prop} {e0 : Er} {pos' : Pos} (hx : Xr X c er) (he : ∀ W, Takes X W → Px X c Γ e (.error e0) W) (h : er e0 Γ) (hN : X.N.Nodup) (hi : X.N[i]? = some x := by rfl) (hl : Loc X.env.scope x := by first | exact Or.inl rfl | exact Or.inr rfl)
    (hs : swapsWith e (some (.Name x pos')) pos.line X.env = pure false := by rfl) (hfn : X.fn x = true ∨ X.env.scope.names.lookup x = some .local := by first | exact .inl rfl | exact .inr rfl) : Sm X c Γ (.Assign [.Name x pos'] e pos) Po := by
  obtain ⟨W, tk, hW⟩ := hx
  exact PS.wk (ps_set hN hi hl (he W tk) hs hfn) fun D σ H ⟨S, t, _⟩ => ⟨S, t, (fun d hd => nomatch hd), fun e hd cls dx H' e1 er1 => by cases hd; exact hW e0 S σ H' Γ cls dx (t.ext e1) er1 h⟩
theorem s_retF {er : Er → Gm → Prop} {e0 : Er} (hx : Xr X c er) (he : ∀ W, Takes X W → Px X c Γ e (.error e0) W) (h : er e0 Γ) : Sm X c Γ (.Return (some e) pos) Po := by
  obtain ⟨W, tk, hW⟩ := hx
  exact PS.wk (ps_ret (he W tk)) fun D σ H ⟨S, t, _⟩ => ⟨S, t, (fun d hd => nomatch hd), fun e hd cls dx H' e1 er1 => by cases hd; exact hW e0 S σ H' Γ cls dx (t.ext e1) er1 h⟩
end
end Spr

namespace Spr
open PySem PySem.Spec PyProof.Rows L2
section
variable {X : Cx} {c : Cn} {Γ : Gm} {a b e : Expr} {pos p2 : Pos} {Po : Post} {α : Type} {elt iter tgx : Expr} {ifs : List Expr} {scope : Scope} {own : List (Str × Nat)} {ppos lpos : Pos} {y x : Str} {xs : List α} {enc : α → D} {f : α → D} {pr : α → Bool} {j : Nat}
/-- x = [elt for y in a list], on one line; the slot gets what `en` says: a list of one's own, or a thing that is tracked -/
theorem s_setLcL (i : Nat) {px : Pos} (enc : α → D) (f : α → D) (pr : α → Bool) (hi : Pe X c Γ iter (.lst (xs.map enc))) (hz : xs.length ≤ 16000000) (ok : BlkOk X.N X.env.scope scope own) (hg : InBlk X scope fun X' => PG X' (.Name y ppos) (gName j))
    (ht : ∀ x, x ∈ xs → InBlk X scope fun X' => PTs X' ifs (tQ X.K c ((wipeG Γ (own.map (·.2))).set j (some (.im (enc x)))) (pr x))) (he : ∀ x, x ∈ xs → pr x = true → InBlk X scope fun X' => Pe X' c ((wipeG Γ (own.map (·.2))).set j (some (.im (enc x)))) elt (f x))
    (hr : Po.nx (Γ.set i (some (.ow ((xs.filter pr).map f)))) ∨ Po.nx (Γ.set i (some (.im (.lst ((xs.filter pr).map f)))))) (hN : X.N.Nodup) (hsw : swapsWith (.ListComp elt [⟨.Name y ppos, iter, ifs, 0⟩] scope lpos) (some (.Name x px)) pos.line X.env = pure true := by rfl) (hxi : X.N[i]? = some x := by rfl) (hxl : X.env.scope.names.lookup x = some .local := by rfl) (hc : X.calm = true := by rfl) (hf : ((own.map (·.2)).all fun v => fxB c.fx v) = true := by rfl) (hfi : fxB c.fx i = true := by rfl) (hj : j ∈ own.map (·.2) := by decide) (hs : ∀ x, foldedSetIterable iter X.env x = pure x := by intro _; rfl) :
    Sm X c Γ (.Assign [.Name x px] (.ListComp elt [⟨.Name y ppos, iter, ifs, 0⟩] scope lpos) pos) Po :=
  PS.wk (ps_setLc hc hN hxi hxl hsw (pi_list hi) ok hg (in_tst ht) (in_elt he) hs) fun D σ H h => tAsg_n (fun σ H Q h => lcL_read (fun S t Q' q => ⟨S, t, q⟩) hz (wfx hf) hj h) hfi hr h
end
end Spr
namespace Spr
open PySem PySem.Spec PyProof.Rows L2
def excCB (K : PySem.W.Frag) (D : Addr) : Bool := He.eqO (PySem.W.findIn K (.ref D) "__getattribute__") (some (some (.builtin "BaseException.__getattribute__"))) && (He.eqO (PySem.W.findIn K (.ref D) "__getattr__") (some none) && (decide (PySem.W.subIn K (.ref D) (.type "BaseException") = some true) && (PySem.W.hasDictIn K D &&
  (He.eqO (PySem.W.findIn K (.ref D) "__class__") (some (some (.builtin "object.__class__"))) && (He.eqO (PySem.W.specialIn K (.builtin "object.__class__") "__get__") (some (some (.builtin "getset_descriptor.__get__"))) && (decide (PySem.W.takesIn K (.builtin "object.__class__") = some true) && decide (PySem.W.mroIn K D (.type "object") = some true)))))))
theorem excCB_ok {K : PySem.W.Frag} {D : Addr} (h : excCB K D = true) : ExcC K D := by
  unfold excCB at h
  obtain ⟨h1, h⟩ := He.ba h
  obtain ⟨h2, h⟩ := He.ba h
  obtain ⟨h3, h⟩ := He.ba h
  obtain ⟨h4, h⟩ := He.ba h
  obtain ⟨h5, h⟩ := He.ba h
  obtain ⟨h6, h⟩ := He.ba h
  obtain ⟨h7, h8⟩ := He.ba h
  exact ⟨He.eqO_ok h1, He.eqO_ok h2, of_decide_eq_true h3, h4, He.eqO_ok h5, He.eqO_ok h6, of_decide_eq_true h7, of_decide_eq_true h8⟩
/-- isinstance(e, c) in the suite that holds the error e of class D, without a dict -/
theorem cb_isE {X : Cx} {a D0 : Addr} {oe : Obj} {pn : List (Addr × Obj)} {v : V} {cv : Value} {b : Bool} (C : ExcC X.K D0) (hz : Zc (.ref D0) none oe) (hf : ∃ vs, oe.data = .fields vs) (hv : ∀ u, RelV v u → u = cv) (hk : PySem.W.kitOne X.K (.ref D0) cv = some b) :
    Cb (X.suite a ((a, oe) :: pn)) (.builtin "isinstance") [.raw (.ref a), .raw v] (.bl b) := ⟨_, call_isE C hz hf, fun S H vs _ h Q q => by
  obtain ⟨x, y, rfl, h1, h2⟩ := h.two
  exact ⟨v, cv, b, by rw [h1.raw_, h2.raw_], hv, hk, q _ H (Same.refl H) (.bl _)⟩⟩
end Spr

set_option Elab.async false
set_option linter.all false
set_option maxRecDepth 100000
set_option maxHeartbeats 4000000
/-! A lambda that may change lists of its maker's, handed to a def that calls it within try. -/
namespace Spr
open PySem PySem.Spec PyProof.Rows L2

/-- the expression comes to r; the lists of one's own are then as in Γ' -/
def tXE (K : PySem.W.Frag) (c : Cn) (Γ : Gm) (r : Except Er D) (Γ' : Gm) (W : WX) : TE := fun σ H Q => ∃ S, Gd K c S σ H Γ ∧ (∀ d, r = .ok d → ∀ v S' H', Rl S H S' H' → Gd K c S' σ H' Γ' → Den K S' H' v d → Q v H') ∧
  (∀ e, r = .error e → ∀ cls dx S' H', Rl S H S' H' → Gd K c S' σ H' Γ' → ErrAt e cls dx H' → W cls dx σ H')
abbrev PxE (X : Cx) (c : Cn) (Γ : Gm) (e : Expr) (r : Except Er D) (Γ' : Gm) (W : WX) : Prop := PE X e (tXE X.K c Γ r Γ' W)
section
variable {X : Cx} {c : Cn} {Γ Γ1 : Gm} {a b e : Expr} {es : List Expr} {pos p apos cpos : Pos} {da db dc d : D} {Po : Post} {x : Str} {k j : Nat} {E : XK} {W : WX}
theorem xe_x {r : Except Er D} (h : Px X c Γ e r W) : PxE X c Γ e r Γ W := PE.wk h fun σ H Q ⟨S, t, q1, q2⟩ => ⟨S, t, fun d hd v H' e d1 => q1 d hd v S H' (.of e) (t.ext e) d1, fun e0 hd cls dx H' e er => q2 e0 hd cls dx S H' (.of e) (t.ext e) er⟩
/-- f(..) by its name, its arguments may change lists of one's own -/
theorem xe_call {F : Fs} {ds : List D} {r : Except Er D} (tk : Takes X W) (G : FoX X k x F) (hr : Room j X.A) (ha : Ea X c Γ (e :: es) ds Γ1) (hF : F ds r) (hk : k ≤ j := by decide) (hg : Gl X x := by rfl)
    (hdb : (x == ("__debug__" : Str)) = false := by decide) (he : starEach (e :: es) X.env = (false, eval e X.env) :: starEach es X.env := by rfl) (hpl : (backTo pos (starEach es X.env)).any (·.1) = false := by rfl) : PxE X c Γ (.Call (.Name x p) (e :: es) [] pos) r Γ1 W := by
  obtain ⟨f, fd, ps, h1, h3, h4, h5⟩ := G.ex
  refine PE.wk (pe_callS h1 (hr.mono hk) hg h3 h4 h5 (fun σ => passAt tk σ) ha hdb he hpl) fun σ H Q ⟨S, t, q1, q2⟩ => ⟨S, t, fun vs S1 H1 r1 t1 d1 => ?_⟩
  exact ⟨S1, ds, r, t1.dom, d1, hF, fun d' hd v H2 e2 d2 => q1 d' hd v S1 H2 (r1.trans (.of e2)) (t1.ext e2) d2, fun e0 hd cls dx H2 e2 er2 => q2 e0 hd cls dx S1 H2 (r1.trans (.of e2)) (t1.ext e2) er2⟩
end
def TTe (K : PySem.W.Frag) (F : Fd) : (XK → Hp → VK → Prop) → Hp → VK → Prop := fun tl H Q => ∃ (r : Except Er Unit) (rd : D) (E' : XK) (Q' : VK), F r rd ∧ tl E' H Q' ∧
  (∀ cls dx H', E' cls dx H' → ∃ (e : Er) (S : Addr → Prop), r = .error e ∧ ErrAt e cls dx H' ∧ (∀ a, S a → H' a ≠ none) ∧ ∀ v H2, Same H' H2 → Den K S H2 v rd → Q v H2) ∧
  (∀ v H', Q' v H' → ∃ (S : Addr → Prop), r = .ok () ∧ (∀ a, S a → H' a ≠ none) ∧ ∀ v H2, Same H' H2 → Den K S H2 v rd → Q v H2)
/-- try: a() / except xe as n: suite / rest -/
theorem said_givesE {X : Cx} {Ng : List Str} {x a xe n q : Str} {sg : Scope} {g CS : Addr} {cdg : Value} {p1 p2 p3 p4 p5 p6 : Pos} {b0 : Stmt} {suite rest : List Stmt} {F : Fd} (i : Nat)
    (hge : sg.names.lookup xe = some .globalImplicit) (hme : X.mg xe = some (.ref CS)) (hde : (xe == ("__debug__" : Str)) = false) (hNg : Ng.Nodup) (hi : Ng[i]? = some n) (hln : sg.names.lookup n = some .local)
    (hcat : ∀ e rd, F (.error e) rd → PySem.W.exmOne X.K (.ref e.C) (.ref CS) = some true)
    (hsu : ∀ (s : Shared) (H H2 : Hp) (S : Addr → Prop) (e : Er) (rd : D) (b : Addr) (oe : Obj) (dx : Option Addr) (pn : List (Addr × Obj)), F (.error e) rd → Zc (.ref e.C) dx oe → (e.fs = [] → dx = none) → (∃ vs, oe.data = .fields vs) →
      Bl ((Sx X Ng x sg g cdg s H).suite b ((b, oe) :: pn)) ⟨S, H2, [], []⟩ (gmS Ng.length i b) (b0 :: suite) { nx := fun _ => False, rt := fun en _ => toD en = rd })
    (hre : ∀ (s : Shared) (H H2 : Hp) (f : Addr) (S : Addr → Prop) (rd : D), F (.ok ()) rd → Bl (Sx X Ng x sg g cdg s H) ⟨S, H2, [], []⟩ (gm0 Ng.length [.im (.raw (.ref f))]) rest { nx := fun _ => False, rt := fun en _ => toD en = rd })
    (hsw2 : ∀ s H, swapsWith (.Call (.Name a p1) [] [] p2) none p3.line (Sx X Ng x sg g cdg s H).env = pure false := by intro _ _; rfl) :
    LamX.GivesTo X Ng x sg g cdg (.Try [.Expr (.Call (.Name a p1) [] [] p2) p3] [.ExceptHandler (some (.Name xe p4)) (some n) (b0 :: suite) p5] [] [] p6 :: rest) a q (TTe X.K F) := by
  intro f c' s H Q tl act hc h
  obtain ⟨r, rd, E', Q', hF, htl, hE, hQ⟩ := h
  have hs0 : (L2.start Ng [V.ref f])[0]? = some (some (V.ref f)) := by
    unfold L2.start
    rfl
  have fin2 : ∀ (S S1 : Addr → Prop) (H1 : Hp) (D : Ends), D.rt = Q → (∀ v H2, Same H1 H2 → Den X.K S H2 v rd → Q v H2) → Fin X.K ⟨S, H1, [], []⟩ S1 H1 { nx := fun _ => False, rt := fun en _ => toD en = rd } D := fun S S1 H1 D e hq => ⟨fun _ _ _ _ _ _ z => z.elim, fun v σ' H' S' Γ' en _ g rs hn => by
    rw [e]
    exact hq v H' (fun b o z => g.chg b o z (by rintro (⟨p, hp, _⟩ | ⟨p, hp, _⟩) <;> cases hp) (fun nt => nt.1 rfl)) (hn ▸ rs.den g), fun _ _ _ _ _ _ z => z.elim, fun _ _ _ _ _ _ z => z.elim⟩
  refine ⟨_, pss_cons (ps_try_as (X := Sx X Ng x sg g cdg s H) (i := i) (c := .ref CS) (tb := fun W D σ H2 => ∃ (Ech : XK) (Q' : VK), (∀ cls d σ' H', Ech cls d H' → W cls d σ' H') ∧ σ[0]? = some (some (.ref f)) ∧ H2 c' = some (LamX.CodeO c' q) ∧ tl Ech H2 Q' ∧ ∀ v H', Q' v H' → D.nx σ H')
      (ts := fun b cls d D σ H2 => ∃ (e : Er) (S : Addr → Prop), cls = .ref e.C ∧ (e.fs = [] → d = none) ∧ F (.error e) rd ∧ (σ.length = Ng.length → tB X.K ⟨S, H2, [], []⟩ (gmS Ng.length i b) { nx := fun _ => False, rt := fun en _ => toD en = rd } D σ H2))
      rfl rfl hNg hi hln ⟨hge, hde, .inl hme⟩ LamX.takes0 (fun W pn xe' tk _ => pss_one ?_) (fun b oe cls d pn hz hf => ⟨fun pins s' σ H' D I ⟨e, S, e1, e2, e3, q⟩ => ?_⟩)) (⟨fun pins s' σ H' D I ⟨S, hF, q⟩ => (hre s H H' f S rd hF).run pins s' σ H' D I q⟩ : PSs _ rest (fun D σ H2 => ∃ S : Addr → Prop, F (.ok ()) rd ∧ tB X.K ⟨S, H2, [], []⟩ (gm0 Ng.length [.im (.raw (.ref f))]) { nx := fun _ => False, rt := fun en _ => toD en = rd } D σ H2)), ?_⟩
  · refine ⟨fun pins s' σ H' D I h' => ?_⟩
    obtain ⟨Ech, Q', hW, h1, h2, h3, h4⟩ := h'
    have hp := act W pn xe' Ech p1 p2 tk hW
    exact (ps_expr (pos := p3) (PE.mono hp) (hsw2 s H)).run pins s' σ H' D I ⟨Q', ⟨h1, h2, h3⟩, h4⟩
  · subst e1
    exact (hsu s H H' S e rd b oe d pn e3 hz e2 hf).run pins s' σ H' D I (q I.len)
  · refine ⟨E', Q', fun cls d σ' H' z => ?_, hs0, hc, htl, fun v H' z => ?_⟩
    · obtain ⟨e, S, er, ea, hd, hq⟩ := hE cls d H' z
      have ec := ea.1
      subst er
      rw [ec]
      refine ⟨true, hcat e rd hF, fun _ b hb => ⟨e, S, rfl, fun hfs => ?_, hF, fun hl => ?_⟩, fun z => by cases z⟩
      · rcases ea.2 with ⟨_, z⟩ | ⟨z, _⟩
        · exact z
        · exact absurd hfs z
      · refine ⟨S, gd_any hl ?_ (Same.refl H') hd, fin2 S S H' _ rfl hq⟩
        rw [List.getElem?_set_self]
        have hlt := (List.getElem?_eq_some_iff.mp hi).1
        rw [List.length_set] at hl
        rw [hl]
        exact hlt
    · obtain ⟨S, er, hd, hq⟩ := hQ v H' z
      subst er
      exact ⟨S, hF, S, gd_start (ds := [.raw (.ref f)]) hd (.cons (.raw _) .nil), fin2 S S H' _ rfl hq⟩
/-- x(lambda: body) -/
theorem ev_lamE {X : Cx} {c : Cn} {Γ Γ' : Gm} {F : Fd} {rd : D} {r : Except Er D} {x a : Str} {g cc P : Addr} {k : Nat} {pg : Arguments} {bg : List Stmt} {sg : Scope} {dV kV doc pm cdv ct oc : Value} {an od : Option Addr} {osl : Array (Option Value)} {Ng : List Str}
    {params : Arguments} {body : Expr} {scope : Scope} {p lpos pos : Pos} (hg : Gl X x) (hm : X.mg x = some (.ref g)) (hk : PySem.W.keepIn X.K (.ref g) = true)
    (lk : X.K.lookup g = some ⟨oc, od, .func (PySem.W.fnOf x x pg bg sg dV kV doc pm an cdv ct), osl⟩) (hcg : PySem.W.codeIn X.K cdv x = true) (hb : L2.Binds X.K (PySem.W.fnOf x x pg bg sg dV kV doc pm an cdv ct) [a] []) (Sg : FnScope Ng [a] sg) (hNg : Ng[0]? = some a) (hva : Vis sg a)
    (hG : LamX.GivesTo X Ng x sg g cdv bg a (X.env.qual ++ "<lambda>") (TTe X.K F))
    (TB : LamX.TabB X.base X.mg cc P) (hcode : X.env.code = .ref cc) (hmT : (P, X.env.qual ++ "<lambda>") ∈ c.tb) (hu : ∀ p ∈ c.tb, p.1 = P → p.2 = X.env.qual ++ "<lambda>") (hr : Room (k + 2) X.A) (L : LamX.LamS X.env.scope scope) (hdef : defaultsOf params X.env = ([], []))
    (hbind : ∀ (q : Str) (cl : List (Str × Addr)) (pm cv ctv : Value), bindArgs (PySem.W.kla_fn "<lambda>" q params body scope cl pm cv ctv) ⟨[], []⟩ = pure [])
    (hbody : ∀ (A : Around) (outer : List Env) (s : Shared) (H : Hp) (E : XK) (f c' : Addr), Room k (A.deeper (LamX.lamEnv X scope s.heap.objs.size f c')) → PxE (LamX.lamCx X A outer s H E scope f c') c Γ body r Γ' (cE E))
    (hF : F (unitR r) rd) (hfx : c.fx = []) (hS0 : ∀ a, c.S0 a → ∃ p ∈ c.tb, p.1 = a)
    (hdb : (x == ("__debug__" : Str)) = false := by decide) (hd : (a == ("__debug__" : Str)) = false := by decide) (hcd : (a == ("__classdict__" : Str)) = false := by decide) :
    Ev X c Γ (.Call (.Name x p) [.Lambda params body scope lpos] [] pos) rd Γ' := by
  refine PE.wk (LamX.pe_lamcall (T := c.tb) (t := fun E => tXE X.K c Γ r Γ' (cE E)) hg hm hk lk hcg hb Sg hNg hva hG TB hcode hmT hu hr L hdef hbind hbody hdb hd hcd) fun σ H Q ⟨S, t, q⟩ => ⟨t.tab, fun H1 eN T1 => ?_⟩
  have htb : c.tb ≠ [] := fun z => by rw [z] at hmT; cases hmT
  obtain ⟨S1, r1, t1⟩ := t.extN eN T1 htb hfx hS0
  refine ⟨unitR r, rd, fun cls dx H' => ∃ S', Rl S1 H1 S' H' ∧ Gd X.K c S' σ H' Γ' ∧ ∃ e, r = .error e ∧ ErrAt e cls dx H', fun v H' => ∃ S', Rl S1 H1 S' H' ∧ Gd X.K c S' σ H' Γ' ∧ ∃ d, r = .ok d, hF,
    ⟨S1, t1, fun d hd v S' H' r2 t2 _ => ⟨S', r2, t2, d, hd⟩, fun e0 hd cls dx S' H' r2 t2 er => ⟨S', r2, t2, e0, hd, er⟩⟩, fun cls dx H' ⟨S', r2, t2, e0, hd, er⟩ => ⟨e0, S', by rw [hd]; rfl, er, t2.dom, fun v H2 e2 d2 => q v S' H2 ((r1.trans r2).trans (.of e2)) (t2.ext e2) d2⟩,
    fun v H' ⟨S', r2, t2, d, hd⟩ => ⟨S', by rw [hd]; rfl, t2.dom, fun v H2 e2 d2 => q v S' H2 ((r1.trans r2).trans (.of e2)) (t2.ext e2) d2⟩⟩

/-! ### more statements, built-ins -/
section
variable {X : Cx} {c : Cn} {Γ Γ1 Γ2 : Gm} {a b e e3 : Expr} {es : List Expr} {pos p apos cpos : Pos} {da db dc d : D} {Po : Post} {x : Str} {k j : Nat} {rest A B body : List Stmt}
theorem cb_reprB {k : Bool} : Cb X (.builtin "repr") [.bl k] (.str (if k then "True" else "False")) := by
  have hc : CallR X (.builtin "repr") (fun xs H Q => xs = [.bl k] ∧ Q (.str (if k then "True" else "False")) H) := by
    intro pins s σ H xs us Q I r h
    obtain ⟨rfl, q⟩ := h
    obtain ⟨u, rfl, ru⟩ := Vals.one r
    cases ru
    exact PySem.P.repr_of_bool ⟨.str _, H, I.tok _, ⟨_, rfl⟩, q⟩
  exact ⟨_, hc, fun S H vs _ h Q q => by
    obtain ⟨v, rfl, h1⟩ := h.one
    exact ⟨by rw [h1.bl_], q _ H (Same.refl H) (.str _)⟩⟩
/-- xs.append(e), e may change lists of one's own -/
theorem s_appE (k : Nat) {l : List D} {d : D} {p1 p2 p3 : Pos} (he : Ev X c Γ e d Γ1) (hk : ∃ l0, Γ[k]? = some (some (.ow l0))) (hk1 : Γ1[k]? = some (some (.ow l))) (hz : l.length < 16000000) (hr : Po.nx (Γ1.set k (some (.ow (l ++ [d]))))) (hN : X.N[k]? = some x := by rfl) (hv : Vis X.env.scope x := by first | exact Or.inl rfl | exact Or.inr (Or.inl rfl) | exact Or.inr (Or.inr rfl))
    (hd : (x == ("__debug__" : Str)) = false := by decide) (hcd : (x == ("__classdict__" : Str)) = false := by decide) (hst : starEach [e] X.env = (false, eval e X.env) :: starEach [] X.env := by rfl) {o : Expr} (ho : o = .Call (.Attribute (.Name x p1) "append" p2) [e] [] p3 := by rfl)
    (hbm : ∀ ta, PA X [e] ta → PE X o (tBM X.K "list" rAppend (tVar k) ta)) (hs : swapsWith o none pos.line X.env = pure false := by rfl) : Sm X c Γ (.Expr o pos) Po :=
  PS.wk (ps_expr (hbm _ (ea_cons he ea_nil hst)) hs) fun D σ H ⟨S, t, q⟩ => by
    obtain ⟨l0, hk0⟩ := hk
    obtain ⟨a, xs, h1, h2, h3, h4⟩ := t.ow hk0
    refine ⟨.ref a, h1, .inl ⟨rfl, xs, SqL.of h3⟩, S, t, fun vs S1 H1 r1 t1 d1 => ?_⟩
    obtain ⟨v, rfl, h5⟩ := d1.one
    obtain ⟨a', xs', g1, g2, g3, g4⟩ := t1.ow hk1
    have ea : a' = a := by rw [h1] at g1; cases g1; rfl
    subst ea
    refine ⟨a', xs', v, rfl, rfl, g3, by rw [g4.length]; exact Nat.lt_trans hz (by decide), ?_⟩
    exact q.nx σ _ S1 _ (r1.trans (rl_upd g2)) (t1.change hk1 h1 g2 g3 (g4.append (.cons h5 .nil))) hr
/-- x = [e, ..], a list of one's own; its items may change others -/
theorem s_setOE (i : Nat) {ds : List D} {pos' lp : Pos} (he : Ea X c Γ es ds Γ1) (hr : Po.nx (Γ1.set i (some (.ow ds)))) (hN : X.N.Nodup) (hl : ds.length ≤ 16000000 := by simp) (hi : X.N[i]? = some x := by rfl) (hx : Loc X.env.scope x := by first | exact Or.inl rfl | exact Or.inr rfl) (hf : fxB c.fx i = true := by rfl)
    (hs : swapsWith (.List es lp) (some (.Name x pos')) pos.line X.env = pure false := by rfl) (hfn : X.fn x = true ∨ X.env.scope.names.lookup x = some .local := by first | exact .inl rfl | exact .inr rfl) : Sm X c Γ (.Assign [.Name x pos'] (.List es lp) pos) Po :=
  PS.wk (ps_set hN hi hx (pe_lst he) hs hfn) fun D σ H ⟨S, t, q⟩ => ⟨S, t, fun vs S1 H1 r1 t1 d1 => ⟨by rw [d1.length]; exact small_line hl, fun p hp => q.nx _ _ _ _ (r1.trans (rl_more hp (same_new hp))) (t1.setOw hp (same_new hp) upd_same (d1.on hp) (fxB_ok hf)) hr⟩⟩
/-- [..] * n -/
theorem n_rep {l : List D} {n : Int} (ha : Pe X c Γ a (.tl l)) (hb : Pe X c Γ b (.int n)) (h0 : 0 ≤ n) (h1 : l.length * n.toNat ≤ 16000000) (hn : n < 2 ^ 62) : True := trivial
end
/-! ### == of a thing and itself -/
mutual
theorem eqv_refl : ∀ d : D, PyData.eqv (toPy d) (toPy d) = true
  | .non => by simp [toPy, PyData.eqv]
  | .bl b => by simp [toPy, PyData.eqv]
  | .int i => by simp [toPy, PyData.eqv]
  | .str s => by simp [toPy, PyData.eqv]
  | .tup l => by
    simp only [toPy, PyData.eqv]
    exact eqvL_refl l
  | .lst l => by
    simp only [toPy, PyData.eqv]
    exact eqvL_refl l
  | .raw v => by simp [toPy, PyData.eqv]
  | .obj C fs => by simp [toPy, PyData.eqv]
  | .tl l => by simp [toPy, PyData.eqv]
theorem eqvL_refl : ∀ l : List D, PyData.eqvAll (toPyL l) (toPyL l) = true
  | [] => by simp [toPyL, PyData.eqvAll]
  | d :: ds => by
    simp only [toPyL, PyData.eqvAll, eqv_refl d, eqvL_refl ds, Bool.and_self]
end
theorem deq_refl (d : D) : deq d d = true := eqv_refl d
theorem c_neSame {X : Cx} {d : D} (hu : X.A.units + 64 < cLine) (h : eqOk d = true) : Cm X .NotEq d d false := by
  have z := c_ne (X := X) hu h h
  rw [deq_refl] at z
  exact z
theorem c_eqSame {X : Cx} {d : D} (hu : X.A.units + 64 < cLine) (h : eqOk d = true) : Cm X .Eq d d true := by
  have z := c_eq (X := X) hu h h
  rw [deq_refl] at z
  exact z
end Spr

set_option Elab.async false
set_option linter.all false
set_option maxRecDepth 100000
set_option maxHeartbeats 4000000
/-! range with a step; flags compared by is; a list times a number; a thing in a list of things; sorted tuples. -/
namespace Spr
open PySem PySem.Spec PyProof.Rows L2
def tTurnC (K : PySem.W.Frag) (c : Cn) (j : Nat) (lo st : Int) (n : Nat) (I : Nat → Gm → Prop) (Po : Post) : TS := fun Ds σ H => ∃ (i : Nat) (Γ' : Gm), i < n ∧ I i Γ' ∧ tB K c (Γ'.set j (some (.im (.int (lo + (i : Nat) * st))))) { nx := I (i + 1), rt := Po.rt, ct := I (i + 1), bk := Po.nx } Ds σ H
section
variable {X : Cx} {c : Cn} {Γ Γ1 : Gm} {a b e e3 : Expr} {es : List Expr} {pos p : Pos} {da db dc d : D} {st : Stmt} {rest A B : List Stmt} {Po : Post} {x : Str}
theorem rgc_two {a b : Int} (ha : -(2 ^ 60) ≤ a) (ha' : a < 2 ^ 60) (hb : -(2 ^ 60) ≤ b) (hb' : b < 2 ^ 60) {n : Nat} (hn : (n : Int) = if a < b then (b - a - 1) / 2 + 1 else 0) : RgC a b 2 n := by
  have hz : Builtin.Range.rangeSize a b 2 = if a < b then (b - a - 1) / 2 + 1 else 0 := by
    unfold Builtin.Range.rangeSize
    simp only [show (2 : Int) > 0 by decide, if_true]
  refine ⟨by decide, by decide, ?_, by rw [hz, hn]⟩
  unfold Builtin.Range.small
  rw [hz]
  simp only [Builtin.Range.rangeFitsLong, Bool.and_eq_true, Bool.or_eq_true, decide_eq_true_eq, beq_iff_eq, show (2 : Int) > 0 by decide, if_true]
  split <;> omega
/-- for x in range(lo, hi, st), n turns -/
theorem s_forR3 (j : Nat) {body : List Stmt} {px p1 p2 : Pos} {lo hi st : Int} {n : Nat} (I : Nat → Gm → Prop) (ha : Pa X c Γ [a, b, e3] [.int lo, .int hi, .int st]) (hn : RgC lo hi st n) (h0 : I 0 Γ) (hb : ∀ (i : Nat) (Γ' : Gm), i < n → I i Γ' → Bl X c (Γ'.set j (some (.im (.int (lo + (i : Nat) * st))))) body { nx := I (i + 1), rt := Po.rt, ct := I (i + 1), bk := Po.nx })
    (hd : ∀ Γ', I n Γ' → Po.nx Γ') (hm : X.mg "range" = none) (hp : PassesOwn (model X.prog X.w) X.A X.env X.xe) (hN : X.N.Nodup) (hc : X.calm = true := by rfl) (hj : X.N[j]? = some x := by rfl) (hx : Loc X.env.scope x := by first | exact Or.inl rfl | exact Or.inr rfl) (hf : fxB c.fx j = true := by rfl) (hg : Gl X "range" := by rfl)
    (hs0 : starEach [a, b, e3] X.env = (false, eval a X.env) :: starEach [b, e3] X.env := by rfl) (hpl : (backTo p2 (starEach [b, e3] X.env)).any (·.1) = false := by rfl) (hs : ∀ x, foldedSetIterable (.Call (.Name "range" p1) [a, b, e3] [] p2) X.env x = pure x := by intro _; rfl) (hfn : X.fn x = true ∨ X.env.scope.names.lookup x = some .local := by first | exact .inl rfl | exact .inr rfl) : Sm X c Γ (.For (.Name x px) (.Call (.Name "range" p1) [a, b, e3] [] p2) body [] pos) Po := by
  have hB : PSs X body (tTurnC X.K c j lo st n I Po) :=
    ⟨fun pins s σ H Ds J ⟨i, Γ', h1, h2, q⟩ => (hb i Γ' h1 h2).run pins s σ H Ds J q⟩
  refine PS.wk (ps_for hp hc (pi_range3 hg hm ha hs0 hpl) (pg_name hN hj hx hfn) hB hs) fun Ds σ H ⟨S, t, q⟩ => ⟨S, t, fun vs H1 e1 dv => ?_⟩
  obtain ⟨v1, v2, v3, rfl, h1, h2, h3⟩ := dv.three
  refine ⟨lo, hi, st, n, by rw [h1.int_, h2.int_, h3.int_], hn, ?_⟩
  refine for_rangeC (lo := lo) (c := st) (n := n) (g := gName j) (tb := tTurnC X.K c j lo st n I Po) (D := Ds) (fun i σ' H' => ∃ S' Γ', Rl S H S' H' ∧ Gd X.K c S' σ' H' Γ' ∧ I i Γ') ⟨S, Γ, .of e1, t.ext e1, h0⟩ ?_ ?_
  · rintro i σ' H' hi ⟨S', Γ', r, g, hI⟩
    refine ⟨i, Γ', hi, hI, S', g.setIm (.int _) (fxB_ok hf), ⟨fun σ2 H2 S2 Γ2 r2 g2 h => ⟨S2, Γ2, r.trans r2, g2, h⟩, fun v σ2 H2 S2 Γ2 en r2 g2 rs h => q.rt v σ2 H2 S2 Γ2 en (r.trans r2) g2 rs h,
      fun σ2 H2 S2 Γ2 r2 g2 h => q.nx σ2 H2 S2 Γ2 (r.trans r2) g2 h, fun σ2 H2 S2 Γ2 r2 g2 h => ⟨S2, Γ2, r.trans r2, g2, h⟩⟩⟩
  · rintro σ' H' ⟨S', Γ', r, g, hI⟩
    exact q.nx σ' H' S' Γ' r g (hd Γ' hI)
theorem c_isB {k m : Bool} : Cm X .Is (.bl k) (.bl m) (decide (k = m)) := ⟨_, op_is_bl, fun S H v w h1 h2 Q q => ⟨k, m, h1.bl_, h2.bl_, q⟩⟩
theorem c_isnotB {k m : Bool} : Cm X .IsNot (.bl k) (.bl m) (!decide (k = m)) := ⟨_, op_isnot_bl, fun S H v w h1 h2 Q q => ⟨k, m, h1.bl_, h2.bl_, q⟩⟩
theorem DenL.rep {K : PySem.W.Frag} {S : Addr → Prop} {H : Hp} {xs : List V} {l : List D} (h : DenL K S H xs l) : ∀ n, DenL K S H (List.replicate n xs).flatten (List.replicate n l).flatten
  | 0 => .nil
  | n + 1 => by
    rw [List.replicate_succ, List.replicate_succ, List.flatten_cons, List.flatten_cons]
    exact h.append (DenL.rep h n)
/-- [..] * n, a new list by a number -/
theorem n_mul {l : List D} {n : Int} (ha : Pn X c Γ a l) (hb : Pe X c Γ b (.int n)) (h0 : 0 ≤ n) (h1 : n < 2 ^ 62) (hz : l.length * n.toNat ≤ 16000000 := by simp) : Pn X c Γ (.BinOp a .Mult b pos) (List.replicate n.toNat l).flatten :=
  PE.wk (pe_op op_rep ha hb) fun σ H Q ⟨S, t, q⟩ => ⟨S, t, fun p1 xs H1 e1 n1 k1 d1 => by
    have t1 := t.plus n1 e1 (by rw [k1]; simp)
    refine ⟨S, t.ext e1, fun w H2 e2 d2 => ⟨p1, n, xs, rfl, d2.int_, e2 _ _ k1, by omega, by omega, by rw [d1.length]; exact small_line hz, fun p hp => ?_⟩⟩
    exact q p _ _ ((e1.trans e2).trans (same_new hp)) ((e1.trans e2).free hp) upd_same (((d1.off.ext e2).rep n.toNat).on hp)⟩
/-- a thing in a list of things -/
theorem c_inD {l : List D} (hu : X.A.units + 65 < cLine) (h1 : eqOk d = true) (h2 : eqOk (.lst l) = true) : Cm X .In d (.lst l) (l.any fun z => deq z d) := ⟨_, op_inD hu, fun S H v w g1 g2 Q q => by
  obtain ⟨p1, p2⟩ := Bool.and_eq_true_iff.mp h1
  obtain ⟨p3, p4⟩ := Bool.and_eq_true_iff.mp h2
  refine ⟨toPy d, toPyL l, Den.dp _ _ p1 g1, Den.dp _ _ p3 g2, p2, p4, ?_⟩
  have e : (toPyL l).any (fun z => PyData.eqv z (toPy d)) = l.any fun z => deq z d := by
    clear h2 p3 p4 g2 q
    induction l with
    | nil => rfl
    | cons a l ih => show (_ || _) = _; rw [ih]; rfl
  rw [e]
  exact q⟩
theorem c_notinD {l : List D} (hu : X.A.units + 65 < cLine) (h1 : eqOk d = true) (h2 : eqOk (.lst l) = true) : Cm X .NotIn d (.lst l) (!l.any fun z => deq z d) := ⟨_, op_notInD hu, fun S H v w g1 g2 Q q => by
  obtain ⟨p1, p2⟩ := Bool.and_eq_true_iff.mp h1
  obtain ⟨p3, p4⟩ := Bool.and_eq_true_iff.mp h2
  refine ⟨toPy d, toPyL l, Den.dp _ _ p1 g1, Den.dp _ _ p3 g2, p2, p4, ?_⟩
  have e : (toPyL l).any (fun z => PyData.eqv z (toPy d)) = l.any fun z => deq z d := by
    clear h2 p3 p4 g2 q
    induction l with
    | nil => rfl
    | cons a l ih => show (_ || _) = _; rw [ih]; rfl
  rw [e]
  exact q⟩
/-- tuples of ints -/
def tupD (ns : List Int) : D := .tup (ns.map .int)
theorem DenL.tups {K : PySem.W.Frag} {S : Addr → Prop} {H : Hp} : ∀ {xs : List V} {l : List (List Int)}, DenL K S H xs (l.map tupD) → ∀ x ∈ xs, ∃ ns ∈ l, TupI K H x ns ∧ Den K S H x (tupD ns)
  | _, [], .nil => fun x hx => by cases hx
  | _, n :: l, .cons h t => fun x hx => by
    rcases List.mem_cons.mp hx with rfl | hx
    · obtain ⟨a, ys, rfl, h1, h2⟩ := Den.tup_ (l := n.map .int) h
      rw [h2.ints] at h1
      exact ⟨n, List.mem_cons_self, ⟨a, rfl, h1⟩, h⟩
    · obtain ⟨ns, m, z⟩ := DenL.tups t x hx
      exact ⟨ns, List.mem_cons_of_mem _ m, z⟩
end
end Spr

set_option Elab.async false
set_option linter.all false
set_option maxRecDepth 100000
set_option maxHeartbeats 4000000
/-! Lists of tuples of ints: they may be compared; sorted where they are ascending. -/
namespace Spr
open PySem PySem.Spec PyProof.Rows L2
theorem ints_ok : ∀ ns : List Int, pyOkL (ns.map .int) = true ∧ (PyData.canLayAll0 (toPyL (ns.map .int)) = true ∧ PyData.depthAll (toPyL (ns.map .int)) = 0)
  | [] => ⟨rfl, rfl, rfl⟩
  | n :: ns => by
    obtain ⟨h1, h2, h3⟩ := ints_ok ns
    refine ⟨?_, ?_, ?_⟩
    · show (pyOk (.int n) && pyOkL (ns.map .int)) = true
      rw [h1]; rfl
    · show (PyData.canLay0 (.int n) && PyData.canLayAll0 (toPyL (ns.map .int))) = true
      rw [h2]; rfl
    · show max (PyData.depth (.int n)) (PyData.depthAll (toPyL (ns.map .int))) = 0
      rw [h3]; rfl
theorem tups_ok : ∀ l : List (List Int), pyOkL (l.map tupD) = true ∧ (PyData.canLayAll0 (toPyL (l.map tupD)) = true ∧ PyData.depthAll (toPyL (l.map tupD)) ≤ 1)
  | [] => ⟨rfl, rfl, by decide⟩
  | n :: ns => by
    obtain ⟨h1, h2, h3⟩ := tups_ok ns
    obtain ⟨g1, g2, g3⟩ := ints_ok n
    refine ⟨?_, ?_, ?_⟩
    · show (pyOkL (n.map .int) && pyOkL (ns.map tupD)) = true
      rw [h1, g1]; rfl
    · show (PyData.canLayAll0 (toPyL (n.map .int)) && PyData.canLayAll0 (toPyL (ns.map tupD))) = true
      rw [h2, g2]; rfl
    · show max (PyData.depthAll (toPyL (n.map .int)) + 1) (PyData.depthAll (toPyL (ns.map tupD))) ≤ 1
      rw [g3]
      omega
theorem eqOk_tups (l : List (List Int)) : eqOk (.lst (l.map tupD)) = true := by
  obtain ⟨h1, h2, h3⟩ := tups_ok l
  unfold eqOk
  refine Bool.and_eq_true_iff.mpr ⟨h1, ?_⟩
  unfold SeqAt.shaped
  refine Bool.and_eq_true_iff.mpr ⟨h2, decide_eq_true ?_⟩
  show PyData.depthAll (toPyL (l.map tupD)) + 1 ≤ 64
  omega
theorem eqOk_ints (l : List Int) : eqOk (.lst (l.map .int)) = true := by
  obtain ⟨h1, h2, h3⟩ := ints_ok l
  unfold eqOk
  refine Bool.and_eq_true_iff.mpr ⟨h1, ?_⟩
  unfold SeqAt.shaped
  refine Bool.and_eq_true_iff.mpr ⟨h2, decide_eq_true ?_⟩
  show PyData.depthAll (toPyL (l.map .int)) + 1 ≤ 64
  omega
theorem eqOk_tup (l : List Int) : eqOk (tupD l) = true := by
  obtain ⟨h1, h2, h3⟩ := ints_ok l
  unfold eqOk
  refine Bool.and_eq_true_iff.mpr ⟨h1, ?_⟩
  unfold SeqAt.shaped
  refine Bool.and_eq_true_iff.mpr ⟨h2, decide_eq_true ?_⟩
  show PyData.depthAll (toPyL (l.map .int)) + 1 ≤ 64
  omega
theorem pair_tri {α : Type} {R : α → α → Prop} : ∀ {l : List α}, l.Pairwise R → ∀ a ∈ l, ∀ b ∈ l, a = b ∨ R a b ∨ R b a
  | [], _, a, ha, _, _ => by cases ha
  | x :: l, h, a, ha, b, hb => by
    obtain ⟨h1, h2⟩ := List.pairwise_cons.mp h
    rcases List.mem_cons.mp ha with rfl | ha
    · rcases List.mem_cons.mp hb with rfl | hb
      · exact .inl rfl
      · exact .inr (.inl (h1 b hb))
    · rcases List.mem_cons.mp hb with e | hb
      · exact .inr (.inr (by rw [e]; exact h1 a ha))
      · exact pair_tri h2 a ha b hb
section
variable {K : PySem.W.Frag} {S : Addr → Prop} {H : Hp}
theorem pair_den {R : List Int → List Int → Prop} : ∀ {xs : List V} {l : List (List Int)}, DenL K S H xs (l.map tupD) → l.Pairwise R → xs.Pairwise fun x y => ∃ n m, TupI K H x n ∧ TupI K H y m ∧ R n m
  | _, [], .nil, _ => .nil
  | _, n :: l, .cons h t, p => by
    obtain ⟨p1, p2⟩ := List.pairwise_cons.mp p
    refine List.pairwise_cons.mpr ⟨fun y hy => ?_, pair_den t p2⟩
    obtain ⟨m, hm, hd, _⟩ := DenL.tups t y hy
    obtain ⟨a, ys, rfl, h1, h2⟩ := Den.tup_ (l := n.map .int) h
    rw [h2.ints] at h1
    exact ⟨n, m, ⟨a, rfl, h1⟩, hd, p1 m hm⟩
end
section
variable {X : Cx}
theorem tupI_inj {pins : List (Addr × Obj)} {s : Shared} {σ : L2.St} {H : Hp} {x : V} {n m : List Int} (I : Inv X pins σ H s) (h1 : TupI X.K H x n) (h2 : TupI X.K H x m) : n = m := by
  obtain ⟨t, rfl, g⟩ := h1
  obtain ⟨t', e, g2⟩ := h2
  cases e
  have z := I.tuple_inj g g2
  have key : ∀ {a b : List Int}, a.map V.int = b.map V.int → a = b := fun {a} => by
    induction a with
    | nil => intro b h; cases b with | nil => rfl | cons _ _ => cases h
    | cons x a ih =>
      intro b h
      cases b with
      | nil => cases h
      | cons y b =>
        rw [List.map_cons, List.map_cons] at h
        injection h with h1 h2
        injection h1 with h1
        rw [h1, ih h2]
  exact key z
/-- sorted of tuples that are ascending: the same -/
def rSortA (K : PySem.W.Frag) (d : Nat) (B : Int) : List V → Hp → VK → Prop := fun vs H Q => ∃ (a : Addr) (xs : List V), vs = [V.ref a] ∧ SqL K H a xs ∧ xs.length < 64 ∧ (∀ x ∈ xs, ∃ ns, TupI K H x ns ∧ ns.length = d ∧ TS.Bd B ns) ∧
  (xs.Pairwise fun x y => ∃ n m, TupI K H x n ∧ TupI K H y m ∧ TS.code B n < TS.code B m) ∧ ∀ p, H p = none → Q (.ref p) (upd H p (.lst xs))
theorem cr_sortA {d : Nat} {B : Int} (hd : 1 ≤ d) : CallR X (.builtin "sorted") (rSortA X.K d B) := by
  intro pins s σ H vs us Q I r h
  obtain ⟨a, xs, e, hs, h64, hx, hp, q⟩ := h
  refine cr_sortT (d := d) (B := B) hd pins s σ H vs us Q I r ⟨a, xs, e, hs, h64, hx, fun ys p hperm hpw hn => ?_⟩
  have z : ys = xs := by
    refine List.Perm.eq_of_pairwise (le := fun x y => ∀ n m, TupI X.K H x n → TupI X.K H y m → TS.code B n ≤ TS.code B m) (fun x y hx1 hy1 h1 h2 => ?_) hpw (hp.imp fun {x y} ⟨n, m, g1, g2, g3⟩ n' m' k1 k2 => ?_) hperm
    · rcases pair_tri hp x (hperm.mem_iff.mp hx1) y hy1 with e | ⟨n, m, g1, g2, g3⟩ | ⟨n, m, g1, g2, g3⟩
      · exact e
      · have := h2 m n g2 g1
        omega
      · have := h1 m n g2 g1
        omega
    · rw [← tupI_inj I g1 k1, ← tupI_inj I g2 k2]
      omega
  rw [z]
  exact q p hn
theorem cb_sortA {d : Nat} {B : Int} {l : List (List Int)} (hd : 1 ≤ d) (h64 : l.length < 64) (hl : ∀ ns ∈ l, ns.length = d ∧ TS.Bd B ns) (hp : l.Pairwise fun n m => TS.code B n < TS.code B m) : Cb X (.builtin "sorted") [.lst (l.map tupD)] (.lst (l.map tupD)) := ⟨_, cr_sortA (d := d) (B := B) hd, fun S H vs hdm h Q q => by
  obtain ⟨v, rfl, h1⟩ := h.one
  obtain ⟨a, xs, rfl, h2, h3⟩ := h1.lst_
  refine ⟨a, xs, rfl, h2, by rw [h3.length, List.length_map]; exact h64, fun x hx => ?_, pair_den h3 hp, fun p hn => q _ _ (same_new hn) (Den.newL hdm hn h3)⟩
  obtain ⟨ns, hm, ht, _⟩ := DenL.tups h3 x hx
  exact ⟨ns, ht, hl ns hm⟩⟩
end
end Spr

namespace Spr
open PySem PySem.Spec PyProof.Rows L2
section
variable {X : Cx} {c : Cn} {Γ : Gm} {a b e : Expr} {pos p2 : Pos} {Po : Post} {α : Type} {elt iter tgx : Expr} {ifs : List Expr} {scope : Scope} {own : List (Str × Nat)} {ppos lpos : Pos} {y x : Str} {j : Nat}
/-- x = [elt for y in range(lo, hi) if ..], on one line -/
theorem s_setLcR2 (i : Nat) {px : Pos} {lo hi' : Int} {p1 p2 : Pos} (f : Nat → D) (pr : Nat → Bool) (hi : Pa X c Γ [a, b] [.int lo, .int hi']) (hz : -16000000 ≤ lo ∧ lo ≤ 16000000 ∧ -16000000 ≤ hi' ∧ hi' ≤ 16000000 ∧ hi' - lo ≤ 16000000) (ok : BlkOk X.N X.env.scope scope own) (hg : InBlk X scope fun X' => PG X' (.Name y ppos) (gName j))
    (ht : ∀ i : Nat, lo + (i : Int) < hi' → InBlk X scope fun X' => PTs X' ifs (tQ X.K c ((wipeG Γ (own.map (·.2))).set j (some (.im (.int (lo + (i : Int)))))) (pr i))) (he : ∀ i : Nat, lo + (i : Int) < hi' → pr i = true → InBlk X scope fun X' => Pe X' c ((wipeG Γ (own.map (·.2))).set j (some (.im (.int (lo + (i : Int)))))) elt (f i))
    (hr : Po.nx (Γ.set i (some (.ow (((List.range (hi' - lo).toNat).filter pr).map f)))) ∨ Po.nx (Γ.set i (some (.im (.lst (((List.range (hi' - lo).toNat).filter pr).map f)))))) (hN : X.N.Nodup) (hm : X.mg "range" = none) (hsw : swapsWith (.ListComp elt [⟨.Name y ppos, .Call (.Name "range" p1) [a, b] [] p2, ifs, 0⟩] scope lpos) (some (.Name x px)) pos.line X.env = pure true := by rfl) (hxi : X.N[i]? = some x := by rfl) (hxl : X.env.scope.names.lookup x = some .local := by rfl) (hc : X.calm = true := by rfl) (hf : ((own.map (·.2)).all fun v => fxB c.fx v) = true := by rfl) (hfi : fxB c.fx i = true := by rfl) (hj : j ∈ own.map (·.2) := by decide) (hg1 : Gl X "range" := by rfl) (hs0 : starEach [a, b] X.env = [(false, eval a X.env), (false, eval b X.env)] := by rfl) (hs1 : starEach [b] X.env = [(false, eval b X.env)] := by rfl) (hs : ∀ x, foldedSetIterable (.Call (.Name "range" p1) [a, b] [] p2) X.env x = pure x := by intro _; rfl) :
    Sm X c Γ (.Assign [.Name x px] (.ListComp elt [⟨.Name y ppos, .Call (.Name "range" p1) [a, b] [] p2, ifs, 0⟩] scope lpos) pos) Po := by
  have mem : ∀ {i : Nat}, i ∈ List.range (hi' - lo).toNat → lo + (i : Int) < hi' := fun {i} h => by
    have q := List.mem_range.mp h
    omega
  refine PS.wk (ps_setLc hc hN hxi hxl hsw (pi_range2 hg1 hm hi hs0 hs1) ok hg (in_tst (xs := List.range (hi' - lo).toNat) (enc := encR lo) (pr := pr) fun i h => ht i (mem h)) (in_elt (xs := List.range (hi' - lo).toNat) (enc := encR lo) (pr := pr) (f := f) fun i h q => he i (mem h) q) hs)
    fun D σ H h => tAsg_n (fun σ H Q h => lcR_read (lo := lo) (n := (hi' - lo).toNat) (fun S t R q => ⟨S, t, fun vs H1 e1 dv => ?_⟩) (by omega) (wfx hf) hj h) hfi hr h
  obtain ⟨v, w, rfl, h1, h2⟩ := dv.two
  exact ⟨lo, hi', by rw [h1.int_, h2.int_], ⟨by omega, by omega, by omega, by omega⟩, q H1 e1⟩
/-- x = [elt for y in range(n) if ..], on one line -/
theorem s_setLcR1 (i : Nat) {px : Pos} {n : Int} {p1 p2 : Pos} (f : Nat → D) (pr : Nat → Bool) (hi : Pa X c Γ [a] [.int n]) (hz : n ≤ 16000000) (hz0 : -(2 ^ 62) ≤ n) (ok : BlkOk X.N X.env.scope scope own) (hg : InBlk X scope fun X' => PG X' (.Name y ppos) (gName j))
    (ht : ∀ i : Nat, (i : Int) < n → InBlk X scope fun X' => PTs X' ifs (tQ X.K c ((wipeG Γ (own.map (·.2))).set j (some (.im (.int (i : Int))))) (pr i))) (he : ∀ i : Nat, (i : Int) < n → pr i = true → InBlk X scope fun X' => Pe X' c ((wipeG Γ (own.map (·.2))).set j (some (.im (.int (i : Int))))) elt (f i))
    (hr : Po.nx (Γ.set i (some (.ow (((List.range n.toNat).filter pr).map f)))) ∨ Po.nx (Γ.set i (some (.im (.lst (((List.range n.toNat).filter pr).map f)))))) (hN : X.N.Nodup) (hm : X.mg "range" = none) (hsw : swapsWith (.ListComp elt [⟨.Name y ppos, .Call (.Name "range" p1) [a] [] p2, ifs, 0⟩] scope lpos) (some (.Name x px)) pos.line X.env = pure true := by rfl) (hxi : X.N[i]? = some x := by rfl) (hxl : X.env.scope.names.lookup x = some .local := by rfl) (hc : X.calm = true := by rfl) (hf : ((own.map (·.2)).all fun v => fxB c.fx v) = true := by rfl) (hfi : fxB c.fx i = true := by rfl) (hj : j ∈ own.map (·.2) := by decide) (hg1 : Gl X "range" := by rfl) (hs0 : starEach [a] X.env = [(false, eval a X.env)] := by rfl) (hs : ∀ x, foldedSetIterable (.Call (.Name "range" p1) [a] [] p2) X.env x = pure x := by intro _; rfl) :
    Sm X c Γ (.Assign [.Name x px] (.ListComp elt [⟨.Name y ppos, .Call (.Name "range" p1) [a] [] p2, ifs, 0⟩] scope lpos) pos) Po := by
  have mem : ∀ {i : Nat}, i ∈ List.range n.toNat → (i : Int) < n := fun {i} h => by
    have q := List.mem_range.mp h
    omega
  have z : ∀ i : Nat, encR 0 i = .int (i : Int) := fun i => by unfold encR; rw [Int.zero_add]
  refine PS.wk (ps_setLc hc hN hxi hxl hsw (pi_range1 hg1 hm hi hs0) ok hg (in_tst (xs := List.range n.toNat) (enc := encR 0) (pr := pr) fun i h => by rw [z]; exact ht i (mem h)) (in_elt (xs := List.range n.toNat) (enc := encR 0) (pr := pr) (f := f) fun i h q => by rw [z]; exact he i (mem h) q) hs)
    fun D σ H h => tAsg_n (fun σ H Q h => lcR_read (lo := 0) (n := n.toNat) (fun S t R q => ⟨S, t, fun vs H1 e1 dv => ?_⟩) (by omega) (wfx hf) hj h) hfi hr h
  obtain ⟨v, rfl, h1⟩ := dv.one
  exact ⟨n, by rw [h1.int_], hz0, by omega, q H1 e1⟩
end
end Spr

set_option Elab.async false
set_option linter.all false
set_option maxRecDepth 100000
set_option maxHeartbeats 0
namespace K19
open PySem PySem.Spec PyProof.Rows
abbrev mainP : Program := PySem.Challenge.pw_spoiltrows_k19_whole_bounds_by_length_an
def top (i : Nat) : Stmt := PySem.Challenge.pw_spoiltrows_k19_whole_bounds_by_length_an.main.body.getD i (.Pass ⟨0, 0, 0, 0⟩)
abbrev st_is_integer : Stmt := top 1
def d_is_integer : He.DefD := ⟨("is_integer", none), "is_integer", "is_integer", L2.defArgs st_is_integer, L2.defBody st_is_integer, L2.defScope st_is_integer, [], []⟩
abbrev st_is_within : Stmt := top 2
def d_is_within : He.DefD := ⟨("is_within", none), "is_within", "is_within", L2.defArgs st_is_within, L2.defBody st_is_within, L2.defScope st_is_within, [], []⟩
abbrev st_choose : Stmt := top 8
def d_choose : He.DefD := ⟨("choose", none), "choose", "choose", L2.defArgs st_choose, L2.defBody st_choose, L2.defScope st_choose, [], []⟩
abbrev st_check_told : Stmt := top 10
def d_check_told : He.DefD := ⟨("check_told", none), "check_told", "check_told", L2.defArgs st_check_told, L2.defBody st_check_told, L2.defScope st_check_told, [], []⟩
abbrev st_raised : Stmt := top 11
def d_raised : He.DefD := ⟨("raised", none), "raised", "raised", L2.defArgs st_raised, L2.defBody st_raised, L2.defScope st_raised, [], []⟩
abbrev st_near_of : Stmt := top 12
def d_near_of : He.DefD := ⟨("near_of", none), "near_of", "near_of", L2.defArgs st_near_of, L2.defBody st_near_of, L2.defScope st_near_of, [], []⟩
abbrev st_least_length : Stmt := top 13
def d_least_length : He.DefD := ⟨("least_length", none), "least_length", "least_length", L2.defArgs st_least_length, L2.defBody st_least_length, L2.defScope st_least_length, [], []⟩
abbrev st_meets_leaving : Stmt := top 14
def d_meets_leaving : He.DefD := ⟨("meets_leaving", none), "meets_leaving", "meets_leaving", L2.defArgs st_meets_leaving, L2.defBody st_meets_leaving, L2.defScope st_meets_leaving, [], []⟩
abbrev st_meets_balls : Stmt := top 15
def d_meets_balls : He.DefD := ⟨("meets_balls", none), "meets_balls", "meets_balls", L2.defArgs st_meets_balls, L2.defBody st_meets_balls, L2.defScope st_meets_balls, [], []⟩
abbrev st_balls_numbers : Stmt := top 16
def d_balls_numbers : He.DefD := ⟨("balls_numbers", none), "balls_numbers", "balls_numbers", L2.defArgs st_balls_numbers, L2.defBody st_balls_numbers, L2.defScope st_balls_numbers, [], []⟩
abbrev st_with_weight : Stmt := top 17
def d_with_weight : He.DefD := ⟨("with_weight", none), "with_weight", "with_weight", L2.defArgs st_with_weight, L2.defBody st_with_weight, L2.defScope st_with_weight, [], []⟩
abbrev st_meets_length : Stmt := top 18
def d_meets_length : He.DefD := ⟨("meets_length", none), "meets_length", "meets_length", L2.defArgs st_meets_length, L2.defBody st_meets_length, L2.defScope st_meets_length, [], []⟩
abbrev st_most_by_length : Stmt := top 19
def d_most_by_length : He.DefD := ⟨("most_by_length", none), "most_by_length", "most_by_length", L2.defArgs st_most_by_length, L2.defBody st_most_by_length, L2.defScope st_most_by_length, [], []⟩
abbrev st_law_hand : Stmt := top 21
def d_law_hand : He.DefD := ⟨("_law_hand", none), "_law_hand", "_law_hand", L2.defArgs st_law_hand, L2.defBody st_law_hand, L2.defScope st_law_hand, [], []⟩
abbrev st_law_draw : Stmt := top 22
def d_law_draw : He.DefD := ⟨("_law_draw", none), "_law_draw", "_law_draw", L2.defArgs st_law_draw, L2.defBody st_law_draw, L2.defScope st_law_draw, [], []⟩
abbrev st_law_any : Stmt := top 23
def d_law_any : He.DefD := ⟨("_law_any", none), "_law_any", "_law_any", L2.defArgs st_law_any, L2.defBody st_law_any, L2.defScope st_law_any, [], []⟩
abbrev st_law_raised : Stmt := top 24
def d_law_raised : He.DefD := ⟨("_law_raised", none), "_law_raised", "_law_raised", L2.defArgs st_law_raised, L2.defBody st_law_raised, L2.defScope st_law_raised, [], []⟩
abbrev st_law_ball : Stmt := top 25
def d_law_ball : He.DefD := ⟨("_law_ball", none), "_law_ball", "_law_ball", L2.defArgs st_law_ball, L2.defBody st_law_ball, L2.defScope st_law_ball, [], []⟩
abbrev st_law_three : Stmt := top 26
def d_law_three : He.DefD := ⟨("_law_three", none), "_law_three", "_law_three", L2.defArgs st_law_three, L2.defBody st_law_three, L2.defScope st_law_three, [], []⟩
abbrev st_law_no_three : Stmt := top 27
def d_law_no_three : He.DefD := ⟨("_law_no_three", none), "_law_no_three", "_law_no_three", L2.defArgs st_law_no_three, L2.defBody st_law_no_three, L2.defScope st_law_no_three, [], []⟩
abbrev st_law_said : Stmt := top 28
def d_law_said : He.DefD := ⟨("_law_said", none), "_law_said", "_law_said", L2.defArgs st_law_said, L2.defBody st_law_said, L2.defScope st_law_said, [], []⟩
abbrev st_law_length : Stmt := top 29
def d_law_length : He.DefD := ⟨("_law_length", none), "_law_length", "_law_length", L2.defArgs st_law_length, L2.defBody st_law_length, L2.defScope st_law_length, [], []⟩
abbrev st_law_with_weight : Stmt := top 30
def d_law_with_weight : He.DefD := ⟨("_law_with_weight", none), "_law_with_weight", "_law_with_weight", L2.defArgs st_law_with_weight, L2.defBody st_law_with_weight, L2.defScope st_law_with_weight, [], []⟩
abbrev st_law_is_right : Stmt := top 31
def d_law_is_right : He.DefD := ⟨("_law_is_right", none), "_law_is_right", "_law_is_right", L2.defArgs st_law_is_right, L2.defBody st_law_is_right, L2.defScope st_law_is_right, [], []⟩
abbrev st_law_are_balls_right : Stmt := top 32
def d_law_are_balls_right : He.DefD := ⟨("_law_are_balls_right", none), "_law_are_balls_right", "_law_are_balls_right", L2.defArgs st_law_are_balls_right, L2.defBody st_law_are_balls_right, L2.defScope st_law_are_balls_right, [], []⟩
abbrev st_law : Stmt := top 33
def d_law : He.DefD := ⟨("law", none), "law", "law", L2.defArgs st_law, L2.defBody st_law, L2.defScope st_law, [], []⟩
def fn : List He.DefD := [d_is_integer, d_is_within, d_choose, d_check_told, d_raised, d_near_of, d_least_length, d_meets_leaving, d_meets_balls, d_balls_numbers, d_with_weight, d_meets_length, d_most_by_length, d_law_hand, d_law_draw, d_law_any, d_law_raised, d_law_ball, d_law_three, d_law_no_three, d_law_said, d_law_length, d_law_with_weight, d_law_is_right, d_law_are_balls_right, d_law]
def fa : List He.Fa := [.glo "is_integer", .glo "is_within", .glo "choose", .glo "check_told", .glo "raised", .glo "near_of", .glo "least_length", .glo "meets_leaving", .glo "meets_balls", .glo "balls_numbers", .glo "with_weight", .glo "meets_length", .glo "most_by_length", .glo "_law_hand", .glo "_law_draw", .glo "_law_any", .glo "_law_raised", .glo "_law_ball", .glo "_law_three", .glo "_law_no_three", .glo "_law_said", .glo "_law_length", .glo "_law_with_weight", .glo "_law_is_right", .glo "_law_are_balls_right", .glo "law", .free "isinstance", .free "int", .free "bool", .free "range", .free "sum", .free "min", .free "len", .free "abs", .free "repr", .free "ValueError", .free "max", .free "sorted", .free "list", .glo "RowError", .glo "TooMany", .glo "NoNumber", .exm "NoNumber" "RowError" true]
def tf : List He.Defn := [("law", none)]
def ex (K : PySem.W.Frag) : Bool := Spr.xtB mainP K "NoNumber" && (Spr.xf0B K "NoNumber" && (Spr.excCB K (He.ga K "NoNumber") && (decide (PySem.W.kitOne K (.ref (He.ga K "NoNumber")) (.type "ValueError") = some true) && (decide (PySem.W.kitOne K (.ref (He.ga K "NoNumber")) (.ref (He.ga K "TooMany")) = some false) && decide (PySem.W.kitOne K (.ref (He.ga K "NoNumber")) (.ref (He.ga K "NoNumber")) = some true)))))
abbrev R : PySem.W.OpenRow := PySem.W.OpenLaw.row PySem.Challenge.rw_spoiltrows_k19_whole_bounds_by_length_an
abbrev hk : PySem.W.Hook := Spr.hookS 6 fa fn tf ex
def ob (s : PySem.W.SharedT) : Spr.AlS := Spr.obsS 6 fa fn tf ex (HandSHeadRun.getT s)
theorem ob_eq (s : PySem.W.SharedT) : ob s = hk.obs s.abs := Spr.obsS_eq (HandSHeadRun.getT_eq s)
def lo0 : List PySem.Str := ["is_integer", "is_within", "RowError", "TooMany", "NoNumber", "choose", "check_told", "raised", "near_of", "least_length", "meets_leaving", "meets_balls", "balls_numbers", "with_weight", "meets_length", "most_by_length", "_law_hand", "_law_draw", "_law_any", "_law_raised", "_law_ball", "_law_three", "_law_no_three", "_law_said", "_law_length", "_law_with_weight", "_law_is_right", "_law_are_balls_right"]
def loose : List PySem.Str := lo0
theorem run (w : World) : HandSHeadRun.RunEq R (PySem.W.view R.prog [33]) hk ob 6000 loose w := by
  intro os
  kernel_rfl
end K19

set_option Elab.async false
set_option linter.all false
set_option maxRecDepth 100000
set_option maxHeartbeats 4000000
namespace K19
open PySem PySem.Spec PyProof.Rows L2 Spr
/-! ### mirrors -/
def fall (n : Nat) : Nat → Nat
  | 0 => 1
  | k + 1 => fall n k * (n - k)
def fact : Nat → Nat
  | 0 => 1
  | k + 1 => fact k * (k + 1)
def ch (n k : Nat) : Nat := fall n k / fact k
def near (o l f : Nat) : Nat := ((List.range (f + 1)).map fun m => ch l m * (o - 1) ^ m).sum
def isI : D → Bool
  | .int _ => true
  | _ => false
def inB (d : D) (lo hi : Int) : Bool := match d with
  | .int i => decide (lo ≤ i) && decide (i ≤ hi)
  | _ => false
/-- what is told of a triple -/
def gd3 (a b c : D) : Bool := inB a 2 32 && (inB b 1 60 && (match b with
  | .int l => inB c 1 l
  | _ => false))
def tg3 (a b c : D) : Prop := tyGood a = true ∧ tyGood b = true ∧ tyGood c = true
/-! ### what each def does -/
def F_isint : Fs := fun ds r => ∃ d, tyGood d = true ∧ ds = [d] ∧ r = .ok (.bl (isI d))
def F_within : Fs := fun ds r => ∃ (d : D) (lo hi : Int), tyGood d = true ∧ ds = [d, .int lo, .int hi] ∧ r = .ok (.bl (inB d lo hi))
def F_choose : Fs := fun ds r => ∃ n k : Nat, k ≤ n ∧ n ≤ 60 ∧ ds = [.int n, .int k] ∧ r = .ok (.int (ch n k))
def F_raised : Fs := fun ds r => ∃ (a : Int) (n : Nat), -(2 ^ 64) < a ∧ a < 2 ^ 64 ∧ n ≤ 100 ∧ ds = [.int a, .int n] ∧ r = .ok (.int (a ^ n))
def F_check (e : Er) : Fs := fun ds r => ∃ a b c : D, tg3 a b c ∧ ds = [a, b, c] ∧ r = if gd3 a b c then .ok .non else .error e
def F_near : Fs := fun ds r => ∃ o l f : Nat, 1 ≤ o ∧ o ≤ 32 ∧ l ≤ 60 ∧ f ≤ l ∧ ds = [.int o, .int l, .int f] ∧ r = .ok (.int (near o l f))
section
variable {P : Program} {w : World} {K : PySem.W.Frag} {mg : Str → Option Value} {base : Heap} {f : Addr} {fd : FuncData}
abbrev FnP (K : PySem.W.Frag) (x : Str) (st : Stmt) (f : Addr) (fd : FuncData) : Prop := L2.Fun K x x st f fd
/-- names that stand for built-ins -/
structure Fr (mg : Str → Option Value) : Prop where
  int : mg "int" = none
  bool : mg "bool" = none
  isi : mg "isinstance" = none
  range : mg "range" = none
  sum : mg "sum" = none
  min : mg "min" = none
  len : mg "len" = none
  abs : mg "abs" = none
  repr : mg "repr" = none
  ve : mg "ValueError" = none
  max : mg "max" = none
  sorted : mg "sorted" = none
  list : mg "list" = none
theorem sc_isint : FnScope ["thing"] ["thing"] (defScope st_is_integer) := ⟨rfl, rfl, rfl, by decide +kernel, rfl, by decide +kernel, by decide +kernel⟩
theorem ok_isint (B : Fr mg) (Fn : FnP K "is_integer" st_is_integer f fd) : FnOk P w K mg base (L2.CX P w) 1 f fd ["thing"] (upP K F_isint) := by
  refine mkP Fn sc_isint (by rintro _ _ ⟨d, _, rfl, _⟩; rfl) fun cdv A outer s H E S0 H0 ds r hr hF hx => ?_
  obtain ⟨d, hd, rfl, rfl⟩ := hF
  refine b_one (s_ret (p_and (p_blt (cb_isa (n := "int") hd) (a_cons (p_var 0) (a_cons (p_ty B.int (by decide +kernel)) a_nil)) B.isi (by decide +kernel)) (fun hk => (p_one (p_notV (p_blt (cb_isa (n := "bool") hd) (a_cons (p_var 0) (a_cons (p_ty B.bool (by decide +kernel)) a_nil)) B.isi (by decide +kernel)))))) ?_)
  show Except.ok (D.bl (isI d)) = Except.ok (D.bl _)
  cases d <;> first | rfl | (cases hd; done)
theorem sc_within : FnScope ["thing", "least", "most"] ["thing", "least", "most"] (defScope st_is_within) := ⟨rfl, rfl, rfl, by decide +kernel, rfl, by decide +kernel, by decide +kernel⟩
theorem ok_within (G : FoP P w K mg base 1 "is_integer" F_isint) (Fn : FnP K "is_within" st_is_within f fd) : FnOk P w K mg base (L2.CX P w) 2 f fd ["thing", "least", "most"] (upP K F_within) := by
  refine mkP Fn sc_within (by rintro _ _ ⟨d, _, _, _, rfl, _⟩; rfl) fun cdv A outer s H E S0 H0 ds r hr hF hx => ?_
  obtain ⟨d, lo, hi, hd, rfl, rfl⟩ := hF
  cases hI : isI d with
  | true =>
    obtain ⟨i, rfl⟩ : ∃ i, d = .int i := by cases d <;> first | exact ⟨_, rfl⟩ | cases hI
    refine b_one (s_ret (p_and (p_call G hr (a_cons (p_var 0) a_nil) ⟨_, hd, rfl, rfl⟩) (fun hk => (p_one (p_chain (p_var 1) (p_var 0) (fun hk => (p_var 2)) c_le (fun hk => c_le))))) ?_)
    show Except.ok (D.bl _) = Except.ok (D.bl _)
    simp [inB, isI]
  | false =>
    refine b_one (s_ret (p_and (k' := true) (p_call G hr (a_cons (p_var 0) a_nil) ⟨_, hd, rfl, by rw [hI]⟩) (fun hk => by cases hk)) ?_)
    show Except.ok (D.bl _) = Except.ok (D.bl _)
    cases d <;> first | rfl | (cases hI; done)
theorem sc_raised : FnScope ["number", "many", "found", "turn"] ["number", "many"] (defScope st_raised) := ⟨rfl, rfl, rfl, by decide +kernel, rfl, by decide +kernel, by decide +kernel⟩
theorem ok_raised (B : Fr mg) (Fn : FnP K "raised" st_raised f fd) : FnOk P w K mg base (L2.CX P w) 1 f fd ["number", "many"] (upP K F_raised) := by
  refine mkP Fn sc_raised (by rintro _ _ ⟨a, n, _, _, _, rfl, _⟩; rfl) fun cdv A outer s H E S0 H0 ds r hr hF hx => ?_
  obtain ⟨a, n, h1, h2, h3, rfl, rfl⟩ := hF
  refine b_cons (s_set 2 p_int ?_ sc_raised.nd)
  refine b_cons (s_forR1 3 (fun i Γ => ∃ e, Γ = [some (.im (.int a)), some (.im (.int n)), some (.im (.int (a ^ i))), e]) (a_cons (p_var 1) a_nil) (by constructor <;> omega) ?_ (fun i Γ hi hI => ?_) (fun Γ hI => ?_) B.range PassesOwn.leaving sc_raised.nd)
  · exact ⟨none, by rw [Int.pow_zero]; rfl⟩
  · obtain ⟨e, rfl⟩ := hI
    refine b_one (s_set 2 (p_bin (p_var 2) (p_var 0) (bn_mul64 (.inr ⟨h1, h2⟩))) ?_ sc_raised.nd)
    exact ⟨_, by rw [Int.pow_succ]; rfl⟩
  · obtain ⟨e, rfl⟩ := hI
    exact b_one (s_ret (p_var 2) rfl)
/-! bounds -/
theorem fact_pos : ∀ k, 0 < fact k
  | 0 => Nat.one_pos
  | k + 1 => Nat.mul_pos (fact_pos k) (Nat.succ_pos k)
theorem fact_small : ∀ k < 61, (fact k).log2 < 9000 := by decide +kernel
theorem sc_choose : FnScope ["many", "some", "at", "top", "bottom"] ["many", "some"] (defScope st_choose) := ⟨rfl, rfl, rfl, by decide +kernel, rfl, by decide +kernel, by decide +kernel⟩
theorem ok_choose (B : Fr mg) (Fn : FnP K "choose" st_choose f fd) : FnOk P w K mg base (L2.CX P w) 1 f fd ["many", "some"] (upP K F_choose) := by
  refine mkP Fn sc_choose (by rintro _ _ ⟨n, k, _, _, rfl, _⟩; rfl) fun cdv A outer s H E S0 H0 ds r hr hF hx => ?_
  obtain ⟨n, k, h1, h2, rfl, rfl⟩ := hF
  refine b_cons (s_if (k := false) (t_is (t_pw (w_or (t_cmp (p_var 1) p_int c_lt) (fun hk => (w_or1 (t_cmp (p_var 1) (p_var 0) c_gt))))) (by simp; omega)) (fun hk => by cases hk) (fun hk => ?_))
  refine b_nil ?_
  refine b_cons (s_unpack [3, 4] (p_tup (a_cons p_int (a_cons p_int a_nil))) ?_ (hg := pgs_cons (pg_name (i := 3) sc_choose.nd rfl (Or.inl rfl)) (pgs_cons (pg_name (i := 4) sc_choose.nd rfl (Or.inl rfl)) pgs_nil)))
  refine b_cons (s_forR1 2 (fun i Γ => i ≤ k ∧ ∃ e, Γ = [some (.im (.int n)), some (.im (.int k)), e, some (.im (.int (fall n i))), some (.im (.int (fact i)))]) (a_cons (p_var 1) a_nil) (by constructor <;> omega) ?_ (fun i Γ hi hI => ?_) (fun Γ hI => ?_) B.range PassesOwn.leaving sc_choose.nd)
  · exact ⟨Nat.zero_le _, none, rfl⟩
  · obtain ⟨hik, e, rfl⟩ := hI
    have hik2 : i < k := by omega
    refine b_one (s_par 3 4 (a_cons (p_bin (p_var 3) (p_bin (p_var 0) (p_var 2) bn_sub) (bn_mul64 (.inr ⟨by omega, by omega⟩))) (a_cons (p_bin (p_var 4) (p_bin (p_var 2) p_int bn_add) (bn_mul64 (.inr ⟨by omega, by omega⟩))) a_nil)) ?_ sc_choose.nd)
    refine ⟨hik2, some (.im (.int i)), ?_⟩
    have e1 : ((fall n (i + 1) : Nat) : Int) = (fall n i : Int) * ((n : Int) - (i : Int)) := by
      show ((fall n i * (n - i) : Nat) : Int) = _
      rw [Int.natCast_mul, Int.ofNat_sub (by omega)]
    have e2 : ((fact (i + 1) : Nat) : Int) = (fact i : Int) * ((i : Int) + 1) := by
      show ((fact i * (i + 1) : Nat) : Int) = _
      rw [Int.natCast_mul]; rfl
    rw [e1, e2]
    rfl
  · obtain ⟨hik, e, rfl⟩ := hI
    have hk : (k : Int).toNat = k := by omega
    rw [hk]
    refine b_one (s_ret (p_bin (p_var 3) (p_var 4) (bn_fdiv ⟨by have := fact_pos k; omega, by rw [Int.natAbs_natCast]; exact fact_small k (by omega)⟩)) ?_)
    show Except.ok (D.int _) = Except.ok (D.int _)
    rfl
theorem sc_check : FnScope ["order", "length", "far"] ["order", "length", "far"] (defScope st_check_told) := ⟨rfl, rfl, rfl, by decide +kernel, rfl, by decide +kernel, by decide +kernel⟩
theorem ok_check {C fI cc cda : Addr} (G : FoP P w K mg base 2 "is_within" F_within) (T : XTxt K mg P "NoNumber" C fI cc cda) (F0 : XFn0 K fI cc cda) (Fn : FnP K "check_told" st_check_told f fd) : FnOk P w K mg base (L2.CX P w) 3 f fd ["order", "length", "far"] (upP K (F_check ⟨C, []⟩)) := by
  refine mkP Fn sc_check (by rintro _ _ ⟨a, b, c, _, rfl, _⟩; rfl) fun cdv A outer s H E S0 H0 ds r hr hF hx => ?_
  obtain ⟨a, b, c, ⟨ta, tb, tc⟩, rfl, rfl⟩ := hF
  cases hA : inB a 2 32 with
  | false =>
    refine b_one (s_if (k := true) ?_ (fun hk => ?_) (fun hk => by cases hk))
    · refine t_pw (w_or (k := true) (k' := false) ?_ (fun hk => by cases hk))
      exact t_is (t_not (t_val (p_call G hr (a_cons (p_var 0) (a_cons p_int (a_cons p_int a_nil))) ⟨_, _, _, ta, rfl, rfl⟩))) (by rw [hA]; rfl)
    · exact b_one (s_raise0 hx T F0 hr (by unfold gd3; rw [hA]; rfl))
  | true =>
    cases hB : inB b 1 60 with
    | false =>
      refine b_one (s_if (k := true) ?_ (fun hk => ?_) (fun hk => by cases hk))
      · refine t_pw (w_or (k := false) (k' := true) ?_ (fun _ => w_or (k := true) (k' := false) ?_ (fun hk => by cases hk)))
        · exact t_is (t_not (t_val (p_call G hr (a_cons (p_var 0) (a_cons p_int (a_cons p_int a_nil))) ⟨_, _, _, ta, rfl, rfl⟩))) (by rw [hA]; rfl)
        · exact t_is (t_not (t_val (p_call G hr (a_cons (p_var 1) (a_cons p_int (a_cons p_int a_nil))) ⟨_, _, _, tb, rfl, rfl⟩))) (by rw [hB]; rfl)
      · exact b_one (s_raise0 hx T F0 hr (by unfold gd3; rw [hA, hB]; rfl))
    | true =>
      obtain ⟨l, rfl⟩ : ∃ l, b = .int l := by cases b <;> first | exact ⟨_, rfl⟩ | cases hB
      refine b_one (s_if (k := !inB c 1 l) ?_ (fun hk => ?_) (fun hk => ?_))
      · refine t_pw (w_or (k := false) (k' := !inB c 1 l) ?_ (fun _ => w_or (k := false) (k' := !inB c 1 l) ?_ (fun _ => w_or1 ?_)))
        · exact t_is (t_not (t_val (p_call G hr (a_cons (p_var 0) (a_cons p_int (a_cons p_int a_nil))) ⟨_, _, _, ta, rfl, rfl⟩))) (by rw [hA]; rfl)
        · exact t_is (t_not (t_val (p_call G hr (a_cons (p_var 1) (a_cons p_int (a_cons p_int a_nil))) ⟨_, _, _, tb, rfl, rfl⟩))) (by rw [hB]; rfl)
        · exact t_not (t_val (p_call G hr (a_cons (p_var 2) (a_cons p_int (a_cons (p_var 1) a_nil))) ⟨_, _, _, tc, rfl, rfl⟩))
      · have hc : inB c 1 l = false := by simpa using hk
        exact b_one (s_raise0 hx T F0 hr (by unfold gd3; rw [hA, hB]; simp [hc]))
      · have hc : inB c 1 l = true := by simpa using hk
        exact b_nil (by show _ = _; unfold gd3; simp [hA, hB, hc])
theorem pow_small : ∀ o < 32, ∀ i < 61, (o ^ i).log2 < 400 := by decide +kernel
theorem sum_cast {α : Type} (g : α → Nat) (l : List α) : (l.map fun x => ((g x : Nat) : Int)).sum = ((l.map g).sum : Nat) := by
  induction l with
  | nil => rfl
  | cons a l ih => simp [ih]
theorem ch_small : ∀ n < 61, ∀ k < 61, (ch n k).log2 < 200 := by decide +kernel
theorem sc_near : FnScope ["order", "length", "far", "many"] ["order", "length", "far"] (defScope st_near_of) := ⟨rfl, rfl, rfl, by decide +kernel, rfl, by decide +kernel, by decide +kernel⟩
theorem ok_near (B : Fr mg) (G1 : FoP P w K mg base 1 "choose" F_choose) (G2 : FoP P w K mg base 1 "raised" F_raised) (Fn : FnP K "near_of" st_near_of f fd) : FnOk P w K mg base (L2.CX P w) 2 f fd ["order", "length", "far"] (upP K F_near) := by
  refine mkP Fn sc_near (by rintro _ _ ⟨o, l, f, _, _, _, _, rfl, _⟩; rfl) fun cdv A outer s H E S0 H0 ds r hr hF hx => ?_
  obtain ⟨o, l, f, h1, h2, h3, h4, rfl, rfl⟩ := hF
  have e0 : ((f : Int) + 1).toNat = f + 1 := by omega
  have eo : (o : Int) - 1 = ((o - 1 : Nat) : Int) := by omega
  have ep : ∀ i : Nat, ((o : Int) - 1) ^ i = (((o - 1) ^ i : Nat) : Int) := fun i => by rw [eo, Int.natCast_pow]
  have key : ∀ i : Nat, (i : Int) < (f : Int) + 1 → CMulW (ch l i : Int) (((o : Int) - 1) ^ i) := fun i hi => by
    rw [ep]
    have h5 := ch_small l (by omega) i (by omega)
    have h6 := pow_small (o - 1) (by omega) i (by omega)
    unfold CMulW
    rw [Int.natAbs_natCast, Int.natAbs_natCast]
    omega
  refine b_one (s_ret (d := .int (near o l f)) (p_is (p_blt (cb_sum (ns := (List.range (f + 1)).map fun i => ((ch l i * (o - 1) ^ i : Nat) : Int))) (a_cons (p_is (n_p (n_lcR1 (own := [("many", 3)]) (j := 3) (fun i => .int ((ch l i : Int) * ((o : Int) - 1) ^ i)) (fun _ => true) (a_cons (p_bin (p_var 2) p_int bn_add) a_nil) (by omega) (by omega) (blkB_ok (by rfl)) (fun _ _ _ _ _ => pg_name (i := 3) sc_near.nd rfl (Or.inl rfl)) (fun i hi _ _ _ _ _ => ts_nil)
    (fun i hi _ _ _ _ _ _ => (p_bin (p_call G1 hr (a_cons (p_var 1) (a_cons (p_var 3) a_nil)) ⟨l, i, by omega, by omega, rfl, rfl⟩) (p_call G2 hr (a_cons (p_bin (p_var 0) p_int bn_sub) (a_cons (p_var 3) a_nil)) ⟨_, i, by omega, by omega, by omega, rfl, rfl⟩) (bn_mul (key i hi)))) sc_near.nd B.range)) ?_) a_nil) B.sum (by decide +kernel)) ?_) ?_)
  · rw [e0, filt_all, List.map_map]
    refine congrArg D.lst (List.map_congr_left fun i _ => ?_)
    show D.int ((ch l i : Int) * ((o : Int) - 1) ^ i) = D.int (((ch l i * (o - 1) ^ i : Nat) : Int))
    rw [ep, Int.natCast_mul]
  · rw [sum_cast]; rfl
  · rfl
end
end K19

set_option Elab.async false
set_option linter.all false
set_option maxRecDepth 100000
set_option maxHeartbeats 4000000
set_option exponentiation.threshold 10000
namespace K19
open PySem PySem.Spec PyProof.Rows L2 Spr
/-- a triple that is told -/
structure Go (o l f : Nat) : Prop where
  o1 : 2 ≤ o
  o2 : o ≤ 32
  l1 : 1 ≤ l
  l2 : l ≤ 60
  f1 : 1 ≤ f
  f2 : f ≤ l
theorem Go.gd {o l f : Nat} (g : Go o l f) : gd3 (.int o) (.int l) (.int f) = true := by
  obtain ⟨h1, h2, h3, h4, h5, h6⟩ := g
  unfold gd3 inB
  simp
  omega
/-! ### bounds -/
theorem lt_of_log2 {n k : Nat} (h : n.log2 < k) : n < 2 ^ k := by
  by_cases h0 : n = 0
  · rw [h0]; exact Nat.two_pow_pos k
  · exact (Nat.log2_lt h0).mp h
theorem log2_of_lt {n k : Nat} (hk : 0 < k) (h : n < 2 ^ k) : n.log2 < k := by
  by_cases h0 : n = 0
  · rw [h0]; simpa using hk
  · exact (Nat.log2_lt h0).mpr h
theorem sum_le {α : Type} (g : α → Nat) (B : Nat) : ∀ (l : List α), (∀ x ∈ l, g x ≤ B) → (l.map g).sum ≤ l.length * B
  | [], _ => Nat.zero_le _
  | a :: l, h => by
    have h1 := h a List.mem_cons_self
    have h2 := sum_le g B l fun x hx => h x (List.mem_cons_of_mem _ hx)
    rw [List.map_cons, List.sum_cons, List.length_cons, Nat.succ_mul]
    omega
theorem near_small {o l f : Nat} (ho : o ≤ 32) (hl : l ≤ 60) (hf : f ≤ 60) : (near o l f).log2 < 9000 := by
  refine log2_of_lt (by decide) ?_
  have h := sum_le (fun m => ch l m * (o - 1) ^ m) (2 ^ 200 * 2 ^ 400) (List.range (f + 1)) fun m hm => by
    have hm := List.mem_range.mp hm
    have h1 := lt_of_log2 (ch_small l (by omega) m (by omega))
    have h2 := lt_of_log2 (pow_small (o - 1) (by omega) m (by omega))
    exact Nat.mul_le_mul (Nat.le_of_lt h1) (Nat.le_of_lt h2)
  rw [List.length_range] at h
  have h3 : (f + 1) * (2 ^ 200 * 2 ^ 400) ≤ 61 * (2 ^ 200 * 2 ^ 400) := Nat.mul_le_mul_right _ (by omega)
  have h4 : 61 * (2 ^ 200 * 2 ^ 400) < 2 ^ 9000 := by decide +kernel
  exact Nat.lt_of_le_of_lt (Nat.le_trans h h3) h4
theorem near_pos {o l f : Nat} : 0 < near o l f := by
  unfold near
  rw [List.range_succ_eq_map, List.map_cons, List.sum_cons]
  have : ch l 0 * (o - 1) ^ 0 = 1 := by unfold ch fall fact; simp
  omega
def F_by (e : Er) (val : Nat → Nat → Nat → D) : Fs := fun ds r => (∃ o l f : Nat, Go o l f ∧ ds = [.int o, .int l, .int f] ∧ r = .ok (val o l f)) ∨ (∃ a b c : D, tg3 a b c ∧ gd3 a b c = false ∧ ds = [a, b, c] ∧ r = .error e)
theorem F_by.len {e : Er} {val : Nat → Nat → Nat → D} {ds : List D} {r : Except Er D} (h : F_by e val ds r) : ds.length = 3 := by
  rcases h with ⟨_, _, _, _, rfl, _⟩ | ⟨_, _, _, _, _, rfl, _⟩ <;> rfl
abbrev eN (C : Addr) : Er := ⟨C, []⟩
def partL (o l : Nat) : Nat → Nat
  | 0 => 1
  | m + 1 => partL o l m * (l - m) * (o - 1) / (m + 1)
def ballL (o l : Nat) : Nat → Nat
  | 0 => 1
  | m + 1 => ballL o l m + partL o l (m + 1)
def F_lraised : Fs := fun ds r => ∃ (a n : Nat), a ≤ 32 ∧ n ≤ 100 ∧ ds = [.int a, .int n] ∧ r = .ok (.int ((a ^ n : Nat) : Int))
def F_ball : Fs := fun ds r => ∃ o l f : Nat, 1 ≤ o ∧ o ≤ 32 ∧ l ≤ 60 ∧ f ≤ l ∧ ds = [.int o, .int l, .int f] ∧ r = .ok (.int (ballL o l f))
section
variable {P : Program} {w : World} {K : PySem.W.Frag} {mg : Str → Option Value} {base : Heap} {f : Addr} {fd : FuncData} {C : Addr}
theorem cast_half {f : Nat} (h : 1 ≤ f) : ((f : Int) - 1) / 2 = (((f - 1) / 2 : Nat) : Int) := by omega
theorem nat_div (a b : Nat) : ((a : Int) / (b : Int)) = ((a / b : Nat) : Int) := rfl
theorem near_div {o l f : Nat} (ho : o ≤ 32) (hl : l ≤ 60) (hf : f ≤ 60) (i : Int) : CDivW i (near o l f : Nat) := ⟨by have := near_pos (o := o) (l := l) (f := f); omega, by rw [Int.natAbs_natCast]; exact near_small ho hl hf⟩
theorem sc_lraised : FnScope ["base", "many", "found", "lap"] ["base", "many"] (defScope st_law_raised) := ⟨rfl, rfl, rfl, by decide +kernel, rfl, by decide +kernel, by decide +kernel⟩
theorem ok_lraised (B : Fr mg) (Fn : FnP K "_law_raised" st_law_raised f fd) : FnOk P w K mg base (L2.CX P w) 1 f fd ["base", "many"] (upP K F_lraised) := by
  refine mkP Fn sc_lraised (by rintro _ _ ⟨a, n, _, _, rfl, _⟩; rfl) fun cdv A outer s H E S0 H0 ds r hr hF hx => ?_
  obtain ⟨a, n, h2, h3, rfl, rfl⟩ := hF
  refine b_cons (s_set 2 p_int ?_ sc_lraised.nd)
  refine b_cons (s_forR1 3 (fun i Γ => ∃ e, Γ = [some (.im (.int a)), some (.im (.int n)), some (.im (.int ((a ^ i : Nat) : Int))), e]) (a_cons (p_var 1) a_nil) (by constructor <;> omega) ?_ (fun i Γ hi hI => ?_) (fun Γ hI => ?_) B.range PassesOwn.leaving sc_lraised.nd)
  · exact ⟨none, by rw [Nat.pow_zero]; rfl⟩
  · obtain ⟨e, rfl⟩ := hI
    refine b_one (s_set 2 (p_bin (p_var 2) (p_var 0) (bn_mul64 (.inr ⟨by omega, by omega⟩))) ?_ sc_lraised.nd)
    exact ⟨_, by rw [Nat.pow_succ, Int.natCast_mul]; rfl⟩
  · obtain ⟨e, rfl⟩ := hI
    exact b_one (s_ret (p_var 2) rfl)
theorem sc_ball : FnScope ["order", "length", "away", "at", "found", "part"] ["order", "length", "away"] (defScope st_law_ball) := ⟨rfl, rfl, rfl, by decide +kernel, rfl, by decide +kernel, by decide +kernel⟩
theorem small_div (i : Nat) (h : i ≤ 60) (x : Int) : CDivW x ((i : Int) + 1) := by
  refine ⟨by omega, log2_of_lt (by decide) (Nat.lt_of_le_of_lt (m := 61) (by omega) (by decide +kernel))⟩
theorem ok_ball (B : Fr mg) (Fn : FnP K "_law_ball" st_law_ball f fd) : FnOk P w K mg base (L2.CX P w) 1 f fd ["order", "length", "away"] (upP K F_ball) := by
  refine mkP Fn sc_ball (by rintro _ _ ⟨a, n, _, _, _, _, _, rfl, _⟩; rfl) fun cdv A outer s H E S0 H0 ds r hr hF hx => ?_
  obtain ⟨o, l, f, h1, h2, h3, h4, rfl, rfl⟩ := hF
  have em : (min (f : Int) (l : Int)) = (f : Int) := by omega
  refine b_cons (s_unpack [4, 5] (p_tup (a_cons p_int (a_cons p_int a_nil))) ?_ (hg := pgs_cons (pg_name (i := 4) sc_ball.nd rfl (Or.inl rfl)) (pgs_cons (pg_name (i := 5) sc_ball.nd rfl (Or.inl rfl)) pgs_nil)))
  refine b_cons (s_forR1 (n := (f : Int)) 3 (fun i Γ => i ≤ f ∧ ∃ e, Γ = [some (.im (.int o)), some (.im (.int l)), some (.im (.int f)), e, some (.im (.int (ballL o l i))), some (.im (.int (partL o l i)))]) (a_cons (p_is (p_blt cb_min2 (a_cons (p_var 2) (a_cons (p_var 1) a_nil)) B.min (by decide +kernel)) (by rw [em])) a_nil) (by constructor <;> omega) ?_ (fun i Γ hi hI => ?_) (fun Γ hI => ?_) B.range PassesOwn.leaving sc_ball.nd)
  · exact ⟨Nat.zero_le _, none, rfl⟩
  · obtain ⟨hif, e, rfl⟩ := hI
    have hi2 : i < f := by omega
    have e1 : (partL o l i : Int) * ((l : Int) - (i : Int)) * ((o : Int) - 1) / ((i : Int) + 1) = ((partL o l (i + 1) : Nat) : Int) := by
      show _ = ((partL o l i * (l - i) * (o - 1) / (i + 1) : Nat) : Int)
      rw [Int.natCast_ediv, Int.natCast_mul, Int.natCast_mul, Int.ofNat_sub (by omega), Int.ofNat_sub (by omega)]
      rfl
    refine b_cons (s_set 5 (d := .int (partL o l (i + 1))) (p_is (p_bin (p_bin (p_bin (p_var 5) (p_bin (p_var 1) (p_var 3) bn_sub) (bn_mul64 (.inr ⟨by omega, by omega⟩))) (p_bin (p_var 0) p_int bn_sub) (bn_mul64 (.inr ⟨by omega, by omega⟩))) (p_bin (p_var 3) p_int bn_add) (bn_fdiv (small_div i (by omega) _))) (by rw [e1])) ?_ sc_ball.nd)
    refine b_one (s_set 4 (p_bin (p_var 4) (p_var 5) bn_add) ?_ sc_ball.nd)
    refine ⟨hi2, some (.im (.int i)), ?_⟩
    have e2 : ((ballL o l (i + 1) : Nat) : Int) = (ballL o l i : Int) + (partL o l (i + 1) : Int) := by
      show ((ballL o l i + partL o l (i + 1) : Nat) : Int) = _
      rw [Int.natCast_add]
    rw [e2]
    rfl
  · obtain ⟨hif, e, rfl⟩ := hI
    have hk : (f : Int).toNat = f := by omega
    rw [hk]
    exact b_one (s_ret (p_var 4) rfl)
end
/-! ### the hand of numbers -/
structure Hd where
  cells : List Int
  p : Nat
  g : Int
  x : Int
  m : Int
def hE (h : Hd) : List D := [.lst (h.cells.map .int), .int h.p, .int h.g, .int h.x, .int h.m]
def hInit (ns : List Int) : Hd := ⟨ns.map fun z => (z.natAbs : Int), 0, 0, 83 + 5 * (ns.length : Int), 0⟩
def Hd.load (h : Hd) : Hd := if h.g = 0 ∧ h.p < h.cells.length then
  ⟨h.cells, h.p + 1, if 10 ^ 18 ≤ h.cells.getD h.p 0 then h.cells.getD h.p 0 else h.g, (h.x * 69621 + h.cells.getD h.p 0 * 40692 + 17) % 2147483629, h.m⟩ else h
def mix (x m : Int) : Int :=
  let n1 := ((x + 7919 * m) * 48271) % 2147483647
  let n2 := (n1 * (n1 / 1009 + 69621)) % 2147483647
  (n2 * (n2 / 2003 + 40014)) % 2147483563
def finR (h : Hd) (n : Int) : Int := if 0 < h.g then h.g % n else (mix h.x (h.m + 1) / 16) % n
def finS (h : Hd) (n : Int) : Hd := if 0 < h.g then { h with g := h.g / n } else { h with m := h.m + 1 }
def drawR (h : Hd) (n : Int) : Int := finR h.load n
def drawS (h : Hd) (n : Int) : Hd := finS h.load n
theorem drawR_nn {h : Hd} {n : Int} (hn : 0 < n) : 0 ≤ drawR h n := by
  unfold drawR finR
  split <;> exact Int.emod_nonneg _ (by omega)
theorem drawR_lt {h : Hd} {n : Int} (hn : 0 < n) : drawR h n < n := by
  unfold drawR finR
  split <;> exact Int.emod_lt_of_pos _ hn
def F_hand : Fl := fun ds l => ∃ ns : List Int, ns.length ≤ 63 ∧ ds = [.lst (ns.map .int)] ∧ l = hE (hInit ns)
def F_draw : Fh := fun l ds d l' => ∃ (h : Hd) (n : Int), 0 < n ∧ n ≤ 1000 ∧ l = hE h ∧ ds = [.int n] ∧ d = .int (drawR h n) ∧ l' = hE (drawS h n)
def F_any : Fh := fun l ds d l' => ∃ (h : Hd) (xs : List D), 0 < xs.length ∧ xs.length ≤ 1000 ∧ l = hE h ∧ ds = [.lst xs] ∧ L2.atI xs (drawR h xs.length) = some d ∧ l' = hE (drawS h xs.length)
section
variable {P : Program} {w : World} {K : PySem.W.Frag} {mg : Str → Option Value} {base : Heap} {f : Addr} {fd : FuncData} {C : Addr}
theorem cut63 {l : List D} (h : l.length ≤ 63) : Spr.cutD l none (some 63) = l := by
  unfold Spr.cutD
  rw [HT.sIx_none, show (63 : Int) = ((63 : Nat) : Int) from rfl, HT.sIx_nat, List.drop_zero, Nat.min_eq_right h, Nat.sub_zero, List.take_length]
theorem sc_hand : FnScope ["script", "cells", "cell"] ["script"] (defScope st_law_hand) := ⟨rfl, rfl, rfl, by decide +kernel, rfl, by decide +kernel, by decide +kernel⟩
theorem ok_hand (B : Fr mg) (Fn : FnP K "_law_hand" st_law_hand f fd) : FnOk P w K mg base (L2.CX P w) 1 f fd ["script"] (upN K F_hand) := by
  refine mkN Fn sc_hand (by rintro _ _ ⟨_, _, rfl, _⟩; rfl) fun cdv A outer s H E S0 H0 ds l hr hF => ?_
  obtain ⟨ns, hn, rfl, rfl⟩ := hF
  refine b_cons (s_setLcL (xs := ns) (own := [("cell", 2)]) (j := 2) 1 D.int (fun z => .int (z.natAbs : Int)) (fun _ => true) (p_is (n_p (n_slice (p_var 0) o_none (o_some p_int))) (by rw [cut63 (by simpa using hn)])) (by omega) (blkB_ok (by rfl)) (fun _ _ _ _ _ => pg_name (i := 2) sc_hand.nd rfl (Or.inl rfl)) (fun i hi _ _ _ _ _ => ts_nil) (fun i hi _ _ _ _ _ _ => (p_blt cb_abs (a_cons (p_bty cb_int (a_cons (p_var 2) a_nil) B.int (by decide +kernel)) a_nil) B.abs (by decide +kernel))) (.inr ?_) sc_hand.nd)
  rw [filt_all]
  refine b_one (s_retN' (n_is (n_lst (a_cons (p_var 1) (a_cons p_int (a_cons p_int (a_cons (p_bin p_int (p_bin p_int (p_blt cb_len (a_cons (p_var 1) a_nil) B.len (by decide +kernel)) (bn_mul64 (.inl ⟨by decide, by decide⟩))) bn_add) (a_cons p_int a_nil)))))) ?_) rfl)
  unfold hE hInit
  simp
theorem at_cells {cells : List Int} {p : Nat} (hp : p < cells.length) : L2.atI (cells.map D.int) (p : Int) = some (.int (cells.getD p 0)) := by
  refine atI_nat ?_
  rw [List.getElem?_map, List.getElem?_eq_getElem hp, List.getD_eq_getElem?_getD, List.getElem?_eq_getElem hp]
  rfl
theorem sc_draw : FnScope ["hand", "many", "number", "cell", "digit"] ["hand", "many"] (defScope st_law_draw) := ⟨rfl, rfl, rfl, by decide +kernel, rfl, by decide +kernel, by decide +kernel⟩
theorem md {x j : Int} (h : 0 < j) : 0 ≤ x % j ∧ x % j < j := ⟨Int.emod_nonneg _ (by omega), Int.emod_lt_of_pos _ h⟩
theorem ok_draw (B : Fr mg) (Fn : FnP K "_law_draw" st_law_draw f fd) : FnOk P w K mg base (L2.CX P w) 1 f fd ["hand", "many"] (upH K F_draw) := by
  refine mkH Fn sc_draw (by rintro _ _ _ _ ⟨_, _, _, _, _, rfl, _⟩; rfl) fun cdv A outer s H E S0 H0 a l ds d l' hr hF => ?_
  obtain ⟨h, n, hn0, hn1, rfl, rfl, rfl, rfl⟩ := hF
  have rest : ∀ (h1 : Hd) (e3 : Option Ent), h.load = h1 → Bl (Bx P w K mg base ["hand", "many", "number", "cell", "digit"] "_law_draw" (defScope st_law_draw) f cdv A outer s H E) ⟨S0, H0, [], [(0, .ref a)]⟩ [some (.ow (hE h1)), some (.im (.int n)), none, e3, none] ((defBody st_law_draw).drop 1) (poH (.int (drawR h n)) (hE (drawS h n))) := fun h1 e3 he => by
    unfold drawR drawS
    rw [he]
    refine b_cons (s_if (t_cmp (p_ixO 0 rfl p_int rfl) p_int c_gt) (fun hk => ?_) (fun hk => ?_))
    · have hk : 0 < h1.g := of_decide_eq_true hk
      refine b_cons (s_set 4 (p_bin (p_bty cb_int (a_cons (p_ixO 0 rfl p_int rfl) a_nil) B.int (by decide +kernel)) (p_var 1) (bn_mod hn0)) ?_ sc_draw.nd)
      refine b_cons (s_put 0 rfl (p_bin (p_ixO 0 rfl p_int rfl) (p_var 1) (bn_fdiv ⟨hn0, log2_of_lt (by decide) (Nat.lt_of_le_of_lt (m := 1000) (by omega) (by decide +kernel))⟩)) p_int rfl ?_)
      refine b_one (s_ret (p_var 4) ⟨?_, ?_⟩)
      · show D.int _ = D.int _
        unfold finR
        rw [if_pos hk]
      · unfold finS
        rw [if_pos hk]
        rfl
    · have hk : ¬ 0 < h1.g := of_decide_eq_false hk
      refine b_nil ?_
      refine b_cons (s_put 0 rfl (p_bin (p_ixO 0 rfl p_int rfl) p_int bn_add) p_int rfl ?_)
      refine b_cons (s_set 2 (p_bin (p_bty cb_int (a_cons (p_bin (p_bty cb_int (a_cons (p_bin (p_ixO 0 rfl p_int rfl) (p_bin p_int (p_ixO 0 rfl p_int rfl) (bn_mul64 (.inl ⟨by decide, by decide⟩))) bn_add) a_nil) B.int (by decide +kernel)) p_int (bn_mul64 (.inr ⟨by decide, by decide⟩))) a_nil) B.int (by decide +kernel)) p_int (bn_mod (by decide))) ?_ sc_draw.nd)
      refine b_cons (s_set 2 (p_bin (p_bty cb_int (a_cons (p_bin (p_var 2) (p_bin (p_bin (p_var 2) p_int (bn_fdiv (by refine ⟨?_, ?_⟩ <;> decide +kernel))) p_int bn_add) (bn_mul64 (.inl (by have := md (x := (h1.x + 7919 * (h1.m + 1)) * 48271) (j := 2147483647) (by decide); exact ⟨by omega, by omega⟩)))) a_nil) B.int (by decide +kernel)) p_int (bn_mod (by decide))) ?_ sc_draw.nd)
      refine b_cons (s_set 2 (p_bin (p_bty cb_int (a_cons (p_bin (p_var 2) (p_bin (p_bin (p_var 2) p_int (bn_fdiv (by refine ⟨?_, ?_⟩ <;> decide +kernel))) p_int bn_add) (bn_mul64 (.inl ⟨by have := (md (x := (h1.x + 7919 * (h1.m + 1)) * 48271 % 2147483647 * ((h1.x + 7919 * (h1.m + 1)) * 48271 % 2147483647 / 1009 + 69621)) (j := 2147483647) (by decide)).1; omega, by have := (md (x := (h1.x + 7919 * (h1.m + 1)) * 48271 % 2147483647 * ((h1.x + 7919 * (h1.m + 1)) * 48271 % 2147483647 / 1009 + 69621)) (j := 2147483647) (by decide)).2; omega⟩))) a_nil) B.int (by decide +kernel)) p_int (bn_mod (by decide))) ?_ sc_draw.nd)
      refine b_one (s_ret (p_bin (p_bty cb_int (a_cons (p_bin (p_var 2) p_int (bn_fdiv (by refine ⟨?_, ?_⟩ <;> decide +kernel))) a_nil) B.int (by decide +kernel)) (p_var 1) (bn_mod hn0)) ⟨?_, ?_⟩)
      · show D.int _ = D.int _
        unfold finR
        rw [if_neg hk]
        rfl
      · unfold finS
        rw [if_neg hk]
        rfl
  by_cases hc : h.g = 0 ∧ h.p < h.cells.length
  · obtain ⟨hg, hp⟩ := id hc
    have hl : h.load = ⟨h.cells, h.p + 1, if 10 ^ 18 ≤ h.cells.getD h.p 0 then h.cells.getD h.p 0 else h.g, (h.x * 69621 + h.cells.getD h.p 0 * 40692 + 17) % 2147483629, h.m⟩ := if_pos hc
    refine b_cons (s_if (k := true) (t_is (t_pw (w_and (t_cmp (p_ixO 0 rfl p_int rfl) p_int c_eqI) (fun hk => (w_and1 (t_cmp (p_ixO 0 rfl p_int rfl) (p_blt cb_len (a_cons (p_ixO 0 rfl p_int rfl) a_nil) B.len (by decide +kernel)) c_lt))))) (by simp; omega)) (fun hk => ?_) (fun hk => by cases hk))
    refine b_cons (s_set 3 (d := .int (h.cells.getD h.p 0)) (p_ixL (p_ixO 0 rfl p_int rfl) (p_ixO 0 rfl p_int rfl) ?_) ?_ sc_draw.nd)
    · exact at_cells hp
    refine b_cons (s_put 0 rfl (p_bin (p_ixO 0 rfl p_int rfl) p_int bn_add) p_int rfl ?_)
    refine b_cons (s_put 0 rfl (p_bin (p_bty cb_int (a_cons (p_bin (p_bin (p_bin (p_ixO 0 rfl p_int rfl) p_int (bn_mul64 (.inr ⟨by decide, by decide⟩))) (p_bin (p_var 3) p_int (bn_mul64 (.inr ⟨by decide, by decide⟩))) bn_add) p_int bn_add) a_nil) B.int (by decide +kernel)) p_int (bn_mod (by decide))) p_int rfl ?_)
    refine b_one (s_if (t_cmp (p_var 3) (p_bin p_int p_int (bn_pow (by refine ⟨?_, ?_, ?_⟩ <;> decide +kernel))) c_ge) (fun hk => ?_) (fun hk => ?_))
    · have hk : 10 ^ 18 ≤ h.cells.getD h.p 0 := of_decide_eq_true hk
      refine b_one (s_put 0 rfl (p_var 3) p_int rfl ?_)
      rw [if_pos hk] at hl
      exact rest _ _ hl
    · have hk : ¬ 10 ^ 18 ≤ h.cells.getD h.p 0 := of_decide_eq_false hk
      rw [if_neg hk] at hl
      refine b_nil ?_
      exact rest _ _ hl
  · have hl : h.load = h := if_neg hc
    refine b_cons (s_if (k := false) (t_is (t_pw (w_and (t_cmp (p_ixO 0 rfl p_int rfl) p_int c_eqI) (fun hk => (w_and1 (t_cmp (p_ixO 0 rfl p_int rfl) (p_blt cb_len (a_cons (p_ixO 0 rfl p_int rfl) a_nil) B.len (by decide +kernel)) c_lt))))) (by simp; omega)) (fun hk => by cases hk) (fun hk => ?_))
    refine b_nil ?_
    exact rest _ none hl
end
def ords : List Int := [2, 2, 3, 4, 6, 10, 32]
def thO (h : Hd) : Int := ords.getD (drawR h 7).toNat 0
def thL (h : Hd) (n : Int) : Int := 1 + drawR (drawS h 7) n
def thF (h : Hd) (n : Int) : Int := 1 + drawR (drawS (drawS h 7) n) (thL h n)
def thS (h : Hd) (n : Int) : Hd := drawS (drawS (drawS h 7) n) (thL h n)
def F_three : Fh := fun l ds d l' => ∃ (h : Hd) (n : Int), 1 ≤ n ∧ n ≤ 60 ∧ l = hE h ∧ ds = [.int n] ∧ d = .tup [.int (thO h), .int (thL h n), .int (thF h n)] ∧ l' = hE (thS h n)
def noA : List D := [.tup [.int 1, .int 5, .int 2], .tup [.int 33, .int 5, .int 2], .tup [.int 2, .int 61, .int 2], .tup [.int 2, .int 5, .int 0], .tup [.int 2, .int 5, .int 6], .tup [.non, .int 5, .int 2], .tup [.int 2, .non, .int 2], .tup [.int 2, .int 5, .non]]
def noB : List D := [.tup [.bl true, .int 5, .int 2], .tup [.int 2, .int 0, .int 1], .tup [.str "2", .int 5, .int 2], .tup [.int 2, .int 5, .tup [.int 2]]]
def noL : List D := noA ++ noB
def F_no : Fh := fun l ds d l' => ∃ h : Hd, l = hE h ∧ ds = [] ∧ noL[(drawR h 12).toNat]? = some d ∧ l' = hE (drawS h 12)
theorem atI_draw {xs : List D} {h : Hd} {n : Int} (hn : 0 < n) (hx : (xs.length : Int) = n) : ∃ d, xs[(drawR h n).toNat]? = some d ∧ L2.atI xs (drawR h n) = some d := by
  have h1 := drawR_nn (h := h) hn
  have h2 := drawR_lt (h := h) hn
  have h3 : (drawR h n).toNat < xs.length := by omega
  refine ⟨xs[(drawR h n).toNat], List.getElem?_eq_getElem h3, ?_⟩
  have e : drawR h n = (((drawR h n).toNat : Nat) : Int) := by omega
  have key : L2.atI xs (((drawR h n).toNat : Nat) : Int) = some xs[(drawR h n).toNat] := atI_nat (List.getElem?_eq_getElem h3)
  rw [← e] at key
  exact key
/-- what is drawn is a triple that is told -/
theorem three_go (h : Hd) (n : Int) (h1 : 1 ≤ n) (h2 : n ≤ 60) : ∃ o l f : Nat, (o : Int) ∈ ords ∧ Go o l f ∧ thO h = o ∧ thL h n = l ∧ thF h n = f := by
  have a1 := drawR_nn (h := h) (n := 7) (by decide)
  have a2 := drawR_lt (h := h) (n := 7) (by decide)
  have b1 := drawR_nn (h := drawS h 7) (n := n) (by omega)
  have b2 := drawR_lt (h := drawS h 7) (n := n) (by omega)
  have hL : 1 ≤ thL h n ∧ thL h n ≤ 60 := by unfold thL; omega
  have c1 := drawR_nn (h := drawS (drawS h 7) n) (n := thL h n) (by omega)
  have c2 := drawR_lt (h := drawS (drawS h 7) n) (n := thL h n) (by omega)
  have hF : 1 ≤ thF h n ∧ thF h n ≤ thL h n := by unfold thF; omega
  have hO : thO h ∈ ords ∧ 2 ≤ thO h ∧ thO h ≤ 32 := by
    have key : ∀ i < 7, ords.getD i 0 ∈ ords ∧ 2 ≤ ords.getD i 0 ∧ ords.getD i 0 ≤ 32 := by decide
    exact key _ (by omega)
  refine ⟨(thO h).toNat, (thL h n).toNat, (thF h n).toNat, ?_, ⟨by omega, by omega, by omega, by omega, by omega, by omega⟩, by omega, by omega, by omega⟩
  rw [show (((thO h).toNat : Nat) : Int) = thO h from by omega]
  exact hO.1
/-- none of these is told -/
theorem no_bad : ∀ d ∈ noL, ∃ a b c, d = .tup [a, b, c] ∧ tg3 a b c ∧ gd3 a b c = false := by
  intro d hd
  simp only [noL, noA, noB, List.cons_append, List.nil_append, List.mem_cons, List.not_mem_nil, or_false] at hd
  rcases hd with rfl | rfl | rfl | rfl | rfl | rfl | rfl | rfl | rfl | rfl | rfl | rfl <;> exact ⟨_, _, _, rfl, ⟨rfl, rfl, rfl⟩, rfl⟩
section
variable {P : Program} {w : World} {K : PySem.W.Frag} {mg : Str → Option Value} {base : Heap} {f : Addr} {fd : FuncData} {C : Addr}
theorem sc_any : FnScope ["hand", "some"] ["hand", "some"] (defScope st_law_any) := ⟨rfl, rfl, rfl, by decide +kernel, rfl, by decide +kernel, by decide +kernel⟩
theorem ok_any (B : Fr mg) (Gd : Fo P w K mg base 1 "_law_draw" (upH K F_draw)) (Fn : FnP K "_law_any" st_law_any f fd) : FnOk P w K mg base (L2.CX P w) 2 f fd ["hand", "some"] (upH K F_any) := by
  refine mkH Fn sc_any (by rintro _ _ _ _ ⟨_, _, _, _, _, rfl, _⟩; rfl) fun cdv A outer s H E S0 H0 a l ds d l' hr hF => ?_
  obtain ⟨h, xs, h0, h1, rfl, rfl, hd, rfl⟩ := hF
  exact b_one (s_retE (ev_ixL (ev_p (p_var 1)) (ev_call 0 Gd hr (ea_cons (ev_p (p_blt cb_len (a_cons (p_var 1) a_nil) B.len (by decide +kernel))) ea_nil) rfl ⟨h, _, by omega, by omega, rfl, rfl, rfl, rfl⟩) hd) ⟨rfl, rfl⟩)
theorem sc_three : FnScope ["hand", "most", "order", "length"] ["hand", "most"] (defScope st_law_three) := ⟨rfl, rfl, rfl, by decide +kernel, rfl, by decide +kernel, by decide +kernel⟩
theorem any_ords (h : Hd) : L2.atI (ords.map D.int) (drawR h 7) = some (.int (thO h)) := by
  have a1 := drawR_nn (h := h) (n := 7) (by decide)
  have a2 := drawR_lt (h := h) (n := 7) (by decide)
  have e : drawR h 7 = (((drawR h 7).toNat : Nat) : Int) := by omega
  rw [e]
  refine atI_nat ?_
  have h3 : (drawR h 7).toNat < ords.length := by show _ < 7; omega
  unfold thO
  rw [List.getElem?_map, List.getElem?_eq_getElem h3, List.getD_eq_getElem?_getD, List.getElem?_eq_getElem h3]
  rfl
theorem ok_three (Gd : Fo P w K mg base 1 "_law_draw" (upH K F_draw)) (Ga : Fo P w K mg base 2 "_law_any" (upH K F_any)) (Fn : FnP K "_law_three" st_law_three f fd) : FnOk P w K mg base (L2.CX P w) 3 f fd ["hand", "most"] (upH K F_three) := by
  refine mkH Fn sc_three (by rintro _ _ _ _ ⟨_, _, _, _, _, rfl, _⟩; rfl) fun cdv A outer s H E S0 H0 a l ds d l' hr hF => ?_
  obtain ⟨h, n, h1, h2, rfl, rfl, rfl, rfl⟩ := hF
  have b1 := drawR_nn (h := drawS h 7) (n := n) (by omega)
  have b2 := drawR_lt (h := drawS h 7) (n := n) (by omega)
  have hL : 1 ≤ thL h n ∧ thL h n ≤ 60 := by unfold thL; omega
  refine b_cons (s_parE 2 3 (d1 := .int (thO h)) (d2 := .int (thL h n)) (ea_cons (ev_call 0 Ga hr (ea_cons (ev_p (p_lst (a_cons p_int (a_cons p_int (a_cons p_int (a_cons p_int (a_cons p_int (a_cons p_int (a_cons p_int a_nil))))))))) ea_nil) rfl ⟨h, ords.map D.int, by decide, by decide, rfl, rfl, any_ords h, rfl⟩) (ea_cons (ev_bin (ev_p p_int) (ev_call 0 Gd hr (ea_cons (ev_p (p_var 1)) ea_nil) rfl ⟨drawS h 7, n, by omega, by omega, rfl, rfl, rfl, rfl⟩) bn_add) ea_nil)) ?_ sc_three.nd)
  refine b_one (s_retE (ev_tup (ea_cons (ev_p (p_var 2)) (ea_cons (ev_p (p_var 3)) (ea_cons (ev_bin (ev_p p_int) (ev_call 0 Gd hr (ea_cons (ev_p (p_var 3)) ea_nil) rfl ⟨drawS (drawS h 7) n, thL h n, by omega, by omega, rfl, rfl, rfl, rfl⟩) bn_add) ea_nil)))) ⟨rfl, rfl⟩)
theorem sc_no : FnScope ["hand", "some"] ["hand"] (defScope st_law_no_three) := ⟨rfl, rfl, rfl, by decide +kernel, rfl, by decide +kernel, by decide +kernel⟩
theorem ok_no (Ga : Fo P w K mg base 2 "_law_any" (upH K F_any)) (Fn : FnP K "_law_no_three" st_law_no_three f fd) : FnOk P w K mg base (L2.CX P w) 3 f fd ["hand"] (upH K F_no) := by
  refine mkH Fn sc_no (by rintro _ _ _ _ ⟨_, _, rfl, _⟩; rfl) fun cdv A outer s H E S0 H0 a l ds d l' hr hF => ?_
  obtain ⟨h, rfl, rfl, hd, rfl⟩ := hF
  obtain ⟨d', e1, e2⟩ := atI_draw (xs := noL) (h := h) (n := 12) (by decide) (by decide)
  rw [hd] at e1
  cases e1
  refine b_cons (s_set 1 (d := .tl noA) (n_t (n_lst (a_cons (p_tup (a_cons p_int (a_cons p_int (a_cons p_int a_nil)))) (a_cons (p_tup (a_cons p_int (a_cons p_int (a_cons p_int a_nil)))) (a_cons (p_tup (a_cons p_int (a_cons p_int (a_cons p_int a_nil)))) (a_cons (p_tup (a_cons p_int (a_cons p_int (a_cons p_int a_nil)))) (a_cons (p_tup (a_cons p_int (a_cons p_int (a_cons p_int a_nil)))) (a_cons (p_tup (a_cons p_non (a_cons p_int (a_cons p_int a_nil)))) (a_cons (p_tup (a_cons p_int (a_cons p_non (a_cons p_int a_nil)))) (a_cons (p_tup (a_cons p_int (a_cons p_int (a_cons p_non a_nil)))) a_nil)))))))) (by decide))) ?_ sc_no.nd)
  exact b_one (s_retE (ev_call 0 Ga hr (ea_cons (ev_p (n_p (n_add (m := noB) (p_var 1) (n_t (n_lst (a_cons (p_tup (a_cons p_bl (a_cons p_int (a_cons p_int a_nil)))) (a_cons (p_tup (a_cons p_int (a_cons p_int (a_cons p_int a_nil)))) (a_cons (p_tup (a_cons p_str (a_cons p_int (a_cons p_int a_nil)))) (a_cons (p_tup (a_cons p_int (a_cons p_int (a_cons (p_tup (a_cons p_int a_nil)) a_nil)))) a_nil)))) (by decide))) (by decide)))) ea_nil) rfl ⟨h, noL, by decide, by decide, rfl, rfl, e2, rfl⟩) ⟨rfl, rfl⟩)
end
theorem ceil_div (a b : Int) (hb : 0 < b) : (a + b - 1) / b = -(-a / b) := by
  obtain ⟨q, r, h1, h2, h3⟩ : ∃ q r : Int, a = r + b * q ∧ 0 ≤ r ∧ r < b := ⟨a / b, a % b, (Int.emod_add_mul_ediv a b).symm, Int.emod_nonneg a (by omega), Int.emod_lt_of_pos a hb⟩
  by_cases h0 : r = 0
  · have e2 : a + b - 1 = (b - 1) + b * q := by omega
    have e3 : -a = 0 + b * (-q) := by rw [Int.mul_neg]; omega
    have z1 : (b - 1) / b = 0 := Int.ediv_eq_zero_of_lt (by omega) (by omega)
    rw [e2, e3, Int.add_mul_ediv_left _ _ (by omega), Int.add_mul_ediv_left _ _ (by omega), z1]
    simp
  · have e2 : a + b - 1 = (r - 1) + b * (q + 1) := by rw [Int.mul_add, Int.mul_one]; omega
    have e3 : -a = (b - r) + b * (-q - 1) := by rw [Int.mul_sub, Int.mul_neg, Int.mul_one]; omega
    have z1 : (r - 1) / b = 0 := Int.ediv_eq_zero_of_lt (by omega) (by omega)
    have z2 : (b - r) / b = 0 := Int.ediv_eq_zero_of_lt (by omega) (by omega)
    rw [e2, e3, Int.add_mul_ediv_left _ _ (by omega), Int.add_mul_ediv_left _ _ (by omega), z1, z2]
    omega
theorem ne_ints {X : Cx} {a b : List Int} (hu : X.A.units + 64 < cLine) (h : a = b) (h1 : eqOk (.lst (a.map .int)) = true) (h2 : eqOk (.lst (b.map .int)) = true) : Cm X .NotEq (.lst (a.map .int)) (.lst (b.map .int)) false := by
  have z := c_ne (X := X) hu h1 h2
  rw [deq_ints, decide_eq_true h] at z
  exact z
theorem ne_str {X : Cx} {s : Str} : Cm X .NotEq (.str s) (.str s) false := ⟨_, op_ne, fun S H v w h1 h2 Q q => by
  rw [h1.str_, h2.str_]
  refine ⟨rfl, ?_⟩
  rw [decide_eq_true rfl]
  exact q⟩
theorem room_hu {k : Nat} {A : Around} (r : Room k A) : A.units + 64 < cLine := by have := r.un; omega
end K19

set_option Elab.async false
set_option linter.all false
set_option maxRecDepth 100000
set_option maxHeartbeats 4000000
set_option exponentiation.threshold 10000
namespace K19
open PySem PySem.Spec PyProof.Rows L2 Spr
/-! ### mirrors -/
def cdiv (a b : Int) : Int := -(-a / b)
def ll (o f : Nat) : Nat → Int
  | 0 => 0
  | k + 1 => ll o f k + cdiv f ((o ^ k : Nat) : Int)
def gdL (a b c : D) : Bool := inB a 2 32 && (inB b 0 20 && inB c 1 60)
def F_ll (e : Er) : Fs := fun ds r => (∃ o k f : Nat, 2 ≤ o ∧ o ≤ 32 ∧ k ≤ 20 ∧ 1 ≤ f ∧ f ≤ 60 ∧ ds = [.int o, .int k, .int f] ∧ r = .ok (.int (ll o f k))) ∨ (∃ a b c : D, tg3 a b c ∧ gdL a b c = false ∧ ds = [a, b, c] ∧ r = .error e)
/-- the loop of with_weight: at goes from w - h down to 0 -/
def wwL (l w : Nat) : Nat → Int → Int
  | 0, x => x
  | n + 1, x => wwL l w n (((l : Int) - n) * x / ((w : Int) - n))
def ww (l f w : Nat) : Int := wwL l w (w + 1 - (f + 1) / 2) 1
def F_ww : Fs := fun ds r => ∃ l f w : Nat, l ≤ 60 ∧ w ≤ l ∧ 1 ≤ f ∧ f ≤ 60 ∧ ds = [.int l, .int f, .int w] ∧ r = .ok (.int (ww l f w))
def mbl (o l f : Nat) : Nat → Nat
  | 0 => 0
  | k + 1 => if ll o f (k + 1) ≤ l then k + 1 else mbl o l f k
def F_mlv : Fs := fun ds r => ∃ o l k f : Nat, Go o l f ∧ k ≤ l ∧ ds = [.int o, .int l, .int k, .int f] ∧ r = .ok (.bl (decide ((k : Int) = (l : Int) - f + 1)))
def F_mb : Fs := fun ds r => ∃ o l n f : Nat, Go o l f ∧ 1 ≤ n ∧ n ≤ 10 ^ 40 ∧ ds = [.int o, .int l, .int n, .int f] ∧ r = .ok (.bl (decide (n * near o l ((f - 1) / 2) = o ^ l)))
def F_ml : Fs := fun ds r => ∃ o l k f : Nat, Go o l f ∧ k ≤ 20 ∧ ds = [.int o, .int l, .int k, .int f] ∧ r = .ok (.bl (decide (ll o f k = l)))
def F_llen : Fs := fun ds r => ∃ o k f : Nat, 2 ≤ o ∧ o ≤ 32 ∧ k ≤ 21 ∧ 1 ≤ f ∧ f ≤ 60 ∧ ds = [.int o, .int k, .int f] ∧ r = .ok (.int (ll o f k))
section
variable {P : Program} {w : World} {K : PySem.W.Frag} {mg : Str → Option Value} {base : Heap} {f : Addr} {fd : FuncData} {C : Addr}
theorem pow_div {o k : Nat} (ho : 2 ≤ o) (ho2 : o ≤ 32) (hk : k ≤ 60) (x : Int) : CDivW x ((o ^ k : Nat) : Int) := by
  refine ⟨by have := Nat.pow_pos (n := k) (show 0 < o by omega); omega, ?_⟩
  rw [Int.natAbs_natCast]
  have h1 : o ^ k ≤ 32 ^ 60 := Nat.le_trans (Nat.pow_le_pow_left ho2 k) (Nat.pow_le_pow_right (by decide) hk)
  exact log2_of_lt (by decide) (Nat.lt_of_le_of_lt h1 (by decide +kernel))
theorem sc_ll : FnScope ["order", "free", "far", "turn", "total", "scale"] ["order", "free", "far"] (defScope st_least_length) := ⟨rfl, rfl, rfl, by decide +kernel, rfl, by decide +kernel, by decide +kernel⟩
theorem ok_ll {fI cc cda : Addr} (B : Fr mg) (G : FoP P w K mg base 2 "is_within" F_within) (T : XTxt K mg P "NoNumber" C fI cc cda) (F0 : XFn0 K fI cc cda) (Fn : FnP K "least_length" st_least_length f fd) : FnOk P w K mg base (L2.CX P w) 3 f fd ["order", "free", "far"] (upP K (F_ll (eN C))) := by
  refine mkP Fn sc_ll (by rintro _ _ (⟨_, _, _, _, _, _, _, _, rfl, _⟩ | ⟨_, _, _, _, _, rfl, _⟩) <;> rfl) fun cdv A outer s H E S0 H0 ds r hr hF hx => ?_
  have hT : ∀ (a b c : D), tg3 a b c → Pt (Bx P w K mg base ["order", "free", "far", "turn", "total", "scale"] "least_length" (defScope st_least_length) f cdv A outer s H E) ⟨S0, H0, [], []⟩ (gm0 6 ([a, b, c].map .im)) (match (defBody st_least_length).head? with | some (.If t _ _ _) => t | _ => .Name "x" ⟨0, 0, 0, 0⟩) (!gdL a b c) := fun a b c ⟨ta, tb, tc⟩ => by
    refine t_is (k := !inB a 2 32 || (!inB b 0 20 || !inB c 1 60)) (t_pw (w_or ?_ (fun _ => w_or ?_ (fun _ => w_or1 ?_)))) ?_
    · exact t_not (t_val (p_call G hr (a_cons (p_var 0) (a_cons p_int (a_cons p_int a_nil))) ⟨_, _, _, ta, rfl, rfl⟩))
    · exact t_not (t_val (p_call G hr (a_cons (p_var 1) (a_cons p_int (a_cons p_int a_nil))) ⟨_, _, _, tb, rfl, rfl⟩))
    · exact t_not (t_val (p_call G hr (a_cons (p_var 2) (a_cons p_int (a_cons p_int a_nil))) ⟨_, _, _, tc, rfl, rfl⟩))
    · unfold gdL
      simp [Bool.not_and]
  rcases hF with ⟨o, k, f, h1, h2, h3, h4, h5, rfl, rfl⟩ | ⟨a, b, c, tg, hb, rfl, rfl⟩
  · have hg : gdL (.int o) (.int k) (.int f) = true := by unfold gdL inB; simp; omega
    refine b_cons (s_if (k := false) (t_is (hT _ _ _ ⟨rfl, rfl, rfl⟩) (by rw [hg]; rfl)) (fun hk => by cases hk) (fun hk => ?_))
    refine b_nil ?_
    refine b_cons (s_unpack [4, 5] (p_tup (a_cons p_int (a_cons p_int a_nil))) ?_ (hg := pgs_cons (pg_name (i := 4) sc_ll.nd rfl (Or.inl rfl)) (pgs_cons (pg_name (i := 5) sc_ll.nd rfl (Or.inl rfl)) pgs_nil)))
    refine b_cons (s_forR1 3 (fun i Γ => i ≤ k ∧ ∃ e, Γ = [some (.im (.int o)), some (.im (.int k)), some (.im (.int f)), e, some (.im (.int (ll o f i))), some (.im (.int ((o ^ i : Nat) : Int)))]) (a_cons (p_var 1) a_nil) (by constructor <;> omega) ?_ (fun i Γ hi hI => ?_) (fun Γ hI => ?_) B.range PassesOwn.leaving sc_ll.nd)
    · exact ⟨Nat.zero_le _, none, rfl⟩
    · obtain ⟨hik, e, rfl⟩ := hI
      refine b_cons (s_augI 4 iop_add rfl (p_neg (p_bin (p_neg (p_var 2)) (p_var 5) (bn_fdiv (pow_div h1 h2 (by omega) _)))) ?_ sc_ll.nd)
      refine b_one (s_set 5 (p_bin (p_var 5) (p_var 0) (bn_mul64 (.inr ⟨by omega, by omega⟩))) ?_ sc_ll.nd)
      exact ⟨by omega, some (.im (.int i)), by rw [Nat.pow_succ, Int.natCast_mul]; rfl⟩
    · obtain ⟨hik, e, rfl⟩ := hI
      have hk : (k : Int).toNat = k := by omega
      rw [hk]
      exact b_one (s_ret (p_var 4) rfl)
  · refine b_cons (s_if (k := true) (t_is (hT _ _ _ tg) (by rw [hb]; rfl)) (fun hk => ?_) (fun hk => by cases hk))
    exact b_one (s_raise0 hx T F0 hr rfl)
theorem chk_good {j : Nat} {X : Cx} {c : Cn} {Γ : Gm} {x : Str} {o l f : Nat} (g : Go o l f) : ∃ r : Except Er D, r = .ok .non ∧ F_check (eN C) [.int o, .int l, .int f] r := ⟨_, rfl, _, _, _, ⟨rfl, rfl, rfl⟩, rfl, by rw [g.gd]; rfl⟩
theorem sc_mlv : FnScope ["order", "length", "free", "far"] ["order", "length", "free", "far"] (defScope st_meets_leaving) := ⟨rfl, rfl, rfl, by decide +kernel, rfl, by decide +kernel, by decide +kernel⟩
theorem ok_mlv (Gw : FoP P w K mg base 2 "is_within" F_within) (Gc : FoP P w K mg base 3 "check_told" (F_check (eN C))) (Fn : FnP K "meets_leaving" st_meets_leaving f fd) : FnOk P w K mg base (L2.CX P w) 4 f fd ["order", "length", "free", "far"] (upP K F_mlv) := by
  refine mkP Fn sc_mlv (by rintro _ _ ⟨_, _, _, _, _, _, rfl, _⟩; rfl) fun cdv A outer s H E S0 H0 ds r hr hF hx => ?_
  obtain ⟨o, l, k, f, g, hk, rfl, rfl⟩ := hF
  refine b_cons (s_callX hx Gc hr (a_cons (p_var 0) (a_cons (p_var 1) (a_cons (p_var 3) a_nil))) ⟨_, _, _, ⟨rfl, rfl, rfl⟩, rfl, rfl⟩ (fun d hd => ?_) (fun e0 he => by rw [g.gd] at he; cases he) (hs2 := by rfl))
  refine b_cons (s_if (k := false) (t_is (t_not (t_val (p_call Gw hr (a_cons (p_var 2) (a_cons p_int (a_cons (p_var 1) a_nil))) ⟨_, _, _, rfl, rfl, rfl⟩))) (by simp [inB]; omega)) (fun hk => by cases hk) (fun hk => ?_))
  refine b_nil ?_
  exact b_one (s_ret (p_cmp (p_var 2) (p_bin (p_bin (p_var 1) (p_var 3) bn_sub) p_int bn_add) c_eqI) rfl)
theorem sc_mb : FnScope ["order", "length", "rows", "far"] ["order", "length", "rows", "far"] (defScope st_meets_balls) := ⟨rfl, rfl, rfl, by decide +kernel, rfl, by decide +kernel, by decide +kernel⟩
theorem mulw_near {o l f n : Nat} (ho : o ≤ 32) (hl : l ≤ 60) (hf : f ≤ 60) (hn : n ≤ 10 ^ 40) : CMulW (n : Int) (near o l f : Nat) := by
  unfold CMulW
  rw [Int.natAbs_natCast, Int.natAbs_natCast]
  have h1 := near_small ho hl hf
  have h2 : n.log2 < 9000 := log2_of_lt (by decide) (Nat.lt_of_le_of_lt hn (by decide +kernel))
  omega
theorem ok_mb (Gw : FoP P w K mg base 2 "is_within" F_within) (Gc : FoP P w K mg base 3 "check_told" (F_check (eN C))) (Gr : FoP P w K mg base 1 "raised" F_raised) (Gn : FoP P w K mg base 2 "near_of" F_near) (Fn : FnP K "meets_balls" st_meets_balls f fd) : FnOk P w K mg base (L2.CX P w) 4 f fd ["order", "length", "rows", "far"] (upP K F_mb) := by
  refine mkP Fn sc_mb (by rintro _ _ ⟨_, _, _, _, _, _, _, rfl, _⟩; rfl) fun cdv A outer s H E S0 H0 ds r hr hF hx => ?_
  obtain ⟨o, l, n, f, g, hn1, hn2, rfl, rfl⟩ := hF
  refine b_cons (s_callX hx Gc hr (a_cons (p_var 0) (a_cons (p_var 1) (a_cons (p_var 3) a_nil))) ⟨_, _, _, ⟨rfl, rfl, rfl⟩, rfl, rfl⟩ (fun d hd => ?_) (fun e0 he => by rw [g.gd] at he; cases he) (hs2 := by rfl))
  obtain ⟨h1, h2, h3, h4, h5, h6⟩ := g
  refine b_cons (s_if (k := false) (t_is (t_not (t_val (p_call Gw hr (a_cons (p_var 2) (a_cons p_int (a_cons (p_bin p_int p_int (bn_pow (by refine ⟨?_, ?_, ?_⟩ <;> decide +kernel))) a_nil))) ⟨_, _, _, rfl, rfl, rfl⟩))) (by
    have e : (10 : Int) ^ (40 : Int).toNat = ((10 ^ 40 : Nat) : Int) := by decide +kernel
    rw [e]
    show (!(decide ((1 : Int) ≤ (n : Int)) && decide ((n : Int) ≤ ((10 ^ 40 : Nat) : Int)))) = false
    rw [decide_eq_true (show (1 : Int) ≤ (n : Int) by omega), decide_eq_true (show (n : Int) ≤ ((10 ^ 40 : Nat) : Int) from Int.ofNat_le.mpr hn2)]
    rfl)) (fun hk => by cases hk) (fun hk => ?_))
  refine b_nil ?_
  refine b_one (s_ret (p_cmp (p_bin (p_var 2) (p_call Gn hr (a_cons (p_var 0) (a_cons (p_var 1) (a_cons (p_bin (p_bin (p_var 3) p_int bn_sub) p_int (bn_fdiv (by refine ⟨?_, ?_⟩ <;> decide +kernel))) a_nil))) ⟨o, l, (f - 1) / 2, by omega, by omega, by omega, by omega, by rw [cast_half h5], rfl⟩) (bn_mul (mulw_near h2 h4 (by omega) hn2))) (p_call Gr hr (a_cons (p_var 0) (a_cons (p_var 1) a_nil)) ⟨o, l, by omega, by omega, by omega, rfl, rfl⟩) c_eqI) ?_)
  show Except.ok (D.bl _) = Except.ok (D.bl _)
  congr 2
  rw [← Int.natCast_pow, ← Int.natCast_mul]
  exact decide_eq_decide.mpr Int.natCast_inj.symm
theorem sc_ml : FnScope ["order", "length", "free", "far"] ["order", "length", "free", "far"] (defScope st_meets_length) := ⟨rfl, rfl, rfl, by decide +kernel, rfl, by decide +kernel, by decide +kernel⟩
theorem ok_ml (Gw : FoP P w K mg base 2 "is_within" F_within) (Gc : FoP P w K mg base 3 "check_told" (F_check (eN C))) (Gl : FoP P w K mg base 3 "least_length" (F_ll (eN C))) (Fn : FnP K "meets_length" st_meets_length f fd) : FnOk P w K mg base (L2.CX P w) 4 f fd ["order", "length", "free", "far"] (upP K F_ml) := by
  refine mkP Fn sc_ml (by rintro _ _ ⟨_, _, _, _, _, _, rfl, _⟩; rfl) fun cdv A outer s H E S0 H0 ds r hr hF hx => ?_
  obtain ⟨o, l, k, f, g, hk0, rfl, rfl⟩ := hF
  refine b_cons (s_callX hx Gc hr (a_cons (p_var 0) (a_cons (p_var 1) (a_cons (p_var 3) a_nil))) ⟨_, _, _, ⟨rfl, rfl, rfl⟩, rfl, rfl⟩ (fun d hd => ?_) (fun e0 he => by rw [g.gd] at he; cases he) (hs2 := by rfl))
  obtain ⟨h1, h2, h3, h4, h5, h6⟩ := g
  refine b_cons (s_if (k := false) (t_is (t_not (t_val (p_call Gw hr (a_cons (p_var 2) (a_cons p_int (a_cons p_int a_nil))) ⟨_, _, _, rfl, rfl, rfl⟩))) (by simp [inB]; omega)) (fun hk => by cases hk) (fun hk => ?_))
  refine b_nil ?_
  exact b_one (s_ret (p_cmp (p_call Gl hr (a_cons (p_var 0) (a_cons (p_var 2) (a_cons (p_var 3) a_nil))) (.inl ⟨o, k, f, h1, h2, hk0, h5, by omega, rfl, rfl⟩)) (p_var 1) c_eqI) rfl)
end
end K19

set_option Elab.async false
set_option linter.all false
set_option maxRecDepth 100000
set_option maxHeartbeats 4000000
set_option exponentiation.threshold 10000
namespace K19
open PySem PySem.Spec PyProof.Rows L2 Spr
section
variable {P : Program} {w : World} {K : PySem.W.Frag} {mg : Str → Option Value} {base : Heap} {f : Addr} {fd : FuncData} {C : Addr}
theorem small_den {l : Nat} (h1 : 1 ≤ l) (h2 : l ≤ 60) (x : Int) {y : Int} (e : y = l) : CDivW x y := by
  subst e
  exact ⟨by omega, log2_of_lt (by decide) (Nat.lt_of_le_of_lt (m := 60) (by omega) (by decide +kernel))⟩
theorem half_c (f : Nat) : ((f : Int) + 1) / 2 = (((f + 1) / 2 : Nat) : Int) := by omega
theorem sc_ww : FnScope ["length", "far", "weight", "at", "half", "found"] ["length", "far", "weight"] (defScope st_with_weight) := ⟨rfl, rfl, rfl, by decide +kernel, rfl, by decide +kernel, by decide +kernel⟩
theorem ok_ww (B : Fr mg) (Gw : FoP P w K mg base 2 "is_within" F_within) (Fn : FnP K "with_weight" st_with_weight f fd) : FnOk P w K mg base (L2.CX P w) 3 f fd ["length", "far", "weight"] (upP K F_ww) := by
  refine mkP Fn sc_ww (by rintro _ _ ⟨_, _, _, _, _, _, _, rfl, _⟩; rfl) fun cdv A outer s H E S0 H0 ds r hr hF hx => ?_
  obtain ⟨l, f, v, h1, h2, h3, h4, rfl, rfl⟩ := hF
  refine b_cons (s_if (k := false) ?_ (fun hk => by cases hk) (fun hk => ?_))
  · refine t_pw (w_or (k := false) (k' := false) ?_ (fun _ => w_or (k := false) (k' := false) ?_ (fun _ => w_or1 ?_)))
    · exact t_is (t_not (t_val (p_call Gw hr (a_cons (p_var 0) (a_cons p_int (a_cons p_int a_nil))) ⟨_, _, _, rfl, rfl, rfl⟩))) (by simp [inB]; omega)
    · exact t_is (t_not (t_val (p_call Gw hr (a_cons (p_var 2) (a_cons p_int (a_cons (p_var 0) a_nil))) ⟨_, _, _, rfl, rfl, rfl⟩))) (by simp [inB]; omega)
    · exact t_is (t_not (t_val (p_call Gw hr (a_cons (p_var 1) (a_cons p_int (a_cons p_int a_nil))) ⟨_, _, _, rfl, rfl, rfl⟩))) (by simp [inB]; omega)
  refine b_nil ?_
  refine b_cons (s_par 4 5 (d1 := .int ((f + 1) / 2 : Nat)) (a_cons (p_is (p_bin (p_bin (p_var 1) p_int bn_add) p_int (bn_fdiv (by refine ⟨?_, ?_⟩ <;> decide +kernel))) (congrArg D.int (half_c f))) (a_cons p_int a_nil)) ?_ sc_ww.nd)
  refine b_cons (s_forR3 (lo := (v : Int) - ((f + 1) / 2 : Nat)) (hi := -1) (st := -1) (n := v + 1 - (f + 1) / 2) 3 (fun i Γ => i ≤ v + 1 - (f + 1) / 2 ∧ ∃ e y, wwL l v (v + 1 - (f + 1) / 2 - i) y = ww l f v ∧ Γ = [some (.im (.int l)), some (.im (.int f)), some (.im (.int v)), e, some (.im (.int ((f + 1) / 2 : Nat))), some (.im (.int y))]) (a_cons (p_bin (p_var 2) (p_var 4) bn_sub) (a_cons (p_neg p_int) (a_cons (p_neg p_int) a_nil))) ?_ ⟨Nat.zero_le _, none, 1, rfl, rfl⟩ (fun i Γ hi hI => ?_) (fun Γ hI => ?_) B.range PassesOwn.leaving sc_ww.nd)
  · have z := RgC.neg (i := (v : Int) - ((f + 1) / 2 : Nat)) (j := -1) (by omega) (by omega) (by omega) (by omega)
    rw [show ((v : Int) - ((f + 1) / 2 : Nat) - -1).toNat = v + 1 - (f + 1) / 2 from by omega] at z
    exact z
  · obtain ⟨hi2, e, y, hy, rfl⟩ := hI
    have ea : (v : Int) - ((f + 1) / 2 : Nat) + (i : Int) * -1 = ((v - (f + 1) / 2 - i : Nat) : Int) := by omega
    refine b_one (s_set 5 (p_bin (p_bin (p_bin (p_var 0) (p_var 3) bn_sub) (p_var 5) (bn_mul64 (.inl ⟨by omega, by omega⟩))) (p_bin (p_var 2) (p_var 3) bn_sub) (bn_fdiv (small_den (l := v - (v - (f + 1) / 2 - i)) (by omega) (by omega) _ (by omega)))) ?_ sc_ww.nd)
    refine ⟨by omega, some (.im (.int ((v : Int) - ((f + 1) / 2 : Nat) + (i : Int) * -1))), _, ?_, rfl⟩
    rw [ea, ← hy, show v + 1 - (f + 1) / 2 - i = (v + 1 - (f + 1) / 2 - (i + 1)) + 1 from by omega]
    show wwL l v (v + 1 - (f + 1) / 2 - (i + 1)) _ = wwL l v (v + 1 - (f + 1) / 2 - (i + 1)) _
    rw [show v - (f + 1) / 2 - i = v + 1 - (f + 1) / 2 - (i + 1) from by omega]
  · obtain ⟨hi2, e, y, hy, rfl⟩ := hI
    rw [Nat.sub_self] at hy
    refine b_one (s_ret (d := .int (ww l f v)) (p_if (t_cmp (p_var 2) (p_var 4) c_ge) (fun hk => p_is (p_var 5) (congrArg D.int hy)) (fun hk => p_is p_int ?_)) rfl)
    have hk := of_decide_eq_false hk
    unfold ww
    rw [show v + 1 - (f + 1) / 2 = 0 from by omega]
    rfl
theorem sc_lww : FnScope ["length", "away", "heft", "j", "h", "found"] ["length", "away", "heft"] (defScope st_law_with_weight) := ⟨rfl, rfl, rfl, by decide +kernel, rfl, by decide +kernel, by decide +kernel⟩
theorem ok_lww (B : Fr mg) (Fn : FnP K "_law_with_weight" st_law_with_weight f fd) : FnOk P w K mg base (L2.CX P w) 1 f fd ["length", "away", "heft"] (upP K F_ww) := by
  refine mkP Fn sc_lww (by rintro _ _ ⟨_, _, _, _, _, _, _, rfl, _⟩; rfl) fun cdv A outer s H E S0 H0 ds r hr hF hx => ?_
  obtain ⟨l, f, v, h1, h2, h3, h4, rfl, rfl⟩ := hF
  refine b_cons (s_par 4 5 (d1 := .int ((f + 1) / 2 : Nat)) (a_cons (p_is (p_bin (p_bin (p_var 1) p_int bn_add) p_int (bn_fdiv (by refine ⟨?_, ?_⟩ <;> decide +kernel))) (congrArg D.int (half_c f))) (a_cons p_int a_nil)) ?_ sc_lww.nd)
  refine b_cons (s_forR3 (lo := (v : Int) - ((f + 1) / 2 : Nat)) (hi := -1) (st := -1) (n := v + 1 - (f + 1) / 2) 3 (fun i Γ => i ≤ v + 1 - (f + 1) / 2 ∧ ∃ e y, wwL l v (v + 1 - (f + 1) / 2 - i) y = ww l f v ∧ Γ = [some (.im (.int l)), some (.im (.int f)), some (.im (.int v)), e, some (.im (.int ((f + 1) / 2 : Nat))), some (.im (.int y))]) (a_cons (p_bin (p_var 2) (p_var 4) bn_sub) (a_cons (p_neg p_int) (a_cons (p_neg p_int) a_nil))) ?_ ⟨Nat.zero_le _, none, 1, rfl, rfl⟩ (fun i Γ hi hI => ?_) (fun Γ hI => ?_) B.range PassesOwn.leaving sc_lww.nd)
  · have z := RgC.neg (i := (v : Int) - ((f + 1) / 2 : Nat)) (j := -1) (by omega) (by omega) (by omega) (by omega)
    rw [show ((v : Int) - ((f + 1) / 2 : Nat) - -1).toNat = v + 1 - (f + 1) / 2 from by omega] at z
    exact z
  · obtain ⟨hi2, e, y, hy, rfl⟩ := hI
    have ea : (v : Int) - ((f + 1) / 2 : Nat) + (i : Int) * -1 = ((v - (f + 1) / 2 - i : Nat) : Int) := by omega
    refine b_one (s_set 5 (p_bin (p_bin (p_bin (p_var 0) (p_var 3) bn_sub) (p_var 5) (bn_mul64 (.inl ⟨by omega, by omega⟩))) (p_bin (p_var 2) (p_var 3) bn_sub) (bn_fdiv (small_den (l := v - (v - (f + 1) / 2 - i)) (by omega) (by omega) _ (by omega)))) ?_ sc_lww.nd)
    refine ⟨by omega, some (.im (.int ((v : Int) - ((f + 1) / 2 : Nat) + (i : Int) * -1))), _, ?_, rfl⟩
    rw [ea, ← hy, show v + 1 - (f + 1) / 2 - i = (v + 1 - (f + 1) / 2 - (i + 1)) + 1 from by omega]
    show wwL l v (v + 1 - (f + 1) / 2 - (i + 1)) _ = wwL l v (v + 1 - (f + 1) / 2 - (i + 1)) _
    rw [show v - (f + 1) / 2 - i = v + 1 - (f + 1) / 2 - (i + 1) from by omega]
  · obtain ⟨hi2, e, y, hy, rfl⟩ := hI
    rw [Nat.sub_self] at hy
    exact b_one (s_ret (d := .int (ww l f v)) (p_is (p_var 5) (congrArg D.int hy)) rfl)
theorem sc_mbl : FnScope ["order", "length", "far", "best", "free"] ["order", "length", "far"] (defScope st_most_by_length) := ⟨rfl, rfl, rfl, by decide +kernel, rfl, by decide +kernel, by decide +kernel⟩
theorem ok_mbl (B : Fr mg) (Gc : FoP P w K mg base 3 "check_told" (F_check (eN C))) (Gl : FoP P w K mg base 3 "least_length" (F_ll (eN C))) (Fn : FnP K "most_by_length" st_most_by_length f fd) : FnOk P w K mg base (L2.CX P w) 4 f fd ["order", "length", "far"] (upP K (F_by (eN C) fun o l f => .int (mbl o l f 20))) := by
  refine mkP Fn sc_mbl (fun ds r h => h.len) fun cdv A outer s H E S0 H0 ds r hr hF hx => ?_
  rcases hF with ⟨o, l, f, g, rfl, rfl⟩ | ⟨a, b, c, tg, hb, rfl, rfl⟩
  · refine b_cons (s_callX hx Gc hr (a_cons (p_var 0) (a_cons (p_var 1) (a_cons (p_var 2) a_nil))) ⟨_, _, _, ⟨rfl, rfl, rfl⟩, rfl, rfl⟩ (fun d hd => ?_) (fun e0 he => by rw [g.gd] at he; cases he) (hs2 := by rfl))
    obtain ⟨h1, h2, h3, h4, h5, h6⟩ := g
    refine b_cons (s_set 3 p_int ?_ sc_mbl.nd)
    refine b_cons (s_forR2 (lo := 1) (hi := 21) 4 (fun i Γ => i ≤ 20 ∧ ∃ e, Γ = [some (.im (.int o)), some (.im (.int l)), some (.im (.int f)), some (.im (.int (mbl o l f i))), e]) (a_cons p_int (a_cons p_int a_nil)) (by constructor <;> decide) (by constructor <;> decide) ⟨by decide, none, rfl⟩ (fun i Γ hi hI => ?_) (fun Γ hI => ?_) B.range PassesOwn.leaving sc_mbl.nd)
    · obtain ⟨hi2, e, rfl⟩ := hI
      have ei : (1 : Int) + (i : Int) = ((i + 1 : Nat) : Int) := by omega
      have hi3 : i + 1 ≤ 20 := by omega
      refine b_one (s_if (t_cmp (p_call Gl hr (a_cons (p_var 0) (a_cons (p_var 4) (a_cons (p_var 2) a_nil))) (.inl ⟨o, i + 1, f, h1, h2, hi3, h5, by omega, by rw [← ei], rfl⟩)) (p_var 1) c_le) (fun hk => ?_) (fun hk => ?_))
      · have hk := of_decide_eq_true hk
        refine b_one (s_set 3 (p_var 4) ?_ sc_mbl.nd)
        refine ⟨hi3, some (.im (.int (1 + (i : Int)))), ?_⟩
        have e1 : mbl o l f (i + 1) = i + 1 := if_pos hk
        rw [e1, ← ei]
        rfl
      · have hk := of_decide_eq_false hk
        refine b_nil ⟨hi3, some (.im (.int (1 + (i : Int)))), ?_⟩
        have e1 : mbl o l f (i + 1) = mbl o l f i := if_neg hk
        rw [e1]
        rfl
    · obtain ⟨hi2, e, rfl⟩ := hI
      exact b_one (s_ret (p_var 3) rfl)
  · exact b_cons (s_callX hx Gc hr (a_cons (p_var 0) (a_cons (p_var 1) (a_cons (p_var 2) a_nil))) ⟨_, _, _, tg, rfl, rfl⟩ (fun d hd => by rw [hb] at hd; cases hd) (fun e0 he => by rw [hb] at he; cases he; rfl) (hs2 := by rfl))
theorem sc_llen : FnScope ["order", "free_many", "away", "found", "k", "scale_now"] ["order", "free_many", "away"] (defScope st_law_length) := ⟨rfl, rfl, rfl, by decide +kernel, rfl, by decide +kernel, by decide +kernel⟩
theorem ok_llen (B : Fr mg) (Gr : FoP P w K mg base 1 "_law_raised" F_lraised) (Fn : FnP K "_law_length" st_law_length f fd) : FnOk P w K mg base (L2.CX P w) 2 f fd ["order", "free_many", "away"] (upP K F_llen) := by
  refine mkP Fn sc_llen (by rintro _ _ ⟨_, _, _, _, _, _, _, _, rfl, _⟩; rfl) fun cdv A outer s H E S0 H0 ds r hr hF hx => ?_
  obtain ⟨o, k, f, h1, h2, h3, h4, h5, rfl, rfl⟩ := hF
  refine b_cons (s_set 3 p_int ?_ sc_llen.nd)
  refine b_cons (s_forR1 4 (fun i Γ => i ≤ k ∧ ∃ e1 e2, Γ = [some (.im (.int o)), some (.im (.int k)), some (.im (.int f)), some (.im (.int (ll o f i))), e1, e2]) (a_cons (p_var 1) a_nil) (by constructor <;> omega) ⟨Nat.zero_le _, none, none, rfl⟩ (fun i Γ hi hI => ?_) (fun Γ hI => ?_) B.range PassesOwn.leaving sc_llen.nd)
  · obtain ⟨hik, e1, e2, rfl⟩ := hI
    refine b_cons (s_set 5 (p_call Gr hr (a_cons (p_var 0) (a_cons (p_var 4) a_nil)) ⟨o, i, h2, by omega, rfl, rfl⟩) ?_ sc_llen.nd)
    have hd := pow_div h1 h2 (show i ≤ 60 by omega) ((f : Int) + ((o ^ i : Nat) : Int) - 1)
    refine b_one (s_set 3 (d := .int (ll o f (i + 1))) (p_is (p_bin (p_var 3) (p_bin (p_bin (p_bin (p_var 2) (p_var 5) bn_add) p_int bn_sub) (p_var 5) (bn_fdiv hd)) bn_add) ?_) ?_ sc_llen.nd)
    · show D.int _ = D.int (ll o f i + cdiv f ((o ^ i : Nat) : Int))
      rw [ceil_div _ _ hd.1]
      rfl
    · exact ⟨by omega, some (.im (.int i)), _, rfl⟩
  · obtain ⟨hik, e1, e2, rfl⟩ := hI
    have hk : (k : Int).toNat = k := by omega
    rw [hk]
    exact b_one (s_ret (p_var 3) rfl)
end
end K19

set_option Elab.async false
set_option linter.all false
set_option maxRecDepth 100000
set_option maxHeartbeats 4000000
set_option exponentiation.threshold 10000
namespace K19
open PySem PySem.Spec PyProof.Rows L2 Spr
/-! ### balls that part all rows -/
def okJ (o n j : Nat) : Bool := decide (o ^ n % near o n j = 0)
def entJ (o n j : Nat) : List Int := [n, 2 * j + 1, ((o ^ n / near o n j : Nat) : Int)]
def rowP (o n j : Nat) : List (List Int) := ((List.range j).filter (okJ o n)).map (entJ o n)
def bn (o : Nat) : Nat → List (List Int)
  | 0 => []
  | m + 1 => bn o m ++ rowP o (m + 1) ((m + 2) / 2)
theorem rowP_succ (o n j : Nat) : rowP o n (j + 1) = rowP o n j ++ if okJ o n j = true then [entJ o n j] else [] := by
  unfold rowP
  rw [List.range_succ, List.filter_append, List.map_append]
  congr 1
  by_cases h : okJ o n j = true
  · rw [if_pos h, List.filter_cons, if_pos h]; rfl
  · rw [if_neg h, List.filter_cons, if_neg h]; rfl
theorem rowP_len (o n j : Nat) : (rowP o n j).length ≤ j := by
  unfold rowP
  rw [List.length_map]
  exact Nat.le_trans (List.length_filter_le _ _) (by simp)
theorem bn_len (o : Nat) : ∀ m, m ≤ 40 → (bn o m).length ≤ m * 21
  | 0, _ => Nat.zero_le _
  | m + 1, h => by
    have h1 := bn_len o m (by omega)
    have h2 := rowP_len o (m + 1) ((m + 2) / 2)
    show (bn o m ++ rowP o (m + 1) ((m + 2) / 2)).length ≤ _
    rw [List.length_append]
    omega
def gdB (a b : D) : Bool := inB a 2 32 && inB b 1 40
def F_bn (e : Er) : Fs := fun ds r => (∃ o m : Nat, 2 ≤ o ∧ o ≤ 32 ∧ 1 ≤ m ∧ m ≤ 40 ∧ ds = [.int o, .int m] ∧ r = .ok (.lst ((bn o m).map tupD))) ∨ (∃ a b : D, tyGood a = true ∧ tyGood b = true ∧ gdB a b = false ∧ ds = [a, b] ∧ r = .error e)
section
variable {P : Program} {w : World} {K : PySem.W.Frag} {mg : Str → Option Value} {base : Heap} {f : Addr} {fd : FuncData} {C : Addr}
theorem sc_bn : FnScope ["order", "most", "found", "length", "far", "ball"] ["order", "most"] (defScope st_balls_numbers) := ⟨rfl, rfl, rfl, by decide +kernel, rfl, by decide +kernel, by decide +kernel⟩
theorem ok_bn {fI cc cda : Addr} (B : Fr mg) (Gw : FoP P w K mg base 2 "is_within" F_within) (Gr : FoP P w K mg base 1 "raised" F_raised) (Gn : FoP P w K mg base 2 "near_of" F_near) (T : XTxt K mg P "NoNumber" C fI cc cda) (F0 : XFn0 K fI cc cda) (Fn : FnP K "balls_numbers" st_balls_numbers f fd) : FnOk P w K mg base (L2.CX P w) 3 f fd ["order", "most"] (upP K (F_bn (eN C))) := by
  refine mkP Fn sc_bn (by rintro _ _ (⟨_, _, _, _, _, _, rfl, _⟩ | ⟨_, _, _, _, _, rfl, _⟩) <;> rfl) fun cdv A outer s H E S0 H0 ds r hr hF hx => ?_
  have hT : ∀ (a b : D), tyGood a = true → tyGood b = true → Pt (Bx P w K mg base ["order", "most", "found", "length", "far", "ball"] "balls_numbers" (defScope st_balls_numbers) f cdv A outer s H E) ⟨S0, H0, [], []⟩ (gm0 6 ([a, b].map .im)) (match (defBody st_balls_numbers).head? with | some (.If t _ _ _) => t | _ => .Name "x" ⟨0, 0, 0, 0⟩) (!gdB a b) := fun a b ta tb => by
    refine t_is (k := !inB a 2 32 || !inB b 1 40) (t_pw (w_or ?_ (fun _ => w_or1 ?_))) ?_
    · exact t_not (t_val (p_call Gw hr (a_cons (p_var 0) (a_cons p_int (a_cons p_int a_nil))) ⟨_, _, _, ta, rfl, rfl⟩))
    · exact t_not (t_val (p_call Gw hr (a_cons (p_var 1) (a_cons p_int (a_cons p_int a_nil))) ⟨_, _, _, tb, rfl, rfl⟩))
    · unfold gdB
      simp [Bool.not_and]
  rcases hF with ⟨o, m, h1, h2, h3, h4, rfl, rfl⟩ | ⟨a, b, ta, tb, hb, rfl, rfl⟩
  · have hg : gdB (.int o) (.int m) = true := by unfold gdB inB; simp; omega
    refine b_cons (s_if (k := false) (t_is (hT _ _ rfl rfl) (by rw [hg]; rfl)) (fun hk => by cases hk) (fun hk => ?_))
    refine b_nil ?_
    refine b_cons (s_setO 2 (n_lst a_nil) ?_ sc_bn.nd)
    refine b_cons (s_forR2 (lo := 1) (hi := (m : Int) + 1) 3 (fun i Γ => i ≤ m ∧ ∃ e1 e2 e3, Γ = [some (.im (.int o)), some (.im (.int m)), some (.ow ((bn o i).map tupD)), e1, e2, e3]) (a_cons p_int (a_cons (p_bin (p_var 1) p_int bn_add) a_nil)) (by constructor <;> decide) (by constructor <;> omega) ⟨Nat.zero_le _, none, none, none, rfl⟩ (fun i Γ hi hI => ?_) (fun Γ hI => ?_) B.range PassesOwn.leaving sc_bn.nd)
    · obtain ⟨him, e1, e2, e3, rfl⟩ := hI
      have hi1 : i + 1 ≤ m := by omega
      have en : (1 : Int) + (i : Int) = ((i + 1 : Nat) : Int) := by omega
      rw [en]
      refine b_one (s_forR3 (lo := 1) (hi := ((i + 1 : Nat) : Int) + 1) (st := 2) (n := (i + 2) / 2) 4 (fun j Γ => j ≤ (i + 2) / 2 ∧ ∃ e2 e3, Γ = [some (.im (.int o)), some (.im (.int m)), some (.ow ((bn o i ++ rowP o (i + 1) j).map tupD)), some (.im (.int ((i + 1 : Nat) : Int))), e2, e3]) (a_cons p_int (a_cons (p_bin (p_var 3) p_int bn_add) (a_cons p_int a_nil))) (rgc_two (by decide) (by decide) (by omega) (by omega) (by rw [if_pos (by omega)]; omega)) ⟨Nat.zero_le _, e2, e3, by simp [rowP]⟩ (fun j Γ hj hI => ?_) (fun Γ hI => ?_) B.range PassesOwn.leaving sc_bn.nd)
      · obtain ⟨hj2, e2', e3', rfl⟩ := hI
        have ej : (1 : Int) + (j : Int) * 2 = ((2 * j + 1 : Nat) : Int) := by omega
        rw [ej]
        have hjn : j ≤ i + 1 := by omega
        refine b_cons (s_set 5 (p_call Gn hr (a_cons (p_var 0) (a_cons (p_var 3) (a_cons (p_bin (p_bin (p_var 4) p_int bn_sub) p_int (bn_fdiv (by refine ⟨?_, ?_⟩ <;> decide +kernel))) a_nil))) ⟨o, i + 1, j, by omega, h2, by omega, hjn, by rw [show (((2 * j + 1 : Nat) : Int) - 1) / 2 = (j : Int) from by omega], rfl⟩) ?_ sc_bn.nd)
        have hdv := near_div (o := o) (l := i + 1) (f := j) h2 (by omega) (by omega)
        refine b_one (s_if (k := okJ o (i + 1) j) (t_is (t_cmp (p_bin (p_call Gr hr (a_cons (p_var 0) (a_cons (p_var 3) a_nil)) ⟨o, i + 1, by omega, by omega, by omega, rfl, rfl⟩) (p_var 5) (bn_mod (hdv 0).1)) p_int c_eqI) ?_) (fun hk => ?_) (fun hk => ?_))
        · unfold okJ
          refine decide_eq_decide.mpr ?_
          rw [← Int.natCast_pow, ← Int.natCast_emod]
          omega
        · refine b_one (s_app 2 (d := tupD (entJ o (i + 1) j)) rfl (p_tup (a_cons (p_var 3) (a_cons (p_is (p_var 4) ?_) (a_cons (p_is (p_bin (p_call Gr hr (a_cons (p_var 0) (a_cons (p_var 3) a_nil)) ⟨o, i + 1, by omega, by omega, by omega, rfl, rfl⟩) (p_var 5) (bn_fdiv (hdv _))) ?_) a_nil))) (by simp [entJ])) ?_ ?_ (hbm := fun ta h => pe_bm PySem.F.plainAttrs_list PySem.F.slot_list_append PySem.F.type_list_append mt_append (pe_var (i := 2) rfl (Or.inl rfl)) h))
          · show D.int _ = D.int _
            congr 1
          · show D.int _ = D.int _
            rw [← nat_div, Int.natCast_pow]
          · have b1 := bn_len o i (by omega)
            have b2 := rowP_len o (i + 1) j
            rw [List.length_map, List.length_append]
            omega
          · refine ⟨by omega, some (.im (.int ((2 * j + 1 : Nat) : Int))), some (.im (.int (near o (i + 1) j : Nat))), ?_⟩
            have e : ((bn o i ++ rowP o (i + 1) (j + 1)).map tupD) = ((bn o i ++ rowP o (i + 1) j).map tupD) ++ [tupD (entJ o (i + 1) j)] := by rw [rowP_succ, if_pos hk, ← List.append_assoc, List.map_append]; rfl
            rw [e]
            rfl
        · refine b_nil ⟨by omega, some (.im (.int ((2 * j + 1 : Nat) : Int))), some (.im (.int (near o (i + 1) j : Nat))), ?_⟩
          rw [rowP_succ, if_neg (by rw [hk]; decide), List.append_nil]
          rfl
      · obtain ⟨hj2, e2', e3', rfl⟩ := hI
        exact ⟨hi1, _, _, _, rfl⟩
    · obtain ⟨him, e1, e2, e3, rfl⟩ := hI
      have hm : ((m : Int) + 1 - 1).toNat = m := by omega
      rw [hm]
      exact b_one (s_retO 2 rfl rfl)
  · refine b_cons (s_if (k := true) (t_is (hT _ _ ta tb) (by rw [hb]; rfl)) (fun hk => ?_) (fun hk => by cases hk))
    exact b_one (s_raise0 hx T F0 hr rfl)
end
end K19

set_option Elab.async false
set_option linter.all false
set_option maxRecDepth 100000
set_option maxHeartbeats 4000000
set_option exponentiation.threshold 10000
namespace K19
open PySem PySem.Spec PyProof.Rows L2 Spr
/-! ### balls by choices (as the law counts them) -/
theorem ch_step : ∀ l < 61, ∀ m < l, ch l m * (l - m) = ch l (m + 1) * (m + 1) := by decide +kernel
theorem part_eq {o l : Nat} (hl : l ≤ 60) : ∀ m, m ≤ l → partL o l m = ch l m * (o - 1) ^ m
  | 0, _ => by
    show 1 = _
    unfold ch fall fact
    simp
  | m + 1, h => by
    show partL o l m * (l - m) * (o - 1) / (m + 1) = _
    rw [part_eq hl m (by omega)]
    have e : ch l m * (o - 1) ^ m * (l - m) * (o - 1) = (ch l (m + 1) * (o - 1) ^ (m + 1)) * (m + 1) := by
      have z := ch_step l (by omega) m (by omega)
      rw [Nat.pow_succ]
      calc ch l m * (o - 1) ^ m * (l - m) * (o - 1) = (ch l m * (l - m)) * ((o - 1) ^ m * (o - 1)) := by ac_rfl
        _ = (ch l (m + 1) * (m + 1)) * ((o - 1) ^ m * (o - 1)) := by rw [z]
        _ = _ := by ac_rfl
    rw [e, Nat.mul_div_cancel _ (Nat.succ_pos m)]
theorem near_ball {o l : Nat} (hl : l ≤ 60) : ∀ f, f ≤ l → near o l f = ballL o l f
  | 0, _ => by unfold near ballL ch fall fact; simp
  | f + 1, h => by
    have ih := near_ball (o := o) hl f (by omega)
    show near o l (f + 1) = ballL o l f + partL o l (f + 1)
    rw [← ih, part_eq hl (f + 1) h]
    unfold near
    rw [List.range_succ, List.map_append, List.sum_append]
    simp
/-! ### the lists that the law makes -/
def bigP (o n j : Nat) : List (List Int) := ((List.range j).filter fun i => okJ o n (i + 1)).map fun i => entJ o n (i + 1)
def bgn (o : Nat) : Nat → List (List Int)
  | 0 => []
  | m + 1 => bgn o m ++ bigP o (m + 1) (m / 2)
def sgl (o m : Nat) : List (List Int) := (List.range m).map fun i => [((i + 1 : Nat) : Int), 1, ((o ^ (i + 1) : Nat) : Int)]
theorem bigP_succ (o n j : Nat) : bigP o n (j + 1) = bigP o n j ++ if okJ o n (j + 1) = true then [entJ o n (j + 1)] else [] := by
  unfold bigP
  rw [List.range_succ, List.filter_append, List.map_append]
  congr 1
  by_cases h : okJ o n (j + 1) = true
  · rw [if_pos h, List.filter_cons, if_pos h]; rfl
  · rw [if_neg h, List.filter_cons, if_neg h]; rfl
theorem bigP_len (o n j : Nat) : (bigP o n j).length ≤ j := by
  unfold bigP
  rw [List.length_map]
  exact Nat.le_trans (List.length_filter_le _ _) (by simp)
theorem bgn_len (o : Nat) : ∀ m, m ≤ 40 → (bgn o m).length ≤ m * 21
  | 0, _ => Nat.zero_le _
  | m + 1, h => by
    have h1 := bgn_len o m (by omega)
    have h2 := bigP_len o (m + 1) (m / 2)
    show (bgn o m ++ bigP o (m + 1) (m / 2)).length ≤ _
    rw [List.length_append]
    omega
theorem near0 (o n : Nat) : near o n 0 = 1 := by unfold near ch fall fact; simp
theorem row_big (o n j : Nat) : rowP o n (j + 1) = entJ o n 0 :: bigP o n j := by
  unfold rowP bigP
  have h0 : okJ o n 0 = true := by unfold okJ; rw [near0]; simp [Nat.mod_one]
  rw [List.range_succ_eq_map, List.filter_cons, if_pos h0, List.map_cons, List.filter_map, List.map_map]
  rfl
theorem bn_succ (o m : Nat) : bn o (m + 1) = bn o m ++ (entJ o (m + 1) 0 :: bigP o (m + 1) (m / 2)) := by
  show bn o m ++ rowP o (m + 1) ((m + 2) / 2) = _
  rw [show (m + 2) / 2 = m / 2 + 1 from by omega, row_big]
def p1 (e : List Int) : Bool := decide (e.getD 1 0 = 1)
def p2 (e : List Int) : Bool := decide (1 < e.getD 1 0)
theorem big_p1 (o n j : Nat) : (bigP o n j).filter p1 = [] := by
  rw [List.filter_eq_nil_iff]
  intro e he
  unfold bigP at he
  obtain ⟨i, _, rfl⟩ := List.mem_map.mp he
  unfold p1 entJ
  simp
  omega
theorem big_p2 (o n j : Nat) : (bigP o n j).filter p2 = bigP o n j := by
  rw [List.filter_eq_self]
  intro e he
  unfold bigP at he
  obtain ⟨i, _, rfl⟩ := List.mem_map.mp he
  unfold p2 entJ
  simp
  omega
theorem ent0 (o n : Nat) : entJ o n 0 = [(n : Int), 1, ((o ^ n : Nat) : Int)] := by
  unfold entJ
  rw [near0, Nat.div_one]
  rfl
theorem bn_p1 (o : Nat) : ∀ m, (bn o m).filter p1 = sgl o m
  | 0 => rfl
  | m + 1 => by
    rw [bn_succ, List.filter_append, bn_p1 o m, List.filter_cons, ent0, if_pos (show p1 _ = true from decide_eq_true rfl), big_p1]
    unfold sgl
    rw [List.range_succ, List.map_append]
    rfl
theorem bn_p2 (o : Nat) : ∀ m, (bn o m).filter p2 = bgn o m
  | 0 => rfl
  | m + 1 => by
    rw [bn_succ, List.filter_append, bn_p2 o m, List.filter_cons, ent0, if_neg (show ¬ p2 _ = true from by unfold p2; simp), big_p2]
    rfl
theorem bn_len3 (o : Nat) : ∀ m, ∀ e ∈ bn o m, e.length = 3
  | 0, e, h => by cases h
  | m + 1, e, h => by
    rcases List.mem_append.mp (show e ∈ bn o m ++ rowP o (m + 1) ((m + 2) / 2) from h) with h | h
    · exact bn_len3 o m e h
    · unfold rowP at h
      obtain ⟨i, _, rfl⟩ := List.mem_map.mp h
      rfl
theorem bn_pre (o : Nat) : ∀ k m, ∃ t, bn o (m + k) = bn o m ++ t
  | 0, m => ⟨[], by simp⟩
  | k + 1, m => by
    obtain ⟨t, h⟩ := bn_pre o k m
    refine ⟨t ++ rowP o (m + k + 1) ((m + k + 2) / 2), ?_⟩
    show bn o (m + k) ++ rowP o (m + k + 1) ((m + k + 2) / 2) = _
    rw [h, List.append_assoc]
/-- ascending, few, small -/
def goodL (l : List (List Int)) : Bool := decide (l.length < 64) && (l.all (fun e => e.all fun z => decide (0 ≤ z ∧ z < 2 ^ 64)) && decide (l.Pairwise fun n m => TS.code (2 ^ 64) n < TS.code (2 ^ 64) m))
theorem gone : ([2, 3, 4, 5, 6].all fun o => goodL (bn o 24)) = true := by decide +kernel
theorem good_of {o m : Nat} (ho : o ∈ [2, 3, 4, 5, 6]) (hm : m ≤ 24) : (bn o m).length < 64 ∧ (∀ ns ∈ bn o m, ns.length = 3 ∧ TS.Bd (2 ^ 64) ns) ∧ (bn o m).Pairwise fun n m => TS.code (2 ^ 64) n < TS.code (2 ^ 64) m := by
  have z := List.all_eq_true.mp gone o ho
  unfold goodL at z
  simp only [Bool.and_eq_true, decide_eq_true_eq, List.all_eq_true] at z
  obtain ⟨z1, z2, z3⟩ := z
  obtain ⟨t, ht⟩ := bn_pre o (24 - m) m
  rw [show m + (24 - m) = 24 from by omega] at ht
  rw [ht] at z1 z2 z3
  refine ⟨by rw [List.length_append] at z1; omega, fun ns hn => ⟨bn_len3 o m ns hn, fun v hv => z2 ns (List.mem_append_left _ hn) v hv⟩, (List.pairwise_append.mp z3).1⟩
def F_abr : Fs := fun ds r => ∃ o m : Nat, o ∈ [2, 3, 4, 5, 6] ∧ 1 ≤ m ∧ m ≤ 24 ∧ ds = [.int o, .int m] ∧ r = .ok (.bl true)
section
variable {P : Program} {w : World} {K : PySem.W.Frag} {mg : Str → Option Value} {base : Heap} {f : Addr} {fd : FuncData} {C : Addr}
theorem sc_abr : FnScope ["order", "most", "found", "length", "told", "single", "every", "whole", "away", "ball_size", "one"] ["order", "most"] (defScope st_law_are_balls_right) := ⟨rfl, rfl, rfl, by decide +kernel, rfl, by decide +kernel, by decide +kernel⟩
theorem item1 {l : List (List Int)} {e : List Int} (he : ∀ e ∈ l, e.length = 3) (h : e ∈ l) : L2.atI (e.map D.int) 1 = some (.int (e.getD 1 0)) := by
  have h3 := he e h
  refine atI_nat (j := 1) ?_
  rw [List.getElem?_map, List.getElem?_eq_getElem (by omega), List.getD_eq_getElem?_getD, List.getElem?_eq_getElem (by omega)]
  rfl
theorem ok_abr (B : Fr mg) (Gr : FoP P w K mg base 1 "_law_raised" F_lraised) (Gb : FoP P w K mg base 1 "_law_ball" F_ball) (Gn : FoP P w K mg base 3 "balls_numbers" (F_bn (eN C))) (Fn : FnP K "_law_are_balls_right" st_law_are_balls_right f fd) : FnOk P w K mg base (L2.CX P w) 4 f fd ["order", "most"] (upP K F_abr) := by
  refine mkP Fn sc_abr (by rintro _ _ ⟨_, _, _, _, _, rfl, _⟩; rfl) fun cdv A outer s H E S0 H0 ds r hr hF hx => ?_
  obtain ⟨o, m, ho, hm1, hm2, rfl, rfl⟩ := hF
  have hob : 2 ≤ o ∧ o ≤ 32 := by simp at ho; omega
  obtain ⟨h1, h2⟩ := hob
  have hu := room_hu hr
  obtain ⟨k1, k2, k3⟩ := good_of ho hm2
  refine b_cons (s_setO 2 (n_lst a_nil) ?_ sc_abr.nd)
  refine b_cons (s_forR2 (lo := 1) (hi := (m : Int) + 1) 3 (fun i Γ => i ≤ m ∧ ∃ e3 e7 e8 e9, Γ = [some (.im (.int o)), some (.im (.int m)), some (.ow ((bgn o i).map tupD)), e3, none, none, none, e7, e8, e9, none]) (a_cons p_int (a_cons (p_bin (p_var 1) p_int bn_add) a_nil)) (by constructor <;> decide) (by constructor <;> omega) ⟨Nat.zero_le _, none, none, none, none, rfl⟩ (fun i Γ hi hI => ?_) (fun Γ hI => ?_) B.range PassesOwn.leaving sc_abr.nd)
  · obtain ⟨him, e3, e7, e8, e9, rfl⟩ := hI
    have hi1 : i + 1 ≤ m := by omega
    have en : (1 : Int) + (i : Int) = ((i + 1 : Nat) : Int) := by omega
    rw [en]
    refine b_cons (s_set 7 (p_call Gr hr (a_cons (p_var 0) (a_cons (p_var 3) a_nil)) ⟨o, i + 1, h2, by omega, rfl, rfl⟩) ?_ sc_abr.nd)
    refine b_one (s_forR3 (lo := 3) (hi := ((i + 1 : Nat) : Int) + 1) (st := 2) (n := i / 2) 8 (fun j Γ => j ≤ i / 2 ∧ ∃ e8 e9, Γ = [some (.im (.int o)), some (.im (.int m)), some (.ow ((bgn o i ++ bigP o (i + 1) j).map tupD)), some (.im (.int ((i + 1 : Nat) : Int))), none, none, none, some (.im (.int ((o ^ (i + 1) : Nat) : Int))), e8, e9, none]) (a_cons p_int (a_cons (p_bin (p_var 3) p_int bn_add) (a_cons p_int a_nil))) (rgc_two (by decide) (by decide) (by omega) (by omega) (by split <;> omega)) ⟨Nat.zero_le _, e8, e9, by simp [bigP]⟩ (fun j Γ hj hI => ?_) (fun Γ hI => ?_) B.range PassesOwn.leaving sc_abr.nd)
    · obtain ⟨hj2, e8', e9', rfl⟩ := hI
      have ej : (3 : Int) + (j : Int) * 2 = ((2 * (j + 1) + 1 : Nat) : Int) := by omega
      rw [ej]
      have hjn : j + 1 ≤ i + 1 := by omega
      have enb := near_ball (o := o) (l := i + 1) (by omega) (j + 1) hjn
      refine b_cons (s_set 9 (d := .int (near o (i + 1) (j + 1) : Nat)) (p_call Gb hr (a_cons (p_var 0) (a_cons (p_var 3) (a_cons (p_bin (p_var 8) p_int (bn_fdiv (by refine ⟨?_, ?_⟩ <;> decide +kernel))) a_nil))) ⟨o, i + 1, j + 1, by omega, h2, by omega, hjn, by rw [show ((2 * (j + 1) + 1 : Nat) : Int) / 2 = ((j + 1 : Nat) : Int) from by omega], by rw [enb]⟩) ?_ sc_abr.nd)
      have hdv := near_div (o := o) (l := i + 1) (f := j + 1) h2 (by omega) (by omega)
      refine b_one (s_if (k := okJ o (i + 1) (j + 1)) (t_is (t_cmp (p_bin (p_bty cb_int (a_cons (p_var 7) a_nil) B.int (by decide +kernel)) (p_var 9) (bn_mod (hdv 0).1)) p_int c_eqI) ?_) (fun hk => ?_) (fun hk => ?_))
      · unfold okJ
        refine decide_eq_decide.mpr ?_
        rw [← Int.natCast_emod]
        omega
      · refine b_one (s_app 2 (d := tupD (entJ o (i + 1) (j + 1))) rfl (p_tup (a_cons (p_var 3) (a_cons (p_is (p_var 8) ?_) (a_cons (p_is (p_bin (p_var 7) (p_var 9) (bn_fdiv (hdv _))) ?_) a_nil))) (by simp [entJ])) ?_ ?_ (hbm := fun ta h => pe_bm PySem.F.plainAttrs_list PySem.F.slot_list_append PySem.F.type_list_append mt_append (pe_var (i := 2) rfl (Or.inl rfl)) h))
        · show D.int _ = D.int _
          congr 1
        · show D.int _ = D.int _
          rw [← nat_div]
        · have b1 := bgn_len o i (by omega)
          have b2 := bigP_len o (i + 1) j
          rw [List.length_map, List.length_append]
          omega
        · refine ⟨by omega, some (.im (.int ((2 * (j + 1) + 1 : Nat) : Int))), some (.im (.int (near o (i + 1) (j + 1) : Nat))), ?_⟩
          have e : ((bgn o i ++ bigP o (i + 1) (j + 1)).map tupD) = ((bgn o i ++ bigP o (i + 1) j).map tupD) ++ [tupD (entJ o (i + 1) (j + 1))] := by rw [bigP_succ, if_pos hk, ← List.append_assoc, List.map_append]; rfl
          rw [e]
          rfl
      · refine b_nil ⟨by omega, some (.im (.int ((2 * (j + 1) + 1 : Nat) : Int))), some (.im (.int (near o (i + 1) (j + 1) : Nat))), ?_⟩
        rw [bigP_succ, if_neg (by rw [hk]; decide), List.append_nil]
        rfl
    · obtain ⟨hj2, e8', e9', rfl⟩ := hI
      exact ⟨hi1, _, _, _, _, rfl⟩
  · obtain ⟨him, e3, e7, e8, e9, rfl⟩ := hI
    have hm : ((m : Int) + 1 - 1).toNat = m := by omega
    rw [hm]
    have hbn : F_bn (eN C) [.int o, .int m] (.ok (.lst ((bn o m).map tupD))) := .inl ⟨o, m, h1, h2, hm1, by omega, rfl, rfl⟩
    refine b_cons (s_set 4 (p_call Gn hr (a_cons (p_var 0) (a_cons (p_var 1) a_nil)) hbn) ?_ sc_abr.nd)
    refine b_cons (s_if (k := false) (t_pw (w_or (k := false) (k' := false) (t_cmp (p_call Gn hr (a_cons (p_var 0) (a_cons (p_var 1) a_nil)) hbn) (p_var 4) (c_neSame hu (eqOk_tups _))) (fun _ => (w_or1 (t_cmp (p_blt (cb_sortA (d := 3) (B := 2 ^ 64) (by decide) k1 k2 k3) (a_cons (p_var 4) a_nil) B.sorted (by decide +kernel)) (p_bty cb_list (a_cons (p_var 4) a_nil) B.list (by decide +kernel)) (c_neSame hu (eqOk_tups _))))))) (fun hk => by cases hk) (fun hk => ?_))
    refine b_nil ?_
    refine b_cons (s_setLcL (xs := bn o m) (own := [("one", 10)]) (j := 10) 5 tupD tupD p1 (p_var 4) (by have := k1; omega) (blkB_ok (by rfl)) (fun _ _ _ _ _ => pg_name (i := 10) sc_abr.nd rfl (Or.inl rfl)) (fun e he _ _ _ _ _ => (ts_one (t_cmp (p_ixT (p_var 10) p_int (item1 (bn_len3 o m) he)) p_int c_eqI))) (fun e he _ _ _ _ _ _ => (p_var 10)) (.inr ?_) sc_abr.nd)
    rw [bn_p1]
    refine b_cons (s_setLcR2 (lo := 1) (hi' := (m : Int) + 1) (own := [("length", 3)]) (j := 3) 6 (fun i => tupD [((i + 1 : Nat) : Int), 1, ((o ^ (i + 1) : Nat) : Int)]) (fun _ => true) (a_cons p_int (a_cons (p_bin (p_var 1) p_int bn_add) a_nil)) (by omega) (blkB_ok (by rfl)) (fun _ _ _ _ _ => pg_name (i := 3) sc_abr.nd rfl (Or.inl rfl)) (fun i hi _ _ _ _ _ => ts_nil) (fun i hi _ _ _ _ _ _ => ?_) (.inr ?_) sc_abr.nd B.range)
    · have en : (1 : Int) + (i : Int) = ((i + 1 : Nat) : Int) := by omega
      rw [en]
      exact p_tup (a_cons (p_var 3) (a_cons p_int (a_cons (p_call Gr hr (a_cons (p_var 0) (a_cons (p_var 3) a_nil)) ⟨o, i + 1, h2, by omega, rfl, rfl⟩) a_nil))) (by simp)
    rw [hm, filt_all]
    have es : (List.range m).map (fun i => tupD [((i + 1 : Nat) : Int), 1, ((o ^ (i + 1) : Nat) : Int)]) = (sgl o m).map tupD := by
      unfold sgl
      rw [List.map_map]
      rfl
    rw [es]
    refine b_cons (s_if (k := false) (t_pw (w_and (k := true) (k' := false) (t_is (t_cmp (p_blt cb_len (a_cons (p_var 5) a_nil) B.len (by decide +kernel)) p_int c_gt) (decide_eq_true (by rw [List.length_map]; unfold sgl; rw [List.length_map, List.length_range]; omega))) (fun _ => (w_and1 (t_cmp (p_var 5) (p_var 6) (c_neSame hu (eqOk_tups _))))))) (fun hk => by cases hk) (fun hk => ?_))
    refine b_nil ?_
    refine s_freeze 2 rfl ?_
    refine b_one (s_ret (p_cmp (p_is (n_p (n_lcL (xs := bn o m) (own := [("one", 10)]) (j := 10) tupD tupD p2 (p_var 4) (by have := k1; omega) (blkB_ok (by rfl)) (fun _ _ _ _ _ => pg_name (i := 10) sc_abr.nd rfl (Or.inl rfl)) (fun e he _ _ _ _ _ => (ts_one (t_cmp (p_ixT (p_var 10) p_int (item1 (bn_len3 o m) he)) p_int c_gt))) (fun e he _ _ _ _ _ _ => (p_var 10)) sc_abr.nd)) (congrArg (fun l => D.lst (l.map tupD)) (bn_p2 o m))) (p_var 2) (c_eqSame hu (eqOk_tups _))) rfl)
end
end K19

set_option Elab.async false
set_option linter.all false
set_option maxRecDepth 100000
set_option maxHeartbeats 4000000
set_option exponentiation.threshold 10000
namespace K19
open PySem PySem.Spec PyProof.Rows L2 Spr
/-! ### a ball is no bigger than the whole -/
theorem pascal : ∀ l < 60, ∀ m < 60, ch (l + 1) (m + 1) = ch l m + ch l (m + 1) := by decide +kernel
theorem near_succ (o l f : Nat) : near o l (f + 1) = near o l f + ch l (f + 1) * (o - 1) ^ (f + 1) := by
  unfold near
  rw [List.range_succ, List.map_append, List.sum_append]
  simp
theorem near_pas {o l : Nat} (hl : l < 60) : ∀ f, f < 60 → near o (l + 1) (f + 1) = near o l (f + 1) + (o - 1) * near o l f
  | 0, _ => by
    rw [near_succ, near_succ, near0, near0, pascal l hl 0 (by decide)]
    have : ch l 0 = 1 := by unfold ch fall fact; rfl
    rw [this, Nat.add_mul, Nat.pow_succ, Nat.pow_zero]
    omega
  | f + 1, h => by
    have pw : (o - 1) ^ (f + 1 + 1) = (o - 1) ^ (f + 1) * (o - 1) := Nat.pow_succ _ _
    have e : ch l (f + 1) * (o - 1) ^ (f + 1 + 1) = (o - 1) * (ch l (f + 1) * (o - 1) ^ (f + 1)) := by rw [pw]; ac_rfl
    rw [near_succ o (l + 1), near_pas hl f (by omega), near_succ o l (f + 1), pascal l hl (f + 1) h, Nat.add_mul, near_succ o l f, Nat.mul_add, e]
    omega
theorem near_le {o : Nat} (ho : 1 ≤ o) : ∀ l, l ≤ 60 → ∀ f, f ≤ 60 → near o l f ≤ o ^ l
  | 0, _, 0, _ => by rw [near0]; exact Nat.le_refl _
  | 0, h, f + 1, h2 => by
    have z : ch 0 (f + 1) = 0 := by
      have : ∀ m, fall 0 (m + 1) = 0 := fun m => by unfold fall; simp
      unfold ch
      rw [this, Nat.zero_div]
    rw [near_succ, z, Nat.zero_mul]
    exact near_le ho 0 h f (by omega)
  | l + 1, h, 0, _ => by rw [near0]; exact Nat.pow_pos (by omega)
  | l + 1, h, f + 1, h2 => by
    rw [near_pas (by omega) f (by omega)]
    have a := near_le ho l (by omega) (f + 1) h2
    have b := Nat.mul_le_mul_left (o - 1) (near_le ho l (by omega) f (by omega))
    have e : o ^ (l + 1) = o ^ l + (o - 1) * o ^ l := by
      obtain ⟨p, rfl⟩ : ∃ p, o = p + 1 := ⟨o - 1, by omega⟩
      rw [Nat.pow_succ, Nat.mul_comm, Nat.add_mul, Nat.one_mul, Nat.add_sub_cancel]
      omega
    omega
/-! ### the lengths grow -/
theorem cdiv_nn {f : Nat} {p : Int} (hp : 0 < p) : 0 ≤ cdiv f p := by
  unfold cdiv
  have : -(f : Int) / p ≤ 0 := by
    have := Int.ediv_le_ediv hp (show -(f : Int) ≤ 0 by omega)
    simpa using this
  omega
theorem ll_mono {o f : Nat} (ho : 1 ≤ o) (k : Nat) : ll o f k ≤ ll o f (k + 1) := by
  show _ ≤ ll o f k + _
  have := cdiv_nn (f := f) (p := ((o ^ k : Nat) : Int)) (by have := Nat.pow_pos (n := k) (show 0 < o by omega); omega)
  omega
theorem mbl_le (o l f : Nat) : ∀ n, mbl o l f n ≤ n
  | 0 => Nat.le_refl _
  | n + 1 => by
    unfold mbl
    split
    · exact Nat.le_refl _
    · have := mbl_le o l f n; omega
theorem mbl_fit (o l f : Nat) : ∀ n, ll o f (mbl o l f n) ≤ l
  | 0 => by show (0 : Int) ≤ _; omega
  | n + 1 => by
    unfold mbl
    split
    · assumption
    · exact mbl_fit o l f n
theorem mbl_top (o l f : Nat) : ∀ n k, k ≤ n → ll o f k ≤ l → k ≤ mbl o l f n
  | 0, k, h, _ => by omega
  | n + 1, k, h, hk => by
    unfold mbl
    split
    · exact h
    · rename_i z
      by_cases e : k = n + 1
      · subst e; exact absurd hk z
      · exact mbl_top o l f n k (by omega) hk
def fitB (o l f : Nat) (i : Nat) : Bool := decide (ll o f i ≤ (l : Int))
def fits (o l f : Nat) : List Int := ((List.range 21).filter (fitB o l f)).map fun i : Nat => (i : Int)
theorem fits_mem {o l f : Nat} : ((mbl o l f 20 : Nat) : Int) ∈ fits o l f :=
  List.mem_map.mpr ⟨_, List.mem_filter.mpr ⟨List.mem_range.mpr (by have := mbl_le o l f 20; omega), decide_eq_true (mbl_fit o l f 20)⟩, rfl⟩
theorem fits_ne {o l f : Nat} : fits o l f ≠ [] := fun h => by have z := fits_mem (o := o) (l := l) (f := f); rw [h] at z; cases z
theorem fits_max (o l f : Nat) : maxL (fits o l f) = (mbl o l f 20 : Nat) := by
  have h1 := le_maxL _ _ (fits_mem (o := o) (l := l) (f := f))
  obtain ⟨k, hk, e⟩ := List.mem_map.mp (maxL_mem _ (fits_ne (o := o) (l := l) (f := f)))
  obtain ⟨h2, h3⟩ := List.mem_filter.mp hk
  have e : (k : Int) = maxL (fits o l f) := e
  have h4 := mbl_top o l f 20 k (by have := List.mem_range.mp h2; omega) (of_decide_eq_true h3)
  omega
/-! ### is it right? -/
def riS (h : Hd) (l : Nat) : Hd := drawS (drawS (drawS h 21) (min 20 (l : Int) + 1)) ((l : Int) + 1)
def F_right : Fh := fun L ds d L' => ∃ (h : Hd) (o l f : Nat), Go o l f ∧ L = hE h ∧ ds = [.int o, .int l, .int f] ∧ d = .bl true ∧ L' = hE (riS h l)
theorem sc_right : FnScope ["hand", "order", "length", "away", "free_many", "due", "fitting", "small", "rows", "heft", "ball_size", "whole", "some"] ["hand", "order", "length", "away"] (defScope st_law_is_right) := ⟨rfl, rfl, rfl, by decide +kernel, rfl, by decide +kernel, by decide +kernel⟩
theorem draw_nat (h : Hd) {n : Int} (hn : 0 < n) : ∃ k : Nat, drawR h n = k ∧ (k : Int) < n := by
  have a := drawR_nn (h := h) hn
  have b := drawR_lt (h := h) hn
  exact ⟨(drawR h n).toNat, by omega, by omega⟩
structure Gs (P : Program) (w : World) (K : PySem.W.Frag) (mg : Str → Option Value) (base : Heap) (C : Addr) : Prop where
  ll : FoP P w K mg base 3 "least_length" (F_ll (eN C))
  ml : FoP P w K mg base 4 "meets_length" F_ml
  mlv : FoP P w K mg base 4 "meets_leaving" F_mlv
  mb : FoP P w K mg base 4 "meets_balls" F_mb
  ww : FoP P w K mg base 3 "with_weight" F_ww
  mbl : FoP P w K mg base 4 "most_by_length" (F_by (eN C) fun o l f => .int (mbl o l f 20))
section
variable {P : Program} {w : World} {K : PySem.W.Frag} {mg : Str → Option Value} {base : Heap} {f : Addr} {fd : FuncData} {C : Addr}
theorem ok_right (B : Fr mg) (G : Gs P w K mg base C) (Gd : Fo P w K mg base 1 "_law_draw" (upH K F_draw)) (Gn : FoP P w K mg base 2 "_law_length" F_llen) (Gb : FoP P w K mg base 1 "_law_ball" F_ball) (Gr : FoP P w K mg base 1 "_law_raised" F_lraised) (Gw : FoP P w K mg base 1 "_law_with_weight" F_ww)
    (Fn : FnP K "_law_is_right" st_law_is_right f fd) : FnOk P w K mg base (L2.CX P w) 5 f fd ["hand", "order", "length", "away"] (upH K F_right) := by
  refine mkH Fn sc_right (by rintro _ _ _ _ ⟨_, _, _, _, _, _, rfl, _⟩; rfl) fun cdv A outer s H E S0 H0 a L ds d L' hr hF => ?_
  obtain ⟨h, o, l, f, g, rfl, rfl, rfl, rfl⟩ := hF
  obtain ⟨h1, h2, h3, h4, h5, h6⟩ := id g
  have hu := room_hu hr
  obtain ⟨fm, ef, hf⟩ := draw_nat h (n := 21) (by decide)
  have hf : fm ≤ 20 := by omega
  refine b_cons (s_setE 4 (d := .int fm) (ev_is (ev_call 0 Gd hr (ea_cons (ev_p p_int) ea_nil) rfl ⟨h, 21, by decide, by decide, rfl, rfl, rfl, rfl⟩) (congrArg D.int ef)) ?_ sc_right.nd)
  refine b_cons (s_set 5 (p_call Gn hr (a_cons (p_var 1) (a_cons (p_var 4) (a_cons (p_var 3) a_nil))) ⟨o, fm, f, h1, h2, by omega, h5, by omega, rfl, rfl⟩) ?_ sc_right.nd)
  have G1 := fun (k : Nat) (hk : k ≤ 20) => (show F_ll (eN C) [.int o, .int k, .int f] (.ok (.int (ll o f k))) from .inl ⟨o, k, f, h1, h2, hk, h5, by omega, rfl, rfl⟩)
  refine b_cons (s_if (k := false) (t_cmp (p_lst (a_cons (p_call G.ll hr (a_cons (p_var 1) (a_cons (p_var 4) (a_cons (p_var 3) a_nil))) (G1 fm hf)) (a_cons (p_call G.ll hr (a_cons (p_var 1) (a_cons (p_var 4) (a_cons (p_var 3) a_nil))) (G1 fm hf)) a_nil))) (p_lst (a_cons (p_var 5) (a_cons (p_var 5) a_nil))) (ne_ints (a := [ll o f fm, ll o f fm]) (b := [ll o f fm, ll o f fm]) hu rfl rfl rfl)) (fun hk => by cases hk) (fun hk => ?_))
  refine b_nil ?_
  refine b_cons (s_if (k := false) ?_ (fun hk => by cases hk) (fun hk => ?_))
  · refine t_pw ?_
    by_cases hk : fm < 20
    · refine w_and (k := true) (k' := false) (t_is (t_cmp (p_var 4) p_int c_lt) (decide_eq_true (by omega))) (fun _ => w_and1 (t_is (t_cmp (p_call G.ll hr (a_cons (p_var 1) (a_cons (p_bin (p_var 4) p_int bn_add) (a_cons (p_var 3) a_nil))) (G1 (fm + 1) (by omega))) (p_var 5) c_lt) (decide_eq_false ?_)))
      have := ll_mono (o := o) (f := f) (by omega) fm
      omega
    · exact w_and (k := false) (k' := false) (t_is (t_cmp (p_var 4) p_int c_lt) (decide_eq_false (by omega))) (fun hk => by cases hk)
  refine b_nil ?_
  refine b_cons (s_setLcR1 (n := 21) (own := [("some", 12)]) (j := 12) 6 (fun i : Nat => D.int (i : Int)) (fitB o l f) (a_cons p_int a_nil) (by decide) (by decide) (blkB_ok (by rfl)) (fun _ _ _ _ _ => pg_name (i := 12) sc_right.nd rfl (Or.inl rfl)) (fun i hi _ _ _ _ _ => (ts_one (t_cmp (p_call Gn hr (a_cons (p_var 1) (a_cons (p_var 12) (a_cons (p_var 3) a_nil))) ⟨o, i, f, h1, h2, by omega, h5, by omega, rfl, rfl⟩) (p_var 2) c_le))) (fun i hi _ _ _ _ _ _ => (p_var 12)) (.inr ?_) sc_right.nd B.range)
  have efit : ((List.range (21 : Int).toNat).filter (fitB o l f)).map (fun i : Nat => D.int (i : Int)) = (fits o l f).map .int := by
    unfold fits
    rw [List.map_map]
    rfl
  rw [efit]
  have G2 : F_by (eN C) (fun o l f => .int (mbl o l f 20)) [.int o, .int l, .int f] (.ok (.int (mbl o l f 20 : Nat))) := .inl ⟨o, l, f, g, rfl, rfl⟩
  refine b_cons (s_if (k := false) (t_cmp (p_lst (a_cons (p_call G.mbl hr (a_cons (p_var 1) (a_cons (p_var 2) (a_cons (p_var 3) a_nil))) G2) (a_cons (p_call G.mbl hr (a_cons (p_var 1) (a_cons (p_var 2) (a_cons (p_var 3) a_nil))) G2) a_nil))) (n_p (n_mul (n_lst (a_cons (p_blt (cb_max fits_ne) (a_cons (p_var 6) a_nil) B.max (by decide +kernel)) a_nil)) p_int (by decide) (by decide))) (ne_ints (a := [((mbl o l f 20 : Nat) : Int), ((mbl o l f 20 : Nat) : Int)]) (b := [maxL (fits o l f), maxL (fits o l f)]) hu (by rw [fits_max]) rfl rfl)) (fun hk => by cases hk) (fun hk => ?_))
  refine b_nil ?_
  obtain ⟨sm, es, hs⟩ := draw_nat (drawS h 21) (n := min 20 (l : Int) + 1) (by omega)
  refine b_cons (s_setE 7 (d := .int sm) (ev_is (ev_call 0 Gd hr (ea_cons (ev_p (p_bin (p_blt cb_min2 (a_cons p_int (a_cons (p_var 2) a_nil)) B.min (by decide +kernel)) p_int bn_add)) ea_nil) rfl ⟨drawS h 21, min 20 (l : Int) + 1, by omega, by omega, rfl, rfl, rfl, rfl⟩) (congrArg D.int es)) ?_ sc_right.nd)
  refine b_cons (s_if (k := false) (t_cmp (p_blt cb_reprB (a_cons (p_call G.ml hr (a_cons (p_var 1) (a_cons (p_var 2) (a_cons (p_var 7) (a_cons (p_var 3) a_nil)))) ⟨o, l, sm, f, g, by omega, rfl, rfl⟩) a_nil) B.repr (by decide +kernel)) (p_blt cb_reprB (a_cons (p_cmp (p_call Gn hr (a_cons (p_var 1) (a_cons (p_var 7) (a_cons (p_var 3) a_nil))) ⟨o, sm, f, h1, h2, by omega, h5, by omega, rfl, rfl⟩) (p_var 2) c_eqI) a_nil) B.repr (by decide +kernel)) ne_str) (fun hk => by cases hk) (fun hk => ?_))
  refine b_nil ?_
  have G3 := fun (k : Nat) (hk : k ≤ l) => (show F_mlv [.int o, .int l, .int k, .int f] (.ok (.bl (decide ((k : Int) = (l : Int) - f + 1)))) from ⟨o, l, k, f, g, hk, rfl, rfl⟩)
  have e3 : (l : Int) - f + 1 = ((l - f + 1 : Nat) : Int) := by omega
  refine b_cons (s_if (k := false) ?_ (fun hk => by cases hk) (fun hk => ?_))
  · refine t_pw ?_
    by_cases hk : l < f + 20
    · refine w_and (k := true) (k' := false) (t_is (t_cmp (p_bin (p_var 2) (p_var 3) bn_sub) p_int c_lt) (decide_eq_true (by omega))) (fun _ => w_and1 (t_is (t_cmp (p_call G.mlv (d := .bl true) hr (a_cons (p_var 1) (a_cons (p_var 2) (a_cons (p_bin (p_bin (p_var 2) (p_var 3) bn_sub) p_int bn_add) (a_cons (p_var 3) a_nil)))) ⟨o, l, l - f + 1, f, g, by omega, by rw [e3], by rw [decide_eq_true e3.symm]⟩) p_bl c_isnotB) rfl))
    · exact w_and (k := false) (k' := false) (t_is (t_cmp (p_bin (p_var 2) (p_var 3) bn_sub) p_int c_lt) (decide_eq_false (by omega))) (fun hk => by cases hk)
  refine b_nil ?_
  refine b_cons (s_if (k := false) (t_cmp (p_blt cb_reprB (a_cons (p_call G.mlv hr (a_cons (p_var 1) (a_cons (p_var 2) (a_cons (p_var 7) (a_cons (p_var 3) a_nil)))) (G3 sm (by omega))) a_nil) B.repr (by decide +kernel)) (p_blt cb_reprB (a_cons (p_cmp (p_var 7) (p_bin (p_bin (p_var 2) (p_var 3) bn_sub) p_int bn_add) c_eqI) a_nil) B.repr (by decide +kernel)) ne_str) (fun hk => by cases hk) (fun hk => ?_))
  refine b_nil ?_
  refine b_cons (s_par 10 11 (a_cons (p_call Gb hr (a_cons (p_var 1) (a_cons (p_var 2) (a_cons (p_bin (p_bin (p_var 3) p_int bn_sub) p_int (bn_fdiv (by refine ⟨?_, ?_⟩ <;> decide +kernel))) a_nil))) ⟨o, l, (f - 1) / 2, by omega, h2, h4, by omega, by rw [cast_half h5], rfl⟩) (a_cons (p_call Gr hr (a_cons (p_var 1) (a_cons (p_var 2) a_nil)) ⟨o, l, h2, by omega, rfl, rfl⟩) a_nil)) ?_ sc_right.nd)
  have enb := near_ball (o := o) (l := l) h4 ((f - 1) / 2) (by omega)
  have hdv : ∀ x, CDivW x (ballL o l ((f - 1) / 2) : Nat) := fun x => by rw [← enb]; exact near_div h2 h4 (by omega) x
  have hpos : 0 < ballL o l ((f - 1) / 2) := by rw [← enb]; exact near_pos
  have hle : ballL o l ((f - 1) / 2) ≤ o ^ l := by rw [← enb]; exact near_le (by omega) l h4 _ (by omega)
  have hq : 1 ≤ o ^ l / ballL o l ((f - 1) / 2) := Nat.div_pos hle hpos
  refine b_cons (s_forT (ds := [D.int ((o ^ l / ballL o l ((f - 1) / 2) : Nat) : Int), .int 1, .int 2, .int (((o ^ l / ballL o l ((f - 1) / 2) : Nat) : Int) + 1)]) 8 (fun i Γ => ∃ e5 e8, Γ = [some (.ow (hE (drawS (drawS h 21) (min 20 (l : Int) + 1)))), some (.im (.int o)), some (.im (.int l)), some (.im (.int f)), some (.im (.int fm)), e5, some (.im (.lst ((fits o l f).map .int))), some (.im (.int sm)), e8, none, some (.im (.int (ballL o l ((f - 1) / 2) : Nat))), some (.im (.int (o ^ l : Nat))), none]) (p_tup (a_cons (p_bin (p_var 11) (p_var 10) (bn_fdiv (hdv _))) (a_cons p_int (a_cons p_int (a_cons (p_bin (p_bin (p_var 11) (p_var 10) (bn_fdiv (hdv _))) p_int bn_add) a_nil))))) ?_ (fun i d Γ hd hI => ?_) (fun Γ hI => ?_) PassesOwn.leaving sc_right.nd)
  · exact ⟨_, _, rfl⟩
  · obtain ⟨e5, e8, rfl⟩ := hI
    have hbig : o ^ l / ballL o l ((f - 1) / 2) ≤ 32 ^ 60 := Nat.le_trans (Nat.div_le_self _ _) (Nat.le_trans (Nat.pow_le_pow_left h2 l) (Nat.pow_le_pow_right (by decide) h4))
    obtain ⟨n, rfl, hn, hn2⟩ : ∃ n : Nat, d = .int n ∧ 1 ≤ n ∧ n ≤ 32 ^ 60 + 2 := by
      have hm := List.mem_of_getElem? hd
      simp only [List.mem_cons, List.not_mem_nil, or_false] at hm
      rcases hm with rfl | rfl | rfl | rfl
      · exact ⟨_, rfl, hq, by omega⟩
      · exact ⟨1, rfl, by decide, by omega⟩
      · exact ⟨2, rfl, by decide, by omega⟩
      · exact ⟨o ^ l / ballL o l ((f - 1) / 2) + 1, by rw [Int.natCast_add]; rfl, by omega, by omega⟩
    have hmw : CMulW (n : Int) (ballL o l ((f - 1) / 2) : Nat) := by
      rw [← enb]
      unfold CMulW
      rw [Int.natAbs_natCast, Int.natAbs_natCast]
      have z1 := near_small (o := o) (l := l) (f := (f - 1) / 2) h2 h4 (by omega)
      have z2 : n.log2 < 9000 := log2_of_lt (by decide) (Nat.lt_of_le_of_lt hn2 (by decide +kernel))
      omega
    refine b_cons (s_set 5 (p_blt cb_reprB (a_cons (p_cmp (p_bin (p_var 8) (p_var 10) (bn_mul hmw)) (p_var 11) c_eqI) a_nil) B.repr (by decide +kernel)) ?_ sc_right.nd)
    refine b_one (s_if (k := false) ?_ (fun hk => by cases hk) (fun hk => ?_))
    · refine t_pw ?_
      by_cases hk : n ≤ 10 ^ 40
      · refine w_and (k := true) (k' := false) (t_is (t_cmp (p_var 8) (p_bin p_int p_int (bn_pow (by refine ⟨?_, ?_, ?_⟩ <;> decide +kernel))) c_le) (decide_eq_true ?_)) (fun _ => w_and1 (t_cmp (p_blt cb_reprB (a_cons (p_is (p_call G.mb hr (a_cons (p_var 1) (a_cons (p_var 2) (a_cons (p_var 8) (a_cons (p_var 3) a_nil)))) ⟨o, l, n, f, g, hn, hk, rfl, rfl⟩) ?_) a_nil) B.repr (by decide +kernel)) (p_var 5) ne_str))
        · have e : (10 : Int) ^ (40 : Int).toNat = ((10 ^ 40 : Nat) : Int) := by decide +kernel
          rw [e]
          exact Int.ofNat_le.mpr hk
        · show D.bl _ = D.bl _
          rw [enb]
          congr 1
          refine decide_eq_decide.mpr ?_
          rw [← Int.natCast_mul]
          exact Int.ofNat_inj.symm
      · refine w_and (k := false) (k' := false) (t_is (t_cmp (p_var 8) (p_bin p_int p_int (bn_pow (by refine ⟨?_, ?_, ?_⟩ <;> decide +kernel))) c_le) (decide_eq_false ?_)) (fun hk => by cases hk)
        have e : (10 : Int) ^ (40 : Int).toNat = ((10 ^ 40 : Nat) : Int) := by decide +kernel
        rw [e]
        exact fun z => hk (Int.ofNat_le.mp z)
    · refine b_nil ?_
      exact ⟨_, _, rfl⟩
  · obtain ⟨e5, e8, rfl⟩ := hI
    obtain ⟨hw, eh, hh⟩ := draw_nat (drawS (drawS h 21) (min 20 (l : Int) + 1)) (n := (l : Int) + 1) (by omega)
    refine b_cons (s_setE 9 (d := .int hw) (ev_is (ev_call 0 Gd hr (ea_cons (ev_p (p_bin (p_var 2) p_int bn_add)) ea_nil) rfl ⟨drawS (drawS h 21) (min 20 (l : Int) + 1), (l : Int) + 1, by omega, by omega, rfl, rfl, rfl, rfl⟩) (congrArg D.int eh)) ?_ sc_right.nd)
    have hF : F_ww [.int l, .int f, .int hw] (.ok (.int (ww l f hw))) := ⟨l, f, hw, h4, by omega, h5, by omega, rfl, rfl⟩
    refine b_cons (s_set 5 (p_call Gw hr (a_cons (p_var 2) (a_cons (p_var 3) (a_cons (p_var 9) a_nil))) hF) ?_ sc_right.nd)
    exact b_one (s_ret (p_cmp (p_lst (a_cons (p_call G.ww hr (a_cons (p_var 2) (a_cons (p_var 3) (a_cons (p_var 9) a_nil))) hF) (a_cons (p_call G.ww hr (a_cons (p_var 2) (a_cons (p_var 3) (a_cons (p_var 9) a_nil))) hF) a_nil))) (p_lst (a_cons (p_var 5) (a_cons (p_var 5) a_nil))) (c_eqSame hu (eqOk_ints [ww l f hw, ww l f hw]))) ⟨rfl, rfl⟩)
end
end K19

set_option Elab.async false
set_option linter.all false
set_option maxRecDepth 100000
set_option maxHeartbeats 4000000
set_option exponentiation.threshold 10000
namespace K19
open PySem PySem.Spec PyProof.Rows L2 Spr
/-- what is said of each outcome -/
def F_said (C : Addr) : Fd := fun r d => r = .error (eN C) ∧ d = .str "number"
/-- what the suite asks of the classes -/
structure Cls3 (K : PySem.W.Frag) (mg : Str → Option Value) (C CR CT : Addr) : Prop where
  gR : mg "RowError" = some (.ref CR)
  gT : mg "TooMany" = some (.ref CT)
  gN : mg "NoNumber" = some (.ref C)
  ex : PySem.W.exmOne K (.ref C) (.ref CR) = some true
  ec : ExcC K C
  k1 : PySem.W.kitOne K (.ref C) (.type "ValueError") = some true
  k2 : PySem.W.kitOne K (.ref C) (.ref CT) = some false
  k3 : PySem.W.kitOne K (.ref C) (.ref C) = some true
theorem sc_said : FnScope ["call", "e", "flags"] ["call"] (defScope st_law_said) := ⟨rfl, rfl, rfl, by decide +kernel, rfl, by decide +kernel, by decide +kernel⟩
theorem one_cnt : cntD [.bl true] (.bl true) = 1 := by decide +kernel
theorem said {X : Cx} {g C CR CT : Addr} {cdg : Value} {q : Str} (hk : ∀ s H, (Sx X ["call", "e", "flags"] "_law_said" (defScope st_law_said) g cdg s H).A.units + 65 < cLine) (B : Fr X.mg) (T : Cls3 X.K X.mg C CR CT) :
    LamX.GivesTo X ["call", "e", "flags"] "_law_said" (defScope st_law_said) g cdg (defBody st_law_said) "call" q (TTe X.K (F_said C)) := by
  refine said_givesE (F := F_said C) 1 rfl T.gR (by decide) sc_said.nd rfl rfl (fun e rd h => by obtain ⟨h1, _⟩ := h; cases h1; exact T.ex) (fun s H H2 S e rd b oe dx pn hF hz hdx hf => ?_) (fun s H H2 f S rd hF => by obtain ⟨h1, _⟩ := hF; cases h1)
  obtain ⟨h1, rfl⟩ := hF
  cases h1
  have hdx := hdx rfl
  subst hdx
  have hu := hk s H
  refine b_cons (s_if (k := false) (t_is (t_not (t_val (p_blt (cb_isE T.ec hz hf (v := .ty "ValueError") (cv := .type "ValueError") (fun u r => r) T.k1) (a_cons (p_var 1) (a_cons (p_ty B.ve (by decide +kernel)) a_nil)) B.isi (by decide +kernel)))) rfl) (fun hk => by cases hk) (fun hk => ?_))
  refine b_nil ?_
  refine b_cons (s_if (k := false) (t_val (p_blt (cb_isE T.ec hz hf (v := .ref CT) (cv := .ref CT) (fun u r => r) T.k2) (a_cons (p_var 1) (a_cons (p_glob T.gT rfl) a_nil)) B.isi (by decide +kernel))) (fun hk => by cases hk) (fun hk => ?_))
  refine b_nil ?_
  refine b_cons (s_set 2 (d := .lst [.bl true]) (p_lst (a_cons (p_blt (cb_isE T.ec hz hf (v := .ref C) (cv := .ref C) (fun u r => r) T.k3) (a_cons (p_var 1) (a_cons (p_glob T.gN rfl) a_nil)) B.isi (by decide +kernel)) a_nil)) ?_ sc_said.nd)
  refine b_one (s_ret (d := .str "number") (p_if (k := true) (t_is (t_cmp (p_count hu (p_var 2) p_bl (by decide +kernel) (by decide +kernel) (fun to ta h1 h2 => pe_bm PySem.F.plainAttrs_list PySem.F.slot_list_count PySem.F.type_list_count (mt_countD hu) h1 h2)) p_int c_eqI) (by rw [one_cnt]; rfl)) (fun _ => p_ixL (p_lst (a_cons p_str a_nil)) (p_index (n := 0) (z := .bl true) hu (p_var 2) p_bl (by decide +kernel) (by decide +kernel) rfl (by decide +kernel) (fun m z' hm => by omega) (fun to ta h1 h2 => pe_bm PySem.F.plainAttrs_list PySem.F.slot_list_index PySem.F.type_list_index (mt_indexD hu) h1 h2)) rfl) (fun hk => by cases hk)) rfl)
end K19

set_option Elab.async false
set_option linter.all false
set_option maxRecDepth 100000
set_option maxHeartbeats 4000000
set_option exponentiation.threshold 10000
namespace K19
open PySem PySem.Spec PyProof.Rows L2 Spr
abbrev lamQ : Str := ((PySem.Str.ofString "law" ++ ".<locals>.") ++ "<lambda>")
theorem sc_law : FnScope ["script", "hand", "lap", "none", "said", "order", "length", "away"] ["script"] (defScope st_law) := ⟨rfl, rfl, rfl, by decide +kernel, rfl, by decide +kernel, by decide +kernel⟩
theorem in_bn : [23, 7, 4096] ∈ bn 2 23 := by decide +kernel
/-- what is drawn from a list of bad things is bad -/
theorem any_bad {q : D → Prop} {xs : List D} (n : Int) (hn : 0 < n) (hx : (xs.length : Int) = n) (h : Hd) (hq : ∀ d ∈ xs, q d) : ∃ d, L2.atI xs (drawR h xs.length) = some d ∧ q d := by
  obtain ⟨d, h1, h2⟩ := atI_draw (xs := xs) (h := h) hn hx
  exact ⟨d, by rw [hx]; exact h2, hq d (List.mem_of_getElem? h1)⟩
theorem s_appE2 {X : Cx} {c : Cn} {Γ Γ1 : Gm} {e : Expr} {pos : Pos} {Po : Post} {x : Str} (k : Nat) {l : List D} {d : D} {p1 p2 p3 : Pos} (he : Ev X c Γ e d Γ1) (hk : ∃ l0, Γ[k]? = some (some (.ow l0))) (hk1 : Γ1[k]? = some (some (.ow l))) (hz : l.length < 16000000) (hr : Po.nx (Γ1.set k (some (.ow (l ++ [d])))))
    (hbm : ∀ ta, PA X [e] ta → PE X (.Call (.Attribute (.Name x p1) "append" p2) [e] [] p3) (tBM X.K "list" rAppend (tVar k) ta)) (hN : X.N[k]? = some x := by rfl) (hv : Vis X.env.scope x := by first | exact Or.inl rfl | exact Or.inr (Or.inl rfl) | exact Or.inr (Or.inr rfl))
    (hd : (x == ("__debug__" : Str)) = false := by decide) (hcd : (x == ("__classdict__" : Str)) = false := by decide) (hst : starEach [e] X.env = (false, eval e X.env) :: starEach [] X.env := by rfl)
    (hs : swapsWith (.Call (.Attribute (.Name x p1) "append" p2) [e] [] p3) none pos.line X.env = pure false := by rfl) : Sm X c Γ (.Expr (.Call (.Attribute (.Name x p1) "append" p2) [e] [] p3) pos) Po :=
  s_appE k he hk hk1 hz hr hN hv hd hcd hst rfl hbm hs
section
variable {P : Program} {w : World} {K : PySem.W.Frag} {mg : Str → Option Value} {base : Heap} {C CR CT : Addr}
theorem ok_law {f cc Pt g : Addr} {dV kV doc pm ct oc dV2 kV2 doc2 pm2 cdv2 ct2 oc2 : Value} {an od an2 od2 : Option Addr} {osl osl2 : Array (Option Value)}
    (B : Fr mg) (T : Cls3 K mg C CR CT) (G : Gs P w K mg base C) (Gbn : FoP P w K mg base 3 "balls_numbers" (F_bn (eN C)))
    (Gh : Fo P w K mg base 1 "_law_hand" (upN K F_hand)) (Gd : Fo P w K mg base 1 "_law_draw" (upH K F_draw)) (Ga : Fo P w K mg base 2 "_law_any" (upH K F_any)) (G3 : Fo P w K mg base 3 "_law_three" (upH K F_three)) (Gn : Fo P w K mg base 3 "_law_no_three" (upH K F_no)) (Gr : Fo P w K mg base 5 "_law_is_right" (upH K F_right)) (Gar : FoP P w K mg base 4 "_law_are_balls_right" F_abr)
    (hmS : mg "_law_said" = some (.ref g)) (hkS : PySem.W.keepIn K (.ref g) = true) (lkS : K.lookup g = some ⟨oc2, od2, .func (PySem.W.fnOf "_law_said" "_law_said" (defArgs st_law_said) (defBody st_law_said) (defScope st_law_said) dV2 kV2 doc2 pm2 an2 cdv2 ct2), osl2⟩) (hcS : PySem.W.codeIn K cdv2 "_law_said" = true) (hbS : L2.Binds K (PySem.W.fnOf "_law_said" "_law_said" (defArgs st_law_said) (defBody st_law_said) (defScope st_law_said) dV2 kV2 doc2 pm2 an2 cdv2 ct2) ["call"] [])
    (TB : LamX.TabB base mg cc Pt)
    (lk : K.lookup f = some ⟨oc, od, .func (PySem.W.fnOf "law" "law" (defArgs st_law) (defBody st_law) (defScope st_law) dV kV doc pm an (.ref cc) ct), osl⟩) (hcd : PySem.W.codeIn K (.ref cc) "law" = true) :
    FnOk P w K mg base (L2.CX P w) 9 f (PySem.W.fnOf "law" "law" (defArgs st_law) (defBody st_law) (defScope st_law) dV kV doc pm an (.ref cc) ct) ["script"] (spLaw K [(Pt, lamQ)] 63) := by
  refine mkLaw lk hcd sc_law fun A outer s H E H0 ns hr hn hz => ?_
  have hu := room_hu hr
  refine b_cons (s_setO 1 (l := hE (hInit ns)) (n_call Gh hr (a_cons (p_var 0) a_nil) ⟨ns, hn, rfl, rfl⟩) ?_ sc_law.nd)
  have g273 : Go 2 7 3 := ⟨by decide, by decide, by decide, by decide, by decide, by decide⟩
  refine b_cons (s_if (k := false) (t_pw (w_or (k := false) (k' := false) (t_is (t_cmp (p_call G.ll hr (a_cons p_int (a_cons p_int (a_cons p_int a_nil))) (.inl ⟨2, 4, 3, by decide, by decide, by decide, by decide, by decide, rfl, rfl⟩)) p_int c_neI) (by decide +kernel)) (fun hk => (w_or (k := false) (k' := false) (t_is (t_cmp (p_call G.ml hr (a_cons p_int (a_cons p_int (a_cons p_int (a_cons p_int a_nil)))) ⟨2, 7, 4, 3, g273, by decide, rfl, rfl⟩) p_bl c_isnotB) (by decide +kernel)) (fun hk => (w_or1 (t_is (t_cmp (p_call G.mbl hr (a_cons p_int (a_cons p_int (a_cons p_int a_nil))) (.inl ⟨2, 7, 3, g273, rfl, rfl⟩)) p_int c_neI) (by decide +kernel)))))))) (fun hk => by cases hk) (fun hk => ?_))
  refine b_nil ?_
  refine b_cons (s_if (k := false) (t_pw (w_or (k := false) (k' := false) (t_is (t_cmp (p_is (d' := tupD [23, 7, 4096]) (p_tup (a_cons p_int (a_cons p_int (a_cons p_int a_nil)))) rfl) (p_call Gbn hr (a_cons p_int (a_cons p_int a_nil)) (.inl ⟨2, 23, by decide, by decide, by decide, by decide, rfl, rfl⟩)) (c_notinD (by have := hr.un; omega) (eqOk_tup _) (eqOk_tups _))) ?_) (fun hk => (w_or (k := false) (k' := false) (t_is (t_cmp (p_call G.ww hr (a_cons p_int (a_cons p_int (a_cons p_int a_nil))) ⟨7, 4, 3, by decide, by decide, by decide, by decide, rfl, rfl⟩) p_int c_neI) (by decide +kernel)) (fun hk => (w_or1 (t_is (t_cmp (p_call G.mb hr (a_cons p_int (a_cons p_int (a_cons p_int (a_cons p_int a_nil)))) ⟨2, 7, 16, 3, g273, by decide, by decide, rfl, rfl⟩) p_bl c_isnotB) (by decide +kernel)))))))) (fun hk => by cases hk) (fun hk => ?_))
  · have z : ((bn 2 23).map tupD).any (fun z => deq z (tupD [23, 7, 4096])) = true := List.any_eq_true.mpr ⟨tupD [23, 7, 4096], List.mem_map_of_mem in_bn, deq_refl _⟩
    rw [z]
    rfl
  refine b_nil ?_
  refine b_cons (s_forR1 2 (fun i Γ => ∃ (h : Hd) (e2 e3 e4 e5 e6 e7 : Option Ent), Γ = [some (.im (.lst (ns.map .int))), some (.ow (hE h)), e2, e3, e4, e5, e6, e7]) (a_cons p_int a_nil) (by constructor <;> decide) ⟨hInit ns, none, none, none, none, none, none, rfl⟩ (fun i Γ hi hI => ?_) (fun Γ hI => ?_) B.range PassesOwn.leaving sc_law.nd)
  · obtain ⟨h, e2, e3, e4, e5, e6, e7, rfl⟩ := hI
    obtain ⟨m, hm1, hm2⟩ := atI_draw (xs := [.int 8, .int 60]) (h := h) (n := 2) (by decide) (by decide)
    obtain ⟨mm, rfl, hmm1, hmm2⟩ : ∃ mm : Int, m = .int mm ∧ 1 ≤ mm ∧ mm ≤ 60 := by
      have hm := List.mem_of_getElem? hm1
      simp at hm
      rcases hm with rfl | rfl <;> exact ⟨_, rfl, by decide, by decide⟩
    obtain ⟨o, l, fr, ho, go, q1, q2, q3⟩ := three_go (drawS h 2) mm hmm1 hmm2
    refine b_cons (s_unpackE [5, 6, 7] (ds := [.int o, .int l, .int fr]) (ev_is (ev_call 1 G3 hr (ea_cons (ev_call 1 Ga hr (ea_cons (ev_p (p_lst (a_cons p_int (a_cons p_int a_nil)))) ea_nil) rfl ⟨h, [.int 8, .int 60], by decide, by decide, rfl, rfl, hm2, rfl⟩) ea_nil) rfl ⟨drawS h 2, mm, hmm1, hmm2, rfl, rfl, rfl, rfl⟩) (by rw [q1, q2, q3])) ?_ (hg := pgs_cons (pg_name (i := 5) sc_law.nd rfl (Or.inl rfl)) (pgs_cons (pg_name (i := 6) sc_law.nd rfl (Or.inl rfl)) (pgs_cons (pg_name (i := 7) sc_law.nd rfl (Or.inl rfl)) pgs_nil))))
    generalize thS (drawS h 2) mm = h1
    refine b_cons (s_ifE (k := false) (et_not (k := true) (et_val (ev_call 1 Gr hr (ea_cons (ev_p (p_var 5)) (ea_cons (ev_p (p_var 6)) (ea_cons (ev_p (p_var 7)) ea_nil))) rfl ⟨h1, o, l, fr, go, rfl, rfl, rfl, rfl⟩))) (fun hk => by cases hk) (fun hk => ?_))
    refine b_nil ?_
    generalize riS h1 l = h2
    obtain ⟨nd, hd1, hd2⟩ := atI_draw (xs := noL) (h := h2) (n := 12) (by decide) (by decide)
    obtain ⟨a, b, c, rfl, tg, hb⟩ := no_bad nd (List.mem_of_getElem? hd1)
    refine b_cons (s_setE 3 (ev_call 1 Gn hr ea_nil rfl ⟨h2, rfl, rfl, hd1, rfl⟩) ?_ sc_law.nd)
    generalize drawS h2 12 = h3
    have SG := fun s H => said (X := Bx P w K mg base ["script", "hand", "lap", "none", "said", "order", "length", "away"] "law" (defScope st_law) f (.ref cc) A outer s H E) (g := g) (cdg := cdv2) (q := lamQ) (fun s H => by have hun : A.units + 3 + 16 * 8 + 200 < cLine := hr.un; show A.units + 3 + 3 + 65 < cLine; omega) B T
    obtain ⟨x1, y1, z1, z2⟩ := any_bad (q := fun d => tyGood d = true ∧ gdL d (.int 3) (.int 2) = false) (xs := [.int 1, .int 33, .non, .bl true, .str "2"]) 5 (by decide) rfl h3 (by intro d hd; simp at hd; rcases hd with rfl | rfl | rfl | rfl | rfl <;> exact ⟨rfl, by decide⟩)
    refine b_cons (s_setOE 4 (ea_cons (ev_lamE (F := F_said C) (rd := .str "number") (r := .error (eN C)) (a := "call") (k := 5) (cc := cc) (P := Pt) rfl hmS hkS lkS hcS hbS sc_said rfl (Or.inl rfl)
        (SG s H) TB rfl (by exact List.mem_singleton.mpr rfl) (fun p hp _ => by rcases List.mem_singleton.mp hp with rfl; rfl) (hr.mono (by decide)) (LamX.lamS_by (by rfl)) rfl (fun _ _ _ _ _ => rfl)
        (fun A' outer' s' H' E' f' c' hr' => xe_call (takes_of rfl rfl rfl rfl) G.ll hr' (ea_cons (ev_call 1 Ga hr' (ea_cons (ev_p (p_lst (a_cons p_int (a_cons p_int (a_cons p_non (a_cons p_bl (a_cons p_str a_nil))))))) ea_nil) rfl ⟨h3, _, by decide, by decide, rfl, rfl, y1, rfl⟩) (ea_cons (ev_p p_int) (ea_cons (ev_p p_int) ea_nil))) (.inr ⟨x1, .int 3, .int 2, ⟨z1, rfl, rfl⟩, z2, rfl, rfl⟩)) ⟨rfl, rfl⟩ rfl (fun a h => h)) ea_nil) ?_ sc_law.nd)
    generalize drawS h3 _ = h4
    obtain ⟨x2, y2, z3, z4⟩ := any_bad (q := fun d => tyGood d = true ∧ gdL (.int 2) (.int 3) d = false) (xs := [.int 0, .int 61, .non, .bl true]) 4 (by decide) rfl h4 (by intro d hd; simp at hd; rcases hd with rfl | rfl | rfl | rfl <;> exact ⟨rfl, by decide⟩)
    refine b_cons (s_appE2 4 (l := [.str "number"]) (ev_lamE (F := F_said C) (rd := .str "number") (r := .error (eN C)) (a := "call") (k := 5) (cc := cc) (P := Pt) rfl hmS hkS lkS hcS hbS sc_said rfl (Or.inl rfl)
        (SG s H) TB rfl (by exact List.mem_singleton.mpr rfl) (fun p hp _ => by rcases List.mem_singleton.mp hp with rfl; rfl) (hr.mono (by decide)) (LamX.lamS_by (by rfl)) rfl (fun _ _ _ _ _ => rfl)
        (fun A' outer' s' H' E' f' c' hr' => xe_call (takes_of rfl rfl rfl rfl) G.ll hr' (ea_cons (ev_p p_int) (ea_cons (ev_p p_int) (ea_cons (ev_call 1 Ga hr' (ea_cons (ev_p (p_lst (a_cons p_int (a_cons p_int (a_cons p_non (a_cons p_bl a_nil)))))) ea_nil) rfl ⟨h4, _, by decide, by decide, rfl, rfl, y2, rfl⟩) ea_nil))) (.inr ⟨.int 2, .int 3, x2, ⟨rfl, rfl, z3⟩, z4, rfl, rfl⟩)) ⟨rfl, rfl⟩ rfl (fun a h => h)) ⟨_, rfl⟩ rfl (by decide) ?_ (hbm := fun ta h => pe_bm PySem.F.plainAttrs_list PySem.F.slot_list_append PySem.F.type_list_append mt_append (pe_var (i := 4) rfl (Or.inl rfl)) h))
    generalize drawS h4 _ = h5
    refine b_cons (s_appE2 4 (l := [.str "number", .str "number"]) (ev_lamE (F := F_said C) (rd := .str "number") (r := .error (eN C)) (a := "call") (k := 5) (cc := cc) (P := Pt) rfl hmS hkS lkS hcS hbS sc_said rfl (Or.inl rfl)
        (SG s H) TB rfl (by exact List.mem_singleton.mpr rfl) (fun p hp _ => by rcases List.mem_singleton.mp hp with rfl; rfl) (hr.mono (by decide)) (LamX.lamS_by (by rfl)) rfl (fun _ _ _ _ _ => rfl)
        (fun A' outer' s' H' E' f' c' hr' => xe_x (x_call (takes_of rfl rfl rfl rfl) G.mbl hr' (a_cons (p_ixT (p_var 3) p_int rfl) (a_cons (p_ixT (p_var 3) p_int rfl) (a_cons (p_ixT (p_var 3) p_int rfl) a_nil))) (.inr ⟨a, b, c, tg, hb, rfl, rfl⟩))) ⟨rfl, rfl⟩ rfl (fun a h => h)) ⟨_, rfl⟩ rfl (by decide) ?_ (hbm := fun ta h => pe_bm PySem.F.plainAttrs_list PySem.F.slot_list_append PySem.F.type_list_append mt_append (pe_var (i := 4) rfl (Or.inl rfl)) h))
    obtain ⟨x4, y4, z5, z6⟩ := any_bad (q := fun d => tyGood d = true ∧ gdB (.int 2) d = false) (xs := [.int 41, .int (-1), .non, .bl true]) 4 (by decide) rfl h5 (by intro d hd; simp at hd; rcases hd with rfl | rfl | rfl | rfl <;> exact ⟨rfl, by decide⟩)
    refine b_cons (s_appE2 4 (l := [.str "number", .str "number", .str "number"]) (ev_lamE (F := F_said C) (rd := .str "number") (r := .error (eN C)) (a := "call") (k := 5) (cc := cc) (P := Pt) rfl hmS hkS lkS hcS hbS sc_said rfl (Or.inl rfl)
        (SG s H) TB rfl (by exact List.mem_singleton.mpr rfl) (fun p hp _ => by rcases List.mem_singleton.mp hp with rfl; rfl) (hr.mono (by decide)) (LamX.lamS_by (by rfl)) rfl (fun _ _ _ _ _ => rfl)
        (fun A' outer' s' H' E' f' c' hr' => xe_call (takes_of rfl rfl rfl rfl) Gbn hr' (ea_cons (ev_p p_int) (ea_cons (ev_call 1 Ga hr' (ea_cons (ev_p (p_lst (a_cons p_int (a_cons (p_neg p_int) (a_cons p_non (a_cons p_bl a_nil)))))) ea_nil) rfl ⟨h5, _, by decide, by decide, rfl, rfl, y4, rfl⟩) ea_nil)) (.inr ⟨.int 2, x4, rfl, z5, z6, rfl, rfl⟩)) ⟨rfl, rfl⟩ rfl (fun a h => h)) ⟨_, rfl⟩ rfl (by decide) ?_ (hbm := fun ta h => pe_bm PySem.F.plainAttrs_list PySem.F.slot_list_append PySem.F.type_list_append mt_append (pe_var (i := 4) rfl (Or.inl rfl)) h))
    generalize drawS h5 _ = h6
    refine s_freeze 4 rfl ?_
    refine b_one (s_if (k := false) (t_cmp (p_var 4) (p_is (n_p (n_mul (n_lst (a_cons p_str a_nil)) p_int (by decide) (by decide))) rfl) (c_neSame hu (by decide +kernel))) (fun hk => by cases hk) (fun hk => ?_))
    exact b_nil ⟨_, _, _, _, _, _, _, rfl⟩
  · obtain ⟨h, e2, e3, e4, e5, e6, e7, rfl⟩ := hI
    obtain ⟨x1, y1, z1⟩ := any_bad (q := fun d => ∃ o : Nat, o ∈ [2, 3, 4, 5, 6] ∧ d = .int o) (xs := [.int 2, .int 3, .int 4, .int 5, .int 6]) 5 (by decide) rfl h (by intro d hd; simp at hd; rcases hd with rfl | rfl | rfl | rfl | rfl <;> first | exact ⟨2, by decide, rfl⟩ | exact ⟨3, by decide, rfl⟩ | exact ⟨4, by decide, rfl⟩ | exact ⟨5, by decide, rfl⟩ | exact ⟨6, by decide, rfl⟩)
    obtain ⟨o, ho, rfl⟩ := z1
    obtain ⟨m, em, hm⟩ := draw_nat (drawS h 5) (n := 24) (by decide)
    exact b_one (s_retE (d := .bl true) (ev_callP Gar hr (ea_cons (ev_call 1 Ga hr (ea_cons (ev_p (p_lst (a_cons p_int (a_cons p_int (a_cons p_int (a_cons p_int (a_cons p_int a_nil))))))) ea_nil) rfl ⟨h, _, by decide, by decide, rfl, rfl, y1, rfl⟩) (ea_cons (ev_is (ev_bin (ev_p p_int) (ev_call 1 Gd hr (ea_cons (ev_p p_int) ea_nil) rfl ⟨drawS h 5, 24, by decide, by decide, rfl, rfl, rfl, rfl⟩) bn_add) (d' := .int ((m + 1 : Nat) : Int)) (by rw [em]; exact congrArg D.int (by omega))) ea_nil)) ⟨o, m + 1, ho, by omega, by omega, rfl, rfl⟩) rfl)
end
end K19

set_option Elab.async false
set_option linter.all false
set_option maxRecDepth 100000
set_option maxHeartbeats 0
namespace K19
open PySem PySem.Spec PyProof.Rows L2 Spr
theorem facts {w : World} {K : PySem.W.Frag} {h : Heap} {mg : Str → Option Value} {f0 : Addr} (X : K.In h) (G : h.Ns mainGlobals mg) (hfa : mg "law" = some (.ref f0)) (c : SaysS fa fn tf ex h K) :
    LamX.LawAtS PySem.Challenge.rw_spoiltrows_k19_whole_bounds_by_length_an w K (L2.CX mainP w) 9 63 "script" mg f0 h := by
  have hex := c.more
  unfold ex at hex
  obtain ⟨x1, hex⟩ := He.ba hex
  obtain ⟨x2, hex⟩ := He.ba hex
  obtain ⟨x3, hex⟩ := He.ba hex
  obtain ⟨x4, hex⟩ := He.ba hex
  obtain ⟨x5, x6⟩ := He.ba hex
  have fr : ∀ {x : Str}, (He.Fa.free x) ∈ fa → mg x = none := fun hm => He.free_ok X G (c.d.facts hm)
  have gl : ∀ {x : Str}, (He.Fa.glo x) ∈ fa → mg x = some (.ref (He.ga K x)) := fun hm => He.glo_ok X G (c.d.facts hm)
  have B : Fr mg := ⟨fr (by simp [fa]), fr (by simp [fa]), fr (by simp [fa]), fr (by simp [fa]), fr (by simp [fa]), fr (by simp [fa]), fr (by simp [fa]), fr (by simp [fa]), fr (by simp [fa]), fr (by simp [fa]), fr (by simp [fa]), fr (by simp [fa]), fr (by simp [fa])⟩
  have T := xtB_ok (prog := mainP) X G x1
  have F0 := xf0B_ok x2
  have C3 : Cls3 K mg (He.ga K "NoNumber") (He.ga K "RowError") (He.ga K "TooMany") := ⟨gl (by simp [fa]), gl (by simp [fa]), gl (by simp [fa]), He.exm_ok (c.d.facts (f := .exm "NoNumber" "RowError" true) (by simp [fa])), excCB_ok x3, of_decide_eq_true x4, of_decide_eq_true x5, of_decide_eq_true x6⟩
  obtain ⟨fdL, FL⟩ := c.d.def_ 25 (d := d_law) rfl
  have e := hfa.symm.trans (gl (x := "law") (by simp [fa]))
  have e0 : f0 = He.ga K "law" := by cases e; rfl
  subst e0
  obtain ⟨fdS, FS⟩ := c.d.def_ 20 (d := d_law_said) rfl
  have bS := FS.bindsN (ps := ["call"]) fun _ _ _ _ _ _ us hl => match us, hl with | [_], _ => rfl
  have bA := FL.bindsA (ps := ["script"]) fun _ _ _ _ _ _ us hl => match us, hl with | [_], _ => rfl
  obtain ⟨oc, od, dV, kV, doc, pm, an, cdv, ct, osl, eL, lk, hcd, _, _⟩ := FL.ex
  obtain ⟨oc2, od2, dV2, kV2, doc2, pm2, an2, cdv2, ct2, osl2, eS, lkS, hcS, _, _⟩ := FS.ex
  obtain ⟨cc, hcc⟩ := He.codeIn_ref hcd
  subst hcc
  subst eL
  subst eS
  have ecd : He.codeOf K ("law", none) = cc := He.codeOf_eq lk rfl
  have ect : He.cT K ("law", none) = (cc, He.tabOf K cc) := by unfold He.cT; rw [ecd]
  have h1 := c.hd ("law", none) (by simp [tf])
  have h2 := c.out ("law", none) (by simp [tf])
  have h3 := c.empty ("law", none) (by simp [tf])
  rw [ect] at h1 h2 h3
  refine ⟨_, [(cc, He.tabOf K cc)], spLaw K [(He.tabOf K cc, lamQ)] 63, fun p hp => ?_, fun p hp => ?_, fun p hp => ?_, fun s u => bA s [u] rfl, fun H a ns hl hz hT hs => ⟨a, ns, rfl, hl, hz, hs, fun p hp => ?_, fun H' => rfl⟩, fun base KB GB TBs => ?_⟩
  · rcases List.mem_singleton.mp hp with rfl; exact h3
  · rcases List.mem_singleton.mp hp with rfl; exact h2
  · rcases List.mem_singleton.mp hp with rfl; exact PySem.W.codeHd_of_K X h1
  · rcases List.mem_singleton.mp hp with rfl; exact hT (cc, He.tabOf K cc) (List.mem_singleton.mpr rfl)
  · have TB := TBs (cc, He.tabOf K cc) (List.mem_singleton.mpr rfl)
    obtain ⟨fd_is_integer, Df_is_integer⟩ := c.d.def_ 0 (d := d_is_integer) rfl
    have G_is_integer : FoP mainP w K mg base 1 "is_integer" F_isint := mkFo Df_is_integer (ok_isint B (He5.fun_of Df_is_integer)) (gl (by simp [fa])) (fun _ _ _ _ _ _ us hl => match us, hl with | [_], _ => rfl)
    obtain ⟨fd_is_within, Df_is_within⟩ := c.d.def_ 1 (d := d_is_within) rfl
    have G_is_within : FoP mainP w K mg base 2 "is_within" F_within := mkFo Df_is_within (ok_within G_is_integer (He5.fun_of Df_is_within)) (gl (by simp [fa])) (fun _ _ _ _ _ _ us hl => match us, hl with | [_, _, _], _ => rfl)
    obtain ⟨fd_choose, Df_choose⟩ := c.d.def_ 2 (d := d_choose) rfl
    have G_choose : FoP mainP w K mg base 1 "choose" F_choose := mkFo Df_choose (ok_choose B (He5.fun_of Df_choose)) (gl (by simp [fa])) (fun _ _ _ _ _ _ us hl => match us, hl with | [_, _], _ => rfl)
    obtain ⟨fd_raised, Df_raised⟩ := c.d.def_ 4 (d := d_raised) rfl
    have G_raised : FoP mainP w K mg base 1 "raised" F_raised := mkFo Df_raised (ok_raised B (He5.fun_of Df_raised)) (gl (by simp [fa])) (fun _ _ _ _ _ _ us hl => match us, hl with | [_, _], _ => rfl)
    obtain ⟨fd_check_told, Df_check_told⟩ := c.d.def_ 3 (d := d_check_told) rfl
    have G_check_told : FoP mainP w K mg base 3 "check_told" (F_check (eN (He.ga K "NoNumber"))) := mkFo Df_check_told (ok_check G_is_within T F0 (He5.fun_of Df_check_told)) (gl (by simp [fa])) (fun _ _ _ _ _ _ us hl => match us, hl with | [_, _, _], _ => rfl)
    obtain ⟨fd_near_of, Df_near_of⟩ := c.d.def_ 5 (d := d_near_of) rfl
    have G_near_of : FoP mainP w K mg base 2 "near_of" F_near := mkFo Df_near_of (ok_near B G_choose G_raised (He5.fun_of Df_near_of)) (gl (by simp [fa])) (fun _ _ _ _ _ _ us hl => match us, hl with | [_, _, _], _ => rfl)
    obtain ⟨fd_least_length, Df_least_length⟩ := c.d.def_ 6 (d := d_least_length) rfl
    have G_least_length : FoP mainP w K mg base 3 "least_length" (F_ll (eN (He.ga K "NoNumber"))) := mkFo Df_least_length (ok_ll B G_is_within T F0 (He5.fun_of Df_least_length)) (gl (by simp [fa])) (fun _ _ _ _ _ _ us hl => match us, hl with | [_, _, _], _ => rfl)
    obtain ⟨fd_meets_leaving, Df_meets_leaving⟩ := c.d.def_ 7 (d := d_meets_leaving) rfl
    have G_meets_leaving : FoP mainP w K mg base 4 "meets_leaving" F_mlv := mkFo Df_meets_leaving (ok_mlv G_is_within G_check_told (He5.fun_of Df_meets_leaving)) (gl (by simp [fa])) (fun _ _ _ _ _ _ us hl => match us, hl with | [_, _, _, _], _ => rfl)
    obtain ⟨fd_meets_balls, Df_meets_balls⟩ := c.d.def_ 8 (d := d_meets_balls) rfl
    have G_meets_balls : FoP mainP w K mg base 4 "meets_balls" F_mb := mkFo Df_meets_balls (ok_mb G_is_within G_check_told G_raised G_near_of (He5.fun_of Df_meets_balls)) (gl (by simp [fa])) (fun _ _ _ _ _ _ us hl => match us, hl with | [_, _, _, _], _ => rfl)
    obtain ⟨fd_balls_numbers, Df_balls_numbers⟩ := c.d.def_ 9 (d := d_balls_numbers) rfl
    have G_balls_numbers : FoP mainP w K mg base 3 "balls_numbers" (F_bn (eN (He.ga K "NoNumber"))) := mkFo Df_balls_numbers (ok_bn B G_is_within G_raised G_near_of T F0 (He5.fun_of Df_balls_numbers)) (gl (by simp [fa])) (fun _ _ _ _ _ _ us hl => match us, hl with | [_, _], _ => rfl)
    obtain ⟨fd_with_weight, Df_with_weight⟩ := c.d.def_ 10 (d := d_with_weight) rfl
    have G_with_weight : FoP mainP w K mg base 3 "with_weight" F_ww := mkFo Df_with_weight (ok_ww B G_is_within (He5.fun_of Df_with_weight)) (gl (by simp [fa])) (fun _ _ _ _ _ _ us hl => match us, hl with | [_, _, _], _ => rfl)
    obtain ⟨fd_meets_length, Df_meets_length⟩ := c.d.def_ 11 (d := d_meets_length) rfl
    have G_meets_length : FoP mainP w K mg base 4 "meets_length" F_ml := mkFo Df_meets_length (ok_ml G_is_within G_check_told G_least_length (He5.fun_of Df_meets_length)) (gl (by simp [fa])) (fun _ _ _ _ _ _ us hl => match us, hl with | [_, _, _, _], _ => rfl)
    obtain ⟨fd_most_by_length, Df_most_by_length⟩ := c.d.def_ 12 (d := d_most_by_length) rfl
    have G_most_by_length : FoP mainP w K mg base 4 "most_by_length" (F_by (eN (He.ga K "NoNumber")) fun o l f => .int (mbl o l f 20)) := mkFo Df_most_by_length (ok_mbl B G_check_told G_least_length (He5.fun_of Df_most_by_length)) (gl (by simp [fa])) (fun _ _ _ _ _ _ us hl => match us, hl with | [_, _, _], _ => rfl)
    obtain ⟨fd_law_hand, Df_law_hand⟩ := c.d.def_ 13 (d := d_law_hand) rfl
    have G_law_hand : Fo mainP w K mg base 1 "_law_hand" (upN K F_hand) := mkFo Df_law_hand (ok_hand B (He5.fun_of Df_law_hand)) (gl (by simp [fa])) (fun _ _ _ _ _ _ us hl => match us, hl with | [_], _ => rfl)
    obtain ⟨fd_law_draw, Df_law_draw⟩ := c.d.def_ 14 (d := d_law_draw) rfl
    have G_law_draw : Fo mainP w K mg base 1 "_law_draw" (upH K F_draw) := mkFo Df_law_draw (ok_draw B (He5.fun_of Df_law_draw)) (gl (by simp [fa])) (fun _ _ _ _ _ _ us hl => match us, hl with | [_, _], _ => rfl)
    obtain ⟨fd_law_any, Df_law_any⟩ := c.d.def_ 15 (d := d_law_any) rfl
    have G_law_any : Fo mainP w K mg base 2 "_law_any" (upH K F_any) := mkFo Df_law_any (ok_any B G_law_draw (He5.fun_of Df_law_any)) (gl (by simp [fa])) (fun _ _ _ _ _ _ us hl => match us, hl with | [_, _], _ => rfl)
    obtain ⟨fd_law_raised, Df_law_raised⟩ := c.d.def_ 16 (d := d_law_raised) rfl
    have G_law_raised : FoP mainP w K mg base 1 "_law_raised" F_lraised := mkFo Df_law_raised (ok_lraised B (He5.fun_of Df_law_raised)) (gl (by simp [fa])) (fun _ _ _ _ _ _ us hl => match us, hl with | [_, _], _ => rfl)
    obtain ⟨fd_law_ball, Df_law_ball⟩ := c.d.def_ 17 (d := d_law_ball) rfl
    have G_law_ball : FoP mainP w K mg base 1 "_law_ball" F_ball := mkFo Df_law_ball (ok_ball B (He5.fun_of Df_law_ball)) (gl (by simp [fa])) (fun _ _ _ _ _ _ us hl => match us, hl with | [_, _, _], _ => rfl)
    obtain ⟨fd_law_three, Df_law_three⟩ := c.d.def_ 18 (d := d_law_three) rfl
    have G_law_three : Fo mainP w K mg base 3 "_law_three" (upH K F_three) := mkFo Df_law_three (ok_three G_law_draw G_law_any (He5.fun_of Df_law_three)) (gl (by simp [fa])) (fun _ _ _ _ _ _ us hl => match us, hl with | [_, _], _ => rfl)
    obtain ⟨fd_law_no_three, Df_law_no_three⟩ := c.d.def_ 19 (d := d_law_no_three) rfl
    have G_law_no_three : Fo mainP w K mg base 3 "_law_no_three" (upH K F_no) := mkFo Df_law_no_three (ok_no G_law_any (He5.fun_of Df_law_no_three)) (gl (by simp [fa])) (fun _ _ _ _ _ _ us hl => match us, hl with | [_], _ => rfl)
    obtain ⟨fd_law_length, Df_law_length⟩ := c.d.def_ 21 (d := d_law_length) rfl
    have G_law_length : FoP mainP w K mg base 2 "_law_length" F_llen := mkFo Df_law_length (ok_llen B G_law_raised (He5.fun_of Df_law_length)) (gl (by simp [fa])) (fun _ _ _ _ _ _ us hl => match us, hl with | [_, _, _], _ => rfl)
    obtain ⟨fd_law_with_weight, Df_law_with_weight⟩ := c.d.def_ 22 (d := d_law_with_weight) rfl
    have G_law_with_weight : FoP mainP w K mg base 1 "_law_with_weight" F_ww := mkFo Df_law_with_weight (ok_lww B (He5.fun_of Df_law_with_weight)) (gl (by simp [fa])) (fun _ _ _ _ _ _ us hl => match us, hl with | [_, _, _], _ => rfl)
    have Gs6 : Gs mainP w K mg base (He.ga K "NoNumber") := ⟨G_least_length, G_meets_length, G_meets_leaving, G_meets_balls, G_with_weight, G_most_by_length⟩
    obtain ⟨fd_law_is_right, Df_law_is_right⟩ := c.d.def_ 23 (d := d_law_is_right) rfl
    have G_law_is_right : Fo mainP w K mg base 5 "_law_is_right" (upH K F_right) := mkFo Df_law_is_right (ok_right B Gs6 G_law_draw G_law_length G_law_ball G_law_raised G_law_with_weight (He5.fun_of Df_law_is_right)) (gl (by simp [fa])) (fun _ _ _ _ _ _ us hl => match us, hl with | [_, _, _, _], _ => rfl)
    obtain ⟨fd_law_are_balls_right, Df_law_are_balls_right⟩ := c.d.def_ 24 (d := d_law_are_balls_right) rfl
    have G_law_are_balls_right : FoP mainP w K mg base 4 "_law_are_balls_right" F_abr := mkFo Df_law_are_balls_right (ok_abr B G_law_raised G_law_ball G_balls_numbers (He5.fun_of Df_law_are_balls_right)) (gl (by simp [fa])) (fun _ _ _ _ _ _ us hl => match us, hl with | [_, _], _ => rfl)
    exact ok_law B C3 Gs6 G_balls_numbers G_law_hand G_law_draw G_law_any G_law_three G_law_no_three G_law_is_right G_law_are_balls_right (gl (by simp [fa])) FS.kp lkS hcS bS TB lk hcd
end K19
open PySem PySem.W PySem.Calls PyProof.Rows
theorem PySem.Challenge.cw_spoiltrows_k19_whole_bounds_by_length_an_holds : PySem.Challenge.rw_spoiltrows_k19_whole_bounds_by_length_an.Holds := by
  w_on; o_law
  refine HandSHeadRun.head_any (r := OpenLaw.row PySem.Challenge.rw_spoiltrows_k19_whole_bounds_by_length_an) (q := view (OpenLaw.row PySem.Challenge.rw_spoiltrows_k19_whole_bounds_by_length_an).prog [33]) (H := K19.hk) (ob := K19.ob) (M := 6000) (loose := K19.loose) (d := HandSHeadRun.topDef (OpenLaw.row PySem.Challenge.rw_spoiltrows_k19_whole_bounds_by_length_an).prog 33) (kwd := []) K19.ob_eq
    (by kernel_rfl) (fun s => by kernel_rfl) K19.run (by kernel_rfl) (by kernel_rfl) (by kernel_rfl) (by rfl) (by first | assumption | decide +kernel) (by decide +kernel) ⟨rfl, rfl, rfl, rfl, rfl, by decide +kernel⟩ ?hw ?hc
  case hw => w_witness2
  case hc =>
    refine LamX.walk_ofTsE (l := PySem.Challenge.rw_spoiltrows_k19_whole_bounds_by_length_an) (n := 63) (k := 9) (x := "script") (CX := fun w => L2.CX K19.mainP w) rfl (by decide) (by kernel_rfl) ⟨rfl, by decide, by decide⟩ ?F ?X
    case F =>
      intro w mg fa h Y G hmg0
      obtain ⟨K, KX, c⟩ := Y
      have hmg : mg ("law" : PySem.Str) = some (.ref fa) := by
        have e : (HandSHeadRun.topDef (OpenLaw.row PySem.Challenge.rw_spoiltrows_k19_whole_bounds_by_length_an).prog 33).name = ("law" : PySem.Str) := by kernel_rfl
        rw [← e]
        exact hmg0
      exact ⟨K, KX, K19.facts KX G hmg c⟩
    case X =>
      intro w H s e s' h
      obtain ⟨_, _, _, _, _, _, _, _, _, _, _, _, z⟩ := h
      exact z

