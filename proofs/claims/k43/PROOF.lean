import PyProof.Rows.All
import Wide.All
import OpenK.AllK
import Wide.FinOn
import HandS.ForMost
import HandS.ForExc
import HandS.Wide
import HandS.IsInst
import HandS.ExcIs
import HandS.Lambda
import HandS.CallLocal
import HandS.Flow
import HandS.ExcOwn
import HandS.WordsExc
import HandS.Ends
import HandS.ExcSuper
import KE.KExcSuper
import HandS.Head0
import HandS.Head1
import HandS.Head2
import HandS.HeadEnd
import HandS.HeadHook1
import HandS.HeadHook2
import HandS.HeadHook4
import HandS.HeadWalk
import HandS.Deep
import HandS.SetFor
import HandS.RaiseMore
import HandS.HeadNt
import HandS.TupLe
import HandS.TupSets
import HandS.Walk
import HandS.Zip
import HandS.TupAny
import HandS.TupMul
import PyProof.Draws
import PyProof.EnumMake
import HandS.Zip0
import HandS.Style
import PyProof.ReprLen
import KE.DataAny
import HandS.SortInts
import HandS.Conv
import HandS.Strs
import HandS.Dict
import HandS.EndTab
import PySem.Challenge.RW_spoiltrows_k43_whole_tests_that_tell
set_option Elab.async false
set_option linter.all false
set_option maxRecDepth 100000
set_option maxHeartbeats 4000000
/-! Data behind values: what a value denotes, told apart from what a def changes. -/
namespace Spr
open PySem PySem.Spec PyProof.Rows L2

/-- what a value denotes -/
inductive D where
  | non | bl (b : Bool) | int (i : Int) | str (s : Str) | tup (l : List D) | lst (l : List D) | raw (v : V) | obj (C : Addr) (fs : List (Str × D)) | tl (l : List D) | dic | tt (l : List D) | pt (l : List D)

/-- a list, a tuple written at the top -/
def KL (K : PySem.W.Frag) (a : Addr) (xs : List V) : Prop :=
  ∃ (o : Obj) (its : Array Value) (n : Nat), K.lookup a = some o ∧ o.cls = .type "list" ∧ o.dict = none ∧ o.data = .seq its n ∧ its.size ≤ sizeLine ∧ Vals xs its.toList
def KT (K : PySem.W.Frag) (a : Addr) (xs : List V) : Prop :=
  ∃ (o : Obj) (its : Array Value) (n : Nat), K.lookup a = some o ∧ o.cls = .type "tuple" ∧ o.data = .seq its n ∧ its.size ≤ sizeLine ∧ Vals xs its.toList

mutual
/-- v denotes d in H; S: the addresses that may change, which d does not lean on -/
inductive Den (K : PySem.W.Frag) (S : Addr → Prop) (H : Hp) : V → D → Prop
  | non : Den K S H .non .non
  | bl (b : Bool) : Den K S H (.bl b) (.bl b)
  | int (i : Int) : Den K S H (.int i) (.int i)
  | str (s : Str) : Den K S H (.str s) (.str s)
  | raw (v : V) : Den K S H v (.raw v)
  | tup {a : Addr} {xs : List V} {l : List D} : Rd H a (.tup xs) → ¬ S a → DenL K S H xs l → Den K S H (.ref a) (.tup l)
  | tupK {a : Addr} {xs : List V} {l : List D} : KT K a xs → DenL K S H xs l → Den K S H (.ref a) (.tup l)
  | lst {a : Addr} {xs : List V} {l : List D} : Rd H a (.lst xs) → ¬ S a → DenL K S H xs l → Den K S H (.ref a) (.lst l)
  | lstK {a : Addr} {xs : List V} {l : List D} : KL K a xs → DenL K S H xs l → Den K S H (.ref a) (.lst l)
  | tl {a : Addr} {xs : List V} {l : List D} : Rd H a (.lst xs) → ¬ S a → DenL K S H xs l → Den K S H (.ref a) (.tl l)
  | obj {a C dx : Addr} {fs : List (Str × V)} {gs : List (Str × D)} : H a = some (.ins C dx fs) → ¬ S a → DenF K S H fs gs → Den K S H (.ref a) (.obj C gs)
  | dic {a : Addr} : H a = some (.dK []) → ¬ S a → Den K S H (.ref a) .dic
  | pt {a : Addr} {xs : List V} {l : List D} : H a = some (.tup xs) → ¬ S a → DenL K S H xs l → Den K S H (.ref a) (.pt l)
  | tt {a : Addr} {o : Obj} {xs : List V} {l : List D} : H a = some (.frz o (.tup xs)) → o.dict = none → ¬ S a → DenL K S H xs l → Den K S H (.ref a) (.tt l)
inductive DenL (K : PySem.W.Frag) (S : Addr → Prop) (H : Hp) : List V → List D → Prop
  | nil : DenL K S H [] []
  | cons {v : V} {vs : List V} {d : D} {ds : List D} : Den K S H v d → DenL K S H vs ds → DenL K S H (v :: vs) (d :: ds)
inductive DenF (K : PySem.W.Frag) (S : Addr → Prop) (H : Hp) : List (Str × V) → List (Str × D) → Prop
  | nil : DenF K S H [] []
  | cons {x : Str} {v : V} {vs : List (Str × V)} {d : D} {ds : List (Str × D)} : Den K S H v d → DenF K S H vs ds → DenF K S H ((x, v) :: vs) ((x, d) :: ds)
end

/-- a table of code objects -/
def IsT (o : HO) : Prop := ∃ ps, o = .tbl ps
/-- what stood and may not change stands, and may not change -/
def Rl (S : Addr → Prop) (H : Hp) (S' : Addr → Prop) (H' : Hp) : Prop := ∀ a o, ¬ S a → H a = some o → ¬ IsT o → H' a = some o ∧ ¬ S' a
theorem Rl.refl {S : Addr → Prop} {H : Hp} : Rl S H S H := fun _ _ n h _ => ⟨h, n⟩
theorem Rl.trans {S S1 S2 : Addr → Prop} {H H1 H2 : Hp} (a : Rl S H S1 H1) (b : Rl S1 H1 S2 H2) : Rl S H S2 H2 := fun x o n h z =>
  let ⟨h1, n1⟩ := a x o n h z
  b x o n1 h1 z
theorem Rl.of {S : Addr → Prop} {H H' : Hp} (e : Same H H') : Rl S H S H' := fun a o n h _ => ⟨e a o h, n⟩
theorem Rl.rd {S S' : Addr → Prop} {H H' : Hp} {a : Addr} {u : HO} (r : Rl S H S' H') (h : Rd H a u) (n : ¬ S a) (z : ¬ IsT u) : Rd H' a u ∧ ¬ S' a := by
  rcases h with h | ⟨o, h⟩
  · exact ⟨.inl (r a _ n h z).1, (r a _ n h z).2⟩
  · have zf : ¬ IsT (.frz o u) := fun ⟨ps, e⟩ => by cases e
    exact ⟨.inr ⟨o, (r a _ n h zf).1⟩, (r a _ n h zf).2⟩
theorem nt_tup {xs : List V} : ¬ IsT (.tup xs) := fun ⟨ps, e⟩ => by cases e
theorem nt_lst {xs : List V} : ¬ IsT (.lst xs) := fun ⟨ps, e⟩ => by cases e
theorem nt_dic : ¬ IsT (.dK []) := fun ⟨ps, e⟩ => by cases e
theorem nt_dT {kvs : List (List L2.Key × V)} : ¬ IsT (.dT kvs) := fun ⟨ps, e⟩ => by cases e
theorem nt_frz {o : Obj} {u : HO} : ¬ IsT (.frz o u) := fun ⟨ps, e⟩ => by cases e
theorem nt_ins {C d : Addr} {fs : List (Str × V)} : ¬ IsT (.ins C d fs) := fun ⟨ps, e⟩ => by cases e

section
variable {K : PySem.W.Frag} {S S' : Addr → Prop} {H H' : Hp}
mutual
theorem Den.go (r : Rl S H S' H') : ∀ (d : D) (v : V), Den K S H v d → Den K S' H' v d
  | .non, _, .non => .non
  | .bl b, _, .bl _ => .bl b
  | .int i, _, .int _ => .int i
  | .str s, _, .str _ => .str s
  | .raw v, _, .raw _ => .raw v
  | .tup l, _, .tup h n hl => .tup (r.rd h n nt_tup).1 (r.rd h n nt_tup).2 (DenL.go r l _ hl)
  | .tup l, _, .tupK h hl => .tupK h (DenL.go r l _ hl)
  | .lst l, _, .lst h n hl => .lst (r.rd h n nt_lst).1 (r.rd h n nt_lst).2 (DenL.go r l _ hl)
  | .lst l, _, .lstK h hl => .lstK h (DenL.go r l _ hl)
  | .tl l, _, .tl h n hl => .tl (r.rd h n nt_lst).1 (r.rd h n nt_lst).2 (DenL.go r l _ hl)
  | .dic, _, .dic h n => .dic (r _ _ n h nt_dic).1 (r _ _ n h nt_dic).2
  | .pt l, _, .pt h n hl => .pt (r _ _ n h nt_tup).1 (r _ _ n h nt_tup).2 (DenL.go r l _ hl)
  | .tt l, _, .tt h e n hl => .tt (r _ _ n h nt_frz).1 e (r _ _ n h nt_frz).2 (DenL.go r l _ hl)
  | .obj C gs, _, .obj h n hf => .obj (r _ _ n h nt_ins).1 (r _ _ n h nt_ins).2 (DenF.go r gs _ hf)
theorem DenL.go (r : Rl S H S' H') : ∀ (l : List D) (xs : List V), DenL K S H xs l → DenL K S' H' xs l
  | [], _, .nil => .nil
  | d :: ds, _, .cons h t => .cons (Den.go r d _ h) (DenL.go r ds _ t)
theorem DenF.go (r : Rl S H S' H') : ∀ (l : List (Str × D)) (xs : List (Str × V)), DenF K S H xs l → DenF K S' H' xs l
  | [], _, .nil => .nil
  | (_, d) :: ds, _, .cons h t => .cons (Den.go r d _ h) (DenF.go r ds _ t)
end
theorem Den.mono {v : V} {d : D} (h : Den K S H v d) (r : Rl S H S' H') : Den K S' H' v d := Den.go r d v h
theorem DenL.mono {xs : List V} {l : List D} (h : DenL K S H xs l) (r : Rl S H S' H') : DenL K S' H' xs l := DenL.go r l xs h
theorem Den.ext {v : V} {d : D} (h : Den K S H v d) (e : Same H H') : Den K S H' v d := h.mono (.of e)
theorem DenL.ext {xs : List V} {l : List D} (h : DenL K S H xs l) (e : Same H H') : DenL K S H' xs l := h.mono (.of e)
/-- what may change may be told smaller -/
theorem Den.less {v : V} {d : D} (h : Den K S H v d) (r : ∀ a, S' a → S a) : Den K S' H v d := h.mono fun a o n q _ => ⟨q, fun z => n (r a z)⟩
theorem DenL.less {xs : List V} {l : List D} (h : DenL K S H xs l) (r : ∀ a, S' a → S a) : DenL K S' H xs l := h.mono fun a o n q _ => ⟨q, fun z => n (r a z)⟩

theorem Den.int_ {v : V} {i : Int} (h : Den K S H v (.int i)) : v = .int i := by cases h; rfl
theorem Den.bl_ {v : V} {b : Bool} (h : Den K S H v (.bl b)) : v = .bl b := by cases h; rfl
theorem Den.str_ {v : V} {s : Str} (h : Den K S H v (.str s)) : v = .str s := by cases h; rfl
theorem Den.non_ {v : V} (h : Den K S H v .non) : v = .non := by cases h; rfl
theorem Den.raw_ {v u : V} (h : Den K S H v (.raw u)) : v = u := by cases h; rfl
theorem Den.tup_ {v : V} {l : List D} (h : Den K S H v (.tup l)) : ∃ a xs, v = .ref a ∧ SqT K H a xs ∧ DenL K S H xs l := by
  cases h with
  | tup r n hl => exact ⟨_, _, rfl, .inl r, hl⟩
  | tupK r hl => exact ⟨_, _, rfl, .inr r, hl⟩
theorem Den.lst_ {v : V} {l : List D} (h : Den K S H v (.lst l)) : ∃ a xs, v = .ref a ∧ SqL K H a xs ∧ DenL K S H xs l := by
  cases h with
  | lst r n hl => exact ⟨_, _, rfl, .inl r, hl⟩
  | lstK r hl => exact ⟨_, _, rfl, .inr r, hl⟩
theorem Den.tl_ {v : V} {l : List D} (h : Den K S H v (.tl l)) : ∃ a xs, v = .ref a ∧ Rd H a (.lst xs) ∧ ¬ S a ∧ DenL K S H xs l := by
  cases h with
  | tl r n hl => exact ⟨_, _, rfl, r, n, hl⟩
/-- a tuple that is known to have no dict -/
theorem Den.tt_ {v : V} {l : List D} (h : Den K S H v (.tt l)) : ∃ a o xs, v = .ref a ∧ H a = some (.frz o (.tup xs)) ∧ o.dict = none ∧ ¬ S a ∧ DenL K S H xs l := by
  cases h with
  | tt h e n hl => exact ⟨_, _, _, rfl, h, e, n, hl⟩
theorem Den.upT {v : V} {l : List D} (h : Den K S H v (.tt l)) : Den K S H v (.tup l) := by
  obtain ⟨a, o, xs, rfl, h, e, n, hl⟩ := h.tt_
  exact .tup (.inr ⟨o, h⟩) n hl
/-- a tuple that is laid plainly -/
theorem Den.pt_ {v : V} {l : List D} (h : Den K S H v (.pt l)) : ∃ a xs, v = .ref a ∧ H a = some (.tup xs) ∧ ¬ S a ∧ DenL K S H xs l := by
  cases h with
  | pt h n hl => exact ⟨_, _, rfl, h, n, hl⟩
theorem Den.upP {v : V} {l : List D} (h : Den K S H v (.pt l)) : Den K S H v (.tup l) := by
  obtain ⟨a, xs, rfl, h, n, hl⟩ := h.pt_
  exact .tup (.inl h) n hl
theorem Den.up {v : V} {l : List D} (h : Den K S H v (.tl l)) : Den K S H v (.lst l) := by
  obtain ⟨a, xs, rfl, r, n, hl⟩ := h.tl_
  exact .lst r n hl
theorem Den.obj_ {v : V} {C : Addr} {gs : List (Str × D)} (h : Den K S H v (.obj C gs)) : ∃ a dx fs, v = .ref a ∧ H a = some (.ins C dx fs) ∧ DenF K S H fs gs := by
  cases h with
  | obj h n hl => exact ⟨_, _, _, rfl, h, hl⟩
def LiL (K : PySem.W.Frag) (S : Addr → Prop) (H : Hp) (a : Addr) (xs : List V) : Prop := (Rd H a (.lst xs) ∧ ¬ S a) ∨ KL K a xs
def LiT (K : PySem.W.Frag) (S : Addr → Prop) (H : Hp) (a : Addr) (xs : List V) : Prop := (Rd H a (.tup xs) ∧ ¬ S a) ∨ KT K a xs
theorem LiL.sq {a : Addr} {xs : List V} (h : LiL K S H a xs) : SqL K H a xs := h.elim (fun z => .inl z.1) .inr
theorem LiT.sq {a : Addr} {xs : List V} (h : LiT K S H a xs) : SqT K H a xs := h.elim (fun z => .inl z.1) .inr
theorem LiL.mono {a : Addr} {xs : List V} (h : LiL K S H a xs) (r : Rl S H S' H') : LiL K S' H' a xs := h.elim (fun z => .inl (r.rd z.1 z.2 nt_lst)) .inr
theorem LiT.mono {a : Addr} {xs : List V} (h : LiT K S H a xs) (r : Rl S H S' H') : LiT K S' H' a xs := h.elim (fun z => .inl (r.rd z.1 z.2 nt_tup)) .inr
theorem Den.tupL {v : V} {l : List D} (h : Den K S H v (.tup l)) : ∃ a xs, v = .ref a ∧ LiT K S H a xs ∧ DenL K S H xs l := by
  cases h with
  | tup r n hl => exact ⟨_, _, rfl, .inl ⟨r, n⟩, hl⟩
  | tupK r hl => exact ⟨_, _, rfl, .inr r, hl⟩
theorem Den.lstL {v : V} {l : List D} (h : Den K S H v (.lst l)) : ∃ a xs, v = .ref a ∧ LiL K S H a xs ∧ DenL K S H xs l := by
  cases h with
  | lst r n hl => exact ⟨_, _, rfl, .inl ⟨r, n⟩, hl⟩
  | lstK r hl => exact ⟨_, _, rfl, .inr r, hl⟩
theorem LiL.den {a : Addr} {xs : List V} {l : List D} (h : LiL K S H a xs) (hl : DenL K S H xs l) : Den K S H (.ref a) (.lst l) := h.elim (fun z => .lst z.1 z.2 hl) fun z => .lstK z hl
theorem LiT.den {a : Addr} {xs : List V} {l : List D} (h : LiT K S H a xs) (hl : DenL K S H xs l) : Den K S H (.ref a) (.tup l) := h.elim (fun z => .tup z.1 z.2 hl) fun z => .tupK z hl
theorem DenL.length : ∀ {xs : List V} {l : List D}, DenL K S H xs l → xs.length = l.length
  | _, _, .nil => rfl
  | _, _, .cons _ t => congrArg (· + 1) (DenL.length t)
theorem DenL.get : ∀ {xs : List V} {l : List D} {i : Nat} {x : V}, DenL K S H xs l → xs[i]? = some x → ∃ d, l[i]? = some d ∧ Den K S H x d
  | _, _, _, _, .nil, e => by simp at e
  | _, _, 0, _, .cons h _, e => by simp at e; subst e; exact ⟨_, rfl, h⟩
  | _, _, i + 1, x, .cons _ t, e => by
    obtain ⟨d, h1, h2⟩ := DenL.get (i := i) (x := x) t (by simpa using e)
    exact ⟨d, by simpa using h1, h2⟩
theorem DenL.at_ : ∀ {xs : List V} {l : List D} {i : Nat} {d : D}, DenL K S H xs l → l[i]? = some d → ∃ x, xs[i]? = some x ∧ Den K S H x d
  | _, _, _, _, .nil, e => by simp at e
  | _, _, 0, _, .cons h _, e => by simp at e; subst e; exact ⟨_, rfl, h⟩
  | _, _, i + 1, d, .cons _ t, e => by
    obtain ⟨x, h1, h2⟩ := DenL.at_ (i := i) (d := d) t (by simpa using e)
    exact ⟨x, by simpa using h1, h2⟩
theorem DenL.append : ∀ {xs ys : List V} {l m : List D}, DenL K S H xs l → DenL K S H ys m → DenL K S H (xs ++ ys) (l ++ m)
  | _, _, _, _, .nil, h => h
  | _, _, _, _, .cons h t, q => .cons h (DenL.append t q)
theorem DenL.set {x : V} {d : D} (r : Den K S H x d) : ∀ {xs : List V} {l : List D} (i : Nat), DenL K S H xs l → DenL K S H (xs.set i x) (l.set i d)
  | _, _, _, .nil => .nil
  | _, _, 0, .cons _ t => .cons r t
  | _, _, i + 1, .cons h t => .cons h (DenL.set r i t)
theorem DenL.drop : ∀ {xs : List V} {l : List D} (n : Nat), DenL K S H xs l → DenL K S H (xs.drop n) (l.drop n)
  | _, _, 0, h => h
  | _, _, _ + 1, .nil => .nil
  | _, _, n + 1, .cons _ t => DenL.drop n t
theorem DenL.take : ∀ {xs : List V} {l : List D} (n : Nat), DenL K S H xs l → DenL K S H (xs.take n) (l.take n)
  | _, _, 0, _ => .nil
  | _, _, _ + 1, .nil => .nil
  | _, _, n + 1, .cons h t => .cons h (DenL.take n t)
theorem DenL.ints : ∀ {xs : List V} {ns : List Int}, DenL K S H xs (ns.map .int) → xs = ns.map .int
  | _, [], .nil => rfl
  | _, n :: ns, .cons h t => by rw [h.int_, DenL.ints t] <;> rfl
theorem DenL.of_ints : ∀ (ns : List Int), DenL K S H (ns.map .int) (ns.map .int)
  | [] => .nil
  | n :: ns => .cons (.int n) (DenL.of_ints ns)
theorem DenL.bls : ∀ {xs : List V} {ns : List Bool}, DenL K S H xs (ns.map .bl) → xs = ns.map .bl
  | _, [], .nil => rfl
  | _, n :: ns, .cons h t => by rw [h.bl_, DenL.bls t] <;> rfl
end

/-! ### the slots -/
/-- a slot: a thing that does not change; a list of one's own -/
inductive Ent where
  | im (d : D)
  | ow (l : List D)
  | od (a : Addr) (kvs : List (List Int × D))
/-- a dict whose keys are tuples of ints -/
def KvD (K : PySem.W.Frag) (S : Addr → Prop) (H : Hp) (kvs' : List (List L2.Key × V)) (kvs : List (List Int × D)) : Prop := kvs'.map (·.1) = kvs.map (fun z => z.1.map Sum.inl) ∧ DenL K S H (kvs'.map (·.2)) (kvs.map (·.2))
theorem KvD.mono {K : PySem.W.Frag} {S S' : Addr → Prop} {H H' : Hp} {kvs' : List (List L2.Key × V)} {kvs : List (List Int × D)} (h : KvD K S H kvs' kvs) (r : Rl S H S' H') : KvD K S' H' kvs' kvs := ⟨h.1, h.2.mono r⟩
def EntAt (K : PySem.W.Frag) (S : Addr → Prop) (H : Hp) (v : V) : Ent → Prop
  | .im d => Den K S H v d
  | .ow l => ∃ a xs, v = .ref a ∧ S a ∧ H a = some (.lst xs) ∧ DenL K S H xs l
  | .od a kvs => v = .ref a ∧ S a ∧ ∃ kvs', H a = some (.dT kvs') ∧ KvD K S H kvs' kvs
abbrev Gm := List (Option Ent)

/-- what is fixed through a def: the written part, the entry (what may change there, the heap), what the def itself may change, its tables of code objects, the arguments that it changes (slot, value) -/
structure Cn where
  S0 : Addr → Prop
  H0 : Hp
  tb : List (Addr × Str)
  fx : List (Nat × V)
/-- what the def itself may change of what stood -/
def Cn.T0 (c : Cn) (a : Addr) : Prop := (∃ p ∈ c.fx, p.2 = .ref a) ∨ ∃ p ∈ c.tb, p.1 = a
/-- a table of another, where the def itself writes tables -/
def Cn.Tb (c : Cn) (a : Addr) : Prop := c.tb ≠ [] ∧ ∃ o, c.H0 a = some o ∧ IsT o
structure Gd (K : PySem.W.Frag) (c : Cn) (S : Addr → Prop) (σ : L2.St) (H : Hp) (Γ : Gm) : Prop where
  len : σ.length = Γ.length
  at_ : ∀ (i : Nat) (e : Ent), Γ[i]? = some (some e) → ∃ v, σ[i]? = some (some v) ∧ EntAt K S H v e
  sep : ∀ (i j : Nat) (a : Addr) (l l' : List D), Γ[i]? = some (some (.ow l)) → Γ[j]? = some (some (.ow l')) → σ[i]? = some (some (.ref a)) → σ[j]? = some (some (.ref a)) → i = j
  loc : ∀ (i : Nat) (l : List D) (a : Addr), Γ[i]? = some (some (.ow l)) → σ[i]? = some (some (.ref a)) → (∀ p ∈ c.fx, p.1 ≠ i) → ¬ c.S0 a
  sub : ∀ a, c.S0 a → S a
  new : ∀ a, S a → c.S0 a ∨ c.H0 a = none ∨ c.Tb a
  chg : ∀ a o, c.H0 a = some o → ¬ c.T0 a → ¬ c.Tb a → H a = some o
  dom : ∀ a, S a → H a ≠ none
  dm0 : ∀ a, c.H0 a ≠ none → ¬ c.Tb a → H a ≠ none
  fix : ∀ p ∈ c.fx, σ[p.1]? = some (some p.2)
  tab : LamX.Tabs c.tb H
  tbS : ∀ p ∈ c.tb, c.S0 p.1
section
variable {K : PySem.W.Frag} {c : Cn} {S : Addr → Prop} {σ : L2.St} {H H' : Hp} {Γ : Gm}
theorem EntAt.ext {v : V} : ∀ {e : Ent}, EntAt K S H v e → Same H H' → EntAt K S H' v e
  | .im d, h, e => Den.ext h e
  | .ow l, ⟨a, xs, h1, h2, h3, h4⟩, e => ⟨a, xs, h1, h2, e _ _ h3, h4.ext e⟩
  | .od a kvs, ⟨h1, h2, ks, h3, h4⟩, e => ⟨h1, h2, ks, e _ _ h3, h4.mono (.of e)⟩
theorem Same.some {H H' : Hp} (e : Same H H') {a : Addr} (h : H a ≠ none) : H' a ≠ none := fun z => h (e.free z)
/-- the heap has grown -/
theorem Gd.ext (t : Gd K c S σ H Γ) (e : Same H H') : Gd K c S σ H' Γ where
  len := t.len
  at_ := fun i en h => let ⟨v, h1, h2⟩ := t.at_ i en h; ⟨v, h1, h2.ext e⟩
  sep := t.sep
  loc := t.loc
  sub := t.sub
  new := t.new
  chg := fun a o h n nt => e _ _ (t.chg a o h n nt)
  dom := fun a h => Same.some e (t.dom a h)
  dm0 := fun a h nt => Same.some e (t.dm0 a h nt)
  fix := t.fix
  tab := t.tab.ext e
  tbS := t.tbS
theorem Gd.im (t : Gd K c S σ H Γ) {i : Nat} {d : D} (h : Γ[i]? = some (some (.im d))) : ∃ v, σ[i]? = some (some v) ∧ Den K S H v d := t.at_ i _ h
theorem Gd.ow (t : Gd K c S σ H Γ) {i : Nat} {l : List D} (h : Γ[i]? = some (some (.ow l))) : ∃ a xs, σ[i]? = some (some (.ref a)) ∧ S a ∧ H a = some (.lst xs) ∧ DenL K S H xs l := by
  obtain ⟨v, h1, a, xs, rfl, h2, h3, h4⟩ := t.at_ i _ h
  exact ⟨a, xs, h1, h2, h3, h4⟩
/-- a slot gets a thing -/
theorem Gd.setIm (t : Gd K c S σ H Γ) {i : Nat} {v : V} {d : D} (hv : Den K S H v d) (hf : ∀ p ∈ c.fx, p.1 ≠ i) : Gd K c S (σ.set i (some v)) H (Γ.set i (some (.im d))) := by
  refine ⟨by simpa using t.len, fun j e h => ?_, fun j k a l l' h1 h2 h3 h4 => ?_, fun j l a h1 h2 h3 => ?_, t.sub, t.new, t.chg, t.dom, t.dm0, fun p hp => ?_, t.tab, t.tbS⟩
  · by_cases hj : i = j
    · subst hj
      have hl : i < Γ.length := by
        have q := (List.getElem?_eq_some_iff.mp h).1
        simpa using q
      rw [List.getElem?_set_self hl] at h
      cases h
      exact ⟨v, List.getElem?_set_self (by rw [t.len]; exact hl), hv⟩
    · rw [List.getElem?_set_ne hj] at h ⊢
      exact t.at_ j e h
  · have n1 : i ≠ j := fun z => by
      subst z
      have q := (List.getElem?_eq_some_iff.mp h1).1
      rw [List.getElem?_set_self (by simpa using q)] at h1
      cases h1
    have n2 : i ≠ k := fun z => by
      subst z
      have q := (List.getElem?_eq_some_iff.mp h2).1
      rw [List.getElem?_set_self (by simpa using q)] at h2
      cases h2
    rw [List.getElem?_set_ne n1] at h1 h3
    rw [List.getElem?_set_ne n2] at h2 h4
    exact t.sep j k a l l' h1 h2 h3 h4
  · have n1 : i ≠ j := fun z => by
      subst z
      have q := (List.getElem?_eq_some_iff.mp h1).1
      rw [List.getElem?_set_self (by simpa using q)] at h1
      cases h1
    rw [List.getElem?_set_ne n1] at h1 h2
    exact t.loc j l a h1 h2 h3
  · rw [List.getElem?_set_ne (fun z => hf p hp z.symm)]
    exact t.fix p hp
/-- a slot is forgotten -/
theorem Gd.drop (t : Gd K c S σ H Γ) (i : Nat) : Gd K c S σ H (Γ.set i none) := by
  refine ⟨by simpa using t.len, fun j e h => ?_, fun j k a l l' h1 h2 h3 h4 => ?_, fun j l a h1 h2 h3 => ?_, t.sub, t.new, t.chg, t.dom, t.dm0, t.fix, t.tab, t.tbS⟩
  · by_cases hj : i = j
    · subst hj
      have hl : i < Γ.length := by
        have q := (List.getElem?_eq_some_iff.mp h).1
        simpa using q
      rw [List.getElem?_set_self hl] at h
      cases h
    · rw [List.getElem?_set_ne hj] at h
      exact t.at_ j e h
  · have n1 : i ≠ j := fun z => by
      subst z
      have q := (List.getElem?_eq_some_iff.mp h1).1
      rw [List.getElem?_set_self (by simpa using q)] at h1
      cases h1
    have n2 : i ≠ k := fun z => by
      subst z
      have q := (List.getElem?_eq_some_iff.mp h2).1
      rw [List.getElem?_set_self (by simpa using q)] at h2
      cases h2
    rw [List.getElem?_set_ne n1] at h1
    rw [List.getElem?_set_ne n2] at h2
    exact t.sep j k a l l' h1 h2 h3 h4
  · have n1 : i ≠ j := fun z => by
      subst z
      have q := (List.getElem?_eq_some_iff.mp h1).1
      rw [List.getElem?_set_self (by simpa using q)] at h1
      cases h1
    rw [List.getElem?_set_ne n1] at h1
    exact t.loc j l a h1 h2 h3
/-- a slot is emptied -/
theorem Gd.unset (t : Gd K c S σ H Γ) {i : Nat} (hf : ∀ p ∈ c.fx, p.1 ≠ i) : Gd K c S (σ.set i none) H (Γ.set i none) := by
  have key : ∀ (j : Nat) (e : Ent), (Γ.set i none)[j]? = some (some e) → i ≠ j ∧ Γ[j]? = some (some e) := fun j e h => by
    have n : i ≠ j := fun z => by
      subst z
      have q := (List.getElem?_eq_some_iff.mp h).1
      rw [List.getElem?_set_self (by simpa using q)] at h
      cases h
    rw [List.getElem?_set_ne n] at h
    exact ⟨n, h⟩
  refine ⟨by simpa using t.len, fun j e h => ?_, fun j k a l l' h1 h2 h3 h4 => ?_, fun j l a h1 h2 h3 => ?_, t.sub, t.new, t.chg, t.dom, t.dm0, fun p hp => ?_, t.tab, t.tbS⟩
  · obtain ⟨n, h⟩ := key j e h
    rw [List.getElem?_set_ne n]
    exact t.at_ j e h
  · obtain ⟨n1, h1⟩ := key j _ h1
    obtain ⟨n2, h2⟩ := key k _ h2
    rw [List.getElem?_set_ne n1] at h3
    rw [List.getElem?_set_ne n2] at h4
    exact t.sep j k a l l' h1 h2 h3 h4
  · obtain ⟨n1, h1⟩ := key j _ h1
    rw [List.getElem?_set_ne n1] at h2
    exact t.loc j l a h1 h2 h3
  · rw [List.getElem?_set_ne (fun z => hf p hp z.symm)]
    exact t.fix p hp
def wipeG (Γ : Gm) : List Nat → Gm
  | [] => Γ
  | v :: vs => (wipeG Γ vs).set v none
theorem Gd.wipe (t : Gd K c S σ H Γ) : ∀ vs : List Nat, (∀ v ∈ vs, ∀ p ∈ c.fx, p.1 ≠ v) → Gd K c S (L2.wipe σ vs) H (wipeG Γ vs)
  | [], _ => t
  | v :: vs, hf => (Gd.wipe t vs fun u hu => hf u (List.mem_cons_of_mem _ hu)).unset (hf v List.mem_cons_self)
theorem wipe_at (σ : L2.St) : ∀ (vs : List Nat) (i : Nat), i < σ.length → (L2.wipe σ vs)[i]? = if i ∈ vs then some none else σ[i]?
  | [], i, _ => by simp [L2.wipe]
  | v :: vs, i, h => by
    show ((L2.wipe σ vs).set v none)[i]? = _
    by_cases e : v = i
    · subst e
      rw [List.getElem?_set_self (by rw [L2.wipe_length]; exact h), if_pos List.mem_cons_self]
    · rw [List.getElem?_set_ne e, wipe_at σ vs i h]
      by_cases q : i ∈ vs
      · rw [if_pos q, if_pos (List.mem_cons_of_mem _ q)]
      · rw [if_neg q, if_neg (by simp only [List.mem_cons, not_or]; exact ⟨fun z => e z.symm, q⟩)]
theorem wipe_wipe (σ : L2.St) (vs : List Nat) {j : Nat} (hj : j ∈ vs) (x : Option V) : L2.wipe ((L2.wipe σ vs).set j x) vs = L2.wipe σ vs := by
  apply List.ext_getElem?
  intro i
  by_cases h : i < σ.length
  · rw [wipe_at _ vs i (by simpa [L2.wipe_length] using h), wipe_at σ vs i h]
    by_cases q : i ∈ vs
    · rw [if_pos q, if_pos q]
    · have n : j ≠ i := fun z => q (by rw [← z]; exact hj)
      rw [if_neg q, if_neg q, List.getElem?_set_ne n, wipe_at σ vs i h, if_neg q]
  · rw [List.getElem?_eq_none (by simpa [L2.wipe_length] using h), List.getElem?_eq_none (by simpa [L2.wipe_length] using h)]
/-- what may change, and one more place -/
def more (S : Addr → Prop) (p : Addr) : Addr → Prop := fun a => S a ∨ a = p
theorem rl_more {p : Addr} (h : H p = none) (e : Same H H') : Rl S H (more S p) H' := fun a o n q _ => ⟨e a o q, fun z => z.elim n fun z => by rw [z, h] at q; cases q⟩
/-- a new list is laid: nothing leans on it -/
theorem Gd.plus (t : Gd K c S σ H Γ) {p : Addr} (h : H p = none) (e : Same H H') (hp : H' p ≠ none) : Gd K c (more S p) σ H' Γ where
  len := t.len
  at_ := fun i en q => by
    obtain ⟨v, h1, h2⟩ := t.at_ i en q
    refine ⟨v, h1, ?_⟩
    cases en with
    | im d => exact Den.mono h2 (rl_more h e)
    | ow l =>
      obtain ⟨a, xs, h3, h4, h5, h6⟩ := h2
      exact ⟨a, xs, h3, .inl h4, e _ _ h5, h6.mono (rl_more h e)⟩
    | od a kvs =>
      obtain ⟨h3, h4, ks, h5, h6⟩ := h2
      exact ⟨h3, .inl h4, ks, e _ _ h5, h6.mono (rl_more h e)⟩
  sep := t.sep
  loc := t.loc
  sub := fun a q => .inl (t.sub a q)
  new := fun a q => q.elim (t.new a) fun z => by
    subst z
    right
    cases q2 : c.H0 a with
    | none => exact .inl rfl
    | some o => exact .inr (Classical.byContradiction fun nt => absurd h (t.dm0 a (by rw [q2]; simp) nt))
  chg := fun a o q n nt => e _ _ (t.chg a o q n nt)
  dom := fun a q => q.elim (fun z => Same.some e (t.dom a z)) fun z => by rw [z]; exact hp
  dm0 := fun a q nt => Same.some e (t.dm0 a q nt)
  fix := t.fix
  tab := t.tab.ext e
  tbS := t.tbS
/-- tables of code objects do not lean on lists -/
theorem tabs_upd {T : List (Addr × Str)} {p : Addr} {xs ys : List V} (t : LamX.Tabs T H) (h : H p = some (.lst xs)) : LamX.Tabs T (upd H p (.lst ys)) := fun q hq => by
  obtain ⟨ps, h1, h2, h3⟩ := t q hq
  refine ⟨ps, ?_, h2, fun pos cv hc => ?_⟩
  · rw [upd_ne (fun z => by rw [z, h] at h1; cases h1)]
    exact h1
  · obtain ⟨a, h4, h5⟩ := h3 pos cv hc
    refine ⟨a, h4, ?_⟩
    rw [upd_ne (fun z => by rw [z, h] at h5; unfold LamX.CodeO at h5; cases h5)]
    exact h5
theorem rl_upd {p : Addr} {o : HO} (h : S p) : Rl S H S (upd H p o) := fun a u n q _ => ⟨by rw [upd_ne (fun z => n (by rw [z]; exact h))]; exact q, n⟩
/-- a slot's own list is changed -/
theorem Gd.change (t : Gd K c S σ H Γ) {i : Nat} {a : Addr} {l l' : List D} {xs ys : List V} (hi : Γ[i]? = some (some (.ow l))) (hs : σ[i]? = some (some (.ref a))) (hS : S a) (hH : H a = some (.lst xs)) (hy : DenL K S H ys l') :
    Gd K c S σ (upd H a (.lst ys)) (Γ.set i (some (.ow l'))) := by
  have r : Rl S H S (upd H a (.lst ys)) := rl_upd hS
  have hT : ∀ o, c.H0 a = some o → ¬ c.Tb a → c.T0 a := fun o ho nt => by
    by_cases hm : ∃ p ∈ c.fx, p.1 = i
    · obtain ⟨p, hp, e⟩ := hm
      have q := t.fix p hp
      rw [e, hs] at q
      have q2 : V.ref a = p.2 := by simpa using q
      exact .inl ⟨p, hp, q2.symm⟩
    · have n0 := t.loc i l a hi hs fun p hp e => hm ⟨p, hp, e⟩
      rcases t.new a hS with z | z | z
      · exact absurd z n0
      · rw [ho] at z
        cases z
      · exact absurd z nt
  refine ⟨by simpa using t.len, fun j e h => ?_, fun j k b m m' h1 h2 h3 h4 => ?_, fun j m b h1 h2 h3 => ?_, t.sub, t.new, fun b o h n nt => ?_, fun b h => ?_, fun b h nt => ?_, t.fix, tabs_upd t.tab hH, t.tbS⟩
  · by_cases hj : i = j
    · subst hj
      rw [List.getElem?_set_self (List.getElem?_eq_some_iff.mp hi).1] at h
      cases h
      exact ⟨.ref a, hs, a, ys, rfl, hS, upd_same, hy.mono r⟩
    · rw [List.getElem?_set_ne hj] at h
      obtain ⟨v, h1, h2⟩ := t.at_ j e h
      refine ⟨v, h1, ?_⟩
      cases e with
      | im d => exact Den.mono h2 r
      | ow m =>
        obtain ⟨b, zs, rfl, h3, h4, h5⟩ := h2
        have nb : b ≠ a := fun z => hj (t.sep i j a l m hi h hs (by rw [← z]; exact h1))
        exact ⟨b, zs, rfl, h3, by rw [upd_ne nb]; exact h4, h5.mono r⟩
      | od b kvs =>
        obtain ⟨rfl, h3, ks, h4, h5⟩ := h2
        exact ⟨rfl, h3, ks, by rw [upd_ne (fun z => by rw [z, hH] at h4; cases h4)]; exact h4, h5.mono r⟩
  · have q : ∀ (k : Nat) (m : List D), (Γ.set i (some (.ow l')))[k]? = some (some (.ow m)) → ∃ m2, Γ[k]? = some (some (.ow m2)) := fun k m hk => by
      by_cases hj : i = k
      · subst hj
        exact ⟨l, hi⟩
      · rw [List.getElem?_set_ne hj] at hk
        exact ⟨m, hk⟩
    obtain ⟨m1, q1⟩ := q j m h1
    obtain ⟨m2, q2⟩ := q k m' h2
    exact t.sep j k b m1 m2 q1 q2 h3 h4
  · by_cases hj : i = j
    · subst hj
      exact t.loc i l b hi h2 h3
    · rw [List.getElem?_set_ne hj] at h1
      exact t.loc j m b h1 h2 h3
  · by_cases hb : b = a
    · exact absurd (hT o (by rw [← hb]; exact h) (by rw [← hb]; exact nt)) (by rw [← hb]; exact n)
    · rw [upd_ne hb]
      exact t.chg b o h n nt
  · by_cases hb : b = a
    · rw [hb, upd_same]; simp
    · rw [upd_ne hb]
      exact t.dom b h
  · by_cases hb : b = a
    · rw [hb, upd_same]; simp
    · rw [upd_ne hb]
      exact t.dm0 b h nt
/-- a slot gets a new list of its own -/
theorem Gd.setOw (t : Gd K c S σ H Γ) {i : Nat} {p : Addr} {l : List D} {xs : List V} (h : H p = none) (e : Same H H') (hp : H' p = some (.lst xs)) (hl : DenL K (more S p) H' xs l) (hf : ∀ q ∈ c.fx, q.1 ≠ i) : Gd K c (more S p) (σ.set i (some (.ref p))) H' (Γ.set i (some (.ow l))) := by
  have g := t.plus h e (by rw [hp]; simp)
  have n0 : ¬ c.S0 p := fun z => t.dom p (t.sub p z) h
  have other : ∀ (j : Nat) (m : List D), Γ[j]? = some (some (.ow m)) → σ[j]? ≠ some (some (.ref p)) := fun j m hj hs => by
    obtain ⟨a, ys, h1, h2, h3, _⟩ := t.ow hj
    rw [hs] at h1
    cases h1
    rw [h] at h3
    cases h3
  refine ⟨by simpa using g.len, fun j en q => ?_, fun j k a m m' h1 h2 h3 h4 => ?_, fun j m a h1 h2 h3 => ?_, g.sub, g.new, g.chg, g.dom, g.dm0, fun q hq => ?_, g.tab, g.tbS⟩
  · by_cases hj : i = j
    · subst hj
      have hl2 : i < Γ.length := by
        have q2 := (List.getElem?_eq_some_iff.mp q).1
        simpa using q2
      rw [List.getElem?_set_self hl2] at q
      cases q
      exact ⟨.ref p, List.getElem?_set_self (by rw [t.len]; exact hl2), p, xs, rfl, .inr rfl, hp, hl⟩
    · rw [List.getElem?_set_ne hj] at q ⊢
      exact g.at_ j en q
  · by_cases hj : i = j
    · by_cases hk : i = k
      · exact hj.symm.trans hk
      · subst hj
        rw [List.getElem?_set_ne hk] at h2 h4
        rw [List.getElem?_set_self (by have q2 := (List.getElem?_eq_some_iff.mp h3).1; simpa using q2)] at h3
        cases h3
        exact absurd h4 (other k m' h2)
    · by_cases hk : i = k
      · subst hk
        rw [List.getElem?_set_ne hj] at h1 h3
        rw [List.getElem?_set_self (by have q2 := (List.getElem?_eq_some_iff.mp h4).1; simpa using q2)] at h4
        cases h4
        exact absurd h3 (other j m h1)
      · rw [List.getElem?_set_ne hj] at h1 h3
        rw [List.getElem?_set_ne hk] at h2 h4
        exact t.sep j k a m m' h1 h2 h3 h4
  · by_cases hj : i = j
    · subst hj
      rw [List.getElem?_set_self (by have q2 := (List.getElem?_eq_some_iff.mp h2).1; simpa using q2)] at h2
      cases h2
      exact n0
    · rw [List.getElem?_set_ne hj] at h1 h2
      exact t.loc j m a h1 h2 h3
  · rw [List.getElem?_set_ne (fun z => hf q hq z.symm)]
    exact t.fix q hq
/-- a slot's own list changes no more -/
theorem Gd.freeze (t : Gd K c S σ H Γ) {i : Nat} {l : List D} (hi : Γ[i]? = some (some (.ow l))) (hf : ∀ q ∈ c.fx, q.1 ≠ i) : ∃ S', Rl S H S' H ∧ Gd K c S' σ H (Γ.set i (some (.im (.lst l)))) := by
  obtain ⟨a, xs, h1, h2, h3, h4⟩ := t.ow hi
  have n0 : ¬ c.S0 a := t.loc i l a hi h1 hf
  have r : Rl S H (fun b => S b ∧ b ≠ a) H := fun b o n q _ => ⟨q, fun z => n z.1⟩
  have hlt := (List.getElem?_eq_some_iff.mp hi).1
  refine ⟨fun b => S b ∧ b ≠ a, r, by simpa using t.len, fun j e h => ?_, fun j k b m m' q1 q2 q3 q4 => ?_, fun j m b q1 q2 q3 => ?_, fun b z => ⟨t.sub b z, fun y => n0 (y ▸ z)⟩, fun b z => t.new b z.1, t.chg, fun b z => t.dom b z.1, t.dm0, t.fix, t.tab, t.tbS⟩
  · by_cases hj : i = j
    · subst hj
      rw [List.getElem?_set_self hlt] at h
      cases h
      exact ⟨.ref a, h1, .lst (.inl h3) (fun z => z.2 rfl) (h4.mono r)⟩
    · rw [List.getElem?_set_ne hj] at h
      obtain ⟨v, q1, q2⟩ := t.at_ j e h
      refine ⟨v, q1, ?_⟩
      cases e with
      | im d => exact Den.mono q2 r
      | ow m =>
        obtain ⟨b, zs, rfl, h5, h6, h7⟩ := q2
        exact ⟨b, zs, rfl, ⟨h5, fun z => hj (t.sep i j a l m hi h h1 (by rw [← z]; exact q1))⟩, h6, h7.mono r⟩
      | od b kvs =>
        obtain ⟨rfl, h5, ks, h6, h7⟩ := q2
        exact ⟨rfl, ⟨h5, fun z => by rw [z, h3] at h6; cases h6⟩, ks, h6, h7.mono r⟩
  · have n1 : i ≠ j := fun z => by
      subst z
      rw [List.getElem?_set_self hlt] at q1
      cases q1
    have n2 : i ≠ k := fun z => by
      subst z
      rw [List.getElem?_set_self hlt] at q2
      cases q2
    rw [List.getElem?_set_ne n1] at q1
    rw [List.getElem?_set_ne n2] at q2
    exact t.sep j k b m m' q1 q2 q3 q4
  · have n1 : i ≠ j := fun z => by
      subst z
      rw [List.getElem?_set_self hlt] at q1
      cases q1
    rw [List.getElem?_set_ne n1] at q1
    exact t.loc j m b q1 q2 q3
end
end Spr

set_option Elab.async false
set_option linter.all false
set_option maxRecDepth 100000
set_option maxHeartbeats 4000000
/-! Calls of defs where it is known that no repr is under way. -/
namespace Spr
open PySem PySem.Spec PyProof.Rows L2
/-- room, and no repr under way -/
structure RoomG (k : Nat) (A : Around) : Prop where
  r : Room k A
  g : A.guards = some []
theorem RoomG.mono {j k : Nat} {A : Around} (h : RoomG k A) (q : j ≤ k) : RoomG j A := ⟨h.r.mono q, h.g⟩
theorem RoomG.deeper {k : Nat} {A : Around} (h : RoomG (k + 1) A) (env : Env) : RoomG k (A.deeper env) := ⟨h.r.deeper env, h.g⟩
theorem RoomG.un {k : Nat} {A : Around} (h : RoomG k A) : A.units + 16 * k + 200 < cLine := h.r.un
theorem RoomG.dp {k : Nat} {A : Around} (h : RoomG k A) : A.depth + 3 * k + 5 < recursionLimit := h.r.dp
/-- a def's promise, where no repr is under way -/
structure FnG (P : Program) (w : World) (K : PySem.W.Frag) (mg : Str → Option Value) (base : Heap) (CX : CXT) (k : Nat) (f : Addr) (fd : FuncData) (ps : List Str) (sp : Sp) : Prop where
  len : ∀ vs H Q E, sp vs H Q E → vs.length = ps.length
  go : ∀ {A : Around} {outer : List Env} {s : Shared} {H : Hp} {args : Args} {us : List Value} {vs : List V} {Q : VK} {E : XK}, RoomG k A → Env0 P w K mg base A outer s H → BindsTo s fd args (ps.zip us) → Vals vs us → sp vs H Q E →
    codeAny (model P w) A (.call (.ref f) args) (CR CX outer P w H s Q E) s
section
variable {X : Cx} {CX : CXT} {k i : Nat} {f : Addr} {fd : FuncData} {ps : List Str} {sp : Sp} {x : Str} {p pos : Pos} {e : Expr} {es : List Expr} {t : TA}
theorem goS {E : L2.St → XK} {pins : List (Addr × Obj)} {σ : L2.St} {H : Hp} {s : Shared} {Q : VK} {us : List Value} {vs : List V} (F : FnG X.prog X.w X.K X.mg X.base CX k f fd ps sp) (hr : RoomG k X.A) (hb : Binds X.K fd ps []) (hx : PassesAt CX X σ (E σ))
    (I : Inv X pins σ H s) (r : Vals vs us) (h : sp vs H Q (E σ)) : wpAny (model X.prog X.w) X.A (call (.ref f) us) (EP X pins σ Q) X.xe s := by
  have b := hb s us I.kIn (by rw [List.append_nil, ← r.length]; exact F.len _ _ _ _ h)
  rw [List.append_nil] at b
  refine wpAny_call (codeAny_mono (F.go hr I.env0 b r h) fun z s' hq => ?_)
  match z, hq with
  | .error e, hq => exact hx pins H s e s' I hq
  | .ok (.ret u), hq => exact I.after hq
theorem callSG {E : L2.St → XK} (F : FnG X.prog X.w X.K X.mg X.base CX k f fd ps sp) (hr : RoomG k X.A) (hg : Gl X x) (hm : X.mg x = some (.ref f)) (hk : PySem.W.keepIn X.K (.ref f) = true) (hb : Binds X.K fd ps []) (hx : ∀ σ, PassesAt CX X σ (E σ))
    (ha : PA X (e :: es) t) (hdb : (x == ("__debug__" : Str)) = false := by decide) (he : starEach (e :: es) X.env = (false, eval e X.env) :: starEach es X.env := by rfl) (hpl : (backTo pos (starEach es X.env)).any (·.1) = false := by rfl) :
    PE X (.Call (.Name x p) (e :: es) [] pos) (tCallS sp E t) :=
  ⟨fun pins s σ H Q I h => wpAny_Call_Name_kw (ld_glob I hg hm (PySem.W.callWith_K (h₀ := X.base) I.ok.mod.kin hk (thn (ha.run pos pins s σ H _ I h) fun us s1 ⟨vs, H1, I1, r, q⟩ => ⟨I1.kIn, goS F hr hb (hx σ) I1 r q⟩) he hpl) hdb)⟩
theorem noPass {σ : L2.St} : PassesAt (L2.CX X.prog X.w) X σ (fun _ _ _ => False) := fun pins H s e s' I c => (passL (X := X) pins σ H s e s' I c)
theorem callG (F : FnG X.prog X.w X.K X.mg X.base (L2.CX X.prog X.w) k f fd ps sp) (hr : RoomG k X.A) (hg : Gl X x) (hm : X.mg x = some (.ref f)) (hk : PySem.W.keepIn X.K (.ref f) = true) (hb : Binds X.K fd ps [])
    (ha : PA X (e :: es) t) (hdb : (x == ("__debug__" : Str)) = false := by decide) (he : starEach (e :: es) X.env = (false, eval e X.env) :: starEach es X.env := by rfl) (hpl : (backTo pos (starEach es X.env)).any (·.1) = false := by rfl) :
    PE X (.Call (.Name x p) (e :: es) [] pos) (fun σ H Q => t σ H fun vs H1 => sp vs H1 Q (fun _ _ _ => False)) :=
  callSG (E := fun _ _ _ _ => False) F hr hg hm hk hb (fun σ => noPass) ha hdb he hpl
theorem call0G (F : FnG X.prog X.w X.K X.mg X.base (L2.CX X.prog X.w) k f fd ps sp) (hr : RoomG k X.A) (hg : Gl X x) (hm : X.mg x = some (.ref f)) (hk : PySem.W.keepIn X.K (.ref f) = true) (hb : Binds X.K fd ps [])
    (hdb : (x == ("__debug__" : Str)) = false := by decide) : PE X (.Call (.Name x p) [] [] pos) (fun σ H Q => sp [] H Q (fun _ _ _ => False)) :=
  ⟨fun pins s σ H Q I h => wpAny_Call_Name_kw (ld_glob I hg hm (PySem.W.callWith_K0 I.kIn hk (goS (us := []) (E := fun _ _ _ _ => False) F hr hb noPass I .nil h)) hdb)⟩
end
section
variable {X : Cx} {k i : Nat} {f : Addr} {fd : FuncData} {ps : List Str} {sp : Sp} {x : Str} {p pos : Pos} {e : Expr} {es : List Expr} {t : TA}
theorem callLG {E : XK} (F : FnG X.prog X.w X.K X.mg X.base (L2.CX X.prog X.w) k f fd ps sp) (hr : RoomG k X.A) (hN : X.N[i]? = some x) (hv : Vis X.env.scope x) (hk : PySem.W.keepIn X.K (.ref f) = true) (hb : Binds X.K fd ps []) (hx : Passes (L2.CX X.prog X.w) X E) (ha : PA X (e :: es) t)
    (hdb : (x == ("__debug__" : Str)) = false := by decide) (hcd : (x == ("__classdict__" : Str)) = false := by decide)
    (he : starEach (e :: es) X.env = (false, eval e X.env) :: starEach es X.env := by rfl) (hpl : (backTo pos (starEach es X.env)).any (·.1) = false := by rfl) :
    PE X (.Call (.Name x p) (e :: es) [] pos) (fun σ H Q => σ[i]? = some (some (.ref f)) ∧ t σ H fun vs H1 => sp vs H1 Q E) := by
  refine ⟨fun pins s σ H Q I ⟨hs, ht⟩ => ?_⟩
  have hv0 := (pe_var (pos := p) hN hv hdb hcd).run pins s σ H (fun v H1 => v = .ref f ∧ H1 = H) I ⟨.ref f, hs, rfl, rfl⟩
  refine wpAny_Call_Name_kw (thn hv0 fun u s1 ⟨v, H1, I1, r1, q1⟩ => ?_)
  obtain ⟨e1, e2⟩ := q1
  subst e1 e2
  cases r1
  exact PySem.W.callWith_K (h₀ := X.base) I.ok.mod.kin hk (thn (ha.run pos pins s1 σ _ _ I1 ht) fun us s2 ⟨vs, H2, I2, r, q⟩ => ⟨I2.kIn, goS (E := fun _ => E) F hr hb (fun pins H s e s' I c => hx pins σ H s e s' I c) I2 r q⟩) he hpl
theorem fn_ofG {CX : CXT} {P : Program} {w : World} {K : PySem.W.Frag} {mg : Str → Option Value} {base : Heap} {k : Nat} {f : Addr} {name qual : Str} {params : Arguments} {body : List Stmt} {scope : Scope} {dV kV doc pm cdv ct oc : Value} {an od : Option Addr}
    {osl : Array (Option Value)} {N ps : List Str} {sp : Sp} (lk : K.lookup f = some ⟨oc, od, .func (PySem.W.fnOf name qual params body scope dV kV doc pm an cdv ct), osl⟩) (hcd : PySem.W.codeIn K cdv qual = true) (S : FnScope N ps scope)
    (len : ∀ vs H Q E, sp vs H Q E → vs.length = ps.length)
    (hbody : ∀ (A : Around) (outer : List Env) (s : Shared) (H : Hp) (vs : List V) (Q : VK) (E : XK), RoomG k (A.deeper (envOfC qual scope s.heap.objs.size f cdv)) → sp vs H Q E →
      ∃ t, PSs (cxOf CX P w K mg base N qual scope f cdv A outer s H E) body t ∧ t { nx := fun _ H' => Q .non H', rt := Q } (start N vs) H) :
    FnG P w K mg base CX (k + 1) f (PySem.W.fnOf name qual params body scope dV kV doc pm an cdv ct) ps sp :=
  ⟨len, fun hr e0 hb r hsp => LamX.run_ofS lk hcd S hr.r e0 hb r (len _ _ _ _ hsp) fun hr' => hbody _ _ _ _ _ _ _ ⟨hr', hr.g⟩ hsp⟩
end
section
variable {P : Program} {w : World} {K : PySem.W.Frag} {mg : Str → Option Value} {base : Heap}
theorem okG {x qual : Str} {st : Stmt} {f : Addr} {fd : FuncData} {N ps : List Str} {k : Nat} {sp : Sp} (F : Fun K x qual st f fd) (S : FnScope N ps (defScope st)) (len : ∀ vs H Q E, sp vs H Q E → vs.length = ps.length)
    (hbody : ∀ (cdv : Value) (A : Around) (outer : List Env) (s : Shared) (H : Hp) (vs : List V) (Q : VK) (E : XK), RoomG k (A.deeper (envOfC qual (defScope st) s.heap.objs.size f cdv)) → sp vs H Q E →
      ∃ t, PSs (cxOf (L2.CX P w) P w K mg base N qual (defScope st) f cdv A outer s H E) (defBody st) t ∧ t { nx := fun _ H' => Q .non H', rt := Q } (start N vs) H) : FnG P w K mg base (L2.CX P w) (k + 1) f fd ps sp := by
  obtain ⟨oc, od, kV, doc, pm, an, cdv, ct, osl, rfl, lk, hcd⟩ := F.ex
  exact fn_ofG lk hcd S len (hbody cdv)
end
/-! ### lambdas -/
section
variable {X : Cx} {pins : List (Addr × Obj)} {σ : L2.St} {H : Hp} {s : Shared}
open LamX
/-- the lambda's object f, called where s0 (entered at HZ) stands -/
theorem lamRunG {scope : Scope} {params : Arguments} {body : Expr} {f c' : Addr} {pm ctv : Value} {k : Nat} {E : XK} {tb : TE} {A : Around} {outer : List Env} {s1 : Shared} {HZ : Hp} {Q : VK} (I : Inv X pins σ H s) (L : LamS X.env.scope scope)
    (of1 : s1.heap.get? f = some (PySem.W.kla_obj "<lambda>" (X.env.qual ++ "<lambda>") params body scope (cloFrom X.env.cells scope.names []) pm c' ctv)) (hc : HZ c' = some (CodeO c' (X.env.qual ++ "<lambda>")))
    (hbind : bindArgs (PySem.W.kla_fn "<lambda>" (X.env.qual ++ "<lambda>") params body scope (cloFrom X.env.cells scope.names []) pm (.ref c') ctv) ⟨[], []⟩ = pure [])
    (e0 : Env0 X.prog X.w X.K X.mg X.base A outer s1 HZ) (hno : s1.heap.NoLimit) (un : Un (frs X.stack) [] H HZ s.heap s1.heap) (hr : RoomG (k + 1) A)
    (hbody : RoomG k (A.deeper (lamEnv X scope s1.heap.objs.size f c')) → PE (lamCx X A outer s1 HZ E scope f c') body tb) (ht : tb σ HZ Q) :
    codeAny (model X.prog X.w) A (.call (.ref f) ⟨[], []⟩) (CR (L2.CX X.prog X.w) outer X.prog X.w HZ s1 Q E) s1 := by
  obtain ⟨⟨oc, vs, t, hoc, hdc, hvc⟩, _, _⟩ := e0.hok c' _ hc
  refine PySem.W.kla_callFunE hr.r.depth of1 rfl L.co L.gen rfl ⟨c', oc, vs, t, rfl, hoc, hdc, hvc⟩ ?_
  rw [hbind]
  refine wpAny_pure (wpAny_newFunctionEnv (fun y hy => (L.own y hy).2) (fun y hy => absurd hy (by simp)) (fun h1 hns hsb => ⟨hno.fresh _ hsb, ?_⟩) L.kind)
  have J := lam_start2 (E := E) (f := f) (c' := c') (tk := s1.toks + ([] : List (Str × Value)).length) I L e0 hr.r.hd un hns fun b o e => hsb.extBut b o (Nat.ne_of_lt (Heap.lt_size e)) (Heap.get?_push_of_some _ e)
  refine PySem.W.kla_codeExpr (wpAny_mono ((hbody (hr.deeper _)).run [] _ _ HZ Q J ht) (fun v s' hq => ?_) fun e s' hq => hq)
  obtain ⟨w', H', J', rv, q⟩ := hq
  exact ⟨w', H', J'.os, J'.bare, J'.base, J'.hok, rv, q⟩
theorem actG {CXg : CXT} {Eg : XK} {Ng : List Str} {qg : Str} {sg : Scope} {g f c' : Addr} {cdg pm ctv : Value} {params : Arguments} {body : Expr} {scope : Scope} {k i : Nat} {a : Str} {pn : List (Addr × Obj)} {xe : Value → Shared → Prop} {W : WX} {E : XK} {tb : TE} {p1 p2 : Pos}
    (I : Inv X pins σ H s) (L : LamS X.env.scope scope) (hf : s.heap.get? f = some (PySem.W.kla_obj "<lambda>" (X.env.qual ++ "<lambda>") params body scope (cloFrom X.env.cells scope.names []) pm c' ctv)) (hfn : H f = none) (hfr : f ∉ frs X.stack)
    (hbind : bindArgs (PySem.W.kla_fn "<lambda>" (X.env.qual ++ "<lambda>") params body scope (cloFrom X.env.cells scope.names []) pm (.ref c') ctv) ⟨[], []⟩ = pure [])
    (tk : Takes ((cxOf CXg X.prog X.w X.K X.mg X.base Ng qg sg g cdg X.A X.stack s H Eg).tr pn xe) W) (hW : ∀ cls d σ' H', E cls d H' → W cls d σ' H') (hr : RoomG (k + 1) (X.A.deeper (envOfC qg sg s.heap.objs.size g cdg)))
    (hbody : ∀ (A : Around) (outer : List Env) (s : Shared) (H : Hp), RoomG k (A.deeper (lamEnv X scope s.heap.objs.size f c')) → PE (lamCx X A outer s H E scope f c') body tb)
    (hN : Ng[i]? = some a) (hv : Vis sg a) (hd : (a == ("__debug__" : Str)) = false := by decide) (hcd : (a == ("__classdict__" : Str)) = false := by decide) :
    PE ((cxOf CXg X.prog X.w X.K X.mg X.base Ng qg sg g cdg X.A X.stack s H Eg).tr pn xe) (.Call (.Name a p1) [] [] p2)
      (fun σZ HZ Q => σZ[i]? = some (some (.ref f)) ∧ HZ c' = some (CodeO c' (X.env.qual ++ "<lambda>")) ∧ tb σ HZ Q) := by
  refine ⟨fun pinsZ sZ σZ HZ Q IZ ⟨hs, hc, ht⟩ => ?_⟩
  have hv0 := (pe_var (pos := p1) (i := i) hN hv hd hcd).run pinsZ sZ σZ HZ (fun v H1 => v = .ref f ∧ H1 = HZ) IZ ⟨.ref f, hs, rfl, rfl⟩
  refine wpAny_Call_Name_kw (thn hv0 fun u s1 ⟨v, H1, I1, r1, q1⟩ => ?_)
  obtain ⟨ev, eH⟩ := q1
  subst ev
  rw [eH] at I1
  obtain rfl : u = Value.ref f := r1
  have of1 : s1.heap.get? f = some (PySem.W.kla_obj "<lambda>" (X.env.qual ++ "<lambda>") params body scope (cloFrom X.env.cells scope.names []) pm c' ctv) := I1.base.keep f _ hf hfn hfr (fun z => nomatch (show f ∈ ([] : List Addr) from z))
  have un : Un (frs X.stack) [] H HZ s.heap s1.heap := I1.base
  have e1 : Env0 X.prog X.w X.K X.mg X.base (X.A.deeper (envOfC qg sg s.heap.objs.size g cdg)) (envOfC qg sg s.heap.objs.size g cdg :: X.stack) s1 HZ := I1.env0
  have hno : s1.heap.NoLimit := I1.nolimit
  have rc : codeAny (model X.prog X.w) (X.A.deeper (envOfC qg sg s.heap.objs.size g cdg)) (.call (.ref f) ⟨[], []⟩) (CR (L2.CX X.prog X.w) (envOfC qg sg s.heap.objs.size g cdg :: X.stack) X.prog X.w HZ s1 Q E) s1 :=
    lamRunG (X := X) (k := k) (tb := tb) I L of1 hc hbind e1 hno un hr (fun hr2 => hbody _ _ _ _ hr2) ht
  have hx : Passes (L2.CX X.prog X.w) ((cxOf CXg X.prog X.w X.K X.mg X.base Ng qg sg g cdg X.A X.stack s H Eg).tr pn xe) E := passes_call tk hW
  refine PySem.W.callWith_F0 ⟨_, _, _, _, of1⟩ (wpAny_call (codeAny_mono rc fun z s' hq => ?_))
  match z, hq with
  | .error e, hq => exact hx pinsZ σZ HZ s1 e s' I1 hq
  | .ok (.ret u), hq => exact I1.after hq
theorem lamcallG {T : List (Addr × Str)} {TT : (XK → Hp → VK → Prop) → Hp → VK → Prop} {x a : Str} {g c P : Addr} {k : Nat} {pg : Arguments} {bg : List Stmt} {sg : Scope} {dV kV doc pm cdv ct oc : Value} {an od : Option Addr} {osl : Array (Option Value)} {Ng : List Str}
    {params : Arguments} {body : Expr} {scope : Scope} {t : XK → TE} {p lpos pos : Pos} (hg : Gl X x) (hm : X.mg x = some (.ref g)) (hk : PySem.W.keepIn X.K (.ref g) = true)
    (lk : X.K.lookup g = some ⟨oc, od, .func (PySem.W.fnOf x x pg bg sg dV kV doc pm an cdv ct), osl⟩) (hcg : PySem.W.codeIn X.K cdv x = true) (hb : L2.Binds X.K (PySem.W.fnOf x x pg bg sg dV kV doc pm an cdv ct) [a] []) (Sg : FnScope Ng [a] sg) (hNg : Ng[0]? = some a) (hva : Vis sg a)
    (hG : GivesTo X Ng x sg g cdv bg a (X.env.qual ++ "<lambda>") TT)
    (TB : TabB X.base X.mg c P) (hcode : X.env.code = .ref c) (hmT : (P, X.env.qual ++ "<lambda>") ∈ T) (hu : ∀ p ∈ T, p.1 = P → p.2 = X.env.qual ++ "<lambda>") (hr : RoomG (k + 2) X.A) (L : LamS X.env.scope scope) (hdef : defaultsOf params X.env = ([], []))
    (hbind : ∀ (q : Str) (cl : List (Str × Addr)) (pm cv ctv : Value), bindArgs (PySem.W.kla_fn "<lambda>" q params body scope cl pm cv ctv) ⟨[], []⟩ = pure [])
    (hbody : ∀ (A : Around) (outer : List Env) (s : Shared) (H : Hp) (E : XK) (f c' : Addr), RoomG k (A.deeper (lamEnv X scope s.heap.objs.size f c')) → PE (lamCx X A outer s H E scope f c') body (t E))
    (hdb : (x == ("__debug__" : Str)) = false := by decide) (hd : (a == ("__debug__" : Str)) = false := by decide) (hcd : (a == ("__classdict__" : Str)) = false := by decide) :
    PE X (.Call (.Name x p) [.Lambda params body scope lpos] [] pos) (tLam T TT t) := by
  refine ⟨fun pins s σ H Q I ⟨hT, h⟩ => wpAny_Call_Name_kw (ld_glob I hg hm (PySem.W.callWith_K (h₀ := X.base) I.ok.mod.kin hk ?_ (by rfl) (by rfl)) hdb)⟩
  show wpAny _ _ (spliced ((false, eval (.Lambda params body scope lpos) X.env) :: backTo pos (starEach [] X.env))) _ _ s
  refine Calls.spliced_cons (lam_make2 I TB hcode hmT hu hT hdef (L.has I.ok) fun f c' pm' ctv H1 s' I1 eN T1 hf hfn hfr hco => Calls.spliced_nil ⟨I1.kIn, ?_⟩)
  have rc := run_ofS (N := Ng) (ps := [a]) (us := [.ref f]) (vs := [.ref f]) (Q := Q) (CX := C8.CX0) (E := C8.E0) lk hcg Sg hr.r I1.env0 (hb s' [.ref f] I1.kIn rfl) (.cons rfl .nil) rfl fun hr' => by
    obtain ⟨t', ht', hq'⟩ := hG f c' s' H1 Q (fun E H' Q' => t E σ H' Q') (fun W pn xe E p1 p2 tk hW => actG (i := 0) I1 L hf hfn hfr (hbind _ _ _ _ _) tk hW ⟨hr', hr.g⟩ (fun A outer s H hr2 => hbody A outer s H E f c' hr2) hNg hva hd hcd) hco (h H1 eN T1)
    exact ⟨t', ht'.nox, hq'⟩
  refine wpAny_call (codeAny_mono rc fun z s2 hq => ?_)
  match z, hq with
  | .error e, hq => exact (show False from hq).elim
  | .ok (.ret u), hq => exact I1.after hq
end
end Spr

set_option Elab.async false
set_option linter.all false
set_option maxRecDepth 100000
set_option maxHeartbeats 4000000
/-! Expressions: what they come to, by what the slots hold. -/
namespace Spr
open PySem PySem.Spec PyProof.Rows L2

theorem PE.wk {X : Cx} {e : Expr} {t t' : TE} (h : PE X e t) (w : ∀ σ H Q, t' σ H Q → t σ H Q) : PE X e t' := ⟨fun pins s σ H Q I q => h.run pins s σ H Q I (w σ H Q q)⟩
theorem PT.wk {X : Cx} {e : Expr} {t t' : TT} (h : PT X e t) (w : ∀ σ H Q, t' σ H Q → t σ H Q) : PT X e t' := ⟨fun pins s σ H Q I q => h.run pins s σ H Q I (w σ H Q q)⟩
theorem PW.wk {X : Cx} {e : Expr} {t t' : TT} (h : PW X e t) (w : ∀ σ H Q, t' σ H Q → t σ H Q) : PW X e t' := ⟨fun wh pins s σ H Q I q => h.run wh pins s σ H Q I (w σ H Q q)⟩
theorem PA.wk {X : Cx} {e : List Expr} {t t' : TA} (h : PA X e t) (w : ∀ σ H Q, t' σ H Q → t σ H Q) : PA X e t' := ⟨fun p pins s σ H Q I q => h.run p pins s σ H Q I (w σ H Q q)⟩

/-- the expression comes to d, all else is as it was -/
def tP (K : PySem.W.Frag) (c : Cn) (Γ : Gm) (d : D) : TE := fun σ H Q => ∃ S, Gd K c S σ H Γ ∧ ∀ v H', Same H H' → Den K S H' v d → Q v H'
def tQ (K : PySem.W.Frag) (c : Cn) (Γ : Gm) (b : Bool) : TT := fun σ H Q => ∃ S, Gd K c S σ H Γ ∧ ∀ H', Same H H' → Q b H'
def tAs (K : PySem.W.Frag) (c : Cn) (Γ : Gm) (ds : List D) : TA := fun σ H Q => ∃ S, Gd K c S σ H Γ ∧ ∀ vs H', Same H H' → DenL K S H' vs ds → Q vs H'
abbrev Pe (X : Cx) (c : Cn) (Γ : Gm) (e : Expr) (d : D) : Prop := PE X e (tP X.K c Γ d)
abbrev Pt (X : Cx) (c : Cn) (Γ : Gm) (e : Expr) (b : Bool) : Prop := PT X e (tQ X.K c Γ b)
abbrev Pw (X : Cx) (c : Cn) (Γ : Gm) (e : Expr) (b : Bool) : Prop := PW X e (tQ X.K c Γ b)
abbrev Pa (X : Cx) (c : Cn) (Γ : Gm) (es : List Expr) (ds : List D) : Prop := PA X es (tAs X.K c Γ ds)

section
variable {X : Cx} {c : Cn} {Γ : Gm} {a b e : Expr} {es : List Expr} {pos : Pos} {da db dc d : D}

/-! ### names, constants -/
theorem p_var (i : Nat) {x : Str} {d : D} {pos : Pos} (h : Γ[i]? = some (some (.im d)) := by rfl) (hN : X.N[i]? = some x := by rfl) (hv : Vis X.env.scope x := by first | exact Or.inl rfl | exact Or.inr (Or.inl rfl) | exact Or.inr (Or.inr rfl)) (hd : (x == ("__debug__" : Str)) = false := by decide)
    (hcd : (x == ("__classdict__" : Str)) = false := by decide) : Pe X c Γ (.Name x pos) d :=
  PE.wk (pe_var hN hv hd hcd) fun σ H Q ⟨S, t, q⟩ => let ⟨v, h1, h2⟩ := t.im h; ⟨v, h1, q v H (Same.refl H) h2⟩
theorem p_int {i : Int} {j pos} : Pe X c Γ (.Constant (.int i) j pos) (.int i) := PE.wk pe_int fun σ H Q ⟨S, t, q⟩ => q _ _ (Same.refl H) (.int i)
theorem p_bl {i : Bool} {j pos} : Pe X c Γ (.Constant (.bool i) j pos) (.bl i) := PE.wk pe_bl fun σ H Q ⟨S, t, q⟩ => q _ _ (Same.refl H) (.bl i)
theorem p_str {i : Str} {j pos} : Pe X c Γ (.Constant (.str i) j pos) (.str i) := PE.wk pe_str fun σ H Q ⟨S, t, q⟩ => q _ _ (Same.refl H) (.str i)
theorem p_non {j pos} : Pe X c Γ (.Constant .none j pos) .non := PE.wk pe_non fun σ H Q ⟨S, t, q⟩ => q _ _ (Same.refl H) .non
theorem p_glob {x : Str} {v : V} {u : Value} {pos : Pos} (hm : X.mg x = some u) (r : RelV v u) (hg : Gl X x := by rfl) (hd : (x == ("__debug__" : Str)) = false := by decide) : Pe X c Γ (.Name x pos) (.raw v) :=
  PE.wk (pe_glob hg hm r hd) fun σ H Q ⟨S, t, q⟩ => q _ _ (Same.refl H) (.raw v)
theorem p_ty {x : Str} {n : String} {pos : Pos} (hm : X.mg x = none) (hv : bootBuiltins x = some (.type n)) (hg : Gl X x := by rfl) (hn : x ≠ "__name__" := by decide) (hd : (x == ("__debug__" : Str)) = false := by decide) : Pe X c Γ (.Name x pos) (.raw (.ty n)) :=
  PE.wk (pe_bltn (v := .ty n) hg hm hv rfl hn hd) fun σ H Q ⟨S, t, q⟩ => q _ _ (Same.refl H) (.raw (.ty n))

/-! ### operators -/
/-- a two-place operator on what is denoted -/
def Bn (X : Cx) (op : Operator) (da db d : D) : Prop :=
  ∃ r : R2, OpR X (binaryOp op) r ∧ ∀ S H v w, (∀ a, S a → H a ≠ none) → Den X.K S H v da → Den X.K S H w db → ∀ Q : VK, (∀ u H', Same H H' → Den X.K S H' u d → Q u H') → r v w H Q
theorem p_bin {op : Operator} (ha : Pe X c Γ a da) (hb : Pe X c Γ b db) (ho : Bn X op da db d) : Pe X c Γ (.BinOp a op b pos) d := by
  obtain ⟨r, h1, h2⟩ := ho
  exact PE.wk (pe_op h1 ha hb) fun σ H Q ⟨S, t, q⟩ => ⟨S, t, fun v H1 e1 d1 => ⟨S, t.ext e1, fun w H2 e2 d2 => h2 S H2 v w (t.ext (e1.trans e2)).dom (d1.ext e2) d2 Q fun u H3 e3 d3 => q u H3 ((e1.trans e2).trans e3) d3⟩⟩
theorem bn_add {i j : Int} : Bn X .Add (.int i) (.int j) (.int (i + j)) := ⟨_, op_add, fun S H v w _ h1 h2 Q q => ⟨i, j, h1.int_, h2.int_, q _ _ (Same.refl H) (.int _)⟩⟩
theorem bn_sub {i j : Int} : Bn X .Sub (.int i) (.int j) (.int (i - j)) := ⟨_, op_sub, fun S H v w _ h1 h2 Q q => ⟨i, j, h1.int_, h2.int_, q _ _ (Same.refl H) (.int _)⟩⟩
theorem bn_mul {i j : Int} (hc : CMulW i j) : Bn X .Mult (.int i) (.int j) (.int (i * j)) := ⟨_, op_mulW, fun S H v w _ h1 h2 Q q => ⟨i, j, h1.int_, h2.int_, hc, q _ _ (Same.refl H) (.int _)⟩⟩
/-- one factor small -/
theorem bn_mul64 {i j : Int} (hc : CMul i j) : Bn X .Mult (.int i) (.int j) (.int (i * j)) := ⟨_, op_mul, fun S H v w _ h1 h2 Q q => ⟨i, j, h1.int_, h2.int_, hc, q _ _ (Same.refl H) (.int _)⟩⟩
theorem bn_fdiv {i j : Int} (hc : CDivW i j) : Bn X .FloorDiv (.int i) (.int j) (.int (i / j)) := ⟨_, op_fdivW, fun S H v w _ h1 h2 Q q => ⟨i, j, h1.int_, h2.int_, hc, q _ _ (Same.refl H) (.int _)⟩⟩
theorem bn_mod {i j : Int} (hc : 0 < j) : Bn X .Mod (.int i) (.int j) (.int (i % j)) := ⟨_, op_mod, fun S H v w _ h1 h2 Q q => ⟨i, j, h1.int_, h2.int_, hc, q _ _ (Same.refl H) (.int _)⟩⟩
theorem bn_pow {i j : Int} (hc : CPow i j) : Bn X .Pow (.int i) (.int j) (.int (i ^ j.toNat)) := ⟨_, op_pow, fun S H v w _ h1 h2 Q q => ⟨i, j, h1.int_, h2.int_, hc, q _ _ (Same.refl H) (.int _)⟩⟩
theorem same_new {H : Hp} {p : Addr} {o : HO} (h : H p = none) : Same H (upd H p o) := fun a u e => by
  rw [upd_ne (ne_of_none e h)]
  exact e
theorem not_S {S : Addr → Prop} {H : Hp} (hd : ∀ a, S a → H a ≠ none) {p : Addr} (h : H p = none) : ¬ S p := fun z => hd p z h
/-- a new list | tuple of things that are known -/
theorem Den.newL {K : PySem.W.Frag} {S : Addr → Prop} {H : Hp} {p : Addr} {xs : List V} {l : List D} (hd : ∀ a, S a → H a ≠ none) (h : H p = none) (hl : DenL K S H xs l) : Den K S (upd H p (.lst xs)) (.ref p) (.lst l) :=
  .lst (.inl upd_same) (not_S hd h) (hl.ext (same_new h))
theorem Den.newT {K : PySem.W.Frag} {S : Addr → Prop} {H : Hp} {p : Addr} {xs : List V} {l : List D} (hd : ∀ a, S a → H a ≠ none) (h : H p = none) (hl : DenL K S H xs l) : Den K S (upd H p (.tup xs)) (.ref p) (.tup l) :=
  .tup (.inl upd_same) (not_S hd h) (hl.ext (same_new h))
/-- the lists that list + list asks for are tracked ones -/
theorem Den.lstT {K : PySem.W.Frag} {S : Addr → Prop} {H : Hp} {v : V} {l : List D} (h : Den K S H v (.lst l)) : (∃ a xs, v = .ref a ∧ Rd H a (.lst xs) ∧ ¬ S a ∧ DenL K S H xs l) ∨ ∃ a xs, v = .ref a ∧ KL K a xs ∧ DenL K S H xs l := by
  cases h with
  | lst r n hl => exact .inl ⟨_, _, rfl, r, n, hl⟩
  | lstK r hl => exact .inr ⟨_, _, rfl, r, hl⟩

theorem p_neg {i : Int} (ha : Pe X c Γ a (.int i)) : Pe X c Γ (.UnaryOp .USub a pos) (.int (-i)) :=
  PE.wk (pe_un un_neg ha) fun σ H Q ⟨S, t, q⟩ => ⟨S, t, fun v H1 e1 d1 => ⟨i, d1.int_, q _ _ e1 (.int _)⟩⟩
theorem p_notV {i : Bool} (ha : Pe X c Γ a (.bl i)) : Pe X c Γ (.UnaryOp .Not a pos) (.bl (!i)) :=
  PE.wk (pe_not ha) fun σ H Q ⟨S, t, q⟩ => ⟨S, t, fun v H1 e1 d1 => ⟨i, d1.bl_, q _ _ e1 (.bl _)⟩⟩

/-! ### comparisons -/
def Cm (X : Cx) (op : CmpOp) (da db : D) (k : Bool) : Prop :=
  ∃ r : R2, OpR X (compareOp op) r ∧ ∀ S H v w, Den X.K S H v da → Den X.K S H w db → ∀ Q : VK, Q (.bl k) H → r v w H Q
theorem c_lt {i j : Int} : Cm X .Lt (.int i) (.int j) (decide (i < j)) := ⟨_, op_lt, fun S H v w h1 h2 Q q => ⟨i, j, h1.int_, h2.int_, q⟩⟩
theorem c_le {i j : Int} : Cm X .LtE (.int i) (.int j) (decide (i ≤ j)) := ⟨_, op_le, fun S H v w h1 h2 Q q => ⟨i, j, h1.int_, h2.int_, q⟩⟩
theorem c_gt {i j : Int} : Cm X .Gt (.int i) (.int j) (decide (j < i)) := ⟨_, op_gt, fun S H v w h1 h2 Q q => ⟨i, j, h1.int_, h2.int_, q⟩⟩
theorem c_ge {i j : Int} : Cm X .GtE (.int i) (.int j) (decide (j ≤ i)) := ⟨_, op_ge, fun S H v w h1 h2 Q q => ⟨i, j, h1.int_, h2.int_, q⟩⟩
theorem c_eqI {i j : Int} : Cm X .Eq (.int i) (.int j) (decide (i = j)) := ⟨_, op_eq, fun S H v w h1 h2 Q q => by
  rw [h1.int_, h2.int_]
  exact ⟨rfl, by rw [dec_int]; rw [Bool.beq_eq_decide_eq]; exact q⟩⟩
theorem c_neI {i j : Int} : Cm X .NotEq (.int i) (.int j) (!decide (i = j)) := ⟨_, op_ne, fun S H v w h1 h2 Q q => by
  rw [h1.int_, h2.int_]
  exact ⟨rfl, by rw [dec_int]; rw [Bool.beq_eq_decide_eq]; exact q⟩⟩
/-- of two things None, flags, ints, texts; by their kinds -/
def isN : D → Bool
  | .non => true
  | _ => false
theorem Den.non_iff {K : PySem.W.Frag} {S : Addr → Prop} {H : Hp} {v : V} {d : D} (h : Den K S H v d) (hr : ∀ u, d ≠ .raw u) : decide (v = .non) = isN d := by
  cases h <;> first | rfl | exact absurd rfl (hr _) | simp [isN]
theorem c_is {d : D} (hr : ∀ u, d ≠ .raw u := by intro _ z; cases z) : Cm X .Is d .non (isN d) := ⟨_, op_isN, fun S H v w h1 h2 Q q => ⟨h2.non_, by rw [h1.non_iff hr]; exact q⟩⟩
theorem c_isnot {d : D} (hr : ∀ u, d ≠ .raw u := by intro _ z; cases z) : Cm X .IsNot d .non (!isN d) := ⟨_, op_notN, fun S H v w h1 h2 Q q => ⟨h2.non_, by rw [h1.non_iff hr]; exact q⟩⟩

/-! data as the library's == sees it -/
mutual
def toPy : D → PyData
  | .non => .none
  | .bl b => .bool b
  | .int i => .int i
  | .str s => .str s
  | .tup l => .tuple (toPyL l)
  | .lst l => .list (toPyL l)
  | .raw _ => .none
  | .obj _ _ => .none
  | .tl _ => .none
  | .dic => .none
  | .tt _ => .none
  | .pt _ => .none
def toPyL : List D → List PyData
  | [] => []
  | d :: ds => toPy d :: toPyL ds
end
mutual
def pyOk : D → Bool
  | .raw _ => false
  | .tl _ => false
  | .dic => false
  | .tt _ => false
  | .pt _ => false
  | .obj _ _ => false
  | .tup l => pyOkL l
  | .lst l => pyOkL l
  | _ => true
def pyOkL : List D → Bool
  | [] => true
  | d :: ds => pyOk d && pyOkL ds
end
section
variable {K : PySem.W.Frag} {S : Addr → Prop} {H : Hp}
mutual
theorem Den.dp : ∀ (d : D) (v : V), pyOk d = true → Den K S H v d → Dp K H v (toPy d)
  | .non, _, _, .non => .non
  | .bl b, _, _, .bl _ => .bl b
  | .int i, _, _, .int _ => .int i
  | .str s, _, _, .str _ => .str s
  | .raw v, _, h, _ => by cases h
  | .tup l, _, h, .tup r n hl => .tup (.inl r) (DenL.dp l _ h hl)
  | .tup l, _, h, .tupK r hl => .tup (.inr r) (DenL.dp l _ h hl)
  | .lst l, _, h, .lst r n hl => .lst (.inl r) (DenL.dp l _ h hl)
  | .lst l, _, h, .lstK r hl => .lst (.inr r) (DenL.dp l _ h hl)
  | .obj C gs, _, h, _ => by cases h
  | .tl l, _, h, _ => by cases h
  | .dic, _, h, _ => by cases h
  | .tt l, _, h, _ => by cases h
  | .pt l, _, h, _ => by cases h
theorem DenL.dp : ∀ (l : List D) (xs : List V), pyOkL l = true → DenL K S H xs l → DpAll K H xs (toPyL l)
  | [], _, _, .nil => .nil
  | d :: ds, _, h, .cons q t => by
    have h2 : (pyOk d && pyOkL ds) = true := h
    obtain ⟨h3, h4⟩ := Bool.and_eq_true_iff.mp h2
    exact .cons (Den.dp d _ h3 q) (DenL.dp ds _ h4 t)
end
end
/-- == on things -/
def deq (a b : D) : Bool := PyData.eqv (toPy a) (toPy b)
/-- what == takes -/
def eqOk (d : D) : Bool := pyOk d && SeqAt.shaped (toPy d)
theorem c_eq (hu : X.A.units + 64 < cLine) (h1 : eqOk da = true) (h2 : eqOk db = true) : Cm X .Eq da db (deq da db) := ⟨_, op_eqD hu, fun S H v w d1 d2 Q q => by
  obtain ⟨p1, p2⟩ := Bool.and_eq_true_iff.mp h1
  obtain ⟨p3, p4⟩ := Bool.and_eq_true_iff.mp h2
  exact ⟨_, _, Den.dp _ _ p1 d1, Den.dp _ _ p3 d2, p2, p4, q⟩⟩
theorem c_ne (hu : X.A.units + 64 < cLine) (h1 : eqOk da = true) (h2 : eqOk db = true) : Cm X .NotEq da db (!deq da db) := ⟨_, op_neD hu, fun S H v w d1 d2 Q q => by
  obtain ⟨p1, p2⟩ := Bool.and_eq_true_iff.mp h1
  obtain ⟨p3, p4⟩ := Bool.and_eq_true_iff.mp h2
  exact ⟨_, _, Den.dp _ _ p1 d1, Den.dp _ _ p3 d2, p2, p4, q⟩⟩

theorem p_cmp {op : CmpOp} {k : Bool} (ha : Pe X c Γ a da) (hb : Pe X c Γ b db) (h : Cm X op da db k) (hm : behindInMarks op b = false := by first | exact nomark _ | rfl) : Pe X c Γ (.Compare a [op] [b] pos) (.bl k) := by
  obtain ⟨r, h1, h2⟩ := h
  exact PE.wk (pe_cmpR h1 ha hb hm) fun σ H Q ⟨S, t, q⟩ => ⟨S, t, fun v H1 e1 d1 => ⟨S, t.ext e1, fun w H2 e2 d2 => h2 S H2 v w (d1.ext e2) d2 Q (q _ H2 (e1.trans e2) (.bl k))⟩⟩
theorem t_cmp {op : CmpOp} {k : Bool} (ha : Pe X c Γ a da) (hb : Pe X c Γ b db) (h : Cm X op da db k) (hm : behindInMarks op b = false := by first | exact nomark _ | rfl) : Pt X c Γ (.Compare a [op] [b] pos) k := by
  obtain ⟨r, h1, h2⟩ := h
  exact PT.wk (pt_cmpR h1 ha hb hm) fun σ H Q ⟨S, t, q⟩ => ⟨S, t, fun v H1 e1 d1 => ⟨S, t.ext e1, fun w H2 e2 d2 => h2 S H2 v w (d1.ext e2) d2 _ ⟨k, rfl, q H2 (e1.trans e2)⟩⟩⟩
theorem p_chain {op op' : CmpOp} {e : Expr} {k k' : Bool} (ha : Pe X c Γ a da) (hb : Pe X c Γ b db) (hc : k = true → Pe X c Γ e dc) (h : Cm X op da db k) (h' : k = true → Cm X op' db dc k') (hm : lastMarks [op, op'] [b, e] = false := by with_unfolding_all rfl) :
    Pe X c Γ (.Compare a [op, op'] [b, e] pos) (.bl (k && k')) := by
  obtain ⟨r, h1, h2⟩ := h
  cases k with
  | true =>
    obtain ⟨r', h3, h4⟩ := h' rfl
    exact PE.wk (pe_chain h1 h3 ha hb (hc rfl) hm) fun σ H Q ⟨S, t, q⟩ => ⟨S, t, fun v H1 e1 d1 => ⟨S, t.ext e1, fun w H2 e2 d2 => h2 S H2 v w (d1.ext e2) d2 _ ⟨true, rfl, by
      refine iteT ?_
      exact ⟨S, t.ext (e1.trans e2), fun u H3 e3 d3 => h4 S H3 w u (d2.ext e3) d3 Q (q _ H3 ((e1.trans e2).trans e3) (.bl _))⟩⟩⟩⟩
  | false =>
    have hN : PE X e (fun _ _ _ => False) := ⟨fun _ _ _ _ _ _ z => z.elim⟩
    have hO : OpR X (compareOp op') (fun _ _ _ _ => False) := fun _ _ _ _ _ _ _ _ _ _ _ _ z => z.elim
    exact PE.wk (pe_chain h1 hO ha hb hN hm) fun σ H Q ⟨S, t, q⟩ => ⟨S, t, fun v H1 e1 d1 => ⟨S, t.ext e1, fun w H2 e2 d2 => h2 S H2 v w (d1.ext e2) d2 _ ⟨false, rfl, by
      refine iteF ?_
      exact q _ H2 (e1.trans e2) (.bl _)⟩⟩⟩
theorem t_chain {op op' : CmpOp} {e : Expr} {k k' : Bool} (ha : Pe X c Γ a da) (hb : Pe X c Γ b db) (hc : k = true → Pe X c Γ e dc) (h : Cm X op da db k) (h' : k = true → Cm X op' db dc k') (hm : lastMarks [op, op'] [b, e] = false := by with_unfolding_all rfl) :
    Pt X c Γ (.Compare a [op, op'] [b, e] pos) (k && k') := by
  obtain ⟨r, h1, h2⟩ := h
  cases k with
  | true =>
    obtain ⟨r', h3, h4⟩ := h' rfl
    exact PT.wk (pt_chain h1 h3 ha hb (hc rfl) hm) fun σ H Q ⟨S, t, q⟩ => ⟨S, t, fun v H1 e1 d1 => ⟨S, t.ext e1, fun w H2 e2 d2 => h2 S H2 v w (d1.ext e2) d2 _ ⟨true, rfl, by
      refine iteT ?_
      exact ⟨S, t.ext (e1.trans e2), fun u H3 e3 d3 => h4 S H3 w u (d2.ext e3) d3 _ ⟨_, rfl, q H3 ((e1.trans e2).trans e3)⟩⟩⟩⟩⟩
  | false =>
    have hN : PE X e (fun _ _ _ => False) := ⟨fun _ _ _ _ _ _ z => z.elim⟩
    have hO : OpR X (compareOp op') (fun _ _ _ _ => False) := fun _ _ _ _ _ _ _ _ _ _ _ _ z => z.elim
    exact PT.wk (pt_chain h1 hO ha hb hN hm) fun σ H Q ⟨S, t, q⟩ => ⟨S, t, fun v H1 e1 d1 => ⟨S, t.ext e1, fun w H2 e2 d2 => h2 S H2 v w (d1.ext e2) d2 _ ⟨false, rfl, by
      refine iteF ?_
      exact ⟨_, rfl, q H2 (e1.trans e2)⟩⟩⟩⟩

/-! ### tests -/
theorem t_val {k : Bool} (h : Pe X c Γ e (.bl k)) (he : ∀ whole, isTrue e X.env whole = (do let v ← whole; standAt e.pos; holding [v] (truthy v)) := by intro _; rfl) : Pt X c Γ e k :=
  PT.wk (pt_val h he) fun σ H Q ⟨S, t, q⟩ => ⟨S, t, fun v H1 e1 d1 => ⟨k, d1.bl_, q H1 e1⟩⟩
theorem t_not {k : Bool} (h : Pt X c Γ a k) : Pt X c Γ (.UnaryOp .Not a pos) (!k) :=
  PT.wk (pt_not h) fun σ H Q ⟨S, t, q⟩ => ⟨S, t, fun H1 e1 => q H1 e1⟩
theorem t_pw {k : Bool} (h : Pw X c Γ e k) : Pt X c Γ e k := PW.pt h
theorem w_and1 {k : Bool} (h : Pt X c Γ a k) : Pw X c Γ (.BoolOp .And [a] pos) k := pw_and1 h
theorem w_or1 {k : Bool} (h : Pt X c Γ a k) : Pw X c Γ (.BoolOp .Or [a] pos) k := pw_or1 h
theorem w_and {k k' : Bool} (h : Pt X c Γ a k) (h' : k = true → Pw X c Γ (.BoolOp .And (b :: es) pos) k') : Pw X c Γ (.BoolOp .And (a :: b :: es) pos) (k && k') := by
  cases k with
  | true => exact PW.wk (pw_and h (h' rfl)) fun σ H Q ⟨S, t, q⟩ => ⟨S, t, fun H1 e1 => by
      refine iteT ?_
      exact ⟨S, t.ext e1, fun H2 e2 => q H2 (e1.trans e2)⟩⟩
  | false =>
    have hN : PW X (.BoolOp .And (b :: es) pos) (fun _ _ _ => False) := ⟨fun _ _ _ _ _ _ _ z => z.elim⟩
    exact PW.wk (pw_and h hN) fun σ H Q ⟨S, t, q⟩ => ⟨S, t, fun H1 e1 => by
      refine iteF ?_
      exact q H1 e1⟩
theorem w_or {k k' : Bool} (h : Pt X c Γ a k) (h' : k = false → Pw X c Γ (.BoolOp .Or (b :: es) pos) k') : Pw X c Γ (.BoolOp .Or (a :: b :: es) pos) (k || k') := by
  cases k with
  | false => exact PW.wk (pw_or h (h' rfl)) fun σ H Q ⟨S, t, q⟩ => ⟨S, t, fun H1 e1 => by
      refine iteF ?_
      exact ⟨S, t.ext e1, fun H2 e2 => q H2 (e1.trans e2)⟩⟩
  | true =>
    have hN : PW X (.BoolOp .Or (b :: es) pos) (fun _ _ _ => False) := ⟨fun _ _ _ _ _ _ _ z => z.elim⟩
    exact PW.wk (pw_or h hN) fun σ H Q ⟨S, t, q⟩ => ⟨S, t, fun H1 e1 => by
      refine iteT ?_
      exact q H1 e1⟩
theorem t_is {k k' : Bool} (h : Pt X c Γ e k) (q : k = k') : Pt X c Γ e k' := q ▸ h
theorem p_is {d' : D} (h : Pe X c Γ e d) (q : d = d') : Pe X c Γ e d' := q ▸ h
/-! .. as values, flags -/
theorem p_one {op} (h : Pe X c Γ a d) : Pe X c Γ (.BoolOp op [a] pos) d := pe_one h
theorem p_and {k k' : Bool} (h : Pe X c Γ a (.bl k)) (h' : k = true → Pe X c Γ (.BoolOp .And (b :: es) pos) (.bl k')) : Pe X c Γ (.BoolOp .And (a :: b :: es) pos) (.bl (k && k')) := by
  cases k with
  | true => exact PE.wk (pe_and h (h' rfl)) fun σ H Q ⟨S, t, q⟩ => ⟨S, t, fun v H1 e1 d1 => ⟨true, d1.bl_, by
      refine iteT ?_
      exact ⟨S, t.ext e1, fun w H2 e2 d2 => q w H2 (e1.trans e2) d2⟩⟩⟩
  | false =>
    have hN : PE X (.BoolOp .And (b :: es) pos) (fun _ _ _ => False) := ⟨fun _ _ _ _ _ _ z => z.elim⟩
    exact PE.wk (pe_and h hN) fun σ H Q ⟨S, t, q⟩ => ⟨S, t, fun v H1 e1 d1 => ⟨false, d1.bl_, by
      refine iteF ?_
      exact q _ H1 e1 (.bl _)⟩⟩
theorem p_or {k k' : Bool} (h : Pe X c Γ a (.bl k)) (h' : k = false → Pe X c Γ (.BoolOp .Or (b :: es) pos) (.bl k')) : Pe X c Γ (.BoolOp .Or (a :: b :: es) pos) (.bl (k || k')) := by
  cases k with
  | false => exact PE.wk (pe_or h (h' rfl)) fun σ H Q ⟨S, t, q⟩ => ⟨S, t, fun v H1 e1 d1 => ⟨false, d1.bl_, by
      refine iteF ?_
      exact ⟨S, t.ext e1, fun w H2 e2 d2 => q w H2 (e1.trans e2) d2⟩⟩⟩
  | true =>
    have hN : PE X (.BoolOp .Or (b :: es) pos) (fun _ _ _ => False) := ⟨fun _ _ _ _ _ _ z => z.elim⟩
    exact PE.wk (pe_or h hN) fun σ H Q ⟨S, t, q⟩ => ⟨S, t, fun v H1 e1 d1 => ⟨true, d1.bl_, by
      refine iteT ?_
      exact q _ H1 e1 (.bl _)⟩⟩
theorem p_if {k : Bool} {c' : Expr} (h : Pt X c Γ c' k) (h1 : k = true → Pe X c Γ a d) (h2 : k = false → Pe X c Γ b d) : Pe X c Γ (.IfExp c' a b pos) d := by
  cases k with
  | true =>
    have hN : PE X b (fun _ _ _ => False) := ⟨fun _ _ _ _ _ _ z => z.elim⟩
    exact PE.wk (pe_ifExp h (h1 rfl) hN) fun σ H Q ⟨S, t, q⟩ => ⟨S, t, fun H1 e1 => by
      refine iteT ?_
      exact ⟨S, t.ext e1, fun w H2 e2 d2 => q w H2 (e1.trans e2) d2⟩⟩
  | false =>
    have hN : PE X a (fun _ _ _ => False) := ⟨fun _ _ _ _ _ _ z => z.elim⟩
    exact PE.wk (pe_ifExp h hN (h2 rfl)) fun σ H Q ⟨S, t, q⟩ => ⟨S, t, fun H1 e1 => by
      refine iteF ?_
      exact ⟨S, t.ext e1, fun w H2 e2 d2 => q w H2 (e1.trans e2) d2⟩⟩

/-! ### arguments, displays -/
theorem a_nil : Pa X c Γ [] [] := PA.wk pa_nil fun σ H Q ⟨S, t, q⟩ => q [] H (Same.refl H) .nil
theorem a_cons {ds : List D} (h : Pe X c Γ e d) (hr : Pa X c Γ es ds) (hs : starEach (e :: es) X.env = (false, eval e X.env) :: starEach es X.env := by rfl) : Pa X c Γ (e :: es) (d :: ds) :=
  PA.wk (pa_cons h hr hs) fun σ H Q ⟨S, t, q⟩ => ⟨S, t, fun v H1 e1 d1 => ⟨S, t.ext e1, fun vs H2 e2 d2 => q _ H2 (e1.trans e2) (.cons (d1.ext e2) d2)⟩⟩
theorem small_line {n : Nat} (h : n ≤ 16000000) : n ≤ sizeLine := Nat.le_trans h (by decide)
theorem p_tup {x1} {ds : List D} (h : Pa X c Γ es ds) (hl : ds.length ≤ 16000000 := by simp) : Pe X c Γ (.Tuple es x1 pos) (.tup ds) :=
  PE.wk (pe_tup h) fun σ H Q ⟨S, t, q⟩ => ⟨S, t, fun vs H1 e1 d1 => ⟨by rw [d1.length]; exact small_line hl, fun p hp => q _ _ (e1.trans (same_new hp)) (Den.newT (t.ext e1).dom hp d1)⟩⟩
theorem p_lst {ds : List D} (h : Pa X c Γ es ds) (hl : ds.length ≤ 16000000 := by simp) : Pe X c Γ (.List es pos) (.lst ds) :=
  PE.wk (pe_lst h) fun σ H Q ⟨S, t, q⟩ => ⟨S, t, fun vs H1 e1 d1 => ⟨by rw [d1.length]; exact small_line hl, fun p hp => q _ _ (e1.trans (same_new hp)) (Den.newL (t.ext e1).dom hp d1)⟩⟩

/-! ### items, slices -/
theorem atI_of {α β : Type} {xs : List α} {l : List β} (hl : xs.length = l.length) {i : Int} {d : β} (h : atI l i = some d) : ∃ j, ixN xs.length i = some j ∧ l[j]? = some d := by
  unfold atI at h
  rw [hl]
  cases e : ixN l.length i with
  | none => rw [e] at h; cases h
  | some j => rw [e] at h; exact ⟨j, rfl, h⟩
theorem DenL.atI {K : PySem.W.Frag} {S : Addr → Prop} {H : Hp} {xs : List V} {l : List D} {i : Int} {d : D} (h : DenL K S H xs l) (q : L2.atI l i = some d) : ∃ x, L2.atI xs i = some x ∧ Den K S H x d := by
  obtain ⟨j, h1, h2⟩ := atI_of h.length q
  obtain ⟨x, h3, h4⟩ := h.at_ h2
  refine ⟨x, ?_, h4⟩
  show (ixN xs.length i).bind (fun j => xs[j]?) = some x
  rw [h1]
  exact h3
theorem p_ixT {l : List D} {i : Int} (ha : Pe X c Γ a (.tup l)) (hb : Pe X c Γ b (.int i)) (h : L2.atI l i = some d) (hs : PlainIx b := by exact fun _ _ => rfl) : Pe X c Γ (.Subscript a b pos) d :=
  PE.wk (pe_ix ix_tup ha hb hs) fun σ H Q ⟨S, t, q⟩ => ⟨S, t, fun v H1 e1 d1 => ⟨S, t.ext e1, fun w H2 e2 d2 => by
    obtain ⟨p, xs, rfl, h1, h2⟩ := (d1.ext e2).tup_
    obtain ⟨x, h3, h4⟩ := h2.atI h
    exact ⟨p, xs, i, x, rfl, d2.int_, h1, h3, q x H2 (e1.trans e2) h4⟩⟩⟩
theorem p_ixL {l : List D} {i : Int} (ha : Pe X c Γ a (.lst l)) (hb : Pe X c Γ b (.int i)) (h : L2.atI l i = some d) (hs : PlainIx b := by exact fun _ _ => rfl) : Pe X c Γ (.Subscript a b pos) d :=
  PE.wk (pe_ix ix_list ha hb hs) fun σ H Q ⟨S, t, q⟩ => ⟨S, t, fun v H1 e1 d1 => ⟨S, t.ext e1, fun w H2 e2 d2 => by
    obtain ⟨p, xs, rfl, h1, h2⟩ := (d1.ext e2).lst_
    obtain ⟨x, h3, h4⟩ := h2.atI h
    exact ⟨p, xs, i, x, rfl, d2.int_, h1, h3, q x H2 (e1.trans e2) h4⟩⟩⟩
/-- an item of a list of one's own -/
theorem p_ixO (k : Nat) {l : List D} {i : Int} {x : Str} {p1 : Pos} (hk : Γ[k]? = some (some (.ow l))) (hb : Pe X c Γ b (.int i)) (h : L2.atI l i = some d) (hN : X.N[k]? = some x := by rfl) (hv : Vis X.env.scope x := by first | exact Or.inl rfl | exact Or.inr (Or.inl rfl) | exact Or.inr (Or.inr rfl))
    (hd : (x == ("__debug__" : Str)) = false := by decide) (hcd : (x == ("__classdict__" : Str)) = false := by decide) (hs : PlainIx b := by exact fun _ _ => rfl) : Pe X c Γ (.Subscript (.Name x p1) b pos) d :=
  PE.wk (pe_ix ix_list (pe_var hN hv hd hcd) hb hs) fun σ H Q ⟨S, t, q⟩ => by
    obtain ⟨p, xs, h1, h2, h3, h4⟩ := t.ow hk
    refine ⟨_, h1, S, t, fun w H2 e2 d2 => ?_⟩
    obtain ⟨y, h5, h6⟩ := h4.atI h
    exact ⟨p, xs, i, y, rfl, d2.int_, SqL.of (e2 _ _ h3), h5, q y H2 e2 (h6.ext e2)⟩
end
end Spr

set_option Elab.async false
set_option linter.all false
set_option maxRecDepth 100000
set_option maxHeartbeats 4000000
/-! Calls of defs that change nothing, of built-ins. -/
namespace Spr
open PySem PySem.Spec PyProof.Rows L2

/-- an error: its class, its fields -/
structure Er where
  C : Addr
  fs : List (Str × V)
def ErrAt (e : Er) (cls : Value) (dx : Option Addr) (H : Hp) : Prop := cls = .ref e.C ∧ ((e.fs = [] ∧ dx = none) ∨ (e.fs ≠ [] ∧ ∃ d, dx = some d ∧ H d = some (.xd e.fs)))
/-- a def that changes nothing: from what its arguments denote to what it gives, or raises -/
abbrev Fs := List D → Except Er D → Prop
def upP (K : PySem.W.Frag) (F : Fs) : Sp := fun vs H Q E => ∃ (S : Addr → Prop) (ds : List D) (r : Except Er D), (∀ a, S a → H a ≠ none) ∧ DenL K S H vs ds ∧ F ds r ∧
  (∀ d, r = .ok d → ∀ v H', Same H H' → Den K S H' v d → Q v H') ∧ (∀ e, r = .error e → ∀ cls dx H', Same H H' → ErrAt e cls dx H' → E cls dx H')
/-- a def of the module by its name -/
structure Fo (P : Program) (w : World) (K : PySem.W.Frag) (mg : Str → Option Value) (base : Heap) (k : Nat) (x : Str) (sp : Sp) : Prop where
  ex : ∃ (f : Addr) (fd : FuncData) (ps : List Str), FnG P w K mg base (L2.CX P w) k f fd ps sp ∧ mg x = some (.ref f) ∧ PySem.W.keepIn K (.ref f) = true ∧ Binds K fd ps []
abbrev FoP (P : Program) (w : World) (K : PySem.W.Frag) (mg : Str → Option Value) (base : Heap) (k : Nat) (x : Str) (F : Fs) : Prop := Fo P w K mg base k x (upP K F)
abbrev FoX (X : Cx) (k : Nat) (x : Str) (F : Fs) : Prop := FoP X.prog X.w X.K X.mg X.base k x F

section
variable {X : Cx} {c : Cn} {Γ : Gm} {a b e : Expr} {es : List Expr} {pos p : Pos} {da db dc d : D} {j k : Nat} {x : Str}
theorem p_call {F : Fs} {ds : List D} (G : FoX X k x F) (hr : RoomG j X.A) (ha : Pa X c Γ (e :: es) ds) (hF : F ds (.ok d)) (hk : k ≤ j := by decide) (hg : Gl X x := by rfl)
    (hdb : (x == ("__debug__" : Str)) = false := by decide) (he : starEach (e :: es) X.env = (false, eval e X.env) :: starEach es X.env := by rfl) (hpl : (backTo pos (starEach es X.env)).any (·.1) = false := by rfl) :
    Pe X c Γ (.Call (.Name x p) (e :: es) [] pos) d := by
  obtain ⟨f, fd, ps, h1, h2, h3, h4⟩ := G.ex
  exact PE.wk (callG h1 (hr.mono hk) hg h2 h3 h4 ha hdb he hpl) fun σ H Q ⟨S, t, q⟩ => ⟨S, t, fun vs H1 e1 d1 => by
    exact ⟨S, ds, .ok d, (t.ext e1).dom, d1, hF, fun d' hd v H2 e2 d2 => by cases hd; exact q v H2 (e1.trans e2) d2, fun _ hd => by cases hd⟩⟩
theorem p_call0 {F : Fs} (G : FoX X k x F) (hr : RoomG j X.A) (hF : F [] (.ok d)) (hk : k ≤ j := by decide) (hg : Gl X x := by rfl) (hdb : (x == ("__debug__" : Str)) = false := by decide) :
    Pe X c Γ (.Call (.Name x p) [] [] pos) d := by
  obtain ⟨f, fd, ps, h1, h2, h3, h4⟩ := G.ex
  exact PE.wk (call0G h1 (hr.mono hk) hg h2 h3 h4 hdb) fun σ H Q ⟨S, t, q⟩ =>
    ⟨S, [], .ok d, t.dom, .nil, hF, fun d' hd v H2 e2 d2 => by cases hd; exact q v H2 e2 d2, fun _ hd => by cases hd⟩

/-! ### built-ins by their names -/
/-- a call of a built-in on what its arguments denote -/
def Cb (X : Cx) (f : Value) (ds : List D) (d : D) : Prop :=
  ∃ r : List V → Hp → VK → Prop, CallR X f r ∧ ∀ S H vs, (∀ a, S a → H a ≠ none) → DenL X.K S H vs ds → ∀ Q : VK, (∀ u H', Same H H' → Den X.K S H' u d → Q u H') → r vs H Q
theorem p_blt {id : String} {ds : List D} (h : Cb X (.builtin id) ds d) (ha : Pa X c Γ (e :: es) ds) (hm : X.mg x = none) (hv : bootBuiltins x = some (.builtin id)) (hg : Gl X x := by rfl) (hn : x ≠ "__name__" := by decide) (hdb : (x == ("__debug__" : Str)) = false := by decide)
    (he : starEach (e :: es) X.env = (false, eval e X.env) :: starEach es X.env := by rfl) (hpl : (backTo pos (starEach es X.env)).any (·.1) = false := by rfl) : Pe X c Γ (.Call (.Name x p) (e :: es) [] pos) d := by
  obtain ⟨r, h1, h2⟩ := h
  exact PE.wk (pe_callB h1 hg hm hv ha hn hdb he hpl) fun σ H Q ⟨S, t, q⟩ => ⟨S, t, fun vs H1 e1 d1 => h2 S H1 vs (t.ext e1).dom d1 Q fun u H2 e2 d2 => q u H2 (e1.trans e2) d2⟩
theorem p_bty {T : String} {ds : List D} (h : Cb X (.type T) ds d) (ha : Pa X c Γ (e :: es) ds) (hm : X.mg x = none) (hv : bootBuiltins x = some (.type T)) (hg : Gl X x := by rfl) (hn : x ≠ "__name__" := by decide) (hdb : (x == ("__debug__" : Str)) = false := by decide)
    (he : starEach (e :: es) X.env = (false, eval e X.env) :: starEach es X.env := by rfl) (hpl : (backTo pos (starEach es X.env)).any (·.1) = false := by rfl) : Pe X c Γ (.Call (.Name x p) (e :: es) [] pos) d := by
  obtain ⟨r, h1, h2⟩ := h
  exact PE.wk (pe_callTy h1 hg hm hv ha hn hdb he hpl) fun σ H Q ⟨S, t, q⟩ => ⟨S, t, fun vs H1 e1 d1 => h2 S H1 vs (t.ext e1).dom d1 Q fun u H2 e2 d2 => q u H2 (e1.trans e2) d2⟩
section
variable {K : PySem.W.Frag} {S : Addr → Prop} {H : Hp}
theorem DenL.one {vs : List V} (h : DenL K S H vs [d]) : ∃ v, vs = [v] ∧ Den K S H v d := by
  cases h with
  | cons h t => cases t; exact ⟨_, rfl, h⟩
theorem DenL.two {vs : List V} (h : DenL K S H vs [da, db]) : ∃ v w, vs = [v, w] ∧ Den K S H v da ∧ Den K S H w db := by
  cases h with
  | cons h t =>
    cases t with
    | cons h2 t => cases t; exact ⟨_, _, rfl, h, h2⟩
theorem DenL.three {vs : List V} (h : DenL K S H vs [da, db, dc]) : ∃ v w u, vs = [v, w, u] ∧ Den K S H v da ∧ Den K S H w db ∧ Den K S H u dc := by
  cases h with
  | cons h t =>
    obtain ⟨v, w, rfl, h1, h2⟩ := t.two
    exact ⟨_, _, _, rfl, h, h1, h2⟩
end
theorem cb_abs {i : Int} : Cb X (.builtin "abs") [.int i] (.int (i.natAbs : Int)) := ⟨_, call_abs, fun S H vs _ h Q q => by
  obtain ⟨v, rfl, h1⟩ := h.one
  refine ⟨i, by rw [h1.int_], ?_⟩
  have e : (if i < 0 then -i else i) = (i.natAbs : Int) := by split <;> omega
  rw [e]
  exact q _ H (Same.refl H) (.int _)⟩
theorem cb_int {i : Int} : Cb X (.type "int") [.int i] (.int i) := ⟨_, call_int1, fun S H vs _ h Q q => by
  obtain ⟨v, rfl, h1⟩ := h.one
  exact .inl ⟨i, by rw [h1.int_], q _ H (Same.refl H) (.int _)⟩⟩
theorem cb_intb {k : Bool} : Cb X (.type "int") [.bl k] (.int (if k then 1 else 0)) := ⟨_, call_int1, fun S H vs _ h Q q => by
  obtain ⟨v, rfl, h1⟩ := h.one
  exact .inr ⟨k, by rw [h1.bl_], q _ H (Same.refl H) (.int _)⟩⟩
theorem cb_len {l : List D} : Cb X (.builtin "len") [.lst l] (.int l.length) := ⟨_, call_len_seq, fun S H vs _ h Q q => by
  obtain ⟨v, rfl, h1⟩ := h.one
  obtain ⟨a, xs, rfl, h2, h3⟩ := h1.lst_
  exact ⟨a, xs, rfl, .inl h2, q _ H (Same.refl H) (by rw [h3.length]; exact .int _)⟩⟩
theorem cb_lenT {l : List D} : Cb X (.builtin "len") [.tup l] (.int l.length) := ⟨_, call_len_seq, fun S H vs _ h Q q => by
  obtain ⟨v, rfl, h1⟩ := h.one
  obtain ⟨a, xs, rfl, h2, h3⟩ := h1.tup_
  exact ⟨a, xs, rfl, .inr h2, q _ H (Same.refl H) (by rw [h3.length]; exact .int _)⟩⟩
theorem cb_lenS {s : Str} (hs : s.length ≤ 16000000 := by decide) : Cb X (.builtin "len") [.str s] (.int s.length) := ⟨_, call_len_str, fun S H vs _ h Q q => by
  obtain ⟨v, rfl, h1⟩ := h.one
  exact ⟨s, by rw [h1.str_], small_line hs, q _ H (Same.refl H) (.int _)⟩⟩
theorem cb_sum {ns : List Int} (hc : X.calm = true := by rfl) : Cb X (.builtin "sum") [.lst (ns.map .int)] (.int ns.sum) := ⟨_, cr_sum hc, fun S H vs _ h Q q => by
  obtain ⟨v, rfl, h1⟩ := h.one
  obtain ⟨a, xs, rfl, h2, h3⟩ := h1.lst_
  exact ⟨a, ns, rfl, by rw [← h3.ints]; exact h2, q _ H (Same.refl H) (.int _)⟩⟩
theorem cb_all {bs : List Bool} (hc : X.calm = true := by rfl) : Cb X (.builtin "all") [.lst (bs.map .bl)] (.bl (bs.all id)) := ⟨_, cr_all hc, fun S H vs _ h Q q => by
  obtain ⟨v, rfl, h1⟩ := h.one
  obtain ⟨a, xs, rfl, h2, h3⟩ := h1.lst_
  exact ⟨a, bs, rfl, by rw [← h3.bls]; exact h2, q _ H (Same.refl H) (.bl _)⟩⟩
theorem cb_any {bs : List Bool} (hc : X.calm = true := by rfl) : Cb X (.builtin "any") [.lst (bs.map .bl)] (.bl (bs.any id)) := ⟨_, cr_any hc, fun S H vs _ h Q q => by
  obtain ⟨v, rfl, h1⟩ := h.one
  obtain ⟨a, xs, rfl, h2, h3⟩ := h1.lst_
  exact ⟨a, bs, rfl, by rw [← h3.bls]; exact h2, q _ H (Same.refl H) (.bl _)⟩⟩
/-- the least, the greatest of some ints -/
def minL : List Int → Int
  | [] => 0
  | [a] => a
  | a :: b :: r => min a (minL (b :: r))
def maxL : List Int → Int
  | [] => 0
  | [a] => a
  | a :: b :: r => max a (maxL (b :: r))
theorem minL_le : ∀ (l : List Int) (y : Int), y ∈ l → minL l ≤ y
  | [], y, h => by cases h
  | [a], y, h => by
    have e : y = a := by simpa using h
    rw [e]
    exact Int.le_refl a
  | a :: b :: r, y, h => by
    show min a (minL (b :: r)) ≤ y
    rcases List.mem_cons.mp h with e | e
    · rw [e]; exact Int.min_le_left _ _
    · exact Int.le_trans (Int.min_le_right _ _) (minL_le (b :: r) y e)
theorem minL_mem : ∀ (l : List Int), l ≠ [] → minL l ∈ l
  | [], h => absurd rfl h
  | [a], _ => by simp [minL]
  | a :: b :: r, _ => by
    show min a (minL (b :: r)) ∈ a :: b :: r
    have ih := minL_mem (b :: r) (by simp)
    rcases Int.le_total a (minL (b :: r)) with q | q
    · rw [Int.min_eq_left q]; exact List.mem_cons_self
    · rw [Int.min_eq_right q]; exact List.mem_cons_of_mem _ ih
theorem le_maxL : ∀ (l : List Int) (y : Int), y ∈ l → y ≤ maxL l
  | [], y, h => by cases h
  | [a], y, h => by
    have e : y = a := by simpa using h
    rw [e]
    exact Int.le_refl a
  | a :: b :: r, y, h => by
    show y ≤ max a (maxL (b :: r))
    rcases List.mem_cons.mp h with e | e
    · rw [e]; exact Int.le_max_left _ _
    · exact Int.le_trans (le_maxL (b :: r) y e) (Int.le_max_right _ _)
theorem maxL_mem : ∀ (l : List Int), l ≠ [] → maxL l ∈ l
  | [], h => absurd rfl h
  | [a], _ => by simp [maxL]
  | a :: b :: r, _ => by
    show max a (maxL (b :: r)) ∈ a :: b :: r
    have ih := maxL_mem (b :: r) (by simp)
    rcases Int.le_total a (maxL (b :: r)) with q | q
    · rw [Int.max_eq_right q]; exact List.mem_cons_of_mem _ ih
    · rw [Int.max_eq_left q]; exact List.mem_cons_self
theorem cb_min {ns : List Int} (h0 : ns ≠ []) (hc : X.calm = true := by rfl) : Cb X (.builtin "min") [.lst (ns.map .int)] (.int (minL ns)) := ⟨_, cr_min hc, fun S H vs _ h Q q => by
  obtain ⟨v, rfl, h1⟩ := h.one
  obtain ⟨a, xs, rfl, h2, h3⟩ := h1.lst_
  refine ⟨a, ns, rfl, by rw [← h3.ints]; exact h2, List.length_pos_iff.mpr h0, fun m hm hl => ?_⟩
  have e : m = minL ns := by
    have h4 := minL_le ns m hm
    have h5 := hl _ (minL_mem ns h0)
    omega
  rw [e]
  exact q _ H (Same.refl H) (.int _)⟩
theorem cb_max {ns : List Int} (h0 : ns ≠ []) (hc : X.calm = true := by rfl) : Cb X (.builtin "max") [.lst (ns.map .int)] (.int (maxL ns)) := ⟨_, cr_max hc, fun S H vs _ h Q q => by
  obtain ⟨v, rfl, h1⟩ := h.one
  obtain ⟨a, xs, rfl, h2, h3⟩ := h1.lst_
  refine ⟨a, ns, rfl, by rw [← h3.ints]; exact h2, List.length_pos_iff.mpr h0, fun m hm hl => ?_⟩
  have e : m = maxL ns := by
    have h4 := le_maxL ns m hm
    have h5 := hl _ (maxL_mem ns h0)
    omega
  rw [e]
  exact q _ H (Same.refl H) (.int _)⟩
theorem cb_min2 {i j : Int} (hc : X.calm = true := by rfl) : Cb X (.builtin "min") [.int i, .int j] (.int (min i j)) := ⟨_, call_min2 hc, fun S H vs _ h Q q => by
  obtain ⟨v, w, rfl, h1, h2⟩ := h.two
  refine ⟨i, j, by rw [h1.int_, h2.int_], ?_⟩
  have e : (if j < i then j else i) = min i j := by split <;> omega
  rw [e]
  exact q _ H (Same.refl H) (.int _)⟩
theorem cb_max2 {i j : Int} (hc : X.calm = true := by rfl) : Cb X (.builtin "max") [.int i, .int j] (.int (max i j)) := ⟨_, call_max2 hc, fun S H vs _ h Q q => by
  obtain ⟨v, w, rfl, h1, h2⟩ := h.two
  refine ⟨i, j, by rw [h1.int_, h2.int_], ?_⟩
  have e : (if j > i then j else i) = max i j := by split <;> omega
  rw [e]
  exact q _ H (Same.refl H) (.int _)⟩
theorem cb_list {l : List D} : Cb X (.type "list") [.lst l] (.lst l) := ⟨_, call_list_of, fun S H vs hd h Q q => by
  obtain ⟨v, rfl, h1⟩ := h.one
  obtain ⟨a, xs, rfl, h2, h3⟩ := h1.lst_
  exact ⟨a, xs, rfl, .inl h2, fun p hp => q _ _ (same_new hp) (Den.newL hd hp h3)⟩⟩
theorem cb_listT {l : List D} : Cb X (.type "list") [.tup l] (.lst l) := ⟨_, call_list_of, fun S H vs hd h Q q => by
  obtain ⟨v, rfl, h1⟩ := h.one
  obtain ⟨a, xs, rfl, h2, h3⟩ := h1.tup_
  exact ⟨a, xs, rfl, .inr h2, fun p hp => q _ _ (same_new hp) (Den.newL hd hp h3)⟩⟩
theorem cb_tuple {l : List D} : Cb X (.type "tuple") [.lst l] (.tup l) := ⟨_, call_tuple_of, fun S H vs hd h Q q => by
  obtain ⟨v, rfl, h1⟩ := h.one
  obtain ⟨a, xs, rfl, h2, h3⟩ := h1.lst_
  exact ⟨a, xs, rfl, .inl ⟨h2, fun p hp => q _ _ (same_new hp) (Den.newT hd hp h3)⟩⟩⟩
theorem cb_tupleT {l : List D} : Cb X (.type "tuple") [.tup l] (.tup l) := ⟨_, call_tuple_of, fun S H vs hd h Q q => by
  obtain ⟨v, rfl, h1⟩ := h.one
  obtain ⟨a, xs, e, h2, h3⟩ := h1.tup_
  exact ⟨a, xs, by rw [e], .inr ⟨h2, by rw [← e]; exact q _ H (Same.refl H) h1⟩⟩⟩

/-! ### isinstance of a thing and a built-in class -/
def tyName : D → String
  | .non => "NoneType"
  | .bl _ => "bool"
  | .int _ => "int"
  | .str _ => "str"
  | .tup _ => "tuple"
  | .lst _ => "list"
  | .dic => "dict"
  | _ => ""
def tyGood : D → Bool
  | .raw _ => false
  | .obj _ _ => false
  | .tl _ => false
  | .tt _ => false
  | .pt _ => false
  | _ => true
theorem Den.ty {K : PySem.W.Frag} {S : Addr → Prop} {H : Hp} {v : V} {d : D} (h : Den K S H v d) (hg : tyGood d = true) : TyX K H v (.type (tyName d)) := by
  cases h with
  | non => exact .base .non
  | bl b => exact .base (.bl b)
  | int i => exact .base (.int i)
  | str s => exact .base (.str s)
  | raw v => cases hg
  | tup r n hl =>
    rcases r with r | ⟨o, r⟩
    · exact .base (.tup r)
    · exact .fTuple r
  | tupK r hl =>
    obtain ⟨o, its, n, h1, h2, _⟩ := r
    exact .kTuple h1 h2
  | lst r n hl =>
    rcases r with r | ⟨o, r⟩
    · exact .base (.lst r)
    · exact .base (.frz r)
  | lstK r hl =>
    obtain ⟨o, its, n, h1, h2, _⟩ := r
    exact .kList h1 h2
  | obj h n hl => cases hg
  | tl h n hl => cases hg
  | tt h e n hl => cases hg
  | pt h n hl => cases hg
  | dic h n => exact .base (.dK h)
/-- what isinstance says of the classes by their names -/
def isaN (t n : String) : Bool := t == n || (t == "bool" && n == "int")
def kitGood : List String := ["NoneType", "bool", "int", "str", "tuple", "list", "dict"]
def kitCls0 : List String := ["int", "bool", "str", "tuple", "list", "dict"]
theorem kit_ty {K : PySem.W.Frag} : ∀ t ∈ kitGood, ∀ n ∈ kitCls0, PySem.W.kitOne K (.type t) (.type n) = some (isaN t n) := by
  simp only [kitGood, kitCls0, List.forall_mem_cons, List.not_mem_nil, false_implies, implies_true, and_true]
  refine ⟨⟨?_, ?_, ?_, ?_, ?_, ?_⟩, ⟨?_, ?_, ?_, ?_, ?_, ?_⟩, ⟨?_, ?_, ?_, ?_, ?_, ?_⟩, ⟨?_, ?_, ?_, ?_, ?_, ?_⟩, ⟨?_, ?_, ?_, ?_, ?_, ?_⟩, ⟨?_, ?_, ?_, ?_, ?_, ?_⟩, ⟨?_, ?_, ?_, ?_, ?_, ?_⟩⟩ <;> kernel_rfl
theorem ty_good {d : D} (hg : tyGood d = true) : tyName d ∈ kitGood := by
  cases d <;> first | (cases hg; done) | simp [tyName, kitGood]
theorem cb_isa {n : String} (hg : tyGood d = true := by rfl) (hn : n ∈ kitCls0 := by decide) : Cb X (.builtin "isinstance") [d, .raw (.ty n)] (.bl (isaN (tyName d) n)) := ⟨_, call_isi, fun S H vs _ h Q q => by
  obtain ⟨v, w, rfl, h1, h2⟩ := h.two
  exact ⟨v, w, _, _, _, rfl, by rw [h2.raw_]; exact .ty n, h1.ty hg, kit_ty _ (ty_good hg) _ hn, q _ H (Same.refl H) (.bl _)⟩⟩
end
end Spr

set_option Elab.async false
set_option linter.all false
set_option maxRecDepth 100000
set_option maxHeartbeats 4000000
/-! Statements: how a block ends, by what the slots hold. -/
namespace Spr
open PySem PySem.Spec PyProof.Rows L2

/-- the ends of a block: what follows, what is returned, break, continue -/
structure Post where
  nx : Gm → Prop
  rt : Ent → Gm → Prop
  bk : Gm → Prop := fun _ => False
  ct : Gm → Prop := fun _ => False
/-- a result: a thing, or a list that is new -/
def Rs (K : PySem.W.Frag) (c : Cn) (S : Addr → Prop) (σ : L2.St) (H : Hp) (Γ : Gm) (v : V) : Ent → Prop
  | .im d => Den K S H v d
  | .ow l => ∃ a xs, v = .ref a ∧ S a ∧ ¬ c.S0 a ∧ H a = some (.lst xs) ∧ DenL K S H xs l ∧ ∀ (j : Nat) (l' : List D), Γ[j]? = some (some (.ow l')) → σ[j]? ≠ some (some (.ref a))
  | .od _ _ => False
/-- what is wanted at each end, from the state S, H on -/
structure Fin (K : PySem.W.Frag) (c : Cn) (S : Addr → Prop) (H : Hp) (Po : Post) (D : Ends) : Prop where
  nx : ∀ σ' H' S' Γ', Rl S H S' H' → Gd K c S' σ' H' Γ' → Po.nx Γ' → D.nx σ' H'
  rt : ∀ v σ' H' S' Γ' en, Rl S H S' H' → Gd K c S' σ' H' Γ' → Rs K c S' σ' H' Γ' v en → Po.rt en Γ' → D.rt v H'
  bk : ∀ σ' H' S' Γ', Rl S H S' H' → Gd K c S' σ' H' Γ' → Po.bk Γ' → D.bk σ' H'
  ct : ∀ σ' H' S' Γ', Rl S H S' H' → Gd K c S' σ' H' Γ' → Po.ct Γ' → D.ct σ' H'
theorem Fin.go {K : PySem.W.Frag} {c : Cn} {S S1 : Addr → Prop} {H H1 : Hp} {Po : Post} {D : Ends} (f : Fin K c S H Po D) (r : Rl S H S1 H1) : Fin K c S1 H1 Po D :=
  ⟨fun σ' H' S' Γ' r' => f.nx σ' H' S' Γ' (r.trans r'), fun v σ' H' S' Γ' en r' => f.rt v σ' H' S' Γ' en (r.trans r'), fun σ' H' S' Γ' r' => f.bk σ' H' S' Γ' (r.trans r'), fun σ' H' S' Γ' r' => f.ct σ' H' S' Γ' (r.trans r')⟩
theorem Fin.ext {K : PySem.W.Frag} {c : Cn} {S : Addr → Prop} {H H1 : Hp} {Po : Post} {D : Ends} (f : Fin K c S H Po D) (e : Same H H1) : Fin K c S H1 Po D := f.go (.of e)
def tB (K : PySem.W.Frag) (c : Cn) (Γ : Gm) (Po : Post) : TS := fun D σ H => ∃ S, Gd K c S σ H Γ ∧ Fin K c S H Po D
abbrev Bl (X : Cx) (c : Cn) (Γ : Gm) (ss : List Stmt) (Po : Post) : Prop := PSs X ss (tB X.K c Γ Po)
theorem PSs.wk {X : Cx} {ss : List Stmt} {t t' : TS} (h : PSs X ss t) (w : ∀ D σ H, t' D σ H → t D σ H) : PSs X ss t' := ⟨fun pins s σ H D I q => h.run pins s σ H D I (w D σ H q)⟩
theorem PS.wk {X : Cx} {s : Stmt} {t t' : TS} (h : PS X s t) (w : ∀ D σ H, t' D σ H → t D σ H) : PS X s t' := ⟨fun pins s σ H D I q => h.run pins s σ H D I (w D σ H q)⟩
/-- a statement ahead of a block: where the statement goes on with Γ', the block's own word for Γ' is told -/
abbrev Sm (X : Cx) (c : Cn) (Γ : Gm) (s : Stmt) (Po : Post) : Prop := PS X s (tB X.K c Γ Po)
/-- the block that follows, told by a word of the slots -/
def tF (X : Cx) (c : Cn) (rest : List Stmt) (Po : Post) : TS := fun D σ H => ∃ Γ', Bl X c Γ' rest Po ∧ tB X.K c Γ' Po D σ H
theorem bl_F {X : Cx} {c : Cn} {rest : List Stmt} {Po : Post} : PSs X rest (tF X c rest Po) := ⟨fun pins s σ H D I ⟨Γ', hb, q⟩ => hb.run pins s σ H D I q⟩
abbrev Post.then (Po : Post) (X : Cx) (c : Cn) (rest : List Stmt) : Post := { Po with nx := fun Γ' => Bl X c Γ' rest Po }

section
variable {X : Cx} {c : Cn} {Γ : Gm} {a b e : Expr} {es : List Expr} {pos p : Pos} {da db dc d : D} {st : Stmt} {rest A B : List Stmt} {Po : Post} {x : Str}

theorem b_cons (h : Sm X c Γ st (Po.then X c rest)) : Bl X c Γ (st :: rest) Po :=
  PSs.wk (pss_cons h bl_F) fun D σ H ⟨S, t, q⟩ => ⟨S, t, ⟨fun σ' H' S' Γ' r t' hb => ⟨Γ', hb, S', t', q.go r⟩, q.rt, q.bk, q.ct⟩⟩
theorem b_one (h : Sm X c Γ st Po) : Bl X c Γ [st] Po := pss_one h
theorem b_nil (h : Po.nx Γ) : Bl X c Γ [] Po := PSs.wk pss_nil fun D σ H ⟨S, t, q⟩ => q.nx σ H S Γ .refl t h
/-- another word of the same end -/
theorem b_post {Po' : Post} (h : Bl X c Γ A Po) (h1 : ∀ Γ', Po.nx Γ' → Po'.nx Γ') (h2 : ∀ e Γ', Po.rt e Γ' → Po'.rt e Γ') (h3 : ∀ Γ', Po.bk Γ' → Po'.bk Γ') (h4 : ∀ Γ', Po.ct Γ' → Po'.ct Γ') : Bl X c Γ A Po' :=
  PSs.wk h fun D σ H ⟨S, t, q⟩ => ⟨S, t, ⟨fun σ' H' S' Γ' r t' hb => q.nx σ' H' S' Γ' r t' (h1 _ hb), fun v σ' H' S' Γ' en r t' rs hb => q.rt v σ' H' S' Γ' en r t' rs (h2 _ _ hb), fun σ' H' S' Γ' r t' hb => q.bk σ' H' S' Γ' r t' (h3 _ hb), fun σ' H' S' Γ' r t' hb => q.ct σ' H' S' Γ' r t' (h4 _ hb)⟩⟩
def fxB (fx : List (Nat × V)) (i : Nat) : Bool := fx.all fun p => p.1 != i
theorem fxB_ok {fx : List (Nat × V)} {i : Nat} (h : fxB fx i = true) : ∀ p ∈ fx, p.1 ≠ i := fun p hp => by
  have q := List.all_eq_true.mp h p hp
  simpa using q
/-- the name in slot i gets a thing -/
theorem s_set (i : Nat) {pos' : Pos} (he : Pe X c Γ e d) (hr : Po.nx (Γ.set i (some (.im d)))) (hN : X.N.Nodup) (hi : X.N[i]? = some x := by rfl) (hx : Loc X.env.scope x := by first | exact Or.inl rfl | exact Or.inr rfl) (hf : fxB c.fx i = true := by rfl)
    (hs : swapsWith e (some (.Name x pos')) pos.line X.env = pure false := by rfl) (hfn : X.fn x = true ∨ X.env.scope.names.lookup x = some .local := by first | exact .inl rfl | exact .inr rfl) : Sm X c Γ (.Assign [.Name x pos'] e pos) Po :=
  PS.wk (ps_set hN hi hx he hs hfn) fun D σ H ⟨S, t, q⟩ => ⟨S, t, fun v H1 e1 d1 => q.nx _ H1 S _ (.of e1) ((t.ext e1).setIm d1 (fxB_ok hf)) hr⟩
/-- a, b = e1, e2 -/
theorem s_par (i j : Nat) {y : Str} {px py pt : Pos} {kt k2 pt2} {d1 d2 : D} (ha : Pa X c Γ [a, b] [d1, d2]) (hr : Po.nx ((Γ.set i (some (.im d1))).set j (some (.im d2)))) (hN : X.N.Nodup) (hij : i ≠ j := by decide) (hc : X.calm = true := by rfl) (hi : X.N[i]? = some x := by rfl) (hj : X.N[j]? = some y := by rfl)
    (hx : X.env.scope.names.lookup x = some .local := by rfl) (hy : X.env.scope.names.lookup y = some .local := by rfl) (hf : fxB c.fx i = true := by rfl) (hf2 : fxB c.fx j = true := by rfl)
    (hw : swappedStores [.Tuple [.Name x px, .Name y py] kt pt] (.Tuple [a, b] k2 pt2) X.env = pure (some [x, y]) := by rfl)
    (hs : swapsWithSole [.Tuple [.Name x px, .Name y py] kt pt] (.Tuple [a, b] k2 pt2) pos.line X.env = pure false := by rfl) :
    Sm X c Γ (.Assign [.Tuple [.Name x px, .Name y py] kt pt] (.Tuple [a, b] k2 pt2) pos) Po :=
  PS.wk (ps_par hc hN hi hj hij hx hy ha hw hs) fun D σ H ⟨S, t, q⟩ => ⟨S, t, fun vs H1 e1 dv => by
    obtain ⟨v, w, rfl, h1, h2⟩ := dv.two
    exact ⟨v, w, rfl, q.nx _ H1 S _ (.of e1) (((t.ext e1).setIm h1 (fxB_ok hf)).setIm h2 (fxB_ok hf2)) hr⟩⟩
/-- targets: names, each with its slot -/
def setAll (Γ : Gm) : List Nat → List D → Gm
  | i :: is, d :: ds => setAll (Γ.set i (some (.im d))) is ds
  | _, _ => Γ
theorem gd_setAll {K : PySem.W.Frag} {S : Addr → Prop} {H : Hp} : ∀ (is : List Nat) (ds : List D) (xs : List V) {σ : L2.St} {Γ : Gm}, is.length = ds.length → (∀ i ∈ is, fxB c.fx i = true) → DenL K S H xs ds → Gd K c S σ H Γ →
    ∀ {t : TGs} {Q : L2.St → Hp → Prop}, (t = is.foldr (fun i u => gCons (gName i) u) gNil) → (∀ σ', Gd K c S σ' H (setAll Γ is ds) → Q σ' H) → t xs σ H Q
  | [], [], _, σ, Γ, _, _, .nil, g, t, Q, ht, q => by subst ht; exact ⟨rfl, q σ g⟩
  | i :: is, d :: ds, _, σ, Γ, hl, hf, .cons h tl, g, t, Q, ht, q => by
    subst ht
    exact ⟨_, _, rfl, gd_setAll is ds _ (by simpa using hl) (fun j hj => hf j (List.mem_cons_of_mem _ hj)) tl (g.setIm h (fxB_ok (hf i List.mem_cons_self))) rfl q⟩
  | [], _ :: _, _, _, _, hl, _, _, _, _, _, _, _ => by simp at hl
  | _ :: _, [], _, _, _, hl, _, _, _, _, _, _, _ => by simp at hl
/-- a, b, .. = e, a tuple -/
theorem s_unpack (is : List Nat) {ts : List Expr} {k : Nat} {p1 : Pos} {ds : List D} (he : Pe X c Γ e (.tup ds)) (hr : Po.nx (setAll Γ is ds)) (hl : is.length = ds.length := by rfl) (hg : PGs X ts (is.foldr (fun i u => gCons (gName i) u) gNil)) (hc : X.calm = true := by rfl) (hf : (is.all fun i => fxB c.fx i) = true := by rfl)
    (hn : (assignEach ts X.env).length = is.length := by rfl) (hst : (assignEach ts X.env).findIdx? (·.1) = none := by rfl)
    (hs : swapsWithSole [.Tuple ts k p1] e pos.line X.env = pure false := by rfl) (hw : swappedStores [.Tuple ts k p1] e X.env = pure none := by rfl) (h1 : (assignEach [.Tuple ts k p1] X.env).map (·.2) = [assign (.Tuple ts k p1) X.env] := by rfl) :
    Sm X c Γ (.Assign [.Tuple ts k p1] e pos) Po :=
  PS.wk (ps_asg he (pg_tup hc hg hn hst) hs hw h1) fun D σ H ⟨S, t, q⟩ => ⟨S, t, fun v H1 e1 d1 => by
    obtain ⟨p, xs, rfl, h2, h3⟩ := d1.tup_
    exact ⟨p, xs, rfl, h2, by rw [h3.length, hl], gd_setAll is ds xs hl (List.all_eq_true.mp hf) h3 (t.ext e1) rfl fun σ' g => q.nx σ' H1 S _ (.of e1) g hr⟩⟩
theorem s_if {k : Bool} {t' : Expr} (h : Pt X c Γ t' k) (h1 : k = true → Bl X c Γ A Po) (h2 : k = false → Bl X c Γ B Po) : Sm X c Γ (.If t' A B pos) Po := by
  cases k with
  | true =>
    have hN : PSs X B (fun _ _ _ => False) := ⟨fun _ _ _ _ _ _ z => z.elim⟩
    exact PS.wk (ps_if h (h1 rfl) hN) fun D σ H ⟨S, t, q⟩ => ⟨S, t, fun H1 e1 => by
      refine iteT ?_
      exact ⟨S, t.ext e1, q.ext e1⟩⟩
  | false =>
    have hN : PSs X A (fun _ _ _ => False) := ⟨fun _ _ _ _ _ _ z => z.elim⟩
    exact PS.wk (ps_if h hN (h2 rfl)) fun D σ H ⟨S, t, q⟩ => ⟨S, t, fun H1 e1 => by
      refine iteF ?_
      exact ⟨S, t.ext e1, q.ext e1⟩⟩
theorem s_ret (he : Pe X c Γ e d) (h : Po.rt (.im d) Γ) : Sm X c Γ (.Return (some e) pos) Po :=
  PS.wk (ps_ret he) fun D σ H ⟨S, t, q⟩ => ⟨S, t, fun v H1 e1 d1 => q.rt v σ H1 S Γ (.im d) (.of e1) (t.ext e1) d1 h⟩
theorem s_retN (h : Po.rt (.im .non) Γ) : Sm X c Γ (.Return none pos) Po :=
  PS.wk ps_retN fun D σ H ⟨S, t, q⟩ => q.rt .non σ H S Γ (.im .non) .refl t .non h
theorem s_pass (h : Po.nx Γ) : Sm X c Γ (.Pass pos) Po := PS.wk ps_pass fun D σ H ⟨S, t, q⟩ => q.nx σ H S Γ .refl t h
theorem s_break (h : Po.bk Γ) : Sm X c Γ (.Break pos) Po := PS.wk ps_break fun D σ H ⟨S, t, q⟩ => q.bk σ H S Γ .refl t h
theorem s_continue (h : Po.ct Γ) : Sm X c Γ (.Continue pos) Po := PS.wk ps_continue fun D σ H ⟨S, t, q⟩ => q.ct σ H S Γ .refl t h
/-- an expression whose value is dropped -/
theorem s_expr (he : Pe X c Γ e d) (h : Po.nx Γ) (hs : swapsWith e none pos.line X.env = pure false := by rfl) : Sm X c Γ (.Expr e pos) Po :=
  PS.wk (ps_expr he hs) fun D σ H ⟨S, t, q⟩ => ⟨S, t, fun v H1 e1 d1 => q.nx σ H1 S Γ (.of e1) (t.ext e1) h⟩
/-- n += k of ints -/
theorem s_augI (i : Nat) {op : Operator} {f : Int → Int → Int} {n m : Int} {pos' : Pos} (ho : PIp X op (ipI f)) (hi0 : Γ[i]? = some (some (.im (.int n)))) (he : Pe X c Γ e (.int m)) (hr : Po.nx (Γ.set i (some (.im (.int (f n m)))))) (hN : X.N.Nodup) (hi : X.N[i]? = some x := by rfl) (hx : Loc X.env.scope x := by first | exact Or.inl rfl | exact Or.inr rfl) (hf : fxB c.fx i = true := by rfl)
    (hfn : X.fn x = true ∨ X.env.scope.names.lookup x = some .local := by first | exact .inl rfl | exact .inr rfl) : Sm X c Γ (.AugAssign (.Name x pos') op e pos) Po :=
  PS.wk (ps_aug hN hi hx he ho hfn) fun D σ H ⟨S, t, q⟩ => by
    obtain ⟨v, h1, h2⟩ := t.im hi0
    refine ⟨v, h1, S, t, fun w H1 e1 d1 => ⟨n, m, h2.int_, d1.int_, q.nx _ H1 S _ (.of e1) ((t.ext e1).setIm (.int _) (fxB_ok hf)) hr⟩⟩

/-! ### errors -/
/-- an error with er may be let out -/
def Xr (X : Cx) (c : Cn) (er : Er → Gm → Prop) : Prop := ∃ W : WX, Takes X W ∧ ∀ e S σ H Γ cls dx, Gd X.K c S σ H Γ → ErrAt e cls dx H → er e Γ → W cls dx σ H
/-- raise C(..): the making of the error, er the error made -/
theorem s_raise {er : Er → Gm → Prop} {t : L2.St → Hp → XK → Prop} (hx : Xr X c er) (e0 : Er) (hm : PMk X e t) (ht : ∀ S σ H, Gd X.K c S σ H Γ → ∀ Q : XK, (∀ cls dx H', Same H H' → ErrAt e0 cls dx H' → Q cls dx H') → t σ H Q) (h : er e0 Γ) (hc : X.calm = true := by rfl) :
    Sm X c Γ (.Raise (some e) none pos) Po := by
  obtain ⟨W, tk, hW⟩ := hx
  exact PS.wk (ps_raise hc tk hm) fun D σ H ⟨S, g, _⟩ => ht S σ H g _ fun cls dx H' e1 er1 => hW e0 S σ H' Γ cls dx (g.ext e1) er1 h
/-- a call of a def that changes nothing and may raise: as a statement of its own, its value dropped -/
theorem s_callX {er : Er → Gm → Prop} {F : Fs} {ds : List D} {r : Except Er D} {j k : Nat} (hx : Xr X c er) (G : FoX X k x F) (hr : RoomG j X.A) (ha : Pa X c Γ (e :: es) ds) (hF : F ds r) (h : ∀ d, r = .ok d → Po.nx Γ) (h2 : ∀ e0, r = .error e0 → er e0 Γ) (hk : k ≤ j := by decide) (hg : Gl X x := by rfl)
    (hdb : (x == ("__debug__" : Str)) = false := by decide) (he : starEach (e :: es) X.env = (false, eval e X.env) :: starEach es X.env := by rfl) (hpl : (backTo p (starEach es X.env)).any (·.1) = false := by rfl) (hs : swapsWith (.Call (.Name x pos) (e :: es) [] p) none p.line X.env = pure false := by rfl) {p2 : Pos} (hs2 : swapsWith (.Call (.Name x pos) (e :: es) [] p) none p2.line X.env = pure false := by rfl) :
    Sm X c Γ (.Expr (.Call (.Name x pos) (e :: es) [] p) p2) Po := by
  obtain ⟨W, tk, hW⟩ := hx
  obtain ⟨f, fd, ps, h1, h3, h4, h5⟩ := G.ex
  refine PS.wk (ps_expr (callSG h1 (hr.mono hk) hg h3 h4 h5 (fun σ => passAt tk σ) ha hdb he hpl) hs2) fun D σ H ⟨S, t, q⟩ => ⟨S, t, fun vs H1 e1 d1 => ?_⟩
  exact ⟨S, ds, r, (t.ext e1).dom, d1, hF, fun d' hd v H2 e2 d2 => q.nx σ H2 S Γ (.of (e1.trans e2)) (t.ext (e1.trans e2)) (h d' hd), fun e0 hd cls dx H2 e2 er2 => hW e0 S σ H2 Γ cls dx (t.ext (e1.trans e2)) er2 (h2 e0 hd)⟩
/-- return f(..), f may raise -/
theorem s_retX {er : Er → Gm → Prop} {F : Fs} {ds : List D} {r : Except Er D} {j k : Nat} (hx : Xr X c er) (G : FoX X k x F) (hr : RoomG j X.A) (ha : Pa X c Γ (e :: es) ds) (hF : F ds r) (h : ∀ d, r = .ok d → Po.rt (.im d) Γ) (h2 : ∀ e0, r = .error e0 → er e0 Γ) (hk : k ≤ j := by decide) (hg : Gl X x := by rfl)
    (hdb : (x == ("__debug__" : Str)) = false := by decide) (he : starEach (e :: es) X.env = (false, eval e X.env) :: starEach es X.env := by rfl) (hpl : (backTo p (starEach es X.env)).any (·.1) = false := by rfl) {p2 : Pos} :
    Sm X c Γ (.Return (some (.Call (.Name x pos) (e :: es) [] p)) p2) Po := by
  obtain ⟨W, tk, hW⟩ := hx
  obtain ⟨f, fd, ps, h1, h3, h4, h5⟩ := G.ex
  refine PS.wk (ps_ret (callSG h1 (hr.mono hk) hg h3 h4 h5 (fun σ => passAt tk σ) ha hdb he hpl)) fun D σ H ⟨S, t, q⟩ => ⟨S, t, fun vs H1 e1 d1 => ?_⟩
  exact ⟨S, ds, r, (t.ext e1).dom, d1, hF, fun d' hd v H2 e2 d2 => q.rt v σ H2 S Γ (.im d') (.of (e1.trans e2)) (t.ext (e1.trans e2)) d2 (h d' hd), fun e0 hd cls dx H2 e2 er2 => hW e0 S σ H2 Γ cls dx (t.ext (e1.trans e2)) er2 (h2 e0 hd)⟩
/-- x = f(..), f may raise -/
theorem s_setX (i : Nat) {y : Str} {py : Pos} {er : Er → Gm → Prop} {F : Fs} {ds : List D} {r : Except Er D} {j k : Nat} (hx : Xr X c er) (G : FoX X k x F) (hr : RoomG j X.A) (ha : Pa X c Γ (e :: es) ds) (hF : F ds r) (h : ∀ d, r = .ok d → Po.nx (Γ.set i (some (.im d)))) (h2 : ∀ e0, r = .error e0 → er e0 Γ) (hN : X.N.Nodup) (hk : k ≤ j := by decide) (hg : Gl X x := by rfl)
    (hi : X.N[i]? = some y := by rfl) (hy : Loc X.env.scope y := by first | exact Or.inl rfl | exact Or.inr rfl) (hf : fxB c.fx i = true := by rfl)
    (hdb : (x == ("__debug__" : Str)) = false := by decide) (he : starEach (e :: es) X.env = (false, eval e X.env) :: starEach es X.env := by rfl) (hpl : (backTo p (starEach es X.env)).any (·.1) = false := by rfl) {p2 : Pos} (hs : swapsWith (.Call (.Name x pos) (e :: es) [] p) (some (.Name y py)) p2.line X.env = pure false := by rfl) (hfn : X.fn y = true ∨ X.env.scope.names.lookup y = some .local := by first | exact .inl rfl | exact .inr rfl) :
    Sm X c Γ (.Assign [.Name y py] (.Call (.Name x pos) (e :: es) [] p) p2) Po := by
  obtain ⟨W, tk, hW⟩ := hx
  obtain ⟨f, fd, ps, h1, h3, h4, h5⟩ := G.ex
  refine PS.wk (ps_set hN hi hy (callSG h1 (hr.mono hk) hg h3 h4 h5 (fun σ => passAt tk σ) ha hdb he hpl) hs hfn) fun D σ H ⟨S, t, q⟩ => ⟨S, t, fun vs H1 e1 d1 => ?_⟩
  exact ⟨S, ds, r, (t.ext e1).dom, d1, hF, fun d' hd v H2 e2 d2 => q.nx _ H2 S _ (.of (e1.trans e2)) ((t.ext (e1.trans e2)).setIm d2 (fxB_ok hf)) (h d' hd), fun e0 hd cls dx H2 e2 er2 => hW e0 S σ H2 Γ cls dx (t.ext (e1.trans e2)) er2 (h2 e0 hd)⟩

/-! ### loops -/
end
/-- a turn of a loop over things | numbers -/
def tTurn (K : PySem.W.Frag) (c : Cn) (j : Nat) (ds : List D) (I : Nat → Gm → Prop) (Po : Post) : TS := fun Ds σ H => ∃ (i : Nat) (d : D) (Γ' : Gm), ds[i]? = some d ∧ I i Γ' ∧ tB K c (Γ'.set j (some (.im d))) { nx := I (i + 1), rt := Po.rt, ct := I (i + 1), bk := Po.nx } Ds σ H
def tTurnR (K : PySem.W.Frag) (c : Cn) (j : Nat) (lo : Int) (n : Nat) (I : Nat → Gm → Prop) (Po : Post) : TS := fun Ds σ H => ∃ (i : Nat) (Γ' : Gm), i < n ∧ I i Γ' ∧ tB K c (Γ'.set j (some (.im (.int (lo + i))))) { nx := I (i + 1), rt := Po.rt, ct := I (i + 1), bk := Po.nx } Ds σ H
section
variable {X : Cx} {c : Cn} {Γ : Gm} {a b e : Expr} {es : List Expr} {pos p : Pos} {da db dc d : D} {st : Stmt} {rest A B : List Stmt} {Po : Post} {x : Str}
/-- for x in a list | tuple of things; I: by how many are gone through -/
theorem s_forL (j : Nat) {iter : Expr} {body : List Stmt} {px : Pos} {ds : List D} (I : Nat → Gm → Prop) (hi : Pe X c Γ iter (.lst ds)) (h0 : I 0 Γ) (hb : ∀ (i : Nat) (d : D) (Γ' : Gm), ds[i]? = some d → I i Γ' → Bl X c (Γ'.set j (some (.im d))) body { nx := I (i + 1), rt := Po.rt, ct := I (i + 1), bk := Po.nx })
    (hd : ∀ Γ', I ds.length Γ' → Po.nx Γ') (hp : PassesOwn (model X.prog X.w) X.A X.env X.xe) (hN : X.N.Nodup) (hc : X.calm = true := by rfl) (hj : X.N[j]? = some x := by rfl) (hx : Loc X.env.scope x := by first | exact Or.inl rfl | exact Or.inr rfl) (hf : fxB c.fx j = true := by rfl)
    (hs : ∀ x, foldedSetIterable iter X.env x = pure x := by intro _; rfl) (hfn : X.fn x = true ∨ X.env.scope.names.lookup x = some .local := by first | exact .inl rfl | exact .inr rfl) : Sm X c Γ (.For (.Name x px) iter body [] pos) Po := by
  -- the body by every turn and slots
  have hB : PSs X body (tTurn X.K c j ds I Po) :=
    ⟨fun pins s σ H Ds J ⟨i, d, Γ', h1, h2, q⟩ => (hb i d Γ' h1 h2).run pins s σ H Ds J q⟩
  refine PS.wk (ps_for hp hc (pi_list hi) (pg_name hN hj hx hfn) hB hs) fun Ds σ H ⟨S, t, q⟩ => ⟨S, t, fun v H1 e1 d1 => ?_⟩
  obtain ⟨p, xs, rfl, h2, h3⟩ := d1.lstL
  refine ⟨p, rfl, ⟨xs, h2.sq⟩, for_list (K := X.K) (a := p) (xs := xs) (g := gName j) (tb := tTurn X.K c j ds I Po) (D := Ds) (fun i σ' H' => ∃ S' Γ', Rl S H S' H' ∧ Gd X.K c S' σ' H' Γ' ∧ I i Γ' ∧ LiL X.K S' H' p xs ∧ DenL X.K S' H' xs ds) ⟨S, Γ, .of e1, t.ext e1, h0, h2, h3⟩ (fun i σ' H' _ ⟨S', Γ', _, _, _, z, _⟩ => z.sq) ?_ ?_⟩
  · rintro i y σ' H' hy ⟨S', Γ', r, g, hI, z, dd⟩
    obtain ⟨d, hd1, hd2⟩ := dd.get hy
    refine ⟨i, d, Γ', hd1, hI, S', g.setIm hd2 (fxB_ok hf), ⟨fun σ2 H2 S2 Γ2 r2 g2 h => ⟨S2, Γ2, r.trans r2, g2, h, z.mono r2, dd.mono r2⟩, fun v σ2 H2 S2 Γ2 en r2 g2 rs h => q.rt v σ2 H2 S2 Γ2 en (r.trans r2) g2 rs h,
      fun σ2 H2 S2 Γ2 r2 g2 h => q.nx σ2 H2 S2 Γ2 (r.trans r2) g2 h, fun σ2 H2 S2 Γ2 r2 g2 h => ⟨S2, Γ2, r.trans r2, g2, h, z.mono r2, dd.mono r2⟩⟩⟩
  · rintro σ' H' ⟨S', Γ', r, g, hI, z, dd⟩
    exact q.nx σ' H' S' Γ' r g (hd Γ' (by rw [← h3.length]; exact hI))
theorem s_forT (j : Nat) {iter : Expr} {body : List Stmt} {px : Pos} {ds : List D} (I : Nat → Gm → Prop) (hi : Pe X c Γ iter (.tup ds)) (h0 : I 0 Γ) (hb : ∀ (i : Nat) (d : D) (Γ' : Gm), ds[i]? = some d → I i Γ' → Bl X c (Γ'.set j (some (.im d))) body { nx := I (i + 1), rt := Po.rt, ct := I (i + 1), bk := Po.nx })
    (hd : ∀ Γ', I ds.length Γ' → Po.nx Γ') (hp : PassesOwn (model X.prog X.w) X.A X.env X.xe) (hN : X.N.Nodup) (hc : X.calm = true := by rfl) (hj : X.N[j]? = some x := by rfl) (hx : Loc X.env.scope x := by first | exact Or.inl rfl | exact Or.inr rfl) (hf : fxB c.fx j = true := by rfl)
    (hs : ∀ x, foldedSetIterable iter X.env x = pure x := by intro _; rfl) (hfn : X.fn x = true ∨ X.env.scope.names.lookup x = some .local := by first | exact .inl rfl | exact .inr rfl) : Sm X c Γ (.For (.Name x px) iter body [] pos) Po := by
  have hB : PSs X body (tTurn X.K c j ds I Po) :=
    ⟨fun pins s σ H Ds J ⟨i, d, Γ', h1, h2, q⟩ => (hb i d Γ' h1 h2).run pins s σ H Ds J q⟩
  refine PS.wk (ps_for hp hc (pi_tup hi) (pg_name hN hj hx hfn) hB hs) fun Ds σ H ⟨S, t, q⟩ => ⟨S, t, fun v H1 e1 d1 => ?_⟩
  obtain ⟨p, xs, rfl, h2, h3⟩ := d1.tupL
  refine ⟨p, rfl, ⟨xs, h2.sq⟩, for_tup (K := X.K) (a := p) (xs := xs) (g := gName j) (tb := tTurn X.K c j ds I Po) (D := Ds) (fun i σ' H' => ∃ S' Γ', Rl S H S' H' ∧ Gd X.K c S' σ' H' Γ' ∧ I i Γ' ∧ LiT X.K S' H' p xs ∧ DenL X.K S' H' xs ds) ⟨S, Γ, .of e1, t.ext e1, h0, h2, h3⟩ (fun i σ' H' _ ⟨S', Γ', _, _, _, z, _⟩ => z.sq) ?_ ?_⟩
  · rintro i y σ' H' hy ⟨S', Γ', r, g, hI, z, dd⟩
    obtain ⟨d, hd1, hd2⟩ := dd.get hy
    refine ⟨i, d, Γ', hd1, hI, S', g.setIm hd2 (fxB_ok hf), ⟨fun σ2 H2 S2 Γ2 r2 g2 h => ⟨S2, Γ2, r.trans r2, g2, h, z.mono r2, dd.mono r2⟩, fun v σ2 H2 S2 Γ2 en r2 g2 rs h => q.rt v σ2 H2 S2 Γ2 en (r.trans r2) g2 rs h,
      fun σ2 H2 S2 Γ2 r2 g2 h => q.nx σ2 H2 S2 Γ2 (r.trans r2) g2 h, fun σ2 H2 S2 Γ2 r2 g2 h => ⟨S2, Γ2, r.trans r2, g2, h, z.mono r2, dd.mono r2⟩⟩⟩
  · rintro σ' H' ⟨S', Γ', r, g, hI, z, dd⟩
    exact q.nx σ' H' S' Γ' r g (hd Γ' (by rw [← h3.length]; exact hI))
/-- for x in range(lo, hi) -/
theorem s_forR_ (j : Nat) {iter : Expr} {body : List Stmt} {px : Pos} {wi : TI} {lo : Int} {n : Nat} (I : Nat → Gm → Prop) (hi : PI X (.Name x px) iter wi) (hw : ∀ σ H S, Gd X.K c S σ H Γ → ∀ R : It → Hp → Prop, (∀ H1, Same H H1 → R (Itr lo n) H1) → wi σ H R) (h0 : I 0 Γ)
    (hb : ∀ (i : Nat) (Γ' : Gm), i < n → I i Γ' → Bl X c (Γ'.set j (some (.im (.int (lo + i))))) body { nx := I (i + 1), rt := Po.rt, ct := I (i + 1), bk := Po.nx })
    (hd : ∀ Γ', I n Γ' → Po.nx Γ') (hp : PassesOwn (model X.prog X.w) X.A X.env X.xe) (hN : X.N.Nodup) (hc : X.calm = true := by rfl) (hj : X.N[j]? = some x := by rfl) (hx : Loc X.env.scope x := by first | exact Or.inl rfl | exact Or.inr rfl) (hf : fxB c.fx j = true := by rfl)
    (hs : ∀ x, foldedSetIterable iter X.env x = pure x := by intro _; rfl) (hfn : X.fn x = true ∨ X.env.scope.names.lookup x = some .local := by first | exact .inl rfl | exact .inr rfl) : Sm X c Γ (.For (.Name x px) iter body [] pos) Po := by
  have hB : PSs X body (tTurnR X.K c j lo n I Po) :=
    ⟨fun pins s σ H Ds J ⟨i, Γ', h1, h2, q⟩ => (hb i Γ' h1 h2).run pins s σ H Ds J q⟩
  refine PS.wk (ps_for hp hc hi (pg_name hN hj hx hfn) hB hs) fun Ds σ H ⟨S, t, q⟩ => hw σ H S t _ fun H1 e1 => ?_
  refine for_range (lo := lo) (n := n) (g := gName j) (tb := tTurnR X.K c j lo n I Po) (D := Ds) (fun i σ' H' => ∃ S' Γ', Rl S H S' H' ∧ Gd X.K c S' σ' H' Γ' ∧ I i Γ') ⟨S, Γ, .of e1, t.ext e1, h0⟩ ?_ ?_
  · rintro i σ' H' hi ⟨S', Γ', r, g, hI⟩
    refine ⟨i, Γ', hi, hI, S', g.setIm (.int _) (fxB_ok hf), ⟨fun σ2 H2 S2 Γ2 r2 g2 h => ⟨S2, Γ2, r.trans r2, g2, h⟩, fun v σ2 H2 S2 Γ2 en r2 g2 rs h => q.rt v σ2 H2 S2 Γ2 en (r.trans r2) g2 rs h,
      fun σ2 H2 S2 Γ2 r2 g2 h => q.nx σ2 H2 S2 Γ2 (r.trans r2) g2 h, fun σ2 H2 S2 Γ2 r2 g2 h => ⟨S2, Γ2, r.trans r2, g2, h⟩⟩⟩
  · rintro σ' H' ⟨S', Γ', r, g, hI⟩
    exact q.nx σ' H' S' Γ' r g (hd Γ' hI)
/-- a small int, for a range -/
def Sml (i : Int) : Prop := -(2 ^ 62) ≤ i ∧ i < 2 ^ 62
theorem s_forR1 (j : Nat) {body : List Stmt} {px p1 p2 : Pos} {n : Int} (I : Nat → Gm → Prop) (ha : Pa X c Γ [a] [.int n]) (hn : Sml n) (h0 : I 0 Γ) (hb : ∀ (i : Nat) (Γ' : Gm), (i : Int) < n → I i Γ' → Bl X c (Γ'.set j (some (.im (.int (i : Int))))) body { nx := I (i + 1), rt := Po.rt, ct := I (i + 1), bk := Po.nx })
    (hd : ∀ Γ', I n.toNat Γ' → Po.nx Γ') (hm : X.mg "range" = none) (hp : PassesOwn (model X.prog X.w) X.A X.env X.xe) (hN : X.N.Nodup) (hc : X.calm = true := by rfl) (hj : X.N[j]? = some x := by rfl) (hx : Loc X.env.scope x := by first | exact Or.inl rfl | exact Or.inr rfl) (hf : fxB c.fx j = true := by rfl) (hg : Gl X "range" := by rfl)
    (hs0 : starEach [a] X.env = [(false, eval a X.env)] := by rfl) (hs : ∀ x, foldedSetIterable (.Call (.Name "range" p1) [a] [] p2) X.env x = pure x := by intro _; rfl) (hfn : X.fn x = true ∨ X.env.scope.names.lookup x = some .local := by first | exact .inl rfl | exact .inr rfl) : Sm X c Γ (.For (.Name x px) (.Call (.Name "range" p1) [a] [] p2) body [] pos) Po :=
  s_forR_ (lo := 0) (n := n.toNat) j I (pi_range1 hg hm ha hs0) (fun σ H S t R k => ⟨S, t, fun vs H1 e1 dv => by
    obtain ⟨v, rfl, h1⟩ := dv.one
    exact ⟨n, by rw [h1.int_], hn.1, hn.2, k H1 e1⟩⟩) h0 (fun i Γ' hi hI => by
      have e : (0 : Int) + (i : Int) = (i : Int) := Int.zero_add _
      rw [e]
      exact hb i Γ' (by omega) hI) hd hp hN hc hj hx hf hs hfn
theorem s_forR2 (j : Nat) {body : List Stmt} {px p1 p2 : Pos} {lo hi : Int} (I : Nat → Gm → Prop) (ha : Pa X c Γ [a, b] [.int lo, .int hi]) (hl : Sml lo) (hh : Sml hi) (h0 : I 0 Γ) (hb : ∀ (i : Nat) (Γ' : Gm), lo + (i : Int) < hi → I i Γ' → Bl X c (Γ'.set j (some (.im (.int (lo + i))))) body { nx := I (i + 1), rt := Po.rt, ct := I (i + 1), bk := Po.nx })
    (hd : ∀ Γ', I (hi - lo).toNat Γ' → Po.nx Γ') (hm : X.mg "range" = none) (hp : PassesOwn (model X.prog X.w) X.A X.env X.xe) (hN : X.N.Nodup) (hc : X.calm = true := by rfl) (hj : X.N[j]? = some x := by rfl) (hx : Loc X.env.scope x := by first | exact Or.inl rfl | exact Or.inr rfl) (hf : fxB c.fx j = true := by rfl) (hg : Gl X "range" := by rfl)
    (hs0 : starEach [a, b] X.env = [(false, eval a X.env), (false, eval b X.env)] := by rfl) (hs1 : starEach [b] X.env = [(false, eval b X.env)] := by rfl) (hs : ∀ x, foldedSetIterable (.Call (.Name "range" p1) [a, b] [] p2) X.env x = pure x := by intro _; rfl) (hfn : X.fn x = true ∨ X.env.scope.names.lookup x = some .local := by first | exact .inl rfl | exact .inr rfl) : Sm X c Γ (.For (.Name x px) (.Call (.Name "range" p1) [a, b] [] p2) body [] pos) Po :=
  s_forR_ (lo := lo) (n := (hi - lo).toNat) j I (pi_range2 hg hm ha hs0 hs1) (fun σ H S t R k => ⟨S, t, fun vs H1 e1 dv => by
    obtain ⟨v, w, rfl, h1, h2⟩ := dv.two
    exact ⟨lo, hi, by rw [h1.int_, h2.int_], ⟨hl.1, hl.2, hh.1, hh.2⟩, k H1 e1⟩⟩) h0 (fun i Γ' hi' hI => hb i Γ' (by omega) hI) hd hp hN hc hj hx hf hs hfn
/-- while; I by a measure -/
theorem s_while {k : Gm → Bool} {t' : Expr} {body : List Stmt} (I : Nat → Gm → Prop) (m0 : Nat) (h0 : I m0 Γ) (ht : ∀ m Γ', I m Γ' → Pt X c Γ' t' (k Γ')) (hb : ∀ m Γ', I m Γ' → k Γ' = true → Bl X c Γ' body { nx := fun Γ2 => ∃ m2, m2 < m ∧ I m2 Γ2, rt := Po.rt, ct := fun Γ2 => ∃ m2, m2 < m ∧ I m2 Γ2, bk := Po.nx })
    (hd : ∀ m Γ', I m Γ' → k Γ' = false → Po.nx Γ') (hp : PassesOwn (model X.prog X.w) X.A X.env X.xe) : Sm X c Γ (.While t' body [] pos) Po := by
  have hB : PSs X body (fun Ds σ H => ∃ (m : Nat) (Γ' : Gm), I m Γ' ∧ k Γ' = true ∧ tB X.K c Γ' { nx := fun Γ2 => ∃ m2, m2 < m ∧ I m2 Γ2, rt := Po.rt, ct := fun Γ2 => ∃ m2, m2 < m ∧ I m2 Γ2, bk := Po.nx } Ds σ H) :=
    ⟨fun pins s σ H Ds J ⟨m, Γ', h1, h2, q⟩ => (hb m Γ' h1 h2).run pins s σ H Ds J q⟩
  have hT : PT X t' (fun σ H Q => ∃ (m : Nat) (Γ' : Gm), I m Γ' ∧ tQ X.K c Γ' (k Γ') σ H Q) := ⟨fun pins s σ H Q J ⟨m, Γ', h1, q⟩ => (ht m Γ' h1).run pins s σ H Q J q⟩
  refine PS.wk (ps_while hp hT hB) fun Ds σ H ⟨S, t, q⟩ => ⟨fun m σ' H' => ∃ S' Γ', Rl S H S' H' ∧ Gd X.K c S' σ' H' Γ' ∧ I m Γ', ⟨m0, S, Γ, .refl, t, h0⟩, ?_⟩
  rintro m σ' H' ⟨S', Γ', r, g, hI⟩
  refine ⟨m, Γ', hI, S', g, fun H2 e2 => ?_⟩
  have g2 := g.ext e2
  have r2 : Rl S H S' H2 := r.trans (.of e2)
  cases hk : k Γ' with
  | true =>
    refine iteT ?_
    refine ⟨fun σ3 H3 => ∃ m', m' < m ∧ ∃ S3 Γ3, Rl S H S3 H3 ∧ Gd X.K c S3 σ3 H3 Γ3 ∧ I m' Γ3, fun σ3 H3 h => h, m, Γ', hI, hk, S', g2, ⟨fun σ4 H4 S4 Γ4 r4 g4 ⟨m2, l, h⟩ => ⟨m2, l, S4, Γ4, r2.trans r4, g4, h⟩, fun v σ4 H4 S4 Γ4 en r4 g4 rs h => q.rt v σ4 H4 S4 Γ4 en (r2.trans r4) g4 rs h,
      fun σ4 H4 S4 Γ4 r4 g4 h => q.nx σ4 H4 S4 Γ4 (r2.trans r4) g4 h, fun σ4 H4 S4 Γ4 r4 g4 ⟨m2, l, h⟩ => ⟨m2, l, S4, Γ4, r2.trans r4, g4, h⟩⟩⟩
  | false =>
    refine iteF ?_
    exact q.nx σ' H2 S' Γ' r2 g2 (hd m Γ' hI hk)
end
end Spr

set_option Elab.async false
set_option linter.all false
set_option maxRecDepth 100000
set_option maxHeartbeats 4000000
/-! New lists, lists of one's own, comprehensions; a def by its body. -/
namespace Spr
open PySem PySem.Spec PyProof.Rows L2

/-- the expression comes to a new list of l: nothing else leans on it -/
def tO (K : PySem.W.Frag) (c : Cn) (Γ : Gm) (l : List D) : TE := fun σ H Q => ∃ S, Gd K c S σ H Γ ∧ ∀ p xs H', Same H H' → H p = none → H' p = some (.lst xs) → DenL K (more S p) H' xs l → Q (.ref p) H'
abbrev Pn (X : Cx) (c : Cn) (Γ : Gm) (e : Expr) (l : List D) : Prop := PE X e (tO X.K c Γ l)

section
variable {X : Cx} {c : Cn} {Γ : Gm} {a b e : Expr} {es : List Expr} {pos p : Pos} {da db dc d : D} {st : Stmt} {rest A B : List Stmt} {Po : Post} {x : Str}
theorem DenL.off {K : PySem.W.Frag} {S : Addr → Prop} {H : Hp} {p : Addr} {xs : List V} {l : List D} (h : DenL K (more S p) H xs l) : DenL K S H xs l := h.less fun a z => .inl z
theorem tO_p {K : PySem.W.Frag} {l : List D} {σ : L2.St} {H : Hp} {Q : VK} (h : tP K c Γ (.lst l) σ H Q) : tO K c Γ l σ H Q := by
  obtain ⟨S, t, q⟩ := h
  exact ⟨S, t, fun p xs H' e hn hp hl => q _ H' e (.lst (.inl hp) (fun z => t.dom p z hn) hl.off)⟩
/-- as a thing -/
theorem n_p {l : List D} (h : Pn X c Γ e l) : Pe X c Γ e (.lst l) := PE.wk h fun σ H Q q => tO_p q
/-- as a thing that is tracked -/
theorem n_t {l : List D} (h : Pn X c Γ e l) : Pe X c Γ e (.tl l) := PE.wk h fun σ H Q ⟨S, t, q⟩ => ⟨S, t, fun p xs H' e hn hp hl => q _ H' e (.tl (.inl hp) (fun z => t.dom p z hn) hl.off)⟩
theorem p_up {l : List D} (h : Pe X c Γ e (.tl l)) : Pe X c Γ e (.lst l) := PE.wk h fun σ H Q ⟨S, t, q⟩ => ⟨S, t, fun v H1 e1 d1 => q v H1 e1 d1.up⟩
theorem n_is {l l' : List D} (h : Pn X c Γ e l) (q : l = l') : Pn X c Γ e l' := q ▸ h
theorem DenL.on {K : PySem.W.Frag} {S : Addr → Prop} {H : Hp} {p : Addr} {o : HO} {xs : List V} {l : List D} (h : DenL K S H xs l) (hn : H p = none) : DenL K (more S p) (upd H p o) xs l := h.mono (rl_more hn (same_new hn))
theorem n_lst {ds : List D} (h : Pa X c Γ es ds) (hl : ds.length ≤ 16000000 := by simp) : Pn X c Γ (.List es pos) ds :=
  PE.wk (pe_lst h) fun σ H Q ⟨S, t, q⟩ => ⟨S, t, fun vs H1 e1 d1 => ⟨by rw [d1.length]; exact small_line hl, fun p hp => q p vs _ (e1.trans (same_new hp)) (e1.free hp) upd_same (d1.on hp)⟩⟩
/-- list(xs), list(t) -/
theorem n_list {l : List D} (ha : Pe X c Γ a (.lst l)) (hm : X.mg "list" = none) (hg : Gl X "list" := by rfl) (he : starEach [a] X.env = (false, eval a X.env) :: starEach [] X.env := by rfl) : Pn X c Γ (.Call (.Name "list" p) [a] [] pos) l :=
  PE.wk (pe_callTy call_list_of hg hm (by decide +kernel) (a_cons ha a_nil he) (he := he)) fun σ H Q ⟨S, t, q⟩ => ⟨S, t, fun vs H1 e1 d1 => by
    obtain ⟨v, rfl, h1⟩ := d1.one
    obtain ⟨u, xs, rfl, h2, h3⟩ := h1.lst_
    exact ⟨u, xs, rfl, .inl h2, fun p hp => q p xs _ (e1.trans (same_new hp)) (e1.free hp) upd_same (h3.on hp)⟩⟩
theorem n_listT {l : List D} (ha : Pe X c Γ a (.tup l)) (hm : X.mg "list" = none) (hg : Gl X "list" := by rfl) (he : starEach [a] X.env = (false, eval a X.env) :: starEach [] X.env := by rfl) : Pn X c Γ (.Call (.Name "list" p) [a] [] pos) l :=
  PE.wk (pe_callTy call_list_of hg hm (by decide +kernel) (a_cons ha a_nil he) (he := he)) fun σ H Q ⟨S, t, q⟩ => ⟨S, t, fun vs H1 e1 d1 => by
    obtain ⟨v, rfl, h1⟩ := d1.one
    obtain ⟨u, xs, rfl, h2, h3⟩ := h1.tup_
    exact ⟨u, xs, rfl, .inr h2, fun p hp => q p xs _ (e1.trans (same_new hp)) (e1.free hp) upd_same (h3.on hp)⟩⟩
/-- a part of a slice -/
def tPt (K : PySem.W.Frag) (c : Cn) (Γ : Gm) (o : Option Int) : TO := fun σ H Q => ∃ S, Gd K c S σ H Γ ∧ ∀ H', Same H H' → Q o H'
theorem o_none : PO X none (tPt X.K c Γ none) := ⟨fun pins s σ H Q I ⟨S, t, q⟩ => po_none.run pins s σ H Q I (q H (Same.refl H))⟩
theorem o_some {i : Int} (h : Pe X c Γ e (.int i)) : PO X (some e) (tPt X.K c Γ (some i)) := ⟨fun pins s σ H Q I ⟨S, t, q⟩ => (po_some h).run pins s σ H Q I ⟨S, t, fun v H1 e1 d1 => ⟨i, d1.int_, q H1 e1⟩⟩⟩
def cutD (xs : List D) (lo hi : Option Int) : List D := (xs.drop (HT.sIx xs.length 0 lo)).take (HT.sIx xs.length xs.length hi - HT.sIx xs.length 0 lo)
theorem DenL.cut {K : PySem.W.Frag} {S : Addr → Prop} {H : Hp} {xs : List V} {l : List D} (h : DenL K S H xs l) (lo hi : Option Int) : DenL K S H (cutV xs lo hi) (cutD l lo hi) := by
  unfold cutV cutD
  rw [h.length]
  exact (h.drop _).take _
theorem n_slice {l : List D} {lo hi : Option Expr} {l1 h1 : Option Int} {p2 : Pos} (ha : Pe X c Γ a (.lst l)) (hl : PO X lo (tPt X.K c Γ l1)) (hh : PO X hi (tPt X.K c Γ h1)) : Pn X c Γ (.Subscript a (.Slice lo hi none p2) pos) (cutD l l1 h1) :=
  PE.wk (pe_slice sl_list ha hl hh) fun σ H Q ⟨S, t, q⟩ => ⟨S, t, fun v H1 e1 d1 => ⟨S, t.ext e1, fun H2 e2 => ⟨S, t.ext (e1.trans e2), fun H3 e3 => by
    obtain ⟨u, xs, rfl, h2, h3⟩ := (d1.ext (e2.trans e3)).lst_
    exact ⟨u, xs, rfl, h2, fun p hp => q p _ _ (((e1.trans e2).trans e3).trans (same_new hp)) (((e1.trans e2).trans e3).free hp) upd_same ((h3.cut l1 h1).on hp)⟩⟩⟩⟩
/-- xs + ys, both new -/
theorem n_cat {l m : List D} (ha : Pn X c Γ a l) (hb : Pn X c Γ b m) (hz : l.length + m.length ≤ 16000000) : Pn X c Γ (.BinOp a .Add b pos) (l ++ m) :=
  PE.wk (pe_op op_cat ha hb) fun σ H Q ⟨S, t, q⟩ => ⟨S, t, fun p1 xs H1 e1 n1 h1 d1 => ⟨S, t.ext e1, fun p2 ys H2 e2 n2 h2 d2 =>
    ⟨p1, p2, xs, ys, rfl, rfl, e2 _ _ h1, h2, by rw [d1.length, d2.length]; exact small_line hz, fun p hp => q p _ _ ((e1.trans e2).trans (same_new hp)) ((e1.trans e2).free hp) upd_same (((d1.off.ext e2).append d2.off).on hp)⟩⟩⟩

/-! ### comprehensions of one clause -/
def tIn {α : Type} (K : PySem.W.Frag) (c : Cn) (Γ : Gm) (j : Nat) (xs : List α) (enc : α → D) (f : α → D) (p : α → Bool) : TE := fun σ H Q => ∃ x, x ∈ xs ∧ p x = true ∧ tP K c (Γ.set j (some (.im (enc x)))) (f x) σ H Q
def tInT {α : Type} (K : PySem.W.Frag) (c : Cn) (Γ : Gm) (j : Nat) (xs : List α) (enc : α → D) (p : α → Bool) : TT := fun σ H Q => ∃ x, x ∈ xs ∧ tQ K c (Γ.set j (some (.im (enc x)))) (p x) σ H Q
/-- the contexts of a comprehension's block -/
abbrev InBlk (X : Cx) (scope : Scope) (P : Cx → Prop) : Prop := ∀ (s : Shared) (H : Hp) (C : Addr) (cl : List (Str × Addr)) (fp : List Addr), P (X.blk s H scope (compEnvC scope cl C X.env) fp)
theorem filt_take {α β : Type} {xs : List α} {p : α → Bool} {f : α → β} {i : Nat} {x : α} (h : xs[i]? = some x) : ((xs.take (i + 1)).filter p).map f = ((xs.take i).filter p).map f ++ (if p x = true then [f x] else []) := by
  have e : xs.take (i + 1) = xs.take i ++ [x] := by
    rw [List.take_succ, h]
    rfl
  rw [e, List.filter_append, List.map_append]
  congr 1
  by_cases q : p x = true
  · rw [if_pos q, List.filter_cons, if_pos q]; rfl
  · rw [if_neg q, List.filter_cons, if_neg q]; rfl
theorem filt_len {α β : Type} {xs : List α} {p : α → Bool} {f : α → β} : ((xs.filter p).map f).length ≤ xs.length := by
  rw [List.length_map]
  exact List.length_filter_le _ _
/-- what stays in a comprehension's turns: Dl its list -/
def LcI {α : Type} (K : PySem.W.Frag) (S : Addr → Prop) (H1 : Hp) (Dl : Addr) (xs : List α) (p : α → Bool) (f : α → D) (i : Nat) (H' : Hp) : Prop :=
  Same H1 H' ∧ ∃ acc, H' Dl = some (.lst acc) ∧ DenL K (more S Dl) H' acc (((xs.take i).filter p).map f)
theorem lc_turn {α : Type} {K : PySem.W.Frag} {S : Addr → Prop} {σ : L2.St} {H1 H' : Hp} {Dl : Addr} {j : Nat} {vs : List Nat} {xs : List α} {enc : α → D} {p : α → Bool} {f : α → D} {i : Nat} {x : α} {y : V} (t : Gd K c S σ H1 Γ) (hD : H1 Dl = none) (hz : xs.length ≤ 16000000)
    (hf : ∀ v ∈ vs, ∀ q ∈ c.fx, q.1 ≠ v) (hj : j ∈ vs) (hi : xs[i]? = some x) (hy : Den K S H1 y (enc x)) (h : LcI K S H1 Dl xs p f i H') :
    wipe ((wipe σ vs).set j (some y)) vs = wipe σ vs ∧ tInT K c (wipeG Γ vs) j xs enc p ((wipe σ vs).set j (some y)) H' fun b H3 => if b = true then tIn K c (wipeG Γ vs) j xs enc f p ((wipe σ vs).set j (some y)) H3 fun z H4 => ∃ acc, H4 Dl = some (.lst acc) ∧ acc.length < sizeLine ∧ LcI K S H1 Dl xs p f (i + 1) (upd H4 Dl (.lst (acc ++ [z])))
      else LcI K S H1 Dl xs p f (i + 1) H3 := by
  obtain ⟨e1, acc, h1, h2⟩ := h
  have g : Gd K c (more S Dl) ((wipe σ vs).set j (some y)) H' ((wipeG Γ vs).set j (some (.im (enc x)))) := ((t.plus hD e1 (by rw [h1]; simp)).wipe vs hf).setIm (hy.mono (rl_more hD e1)) (hf j hj)
  refine ⟨wipe_wipe σ vs hj _, x, List.mem_of_getElem? hi, more S Dl, g, fun H3 e3 => ?_⟩
  cases q : p x with
  | true =>
    refine iteT ?_
    refine ⟨x, List.mem_of_getElem? hi, q, more S Dl, g.ext e3, fun z H4 e4 d4 => ⟨acc, e4 _ _ (e3 _ _ h1), ?_, fun b o hb => ?_, acc ++ [z], upd_same, ?_⟩⟩
    · rw [h2.length]
      refine Nat.lt_of_le_of_lt (Nat.le_trans filt_len ?_) (by decide : 16000000 < sizeLine)
      rw [List.length_take]
      omega
    · rw [upd_ne (ne_of_none hb hD)]
      exact e4 _ _ (e3 _ _ (e1 _ _ hb))
    · rw [filt_take hi, if_pos q]
      exact ((h2.ext (e3.trans e4)).append (.cons d4 .nil)).mono (rl_upd (.inr rfl))
  | false =>
    refine iteF ?_
    refine ⟨e1.trans e3, acc, e3 _ _ h1, ?_⟩
    rw [filt_take hi, if_neg (by rw [q]; decide), List.append_nil]
    exact h2.ext e3
theorem lc_end {α : Type} {K : PySem.W.Frag} {S : Addr → Prop} {σ : L2.St} {H0 H1 H' : Hp} {Dl : Addr} {xs : List α} {p : α → Bool} {f : α → D} {Q : VK} (e0 : Same H0 H1) (hD : H1 Dl = none) (h : LcI K S H1 Dl xs p f xs.length H')
    (q : ∀ p' ys H', Same H0 H' → H0 p' = none → H' p' = some (.lst ys) → DenL K (more S p') H' ys ((xs.filter p).map f) → Q (.ref p') H') : Q (.ref Dl) H' := by
  obtain ⟨e1, acc, h1, h2⟩ := h
  rw [List.take_length] at h2
  exact q Dl acc H' (e0.trans e1) (e0.free hD) h1 h2
/-- over a list -/
theorem lcL_read {α : Type} {K : PySem.W.Frag} {ti : TE} {j : Nat} {vs : List Nat} {xs : List α} {enc : α → D} {p : α → Bool} {f : α → D} {σ : L2.St} {H : Hp} {Q : VK} (hi : ∀ S, Gd K c S σ H Γ → ∀ Q : VK, (∀ v H', Same H H' → Den K S H' v (.lst (xs.map enc)) → Q v H') → ti σ H Q)
    (hz : xs.length ≤ 16000000) (hf : ∀ v ∈ vs, ∀ q ∈ c.fx, q.1 ≠ v) (hj : j ∈ vs) (h : tO K c Γ ((xs.filter p).map f) σ H Q) :
    tLc (iList K ti) (gName j) (tInT K c (wipeG Γ vs) j xs enc p) (tIn K c (wipeG Γ vs) j xs enc f p) vs σ H Q := by
  obtain ⟨S, t, q⟩ := h
  refine hi S t _ fun v H1 e1 d1 => ?_
  obtain ⟨a, ys, rfl, h2, h3⟩ := d1.lstL
  have hlen : ys.length = xs.length := by rw [h3.length, List.length_map]
  refine ⟨a, rfl, ⟨ys, h2.sq⟩, fun Dl hD => lc_list (xs := ys) (LcI K S H1 Dl xs p f) ⟨same_new hD, [], upd_same, .nil⟩ (fun i H' _ z => (h2.mono (.of z.1)).sq) (fun i y H' hy z => ?_) fun H' z => lc_end (σ := σ) e1 hD (by rw [← hlen]; exact z) q⟩
  obtain ⟨d, h4, h5⟩ := h3.get hy
  rw [List.getElem?_map] at h4
  cases hx : xs[i]? with
  | none => rw [hx] at h4; cases h4
  | some x =>
    rw [hx] at h4
    cases h4
    exact lc_turn (t.ext e1) hD hz hf hj hx h5 z
theorem lcT_read {α : Type} {K : PySem.W.Frag} {ti : TE} {j : Nat} {vs : List Nat} {xs : List α} {enc : α → D} {p : α → Bool} {f : α → D} {σ : L2.St} {H : Hp} {Q : VK} (hi : ∀ S, Gd K c S σ H Γ → ∀ Q : VK, (∀ v H', Same H H' → Den K S H' v (.tup (xs.map enc)) → Q v H') → ti σ H Q)
    (hz : xs.length ≤ 16000000) (hf : ∀ v ∈ vs, ∀ q ∈ c.fx, q.1 ≠ v) (hj : j ∈ vs) (h : tO K c Γ ((xs.filter p).map f) σ H Q) :
    tLc (iTup K ti) (gName j) (tInT K c (wipeG Γ vs) j xs enc p) (tIn K c (wipeG Γ vs) j xs enc f p) vs σ H Q := by
  obtain ⟨S, t, q⟩ := h
  refine hi S t _ fun v H1 e1 d1 => ?_
  obtain ⟨a, ys, rfl, h2, h3⟩ := d1.tupL
  have hlen : ys.length = xs.length := by rw [h3.length, List.length_map]
  refine ⟨a, rfl, ⟨ys, h2.sq⟩, fun Dl hD => lc_tup (xs := ys) (LcI K S H1 Dl xs p f) ⟨same_new hD, [], upd_same, .nil⟩ (fun i H' _ z => (h2.mono (.of z.1)).sq) (fun i y H' hy z => ?_) fun H' z => lc_end (σ := σ) e1 hD (by rw [← hlen]; exact z) q⟩
  obtain ⟨d, h4, h5⟩ := h3.get hy
  rw [List.getElem?_map] at h4
  cases hx : xs[i]? with
  | none => rw [hx] at h4; cases h4
  | some x =>
    rw [hx] at h4
    cases h4
    exact lc_turn (t.ext e1) hD hz hf hj hx h5 z
/-- over numbers lo, lo + 1, .. -/
def encR (lo : Int) (i : Nat) : D := .int (lo + (i : Int))
theorem lcR_read {K : PySem.W.Frag} {wi : TI} {lo : Int} {n : Nat} {j : Nat} {vs : List Nat} {p : Nat → Bool} {f : Nat → D} {σ : L2.St} {H : Hp} {Q : VK} (hi : ∀ S, Gd K c S σ H Γ → ∀ R : It → Hp → Prop, (∀ H', Same H H' → R (Itr lo n) H') → wi σ H R)
    (hz : n ≤ 16000000) (hf : ∀ v ∈ vs, ∀ q ∈ c.fx, q.1 ≠ v) (hj : j ∈ vs) (h : tO K c Γ (((List.range n).filter p).map f) σ H Q) :
    tLc wi (gName j) (tInT K c (wipeG Γ vs) j (List.range n) (encR lo) p) (tIn K c (wipeG Γ vs) j (List.range n) (encR lo) f p) vs σ H Q := by
  obtain ⟨S, t, q⟩ := h
  refine hi S t _ fun H1 e1 Dl hD => ?_
  refine lc_range (lo := lo) (n := n) (LcI K S H1 Dl (List.range n) p f) ⟨same_new hD, [], upd_same, .nil⟩ (fun i H' hi z => ?_) fun H' z => lc_end (σ := σ) e1 hD (by rw [List.length_range]; exact z) q
  have hx : (List.range n)[i]? = some i := by simp [hi]
  exact lc_turn (y := .int (lo + i)) (t.ext e1) hD (by rw [List.length_range]; exact hz) hf hj hx (.int _) z
theorem wfx {vs : List Nat} (h : (vs.all fun v => fxB c.fx v) = true) : ∀ v ∈ vs, ∀ q ∈ c.fx, q.1 ≠ v := fun v hv => fxB_ok (List.all_eq_true.mp h v hv)

section
variable {α : Type} {elt iter tgx : Expr} {ifs : List Expr} {scope : Scope} {own : List (Str × Nat)} {ppos lpos : Pos} {y : Str} {xs : List α} {enc : α → D} {f : α → D} {pr : α → Bool} {j : Nat}
theorem in_elt (he : ∀ x, x ∈ xs → pr x = true → InBlk X scope fun X' => Pe X' c ((wipeG Γ (own.map (·.2))).set j (some (.im (enc x)))) elt (f x)) : InBlk X scope fun X' => PE X' elt (tIn X.K c (wipeG Γ (own.map (·.2))) j xs enc f pr) :=
  fun s H C cl fp => ⟨fun pins s1 σ H1 Q I ⟨x, h1, h2, q⟩ => (he x h1 h2 s H C cl fp).run pins s1 σ H1 Q I q⟩
theorem in_tst (ht : ∀ x, x ∈ xs → InBlk X scope fun X' => PTs X' ifs (tQ X.K c ((wipeG Γ (own.map (·.2))).set j (some (.im (enc x)))) (pr x))) : InBlk X scope fun X' => PTs X' ifs (tInT X.K c (wipeG Γ (own.map (·.2))) j xs enc pr) :=
  fun s H C cl fp => ⟨fun pins s1 σ H1 Q I ⟨x, h1, q⟩ => (ht x h1 s H C cl fp).run pins s1 σ H1 Q I q⟩
theorem ts_nil : PTs X [] (tQ X.K c Γ true) := ⟨fun pins s σ H Q I ⟨S, t, q⟩ => pts_nil.run pins s σ H Q I (q H (Same.refl H))⟩
theorem ts_one {k : Bool} (h : Pt X c Γ e k) : PTs X [e] (tQ X.K c Γ k) := pts_one h
/-- [elt for y in iter if ..], iter a list -/
theorem n_lcL (enc : α → D) (f : α → D) (pr : α → Bool) (hi : Pe X c Γ iter (.lst (xs.map enc))) (hz : xs.length ≤ 16000000) (ok : BlkOk X.N X.env.scope scope own) (hg : InBlk X scope fun X' => PG X' (.Name y ppos) (gName j))
    (ht : ∀ x, x ∈ xs → InBlk X scope fun X' => PTs X' ifs (tQ X.K c ((wipeG Γ (own.map (·.2))).set j (some (.im (enc x)))) (pr x))) (he : ∀ x, x ∈ xs → pr x = true → InBlk X scope fun X' => Pe X' c ((wipeG Γ (own.map (·.2))).set j (some (.im (enc x)))) elt (f x))
    (hN : X.N.Nodup) (hc : X.calm = true := by rfl) (hf : ((own.map (·.2)).all fun v => fxB c.fx v) = true := by rfl) (hj : j ∈ own.map (·.2) := by decide) (hs : ∀ x, foldedSetIterable iter X.env x = pure x := by intro _; rfl) :
    Pn X c Γ (.ListComp elt [⟨.Name y ppos, iter, ifs, 0⟩] scope lpos) ((xs.filter pr).map f) :=
  PE.wk (pe_lc hc hN (pi_list hi) ok hg (in_tst ht) (in_elt he) hs) fun σ H Q h => lcL_read (fun S t Q' q => ⟨S, t, q⟩) hz (wfx hf) hj h
theorem n_lcT (enc : α → D) (f : α → D) (pr : α → Bool) (hi : Pe X c Γ iter (.tup (xs.map enc))) (hz : xs.length ≤ 16000000) (ok : BlkOk X.N X.env.scope scope own) (hg : InBlk X scope fun X' => PG X' (.Name y ppos) (gName j))
    (ht : ∀ x, x ∈ xs → InBlk X scope fun X' => PTs X' ifs (tQ X.K c ((wipeG Γ (own.map (·.2))).set j (some (.im (enc x)))) (pr x))) (he : ∀ x, x ∈ xs → pr x = true → InBlk X scope fun X' => Pe X' c ((wipeG Γ (own.map (·.2))).set j (some (.im (enc x)))) elt (f x))
    (hN : X.N.Nodup) (hc : X.calm = true := by rfl) (hf : ((own.map (·.2)).all fun v => fxB c.fx v) = true := by rfl) (hj : j ∈ own.map (·.2) := by decide) (hs : ∀ x, foldedSetIterable iter X.env x = pure x := by intro _; rfl) :
    Pn X c Γ (.ListComp elt [⟨.Name y ppos, iter, ifs, 0⟩] scope lpos) ((xs.filter pr).map f) :=
  PE.wk (pe_lc hc hN (pi_tup hi) ok hg (in_tst ht) (in_elt he) hs) fun σ H Q h => lcT_read (fun S t Q' q => ⟨S, t, q⟩) hz (wfx hf) hj h
/-- [elt for y in range(n) if ..] -/
theorem n_lcR1 {n : Int} {p1 p2 : Pos} (f : Nat → D) (pr : Nat → Bool) (hi : Pa X c Γ [a] [.int n]) (hz : n ≤ 16000000) (hz0 : -(2 ^ 62) ≤ n) (ok : BlkOk X.N X.env.scope scope own) (hg : InBlk X scope fun X' => PG X' (.Name y ppos) (gName j))
    (ht : ∀ i : Nat, (i : Int) < n → InBlk X scope fun X' => PTs X' ifs (tQ X.K c ((wipeG Γ (own.map (·.2))).set j (some (.im (.int (i : Int))))) (pr i))) (he : ∀ i : Nat, (i : Int) < n → pr i = true → InBlk X scope fun X' => Pe X' c ((wipeG Γ (own.map (·.2))).set j (some (.im (.int (i : Int))))) elt (f i))
    (hN : X.N.Nodup) (hm : X.mg "range" = none) (hc : X.calm = true := by rfl) (hf : ((own.map (·.2)).all fun v => fxB c.fx v) = true := by rfl) (hj : j ∈ own.map (·.2) := by decide) (hg1 : Gl X "range" := by rfl) (hs0 : starEach [a] X.env = [(false, eval a X.env)] := by rfl) (hs : ∀ x, foldedSetIterable (.Call (.Name "range" p1) [a] [] p2) X.env x = pure x := by intro _; rfl) :
    Pn X c Γ (.ListComp elt [⟨.Name y ppos, .Call (.Name "range" p1) [a] [] p2, ifs, 0⟩] scope lpos) (((List.range n.toNat).filter pr).map f) := by
  have mem : ∀ {i : Nat}, i ∈ List.range n.toNat → (i : Int) < n := fun {i} h => by
    have q := List.mem_range.mp h
    omega
  have z : ∀ i : Nat, encR 0 i = .int (i : Int) := fun i => by unfold encR; rw [Int.zero_add]
  refine PE.wk (pe_lc hc hN (pi_range1 hg1 hm hi hs0) ok hg (in_tst (xs := List.range n.toNat) (enc := encR 0) (pr := pr) fun i h => by rw [z]; exact ht i (mem h)) (in_elt (xs := List.range n.toNat) (enc := encR 0) (pr := pr) (f := f) fun i h q => by rw [z]; exact he i (mem h) q) hs)
    fun σ H Q h => lcR_read (lo := 0) (n := n.toNat) (fun S t R q => ⟨S, t, fun vs H1 e1 dv => ?_⟩) (by omega) (wfx hf) hj h
  obtain ⟨v, rfl, h1⟩ := dv.one
  exact ⟨n, by rw [h1.int_], hz0, by omega, q H1 e1⟩
theorem n_lcR2 {lo hi' : Int} {p1 p2 : Pos} (f : Nat → D) (pr : Nat → Bool) (hi : Pa X c Γ [a, b] [.int lo, .int hi']) (hz : -16000000 ≤ lo ∧ lo ≤ 16000000 ∧ -16000000 ≤ hi' ∧ hi' ≤ 16000000 ∧ hi' - lo ≤ 16000000) (ok : BlkOk X.N X.env.scope scope own) (hg : InBlk X scope fun X' => PG X' (.Name y ppos) (gName j))
    (ht : ∀ i : Nat, lo + (i : Int) < hi' → InBlk X scope fun X' => PTs X' ifs (tQ X.K c ((wipeG Γ (own.map (·.2))).set j (some (.im (.int (lo + (i : Int)))))) (pr i))) (he : ∀ i : Nat, lo + (i : Int) < hi' → pr i = true → InBlk X scope fun X' => Pe X' c ((wipeG Γ (own.map (·.2))).set j (some (.im (.int (lo + (i : Int)))))) elt (f i))
    (hN : X.N.Nodup) (hm : X.mg "range" = none) (hc : X.calm = true := by rfl) (hf : ((own.map (·.2)).all fun v => fxB c.fx v) = true := by rfl) (hj : j ∈ own.map (·.2) := by decide) (hg1 : Gl X "range" := by rfl) (hs0 : starEach [a, b] X.env = [(false, eval a X.env), (false, eval b X.env)] := by rfl) (hs1 : starEach [b] X.env = [(false, eval b X.env)] := by rfl) (hs : ∀ x, foldedSetIterable (.Call (.Name "range" p1) [a, b] [] p2) X.env x = pure x := by intro _; rfl) :
    Pn X c Γ (.ListComp elt [⟨.Name y ppos, .Call (.Name "range" p1) [a, b] [] p2, ifs, 0⟩] scope lpos) (((List.range (hi' - lo).toNat).filter pr).map f) := by
  have mem : ∀ {i : Nat}, i ∈ List.range (hi' - lo).toNat → lo + (i : Int) < hi' := fun {i} h => by
    have q := List.mem_range.mp h
    omega
  refine PE.wk (pe_lc hc hN (pi_range2 hg1 hm hi hs0 hs1) ok hg (in_tst (xs := List.range (hi' - lo).toNat) (enc := encR lo) (pr := pr) fun i h => ht i (mem h)) (in_elt (xs := List.range (hi' - lo).toNat) (enc := encR lo) (pr := pr) (f := f) fun i h q => he i (mem h) q) hs)
    fun σ H Q h => lcR_read (lo := lo) (n := (hi' - lo).toNat) (fun S t R q => ⟨S, t, fun vs H1 e1 dv => ?_⟩) (by omega) (wfx hf) hj h
  obtain ⟨v, w, rfl, h1, h2⟩ := dv.two
  exact ⟨lo, hi', by rw [h1.int_, h2.int_], ⟨by omega, by omega, by omega, by omega⟩, q H1 e1⟩
end
theorem filt_all {α β : Type} {xs : List α} {f : α → β} : (xs.filter fun _ => true).map f = xs.map f := by
  rw [List.filter_eq_self.mpr (fun _ _ => rfl)]

/-! ### statements over lists of one's own -/
theorem s_setO (i : Nat) {l : List D} {pos' : Pos} (he : Pn X c Γ e l) (hr : Po.nx (Γ.set i (some (.ow l)))) (hN : X.N.Nodup) (hi : X.N[i]? = some x := by rfl) (hx : Loc X.env.scope x := by first | exact Or.inl rfl | exact Or.inr rfl) (hf : fxB c.fx i = true := by rfl)
    (hs : swapsWith e (some (.Name x pos')) pos.line X.env = pure false := by rfl) (hfn : X.fn x = true ∨ X.env.scope.names.lookup x = some .local := by first | exact .inl rfl | exact .inr rfl) : Sm X c Γ (.Assign [.Name x pos'] e pos) Po :=
  PS.wk (ps_set hN hi hx he hs hfn) fun D σ H ⟨S, t, q⟩ => ⟨S, t, fun p xs H1 e1 n1 h1 d1 => q.nx _ H1 _ _ (rl_more n1 e1) (t.setOw n1 e1 h1 d1 (fxB_ok hf)) hr⟩
/-- y = [.. for ..] on one line -/
theorem tAsg_n {K : PySem.W.Frag} {i : Nat} {l : List D} {te : TE} {Ds : Ends} {σ : L2.St} {H : Hp} (hte : ∀ σ H Q, tO K c Γ l σ H Q → te σ H Q) (hf : fxB c.fx i = true) (hr : Po.nx (Γ.set i (some (.ow l))) ∨ Po.nx (Γ.set i (some (.im (.lst l))))) (h : tB K c Γ Po Ds σ H) : tAsg te (gName i) Ds σ H := by
  obtain ⟨S, t, q⟩ := h
  refine hte σ H _ ⟨S, t, fun p xs H1 e1 n1 h1 d1 => ?_⟩
  rcases hr with hr | hr
  · exact q.nx _ H1 _ _ (rl_more n1 e1) (t.setOw n1 e1 h1 d1 (fxB_ok hf)) hr
  · exact q.nx _ H1 _ _ (.of e1) ((t.ext e1).setIm (.lst (.inl h1) (fun z => t.dom p z n1) d1.off) (fxB_ok hf)) hr
theorem s_freeze (i : Nat) {l : List D} (hi : Γ[i]? = some (some (.ow l))) (h : Bl X c (Γ.set i (some (.im (.lst l)))) A Po) (hf : fxB c.fx i = true := by rfl) : Bl X c Γ A Po :=
  PSs.wk h fun D σ H ⟨S, t, q⟩ => by
    obtain ⟨S', r, g⟩ := t.freeze hi (fxB_ok hf)
    exact ⟨S', g, q.go r⟩
/-- xs.append(e) -/
theorem s_app (k : Nat) {l : List D} {d : D} {p1 p2 p3 : Pos} (hk : Γ[k]? = some (some (.ow l))) (he : Pe X c Γ e d) (hz : l.length < 16000000) (hr : Po.nx (Γ.set k (some (.ow (l ++ [d]))))) (hN : X.N[k]? = some x := by rfl) (hv : Vis X.env.scope x := by first | exact Or.inl rfl | exact Or.inr (Or.inl rfl) | exact Or.inr (Or.inr rfl))
    (hd : (x == ("__debug__" : Str)) = false := by decide) (hcd : (x == ("__classdict__" : Str)) = false := by decide) (hst : starEach [e] X.env = (false, eval e X.env) :: starEach [] X.env := by rfl) {o : Expr} (ho : o = .Call (.Attribute (.Name x p1) "append" p2) [e] [] p3 := by rfl)
    (hbm : ∀ ta, PA X [e] ta → PE X o (tBM X.K "list" rAppend (tVar k) ta)) (hs : swapsWith o none pos.line X.env = pure false := by rfl) : Sm X c Γ (.Expr o pos) Po :=
  PS.wk (ps_expr (hbm _ (a_cons he a_nil hst)) hs) fun D σ H ⟨S, t, q⟩ => by
    obtain ⟨a, xs, h1, h2, h3, h4⟩ := t.ow hk
    refine ⟨.ref a, h1, .inl ⟨rfl, xs, SqL.of h3⟩, S, t, fun vs H1 e1 d1 => ?_⟩
    obtain ⟨v, rfl, h5⟩ := d1.one
    have hS := h2
    refine ⟨a, xs, v, rfl, rfl, e1 _ _ h3, by rw [h4.length]; exact Nat.lt_trans hz (by decide), ?_⟩
    exact q.nx σ _ S _ ((Rl.of e1).trans (rl_upd h2)) ((t.ext e1).change hk h1 h2 (e1 _ _ h3) ((h4.ext e1).append (.cons h5 .nil))) hr
/-- xs[i] = e -/
theorem s_put (k : Nat) {l : List D} {d : D} {i : Int} {m : Nat} {ix : Expr} {p1 p2 : Pos} (hk : Γ[k]? = some (some (.ow l))) (he : Pe X c Γ e d) (hi : Pe X c Γ ix (.int i)) (hm : ixN l.length i = some m) (hr : Po.nx (Γ.set k (some (.ow (l.set m d))))) (hN : X.N[k]? = some x := by rfl) (hv : Vis X.env.scope x := by first | exact Or.inl rfl | exact Or.inr (Or.inl rfl) | exact Or.inr (Or.inr rfl))
    (hd : (x == ("__debug__" : Str)) = false := by decide) (hcd : (x == ("__classdict__" : Str)) = false := by decide)
    (ha : ∀ v, assign (.Subscript (.Name x p1) ix p2) X.env v = (do
      let ov ← holding [v] (eval (.Name x p1) X.env)
      let iv ← holding [v, ov] (eval ix X.env)
      standAt p2
      holding [v, ov, iv] (setItem ov iv v)
      release [v, ov, iv] []) := by intro _; rfl)
    (hs : swapsWithSole [.Subscript (.Name x p1) ix p2] e pos.line X.env = pure false := by rfl) (hw : swappedStores [.Subscript (.Name x p1) ix p2] e X.env = pure none := by rfl)
    (h1 : (assignEach [.Subscript (.Name x p1) ix p2] X.env).map (·.2) = [assign (.Subscript (.Name x p1) ix p2) X.env] := by rfl) : Sm X c Γ (.Assign [.Subscript (.Name x p1) ix p2] e pos) Po :=
  PS.wk (ps_asg he (pg_sub (pe_var hN hv hd hcd) hi set_list ha) hs hw h1) fun D σ H ⟨S, t, q⟩ => ⟨S, t, fun v H1 e1 d1 => by
    obtain ⟨a, xs, h1, h2, h3, h4⟩ := t.ow hk
    refine ⟨.ref a, h1, S, t.ext e1, fun w H2 e2 d2 => ?_⟩
    have e12 := e1.trans e2
    refine ⟨a, xs, i, m, rfl, d2.int_, e12 _ _ h3, by rw [h4.length]; exact hm, ?_⟩
    exact q.nx σ _ S _ ((Rl.of e12).trans (rl_upd h2)) ((t.ext e12).change hk h1 h2 (e12 _ _ h3) (DenL.set (d1.ext e2) m (h4.ext e12))) hr⟩
/-- return xs, a list of one's own, from now on its caller's -/
theorem s_retO (i : Nat) {l : List D} {p1 : Pos} (hi : Γ[i]? = some (some (.ow l))) (h : Po.rt (.ow l) (Γ.set i none)) (hN : X.N[i]? = some x := by rfl) (hv : Vis X.env.scope x := by first | exact Or.inl rfl | exact Or.inr (Or.inl rfl) | exact Or.inr (Or.inr rfl)) (hf : fxB c.fx i = true := by rfl)
    (hd : (x == ("__debug__" : Str)) = false := by decide) (hcd : (x == ("__classdict__" : Str)) = false := by decide) : Sm X c Γ (.Return (some (.Name x p1)) pos) Po :=
  PS.wk (ps_ret (pe_var hN hv hd hcd)) fun D σ H ⟨S, t, q⟩ => by
    obtain ⟨a, xs, h1, h2, h3, h4⟩ := t.ow hi
    refine ⟨.ref a, h1, q.rt (.ref a) σ H S (Γ.set i none) (.ow l) .refl (t.drop i) ⟨a, xs, rfl, h2, t.loc i l a hi h1 (fxB_ok hf), h3, h4, fun j l' hj hs => ?_⟩ h⟩
    have n : i ≠ j := fun z => by
      subst z
      have q2 := (List.getElem?_eq_some_iff.mp hj).1
      rw [List.getElem?_set_self (by simpa using q2)] at hj
      cases hj
    rw [List.getElem?_set_ne n] at hj
    exact n (t.sep i j a l l' hi hj h1 hs)
/-- return [..], a new list, its caller's -/
theorem s_retN' {l : List D} (he : Pn X c Γ e l) (h : Po.rt (.ow l) Γ) : Sm X c Γ (.Return (some e) pos) Po :=
  PS.wk (ps_ret he) fun D σ H ⟨S, t, q⟩ => ⟨S, t, fun p xs H1 e1 n1 h1 d1 => by
    refine q.rt (.ref p) σ H1 (more S p) Γ (.ow l) (rl_more n1 e1) (t.plus n1 e1 (by rw [h1]; simp)) ⟨p, xs, rfl, .inr rfl, fun z => t.dom p (t.sub p z) n1, h1, d1, fun j l' hj hs => ?_⟩ h
    obtain ⟨a, ys, h2, h3, h4, _⟩ := t.ow hj
    rw [hs] at h2
    cases h2
    rw [n1] at h4
    cases h4⟩
end

/-! ### a def by its body -/
def toD : Ent → D
  | .im d => d
  | .ow l => .lst l
  | .od _ _ => .dic
def gm0 (n : Nat) (es : List Ent) : Gm := es.map some ++ List.replicate (n - es.length) none
theorem Rs.den {K : PySem.W.Frag} {c : Cn} {S : Addr → Prop} {σ : L2.St} {H : Hp} {Γ : Gm} {v : V} (t : Gd K c S σ H Γ) : ∀ {en : Ent}, Rs K c S σ H Γ v en → Den K c.S0 H v (toD en)
  | .im d, h => Den.less h t.sub
  | .ow l, ⟨a, xs, e, h1, h2, h3, h4, _⟩ => by
    subst e
    exact .lst (.inl h3) h2 (h4.less t.sub)
  | .od _ _, h => h.elim
theorem gd_start {K : PySem.W.Frag} {S : Addr → Prop} {H : Hp} {vs : List V} {ds : List D} {N : List Str} (hd : ∀ a, S a → H a ≠ none) (h : DenL K S H vs ds) : Gd K ⟨S, H, [], []⟩ S (L2.start N vs) H (gm0 N.length (ds.map .im)) := by
  have hl := h.length
  refine ⟨?_, fun i e q => ?_, fun i j a l l' h1 h2 _ _ => ?_, fun i l a h1 _ _ => ?_, fun a z => z, fun a z => .inl z, fun a o z _ _ => z, hd, fun a z _ => z, (fun p z => nomatch z), (fun p z => nomatch z), (fun p z => nomatch z)⟩
  · unfold L2.start gm0
    simp [hl]
  · unfold gm0 at q
    by_cases hi : i < ds.length
    · rw [List.getElem?_append_left (by simpa using hi)] at q
      simp only [List.getElem?_map] at q
      cases e2 : ds[i]? with
      | none => rw [e2] at q; cases q
      | some d =>
        rw [e2] at q
        cases q
        obtain ⟨v, h1, h2⟩ := h.at_ e2
        refine ⟨v, ?_, h2⟩
        unfold L2.start
        rw [List.getElem?_append_left (by rw [List.length_map, hl]; exact hi), List.getElem?_map, h1] <;> rfl
    · rw [List.getElem?_append_right (by simpa using hi), List.getElem?_replicate] at q
      split at q <;> cases q
  all_goals
    have no : ∀ (i : Nat) (l : List D), (gm0 N.length (ds.map .im))[i]? ≠ some (some (.ow l)) := fun i l q => by
      unfold gm0 at q
      by_cases hi : i < ds.length
      · rw [List.getElem?_append_left (by simpa using hi)] at q
        simp only [List.getElem?_map] at q
        cases e2 : ds[i]? with
        | none => rw [e2] at q; cases q
        | some d => rw [e2] at q; cases q
      · rw [List.getElem?_append_right (by simpa using hi), List.getElem?_replicate] at q
        split at q <;> cases q
    exact absurd h1 (no _ _)
section
variable {P : Program} {w : World} {K : PySem.W.Frag} {mg : Str → Option Value} {base : Heap}
/-- the context of a def's body -/
abbrev Bx (P : Program) (w : World) (K : PySem.W.Frag) (mg : Str → Option Value) (base : Heap) (N : List Str) (q : Str) (sc : Scope) (f : Addr) (cdv : Value) (A : Around) (outer : List Env) (s : Shared) (H : Hp) (E : XK) : Cx := cxOf (L2.CX P w) P w K mg base N q sc f cdv A outer s H E
/-- the post of a def that changes nothing -/
abbrev poP (r : Except Er D) : Post := { nx := fun _ => r = .ok .non, rt := fun en _ => r = .ok (toD en) }
theorem mkP {x q : Str} {stt : Stmt} {f : Addr} {fd : FuncData} {N ps : List Str} {k : Nat} {F : Fs} (Fn : Fun K x q stt f fd) (Sc : FnScope N ps (defScope stt)) (len : ∀ ds r, F ds r → ds.length = ps.length)
    (hb : ∀ (cdv : Value) (A : Around) (outer : List Env) (s : Shared) (H : Hp) (E : XK) (S0 : Addr → Prop) (H0 : Hp) (ds : List D) (r : Except Er D), RoomG k (Bx P w K mg base N q (defScope stt) f cdv A outer s H E).A → F ds r →
      Xr (Bx P w K mg base N q (defScope stt) f cdv A outer s H E) ⟨S0, H0, [], []⟩ (fun e _ => r = .error e) → Bl (Bx P w K mg base N q (defScope stt) f cdv A outer s H E) ⟨S0, H0, [], []⟩ (gm0 N.length (ds.map .im)) (defBody stt) (poP r)) : FnG P w K mg base (L2.CX P w) (k + 1) f fd ps (upP K F) := by
  refine okG Fn Sc (fun vs H Q E ⟨S, ds, r, _, hl, hF, _⟩ => by rw [hl.length]; exact len ds r hF) (fun cdv A outer s H vs Q E hr ⟨S, ds, r, hd, hl, hF, k1, k2⟩ => ⟨_, hb cdv A outer s H E S H ds r hr hF ?_, ?_⟩)
  · refine ⟨fun cls dx _ H' => E cls dx H', takes_of rfl rfl rfl rfl, fun e S' σ H' Γ cls dx g er hr' => k2 e hr' cls dx H' (fun a o z => g.chg a o z ?_ (fun nt => nt.1 rfl)) er⟩
    rintro (⟨p, hp, _⟩ | ⟨p, hp, _⟩) <;> cases hp
  · refine ⟨S, gd_start hd hl, ⟨fun σ' H' S' Γ' r' g hn => ?_, fun v σ' H' S' Γ' en r' g rs hn => ?_, fun _ _ _ _ _ _ z => z.elim, fun _ _ _ _ _ _ z => z.elim⟩⟩
    · exact k1 .non hn .non H' (fun a o z => g.chg a o z (by rintro (⟨p, hp, _⟩ | ⟨p, hp, _⟩) <;> cases hp) (fun nt => nt.1 rfl)) .non
    · exact k1 _ hn v H' (fun a o z => g.chg a o z (by rintro (⟨p, hp, _⟩ | ⟨p, hp, _⟩) <;> cases hp) (fun nt => nt.1 rfl)) (rs.den g)
end
end Spr

set_option Elab.async false
set_option linter.all false
set_option maxRecDepth 100000
set_option maxHeartbeats 4000000
/-! An own error class over ValueError whose __init__ says super().__init__(text), and keeps a field or none: C(), C(x) made. -/
namespace Spr
open PySem PySem.Spec PySem.Calls PyProof.Rows PySem.W

def xA (ps : List (Str × Pos)) : Arguments := { posonlyargs := [], args := ps.map fun p => { arg := p.1, annotation := none, pos := p.2 }, vararg := none, kwonlyargs := [], kw_defaults := [], kwarg := none, defaults := [] }
def xSup (p1 p2 p3 p4 p5 p6 : Pos) (k : Nat) (msg : Str) : Stmt := .Expr (.Call (.Attribute (.Call (.Name "super" p1) [] [] p2) "__init__" p3) [.Constant (.str msg) k p4] [] p5) p6

/-- what the written part says of an error class at C, its __init__ at fI -/
structure XTxt (K : Frag) (mg : Str → Option Value) (prog : Program) (x : Str) (C fI cc cda : Addr) : Prop where
  gC : mg x = some (.ref C)
  cls : ∃ nm q N bs bm sn sub ab col dd k0 k1 k2 k3 k5, K.lookup C = some (excClassObj nm q C N bs bm true sn sub ab col dd k0 k1 k2 k3 k5 "ValueError.__new__") ∧ HandSPX.refsVE bm = true ∧ alongIn K "__init__" (((Value.ref C :: bm).dropWhile (· != .ref C)).drop 1) = some (some (.builtin "ValueError.__init__"))
  iC : findIn K (.ref C) "__init__" = some (some (.ref fI))
  tC : typeIn K (.ref fI) = some (.type "function")
  kC : keepIn K (.ref C) = true
  exC : subIn K (.ref C) (.type "BaseException") = some true
  veC : subIn K (.ref C) (.type "ValueError") = some true
  tyC : typeIn K (.ref C) = some (.type "type")
  mro : mroIn K C (.ref C) = some true
  op : nsIn K cStatics "thirdparty.any" = some none
  noS : mg "super" = none
  cell : ∃ cl cld csl, K.lookup cc = some ⟨cl, cld, .cell (some (.ref C)), csl⟩
  code : ∃ (q : Str) (ccl : Value) (cdd : Option Addr) (vs : Array Value) (ccs : Array (Option Value)) (file : Str) (tf : Tok), codeIn K (.ref cda) q = true ∧ K.lookup cda = some ⟨ccl, cdd, .fields vs, ccs⟩ ∧ vs[2]? = some (.str file tf) ∧ ((prog.main.file : Str) == file) = true
  top : (prog.main.scope.names.lookup ("super" : Str)).isSome = false
/-- what __init__ leaves of a fresh exception at x -/
structure InitEnd0 (h h' : Heap) (x C t1 : Addr) : Prop where
  keep : ∀ b o, b ≠ x → h.get? b = some o → h'.get? b = some o
  obj : h'.get? x = some (HandSPX.excO C t1)
structure Made0 (h h' : Heap) (e C : Addr) : Prop where
  keep : ∀ b o, h.get? b = some o → h'.get? b = some o
  new : h.objs.size ≤ e
  obj : ∃ t1, h'.get? e = some (HandSPX.excO C t1)
section
variable {prog : Program} {w : World} {A : Around} {E : Value → Shared → Prop} {R : Result → Shared → Prop} {s : Shared} {K : Frag} {mg : Str → Option Value} {base : Heap} {x : Str} {C fI cc cda : Addr}
theorem call_mw {nm q : Str} {N : Addr} {bs bm : List Value} {hdct : Bool} {sn : List Str} {sub : List Value} {ab : Bool} {col : Option Bool} {dd : Option Addr} {k0 k1 k2 k3 k5 : Option Value} {h : Heap} {g : Array GenState} {d : Drawn} {t : Nat} {os : OsState} {u e t0 : Addr} {rest : List Value} {Q : Value → Shared → Prop}
    (hC : h.get? C = some (excClassObj nm q C N bs bm hdct sn sub ab col dd k0 k1 k2 k3 k5 "ValueError.__new__")) (he : h.get? e = some (HandSPX.excO C t0)) (hu : h.get? u = some (kxs_mw "ValueError.__init__" e)) (hrest : rest.length ≤ sizeLine)
    (hq : ∀ h' t1, (∀ b o, b ≠ e → h.get? b = some o → h'.get? b = some o) → h'.get? e = some (HandSPX.excO C t1) → Q .none ⟨h', g, d, t, os⟩) :
    wpAny (model prog w) A (call (.ref u) rest) Q E ⟨h, g, d, t, os⟩ := by
  refine wpAny_call (codeAny_of_tree ?_)
  show wpAny _ A.in1 (callAny (.ref u) ⟨rest, []⟩) _ _ _
  simp only [callAny]
  refine wpAny_bind (wpAny_load hu ?_)
  simp only [kxs_mw, show (Value.type "method-wrapper" == Value.type "method" || Value.type "method-wrapper" == Value.type "builtin_function_or_method" || Value.type "method-wrapper" == Value.type "method-wrapper") = true by decide, if_true]
  refine W.KFB.if_so (by decide) ?_
  refine wpAny_bind (ESX.check_bound PySem.F.excBase_ValueError hC he rfl ?_)
  refine wpAny_bind (wpAny_pure (wpAny_pure ?_))
  refine ⟨Code.quiet_builtin _ (by decide +kernel), codeAny_builtin PySem.F.excBase_ValueError.initEntry ?_⟩
  rw [Around.under_plainId PySem.F.excBase_ValueError.init.plain _]
  wp_walk
  refine hq _ h.objs.size (fun b o hb ho => ?_) ?_
  · rw [Heap.get?_update_other _ _ (Ne.symm hb)]
    exact Heap.get?_push_of_some _ ho
  · rw [Heap.get?_update_self _ (Heap.get?_push_of_some _ he) rfl]
    rfl
theorem ns_keep {h h' : Heap} {L : Addr} {m : Str → Option Value} (n : h.Ns L m) (k : ∀ b o, h.get? b = some o → h'.get? b = some o) : h'.Ns L m := by
  obtain ⟨oL, es, ep, hL, r⟩ := n
  exact ⟨oL, es, ep, k _ _ hL, r⟩
/-- super().__init__(msg) in the frame at L -/
theorem sup_init (T : XTxt K mg prog x C fI cc cda) (M : L2.Mod K mg base) {a t0 L : Addr} {q : Str} {sc : Scope} {body rest : List Stmt} {ps : List (Str × Pos)} {pself p1 p2 p3 p4 p5 p6 : Pos} {k : Nat} {msg : Str} {m : Str → Option Value} {Q : Flow → Shared → Prop}
    {oc dV kV doc pm ct : Value} {od an : Option Addr} {osl : Array (Option Value)}
    (hf : K.lookup fI = some ⟨oc, od, .func (ksFn "__init__" q (xA (("self", pself) :: ps)) body sc dV kV doc pm an (.ref cda) ct cc), osl⟩)
    (hk : ∀ b o, base.get? b = some o → s.heap.get? b = some o) (hn : s.heap.Ns L m) (hs : m "self" = some (.ref a)) (ha : s.heap.get? a = some (HandSPX.excO C t0)) (hna : K.lookup a = none)
    (e1 : sc.names.lookup ("super" : Str) = some .globalImplicit) (e2 : sc.names.lookup ("__class__" : Str) = some .free) (e3 : sc.names.lookup ("self" : Str) = some .local) (e4 : sc.kind = .function)
    {pl : Addr → Sem Bool} (he : ∀ L, eval (.Call (.Attribute (.Call (.Name "super" p1) [] [] p2) "__init__" p3) [.Constant (.str msg) k p4] [] p5) (ksEnv q sc L fI (.ref cda) cc) = (do
      let ov ← attributeBase (.Call (.Name "super" p1) [] [] p2) "__init__" (ksEnv q sc L fI (.ref cda) cc) (eval (.Call (.Name "super" p1) [] [] p2) (ksEnv q sc L fI (.ref cda) cc))
      standAt p3.atName
      let (fx, first) ← holding [ov] (getMethod ov "__init__" (pl L))
      callWith p5 fx first (backTo p5 (starEach [.Constant (.str msg) k p4] (ksEnv q sc L fI (.ref cda) cc))) []))
    (h : ∀ h' tk t1, (∀ b o, b ≠ a → s.heap.get? b = some o → h'.get? b = some o) → h'.get? a = some (HandSPX.excO C t1) → h'.Ns L m →
      _root_.PySem.wpAt (model prog w) (A.deeper (ksEnv q sc L fI (.ref cda) cc)) (.func body (ksEnv q sc L fI (.ref cda) cc)) (execs rest (ksEnv q sc L fI (.ref cda) cc)) Q E { s with heap := h', toks := tk }) :
    _root_.PySem.wpAt (model prog w) (A.deeper (ksEnv q sc L fI (.ref cda) cc)) (.func body (ksEnv q sc L fI (.ref cda) cc)) (execs (xSup p1 p2 p3 p4 p5 p6 k msg :: rest) (ksEnv q sc L fI (.ref cda) cc)) Q E s := by
  obtain ⟨nm, qn, N, bs, bm, sn, sub, ab, col, dd, k0, k1, k2, k3, k5, hC, hbm, hal⟩ := T.cls
  obtain ⟨cl, cld, csl, hcell⟩ := T.cell
  obtain ⟨q', ccl, cdd, vs, ccs, file, tf, _, hcode, hvs, hfile⟩ := T.code
  have hcls : clsIn K C = some { name := nm, bases := bs, mro := .ref C :: bm, ns := N, qualname := qn, hasDict := true, slotNames := sn, subclasses := sub, abstract := ab, collection := col, hasDel := false } := by unfold clsIn; rw [hC] <;> rfl
  have X : K.In s.heap := M.kin.keeps hk
  refine ks_wpAt_execs_cons ?_
  refine ks_wpAt_Expr_any ?_ (by unfold interactive; show (sc.kind == .module && _) = false; rw [e4]; rfl)
  refine ks_wpAt_MethodCall ?_ (he L)
  obtain ⟨mb, hb1, hb2⟩ := M.blt
  obtain ⟨hp, g, d, tk, os⟩ := s
  refine ks_wpAt_super_base (env := ksEnv q sc L fI (.ref cda) cc) e1 e2 (by decide) rfl (X _ _ hf) rfl rfl rfl (X _ _ hcode) rfl hvs hfile T.top ?_
  refine ks_loadName_global e4 e1 (loadGlobal_builtin (env := ksEnv q sc L fI (.ref cda) cc) (M.glob.keeps hk) T.noS (hb1.keeps hk) ((hb2 _ (by decide)).trans (show bootBuiltins "super" = some (.type "super") from by decide +kernel)) ⟨rfl, ?_⟩)
  refine wpAny_loadName_free e4 e2 rfl ⟨_, X _ _ hcell, rfl⟩ ?_
  refine wpAny_loadName_local e4 e3 hn hs ?_
  refine ks_wpAny_isType_cls (X _ _ hC) rfl ⟨rfl, ?_⟩
  refine ks_wpAny_call_super (X _ _ hC) rfl ha rfl (fun c e => by cases e) (looks_mroIn X T.mro) (fun h1 so1 kp1 => ?_)
  -- the method
  have X1 : K.In h1 := X.keeps kp1
  have ha1 := kp1 _ _ ha
  have hxC : a ≠ C := fun z => by rw [z, hC] at hna; cases hna
  have I1 : InstAt h1 a (HandSPX.excO C t0) C none := ⟨ha1, rfl, rfl, trivial⟩
  refine kxs_getMethod (B := "ValueError") (i := "ValueError.__init__") kxs_ValueError so1 (looks_opaque X1 T.op) (l₀ := .ref C :: bm) ?_ rfl X1 hal (I1.type.andThen (looks_subIn X1 T.veC)) hxC (by decide) ?_
  · exact fun A Q E s k q => wpAny_bind ((looks_clsIn X1 hcls) A _ E s k (wpAny_pure q))
  have hmw : (h1.push (kxs_mw "ValueError.__init__" a)).get? h1.objs.size = some (kxs_mw "ValueError.__init__" a) := Heap.get?_push_at rfl rfl
  have kp2 : ∀ b o, h1.get? b = some o → (h1.push (kxs_mw "ValueError.__init__" a)).get? b = some o := fun b o e => Heap.get?_push_of_some _ e
  refine kxs_callWith (i := "ValueError.__init__") (x := a) (by rfl) ?_
  refine evalArgs_plain ?_
  refine Calls.spliced_cons ?_
  refine Calls.Constant_str (k := k) (pos := p4) ?_
  refine Calls.spliced_nil ⟨hmw, ?_⟩
  refine call_mw (kp2 _ _ (kp1 _ _ (X _ _ hC))) (kp2 _ _ ha1) hmw (Nat.le_of_lt (by show 1 < sizeLine; decide)) fun h' t1 kp3 he' => ?_
  have hL : L ≠ a := fun z => by
    obtain ⟨oL, es, ep, hL, hd, _⟩ := id hn
    rw [z, ha] at hL
    cases hL
    cases hd
  refine h h' _ t1 (fun b o hb e => kp3 b o hb (kp2 b o (kp1 b o e))) he' ?_
  obtain ⟨oL, es, ep, hL1, r⟩ := id hn
  exact ⟨oL, es, ep, kp3 _ _ hL (kp2 _ _ (kp1 _ _ hL1)), r⟩
/-- the scopes of such an __init__ -/
def sc0 : Scope := { kind := .function, names := [(PySem.Str.ofString "self", .local), (PySem.Str.ofString "__class__", .free), (PySem.Str.ofString "super", .globalImplicit)], isGenerator := false, isCoroutine := false, more := [] }
def sc1 (f : Str) : Scope := { kind := .function, names := [(PySem.Str.ofString "self", .local), (f, .local), (PySem.Str.ofString "__class__", .free), (PySem.Str.ofString "super", .globalImplicit)], isGenerator := false, isCoroutine := false, more := [] }
theorem super_call0 (q : Str) (fI cda cc : Addr) (p1 p2 p3 p4 p5 : Pos) (k : Nat) (msg : Str) (hp : (p3.endLine == p5.line) = true) : ∃ pl : Addr → Sem Bool, ∀ L, eval (.Call (.Attribute (.Call (.Name "super" p1) [] [] p2) "__init__" p3) [.Constant (.str msg) k p4] [] p5) (ksEnv q sc0 L fI (.ref cda) cc) = (do
      let ov ← attributeBase (.Call (.Name "super" p1) [] [] p2) "__init__" (ksEnv q sc0 L fI (.ref cda) cc) (eval (.Call (.Name "super" p1) [] [] p2) (ksEnv q sc0 L fI (.ref cda) cc))
      standAt p3.atName
      let (fx, first) ← holding [ov] (getMethod ov "__init__" (pl L))
      callWith p5 fx first (backTo p5 (starEach [.Constant (.str msg) k p4] (ksEnv q sc0 L fI (.ref cda) cc))) []) := ⟨fun L => (do return (← importBound (.Call (.Name "super" p1) [] [] p2) (ksEnv q sc0 L fI (.ref cda) cc)).getD true), fun L => by
  have e : methodCallPos true (.Call (.Name "super" p1) [] [] p2) (ksEnv q sc0 L fI (.ref cda) cc) p3 p5 = pure p5 := by
    unfold methodCallPos
    rw [hp]
    rfl
  show (do
      let ov ← attributeBase (.Call (.Name "super" p1) [] [] p2) "__init__" (ksEnv q sc0 L fI (.ref cda) cc) (eval (.Call (.Name "super" p1) [] [] p2) (ksEnv q sc0 L fI (.ref cda) cc))
      standAt p3.atName
      let (fx, first) ← holding [ov] (getMethod ov "__init__" (do return (← importBound (.Call (.Name "super" p1) [] [] p2) (ksEnv q sc0 L fI (.ref cda) cc)).getD true))
      let callPos ← methodCallPos true (.Call (.Name "super" p1) [] [] p2) (ksEnv q sc0 L fI (.ref cda) cc) p3 p5
      callWith callPos fx first (backTo p5 (starEach [.Constant (.str msg) k p4] (ksEnv q sc0 L fI (.ref cda) cc))) []) = _
  rw [e]
  rfl⟩
theorem super_call1 (q f : Str) (fI cda cc : Addr) (p1 p2 p3 p4 p5 : Pos) (k : Nat) (msg : Str) (hp : (p3.endLine == p5.line) = true) : ∃ pl : Addr → Sem Bool, ∀ L, eval (.Call (.Attribute (.Call (.Name "super" p1) [] [] p2) "__init__" p3) [.Constant (.str msg) k p4] [] p5) (ksEnv q (sc1 f) L fI (.ref cda) cc) = (do
      let ov ← attributeBase (.Call (.Name "super" p1) [] [] p2) "__init__" (ksEnv q (sc1 f) L fI (.ref cda) cc) (eval (.Call (.Name "super" p1) [] [] p2) (ksEnv q (sc1 f) L fI (.ref cda) cc))
      standAt p3.atName
      let (fx, first) ← holding [ov] (getMethod ov "__init__" (pl L))
      callWith p5 fx first (backTo p5 (starEach [.Constant (.str msg) k p4] (ksEnv q (sc1 f) L fI (.ref cda) cc))) []) := ⟨fun L => (do return (← importBound (.Call (.Name "super" p1) [] [] p2) (ksEnv q (sc1 f) L fI (.ref cda) cc)).getD true), fun L => by
  have e : methodCallPos true (.Call (.Name "super" p1) [] [] p2) (ksEnv q (sc1 f) L fI (.ref cda) cc) p3 p5 = pure p5 := by
    unfold methodCallPos
    rw [hp]
    rfl
  show (do
      let ov ← attributeBase (.Call (.Name "super" p1) [] [] p2) "__init__" (ksEnv q (sc1 f) L fI (.ref cda) cc) (eval (.Call (.Name "super" p1) [] [] p2) (ksEnv q (sc1 f) L fI (.ref cda) cc))
      standAt p3.atName
      let (fx, first) ← holding [ov] (getMethod ov "__init__" (do return (← importBound (.Call (.Name "super" p1) [] [] p2) (ksEnv q (sc1 f) L fI (.ref cda) cc)).getD true))
      let callPos ← methodCallPos true (.Call (.Name "super" p1) [] [] p2) (ksEnv q (sc1 f) L fI (.ref cda) cc) p3 p5
      callWith callPos fx first (backTo p5 (starEach [.Constant (.str msg) k p4] (ksEnv q (sc1 f) L fI (.ref cda) cc))) []) = _
  rw [e]
  rfl⟩
/-- the def without a field -/
def XFn0 (K : Frag) (fI cc cda : Addr) : Prop :=
  ∃ (oc : Value) (od : Option Addr) (q : Str) (doc pm : Value) (an : Option Addr) (ct : Value) (osl : Array (Option Value)) (p0 p1 p2 p3 p4 p5 p6 : Pos) (k : Nat) (msg : Str),
    K.lookup fI = some ⟨oc, od, .func (ksFn "__init__" q (xA [("self", p0)]) [xSup p1 p2 p3 p4 p5 p6 k msg] sc0 .none .none doc pm an (.ref cda) ct cc), osl⟩ ∧ codeIn K (.ref cda) q = true ∧ (p3.endLine == p5.line) = true
theorem init0 (T : XTxt K mg prog x C fI cc cda) (F : XFn0 K fI cc cda) (M : L2.Mod K mg base) {a t0 : Addr} (hk : ∀ b o, base.get? b = some o → s.heap.get? b = some o) (hlim : s.heap.NoLimit) (ha : s.heap.get? a = some (HandSPX.excO C t0)) (hna : K.lookup a = none) (hroom : A.depth < recursionLimit)
    (hq : ∀ h' tk t1, (∀ b o, b ≠ a → s.heap.get? b = some o → h'.get? b = some o) → h'.get? a = some (HandSPX.excO C t1) → R (.ok (.ret .none)) { s with heap := h', toks := tk }) :
    codeAny (model prog w) A (.call (.ref fI) ⟨[.ref a], []⟩) R s := by
  obtain ⟨oc, od, q, doc, pm, an, ct, osl, p0, p1, p2, p3, p4, p5, p6, k, msg, hf, hcd, hp⟩ := F
  have X : K.In s.heap := M.kin.keeps hk
  obtain ⟨pl, he⟩ := super_call0 q fI cda cc p1 p2 p3 p4 p5 k msg hp
  refine ks_codeAny_call_defAt (binds := [("self", .ref a)]) hroom (X _ _ hf) rfl hlim (codeRec_of X hcd) rfl (.of_eq (by first | rfl | with_unfolding_all rfl)) (by show ∀ x ∈ sc0.names, x.2 ≠ .cell; decide) (fun y hy => by rcases List.mem_singleton.mp hy with rfl; rfl) (fun h1 hns hk1 => ?_)
  refine sup_init (s := { s with heap := h1, toks := s.toks + 1 }) (A := A) T M hf (fun b o e => hk1 b o (hk b o e)) hns rfl (hk1 _ _ ha) hna rfl rfl rfl rfl he (fun h' tk t1 kp ho hn' => ?_)
  exact wpAt_of_wpAny (wpAny_execs_nil (hq h' tk t1 (fun b o hb e => kp b o hb (hk1 b o e)) ho))
theorem made0 (T : XTxt K mg prog x C fI cc cda) (F : XFn0 K fI cc cda) (M : L2.Mod K mg base) (hk : ∀ b o, base.get? b = some o → s.heap.get? b = some o) (hlim : s.heap.NoLimit) (hroom : A.depth + 1 < recursionLimit)
    (hq : ∀ h' tk e, Made0 s.heap h' e C → R (.ok (.ret (.ref e))) { s with heap := h', toks := tk }) :
    codeAny (model prog w) A (.call (.ref C) ⟨[], []⟩) R s := by
  obtain ⟨nm, q, N, bs, bm, sn, sub, ab, col, dd, k0, k1, k2, k3, k5, hC, hbm, _⟩ := T.cls
  have X : K.In s.heap := M.kin.keeps hk
  obtain ⟨hp, g, dr, tk, os⟩ := s
  have k : ∀ b o, hp.get? b = some o → ((hp.push (kdv_tup [])).push (HandSPX.excO C hp.objs.size)).get? b = some o := fun b o e => Heap.get?_push_of_some _ (Heap.get?_push_of_some _ e)
  have hget : ((hp.push (kdv_tup [])).push (HandSPX.excO C hp.objs.size)).get? (hp.objs.size + 1) = some (HandSPX.excO C hp.objs.size) := by heap_get
  have hnx : K.lookup (hp.objs.size + 1) = none := by
    cases e : K.lookup (hp.objs.size + 1) with
    | none => rfl
    | some o =>
      have z : hp.get? (hp.objs.size + 1) = some o := X _ _ e
      exact absurd (Nat.lt_of_succ_lt (Heap.lt_size z)) (Nat.lt_irrefl _)
  refine HandSPX.call_own PySem.F.excBase_ValueError (fun X => HandSPX.refsVE_contains X bm hbm) (X _ _ hC) (looks_findIn X T.iC) (fun self => bind_fn X self T.tC) (Nat.zero_le _) ?_
  refine init0 (s := ⟨(hp.push (kdv_tup [])).push (HandSPX.excO C hp.objs.size), g, dr, tk, os⟩) T F M (fun b o e => k b o (hk b o e)) (hlim.keeps k) hget hnx ?_ fun h' tk' t1 k' hx => ?_
  · show A.depth + 1 < recursionLimit
    exact hroom
  · have old : ∀ b o, hp.get? b = some o → h'.get? b = some o := fun b o e => k' b o (Nat.ne_of_lt (Nat.lt_succ_of_lt (Heap.lt_size e))) (k b o e)
    exact ⟨rfl, hq h' tk' (hp.objs.size + 1) ⟨old, Nat.le_succ _, ⟨_, hx⟩⟩⟩
end
open L2 in
/-- C() -/
theorem pmk0 {X : Cx} {x : Str} {C fI cc cda : Addr} {p pos : Pos} {k : Nat} (T : XTxt X.K X.mg X.prog x C fI cc cda) (F : XFn0 X.K fI cc cda) (hr : RoomG k X.A) (hg : Gl X x) (hd : (x == ("__debug__" : Str)) = false) (hk : 1 ≤ k) :
    PMk X (.Call (.Name x p) [] [] pos) (fun σ H Q => Q (.ref C) none H) := by
  intro pins s σ H Q I h
  refine wpAny_Call_Name_kw (ld_glob I hg T.gC ?_ hd)
  refine PySem.W.callWith_K0 I.kIn T.kC ?_
  show wpAny _ _ (call (.ref C) []) _ _ _
  have hlim := I.nolimit
  obtain ⟨hp, g, dr, tk, os⟩ := s
  refine wpAny_call (made0 T F I.mod I.bk hlim (by have := hr.dp; omega) fun h' tk' e M => ?_)
  show MkP X pins σ Q (.ref e) ⟨h', g, dr, tk', os⟩
  obtain ⟨t1, hoe⟩ := M.obj
  exact ⟨e, _, _, ⟨hp, g, dr, tk, os⟩, H, .ref C, none, rfl, I, M.keep, by
    cases z : hp.get? e with
    | none => rfl
    | some o => exact absurd (Nat.lt_of_lt_of_le (Heap.lt_size z) M.new) (Nat.lt_irrefl _), hoe, ⟨rfl, rfl⟩, rfl, rfl, I.hok.fresh M.new, rfl, I.bare, raises_own T.exC T.tyC, h⟩
/-- raise C() -/
theorem s_raise0 {X : L2.Cx} {c : Cn} {Γ : Gm} {Po : Post} {x : Str} {C fI cc cda : Addr} {p pos pos2 : Pos} {k : Nat} {er : Er → Gm → Prop} (hx : Xr X c er) (T : XTxt X.K X.mg X.prog x C fI cc cda) (F : XFn0 X.K fI cc cda) (hr : RoomG k X.A) (h : er ⟨C, []⟩ Γ) (hg : L2.Gl X x := by rfl) (hd : (x == ("__debug__" : Str)) = false := by decide) (hk : 1 ≤ k := by decide) (hc : X.calm = true := by rfl) :
    Sm X c Γ (.Raise (some (.Call (.Name x p) [] [] pos)) none pos2) Po :=
  s_raise hx ⟨C, []⟩ (pmk0 T F hr hg hd hk) (fun S σ H t Q q => q _ _ H (L2.Same.refl H) ⟨rfl, .inl ⟨rfl, rfl⟩⟩) h hc
end Spr

set_option Elab.async false
set_option linter.all false
set_option maxRecDepth 100000
set_option maxHeartbeats 4000000
/-! The head: what the top wrote, told by a Hook; the error classes' facts by a Bool. -/
namespace Spr
open PySem PySem.Spec PyProof.Rows PySem.W He

/-! ### the error classes -/
def clB (K : Frag) (C : Addr) : Bool := match K.lookup C with
  | some ⟨.type t, _, .cls ⟨_, _, .ref C' :: bm, _, _, hd, _, _, _, _, del⟩, ⟨[_, _, _, _, some (.builtin n), _]⟩⟩ =>
    decide (t = "type") && (decide (C' = C) && (decide (n = "ValueError.__new__") && (!del && (hd && (HandSPX.refsVE bm && eqO (alongIn K "__init__" (((Value.ref C :: bm).dropWhile (· != .ref C)).drop 1)) (some (some (.builtin "ValueError.__init__"))))))))
  | _ => false
theorem clB_ok {K : Frag} {C : Addr} (h : clB K C = true) : ∃ nm q N bs bm sn sub ab col dd k0 k1 k2 k3 k5, K.lookup C = some (excClassObj nm q C N bs bm true sn sub ab col dd k0 k1 k2 k3 k5 "ValueError.__new__") ∧ HandSPX.refsVE bm = true ∧ alongIn K "__init__" (((Value.ref C :: bm).dropWhile (· != .ref C)).drop 1) = some (some (.builtin "ValueError.__init__")) := by
  unfold clB at h
  split at h
  · rename_i t dd nm bs C' bm ns q hd sn sub ab col del k0 k1 k2 k3 n k5 e
    obtain ⟨h1, h⟩ := ba h
    obtain ⟨h2, h⟩ := ba h
    obtain ⟨h3, h⟩ := ba h
    obtain ⟨h4, h⟩ := ba h
    obtain ⟨h5, h⟩ := ba h
    obtain ⟨h6, h7⟩ := ba h
    have z1 := of_decide_eq_true h1
    have z2 := of_decide_eq_true h2
    have z3 := of_decide_eq_true h3
    have z4 : del = false := by cases del <;> first | rfl | cases h4
    subst z1 z2 z3 z4 h5
    exact ⟨nm, q, ns, bs, bm, sn, sub, ab, col, dd, k0, k1, k2, k3, k5, e, h6, eqO_ok h7⟩
  · cases h
/-- its __init__ -/
def iAd (K : Frag) (x : Str) : Addr := ma K (ga K x) "__init__"
def icc (K : Frag) (x : Str) : Addr := match K.lookup (iAd K x) with
  | some ⟨_, _, .func fd, _⟩ => (match fd.closure with
    | [(_, c)] => c
    | _ => 0)
  | _ => 0
def icd (K : Frag) (x : Str) : Addr := match K.lookup (iAd K x) with
  | some ⟨_, _, .func fd, _⟩ => (match fd.code with
    | .ref c => c
    | _ => 0)
  | _ => 0
def cellB (K : Frag) (cc C : Addr) : Bool := match K.lookup cc with
  | some ⟨_, _, .cell (some (.ref D)), _⟩ => decide (D = C)
  | _ => false
theorem cellB_ok {K : Frag} {cc C : Addr} (h : cellB K cc C = true) : ∃ cl cld csl, K.lookup cc = some ⟨cl, cld, .cell (some (.ref C)), csl⟩ := by
  unfold cellB at h
  split at h
  · rename_i cl cld D csl e
    have z := of_decide_eq_true h
    subst z
    exact ⟨_, _, _, e⟩
  · cases h
def codB (K : Frag) (prog : Program) (c : Addr) : Bool := match K.lookup c with
  | some ⟨_, _, .fields vs, _⟩ => (match vs.toList with
    | _ :: .str _ _ :: .str f _ :: _ => ((prog.main.file : Str) == f)
    | _ => false)
  | _ => false
theorem codB_ok {K : Frag} {prog : Program} {c : Addr} (h : codB K prog c = true) : ∃ (q : Str) (ccl : Value) (cdd : Option Addr) (vs : Array Value) (ccs : Array (Option Value)) (file : Str) (tf : Tok), codeIn K (.ref c) q = true ∧ K.lookup c = some ⟨ccl, cdd, .fields vs, ccs⟩ ∧ vs[2]? = some (.str file tf) ∧ ((prog.main.file : Str) == file) = true := by
  unfold codB at h
  split at h
  · rename_i ccl cdd vs ccs e
    split at h
    · rename_i a n t f t2 r hv
      refine ⟨n, ccl, cdd, vs, ccs, f, t2, ?_, e, by rw [← Array.getElem?_toList, hv]; rfl, h⟩
      unfold codeIn
      simp only [e, hv]
      exact beq_self_eq_true _
    · cases h
  · cases h
/-- all that XTxt asks, but mg -/
def xtB (prog : Program) (K : Frag) (x : Str) : Bool :=
  eqO (nsIn K mainGlobals x) (some (some (.ref (ga K x)))) && (clB K (ga K x) && (eqO (findIn K (.ref (ga K x)) "__init__") (some (some (.ref (iAd K x)))) && (decide (typeIn K (.ref (iAd K x)) = some (.type "function")) && (keepIn K (.ref (ga K x)) &&
  (decide (subIn K (.ref (ga K x)) (.type "BaseException") = some true) && (decide (subIn K (.ref (ga K x)) (.type "ValueError") = some true) && (decide (typeIn K (.ref (ga K x)) = some (.type "type")) && (decide (mroIn K (ga K x) (.ref (ga K x)) = some true) &&
  (eqO (nsIn K cStatics "thirdparty.any") (some none) && (eqO (nsIn K mainGlobals "super") (some none) && (cellB K (icc K x) (ga K x) && (codB K prog (icd K x) && !(prog.main.scope.names.lookup ("super" : Str)).isSome))))))))))))
theorem xtB_ok {prog : Program} {K : Frag} {x : Str} {h : Heap} {mg : Str → Option Value} (X : K.In h) (G : h.Ns mainGlobals mg) (c : xtB prog K x = true) : XTxt K mg prog x (ga K x) (iAd K x) (icc K x) (icd K x) := by
  unfold xtB at c
  obtain ⟨c1, c⟩ := ba c
  obtain ⟨c2, c⟩ := ba c
  obtain ⟨c3, c⟩ := ba c
  obtain ⟨c4, c⟩ := ba c
  obtain ⟨c5, c⟩ := ba c
  obtain ⟨c6, c⟩ := ba c
  obtain ⟨c7, c⟩ := ba c
  obtain ⟨c8, c⟩ := ba c
  obtain ⟨c9, c⟩ := ba c
  obtain ⟨c10, c⟩ := ba c
  obtain ⟨c11, c⟩ := ba c
  obtain ⟨c12, c⟩ := ba c
  obtain ⟨c13, c14⟩ := ba c
  exact { gC := PySem.W.mg_of X G (eqO_ok c1), cls := clB_ok c2, iC := eqO_ok c3, tC := of_decide_eq_true c4, kC := c5, exC := of_decide_eq_true c6, veC := of_decide_eq_true c7, tyC := of_decide_eq_true c8, mro := of_decide_eq_true c9, op := eqO_ok c10, noS := PySem.W.mg_none_of X G (eqO_ok c11), cell := cellB_ok c12, code := codB_ok c13, top := by simpa using c14 }
/-- __init__ without a field -/
def xf0B (K : Frag) (x : Str) : Bool := match K.lookup (iAd K x) with
  | some ⟨_, _, .func ⟨nm, q, ⟨[], [⟨a, none, _⟩], none, [], [], none, []⟩, .stmts [.Expr (.Call (.Attribute (.Call (.Name s _) [] [] _) i p3) [.Constant (.str _) _ _] [] p5) _], sc, gl, [(cn, cc)], .none, .none, _, _, _, .ref cda, _, bl⟩, _⟩ =>
    decide (nm = "__init__") && (decide (a = "self") && (decide (s = "super") && (decide (i = "__init__") && (decide (sc = sc0) && (decide (gl = mainGlobals) && (decide (cn = "__class__") && (decide (bl = builtinsNs) && (codeIn K (.ref cda) q && (decide (cc = icc K x) && (decide (cda = icd K x) && (p3.endLine == p5.line)))))))))))
  | _ => false
theorem xf0B_ok {K : Frag} {x : Str} (h : xf0B K x = true) : XFn0 K (iAd K x) (icc K x) (icd K x) := by
  unfold xf0B at h
  split at h
  · rename_i oc od nm q a p0 s p1 p2 i p3 m k p4 p5 p6 sc gl cn cc doc pm an cda ct bl osl e
    obtain ⟨h1, h⟩ := ba h
    obtain ⟨h2, h⟩ := ba h
    obtain ⟨h3, h⟩ := ba h
    obtain ⟨h4, h⟩ := ba h
    obtain ⟨h5, h⟩ := ba h
    obtain ⟨h6, h⟩ := ba h
    obtain ⟨h7, h⟩ := ba h
    obtain ⟨h8, h⟩ := ba h
    obtain ⟨h9, h⟩ := ba h
    obtain ⟨h10, h⟩ := ba h
    obtain ⟨h11, h12⟩ := ba h
    have z1 := of_decide_eq_true h1
    have z2 := of_decide_eq_true h2
    have z3 := of_decide_eq_true h3
    have z4 := of_decide_eq_true h4
    have z5 := of_decide_eq_true h5
    have z6 := of_decide_eq_true h6
    have z7 := of_decide_eq_true h7
    have z8 := of_decide_eq_true h8
    have z10 := of_decide_eq_true h10
    have z11 := of_decide_eq_true h11
    subst z1 z2 z3 z4 z5 z6 z7 z8
    rw [← z10, ← z11]
    exact ⟨oc, od, q, doc, pm, an, ct, osl, p0, p1, p2, p3, p4, p5, p6, k, m, e, h9, h12⟩
  · cases h

/-! ### the Hook -/
structure SaysS (fa : List Fa) (fn : List DefD) (tf : List Defn) (ex : Frag → Bool) (h : Heap) (K : Frag) : Prop where
  d : SaysD fa fn K
  more : ex K = true
  hd : ∀ p ∈ tf, codeHdIn K (cT K p).1 (cT K p).2 = true
  out : ∀ p ∈ tf, K.lookup (cT K p).2 = none
  empty : ∀ p ∈ tf, h.get? (cT K p).2 = some { cls := .none, data := .fields #[] }
abbrev AlS : Type := AlD × Bool
def asS (g : Addr → Option Obj) (n : Nat) : List Addr := asD g n ++ [cStatics]
def obsS (n : Nat) (fa : List Fa) (fn : List DefD) (tf : List Defn) (ex : Frag → Bool) (g : Addr → Option Obj) : AlS := (obsD fa fn (frT g (asS g n)), ex (frT g (asS g n)) && tabsB g tf (frT g (asS g n)))
def valS (fn : List DefD) : AlS := (valD fn, true)
theorem saysS_of {n : Nat} {fa : List Fa} {fn : List DefD} {tf : List Defn} {ex : Frag → Bool} {h : Heap} (e : obsS n fa fn tf ex h.get? = valS fn) : SaysS fa fn tf ex h (frT h.get? (asS h.get? n)) := by
  have e1 : obsD fa fn (frT h.get? (asS h.get? n)) = valD fn := congrArg (fun z : AlS => z.1) e
  have e2 : (ex (frT h.get? (asS h.get? n)) && tabsB h.get? tf (frT h.get? (asS h.get? n))) = true := congrArg (fun z : AlS => z.2) e
  obtain ⟨h1, h2⟩ := ba e2
  have key : ∀ p ∈ tf, codeHdIn (frT h.get? (asS h.get? n)) (cT (frT h.get? (asS h.get? n)) p).1 (cT (frT h.get? (asS h.get? n)) p).2 = true ∧ ∃ o, h.get? (cT (frT h.get? (asS h.get? n)) p).2 = some o ∧ emptyTab o = true := fun p hp => by
    obtain ⟨h3, h4⟩ := ba (List.all_eq_true.mp h2 p hp)
    refine ⟨h3, ?_⟩
    cases q : h.get? (cT (frT h.get? (asS h.get? n)) p).2 with
    | none => rw [q] at h4; cases h4
    | some o => rw [q] at h4; exact ⟨o, rfl, h4⟩
  exact ⟨e1, h1, fun p hp => (key p hp).1, fun p hp => by
    obtain ⟨_, o, q, z⟩ := key p hp
    exact frT_none q z, fun p hp => by
    obtain ⟨_, o, q, z⟩ := key p hp
    rw [q, emptyTab_eq z]⟩
def hookS (n : Nat) (fa : List Fa) (fn : List DefD) (tf : List Defn) (ex : Frag → Bool) : PySem.W.Hook where
  α := AlS
  obs := fun s => obsS n fa fn tf ex s.heap.get?
  val := fun _ => valS fn
  says := fun _ h => ∃ K : Frag, K.In h ∧ SaysS fa fn tf ex h K
  of := fun _ _ e => ⟨_, frT_in, saysS_of e⟩
  keeps := fun _ _ _ ⟨K, hK, c⟩ k => ⟨K, Frag.In.keeps hK k, ⟨c.d, c.more, c.hd, c.out, fun p hp => k _ _ (c.empty p hp)⟩⟩
theorem obsS_eq {n : Nat} {fa : List Fa} {fn : List DefD} {tf : List Defn} {ex : Frag → Bool} {g : Addr → Option Obj} {s : Shared} (h : ∀ a, g a = s.heap.get? a) : obsS n fa fn tf ex g = (hookS n fa fn tf ex).obs s := by
  have e : g = s.heap.get? := funext h
  rw [e] <;> rfl
end Spr

set_option Elab.async false
set_option linter.all false
set_option maxRecDepth 100000
set_option maxHeartbeats 4000000
/-! Calls of defs that change their first argument, a list of one's own (a law's hand of numbers); expressions with such calls in them. -/
namespace Spr
open PySem PySem.Spec PyProof.Rows L2

section
variable {K : PySem.W.Frag} {c : Cn} {S : Addr → Prop} {σ : L2.St} {H H' : Hp} {Γ : Gm}
/-- a slot's own list was changed by another, new things were laid beside -/
theorem Gd.call (t : Gd K c S σ H Γ) {i : Nat} {a : Addr} {l l' : List D} {xs ys : List V} (hi : Γ[i]? = some (some (.ow l))) (hs : σ[i]? = some (some (.ref a))) (hS : S a) (hH : H a = some (.lst xs))
    (k : ∀ b o, H b = some o → b ≠ a → H' b = some o) (hy : H' a = some (.lst ys)) (hl : DenL K S H' ys l') : Gd K c S σ H' (Γ.set i (some (.ow l'))) ∧ Rl S H S H' := by
  have e1 : Same H (upd H' a (.lst xs)) := fun b o e => by
    by_cases hb : b = a
    · rw [hb, upd_same, ← hH, ← hb]; exact e
    · rw [upd_ne hb]; exact k b o e hb
  have e2 : upd (upd H' a (.lst xs)) a (.lst ys) = H' := by
    funext b
    by_cases hb : b = a
    · rw [hb, upd_same, hy]
    · rw [upd_ne hb, upd_ne hb]
  have t1 := (t.ext e1).change hi hs hS upd_same (hl.mono (rl_upd hS))
  rw [e2] at t1
  exact ⟨t1, fun b o n q _ => ⟨k b o q fun z => n (by rw [z]; exact hS), n⟩⟩
end
/-- a def that may change its first argument, a list: from what it holds and the others denote to what it gives and the list's new state -/
abbrev Fh := List D → List D → D → List D → Prop
def upH (K : PySem.W.Frag) (F : Fh) : Sp := fun vs H Q E => ∃ (S : Addr → Prop) (a : Addr) (xs : List V) (l : List D) (vs' : List V) (ds : List D) (d : D) (l' : List D), vs = .ref a :: vs' ∧ (∀ a, S a → H a ≠ none) ∧ S a ∧ H a = some (.lst xs) ∧ DenL K S H xs l ∧ DenL K S H vs' ds ∧ F l ds d l' ∧
  ∀ v H' ys, (∀ b o, H b = some o → b ≠ a → H' b = some o) → H' a = some (.lst ys) → DenL K S H' ys l' → Den K S H' v d → Q v H'
abbrev FoH (X : Cx) (k : Nat) (x : Str) (F : Fh) : Prop := Fo X.prog X.w X.K X.mg X.base k x (upH X.K F)
/-- a def that gives a new list -/
abbrev Fl := List D → List D → Prop
def upN (K : PySem.W.Frag) (F : Fl) : Sp := fun vs H Q E => ∃ (S : Addr → Prop) (ds : List D) (l : List D), (∀ a, S a → H a ≠ none) ∧ DenL K S H vs ds ∧ F ds l ∧
  ∀ p xs H', Same H H' → H p = none → H' p = some (.lst xs) → DenL K (more S p) H' xs l → Q (.ref p) H'
abbrev FoN (X : Cx) (k : Nat) (x : Str) (F : Fl) : Prop := Fo X.prog X.w X.K X.mg X.base k x (upN X.K F)

/-- the expression comes to d; the lists of one's own are then as in Γ' -/
def tE (K : PySem.W.Frag) (c : Cn) (Γ : Gm) (d : D) (Γ' : Gm) : TE := fun σ H Q => ∃ S, Gd K c S σ H Γ ∧ ∀ v S' H', Rl S H S' H' → Gd K c S' σ H' Γ' → Den K S' H' v d → Q v H'
def tEs (K : PySem.W.Frag) (c : Cn) (Γ : Gm) (ds : List D) (Γ' : Gm) : TA := fun σ H Q => ∃ S, Gd K c S σ H Γ ∧ ∀ vs S' H', Rl S H S' H' → Gd K c S' σ H' Γ' → DenL K S' H' vs ds → Q vs H'
def tEt (K : PySem.W.Frag) (c : Cn) (Γ : Gm) (k : Bool) (Γ' : Gm) : TT := fun σ H Q => ∃ S, Gd K c S σ H Γ ∧ ∀ S' H', Rl S H S' H' → Gd K c S' σ H' Γ' → Q k H'
abbrev Ev (X : Cx) (c : Cn) (Γ : Gm) (e : Expr) (d : D) (Γ' : Gm) : Prop := PE X e (tE X.K c Γ d Γ')
abbrev Ea (X : Cx) (c : Cn) (Γ : Gm) (es : List Expr) (ds : List D) (Γ' : Gm) : Prop := PA X es (tEs X.K c Γ ds Γ')
abbrev Et (X : Cx) (c : Cn) (Γ : Gm) (e : Expr) (k : Bool) (Γ' : Gm) : Prop := PT X e (tEt X.K c Γ k Γ')
section
variable {X : Cx} {c : Cn} {Γ Γ1 Γ2 Γ3 : Gm} {a b e : Expr} {es : List Expr} {pos p : Pos} {da db dc d : D} {st : Stmt} {rest A B : List Stmt} {Po : Post} {x : Str} {k j : Nat}
theorem ev_p (h : Pe X c Γ e d) : Ev X c Γ e d Γ := PE.wk h fun σ H Q ⟨S, t, q⟩ => ⟨S, t, fun v H1 e1 d1 => q v S H1 (.of e1) (t.ext e1) d1⟩
theorem ea_p {ds : List D} (h : Pa X c Γ es ds) : Ea X c Γ es ds Γ := PA.wk h fun σ H Q ⟨S, t, q⟩ => ⟨S, t, fun v H1 e1 d1 => q v S H1 (.of e1) (t.ext e1) d1⟩
theorem et_p {k : Bool} (h : Pt X c Γ e k) : Et X c Γ e k Γ := PT.wk h fun σ H Q ⟨S, t, q⟩ => ⟨S, t, fun H1 e1 => q S H1 (.of e1) (t.ext e1)⟩
theorem ev_is {d' : D} (h : Ev X c Γ e d Γ1) (q : d = d') : Ev X c Γ e d' Γ1 := q ▸ h
theorem ev_isG (h : Ev X c Γ e d Γ1) (q : Γ1 = Γ2) : Ev X c Γ e d Γ2 := q ▸ h
theorem ea_nil : Ea X c Γ [] [] Γ := ea_p a_nil
theorem ea_cons {ds : List D} (h : Ev X c Γ e d Γ1) (hr : Ea X c Γ1 es ds Γ2) (hs : starEach (e :: es) X.env = (false, eval e X.env) :: starEach es X.env := by rfl) : Ea X c Γ (e :: es) (d :: ds) Γ2 :=
  PA.wk (pa_cons h hr hs) fun σ H Q ⟨S, t, q⟩ => ⟨S, t, fun v S1 H1 r1 t1 d1 => ⟨S1, t1, fun vs S2 H2 r2 t2 d2 => q _ S2 H2 (r1.trans r2) t2 (.cons (d1.mono r2) d2)⟩⟩
/-- x(hand, ..) -/
theorem ev_call (h : Nat) {y : Str} {py : Pos} {F : Fh} {ds l l' : List D} (G : FoH X k x F) (hr : RoomG j X.A) (ha : Ea X c Γ es ds Γ1) (hh : Γ1[h]? = some (some (.ow l))) (hF : F l ds d l') (hk : k ≤ j := by decide) (hg : Gl X x := by rfl) (h0 : ∃ l0, Γ[h]? = some (some (.ow l0)) := by exact ⟨_, rfl⟩)
    (hN : X.N[h]? = some y := by rfl) (hv : Vis X.env.scope y := by first | exact Or.inl rfl | exact Or.inr (Or.inl rfl) | exact Or.inr (Or.inr rfl)) (hd : (y == ("__debug__" : Str)) = false := by decide) (hcd : (y == ("__classdict__" : Str)) = false := by decide)
    (hdb : (x == ("__debug__" : Str)) = false := by decide) (he : starEach (.Name y py :: es) X.env = (false, eval (.Name y py) X.env) :: starEach es X.env := by rfl) (hpl : (backTo pos (starEach es X.env)).any (·.1) = false := by rfl) :
    Ev X c Γ (.Call (.Name x p) (.Name y py :: es) [] pos) d (Γ1.set h (some (.ow l'))) := by
  obtain ⟨f, fd, ps, h1, h2, h3, h4⟩ := G.ex
  obtain ⟨l0, hh0⟩ := h0
  refine PE.wk (callG h1 (hr.mono hk) hg h2 h3 h4 (pa_cons (pe_var hN hv hd hcd) ha he) hdb he hpl) fun σ H Q ⟨S, t, q⟩ => ?_
  obtain ⟨a, xs0, g1, g2, g3, g4⟩ := t.ow hh0
  refine ⟨.ref a, g1, S, t, fun vs S1 H1 r1 t1 d1 => ?_⟩
  obtain ⟨a', xs, g5, g6, g7, g8⟩ := t1.ow hh
  have ea : a' = a := by rw [g1] at g5; cases g5; rfl
  subst ea
  refine ⟨S1, a', xs, l, vs, ds, d, l', rfl, t1.dom, g6, g7, g8, d1, hF, fun v H' ys k1 k2 k3 k4 => ?_⟩
  obtain ⟨t2, r2⟩ := t1.call hh g5 g6 g7 k1 k2 k3
  exact q v S1 H' (r1.trans r2) t2 k4
/-- a def that gives a new list, changes nothing -/
theorem n_call {F : Fl} {ds l : List D} (G : FoN X k x F) (hr : RoomG j X.A) (ha : Pa X c Γ (e :: es) ds) (hF : F ds l) (hk : k ≤ j := by decide) (hg : Gl X x := by rfl)
    (hdb : (x == ("__debug__" : Str)) = false := by decide) (he : starEach (e :: es) X.env = (false, eval e X.env) :: starEach es X.env := by rfl) (hpl : (backTo pos (starEach es X.env)).any (·.1) = false := by rfl) :
    Pn X c Γ (.Call (.Name x p) (e :: es) [] pos) l := by
  obtain ⟨f, fd, ps, h1, h2, h3, h4⟩ := G.ex
  exact PE.wk (callG h1 (hr.mono hk) hg h2 h3 h4 ha hdb he hpl) fun σ H Q ⟨S, t, q⟩ => ⟨S, t, fun vs H1 e1 d1 => by
    exact ⟨S, ds, l, (t.ext e1).dom, d1, hF, fun p xs H2 e2 n2 h2 d2 => q p xs H2 (e1.trans e2) (e1.free n2) h2 d2⟩⟩
theorem ev_bin {op : Operator} (ha : Ev X c Γ a da Γ1) (hb : Ev X c Γ1 b db Γ2) (ho : Bn X op da db d) : Ev X c Γ (.BinOp a op b pos) d Γ2 := by
  obtain ⟨r, h1, h2⟩ := ho
  exact PE.wk (pe_op h1 ha hb) fun σ H Q ⟨S, t, q⟩ => ⟨S, t, fun v S1 H1 r1 t1 d1 => ⟨S1, t1, fun w S2 H2 r2 t2 d2 => h2 S2 H2 v w t2.dom (d1.mono r2) d2 Q fun u H3 e3 d3 => q u S2 H3 ((r1.trans r2).trans (.of e3)) (t2.ext e3) d3⟩⟩
theorem ev_cmp {op : CmpOp} {k : Bool} (ha : Ev X c Γ a da Γ1) (hb : Ev X c Γ1 b db Γ2) (h : Cm X op da db k) (hm : behindInMarks op b = false := by first | exact nomark _ | rfl) : Ev X c Γ (.Compare a [op] [b] pos) (.bl k) Γ2 := by
  obtain ⟨r, h1, h2⟩ := h
  exact PE.wk (pe_cmpR h1 ha hb hm) fun σ H Q ⟨S, t, q⟩ => ⟨S, t, fun v S1 H1 r1 t1 d1 => ⟨S1, t1, fun w S2 H2 r2 t2 d2 => h2 S2 H2 v w (d1.mono r2) d2 Q (q _ S2 H2 (r1.trans r2) t2 (.bl k))⟩⟩
theorem et_cmp {op : CmpOp} {k : Bool} (ha : Ev X c Γ a da Γ1) (hb : Ev X c Γ1 b db Γ2) (h : Cm X op da db k) (hm : behindInMarks op b = false := by first | exact nomark _ | rfl) : Et X c Γ (.Compare a [op] [b] pos) k Γ2 := by
  obtain ⟨r, h1, h2⟩ := h
  exact PT.wk (pt_cmpR h1 ha hb hm) fun σ H Q ⟨S, t, q⟩ => ⟨S, t, fun v S1 H1 r1 t1 d1 => ⟨S1, t1, fun w S2 H2 r2 t2 d2 => h2 S2 H2 v w (d1.mono r2) d2 _ ⟨k, rfl, q S2 H2 (r1.trans r2) t2⟩⟩⟩
theorem et_not {k : Bool} (h : Et X c Γ a k Γ1) : Et X c Γ (.UnaryOp .Not a pos) (!k) Γ1 :=
  PT.wk (pt_not h) fun σ H Q ⟨S, t, q⟩ => ⟨S, t, fun S1 H1 r1 t1 => q S1 H1 r1 t1⟩
theorem et_val {k : Bool} (h : Ev X c Γ e (.bl k) Γ1) (he : ∀ whole, isTrue e X.env whole = (do let v ← whole; standAt e.pos; holding [v] (truthy v)) := by intro _; rfl) : Et X c Γ e k Γ1 :=
  PT.wk (pt_val h he) fun σ H Q ⟨S, t, q⟩ => ⟨S, t, fun v S1 H1 r1 t1 d1 => ⟨k, d1.bl_, q S1 H1 r1 t1⟩⟩
theorem ev_tup {x1} {ds : List D} (h : Ea X c Γ es ds Γ1) (hl : ds.length ≤ 16000000 := by simp) : Ev X c Γ (.Tuple es x1 pos) (.tup ds) Γ1 :=
  PE.wk (pe_tup h) fun σ H Q ⟨S, t, q⟩ => ⟨S, t, fun vs S1 H1 r1 t1 d1 => ⟨by rw [d1.length]; exact small_line hl, fun p hp => q _ S1 _ (r1.trans (.of (same_new hp))) (t1.ext (same_new hp)) (Den.newT t1.dom hp d1)⟩⟩
theorem ev_lst {ds : List D} (h : Ea X c Γ es ds Γ1) (hl : ds.length ≤ 16000000 := by simp) : Ev X c Γ (.List es pos) (.lst ds) Γ1 :=
  PE.wk (pe_lst h) fun σ H Q ⟨S, t, q⟩ => ⟨S, t, fun vs S1 H1 r1 t1 d1 => ⟨by rw [d1.length]; exact small_line hl, fun p hp => q _ S1 _ (r1.trans (.of (same_new hp))) (t1.ext (same_new hp)) (Den.newL t1.dom hp d1)⟩⟩
theorem ev_ixL {l : List D} {i : Int} (ha : Ev X c Γ a (.lst l) Γ1) (hb : Ev X c Γ1 b (.int i) Γ2) (h : L2.atI l i = some d) (hs : PlainIx b := by exact fun _ _ => rfl) : Ev X c Γ (.Subscript a b pos) d Γ2 :=
  PE.wk (pe_ix ix_list ha hb hs) fun σ H Q ⟨S, t, q⟩ => ⟨S, t, fun v S1 H1 r1 t1 d1 => ⟨S1, t1, fun w S2 H2 r2 t2 d2 => by
    obtain ⟨p, xs, rfl, h1, h2⟩ := (d1.mono r2).lst_
    obtain ⟨x, h3, h4⟩ := h2.atI h
    exact ⟨p, xs, i, x, rfl, d2.int_, h1, h3, q x S2 H2 (r1.trans r2) t2 h4⟩⟩⟩
theorem ev_ixT {l : List D} {i : Int} (ha : Ev X c Γ a (.tup l) Γ1) (hb : Ev X c Γ1 b (.int i) Γ2) (h : L2.atI l i = some d) (hs : PlainIx b := by exact fun _ _ => rfl) : Ev X c Γ (.Subscript a b pos) d Γ2 :=
  PE.wk (pe_ix ix_tup ha hb hs) fun σ H Q ⟨S, t, q⟩ => ⟨S, t, fun v S1 H1 r1 t1 d1 => ⟨S1, t1, fun w S2 H2 r2 t2 d2 => by
    obtain ⟨p, xs, rfl, h1, h2⟩ := (d1.mono r2).tup_
    obtain ⟨x, h3, h4⟩ := h2.atI h
    exact ⟨p, xs, i, x, rfl, d2.int_, h1, h3, q x S2 H2 (r1.trans r2) t2 h4⟩⟩⟩
/-- a def that changes nothing, of arguments that do -/
theorem ev_callP {F : Fs} {ds : List D} (G : FoX X k x F) (hr : RoomG j X.A) (ha : Ea X c Γ (e :: es) ds Γ1) (hF : F ds (.ok d)) (hk : k ≤ j := by decide) (hg : Gl X x := by rfl)
    (hdb : (x == ("__debug__" : Str)) = false := by decide) (he : starEach (e :: es) X.env = (false, eval e X.env) :: starEach es X.env := by rfl) (hpl : (backTo pos (starEach es X.env)).any (·.1) = false := by rfl) :
    Ev X c Γ (.Call (.Name x p) (e :: es) [] pos) d Γ1 := by
  obtain ⟨f, fd, ps, h1, h2, h3, h4⟩ := G.ex
  exact PE.wk (callG h1 (hr.mono hk) hg h2 h3 h4 ha hdb he hpl) fun σ H Q ⟨S, t, q⟩ => ⟨S, t, fun vs S1 H1 r1 t1 d1 => by
    exact ⟨S1, ds, .ok d, t1.dom, d1, hF, fun d' hd v H2 e2 d2 => by cases hd; exact q v S1 H2 (r1.trans (.of e2)) (t1.ext e2) d2, fun _ hd => by cases hd⟩⟩
theorem ev_blt {id : String} {ds : List D} (h : Cb X (.builtin id) ds d) (ha : Ea X c Γ (e :: es) ds Γ1) (hm : X.mg x = none) (hv : bootBuiltins x = some (.builtin id)) (hg : Gl X x := by rfl) (hn : x ≠ "__name__" := by decide) (hdb : (x == ("__debug__" : Str)) = false := by decide)
    (he : starEach (e :: es) X.env = (false, eval e X.env) :: starEach es X.env := by rfl) (hpl : (backTo pos (starEach es X.env)).any (·.1) = false := by rfl) : Ev X c Γ (.Call (.Name x p) (e :: es) [] pos) d Γ1 := by
  obtain ⟨r, h1, h2⟩ := h
  exact PE.wk (pe_callB h1 hg hm hv ha hn hdb he hpl) fun σ H Q ⟨S, t, q⟩ => ⟨S, t, fun vs S1 H1 r1 t1 d1 => h2 S1 H1 vs t1.dom d1 Q fun u H2 e2 d2 => q u S1 H2 (r1.trans (.of e2)) (t1.ext e2) d2⟩
theorem ev_bty {T : String} {ds : List D} (h : Cb X (.type T) ds d) (ha : Ea X c Γ (e :: es) ds Γ1) (hm : X.mg x = none) (hv : bootBuiltins x = some (.type T)) (hg : Gl X x := by rfl) (hn : x ≠ "__name__" := by decide) (hdb : (x == ("__debug__" : Str)) = false := by decide)
    (he : starEach (e :: es) X.env = (false, eval e X.env) :: starEach es X.env := by rfl) (hpl : (backTo pos (starEach es X.env)).any (·.1) = false := by rfl) : Ev X c Γ (.Call (.Name x p) (e :: es) [] pos) d Γ1 := by
  obtain ⟨r, h1, h2⟩ := h
  exact PE.wk (pe_callTy h1 hg hm hv ha hn hdb he hpl) fun σ H Q ⟨S, t, q⟩ => ⟨S, t, fun vs S1 H1 r1 t1 d1 => h2 S1 H1 vs t1.dom d1 Q fun u H2 e2 d2 => q u S1 H2 (r1.trans (.of e2)) (t1.ext e2) d2⟩
/-- a if t else b -/
theorem ev_if {k : Bool} {c' : Expr} (h : Et X c Γ c' k Γ1) (h1 : k = true → Ev X c Γ1 a d Γ2) (h2 : k = false → Ev X c Γ1 b d Γ2) : Ev X c Γ (.IfExp c' a b pos) d Γ2 := by
  cases k with
  | true =>
    have hN : PE X b (fun _ _ _ => False) := ⟨fun _ _ _ _ _ _ z => z.elim⟩
    exact PE.wk (pe_ifExp h (h1 rfl) hN) fun σ H Q ⟨S, t, q⟩ => ⟨S, t, fun S1 H1 r1 t1 => by
      refine iteT ?_
      exact ⟨S1, t1, fun w S2 H2 r2 t2 d2 => q w S2 H2 (r1.trans r2) t2 d2⟩⟩
  | false =>
    have hN : PE X a (fun _ _ _ => False) := ⟨fun _ _ _ _ _ _ z => z.elim⟩
    exact PE.wk (pe_ifExp h hN (h2 rfl)) fun σ H Q ⟨S, t, q⟩ => ⟨S, t, fun S1 H1 r1 t1 => by
      refine iteF ?_
      exact ⟨S1, t1, fun w S2 H2 r2 t2 d2 => q w S2 H2 (r1.trans r2) t2 d2⟩⟩

/-! ### statements -/
theorem s_setE (i : Nat) {pos' : Pos} (he : Ev X c Γ e d Γ1) (hr : Po.nx (Γ1.set i (some (.im d)))) (hN : X.N.Nodup) (hi : X.N[i]? = some x := by rfl) (hx : Loc X.env.scope x := by first | exact Or.inl rfl | exact Or.inr rfl) (hf : fxB c.fx i = true := by rfl)
    (hs : swapsWith e (some (.Name x pos')) pos.line X.env = pure false := by rfl) (hfn : X.fn x = true ∨ X.env.scope.names.lookup x = some .local := by first | exact .inl rfl | exact .inr rfl) : Sm X c Γ (.Assign [.Name x pos'] e pos) Po :=
  PS.wk (ps_set hN hi hx he hs hfn) fun D σ H ⟨S, t, q⟩ => ⟨S, t, fun v S1 H1 r1 t1 d1 => q.nx _ H1 S1 _ r1 (t1.setIm d1 (fxB_ok hf)) hr⟩
theorem s_parE (i j : Nat) {y : Str} {px py pt : Pos} {kt k2 pt2} {d1 d2 : D} (ha : Ea X c Γ [a, b] [d1, d2] Γ1) (hr : Po.nx ((Γ1.set i (some (.im d1))).set j (some (.im d2)))) (hN : X.N.Nodup) (hij : i ≠ j := by decide) (hc : X.calm = true := by rfl) (hi : X.N[i]? = some x := by rfl) (hj : X.N[j]? = some y := by rfl)
    (hx : X.env.scope.names.lookup x = some .local := by rfl) (hy : X.env.scope.names.lookup y = some .local := by rfl) (hf : fxB c.fx i = true := by rfl) (hf2 : fxB c.fx j = true := by rfl)
    (hw : swappedStores [.Tuple [.Name x px, .Name y py] kt pt] (.Tuple [a, b] k2 pt2) X.env = pure (some [x, y]) := by rfl)
    (hs : swapsWithSole [.Tuple [.Name x px, .Name y py] kt pt] (.Tuple [a, b] k2 pt2) pos.line X.env = pure false := by rfl) :
    Sm X c Γ (.Assign [.Tuple [.Name x px, .Name y py] kt pt] (.Tuple [a, b] k2 pt2) pos) Po :=
  PS.wk (ps_par hc hN hi hj hij hx hy ha hw hs) fun D σ H ⟨S, t, q⟩ => ⟨S, t, fun vs S1 H1 r1 t1 dv => by
    obtain ⟨v, w, rfl, h1, h2⟩ := dv.two
    exact ⟨v, w, rfl, q.nx _ H1 S1 _ r1 ((t1.setIm h1 (fxB_ok hf)).setIm h2 (fxB_ok hf2)) hr⟩⟩
theorem s_unpackE (is : List Nat) {ts : List Expr} {k : Nat} {p1 : Pos} {ds : List D} (he : Ev X c Γ e (.tup ds) Γ1) (hr : Po.nx (setAll Γ1 is ds)) (hl : is.length = ds.length := by rfl) (hg : PGs X ts (is.foldr (fun i u => gCons (gName i) u) gNil)) (hc : X.calm = true := by rfl) (hf : (is.all fun i => fxB c.fx i) = true := by rfl)
    (hn : (assignEach ts X.env).length = is.length := by rfl) (hst : (assignEach ts X.env).findIdx? (·.1) = none := by rfl)
    (hs : swapsWithSole [.Tuple ts k p1] e pos.line X.env = pure false := by rfl) (hw : swappedStores [.Tuple ts k p1] e X.env = pure none := by rfl) (h1 : (assignEach [.Tuple ts k p1] X.env).map (·.2) = [assign (.Tuple ts k p1) X.env] := by rfl) :
    Sm X c Γ (.Assign [.Tuple ts k p1] e pos) Po :=
  PS.wk (ps_asg he (pg_tup hc hg hn hst) hs hw h1) fun D σ H ⟨S, t, q⟩ => ⟨S, t, fun v S1 H1 r1 t1 d1 => by
    obtain ⟨p, xs, rfl, h2, h3⟩ := d1.tup_
    exact ⟨p, xs, rfl, h2, by rw [h3.length, hl], gd_setAll is ds xs hl (List.all_eq_true.mp hf) h3 t1 rfl fun σ' g => q.nx σ' H1 S1 _ r1 g hr⟩⟩
theorem s_ifE {k : Bool} {t' : Expr} (h : Et X c Γ t' k Γ1) (h1 : k = true → Bl X c Γ1 A Po) (h2 : k = false → Bl X c Γ1 B Po) : Sm X c Γ (.If t' A B pos) Po := by
  cases k with
  | true =>
    have hN : PSs X B (fun _ _ _ => False) := ⟨fun _ _ _ _ _ _ z => z.elim⟩
    exact PS.wk (ps_if h (h1 rfl) hN) fun D σ H ⟨S, t, q⟩ => ⟨S, t, fun S1 H1 r1 t1 => by
      refine iteT ?_
      exact ⟨S1, t1, q.go r1⟩⟩
  | false =>
    have hN : PSs X A (fun _ _ _ => False) := ⟨fun _ _ _ _ _ _ z => z.elim⟩
    exact PS.wk (ps_if h hN (h2 rfl)) fun D σ H ⟨S, t, q⟩ => ⟨S, t, fun S1 H1 r1 t1 => by
      refine iteF ?_
      exact ⟨S1, t1, q.go r1⟩⟩
theorem s_retE (he : Ev X c Γ e d Γ1) (h : Po.rt (.im d) Γ1) : Sm X c Γ (.Return (some e) pos) Po :=
  PS.wk (ps_ret he) fun D σ H ⟨S, t, q⟩ => ⟨S, t, fun v S1 H1 r1 t1 d1 => q.rt v σ H1 S1 Γ1 (.im d) r1 t1 d1 h⟩
theorem s_exprE (he : Ev X c Γ e d Γ1) (h : Po.nx Γ1) (hs : swapsWith e none pos.line X.env = pure false := by rfl) : Sm X c Γ (.Expr e pos) Po :=
  PS.wk (ps_expr he hs) fun D σ H ⟨S, t, q⟩ => ⟨S, t, fun v S1 H1 r1 t1 d1 => q.nx σ H1 S1 Γ1 r1 t1 h⟩
end

/-! ### a def whose first argument is such a list -/
def gmH (n : Nat) (l : List D) (ds : List D) : Gm := some (.ow l) :: gm0 (n - 1) (ds.map .im)
theorem gd_startH {K : PySem.W.Frag} {S : Addr → Prop} {H : Hp} {a : Addr} {xs vs : List V} {l ds : List D} {n : Str} {N : List Str} (hd : ∀ a, S a → H a ≠ none) (hS : S a) (hH : H a = some (.lst xs)) (hx : DenL K S H xs l) (h : DenL K S H vs ds) :
    Gd K ⟨S, H, [], [(0, .ref a)]⟩ S (L2.start (n :: N) (.ref a :: vs)) H (gmH (n :: N).length l ds) := by
  have g := gd_start (N := N) hd h
  have eσ : L2.start (n :: N) (.ref a :: vs) = some (.ref a) :: L2.start N vs := by
    unfold L2.start
    simp
  have eΓ : gmH (n :: N).length l ds = some (.ow l) :: gm0 N.length (ds.map .im) := rfl
  rw [eσ, eΓ]
  have no : ∀ (i : Nat) (l : List D), (gm0 N.length (ds.map .im))[i]? ≠ some (some (.ow l)) := fun i l q => by
    unfold gm0 at q
    by_cases hi : i < ds.length
    · rw [List.getElem?_append_left (by simpa using hi)] at q
      simp only [List.getElem?_map] at q
      cases e2 : ds[i]? with
      | none => rw [e2] at q; cases q
      | some d => rw [e2] at q; cases q
    · rw [List.getElem?_append_right (by simpa using hi), List.getElem?_replicate] at q
      split at q <;> cases q
  refine ⟨by simpa using g.len, fun i e q => ?_, fun i j b m m' h1 h2 _ _ => ?_, fun i m b h1 _ h3 => ?_, fun a z => z, fun a z => .inl z, fun a o z _ _ => z, hd, fun a z _ => z, fun p hp => ?_, (fun p z => nomatch z), (fun p z => nomatch z)⟩
  · cases i with
    | zero =>
      cases q
      exact ⟨.ref a, rfl, a, xs, rfl, hS, hH, hx⟩
    | succ i => exact g.at_ i e q
  · cases i with
    | zero =>
      cases j with
      | zero => rfl
      | succ j => exact absurd h2 (no j m')
    | succ i => exact absurd h1 (no i m)
  · cases i with
    | zero => exact absurd rfl (h3 (0, .ref a) List.mem_cons_self)
    | succ i => exact absurd h1 (no i m)
  · rcases List.mem_singleton.mp hp with rfl
    rfl
abbrev poH (d : D) (l' : List D) : Post := { nx := fun Γ' => d = .non ∧ Γ'[0]? = some (some (.ow l')), rt := fun en Γ' => d = toD en ∧ Γ'[0]? = some (some (.ow l')) }
section
variable {P : Program} {w : World} {K : PySem.W.Frag} {mg : Str → Option Value} {base : Heap}
theorem mkH {x q : Str} {stt : Stmt} {f : Addr} {fd : FuncData} {n : Str} {N ps : List Str} {k : Nat} {F : Fh} (Fn : Fun K x q stt f fd) (Sc : FnScope (n :: N) ps (defScope stt)) (len : ∀ l ds d l', F l ds d l' → ds.length + 1 = ps.length)
    (hb : ∀ (cdv : Value) (A : Around) (outer : List Env) (s : Shared) (H : Hp) (E : XK) (S0 : Addr → Prop) (H0 : Hp) (a : Addr) (l ds : List D) (d : D) (l' : List D), RoomG k (Bx P w K mg base (n :: N) q (defScope stt) f cdv A outer s H E).A → F l ds d l' →
      Bl (Bx P w K mg base (n :: N) q (defScope stt) f cdv A outer s H E) ⟨S0, H0, [], [(0, .ref a)]⟩ (gmH (n :: N).length l ds) (defBody stt) (poH d l')) : FnG P w K mg base (L2.CX P w) (k + 1) f fd ps (upH K F) := by
  refine okG Fn Sc (fun vs H Q E ⟨S, a, xs, l, vs', ds, d, l', e, _, _, _, _, hl, hF, _⟩ => by rw [e, List.length_cons, hl.length]; exact len l ds d l' hF) (fun cdv A outer s H vs Q E hr ⟨S, a, xs, l, vs', ds, d, l', e, hd, hS, hH, hx, hl, hF, k1⟩ => ⟨_, hb cdv A outer s H E S H a l ds d l' hr hF, ?_⟩)
  subst e
  have fin : ∀ {v : V} {σ' : L2.St} {H' : Hp} {S' : Addr → Prop} {Γ' : Gm}, Gd K ⟨S, H, [], [(0, .ref a)]⟩ S' σ' H' Γ' → Γ'[0]? = some (some (.ow l')) → Den K S H' v d → Q v H' := fun {v σ' H' S' Γ'} g h0 hv => by
    obtain ⟨a', ys, g1, g2, g3, g4⟩ := g.ow h0
    have f := g.fix (0, .ref a) List.mem_cons_self
    have ea : a' = a := by
      rw [show σ'[0]? = some (some (V.ref a)) from f] at g1
      cases g1
      rfl
    subst ea
    refine k1 v H' ys (fun b o hb0 hne => g.chg b o hb0 ?_ (fun nt => nt.1 rfl)) g3 (g4.less g.sub) hv
    rintro (⟨p, hp, e⟩ | ⟨p, hp, _⟩)
    · rcases List.mem_singleton.mp hp with rfl
      cases e
      exact hne rfl
    · cases hp
  refine ⟨S, gd_startH hd hS hH hx hl, ⟨fun σ' H' S' Γ' r' g hn => ?_, fun v σ' H' S' Γ' en r' g rs hn => ?_, fun _ _ _ _ _ _ z => z.elim, fun _ _ _ _ _ _ z => z.elim⟩⟩
  · obtain ⟨rfl, h0⟩ := hn
    exact fin g h0 .non
  · obtain ⟨rfl, h0⟩ := hn
    exact fin g h0 (rs.den g)
/-- a def that gives a new list -/
theorem mkN {x q : Str} {stt : Stmt} {f : Addr} {fd : FuncData} {N ps : List Str} {k : Nat} {F : Fl} (Fn : Fun K x q stt f fd) (Sc : FnScope N ps (defScope stt)) (len : ∀ ds l, F ds l → ds.length = ps.length)
    (hb : ∀ (cdv : Value) (A : Around) (outer : List Env) (s : Shared) (H : Hp) (E : XK) (S0 : Addr → Prop) (H0 : Hp) (ds l : List D), RoomG k (Bx P w K mg base N q (defScope stt) f cdv A outer s H E).A → F ds l →
      Bl (Bx P w K mg base N q (defScope stt) f cdv A outer s H E) ⟨S0, H0, [], []⟩ (gm0 N.length (ds.map .im)) (defBody stt) { nx := fun _ => False, rt := fun en _ => en = .ow l }) : FnG P w K mg base (L2.CX P w) (k + 1) f fd ps (upN K F) := by
  refine okG Fn Sc (fun vs H Q E ⟨S, ds, l, _, hl, hF, _⟩ => by rw [hl.length]; exact len ds l hF) (fun cdv A outer s H vs Q E hr ⟨S, ds, l, hd, hl, hF, k1⟩ => ⟨_, hb cdv A outer s H E S H ds l hr hF, ?_⟩)
  refine ⟨S, gd_start hd hl, ⟨fun _ _ _ _ _ _ z => z.elim, fun v σ' H' S' Γ' en r' g rs hn => ?_, fun _ _ _ _ _ _ z => z.elim, fun _ _ _ _ _ _ z => z.elim⟩⟩
  subst hn
  obtain ⟨a, xs, rfl, h1, h2, h3, h4, _⟩ := rs
  have sm : Same H H' := fun b o z => g.chg b o z (by rintro (⟨p, hp, _⟩ | ⟨p, hp, _⟩) <;> cases hp) (fun nt => nt.1 rfl)
  refine k1 a xs H' sm ?_ h3 (h4.less fun b z => z.elim (g.sub b) fun z => by rw [z]; exact h1)
  rcases g.new a h1 with z | z | z
  · exact absurd z h2
  · exact z
  · exact absurd rfl z.1
end
end Spr

set_option Elab.async false
set_option linter.all false
set_option maxRecDepth 100000
set_option maxHeartbeats 4000000
/-! in, index, count; a lambda handed to a def that calls it within try: what is said of an error. -/
namespace Spr
open PySem PySem.Spec PyProof.Rows L2

/-! ### l.count(x) over data -/
def rCountD (K : PySem.W.Frag) : V → List V → Hp → VK → Prop := fun x xs H Q => ∃ (a : Addr) (y : V) (d : PyData) (ds : List PyData), x = V.ref a ∧ xs = [y] ∧ Dp K H (V.ref a) (.list ds) ∧ Dp K H y d ∧
  SeqAt.shaped (.list ds) = true ∧ SeqAt.shaped d = true ∧ Q (.int ((ds.countP fun z => PyData.eqv z d : Nat) : Int)) H
theorem mt_countD {X : Cx} (hu : X.A.units + 65 < cLine) : MtR X "list.count" (rCountD X.K) := by
  intro pins s σ H x xs v us Q I rx rxs h
  obtain ⟨a, y, d, ds, rfl, rfl, hl, hy, sl, sd, q⟩ := h
  cases rx
  cases rxs with
  | cons ry rt =>
    rename_i uy ut
    cases rt
    obtain ⟨bs, r1⟩ := Dp.reads I d y uy hy ry
    have hxs : PyData.canLayAll0 ds = true := SeqAt.canLay_of_shaped sl
    have hroom : X.A.units + 1 + min (PyData.depthAll ds) d.depth < cLine := room_in_shaped sd hu
    cases hl with
    | lst hs ha =>
      obtain ⟨its, rv, ⟨⟨cls, dd, data, sls⟩, n, ho, hc, hdn, hdt⟩, hlen⟩ := I.list hs
      simp only at hc hdt
      subst hc hdt
      obtain ⟨as, h4⟩ := Dp.readsAll I ds _ its ha rv
      have hmap : its.map (SeqAt.readOf s.heap) = ds := SeqAt.readsAll_map ds its as hxs h4
      refine call_meets PySem.F.slot_list_count ⟨_, ho, rfl⟩ PySem.F.entry_list_count (PySem.F.args_list_count_2 _ _)
        (SeqAt.list_countAt a its.toArray n dd sls uy (fun u => PyData.eqv (SeqAt.readOf s.heap u) d)) ⟨ho, SeqAt.items_eqAt (vs := its.toArray) (show ReadsAll s.heap its.toArray.toList ds as from h4) r1 hxs (SeqAt.canLay_of_shaped sd) hroom, ?_⟩
      have ec : its.toArray.toList.countP (fun u => PyData.eqv (SeqAt.readOf s.heap u) d) = ds.countP fun z => PyData.eqv z d := by
        rw [← hmap, List.countP_map]
        rfl
      refine ⟨.int ((ds.countP fun z => PyData.eqv z d : Nat) : Int), H, I.tok _, ⟨s.toks, ?_⟩, q⟩
      show Value.int ((its.toArray.toList.countP (fun u => PyData.eqv (SeqAt.readOf s.heap u) d) : Nat) : Int) s.toks = Value.int ((ds.countP fun z => PyData.eqv z d : Nat) : Int) s.toks
      rw [ec]
def lstOk (l : List D) : Bool := eqOk (.lst l)
theorem dp_lst {K : PySem.W.Frag} {S : Addr → Prop} {H : Hp} {v : V} {l : List D} (h : Den K S H v (.lst l)) (hp : pyOk (.lst l) = true) : ∃ a, v = .ref a ∧ Dp K H (V.ref a) (.list (toPyL l)) := by
  obtain ⟨a, xs, rfl, _, _⟩ := h.lst_
  exact ⟨a, rfl, Den.dp _ _ hp h⟩
def cntD (l : List D) (d : D) : Nat := l.countP fun z => deq z d
theorem cnt_toPy (l : List D) (d : D) : (toPyL l).countP (fun z => PyData.eqv z (toPy d)) = cntD l d := by
  unfold cntD
  induction l with
  | nil => rfl
  | cons a l ih =>
    show List.countP _ (toPy a :: toPyL l) = _
    rw [List.countP_cons, List.countP_cons, ih]
    rfl
section
variable {X : Cx} {c : Cn} {Γ Γ1 : Gm} {a b e : Expr} {es : List Expr} {pos p apos cpos : Pos} {da db dc d : D} {Po : Post} {x : Str} {k j : Nat}
theorem p_count {l : List D} (hu : X.A.units + 65 < cLine) (ho : Pe X c Γ a (.lst l)) (ha : Pe X c Γ e d) (h1 : eqOk (.lst l) = true) (h2 : eqOk d = true)
    (hbm : ∀ to ta, PE X a to → PA X [e] ta → PE X (.Call (.Attribute a "count" apos) [e] [] cpos) (tBM X.K "list" (rCountD X.K) to ta)) (hst : starEach [e] X.env = (false, eval e X.env) :: starEach [] X.env := by rfl) : Pe X c Γ (.Call (.Attribute a "count" apos) [e] [] cpos) (.int (cntD l d)) :=
  PE.wk (hbm _ _ ho (a_cons ha a_nil hst)) fun σ H Q ⟨S, t, q⟩ => ⟨S, t, fun v H1 e1 d1 => by
    obtain ⟨u, xs, rfl, h3, h4⟩ := d1.lst_
    refine ⟨.inl ⟨rfl, xs, h3⟩, S, t.ext e1, fun vs H2 e2 d2 => ?_⟩
    obtain ⟨y, rfl, h5⟩ := d2.one
    obtain ⟨p1, p2⟩ := Bool.and_eq_true_iff.mp h1
    obtain ⟨p3, p4⟩ := Bool.and_eq_true_iff.mp h2
    refine ⟨u, y, toPy d, toPyL l, rfl, rfl, Den.dp _ _ p1 (d1.ext e2), Den.dp _ _ p3 h5, p2, p4, ?_⟩
    rw [cnt_toPy]
    exact q _ H2 (e1.trans e2) (.int _)⟩
theorem toPyL_get (l : List D) (i : Nat) : (toPyL l)[i]? = (l[i]?).map toPy := by
  induction l generalizing i with
  | nil => rfl
  | cons a l ih =>
    cases i with
    | zero => rfl
    | succ i => exact ih i
theorem p_index {l : List D} {n : Nat} {z : D} (hu : X.A.units + 65 < cLine) (ho : Pe X c Γ a (.lst l)) (ha : Pe X c Γ e d) (h1 : eqOk (.lst l) = true) (h2 : eqOk d = true) (hz : l[n]? = some z) (hq : deq z d = true) (hno : ∀ m z', m < n → l[m]? = some z' → deq z' d = false)
    (hbm : ∀ to ta, PE X a to → PA X [e] ta → PE X (.Call (.Attribute a "index" apos) [e] [] cpos) (tBM X.K "list" (rIndexD X.K) to ta)) (hst : starEach [e] X.env = (false, eval e X.env) :: starEach [] X.env := by rfl) : Pe X c Γ (.Call (.Attribute a "index" apos) [e] [] cpos) (.int n) :=
  PE.wk (hbm _ _ ho (a_cons ha a_nil hst)) fun σ H Q ⟨S, t, q⟩ => ⟨S, t, fun v H1 e1 d1 => by
    obtain ⟨u, xs, rfl, h3, h4⟩ := d1.lst_
    refine ⟨.inl ⟨rfl, xs, h3⟩, S, t.ext e1, fun vs H2 e2 d2 => ?_⟩
    obtain ⟨y, rfl, h5⟩ := d2.one
    obtain ⟨p1, p2⟩ := Bool.and_eq_true_iff.mp h1
    obtain ⟨p3, p4⟩ := Bool.and_eq_true_iff.mp h2
    refine ⟨u, y, toPy d, toPyL l, n, toPy z, rfl, rfl, Den.dp _ _ p1 (d1.ext e2), Den.dp _ _ p3 h5, p2, p4, by rw [toPyL_get, hz]; rfl, hq, fun m z' hm h6 => ?_, q _ H2 (e1.trans e2) (.int _)⟩
    rw [toPyL_get] at h6
    cases h7 : l[m]? with
    | none => rw [h7] at h6; cases h6
    | some y' =>
      rw [h7] at h6
      cases h6
      exact hno m y' hm h7⟩
/-! ### in a tuple | list of ints -/
theorem inV_int {i : Int} {ns : List Int} : inV (.int i) (ns.map .int) = decide (i ∈ ns) := by
  unfold inV
  rw [List.any_map]
  induction ns with
  | nil => rfl
  | cons n ns ih =>
    rw [List.any_cons, ih]
    have e : ((fun y => eqV y (V.int i)) ∘ V.int) n = decide (i = n) := by
      show eqV (.int n) (.int i) = _
      simp only [eqV]
      by_cases h : i = n
      · subst h; simp
      · have h' : n ≠ i := fun z => h z.symm
        simp [h, h']
    rw [e]
    simp
theorem flat_ints (ns : List Int) : ((ns.map V.int).all flatV) = true := by
  rw [List.all_map]
  exact List.all_eq_true.mpr fun _ _ => rfl
theorem c_inT {i : Int} {ns : List Int} : Cm X .In (.int i) (.tup (ns.map .int)) (decide (i ∈ ns)) := ⟨_, op_in_seq, fun S H v w h1 h2 Q q => by
  obtain ⟨a, xs, rfl, h3, h4⟩ := h2.tup_
  rw [h4.ints] at h3
  rw [h1.int_]
  exact ⟨a, _, rfl, .inr h3, rfl, flat_ints ns, by rw [if_neg Bool.false_ne_true, inV_int]; exact q⟩⟩
theorem c_inL {i : Int} {ns : List Int} : Cm X .In (.int i) (.lst (ns.map .int)) (decide (i ∈ ns)) := ⟨_, op_in_seq, fun S H v w h1 h2 Q q => by
  obtain ⟨a, xs, rfl, h3, h4⟩ := h2.lst_
  rw [h4.ints] at h3
  rw [h1.int_]
  exact ⟨a, _, rfl, .inl h3, rfl, flat_ints ns, by rw [if_neg Bool.false_ne_true, inV_int]; exact q⟩⟩
theorem c_notinT {i : Int} {ns : List Int} : Cm X .NotIn (.int i) (.tup (ns.map .int)) (!decide (i ∈ ns)) := ⟨_, op_notIn_seq, fun S H v w h1 h2 Q q => by
  obtain ⟨a, xs, rfl, h3, h4⟩ := h2.tup_
  rw [h4.ints] at h3
  rw [h1.int_]
  exact ⟨a, _, rfl, .inr h3, rfl, flat_ints ns, by rw [if_pos rfl, inV_int]; exact q⟩⟩
theorem c_notinL {i : Int} {ns : List Int} : Cm X .NotIn (.int i) (.lst (ns.map .int)) (!decide (i ∈ ns)) := ⟨_, op_notIn_seq, fun S H v w h1 h2 Q q => by
  obtain ⟨a, xs, rfl, h3, h4⟩ := h2.lst_
  rw [h4.ints] at h3
  rw [h1.int_]
  exact ⟨a, _, rfl, .inl h3, rfl, flat_ints ns, by rw [if_pos rfl, inV_int]; exact q⟩⟩
/-- a new list: a if t else b -/
theorem n_if {l : List D} {k : Bool} {c' : Expr} (h : Pt X c Γ c' k) (h1 : k = true → Pn X c Γ a l) (h2 : k = false → Pn X c Γ b l) : Pn X c Γ (.IfExp c' a b pos) l := by
  cases k with
  | true =>
    have hN : PE X b (fun _ _ _ => False) := ⟨fun _ _ _ _ _ _ z => z.elim⟩
    exact PE.wk (pe_ifExp h (h1 rfl) hN) fun σ H Q ⟨S, t, q⟩ => ⟨S, t, fun H1 e1 => by
      refine iteT ?_
      exact ⟨S, t.ext e1, fun p xs H2 e2 n2 h2 d2 => q p xs H2 (e1.trans e2) (e1.free n2) h2 d2⟩⟩
  | false =>
    have hN : PE X a (fun _ _ _ => False) := ⟨fun _ _ _ _ _ _ z => z.elim⟩
    exact PE.wk (pe_ifExp h hN (h2 rfl)) fun σ H Q ⟨S, t, q⟩ => ⟨S, t, fun H1 e1 => by
      refine iteF ?_
      exact ⟨S, t.ext e1, fun p xs H2 e2 n2 h2 d2 => q p xs H2 (e1.trans e2) (e1.free n2) h2 d2⟩⟩
end

/-! ### an expression that may raise -/
def tX (K : PySem.W.Frag) (c : Cn) (Γ : Gm) (r : Except Er D) (W : WX) : TE := fun σ H Q => ∃ S, Gd K c S σ H Γ ∧ (∀ d, r = .ok d → ∀ v H', Same H H' → Den K S H' v d → Q v H') ∧ (∀ e, r = .error e → ∀ cls dx H', Same H H' → ErrAt e cls dx H' → W cls dx σ H')
abbrev Px (X : Cx) (c : Cn) (Γ : Gm) (e : Expr) (r : Except Er D) (W : WX) : Prop := PE X e (tX X.K c Γ r W)
abbrev cE (E : XK) : WX := fun cls dx _ H => E cls dx H
section
variable {X : Cx} {c : Cn} {Γ Γ1 : Gm} {a b e : Expr} {es : List Expr} {pos p apos cpos : Pos} {da db dc d : D} {Po : Post} {x : Str} {k j : Nat} {E : XK} {W : WX}
theorem x_p (h : Pe X c Γ e d) : Px X c Γ e (.ok d) W := PE.wk h fun σ H Q ⟨S, t, q, _⟩ => ⟨S, t, fun v H1 e1 d1 => q d rfl v H1 e1 d1⟩
theorem x_is {r r' : Except Er D} (h : Px X c Γ e r W) (q : r = r') : Px X c Γ e r' W := q ▸ h
/-- f(..) by its name -/
theorem x_call {F : Fs} {ds : List D} {r : Except Er D} (tk : Takes X W) (G : FoX X k x F) (hr : RoomG j X.A) (ha : Pa X c Γ (e :: es) ds) (hF : F ds r) (hk : k ≤ j := by decide) (hg : Gl X x := by rfl)
    (hdb : (x == ("__debug__" : Str)) = false := by decide) (he : starEach (e :: es) X.env = (false, eval e X.env) :: starEach es X.env := by rfl) (hpl : (backTo pos (starEach es X.env)).any (·.1) = false := by rfl) : Px X c Γ (.Call (.Name x p) (e :: es) [] pos) r W := by
  obtain ⟨f, fd, ps, h1, h3, h4, h5⟩ := G.ex
  refine PE.wk (callSG h1 (hr.mono hk) hg h3 h4 h5 (fun σ => passAt tk σ) ha hdb he hpl) fun σ H Q ⟨S, t, q1, q2⟩ => ⟨S, t, fun vs H1 e1 d1 => ?_⟩
  exact ⟨S, ds, r, (t.ext e1).dom, d1, hF, fun d' hd v H2 e2 d2 => q1 d' hd v H2 (e1.trans e2) d2, fun e0 hd cls dx H2 e2 er2 => q2 e0 hd cls dx H2 (e1.trans e2) er2⟩
/-- f(..), f a local name that holds a def -/
structure HeldX (X : Cx) (k : Nat) (f : Addr) (sp : Sp) : Prop where
  ex : ∃ (fd : FuncData) (ps : List Str), FnG X.prog X.w X.K X.mg X.base (L2.CX X.prog X.w) k f fd ps sp ∧ PySem.W.keepIn X.K (.ref f) = true ∧ Binds X.K fd ps []
theorem Fo.held {X : Cx} {k : Nat} {x : Str} {sp : Sp} (G : Fo X.prog X.w X.K X.mg X.base k x sp) : ∃ f, X.mg x = some (.ref f) ∧ HeldX X k f sp := by
  obtain ⟨f, fd, ps, h1, h2, h3, h4⟩ := G.ex
  exact ⟨f, h2, fd, ps, h1, h3, h4⟩
theorem x_callL (i : Nat) {f : Addr} {F : Fs} {ds : List D} {r : Except Er D} (tk : Takes X (cE E)) (hi : Γ[i]? = some (some (.im (.raw (.ref f))))) (G : HeldX X k f (upP X.K F)) (hr : RoomG j X.A) (ha : Pa X c Γ (e :: es) ds) (hF : F ds r) (hk : k ≤ j := by decide) (hN : X.N[i]? = some x := by rfl) (hv : Vis X.env.scope x := by first | exact Or.inl rfl | exact Or.inr (Or.inl rfl) | exact Or.inr (Or.inr rfl))
    (hdb : (x == ("__debug__" : Str)) = false := by decide) (hcd : (x == ("__classdict__" : Str)) = false := by decide) (he : starEach (e :: es) X.env = (false, eval e X.env) :: starEach es X.env := by rfl) (hpl : (backTo pos (starEach es X.env)).any (·.1) = false := by rfl) : Px X c Γ (.Call (.Name x p) (e :: es) [] pos) r (cE E) := by
  obtain ⟨fd, ps, h1, h4, h5⟩ := G.ex
  refine PE.wk (callLG (i := i) h1 (hr.mono hk) hN hv h4 h5 (passes_call tk fun _ _ _ _ z => z) ha hdb hcd he hpl) fun σ H Q ⟨S, t, q1, q2⟩ => ?_
  obtain ⟨v, g1, g2⟩ := t.im hi
  rw [g2.raw_] at g1
  refine ⟨g1, S, t, fun vs H1 e1 d1 => ?_⟩
  exact ⟨S, ds, r, (t.ext e1).dom, d1, hF, fun d' hd v H2 e2 d2 => q1 d' hd v H2 (e1.trans e2) d2, fun e0 hd cls dx H2 e2 er2 => q2 e0 hd cls dx H2 (e1.trans e2) er2⟩
end

/-! ### a def that is handed a lambda: what it says of each outcome -/
/-- from the lambda's outcome to what is said -/
abbrev Fd := Except Er Unit → D → Prop
def TTd (K : PySem.W.Frag) (F : Fd) : (XK → Hp → VK → Prop) → Hp → VK → Prop := fun tl H Q => ∃ (S : Addr → Prop) (r : Except Er Unit) (rd : D), (∀ a, S a → H a ≠ none) ∧ F r rd ∧
  tl (fun cls dx H' => Same H H' ∧ ∃ e, r = .error e ∧ ErrAt e cls dx H') H (fun v H' => Same H H' ∧ r = .ok ()) ∧ ∀ v H', Same H H' → Den K S H' v rd → Q v H'
theorem PE.mono {X : Cx} {e : Expr} {t : TE} (h : PE X e t) : PE X e (fun σ H Q => ∃ Q', t σ H Q' ∧ ∀ v H', Q' v H' → Q v H') :=
  ⟨fun pins s σ H Q I ⟨Q', q, w⟩ => wpAny_mono (h.run pins s σ H Q' I q) (fun u s' ⟨v, H', I', r, z⟩ => ⟨v, H', I', r, w v H' z⟩) fun _ _ z => z⟩
/-- the context of such a def's body -/
abbrev Sx (X : Cx) (Ng : List Str) (x : Str) (sg : Scope) (g : Addr) (cdg : Value) (s : Shared) (H : Hp) : Cx := (cxOf C8.CX0 X.prog X.w X.K X.mg X.base Ng x sg g cdg X.A X.stack s H C8.E0).nox
theorem gd_any {K : PySem.W.Frag} {S : Addr → Prop} {σ : L2.St} {H H' : Hp} {n i : Nat} {v : V} (hl : σ.length = n) (hσ : σ[i]? = some (some v)) (e : Same H H') (hd : ∀ a, S a → H a ≠ none) : Gd K ⟨S, H, [], []⟩ S σ H' ((List.replicate n none).set i (some (.im (.raw v)))) := by
  have key : ∀ (j : Nat) (en : Ent), ((List.replicate n none).set i (some (.im (.raw v))) : Gm)[j]? = some (some en) → j = i ∧ en = .im (.raw v) := fun j en h => by
    by_cases hj : i = j
    · subst hj
      have q := (List.getElem?_eq_some_iff.mp h).1
      rw [List.getElem?_set_self (by simpa using q)] at h
      cases h
      exact ⟨rfl, rfl⟩
    · rw [List.getElem?_set_ne hj, List.getElem?_replicate] at h
      split at h <;> cases h
  refine ⟨by simpa using hl, fun j en h => ?_, fun j k a m m' h1 _ _ _ => ?_, fun j m a h1 _ _ => ?_, fun a z => z, fun a z => .inl z, fun a o z _ _ => e _ _ z, fun a z => Same.some e (hd a z), fun a z _ => Same.some e z, (fun p z => nomatch z), (fun p z => nomatch z), (fun p z => nomatch z)⟩
  · obtain ⟨rfl, rfl⟩ := key j en h
    exact ⟨v, hσ, .raw v⟩
  · obtain ⟨_, z⟩ := key j _ h1
    cases z
  · obtain ⟨_, z⟩ := key j _ h1
    cases z
/-- the slots within the suite: the error alone is known -/
def gmS (n i : Nat) (b : Addr) : Gm := (List.replicate n none).set i (some (.im (.raw (.ref b))))
/-- try: a() / except xe as n: suite / rest -/
theorem said_gives {X : Cx} {Ng : List Str} {x a xe n q : Str} {sg : Scope} {g CS : Addr} {cdg : Value} {p1 p2 p3 p4 p5 p6 : Pos} {b0 : Stmt} {suite rest : List Stmt} {F : Fd} (i : Nat)
    (hge : sg.names.lookup xe = some .globalImplicit) (hme : X.mg xe = some (.ref CS)) (hde : (xe == ("__debug__" : Str)) = false) (hNg : Ng.Nodup) (hi : Ng[i]? = some n) (hln : sg.names.lookup n = some .local)
    (hcat : ∀ e rd, F (.error e) rd → PySem.W.exmOne X.K (.ref e.C) (.ref CS) = some true)
    (hsu : ∀ (s : Shared) (H : Hp) (f : Addr) (S : Addr → Prop) (e : Er) (rd : D) (b : Addr) (oe : Obj) (dx : Option Addr) (pn : List (Addr × Obj)), F (.error e) rd → Zc (.ref e.C) dx oe → (e.fs = [] → dx = none) → (∃ vs, oe.data = .fields vs) →
      Bl ((Sx X Ng x sg g cdg s H).suite b ((b, oe) :: pn)) ⟨S, H, [], []⟩ (gmS Ng.length i b) (b0 :: suite) { nx := fun _ => False, rt := fun en _ => toD en = rd })
    (hre : ∀ (s : Shared) (H : Hp) (f : Addr) (S : Addr → Prop) (rd : D), F (.ok ()) rd → Bl (Sx X Ng x sg g cdg s H) ⟨S, H, [], []⟩ (gm0 Ng.length [.im (.raw (.ref f))]) rest { nx := fun _ => False, rt := fun en _ => toD en = rd })
    (hsw2 : ∀ s H, swapsWith (.Call (.Name a p1) [] [] p2) none p3.line (Sx X Ng x sg g cdg s H).env = pure false := by intro _ _; rfl) :
    LamX.GivesTo X Ng x sg g cdg (.Try [.Expr (.Call (.Name a p1) [] [] p2) p3] [.ExceptHandler (some (.Name xe p4)) (some n) (b0 :: suite) p5] [] [] p6 :: rest) a q (TTd X.K F) := by
  intro f c' s H Q tl act hc h
  obtain ⟨S, r, rd, hd, hF, htl, hQ⟩ := h
  have g0 : Gd X.K ⟨S, H, [], []⟩ S (L2.start Ng [.ref f]) H (gm0 Ng.length [.im (.raw (.ref f))]) := gd_start (ds := [.raw (.ref f)]) hd (.cons (.raw _) .nil)
  have hs0 : (L2.start Ng [V.ref f])[0]? = some (some (V.ref f)) := by
    unfold L2.start
    rfl
  have fin : ∀ {v : V} {σ' : L2.St} {H' : Hp} {S' : Addr → Prop} {Γ' : Gm} {en : Ent}, Gd X.K ⟨S, H, [], []⟩ S' σ' H' Γ' → Rs X.K ⟨S, H, [], []⟩ S' σ' H' Γ' v en → toD en = rd → Q v H' := fun {v σ' H' S' Γ' en} g rs hn =>
    hQ v H' (fun b o z => g.chg b o z (by rintro (⟨p, hp, _⟩ | ⟨p, hp, _⟩) <;> cases hp) (fun nt => nt.1 rfl)) (hn ▸ rs.den g)
  have fin2 : ∀ (S1 : Addr → Prop) (H1 : Hp) (D : Ends), D.rt = Q → Fin X.K ⟨S, H, [], []⟩ S1 H1 { nx := fun _ => False, rt := fun en _ => toD en = rd } D := fun S1 H1 D e => ⟨fun _ _ _ _ _ _ z => z.elim, fun v σ' H' S' Γ' en _ g rs hn => by
    rw [e]
    exact fin g rs hn, fun _ _ _ _ _ _ z => z.elim, fun _ _ _ _ _ _ z => z.elim⟩
  refine ⟨_, pss_cons (ps_try_as (X := Sx X Ng x sg g cdg s H) (i := i) (c := .ref CS) (tb := fun W D σ H2 => ∃ (Ech : XK) (Q' : VK), (∀ cls d σ' H', Ech cls d H' → W cls d σ' H') ∧ σ[0]? = some (some (.ref f)) ∧ H2 c' = some (LamX.CodeO c' q) ∧ tl Ech H2 Q' ∧ ∀ v H', Q' v H' → D.nx σ H')
      (ts := fun b cls d D σ H2 => ∃ e, cls = .ref e.C ∧ (e.fs = [] → d = none) ∧ F (.error e) rd ∧ (σ.length = Ng.length → tB X.K ⟨S, H, [], []⟩ (gmS Ng.length i b) { nx := fun _ => False, rt := fun en _ => toD en = rd } D σ H2))
      rfl rfl hNg hi hln ⟨hge, hde, .inl hme⟩ LamX.takes0 (fun W pn xe' tk _ => pss_one ?_) (fun b oe cls d pn hz hf => ⟨fun pins s' σ H' D I ⟨e, e1, e2, e3, q⟩ => ?_⟩)) (⟨fun pins s' σ H' D I ⟨hF, q⟩ => (hre s H f S rd hF).run pins s' σ H' D I q⟩ : PSs _ rest (fun D σ H2 => F (.ok ()) rd ∧ tB X.K ⟨S, H, [], []⟩ (gm0 Ng.length [.im (.raw (.ref f))]) { nx := fun _ => False, rt := fun en _ => toD en = rd } D σ H2)), ?_⟩
  · refine ⟨fun pins s' σ H' D I h' => ?_⟩
    obtain ⟨Ech, Q', hW, h1, h2, h3, h4⟩ := h'
    have hp := act W pn xe' Ech p1 p2 tk hW
    exact (ps_expr (pos := p3) (PE.mono hp) (hsw2 s H)).run pins s' σ H' D I ⟨Q', ⟨h1, h2, h3⟩, h4⟩
  · subst e1
    exact (hsu s H f S e rd b oe d pn e3 hz e2 hf).run pins s' σ H' D I (q I.len)
  · refine ⟨_, _, fun cls d σ' H' z => ?_, hs0, hc, htl, fun v H' z => ?_⟩
    · obtain ⟨e1, e, er, ea⟩ := id z
      have ec := ea.1
      subst er
      rw [ec]
      refine ⟨true, hcat e rd hF, fun _ b hb => ⟨e, rfl, fun hfs => ?_, hF, fun hl => ?_⟩, fun z => by cases z⟩
      · rcases ea.2 with ⟨_, z⟩ | ⟨z, _⟩
        · exact z
        · exact absurd hfs z
      · refine ⟨S, gd_any hl ?_ e1 hd, fin2 S H' _ rfl⟩
        rw [List.getElem?_set_self]
        have hlt := (List.getElem?_eq_some_iff.mp hi).1
        rw [List.length_set] at hl
        rw [hl]
        exact hlt
    · obtain ⟨e1, er⟩ := z
      subst er
      exact ⟨hF, S, g0.ext e1, fin2 S H' _ rfl⟩
/-- the def's start: what it may change is a table of its own or no table; the arguments that it changes are lists -/
structure CnT (c : Cn) (Γ : Gm) : Prop where
  s0 : ∀ a, c.S0 a → (∃ p ∈ c.tb, p.1 = a) ∨ ∃ o, c.H0 a = some o ∧ ¬ IsT o
  fx : ∀ p ∈ c.fx, ∃ l, Γ[p.1]? = some (some (.ow l))
theorem Gd.s0 {K : PySem.W.Frag} {c : Cn} {S : Addr → Prop} {σ : L2.St} {H : Hp} {Γ : Gm} (t : Gd K c S σ H Γ) (C : CnT c Γ) {a : Addr} (h : c.S0 a) : (∃ p ∈ c.tb, p.1 = a) ∨ ∃ o, H a = some o ∧ ¬ IsT o := by
  rcases C.s0 a h with z | ⟨o, h1, h2⟩
  · exact .inl z
  · by_cases h0 : c.T0 a
    · rcases h0 with ⟨p, hp, e⟩ | ⟨p, hp, e⟩
      · obtain ⟨l, hl⟩ := C.fx p hp
        obtain ⟨b, xs, g1, _, g3, _⟩ := t.ow hl
        have f := t.fix p hp
        rw [e] at f
        rw [f] at g1
        cases g1
        exact .inr ⟨_, g3, nt_lst⟩
      · exact .inl ⟨p, hp, e⟩
    · exact .inr ⟨o, t.chg a o h1 h0 (fun z => by
        obtain ⟨_, o', e1, e2⟩ := z
        rw [h1] at e1
        cases e1
        exact h2 e2), h2⟩
/-- the tables have grown -/
theorem Gd.extN {K : PySem.W.Frag} {c : Cn} {S : Addr → Prop} {σ : L2.St} {H H1 : Hp} {Γ : Gm} (t : Gd K c S σ H Γ) (eN : LamX.ExtN H H1) (T1 : LamX.Tabs c.tb H1) (htb : c.tb ≠ []) (C : CnT c Γ) :
    ∃ S1, Rl S H S1 H1 ∧ (∀ a, S1 a → S a) ∧ Gd K c S1 σ H1 Γ := by
  have keep : ∀ a o, H a = some o → ¬ IsT o → H1 a = some o := fun a o h n => eN a o h fun ps z => n ⟨ps, z⟩
  have r : Rl S H (fun a => S a ∧ H1 a ≠ none) H1 := fun a o n h z => ⟨keep a o h z, fun q => n q.1⟩
  have tn : ∀ a, (∃ p ∈ c.tb, p.1 = a) → H1 a ≠ none := fun a ⟨p, hp, e⟩ => by
    obtain ⟨ps, h1, _⟩ := T1 p hp
    rw [← e, h1]
    simp
  have key : ∀ a o, c.H0 a = some o → ¬ c.T0 a → ¬ c.Tb a → H1 a = some o := fun a o h n nt => keep a o (t.chg a o h n nt) fun z => nt ⟨htb, o, h, z⟩
  refine ⟨_, r, fun a z => z.1, t.len, fun i e h => ?_, t.sep, t.loc, fun a z => ⟨t.sub a z, ?_⟩, fun a z => t.new a z.1, key, fun a z => z.2, fun a h nt => ?_, t.fix, T1, t.tbS⟩
  · obtain ⟨v, h1, h2⟩ := t.at_ i e h
    refine ⟨v, h1, ?_⟩
    cases e with
    | im d => exact Den.mono h2 r
    | ow l =>
      obtain ⟨b, xs, rfl, h3, h4, h5⟩ := h2
      have h6 := keep _ _ h4 nt_lst
      exact ⟨b, xs, rfl, ⟨h3, by rw [h6]; simp⟩, h6, h5.mono r⟩
    | od b kvs =>
      obtain ⟨rfl, h3, ks, h4, h5⟩ := h2
      have h6 := keep _ _ h4 nt_dT
      exact ⟨rfl, ⟨h3, by rw [h6]; simp⟩, ks, h6, h5.mono r⟩
  · rcases t.s0 C z with h | ⟨o, h1, h2⟩
    · exact tn a h
    · rw [keep a o h1 h2]; simp
  · by_cases h0 : c.T0 a
    · rcases h0 with ⟨p, hp, e⟩ | ⟨p, hp, e⟩
      · obtain ⟨l, hl⟩ := C.fx p hp
        obtain ⟨b, xs, g1, _, g3, _⟩ := t.ow hl
        have f := t.fix p hp
        rw [e] at f
        rw [f] at g1
        cases g1
        rw [keep _ _ g3 nt_lst]
        simp
      · exact tn a ⟨p, hp, e⟩
    · cases e : c.H0 a with
      | none => exact absurd e h
      | some o => rw [key a o e h0 nt]; simp
def unitR (r : Except Er D) : Except Er Unit := match r with
  | .ok _ => .ok ()
  | .error e => .error e
/-- x(lambda: body) -/
theorem ev_lam {X : Cx} {c : Cn} {Γ : Gm} {F : Fd} {rd : D} {r : Except Er D} {x a : Str} {g cc P : Addr} {k : Nat} {pg : Arguments} {bg : List Stmt} {sg : Scope} {dV kV doc pm cdv ct oc : Value} {an od : Option Addr} {osl : Array (Option Value)} {Ng : List Str}
    {params : Arguments} {body : Expr} {scope : Scope} {p lpos pos : Pos} (hg : Gl X x) (hm : X.mg x = some (.ref g)) (hk : PySem.W.keepIn X.K (.ref g) = true)
    (lk : X.K.lookup g = some ⟨oc, od, .func (PySem.W.fnOf x x pg bg sg dV kV doc pm an cdv ct), osl⟩) (hcg : PySem.W.codeIn X.K cdv x = true) (hb : L2.Binds X.K (PySem.W.fnOf x x pg bg sg dV kV doc pm an cdv ct) [a] []) (Sg : FnScope Ng [a] sg) (hNg : Ng[0]? = some a) (hva : Vis sg a)
    (hG : LamX.GivesTo X Ng x sg g cdv bg a (X.env.qual ++ "<lambda>") (TTd X.K F))
    (TB : LamX.TabB X.base X.mg cc P) (hcode : X.env.code = .ref cc) (hmT : (P, X.env.qual ++ "<lambda>") ∈ c.tb) (hu : ∀ p ∈ c.tb, p.1 = P → p.2 = X.env.qual ++ "<lambda>") (hr : RoomG (k + 2) X.A) (L : LamX.LamS X.env.scope scope) (hdef : defaultsOf params X.env = ([], []))
    (hbind : ∀ (q : Str) (cl : List (Str × Addr)) (pm cv ctv : Value), bindArgs (PySem.W.kla_fn "<lambda>" q params body scope cl pm cv ctv) ⟨[], []⟩ = pure [])
    (hbody : ∀ (A : Around) (outer : List Env) (s : Shared) (H : Hp) (E : XK) (f c' : Addr), RoomG k (A.deeper (LamX.lamEnv X scope s.heap.objs.size f c')) → Px (LamX.lamCx X A outer s H E scope f c') c Γ body r (cE E))
    (hF : F (unitR r) rd) (C : CnT c Γ)
    (hdb : (x == ("__debug__" : Str)) = false := by decide) (hd : (a == ("__debug__" : Str)) = false := by decide) (hcd : (a == ("__classdict__" : Str)) = false := by decide) :
    Ev X c Γ (.Call (.Name x p) [.Lambda params body scope lpos] [] pos) rd Γ := by
  refine PE.wk (lamcallG (T := c.tb) (t := fun E => tX X.K c Γ r (cE E)) hg hm hk lk hcg hb Sg hNg hva hG TB hcode hmT hu hr L hdef hbind hbody hdb hd hcd) fun σ H Q ⟨S, t, q⟩ => ⟨t.tab, fun H1 eN T1 => ?_⟩
  have htb : c.tb ≠ [] := fun z => by rw [z] at hmT; cases hmT
  obtain ⟨S1, r1, _, t1⟩ := t.extN eN T1 htb C
  refine ⟨S1, unitR r, rd, t1.dom, hF, ⟨S1, t1, fun d hd v H' e _ => ⟨e, by rw [hd]; rfl⟩, fun e0 hd cls dx H' e er => ⟨e, e0, by rw [hd]; rfl, er⟩⟩, fun v H' e d1 => q v S1 H' (r1.trans (.of e)) (t1.ext e) d1⟩
end Spr

set_option Elab.async false
set_option linter.all false
set_option maxRecDepth 100000
set_option maxHeartbeats 4000000
/-! repr; the law's def; defs by the head's facts. -/
namespace Spr
open PySem PySem.Spec PyProof.Rows L2
section
variable {X : Cx}
theorem cb_reprI {i : Int} (hz : i.natAbs.log2 < 1920) : Cb X (.builtin "repr") [.int i] (.str (toString i)) := ⟨_, SkE.call_repr_int, fun S H vs _ h Q q => by
  obtain ⟨v, rfl, h1⟩ := h.one
  exact ⟨i, by rw [h1.int_], hz, q _ H (Same.refl H) (.str _)⟩⟩
theorem call_repr_non : CallR X (.builtin "repr") (fun xs H Q => xs = [.non] ∧ Q (.str "None") H) := by
  intro pins s σ H xs us Q I r h
  obtain ⟨rfl, q⟩ := h
  obtain ⟨u, rfl, ru⟩ := Vals.one r
  cases ru
  exact PySem.P.repr_of_none ⟨.str _, H, I.tok _, ⟨_, rfl⟩, q⟩
theorem cb_reprN : Cb X (.builtin "repr") [.non] (.str "None") := ⟨_, call_repr_non, fun S H vs _ h Q q => by
  obtain ⟨v, rfl, h1⟩ := h.one
  exact ⟨by rw [h1.non_], q _ H (Same.refl H) (.str _)⟩⟩
end
section
variable {P : Program} {w : World} {K : PySem.W.Frag} {mg : Str → Option Value} {base : Heap}
/-- a def by its name -/
theorem mkFo {x : Str} {params : Arguments} {body : List Stmt} {scope : Scope} {f : Addr} {fd : FuncData} {ps : List Str} {k : Nat} {sp : Sp} {kws : List (Str × V)} (F : FunD K x x params body scope [] kws f fd) (ok : FnG P w K mg base (L2.CX P w) k f fd ps sp) (g : mg x = some (.ref f))
    (h : ∀ (kV doc pm : Value) (an : Option Addr) (cdv ct : Value) (us : List Value), us.length = ps.length → bindArgs (PySem.W.fnOf x x params body scope .none kV doc pm an cdv ct) ⟨us, []⟩ = pure (ps.zip us)) : Fo P w K mg base k x sp := ⟨f, fd, ps, ok, g, F.kp, F.bindsN h⟩
/-- the law: of a script of at most n whole numbers; its tables T -/
def spLaw (K : PySem.W.Frag) (T : List (Addr × Str)) (n : Nat) : Sp := fun vs H Q _ => ∃ (a : Addr) (ns : List Int), vs = [.ref a] ∧ ns.length ≤ n ∧ (∀ z ∈ ns, Builtin.Int.intBits z ≤ 1048576) ∧ SqL K H a (ns.map V.int) ∧ (∀ p ∈ T, H p.1 = some (.tbl #[])) ∧ ∀ H', Q (.bl true) H'
abbrev cLaw (H : Hp) (T : List (Addr × Str)) : Cn := ⟨fun a => ∃ p ∈ T, p.1 = a, H, T, []⟩
theorem den_ints {S : Addr → Prop} {H : Hp} {a : Addr} {ns : List Int} (h : SqL K H a (ns.map V.int)) (hn : (∃ xs, Rd H a (.lst xs)) → ¬ S a) : Den K S H (.ref a) (.lst (ns.map .int)) := by
  rcases h with h | h
  · exact .lst h (hn ⟨_, h⟩) (DenL.of_ints ns)
  · exact .lstK h (DenL.of_ints ns)
theorem mkLaw {stt : Stmt} {f cc : Addr} {N : List Str} {k n : Nat} {T : List (Addr × Str)} {dV kV doc pm ct oc : Value} {an od : Option Addr} {osl : Array (Option Value)}
    (lk : K.lookup f = some ⟨oc, od, .func (PySem.W.fnOf "law" "law" (defArgs stt) (defBody stt) (defScope stt) dV kV doc pm an (.ref cc) ct), osl⟩) (hcd : PySem.W.codeIn K (.ref cc) "law" = true) (Sc : FnScope N ["script"] (defScope stt))
    (hb : ∀ (A : Around) (outer : List Env) (s : Shared) (H : Hp) (E : XK) (H0 : Hp) (ns : List Int), RoomG k (Bx P w K mg base N "law" (defScope stt) f (.ref cc) A outer s H E).A → ns.length ≤ n → (∀ z ∈ ns, Builtin.Int.intBits z ≤ 1048576) →
      Bl (Bx P w K mg base N "law" (defScope stt) f (.ref cc) A outer s H E) (cLaw H0 T) (gm0 N.length [.im (.lst (ns.map .int))]) (defBody stt) { nx := fun _ => False, rt := fun en _ => toD en = .bl true }) :
    FnG P w K mg base (L2.CX P w) (k + 1) f (PySem.W.fnOf "law" "law" (defArgs stt) (defBody stt) (defScope stt) dV kV doc pm an (.ref cc) ct) ["script"] (spLaw K T n) := by
  refine fn_ofG lk hcd Sc (fun vs H Q E ⟨a, ns, e, _⟩ => by rw [e]; rfl) (fun A outer s H vs Q E hr ⟨a, ns, e, hl, hz, hs, hT, hQ⟩ => ⟨_, hb A outer s H E H ns hr hl hz, ?_⟩)
  subst e
  have nS : (∃ xs, Rd H a (.lst xs)) → ¬ (∃ p ∈ T, p.1 = a) := fun ⟨xs, hs⟩ ⟨p, hp, e⟩ => by
    have q := hT p hp
    rw [e] at q
    rcases hs with h | ⟨o, h⟩
    · rw [q] at h; cases h
    · rw [q] at h; cases h
  have hd : ∀ a, (∃ p ∈ T, p.1 = a) → H a ≠ none := fun a ⟨p, hp, e⟩ => by rw [← e, hT p hp]; simp
  have g := gd_start (K := K) (N := N) (ds := [.lst (ns.map .int)]) hd (.cons (den_ints hs nS) .nil)
  refine ⟨_, ⟨g.len, g.at_, g.sep, g.loc, g.sub, fun a z => .inl z, fun a o z _ _ => z, g.dom, fun a z _ => z, g.fix, fun p hp => LamX.TabS.nil (hT p hp), fun p hp => ⟨p, hp, rfl⟩⟩, ⟨fun _ _ _ _ _ _ z => z.elim, fun v σ' H' S' Γ' en r' g rs hn => ?_, fun _ _ _ _ _ _ z => z.elim, fun _ _ _ _ _ _ z => z.elim⟩⟩
  have h := rs.den g
  rw [hn] at h
  rw [h.bl_]
  exact hQ H'
end
end Spr

set_option Elab.async false
set_option linter.all false
set_option maxRecDepth 100000
set_option maxHeartbeats 4000000
/-! Small help: blocks of comprehensions by a Bool, == of lists of ints. -/
namespace Spr
open PySem PySem.Spec PyProof.Rows L2
def blkB (N : List Str) (sc scope : Scope) (own : List (Str × Nat)) : Bool :=
  decide (scope.kind = .function) && (scope.names.all (fun y => decide (scope.names.lookup y.1 = some y.2)) && (own.all (fun p => decide (N[p.2]? = some p.1)) &&
  (scope.names.all (fun y => !decide (y.2 = .free) || (decide (sc.names.lookup y.1 = some .cell) || decide (sc.names.lookup y.1 = some .free))) && scope.names.all (fun y => !(decide (y.2 = .local) || decide (y.2 = .cell)) || ((own.map (·.1)).contains y.1 || !N.contains y.1)))))
theorem blkB_ok {N : List Str} {sc scope : Scope} {own : List (Str × Nat)} (h : blkB N sc scope own = true) : BlkOk N sc scope own := by
  unfold blkB at h
  simp only [Bool.and_eq_true, Bool.or_eq_true, Bool.not_eq_true', decide_eq_true_eq, decide_eq_false_iff_not, List.all_eq_true, List.contains_iff_mem] at h
  obtain ⟨h1, h2, h3, h4, h5⟩ := h
  refine ⟨h1, h2, h3, fun y hy e => ?_, fun y hy e => ?_⟩
  · rcases h4 y hy with z | z
    · exact absurd e z
    · exact z
  · rcases h5 y hy with z | z | z
    · rcases e with e | e
      · rw [e] at z; simp at z
      · rw [e] at z; simp at z
    · exact .inl z
    · exact .inr (by simpa using z)
theorem eqv_ints : ∀ (a b : List Int), PyData.eqv (.list (toPyL (a.map .int))) (.list (toPyL (b.map .int))) = decide (a = b)
  | [], [] => by simp [toPyL, PyData.eqv, PyData.eqvAll]
  | [], b :: bs => by simp [toPyL, PyData.eqv, PyData.eqvAll]
  | a :: as, [] => by simp [toPyL, PyData.eqv, PyData.eqvAll]
  | a :: as, b :: bs => by
    have ih := eqv_ints as bs
    simp only [PyData.eqv] at ih
    simp only [List.map, toPyL, PyData.eqv, PyData.eqvAll, toPy]
    rw [ih]
    by_cases h : a = b <;> simp [h]
theorem deq_ints (a b : List Int) : deq (.lst (a.map .int)) (.lst (b.map .int)) = decide (a = b) := eqv_ints a b
end Spr
namespace Spr
open PySem PySem.Spec PyProof.Rows L2
/-- list + list that are tracked -/
def rCatS : R2 := fun x y H Q => ∃ l b xs zs, x = .ref l ∧ y = .ref b ∧ Rd H l (.lst xs) ∧ Rd H b (.lst zs) ∧ xs.length + zs.length ≤ sizeLine ∧ ∀ p, H p = none → Q (.ref p) (upd H p (.lst (xs ++ zs)))
theorem op_catS {X : Cx} : OpR X (binaryOp .Add) rCatS := by
  intro pins s σ H x y v u Q I rx ry h
  obtain ⟨l, b, xs, zs, rfl, rfl, hH, hB, hz, q⟩ := h
  cases rx
  cases ry
  obtain ⟨z, its, n, r, e⟩ := hH.ok I.hok
  obtain ⟨z2, its2, n2, r2, e2⟩ := hB.ok I.hok
  have l1 := r.length
  have l2 := r2.length
  refine PySem.P.add_list e e2 ?_ (by rw [List.size_toArray, List.size_toArray]; omega)
  have ea : its.toArray ++ its2.toArray = (its ++ its2).toArray := by simp
  rw [ea]
  exact ⟨.ref _, _, I.lnew (t' := s.toks) (r.append r2) (by rw [List.length_append]; omega), rfl, q _ I.fresh⟩
section
variable {X : Cx} {c : Cn} {Γ Γ1 : Gm} {a b e : Expr} {es : List Expr} {pos p : Pos} {da db dc d : D} {Po : Post} {x : Str} {k j : Nat} {E : WX} {st : Stmt}
/-- xs + ys, a new list -/
theorem n_add {l m : List D} (ha : Pe X c Γ a (.tl l)) (hb : Pe X c Γ b (.tl m)) (hz : l.length + m.length ≤ 16000000 := by simp) : Pn X c Γ (.BinOp a .Add b pos) (l ++ m) :=
  PE.wk (pe_op op_catS ha hb) fun σ H Q ⟨S, t, q⟩ => ⟨S, t, fun v H1 e1 d1 => ⟨S, t.ext e1, fun w H2 e2 d2 => by
    obtain ⟨p1, xs, rfl, h1, _, k1⟩ := (d1.ext e2).tl_
    obtain ⟨p2, ys, rfl, h2, _, k2⟩ := d2.tl_
    exact ⟨p1, p2, xs, ys, rfl, rfl, h1, h2, by rw [k1.length, k2.length]; exact small_line hz, fun p hp => q p _ _ ((e1.trans e2).trans (same_new hp)) ((e1.trans e2).free hp) upd_same ((k1.append k2).on hp)⟩⟩⟩
/-! ### expressions that raise -/
theorem pa_false : ∀ {es : List Expr}, PA X es (fun _ _ _ => False) := ⟨fun _ _ _ _ _ _ _ z => z.elim⟩
theorem pe_false {e : Expr} : PE X e (fun _ _ _ => False) := ⟨fun _ _ _ _ _ _ z => z.elim⟩
/-- [e, ..], the first raises -/
theorem x_lstF {e0 : Er} (h : Px X c Γ a (.error e0) E) (hs : starEach (a :: es) X.env = (false, eval a X.env) :: starEach es X.env := by rfl) : Px X c Γ (.List (a :: es) pos) (.error e0) E :=
  PE.wk (pe_lst (pa_cons h pa_false hs)) fun σ H Q ⟨S, t, _, q⟩ => ⟨S, t, (fun d hd => nomatch hd), q⟩
/-- e op e', the first raises -/
theorem x_binF {op : Operator} {r : R2} {e0 : Er} (ho : OpR X (binaryOp op) r) (h : Px X c Γ a (.error e0) E) : Px X c Γ (.BinOp a op b pos) (.error e0) E :=
  PE.wk (pe_op ho h pe_false) fun σ H Q ⟨S, t, _, q⟩ => ⟨S, t, (fun d hd => nomatch hd), q⟩
/-- x = e, e raises -/
theorem s_setF (i : Nat) {er : Er → Gm → Prop} {e0 : Er} {pos' : Pos} (hx : Xr X c er) (he : ∀ W, Takes X W → Px X c Γ e (.error e0) W) (h : er e0 Γ) (hN : X.N.Nodup) (hi : X.N[i]? = some x := by rfl) (hl : Loc X.env.scope x := by first | exact Or.inl rfl | exact Or.inr rfl)
    (hs : swapsWith e (some (.Name x pos')) pos.line X.env = pure false := by rfl) (hfn : X.fn x = true ∨ X.env.scope.names.lookup x = some .local := by first | exact .inl rfl | exact .inr rfl) : Sm X c Γ (.Assign [.Name x pos'] e pos) Po := by
  obtain ⟨W, tk, hW⟩ := hx
  exact PS.wk (ps_set hN hi hl (he W tk) hs hfn) fun D σ H ⟨S, t, _⟩ => ⟨S, t, (fun d hd => nomatch hd), fun e hd cls dx H' e1 er1 => by cases hd; exact hW e0 S σ H' Γ cls dx (t.ext e1) er1 h⟩
theorem s_retF {er : Er → Gm → Prop} {e0 : Er} (hx : Xr X c er) (he : ∀ W, Takes X W → Px X c Γ e (.error e0) W) (h : er e0 Γ) : Sm X c Γ (.Return (some e) pos) Po := by
  obtain ⟨W, tk, hW⟩ := hx
  exact PS.wk (ps_ret (he W tk)) fun D σ H ⟨S, t, _⟩ => ⟨S, t, (fun d hd => nomatch hd), fun e hd cls dx H' e1 er1 => by cases hd; exact hW e0 S σ H' Γ cls dx (t.ext e1) er1 h⟩
end
end Spr

namespace Spr
open PySem PySem.Spec PyProof.Rows L2
section
variable {X : Cx} {c : Cn} {Γ : Gm} {a b e : Expr} {pos p2 : Pos} {Po : Post} {α : Type} {elt iter tgx : Expr} {ifs : List Expr} {scope : Scope} {own : List (Str × Nat)} {ppos lpos : Pos} {y x : Str} {xs : List α} {enc : α → D} {f : α → D} {pr : α → Bool} {j : Nat}
/-- x = [elt for y in a list], on one line; the slot gets what `en` says: a list of one's own, or a thing that is tracked -/
theorem s_setLcL (i : Nat) {px : Pos} (enc : α → D) (f : α → D) (pr : α → Bool) (hi : Pe X c Γ iter (.lst (xs.map enc))) (hz : xs.length ≤ 16000000) (ok : BlkOk X.N X.env.scope scope own) (hg : InBlk X scope fun X' => PG X' (.Name y ppos) (gName j))
    (ht : ∀ x, x ∈ xs → InBlk X scope fun X' => PTs X' ifs (tQ X.K c ((wipeG Γ (own.map (·.2))).set j (some (.im (enc x)))) (pr x))) (he : ∀ x, x ∈ xs → pr x = true → InBlk X scope fun X' => Pe X' c ((wipeG Γ (own.map (·.2))).set j (some (.im (enc x)))) elt (f x))
    (hr : Po.nx (Γ.set i (some (.ow ((xs.filter pr).map f)))) ∨ Po.nx (Γ.set i (some (.im (.lst ((xs.filter pr).map f)))))) (hN : X.N.Nodup) (hsw : swapsWith (.ListComp elt [⟨.Name y ppos, iter, ifs, 0⟩] scope lpos) (some (.Name x px)) pos.line X.env = pure true := by rfl) (hxi : X.N[i]? = some x := by rfl) (hxl : X.env.scope.names.lookup x = some .local := by rfl) (hc : X.calm = true := by rfl) (hf : ((own.map (·.2)).all fun v => fxB c.fx v) = true := by rfl) (hfi : fxB c.fx i = true := by rfl) (hj : j ∈ own.map (·.2) := by decide) (hs : ∀ x, foldedSetIterable iter X.env x = pure x := by intro _; rfl) :
    Sm X c Γ (.Assign [.Name x px] (.ListComp elt [⟨.Name y ppos, iter, ifs, 0⟩] scope lpos) pos) Po :=
  PS.wk (ps_setLc hc hN hxi hxl hsw (pi_list hi) ok hg (in_tst ht) (in_elt he) hs) fun D σ H h => tAsg_n (fun σ H Q h => lcL_read (fun S t Q' q => ⟨S, t, q⟩) hz (wfx hf) hj h) hfi hr h
end
end Spr
namespace Spr
open PySem PySem.Spec PyProof.Rows L2
def excCB (K : PySem.W.Frag) (D : Addr) : Bool := He.eqO (PySem.W.findIn K (.ref D) "__getattribute__") (some (some (.builtin "BaseException.__getattribute__"))) && (He.eqO (PySem.W.findIn K (.ref D) "__getattr__") (some none) && (decide (PySem.W.subIn K (.ref D) (.type "BaseException") = some true) && (PySem.W.hasDictIn K D &&
  (He.eqO (PySem.W.findIn K (.ref D) "__class__") (some (some (.builtin "object.__class__"))) && (He.eqO (PySem.W.specialIn K (.builtin "object.__class__") "__get__") (some (some (.builtin "getset_descriptor.__get__"))) && (decide (PySem.W.takesIn K (.builtin "object.__class__") = some true) && decide (PySem.W.mroIn K D (.type "object") = some true)))))))
theorem excCB_ok {K : PySem.W.Frag} {D : Addr} (h : excCB K D = true) : ExcC K D := by
  unfold excCB at h
  obtain ⟨h1, h⟩ := He.ba h
  obtain ⟨h2, h⟩ := He.ba h
  obtain ⟨h3, h⟩ := He.ba h
  obtain ⟨h4, h⟩ := He.ba h
  obtain ⟨h5, h⟩ := He.ba h
  obtain ⟨h6, h⟩ := He.ba h
  obtain ⟨h7, h8⟩ := He.ba h
  exact ⟨He.eqO_ok h1, He.eqO_ok h2, of_decide_eq_true h3, h4, He.eqO_ok h5, He.eqO_ok h6, of_decide_eq_true h7, of_decide_eq_true h8⟩
/-- isinstance(e, c) in the suite that holds the error e of class D, without a dict -/
theorem cb_isE {X : Cx} {a D0 : Addr} {oe : Obj} {pn : List (Addr × Obj)} {v : V} {cv : Value} {b : Bool} (C : ExcC X.K D0) (hz : Zc (.ref D0) none oe) (hf : ∃ vs, oe.data = .fields vs) (hv : ∀ u, RelV v u → u = cv) (hk : PySem.W.kitOne X.K (.ref D0) cv = some b) :
    Cb (X.suite a ((a, oe) :: pn)) (.builtin "isinstance") [.raw (.ref a), .raw v] (.bl b) := ⟨_, call_isE C hz hf, fun S H vs _ h Q q => by
  obtain ⟨x, y, rfl, h1, h2⟩ := h.two
  exact ⟨v, cv, b, by rw [h1.raw_, h2.raw_], hv, hk, q _ H (Same.refl H) (.bl _)⟩⟩
end Spr

set_option Elab.async false
set_option linter.all false
set_option maxRecDepth 100000
set_option maxHeartbeats 4000000
/-! A lambda that may change lists of its maker's, handed to a def that calls it within try. -/
namespace Spr
open PySem PySem.Spec PyProof.Rows L2

/-- the expression comes to r; the lists of one's own are then as in Γ' -/
def tXE (K : PySem.W.Frag) (c : Cn) (Γ : Gm) (r : Except Er D) (Γ' : Gm) (W : WX) : TE := fun σ H Q => ∃ S, Gd K c S σ H Γ ∧ (∀ d, r = .ok d → ∀ v S' H', Rl S H S' H' → Gd K c S' σ H' Γ' → Den K S' H' v d → Q v H') ∧
  (∀ e, r = .error e → ∀ cls dx S' H', Rl S H S' H' → Gd K c S' σ H' Γ' → ErrAt e cls dx H' → W cls dx σ H')
abbrev PxE (X : Cx) (c : Cn) (Γ : Gm) (e : Expr) (r : Except Er D) (Γ' : Gm) (W : WX) : Prop := PE X e (tXE X.K c Γ r Γ' W)
section
variable {X : Cx} {c : Cn} {Γ Γ1 : Gm} {a b e : Expr} {es : List Expr} {pos p apos cpos : Pos} {da db dc d : D} {Po : Post} {x : Str} {k j : Nat} {E : XK} {W : WX}
theorem xe_x {r : Except Er D} (h : Px X c Γ e r W) : PxE X c Γ e r Γ W := PE.wk h fun σ H Q ⟨S, t, q1, q2⟩ => ⟨S, t, fun d hd v H' e d1 => q1 d hd v S H' (.of e) (t.ext e) d1, fun e0 hd cls dx H' e er => q2 e0 hd cls dx S H' (.of e) (t.ext e) er⟩
/-- f(..) by its name, its arguments may change lists of one's own -/
theorem xe_call {F : Fs} {ds : List D} {r : Except Er D} (tk : Takes X W) (G : FoX X k x F) (hr : RoomG j X.A) (ha : Ea X c Γ (e :: es) ds Γ1) (hF : F ds r) (hk : k ≤ j := by decide) (hg : Gl X x := by rfl)
    (hdb : (x == ("__debug__" : Str)) = false := by decide) (he : starEach (e :: es) X.env = (false, eval e X.env) :: starEach es X.env := by rfl) (hpl : (backTo pos (starEach es X.env)).any (·.1) = false := by rfl) : PxE X c Γ (.Call (.Name x p) (e :: es) [] pos) r Γ1 W := by
  obtain ⟨f, fd, ps, h1, h3, h4, h5⟩ := G.ex
  refine PE.wk (callSG h1 (hr.mono hk) hg h3 h4 h5 (fun σ => passAt tk σ) ha hdb he hpl) fun σ H Q ⟨S, t, q1, q2⟩ => ⟨S, t, fun vs S1 H1 r1 t1 d1 => ?_⟩
  exact ⟨S1, ds, r, t1.dom, d1, hF, fun d' hd v H2 e2 d2 => q1 d' hd v S1 H2 (r1.trans (.of e2)) (t1.ext e2) d2, fun e0 hd cls dx H2 e2 er2 => q2 e0 hd cls dx S1 H2 (r1.trans (.of e2)) (t1.ext e2) er2⟩
end
def TTe (K : PySem.W.Frag) (F : Fd) : (XK → Hp → VK → Prop) → Hp → VK → Prop := fun tl H Q => ∃ (r : Except Er Unit) (rd : D) (E' : XK) (Q' : VK), F r rd ∧ tl E' H Q' ∧
  (∀ cls dx H', E' cls dx H' → ∃ (e : Er) (S : Addr → Prop), r = .error e ∧ ErrAt e cls dx H' ∧ (∀ a, S a → H' a ≠ none) ∧ ∀ v H2, Same H' H2 → Den K S H2 v rd → Q v H2) ∧
  (∀ v H', Q' v H' → ∃ (S : Addr → Prop), r = .ok () ∧ (∀ a, S a → H' a ≠ none) ∧ ∀ v H2, Same H' H2 → Den K S H2 v rd → Q v H2)
/-- try: a() / except xe as n: suite / rest -/
theorem said_givesE {X : Cx} {Ng : List Str} {x a xe n q : Str} {sg : Scope} {g CS : Addr} {cdg : Value} {p1 p2 p3 p4 p5 p6 : Pos} {b0 : Stmt} {suite rest : List Stmt} {F : Fd} (i : Nat)
    (hge : sg.names.lookup xe = some .globalImplicit) (hme : X.mg xe = some (.ref CS)) (hde : (xe == ("__debug__" : Str)) = false) (hNg : Ng.Nodup) (hi : Ng[i]? = some n) (hln : sg.names.lookup n = some .local)
    (hcat : ∀ e rd, F (.error e) rd → PySem.W.exmOne X.K (.ref e.C) (.ref CS) = some true)
    (hsu : ∀ (s : Shared) (H H2 : Hp) (S : Addr → Prop) (e : Er) (rd : D) (b : Addr) (oe : Obj) (dx : Option Addr) (pn : List (Addr × Obj)), F (.error e) rd → Zc (.ref e.C) dx oe → (e.fs = [] → dx = none) → (∃ vs, oe.data = .fields vs) →
      Bl ((Sx X Ng x sg g cdg s H).suite b ((b, oe) :: pn)) ⟨S, H2, [], []⟩ (gmS Ng.length i b) (b0 :: suite) { nx := fun _ => False, rt := fun en _ => toD en = rd })
    (hre : ∀ (s : Shared) (H H2 : Hp) (f : Addr) (S : Addr → Prop) (rd : D), F (.ok ()) rd → Bl (Sx X Ng x sg g cdg s H) ⟨S, H2, [], []⟩ (gm0 Ng.length [.im (.raw (.ref f))]) rest { nx := fun _ => False, rt := fun en _ => toD en = rd })
    (hsw2 : ∀ s H, swapsWith (.Call (.Name a p1) [] [] p2) none p3.line (Sx X Ng x sg g cdg s H).env = pure false := by intro _ _; rfl) :
    LamX.GivesTo X Ng x sg g cdg (.Try [.Expr (.Call (.Name a p1) [] [] p2) p3] [.ExceptHandler (some (.Name xe p4)) (some n) (b0 :: suite) p5] [] [] p6 :: rest) a q (TTe X.K F) := by
  intro f c' s H Q tl act hc h
  obtain ⟨r, rd, E', Q', hF, htl, hE, hQ⟩ := h
  have hs0 : (L2.start Ng [V.ref f])[0]? = some (some (V.ref f)) := by
    unfold L2.start
    rfl
  have fin2 : ∀ (S S1 : Addr → Prop) (H1 : Hp) (D : Ends), D.rt = Q → (∀ v H2, Same H1 H2 → Den X.K S H2 v rd → Q v H2) → Fin X.K ⟨S, H1, [], []⟩ S1 H1 { nx := fun _ => False, rt := fun en _ => toD en = rd } D := fun S S1 H1 D e hq => ⟨fun _ _ _ _ _ _ z => z.elim, fun v σ' H' S' Γ' en _ g rs hn => by
    rw [e]
    exact hq v H' (fun b o z => g.chg b o z (by rintro (⟨p, hp, _⟩ | ⟨p, hp, _⟩) <;> cases hp) (fun nt => nt.1 rfl)) (hn ▸ rs.den g), fun _ _ _ _ _ _ z => z.elim, fun _ _ _ _ _ _ z => z.elim⟩
  refine ⟨_, pss_cons (ps_try_as (X := Sx X Ng x sg g cdg s H) (i := i) (c := .ref CS) (tb := fun W D σ H2 => ∃ (Ech : XK) (Q' : VK), (∀ cls d σ' H', Ech cls d H' → W cls d σ' H') ∧ σ[0]? = some (some (.ref f)) ∧ H2 c' = some (LamX.CodeO c' q) ∧ tl Ech H2 Q' ∧ ∀ v H', Q' v H' → D.nx σ H')
      (ts := fun b cls d D σ H2 => ∃ (e : Er) (S : Addr → Prop), cls = .ref e.C ∧ (e.fs = [] → d = none) ∧ F (.error e) rd ∧ (σ.length = Ng.length → tB X.K ⟨S, H2, [], []⟩ (gmS Ng.length i b) { nx := fun _ => False, rt := fun en _ => toD en = rd } D σ H2))
      rfl rfl hNg hi hln ⟨hge, hde, .inl hme⟩ LamX.takes0 (fun W pn xe' tk _ => pss_one ?_) (fun b oe cls d pn hz hf => ⟨fun pins s' σ H' D I ⟨e, S, e1, e2, e3, q⟩ => ?_⟩)) (⟨fun pins s' σ H' D I ⟨S, hF, q⟩ => (hre s H H' f S rd hF).run pins s' σ H' D I q⟩ : PSs _ rest (fun D σ H2 => ∃ S : Addr → Prop, F (.ok ()) rd ∧ tB X.K ⟨S, H2, [], []⟩ (gm0 Ng.length [.im (.raw (.ref f))]) { nx := fun _ => False, rt := fun en _ => toD en = rd } D σ H2)), ?_⟩
  · refine ⟨fun pins s' σ H' D I h' => ?_⟩
    obtain ⟨Ech, Q', hW, h1, h2, h3, h4⟩ := h'
    have hp := act W pn xe' Ech p1 p2 tk hW
    exact (ps_expr (pos := p3) (PE.mono hp) (hsw2 s H)).run pins s' σ H' D I ⟨Q', ⟨h1, h2, h3⟩, h4⟩
  · subst e1
    exact (hsu s H H' S e rd b oe d pn e3 hz e2 hf).run pins s' σ H' D I (q I.len)
  · refine ⟨E', Q', fun cls d σ' H' z => ?_, hs0, hc, htl, fun v H' z => ?_⟩
    · obtain ⟨e, S, er, ea, hd, hq⟩ := hE cls d H' z
      have ec := ea.1
      subst er
      rw [ec]
      refine ⟨true, hcat e rd hF, fun _ b hb => ⟨e, S, rfl, fun hfs => ?_, hF, fun hl => ?_⟩, fun z => by cases z⟩
      · rcases ea.2 with ⟨_, z⟩ | ⟨z, _⟩
        · exact z
        · exact absurd hfs z
      · refine ⟨S, gd_any hl ?_ (Same.refl H') hd, fin2 S S H' _ rfl hq⟩
        rw [List.getElem?_set_self]
        have hlt := (List.getElem?_eq_some_iff.mp hi).1
        rw [List.length_set] at hl
        rw [hl]
        exact hlt
    · obtain ⟨S, er, hd, hq⟩ := hQ v H' z
      subst er
      exact ⟨S, hF, S, gd_start (ds := [.raw (.ref f)]) hd (.cons (.raw _) .nil), fin2 S S H' _ rfl hq⟩
/-- x(lambda: body) -/
theorem ev_lamE {X : Cx} {c : Cn} {Γ Γ' : Gm} {F : Fd} {rd : D} {r : Except Er D} {x a : Str} {g cc P : Addr} {k : Nat} {pg : Arguments} {bg : List Stmt} {sg : Scope} {dV kV doc pm cdv ct oc : Value} {an od : Option Addr} {osl : Array (Option Value)} {Ng : List Str}
    {params : Arguments} {body : Expr} {scope : Scope} {p lpos pos : Pos} (hg : Gl X x) (hm : X.mg x = some (.ref g)) (hk : PySem.W.keepIn X.K (.ref g) = true)
    (lk : X.K.lookup g = some ⟨oc, od, .func (PySem.W.fnOf x x pg bg sg dV kV doc pm an cdv ct), osl⟩) (hcg : PySem.W.codeIn X.K cdv x = true) (hb : L2.Binds X.K (PySem.W.fnOf x x pg bg sg dV kV doc pm an cdv ct) [a] []) (Sg : FnScope Ng [a] sg) (hNg : Ng[0]? = some a) (hva : Vis sg a)
    (hG : LamX.GivesTo X Ng x sg g cdv bg a (X.env.qual ++ "<lambda>") (TTe X.K F))
    (TB : LamX.TabB X.base X.mg cc P) (hcode : X.env.code = .ref cc) (hmT : (P, X.env.qual ++ "<lambda>") ∈ c.tb) (hu : ∀ p ∈ c.tb, p.1 = P → p.2 = X.env.qual ++ "<lambda>") (hr : RoomG (k + 2) X.A) (L : LamX.LamS X.env.scope scope) (hdef : defaultsOf params X.env = ([], []))
    (hbind : ∀ (q : Str) (cl : List (Str × Addr)) (pm cv ctv : Value), bindArgs (PySem.W.kla_fn "<lambda>" q params body scope cl pm cv ctv) ⟨[], []⟩ = pure [])
    (hbody : ∀ (A : Around) (outer : List Env) (s : Shared) (H : Hp) (E : XK) (f c' : Addr), RoomG k (A.deeper (LamX.lamEnv X scope s.heap.objs.size f c')) → PxE (LamX.lamCx X A outer s H E scope f c') c Γ body r Γ' (cE E))
    (hF : F (unitR r) rd) (C : CnT c Γ)
    (hdb : (x == ("__debug__" : Str)) = false := by decide) (hd : (a == ("__debug__" : Str)) = false := by decide) (hcd : (a == ("__classdict__" : Str)) = false := by decide) :
    Ev X c Γ (.Call (.Name x p) [.Lambda params body scope lpos] [] pos) rd Γ' := by
  refine PE.wk (lamcallG (T := c.tb) (t := fun E => tXE X.K c Γ r Γ' (cE E)) hg hm hk lk hcg hb Sg hNg hva hG TB hcode hmT hu hr L hdef hbind hbody hdb hd hcd) fun σ H Q ⟨S, t, q⟩ => ⟨t.tab, fun H1 eN T1 => ?_⟩
  have htb : c.tb ≠ [] := fun z => by rw [z] at hmT; cases hmT
  obtain ⟨S1, r1, _, t1⟩ := t.extN eN T1 htb C
  refine ⟨unitR r, rd, fun cls dx H' => ∃ S', Rl S1 H1 S' H' ∧ Gd X.K c S' σ H' Γ' ∧ ∃ e, r = .error e ∧ ErrAt e cls dx H', fun v H' => ∃ S', Rl S1 H1 S' H' ∧ Gd X.K c S' σ H' Γ' ∧ ∃ d, r = .ok d, hF,
    ⟨S1, t1, fun d hd v S' H' r2 t2 _ => ⟨S', r2, t2, d, hd⟩, fun e0 hd cls dx S' H' r2 t2 er => ⟨S', r2, t2, e0, hd, er⟩⟩, fun cls dx H' ⟨S', r2, t2, e0, hd, er⟩ => ⟨e0, S', by rw [hd]; rfl, er, t2.dom, fun v H2 e2 d2 => q v S' H2 ((r1.trans r2).trans (.of e2)) (t2.ext e2) d2⟩,
    fun v H' ⟨S', r2, t2, d, hd⟩ => ⟨S', by rw [hd]; rfl, t2.dom, fun v H2 e2 d2 => q v S' H2 ((r1.trans r2).trans (.of e2)) (t2.ext e2) d2⟩⟩

/-! ### more statements, built-ins -/
section
variable {X : Cx} {c : Cn} {Γ Γ1 Γ2 : Gm} {a b e e3 : Expr} {es : List Expr} {pos p apos cpos : Pos} {da db dc d : D} {Po : Post} {x : Str} {k j : Nat} {rest A B body : List Stmt}
theorem cb_reprB {k : Bool} : Cb X (.builtin "repr") [.bl k] (.str (if k then "True" else "False")) := by
  have hc : CallR X (.builtin "repr") (fun xs H Q => xs = [.bl k] ∧ Q (.str (if k then "True" else "False")) H) := by
    intro pins s σ H xs us Q I r h
    obtain ⟨rfl, q⟩ := h
    obtain ⟨u, rfl, ru⟩ := Vals.one r
    cases ru
    exact PySem.P.repr_of_bool ⟨.str _, H, I.tok _, ⟨_, rfl⟩, q⟩
  exact ⟨_, hc, fun S H vs _ h Q q => by
    obtain ⟨v, rfl, h1⟩ := h.one
    exact ⟨by rw [h1.bl_], q _ H (Same.refl H) (.str _)⟩⟩
/-- xs.append(e), e may change lists of one's own -/
theorem s_appE (k : Nat) {l : List D} {d : D} {p1 p2 p3 : Pos} (he : Ev X c Γ e d Γ1) (hk : ∃ l0, Γ[k]? = some (some (.ow l0))) (hk1 : Γ1[k]? = some (some (.ow l))) (hz : l.length < 16000000) (hr : Po.nx (Γ1.set k (some (.ow (l ++ [d]))))) (hN : X.N[k]? = some x := by rfl) (hv : Vis X.env.scope x := by first | exact Or.inl rfl | exact Or.inr (Or.inl rfl) | exact Or.inr (Or.inr rfl))
    (hd : (x == ("__debug__" : Str)) = false := by decide) (hcd : (x == ("__classdict__" : Str)) = false := by decide) (hst : starEach [e] X.env = (false, eval e X.env) :: starEach [] X.env := by rfl) {o : Expr} (ho : o = .Call (.Attribute (.Name x p1) "append" p2) [e] [] p3 := by rfl)
    (hbm : ∀ ta, PA X [e] ta → PE X o (tBM X.K "list" rAppend (tVar k) ta)) (hs : swapsWith o none pos.line X.env = pure false := by rfl) : Sm X c Γ (.Expr o pos) Po :=
  PS.wk (ps_expr (hbm _ (ea_cons he ea_nil hst)) hs) fun D σ H ⟨S, t, q⟩ => by
    obtain ⟨l0, hk0⟩ := hk
    obtain ⟨a, xs, h1, h2, h3, h4⟩ := t.ow hk0
    refine ⟨.ref a, h1, .inl ⟨rfl, xs, SqL.of h3⟩, S, t, fun vs S1 H1 r1 t1 d1 => ?_⟩
    obtain ⟨v, rfl, h5⟩ := d1.one
    obtain ⟨a', xs', g1, g2, g3, g4⟩ := t1.ow hk1
    have ea : a' = a := by rw [h1] at g1; cases g1; rfl
    subst ea
    refine ⟨a', xs', v, rfl, rfl, g3, by rw [g4.length]; exact Nat.lt_trans hz (by decide), ?_⟩
    exact q.nx σ _ S1 _ (r1.trans (rl_upd g2)) (t1.change hk1 h1 g2 g3 (g4.append (.cons h5 .nil))) hr
/-- x = [e, ..], a list of one's own; its items may change others -/
theorem s_setOE (i : Nat) {ds : List D} {pos' lp : Pos} (he : Ea X c Γ es ds Γ1) (hr : Po.nx (Γ1.set i (some (.ow ds)))) (hN : X.N.Nodup) (hl : ds.length ≤ 16000000 := by simp) (hi : X.N[i]? = some x := by rfl) (hx : Loc X.env.scope x := by first | exact Or.inl rfl | exact Or.inr rfl) (hf : fxB c.fx i = true := by rfl)
    (hs : swapsWith (.List es lp) (some (.Name x pos')) pos.line X.env = pure false := by rfl) (hfn : X.fn x = true ∨ X.env.scope.names.lookup x = some .local := by first | exact .inl rfl | exact .inr rfl) : Sm X c Γ (.Assign [.Name x pos'] (.List es lp) pos) Po :=
  PS.wk (ps_set hN hi hx (pe_lst he) hs hfn) fun D σ H ⟨S, t, q⟩ => ⟨S, t, fun vs S1 H1 r1 t1 d1 => ⟨by rw [d1.length]; exact small_line hl, fun p hp => q.nx _ _ _ _ (r1.trans (rl_more hp (same_new hp))) (t1.setOw hp (same_new hp) upd_same (d1.on hp) (fxB_ok hf)) hr⟩⟩
/-- [..] * n -/
theorem n_rep {l : List D} {n : Int} (ha : Pe X c Γ a (.tl l)) (hb : Pe X c Γ b (.int n)) (h0 : 0 ≤ n) (h1 : l.length * n.toNat ≤ 16000000) (hn : n < 2 ^ 62) : True := trivial
end
/-! ### == of a thing and itself -/
mutual
theorem eqv_refl : ∀ d : D, PyData.eqv (toPy d) (toPy d) = true
  | .non => by simp [toPy, PyData.eqv]
  | .bl b => by simp [toPy, PyData.eqv]
  | .int i => by simp [toPy, PyData.eqv]
  | .str s => by simp [toPy, PyData.eqv]
  | .tup l => by
    simp only [toPy, PyData.eqv]
    exact eqvL_refl l
  | .lst l => by
    simp only [toPy, PyData.eqv]
    exact eqvL_refl l
  | .raw v => by simp [toPy, PyData.eqv]
  | .obj C fs => by simp [toPy, PyData.eqv]
  | .tl l => by simp [toPy, PyData.eqv]
  | .dic => by simp [toPy, PyData.eqv]
  | .tt l => by simp [toPy, PyData.eqv]
  | .pt l => by simp [toPy, PyData.eqv]
theorem eqvL_refl : ∀ l : List D, PyData.eqvAll (toPyL l) (toPyL l) = true
  | [] => by simp [toPyL, PyData.eqvAll]
  | d :: ds => by
    simp only [toPyL, PyData.eqvAll, eqv_refl d, eqvL_refl ds, Bool.and_self]
end
theorem deq_refl (d : D) : deq d d = true := eqv_refl d
theorem c_neSame {X : Cx} {d : D} (hu : X.A.units + 64 < cLine) (h : eqOk d = true) : Cm X .NotEq d d false := by
  have z := c_ne (X := X) hu h h
  rw [deq_refl] at z
  exact z
theorem c_eqSame {X : Cx} {d : D} (hu : X.A.units + 64 < cLine) (h : eqOk d = true) : Cm X .Eq d d true := by
  have z := c_eq (X := X) hu h h
  rw [deq_refl] at z
  exact z
end Spr

set_option Elab.async false
set_option linter.all false
set_option maxRecDepth 100000
set_option maxHeartbeats 4000000
/-! range with a step; flags compared by is; a list times a number; a thing in a list of things; sorted tuples. -/
namespace Spr
open PySem PySem.Spec PyProof.Rows L2
def tTurnC (K : PySem.W.Frag) (c : Cn) (j : Nat) (lo st : Int) (n : Nat) (I : Nat → Gm → Prop) (Po : Post) : TS := fun Ds σ H => ∃ (i : Nat) (Γ' : Gm), i < n ∧ I i Γ' ∧ tB K c (Γ'.set j (some (.im (.int (lo + (i : Nat) * st))))) { nx := I (i + 1), rt := Po.rt, ct := I (i + 1), bk := Po.nx } Ds σ H
section
variable {X : Cx} {c : Cn} {Γ Γ1 : Gm} {a b e e3 : Expr} {es : List Expr} {pos p : Pos} {da db dc d : D} {st : Stmt} {rest A B : List Stmt} {Po : Post} {x : Str}
theorem rgc_two {a b : Int} (ha : -(2 ^ 60) ≤ a) (ha' : a < 2 ^ 60) (hb : -(2 ^ 60) ≤ b) (hb' : b < 2 ^ 60) {n : Nat} (hn : (n : Int) = if a < b then (b - a - 1) / 2 + 1 else 0) : RgC a b 2 n := by
  have hz : Builtin.Range.rangeSize a b 2 = if a < b then (b - a - 1) / 2 + 1 else 0 := by
    unfold Builtin.Range.rangeSize
    simp only [show (2 : Int) > 0 by decide, if_true]
  refine ⟨by decide, by decide, ?_, by rw [hz, hn]⟩
  unfold Builtin.Range.small
  rw [hz]
  simp only [Builtin.Range.rangeFitsLong, Bool.and_eq_true, Bool.or_eq_true, decide_eq_true_eq, beq_iff_eq, show (2 : Int) > 0 by decide, if_true]
  split <;> omega
/-- for x in range(lo, hi, st), n turns -/
theorem s_forR3 (j : Nat) {body : List Stmt} {px p1 p2 : Pos} {lo hi st : Int} {n : Nat} (I : Nat → Gm → Prop) (ha : Pa X c Γ [a, b, e3] [.int lo, .int hi, .int st]) (hn : RgC lo hi st n) (h0 : I 0 Γ) (hb : ∀ (i : Nat) (Γ' : Gm), i < n → I i Γ' → Bl X c (Γ'.set j (some (.im (.int (lo + (i : Nat) * st))))) body { nx := I (i + 1), rt := Po.rt, ct := I (i + 1), bk := Po.nx })
    (hd : ∀ Γ', I n Γ' → Po.nx Γ') (hm : X.mg "range" = none) (hp : PassesOwn (model X.prog X.w) X.A X.env X.xe) (hN : X.N.Nodup) (hc : X.calm = true := by rfl) (hj : X.N[j]? = some x := by rfl) (hx : Loc X.env.scope x := by first | exact Or.inl rfl | exact Or.inr rfl) (hf : fxB c.fx j = true := by rfl) (hg : Gl X "range" := by rfl)
    (hs0 : starEach [a, b, e3] X.env = (false, eval a X.env) :: starEach [b, e3] X.env := by rfl) (hpl : (backTo p2 (starEach [b, e3] X.env)).any (·.1) = false := by rfl) (hs : ∀ x, foldedSetIterable (.Call (.Name "range" p1) [a, b, e3] [] p2) X.env x = pure x := by intro _; rfl) (hfn : X.fn x = true ∨ X.env.scope.names.lookup x = some .local := by first | exact .inl rfl | exact .inr rfl) : Sm X c Γ (.For (.Name x px) (.Call (.Name "range" p1) [a, b, e3] [] p2) body [] pos) Po := by
  have hB : PSs X body (tTurnC X.K c j lo st n I Po) :=
    ⟨fun pins s σ H Ds J ⟨i, Γ', h1, h2, q⟩ => (hb i Γ' h1 h2).run pins s σ H Ds J q⟩
  refine PS.wk (ps_for hp hc (pi_range3 hg hm ha hs0 hpl) (pg_name hN hj hx hfn) hB hs) fun Ds σ H ⟨S, t, q⟩ => ⟨S, t, fun vs H1 e1 dv => ?_⟩
  obtain ⟨v1, v2, v3, rfl, h1, h2, h3⟩ := dv.three
  refine ⟨lo, hi, st, n, by rw [h1.int_, h2.int_, h3.int_], hn, ?_⟩
  refine for_rangeC (lo := lo) (c := st) (n := n) (g := gName j) (tb := tTurnC X.K c j lo st n I Po) (D := Ds) (fun i σ' H' => ∃ S' Γ', Rl S H S' H' ∧ Gd X.K c S' σ' H' Γ' ∧ I i Γ') ⟨S, Γ, .of e1, t.ext e1, h0⟩ ?_ ?_
  · rintro i σ' H' hi ⟨S', Γ', r, g, hI⟩
    refine ⟨i, Γ', hi, hI, S', g.setIm (.int _) (fxB_ok hf), ⟨fun σ2 H2 S2 Γ2 r2 g2 h => ⟨S2, Γ2, r.trans r2, g2, h⟩, fun v σ2 H2 S2 Γ2 en r2 g2 rs h => q.rt v σ2 H2 S2 Γ2 en (r.trans r2) g2 rs h,
      fun σ2 H2 S2 Γ2 r2 g2 h => q.nx σ2 H2 S2 Γ2 (r.trans r2) g2 h, fun σ2 H2 S2 Γ2 r2 g2 h => ⟨S2, Γ2, r.trans r2, g2, h⟩⟩⟩
  · rintro σ' H' ⟨S', Γ', r, g, hI⟩
    exact q.nx σ' H' S' Γ' r g (hd Γ' hI)
theorem c_isB {k m : Bool} : Cm X .Is (.bl k) (.bl m) (decide (k = m)) := ⟨_, op_is_bl, fun S H v w h1 h2 Q q => ⟨k, m, h1.bl_, h2.bl_, q⟩⟩
theorem c_isnotB {k m : Bool} : Cm X .IsNot (.bl k) (.bl m) (!decide (k = m)) := ⟨_, op_isnot_bl, fun S H v w h1 h2 Q q => ⟨k, m, h1.bl_, h2.bl_, q⟩⟩
theorem DenL.rep {K : PySem.W.Frag} {S : Addr → Prop} {H : Hp} {xs : List V} {l : List D} (h : DenL K S H xs l) : ∀ n, DenL K S H (List.replicate n xs).flatten (List.replicate n l).flatten
  | 0 => .nil
  | n + 1 => by
    rw [List.replicate_succ, List.replicate_succ, List.flatten_cons, List.flatten_cons]
    exact h.append (DenL.rep h n)
/-- [..] * n, a new list by a number -/
theorem n_mul {l : List D} {n : Int} (ha : Pn X c Γ a l) (hb : Pe X c Γ b (.int n)) (h0 : 0 ≤ n) (h1 : n < 2 ^ 62) (hz : l.length * n.toNat ≤ 16000000 := by simp) : Pn X c Γ (.BinOp a .Mult b pos) (List.replicate n.toNat l).flatten :=
  PE.wk (pe_op op_rep ha hb) fun σ H Q ⟨S, t, q⟩ => ⟨S, t, fun p1 xs H1 e1 n1 k1 d1 => by
    have t1 := t.plus n1 e1 (by rw [k1]; simp)
    refine ⟨S, t.ext e1, fun w H2 e2 d2 => ⟨p1, n, xs, rfl, d2.int_, e2 _ _ k1, by omega, by omega, by rw [d1.length]; exact small_line hz, fun p hp => ?_⟩⟩
    exact q p _ _ ((e1.trans e2).trans (same_new hp)) ((e1.trans e2).free hp) upd_same (((d1.off.ext e2).rep n.toNat).on hp)⟩
/-- a thing in a list of things -/
theorem c_inD {l : List D} (hu : X.A.units + 65 < cLine) (h1 : eqOk d = true) (h2 : eqOk (.lst l) = true) : Cm X .In d (.lst l) (l.any fun z => deq z d) := ⟨_, op_inD hu, fun S H v w g1 g2 Q q => by
  obtain ⟨p1, p2⟩ := Bool.and_eq_true_iff.mp h1
  obtain ⟨p3, p4⟩ := Bool.and_eq_true_iff.mp h2
  refine ⟨toPy d, toPyL l, Den.dp _ _ p1 g1, Den.dp _ _ p3 g2, p2, p4, ?_⟩
  have e : (toPyL l).any (fun z => PyData.eqv z (toPy d)) = l.any fun z => deq z d := by
    clear h2 p3 p4 g2 q
    induction l with
    | nil => rfl
    | cons a l ih => show (_ || _) = _; rw [ih]; rfl
  rw [e]
  exact q⟩
theorem c_notinD {l : List D} (hu : X.A.units + 65 < cLine) (h1 : eqOk d = true) (h2 : eqOk (.lst l) = true) : Cm X .NotIn d (.lst l) (!l.any fun z => deq z d) := ⟨_, op_notInD hu, fun S H v w g1 g2 Q q => by
  obtain ⟨p1, p2⟩ := Bool.and_eq_true_iff.mp h1
  obtain ⟨p3, p4⟩ := Bool.and_eq_true_iff.mp h2
  refine ⟨toPy d, toPyL l, Den.dp _ _ p1 g1, Den.dp _ _ p3 g2, p2, p4, ?_⟩
  have e : (toPyL l).any (fun z => PyData.eqv z (toPy d)) = l.any fun z => deq z d := by
    clear h2 p3 p4 g2 q
    induction l with
    | nil => rfl
    | cons a l ih => show (_ || _) = _; rw [ih]; rfl
  rw [e]
  exact q⟩
/-- tuples of ints -/
def tupD (ns : List Int) : D := .tup (ns.map .int)
theorem DenL.tups {K : PySem.W.Frag} {S : Addr → Prop} {H : Hp} : ∀ {xs : List V} {l : List (List Int)}, DenL K S H xs (l.map tupD) → ∀ x ∈ xs, ∃ ns ∈ l, TupI K H x ns ∧ Den K S H x (tupD ns)
  | _, [], .nil => fun x hx => by cases hx
  | _, n :: l, .cons h t => fun x hx => by
    rcases List.mem_cons.mp hx with rfl | hx
    · obtain ⟨a, ys, rfl, h1, h2⟩ := Den.tup_ (l := n.map .int) h
      rw [h2.ints] at h1
      exact ⟨n, List.mem_cons_self, ⟨a, rfl, h1⟩, h⟩
    · obtain ⟨ns, m, z⟩ := DenL.tups t x hx
      exact ⟨ns, List.mem_cons_of_mem _ m, z⟩
end
end Spr

set_option Elab.async false
set_option linter.all false
set_option maxRecDepth 100000
set_option maxHeartbeats 4000000
/-! Lists of tuples of ints: they may be compared; sorted where they are ascending. -/
namespace Spr
open PySem PySem.Spec PyProof.Rows L2
theorem ints_ok : ∀ ns : List Int, pyOkL (ns.map .int) = true ∧ (PyData.canLayAll0 (toPyL (ns.map .int)) = true ∧ PyData.depthAll (toPyL (ns.map .int)) = 0)
  | [] => ⟨rfl, rfl, rfl⟩
  | n :: ns => by
    obtain ⟨h1, h2, h3⟩ := ints_ok ns
    refine ⟨?_, ?_, ?_⟩
    · show (pyOk (.int n) && pyOkL (ns.map .int)) = true
      rw [h1]; rfl
    · show (PyData.canLay0 (.int n) && PyData.canLayAll0 (toPyL (ns.map .int))) = true
      rw [h2]; rfl
    · show max (PyData.depth (.int n)) (PyData.depthAll (toPyL (ns.map .int))) = 0
      rw [h3]; rfl
theorem tups_ok : ∀ l : List (List Int), pyOkL (l.map tupD) = true ∧ (PyData.canLayAll0 (toPyL (l.map tupD)) = true ∧ PyData.depthAll (toPyL (l.map tupD)) ≤ 1)
  | [] => ⟨rfl, rfl, by decide⟩
  | n :: ns => by
    obtain ⟨h1, h2, h3⟩ := tups_ok ns
    obtain ⟨g1, g2, g3⟩ := ints_ok n
    refine ⟨?_, ?_, ?_⟩
    · show (pyOkL (n.map .int) && pyOkL (ns.map tupD)) = true
      rw [h1, g1]; rfl
    · show (PyData.canLayAll0 (toPyL (n.map .int)) && PyData.canLayAll0 (toPyL (ns.map tupD))) = true
      rw [h2, g2]; rfl
    · show max (PyData.depthAll (toPyL (n.map .int)) + 1) (PyData.depthAll (toPyL (ns.map tupD))) ≤ 1
      rw [g3]
      omega
theorem eqOk_tups (l : List (List Int)) : eqOk (.lst (l.map tupD)) = true := by
  obtain ⟨h1, h2, h3⟩ := tups_ok l
  unfold eqOk
  refine Bool.and_eq_true_iff.mpr ⟨h1, ?_⟩
  unfold SeqAt.shaped
  refine Bool.and_eq_true_iff.mpr ⟨h2, decide_eq_true ?_⟩
  show PyData.depthAll (toPyL (l.map tupD)) + 1 ≤ 64
  omega
theorem eqOk_ints (l : List Int) : eqOk (.lst (l.map .int)) = true := by
  obtain ⟨h1, h2, h3⟩ := ints_ok l
  unfold eqOk
  refine Bool.and_eq_true_iff.mpr ⟨h1, ?_⟩
  unfold SeqAt.shaped
  refine Bool.and_eq_true_iff.mpr ⟨h2, decide_eq_true ?_⟩
  show PyData.depthAll (toPyL (l.map .int)) + 1 ≤ 64
  omega
theorem eqOk_tup (l : List Int) : eqOk (tupD l) = true := by
  obtain ⟨h1, h2, h3⟩ := ints_ok l
  unfold eqOk
  refine Bool.and_eq_true_iff.mpr ⟨h1, ?_⟩
  unfold SeqAt.shaped
  refine Bool.and_eq_true_iff.mpr ⟨h2, decide_eq_true ?_⟩
  show PyData.depthAll (toPyL (l.map .int)) + 1 ≤ 64
  omega
theorem pair_tri {α : Type} {R : α → α → Prop} : ∀ {l : List α}, l.Pairwise R → ∀ a ∈ l, ∀ b ∈ l, a = b ∨ R a b ∨ R b a
  | [], _, a, ha, _, _ => by cases ha
  | x :: l, h, a, ha, b, hb => by
    obtain ⟨h1, h2⟩ := List.pairwise_cons.mp h
    rcases List.mem_cons.mp ha with rfl | ha
    · rcases List.mem_cons.mp hb with rfl | hb
      · exact .inl rfl
      · exact .inr (.inl (h1 b hb))
    · rcases List.mem_cons.mp hb with e | hb
      · exact .inr (.inr (by rw [e]; exact h1 a ha))
      · exact pair_tri h2 a ha b hb
section
variable {K : PySem.W.Frag} {S : Addr → Prop} {H : Hp}
theorem pair_den {R : List Int → List Int → Prop} : ∀ {xs : List V} {l : List (List Int)}, DenL K S H xs (l.map tupD) → l.Pairwise R → xs.Pairwise fun x y => ∃ n m, TupI K H x n ∧ TupI K H y m ∧ R n m
  | _, [], .nil, _ => .nil
  | _, n :: l, .cons h t, p => by
    obtain ⟨p1, p2⟩ := List.pairwise_cons.mp p
    refine List.pairwise_cons.mpr ⟨fun y hy => ?_, pair_den t p2⟩
    obtain ⟨m, hm, hd, _⟩ := DenL.tups t y hy
    obtain ⟨a, ys, rfl, h1, h2⟩ := Den.tup_ (l := n.map .int) h
    rw [h2.ints] at h1
    exact ⟨n, m, ⟨a, rfl, h1⟩, hd, p1 m hm⟩
end
section
variable {X : Cx}
theorem tupI_inj {pins : List (Addr × Obj)} {s : Shared} {σ : L2.St} {H : Hp} {x : V} {n m : List Int} (I : Inv X pins σ H s) (h1 : TupI X.K H x n) (h2 : TupI X.K H x m) : n = m := by
  obtain ⟨t, rfl, g⟩ := h1
  obtain ⟨t', e, g2⟩ := h2
  cases e
  have z := I.tuple_inj g g2
  have key : ∀ {a b : List Int}, a.map V.int = b.map V.int → a = b := fun {a} => by
    induction a with
    | nil => intro b h; cases b with | nil => rfl | cons _ _ => cases h
    | cons x a ih =>
      intro b h
      cases b with
      | nil => cases h
      | cons y b =>
        rw [List.map_cons, List.map_cons] at h
        injection h with h1 h2
        injection h1 with h1
        rw [h1, ih h2]
  exact key z
/-- sorted of tuples that are ascending: the same -/
def rSortA (K : PySem.W.Frag) (d : Nat) (B : Int) : List V → Hp → VK → Prop := fun vs H Q => ∃ (a : Addr) (xs : List V), vs = [V.ref a] ∧ SqL K H a xs ∧ xs.length < 64 ∧ (∀ x ∈ xs, ∃ ns, TupI K H x ns ∧ ns.length = d ∧ TS.Bd B ns) ∧
  (xs.Pairwise fun x y => ∃ n m, TupI K H x n ∧ TupI K H y m ∧ TS.code B n < TS.code B m) ∧ ∀ p, H p = none → Q (.ref p) (upd H p (.lst xs))
theorem cr_sortA {d : Nat} {B : Int} (hd : 1 ≤ d) : CallR X (.builtin "sorted") (rSortA X.K d B) := by
  intro pins s σ H vs us Q I r h
  obtain ⟨a, xs, e, hs, h64, hx, hp, q⟩ := h
  refine cr_sortT (d := d) (B := B) hd pins s σ H vs us Q I r ⟨a, xs, e, hs, h64, hx, fun ys p hperm hpw hn => ?_⟩
  have z : ys = xs := by
    refine List.Perm.eq_of_pairwise (le := fun x y => ∀ n m, TupI X.K H x n → TupI X.K H y m → TS.code B n ≤ TS.code B m) (fun x y hx1 hy1 h1 h2 => ?_) hpw (hp.imp fun {x y} ⟨n, m, g1, g2, g3⟩ n' m' k1 k2 => ?_) hperm
    · rcases pair_tri hp x (hperm.mem_iff.mp hx1) y hy1 with e | ⟨n, m, g1, g2, g3⟩ | ⟨n, m, g1, g2, g3⟩
      · exact e
      · have := h2 m n g2 g1
        omega
      · have := h1 m n g2 g1
        omega
    · rw [← tupI_inj I g1 k1, ← tupI_inj I g2 k2]
      omega
  rw [z]
  exact q p hn
theorem cb_sortA {d : Nat} {B : Int} {l : List (List Int)} (hd : 1 ≤ d) (h64 : l.length < 64) (hl : ∀ ns ∈ l, ns.length = d ∧ TS.Bd B ns) (hp : l.Pairwise fun n m => TS.code B n < TS.code B m) : Cb X (.builtin "sorted") [.lst (l.map tupD)] (.lst (l.map tupD)) := ⟨_, cr_sortA (d := d) (B := B) hd, fun S H vs hdm h Q q => by
  obtain ⟨v, rfl, h1⟩ := h.one
  obtain ⟨a, xs, rfl, h2, h3⟩ := h1.lst_
  refine ⟨a, xs, rfl, h2, by rw [h3.length, List.length_map]; exact h64, fun x hx => ?_, pair_den h3 hp, fun p hn => q _ _ (same_new hn) (Den.newL hdm hn h3)⟩
  obtain ⟨ns, hm, ht, _⟩ := DenL.tups h3 x hx
  exact ⟨ns, ht, hl ns hm⟩⟩
end
end Spr

namespace Spr
open PySem PySem.Spec PyProof.Rows L2
section
variable {X : Cx} {c : Cn} {Γ : Gm} {a b e : Expr} {pos p2 : Pos} {Po : Post} {α : Type} {elt iter tgx : Expr} {ifs : List Expr} {scope : Scope} {own : List (Str × Nat)} {ppos lpos : Pos} {y x : Str} {j : Nat}
/-- x = [elt for y in range(lo, hi) if ..], on one line -/
theorem s_setLcR2 (i : Nat) {px : Pos} {lo hi' : Int} {p1 p2 : Pos} (f : Nat → D) (pr : Nat → Bool) (hi : Pa X c Γ [a, b] [.int lo, .int hi']) (hz : -16000000 ≤ lo ∧ lo ≤ 16000000 ∧ -16000000 ≤ hi' ∧ hi' ≤ 16000000 ∧ hi' - lo ≤ 16000000) (ok : BlkOk X.N X.env.scope scope own) (hg : InBlk X scope fun X' => PG X' (.Name y ppos) (gName j))
    (ht : ∀ i : Nat, lo + (i : Int) < hi' → InBlk X scope fun X' => PTs X' ifs (tQ X.K c ((wipeG Γ (own.map (·.2))).set j (some (.im (.int (lo + (i : Int)))))) (pr i))) (he : ∀ i : Nat, lo + (i : Int) < hi' → pr i = true → InBlk X scope fun X' => Pe X' c ((wipeG Γ (own.map (·.2))).set j (some (.im (.int (lo + (i : Int)))))) elt (f i))
    (hr : Po.nx (Γ.set i (some (.ow (((List.range (hi' - lo).toNat).filter pr).map f)))) ∨ Po.nx (Γ.set i (some (.im (.lst (((List.range (hi' - lo).toNat).filter pr).map f)))))) (hN : X.N.Nodup) (hm : X.mg "range" = none) (hsw : swapsWith (.ListComp elt [⟨.Name y ppos, .Call (.Name "range" p1) [a, b] [] p2, ifs, 0⟩] scope lpos) (some (.Name x px)) pos.line X.env = pure true := by rfl) (hxi : X.N[i]? = some x := by rfl) (hxl : X.env.scope.names.lookup x = some .local := by rfl) (hc : X.calm = true := by rfl) (hf : ((own.map (·.2)).all fun v => fxB c.fx v) = true := by rfl) (hfi : fxB c.fx i = true := by rfl) (hj : j ∈ own.map (·.2) := by decide) (hg1 : Gl X "range" := by rfl) (hs0 : starEach [a, b] X.env = [(false, eval a X.env), (false, eval b X.env)] := by rfl) (hs1 : starEach [b] X.env = [(false, eval b X.env)] := by rfl) (hs : ∀ x, foldedSetIterable (.Call (.Name "range" p1) [a, b] [] p2) X.env x = pure x := by intro _; rfl) :
    Sm X c Γ (.Assign [.Name x px] (.ListComp elt [⟨.Name y ppos, .Call (.Name "range" p1) [a, b] [] p2, ifs, 0⟩] scope lpos) pos) Po := by
  have mem : ∀ {i : Nat}, i ∈ List.range (hi' - lo).toNat → lo + (i : Int) < hi' := fun {i} h => by
    have q := List.mem_range.mp h
    omega
  refine PS.wk (ps_setLc hc hN hxi hxl hsw (pi_range2 hg1 hm hi hs0 hs1) ok hg (in_tst (xs := List.range (hi' - lo).toNat) (enc := encR lo) (pr := pr) fun i h => ht i (mem h)) (in_elt (xs := List.range (hi' - lo).toNat) (enc := encR lo) (pr := pr) (f := f) fun i h q => he i (mem h) q) hs)
    fun D σ H h => tAsg_n (fun σ H Q h => lcR_read (lo := lo) (n := (hi' - lo).toNat) (fun S t R q => ⟨S, t, fun vs H1 e1 dv => ?_⟩) (by omega) (wfx hf) hj h) hfi hr h
  obtain ⟨v, w, rfl, h1, h2⟩ := dv.two
  exact ⟨lo, hi', by rw [h1.int_, h2.int_], ⟨by omega, by omega, by omega, by omega⟩, q H1 e1⟩
/-- x = [elt for y in range(n) if ..], on one line -/
theorem s_setLcR1 (i : Nat) {px : Pos} {n : Int} {p1 p2 : Pos} (f : Nat → D) (pr : Nat → Bool) (hi : Pa X c Γ [a] [.int n]) (hz : n ≤ 16000000) (hz0 : -(2 ^ 62) ≤ n) (ok : BlkOk X.N X.env.scope scope own) (hg : InBlk X scope fun X' => PG X' (.Name y ppos) (gName j))
    (ht : ∀ i : Nat, (i : Int) < n → InBlk X scope fun X' => PTs X' ifs (tQ X.K c ((wipeG Γ (own.map (·.2))).set j (some (.im (.int (i : Int))))) (pr i))) (he : ∀ i : Nat, (i : Int) < n → pr i = true → InBlk X scope fun X' => Pe X' c ((wipeG Γ (own.map (·.2))).set j (some (.im (.int (i : Int))))) elt (f i))
    (hr : Po.nx (Γ.set i (some (.ow (((List.range n.toNat).filter pr).map f)))) ∨ Po.nx (Γ.set i (some (.im (.lst (((List.range n.toNat).filter pr).map f)))))) (hN : X.N.Nodup) (hm : X.mg "range" = none) (hsw : swapsWith (.ListComp elt [⟨.Name y ppos, .Call (.Name "range" p1) [a] [] p2, ifs, 0⟩] scope lpos) (some (.Name x px)) pos.line X.env = pure true := by rfl) (hxi : X.N[i]? = some x := by rfl) (hxl : X.env.scope.names.lookup x = some .local := by rfl) (hc : X.calm = true := by rfl) (hf : ((own.map (·.2)).all fun v => fxB c.fx v) = true := by rfl) (hfi : fxB c.fx i = true := by rfl) (hj : j ∈ own.map (·.2) := by decide) (hg1 : Gl X "range" := by rfl) (hs0 : starEach [a] X.env = [(false, eval a X.env)] := by rfl) (hs : ∀ x, foldedSetIterable (.Call (.Name "range" p1) [a] [] p2) X.env x = pure x := by intro _; rfl) :
    Sm X c Γ (.Assign [.Name x px] (.ListComp elt [⟨.Name y ppos, .Call (.Name "range" p1) [a] [] p2, ifs, 0⟩] scope lpos) pos) Po := by
  have mem : ∀ {i : Nat}, i ∈ List.range n.toNat → (i : Int) < n := fun {i} h => by
    have q := List.mem_range.mp h
    omega
  have z : ∀ i : Nat, encR 0 i = .int (i : Int) := fun i => by unfold encR; rw [Int.zero_add]
  refine PS.wk (ps_setLc hc hN hxi hxl hsw (pi_range1 hg1 hm hi hs0) ok hg (in_tst (xs := List.range n.toNat) (enc := encR 0) (pr := pr) fun i h => by rw [z]; exact ht i (mem h)) (in_elt (xs := List.range n.toNat) (enc := encR 0) (pr := pr) (f := f) fun i h q => by rw [z]; exact he i (mem h) q) hs)
    fun D σ H h => tAsg_n (fun σ H Q h => lcR_read (lo := 0) (n := n.toNat) (fun S t R q => ⟨S, t, fun vs H1 e1 dv => ?_⟩) (by omega) (wfx hf) hj h) hfi hr h
  obtain ⟨v, rfl, h1⟩ := dv.one
  exact ⟨n, by rw [h1.int_], hz0, by omega, q H1 e1⟩
end
end Spr

set_option Elab.async false
set_option linter.all false
set_option maxRecDepth 100000
set_option maxHeartbeats 4000000
/-! Comprehensions whose tests and items change lists of one's own: the new list lies in a slot of its own (g), under a name that the program has not. -/
namespace Spr
open PySem PySem.Spec PyProof.Rows L2
section
variable {X : Cx} {pins : List (Addr × Obj)} {σ : L2.St} {H : Hp} {s : Shared} {g : Nat} {y : Str} {v : V}
theorem inv_ghost (I : Inv X pins σ H s) (hg : X.N[g]? = some y) (hv : ¬ Vis X.env.scope y) : Inv X pins (σ.set g (some v)) H s :=
  ⟨I.ok, I.os, I.bare, I.base, let ⟨m, hn, hl⟩ := I.loc; ⟨m, hn, fun i x w e1 e2 e3 => by
    by_cases e : g = i
    · subst e
      rw [hg] at e1
      cases e1
      exact absurd e3 hv
    · rw [List.getElem?_set_ne e] at e2
      exact hl i x w e1 e2 e3⟩, I.cell, I.free, I.freeC, I.pin, I.hok, by rw [List.length_set]; exact I.len⟩
theorem inv_unghost (I : Inv X pins (σ.set g (some v)) H s) (hn : σ[g]? = some none) : Inv X pins σ H s :=
  I.weak (by simp) fun i w e => by
    by_cases z : g = i
    · subst z
      rw [hn] at e
      cases e
    · rw [List.getElem?_set_ne z]
      exact e
def tGh (g : Nat) (t : TE) : TE := fun σ H Q => ∃ v, σ[g]? = some none ∧ t (σ.set g (some v)) H Q
def tGhT (g : Nat) (t : TT) : TT := fun σ H Q => ∃ v, σ[g]? = some none ∧ t (σ.set g (some v)) H Q
theorem pe_gh {e : Expr} {t : TE} (h : PE X e t) (hg : X.N[g]? = some y) (hv : ¬ Vis X.env.scope y) : PE X e (tGh g t) :=
  ⟨fun pins s σ H Q I ⟨v, hn, ht⟩ => thn (h.run pins s _ H Q (inv_ghost I hg hv) ht) fun u s1 ⟨x, H1, I1, r, q⟩ => ⟨x, H1, inv_unghost I1 hn, r, q⟩⟩
theorem pts_gh {ifs : List Expr} {t : TT} (h : PTs X ifs t) (hg : X.N[g]? = some y) (hv : ¬ Vis X.env.scope y) : PTs X ifs (tGhT g t) :=
  ⟨fun pins s σ H Q I ⟨v, hn, ht⟩ => thn (h.run pins s _ H Q (inv_ghost I hg hv) ht) fun b s1 ⟨H1, I1, q⟩ => ⟨H1, inv_unghost I1 hn, q⟩⟩
theorem not_vis {scope sc : Scope} {y : Str} (h : scope.names.lookup y = none) : ¬ Vis (relS scope sc) y := fun z => by
  have key : ∀ k, (relS scope sc).names.lookup y = some k → False := fun k hk => by
    obtain ⟨k', e, _⟩ := lookup_relS hk
    rw [h] at e
    cases e
  rcases z with z | z | z
  · exact key _ z
  · exact key _ z
  · exact key _ z
end
section
variable {K : PySem.W.Frag} {c : Cn} {S : Addr → Prop} {σ : L2.St} {H H' : Hp} {Γ : Gm}
/-- slots of which nothing is said -/
theorem Gd.unwipe {vs : List Nat} (t : Gd K c S (L2.wipe σ vs) H Γ) : Gd K c S σ H Γ := by
  have key : ∀ (i : Nat) (v : V), (L2.wipe σ vs)[i]? = some (some v) → σ[i]? = some (some v) := fun i v h => (wipe_some h).1
  have at_ : ∀ (i : Nat) (e : Ent), Γ[i]? = some (some e) → (L2.wipe σ vs)[i]? = σ[i]? := fun i e h => by
    obtain ⟨v, h1, h2⟩ := t.at_ i e h
    rw [h1, key i v h1]
  refine ⟨by rw [← t.len, wipe_length], fun i e h => ?_, fun i j a l l' h1 h2 h3 h4 => t.sep i j a l l' h1 h2 (by rw [at_ i _ h1]; exact h3) (by rw [at_ j _ h2]; exact h4), fun i l a h1 h2 h3 => t.loc i l a h1 (by rw [at_ i _ h1]; exact h2) h3, t.sub, t.new, t.chg, t.dom, t.dm0, fun p hp => key _ _ (t.fix p hp), t.tab, t.tbS⟩
  obtain ⟨v, h1, h2⟩ := t.at_ i e h
  exact ⟨v, key i v h1, h2⟩
/-- what is so before a turn: Dl the new list, its slot g -/
def LcE (K : PySem.W.Frag) (c : Cn) (S1 : Addr → Prop) (H1 : Hp) (w : L2.St) (Dl : Addr) (g : Nat) (GG : Nat → Gm) (acc : Nat → List D) (i : Nat) (H : Hp) : Prop :=
  ∃ S, Rl S1 H1 S H ∧ Gd K c S (w.set g (some (.ref Dl))) H ((GG i).set g (some (.ow (acc i))))
def accE (p : Nat → Bool) (f : Nat → D) (i : Nat) : List D := ((List.range i).filter p).map f
theorem accE_t {p : Nat → Bool} {f : Nat → D} {i : Nat} (h : p i = true) : accE p f (i + 1) = accE p f i ++ [f i] := by
  unfold accE
  rw [List.range_succ, List.filter_append, List.map_append, List.filter_cons, if_pos h]
  rfl
theorem accE_f {p : Nat → Bool} {f : Nat → D} {i : Nat} (h : p i = false) : accE p f (i + 1) = accE p f i := by
  unfold accE
  rw [List.range_succ, List.filter_append, List.map_append, List.filter_cons, if_neg (by rw [h]; decide)]
  simp
theorem accE_len {p : Nat → Bool} {f : Nat → D} {i : Nat} : (accE p f i).length ≤ i := by
  unfold accE
  refine Nat.le_trans filt_len ?_
  simp
def tInE (K : PySem.W.Frag) (c : Cn) (g j n : Nat) (item : Nat → D) (GG GT : Nat → Gm) (f : Nat → D) (p : Nat → Bool) : TE := fun σ H Q => ∃ i, i < n ∧ p i = true ∧ tGh g (tE K c (((GT i).set j (some (.im (item i)))).set g (some (.ow (accE p f i)))) (f i) (((GG (i + 1)).set j (some (.im (item i)))).set g (some (.ow (accE p f i))))) σ H Q
def tInTE (K : PySem.W.Frag) (c : Cn) (g j n : Nat) (item : Nat → D) (GG GT : Nat → Gm) (f : Nat → D) (p : Nat → Bool) : TT := fun σ H Q => ∃ i, i < n ∧ tGhT g (tEt K c (((GG i).set j (some (.im (item i)))).set g (some (.ow (accE p f i)))) (p i) (((GT i).set j (some (.im (item i)))).set g (some (.ow (accE p f i))))) σ H Q
theorem lcE_turn {S1 : Addr → Prop} {H1 H' : Hp} {Dl : Addr} {g j n : Nat} {vs : List Nat} {item : Nat → D} {GG GT : Nat → Gm} {f : Nat → D} {p : Nat → Bool} {i : Nat} {y : V}
    (hn : n ≤ 16000000) (hf : ∀ v ∈ vs, ∀ q ∈ c.fx, q.1 ≠ v) (hj : j ∈ vs) (hgv : g ∈ vs) (hjg : j ≠ g) (hlen : j < σ.length ∧ g < σ.length) (hi : i < n) (hGj : ∀ i, (GG i).set j none = GG i) (hT : ∀ i, p i = false → GT i = GG (i + 1))
    (hy : ∀ S, Rl S1 H1 S H' → Den K S H' y (item i)) (h : LcE K c S1 H1 (wipe σ vs) Dl g GG (accE p f) i H') :
    wipe ((wipe σ vs).set j (some y)) vs = wipe σ vs ∧ tInTE K c g j n item GG GT f p ((wipe σ vs).set j (some y)) H' fun b H3 => if b = true then tInE K c g j n item GG GT f p ((wipe σ vs).set j (some y)) H3 fun z H4 => ∃ acc, H4 Dl = some (.lst acc) ∧ acc.length < sizeLine ∧ LcE K c S1 H1 (wipe σ vs) Dl g GG (accE p f) (i + 1) (upd H4 Dl (.lst (acc ++ [z])))
      else LcE K c S1 H1 (wipe σ vs) Dl g GG (accE p f) (i + 1) H3 := by
  obtain ⟨S, r1, t1⟩ := h
  have wj : (wipe σ vs)[j]? = some none := by rw [wipe_at σ vs j hlen.1, if_pos hj]
  have wg : (wipe σ vs)[g]? = some none := by rw [wipe_at σ vs g hlen.2, if_pos hgv]
  have wl : (wipe σ vs).length = σ.length := wipe_length σ vs
  have hn0 : ((wipe σ vs).set j (some y))[g]? = some none := by rw [List.getElem?_set_ne hjg]; exact wg
  have back : ∀ {S4 : Addr → Prop} {H4 : Hp} {k : Nat} {e : Option Ent} {l : List D}, Gd K c S4 (((wipe σ vs).set j (some y)).set g (some (.ref Dl))) H4 (((GG k).set j e).set g (some (.ow l))) → Gd K c S4 ((wipe σ vs).set g (some (.ref Dl))) H4 ((GG k).set g (some (.ow l))) := fun {S4 H4 k e l} t => by
    have u := t.unset (i := j) (hf j hj)
    rw [List.set_comm _ _ (fun z => hjg z.symm), List.set_set, List.set_comm _ _ (fun z => hjg z.symm), List.set_set, hGj] at u
    have e0 : (wipe σ vs).set j none = wipe σ vs := by
      apply List.ext_getElem?
      intro m
      by_cases z : j = m
      · subst z
        rw [List.getElem?_set_self (by rw [wl]; exact hlen.1), wj]
      · rw [List.getElem?_set_ne z]
    rw [e0] at u
    exact u
  have g1 := t1.setIm (hy S r1) (hf j hj)
  rw [List.set_comm _ _ (fun z => hjg z.symm), List.set_comm _ _ (fun z => hjg z.symm)] at g1
  refine ⟨wipe_wipe σ vs hj _, i, hi, .ref Dl, hn0, S, g1, fun S2 H3 r2 t2 => ?_⟩
  cases q : p i with
  | true =>
    refine iteT ?_
    refine ⟨i, hi, q, .ref Dl, hn0, S2, t2, fun z S4 H4 r4 t4 d4 => ?_⟩
    have hgl : g < (((GG (i + 1)).set j (some (.im (item i))))).length := by
      have := t4.len
      simp at this
      rw [List.length_set, ← this, wl]
      exact hlen.2
    have hat := List.getElem?_set_self (a := (some (Ent.ow (accE p f i)))) hgl
    obtain ⟨a, xs, h1, h2, h3, h4⟩ := t4.ow hat
    have ea : a = Dl := by
      rw [List.getElem?_set_self (by rw [List.length_set, wl]; exact hlen.2)] at h1
      cases h1
      rfl
    subst ea
    refine ⟨xs, h3, ?_, S4, ((r1.trans r2).trans r4).trans (rl_upd h2), ?_⟩
    · rw [h4.length]
      have := accE_len (p := p) (f := f) (i := i)
      exact Nat.lt_of_le_of_lt (Nat.le_trans this (Nat.le_trans (Nat.le_of_lt hi) hn)) (by decide)
    · have t5 := t4.change hat h1 h2 h3 (h4.append (.cons d4 .nil))
      rw [List.set_set] at t5
      rw [accE_t q]
      exact back t5
  | false =>
    refine iteF ?_
    refine ⟨S2, r1.trans r2, ?_⟩
    rw [hT i q] at t2
    rw [accE_f q]
    exact back t2
/-- the loop's start, its end -/
theorem lcE_start {Dl : Addr} {g : Nat} {vs : List Nat} {GG : Nat → Gm} {p : Nat → Bool} {f : Nat → D} {H1 : Hp} {S1 : Addr → Prop} (hf : ∀ v ∈ vs, ∀ q ∈ c.fx, q.1 ≠ v) (hgv : g ∈ vs) (hG0 : wipeG (GG 0) vs = GG 0) (t : Gd K c S1 σ H1 (GG 0)) (hD : H1 Dl = none) :
    LcE K c S1 H1 (wipe σ vs) Dl g GG (accE p f) 0 (upd H1 Dl (.lst [])) := by
  have t1 := t.wipe vs hf
  rw [hG0] at t1
  exact ⟨more S1 Dl, rl_more hD (same_new hD), t1.setOw hD (same_new hD) upd_same .nil (hf g hgv)⟩
theorem lcE_end {Dl : Addr} {g n : Nat} {vs : List Nat} {GG : Nat → Gm} {p : Nat → Bool} {f : Nat → D} {H0 H1 H' : Hp} {S0 S1 : Addr → Prop} {Q : VK} (hf : ∀ v ∈ vs, ∀ q ∈ c.fx, q.1 ≠ v) (hgv : g ∈ vs) (hlen : g < σ.length) (hGg : (GG n).set g none = GG n) (r0 : Rl S0 H0 S1 H1)
    (h : LcE K c S1 H1 (wipe σ vs) Dl g GG (accE p f) n H') (q : ∀ v S' H', Rl S0 H0 S' H' → Gd K c S' σ H' (GG n) → Den K S' H' v (.lst (accE p f n)) → Q v H') : Q (.ref Dl) H' := by
  obtain ⟨S, r, t⟩ := h
  have wl : (wipe σ vs).length = σ.length := wipe_length σ vs
  have hgl : g < (GG n).length := by
    have := t.len
    simp at this
    rw [← this, wl]
    exact hlen
  have hat := List.getElem?_set_self (a := (some (Ent.ow (accE p f n)))) hgl
  obtain ⟨S', r', t'⟩ := t.freeze hat (hf g hgv)
  rw [List.set_set] at t'
  obtain ⟨v, h1, h2⟩ := t'.im (List.getElem?_set_self hgl)
  have ev : v = .ref Dl := by
    rw [List.getElem?_set_self (by rw [wl]; exact hlen)] at h1
    cases h1
    rfl
  subst ev
  have u := t'.unset (i := g) (hf g hgv)
  rw [List.set_set, List.set_set, hGg] at u
  have e0 : (wipe σ vs).set g none = wipe σ vs := by
    apply List.ext_getElem?
    intro m
    by_cases z : g = m
    · subst z
      rw [List.getElem?_set_self (by rw [wl]; exact hlen), wipe_at σ vs g hlen, if_pos hgv]
    · rw [List.getElem?_set_ne z]
  rw [e0] at u
  exact q _ S' H' ((r0.trans r).trans r') u.unwipe h2
end
section
variable {X : Cx} {c : Cn} {Γ : Gm} {a b e : Expr} {pos p1 p2 : Pos} {Po : Post} {elt iter : Expr} {ifs : List Expr} {scope : Scope} {own : List (Str × Nat)} {ppos lpos : Pos} {y yg x : Str} {j g : Nat}
theorem ts_nilE : PTs X [] (tEt X.K c Γ true Γ) := ⟨fun pins s σ H Q I ⟨S, t, q⟩ => pts_nil.run pins s σ H Q I (q S H (.refl) t)⟩
theorem ts_oneE {k : Bool} {Γ1 : Gm} (h : Et X c Γ e k Γ1) : PTs X [e] (tEt X.K c Γ k Γ1) := pts_one h
theorem in_eltE {n : Nat} {item : Nat → D} {GG GT : Nat → Gm} {f : Nat → D} {p : Nat → Bool} (hgN : X.N[g]? = some yg) (hgs : scope.names.lookup yg = none)
    (he : ∀ i, i < n → p i = true → InBlk X scope fun X' => Ev X' c (((GT i).set j (some (.im (item i)))).set g (some (.ow (accE p f i)))) elt (f i) (((GG (i + 1)).set j (some (.im (item i)))).set g (some (.ow (accE p f i))))) : InBlk X scope fun X' => PE X' elt (tInE X.K c g j n item GG GT f p) :=
  fun s H C cl fp => ⟨fun pins s1 σ H1 Q I ⟨i, h1, h2, q⟩ => (pe_gh (he i h1 h2 s H C cl fp) hgN (not_vis hgs)).run pins s1 σ H1 Q I q⟩
theorem in_tstE {n : Nat} {item : Nat → D} {GG GT : Nat → Gm} {f : Nat → D} {p : Nat → Bool} (hgN : X.N[g]? = some yg) (hgs : scope.names.lookup yg = none)
    (ht : ∀ i, i < n → InBlk X scope fun X' => PTs X' ifs (tEt X.K c (((GG i).set j (some (.im (item i)))).set g (some (.ow (accE p f i)))) (p i) (((GT i).set j (some (.im (item i)))).set g (some (.ow (accE p f i)))))) : InBlk X scope fun X' => PTs X' ifs (tInTE X.K c g j n item GG GT f p) :=
  fun s H C cl fp => ⟨fun pins s1 σ H1 Q I ⟨i, h1, q⟩ => (pts_gh (ht i h1 s H C cl fp) hgN (not_vis hgs)).run pins s1 σ H1 Q I q⟩
/-- what a comprehension's slots are like: nothing is said of its own names, of the new list's -/
structure LcG (c : Cn) (g j : Nat) (own : List (Str × Nat)) (GG GT : Nat → Gm) (p : Nat → Bool) : Prop where
  fx : ((own.map (·.2)).all fun v => fxB c.fx v) = true
  jv : j ∈ own.map (·.2)
  gv : g ∈ own.map (·.2)
  jg : j ≠ g
  G0 : wipeG (GG 0) (own.map (·.2)) = GG 0
  Gj : ∀ i, (GG i).set j none = GG i
  Gg : ∀ i, (GG i).set g none = GG i
  T : ∀ i, p i = false → GT i = GG (i + 1)
  ln : j < (GG 0).length ∧ g < (GG 0).length
theorem lcER_read {K : PySem.W.Frag} {wi : TI} {n : Nat} {GG GT : Nat → Gm} {f : Nat → D} {p : Nat → Bool} {σ : L2.St} {H : Hp} {Q : VK} (L : LcG c g j own GG GT p) (hz : n ≤ 16000000)
    (hi : ∀ S, Gd K c S σ H Γ → ∀ R : It → Hp → Prop, (∀ S' H', Rl S H S' H' → Gd K c S' σ H' (GG 0) → R (Itr 0 n) H') → wi σ H R) (h : tE K c Γ (.lst (accE p f n)) (GG n) σ H Q) :
    tLc wi (gName j) (tInTE K c g j n (fun i => .int (i : Int)) GG GT f p) (tInE K c g j n (fun i => .int (i : Int)) GG GT f p) (own.map (·.2)) σ H Q := by
  obtain ⟨S, t, q⟩ := h
  refine hi S t _ fun S1 H1 r1 t1 Dl hD => ?_
  have hl : j < σ.length ∧ g < σ.length := by rw [t1.len]; exact L.ln
  refine lc_range (lo := 0) (n := n) (LcE K c S1 H1 (wipe σ (own.map (·.2))) Dl g GG (accE p f)) (lcE_start (wfx L.fx) L.gv L.G0 t1 hD) (fun i H' hi z => ?_) fun H' z => lcE_end (wfx L.fx) L.gv hl.2 (L.Gg n) r1 z q
  rw [Int.zero_add]
  exact lcE_turn (y := .int (i : Int)) hz (wfx L.fx) L.jv L.gv L.jg hl hi L.Gj L.T (fun _ _ => .int _) z
theorem lcET_read {K : PySem.W.Frag} {ti : TE} {ds : List D} {GG GT : Nat → Gm} {f : Nat → D} {p : Nat → Bool} {σ : L2.St} {H : Hp} {Q : VK} (L : LcG c g j own GG GT p) (hz : ds.length ≤ 16000000)
    (hi : ∀ Q : VK, tE K c Γ (.tup ds) (GG 0) σ H Q → ti σ H Q) (h : tE K c Γ (.lst (accE p f ds.length)) (GG ds.length) σ H Q) :
    tLc (iTup K ti) (gName j) (tInTE K c g j ds.length (fun i => ds.getD i .non) GG GT f p) (tInE K c g j ds.length (fun i => ds.getD i .non) GG GT f p) (own.map (·.2)) σ H Q := by
  obtain ⟨S, t, q⟩ := h
  refine hi _ ⟨S, t, fun v S1 H1 r1 t1 d1 => ?_⟩
  obtain ⟨a, ys, rfl, h2, h3⟩ := d1.tupL
  have hl : j < σ.length ∧ g < σ.length := by rw [t1.len]; exact L.ln
  have hlen : ys.length = ds.length := h3.length
  refine ⟨a, rfl, ⟨ys, h2.sq⟩, fun Dl hD => lc_tup (xs := ys) (LcE K c S1 H1 (wipe σ (own.map (·.2))) Dl g GG (accE p f)) (lcE_start (wfx L.fx) L.gv L.G0 t1 hD) (fun i H' _ ⟨S', r, _⟩ => (h2.mono r).sq) (fun i y H' hy z => ?_) fun H' z => lcE_end (wfx L.fx) L.gv hl.2 (L.Gg _) r1 (by rw [← hlen]; exact z) q⟩
  obtain ⟨d, h4, h5⟩ := h3.get hy
  have hi : i < ds.length := (List.getElem?_eq_some_iff.mp h4).1
  refine lcE_turn hz (wfx L.fx) L.jv L.gv L.jg hl hi L.Gj L.T (fun S' r => ?_) z
  rw [List.getD_eq_getElem?_getD, h4]
  exact h5.mono r
theorem lcEL_read {K : PySem.W.Frag} {ti : TE} {ds : List D} {GG GT : Nat → Gm} {f : Nat → D} {p : Nat → Bool} {σ : L2.St} {H : Hp} {Q : VK} (L : LcG c g j own GG GT p) (hz : ds.length ≤ 16000000)
    (hi : ∀ Q : VK, tE K c Γ (.lst ds) (GG 0) σ H Q → ti σ H Q) (h : tE K c Γ (.lst (accE p f ds.length)) (GG ds.length) σ H Q) :
    tLc (iList K ti) (gName j) (tInTE K c g j ds.length (fun i => ds.getD i .non) GG GT f p) (tInE K c g j ds.length (fun i => ds.getD i .non) GG GT f p) (own.map (·.2)) σ H Q := by
  obtain ⟨S, t, q⟩ := h
  refine hi _ ⟨S, t, fun v S1 H1 r1 t1 d1 => ?_⟩
  obtain ⟨a, ys, rfl, h2, h3⟩ := d1.lstL
  have hl : j < σ.length ∧ g < σ.length := by rw [t1.len]; exact L.ln
  have hlen : ys.length = ds.length := h3.length
  refine ⟨a, rfl, ⟨ys, h2.sq⟩, fun Dl hD => lc_list (xs := ys) (LcE K c S1 H1 (wipe σ (own.map (·.2))) Dl g GG (accE p f)) (lcE_start (wfx L.fx) L.gv L.G0 t1 hD) (fun i H' _ ⟨S', r, _⟩ => (h2.mono r).sq) (fun i y H' hy z => ?_) fun H' z => lcE_end (wfx L.fx) L.gv hl.2 (L.Gg _) r1 (by rw [← hlen]; exact z) q⟩
  obtain ⟨d, h4, h5⟩ := h3.get hy
  have hi : i < ds.length := (List.getElem?_eq_some_iff.mp h4).1
  refine lcE_turn hz (wfx L.fx) L.jv L.gv L.jg hl hi L.Gj L.T (fun S' r => ?_) z
  rw [List.getD_eq_getElem?_getD, h4]
  exact h5.mono r
/-- [elt for y in range(n) if ..] -/
theorem ev_lcR1 (j g : Nat) {n : Int} (GG GT : Nat → Gm) (f : Nat → D) (p : Nat → Bool) (hi : Ea X c Γ [a] [.int n] (GG 0)) (hz : n ≤ 16000000) (hz0 : -(2 ^ 62) ≤ n) (ok : BlkOk X.N X.env.scope scope own) (hg : InBlk X scope fun X' => PG X' (.Name y ppos) (gName j))
    (ht : ∀ i : Nat, i < n.toNat → InBlk X scope fun X' => PTs X' ifs (tEt X.K c (((GG i).set j (some (.im (.int (i : Int))))).set g (some (.ow (accE p f i)))) (p i) (((GT i).set j (some (.im (.int (i : Int))))).set g (some (.ow (accE p f i))))))
    (he : ∀ i : Nat, i < n.toNat → p i = true → InBlk X scope fun X' => Ev X' c (((GT i).set j (some (.im (.int (i : Int))))).set g (some (.ow (accE p f i)))) elt (f i) (((GG (i + 1)).set j (some (.im (.int (i : Int))))).set g (some (.ow (accE p f i)))))
    (L : LcG c g j own GG GT p) (hN : X.N.Nodup) (hm : X.mg "range" = none) (hgN : X.N[g]? = some yg := by rfl) (hgs : scope.names.lookup yg = none := by rfl) (hc : X.calm = true := by rfl) (hg1 : Gl X "range" := by rfl) (hs0 : starEach [a] X.env = [(false, eval a X.env)] := by rfl) (hs : ∀ x, foldedSetIterable (.Call (.Name "range" p1) [a] [] p2) X.env x = pure x := by intro _; rfl) :
    Ev X c Γ (.ListComp elt [⟨.Name y ppos, .Call (.Name "range" p1) [a] [] p2, ifs, 0⟩] scope lpos) (.lst (accE p f n.toNat)) (GG n.toNat) := by
  refine PE.wk (pe_lc hc hN (pi_range1 hg1 hm hi hs0) ok hg (in_tstE (item := fun i => .int (i : Int)) hgN hgs ht) (in_eltE (item := fun i => .int (i : Int)) hgN hgs he) hs)
    fun σ H Q h => lcER_read L (by omega) (fun S t R q => ⟨S, t, fun vs S1 H1 r1 t1 dv => ?_⟩) h
  obtain ⟨v, rfl, h1⟩ := dv.one
  exact ⟨n, by rw [h1.int_], hz0, by omega, q S1 H1 r1 t1⟩
/-- [elt for y in iter if ..], iter a tuple, a list -/
theorem ev_lcT (j g : Nat) {ds : List D} (GG GT : Nat → Gm) (f : Nat → D) (p : Nat → Bool) (hi : Ev X c Γ iter (.tup ds) (GG 0)) (hz : ds.length ≤ 16000000) (ok : BlkOk X.N X.env.scope scope own) (hg : InBlk X scope fun X' => PG X' (.Name y ppos) (gName j))
    (ht : ∀ i : Nat, i < ds.length → InBlk X scope fun X' => PTs X' ifs (tEt X.K c (((GG i).set j (some (.im (ds.getD i .non)))).set g (some (.ow (accE p f i)))) (p i) (((GT i).set j (some (.im (ds.getD i .non)))).set g (some (.ow (accE p f i))))))
    (he : ∀ i : Nat, i < ds.length → p i = true → InBlk X scope fun X' => Ev X' c (((GT i).set j (some (.im (ds.getD i .non)))).set g (some (.ow (accE p f i)))) elt (f i) (((GG (i + 1)).set j (some (.im (ds.getD i .non)))).set g (some (.ow (accE p f i)))))
    (L : LcG c g j own GG GT p) (hN : X.N.Nodup) (hgN : X.N[g]? = some yg := by rfl) (hgs : scope.names.lookup yg = none := by rfl) (hc : X.calm = true := by rfl) (hs : ∀ x, foldedSetIterable iter X.env x = pure x := by intro _; rfl) :
    Ev X c Γ (.ListComp elt [⟨.Name y ppos, iter, ifs, 0⟩] scope lpos) (.lst (accE p f ds.length)) (GG ds.length) :=
  PE.wk (pe_lc hc hN (pi_tup hi) ok hg (in_tstE (item := fun i => ds.getD i .non) hgN hgs ht) (in_eltE (item := fun i => ds.getD i .non) hgN hgs he) hs) fun σ H Q h => lcET_read L hz (fun Q h => h) h
theorem ev_lcL (j g : Nat) {ds : List D} (GG GT : Nat → Gm) (f : Nat → D) (p : Nat → Bool) (hi : Ev X c Γ iter (.lst ds) (GG 0)) (hz : ds.length ≤ 16000000) (ok : BlkOk X.N X.env.scope scope own) (hg : InBlk X scope fun X' => PG X' (.Name y ppos) (gName j))
    (ht : ∀ i : Nat, i < ds.length → InBlk X scope fun X' => PTs X' ifs (tEt X.K c (((GG i).set j (some (.im (ds.getD i .non)))).set g (some (.ow (accE p f i)))) (p i) (((GT i).set j (some (.im (ds.getD i .non)))).set g (some (.ow (accE p f i))))))
    (he : ∀ i : Nat, i < ds.length → p i = true → InBlk X scope fun X' => Ev X' c (((GT i).set j (some (.im (ds.getD i .non)))).set g (some (.ow (accE p f i)))) elt (f i) (((GG (i + 1)).set j (some (.im (ds.getD i .non)))).set g (some (.ow (accE p f i)))))
    (L : LcG c g j own GG GT p) (hN : X.N.Nodup) (hgN : X.N[g]? = some yg := by rfl) (hgs : scope.names.lookup yg = none := by rfl) (hc : X.calm = true := by rfl) (hs : ∀ x, foldedSetIterable iter X.env x = pure x := by intro _; rfl) :
    Ev X c Γ (.ListComp elt [⟨.Name y ppos, iter, ifs, 0⟩] scope lpos) (.lst (accE p f ds.length)) (GG ds.length) :=
  PE.wk (pe_lc hc hN (pi_list hi) ok hg (in_tstE (item := fun i => ds.getD i .non) hgN hgs ht) (in_eltE (item := fun i => ds.getD i .non) hgN hgs he) hs) fun σ H Q h => lcEL_read L hz (fun Q h => h) h
end
end Spr

set_option Elab.async false
set_option linter.all false
set_option maxRecDepth 100000
set_option maxHeartbeats 4000000
/-! repr of data. -/
namespace Spr
open PySem PySem.Spec PyProof.Rows L2
section
variable {X : Cx} {j : Nat}
/-- a list, a tuple -/
def isSeq : D → Bool
  | .lst _ | .tup _ => true
  | _ => false
/-- what can be shown -/
def shOk (d : D) : Bool := isSeq d && (eqOk d && ((toPy d).showable && !(toPy d).hasDict))
theorem cb_reprS {d : D} (hr : RoomG j X.A) (h : shOk d = true) (hz : (toPy d).shown.length ≤ 16000000) : Cb X (.builtin "repr") [d] (.str (toPy d).shown) := by
  unfold shOk at h
  simp only [Bool.and_eq_true, Bool.not_eq_true'] at h
  obtain ⟨h1, h2, h3, h4⟩ := h
  obtain ⟨h5, h6⟩ := Bool.and_eq_true_iff.mp (show (pyOk d && SeqAt.shaped (toPy d)) = true from h2)
  have hc : CallR X (.builtin "repr") (fun xs H Q => ∃ (a : Addr), xs = [.ref a] ∧ Dp X.K H (.ref a) (toPy d) ∧ Q (.str (toPy d).shown) H) := by
    intro pins s σ H xs us Q I r ⟨a, e, dp, q⟩
    subst e
    obtain ⟨u, rfl, ru⟩ := Vals.one r
    obtain ⟨as, rd⟩ := Dp.reads I _ _ _ dp ru
    obtain rfl : u = Value.ref a := ru
    exact repr_of_reads' rd h3 (PyData.noDict_hsm h4) hr.g (by have := SeqAt.depth_of_shaped h6; have := hr.un; omega) (fun _ _ e => e) (fun h' u tk hk => ⟨.str (toPy d).shown, H, I.kept (t' := tk) hk, ⟨u, rfl⟩, q⟩) (by exact Nat.le_trans hz (by decide))
  refine ⟨_, hc, fun S H vs _ h Q q => ?_⟩
  obtain ⟨v, rfl, hv⟩ := h.one
  have dp := Den.dp d v h5 hv
  cases d with
  | lst l =>
    obtain ⟨a, xs, rfl, _⟩ := hv.lst_
    exact ⟨a, rfl, dp, q _ H (Same.refl H) (.str _)⟩
  | tup l =>
    obtain ⟨a, xs, rfl, _⟩ := hv.tup_
    exact ⟨a, rfl, dp, q _ H (Same.refl H) (.str _)⟩
  | _ => cases h1
end
end Spr

set_option Elab.async false
set_option linter.all false
set_option maxRecDepth 100000
set_option maxHeartbeats 4000000
/-! Loops and comprehensions over anything (Src), targets of any form (Pat). -/
namespace Spr
open PySem PySem.Spec PyProof.Rows L2
/-! ### targets -/
mutual
inductive Pat where
  | nm (j : Nat)
  | tp (ps : Pats)
inductive Pats where
  | nil
  | cons (p : Pat) (ps : Pats)
end
mutual
def Pat.g (K : PySem.W.Frag) : Pat → TG
  | .nm j => gName j
  | .tp ps => gTup K ps.len (ps.g K)
def Pats.g (K : PySem.W.Frag) : Pats → TGs
  | .nil => gNil
  | .cons p ps => gCons (p.g K) (ps.g K)
def Pats.len : Pats → Nat
  | .nil => 0
  | .cons _ ps => ps.len + 1
end
mutual
def Pat.app : Pat → D → Gm → Gm
  | .nm j, d, Γ => Γ.set j (some (.im d))
  | .tp ps, .tup ds, Γ => ps.app ds Γ
  | .tp _, _, Γ => Γ
def Pats.app : Pats → List D → Gm → Gm
  | .nil, _, Γ => Γ
  | .cons p ps, d :: ds, Γ => ps.app ds (p.app d Γ)
  | .cons _ _, [], Γ => Γ
end
mutual
def Pat.js : Pat → List Nat
  | .nm j => [j]
  | .tp ps => ps.js
def Pats.js : Pats → List Nat
  | .nil => []
  | .cons p ps => p.js ++ ps.js
end
mutual
def Pat.fits : Pat → D → Prop
  | .nm _, _ => True
  | .tp ps, .tup ds => ps.fits ds
  | .tp _, _ => False
def Pats.fits : Pats → List D → Prop
  | .nil, [] => True
  | .cons p ps, d :: ds => p.fits d ∧ ps.fits ds
  | .nil, _ :: _ => False
  | .cons _ _, [] => False
end
theorem Pats.fits_len : ∀ {ps : Pats} {ds : List D}, ps.fits ds → ds.length = ps.len
  | .nil, [], _ => by unfold Pats.len; rfl
  | .cons p ps, d :: ds, h => by
    unfold Pats.fits at h
    show ds.length + 1 = _
    unfold Pats.len
    rw [Pats.fits_len h.2]
  | .nil, _ :: _, h => by unfold Pats.fits at h; exact h.elim
  | .cons _ _, [], h => by unfold Pats.fits at h; exact h.elim
theorem wipe_set (σ : L2.St) (vs : List Nat) {j : Nat} (hj : j ∈ vs) (x : Option V) : L2.wipe (σ.set j x) vs = L2.wipe σ vs := by
  apply List.ext_getElem?
  intro i
  by_cases h : i < σ.length
  · rw [wipe_at _ vs i (by simpa using h), wipe_at σ vs i h]
    by_cases q : i ∈ vs
    · rw [if_pos q, if_pos q]
    · have n : j ≠ i := fun z => q (by rw [← z]; exact hj)
      rw [if_neg q, if_neg q, List.getElem?_set_ne n]
  · rw [List.getElem?_eq_none (by simpa [L2.wipe_length] using h), List.getElem?_eq_none (by simpa [L2.wipe_length] using h)]
section
variable {K : PySem.W.Frag} {c : Cn} {S : Addr → Prop} {H : Hp}
mutual
theorem Pat.run : ∀ (p : Pat) (d : D) {σ : L2.St} {Γ : Gm} {x : V} {Q : L2.St → Hp → Prop}, p.fits d → (∀ j ∈ p.js, ∀ q ∈ c.fx, q.1 ≠ j) → Gd K c S σ H Γ → Den K S H x d →
    (∀ σ', Gd K c S σ' H (p.app d Γ) → σ'.length = σ.length → (∀ vs : List Nat, (∀ j ∈ p.js, j ∈ vs) → L2.wipe σ' vs = L2.wipe σ vs) → (∀ i, i ∉ p.js → σ'[i]? = σ[i]?) → Q σ' H) → (p.g K) x σ H Q
  | .nm j, d, σ, Γ, x, Q, _, hf, t, hd, q => by
    have hm : j ∈ (Pat.nm j).js := by unfold Pat.js; exact List.mem_singleton.mpr rfl
    unfold Pat.g
    refine q _ ?_ (by simp) (fun vs h => wipe_set σ vs (h j hm) _) fun i hi => List.getElem?_set_ne (fun z => hi (by rw [← z]; exact hm))
    unfold Pat.app
    exact t.setIm hd (hf j hm)
  | .tp ps, .tup ds, σ, Γ, x, Q, h, hf, t, hd, q => by
    unfold Pat.g
    obtain ⟨a, xs, rfl, h2, h3⟩ := hd.tup_
    unfold Pat.fits at h
    refine ⟨a, xs, rfl, h2, by rw [h3.length, Pats.fits_len h], Pats.run ps ds h (fun j hj => hf j (by unfold Pat.js; exact hj)) t h3 fun σ' g hl hw hi => q σ' (by unfold Pat.app; exact g) hl (fun vs hv => hw vs fun j hj => hv j (by unfold Pat.js; exact hj)) fun i hn => hi i fun z => hn (by unfold Pat.js; exact z)⟩
  | .tp ps, .non, _, _, _, _, h, _, _, _, _ => by unfold Pat.fits at h; exact h.elim
  | .tp ps, .bl _, _, _, _, _, h, _, _, _, _ => by unfold Pat.fits at h; exact h.elim
  | .tp ps, .int _, _, _, _, _, h, _, _, _, _ => by unfold Pat.fits at h; exact h.elim
  | .tp ps, .str _, _, _, _, _, h, _, _, _, _ => by unfold Pat.fits at h; exact h.elim
  | .tp ps, .lst _, _, _, _, _, h, _, _, _, _ => by unfold Pat.fits at h; exact h.elim
  | .tp ps, .raw _, _, _, _, _, h, _, _, _, _ => by unfold Pat.fits at h; exact h.elim
  | .tp ps, .obj _ _, _, _, _, _, h, _, _, _, _ => by unfold Pat.fits at h; exact h.elim
  | .tp ps, .tl _, _, _, _, _, h, _, _, _, _ => by unfold Pat.fits at h; exact h.elim
  | .tp ps, .dic, _, _, _, _, h, _, _, _, _ => by unfold Pat.fits at h; exact h.elim
  | .tp ps, .tt _, _, _, _, _, h, _, _, _, _ => by unfold Pat.fits at h; exact h.elim
  | .tp ps, .pt _, _, _, _, _, h, _, _, _, _ => by unfold Pat.fits at h; exact h.elim
theorem Pats.run : ∀ (ps : Pats) (ds : List D) {σ : L2.St} {Γ : Gm} {xs : List V} {Q : L2.St → Hp → Prop}, ps.fits ds → (∀ j ∈ ps.js, ∀ q ∈ c.fx, q.1 ≠ j) → Gd K c S σ H Γ → DenL K S H xs ds →
    (∀ σ', Gd K c S σ' H (ps.app ds Γ) → σ'.length = σ.length → (∀ vs : List Nat, (∀ j ∈ ps.js, j ∈ vs) → L2.wipe σ' vs = L2.wipe σ vs) → (∀ i, i ∉ ps.js → σ'[i]? = σ[i]?) → Q σ' H) → (ps.g K) xs σ H Q
  | .nil, [], σ, Γ, _, Q, _, _, t, .nil, q => by
    unfold Pats.g
    exact ⟨rfl, q σ (by unfold Pats.app; exact t) rfl (fun _ _ => rfl) fun _ _ => rfl⟩
  | .cons p ps, d :: ds, σ, Γ, _, Q, h, hf, t, .cons hd hl, q => by
    unfold Pats.g
    unfold Pats.fits at h
    have m1 : ∀ j ∈ p.js, j ∈ (Pats.cons p ps).js := fun j hj => by unfold Pats.js; exact List.mem_append_left _ hj
    have m2 : ∀ j ∈ ps.js, j ∈ (Pats.cons p ps).js := fun j hj => by unfold Pats.js; exact List.mem_append_right _ hj
    refine ⟨_, _, rfl, Pat.run p d h.1 (fun j hj => hf j (m1 j hj)) t hd fun σ1 g1 l1 w1 i1 => Pats.run ps ds h.2 (fun j hj => hf j (m2 j hj)) g1 hl fun σ2 g2 l2 w2 i2 => q σ2 (by unfold Pats.app; exact g2) (l2.trans l1) (fun vs hv => (w2 vs fun j hj => hv j (m2 j hj)).trans (w1 vs fun j hj => hv j (m1 j hj))) fun i hn => (i2 i fun z => hn (m2 i z)).trans (i1 i fun z => hn (m1 i z))⟩
  | .nil, _ :: _, _, _, _, _, h, _, _, _, _ => by unfold Pats.fits at h; exact h.elim
  | .cons _ _, [], _, _, _, _, h, _, _, _, _ => by unfold Pats.fits at h; exact h.elim
end
end
/-! ### sources -/
structure Src (K : PySem.W.Frag) (c : Cn) (Γ : Gm) (wi : TI) (n : Nat) (item : Nat → D) (Γ0 : Gm) : Prop where
  run : ∀ (S : Addr → Prop) (σ : L2.St) (H : Hp) (R : It → Hp → Prop), Gd K c S σ H Γ →
    (∀ (S1 : Addr → Prop) (H1 : Hp) (J : It) (G : Hp → Prop) (Y : Nat → Hp → V → Hp → Prop), Rl S H S1 H1 → Gd K c S1 σ H1 Γ0 → Walk J n G Y → (∀ S2 H2, Rl S1 H1 S2 H2 → G H2) →
      (∀ (i : Nat) (S2 : Addr → Prop) (H2 : Hp) (x : V) (H3 : Hp), i < n → Rl S1 H1 S2 H2 → (∀ a, S2 a → H2 a ≠ none) → Y i H2 x H3 → Same H2 H3 ∧ Den K S2 H3 x (item i)) → R J H1) → wi σ H R
section
variable {K : PySem.W.Frag} {c : Cn} {Γ Γ0 : Gm}
theorem src_range1 {ta : TA} {n : Int} (hi : ∀ σ H Q, tEs K c Γ [.int n] Γ0 σ H Q → ta σ H Q) (h0 : -(2 ^ 62) ≤ n) (h1 : n < 2 ^ 62) : Src K c Γ (iRng1 ta) n.toNat (fun i => .int (i : Int)) Γ0 :=
  ⟨fun S σ H R t q => hi σ H _ ⟨S, t, fun vs S1 H1 r1 t1 dv => by
    obtain ⟨v, rfl, hv⟩ := dv.one
    refine ⟨n, by rw [hv.int_], h0, h1, q S1 H1 _ _ _ r1 t1 walk_range (fun _ _ _ => trivial) fun i S2 H2 x H3 hi r hd y => ?_⟩
    obtain ⟨rfl, rfl⟩ := y
    show Same H3 H3 ∧ Den K S2 H3 (V.int (0 + (i : Int))) _
    rw [Int.zero_add]
    exact ⟨Same.refl _, .int _⟩⟩⟩
theorem src_range2 {ta : TA} {lo n : Int} (hi : ∀ σ H Q, tEs K c Γ [.int lo, .int n] Γ0 σ H Q → ta σ H Q) (h0 : -(2 ^ 62) ≤ lo ∧ lo < 2 ^ 62 ∧ -(2 ^ 62) ≤ n ∧ n < 2 ^ 62) : Src K c Γ (iRng2 ta) (n - lo).toNat (fun i => .int (lo + (i : Int))) Γ0 :=
  ⟨fun S σ H R t q => hi σ H _ ⟨S, t, fun vs S1 H1 r1 t1 dv => by
    obtain ⟨v, w, rfl, hv, hw⟩ := dv.two
    refine ⟨lo, n, by rw [hv.int_, hw.int_], h0, q S1 H1 _ _ _ r1 t1 walk_range (fun _ _ _ => trivial) fun i S2 H2 x H3 hi r hd y => ?_⟩
    obtain ⟨rfl, rfl⟩ := y
    exact ⟨Same.refl _, .int _⟩⟩⟩
theorem src_tup {ti : TE} {ds : List D} (hi : ∀ σ H Q, tE K c Γ (.tup ds) Γ0 σ H Q → ti σ H Q) : Src K c Γ (iTup K ti) ds.length (fun i => ds.getD i .non) Γ0 :=
  ⟨fun S σ H R t q => hi σ H _ ⟨S, t, fun v S1 H1 r1 t1 d1 => by
    obtain ⟨a, ys, rfl, h2, h3⟩ := d1.tupL
    have hlen : ys.length = ds.length := h3.length
    refine ⟨a, rfl, ⟨ys, h2.sq⟩, q S1 H1 _ _ _ r1 t1 (hlen ▸ walk_tup (xs := ys)) (fun S2 H2 r => (h2.mono r).sq) fun i S2 H2 x H3 hi r hd y => ?_⟩
    obtain ⟨rfl, hx⟩ := y
    obtain ⟨d, h4, h5⟩ := h3.get hx
    refine ⟨Same.refl _, ?_⟩
    rw [List.getD_eq_getElem?_getD, h4]
    exact h5.mono r⟩⟩
theorem src_lst {ti : TE} {ds : List D} (hi : ∀ σ H Q, tE K c Γ (.lst ds) Γ0 σ H Q → ti σ H Q) : Src K c Γ (iList K ti) ds.length (fun i => ds.getD i .non) Γ0 :=
  ⟨fun S σ H R t q => hi σ H _ ⟨S, t, fun v S1 H1 r1 t1 d1 => by
    obtain ⟨a, ys, rfl, h2, h3⟩ := d1.lstL
    have hlen : ys.length = ds.length := h3.length
    refine ⟨a, rfl, ⟨ys, h2.sq⟩, q S1 H1 _ _ _ r1 t1 (hlen ▸ walk_list (xs := ys)) (fun S2 H2 r => (h2.mono r).sq) fun i S2 H2 x H3 hi r hd y => ?_⟩
    obtain ⟨rfl, hx⟩ := y
    obtain ⟨d, h4, h5⟩ := h3.get hx
    refine ⟨Same.refl _, ?_⟩
    rw [List.getD_eq_getElem?_getD, h4]
    exact h5.mono r⟩⟩
/-- a new pair -/
theorem den_pair {S2 : Addr → Prop} {H2 H3 : Hp} {T : Addr} {x y : V} {d1 d2 : D} (h : H2 T = none) (e : H3 = upd H2 T (.tup [x, y])) (hd : ∀ a, S2 a → H2 a ≠ none) (h1 : Den K S2 H2 x d1) (h2 : Den K S2 H2 y d2) : Same H2 H3 ∧ Den K S2 H3 (.ref T) (.tup [d1, d2]) := by
  subst e
  have sm := same_new (o := HO.tup [x, y]) h
  exact ⟨sm, .tup (.inl upd_same) (fun z => hd T z h) (.cons (h1.ext sm) (.cons (h2.ext sm) .nil))⟩
theorem src_enumL {ta : TA} {ds : List D} (hi : ∀ σ H Q, tEs K c Γ [.lst ds] Γ0 σ H Q → ta σ H Q) : Src K c Γ (iEnum K ta) ds.length (fun i => .tup [.int (i : Int), ds.getD i .non]) Γ0 :=
  ⟨fun S σ H R t q => hi σ H _ ⟨S, t, fun vs S1 H1 r1 t1 dv => by
    obtain ⟨v, rfl, d1⟩ := dv.one
    obtain ⟨a, ys, rfl, h2, h3⟩ := d1.lstL
    have hlen : ys.length = ds.length := h3.length
    refine ⟨a, ys, rfl, h2.sq, q S1 H1 _ _ _ r1 t1 (hlen ▸ walk_enum (xs := ys)) (fun S2 H2 r => (h2.mono r).sq) fun i S2 H2 x H3 hi r hd y => ?_⟩
    obtain ⟨T, x1, y1, rfl, hT, e3, hx, hy⟩ := y
    cases hx
    obtain ⟨d, h4, h5⟩ := h3.get hy
    rw [List.getD_eq_getElem?_getD, h4]
    exact den_pair hT e3 hd (.int _) (h5.mono r)⟩⟩
theorem src_zipL {ta : TA} {ds es : List D} (hi : ∀ σ H Q, tEs K c Γ [.lst ds, .lst es] Γ0 σ H Q → ta σ H Q) : Src K c Γ (iZip K ta) (min ds.length es.length) (fun i => .tup [ds.getD i .non, es.getD i .non]) Γ0 :=
  ⟨fun S σ H R t q => hi σ H _ ⟨S, t, fun vs S1 H1 r1 t1 dv => by
    obtain ⟨v, w, rfl, d1, d2⟩ := dv.two
    obtain ⟨a, ys, rfl, h2, h3⟩ := d1.lstL
    obtain ⟨b, zs, rfl, k2, k3⟩ := d2.lstL
    refine ⟨a, b, ys, zs, rfl, h2.sq, k2.sq, q S1 H1 _ _ _ r1 t1 (walk_zip (xs := ys) (ys := zs) (by rw [h3.length, k3.length])) (fun S2 H2 r => ⟨(h2.mono r).sq, (k2.mono r).sq⟩) fun i S2 H2 x H3 hi r hd y => ?_⟩
    obtain ⟨T, x1, y1, rfl, hT, e3, hx, hy⟩ := y
    obtain ⟨d, h4, h5⟩ := h3.get hx
    obtain ⟨d', h6, h7⟩ := k3.get hy
    rw [List.getD_eq_getElem?_getD, List.getD_eq_getElem?_getD, h4, h6]
    exact den_pair hT e3 hd (h5.mono r) (h7.mono r)⟩⟩
end
/-! ### the loop -/
def tTurnS (K : PySem.W.Frag) (c : Cn) (p : Pat) (n : Nat) (item : Nat → D) (I : Nat → Gm → Prop) (Po : Post) : TS := fun Ds σ H => ∃ (i : Nat) (Γ' : Gm), i < n ∧ I i Γ' ∧ tB K c (p.app (item i) Γ') { nx := I (i + 1), rt := Po.rt, ct := I (i + 1), bk := Po.nx } Ds σ H
section
variable {X : Cx} {c : Cn} {Γ Γ0 : Gm} {pos : Pos} {Po : Post} {tg iter : Expr} {body : List Stmt}
theorem s_forS (p : Pat) {wi : TI} {n : Nat} {item : Nat → D} (I : Nat → Gm → Prop) (hi : PI X tg iter wi) (hw : Src X.K c Γ wi n item Γ0) (hg : PG X tg (p.g X.K)) (hfit : ∀ i, i < n → p.fits (item i)) (hf : ∀ j ∈ p.js, ∀ q ∈ c.fx, q.1 ≠ j) (h0 : I 0 Γ0)
    (hb : ∀ (i : Nat) (Γ' : Gm), i < n → I i Γ' → Bl X c (p.app (item i) Γ') body { nx := I (i + 1), rt := Po.rt, ct := I (i + 1), bk := Po.nx })
    (hd : ∀ Γ', I n Γ' → Po.nx Γ') (hp : PassesOwn (model X.prog X.w) X.A X.env X.xe) (hc : X.calm = true := by rfl) (hs : ∀ x, foldedSetIterable iter X.env x = pure x := by intro _; rfl) : Sm X c Γ (.For tg iter body [] pos) Po := by
  have hB : PSs X body (tTurnS X.K c p n item I Po) := ⟨fun pins s σ H Ds J ⟨i, Γ', h1, h2, q⟩ => (hb i Γ' h1 h2).run pins s σ H Ds J q⟩
  refine PS.wk (ps_for hp hc hi hg hB hs) fun Ds σ H ⟨S, t, q⟩ => hw.run S σ H _ t fun S1 H1 J G Y r1 t1 w hG hY => ?_
  refine for_it w (fun i σ' H' => ∃ S' Γ', Rl S1 H1 S' H' ∧ Gd X.K c S' σ' H' Γ' ∧ I i Γ') ⟨S1, Γ0, .refl, t1, h0⟩ (fun i σ' H' _ ⟨S', Γ', r, _, _⟩ => hG S' H' r) ?_ ?_
  · rintro i x σ' H' H3 hi ⟨S', Γ', r, g, hI⟩ y
    obtain ⟨sm, dx⟩ := hY i S' H' x H3 hi r g.dom y
    refine Pat.run p _ (hfit i hi) hf (g.ext sm) dx fun σ2 g2 _ _ _ => ⟨i, Γ', hi, hI, S', g2, ?_⟩
    have r' : Rl S1 H1 S' H3 := r.trans (.of sm)
    exact ⟨fun σ2 H2 S2 Γ2 r2 g2 h => ⟨S2, Γ2, r'.trans r2, g2, h⟩, fun v σ2 H2 S2 Γ2 en r2 g2 rs h => q.rt v σ2 H2 S2 Γ2 en ((r1.trans r').trans r2) g2 rs h,
      fun σ2 H2 S2 Γ2 r2 g2 h => q.nx σ2 H2 S2 Γ2 ((r1.trans r').trans r2) g2 h, fun σ2 H2 S2 Γ2 r2 g2 h => ⟨S2, Γ2, r'.trans r2, g2, h⟩⟩
  · rintro σ' H' ⟨S', Γ', r, g, hI⟩
    exact q.nx σ' H' S' Γ' (r1.trans r) g (hd Γ' hI)
end
end Spr

set_option Elab.async false
set_option linter.all false
set_option maxRecDepth 100000
set_option maxHeartbeats 4000000
/-! Comprehensions over anything (Src), targets of any form (Pat), whose tests and items may change lists of one's own. -/
namespace Spr
open PySem PySem.Spec PyProof.Rows L2
theorem wipe_idem (σ : L2.St) (vs : List Nat) : L2.wipe (L2.wipe σ vs) vs = L2.wipe σ vs := by
  apply List.ext_getElem?
  intro i
  by_cases h : i < σ.length
  · rw [wipe_at _ vs i (by rw [L2.wipe_length]; exact h), wipe_at σ vs i h]
    by_cases q : i ∈ vs
    · rw [if_pos q, if_pos q]
    · rw [if_neg q, if_neg q]
  · rw [List.getElem?_eq_none (by simpa [L2.wipe_length] using h), List.getElem?_eq_none (by simpa [L2.wipe_length] using h)]
mutual
theorem Pat.gh {K : PySem.W.Frag} {g : Nat} {v : Option V} : ∀ (p : Pat) {σ : L2.St} {H : Hp} {x : V} {Q Q' : L2.St → Hp → Prop}, g ∉ p.js → (p.g K) x (σ.set g v) H Q' → (∀ σ' H', σ'.length = σ.length → σ'[g]? = σ[g]? → Q' (σ'.set g v) H' → Q σ' H') → (p.g K) x σ H Q
  | .nm j, σ, H, x, Q, Q', hg, h, q => by
    unfold Pat.g at h ⊢
    have n : j ≠ g := fun z => hg (by unfold Pat.js; exact List.mem_singleton.mpr z.symm)
    refine q _ _ (by simp) (List.getElem?_set_ne n) ?_
    rw [List.set_comm _ _ n]
    exact h
  | .tp ps, σ, H, x, Q, Q', hg, h, q => by
    unfold Pat.g at h ⊢
    obtain ⟨a, xs, e1, e2, e3, h⟩ := h
    exact ⟨a, xs, e1, e2, e3, Pats.gh ps (fun z => hg (by unfold Pat.js; exact z)) h q⟩
theorem Pats.gh {K : PySem.W.Frag} {g : Nat} {v : Option V} : ∀ (ps : Pats) {σ : L2.St} {H : Hp} {xs : List V} {Q Q' : L2.St → Hp → Prop}, g ∉ ps.js → (ps.g K) xs (σ.set g v) H Q' → (∀ σ' H', σ'.length = σ.length → σ'[g]? = σ[g]? → Q' (σ'.set g v) H' → Q σ' H') → (ps.g K) xs σ H Q
  | .nil, σ, H, xs, Q, Q', hg, h, q => by
    unfold Pats.g at h ⊢
    exact ⟨h.1, q σ H rfl rfl h.2⟩
  | .cons p ps, σ, H, xs, Q, Q', hg, h, q => by
    unfold Pats.g at h ⊢
    obtain ⟨w, r, e, h⟩ := h
    refine ⟨w, r, e, Pat.gh p (fun z => hg (by unfold Pats.js; exact List.mem_append_left _ z)) h fun σ1 H1 l1 e1 h1 => Pats.gh ps (fun z => hg (by unfold Pats.js; exact List.mem_append_right _ z)) h1 fun σ2 H2 l2 e2 h2 => q σ2 H2 (l2.trans l1) (e2.trans e1) h2⟩
end
def tInS (K : PySem.W.Frag) (c : Cn) (pt : Pat) (g n : Nat) (item : Nat → D) (GG GT : Nat → Gm) (f : Nat → D) (p : Nat → Bool) : TE := fun σ H Q => ∃ i, i < n ∧ p i = true ∧ tGh g (tE K c (pt.app (item i) ((GT i).set g (some (.ow (accE p f i))))) (f i) (pt.app (item i) ((GG (i + 1)).set g (some (.ow (accE p f i)))))) σ H Q
def tInTS (K : PySem.W.Frag) (c : Cn) (pt : Pat) (g n : Nat) (item : Nat → D) (GG GT : Nat → Gm) (f : Nat → D) (p : Nat → Bool) : TT := fun σ H Q => ∃ i, i < n ∧ tGhT g (tEt K c (pt.app (item i) ((GG i).set g (some (.ow (accE p f i))))) (p i) (pt.app (item i) ((GT i).set g (some (.ow (accE p f i)))))) σ H Q
structure LcS (c : Cn) (pt : Pat) (g : Nat) (us : List Nat) (item : Nat → D) (GG GT : Nat → Gm) (p : Nat → Bool) : Prop where
  fx : ((g :: us).all fun v => fxB c.fx v) = true
  gu : g ∉ us
  ju : ∀ j ∈ pt.js, j ∈ us
  G0 : wipeG (GG 0) (g :: us) = GG 0
  Gg : ∀ i, (GG i).set g none = GG i
  at_ : ∀ i acc, (pt.app (item i) ((GG (i + 1)).set g (some (.ow acc))))[g]? = some (some (.ow acc))
  B : ∀ i acc acc', wipeG ((pt.app (item i) ((GG (i + 1)).set g (some (.ow acc)))).set g (some (.ow acc'))) us = (GG (i + 1)).set g (some (.ow acc'))
  T : ∀ i, p i = false → GT i = GG (i + 1)
  ln : g < (GG 0).length
section
variable {K : PySem.W.Frag} {c : Cn} {σ : L2.St}
theorem lcS_turn {S1 : Addr → Prop} {H1 H' H3 : Hp} {Dl : Addr} {pt : Pat} {g n : Nat} {us : List Nat} {item : Nat → D} {GG GT : Nat → Gm} {f : Nat → D} {p : Nat → Bool} {i : Nat} {y : V} (L : LcS c pt g us item GG GT p)
    (hn : n ≤ 16000000) (hlen : g < σ.length) (hi : i < n) (hfit : pt.fits (item i))
    (hy : ∀ S, Rl S1 H1 S H' → (∀ a, S a → H' a ≠ none) → Same H' H3 ∧ Den K S H3 y (item i)) (h : LcE K c S1 H1 (L2.wipe σ (g :: us)) Dl g GG (accE p f) i H') :
    (pt.g K) y (L2.wipe σ (g :: us)) H3 fun σ2 H2 => L2.wipe σ2 (g :: us) = L2.wipe σ (g :: us) ∧ tInTS K c pt g n item GG GT f p σ2 H2 fun b H3 => if b = true then tInS K c pt g n item GG GT f p σ2 H3 fun z H4 => ∃ acc, H4 Dl = some (.lst acc) ∧ acc.length < sizeLine ∧ LcE K c S1 H1 (L2.wipe σ (g :: us)) Dl g GG (accE p f) (i + 1) (upd H4 Dl (.lst (acc ++ [z])))
      else LcE K c S1 H1 (L2.wipe σ (g :: us)) Dl g GG (accE p f) (i + 1) H3 := by
  obtain ⟨S, r1, t1⟩ := h
  obtain ⟨sm, dy⟩ := hy S r1 t1.dom
  have hf : ∀ v ∈ g :: us, ∀ q ∈ c.fx, q.1 ≠ v := wfx L.fx
  have hfu : ∀ v ∈ us, ∀ q ∈ c.fx, q.1 ≠ v := fun v hv => hf v (List.mem_cons_of_mem _ hv)
  generalize hw : L2.wipe σ (g :: us) = w at t1 ⊢
  have wl : w.length = σ.length := by rw [← hw]; exact L2.wipe_length σ _
  have wg : w[g]? = some none := by rw [← hw, wipe_at σ _ g hlen, if_pos List.mem_cons_self]
  have ww : L2.wipe w (g :: us) = w := by rw [← hw]; exact wipe_idem σ _
  have back : ∀ {S4 : Addr → Prop} {H4 : Hp} {σ2 : L2.St} {acc acc' : List D}, σ2.length = w.length → L2.wipe σ2 (g :: us) = w → Gd K c S4 (σ2.set g (some (.ref Dl))) H4 ((pt.app (item i) ((GG (i + 1)).set g (some (.ow acc)))).set g (some (.ow acc'))) → Gd K c S4 (w.set g (some (.ref Dl))) H4 ((GG (i + 1)).set g (some (.ow acc'))) := fun {S4 H4 σ2 acc acc'} hl2 hw2 t => by
    have u := t.wipe us hfu
    rw [L.B] at u
    have e0 : L2.wipe (σ2.set g (some (.ref Dl))) us = w.set g (some (.ref Dl)) := by
      apply List.ext_getElem?
      intro m
      by_cases hm : m < w.length
      · rw [wipe_at _ us m (by simpa [hl2] using hm)]
        by_cases z : g = m
        · subst z
          rw [if_neg L.gu, List.getElem?_set_self (by rw [hl2]; exact hm), List.getElem?_set_self hm]
        · rw [List.getElem?_set_ne z, List.getElem?_set_ne z]
          have k : (L2.wipe σ2 (g :: us))[m]? = w[m]? := congrArg (fun l => l[m]?) hw2
          rw [wipe_at σ2 _ m (by rw [hl2]; exact hm)] at k
          by_cases q : m ∈ us
          · rw [if_pos q, ← k, if_pos (List.mem_cons_of_mem _ q)]
          · rw [if_neg q, ← k, if_neg (by simp only [List.mem_cons, not_or]; exact ⟨fun e => z e.symm, q⟩)]
      · rw [List.getElem?_eq_none (by simpa [L2.wipe_length, hl2] using hm), List.getElem?_eq_none (by simpa using hm)]
    rw [e0] at u
    exact u
  refine Pat.gh (g := g) (v := some (.ref Dl)) pt (fun z => L.gu (L.ju g z)) (Pat.run (Q := fun σ' H' => H' = H3 ∧ Gd K c S σ' H3 (pt.app (item i) ((GG i).set g (some (.ow (accE p f i))))) ∧ L2.wipe σ' (g :: us) = w) pt (item i) hfit (fun j hj => hfu j (L.ju j hj)) (t1.ext sm) dy fun σ' g' _ hw' _ => ⟨rfl, g', ?_⟩) fun σ2 H2 l2 e2 q2 => ?_
  · rw [hw' (g :: us) (fun j hj => List.mem_cons_of_mem _ (L.ju j hj)), wipe_set w _ List.mem_cons_self, ww]
  obtain ⟨rfl, g1, w2⟩ := q2
  rw [wipe_set σ2 _ List.mem_cons_self] at w2
  have hn0 : σ2[g]? = some none := by rw [e2]; exact wg
  have r1' : Rl S1 H1 S H2 := r1.trans (.of sm)
  refine ⟨w2, i, hi, .ref Dl, hn0, S, g1, fun S2 H3 r2 t2 => ?_⟩
  cases q : p i with
  | true =>
    refine iteT ?_
    refine ⟨i, hi, q, .ref Dl, hn0, S2, t2, fun z S4 H4 r4 t4 d4 => ?_⟩
    have hat := L.at_ i (accE p f i)
    obtain ⟨a, xs, h1, h2, h3, h4⟩ := t4.ow hat
    have ea : a = Dl := by
      rw [List.getElem?_set_self (by rw [l2, wl]; exact hlen)] at h1
      cases h1
      rfl
    subst ea
    refine ⟨xs, h3, ?_, S4, ((r1'.trans r2).trans r4).trans (rl_upd h2), ?_⟩
    · rw [h4.length]
      have := accE_len (p := p) (f := f) (i := i)
      exact Nat.lt_of_le_of_lt (Nat.le_trans this (Nat.le_trans (Nat.le_of_lt hi) hn)) (by decide)
    · have t5 := t4.change hat h1 h2 h3 (h4.append (.cons d4 .nil))
      rw [accE_t q]
      exact back l2 w2 t5
  | false =>
    refine iteF ?_
    refine ⟨S2, r1'.trans r2, ?_⟩
    rw [L.T i q] at t2
    rw [accE_f q]
    have e0 : pt.app (item i) ((GG (i + 1)).set g (some (.ow (accE p f i)))) = (pt.app (item i) ((GG (i + 1)).set g (some (.ow (accE p f i))))).set g (some (.ow (accE p f i))) := by
      apply List.ext_getElem?
      intro m
      by_cases z : g = m
      · subst z
        rw [L.at_ i, List.getElem?_set_self (List.getElem?_eq_some_iff.mp (L.at_ i (accE p f i))).1]
      · rw [List.getElem?_set_ne z]
    rw [e0] at t2
    exact back l2 w2 t2
theorem lcS_read {Γ : Gm} {wi : TI} {pt : Pat} {g n : Nat} {us : List Nat} {item : Nat → D} {GG GT : Nat → Gm} {f : Nat → D} {p : Nat → Bool} {H : Hp} {Q : VK} (L : LcS c pt g us item GG GT p) (hz : n ≤ 16000000) (hfit : ∀ i, i < n → pt.fits (item i))
    (hw : Src K c Γ wi n item (GG 0)) (h : tE K c Γ (.lst (accE p f n)) (GG n) σ H Q) : tLc wi (pt.g K) (tInTS K c pt g n item GG GT f p) (tInS K c pt g n item GG GT f p) (g :: us) σ H Q := by
  obtain ⟨S, t, q⟩ := h
  refine hw.run S σ H _ t fun S1 H1 J G Y r1 t1 w hG hY Dl hD => ?_
  have hl : g < σ.length := by rw [t1.len]; exact L.ln
  refine lc_it w (LcE K c S1 H1 (L2.wipe σ (g :: us)) Dl g GG (accE p f)) (lcE_start (wfx L.fx) List.mem_cons_self L.G0 t1 hD) (fun i H' _ ⟨S', r, _⟩ => hG S' H' r) (fun i x H' H3 hi z y => ?_) fun H' z => lcE_end (wfx L.fx) List.mem_cons_self hl (L.Gg n) r1 z q
  exact lcS_turn L hz hl hi (hfit i hi) (fun S' r hd => hY i S' H' x H3 hi r hd y) z
end
section
variable {X : Cx} {c : Cn} {Γ : Gm} {a b e : Expr} {pos p1 p2 : Pos} {Po : Post} {elt iter tg : Expr} {ifs : List Expr} {scope : Scope} {us : List Nat} {own : List (Str × Nat)} {lpos : Pos} {yg x : Str} {g : Nat}
theorem in_eltS {pt : Pat} {n : Nat} {item : Nat → D} {GG GT : Nat → Gm} {f : Nat → D} {p : Nat → Bool} (hgN : X.N[g]? = some yg) (hgs : scope.names.lookup yg = none)
    (he : ∀ i, i < n → p i = true → InBlk X scope fun X' => Ev X' c (pt.app (item i) ((GT i).set g (some (.ow (accE p f i))))) elt (f i) (pt.app (item i) ((GG (i + 1)).set g (some (.ow (accE p f i)))))) : InBlk X scope fun X' => PE X' elt (tInS X.K c pt g n item GG GT f p) :=
  fun s H C cl fp => ⟨fun pins s1 σ H1 Q I ⟨i, h1, h2, q⟩ => (pe_gh (he i h1 h2 s H C cl fp) hgN (not_vis hgs)).run pins s1 σ H1 Q I q⟩
theorem in_tstS {pt : Pat} {n : Nat} {item : Nat → D} {GG GT : Nat → Gm} {f : Nat → D} {p : Nat → Bool} (hgN : X.N[g]? = some yg) (hgs : scope.names.lookup yg = none)
    (ht : ∀ i, i < n → InBlk X scope fun X' => PTs X' ifs (tEt X.K c (pt.app (item i) ((GG i).set g (some (.ow (accE p f i))))) (p i) (pt.app (item i) ((GT i).set g (some (.ow (accE p f i))))))) : InBlk X scope fun X' => PTs X' ifs (tInTS X.K c pt g n item GG GT f p) :=
  fun s H C cl fp => ⟨fun pins s1 σ H1 Q I ⟨i, h1, q⟩ => (pts_gh (ht i h1 s H C cl fp) hgN (not_vis hgs)).run pins s1 σ H1 Q I q⟩
/-- [elt for tg in iter if ..] -/
theorem ev_lcS (pt : Pat) (g : Nat) {us : List Nat} {wi : TI} {n : Nat} {item : Nat → D} (GG GT : Nat → Gm) (f : Nat → D) (p : Nat → Bool) (hi : PI X tg iter wi) (hw : Src X.K c Γ wi n item (GG 0)) (hz : n ≤ 16000000) (hfit : ∀ i, i < n → pt.fits (item i)) (ok : BlkOk X.N X.env.scope scope own) (ho : own.map (·.2) = g :: us)
    (hg : InBlk X scope fun X' => PG X' tg (pt.g X.K))
    (ht : ∀ i, i < n → InBlk X scope fun X' => PTs X' ifs (tEt X.K c (pt.app (item i) ((GG i).set g (some (.ow (accE p f i))))) (p i) (pt.app (item i) ((GT i).set g (some (.ow (accE p f i)))))))
    (he : ∀ i, i < n → p i = true → InBlk X scope fun X' => Ev X' c (pt.app (item i) ((GT i).set g (some (.ow (accE p f i))))) elt (f i) (pt.app (item i) ((GG (i + 1)).set g (some (.ow (accE p f i))))))
    (L : LcS c pt g us item GG GT p) (hN : X.N.Nodup) (hgN : X.N[g]? = some yg := by rfl) (hgs : scope.names.lookup yg = none := by rfl) (hc : X.calm = true := by rfl) (hs : ∀ x, foldedSetIterable iter X.env x = pure x := by intro _; rfl) :
    Ev X c Γ (.ListComp elt [⟨tg, iter, ifs, 0⟩] scope lpos) (.lst (accE p f n)) (GG n) :=
  PE.wk (pe_lc hc hN hi ok hg (in_tstS hgN hgs ht) (in_eltS hgN hgs he) hs) fun σ H Q h => by
    rw [ho]
    exact lcS_read L hz hfit hw h
end
end Spr

set_option Elab.async false
set_option linter.all false
set_option maxRecDepth 100000
set_option maxHeartbeats 4000000
/-! Tuples: zip, +, *, slices. -/
namespace Spr
open PySem PySem.Spec PyProof.Rows L2
section
variable {K : PySem.W.Frag} {c : Cn} {Γ Γ0 : Gm}
theorem walk_pairT {xs ys : List V} {a b : Addr} {n : Nat} (hn : n = min xs.length ys.length) : Walk (RZ.ItzT K a b) n (fun H => SqT K H a xs ∧ SqT K H b ys) (YPair (fun i => xs[i]?) (fun i => ys[i]?)) where
  goes := fun i _ hi q => by
    have h1 : i < xs.length := by omega
    have h2 : i < ys.length := by omega
    exact ⟨xs, ys, xs[i], ys[i], q.1, q.2, List.getElem?_eq_getElem h1, List.getElem?_eq_getElem h2⟩
  stops := fun _ q => ⟨xs, ys, q.1, q.2, by omega⟩
  yields := fun _ _ _ _ _ q ⟨T, x, z, h1, h2, h3, h4, h5⟩ => ⟨T, x, z, h1, h2, h3, h4 xs q.1, h5 ys q.2⟩
/-- zip of two tuples -/
theorem src_zipT {ta : TA} {ds es : List D} (hi : ∀ σ H Q, tEs K c Γ [.tup ds, .tup es] Γ0 σ H Q → ta σ H Q) : Src K c Γ (RZ.iZipA K ta) (min ds.length es.length) (fun i => .tup [ds.getD i .non, es.getD i .non]) Γ0 :=
  ⟨fun S σ H R t q => hi σ H _ ⟨S, t, fun vs S1 H1 r1 t1 dv => by
    obtain ⟨v, w, rfl, d1, d2⟩ := dv.two
    obtain ⟨a, ys, rfl, h2, h3⟩ := d1.tupL
    obtain ⟨b, zs, rfl, k2, k3⟩ := d2.tupL
    refine ⟨a, b, ys, zs, rfl, .inr ⟨h2.sq, k2.sq, q S1 H1 _ _ _ r1 t1 (walk_pairT (xs := ys) (ys := zs) (by rw [h3.length, k3.length])) (fun S2 H2 r => ⟨(h2.mono r).sq, (k2.mono r).sq⟩) fun i S2 H2 x H3 hi r hd y => ?_⟩⟩
    obtain ⟨T, x1, y1, rfl, hT, e3, hx, hy⟩ := y
    obtain ⟨d, h4, h5⟩ := h3.get hx
    obtain ⟨d', h6, h7⟩ := k3.get hy
    rw [List.getD_eq_getElem?_getD, List.getD_eq_getElem?_getD, h4, h6]
    exact den_pair hT e3 hd (h5.mono r) (h7.mono r)⟩⟩
end
section
variable {X : Cx} {c : Cn} {Γ : Gm} {a b e : Expr} {pos : Pos}
/-- t + u, tuples -/
theorem bn_catT {l m : List D} (hz : l.length + m.length ≤ 16000000) : Bn X .Add (.tup l) (.tup m) (.tup (l ++ m)) := ⟨_, op_catA, fun S H v w hd h1 h2 Q q => by
  obtain ⟨p1, xs, rfl, g1, g2⟩ := h1.tup_
  obtain ⟨p2, ys, rfl, k1, k2⟩ := h2.tup_
  refine ⟨p1, p2, xs, ys, rfl, rfl, g1, k1, by rw [g2.length, k2.length]; exact small_line hz, fun e0 => ?_, fun _ e0 => ?_, fun _ _ p hp => ?_⟩
  · have el : l = [] := by
      have := g2.length
      rw [e0] at this
      exact List.length_eq_zero_iff.mp this.symm
    rw [el, List.nil_append] at q
    exact q _ H (Same.refl H) h2
  · have el : m = [] := by
      have := k2.length
      rw [e0] at this
      exact List.length_eq_zero_iff.mp this.symm
    rw [el, List.append_nil] at q
    exact q _ H (Same.refl H) h1
  · have sm := same_new (o := HO.tup (xs ++ ys)) hp
    exact q _ _ sm (.tup (.inl upd_same) (fun z => hd p z hp) ((g2.ext sm).append (k2.ext sm)))⟩
/-- t * n -/
theorem bn_repT {l : List D} {n : Int} (h0 : l ≠ []) (h1 : l.length ≤ 1000) (h2 : 2 ≤ n) (h3 : n ≤ 1000) : Bn X .Mult (.tup l) (.int n) (.tup (List.replicate n.toNat l).flatten) := ⟨_, op_repT, fun S H v w hd g1 g2 Q q => by
  obtain ⟨p1, xs, rfl, k1, k2⟩ := g1.tup_
  refine ⟨p1, n, xs, rfl, g2.int_, k1, fun z => h0 (by
    have := k2.length
    rw [z] at this
    exact List.length_eq_zero_iff.mp this.symm), h2, h3, by rw [k2.length]; exact h1, fun p hp => ?_⟩
  have sm := same_new (o := HO.tup (List.replicate n.toNat xs).flatten) hp
  exact q _ _ sm (.tup (.inl upd_same) (fun z => hd p z hp) ((k2.rep _).ext sm))⟩
/-- t[lo:hi] -/
theorem p_sliceT {l : List D} {lo hi : Option Expr} {l1 h1 : Option Int} {p2 : Pos} (ha : Pe X c Γ a (.tup l)) (hl : PO X lo (tPt X.K c Γ l1)) (hh : PO X hi (tPt X.K c Γ h1)) : Pe X c Γ (.Subscript a (.Slice lo hi none p2) pos) (.tup (cutD l l1 h1)) :=
  PE.wk (pe_slice sl_tupA ha hl hh) fun σ H Q ⟨S, t, q⟩ => ⟨S, t, fun v H1 e1 d1 => ⟨S, t.ext e1, fun H2 e2 => ⟨S, t.ext (e1.trans e2), fun H3 e3 => by
    have d3 := d1.ext (e2.trans e3)
    obtain ⟨u, xs, rfl, h2, h3⟩ := d3.tup_
    refine ⟨u, xs, rfl, h2, fun w => ?_, fun _ p hp => ?_⟩
    · have ec : cutD l l1 h1 = l := by
        unfold cutD
        rw [← h3.length, w.1, w.2, List.drop_zero, Nat.sub_zero, h3.length, List.take_length]
      rw [ec] at q
      exact q _ H3 ((e1.trans e2).trans e3) d3
    · have sm := same_new (o := HO.tup (cutV xs l1 h1)) hp
      exact q _ _ (((e1.trans e2).trans e3).trans sm) (.tup (.inl upd_same) (fun z => t.dom p z (((e1.trans e2).trans e3).free hp)) ((h3.cut l1 h1).ext sm))⟩⟩⟩
end
end Spr

set_option Elab.async false
set_option linter.all false
set_option maxRecDepth 100000
set_option maxHeartbeats 4000000
/-! enumerate of a tuple. -/
namespace EnT
open PySem PySem.Spec PyProof.Rows L2
theorem draws {prog : Program} {w : World} {A : Around} (hh : A.handled = none) (it l : Addr) (hne : l ≠ it) (items : Array Value) :
    Draws prog w A it [it, l] items.size (fun i v => items[i]? = some v) (fun i h => h.IsTupleIter it l i ∧ h.IsTuple l items) where
  live := fun _ _ st => let ⟨o, ho, _⟩ := st.1; ⟨o, ho⟩
  frame := fun _ _ _ st hk => ⟨st.1.at fun o e => hk it (by simp) o e, let ⟨o, ho, r⟩ := st.2; ⟨o, hk l (by simp) o ho, r⟩⟩
  item := fun i s Q E hi st hQ => RZ.nextOf_tuple_item st.1 st.2 (x := items[i]) (by simp [hi]) fun h' hit' hs' =>
    hQ _ h' s.toks (by simp [hi]) ⟨hit', let ⟨o, ho, r⟩ := st.2; ⟨o, (hs'.2 l hne).trans ho, r⟩⟩ hs'
  done := fun s Q E st hE => RZ.nextOf_tuple_end hh st.1 st.2 (by simp) hE
end EnT
namespace EnT
open PySem PySem.Spec PyProof.Rows L2
open AutoSeq1 (wpAny_loadPart')
theorem meets_new (l : Addr) (items : Array Value) (n : Nat) (dct : Option Addr) (sl : Array (Option Value)) :
    Meets (Builtin.«enumerate.__new__» ⟨[.type "enumerate", .ref l], []⟩) (fun _ R s => s.heap.get? l = some { cls := .type "tuple", dict := dct, data := .seq items n, slots := sl } ∧
      R (.ok (.ret (.ref (s.heap.push { cls := .type "tuple_iterator", data := .fields #[.ref l, .int 0 0] }).objs.size)))
        { s with heap := (s.heap.push { cls := .type "tuple_iterator", data := .fields #[.ref l, .int 0 0] }).push { cls := .type "enumerate", data := .fields #[.none, .bool false, .ref s.heap.objs.size, rawInt 0, .none, .none] } }) :=
  .of_wp fun prog w A R s h => by
    obtain ⟨hp, g, d, tk, os⟩ := s; obtain ⟨hl, h⟩ := h
    have hsub := sub_enumerate
    have hL : Heap.IsTuple (Shared.heap ⟨hp, g, d, tk, os⟩) l items := ⟨_, hl, rfl, n, rfl⟩
    wp_walk using wpAny_loadPart' hl
    refine wpAny_stack_any fun st => wpAny_pure ?_
    split
    · rename_i c _ _ _ _ _
      cases (c == Value.type "enumerate")
      · wp_walk using wpAny_loadPart' hl, wpAny_pyIter_tuple hL
        exact ⟨_, rfl, h⟩
      · wp_walk using wpAny_loadPart' hl, wpAny_pyIter_tuple hL
        exact ⟨_, rfl, h⟩
    · wp_walk using wpAny_loadPart' hl, wpAny_pyIter_tuple hL
      exact ⟨_, rfl, h⟩
end EnT
namespace EnT
open PySem PySem.Spec PyProof.Rows L2
theorem call_tuple {prog : Program} {w : World} {A : Around} {E : Value → Shared → Prop} {s : Shared} {l : Addr} {items : Array Value} {Q : Value → Shared → Prop} (hL : s.heap.IsTuple l items)
    (h : ∀ h', IsEnum h' (s.heap.objs.size + 1) s.heap.objs.size 0 .none → h'.IsTupleIter s.heap.objs.size l 0 → h'.objs.size = s.heap.objs.size + 2 →
      (∀ b o, s.heap.get? b = some o → h'.get? b = some o) → Q (.ref (s.heap.objs.size + 1)) { s with heap := h' }) :
    wpAny (model prog w) A (call (.type "enumerate") [.ref l]) Q E s := by
  obtain ⟨⟨c, dct, dt, sl⟩, hl, hc, n, hd⟩ := hL
  obtain rfl : c = .type "tuple" := hc
  obtain rfl : dt = .seq items n := hd
  refine callType_new F.called_enumerate (by decide) (F.typeCall_enumerate_1 _) (F.newCall_enumerate_1 _) (fun obj => F.args_object_init_2 obj _) F.entry_enumerate_new (meets_new l items n dct sl) ⟨hl, ?_⟩
  generalize ho1 : ({ cls := .type "tuple_iterator", data := .fields #[.ref l, .int 0 0] } : Obj) = o1
  have f1 : o1.isFreed = false := by rw [← ho1]; rfl
  have hz : (s.heap.push o1).objs.size = s.heap.objs.size + 1 := Heap.size_push ..
  show _ ∧ _
  rw [hz]
  generalize ho2 : ({ cls := .type "enumerate", data := .fields #[.none, .bool false, .ref s.heap.objs.size, rawInt 0, .none, .none] } : Obj) = o2
  have he : ((s.heap.push o1).push o2).get? (s.heap.objs.size + 1) = some o2 := by
    have z := Heap.get?_push_size (s.heap.push o1) (o := o2) (by rw [← ho2]; rfl)
    rw [hz] at z
    exact z
  have hi : ((s.heap.push o1).push o2).get? s.heap.objs.size = some o1 := Heap.get?_push_of_some _ (Heap.get?_push_size _ f1)
  subst ho1 ho2
  exact ⟨⟨_, he, rfl⟩, h _ he ⟨_, hi, rfl, rfl⟩ (by rw [Heap.size_push, hz]) fun b o x => Heap.get?_push_of_some _ (Heap.get?_push_of_some _ x)⟩
/-- the tuple at a, its items in new pairs with their numbers -/
def IteT (K : PySem.W.Frag) (a : Addr) : It :=
  ⟨fun i H => ∃ (xs : List V) (x : V), SqT K H a xs ∧ xs[i]? = some x, fun i H v H' => ∃ T x, v = .ref T ∧ H T = none ∧ H' = upd H T (.tup [.int (i : Nat), x]) ∧ ∀ xs, SqT K H a xs → xs[i]? = some x, fun i H => ∃ xs : List V, SqT K H a xs ∧ xs.length = i⟩
end EnT
namespace EnT
open PySem PySem.Spec PyProof.Rows L2
theorem turn {P : Program} {w : World} {K : PySem.W.Frag} {elts : List Expr} {kk : Nat} {tpos : Pos} (a e it : Addr) :
    Turn P w K (.Tuple elts kk tpos) (IteT K a) [e, it] e (fun i h => (∃ old, IsEnum h e it ((i : Nat) : Int) old) ∧ h.IsTupleIter it a i ∧ e ≠ it ∧ a ≠ it ∧ a ≠ e) where
  mem := by simp
  obj := fun i h st b hb => by
    obtain ⟨⟨old, he⟩, ⟨o, ho, hc, hd⟩, _⟩ := st
    rcases List.mem_cons.mp hb with rfl | hb
    · exact ⟨_, he, fun v q => nomatch q⟩
    · rw [List.mem_singleton.mp hb]
      exact ⟨o, ho, fun v q => by rw [hd] at q; cases q⟩
  keep := fun i h h' st k => let ⟨⟨old, he⟩, hi, hne⟩ := st; ⟨⟨old, k e (by simp) _ he⟩, hi.at fun o q => k it (by simp) o q, hne⟩
  item := by
    intro X hP hw hK hc i pins s σ H E I hf st hg
    subst hP hw hK
    obtain ⟨⟨old, he⟩, hit, hne, hai, hae⟩ := st
    obtain ⟨xs, x, hq, hx⟩ := hg
    obtain ⟨its, rv, p, hz⟩ := I.tuple hq
    obtain ⟨u, hu, ru⟩ := rv.get hx
    have hel : e < s.heap.objs.size := Heap.lt_size he
    have hil : it < s.heap.objs.size := by obtain ⟨_, q, _⟩ := hit; exact Heap.lt_size q
    have hil2 : i < its.toArray.size := by
      have := (List.getElem?_eq_some_iff.mp hu).1
      simpa using this
    have D := draws (prog := X.prog) (w := X.w) (A := X.A.in1) (I.ok.hd hc) it a hai its.toArray
    refine wpAny_pyNext_enum_itemD D he ⟨hit, p⟩ hil2 hne (by simp [hne]; exact fun z => hae z.symm) fun x1 h' tk hP ho st' hT hsz hk => ?_
    obtain rfl : x1 = u := by
      have : its[i]? = some x1 := by simpa using hP
      rw [hu] at this
      exact (Option.some.inj this).symm
    refine ⟨_, rfl, wpAny_letOwnedTupleGo_enum (s := { s with heap := h', toks := tk + 1 }) ho fun h'' he' sb => ?_⟩
    have hT2 : h''.get? s.heap.objs.size = some { cls := .type "tuple", data := .seq #[.int i tk, x1] } := (sb.2 _ (Nat.ne_of_gt hel)).trans hT
    have new : ObjOk X.prog X.w (upd H s.heap.objs.size (.tup [.int (i : Nat), x])) h'' s.heap.objs.size (.tup [.int (i : Nat), x]) :=
      ⟨by show 2 ≤ sizeLine; decide, [.int i tk, x1], .cons ⟨_, rfl⟩ (.cons ru .nil), ⟨_, hT2, rfl, _, rfl⟩⟩
    have I1 : Inv X pins σ (upd H s.heap.objs.size (.tup [.int (i : Nat), x])) { s with heap := h'', toks := tk + 1 } :=
      I.turnedNew (ch := [e, it]) (fun b ob hb q => (sb.2 b (fun z => hb (by simp [z]))).trans (hk b ob (fun z => hb (by simp [z])) (fun z => hb (by simp [z])) q)) hf (Nat.le_refl _) new
    refine ⟨.ref s.heap.objs.size, _, I1, rfl, ⟨_, x, rfl, I.hok.fresh (Nat.le_refl _), rfl, fun ys hy => by rw [I.tuple_inj hy hq]; exact hx⟩, ⟨⟨x1, ?_⟩, st'.1.at fun o q => (sb.2 it (Ne.symm hne)).trans q, hne, hai, hae⟩, fun b hb => ?_⟩
    · rw [show ((i + 1 : Nat) : Int) = (i : Int) + 1 from by omega]
      exact he'
    · have hb' : b < s.heap.objs.size := by
        rcases List.mem_cons.mp hb with rfl | hb
        · exact hel
        · rw [List.mem_singleton.mp hb]; exact hil
      rw [upd_ne (Nat.ne_of_lt hb')]
      exact (hf b hb).1
  done := by
    intro X hP hw hK hc i pins s σ H E I hf st hg
    subst hP hw hK
    obtain ⟨⟨old, he⟩, hit, hne, hai, hae⟩ := st
    obtain ⟨xs, hq, hx⟩ := hg
    obtain ⟨its, rv, p, hz⟩ := I.tuple hq
    obtain ⟨f0, f1, f2, f3, f4, f5⟩ := hf it (by simp)
    have hl := rv.length
    have D := draws (prog := X.prog) (w := X.w) (A := X.A.in1) (I.ok.hd hc) it a hai its.toArray
    have es : i = its.toArray.size := by rw [List.size_toArray]; omega
    subst es
    exact wpAny_pyNext_enum_endD D he ⟨hit, p⟩ fun h' eb => ⟨rfl, I.turned (t' := s.toks) (fun b o hb q => eb b o hb q) f0 f1 f3 f4 f5⟩
  self := fun A i s Q E st h => let ⟨⟨_, he⟩, _⟩ := st; wpAny_pyIter_enum he h
end EnT

namespace EnT
open PySem PySem.Spec PyProof.Rows L2
def iEnumT (K : PySem.W.Frag) (ta : TA) : TI := fun σ H R => ta σ H fun vs H1 => ∃ a xs, vs = [.ref a] ∧ SqT K H1 a xs ∧ R (IteT K a) H1
theorem pi_enumT {X : Cx} {e : Expr} {ta : TA} {p pos tpos : Pos} {elts : List Expr} {kk : Nat} (hg : Gl X "enumerate") (hm : X.mg "enumerate" = none) (ha : PA X [e] ta) (hs : starEach [e] X.env = [(false, eval e X.env)] := by rfl) :
    PI X (.Tuple elts kk tpos) (.Call (.Name "enumerate" p) [e] [] pos) (iEnumT X.K ta) := by
  refine ⟨fun pins s σ H R I h => ?_⟩
  refine Call_ (ld_blt I hg hm boot_enumerate (PyProof.Rows.callWith_type1 (thn (ha.run pos pins s σ H _ I h) fun us s1 ⟨vs, H1, I1, r1, a, xs, ex, hq, q⟩ => ?_) hs rfl))
  subst ex
  obtain ⟨u, rfl, ru⟩ := Vals.one r1
  obtain rfl : u = Value.ref a := ru
  obtain ⟨its, rv, p', hz⟩ := I1.tuple hq
  have la : a < s1.heap.objs.size := let ⟨o, ho, _⟩ := p'; Heap.lt_size ho
  refine call_tuple (show s1.heap.IsTuple a its.toArray from p') fun h' he hit hsz hk => wpAny_pyIter_enum he ?_
  have I2 : Inv X pins σ H1 { s1 with heap := h' } := I1.kept (t' := s1.toks) hk
  refine ⟨s1.heap.objs.size + 1, [s1.heap.objs.size + 1, s1.heap.objs.size], _, _, H1, rfl, I2, turn a (s1.heap.objs.size + 1) s1.heap.objs.size, ⟨⟨.none, he⟩, hit, Nat.succ_ne_self _, Nat.ne_of_lt la, Nat.ne_of_lt (Nat.lt_succ_of_lt la)⟩, fun b hb => ?_, q⟩
  have hle : s1.heap.objs.size ≤ b := by
    rcases List.mem_cons.mp hb with rfl | hb
    · exact Nat.le_succ _
    · rw [List.mem_singleton.mp hb]; exact Nat.le_refl _
  exact I1.fpOk hle (I1.hok.fresh hle)
theorem walk {K : PySem.W.Frag} {a : Addr} {xs : List V} : Walk (IteT K a) xs.length (fun H => SqT K H a xs) (YPair (fun i => some (.int (i : Nat))) (fun i => xs[i]?)) :=
  ⟨fun i _ hi q => ⟨xs, xs[i], q, List.getElem?_eq_getElem hi⟩, fun _ q => ⟨xs, q, rfl⟩, fun i H v H' _ q ⟨T, x, h1, h2, h3, h4⟩ => ⟨T, .int (i : Nat), x, h1, h2, h3, rfl, h4 xs q⟩⟩
end EnT
namespace Spr
open PySem PySem.Spec PyProof.Rows L2
/-- enumerate of a tuple -/
theorem src_enumT {K : PySem.W.Frag} {c : Cn} {Γ Γ0 : Gm} {ta : TA} {ds : List D} (hi : ∀ σ H Q, tEs K c Γ [.tup ds] Γ0 σ H Q → ta σ H Q) : Src K c Γ (EnT.iEnumT K ta) ds.length (fun i => .tup [.int (i : Int), ds.getD i .non]) Γ0 :=
  ⟨fun S σ H R t q => hi σ H _ ⟨S, t, fun vs S1 H1 r1 t1 dv => by
    obtain ⟨v, rfl, d1⟩ := dv.one
    obtain ⟨a, ys, rfl, h2, h3⟩ := d1.tupL
    have hlen : ys.length = ds.length := h3.length
    refine ⟨a, ys, rfl, h2.sq, q S1 H1 _ _ _ r1 t1 (hlen ▸ EnT.walk (xs := ys)) (fun S2 H2 r => (h2.mono r).sq) fun i S2 H2 x H3 hi r hd y => ?_⟩
    obtain ⟨T, x1, y1, rfl, hT, e3, hx, hy⟩ := y
    cases hx
    obtain ⟨d, h4, h5⟩ := h3.get hy
    rw [List.getD_eq_getElem?_getD, h4]
    exact den_pair hT e3 hd (.int _) (h5.mono r)⟩⟩
end Spr

set_option Elab.async false
set_option linter.all false
set_option maxRecDepth 100000
set_option maxHeartbeats 4000000
namespace Spr
open PySem PySem.Spec PyProof.Rows L2
section
variable {X : Cx} {c : Cn} {Γ : Gm} {pos : Pos}
/-- {} -/
theorem p_dic : Pe X c Γ (.Dict [] [] pos) .dic :=
  PE.wk pe_dnewK fun σ H Q ⟨S, t, q⟩ p hp => q (.ref p) _ (same_new hp) (.dic upd_same fun z => t.dom p z hp)
end
end Spr

set_option Elab.async false
set_option linter.all false
set_option maxRecDepth 100000
set_option maxHeartbeats 4000000
/-! Pure sources (SrcP); comprehensions over anything, of one or two clauses, as new lists; t[::-1] of a tuple; ints of the module; xs.extend(a new list). -/
namespace Spr
open PySem PySem.Spec PyProof.Rows L2
structure SrcP (K : PySem.W.Frag) (c : Cn) (Γ : Gm) (wi : TI) (n : Nat) (item : Nat → D) : Prop where
  run : ∀ (S : Addr → Prop) (σ : L2.St) (H : Hp) (R : It → Hp → Prop), Gd K c S σ H Γ →
    (∀ (H1 : Hp) (J : It) (G : Hp → Prop) (Y : Nat → Hp → V → Hp → Prop), Same H H1 → Walk J n G Y → (∀ S2 H2, Rl S H1 S2 H2 → G H2) →
      (∀ (i : Nat) (S2 : Addr → Prop) (H2 : Hp) (x : V) (H3 : Hp), i < n → Rl S H1 S2 H2 → (∀ a, S2 a → H2 a ≠ none) → Y i H2 x H3 → Same H2 H3 ∧ Den K S2 H3 x (item i)) → R J H1) → wi σ H R
section
variable {K : PySem.W.Frag} {c : Cn} {Γ : Gm}
theorem srcp_range1 {ta : TA} {n : Int} (hi : ∀ σ H Q, tAs K c Γ [.int n] σ H Q → ta σ H Q) (h0 : -(2 ^ 62) ≤ n) (h1 : n < 2 ^ 62) : SrcP K c Γ (iRng1 ta) n.toNat (fun i => .int (i : Int)) :=
  ⟨fun S σ H R t q => hi σ H _ ⟨S, t, fun vs H1 e1 dv => by
    obtain ⟨v, rfl, hv⟩ := dv.one
    refine ⟨n, by rw [hv.int_], h0, h1, q H1 _ _ _ e1 walk_range (fun _ _ _ => trivial) fun i S2 H2 x H3 hi r hd y => ?_⟩
    obtain ⟨rfl, rfl⟩ := y
    show Same H3 H3 ∧ Den K S2 H3 (V.int (0 + (i : Int))) _
    rw [Int.zero_add]
    exact ⟨Same.refl _, .int _⟩⟩⟩
theorem srcp_range2 {ta : TA} {lo n : Int} (hi : ∀ σ H Q, tAs K c Γ [.int lo, .int n] σ H Q → ta σ H Q) (h0 : -(2 ^ 62) ≤ lo ∧ lo < 2 ^ 62 ∧ -(2 ^ 62) ≤ n ∧ n < 2 ^ 62) : SrcP K c Γ (iRng2 ta) (n - lo).toNat (fun i => .int (lo + (i : Int))) :=
  ⟨fun S σ H R t q => hi σ H _ ⟨S, t, fun vs H1 e1 dv => by
    obtain ⟨v, w, rfl, hv, hw⟩ := dv.two
    refine ⟨lo, n, by rw [hv.int_, hw.int_], h0, q H1 _ _ _ e1 walk_range (fun _ _ _ => trivial) fun i S2 H2 x H3 hi r hd y => ?_⟩
    obtain ⟨rfl, rfl⟩ := y
    exact ⟨Same.refl _, .int _⟩⟩⟩
theorem srcp_tup {ti : TE} {ds : List D} (hi : ∀ σ H Q, tP K c Γ (.tup ds) σ H Q → ti σ H Q) : SrcP K c Γ (iTup K ti) ds.length (fun i => ds.getD i .non) :=
  ⟨fun S σ H R t q => hi σ H _ ⟨S, t, fun v H1 e1 d1 => by
    obtain ⟨a, ys, rfl, h2, h3⟩ := d1.tupL
    have hlen : ys.length = ds.length := h3.length
    refine ⟨a, rfl, ⟨ys, h2.sq⟩, q H1 _ _ _ e1 (hlen ▸ walk_tup (xs := ys)) (fun S2 H2 r => (h2.mono r).sq) fun i S2 H2 x H3 hi r hd y => ?_⟩
    obtain ⟨rfl, hx⟩ := y
    obtain ⟨d, h4, h5⟩ := h3.get hx
    refine ⟨Same.refl _, ?_⟩
    rw [List.getD_eq_getElem?_getD, h4]
    exact h5.mono r⟩⟩
theorem srcp_lst {ti : TE} {ds : List D} (hi : ∀ σ H Q, tP K c Γ (.lst ds) σ H Q → ti σ H Q) : SrcP K c Γ (iList K ti) ds.length (fun i => ds.getD i .non) :=
  ⟨fun S σ H R t q => hi σ H _ ⟨S, t, fun v H1 e1 d1 => by
    obtain ⟨a, ys, rfl, h2, h3⟩ := d1.lstL
    have hlen : ys.length = ds.length := h3.length
    refine ⟨a, rfl, ⟨ys, h2.sq⟩, q H1 _ _ _ e1 (hlen ▸ walk_list (xs := ys)) (fun S2 H2 r => (h2.mono r).sq) fun i S2 H2 x H3 hi r hd y => ?_⟩
    obtain ⟨rfl, hx⟩ := y
    obtain ⟨d, h4, h5⟩ := h3.get hx
    refine ⟨Same.refl _, ?_⟩
    rw [List.getD_eq_getElem?_getD, h4]
    exact h5.mono r⟩⟩
theorem srcp_zipT {ta : TA} {ds es : List D} (hi : ∀ σ H Q, tAs K c Γ [.tup ds, .tup es] σ H Q → ta σ H Q) : SrcP K c Γ (RZ.iZipA K ta) (min ds.length es.length) (fun i => .tup [ds.getD i .non, es.getD i .non]) :=
  ⟨fun S σ H R t q => hi σ H _ ⟨S, t, fun vs H1 e1 dv => by
    obtain ⟨v, w, rfl, d1, d2⟩ := dv.two
    obtain ⟨a, ys, rfl, h2, h3⟩ := d1.tupL
    obtain ⟨b, zs, rfl, k2, k3⟩ := d2.tupL
    refine ⟨a, b, ys, zs, rfl, .inr ⟨h2.sq, k2.sq, q H1 _ _ _ e1 (walk_pairT (xs := ys) (ys := zs) (by rw [h3.length, k3.length])) (fun S2 H2 r => ⟨(h2.mono r).sq, (k2.mono r).sq⟩) fun i S2 H2 x H3 hi r hd y => ?_⟩⟩
    obtain ⟨T, x1, y1, rfl, hT, e3, hx, hy⟩ := y
    obtain ⟨d, h4, h5⟩ := h3.get hx
    obtain ⟨d', h6, h7⟩ := k3.get hy
    rw [List.getD_eq_getElem?_getD, List.getD_eq_getElem?_getD, h4, h6]
    exact den_pair hT e3 hd (h5.mono r) (h7.mono r)⟩⟩
theorem srcp_zipL {ta : TA} {ds es : List D} (hi : ∀ σ H Q, tAs K c Γ [.lst ds, .lst es] σ H Q → ta σ H Q) : SrcP K c Γ (iZip K ta) (min ds.length es.length) (fun i => .tup [ds.getD i .non, es.getD i .non]) :=
  ⟨fun S σ H R t q => hi σ H _ ⟨S, t, fun vs H1 e1 dv => by
    obtain ⟨v, w, rfl, d1, d2⟩ := dv.two
    obtain ⟨a, ys, rfl, h2, h3⟩ := d1.lstL
    obtain ⟨b, zs, rfl, k2, k3⟩ := d2.lstL
    refine ⟨a, b, ys, zs, rfl, h2.sq, k2.sq, q H1 _ _ _ e1 (walk_zip (xs := ys) (ys := zs) (by rw [h3.length, k3.length])) (fun S2 H2 r => ⟨(h2.mono r).sq, (k2.mono r).sq⟩) fun i S2 H2 x H3 hi r hd y => ?_⟩
    obtain ⟨T, x1, y1, rfl, hT, e3, hx, hy⟩ := y
    obtain ⟨d, h4, h5⟩ := h3.get hx
    obtain ⟨d', h6, h7⟩ := k3.get hy
    rw [List.getD_eq_getElem?_getD, List.getD_eq_getElem?_getD, h4, h6]
    exact den_pair hT e3 hd (h5.mono r) (h7.mono r)⟩⟩
theorem srcp_enumL {ta : TA} {ds : List D} (hi : ∀ σ H Q, tAs K c Γ [.lst ds] σ H Q → ta σ H Q) : SrcP K c Γ (iEnum K ta) ds.length (fun i => .tup [.int (i : Int), ds.getD i .non]) :=
  ⟨fun S σ H R t q => hi σ H _ ⟨S, t, fun vs H1 e1 dv => by
    obtain ⟨v, rfl, d1⟩ := dv.one
    obtain ⟨a, ys, rfl, h2, h3⟩ := d1.lstL
    have hlen : ys.length = ds.length := h3.length
    refine ⟨a, ys, rfl, h2.sq, q H1 _ _ _ e1 (hlen ▸ walk_enum (xs := ys)) (fun S2 H2 r => (h2.mono r).sq) fun i S2 H2 x H3 hi r hd y => ?_⟩
    obtain ⟨T, x1, y1, rfl, hT, e3, hx, hy⟩ := y
    cases hx
    obtain ⟨d, h4, h5⟩ := h3.get hy
    rw [List.getD_eq_getElem?_getD, h4]
    exact den_pair hT e3 hd (.int _) (h5.mono r)⟩⟩
theorem srcp_enumT {ta : TA} {ds : List D} (hi : ∀ σ H Q, tAs K c Γ [.tup ds] σ H Q → ta σ H Q) : SrcP K c Γ (EnT.iEnumT K ta) ds.length (fun i => .tup [.int (i : Int), ds.getD i .non]) :=
  ⟨fun S σ H R t q => hi σ H _ ⟨S, t, fun vs H1 e1 dv => by
    obtain ⟨v, rfl, d1⟩ := dv.one
    obtain ⟨a, ys, rfl, h2, h3⟩ := d1.tupL
    have hlen : ys.length = ds.length := h3.length
    refine ⟨a, ys, rfl, h2.sq, q H1 _ _ _ e1 (hlen ▸ EnT.walk (xs := ys)) (fun S2 H2 r => (h2.mono r).sq) fun i S2 H2 x H3 hi r hd y => ?_⟩
    obtain ⟨T, x1, y1, rfl, hT, e3, hx, hy⟩ := y
    cases hx
    obtain ⟨d, h4, h5⟩ := h3.get hy
    rw [List.getD_eq_getElem?_getD, h4]
    exact den_pair hT e3 hd (.int _) (h5.mono r)⟩⟩
end
/-- what stays in a comprehension's turns: Dl its list -/
def LcP (K : PySem.W.Frag) (S : Addr → Prop) (H1 : Hp) (Dl : Addr) (l : List D) (H' : Hp) : Prop := Same H1 H' ∧ ∃ acc, H' Dl = some (.lst acc) ∧ DenL K (more S Dl) H' acc l
section
variable {K : PySem.W.Frag} {c : Cn} {Γ : Gm} {S : Addr → Prop} {σ : L2.St} {H1 H2 H3 H' : Hp} {Dl : Addr} {l : List D}
theorem LcP.ext (h : LcP K S H1 Dl l H') (e : Same H' H3) : LcP K S H1 Dl l H3 := let ⟨e1, acc, h1, h2⟩ := h; ⟨e1.trans e, acc, e _ _ h1, h2.ext e⟩
theorem LcP.put {z : V} {d : D} (h : LcP K S H1 Dl l H') (hD : H1 Dl = none) (hz : l.length < 16000000) (hd : Den K (more S Dl) H' z d) : ∃ acc, H' Dl = some (.lst acc) ∧ acc.length < sizeLine ∧ LcP K S H1 Dl (l ++ [d]) (upd H' Dl (.lst (acc ++ [z]))) := by
  obtain ⟨e1, acc, h1, h2⟩ := h
  refine ⟨acc, h1, by rw [h2.length]; exact Nat.lt_trans hz (by decide), fun b o hb => ?_, acc ++ [z], upd_same, (h2.append (.cons hd .nil)).mono (rl_upd (.inr rfl))⟩
  rw [upd_ne (ne_of_none hb hD)]
  exact e1 _ _ hb
theorem LcP.gd (h : LcP K S H1 Dl l H') (t : Gd K c S σ H1 Γ) (hD : H1 Dl = none) : Gd K c (more S Dl) σ H' Γ := let ⟨e1, acc, h1, _⟩ := h; t.plus hD e1 (by rw [h1]; simp)
theorem LcP.rl (h : LcP K S H1 Dl l H') (hD : H1 Dl = none) : Rl S H1 (more S Dl) H' := rl_more hD h.1
theorem LcP.fin {Q : VK} {H0 : Hp} (h : LcP K S H1 Dl l H') (e0 : Same H0 H1) (hD : H1 Dl = none) (q : ∀ p' ys H', Same H0 H' → H0 p' = none → H' p' = some (.lst ys) → DenL K (more S p') H' ys l → Q (.ref p') H') : Q (.ref Dl) H' := by
  obtain ⟨e1, acc, h1, h2⟩ := h
  exact q Dl acc H' (e0.trans e1) (e0.free hD) h1 h2
end
def tInP (K : PySem.W.Frag) (c : Cn) (Γw : Gm) (pt : Pat) (n : Nat) (item : Nat → D) (f : Nat → D) (p : Nat → Bool) : TE := fun σ H Q => ∃ i, i < n ∧ p i = true ∧ tP K c (pt.app (item i) Γw) (f i) σ H Q
def tInTP (K : PySem.W.Frag) (c : Cn) (Γw : Gm) (pt : Pat) (n : Nat) (item : Nat → D) (p : Nat → Bool) : TT := fun σ H Q => ∃ i, i < n ∧ tQ K c (pt.app (item i) Γw) (p i) σ H Q
theorem lcP_read {K : PySem.W.Frag} {c : Cn} {Γ : Gm} {σ : L2.St} {wi : TI} {pt : Pat} {n : Nat} {vs : List Nat} {item : Nat → D} {f : Nat → D} {p : Nat → Bool} {H : Hp} {Q : VK} (hz : n ≤ 16000000) (hfit : ∀ i, i < n → pt.fits (item i)) (hf : ∀ v ∈ vs, ∀ q ∈ c.fx, q.1 ≠ v) (hj : ∀ j ∈ pt.js, j ∈ vs)
    (hw : SrcP K c Γ wi n item) (h : tO K c Γ (accE p f n) σ H Q) : tLc wi (pt.g K) (tInTP K c (wipeG Γ vs) pt n item p) (tInP K c (wipeG Γ vs) pt n item f p) vs σ H Q := by
  obtain ⟨S, t, q⟩ := h
  refine hw.run S σ H _ t fun H1 J G Y e1 w hG hY Dl hD => ?_
  have t1 := t.ext e1
  refine lc_it w (fun i H' => LcP K S H1 Dl (accE p f i) H') ⟨same_new hD, [], upd_same, .nil⟩ (fun i H' _ z => hG _ H' (z.rl hD)) (fun i x H' H3 hi z y => ?_) fun H' z => z.fin e1 hD q
  have g := z.gd t1 hD
  obtain ⟨sm, dy⟩ := hY i (more S Dl) H' x H3 hi (z.rl hD) g.dom y
  have gw := (g.ext sm).wipe vs hf
  refine Pat.run pt (item i) (hfit i hi) (fun j hj' => hf j (hj j hj')) gw dy fun σ2 g2 l2 w2 _ => ⟨?_, i, hi, more S Dl, g2, fun H4 e4 => ?_⟩
  · rw [w2 vs hj]; exact wipe_idem σ vs
  · cases hp : p i with
    | true =>
      refine iteT ⟨i, hi, hp, more S Dl, g2.ext e4, fun z1 H5 e5 d5 => ?_⟩
      rw [accE_t hp]
      exact ((z.ext sm).ext (e4.trans e5)).put hD (Nat.lt_of_le_of_lt accE_len (Nat.lt_of_lt_of_le hi hz)) d5
    | false =>
      refine iteF ?_
      rw [accE_f hp]
      exact (z.ext sm).ext e4
/-- a place that is no slot's own list is changed -/
theorem Gd.poke {K : PySem.W.Frag} {c : Cn} {Γ : Gm} {S : Addr → Prop} {σ : L2.St} {H H' : Hp} {Dl : Addr} (t : Gd K c S σ H Γ) (k : ∀ b o, H b = some o → b ≠ Dl → H' b = some o) (hS : S Dl) (hd : H' Dl ≠ none) (hl : ∃ xs, H Dl = some (.lst xs)) (h0 : c.H0 Dl = none ∨ c.Tb Dl) (hs0 : ¬ c.S0 Dl)
    (hno : ∀ (s : Nat) (l : List D), Γ[s]? = some (some (.ow l)) → σ[s]? ≠ some (some (.ref Dl))) : Gd K c S σ H' Γ := by
  have r : Rl S H S H' := fun b o nb hb _ => ⟨k b o hb fun e => nb (by rw [e]; exact hS), nb⟩
  have kd : ∀ a, H a ≠ none → H' a ≠ none := fun a ha => by
    by_cases e : a = Dl
    · rw [e]; exact hd
    · cases q : H a with
      | none => exact absurd q ha
      | some o => rw [k a o q e]; simp
  obtain ⟨xs0, hl⟩ := hl
  refine ⟨t.len, fun s en he => ?_, t.sep, t.loc, t.sub, t.new, fun a o h n nt => ?_, fun a ha => kd a (t.dom a ha), fun a h nt => kd a (t.dm0 a h nt), t.fix, fun p hp => ?_, t.tbS⟩
  · obtain ⟨v, h1, h2⟩ := t.at_ s en he
    refine ⟨v, h1, ?_⟩
    cases en with
    | im d => exact Den.mono h2 r
    | ow l =>
      obtain ⟨a, xs, rfl, h3, h4, h5⟩ := h2
      exact ⟨a, xs, rfl, h3, k a _ h4 fun e => hno s l he (by rw [h1, e]), h5.mono r⟩
    | od a kvs =>
      obtain ⟨rfl, h3, ks, h4, h5⟩ := h2
      exact ⟨rfl, h3, ks, k a _ h4 (fun e => by rw [e, hl] at h4; cases h4), h5.mono r⟩
  · refine k a o (t.chg a o h n nt) fun e => ?_
    subst e
    rcases h0 with z | z
    · rw [h] at z; cases z
    · exact nt z
  · obtain ⟨ps, h1, h2, h3⟩ := t.tab p hp
    refine ⟨ps, k _ _ h1 fun e => hs0 (by rw [← e]; exact t.tbS p hp), h2, fun pos cv hc => ?_⟩
    obtain ⟨cc, e1, e2⟩ := h3 pos cv hc
    refine ⟨cc, e1, k _ _ e2 fun e => ?_⟩
    rw [e, hl] at e2
    cases e2
mutual
theorem Pat.app_ow : ∀ (p : Pat) (d : D) {Γ : Gm} {i : Nat} {l : List D}, p.fits d → (p.app d Γ)[i]? = some (some (.ow l)) → Γ[i]? = some (some (.ow l)) ∧ i ∉ p.js
  | .nm j, d, Γ, i, l, _, h => by
    unfold Pat.app at h
    unfold Pat.js
    have n : j ≠ i := fun z => by
      subst z
      have q := (List.getElem?_eq_some_iff.mp h).1
      rw [List.getElem?_set_self (by simpa using q)] at h
      cases h
    rw [List.getElem?_set_ne n] at h
    exact ⟨h, fun z => n (List.mem_singleton.mp z).symm⟩
  | .tp ps, .tup ds, Γ, i, l, hf, h => by
    unfold Pat.app at h
    unfold Pat.js
    unfold Pat.fits at hf
    exact Pats.app_ow ps ds hf h
  | .tp ps, .non, _, _, _, h, _ => by unfold Pat.fits at h; exact h.elim
  | .tp ps, .bl _, _, _, _, h, _ => by unfold Pat.fits at h; exact h.elim
  | .tp ps, .int _, _, _, _, h, _ => by unfold Pat.fits at h; exact h.elim
  | .tp ps, .str _, _, _, _, h, _ => by unfold Pat.fits at h; exact h.elim
  | .tp ps, .lst _, _, _, _, h, _ => by unfold Pat.fits at h; exact h.elim
  | .tp ps, .raw _, _, _, _, h, _ => by unfold Pat.fits at h; exact h.elim
  | .tp ps, .obj _ _, _, _, _, h, _ => by unfold Pat.fits at h; exact h.elim
  | .tp ps, .tl _, _, _, _, h, _ => by unfold Pat.fits at h; exact h.elim
  | .tp ps, .dic, _, _, _, h, _ => by unfold Pat.fits at h; exact h.elim
  | .tp ps, .tt _, _, _, _, h, _ => by unfold Pat.fits at h; exact h.elim
  | .tp ps, .pt _, _, _, _, h, _ => by unfold Pat.fits at h; exact h.elim
theorem Pats.app_ow : ∀ (ps : Pats) (ds : List D) {Γ : Gm} {i : Nat} {l : List D}, ps.fits ds → (ps.app ds Γ)[i]? = some (some (.ow l)) → Γ[i]? = some (some (.ow l)) ∧ i ∉ ps.js
  | .nil, [], Γ, i, l, _, h => by
    unfold Pats.app at h
    unfold Pats.js
    exact ⟨h, fun z => nomatch z⟩
  | .cons p ps, d :: ds, Γ, i, l, hf, h => by
    unfold Pats.app at h
    unfold Pats.js
    unfold Pats.fits at hf
    obtain ⟨h1, n1⟩ := Pats.app_ow ps ds hf.2 h
    obtain ⟨h2, n2⟩ := Pat.app_ow p d hf.1 h1
    exact ⟨h2, fun z => (List.mem_append.mp z).elim n2 n1⟩
  | .nil, _ :: _, _, _, _, h, _ => by unfold Pats.fits at h; exact h.elim
  | .cons _ _, [], _, _, _, h, _ => by unfold Pats.fits at h; exact h.elim
end
/-- two clauses -/
def acc2 {α : Type} (m : Nat → Nat) (p : Nat → Nat → Bool) (f : Nat → Nat → α) (p0 : Nat → Bool) : Nat → List α
  | 0 => []
  | i + 1 => acc2 m p f p0 i ++ (if p0 i = true then ((List.range (m i)).filter (p i)).map (f i) else [])
theorem acc2_len {α : Type} {m : Nat → Nat} {p : Nat → Nat → Bool} {f : Nat → Nat → α} {p0 : Nat → Bool} {M : Nat} (hm : ∀ i, m i ≤ M) : ∀ n, (acc2 m p f p0 n).length ≤ n * M
  | 0 => Nat.zero_le _
  | n + 1 => by
    unfold acc2
    rw [List.length_append, Nat.succ_mul]
    have h1 := acc2_len (m := m) (p := p) (f := f) (p0 := p0) hm n
    have h2 : (if p0 n = true then ((List.range (m n)).filter (p n)).map (f n) else []).length ≤ M := by
      split
      · refine Nat.le_trans filt_len ?_
        rw [List.length_range]
        exact hm n
      · exact Nat.zero_le _
    omega
theorem acc2_map {α β : Type} {m : Nat → Nat} {p : Nat → Nat → Bool} {f : Nat → Nat → α} {p0 : Nat → Bool} (h : α → β) : ∀ n, acc2 m p (fun i j => h (f i j)) p0 n = (acc2 m p f p0 n).map h
  | 0 => rfl
  | n + 1 => by
    unfold acc2
    rw [acc2_map h n, List.map_append]
    congr 1
    split
    · rw [List.map_map]; rfl
    · rfl
theorem acc2_all {α : Type} {m : Nat → Nat} {p : Nat → Nat → Bool} {f : Nat → Nat → α} : ∀ n, ((acc2 m (fun _ _ => true) (fun i j => !p i j) (fun _ => true) n).all id) = (acc2 m p f (fun _ => true) n).isEmpty
  | 0 => rfl
  | n + 1 => by
    have key : ∀ (xs : List Nat), (xs.map (fun j => !p n j)).all id = ((xs.filter (p n)).map (f n)).isEmpty := fun xs => by
      induction xs with
      | nil => rfl
      | cons x xs ih =>
        cases q : p n x with
        | true => simp [q]
        | false => simp [q] at ih ⊢; exact ih
    have ea : ∀ (a b : List α), (a ++ b).isEmpty = (a.isEmpty && b.isEmpty) := fun a b => by cases a <;> simp
    unfold acc2
    rw [List.all_append, acc2_all (f := f) n, if_pos rfl, if_pos rfl, List.filter_eq_self.mpr (fun _ _ => rfl), key, ea]
def tIn2 (K : PySem.W.Frag) (c : Cn) (Γi : Nat → Gm) (pt1 : Pat) (n : Nat) (m : Nat → Nat) (item1 : Nat → Nat → D) (f : Nat → Nat → D) (p : Nat → Nat → Bool) : TE := fun σ H Q => ∃ i j, i < n ∧ j < m i ∧ p i j = true ∧ tP K c (pt1.app (item1 i j) (Γi i)) (f i j) σ H Q
def tInT2 (K : PySem.W.Frag) (c : Cn) (Γi : Nat → Gm) (pt1 : Pat) (n : Nat) (m : Nat → Nat) (item1 : Nat → Nat → D) (p : Nat → Nat → Bool) : TT := fun σ H Q => ∃ i j, i < n ∧ j < m i ∧ tQ K c (pt1.app (item1 i j) (Γi i)) (p i j) σ H Q
def tIw2 (n : Nat) (wi1 : Nat → TI) : TI := fun σ H R => ∃ i, i < n ∧ wi1 i σ H R
theorem lc2P_read {K : PySem.W.Frag} {c : Cn} {Γ : Gm} {σ : L2.St} {wi : TI} {pt pt1 : Pat} {n M : Nat} {m : Nat → Nat} {vs vs1 : List Nat} {item : Nat → D} {item1 : Nat → Nat → D} {wi1 : Nat → TI} {f : Nat → Nat → D} {p0 : Nat → Bool} {p : Nat → Nat → Bool} {H : Hp} {Q : VK} (hz : (n + 1) * M ≤ 16000000) (hm : ∀ i, m i ≤ M)
    (hfit : ∀ i, i < n → pt.fits (item i)) (hfit1 : ∀ i j, i < n → j < m i → pt1.fits (item1 i j)) (hf : ∀ v ∈ vs, ∀ q ∈ c.fx, q.1 ≠ v) (hj : ∀ j ∈ pt.js, j ∈ vs) (hj1 : ∀ j ∈ pt1.js, j ∈ vs1) (hv : ∀ v ∈ vs1, v ∈ vs)
    (hw : SrcP K c Γ wi n item) (hw1 : ∀ i, i < n → SrcP K c (pt.app (item i) (wipeG Γ vs)) (wi1 i) (m i) (item1 i)) (h : tO K c Γ (acc2 m p f p0 n) σ H Q) :
    tLc2 wi (pt.g K) (tInTP K c (wipeG Γ vs) pt n item p0) (tIw2 n wi1) (pt1.g K) (tInT2 K c (fun i => wipeG (pt.app (item i) (wipeG Γ vs)) vs1) pt1 n m item1 p) (tIn2 K c (fun i => wipeG (pt.app (item i) (wipeG Γ vs)) vs1) pt1 n m item1 f p) vs vs1 σ H Q := by
  obtain ⟨S, t, q⟩ := h
  refine hw.run S σ H _ t fun H1 J G Y e1 w hG hY Dl hD => ?_
  have t1 := t.ext e1
  refine ⟨fun i k H' => k = n - i ∧ i ≤ n ∧ LcP K S H1 Dl (acc2 m p f p0 i) H', ⟨n, by simp, Nat.zero_le _, same_new hD, [], upd_same, .nil⟩, ?_⟩
  rintro i k H' ⟨rfl, hi, z⟩
  have hGi := hG _ H' (z.rl hD)
  by_cases hlt : i < n
  · refine .inr ⟨w.goes i H' hlt hGi, fun H' => LcP K S H1 Dl (acc2 m p f p0 (i + 1)) H', fun H'' z' => ⟨n - (i + 1), by omega, rfl, hlt, z'⟩, fun x H3 y => ?_⟩
    have y := w.yields i H' x H3 hlt hGi y
    have g := z.gd t1 hD
    obtain ⟨sm, dy⟩ := hY i (more S Dl) H' x H3 hlt (z.rl hD) g.dom y
    have gw := (g.ext sm).wipe vs hf
    refine Pat.run pt (item i) (hfit i hlt) (fun j hj' => hf j (hj j hj')) gw dy fun σ2 g2 l2 w2 i2 => ⟨?_, i, hlt, more S Dl, g2, fun H4 e4 => ?_⟩
    · rw [w2 vs hj]; exact wipe_idem σ vs
    · have z4 := (z.ext sm).ext e4
      cases hp : p0 i with
      | false =>
        refine iteF ?_
        unfold acc2
        rw [if_neg (by rw [hp]; decide), List.append_nil]
        exact z4
      | true =>
        refine iteT ⟨i, hlt, (hw1 i hlt).run (more S Dl) σ2 H4 _ (g2.ext e4) fun H5 J1 G1 Y1 e5 ww hG1 hY1 => ?_⟩
        have z5 := z4.ext e5
        have g5 := (g2.ext e4).ext e5
        have hf1 : ∀ v ∈ vs1, ∀ q ∈ c.fx, q.1 ≠ v := fun v h => hf v (hv v h)
        -- in the inner loop: H6 from H5 by Dl and growth
        refine ⟨fun j k H6 => k = m i - j ∧ j ≤ m i ∧ LcP K S H1 Dl (acc2 m p f p0 i ++ accE (p i) (f i) j) H6 ∧ (∀ b o, H5 b = some o → b ≠ Dl → H6 b = some o), ⟨m i, by simp, Nat.zero_le _, by simpa [accE] using z5, fun b o h _ => h⟩, ?_⟩
        rintro j k H6 ⟨rfl, hj6, z6, k6⟩
        have r6 : Rl (more S Dl) H5 (more S Dl) H6 := fun b o nb hb _ => ⟨k6 b o hb fun e => nb (.inr e), nb⟩
        have g6 : Gd K c (more S Dl) σ2 H6 (pt.app (item i) (wipeG Γ vs)) := by
          refine g5.poke k6 (.inr rfl) ?_ ?_ ?_ (fun z => t1.dom _ (t1.sub _ z) hD) fun s l he hs => ?_
          · obtain ⟨_, acc6, ha6, _⟩ := z6
            rw [ha6]; simp
          · obtain ⟨_, acc5, ha5, _⟩ := z5
            exact ⟨acc5, ha5⟩
          · rcases g.new Dl (.inr rfl) with z | z | z
            · exact absurd hD (t1.dom _ (t1.sub _ z))
            · exact .inl z
            · exact .inr z
          · obtain ⟨he1, hnj⟩ := Pat.app_ow pt (item i) (hfit i hlt) he
            rw [i2 s hnj] at hs
            obtain ⟨a, xs, q1, q2, _⟩ := (t1.wipe vs hf).ow he1
            rw [hs] at q1
            cases q1
            exact t1.dom _ q2 hD
        by_cases hj7 : j < m i
        · refine .inr ⟨ww.goes j H6 hj7 (hG1 _ H6 r6), fun H' => LcP K S H1 Dl (acc2 m p f p0 i ++ accE (p i) (f i) (j + 1)) H' ∧ (∀ b o, H5 b = some o → b ≠ Dl → H' b = some o), fun H'' z' => ⟨m i - (j + 1), by omega, rfl, hj7, z'⟩, fun x1 H7 y7 => ?_⟩
          have y7 := ww.yields j H6 x1 H7 hj7 (hG1 _ H6 r6) y7
          obtain ⟨sm7, dy7⟩ := hY1 j (more S Dl) H6 x1 H7 hj7 r6 g6.dom y7
          have g7 := (g6.ext sm7).wipe vs1 hf1
          have z7 := z6.ext sm7
          refine Pat.run pt1 (item1 i j) (hfit1 i j hlt hj7) (fun j' hj' => hf1 j' (hj1 j' hj')) g7 dy7 fun σ3 g8 l8 w8 _ => ⟨?_, i, j, hlt, hj7, more S Dl, g8, fun H9 e9 => ?_⟩
          · rw [w8 vs1 hj1]; exact wipe_idem σ2 vs1
          · cases hpp : p i j with
            | true =>
              refine iteT ⟨i, j, hlt, hj7, hpp, more S Dl, g8.ext e9, fun z1 H10 e10 d10 => ?_⟩
              rw [accE_t hpp, ← List.append_assoc]
              have hlen : (acc2 m p f p0 i ++ accE (p i) (f i) j).length < 16000000 := by
                rw [List.length_append]
                have h1 := acc2_len (m := m) (p := p) (f := f) (p0 := p0) hm i
                have h2 := accE_len (p := p i) (f := f i) (i := j)
                have h3 := hm i
                have h4 : i * M + M ≤ n * M := by
                  have := Nat.mul_le_mul_right M (show i + 1 ≤ n from hlt)
                  rw [Nat.succ_mul] at this
                  exact this
                have h5 : (n + 1) * M = n * M + M := Nat.succ_mul n M
                omega
              obtain ⟨acc, ha, hs, hput⟩ := (z7.ext (e9.trans e10)).put hD hlen d10
              refine ⟨acc, ha, hs, hput, fun b o hb hn => ?_⟩
              rw [upd_ne hn]
              exact e10 _ _ (e9 _ _ (sm7 _ _ (k6 b o hb hn)))
            | false =>
              refine iteF ?_
              rw [accE_f hpp]
              exact ⟨z7.ext e9, fun b o hb hn => e9 _ _ (sm7 _ _ (k6 b o hb hn))⟩
        · have ej : j = m i := by omega
          subst ej
          refine .inl ⟨ww.stops H6 (hG1 _ H6 r6), ?_⟩
          show LcP K S H1 Dl (acc2 m p f p0 i ++ (if p0 i = true then ((List.range (m i)).filter (p i)).map (f i) else [])) H6
          rw [if_pos hp]
          exact z6
  · have e : i = n := by omega
    subst e
    exact .inl ⟨w.stops H' hGi, z.fin e1 hD q⟩
section
variable {X : Cx} {c : Cn} {Γ : Gm} {a b e : Expr} {pos : Pos} {elt iter tg iter1 tg1 : Expr} {ifs ifs1 : List Expr} {scope : Scope} {own : List (Str × Nat)} {lpos : Pos} {x : Str} {Po : Post}
theorem in_eltP {pt : Pat} {n : Nat} {item : Nat → D} {f : Nat → D} {p : Nat → Bool} {Γw : Gm} (he : ∀ i, i < n → p i = true → InBlk X scope fun X' => Pe X' c (pt.app (item i) Γw) elt (f i)) : InBlk X scope fun X' => PE X' elt (tInP X.K c Γw pt n item f p) :=
  fun s H C cl fp => ⟨fun pins s1 σ H1 Q I ⟨i, h1, h2, q⟩ => (he i h1 h2 s H C cl fp).run pins s1 σ H1 Q I q⟩
theorem in_tstP {pt : Pat} {n : Nat} {item : Nat → D} {p : Nat → Bool} {Γw : Gm} (ht : ∀ i, i < n → InBlk X scope fun X' => PTs X' ifs (tQ X.K c (pt.app (item i) Γw) (p i))) : InBlk X scope fun X' => PTs X' ifs (tInTP X.K c Γw pt n item p) :=
  fun s H C cl fp => ⟨fun pins s1 σ H1 Q I ⟨i, h1, q⟩ => (ht i h1 s H C cl fp).run pins s1 σ H1 Q I q⟩
/-- [elt for tg in iter if ..], nothing changes -/
theorem n_lcS (pt : Pat) {wi : TI} {n : Nat} {item : Nat → D} (f : Nat → D) (p : Nat → Bool) (hi : PI X tg iter wi) (hw : SrcP X.K c Γ wi n item) (hz : n ≤ 16000000) (hfit : ∀ i, i < n → pt.fits (item i)) (ok : BlkOk X.N X.env.scope scope own) (hj : ∀ j ∈ pt.js, j ∈ own.map (·.2))
    (hg : InBlk X scope fun X' => PG X' tg (pt.g X.K))
    (ht : ∀ i, i < n → InBlk X scope fun X' => PTs X' ifs (tQ X.K c (pt.app (item i) (wipeG Γ (own.map (·.2)))) (p i)))
    (he : ∀ i, i < n → p i = true → InBlk X scope fun X' => Pe X' c (pt.app (item i) (wipeG Γ (own.map (·.2)))) elt (f i))
    (hN : X.N.Nodup) (hf : ((own.map (·.2)).all fun v => fxB c.fx v) = true := by rfl) (hc : X.calm = true := by rfl) (hs : ∀ x, foldedSetIterable iter X.env x = pure x := by intro _; rfl) :
    Pn X c Γ (.ListComp elt [⟨tg, iter, ifs, 0⟩] scope lpos) (accE p f n) :=
  PE.wk (pe_lc hc hN hi ok hg (in_tstP ht) (in_eltP he) hs) fun σ H Q h => lcP_read hz hfit (wfx hf) hj hw h
/-- [elt for tg in iter if .. for tg1 in iter1 if ..], nothing changes -/
theorem n_lc2 (pt pt1 : Pat) (vs1 : List Nat) {wi : TI} {n : Nat} (M : Nat) {item : Nat → D} {m : Nat → Nat} {item1 : Nat → Nat → D} {wi1 : Nat → TI} (f : Nat → Nat → D) (p0 : Nat → Bool) (p : Nat → Nat → Bool)
    (hi : PI X tg iter wi) (hw : SrcP X.K c Γ wi n item) (hz : (n + 1) * M ≤ 16000000) (hm : ∀ i, m i ≤ M) (hfit : ∀ i, i < n → pt.fits (item i)) (hfit1 : ∀ i j, i < n → j < m i → pt1.fits (item1 i j)) (ok : BlkOk X.N X.env.scope scope own)
    (hg : InBlk X scope fun X' => PG X' tg (pt.g X.K)) (ht : ∀ i, i < n → InBlk X scope fun X' => PTs X' ifs (tQ X.K c (pt.app (item i) (wipeG Γ (own.map (·.2)))) (p0 i)))
    (hi1 : ∀ i, i < n → InBlk X scope fun X' => PI X' tg1 iter1 (wi1 i)) (hw1 : ∀ i, i < n → SrcP X.K c (pt.app (item i) (wipeG Γ (own.map (·.2)))) (wi1 i) (m i) (item1 i)) (hg1 : InBlk X scope fun X' => PG X' tg1 (pt1.g X.K))
    (ht1 : ∀ i j, i < n → j < m i → InBlk X scope fun X' => PTs X' ifs1 (tQ X.K c (pt1.app (item1 i j) (wipeG (pt.app (item i) (wipeG Γ (own.map (·.2)))) vs1)) (p i j)))
    (he : ∀ i j, i < n → j < m i → p i j = true → InBlk X scope fun X' => Pe X' c (pt1.app (item1 i j) (wipeG (pt.app (item i) (wipeG Γ (own.map (·.2)))) vs1)) elt (f i j))
    (hN : X.N.Nodup) (hj : ∀ j ∈ pt.js, j ∈ own.map (·.2) := by decide) (hj1 : ∀ j ∈ pt1.js, j ∈ vs1 := by decide) (hv : ∀ v ∈ vs1, v ∈ own.map (·.2) := by decide) (hf : ((own.map (·.2)).all fun v => fxB c.fx v) = true := by rfl) (hc : X.calm = true := by rfl) (hs : ∀ x, foldedSetIterable iter X.env x = pure x := by intro _; rfl) (hs1 : ∀ env x, foldedSetIterable iter1 env x = pure x := by intro _ _; rfl) :
    Pn X c Γ (.ListComp elt [⟨tg, iter, ifs, 0⟩, ⟨tg1, iter1, ifs1, 0⟩] scope lpos) (acc2 m p f p0 n) :=
  PE.wk (pe_lc2 (tt := tInTP X.K c (wipeG Γ (own.map (·.2))) pt n item p0) (wi1 := tIw2 n wi1) (tt1 := tInT2 X.K c (fun i => wipeG (pt.app (item i) (wipeG Γ (own.map (·.2)))) vs1) pt1 n m item1 p) (te := tIn2 X.K c (fun i => wipeG (pt.app (item i) (wipeG Γ (own.map (·.2)))) vs1) pt1 n m item1 f p) hc hN hi ok hv hg (in_tstP ht) (fun s H C cl fp => ⟨fun pins s1 σ H1 Q I ⟨i, h1, q⟩ => (hi1 i h1 s H C cl fp).run pins s1 σ H1 Q I q⟩) hg1
    (fun s H C cl fp => ⟨fun pins s1 σ H1 Q I ⟨i, j, h1, h2, q⟩ => (ht1 i j h1 h2 s H C cl fp).run pins s1 σ H1 Q I q⟩) (fun s H C cl fp => ⟨fun pins s1 σ H1 Q I ⟨i, j, h1, h2, h3, q⟩ => (he i j h1 h2 h3 s H C cl fp).run pins s1 σ H1 Q I q⟩) hs hs1)
    fun σ H Q h => lc2P_read hz hm hfit hfit1 (wfx hf) hj hj1 hv hw hw1 h
/-- an int of the module -/
theorem p_globI {i : Int} {t : Tok} {pos : Pos} (hm : X.mg x = some (.int i t)) (hg : Gl X x := by rfl) (hd : (x == ("__debug__" : Str)) = false := by decide) : Pe X c Γ (.Name x pos) (.int i) :=
  PE.wk (pe_glob (v := .int i) hg hm ⟨t, rfl⟩ hd) fun σ H Q ⟨S, t, q⟩ => q _ _ (Same.refl H) (.int i)
/-- xs.extend(a new list) -/
theorem s_ext (k : Nat) {l m : List D} {p1 p2 p3 : Pos} (hk : Γ[k]? = some (some (.ow l))) (he : Pn X c Γ e m) (hz : l.length + m.length ≤ 16000000) (hr : Po.nx (Γ.set k (some (.ow (l ++ m))))) (hN : X.N[k]? = some x := by rfl) (hv : Vis X.env.scope x := by first | exact Or.inl rfl | exact Or.inr (Or.inl rfl) | exact Or.inr (Or.inr rfl))
    (hd : (x == ("__debug__" : Str)) = false := by decide) (hcd : (x == ("__classdict__" : Str)) = false := by decide) (hst : starEach [e] X.env = (false, eval e X.env) :: starEach [] X.env := by rfl) {o : Expr} (ho : o = .Call (.Attribute (.Name x p1) "extend" p2) [e] [] p3 := by rfl)
    (hbm : ∀ ta, PA X [e] ta → PE X o (tBM X.K "list" rExtend (tVar k) ta)) (hs : swapsWith o none pos.line X.env = pure false := by rfl) : Sm X c Γ (.Expr o pos) Po :=
  PS.wk (ps_expr (hbm _ (pa_cons he pa_nil hst)) hs) fun D σ H ⟨S, t, q⟩ => by
    obtain ⟨a, xs, h1, h2, h3, h4⟩ := t.ow hk
    refine ⟨.ref a, h1, .inl ⟨rfl, xs, SqL.of h3⟩, S, t, fun p ys H1 e1 n1 g1 d1 => ?_⟩
    refine ⟨a, p, xs, ys, rfl, rfl, e1 _ _ h3, g1, by rw [h4.length, d1.length]; exact small_line hz, ?_⟩
    exact q.nx σ _ S _ ((Rl.of e1).trans (rl_upd h2)) ((t.ext e1).change hk h1 h2 (e1 _ _ h3) ((h4.ext e1).append d1.off)) hr
end
/-! ### t[::-1] of a tuple -/
section
variable {prog : Program} {w : World} {A : Around} {E : Value → Shared → Prop} {s : Shared}
theorem fm_congr {α β : Type} {f g : α → Option β} : ∀ {l : List α}, (∀ x ∈ l, f x = g x) → l.filterMap f = l.filterMap g
  | [], _ => rfl
  | a :: l, h => by
    have ih := fm_congr (l := l) fun x hx => h x (List.mem_cons_of_mem _ hx)
    rw [List.filterMap_cons, List.filterMap_cons, h a List.mem_cons_self, ih]
theorem pick_rev (xs : Array Value) : ((List.range xs.size).filterMap fun (k : Nat) => xs[(((xs.size : Int) - 1) + (k : Int) * (-1)).toNat]?).toArray = xs.toList.reverse.toArray := by
  have e : ((List.range xs.size).filterMap fun (k : Nat) => xs[(((xs.size : Int) - 1) + (k : Int) * (-1)).toNat]?) = ((List.range xs.size).map (fun k => xs.size - 1 - k)).filterMap (xs[·]?) := by
    rw [List.filterMap_map]
    refine fm_congr fun k hk => ?_
    have := List.mem_range.mp hk
    show xs[(((xs.size : Int) - 1) + (k : Int) * (-1)).toNat]? = xs[xs.size - 1 - k]?
    have e2 : (((xs.size : Int) - 1) + (k : Int) * (-1)).toNat = xs.size - 1 - k := by omega
    rw [e2]
  rw [e, PySem.W.krv_range, List.filterMap_reverse, PySem.W.krv_all]
theorem places_rev (n : Nat) : Builtin.Slice.slicePlaces ((n : Int) - 1) (-1) (-1) = n := by
  unfold Builtin.Slice.slicePlaces
  rw [if_neg (by decide)]
  have e : ((n : Int) - 1 - -1 - 1) / (- -1) = (n : Int) - 1 := by
    rw [show (- -1 : Int) = 1 by decide, Int.ediv_one]
    omega
  rw [e]
  split <;> omega
theorem sliceApplied_rev {sl : Addr} {u : Tok} {n : Nat} {Q : Int × Int × Nat → Shared → Prop} (hs : s.heap.IsSliceOf sl .none .none (.int (-1) u)) (h : Q ((n : Int) - 1, -1, n) s) : wpAny (model prog w) A (Builtin.Slice.sliceApplied (.ref sl) (pure (n : Int))) Q E s := by
  obtain ⟨os, hos, hcs, hds⟩ := id hs
  unfold Builtin.Slice.sliceApplied Builtin.Slice.sliceFields
  refine wpAny_bind (wpAny_bind (wpAny_field hos hds (x := .none) rfl (wpAny_bind (wpAny_field hos hds (x := .none) rfl (wpAny_bind (wpAny_field hos hds (x := .int (-1) u) rfl (wpAny_pure ?_)))))))
  refine wpAny_bind (PyProof.Rows.slicePart_int ?_)
  show wpAny _ _ (if ((-1 : Int) == 0) = true then _ else _) _ _ s
  rw [if_neg (by decide)]
  refine wpAny_bind (PyProof.Rows.slicePart_none (wpAny_bind (PyProof.Rows.slicePart_none (wpAny_bind (wpAny_pure ?_)))))
  show wpAny _ _ (pure ((n : Int) - 1, (-1 : Int), Builtin.Slice.slicePlaces ((n : Int) - 1) (-1) (-1))) _ _ s
  rw [places_rev]
  exact wpAny_pure h
theorem getItem_tuple_rev {t sl : Addr} {u : Tok} {items : Array Value} {Q : Value → Shared → Prop} (ht : IsTup s.heap t items) (hs : s.heap.IsSliceOf sl .none .none (.int (-1) u))
    (h : Q (.ref s.heap.objs.size) { s with heap := s.heap.push { cls := .type "tuple", data := .seq items.toList.reverse.toArray } }) (hsz : items.size ≤ sizeLine) : wpAny (model prog w) A (getItem (.ref t) (.ref sl)) Q E s := by
  have htake : sizeOk (.seq items.toList.reverse.toArray) := by
    show items.toList.reverse.toArray.size ≤ sizeLine
    rw [List.size_toArray, List.length_reverse, Array.length_toList]
    omega
  obtain ⟨os, hos, hcs, hds⟩ := id hs
  have hTs : s.TypeIs (.ref sl) "slice" := ⟨os, hos, hcs⟩
  unfold getItem
  try with_reducible refine wpAny_holding ?_
  first | refine wpAny_bind (wpAny_pure ?_) | skip
  refine wpAny_bind (wpAny_sequenceKey ht.typeIs (by decide) ?_)
  refine wpAny_bind (wpAny_callSpecial?_slot (name := Str.ofString "__getitem__") ht.typeIs PyProof.Rows.slot_tuple_getitem
    (wpAny_call_entry PyProof.Rows.slot_tuple_getitem ht.typeIs entry_tuple_getitem ?_ (args_tuple_getitem _ _)))
  show wpAny _ _ (Builtin.Tuple.tupleItemsOf (.ref t) >>= _) _ _ s
  refine wpAny_bind (tupleItemsOf_ ht ?_)
  refine wpAny_bind (wpAny_typeOf hTs ?_)
  rw [if_pos (by decide)]
  refine wpAny_bind (sliceApplied_rev hs ?_)
  have hno : ¬ ((((items.size : Int) - 1) == 0 && (-1 : Int) == 1 && items.size == items.size) = true) := by
    intro q
    rw [Bool.and_eq_true, Bool.and_eq_true] at q
    exact absurd q.1.2 (by decide)
  show wpAny _ _ (if (((items.size : Int) - 1) == 0 && (-1 : Int) == 1 && items.size == items.size) = true then _ else _) _ _ s
  rw [if_neg hno, pick_rev]
  first
    | exact wpAny_bind (m := Builtin.Tuple.tupleExact _) (wpAny_newObj_type (wpAny_pure ⟨_, rfl, wpAny_pure h⟩) htake)
    | exact wpAny_bind (m := Builtin.Tuple.tupleExact _) (wpAny_newObj_type (wpAny_bind (wpAny_pure (wpAny_pure ⟨_, rfl, wpAny_pure h⟩))) htake)
    | exact wpAny_bind (wpAny_bind (m := Builtin.Tuple.tupleExact _) (wpAny_newObj_type (wpAny_pure (wpAny_pure ⟨_, rfl, wpAny_pure h⟩)) htake))
    | exact wpAny_bind (wpAny_bind (m := Builtin.Tuple.tupleExact _) (wpAny_newObj_type (wpAny_pure ⟨_, rfl, wpAny_pure h⟩) htake))
end
def tRevT (K : PySem.W.Frag) (te : TE) : TE := fun σ H Q => te σ H fun x H1 => ∃ a xs, x = .ref a ∧ SqT K H1 a xs ∧ ∀ p, H1 p = none → Q (.ref p) (upd H1 p (.tup xs.reverse))
section
variable {X : Cx} {c : Cn} {Γ : Gm}
theorem pe_revT {e : Expr} {te : TE} {k : Nat} {p1 p2 p3 pos : Pos} (he : PE X e te) : PE X (.Subscript e (.Slice none none (some (.UnaryOp .USub (.Constant (.int 1) k p1) p2)) p3) pos) (tRevT X.K te) := by
  refine ⟨fun pins s σ H Q I h => ?_⟩
  refine Subscript_ (thn (he.run pins s σ H _ I h) fun v s1 ⟨x, H1, I1, r1, q1⟩ => ?_)
  obtain ⟨a, xs, ex, hx, q⟩ := q1
  subst ex
  cases r1
  have hst : PO X (some (.UnaryOp .USub (.Constant (.int 1) k p1) p2)) (tPart (tUn (rU fun i => .int (-i)) (tC (.int 1)))) := po_some (pe_un un_neg pe_int)
  refine wpAny_Slice (thn (po_none.run pins s1 σ H1 (fun o H2 => o = none ∧ H2 = H1) I1 ⟨rfl, rfl⟩) fun vl s2 ⟨l, H2, I2, pl, el, e2⟩ => ?_)
  subst el e2
  refine thn (po_none.run pins s2 σ H2 (fun o H3 => o = none ∧ H3 = H2) I2 ⟨rfl, rfl⟩) fun vu s3 ⟨u, H3, I3, pu, eu, e3⟩ => ?_
  subst eu e3
  refine thn (hst.run pins s3 σ H3 (fun o H4 => o = some (-1) ∧ H4 = H3) I3 ⟨1, rfl, -1, rfl, rfl, rfl⟩) fun vs s4 ⟨o, H4, I4, ps, eo, e4⟩ => ?_
  subst eo e4
  cases pl
  cases pu
  obtain ⟨t5, rfl⟩ : ∃ t5, vs = .int (-1) t5 := by cases ps; exact ⟨_, rfl⟩
  have I5 : Inv X pins σ H4 { s4 with heap := s4.heap.push { cls := .type "slice", data := .fields #[.none, .none, .int (-1) t5] } } := I4.kept (t' := s4.toks) fun b ob q => Heap.get?_push_of_some _ q
  obtain ⟨its, r, ht, hz⟩ := I5.tuple hx
  have hlen := r.length
  show wpAny (model X.prog X.w) X.A (subscriptTail e (.Slice none none (some (.UnaryOp .USub (.Constant (.int 1) k p1) p2)) p3) (.ref a) (.ref s4.heap.objs.size)) (EP X pins σ Q) X.xe { s4 with heap := s4.heap.push { cls := .type "slice", data := .fields #[.none, .none, .int (-1) t5] } }
  refine tail_any (ops := [.ref a, .ref s4.heap.objs.size]) ht.typeIs (PyProof.Rows.slot_tuple_getitem.lookup) ?_ (by with_unfolding_all rfl)
  refine getItem_tuple_rev ht (Heap.IsSliceOf.new _ .none .none (.int (-1) t5)) ?_ (by rw [List.size_toArray]; omega)
  refine ⟨.ref _, _, I5.laid (t' := s4.toks) (o := .tup xs.reverse) (fun b ob q => Heap.get?_push_of_some _ q) (Nat.le_refl _) ?_, rfl, q _ (I5.hok.fresh (Nat.le_refl _))⟩
  exact ⟨by rw [List.length_reverse]; exact hz, _, r.reverse, IsTup.new _ _⟩
theorem DenL.reverse {K : PySem.W.Frag} {S : Addr → Prop} {H : Hp} : ∀ {xs : List V} {l : List D}, DenL K S H xs l → DenL K S H xs.reverse l.reverse
  | _, _, .nil => .nil
  | _, _, .cons h t => by
    rw [List.reverse_cons, List.reverse_cons]
    exact (DenL.reverse t).append (.cons h .nil)
theorem p_revT {e : Expr} {l : List D} {k : Nat} {p1 p2 p3 pos : Pos} (h : Pe X c Γ e (.tup l)) : Pe X c Γ (.Subscript e (.Slice none none (some (.UnaryOp .USub (.Constant (.int 1) k p1) p2)) p3) pos) (.tup l.reverse) :=
  PE.wk (pe_revT h) fun σ H Q ⟨S, t, q⟩ => ⟨S, t, fun v H1 e1 d1 => by
    obtain ⟨a, xs, rfl, h1, h2⟩ := d1.tup_
    exact ⟨a, xs, rfl, h1, fun p hp => q _ _ (e1.trans (same_new hp)) (Den.newT (t.ext e1).dom hp h2.reverse)⟩⟩
theorem n_rev {e : Expr} {l : List D} {k : Nat} {p1 p2 p3 pos : Pos} (h : Pe X c Γ e (.lst l)) : Pn X c Γ (.Subscript e (.Slice none none (some (.UnaryOp .USub (.Constant (.int 1) k p1) p2)) p3) pos) l.reverse :=
  PE.wk (pe_revL h) fun σ H Q ⟨S, t, q⟩ => ⟨S, t, fun v H1 e1 d1 => by
    obtain ⟨a, xs, rfl, h1, h2⟩ := d1.lst_
    exact ⟨a, xs, rfl, h1, fun p hp => q p _ _ (e1.trans (same_new hp)) (e1.free hp) upd_same (h2.reverse.on hp)⟩⟩
end
end Spr

set_option Elab.async false
set_option linter.all false
set_option maxRecDepth 100000
set_option maxHeartbeats 4000000
/-! Defs with lambdas of their own: they change tables. -/
namespace Spr
open PySem PySem.Spec PyProof.Rows L2
theorem cnt_law {H : Hp} {T : List (Addr × Str)} {Γ : Gm} : CnT (cLaw H T) Γ := ⟨fun a h => .inl h, fun p hp => nomatch hp⟩
/-- every table that may change is one of T -/
def OnT (T : List (Addr × Str)) (S : Addr → Prop) (H : Hp) : Prop := ∀ a o, S a → H a = some o → IsT o → ∃ p ∈ T, p.1 = a
def upHT (K : PySem.W.Frag) (T : List (Addr × Str)) (F : Fh) : Sp := fun vs H Q E => ∃ (S : Addr → Prop) (a : Addr) (xs : List V) (l : List D) (vs' : List V) (ds : List D) (d : D) (l' : List D), vs = .ref a :: vs' ∧ (∀ a, S a → H a ≠ none) ∧ S a ∧ H a = some (.lst xs) ∧ DenL K S H xs l ∧ DenL K S H vs' ds ∧ F l ds d l' ∧ LamX.Tabs T H ∧ (∀ p ∈ T, S p.1) ∧ OnT T S H ∧
  ∀ v H' ys, (∀ b o, H b = some o → b ≠ a → ¬ IsT o → H' b = some o) → LamX.Tabs T H' → H' a = some (.lst ys) → DenL K S H' ys l' → Den K S H' v d → Q v H'
section
variable {K : PySem.W.Frag} {c : Cn} {S : Addr → Prop} {σ : L2.St} {H H' : Hp} {Γ : Gm}
theorem Gd.onT (t : Gd K c S σ H Γ) (C : CnT c Γ) : ∃ S', Rl S H S' H ∧ Gd K c S' σ H Γ ∧ OnT c.tb S' H := by
  have r : Rl S H (fun a => S a ∧ ∀ o, H a = some o → IsT o → ∃ p ∈ c.tb, p.1 = a) H := fun a o n h _ => ⟨h, fun z => n z.1⟩
  refine ⟨_, r, ⟨t.len, fun i e h => ?_, t.sep, t.loc, fun a z => ⟨t.sub a z, fun o h1 h2 => ?_⟩, fun a z => t.new a z.1, t.chg, fun a z => t.dom a z.1, t.dm0, t.fix, t.tab, t.tbS⟩, fun a o z h1 h2 => z.2 o h1 h2⟩
  · obtain ⟨v, h1, h2⟩ := t.at_ i e h
    refine ⟨v, h1, ?_⟩
    cases e with
    | im d => exact Den.mono h2 r
    | ow l =>
      obtain ⟨b, xs, rfl, h3, h4, h5⟩ := h2
      exact ⟨b, xs, rfl, ⟨h3, fun o h6 h7 => by rw [h4] at h6; cases h6; exact absurd h7 nt_lst⟩, h4, h5.mono r⟩
    | od b kvs =>
      obtain ⟨rfl, h3, ks, h4, h5⟩ := h2
      exact ⟨rfl, ⟨h3, fun o h6 h7 => by rw [h4] at h6; cases h6; exact absurd h7 nt_dT⟩, ks, h4, h5.mono r⟩
  · rcases t.s0 C z with h | ⟨o', h3, h4⟩
    · exact h
    · rw [h1] at h3
      cases h3
      exact absurd h2 h4
theorem Gd.callT (t : Gd K c S σ H Γ) (C : CnT c Γ) (htb : c.tb ≠ []) {i : Nat} {a : Addr} {l l' : List D} {xs ys : List V} (hi : Γ[i]? = some (some (.ow l))) (hs : σ[i]? = some (some (.ref a))) (hS : S a) (hH : H a = some (.lst xs))
    (k : ∀ b o, H b = some o → b ≠ a → ¬ IsT o → H' b = some o) (T1 : LamX.Tabs c.tb H') (hy : H' a = some (.lst ys)) (hl : DenL K S H' ys l') : ∃ S', Rl S H S' H' ∧ (∀ b, S' b → S b) ∧ Gd K c S' σ H' (Γ.set i (some (.ow l'))) := by
  have e1 : LamX.ExtN H (upd H' a (.lst xs)) := fun b o e n => by
    by_cases hb : b = a
    · rw [hb, upd_same, ← hH, ← hb]; exact e
    · rw [upd_ne hb]; exact k b o e hb fun ⟨ps, z⟩ => n ps z
  have T2 : LamX.Tabs c.tb (upd H' a (.lst xs)) := fun p hp => by
    obtain ⟨ps, h1, h2, h3⟩ := T1 p hp
    refine ⟨ps, ?_, h2, fun pos cv hc => ?_⟩
    · rw [upd_ne (fun e => by rw [e, hy] at h1; cases h1)]; exact h1
    · obtain ⟨cc, g1, g2⟩ := h3 pos cv hc
      exact ⟨cc, g1, by rw [upd_ne (fun e => by rw [e, hy] at g2; cases g2)]; exact g2⟩
  have e2 : upd (upd H' a (.lst xs)) a (.lst ys) = H' := by
    funext b
    by_cases hb : b = a
    · rw [hb, upd_same, hy]
    · rw [upd_ne hb, upd_ne hb]
  obtain ⟨S1, r1, sb, t1⟩ := t.extN e1 T2 htb C
  obtain ⟨a', xs', g1, g2, g3, g4⟩ := t1.ow hi
  have ea : a' = a := by rw [hs] at g1; cases g1; rfl
  subst ea
  have t2 := t1.change hi g1 g2 g3 (((hl.less sb).mono (rl_upd g2)) : DenL K S1 (upd H' a' (.lst xs)) ys l')
  rw [e2] at t2
  refine ⟨S1, fun b o nb hb z => ⟨?_, fun q => nb (sb b q)⟩, sb, t2⟩
  exact k b o hb (fun e => nb (by rw [e]; exact hS)) z
end
section
variable {X : Cx} {c : Cn} {Γ Γ1 : Gm} {es : List Expr} {pos p : Pos} {d : D} {x : Str} {k j : Nat}
/-- x(hand, ..), x has lambdas of its own -/
theorem ev_callT (h : Nat) {y : Str} {py : Pos} {F : Fh} {ds l l' : List D} (G : Fo X.prog X.w X.K X.mg X.base k x (upHT X.K c.tb F)) (C : CnT c Γ1) (htb : c.tb ≠ []) (hr : RoomG j X.A) (ha : Ea X c Γ es ds Γ1) (hh : Γ1[h]? = some (some (.ow l))) (hF : F l ds d l') (hk : k ≤ j := by decide) (hg : Gl X x := by rfl) (h0 : ∃ l0, Γ[h]? = some (some (.ow l0)) := by exact ⟨_, rfl⟩)
    (hN : X.N[h]? = some y := by rfl) (hv : Vis X.env.scope y := by first | exact Or.inl rfl | exact Or.inr (Or.inl rfl) | exact Or.inr (Or.inr rfl)) (hd : (y == ("__debug__" : Str)) = false := by decide) (hcd : (y == ("__classdict__" : Str)) = false := by decide)
    (hdb : (x == ("__debug__" : Str)) = false := by decide) (he : starEach (.Name y py :: es) X.env = (false, eval (.Name y py) X.env) :: starEach es X.env := by rfl) (hpl : (backTo pos (starEach es X.env)).any (·.1) = false := by rfl) :
    Ev X c Γ (.Call (.Name x p) (.Name y py :: es) [] pos) d (Γ1.set h (some (.ow l'))) := by
  obtain ⟨f, fd, ps, h1, h2, h3, h4⟩ := G.ex
  obtain ⟨l0, hh0⟩ := h0
  refine PE.wk (callG h1 (hr.mono hk) hg h2 h3 h4 (pa_cons (pe_var hN hv hd hcd) ha he) hdb he hpl) fun σ H Q ⟨S, t, q⟩ => ?_
  obtain ⟨a, xs0, g1, g2, g3, g4⟩ := t.ow hh0
  refine ⟨.ref a, g1, S, t, fun vs S1 H1 r1 t1 d1 => ?_⟩
  obtain ⟨S2, r2, t2, on⟩ := t1.onT C
  obtain ⟨a', xs, g5, g6, g7, g8⟩ := t2.ow hh
  have ea : a' = a := by rw [g1] at g5; cases g5; rfl
  subst ea
  refine ⟨S2, a', xs, l, vs, ds, d, l', rfl, t2.dom, g6, g7, g8, d1.mono r2, hF, t2.tab, fun p hp => t2.sub _ (t2.tbS p hp), on, fun v H' ys k1 k2 k3 k4 k5 => ?_⟩
  obtain ⟨S3, r3, sb, t3⟩ := t2.callT C htb hh g5 g6 g7 k1 k2 k3 k4
  exact q v S3 H' ((r1.trans r2).trans r3) t3 (k5.less sb)
end
section
variable {P : Program} {w : World} {K : PySem.W.Frag} {mg : Str → Option Value} {base : Heap}
theorem mkHT {x : Str} {stt : Stmt} {f cc : Addr} {n : Str} {N ps : List Str} {k : Nat} {F : Fh} {T : List (Addr × Str)} {dV kV doc pm ct oc : Value} {an od : Option Addr} {osl : Array (Option Value)}
    (lk : K.lookup f = some ⟨oc, od, .func (PySem.W.fnOf x x (defArgs stt) (defBody stt) (defScope stt) dV kV doc pm an (.ref cc) ct), osl⟩) (hcd : PySem.W.codeIn K (.ref cc) x = true) (Sc : FnScope (n :: N) ps (defScope stt)) (len : ∀ l ds d l', F l ds d l' → ds.length + 1 = ps.length)
    (hb : ∀ (A : Around) (outer : List Env) (s : Shared) (H : Hp) (E : XK) (S0 : Addr → Prop) (H0 : Hp) (a : Addr) (l ds : List D) (d : D) (l' : List D), RoomG k (Bx P w K mg base (n :: N) x (defScope stt) f (.ref cc) A outer s H E).A → F l ds d l' → (∀ b, S0 b → (∃ p ∈ T, p.1 = b) ∨ ∃ o, H0 b = some o ∧ ¬ IsT o) →
      Bl (Bx P w K mg base (n :: N) x (defScope stt) f (.ref cc) A outer s H E) ⟨S0, H0, T, [(0, .ref a)]⟩ (gmH (n :: N).length l ds) (defBody stt) (poH d l')) :
    FnG P w K mg base (L2.CX P w) (k + 1) f (PySem.W.fnOf x x (defArgs stt) (defBody stt) (defScope stt) dV kV doc pm an (.ref cc) ct) ps (upHT K T F) := by
  refine fn_ofG lk hcd Sc (fun vs H Q E ⟨S, a, xs, l, vs', ds, d, l', e, _, _, _, _, hl, hF, _⟩ => by rw [e, List.length_cons, hl.length]; exact len l ds d l' hF) (fun A outer s H vs Q E hr ⟨S, a, xs, l, vs', ds, d, l', e, hd, hS, hH, hx, hl, hF, hT, hTS, on, k1⟩ => ⟨_, hb A outer s H E S H a l ds d l' hr hF (fun b hb0 => ?_), ?_⟩)
  · cases q : H b with
    | none => exact absurd q (hd b hb0)
    | some o =>
      by_cases z : IsT o
      · exact .inl (on b o hb0 q z)
      · exact .inr ⟨o, rfl, z⟩
  subst e
  have fin : ∀ {v : V} {σ' : L2.St} {H' : Hp} {S' : Addr → Prop} {Γ' : Gm}, Gd K ⟨S, H, T, [(0, .ref a)]⟩ S' σ' H' Γ' → Γ'[0]? = some (some (.ow l')) → Den K S H' v d → Q v H' := fun {v σ' H' S' Γ'} g h0 hv => by
    obtain ⟨a', ys, g1, g2, g3, g4⟩ := g.ow h0
    have f := g.fix (0, .ref a) List.mem_cons_self
    have ea : a' = a := by
      rw [show σ'[0]? = some (some (V.ref a)) from f] at g1
      cases g1
      rfl
    subst ea
    refine k1 v H' ys (fun b o hb0 hne nt => g.chg b o hb0 ?_ (fun z => ?_)) g.tab g3 (g4.less g.sub) hv
    · rintro (⟨p, hp, e⟩ | ⟨p, hp, e⟩)
      · rcases List.mem_singleton.mp hp with rfl
        cases e
        exact hne rfl
      · obtain ⟨ps, h1, _⟩ := hT p hp
        rw [e, hb0] at h1
        cases h1
        exact nt ⟨_, rfl⟩
    · obtain ⟨_, o', e1, e2⟩ := z
      rw [show H b = some o' from e1] at hb0
      cases hb0
      exact nt e2
  have g0 := gd_startH (n := n) (N := N) hd hS hH hx hl
  refine ⟨S, ⟨g0.len, g0.at_, g0.sep, g0.loc, g0.sub, fun a z => .inl z, fun a o z _ _ => z, g0.dom, fun a z _ => z, g0.fix, hT, hTS⟩, ⟨fun σ' H' S' Γ' r' g hn => ?_, fun v σ' H' S' Γ' en r' g rs hn => ?_, fun _ _ _ _ _ _ z => z.elim, fun _ _ _ _ _ _ z => z.elim⟩⟩
  · obtain ⟨rfl, h0⟩ := hn
    exact fin g h0 .non
  · obtain ⟨rfl, h0⟩ := hn
    exact fin g h0 (rs.den g)
end
end Spr

set_option Elab.async false
set_option linter.all false
set_option maxRecDepth 100000
set_option maxHeartbeats 4000000
/-! Data of small ints, None, flags, nested at most n deep, at most B items each: == and repr take them. -/
namespace Spr
open PySem PySem.Spec PyProof.Rows L2
def plainB (B : Nat) : Nat → D → Bool
  | _, .non => true
  | _, .bl _ => true
  | _, .int i => decide (i.natAbs < 10 ^ 12)
  | n + 1, .tup l => decide (l.length ≤ B) && l.all (plainB B n)
  | n + 1, .lst l => decide (l.length ≤ B) && l.all (plainB B n)
  | _, _ => false
def lenB (B : Nat) : Nat → Nat
  | 0 => 13
  | n + 1 => B * (lenB B n + 2) + 3 + lenB B n
structure PlOk (n L : Nat) (d : D) : Prop where
  py : pyOk d = true
  lay : (toPy d).canLay0 = true
  dep : (toPy d).depth ≤ n
  sh : (toPy d).showable = true
  nd : (toPy d).hasDict = false
  len : (toPy d).shown.length ≤ L
structure PlOkL (n L : Nat) (l : List D) : Prop where
  py : pyOkL l = true
  lay : PyData.canLayAll0 (toPyL l) = true
  dep : PyData.depthAll (toPyL l) ≤ n
  sh : PyData.showableAll (toPyL l) = true
  nd : PyData.hasDictAll (toPyL l) = false
  len : ((PyData.shownAll (toPyL l)).map (·.length)).sum ≤ l.length * L
  cnt : (PyData.shownAll (toPyL l)).length = l.length
theorem plOkL {n L : Nat} : ∀ (l : List D), (∀ d ∈ l, PlOk n L d) → PlOkL n L l
  | [], _ => ⟨rfl, rfl, Nat.zero_le _, rfl, rfl, Nat.zero_le _, rfl⟩
  | d :: l, h => by
    have a := h d List.mem_cons_self
    have b := plOkL l fun x hx => h x (List.mem_cons_of_mem _ hx)
    refine ⟨?_, ?_, ?_, ?_, ?_, ?_, ?_⟩
    · show (pyOk d && pyOkL l) = true
      rw [a.py, b.py]; rfl
    · show (PyData.canLay0 (toPy d) && PyData.canLayAll0 (toPyL l)) = true
      rw [a.lay, b.lay]; rfl
    · show max (PyData.depth (toPy d)) (PyData.depthAll (toPyL l)) ≤ n
      have := a.dep
      have := b.dep
      omega
    · show (PyData.showable (toPy d) && PyData.showableAll (toPyL l)) = true
      rw [a.sh, b.sh]; rfl
    · show (PyData.hasDict (toPy d) || PyData.hasDictAll (toPyL l)) = false
      rw [a.nd, b.nd]; rfl
    · show (((toPy d).shown :: PyData.shownAll (toPyL l)).map (·.length)).sum ≤ (l.length + 1) * L
      rw [List.map_cons, List.sum_cons, Nat.succ_mul]
      have := a.len
      have := b.len
      omega
    · show (PyData.shownAll (toPyL l)).length + 1 = l.length + 1
      rw [b.cnt]
theorem lenB_mono {B n : Nat} : 13 ≤ lenB B n := by
  induction n with
  | zero => exact Nat.le_refl _
  | succ n ih => unfold lenB; omega
theorem plOk {B : Nat} : ∀ (n : Nat) (d : D), plainB B n d = true → PlOk n (lenB B n) d
  | n, .non, _ => ⟨rfl, rfl, Nat.zero_le _, rfl, rfl, Nat.le_trans (by decide : (PyData.shown .none).length ≤ 13) lenB_mono⟩
  | n, .bl b, _ => ⟨rfl, rfl, Nat.zero_le _, rfl, rfl, Nat.le_trans (by cases b <;> decide : (PyData.shown (.bool b)).length ≤ 13) lenB_mono⟩
  | n, .int i, h => by
    have hi : i.natAbs < 10 ^ 12 := by
      cases n <;> exact of_decide_eq_true h
    refine ⟨rfl, rfl, Nat.zero_le _, ?_, rfl, Nat.le_trans (PyData.shown_int_le hi) lenB_mono⟩
    show decide (i.natAbs.log2 < 1920) = true
    refine decide_eq_true (log2_small ?_)
    exact Nat.lt_trans hi (by decide +kernel)
  | n + 1, .tup l, h => by
    obtain ⟨h1, h2⟩ := Bool.and_eq_true_iff.mp (show (decide (l.length ≤ B) && l.all (plainB B n)) = true from h)
    have h1 := of_decide_eq_true h1
    have k := plOkL l fun d hd => plOk n d (List.all_eq_true.mp h2 d hd)
    refine ⟨k.py, k.lay, ?_, k.sh, k.nd, ?_⟩
    · show PyData.depthAll (toPyL l) + 1 ≤ n + 1
      have := k.dep
      omega
    · have e := tupleText_len_le (PyData.shownAll (toPyL l))
      have := k.len
      rw [k.cnt] at e
      show (tupleText (PyData.shownAll (toPyL l))).length ≤ B * (lenB B n + 2) + 3 + lenB B n
      have h3 : l.length * (lenB B n + 2) ≤ B * (lenB B n + 2) := Nat.mul_le_mul_right _ h1
      rw [Nat.mul_add] at h3
      omega
  | n + 1, .lst l, h => by
    obtain ⟨h1, h2⟩ := Bool.and_eq_true_iff.mp (show (decide (l.length ≤ B) && l.all (plainB B n)) = true from h)
    have h1 := of_decide_eq_true h1
    have k := plOkL l fun d hd => plOk n d (List.all_eq_true.mp h2 d hd)
    refine ⟨k.py, k.lay, ?_, k.sh, k.nd, ?_⟩
    · show PyData.depthAll (toPyL l) + 1 ≤ n + 1
      have := k.dep
      omega
    · have e := listText_len_le (PyData.shownAll (toPyL l))
      have := k.len
      rw [k.cnt] at e
      show (listText (PyData.shownAll (toPyL l))).length ≤ B * (lenB B n + 2) + 3 + lenB B n
      have h3 : l.length * (lenB B n + 2) ≤ B * (lenB B n + 2) := Nat.mul_le_mul_right _ h1
      rw [Nat.mul_add] at h3
      omega
  | 0, .tup _, h => by cases h
  | 0, .lst _, h => by cases h
  | 0, .str _, h => by cases h
  | _ + 1, .str _, h => by cases h
  | 0, .raw _, h => by cases h
  | _ + 1, .raw _, h => by cases h
  | 0, .obj _ _, h => by cases h
  | _ + 1, .obj _ _, h => by cases h
  | 0, .tl _, h => by cases h
  | _ + 1, .tl _, h => by cases h
  | 0, .dic, h => by cases h
  | _ + 1, .dic, h => by cases h
  | 0, .tt _, h => by cases h
  | _ + 1, .tt _, h => by cases h
  | 0, .pt _, h => by cases h
  | _ + 1, .pt _, h => by cases h
theorem plain_eqOk {B n : Nat} {d : D} (h : plainB B n d = true) (hn : n ≤ 60) : eqOk d = true := by
  have k := plOk n d h
  unfold eqOk
  refine Bool.and_eq_true_iff.mpr ⟨k.py, ?_⟩
  unfold SeqAt.shaped
  exact Bool.and_eq_true_iff.mpr ⟨k.lay, decide_eq_true (by have := k.dep; omega)⟩
section
variable {X : Cx} {j : Nat}
theorem cb_reprD {B n : Nat} {d : D} (hr : RoomG j X.A) (h : plainB B n d = true) (hn : n ≤ 60) (hz : lenB B n ≤ 16000000) : Cb X (.builtin "repr") [d] (.str (toPy d).shown) := by
  have k := plOk n d h
  have q := plain_eqOk h hn
  have sq : isSeq d = true → Cb X (.builtin "repr") [d] (.str (toPy d).shown) := fun hs => cb_reprS hr (by unfold shOk; rw [hs, q, k.sh, k.nd]; rfl) (Nat.le_trans k.len hz)
  cases d with
  | non => exact cb_reprN
  | bl b => exact cb_reprB
  | int i => exact cb_reprI (by have := k.sh; exact of_decide_eq_true this)
  | tup l => exact sq rfl
  | lst l => exact sq rfl
  | _ => cases n <;> cases h
theorem c_eqStr {s : Str} : Cm X .Eq (.str s) (.str s) true := ⟨_, op_eq, fun S H v w h1 h2 Q q => by
  rw [h1.str_, h2.str_]
  refine ⟨rfl, ?_⟩
  rw [decide_eq_true rfl]
  exact q⟩
end
/-- two things of one text -/
def F_same : Fs := fun ds r => ∃ (d : D) (B n : Nat), plainB B n d = true ∧ n ≤ 60 ∧ lenB B n ≤ 16000000 ∧ ds = [d, d] ∧ r = .ok (.bl true)
theorem plain_ints {B n : Nat} {l : List Int} (hl : l.length ≤ B) (h : ∀ x ∈ l, x.natAbs < 10 ^ 12) : plainB B (n + 1) (.lst (l.map .int)) = true ∧ plainB B (n + 1) (tupD l) = true := by
  have key : (decide ((l.map D.int).length ≤ B) && (l.map D.int).all (plainB B n)) = true := by
    rw [List.length_map, decide_eq_true hl, Bool.true_and, List.all_eq_true]
    intro d hd
    obtain ⟨x, hx, rfl⟩ := List.mem_map.mp hd
    cases n <;> exact decide_eq_true (h x hx)
  exact ⟨key, key⟩
theorem plain_tups {B n : Nat} {l : List (List Int)} (hl : l.length ≤ B) (h : ∀ x ∈ l, x.length ≤ B ∧ ∀ y ∈ x, y.natAbs < 10 ^ 12) : plainB B (n + 2) (.lst (l.map tupD)) = true := by
  show (decide ((l.map tupD).length ≤ B) && (l.map tupD).all (plainB B (n + 1))) = true
  rw [List.length_map, decide_eq_true hl, Bool.true_and, List.all_eq_true]
  intro d hd
  obtain ⟨x, hx, rfl⟩ := List.mem_map.mp hd
  exact (plain_ints (h x hx).1 (h x hx).2).2
end Spr

set_option Elab.async false
set_option linter.all false
set_option maxRecDepth 100000
set_option maxHeartbeats 4000000
/-! A def that calls a lambda within try, by its name. -/
namespace Spr
open PySem PySem.Spec PyProof.Rows L2
structure Sayer (X : Cx) (x : Str) (F : Fd) : Prop where
  ex : ∃ (a : Str) (g : Addr) (pg : Arguments) (bg : List Stmt) (sg : Scope) (dV kV doc pm cdv ct oc : Value) (an od : Option Addr) (osl : Array (Option Value)) (Ng : List Str), X.mg x = some (.ref g) ∧ PySem.W.keepIn X.K (.ref g) = true ∧
    X.K.lookup g = some ⟨oc, od, .func (PySem.W.fnOf x x pg bg sg dV kV doc pm an cdv ct), osl⟩ ∧ PySem.W.codeIn X.K cdv x = true ∧ L2.Binds X.K (PySem.W.fnOf x x pg bg sg dV kV doc pm an cdv ct) [a] [] ∧ FnScope Ng [a] sg ∧ Ng[0]? = some a ∧ Vis sg a ∧
    (a == ("__debug__" : Str)) = false ∧ (a == ("__classdict__" : Str)) = false ∧ ∀ q, LamX.GivesTo X Ng x sg g cdv bg a q (TTe X.K F)
/-- such a def, wherever it is called -/
def SayerG (K : PySem.W.Frag) (mg : Str → Option Value) (k : Nat) (x : Str) (F : Fd) : Prop := ∀ X : Cx, X.K = K → X.mg = mg → RoomG k X.A → Sayer X x F
/-- the def's own table of code -/
structure LamT (X : Cx) (c : Cn) : Prop where
  ex : ∃ (cc P : Addr), LamX.TabB X.base X.mg cc P ∧ X.env.code = .ref cc ∧ (P, X.env.qual ++ "<lambda>") ∈ c.tb ∧ ∀ p ∈ c.tb, p.1 = P → p.2 = X.env.qual ++ "<lambda>"
/-- x(lambda: body) -/
theorem ev_lamS {X : Cx} {c : Cn} {Γ Γ' : Gm} {F : Fd} {rd : D} {r : Except Er D} {x : Str} {k j : Nat} {params : Arguments} {body : Expr} {scope : Scope} {p lpos pos : Pos} (S : Sayer X x F) (T : LamT X c) (C : CnT c Γ) (hr : RoomG j X.A)
    (hbody : ∀ (A : Around) (outer : List Env) (s : Shared) (H : Hp) (E : XK) (f c' : Addr), RoomG k (A.deeper (LamX.lamEnv X scope s.heap.objs.size f c')) → PxE (LamX.lamCx X A outer s H E scope f c') c Γ body r Γ' (cE E)) (hF : F (unitR r) rd) (hj : k + 2 ≤ j := by decide)
    (hg : Gl X x := by rfl) (L : LamX.LamS X.env.scope scope := by exact LamX.lamS_by (by rfl)) (hdef : defaultsOf params X.env = ([], []) := by rfl)
    (hbind : ∀ (q : Str) (cl : List (Str × Addr)) (pm cv ctv : Value), bindArgs (PySem.W.kla_fn "<lambda>" q params body scope cl pm cv ctv) ⟨[], []⟩ = pure [] := by intro _ _ _ _ _; rfl) (hdb : (x == ("__debug__" : Str)) = false := by decide) :
    Ev X c Γ (.Call (.Name x p) [.Lambda params body scope lpos] [] pos) rd Γ' := by
  obtain ⟨a, g, pg, bg, sg, dV, kV, doc, pm, cdv, ct, oc, an, od, osl, Ng, h1, h2, h3, h4, h5, h6, h7, h8, h9, h10, h11⟩ := S.ex
  obtain ⟨cc, P, TB, hcode, hmT, hu⟩ := T.ex
  exact ev_lamE hg h1 h2 h3 h4 h5 h6 h7 h8 (h11 _) TB hcode hmT hu (hr.mono hj) L hdef hbind hbody hF C hdb h9 h10
abbrev Ew (X : Cx) (c : Cn) (Γ : Gm) (e : Expr) (k : Bool) (Γ' : Gm) : Prop := PW X e (tEt X.K c Γ k Γ')
section
variable {X : Cx} {c : Cn} {Γ Γ1 Γ2 : Gm} {a b e : Expr} {es : List Expr} {pos p : Pos} {d : D} {Po : Post} {x : Str}
theorem et_is {k k' : Bool} (h : Et X c Γ e k Γ1) (q : k = k') : Et X c Γ e k' Γ1 := q ▸ h
theorem et_pw {k : Bool} (h : Ew X c Γ e k Γ1) : Et X c Γ e k Γ1 := PW.pt h
theorem ew_and1 {k : Bool} (h : Et X c Γ a k Γ1) : Ew X c Γ (.BoolOp .And [a] pos) k Γ1 := pw_and1 h
theorem ew_or1 {k : Bool} (h : Et X c Γ a k Γ1) : Ew X c Γ (.BoolOp .Or [a] pos) k Γ1 := pw_or1 h
theorem ew_and {k : Bool} (h : Et X c Γ a true Γ1) (h' : Ew X c Γ1 (.BoolOp .And (b :: es) pos) k Γ2) : Ew X c Γ (.BoolOp .And (a :: b :: es) pos) k Γ2 :=
  PW.wk (pw_and h h') fun σ H Q ⟨S, t, q⟩ => ⟨S, t, fun S1 H1 r1 t1 => by
    refine iteT ?_
    exact ⟨S1, t1, fun S2 H2 r2 t2 => q S2 H2 (r1.trans r2) t2⟩⟩
theorem ew_andF (h : Et X c Γ a false Γ1) : Ew X c Γ (.BoolOp .And (a :: b :: es) pos) false Γ1 :=
  have hN : PW X (.BoolOp .And (b :: es) pos) (fun _ _ _ => False) := ⟨fun _ _ _ _ _ _ _ z => z.elim⟩
  PW.wk (pw_and h hN) fun σ H Q ⟨S, t, q⟩ => ⟨S, t, fun S1 H1 r1 t1 => by
    refine iteF ?_
    exact q S1 H1 r1 t1⟩
theorem ew_or {k : Bool} (h : Et X c Γ a false Γ1) (h' : Ew X c Γ1 (.BoolOp .Or (b :: es) pos) k Γ2) : Ew X c Γ (.BoolOp .Or (a :: b :: es) pos) k Γ2 :=
  PW.wk (pw_or h h') fun σ H Q ⟨S, t, q⟩ => ⟨S, t, fun S1 H1 r1 t1 => by
    refine iteF ?_
    exact ⟨S1, t1, fun S2 H2 r2 t2 => q S2 H2 (r1.trans r2) t2⟩⟩
theorem ew_orT (h : Et X c Γ a true Γ1) : Ew X c Γ (.BoolOp .Or (a :: b :: es) pos) true Γ1 :=
  have hN : PW X (.BoolOp .Or (b :: es) pos) (fun _ _ _ => False) := ⟨fun _ _ _ _ _ _ _ z => z.elim⟩
  PW.wk (pw_or h hN) fun σ H Q ⟨S, t, q⟩ => ⟨S, t, fun S1 H1 r1 t1 => by
    refine iteT ?_
    exact q S1 H1 r1 t1⟩
/-- xs.append(e), e may change lists of one's own -/
theorem s_appS (k : Nat) {l : List D} {p1 p2 p3 : Pos} (he : Ev X c Γ e d Γ1) (hz : l.length < 16000000) (hr : Po.nx (Γ1.set k (some (.ow (l ++ [d]))))) (hk : ∃ l0, Γ[k]? = some (some (.ow l0)) := by exact ⟨_, rfl⟩) (hk1 : Γ1[k]? = some (some (.ow l)) := by rfl) (hN : X.N[k]? = some x := by rfl) (hv : Vis X.env.scope x := by first | exact Or.inl rfl | exact Or.inr (Or.inl rfl) | exact Or.inr (Or.inr rfl))
    (hd : (x == ("__debug__" : Str)) = false := by decide) (hcd : (x == ("__classdict__" : Str)) = false := by decide) (hst : starEach [e] X.env = (false, eval e X.env) :: starEach [] X.env := by rfl)
    (hbm : ∀ ta, PA X [e] ta → PE X (.Call (.Attribute (.Name x p1) "append" p2) [e] [] p3) (tBM X.K "list" rAppend (tVar k) ta) := by exact fun ta h => pe_bm PySem.F.plainAttrs_list PySem.F.slot_list_append PySem.F.type_list_append mt_append (pe_var rfl (by first | exact Or.inl rfl | exact Or.inr (Or.inl rfl) | exact Or.inr (Or.inr rfl))) h)
    (hs : swapsWith (.Call (.Attribute (.Name x p1) "append" p2) [e] [] p3) none pos.line X.env = pure false := by rfl) : Sm X c Γ (.Expr (.Call (.Attribute (.Name x p1) "append" p2) [e] [] p3) pos) Po :=
  s_appE k he hk hk1 hz hr hN hv hd hcd hst rfl hbm hs
end
end Spr

set_option Elab.async false
set_option linter.all false
set_option maxRecDepth 100000
set_option maxHeartbeats 4000000
/-! tuple * n for n up to 1; any, all of data; a ^ b. -/
namespace Spr
open PySem PySem.Spec PyProof.Rows L2
theorem tuple_mul1 (l : Addr) (items : Array Value) (n : Nat) (dd : Option Addr) (sl : Array (Option Value)) (u : Tok) (hi : items.isEmpty = false) :
    Meets (Builtin.«tuple.__mul__» ⟨[.ref l, .int 1 u], []⟩) (fun _ R s => s.heap.get? l = some { cls := .type "tuple", dict := dd, data := .seq items n, slots := sl } ∧ R (.ok (.ret (Value.ref l))) s) :=
  .of_wp fun prog w A R s h => by
    obtain ⟨hp, g, d, tk, os⟩ := s
    obtain ⟨hl, h⟩ := h
    have f1 := AutoSeq1.idx_int
    have c0 : (decide ((1 : Int) < -(2 ^ 63)) || decide ((1 : Int) ≥ 2 ^ 63)) = false := by decide
    have c1 : (items.isEmpty || (1 : Int) == 1) = true := by rw [hi]; rfl
    wp_walk using wpAny_loadPart' hl
    repeat (first
      | (refine wpAny_ite_false (decide_eq_false (by rw [c0]; exact Bool.false_ne_true)) ?_; wp_walk using wpAny_loadPart' hl)
      | (refine wpAny_ite_true (decide_eq_true (by rw [c1])) ?_; wp_walk using wpAny_loadPart' hl)
      | (refine wpAny_ite_true (by rfl) ?_; wp_walk using wpAny_loadPart' hl))
    exact ⟨_, rfl, h⟩
theorem tuple_mul0 (l : Addr) (items : Array Value) (n : Nat) (dd : Option Addr) (sl : Array (Option Value)) (u : Tok) (x : Int) (hx : x ≤ 0) (hx2 : -(2 ^ 63) ≤ x) (hi : items.isEmpty = false) :
    Meets (Builtin.«tuple.__mul__» ⟨[.ref l, .int x u], []⟩) (fun _ R s => s.heap.get? l = some { cls := .type "tuple", dict := dd, data := .seq items n, slots := sl } ∧
      R (.ok (.ret (Value.ref s.heap.objs.size))) { s with heap := s.heap.push { cls := Value.type "tuple", data := Data.seq #[] }, toks := s.toks }) :=
  .of_wp fun prog w A R s h => by
    obtain ⟨hp, g, d, tk, os⟩ := s
    obtain ⟨hl, h⟩ := h
    have f1 := AutoSeq1.idx_int
    have c0 : (decide (x < -(2 ^ 63)) || decide (x ≥ 2 ^ 63)) = false := by rw [decide_eq_false (by omega), decide_eq_false (by omega)] <;> rfl
    have c1 : (items.isEmpty || x == 1) = false := by rw [hi, Bool.false_or]; exact beq_eq_false_iff_ne.mpr (by omega)
    have c2 : (decide (x ≤ 0) || items.isEmpty) = true := by rw [decide_eq_true hx]; rfl
    wp_walk using wpAny_loadPart' hl
    repeat (first
      | (refine wpAny_ite_false (decide_eq_false (by rw [c0]; exact Bool.false_ne_true)) ?_; wp_walk using wpAny_loadPart' hl)
      | (refine wpAny_ite_false (decide_eq_false (by rw [c1]; exact Bool.false_ne_true)) ?_; wp_walk using wpAny_loadPart' hl)
      | (refine wpAny_ite_true (decide_eq_true (by rw [c2])) ?_; wp_walk using wpAny_loadPart' hl)
      | (refine wpAny_ite_false (decide_eq_false (by decide)) ?_; wp_walk using wpAny_loadPart' hl))
    exact ⟨_, rfl, h⟩

def rRepA (K : PySem.W.Frag) : R2 := fun x y H Q => ∃ l k xs, x = .ref l ∧ y = .int k ∧ SqT K H l xs ∧ xs ≠ [] ∧ -1000 ≤ k ∧ k ≤ 1000 ∧ xs.length ≤ 1000 ∧ (k = 1 → Q (.ref l) H) ∧ (k ≠ 1 → ∀ p, H p = none → Q (.ref p) (upd H p (.tup (List.replicate k.toNat xs).flatten)))
section
variable {X : Cx} {c : Cn} {Γ : Gm}
theorem op_repA : OpR X (binaryOp .Mult) (rRepA X.K) := by
  intro pins s σ H x y v u Q I rx ry h
  obtain ⟨l, k, xs, rfl, rfl, hT, hne, h1, h2, hz, q1, q2⟩ := h
  by_cases hk2 : 2 ≤ k
  · exact op_repT pins s σ H _ _ v u Q I rx ry ⟨l, k, xs, rfl, rfl, hT, hne, hk2, h2, hz, q2 (by omega)⟩
  · cases rx
    obtain ⟨t, rfl⟩ := ry
    obtain ⟨its, r, ⟨⟨cls, dd, data, sl⟩, ho, hc, n, hd⟩, hs⟩ := I.tuple hT
    simp only at hc hd
    subst hc hd
    have hle : its.length = xs.length := r.length.symm
    have hn : its ≠ [] := fun e => hne (by
      rw [e] at hle
      exact List.eq_nil_of_length_eq_zero hle.symm)
    have hi : its.toArray.isEmpty = false := by
      cases its with
      | nil => exact absurd rfl hn
      | cons a b => rfl
    by_cases hk1 : k = 1
    · subst hk1
      exact wpAny_binaryOp_repeat_ref (T := "tuple") (U := "int") (by decide) ⟨_, ho, rfl⟩ (fun s' => typeIs_int s' 1 t) noFill_tuple_mul F.fills_int_mul F.slot_int_rmul repeat_tuple F.slot_int_index.lookup
        (call_meets F.slot_int_rmul (typeIs_int s 1 t) F.entry_int_rmul (F.args_int_rmul_2 _ _) (int_rmul_tuple 1 t l its.toArray n dd sl)
          ⟨ho, rfl, ⟨_, ho, rfl⟩, call_meets F.slot_tuple_mul ⟨_, ho, rfl⟩ F.entry_tuple_mul (F.args_tuple_mul_2 _ _) (tuple_mul1 l its.toArray n dd sl t hi) ⟨ho, ⟨.ref l, H, I, rfl, q1 rfl⟩⟩⟩)
    · have e0 : k.toNat = 0 := by omega
      have q := q2 hk1
      rw [e0] at q
      refine wpAny_binaryOp_repeat_ref (T := "tuple") (U := "int") (by decide) ⟨_, ho, rfl⟩ (fun s' => typeIs_int s' k t) noFill_tuple_mul F.fills_int_mul F.slot_int_rmul repeat_tuple F.slot_int_index.lookup
        (call_meets F.slot_int_rmul (typeIs_int s k t) F.entry_int_rmul (F.args_int_rmul_2 _ _) (int_rmul_tuple k t l its.toArray n dd sl)
          ⟨ho, rfl, ⟨_, ho, rfl⟩, call_meets F.slot_tuple_mul ⟨_, ho, rfl⟩ F.entry_tuple_mul (F.args_tuple_mul_2 _ _) (tuple_mul0 l its.toArray n dd sl t k (by omega) (by omega) hi) ⟨ho, ?_⟩⟩)
      exact ⟨.ref s.heap.objs.size, _, I.laid (t' := s.toks) (o := .tup []) (fun b ob q => Heap.get?_push_of_some _ q) (Nat.le_refl _) ⟨by decide, [], .nil, IsTup.new _ _⟩, rfl, q _ (I.hok.fresh (Nat.le_refl _))⟩
/-- t * n, any n -/
theorem bn_repA {l : List D} {n : Int} (h0 : l ≠ []) (h1 : l.length ≤ 1000) (h2 : -1000 ≤ n) (h3 : n ≤ 1000) : Bn X .Mult (.tup l) (.int n) (.tup (List.replicate n.toNat l).flatten) := ⟨_, op_repA, fun S H v w hd g1 g2 Q q => by
  obtain ⟨p1, xs, rfl, k1, k2⟩ := g1.tup_
  refine ⟨p1, n, xs, rfl, g2.int_, k1, fun z => h0 (by
    have := k2.length
    rw [z] at this
    exact List.length_eq_zero_iff.mp this.symm), h2, h3, by rw [k2.length]; exact h1, fun e => ?_, fun _ p hp => ?_⟩
  · subst e
    have el : (List.replicate (1 : Int).toNat l).flatten = l := by
      show (List.replicate 1 l).flatten = l
      simp
    rw [el] at q
    exact q _ H (Same.refl H) g1
  · have sm := same_new (o := HO.tup (List.replicate n.toNat xs).flatten) hp
    exact q _ _ sm (.tup (.inl upd_same) (fun z => hd p z hp) ((k2.rep _).ext sm))⟩
theorem rep_int (n : Nat) (x : Int) : (List.replicate n [D.int x]).flatten = (List.replicate n x).map D.int := by
  induction n with
  | zero => rfl
  | succ n ih => rw [List.replicate_succ, List.flatten_cons, ih, List.replicate_succ]; rfl
theorem bn_xor {i j : Int} : Bn X .BitXor (.int i) (.int j) (.int (Builtin.bitXor i j)) := ⟨_, op_xor, fun S H v w _ h1 h2 Q q => ⟨i, j, h1.int_, h2.int_, q _ _ (Same.refl H) (.int _)⟩⟩
/-! any(t), all(t) of ints -/
theorem plainAll_ints : ∀ ns : List Int, PyData.plainAll (toPyL (ns.map .int)) = true
  | [] => rfl
  | n :: ns => by
    show (PyData.plain (.int n) && PyData.plainAll (toPyL (ns.map .int))) = true
    rw [plainAll_ints ns]; rfl
theorem fits_ints : ∀ ns : List Int, ∀ x ∈ toPyL (ns.map .int), x.fits63
  | [], x, h => by cases h
  | n :: ns, x, h => by
    rcases List.mem_cons.mp (show x ∈ PyData.int n :: toPyL (ns.map .int) from h) with rfl | h
    · trivial
    · exact fits_ints ns x h
theorem any_ints : ∀ ns : List Int, (toPyL (ns.map .int)).any PyData.truthy = ns.any (fun n => decide (n ≠ 0))
  | [] => rfl
  | n :: ns => by
    show (PyData.truthy (.int n) || (toPyL (ns.map .int)).any PyData.truthy) = _
    rw [any_ints ns, List.any_cons]
    congr 1
    show (n != 0) = decide (n ≠ 0)
    by_cases h : n = 0 <;> simp [h]
theorem cb_anyT {ns : List Int} (hc : X.calm = true := by rfl) : Cb X (.builtin "any") [tupD ns] (.bl (ns.any fun n => decide (n ≠ 0))) := by
  have hcr : CallR X (.builtin "any") (fun xs H Q => ∃ (a : Addr), xs = [.ref a] ∧ SqT X.K H a (ns.map V.int) ∧ Dp X.K H (.ref a) (toPy (tupD ns)) ∧ Q (.bl (ns.any fun n => decide (n ≠ 0))) H) := by
    intro pins s σ H xs us Q I r ⟨a, e, hs, dp, q⟩
    subst e
    obtain ⟨u, rfl, ru⟩ := Vals.one r
    obtain ⟨as, rd⟩ := Dp.reads I _ _ _ dp ru
    obtain rfl : u = Value.ref a := ru
    cases rd with
    | @tuple l o vs n xs as₁ h1 h2 h3 h4 =>
      refine PySem.W.any_tuple_data (I.ok.hd hc) ⟨o, h1, h2, n, h3⟩ h4 (plainAll_ints ns) (fits_ints ns) fun h' tk hk => ?_
      rw [any_ints]
      exact ⟨.bl _, H, I.kept (t' := tk) hk, rfl, q⟩
  refine ⟨_, hcr, fun S H vs _ h Q q => ?_⟩
  obtain ⟨v, rfl, hv⟩ := h.one
  have dp := Den.dp (tupD ns) v (ints_ok ns).1 hv
  obtain ⟨a, xs, rfl, h2, h3⟩ := Den.tup_ (l := ns.map .int) hv
  rw [h3.ints] at h2
  exact ⟨a, rfl, h2, dp, q _ H (Same.refl H) (.bl _)⟩
end
theorem Gd.freezeT {K : PySem.W.Frag} {c : Cn} {S : Addr → Prop} {σ : L2.St} {H : Hp} {Γ : Gm} (t : Gd K c S σ H Γ) {i : Nat} {l : List D} (hi : Γ[i]? = some (some (.ow l))) (hf : ∀ q ∈ c.fx, q.1 ≠ i) : ∃ S', Rl S H S' H ∧ Gd K c S' σ H (Γ.set i (some (.im (.tl l)))) := by
  obtain ⟨a, xs, h1, h2, h3, h4⟩ := t.ow hi
  have n0 : ¬ c.S0 a := t.loc i l a hi h1 hf
  have r : Rl S H (fun b => S b ∧ b ≠ a) H := fun b o n q _ => ⟨q, fun z => n z.1⟩
  have hlt := (List.getElem?_eq_some_iff.mp hi).1
  refine ⟨fun b => S b ∧ b ≠ a, r, by simpa using t.len, fun j e h => ?_, fun j k b m m' q1 q2 q3 q4 => ?_, fun j m b q1 q2 q3 => ?_, fun b z => ⟨t.sub b z, fun y => n0 (y ▸ z)⟩, fun b z => t.new b z.1, t.chg, fun b z => t.dom b z.1, t.dm0, t.fix, t.tab, t.tbS⟩
  · by_cases hj : i = j
    · subst hj
      rw [List.getElem?_set_self hlt] at h
      cases h
      exact ⟨.ref a, h1, .tl (.inl h3) (fun z => z.2 rfl) (h4.mono r)⟩
    · rw [List.getElem?_set_ne hj] at h
      obtain ⟨v, q1, q2⟩ := t.at_ j e h
      refine ⟨v, q1, ?_⟩
      cases e with
      | im d => exact Den.mono q2 r
      | ow m =>
        obtain ⟨b, zs, rfl, h5, h6, h7⟩ := q2
        exact ⟨b, zs, rfl, ⟨h5, fun z => hj (t.sep i j a l m hi h h1 (by rw [← z]; exact q1))⟩, h6, h7.mono r⟩
      | od b kvs =>
        obtain ⟨rfl, h5, ks, h6, h7⟩ := q2
        exact ⟨rfl, ⟨h5, fun z => by rw [z, h3] at h6; cases h6⟩, ks, h6, h7.mono r⟩
  · have n1 : i ≠ j := fun z => by
      subst z
      rw [List.getElem?_set_self hlt] at q1
      cases q1
    have n2 : i ≠ k := fun z => by
      subst z
      rw [List.getElem?_set_self hlt] at q2
      cases q2
    rw [List.getElem?_set_ne n1] at q1
    rw [List.getElem?_set_ne n2] at q2
    exact t.sep j k b m m' q1 q2 q3 q4
  · have n1 : i ≠ j := fun z => by
      subst z
      rw [List.getElem?_set_self hlt] at q1
      cases q1
    rw [List.getElem?_set_ne n1] at q1
    exact t.loc j m b q1 q2 q3
section
variable {X : Cx} {c : Cn} {Γ : Gm}
/-- a list of one's own, from now on a thing that is tracked -/
theorem s_freezeT {A : List Stmt} {Po : Post} (i : Nat) {l : List D} (hi : Γ[i]? = some (some (.ow l))) (h : Bl X c (Γ.set i (some (.im (.tl l)))) A Po) (hf : fxB c.fx i = true := by rfl) : Bl X c Γ A Po :=
  PSs.wk h fun D σ H ⟨S, t, q⟩ => by
    obtain ⟨S', r, g⟩ := t.freezeT hi (fxB_ok hf)
    exact ⟨S', g, q.go r⟩
end
end Spr

set_option Elab.async false
set_option linter.all false
set_option maxRecDepth 100000
set_option maxHeartbeats 4000000
/-! x, y = a new list, a thing; len of a list of one's own; e op e' where the second raises; bits. -/
namespace Spr
open PySem PySem.Spec PyProof.Rows L2
section
variable {X : Cx} {c : Cn} {Γ Γ1 : Gm} {a b e : Expr} {es : List Expr} {pos p : Pos} {d : D} {Po : Post} {x y : Str} {W : WX}
/-- x, y = e1, e2; e1 a new list, from now on one's own -/
theorem s_parO (i j : Nat) {px py pt : Pos} {kt k2 pt2} {l : List D} {d2 : D} (ha : Pn X c Γ a l) (hb : Pe X c Γ b d2) (hr : Po.nx ((Γ.set i (some (.ow l))).set j (some (.im d2)))) (hN : X.N.Nodup) (hij : i ≠ j := by decide) (hc : X.calm = true := by rfl) (hi : X.N[i]? = some x := by rfl) (hj : X.N[j]? = some y := by rfl)
    (hx : X.env.scope.names.lookup x = some .local := by rfl) (hy : X.env.scope.names.lookup y = some .local := by rfl) (hf : fxB c.fx i = true := by rfl) (hf2 : fxB c.fx j = true := by rfl)
    (hst : starEach [a, b] X.env = (false, eval a X.env) :: starEach [b] X.env := by rfl) (hst2 : starEach [b] X.env = (false, eval b X.env) :: starEach [] X.env := by rfl)
    (hw : swappedStores [.Tuple [.Name x px, .Name y py] kt pt] (.Tuple [a, b] k2 pt2) X.env = pure (some [x, y]) := by rfl)
    (hs : swapsWithSole [.Tuple [.Name x px, .Name y py] kt pt] (.Tuple [a, b] k2 pt2) pos.line X.env = pure false := by rfl) :
    Sm X c Γ (.Assign [.Tuple [.Name x px, .Name y py] kt pt] (.Tuple [a, b] k2 pt2) pos) Po :=
  PS.wk (ps_par hc hN hi hj hij hx hy (pa_cons ha (pa_cons hb pa_nil hst2) hst) hw hs) fun D σ H ⟨S, t, q⟩ => ⟨S, t, fun p1 xs H1 e1 n1 h1 dl => by
    have t1 := t.plus n1 e1 (by rw [h1]; simp)
    refine ⟨more S p1, t1, fun w H2 e2 d2 => ?_⟩
    have g := (t.setOw n1 e1 h1 dl (fxB_ok hf)).ext e2
    exact ⟨.ref p1, w, rfl, q.nx _ H2 _ _ ((rl_more n1 e1).trans (.of e2)) (g.setIm d2 (fxB_ok hf2)) hr⟩⟩
/-- len(xs), xs a list of one's own -/
theorem p_lenO (k : Nat) {l : List D} {p1 p2 : Pos} (hk : Γ[k]? = some (some (.ow l))) (hm : X.mg "len" = none) (hN : X.N[k]? = some x := by rfl) (hv : Vis X.env.scope x := by first | exact Or.inl rfl | exact Or.inr (Or.inl rfl) | exact Or.inr (Or.inr rfl)) (hg : Gl X "len" := by rfl)
    (hd : (x == ("__debug__" : Str)) = false := by decide) (hcd : (x == ("__classdict__" : Str)) = false := by decide) (he : starEach [.Name x p1] X.env = (false, eval (.Name x p1) X.env) :: starEach [] X.env := by rfl) : Pe X c Γ (.Call (.Name "len" p) [.Name x p1] [] p2) (.int l.length) :=
  PE.wk (pe_callB call_len_seq hg hm (by decide +kernel) (pa_cons (pe_var hN hv hd hcd) pa_nil he) (he := he)) fun σ H Q ⟨S, t, q⟩ => by
    obtain ⟨a, xs, h1, h2, h3, h4⟩ := t.ow hk
    exact ⟨.ref a, h1, a, xs, rfl, .inl (SqL.of h3), by rw [h4.length]; exact q _ H (Same.refl H) (.int _)⟩
/-- e op e', the second raises -/
theorem x_binR {op : Operator} {r : R2} {e0 : Er} (ho : OpR X (binaryOp op) r) (h1 : Pe X c Γ a d) (h : Px X c Γ b (.error e0) W) : Px X c Γ (.BinOp a op b pos) (.error e0) W :=
  PE.wk (pe_op ho h1 h) fun σ H Q ⟨S, t, _, q⟩ => ⟨S, t, fun v H1 e1 _ => ⟨S, t.ext e1, (fun d hd => nomatch hd), fun e he cls dx H' e2 er => q e he cls dx H' (e1.trans e2) er⟩⟩
/-- [..] * n, any n -/
theorem n_mulZ {l : List D} {n : Int} (ha : Pn X c Γ a l) (hb : Pe X c Γ b (.int n)) (h0 : -(2 ^ 62) ≤ n) (h1 : n < 2 ^ 62) (hz : l.length * n.toNat ≤ 16000000) : Pn X c Γ (.BinOp a .Mult b pos) (List.replicate n.toNat l).flatten :=
  PE.wk (pe_op op_rep ha hb) fun σ H Q ⟨S, t, q⟩ => ⟨S, t, fun p1 xs H1 e1 n1 k1 d1 => by
    have t1 := t.plus n1 e1 (by rw [k1]; simp)
    refine ⟨S, t.ext e1, fun w H2 e2 d2 => ⟨p1, n, xs, rfl, d2.int_, e2 _ _ k1, by omega, by omega, by rw [d1.length]; exact small_line hz, fun p hp => ?_⟩⟩
    exact q p _ _ ((e1.trans e2).trans (same_new hp)) ((e1.trans e2).free hp) upd_same (((d1.off.ext e2).rep n.toNat).on hp)⟩
theorem deq_tup : ∀ (a b : List Int), deq (tupD a) (tupD b) = decide (a = b)
  | [], [] => by simp [deq, toPy, tupD, toPyL, PyData.eqv, PyData.eqvAll]
  | [], b :: bs => by simp [deq, toPy, tupD, toPyL, PyData.eqv, PyData.eqvAll]
  | a :: as, [] => by simp [deq, toPy, tupD, toPyL, PyData.eqv, PyData.eqvAll]
  | a :: as, b :: bs => by
    have ih := deq_tup as bs
    simp only [deq, tupD, toPy, PyData.eqv] at ih
    simp only [deq, tupD, toPy, List.map, toPyL, PyData.eqv, PyData.eqvAll]
    rw [ih]
    by_cases h : a = b <;> simp [h]
end
/-- data of ints within bounds -/
def inBd (lo hi : Int) : D → Bool
  | .int i => decide (lo ≤ i) && decide (i ≤ hi)
  | _ => false
theorem ints_of {lo hi : Int} : ∀ {l : List D}, l.all (inBd lo hi) = true → ∃ ns : List Int, l = ns.map D.int ∧ ∀ n ∈ ns, lo ≤ n ∧ n ≤ hi
  | [], _ => ⟨[], rfl, fun n h => nomatch h⟩
  | d :: l, h => by
    rw [List.all_cons, Bool.and_eq_true] at h
    obtain ⟨ns, e, hn⟩ := ints_of h.2
    cases d with
    | int i =>
      have hi' : (decide (lo ≤ i) && decide (i ≤ hi)) = true := h.1
      simp at hi'
      exact ⟨i :: ns, by rw [e]; rfl, fun n hm => by rcases List.mem_cons.mp hm with rfl | hm; exact hi'; exact hn n hm⟩
    | _ => cases h.1
theorem all_ints {lo hi : Int} {ns : List Int} (h : ∀ n ∈ ns, lo ≤ n ∧ n ≤ hi) : (ns.map D.int).all (inBd lo hi) = true := by
  rw [List.all_eq_true]
  intro d hd
  obtain ⟨n, hn, rfl⟩ := List.mem_map.mp hd
  have := h n hn
  show (decide (lo ≤ n) && decide (n ≤ hi)) = true
  simp; exact this
theorem atI_neg1 {α : Type} {xs : List α} {v : α} (h : xs[xs.length - 1]? = some v) : L2.atI xs (-1) = some v := by
  have hl : xs.length - 1 < xs.length := (List.getElem?_eq_some_iff.mp h).1
  unfold L2.atI L2.ixN
  rw [if_neg (by decide), if_pos (by omega)]
  show xs[((-1 : Int) + xs.length).toNat]? = some v
  rw [show ((-1 : Int) + (xs.length : Int)).toNat = xs.length - 1 from by omega]
  exact h
section
variable {X : Cx} {c : Cn} {Γ Γ1 Γ2 : Gm} {a b e : Expr} {es : List Expr} {pos p : Pos} {d : D}
theorem ev_one {op} (h : Ev X c Γ a d Γ1) : Ev X c Γ (.BoolOp op [a] pos) d Γ1 := pe_one h
theorem ev_and {k : Bool} (h : Ev X c Γ a (.bl true) Γ1) (h' : Ev X c Γ1 (.BoolOp .And (b :: es) pos) (.bl k) Γ2) : Ev X c Γ (.BoolOp .And (a :: b :: es) pos) (.bl k) Γ2 :=
  PE.wk (pe_and h h') fun σ H Q ⟨S, t, q⟩ => ⟨S, t, fun v S1 H1 r1 t1 d1 => ⟨true, d1.bl_, by
    refine iteT ?_
    exact ⟨S1, t1, fun w S2 H2 r2 t2 d2 => q w S2 H2 (r1.trans r2) t2 d2⟩⟩⟩
theorem ev_or {k : Bool} (h : Ev X c Γ a (.bl false) Γ1) (h' : Ev X c Γ1 (.BoolOp .Or (b :: es) pos) (.bl k) Γ2) : Ev X c Γ (.BoolOp .Or (a :: b :: es) pos) (.bl k) Γ2 :=
  PE.wk (pe_or h h') fun σ H Q ⟨S, t, q⟩ => ⟨S, t, fun v S1 H1 r1 t1 d1 => ⟨false, d1.bl_, by
    refine iteF ?_
    exact ⟨S1, t1, fun w S2 H2 r2 t2 d2 => q w S2 H2 (r1.trans r2) t2 d2⟩⟩⟩
end
end Spr

set_option Elab.async false
set_option linter.all false
set_option maxRecDepth 100000
set_option maxHeartbeats 4000000
/-! a thing in a tuple of things; t.index(x); xs.pop(i); sorted(ints); list(range(n)); x = [..] on one line over any source, of two clauses. -/
namespace Spr
open PySem PySem.Spec PyProof.Rows L2
/-! ### in a tuple -/
def rInDT (K : PySem.W.Frag) : R2 := fun x y H Q => ∃ d ds, Dp K H x d ∧ Dp K H y (.tuple ds) ∧ SeqAt.shaped d = true ∧ SeqAt.shaped (.tuple ds) = true ∧ Q (.bl (ds.any fun z => PyData.eqv z d)) H
def rNotInDT (K : PySem.W.Frag) : R2 := fun x y H Q => ∃ d ds, Dp K H x d ∧ Dp K H y (.tuple ds) ∧ SeqAt.shaped d = true ∧ SeqAt.shaped (.tuple ds) = true ∧ Q (.bl (!ds.any fun z => PyData.eqv z d)) H
section
variable {X : Cx}
theorem op_inDT (hu : X.A.units + 65 < cLine) : OpR X (compareOp .In) (rInDT X.K) := by
  intro pins s σ H x y v u Q I rx ry h
  obtain ⟨d, ds, hd, he, sd, se, q⟩ := h
  obtain ⟨as, r1⟩ := Dp.reads I d x v hd rx
  obtain ⟨bs, r2⟩ := Dp.reads I (.tuple ds) y u he ry
  exact SeqAt.in_tuple_reads r2 r1 (SeqAt.canLay_of_shaped se) (SeqAt.canLay_of_shaped sd) (room_in_shaped sd hu) ⟨.bl _, H, I, rfl, q⟩
theorem op_notInDT (hu : X.A.units + 65 < cLine) : OpR X (compareOp .NotIn) (rNotInDT X.K) := by
  intro pins s σ H x y v u Q I rx ry h
  obtain ⟨d, ds, hd, he, sd, se, q⟩ := h
  obtain ⟨as, r1⟩ := Dp.reads I d x v hd rx
  obtain ⟨bs, r2⟩ := Dp.reads I (.tuple ds) y u he ry
  exact SeqAt.notIn_tuple_reads r2 r1 (SeqAt.canLay_of_shaped se) (SeqAt.canLay_of_shaped sd) (room_in_shaped sd hu) ⟨.bl _, H, I, rfl, q⟩
theorem any_toPy (l : List D) (d : D) : (toPyL l).any (fun z => PyData.eqv z (toPy d)) = l.any fun z => deq z d := by
  induction l with
  | nil => rfl
  | cons a l ih => show (_ || _) = _; rw [ih]; rfl
theorem c_inDT {d : D} {l : List D} (hu : X.A.units + 65 < cLine) (h1 : eqOk d = true) (h2 : eqOk (.tup l) = true) : Cm X .In d (.tup l) (l.any fun z => deq z d) := ⟨_, op_inDT hu, fun S H v w g1 g2 Q q => by
  obtain ⟨p1, p2⟩ := Bool.and_eq_true_iff.mp h1
  obtain ⟨p3, p4⟩ := Bool.and_eq_true_iff.mp h2
  exact ⟨toPy d, toPyL l, Den.dp _ _ p1 g1, Den.dp _ _ p3 g2, p2, p4, by rw [any_toPy]; exact q⟩⟩
theorem c_notinDT {d : D} {l : List D} (hu : X.A.units + 65 < cLine) (h1 : eqOk d = true) (h2 : eqOk (.tup l) = true) : Cm X .NotIn d (.tup l) (!l.any fun z => deq z d) := ⟨_, op_notInDT hu, fun S H v w g1 g2 Q q => by
  obtain ⟨p1, p2⟩ := Bool.and_eq_true_iff.mp h1
  obtain ⟨p3, p4⟩ := Bool.and_eq_true_iff.mp h2
  exact ⟨toPy d, toPyL l, Den.dp _ _ p1 g1, Den.dp _ _ p3 g2, p2, p4, by rw [any_toPy]; exact q⟩⟩
/-! ### t.index(x) -/
def rIndexDT (K : PySem.W.Frag) : V → List V → Hp → VK → Prop := fun x xs H Q => ∃ (a : Addr) (y : V) (d : PyData) (ds : List PyData) (j : Nat) (z : PyData), x = V.ref a ∧ xs = [y] ∧ Dp K H (V.ref a) (.tuple ds) ∧ Dp K H y d ∧
  SeqAt.shaped (.tuple ds) = true ∧ SeqAt.shaped d = true ∧ ds[j]? = some z ∧ PyData.eqv z d = true ∧ (∀ (m : Nat) (z' : PyData), m < j → ds[m]? = some z' → PyData.eqv z' d = false) ∧ Q (.int (j : Nat)) H
theorem mt_indexDT (hu : X.A.units + 65 < cLine) : MtR X "tuple.index" (rIndexDT X.K) := by
  intro pins s σ H x xs v us Q I rx rxs h
  obtain ⟨a, y, d, ds, j, z, rfl, rfl, hl, hy, sl, sd, hz, hzj, hno, q⟩ := h
  cases rx
  cases rxs with
  | cons ry rt =>
    rename_i uy ut
    cases rt
    obtain ⟨bs, r1⟩ := Dp.reads I d y uy hy ry
    have hxs : PyData.canLayAll0 ds = true := SeqAt.canLay_of_shaped sl
    have hroom : X.A.units + 1 + min (PyData.depthAll ds) d.depth < cLine := room_in_shaped sd hu
    cases hl with
    | tup hs ha =>
      obtain ⟨its, rv, ⟨⟨cls, dd, data, sls⟩, ho, hc, n, hdt⟩, hlen⟩ := I.tuple hs
      simp only at hc hdt
      subst hc hdt
      obtain ⟨as, h4⟩ := Dp.readsAll I ds _ its ha rv
      have hn : its.length = ds.length := SeqAt.ReadsAll.length ds its as h4
      have hmap : its.map (SeqAt.readOf s.heap) = ds := SeqAt.readsAll_map ds its as hxs h4
      obtain ⟨hjd, _⟩ := List.getElem?_eq_some_iff.mp hz
      have hjl : j < its.length := by omega
      have hj : j < its.toArray.size := by simpa using hjl
      have at_ : ∀ (m : Nat) (hm : m < its.toArray.size) (z' : PyData), ds[m]? = some z' → SeqAt.readOf s.heap its.toArray[m] = z' := by
        intro m hm z' hz'
        have hml : m < its.length := by simpa using hm
        rw [← hmap, List.getElem?_map, List.getElem?_eq_getElem hml] at hz'
        have e1 : SeqAt.readOf s.heap its[m] = z' := Option.some.inj (show some (SeqAt.readOf s.heap its[m]) = some z' from hz')
        simpa using e1
      refine call_meets PySem.F.slot_tuple_index ⟨_, ho, rfl⟩ PySem.F.entry_tuple_index (PySem.F.args_tuple_index_2 _ _)
        (TI.tuple_indexAt a its.toArray n dd sls uy (fun u => PyData.eqv (SeqAt.readOf s.heap u) d) j hj ?_ ?_) ⟨ho, SeqAt.items_eqAt (vs := its.toArray) (show ReadsAll s.heap its.toArray.toList ds as from h4) r1 hxs (SeqAt.canLay_of_shaped sd) hroom, ?_⟩
      · show PyData.eqv (SeqAt.readOf s.heap its.toArray[j]) d = true
        rw [at_ j hj z hz]
        exact hzj
      · intro m hm hmj
        have hmd : m < ds.length := by omega
        have hz' : ds[m]? = some ds[m] := List.getElem?_eq_getElem hmd
        show PyData.eqv (SeqAt.readOf s.heap its.toArray[m]) d = false
        rw [at_ m hm _ hz']
        exact hno m _ hmj hz'
      · exact ⟨.int (j : Nat), H, I.tok _, ⟨_, rfl⟩, q⟩
end
section
variable {X : Cx} {c : Cn} {Γ Γ1 : Gm} {a b e : Expr} {es : List Expr} {pos p apos cpos : Pos} {da db dc d : D} {Po : Post} {x : Str} {k j : Nat}
/-- the method of a tuple that has no dict -/
def tBMT (r : V → List V → Hp → VK → Prop) (to : TE) (t : TA) : TE := fun σ H Q => to σ H fun x H1 => (∃ a o xs, x = .ref a ∧ H1 a = some (.frz o (.tup xs)) ∧ o.dict = none) ∧ t σ H1 fun xs H2 => r x xs H2 Q
theorem pe_bmT {o e : Expr} {es : List Expr} {to : TE} {t : TA} {name : Str} {apos cpos : Pos} {id : String} {r : V → List V → Hp → VK → Prop} (slot : Slot "tuple" name id) (hty : typeOf (.builtin id) = pure (.type "method_descriptor")) (hm : MtR X id r) (ho : PE X o to) (ha : PA X (e :: es) t)
    (hbase : attributeBase o name X.env (eval o X.env) = eval o X.env := by rfl)
    (hfew : ((backTo cpos (starEach (e :: es) X.env)).all (fun x => !x.1) && (backToKw cpos (keywordEach [] X.env)).all (fun x => x.1.isSome)
      && decide ((e :: es).length + ([] : List Keyword).length + (if ([] : List Keyword).isEmpty then 0 else 1) < 30)) = true := by rfl)
    (hline : (apos.endLine == cpos.line) = true := by rfl) (hs : starEach (e :: es) X.env = (false, eval e X.env) :: starEach es X.env := by rfl) (hplain : (backTo cpos (starEach es X.env)).any (·.1) = false := by rfl) :
    PE X (.Call (.Attribute o name apos) (e :: es) [] cpos) (tBMT r to t) := by
  refine ⟨fun pins s σ H Q I h => ?_⟩
  refine wpAny_Call_method_late hbase hfew hline rfl (thn (ho.run pins s σ H _ I h) fun v s1 ⟨x, H1, I1, r1, ty, q1⟩ => ?_)
  obtain ⟨a, ob, xs, rfl, h1, h2⟩ := ty
  cases r1
  obtain ⟨g1, g2, its, g3, o2, g4, g5, g6⟩ := I1.hok a _ h1
  have eo : o2 = ob := Option.some.inj (g4.symm.trans g1)
  subst eo
  refine ⟨"tuple", id, PySem.F.plainAttrs_tuple, slot, hty, ⟨o2, g1, g5⟩, fun b hb => by cases hb; exact ⟨o2, g1, h2⟩, ?_⟩
  have hA := ha.run cpos pins s1 σ H1 _ I1 q1
  rw [hs] at hA ⊢
  refine Calls.callWith_builtin (by show (false || (backTo cpos (starEach es X.env)).any (·.1)) = false; rw [hplain] <;> rfl) (Calls.evalArgs_plain ?_)
  exact thn hA fun us s2 ⟨vs, H2, I2, r2, q2⟩ => hm pins s2 σ H2 (.ref a) vs (.ref a) us Q I2 rfl r2 q2
theorem p_upT {l : List D} (h : Pe X c Γ e (.tt l)) : Pe X c Γ e (.tup l) := PE.wk h fun σ H Q ⟨S, t, q⟩ => ⟨S, t, fun v H1 e1 d1 => q v H1 e1 d1.upT⟩
theorem ev_upT {l : List D} (h : Ev X c Γ e (.tt l) Γ1) : Ev X c Γ e (.tup l) Γ1 := PE.wk h fun σ H Q ⟨S, t, q⟩ => ⟨S, t, fun v S1 H1 r1 t1 d1 => q v S1 H1 r1 t1 d1.upT⟩
theorem p_indexT {l : List D} {n : Nat} {z : D} (hu : X.A.units + 65 < cLine) (ho : Pe X c Γ a (.tt l)) (ha : Pe X c Γ e d) (h1 : eqOk (.tup l) = true) (h2 : eqOk d = true) (hz : l[n]? = some z) (hq : deq z d = true) (hno : ∀ m z', m < n → l[m]? = some z' → deq z' d = false)
    (hbm : ∀ to ta, PE X a to → PA X [e] ta → PE X (.Call (.Attribute a "index" apos) [e] [] cpos) (tBMT (rIndexDT X.K) to ta)) (hst : starEach [e] X.env = (false, eval e X.env) :: starEach [] X.env := by rfl) : Pe X c Γ (.Call (.Attribute a "index" apos) [e] [] cpos) (.int n) :=
  PE.wk (hbm _ _ ho (a_cons ha a_nil hst)) fun σ H Q ⟨S, t, q⟩ => ⟨S, t, fun v H1 e1 d1 => by
    obtain ⟨u, o, xs, rfl, h3, h3', _, h4⟩ := d1.tt_
    refine ⟨⟨u, o, xs, rfl, h3, h3'⟩, S, t.ext e1, fun vs H2 e2 d2 => ?_⟩
    obtain ⟨y, rfl, h5⟩ := d2.one
    obtain ⟨p1, p2⟩ := Bool.and_eq_true_iff.mp h1
    obtain ⟨p3, p4⟩ := Bool.and_eq_true_iff.mp h2
    refine ⟨u, y, toPy d, toPyL l, n, toPy z, rfl, rfl, Den.dp _ _ p1 (d1.ext e2).upT, Den.dp _ _ p3 h5, p2, p4, by rw [toPyL_get, hz]; rfl, hq, fun m z' hm h6 => ?_, q _ H2 (e1.trans e2) (.int _)⟩
    rw [toPyL_get] at h6
    cases h7 : l[m]? with
    | none => rw [h7] at h6; cases h6
    | some y' =>
      rw [h7] at h6
      cases h6
      exact hno m y' hm h7⟩
/-- tuple(a list): of no dict -/
theorem cr_tupleT : CallR X (.type "tuple") (fun xs H Q => ∃ p ys, xs = [.ref p] ∧ SqL X.K H p ys ∧ ∀ l o, o.dict = none → H l = none → Q (.ref l) (upd H l (.frz o (.tup ys)))) := by
  intro pins s σ H xs us Q I r h
  obtain ⟨p, ys, rfl, hq, q⟩ := h
  obtain ⟨u, rfl, rx⟩ := vals1 r
  cases rx
  obtain ⟨its, r', pl, hz⟩ := I.list hq
  have hlen := r'.length
  refine call_tuple_list pl.isList (fun h' kp => ?_) (by simp only [List.size_toArray] <;> omega)
  have I1 : Inv X pins σ H { s with heap := h' } := I.kept (t' := s.toks) kp
  have I2 : Inv X pins σ (upd H h'.objs.size (.frz { cls := .type "tuple", data := .seq its.toArray } (.tup ys))) { s with heap := h'.push { cls := .type "tuple", data := .seq its.toArray } } :=
    I1.laid (t' := s.toks) (fun b o e => Heap.get?_push_of_some _ e) (Nat.le_refl _) (show ObjOk X.prog X.w _ _ _ (.frz { cls := .type "tuple", data := .seq its.toArray } (.tup ys)) from ⟨Heap.get?_push_size _ rfl, hz, its, r', IsTup.new _ _⟩)
  exact ⟨.ref h'.objs.size, _, I2, rfl, q _ _ rfl (I1.hok.fresh (Nat.le_refl _))⟩
theorem cb_tupleTT {l : List D} : Cb X (.type "tuple") [.lst l] (.tt l) := ⟨_, cr_tupleT, fun S H vs hd h Q q => by
  obtain ⟨v, rfl, h1⟩ := h.one
  obtain ⟨a, xs, rfl, h2, h3⟩ := h1.lst_
  refine ⟨a, xs, rfl, h2, fun p o e hn => q _ _ (same_new hn) ?_⟩
  exact .tt upd_same e (fun z => hd p z hn) (h3.ext (same_new hn))⟩
/-! ### xs.pop(i) -/
theorem DenL.eraseIdx {K : PySem.W.Frag} {S : Addr → Prop} {H : Hp} : ∀ {xs : List V} {l : List D} (i : Nat), DenL K S H xs l → DenL K S H (xs.eraseIdx i) (l.eraseIdx i)
  | _, _, _, .nil => .nil
  | _, _, 0, .cons _ t => t
  | _, _, i + 1, .cons h t => .cons h (DenL.eraseIdx i t)
theorem ev_pop (k : Nat) {l : List D} {i : Int} {p1 p2 p3 : Pos} (he : Ev X c Γ e (.int i) Γ1) (hd : l[i.toNat]? = some d) (h0 : 0 ≤ i) (hk1 : Γ1[k]? = some (some (.ow l)) := by rfl) (hz : l.length ≤ 16000000 := by simp) (hk : ∃ l0, Γ[k]? = some (some (.ow l0)) := by exact ⟨_, rfl⟩) (hN : X.N[k]? = some x := by rfl) (hv : Vis X.env.scope x := by first | exact Or.inl rfl | exact Or.inr (Or.inl rfl) | exact Or.inr (Or.inr rfl))
    (hst : starEach [e] X.env = (false, eval e X.env) :: starEach [] X.env := by rfl)
    (hbm : ∀ ta, PA X [e] ta → PE X (.Call (.Attribute (.Name x p1) "pop" p2) [e] [] p3) (tBM X.K "list" rPopAt (tVar k) ta) := by exact fun ta h => pe_bm PySem.F.plainAttrs_list PySem.F.slot_list_pop PySem.F.type_list_pop mt_popAt (pe_var rfl (by first | exact Or.inl rfl | exact Or.inr (Or.inl rfl) | exact Or.inr (Or.inr rfl))) h) :
    Ev X c Γ (.Call (.Attribute (.Name x p1) "pop" p2) [e] [] p3) d (Γ1.set k (some (.ow (l.eraseIdx i.toNat)))) :=
  PE.wk (hbm _ (ea_cons he ea_nil hst)) fun σ H Q ⟨S, t, q⟩ => by
    obtain ⟨l0, hk0⟩ := hk
    obtain ⟨a, xs, h1, h2, h3, h4⟩ := t.ow hk0
    refine ⟨.ref a, h1, .inl ⟨rfl, xs, SqL.of h3⟩, S, t, fun vs S1 H1 r1 t1 d1 => ?_⟩
    obtain ⟨v, rfl, h5⟩ := d1.one
    obtain ⟨a', xs', g1, g2, g3, g4⟩ := t1.ow hk1
    have ea : a' = a := by rw [h1] at g1; cases g1; rfl
    subst ea
    obtain ⟨y, hy, hyd⟩ := g4.at_ hd
    have hlt : i.toNat < l.length := (List.getElem?_eq_some_iff.mp hd).1
    have hlen := g4.length
    refine ⟨a', xs', i, i.toNat, y, rfl, by rw [h5.int_], g3, by omega, by omega, PySem.seqIndex_of h0 (by omega), hy, ?_⟩
    exact q y S1 _ (r1.trans (rl_upd g2)) (t1.change hk1 h1 g2 g3 (DenL.eraseIdx i.toNat g4)) (hyd.mono (rl_upd g2))
/-! ### sorted(ints), list(range(n)) -/
theorem cb_sortedI {ns ns' : List Int} (hp : ns'.Perm ns) (hs : ns'.Pairwise (· ≤ ·)) : Cb X (.builtin "sorted") [.lst (ns.map .int)] (.lst (ns'.map .int)) := ⟨_, cr_sortedI, fun S H vs hdm h Q q => by
  obtain ⟨v, rfl, h1⟩ := h.one
  obtain ⟨a, xs, rfl, h2, h3⟩ := h1.lst_
  rw [h3.ints] at h2
  refine ⟨a, ns, rfl, h2, fun ns2 p hp2 hs2 hn => ?_⟩
  have e : ns2 = ns' := List.Perm.eq_of_pairwise (le := (· ≤ ·)) (fun a b _ _ h1 h2 => by omega) hs2 hs (hp2.trans hp.symm)
  rw [e]
  exact q _ _ (same_new hn) (Den.newL hdm hn (DenL.of_ints ns'))⟩
theorem n_listRg {n : Int} {p1 p2 p3 p4 : Pos} (ha : Pe X c Γ a (.int n)) (h0 : 0 ≤ n) (h1 : n ≤ 16000000) (hm : X.mg "list" = none) (hm2 : X.mg "range" = none) (hc : X.calm = true := by rfl) (hg : Gl X "list" := by rfl) (hg2 : Gl X "range" := by rfl)
    (na : starEach [a] X.env = (false, eval a X.env) :: starEach [] X.env := by rfl) (na2 : starEach [.Call (.Name "range" p2) [a] [] p3] X.env = (false, eval (.Call (.Name "range" p2) [a] [] p3) X.env) :: starEach [] X.env := by rfl) :
    Pn X c Γ (.Call (.Name "list" p1) [.Call (.Name "range" p2) [a] [] p3] [] p4) ((List.range n.toNat).map fun (i : Nat) => .int (i : Int)) :=
  PE.wk (pe_listRg hc hg hm (prg_1 hg2 hm2 ha na) na2) fun σ H Q ⟨S, t, q⟩ => ⟨S, t, fun v H1 e1 d1 => by
    refine ⟨n, d1.int_, RgOk.of_le (by omega) (by omega) (by omega) h0, fun p hp => ?_⟩
    have e : rgV 0 n = ((List.range n.toNat).map fun (i : Nat) => (i : Int)).map V.int := by
      unfold rgV
      rw [List.map_map, Int.sub_zero]
      exact List.map_congr_left fun i _ => by show V.int (0 + (i : Int)) = V.int (i : Int); rw [Int.zero_add]
    have e2 : ((List.range n.toNat).map fun (i : Nat) => D.int (i : Int)) = ((List.range n.toNat).map fun (i : Nat) => (i : Int)).map D.int := by rw [List.map_map]; rfl
    rw [e2] at q
    exact q p _ _ (e1.trans (same_new hp)) (e1.free hp) (by rw [e]; exact upd_same) (DenL.of_ints _)⟩
end
section
variable {X : Cx} {c : Cn} {Γ : Gm} {a b e : Expr} {pos : Pos} {elt iter tg iter1 tg1 : Expr} {ifs ifs1 : List Expr} {scope : Scope} {own : List (Str × Nat)} {lpos : Pos} {x : Str} {Po : Post}
/-- x = [elt for tg in iter if ..], on one line -/
theorem s_setLcS (i : Nat) (pt : Pat) {px : Pos} {wi : TI} {n : Nat} {item : Nat → D} (f : Nat → D) (p : Nat → Bool) (hi : PI X tg iter wi) (hw : SrcP X.K c Γ wi n item) (hz : n ≤ 16000000) (hfit : ∀ i, i < n → pt.fits (item i)) (ok : BlkOk X.N X.env.scope scope own) (hj : ∀ j ∈ pt.js, j ∈ own.map (·.2))
    (hg : InBlk X scope fun X' => PG X' tg (pt.g X.K))
    (ht : ∀ i, i < n → InBlk X scope fun X' => PTs X' ifs (tQ X.K c (pt.app (item i) (wipeG Γ (own.map (·.2)))) (p i)))
    (he : ∀ i, i < n → p i = true → InBlk X scope fun X' => Pe X' c (pt.app (item i) (wipeG Γ (own.map (·.2)))) elt (f i))
    (hr : Po.nx (Γ.set i (some (.ow (accE p f n)))) ∨ Po.nx (Γ.set i (some (.im (.lst (accE p f n)))))) (hN : X.N.Nodup) (hsw : swapsWith (.ListComp elt [⟨tg, iter, ifs, 0⟩] scope lpos) (some (.Name x px)) pos.line X.env = pure true := by rfl) (hxi : X.N[i]? = some x := by rfl) (hxl : X.env.scope.names.lookup x = some .local := by rfl) (hf : ((own.map (·.2)).all fun v => fxB c.fx v) = true := by rfl) (hfi : fxB c.fx i = true := by rfl) (hc : X.calm = true := by rfl) (hs : ∀ x, foldedSetIterable iter X.env x = pure x := by intro _; rfl) :
    Sm X c Γ (.Assign [.Name x px] (.ListComp elt [⟨tg, iter, ifs, 0⟩] scope lpos) pos) Po :=
  PS.wk (ps_setLc hc hN hxi hxl hsw hi ok hg (in_tstP ht) (in_eltP he) hs) fun D σ H h => tAsg_n (fun σ H Q h => lcP_read hz hfit (wfx hf) hj hw h) hfi hr h
/-- .. of two clauses -/
theorem s_setLc2 (i : Nat) (pt pt1 : Pat) (vs1 : List Nat) {px : Pos} {wi : TI} {n : Nat} (M : Nat) {item : Nat → D} {m : Nat → Nat} {item1 : Nat → Nat → D} {wi1 : Nat → TI} (f : Nat → Nat → D) (p0 : Nat → Bool) (p : Nat → Nat → Bool)
    (hi : PI X tg iter wi) (hw : SrcP X.K c Γ wi n item) (hz : (n + 1) * M ≤ 16000000) (hm : ∀ i, m i ≤ M) (hfit : ∀ i, i < n → pt.fits (item i)) (hfit1 : ∀ i j, i < n → j < m i → pt1.fits (item1 i j)) (ok : BlkOk X.N X.env.scope scope own)
    (hg : InBlk X scope fun X' => PG X' tg (pt.g X.K)) (ht : ∀ i, i < n → InBlk X scope fun X' => PTs X' ifs (tQ X.K c (pt.app (item i) (wipeG Γ (own.map (·.2)))) (p0 i)))
    (hi1 : ∀ i, i < n → InBlk X scope fun X' => PI X' tg1 iter1 (wi1 i)) (hw1 : ∀ i, i < n → SrcP X.K c (pt.app (item i) (wipeG Γ (own.map (·.2)))) (wi1 i) (m i) (item1 i)) (hg1 : InBlk X scope fun X' => PG X' tg1 (pt1.g X.K))
    (ht1 : ∀ i j, i < n → j < m i → InBlk X scope fun X' => PTs X' ifs1 (tQ X.K c (pt1.app (item1 i j) (wipeG (pt.app (item i) (wipeG Γ (own.map (·.2)))) vs1)) (p i j)))
    (he : ∀ i j, i < n → j < m i → p i j = true → InBlk X scope fun X' => Pe X' c (pt1.app (item1 i j) (wipeG (pt.app (item i) (wipeG Γ (own.map (·.2)))) vs1)) elt (f i j))
    (hr : Po.nx (Γ.set i (some (.ow (acc2 m p f p0 n)))) ∨ Po.nx (Γ.set i (some (.im (.lst (acc2 m p f p0 n)))))) (hN : X.N.Nodup) (hsw : swapsWith (.ListComp elt [⟨tg, iter, ifs, 0⟩, ⟨tg1, iter1, ifs1, 0⟩] scope lpos) (some (.Name x px)) pos.line X.env = pure true := by rfl) (hxi : X.N[i]? = some x := by rfl) (hxl : X.env.scope.names.lookup x = some .local := by rfl) (hj : ∀ j ∈ pt.js, j ∈ own.map (·.2) := by decide) (hj1 : ∀ j ∈ pt1.js, j ∈ vs1 := by decide) (hv : ∀ v ∈ vs1, v ∈ own.map (·.2) := by decide) (hf : ((own.map (·.2)).all fun v => fxB c.fx v) = true := by rfl) (hfi : fxB c.fx i = true := by rfl) (hc : X.calm = true := by rfl) (hs : ∀ x, foldedSetIterable iter X.env x = pure x := by intro _; rfl) (hs1 : ∀ env x, foldedSetIterable iter1 env x = pure x := by intro _ _; rfl) :
    Sm X c Γ (.Assign [.Name x px] (.ListComp elt [⟨tg, iter, ifs, 0⟩, ⟨tg1, iter1, ifs1, 0⟩] scope lpos) pos) Po :=
  PS.wk (ps_setLc2 (tt := tInTP X.K c (wipeG Γ (own.map (·.2))) pt n item p0) (wi1 := tIw2 n wi1) (tt1 := tInT2 X.K c (fun i => wipeG (pt.app (item i) (wipeG Γ (own.map (·.2)))) vs1) pt1 n m item1 p) (te := tIn2 X.K c (fun i => wipeG (pt.app (item i) (wipeG Γ (own.map (·.2)))) vs1) pt1 n m item1 f p) hc hN hxi hxl hsw hi ok hv hg (in_tstP ht) (fun s H C cl fp => ⟨fun pins s1 σ H1 Q I ⟨i, h1, q⟩ => (hi1 i h1 s H C cl fp).run pins s1 σ H1 Q I q⟩) hg1
    (fun s H C cl fp => ⟨fun pins s1 σ H1 Q I ⟨i, j, h1, h2, q⟩ => (ht1 i j h1 h2 s H C cl fp).run pins s1 σ H1 Q I q⟩) (fun s H C cl fp => ⟨fun pins s1 σ H1 Q I ⟨i, j, h1, h2, h3, q⟩ => (he i j h1 h2 h3 s H C cl fp).run pins s1 σ H1 Q I q⟩) hs hs1)
    fun D σ H h => tAsg_n (fun σ H Q h => lc2P_read hz hm hfit hfit1 (wfx hf) hj hj1 hv hw hw1 h) hfi hr h
end
end Spr

set_option Elab.async false
set_option linter.all false
set_option maxRecDepth 100000
set_option maxHeartbeats 4000000
/-! sorted of tuples of ints, any ints, any number of tuples, all of one length. -/
namespace Spr
open PySem PySem.Spec PyProof.Rows L2
/-- one row of ints before another -/
def lexLt : List Int → List Int → Bool
  | [], [] => false
  | [], _ :: _ => true
  | _ :: _, [] => false
  | a :: l, b :: m => if a = b then lexLt l m else decide (a < b)
theorem lex_asym : ∀ x y : List Int, lexLt x y = true → lexLt y x = false
  | [], [], h => by cases h
  | [], _ :: _, _ => rfl
  | _ :: _, [], h => by cases h
  | a :: l, b :: m, h => by
    unfold lexLt at h ⊢
    by_cases e : a = b
    · rw [if_pos e] at h
      rw [if_pos e.symm]
      exact lex_asym l m h
    · rw [if_neg e] at h
      rw [if_neg (fun z => e z.symm)]
      have := of_decide_eq_true h
      exact decide_eq_false (by omega)
theorem lex_tr : ∀ x y z : List Int, lexLt y x = false → lexLt z y = false → lexLt z x = false
  | [], _, [], _, _ => rfl
  | [], _, _ :: _, _, _ => rfl
  | x :: xs, [], _, h, _ => by cases h
  | x :: xs, y :: ys, [], _, h => by cases h
  | x :: xs, y :: ys, z :: zs, h1, h2 => by
    unfold lexLt at h1 h2 ⊢
    by_cases e1 : y = x
    · rw [if_pos e1] at h1
      by_cases e2 : z = y
      · rw [if_pos e2] at h2
        rw [if_pos (e2.trans e1)]
        exact lex_tr xs ys zs h1 h2
      · rw [if_neg e2] at h2
        rw [if_neg (fun q => e2 (q.trans e1.symm))]
        rw [← e1]
        exact h2
    · rw [if_neg e1] at h1
      have g1 := of_decide_eq_false h1
      by_cases e2 : z = y
      · rw [if_neg (fun q => e1 (e2.symm.trans q)), e2]
        exact h1
      · rw [if_neg e2] at h2
        have g2 := of_decide_eq_false h2
        rw [if_neg (by omega)]
        exact decide_eq_false (by omega)
theorem lex_anti : ∀ x y : List Int, lexLt x y = false → lexLt y x = false → x = y
  | [], [], _, _ => rfl
  | [], _ :: _, h, _ => by cases h
  | _ :: _, [], _, h => by cases h
  | a :: l, b :: m, h1, h2 => by
    unfold lexLt at h1 h2
    by_cases e : a = b
    · rw [if_pos e] at h1
      rw [if_pos e.symm] at h2
      rw [e, lex_anti l m h1 h2]
    · rw [if_neg e] at h1
      rw [if_neg (fun z => e z.symm)] at h2
      have := of_decide_eq_false h1
      have := of_decide_eq_false h2
      omega
/-- by the ints that the heap holds -/
def ltT (h : Heap) (v u : Value) : Bool := lexLt (TS.intsOf h v) (TS.intsOf h u)
theorem swo_T (h : Heap) : SrtO.Swo (ltT h) := ⟨fun x y q => lex_asym _ _ q, fun x y z p q => lex_tr _ _ _ p q⟩
section
variable {prog : Program} {w : World} {A : Around} {E : Value → Shared → Prop} {s : Shared}
theorem lex_walk {b : Bool} {Q : Bool → Shared → Prop} : ∀ {xs ys : List Value} {ns ms : List Int} (i : Nat), IntsAre xs ns → IntsAre ys ms → ns.length = ms.length → Q (lexLt ns ms) s → PySem.W.KatLex prog w A b false Q (xs.zip ys) i s
  | _, _, _, _, i, .nil, .nil, _, h => PySem.W.kat_nil h
  | _, _, _, _, i, .nil, .cons _ _ _, hl, _ => by simp at hl
  | _, _, _, _, i, .cons _ _ _, .nil, hl, _ => by simp at hl
  | _, _, _, _, i, .cons (ns := ns) p t hx, .cons (ns := ms) q u hy, hl, h => by
    have hl2 : ns.length = ms.length := by simpa using hl
    rw [List.zip_cons_cons]
    refine PySem.W.kat_cons (wpAny_eqBool_int ?_)
    unfold lexLt at h
    by_cases e : p = q
    · rw [if_pos e] at h
      rw [e, beq_self_eq_true]
      exact PySem.W.kat_yes (lex_walk (i + 1) hx hy hl2 h)
    · rw [if_neg e] at h
      rw [show (p == q) = false from beq_eq_false_iff_ne.mpr e]
      exact PySem.W.kat_no (TS.oneLt_ints _ h)
/-- tuples of d ints -/
def Tups (h : Heap) (d : Nat) (vs : List Value) : Prop := ∀ v ∈ vs, ∃ ns, TS.TupInts h v ns ∧ ns.length = d
theorem heads_of {h : Heap} {d : Nat} (hd : 1 ≤ d) : ∀ {vs : List Value}, Tups h d vs → ∃ fs, PySem.W.KatTups h vs fs ∧ fs.length = vs.length ∧ ∀ f ∈ fs, ∃ n t, f = Value.int n t
  | [], _ => ⟨[], .nil, rfl, fun _ z => nomatch z⟩
  | v :: vs, x => by
    obtain ⟨fs, h1, h2, h3⟩ := heads_of hd (vs := vs) fun u q => x u (List.mem_cons_of_mem _ q)
    obtain ⟨ns, tv, hn⟩ := x v List.mem_cons_self
    obtain ⟨a, us, rfl, ⟨ob, g1, g2, m, g3⟩, hi⟩ := tv
    have h0 : 0 < us.size := by
      have := hi.length
      rw [Array.length_toList] at this
      omega
    obtain ⟨n, t, e⟩ := hi.all us[0] (by simp)
    refine ⟨us[0] :: fs, .cons g1 g2 g3 (by simp [h0]) h1, by rw [List.length_cons, List.length_cons, h2], fun f hf => ?_⟩
    rcases List.mem_cons.mp hf with z | z
    · exact ⟨n, t, z.trans e⟩
    · exact h3 f z
theorem tups_sortable {a : Addr} {h0 : Heap} {vs : List Value} {d : Nat} (hd : 1 ≤ d) (h2 : 2 ≤ vs.length) (x : Tups h0 d vs) (keep : ∀ b o, h0.get? b = some o → b ≠ a ∧ s.heap.get? b = some o) : SrtO.SortableO prog w A s a vs (ltT h0) := by
  intro h' hk
  have st : ∀ b o, h0.get? b = some o → o.cls = .type "tuple" → h'.get? b = some o := fun b o q _ => hk b o (keep b o q).1 (keep b o q).2
  have x' : Tups h' d vs := fun v hv => let ⟨ns, t, r⟩ := x v hv; ⟨ns, t.keeps st, r⟩
  obtain ⟨fs, g1, g2, g3⟩ := heads_of hd x'
  refine ⟨_, fun Q E hQ => PySem.W.kat_kind (T := Value.type "int") g1 (by omega) (fun f hf => ?_) rfl hQ, fun p q hp hq => ?_⟩
  · obtain ⟨n, t, rfl⟩ := g3 f hf
    exact PySem.W.Looks.of_pure rfl
  · obtain ⟨ns, tp, lp⟩ := x p.1 hp
    obtain ⟨ms, tq, lq⟩ := x q.1 hq
    have e : SrtO.lt2 (ltT h0) p q = lexLt ns ms := by
      show lexLt (TS.intsOf h0 p.1) (TS.intsOf h0 q.1) = _
      rw [tp.ints, tq.ints]
    obtain ⟨b1, xs, e1, ⟨o1, k1, k2, n1, k3⟩, i1⟩ := tp.keeps st
    obtain ⟨b2, ys, e2, ⟨o2, j1, j2, n2, j3⟩, i2⟩ := tq.keeps st
    rw [e1, e2]
    refine PySem.W.kat_lt k1 k3 j1 j3 ?_
    have l1 := i1.length
    have l2 := i2.length
    rw [Array.length_toList] at l1 l2
    rw [show decide (xs.size < ys.size) = false from decide_eq_false (by omega)]
    exact lex_walk 0 i1 i2 (by omega) ⟨rfl, e.symm⟩
end
/-- a rearrangement of what a list is mapped to comes of one of the list -/
theorem perm_lift {α β : Type} {f : α → β} {l : List β} {m : List β} (h : l.Perm m) : ∀ zs : List α, zs.map f = m → ∃ ys : List α, ys.Perm zs ∧ ys.map f = l := by
  induction h with
  | nil => exact fun zs e => ⟨zs, .refl _, e⟩
  | cons b _ ih =>
    intro zs e
    obtain ⟨z, zs, rfl, e1, e2⟩ := List.map_eq_cons_iff.mp e
    obtain ⟨ys, h1, h2⟩ := ih zs e2
    exact ⟨z :: ys, h1.cons z, by rw [List.map_cons, h2, e1]⟩
  | swap b c l =>
    intro zs e
    obtain ⟨z, zs, rfl, e1, e2⟩ := List.map_eq_cons_iff.mp e
    obtain ⟨z', zs, rfl, e3, e4⟩ := List.map_eq_cons_iff.mp e2
    exact ⟨z' :: z :: zs, .swap .., by rw [List.map_cons, List.map_cons, e1, e3, e4]⟩
  | trans _ _ ih1 ih2 =>
    intro zs e
    obtain ⟨ys, h1, h2⟩ := ih2 zs e
    obtain ⟨us, h3, h4⟩ := ih1 ys h2
    exact ⟨us, h3.trans h1, h4⟩
def unV : V → Value
  | .ref a => .ref a
  | _ => .none
/-- sorted(xs), tuples of d ints -/
def rSortL (K : PySem.W.Frag) (d : Nat) : List V → Hp → VK → Prop := fun vs H Q => ∃ (a : Addr) (zs : List (V × List Int)), vs = [V.ref a] ∧ SqL K H a (zs.map (·.1)) ∧ (∀ z ∈ zs, TupI K H z.1 z.2 ∧ z.2.length = d) ∧
  ∀ (ys : List (V × List Int)) (p : Addr), ys.Perm zs → ys.Pairwise (fun x y => lexLt y.2 x.2 = false) → H p = none → Q (.ref p) (upd H p (.lst (ys.map (·.1))))
section
variable {X : Cx}
theorem cr_sortL {d : Nat} (hd : 1 ≤ d) : CallR X (.builtin "sorted") (rSortL X.K d) := by
  intro pins s σ H vs us Q I r h
  obtain ⟨a, zs, rfl, hs, hz, q⟩ := h
  obtain ⟨its, rv, hl, hsz⟩ := I.list hs
  rw [Vals.ref1 r]
  obtain ⟨e1, e2⟩ := bkV_refs rv fun x m => by
    obtain ⟨z, hm, rfl⟩ := List.mem_map.mp m
    obtain ⟨⟨t, e, _⟩, _⟩ := hz z hm
    exact ⟨t, e⟩
  have tup : Tups s.heap d its := fun v hv => by
    obtain ⟨t, rfl⟩ := e2 v hv
    have hm : V.ref t ∈ zs.map (·.1) := by
      rw [e1]
      exact List.mem_map.mpr ⟨_, hv, rfl⟩
    obtain ⟨z, hm, ez⟩ := List.mem_map.mp hm
    obtain ⟨⟨t', e, g⟩, hn⟩ := hz z hm
    rw [ez] at e
    cases e
    exact ⟨z.2, tupI_raw I g, hn⟩
  refine SrtO.sorted_ord (swo_T s.heap) hl.isList (by rw [← rv.length]; exact hsz) (fun h2 h₁ a' _ hk => tups_sortable hd h2 tup hk) fun out h1 h2 => ?_
  obtain ⟨ep, he'⟩ := PyProof.Rows.sortedAll_at s.heap its out.toArray
  have h3 : ∀ u ∈ out, ∃ a, u = Value.ref a := fun u hu => e2 u (h2.perm.mem_iff.mp hu)
  have hp : (out.map bkV).Perm (zs.map (·.1)) := by
    rw [e1]
    exact h2.perm.map bkV
  obtain ⟨ys, hy1, hy2⟩ := perm_lift hp zs rfl
  have eo : out = ys.map fun y => unV y.1 := by
    have : out = (out.map bkV).map unV := by
      rw [List.map_map]
      have : ∀ u ∈ out, (unV ∘ bkV) u = id u := fun u hu => by
        obtain ⟨b, rfl⟩ := h3 u hu
        rfl
      rw [List.map_congr_left this, List.map_id]
    rw [this, ← hy2, List.map_map]
    rfl
  have pw : ys.Pairwise (fun x y => lexLt y.2 x.2 = false) := by
    have h1' : (ys.map fun y => unV y.1).Pairwise fun x y => ltT s.heap y x = false := by rw [← eo]; exact h1
    rw [List.pairwise_map] at h1'
    refine h1'.imp_of_mem fun {x y} hx hy g => ?_
    obtain ⟨⟨t, ex, gx⟩, _⟩ := hz x (hy1.mem_iff.mp hx)
    obtain ⟨⟨u, ey, gy⟩, _⟩ := hz y (hy1.mem_iff.mp hy)
    have i1 : TS.intsOf s.heap (unV x.1) = x.2 := by rw [ex]; exact (tupI_raw I gx).ints
    have i2 : TS.intsOf s.heap (unV y.1) = y.2 := by rw [ey]; exact (tupI_raw I gy).ints
    unfold ltT at g
    rw [i1, i2] at g
    exact g
  have hlen : (ys.map (·.1)).length ≤ sizeLine := by
    rw [List.length_map, hy1.length_eq]
    rw [List.length_map] at hsz
    exact hsz
  refine ⟨.ref _, upd H (s.heap.objs.size + 1) (.lst (ys.map (·.1))), I.laid (t' := s.toks) (fun _ _ => PyProof.Rows.sortedAll_old) (Nat.le_succ _) ⟨hlen, out, ep, ?_, he'⟩, rfl, q _ _ hy1 pw (I.hok.fresh (Nat.le_succ _))⟩
  rw [hy2]
  exact bkV_vals h3
theorem zip_fst {α β : Type} : ∀ {l : List α} {m : List β}, l.length = m.length → (l.zip m).map (·.1) = l
  | [], [], _ => rfl
  | [], _ :: _, h => by cases h
  | _ :: _, [], h => by cases h
  | a :: l, b :: m, h => by rw [List.zip_cons_cons, List.map_cons, zip_fst (by simpa using h)]
theorem zip_snd {α β : Type} : ∀ {l : List α} {m : List β}, l.length = m.length → (l.zip m).map (·.2) = m
  | [], [], _ => rfl
  | [], _ :: _, h => by cases h
  | _ :: _, [], h => by cases h
  | a :: l, b :: m, h => by rw [List.zip_cons_cons, List.map_cons, zip_snd (by simpa using h)]
theorem den_zip {K : PySem.W.Frag} {S : Addr → Prop} {H : Hp} : ∀ {xs : List V} {l : List (List Int)}, DenL K S H xs (l.map tupD) → ∀ z ∈ xs.zip l, TupI K H z.1 z.2 ∧ Den K S H z.1 (tupD z.2) ∧ z.2 ∈ l
  | _, [], .nil => fun z hz => by cases hz
  | _, n :: l, .cons h t => fun z hz => by
    rcases List.mem_cons.mp hz with rfl | hz
    · obtain ⟨a, ys, rfl, h1, h2⟩ := Den.tup_ (l := n.map .int) h
      rw [h2.ints] at h1
      exact ⟨⟨a, rfl, h1⟩, h, List.mem_cons_self⟩
    · obtain ⟨h1, h2, h3⟩ := den_zip t z hz
      exact ⟨h1, h2, List.mem_cons_of_mem _ h3⟩
theorem den_unzip {K : PySem.W.Frag} {S : Addr → Prop} {H : Hp} : ∀ {ys : List (V × List Int)}, (∀ z ∈ ys, Den K S H z.1 (tupD z.2)) → DenL K S H (ys.map (·.1)) ((ys.map (·.2)).map tupD)
  | [], _ => .nil
  | y :: ys, h => .cons (h y List.mem_cons_self) (den_unzip fun z hz => h z (List.mem_cons_of_mem _ hz))
theorem cb_sortL {d : Nat} {l l' : List (List Int)} (hd : 1 ≤ d) (hl : ∀ ns ∈ l, ns.length = d) (hp : l'.Perm l) (hs : l'.Pairwise fun n m => lexLt m n = false) : Cb X (.builtin "sorted") [.lst (l.map tupD)] (.lst (l'.map tupD)) := ⟨_, cr_sortL (d := d) hd, fun S H vs hdm h Q q => by
  obtain ⟨v, rfl, h1⟩ := h.one
  obtain ⟨a, xs, rfl, h2, h3⟩ := h1.lst_
  have hlen : xs.length = l.length := by rw [h3.length, List.length_map]
  refine ⟨a, xs.zip l, rfl, by rw [zip_fst hlen]; exact h2, fun z hz => ?_, fun ys p hy hpw hn => ?_⟩
  · obtain ⟨g1, _, g3⟩ := den_zip h3 z hz
    exact ⟨g1, hl _ g3⟩
  · have hd2 := den_unzip (K := X.K) (S := S) (H := H) (ys := ys) fun z hz => (den_zip h3 z (hy.mem_iff.mp hz)).2.1
    have hpp : (ys.map (·.2)).Perm l' := by
      have := hy.map (·.2)
      rw [zip_snd hlen] at this
      exact this.trans hp.symm
    have e : ys.map (·.2) = l' := List.Perm.eq_of_pairwise (le := fun n m => lexLt m n = false) (fun x y _ _ h1 h2 => lex_anti _ _ h2 h1) (List.pairwise_map.mpr hpw) hs hpp
    rw [e] at hd2
    exact q _ _ (same_new hn) (Den.newL hdm hn hd2)⟩
end
end Spr

set_option Elab.async false
set_option linter.all false
set_option maxRecDepth 100000
set_option maxHeartbeats 4000000
/-! word = '..' / try: a() / except xe as n: suite that sets word / rest. -/
namespace Spr
open PySem PySem.Spec PyProof.Rows L2
theorem said_givesW {X : Cx} {Ng : List Str} {x a xe n wx q s0 : Str} {sg : Scope} {g CS : Addr} {cdg : Value} {p1 p2 p3 p4 p5 p6 p7 p8 p9 : Pos} {k0 : Nat} {b0 : Stmt} {suite rest : List Stmt} {F : Fd} (i iw : Nat)
    (hge : sg.names.lookup xe = some .globalImplicit) (hme : X.mg xe = some (.ref CS)) (hde : (xe == ("__debug__" : Str)) = false) (hNg : Ng.Nodup) (hi : Ng[i]? = some n) (hln : sg.names.lookup n = some .local) (hiw : Ng[iw]? = some wx) (hlw : sg.names.lookup wx = some .local) (hw0 : iw ≠ 0) (hwi : i ≠ iw)
    (hcat : ∀ e rd, F (.error e) rd → PySem.W.exmOne X.K (.ref e.C) (.ref CS) = some true) (hno : ∀ rd, ¬ F (.ok ()) rd)
    (hsu : ∀ (s : Shared) (H H2 : Hp) (S : Addr → Prop) (e : Er) (rd : D) (b : Addr) (oe : Obj) (dx : Option Addr) (pn : List (Addr × Obj)), F (.error e) rd → Zc (.ref e.C) dx oe → (e.fs = [] → dx = none) → (∃ vs, oe.data = .fields vs) →
      Bl ((Sx X Ng x sg g cdg s H).suite b ((b, oe) :: pn)) ⟨S, H2, [], []⟩ (gmS Ng.length i b) (b0 :: suite) { nx := fun Γ' => Γ'[iw]? = some (some (.im rd)), rt := fun _ _ => False })
    (hre : ∀ (s : Shared) (H : Hp) (c : Cn) (Γ' : Gm) (rd : D), Γ'[iw]? = some (some (.im rd)) → Bl (Sx X Ng x sg g cdg s H) c Γ' rest { nx := fun _ => False, rt := fun en _ => toD en = rd })
    (hsw2 : ∀ s H, swapsWith (.Call (.Name a p1) [] [] p2) none p3.line (Sx X Ng x sg g cdg s H).env = pure false := by intro _ _; rfl)
    (hsw1 : ∀ s H, swapsWith (.Constant (.str s0) k0 p8) (some (.Name wx p7)) p9.line (Sx X Ng x sg g cdg s H).env = pure false := by intro _ _; rfl) :
    LamX.GivesTo X Ng x sg g cdg (.Assign [.Name wx p7] (.Constant (.str s0) k0 p8) p9 :: .Try [.Expr (.Call (.Name a p1) [] [] p2) p3] [.ExceptHandler (some (.Name xe p4)) (some n) (b0 :: suite) p5] [] [] p6 :: rest) a q (TTe X.K F) := by
  intro f c' s H Q tl act hc h
  obtain ⟨r, rd, E', Q', hF, htl, hE, hQ⟩ := h
  have hs0 : ((L2.start Ng [V.ref f]).set iw (some (V.str s0)))[0]? = some (some (V.ref f)) := by
    rw [List.getElem?_set_ne hw0]
    unfold L2.start
    rfl
  have fin2 : ∀ (S S1 : Addr → Prop) (H0 H1 : Hp) (D : Ends), D.rt = Q → (∀ v H2, Same H0 H2 → Den X.K S H2 v rd → Q v H2) → Fin X.K ⟨S, H0, [], []⟩ S1 H1 { nx := fun _ => False, rt := fun en _ => toD en = rd } D := fun S S1 H0 H1 D e hq => ⟨fun _ _ _ _ _ _ z => z.elim, fun v σ' H' S' Γ' en _ g rs hn => by
    rw [e]
    exact hq v H' (fun b o z => g.chg b o z (by rintro (⟨p, hp, _⟩ | ⟨p, hp, _⟩) <;> cases hp) (fun nt => nt.1 rfl)) (hn ▸ rs.den g), fun _ _ _ _ _ _ z => z.elim, fun _ _ _ _ _ _ z => z.elim⟩
  have R : PSs (Sx X Ng x sg g cdg s H) rest (fun D σ H2 => ∃ (c : Cn) (Γ' : Gm), Γ'[iw]? = some (some (.im rd)) ∧ tB X.K c Γ' { nx := fun _ => False, rt := fun en _ => toD en = rd } D σ H2) :=
    ⟨fun pins s' σ H' D I ⟨c, Γ', hw, z⟩ => (hre s H c Γ' rd hw).run pins s' σ H' D I z⟩
  refine ⟨_, pss_cons (ps_set hNg hiw (.inl hlw) (pe_str (x := s0)) (hsw1 s H) (.inr hlw)) (pss_cons (ps_try_as (X := Sx X Ng x sg g cdg s H) (i := i) (c := .ref CS) (tb := fun W D σ H2 => ∃ (Ech : XK) (Q' : VK), (∀ cls d σ' H', Ech cls d H' → W cls d σ' H') ∧ σ[0]? = some (some (.ref f)) ∧ H2 c' = some (LamX.CodeO c' q) ∧ tl Ech H2 Q' ∧ ∀ v H', Q' v H' → D.nx σ H')
      (ts := fun b cls d D σ H2 => ∃ (e : Er) (S : Addr → Prop), cls = .ref e.C ∧ (e.fs = [] → d = none) ∧ F (.error e) rd ∧ (σ.length = Ng.length → tB X.K ⟨S, H2, [], []⟩ (gmS Ng.length i b) { nx := fun Γ' => Γ'[iw]? = some (some (.im rd)), rt := fun _ _ => False } D σ H2))
      rfl rfl hNg hi hln ⟨hge, hde, .inl hme⟩ LamX.takes0 (fun W pn xe' tk _ => pss_one ?_) (fun b oe cls d pn hz hf => ⟨fun pins s' σ H' D I ⟨e, S, e1, e2, e3, q⟩ => ?_⟩)) R), ?_⟩
  · refine ⟨fun pins s' σ H' D I h' => ?_⟩
    obtain ⟨Ech, Q', hW, h1, h2, h3, h4⟩ := h'
    have hp := act W pn xe' Ech p1 p2 tk hW
    exact (ps_expr (pos := p3) (PE.mono hp) (hsw2 s H)).run pins s' σ H' D I ⟨Q', ⟨h1, h2, h3⟩, h4⟩
  · subst e1
    exact (hsu s H H' S e rd b oe d pn e3 hz e2 hf).run pins s' σ H' D I (q I.len)
  · show ∃ (Ech : XK) (Q' : VK), _
    refine ⟨E', Q', fun cls d σ' H' z => ?_, hs0, hc, htl, fun v H' z => ?_⟩
    · obtain ⟨e, S, er, ea, hd, hq⟩ := hE cls d H' z
      have ec := ea.1
      subst er
      rw [ec]
      refine ⟨true, hcat e rd hF, fun _ b hb => ⟨e, S, rfl, fun hfs => ?_, hF, fun hl => ?_⟩, fun z => by cases z⟩
      · rcases ea.2 with ⟨_, z⟩ | ⟨z, _⟩
        · exact z
        · exact absurd hfs z
      · refine ⟨S, gd_any hl ?_ (Same.refl H') hd, ⟨fun σ2 H2 S2 Γ2 _ g hw => ?_, fun _ _ _ _ _ _ _ _ _ z => z.elim, fun _ _ _ _ _ _ z => z.elim, fun _ _ _ _ _ _ z => z.elim⟩⟩
        · rw [List.getElem?_set_self]
          have hlt := (List.getElem?_eq_some_iff.mp hi).1
          rw [List.length_set] at hl
          rw [hl]
          exact hlt
        · refine ⟨⟨S, H', [], []⟩, Γ2.set i none, by rw [List.getElem?_set_ne hwi]; exact hw, S2, g.unset (fun p hp => nomatch hp), fin2 S S2 H' H2 _ rfl hq⟩
    · obtain ⟨S, er, hd, hq⟩ := hQ v H' z
      subst er
      exact absurd hF (hno rd)
end Spr

set_option Elab.async false
set_option linter.all false
set_option maxRecDepth 100000
set_option maxHeartbeats 4000000
/-! A dict of one's own whose keys are tuples of ints: {}, k in d, d[k], d[k] = v (a new key); tuples that are laid plainly (what such keys have to be). -/
namespace Spr
open PySem PySem.Spec PyProof.Rows L2
def valD (kvs : List (List Int × D)) (k : List Int) : Option D := (kvs.find? fun z => decide (z.1 = k)).map (·.2)
theorem inl_inj : ∀ {a b : List Int}, a.map (Sum.inl : Int → L2.Key) = b.map Sum.inl → a = b
  | [], [], _ => rfl
  | [], _ :: _, h => by cases h
  | _ :: _, [], h => by cases h
  | x :: a, y :: b, h => by
    rw [List.map_cons, List.map_cons] at h
    injection h with h1 h2
    injection h1 with h1
    rw [h1, inl_inj h2]
section
variable {K : PySem.W.Frag} {c : Cn} {S : Addr → Prop} {σ : L2.St} {H H' : Hp} {Γ : Gm}
theorem kv_get {k : List Int} : ∀ {kvs' : List (List L2.Key × V)} {kvs : List (List Int × D)}, KvD K S H kvs' kvs → (valD kvs k = none ∧ valV kvs' (k.map Sum.inl) = none) ∨ ∃ d v, valD kvs k = some d ∧ valV kvs' (k.map Sum.inl) = some v ∧ Den K S H v d
  | [], [], _ => .inl ⟨rfl, rfl⟩
  | [], _ :: _, h => by cases h.1
  | _ :: _, [], h => by cases h.1
  | p :: ps, z :: zs, ⟨h1, h2⟩ => by
    rw [List.map_cons, List.map_cons] at h1
    injection h1 with e1 e2
    rw [List.map_cons, List.map_cons] at h2
    cases h2 with
    | cons hv ht =>
    by_cases e : z.1 = k
    · right
      refine ⟨z.2, p.2, ?_, valV_pos (by rw [e1, e]), hv⟩
      unfold valD
      rw [List.find?_cons_of_pos (by simpa using e)]
      rfl
    · have e3 : ¬ p.1 = k.map Sum.inl := fun q => e (inl_inj (e1.symm.trans q))
      have e4 : valD (z :: zs) k = valD zs k := by
        unfold valD
        rw [List.find?_cons_of_neg (by simpa using e)]
      rw [e4, valV_neg e3]
      exact kv_get ⟨e2, ht⟩
theorem kv_snoc {kvs' : List (List L2.Key × V)} {kvs : List (List Int × D)} {k : List Int} {v : V} {d : D} (h : KvD K S H kvs' kvs) (hv : Den K S H v d) : KvD K S H (kvs' ++ [(k.map Sum.inl, v)]) (kvs ++ [(k, d)]) := by
  refine ⟨?_, ?_⟩
  · rw [List.map_append, List.map_append, h.1]
    rfl
  · rw [List.map_append, List.map_append]
    exact h.2.append (.cons hv .nil)
theorem tabs_updD {T : List (Addr × Str)} {p : Addr} {xs ys : List (List L2.Key × V)} (t : LamX.Tabs T H) (h : H p = some (.dT xs)) : LamX.Tabs T (upd H p (.dT ys)) := fun q hq => by
  obtain ⟨ps, h1, h2, h3⟩ := t q hq
  refine ⟨ps, ?_, h2, fun pos cv hc => ?_⟩
  · rw [upd_ne (fun z => by rw [z, h] at h1; cases h1)]
    exact h1
  · obtain ⟨a, h4, h5⟩ := h3 pos cv hc
    refine ⟨a, h4, ?_⟩
    rw [upd_ne (fun z => by rw [z, h] at h5; unfold LamX.CodeO at h5; cases h5)]
    exact h5
theorem Gd.od (t : Gd K c S σ H Γ) {i : Nat} {a : Addr} {kvs : List (List Int × D)} (h : Γ[i]? = some (some (.od a kvs))) : ∃ ks, σ[i]? = some (some (.ref a)) ∧ S a ∧ H a = some (.dT ks) ∧ KvD K S H ks kvs := by
  obtain ⟨v, h1, rfl, h2, ks, h3, h4⟩ := t.at_ i _ h
  exact ⟨ks, h1, h2, h3, h4⟩
/-- a slot's own dict is changed -/
theorem Gd.changeD (t : Gd K c S σ H Γ) {i : Nat} {a : Addr} {kvs kvs2 : List (List Int × D)} {ks ks2 : List (List L2.Key × V)} (hi : Γ[i]? = some (some (.od a kvs))) (n0 : ¬ c.S0 a) (hH : H a = some (.dT ks)) (hu : ∀ j kvs', Γ[j]? = some (some (.od a kvs')) → j = i) (hy : KvD K S H ks2 kvs2) : Gd K c S σ (upd H a (.dT ks2)) (Γ.set i (some (.od a kvs2))) := by
  obtain ⟨ks0, hs, hS, _, _⟩ := t.od hi
  have r : Rl S H S (upd H a (.dT ks2)) := rl_upd hS
  have key : ∀ (j : Nat) (m : List D), (Γ.set i (some (.od a kvs2)))[j]? = some (some (.ow m)) → Γ[j]? = some (some (.ow m)) := fun j m h => by
    by_cases e : i = j
    · subst e
      rw [List.getElem?_set_self (List.getElem?_eq_some_iff.mp hi).1] at h
      cases h
    · rwa [List.getElem?_set_ne e] at h
  refine ⟨by simpa using t.len, fun j e h => ?_, fun j k b m m' h1 h2 h3 h4 => t.sep j k b m m' (key j m h1) (key k m' h2) h3 h4, fun j m b h1 h2 h3 => t.loc j m b (key j m h1) h2 h3, t.sub, t.new, fun b o h n nt => ?_, fun b h => ?_, fun b h nt => ?_, t.fix, tabs_updD t.tab hH, t.tbS⟩
  · by_cases hj : i = j
    · subst hj
      rw [List.getElem?_set_self (List.getElem?_eq_some_iff.mp hi).1] at h
      cases h
      exact ⟨.ref a, hs, rfl, hS, ks2, upd_same, hy.mono r⟩
    · rw [List.getElem?_set_ne hj] at h
      obtain ⟨v, h1, h2⟩ := t.at_ j e h
      refine ⟨v, h1, ?_⟩
      cases e with
      | im d => exact Den.mono h2 r
      | ow m =>
        obtain ⟨b, zs, rfl, h3, h4, h5⟩ := h2
        exact ⟨b, zs, rfl, h3, by rw [upd_ne (fun z => by rw [z, hH] at h4; cases h4)]; exact h4, h5.mono r⟩
      | od b m =>
        obtain ⟨rfl, h3, zs, h4, h5⟩ := h2
        have nb : b ≠ a := fun z => by
          subst z
          exact hj (hu j m h).symm
        exact ⟨rfl, h3, zs, by rw [upd_ne nb]; exact h4, h5.mono r⟩
  · by_cases hb : b = a
    · subst hb
      rcases t.new b hS with z | z | z
      · exact absurd z n0
      · rw [h] at z; cases z
      · exact absurd z nt
    · rw [upd_ne hb]
      exact t.chg b o h n nt
  · by_cases hb : b = a
    · rw [hb, upd_same]; simp
    · rw [upd_ne hb]
      exact t.dom b h
  · by_cases hb : b = a
    · rw [hb, upd_same]; simp
    · rw [upd_ne hb]
      exact t.dm0 b h nt
/-- a slot gets a new dict of its own -/
theorem Gd.setOd (t : Gd K c S σ H Γ) {i : Nat} {p : Addr} (h : H p = none) (e : Same H H') (hp : H' p = some (.dT [])) (hf : ∀ q ∈ c.fx, q.1 ≠ i) : Gd K c (more S p) (σ.set i (some (.ref p))) H' (Γ.set i (some (.od p []))) := by
  have g := t.plus h e (by rw [hp]; simp)
  have key : ∀ (j : Nat) (m : List D), (Γ.set i (some (.od p [])))[j]? = some (some (.ow m)) → i ≠ j ∧ Γ[j]? = some (some (.ow m)) := fun j m h => by
    have n : i ≠ j := fun z => by
      subst z
      rw [List.getElem?_set_self (by have q2 := (List.getElem?_eq_some_iff.mp h).1; simpa using q2)] at h
      cases h
    exact ⟨n, by rwa [List.getElem?_set_ne n] at h⟩
  refine ⟨by simpa using g.len, fun j en q => ?_, fun j k a m m' h1 h2 h3 h4 => ?_, fun j m a h1 h2 h3 => ?_, g.sub, g.new, g.chg, g.dom, g.dm0, fun q hq => ?_, g.tab, g.tbS⟩
  · by_cases hj : i = j
    · subst hj
      have hl2 : i < Γ.length := by
        have q2 := (List.getElem?_eq_some_iff.mp q).1
        simpa using q2
      rw [List.getElem?_set_self hl2] at q
      cases q
      exact ⟨.ref p, List.getElem?_set_self (by rw [t.len]; exact hl2), rfl, .inr rfl, [], hp, rfl, .nil⟩
    · rw [List.getElem?_set_ne hj] at q ⊢
      exact g.at_ j en q
  · obtain ⟨n1, h1⟩ := key j m h1
    obtain ⟨n2, h2⟩ := key k m' h2
    rw [List.getElem?_set_ne n1] at h3
    rw [List.getElem?_set_ne n2] at h4
    exact g.sep j k a m m' h1 h2 h3 h4
  · obtain ⟨n1, h1⟩ := key j m h1
    rw [List.getElem?_set_ne n1] at h2
    exact g.loc j m a h1 h2 h3
  · rw [List.getElem?_set_ne (fun z => hf q hq z.symm)]
    exact g.fix q hq
end
section
variable {X : Cx} {c : Cn} {Γ Γ1 : Gm} {a b e : Expr} {es : List Expr} {pos p apos cpos : Pos} {da db dc d : D} {Po : Post} {x : Str} {k j : Nat}
/-- tuple(a list): laid plainly -/
theorem cb_tupleTP {l : List D} : Cb X (.type "tuple") [.lst l] (.pt l) := ⟨_, call_tuple_of, fun S H vs hd h Q q => by
  obtain ⟨v, rfl, h1⟩ := h.one
  obtain ⟨a, xs, rfl, h2, h3⟩ := h1.lst_
  refine ⟨a, xs, rfl, .inl ⟨h2, fun p hn => q _ _ (same_new hn) ?_⟩⟩
  exact .pt upd_same (fun z => hd p z hn) (h3.ext (same_new hn))⟩
theorem p_upP {l : List D} (h : Pe X c Γ e (.pt l)) : Pe X c Γ e (.tup l) := PE.wk h fun σ H Q ⟨S, t, q⟩ => ⟨S, t, fun v H1 e1 d1 => q v H1 e1 d1.upP⟩
/-- x = {} -/
theorem s_dnewT (i : Nat) {pos' p1 : Pos} (hr : ∀ a, ¬ c.S0 a → Po.nx (Γ.set i (some (.od a [])))) (hN : X.N.Nodup) (hi : X.N[i]? = some x := by rfl) (hx : Loc X.env.scope x := by first | exact Or.inl rfl | exact Or.inr rfl) (hf : fxB c.fx i = true := by rfl)
    (hs : swapsWith (.Dict [] [] p1) (some (.Name x pos')) pos.line X.env = pure false := by rfl) (hfn : X.fn x = true ∨ X.env.scope.names.lookup x = some .local := by first | exact .inl rfl | exact .inr rfl) : Sm X c Γ (.Assign [.Name x pos'] (.Dict [] [] p1) pos) Po :=
  PS.wk (ps_set hN hi hx pe_dnewT hs hfn) fun D σ H ⟨S, t, q⟩ => fun p hp => q.nx _ _ _ _ (rl_more hp (same_new hp)) (t.setOd hp (same_new hp) upd_same (fxB_ok hf)) (hr p fun z => t.dom p (t.sub p z) hp)
theorem key_ints {ns : List Int} : (ns.map (Sum.inl : Int → L2.Key)).map kV = ns.map V.int := by
  rw [List.map_map]
  rfl
/-- e in d -/
theorem t_inD (k : Nat) {ns : List Int} {ad : Addr} {kvs : List (List Int × D)} {p1 : Pos} (hk : Γ[k]? = some (some (.od ad kvs))) (he : Pe X c Γ e (.pt (ns.map .int))) (hu : X.A.units + 1 < cLine) (hN : X.N[k]? = some x := by rfl) (hv : Vis X.env.scope x := by first | exact Or.inl rfl | exact Or.inr (Or.inl rfl) | exact Or.inr (Or.inr rfl))
    (hd : (x == ("__debug__" : Str)) = false := by decide) (hcd : (x == ("__classdict__" : Str)) = false := by decide) (hm : behindInMarks .In (.Name x p1) = false := by first | exact nomark _ | rfl) : Pt X c Γ (.Compare e [.In] [.Name x p1] pos) (valD kvs ns).isSome :=
  PT.wk (pt_cmp (pc_din hu he (pe_var hN hv hd hcd)) hm) fun σ H Q ⟨S, t, q⟩ => ⟨S, t, fun v H1 e1 d1 => by
    obtain ⟨b, xs, rfl, h1, _, h2⟩ := d1.pt_
    have hx := h2.ints
    subst hx
    obtain ⟨ks, g1, g2, g3, g4⟩ := (t.ext e1).od hk
    refine ⟨.ref ad, g1, ad, valV ks (ns.map Sum.inl), rfl, DGet.t g3 (by rw [key_ints]; exact h1), (valV ks (ns.map Sum.inl)).isSome, rfl, ?_⟩
    have e : (valV ks (ns.map Sum.inl)).isSome = (valD kvs ns).isSome := by
      rcases kv_get (k := ns) g4 with ⟨z1, z2⟩ | ⟨d, v, z1, z2, _⟩
      · rw [z1, z2]; rfl
      · rw [z1, z2]; rfl
    rw [e]
    exact q H1 e1⟩
/-- d[e] -/
theorem p_getD (k : Nat) {ns : List Int} {ad : Addr} {kvs : List (List Int × D)} {p1 : Pos} (hk : Γ[k]? = some (some (.od ad kvs))) (he : Pe X c Γ e (.pt (ns.map .int))) (hg : valD kvs ns = some d) (hu : X.A.units + 1 < cLine) (hN : X.N[k]? = some x := by rfl) (hv : Vis X.env.scope x := by first | exact Or.inl rfl | exact Or.inr (Or.inl rfl) | exact Or.inr (Or.inr rfl))
    (hd : (x == ("__debug__" : Str)) = false := by decide) (hcd : (x == ("__classdict__" : Str)) = false := by decide) (hs : NoSl e := by exact fun _ _ => rfl) : Pe X c Γ (.Subscript (.Name x p1) e pos) d :=
  PE.wk (pe_dget hu (pe_var hN hv hd hcd) he hs) fun σ H Q ⟨S, t, q⟩ => by
    obtain ⟨ks, g1, g2, g3, g4⟩ := t.od hk
    refine ⟨.ref ad, g1, S, t, fun v H1 e1 d1 => ?_⟩
    obtain ⟨b, xs, rfl, h1, _, h2⟩ := d1.pt_
    have hx := h2.ints
    subst hx
    obtain ⟨ks', g1, g2, g3, g4⟩ := (t.ext e1).od hk
    rcases kv_get (k := ns) g4 with ⟨z1, z2⟩ | ⟨d', u, z1, z2, z3⟩
    · rw [hg] at z1; cases z1
    · rw [hg] at z1
      cases z1
      refine ⟨ad, u, rfl, ?_, q u H1 e1 z3⟩
      have dg := DGet.t (k := ns.map Sum.inl) g3 (by rw [key_ints]; exact h1)
      rw [z2] at dg
      exact dg
/-- d[e] = e2, a new key -/
theorem s_putD (k : Nat) {ns : List Int} {ad : Addr} {kvs : List (List Int × D)} {value : Expr} {p1 pos' : Pos} (hk : Γ[k]? = some (some (.od ad kvs))) (n0 : ¬ c.S0 ad) (hun : ∀ j kvs', Γ[j]? = some (some (.od ad kvs')) → j = k) (he : Pe X c Γ e (.pt (ns.map .int))) (hv' : Pe X c Γ value d) (hg : valD kvs ns = none) (hz : kvs.length < 16000000) (hr : Po.nx (Γ.set k (some (.od ad (kvs ++ [(ns, d)]))))) (hu : X.A.units + 1 < cLine)
    (hN : X.N[k]? = some x := by rfl) (hv : Vis X.env.scope x := by first | exact Or.inl rfl | exact Or.inr (Or.inl rfl) | exact Or.inr (Or.inr rfl)) (hd : (x == ("__debug__" : Str)) = false := by decide) (hcd : (x == ("__classdict__" : Str)) = false := by decide)
    (hs : swapsWith value (some (.Subscript (.Name x p1) e pos')) pos.line X.env = pure false := by rfl) : Sm X c Γ (.Assign [.Subscript (.Name x p1) e pos'] value pos) Po :=
  PS.wk (ps_dput hu (pe_var hN hv hd hcd) he hv' hs) fun D σ H ⟨S, t, q⟩ => ⟨S, t, fun v H1 e1 d1 => by
    obtain ⟨ks, g1, g2, g3, g4⟩ := (t.ext e1).od hk
    refine ⟨.ref ad, g1, S, t.ext e1, fun u H2 e2 d2 => ?_⟩
    obtain ⟨b, xs, rfl, h1, _, h2⟩ := d2.pt_
    have hx := h2.ints
    subst hx
    have t2 := t.ext (e1.trans e2)
    obtain ⟨ks', g1, g2, g3, g4⟩ := t2.od hk
    have hn : valV ks' (ns.map Sum.inl) = none := by
      rcases kv_get (k := ns) g4 with ⟨_, z2⟩ | ⟨d', u, z1, _, _⟩
      · exact z2
      · rw [hg] at z1; cases z1
    have hl : ks'.length = kvs.length := by
      have := congrArg List.length g4.1
      simpa using this
    have sl := sizeLine_eq
    refine ⟨ad, _, rfl, DPut.t g3 (by rw [key_ints]; exact h1) (by omega), ?_⟩
    rw [putK_new v hn]
    exact q.nx σ _ S _ ((Rl.of (e1.trans e2)).trans (rl_upd g2)) (t2.changeD hk n0 g3 hun (kv_snoc g4 (d1.ext e2))) hr⟩
end
end Spr

set_option Elab.async false
set_option linter.all false
set_option maxRecDepth 100000
set_option maxHeartbeats 4000000
/-! sorted of tuples of ints of any lengths: none of them empty, or the first one is. -/
namespace Spr
open PySem PySem.Spec PyProof.Rows L2
theorem lex_HT : ∀ a b : List Int, HT.lexLt a b = lexLt a b
  | [], [] => rfl
  | [], _ :: _ => rfl
  | _ :: _, [] => rfl
  | a :: l, b :: m => by
    rw [HT.lexLt_cons, lex_HT l m]
    rfl
/-- the first item of a tuple -/
def fstO (h : Heap) : Value → Option Value
  | .ref a => match h.get? a with
    | some o => match o.data with
      | .seq xs _ => xs[0]?
      | _ => none
    | none => none
  | _ => none
section
variable {prog : Program} {w : World} {A : Around} {E : Value → Shared → Prop} {s : Shared}
theorem lex_walkV {b : Bool} {Q : Bool → Shared → Prop} {fin : Bool} : ∀ {xs ys : List Value} {ns ms : List Int} (i : Nat), IntsAre xs ns → IntsAre ys ms → fin = decide (ns.length < ms.length) → Q (lexLt ns ms) s → PySem.W.KatLex prog w A b fin Q (xs.zip ys) i s
  | _, _, _, _, i, .nil, .nil, hf, h => by
    subst hf
    exact PySem.W.kat_nil h
  | _, _, _, _, i, .nil, .cons _ _ _, hf, h => by
    subst hf
    rw [List.zip_nil_left]
    refine PySem.W.kat_nil ?_
    rw [decide_eq_true (by simp)]
    exact h
  | _, _, _, _, i, .cons _ _ _, .nil, hf, h => by
    subst hf
    rw [List.zip_nil_right]
    exact PySem.W.kat_nil h
  | _, _, _, _, i, .cons (ns := ns) p t hx, .cons (ns := ms) q u hy, hf, h => by
    have hf2 : fin = decide (ns.length < ms.length) := by
      rw [hf]
      exact decide_eq_decide.mpr (by simp)
    rw [List.zip_cons_cons]
    refine PySem.W.kat_cons (wpAny_eqBool_int ?_)
    unfold lexLt at h
    by_cases e : p = q
    · rw [if_pos e] at h
      rw [e, beq_self_eq_true]
      exact PySem.W.kat_yes (lex_walkV (i + 1) hx hy hf2 h)
    · rw [if_neg e] at h
      rw [show (p == q) = false from beq_eq_false_iff_ne.mpr e]
      exact PySem.W.kat_no (TS.oneLt_ints _ h)
def TupsV (h : Heap) (vs : List Value) : Prop := ∀ v ∈ vs, ∃ ns, TS.TupInts h v ns
def TupsN (h : Heap) (vs : List Value) : Prop := ∀ v ∈ vs, ∃ ns, TS.TupInts h v ns ∧ ns ≠ []
theorem heads_ofV {h : Heap} : ∀ {vs : List Value}, TupsN h vs → ∃ fs, PySem.W.KatTups h vs fs ∧ fs.length = vs.length ∧ ∀ f ∈ fs, ∃ n t, f = Value.int n t
  | [], _ => ⟨[], .nil, rfl, fun _ z => nomatch z⟩
  | v :: vs, x => by
    obtain ⟨fs, h1, h2, h3⟩ := heads_ofV (vs := vs) fun u q => x u (List.mem_cons_of_mem _ q)
    obtain ⟨ns, tv, hn⟩ := x v List.mem_cons_self
    obtain ⟨a, us, rfl, ⟨ob, g1, g2, m, g3⟩, hi⟩ := tv
    have h0 : 0 < us.size := by
      have q1 := hi.length
      have q2 := List.length_pos_iff.mpr hn
      rw [Array.length_toList] at q1
      omega
    obtain ⟨n, t, e⟩ := hi.all us[0] (by simp)
    refine ⟨us[0] :: fs, .cons g1 g2 g3 (by simp [h0]) h1, by rw [List.length_cons, List.length_cons, h2], fun f hf => ?_⟩
    rcases List.mem_cons.mp hf with z | z
    · exact ⟨n, t, z.trans e⟩
    · exact h3 f z
theorem sortableN {a : Addr} {h0 : Heap} {vs : List Value} (h2 : 2 ≤ vs.length) (x : TupsN h0 vs) (keep : ∀ b o, h0.get? b = some o → b ≠ a ∧ s.heap.get? b = some o) : SrtO.SortableO prog w A s a vs (ltT h0) := by
  intro h' hk
  have st : ∀ b o, h0.get? b = some o → o.cls = .type "tuple" → h'.get? b = some o := fun b o q _ => hk b o (keep b o q).1 (keep b o q).2
  have x' : TupsN h' vs := fun v hv => let ⟨ns, t, r⟩ := x v hv; ⟨ns, t.keeps st, r⟩
  obtain ⟨fs, g1, g2, g3⟩ := heads_ofV x'
  refine ⟨_, fun Q E hQ => PySem.W.kat_kind (T := Value.type "int") g1 (by omega) (fun f hf => ?_) rfl hQ, fun p q hp hq => ?_⟩
  · obtain ⟨n, t, rfl⟩ := g3 f hf
    exact PySem.W.Looks.of_pure rfl
  · obtain ⟨ns, tp, _⟩ := x p.1 hp
    obtain ⟨ms, tq, _⟩ := x q.1 hq
    have e : SrtO.lt2 (ltT h0) p q = lexLt ns ms := by
      show lexLt (TS.intsOf h0 p.1) (TS.intsOf h0 q.1) = _
      rw [tp.ints, tq.ints]
    obtain ⟨b1, xs, e1, ⟨o1, k1, k2, n1, k3⟩, i1⟩ := tp.keeps st
    obtain ⟨b2, ys, e2, ⟨o2, j1, j2, n2, j3⟩, i2⟩ := tq.keeps st
    rw [e1, e2]
    refine PySem.W.kat_lt k1 k3 j1 j3 ?_
    have l1 := i1.length
    have l2 := i2.length
    rw [Array.length_toList] at l1 l2
    exact lex_walkV 0 i1 i2 (decide_eq_decide.mpr (by omega)) ⟨rfl, e.symm⟩
theorem firsts_walk : ∀ (vs : List Value) {Q : List (Option Value) → Shared → Prop}, TupsV s.heap vs → Q (vs.map (fstO s.heap)) s → wpAny (model prog w) A (vs.mapM firstOfTuple') Q E s
  | [], _, _, h => by rw [List.mapM_nil]; exact wpAny_pure h
  | v :: vs, Q, x, h => by
    obtain ⟨ns, a, us, rfl, ⟨ob, g1, g2, m, g3⟩, hi⟩ := x v List.mem_cons_self
    rw [List.mapM_cons]
    refine wpAny_bind ?_
    rw [PySem.W.kas_first_eq]
    refine wpAny_bind (PySem.W.Looks.here (show PySem.W.Looks (model prog w) s.heap (typeOf (.ref a)) ob.cls from (PySem.W.Looks.ld g1).andThen .now) ?_)
    rw [g2, if_neg (by first | decide | simp)]
    refine wpAny_bind (PyProof.Rows.listItems_at g1 g3 (wpAny_pure ?_))
    have e : fstO s.heap (.ref a) = us[0]? := by
      unfold fstO
      simp only [g1, g3]
    rw [List.map_cons, e] at h
    exact wpAny_bind (firsts_walk vs (Q := fun bs s' => wpAny (model prog w) A (pure (us[0]? :: bs)) Q E s') (fun u q => x u (List.mem_cons_of_mem _ q)) (wpAny_pure h))
theorem sortableE {a : Addr} {h0 : Heap} {v0 : Value} {vs : List Value} (hu : A.units < cLine) (h1 : TS.TupInts h0 v0 []) (x : TupsV h0 (v0 :: vs)) (keep : ∀ b o, h0.get? b = some o → b ≠ a ∧ s.heap.get? b = some o) : SrtO.SortableO prog w A s a (v0 :: vs) (ltT h0) := by
  intro h' hk
  have st : ∀ b o, h0.get? b = some o → o.cls = .type "tuple" → h'.get? b = some o := fun b o q _ => hk b o (keep b o q).1 (keep b o q).2
  have x' : TupsV h' (v0 :: vs) := fun v hv => let ⟨ns, t⟩ := x v hv; ⟨ns, t.keeps st⟩
  have h1' := h1.keeps st
  refine ⟨oneType', fun Q E hQ => ?_, fun p q hp hq => ?_⟩
  · rw [kat_kind_eq, List.mapM_toArray, map_eq_pure_bind]
    refine wpAny_bind (wpAny_bind (firsts_walk _ (s := { s with heap := h' }) x' (wpAny_pure ?_)))
    have e0 : fstO h' v0 = none := by
      obtain ⟨b, us, rfl, ⟨ob, g1, g2, m, g3⟩, hi⟩ := h1'
      have hz : us.toList.length = 0 := hi.length
      unfold fstO
      simp only [g1, g3]
      rw [Array.length_toList] at hz
      simp [hz]
    have hall : ((List.map (fstO h') (v0 :: vs)).toArray.all fun x => x.isSome) = false := by
      rw [List.map_cons, e0]
      simp
    have h00 : (((List.map (fstO h') (v0 :: vs)).toArray[0]?).bind id).isSome = false := by
      rw [List.map_cons, e0]
      simp
    rw [if_neg (by rw [hall]; decide)]
    rw [if_neg (by rw [h00]; decide), oneTypeOnly'_eq, List.mapM_toArray, map_eq_pure_bind]
    refine wpAny_bind (wpAny_bind (wpAny_bind (PySem.W.kas_mapM (r := Value.type "tuple") _ (fun v hv Q' hq => ?_) (wpAny_pure ?_))))
    · obtain ⟨ns, b, us, rfl, ⟨ob, g1, g2, m, g3⟩, hi⟩ := x' v hv
      have L : PySem.W.Looks (model prog w) h' (typeOf (.ref b)) ob.cls := (PySem.W.Looks.ld g1).andThen .now
      rw [g2] at L
      exact L.here hq
    · have h0' : (List.map (fun _ => Value.type "tuple") (v0 :: vs)).toArray[0]? = some (Value.type "tuple") := by simp
      have hall2 : ((List.map (fun _ => Value.type "tuple") (v0 :: vs)).toArray.all fun x => x == Value.type "tuple") = true := by
        simp only [List.all_toArray, List.all_map, List.all_eq_true]
        intro _ _
        rfl
      rw [h0']
      simp only [hall2, if_true]
      exact wpAny_pure (wpAny_pure hQ)
  · obtain ⟨ns, tp⟩ := x p.1 hp
    obtain ⟨ms, tq⟩ := x q.1 hq
    have e : SrtO.lt2 (ltT h0) p q = lexLt ns ms := by
      show lexLt (TS.intsOf h0 p.1) (TS.intsOf h0 q.1) = _
      rw [tp.ints, tq.ints]
    obtain ⟨b1, xs, e1, ⟨⟨cls1, dd1, dt1, sl1⟩, k1, k2, n1, k3⟩, i1⟩ := tp.keeps st
    obtain ⟨b2, ys, e2, ⟨⟨cls2, dd2, dt2, sl2⟩, j1, j2, n2, j3⟩, i2⟩ := tq.keeps st
    simp only at k2 k3 j2 j3
    subst k2 k3 j2 j3
    rw [e1, e2, keyLt'_oneType, oneLt'_eq]
    simp only [if_true]
    refine wpAny_bind (wpAny_cRoomFor hu ?_)
    refine wpAny_bind (wpAny_callSpecialIfBound?_slot (s := { s with heap := h' }) ⟨_, k1, rfl⟩ PySem.F.slot_tuple_lt (call_meets PySem.F.slot_tuple_lt ⟨_, k1, rfl⟩ PySem.F.entry_tuple_lt (PySem.F.args_tuple_lt_2 _ _) (HT.tuple_lt_ints b1 b2 xs ys n1 n2 dd1 dd2 sl1 sl2 ns ms i1 i2) ⟨k1, j1, ?_⟩))
    rw [lex_HT]
    exact wpAny_truthy_bool ⟨rfl, e.symm⟩
end
/-- sorted(xs), tuples of ints of any lengths -/
def rSortV (K : PySem.W.Frag) : List V → Hp → VK → Prop := fun vs H Q => ∃ (a : Addr) (zs : List (V × List Int)), vs = [V.ref a] ∧ SqL K H a (zs.map (·.1)) ∧ (∀ z ∈ zs, TupI K H z.1 z.2) ∧ ((∀ z ∈ zs, z.2 ≠ []) ∨ (zs.head?.map (·.2)) = some []) ∧
  ∀ (ys : List (V × List Int)) (p : Addr), ys.Perm zs → ys.Pairwise (fun x y => lexLt y.2 x.2 = false) → H p = none → Q (.ref p) (upd H p (.lst (ys.map (·.1))))
section
variable {X : Cx}
theorem cr_sortV (hu : X.A.units + 2 < cLine) : CallR X (.builtin "sorted") (rSortV X.K) := by
  intro pins s σ H vs us Q I r h
  obtain ⟨a, zs, rfl, hs, hz, hc, q⟩ := h
  obtain ⟨its, rv, hl, hsz⟩ := I.list hs
  rw [Vals.ref1 r]
  obtain ⟨e1, e2⟩ := bkV_refs rv fun x m => by
    obtain ⟨z, hm, rfl⟩ := List.mem_map.mp m
    obtain ⟨t, e, _⟩ := hz z hm
    exact ⟨t, e⟩
  have find : ∀ v ∈ its, ∃ z ∈ zs, TS.TupInts s.heap v z.2 := fun v hv => by
    obtain ⟨t, rfl⟩ := e2 v hv
    have hm : V.ref t ∈ zs.map (·.1) := by
      rw [e1]
      exact List.mem_map.mpr ⟨_, hv, rfl⟩
    obtain ⟨z, hm, ez⟩ := List.mem_map.mp hm
    obtain ⟨t', e, g⟩ := hz z hm
    rw [ez] at e
    cases e
    exact ⟨z, hm, tupI_raw I g⟩
  have tv : TupsV s.heap its := fun v hv => let ⟨z, _, t⟩ := find v hv; ⟨z.2, t⟩
  refine SrtO.sorted_ord (swo_T s.heap) hl.isList (by rw [← rv.length]; exact hsz) (fun h2 h₁ a' _ hk => ?_) fun out h1 h2 => ?_
  · rcases hc with hc | hc
    · exact sortableN h2 (fun v hv => let ⟨z, hm, t⟩ := find v hv; ⟨z.2, t, hc z hm⟩) hk
    · cases zs with
      | nil => cases hc
      | cons z zs =>
        cases its with
        | nil => simp at h2
        | cons v0 its =>
          have hz2 : z.2 = [] := by simpa using hc
          rw [List.map_cons, List.map_cons] at e1
          injection e1 with e3 e4
          obtain ⟨t, e, g⟩ := hz z List.mem_cons_self
          have hv0 : v0 = .ref t := bkV_ref (e3.symm.trans e)
          refine sortableE (A := X.A.in1.in1) hu ?_ tv hk
          rw [hv0, ← hz2]
          exact tupI_raw I g
  obtain ⟨ep, he'⟩ := PyProof.Rows.sortedAll_at s.heap its out.toArray
  have h3 : ∀ u ∈ out, ∃ a, u = Value.ref a := fun u hu => e2 u (h2.perm.mem_iff.mp hu)
  have hp : (out.map bkV).Perm (zs.map (·.1)) := by
    rw [e1]
    exact h2.perm.map bkV
  obtain ⟨ys, hy1, hy2⟩ := perm_lift hp zs rfl
  have eo : out = ys.map fun y => unV y.1 := by
    have h4 : out = (out.map bkV).map unV := by
      rw [List.map_map]
      have h5 : ∀ u ∈ out, (unV ∘ bkV) u = id u := fun u hu => by
        obtain ⟨b, rfl⟩ := h3 u hu
        rfl
      rw [List.map_congr_left h5, List.map_id]
    rw [h4, ← hy2, List.map_map]
    rfl
  have pw : ys.Pairwise (fun x y => lexLt y.2 x.2 = false) := by
    have h1' : (ys.map fun y => unV y.1).Pairwise fun x y => ltT s.heap y x = false := by rw [← eo]; exact h1
    rw [List.pairwise_map] at h1'
    refine h1'.imp_of_mem fun {x y} hx hy g => ?_
    obtain ⟨t, ex, gx⟩ := hz x (hy1.mem_iff.mp hx)
    obtain ⟨u, ey, gy⟩ := hz y (hy1.mem_iff.mp hy)
    have i1 : TS.intsOf s.heap (unV x.1) = x.2 := by rw [ex]; exact (tupI_raw I gx).ints
    have i2 : TS.intsOf s.heap (unV y.1) = y.2 := by rw [ey]; exact (tupI_raw I gy).ints
    unfold ltT at g
    rw [i1, i2] at g
    exact g
  have hlen : (ys.map (·.1)).length ≤ sizeLine := by
    rw [List.length_map, hy1.length_eq]
    rw [List.length_map] at hsz
    exact hsz
  refine ⟨.ref _, upd H (s.heap.objs.size + 1) (.lst (ys.map (·.1))), I.laid (t' := s.toks) (fun _ _ => PyProof.Rows.sortedAll_old) (Nat.le_succ _) ⟨hlen, out, ep, ?_, he'⟩, rfl, q _ _ hy1 pw (I.hok.fresh (Nat.le_succ _))⟩
  rw [hy2]
  exact bkV_vals h3
/-- rows of ints in order -/
def srtR (l : List (List Int)) : List (List Int) := l.mergeSort fun n m => !lexLt m n
theorem srtR_perm (l : List (List Int)) : (srtR l).Perm l := List.mergeSort_perm _ _
theorem srtR_up (l : List (List Int)) : (srtR l).Pairwise fun n m => lexLt m n = false := by
  have h := List.pairwise_mergeSort (le := fun n m : List Int => !lexLt m n) (fun a b c h1 h2 => by simp at h1 h2 ⊢; exact lex_tr a b c h1 h2) (fun a b => by
    cases h : lexLt b a with
    | false => simp
    | true => simp [lex_asym b a h]) l
  exact h.imp fun {a b} q => by simpa using q
theorem cb_sortV {l : List (List Int)} (hu : X.A.units + 2 < cLine) (hl : (∀ ns ∈ l, ns ≠ []) ∨ l.head? = some []) : Cb X (.builtin "sorted") [.lst (l.map tupD)] (.lst ((srtR l).map tupD)) := ⟨_, cr_sortV hu, fun S H vs hdm h Q q => by
  obtain ⟨v, rfl, h1⟩ := h.one
  obtain ⟨a, xs, rfl, h2, h3⟩ := h1.lst_
  have hlen : xs.length = l.length := by rw [h3.length, List.length_map]
  refine ⟨a, xs.zip l, rfl, by rw [zip_fst hlen]; exact h2, fun z hz => (den_zip h3 z hz).1, ?_, fun ys p hy hpw hn => ?_⟩
  · rcases hl with hl | hl
    · exact .inl fun z hz => hl _ (den_zip h3 z hz).2.2
    · right
      have : ((xs.zip l).map (·.2)).head? = some [] := by rw [zip_snd hlen]; exact hl
      rw [List.head?_map] at this
      exact this
  · have hd2 := den_unzip (K := X.K) (S := S) (H := H) (ys := ys) fun z hz => (den_zip h3 z (hy.mem_iff.mp hz)).2.1
    have hpp : (ys.map (·.2)).Perm (srtR l) := by
      have := hy.map (·.2)
      rw [zip_snd hlen] at this
      exact this.trans (srtR_perm l).symm
    have e : ys.map (·.2) = srtR l := List.Perm.eq_of_pairwise (le := fun n m => lexLt m n = false) (fun x y _ _ h1 h2 => lex_anti _ _ h2 h1) (List.pairwise_map.mpr hpw) (srtR_up l) hpp
    rw [e] at hd2
    exact q _ _ (same_new hn) (Den.newL hdm hn hd2)⟩
end
end Spr

set_option Elab.async false
set_option linter.all false
set_option maxRecDepth 100000
set_option maxHeartbeats 4000000
/-! The law's call where no repr is under way. -/
namespace Spr
open PySem PySem.Spec PyProof.Rows L2 LamX
section
variable {P : Program} {w : World} {K : PySem.W.Frag} {mg mb : Str → Option Value} {CX : CXT} {k : Nat} {fa a : Addr} {cs : List (Addr × Addr)} {fd : FuncData} {x : Str} {sp : Sp} {s₁ : Shared} {vs : List Value} {ns : List Int}
/-- the tables' addresses -/
abbrev tabA (cs : List (Addr × Addr)) (b : Addr) : Prop := b ∈ cs.map (·.2)
def objS (vs : List Value) : Obj := { cls := .type "list", data := .seq vs.toArray }
def objT : Obj := { cls := .none, data := .fields #[] }
open Classical in
/-- what is known at the start: empty tables, the script (where it is no part of the text) -/
noncomputable def hp0 (K : PySem.W.Frag) (cs : List (Addr × Addr)) (a : Addr) (vs : List Value) (ns : List Int) : Hp := fun b =>
  if tabA cs b then some (.tbl #[]) else if b = a ∧ K.lookup a = none then some (.frz (objS vs) (.lst (ns.map V.int))) else none
theorem hp0_cases (b : Addr) : (tabA cs b ∧ hp0 K cs a vs ns b = some (.tbl #[])) ∨ (¬ tabA cs b ∧ b = a ∧ K.lookup a = none ∧ hp0 K cs a vs ns b = some (.frz (objS vs) (.lst (ns.map V.int)))) ∨ (¬ tabA cs b ∧ ¬ (b = a ∧ K.lookup a = none) ∧ hp0 K cs a vs ns b = none) := by
  unfold hp0
  by_cases h1 : tabA cs b
  · exact .inl ⟨h1, if_pos h1⟩
  · by_cases h2 : b = a ∧ K.lookup a = none
    · exact .inr (.inl ⟨h1, h2.1, h2.2, by rw [if_neg h1, if_pos h2]⟩)
    · exact .inr (.inr ⟨h1, h2, by rw [if_neg h1, if_neg h2]⟩)
theorem lawG (KX : K.In s₁.heap) (hns : s₁.heap.Ns mainGlobals mg) (hb : s₁.heap.Ns builtinsNs mb) (hbb : ∀ x : Str, x ≠ "__name__" → mb x = bootBuiltins x) (hlim : s₁.heap.NoLimit) (hg : s₁.gens = #[])
    (hT : ∀ p ∈ cs, s₁.heap.get? p.2 = some objT) (nT : ∀ p ∈ cs, K.lookup p.2 = none) (C : ∀ p ∈ cs, PySem.W.CodeHd s₁.heap p.1 p.2)
    (hbm : ∃ (bm : Addr) (ob : Obj), mg "__builtins__" = some (.ref bm) ∧ bm ≠ builtinsNs ∧ s₁.heap.get? bm = some ob ∧ ob.cls = .type "module" ∧ ob.dict = some builtinsNs ∧ ob.data = .plain)
    (ha : s₁.heap.get? a = some (objS vs)) (hi : IntsAre vs ns) (hl : ns.length ≤ sizeLine) (hr : RoomG k callerA)
    (F : ∀ base : Heap, K.In base → base.Ns mainGlobals mg → (∀ p ∈ cs, TabB base mg p.1 p.2) → FnG P w K mg base CX k fa fd [x] sp) (hbind : ∀ (s : Shared) (u : Value), BindsTo s fd ⟨[u], []⟩ [(x, u)])
    (hsp : ∀ H : Hp, (∀ p ∈ cs, H p.2 = some (.tbl #[])) → SqL K H a (ns.map V.int) → sp [.ref a] H (fun v _ => v = .bl true) fun _ _ _ => False)
    (hCX : ∀ H e s', CX [] H s₁ (fun _ _ _ => False) e s' → False) :
    codeAny (model P w) callerA (.call (.ref fa) ⟨[.ref a], []⟩) (fun r s' => r = .ok (.ret (.bool true)) ∧ OldK s₁.heap s'.heap ∧ s'.os = s₁.os ∧ AllBare s'.gens) s₁ := by
  have hTab : ∀ b, tabA cs b → s₁.heap.get? b = some objT ∧ K.lookup b = none := fun b hb => by
    obtain ⟨p, hp, e⟩ := List.mem_map.mp hb
    subst e
    exact ⟨hT p hp, nT p hp⟩
  have aT : ¬ tabA cs a := fun z => by
    have q := (hTab a z).1
    rw [ha] at q
    exact nomatch (congrArg Obj.data (Option.some.inj q) : Data.seq vs.toArray _ = Data.fields #[])
  generalize hH : hp0 K cs a vs ns = H
  have cas : ∀ b, (tabA cs b ∧ H b = some (.tbl #[])) ∨ (¬ tabA cs b ∧ b = a ∧ K.lookup a = none ∧ H b = some (.frz (objS vs) (.lst (ns.map V.int)))) ∨ (¬ tabA cs b ∧ ¬ (b = a ∧ K.lookup a = none) ∧ H b = none) := fun b => by
    rw [← hH]
    exact hp0_cases b
  -- an object of another kind is not tracked
  have out : ∀ {b : Addr} {o : Obj}, s₁.heap.get? b = some o → o ≠ objT → o ≠ objS vs → (hidT s₁.heap H).get? b = some o := fun {b o} e n1 n2 => by
    refine hidT_get e ?_
    rcases cas b with ⟨h1, _⟩ | ⟨_, h2, _⟩ | ⟨_, _, h3⟩
    · rw [(hTab b h1).1] at e
      exact absurd (Option.some.inj e).symm n1
    · rw [h2, ha] at e
      exact absurd (Option.some.inj e).symm n2
    · exact h3
  have nsK : ∀ {b : Addr} {m : Str → Option Value}, s₁.heap.Ns b m → (hidT s₁.heap H).Ns b m := fun {b m} ⟨o, es, ep, e, d, r⟩ =>
    ⟨o, es, ep, out e (fun z => by rw [z] at d; cases d) (fun z => by rw [z] at d; cases d), d, r⟩
  have KB : K.In (hidT s₁.heap H) := fun b o e => by
    refine hidT_get (KX b o e) ?_
    rcases cas b with ⟨h1, _⟩ | ⟨_, h2, h4, _⟩ | ⟨_, _, h3⟩
    · rw [(hTab b h1).2] at e
      cases e
    · rw [h2, h4] at e
      cases e
    · exact h3
  have M : L2.Mod K mg (hidT s₁.heap H) := ⟨KB, nsK hns, ⟨mb, nsK hb, hbb⟩, by
    obtain ⟨mc, h1, h2⟩ := hlim
    exact ⟨mc, nsK h1, h2⟩⟩
  have TB : ∀ p ∈ cs, TabB (hidT s₁.heap H) mg p.1 p.2 := fun p hp => by
    obtain ⟨o, us, file, tf, flags, tg, inF, text, tt, e1, r1, r2⟩ := C p hp
    obtain ⟨bm, ob, b1, b2, b3, b4, b5, b6⟩ := hbm
    have nb1 : ob ≠ objT := fun z => by rw [z] at b6; cases b6
    have nb2 : ob ≠ objS vs := fun z => by rw [z] at b6; cases b6
    refine ⟨⟨o, us, file, tf, flags, tg, inF, text, tt, out e1 (fun z => by rw [z] at r1; cases r1) (fun z => by rw [z] at r2; cases r2.1), r1, r2⟩, ⟨bm, ob, b1, b2, fun q => ?_, fun q => ?_, out b3 nb1 nb2, b4, b5, b6⟩, fun z => ?_⟩
    · obtain ⟨o', es, ep, e, hd, _⟩ := hns
      rw [q, e] at b3
      cases b3
      rw [hd] at b6
      cases b6
    · rw [q, hT p hp] at b3
      exact nb1 (Option.some.inj b3).symm
    · obtain ⟨o', es, ep, e, hd, _⟩ := hns
      rw [z, hT p hp] at e
      cases e
      cases hd
  have rv := vals_ints hi
  have hok : HOk P w H s₁.heap := fun b u e => by
    rcases cas b with ⟨h1, h4⟩ | ⟨_, h2, _, h4⟩ | ⟨_, _, h4⟩
    · rw [h4] at e
      cases e
      exact (hTab b h1).1
    · rw [h4] at e
      cases e
      rw [h2]
      exact ⟨ha, by rw [List.length_map]; exact hl, vs, _, rv, ha⟩
    · rw [h4] at e
      cases e
  have tbs : ∀ p ∈ cs, H p.2 = some (.tbl #[]) := fun p hp => by
    rcases cas p.2 with ⟨_, h⟩ | ⟨h, _⟩ | ⟨h, _⟩
    · exact h
    · exact absurd (List.mem_map.mpr ⟨p, hp, rfl⟩) h
    · exact absurd (List.mem_map.mpr ⟨p, hp, rfl⟩) h
  have scr : SqL K H a (ns.map V.int) := by
    cases hk : K.lookup a with
    | some o =>
      have e := KX a o hk
      rw [ha] at e
      cases e
      exact .inr ⟨_, vs.toArray, _, hk, rfl, rfl, rfl, by rw [List.size_toArray, hi.length]; exact hl, by simpa using rv⟩
    | none =>
      rcases cas a with ⟨h1, _⟩ | ⟨_, _, _, h4⟩ | ⟨_, h2, _⟩
      · exact absurd h1 aT
      · exact .inl (.inr ⟨_, h4⟩)
      · exact absurd ⟨rfl, hk⟩ h2
  have e0 : Env0 P w K mg (hidT s₁.heap H) callerA [] s₁ H := ⟨rfl, M, fun b o e => of_hidT e, Nat.le_of_eq (hidT_size _ _), trivial, fun b hb => absurd (show b ∈ ([] : List Addr) from hb) (by simp), hok, .of_eq hg⟩
  refine codeAny_mono ((F _ KB (nsK hns) TB).go (us := [.ref a]) (vs := [.ref a]) hr e0 (hbind s₁ (.ref a)) (.cons rfl .nil) (hsp H tbs scr)) fun r s' h => ?_
  match r, h with
  | .error e, h => exact (hCX H e s' h).elim
  | .ok (.ret u), ⟨v, H', os, bare, un, hok', r', q⟩ =>
    have q' : v = .bl true := q
    subst q'
    obtain rfl : u = Value.bool true := r'
    have kept : ∀ b o, ¬ tabA cs b → s₁.heap.get? b = some o → s'.heap.get? b = some o := fun b o nb e => by
      rcases cas b with ⟨h1, _⟩ | ⟨_, _, _, h4⟩ | ⟨_, _, h4⟩
      · exact absurd h1 nb
      · have z := (hok' b _ (un.frzs b _ _ h4)).1
        have z1 := (hok b _ h4).1
        rw [e] at z1
        cases z1
        exact z
      · exact un.keep b o e h4 (by intro z; exact absurd (show b ∈ ([] : List Addr) from z) (by simp)) (by simp)
    have grew : ∀ b, tabA cs b → ∃ more : Array Value, s'.heap.get? b = some { cls := .none, data := .fields more } := fun b hb => by
      rcases cas b with ⟨_, h⟩ | ⟨h, _⟩ | ⟨h, _⟩
      · obtain ⟨more, z⟩ := un.tbls b #[] h
        exact ⟨_, hok' b _ z⟩
      · exact absurd hb h
      · exact absurd hb h
    refine ⟨rfl, ⟨fun b o e => ?_, fun b o e => ?_⟩, os, bare⟩
    · by_cases hb : tabA cs b
      · obtain ⟨more, hm⟩ := grew b hb
        obtain ⟨p, hp, ep⟩ := List.mem_map.mp hb
        subst ep
        rw [hT p hp] at e
        cases e
        exact .inr (.inl ⟨((C p hp).tab (hT p hp)).isCodeTable, rfl, #[], more, rfl, by rw [Array.empty_append]; exact hm⟩)
      · exact .inl (kept b o hb e)
    · by_cases hb : tabA cs b
      · obtain ⟨more, hm⟩ := grew b hb
        exact ⟨_, hm⟩
      · exact ⟨o, kept b o hb e⟩
end
/-- what is known of the law's promise at the head's heap h -/
def LawAtG (l : PySem.W.OpenLaw) (w : World) (K : PySem.W.Frag) (CX : CXT) (k n : Nat) (x : Str) (mg : Str → Option Value) (fa : Addr) (h : Heap) : Prop :=
  ∃ (fd : FuncData) (cs : List (Addr × Addr)) (sp : Sp), (∀ p ∈ cs, h.get? p.2 = some objT) ∧ (∀ p ∈ cs, K.lookup p.2 = none) ∧ (∀ p ∈ cs, PySem.W.CodeHd h p.1 p.2) ∧ (∀ (s : Shared) (u : Value), BindsTo s fd ⟨[u], []⟩ [(x, u)]) ∧
    (∀ (H : Hp) (a : Addr) (ns : List Int), ns.length ≤ n → (∀ z ∈ ns, Builtin.Int.intBits z ≤ 1048576) → (∀ p ∈ cs, H p.2 = some (.tbl #[])) → SqL K H a (ns.map V.int) → sp [.ref a] H (fun v _ => v = .bl true) fun _ _ _ => False) ∧
    ∀ base : Heap, K.In base → base.Ns mainGlobals mg → (∀ p ∈ cs, TabB base mg p.1 p.2) → FnG l.prog w K mg base CX k fa fd [x] sp
theorem walkG {l : PySem.W.OpenLaw} {n k : Nat} {q : Program} {loose : List Str} {XP : (Str → Option Value) → Heap → Prop} {YP : World → Heap → Prop} {d : DefRec} {CX : World → CXT} {x : Str}
    (hn : l.most = some n) (hn2 : n ≤ sizeLine) (hdf : d.params.defaults = []) (hr : RoomG k callerA)
    (F : ∀ (w : World) (mg : Str → Option Value) (fa : Addr) (h : Heap), YP w h → h.Ns mainGlobals mg → mg d.name = some (.ref fa) → ∃ K : PySem.W.Frag, K.In h ∧ LawAtG l w K (CX w) k n x mg fa h)
    (hCX : ∀ (w : World) (H : Hp) (s : Shared) (e : Value) (s' : Shared), CX w [] H s (fun _ _ _ => False) e s' → False) :
    PySem.W.WalkO q loose XP YP l.row.toRowW d [] (fun f vs => PySem.call f vs) := by
  refine Att.attach_callB hn hdf fun w s₀ s₁ mg mb fa o pm cd doc a vs ns G Y ho hd hcd hmg hobj hints hlen hbits hg => ?_
  obtain ⟨K, KX, fd, cs, sp, hT, nT, C, hb, hsp, hF⟩ := F w mg fa _ Y G.T.g hmg
  exact lawG KX G.T.g G.T.b G.T.builtins G.T.nolimit hg hT nT C G.T.bmain hobj hints (Nat.le_trans hlen hn2) hr hF hb (fun H hH hS => hsp H a ns hlen hbits hH hS) fun H e s' => hCX w H s₁ e s'
theorem roomG_caller {k : Nat} (h : Room k callerA) : RoomG k callerA := ⟨h, rfl⟩
end Spr

set_option Elab.async false
set_option linter.all false
set_option maxRecDepth 100000
set_option maxHeartbeats 0
namespace K43
open PySem PySem.Spec PyProof.Rows
abbrev mainP : Program := PySem.Challenge.pw_spoiltrows_k43_whole_tests_that_tell
def top (i : Nat) : Stmt := PySem.Challenge.pw_spoiltrows_k43_whole_tests_that_tell.main.body.getD i (.Pass ⟨0, 0, 0, 0⟩)
abbrev st_is_integer : Stmt := top 1
def d_is_integer : He.DefD := ⟨("is_integer", none), "is_integer", "is_integer", L2.defArgs st_is_integer, L2.defBody st_is_integer, L2.defScope st_is_integer, [], []⟩
abbrev st_is_within : Stmt := top 2
def d_is_within : He.DefD := ⟨("is_within", none), "is_within", "is_within", L2.defArgs st_is_within, L2.defBody st_is_within, L2.defScope st_is_within, [], []⟩
abbrev st_is_tuple : Stmt := top 3
def d_is_tuple : He.DefD := ⟨("is_tuple", none), "is_tuple", "is_tuple", L2.defArgs st_is_tuple, L2.defBody st_is_tuple, L2.defScope st_is_tuple, [], []⟩
abbrev st_is_tests : Stmt := top 13
def d_is_tests : He.DefD := ⟨("is_tests", none), "is_tests", "is_tests", L2.defArgs st_is_tests, L2.defBody st_is_tests, L2.defScope st_is_tests, [], []⟩
abbrev st_check_tests : Stmt := top 14
def d_check_tests : He.DefD := ⟨("check_tests", none), "check_tests", "check_tests", L2.defArgs st_check_tests, L2.defBody st_check_tests, L2.defScope st_check_tests, [], []⟩
abbrev st_answers_of : Stmt := top 15
def d_answers_of : He.DefD := ⟨("answers_of", none), "answers_of", "answers_of", L2.defArgs st_answers_of, L2.defBody st_answers_of, L2.defScope st_answers_of, [], []⟩
abbrev st_answers : Stmt := top 16
def d_answers : He.DefD := ⟨("answers", none), "answers", "answers", L2.defArgs st_answers, L2.defBody st_answers, L2.defScope st_answers, [], []⟩
abbrev st_lots_to : Stmt := top 17
def d_lots_to : He.DefD := ⟨("lots_to", none), "lots_to", "lots_to", L2.defArgs st_lots_to, L2.defBody st_lots_to, L2.defScope st_lots_to, [], []⟩
abbrev st_check_most : Stmt := top 18
def d_check_most : He.DefD := ⟨("check_most", none), "check_most", "check_most", L2.defArgs st_check_most, L2.defBody st_check_most, L2.defScope st_check_most, [], []⟩
abbrev st_tells : Stmt := top 19
def d_tells : He.DefD := ⟨("tells", none), "tells", "tells", L2.defArgs st_tells, L2.defBody st_tells, L2.defScope st_tells, [], []⟩
abbrev st_pair_alike : Stmt := top 20
def d_pair_alike : He.DefD := ⟨("pair_alike", none), "pair_alike", "pair_alike", L2.defArgs st_pair_alike, L2.defBody st_pair_alike, L2.defScope st_pair_alike, [], []⟩
abbrev st_alike : Stmt := top 21
def d_alike : He.DefD := ⟨("alike", none), "alike", "alike", L2.defArgs st_alike, L2.defBody st_alike, L2.defScope st_alike, [], []⟩
abbrev st_fits : Stmt := top 22
def d_fits : He.DefD := ⟨("fits", none), "fits", "fits", L2.defArgs st_fits, L2.defBody st_fits, L2.defScope st_fits, [], []⟩
abbrev st_law_hand : Stmt := top 24
def d_law_hand : He.DefD := ⟨("_law_hand", none), "_law_hand", "_law_hand", L2.defArgs st_law_hand, L2.defBody st_law_hand, L2.defScope st_law_hand, [], []⟩
abbrev st_law_draw : Stmt := top 25
def d_law_draw : He.DefD := ⟨("_law_draw", none), "_law_draw", "_law_draw", L2.defArgs st_law_draw, L2.defBody st_law_draw, L2.defScope st_law_draw, [], []⟩
abbrev st_law_any : Stmt := top 26
def d_law_any : He.DefD := ⟨("_law_any", none), "_law_any", "_law_any", L2.defArgs st_law_any, L2.defBody st_law_any, L2.defScope st_law_any, [], []⟩
abbrev st_law_tests : Stmt := top 27
def d_law_tests : He.DefD := ⟨("_law_tests", none), "_law_tests", "_law_tests", L2.defArgs st_law_tests, L2.defBody st_law_tests, L2.defScope st_law_tests, [], []⟩
abbrev st_law_lots : Stmt := top 28
def d_law_lots : He.DefD := ⟨("_law_lots", none), "_law_lots", "_law_lots", L2.defArgs st_law_lots, L2.defBody st_law_lots, L2.defScope st_law_lots, [], []⟩
abbrev st_law_answers : Stmt := top 29
def d_law_answers : He.DefD := ⟨("_law_answers", none), "_law_answers", "_law_answers", L2.defArgs st_law_answers, L2.defBody st_law_answers, L2.defScope st_law_answers, [], []⟩
abbrev st_law_word : Stmt := top 30
def d_law_word : He.DefD := ⟨("_law_word", none), "_law_word", "_law_word", L2.defArgs st_law_word, L2.defBody st_law_word, L2.defScope st_law_word, [], []⟩
abbrev st_law_no_tests : Stmt := top 31
def d_law_no_tests : He.DefD := ⟨("_law_no_tests", none), "_law_no_tests", "_law_no_tests", L2.defArgs st_law_no_tests, L2.defBody st_law_no_tests, L2.defScope st_law_no_tests, [], []⟩
abbrev st_law_alike : Stmt := top 32
def d_law_alike : He.DefD := ⟨("_law_alike", none), "_law_alike", "_law_alike", L2.defArgs st_law_alike, L2.defBody st_law_alike, L2.defScope st_law_alike, [], []⟩
abbrev st_law : Stmt := top 33
def d_law : He.DefD := ⟨("law", none), "law", "law", L2.defArgs st_law, L2.defBody st_law, L2.defScope st_law, [], []⟩
def fn : List He.DefD := [d_is_integer, d_is_within, d_is_tuple, d_is_tests, d_check_tests, d_answers_of, d_answers, d_lots_to, d_check_most, d_tells, d_pair_alike, d_alike, d_fits, d_law_hand, d_law_draw, d_law_any, d_law_tests, d_law_lots, d_law_answers, d_law_word, d_law_no_tests, d_law_alike, d_law]
def fa : List He.Fa := [.glo "is_integer", .glo "is_within", .glo "is_tuple", .glo "is_tests", .glo "check_tests", .glo "answers_of", .glo "answers", .glo "lots_to", .glo "check_most", .glo "tells", .glo "pair_alike", .glo "alike", .glo "fits", .glo "_law_hand", .glo "_law_draw", .glo "_law_any", .glo "_law_tests", .glo "_law_lots", .glo "_law_answers", .glo "_law_word", .glo "_law_no_tests", .glo "_law_alike", .glo "law", .free "isinstance", .free "int", .free "bool", .free "range", .free "len", .free "abs", .free "ValueError", .free "tuple", .free "list", .free "all", .free "any", .free "zip", .free "min", .free "sorted", .free "repr", .glo "RowError", .glo "TooMany", .glo "NoNumber", .glo "NoTests", .glo "NoAnswers", .int "MOST_THINGS" 24, .int "MOST_TRIED" 200000, .exm "NoNumber" "RowError" true, .exm "NoTests" "RowError" true, .exm "NoAnswers" "RowError" true]
def tf : List He.Defn := [("law", none)]
def ex (K : PySem.W.Frag) : Bool := Spr.xtB mainP K "NoNumber" && (Spr.xf0B K "NoNumber" && (Spr.excCB K (He.ga K "NoNumber") && (decide (PySem.W.kitOne K (.ref (He.ga K "NoNumber")) (.type "ValueError") = some true) && (decide (PySem.W.kitOne K (.ref (He.ga K "NoNumber")) (.ref (He.ga K "NoNumber")) = some true) && (decide (PySem.W.kitOne K (.ref (He.ga K "NoNumber")) (.ref (He.ga K "NoTests")) = some false) && (decide (PySem.W.kitOne K (.ref (He.ga K "NoNumber")) (.ref (He.ga K "NoAnswers")) = some false) && (Spr.xtB mainP K "NoTests" && (Spr.xf0B K "NoTests" && (Spr.excCB K (He.ga K "NoTests") && (decide (PySem.W.kitOne K (.ref (He.ga K "NoTests")) (.type "ValueError") = some true) && (decide (PySem.W.kitOne K (.ref (He.ga K "NoTests")) (.ref (He.ga K "NoNumber")) = some false) && (decide (PySem.W.kitOne K (.ref (He.ga K "NoTests")) (.ref (He.ga K "NoTests")) = some true) && (decide (PySem.W.kitOne K (.ref (He.ga K "NoTests")) (.ref (He.ga K "NoAnswers")) = some false) && (Spr.xtB mainP K "NoAnswers" && (Spr.xf0B K "NoAnswers" && (Spr.excCB K (He.ga K "NoAnswers") && (decide (PySem.W.kitOne K (.ref (He.ga K "NoAnswers")) (.type "ValueError") = some true) && (decide (PySem.W.kitOne K (.ref (He.ga K "NoAnswers")) (.ref (He.ga K "NoNumber")) = some false) && (decide (PySem.W.kitOne K (.ref (He.ga K "NoAnswers")) (.ref (He.ga K "NoTests")) = some false) && (decide (PySem.W.kitOne K (.ref (He.ga K "NoAnswers")) (.ref (He.ga K "NoAnswers")) = some true) && (true)))))))))))))))))))))
abbrev R : PySem.W.OpenRow := PySem.W.OpenLaw.row PySem.Challenge.rw_spoiltrows_k43_whole_tests_that_tell
abbrev hk : PySem.W.Hook := Spr.hookS 6 fa fn tf ex
def ob (s : PySem.W.SharedT) : Spr.AlS := Spr.obsS 6 fa fn tf ex (HandSHeadRun.getT s)
theorem ob_eq (s : PySem.W.SharedT) : ob s = hk.obs s.abs := Spr.obsS_eq (HandSHeadRun.getT_eq s)
def lo0 : List PySem.Str := ["is_integer", "is_within", "is_tuple", "RowError", "TooMany", "NoNumber", "NoTests", "NoAnswers", "MOST_THINGS", "MOST_TRIED", "is_tests", "check_tests", "answers_of", "answers", "lots_to", "check_most", "tells", "pair_alike", "alike", "fits", "_law_hand", "_law_draw", "_law_any", "_law_tests", "_law_lots", "_law_answers", "_law_word", "_law_no_tests"]
def lo1 : List PySem.Str := ["_law_alike"]
def loose : List PySem.Str := lo0 ++ lo1
theorem run (w : World) : HandSHeadRun.RunEq R (PySem.W.view R.prog [33]) hk ob 9000 loose w := by
  intro os
  kernel_rfl
end K43

set_option Elab.async false
set_option linter.all false
set_option maxRecDepth 100000
set_option maxHeartbeats 4000000
namespace K43
/-! ### lots -/
def start (lot : List Int) : Int := if 0 < lot.length then lot.getD (lot.length - 1) 0 + 1 else 0
def ext (n : Int) (lot : List Int) : List (List Int) := (List.range (n - start lot).toNat).map fun (i : Nat) => lot ++ [start lot + (i : Int)]
def level (n : Int) : Nat → List (List Int)
  | 0 => [[]]
  | j + 1 => (level n j).flatMap (ext n)
def lotsTo (n : Int) : Nat → List (List Int)
  | 0 => [[]]
  | m + 1 => lotsTo n m ++ level n (m + 1)
structure okLot (n : Int) (l : List Int) : Prop where
  bd : ∀ x ∈ l, 0 ≤ x ∧ x ≤ n - 1
  up : l.Pairwise (· < ·)
  len : (l.length : Int) ≤ n
structure Inv (n : Int) (l : List Int) : Prop where
  bd : ∀ x ∈ l, 0 ≤ x ∧ x ≤ n - 1 ∧ x < start l
  up : l.Pairwise (· < ·)
  len : (l.length : Int) ≤ start l
  s0 : 0 ≤ start l
  sn : start l ≤ n
theorem start_snoc (l : List Int) (x : Int) : start (l ++ [x]) = x + 1 := by
  unfold start
  rw [if_pos (by simp), List.length_append]
  show (l ++ [x]).getD (l.length + 1 - 1) 0 + 1 = _
  rw [Nat.add_sub_cancel, List.getD_eq_getElem?_getD, List.getElem?_append_right (Nat.le_refl _), Nat.sub_self]
  rfl
theorem mem_ext {n : Int} {l r : List Int} : r ∈ ext n l ↔ ∃ i : Nat, (i : Int) < n - start l ∧ r = l ++ [start l + (i : Int)] := by
  unfold ext
  rw [List.mem_map]
  constructor
  · rintro ⟨i, hi, rfl⟩
    exact ⟨i, by have := List.mem_range.mp hi; omega, rfl⟩
  · rintro ⟨i, hi, rfl⟩
    exact ⟨i, List.mem_range.mpr (by omega), rfl⟩
theorem inv_ext {n : Int} {l r : List Int} (h : Inv n l) (hr : r ∈ ext n l) : Inv n r ∧ r.length = l.length + 1 := by
  obtain ⟨i, hi, rfl⟩ := mem_ext.mp hr
  have h0 := h.s0
  refine ⟨⟨fun x hx => ?_, ?_, ?_, ?_, ?_⟩, by simp⟩
  · rw [start_snoc]
    rcases List.mem_append.mp hx with hx | hx
    · have := h.bd x hx
      omega
    · rw [List.mem_singleton.mp hx]
      omega
  · refine List.pairwise_append.mpr ⟨h.up, by simp, fun x hx y hy => ?_⟩
    rw [List.mem_singleton.mp hy]
    have := h.bd x hx
    omega
  · rw [start_snoc, List.length_append]
    have := h.len
    simp
    omega
  · rw [start_snoc]; omega
  · rw [start_snoc]; omega
theorem level_inv {n : Int} (hn : 0 ≤ n) : ∀ (j : Nat) (l : List Int), l ∈ level n j → Inv n l ∧ l.length = j
  | 0, l, h => by
    have : l = [] := by simpa [level] using h
    rw [this]
    exact ⟨⟨(fun x hx => nomatch hx), .nil, Int.le_refl _, Int.le_refl _, hn⟩, rfl⟩
  | j + 1, l, h => by
    obtain ⟨s, hs, hl⟩ := List.mem_flatMap.mp h
    obtain ⟨h1, h2⟩ := level_inv hn j s hs
    obtain ⟨h3, h4⟩ := inv_ext h1 hl
    exact ⟨h3, by omega⟩
theorem lots_inv {n : Int} (hn : 0 ≤ n) : ∀ (m : Nat) (l : List Int), l ∈ lotsTo n m → Inv n l
  | 0, l, h => (level_inv hn 0 l h).1
  | m + 1, l, h => by
    rcases List.mem_append.mp h with h | h
    · exact lots_inv hn m l h
    · exact (level_inv hn (m + 1) l h).1
theorem inv_ok {n : Int} {l : List Int} (h : Inv n l) : okLot n l := ⟨fun x hx => by have := h.bd x hx; omega, h.up, by have := h.len; have := h.sn; omega⟩
theorem inv_len {n : Int} {l : List Int} (h : Inv n l) : (l.length : Int) ≤ n := (inv_ok h).len
theorem lots_cons (n : Int) (hn : 0 ≤ n) : ∀ m, ∃ r, lotsTo n m = [] :: r ∧ ∀ l ∈ r, l ≠ []
  | 0 => ⟨[], rfl, fun l h => nomatch h⟩
  | m + 1 => by
    obtain ⟨r, h1, h2⟩ := lots_cons n hn m
    refine ⟨r ++ level n (m + 1), by show lotsTo n m ++ _ = _; rw [h1]; rfl, fun l h => ?_⟩
    rcases List.mem_append.mp h with h | h
    · exact h2 l h
    · have := (level_inv hn (m + 1) l h).2
      intro e
      rw [e] at this
      cases this
theorem lots_head {n : Int} (hn : 0 ≤ n) (m : Nat) (p : List Int → Bool) : (∀ l ∈ (lotsTo n m).filter p, l ≠ []) ∨ ((lotsTo n m).filter p).head? = some [] := by
  obtain ⟨r, h1, h2⟩ := lots_cons n hn m
  rw [h1]
  cases h : p [] with
  | true =>
    right
    rw [List.filter_cons_of_pos h]
    rfl
  | false =>
    left
    rw [List.filter_cons_of_neg (by rw [h]; decide)]
    exact fun l hl => h2 l (List.mem_filter.mp hl).1
theorem sizes : ∀ n ∈ [0, 1, 2, 3, 4, 5, 6], ∀ j ∈ [0, 1, 2, 3], (level n j).length ≤ 20 ∧ (lotsTo n j).length ≤ 60 := by decide +kernel
theorem size_of {n : Int} {j : Nat} (h0 : 0 ≤ n) (h6 : n ≤ 6) (h3 : j ≤ 3) : (level n j).length ≤ 20 ∧ (lotsTo n j).length ≤ 60 := by
  refine sizes n ?_ j ?_
  · simp; omega
  · simp; omega
/-! ### what tests tell -/
def ansOf (tests : List (List Int)) (bad : List Int) : List Int := tests.map fun lot => if lot.any (fun x => decide (x ∈ bad)) = true then 1 else 0
theorem ans_len (tests : List (List Int)) (bad : List Int) : (ansOf tests bad).length = tests.length := List.length_map _
theorem ans_bd {tests : List (List Int)} {bad : List Int} : ∀ x ∈ ansOf tests bad, 0 ≤ x ∧ x ≤ 1 := fun x hx => by
  obtain ⟨l, _, rfl⟩ := List.mem_map.mp hx
  split <;> omega
def pairA (ans : List Int → List Int) : List (List Int) → List (List Int × List Int) → Option (List Int × List Int)
  | [], _ => none
  | lot :: r, seen => match seen.find? fun z => decide (z.1 = ans lot) with
    | some z => some (z.2, lot)
    | none => pairA ans r (seen ++ [(ans lot, lot)])
def seenOf (ans : List Int → List Int) (l : List (List Int)) : List (List Int × List Int) := l.map fun x => (ans x, x)
theorem pair_none {ans : List Int → List Int} : ∀ (l : List (List Int)) (seen : List (List Int × List Int)), pairA ans l seen = none ↔ l.Pairwise (fun a b => ans a ≠ ans b) ∧ ∀ x ∈ l, ∀ z ∈ seen, z.1 ≠ ans x
  | [], seen => by simp [pairA]
  | lot :: r, seen => by
    unfold pairA
    cases h : seen.find? (fun z => decide (z.1 = ans lot)) with
    | some z =>
      have hz := List.find?_some h
      have hm := List.mem_of_find?_eq_some h
      simp only [reduceCtorEq, false_iff]
      rintro ⟨_, h2⟩
      exact h2 lot List.mem_cons_self z hm (of_decide_eq_true hz)
    | none =>
      simp only
      rw [pair_none r]
      have hn : ∀ z ∈ seen, z.1 ≠ ans lot := fun z hz => by
        have := List.find?_eq_none.mp h z hz
        simpa using this
      rw [List.pairwise_cons]
      constructor
      · rintro ⟨h1, h2⟩
        refine ⟨⟨fun a ha => fun e => ?_, h1⟩, fun x hx z hz => ?_⟩
        · exact h2 a ha (ans lot, lot) (by simp) e
        · rcases List.mem_cons.mp hx with rfl | hx
          · exact hn z hz
          · exact h2 x hx z (List.mem_append_left _ hz)
      · rintro ⟨⟨h0, h1⟩, h2⟩
        refine ⟨h1, fun x hx z hz => ?_⟩
        rcases List.mem_append.mp hz with hz | hz
        · exact h2 x (List.mem_cons_of_mem _ hx) z hz
        · rw [List.mem_singleton.mp hz]
          exact h0 x hx
theorem ans_snoc (tests : List (List Int)) (x : List Int) (l : List Int) : ansOf (tests ++ [x]) l = ansOf tests l ++ [if x.any (fun y => decide (y ∈ l)) = true then 1 else 0] := by
  unfold ansOf
  rw [List.map_append]
  rfl
/-- more tests tell no less -/
theorem tells_more {tests : List (List Int)} {x : List Int} {l : List (List Int)} (h : pairA (ansOf tests) l [] = none) : pairA (ansOf (tests ++ [x])) l [] = none := by
  rw [pair_none] at h ⊢
  refine ⟨h.1.imp fun {a b} hne e => hne ?_, fun _ _ z hz => nomatch hz⟩
  rw [ans_snoc, ans_snoc] at e
  exact (List.append_inj e (by rw [ans_len, ans_len])).1
def fitsL (n : Int) (m : Nat) (tests : List (List Int)) (told : List Int) : List (List Int) := (lotsTo n m).filter fun l => decide (ansOf tests l = told)
structure okTests (n : Int) (tests : List (List Int)) : Prop where
  ok : ∀ l ∈ tests, okLot n l
  len : tests.length ≤ 10
end K43

set_option Elab.async false
set_option linter.all false
set_option maxRecDepth 100000
set_option maxHeartbeats 4000000
namespace K43
open PySem PySem.Spec PyProof.Rows L2 Spr
def isI : D → Bool
  | .int _ => true
  | _ => false
abbrev inB (d : D) (lo hi : Int) : Bool := inBd lo hi d
def isT (d : D) (lo hi : Int) : Bool := match d with
  | .tup l => decide (lo ≤ (l.length : Int)) && decide ((l.length : Int) ≤ hi)
  | _ => false
def tgd : D → Bool
  | .tup l => l.all tyGood
  | d => tyGood d
theorem tgd_ty {d : D} (h : tgd d = true) : tyGood d = true := by
  cases d <;> first | rfl | exact h
def F_isint : Fs := fun ds r => ∃ d, tyGood d = true ∧ ds = [d] ∧ r = .ok (.bl (isI d))
def F_within : Fs := fun ds r => ∃ (d : D) (lo hi : Int), tyGood d = true ∧ ds = [d, .int lo, .int hi] ∧ r = .ok (.bl (inB d lo hi))
def F_istup : Fs := fun ds r => ∃ (d : D) (lo hi : Int), tyGood d = true ∧ ds = [d, .int lo, .int hi] ∧ r = .ok (.bl (isT d lo hi))
abbrev eN (C : Addr) : Er := ⟨C, []⟩
def di : D → Int
  | .int i => i
  | _ => 0
def asc (l : List Int) : Bool := (List.range (l.length - 1)).all fun i => decide (l.getD i 0 < l.getD (i + 1) 0)
def lotB (n : Int) : D → Bool
  | .tup l => decide ((l.length : Int) ≤ n) && (l.all (inBd 0 (n - 1)) && asc (l.map di))
  | _ => false
def testsB (n : Int) : D → Bool
  | .tup l => decide (l.length ≤ 40) && l.all (lotB n)
  | _ => false
def tgd2 : D → Bool
  | .tup l => l.all tgd
  | d => tyGood d
theorem tgd2_ty {d : D} (h : tgd2 d = true) : tyGood d = true := by
  cases d <;> first | rfl | exact h
def F_ist : Fs := fun ds r => ∃ n d, 0 ≤ n ∧ n ≤ 24 ∧ tgd2 d = true ∧ ds = [.int n, d] ∧ r = .ok (.bl (testsB n d))
def F_ct (e : Er) : Fs := fun ds r => ∃ n d, 0 ≤ n ∧ n ≤ 24 ∧ tgd2 d = true ∧ ds = [.int n, d] ∧ r = if testsB n d then .ok .non else .error e
def F_ao : Fs := fun ds r => ∃ tests bad, tests.length ≤ 50 ∧ (∀ l ∈ tests, l.length ≤ 50) ∧ ds = [.tup (tests.map tupD), tupD bad] ∧ r = .ok (.pt ((ansOf tests bad).map .int))
def F_an (e : Er) : Fs := fun ds r => (∃ n d b, 0 ≤ n ∧ n ≤ 24 ∧ tgd2 d = true ∧ testsB n d = false ∧ ds = [.int n, d, b] ∧ r = .error e) ∨ (∃ n tests b, 0 ≤ n ∧ n ≤ 24 ∧ okTests n tests ∧ okLot n b ∧ ds = [.int n, .tup (tests.map tupD), tupD b] ∧ r = .ok (.pt ((ansOf tests b).map .int)))
def F_cm (e : Er) : Fs := fun ds r => ∃ n d, tyGood d = true ∧ ds = [.int n, d] ∧ r = if inB d 0 n then .ok .non else .error e
theorem di_ints (ns : List Int) : (ns.map D.int).map di = ns := by
  rw [List.map_map]
  exact List.map_id ns
theorem tgd_tup (ns : List Int) : tgd (tupD ns) = true := by
  show (ns.map D.int).all tyGood = true
  rw [List.all_eq_true]
  intro d hd
  obtain ⟨x, hx, rfl⟩ := List.mem_map.mp hd
  rfl
theorem getI {ns : List Int} {i : Nat} (h : i < ns.length) : (ns.map D.int).getD i .non = .int (ns.getD i 0) := by
  rw [List.getD_eq_getElem?_getD, List.getD_eq_getElem?_getD, List.getElem?_map, List.getElem?_eq_getElem h]
  rfl
theorem drop_getD (ns : List Int) (i : Nat) : (ns.drop 1).getD i 0 = ns.getD (i + 1) 0 := by
  rw [List.getD_eq_getElem?_getD, List.getD_eq_getElem?_getD, List.getElem?_drop, Nat.add_comm]
theorem cut_from {l : List D} {a : Nat} (h : a ≤ l.length) : Spr.cutD l (some (a : Int)) none = l.drop a := by
  unfold Spr.cutD
  rw [HT.sIx_none, HT.sIx_nat, Nat.min_eq_left h, List.take_of_length_le (by rw [List.length_drop]; exact Nat.le_refl _)]
theorem cut1 (ns : List Int) : Spr.cutD (ns.map D.int) (some 1) none = (ns.drop 1).map D.int := by
  by_cases h0 : 1 ≤ ns.length
  · rw [List.map_drop]
    exact cut_from (l := ns.map D.int) (a := 1) (by simpa using h0)
  · have : ns = [] := List.length_eq_zero_iff.mp (by omega)
    rw [this]; rfl
theorem asc_of {l : List Int} (h : l.Pairwise (· < ·)) : asc l = true := by
  unfold asc
  rw [List.all_eq_true]
  intro i hi
  have hi := List.mem_range.mp hi
  have h1 : i < l.length := by omega
  have h2 : i + 1 < l.length := by omega
  rw [List.getD_eq_getElem?_getD, List.getD_eq_getElem?_getD, List.getElem?_eq_getElem h1, List.getElem?_eq_getElem h2]
  exact decide_eq_true (List.pairwise_iff_getElem.mp h i (i + 1) h1 h2 (by omega))
theorem lot_ok {n : Int} {l : List Int} (h : okLot n l) : lotB n (tupD l) = true := by
  show (decide (((l.map D.int).length : Int) ≤ n) && ((l.map D.int).all (inBd 0 (n - 1)) && asc ((l.map D.int).map di))) = true
  rw [List.length_map, di_ints, asc_of h.up, all_ints h.bd, decide_eq_true h.len]
  rfl
theorem tests_ok {n : Int} {l : List (List Int)} (h : ∀ x ∈ l, okLot n x) (hl : l.length ≤ 40) : testsB n (.tup (l.map tupD)) = true := by
  show (decide ((l.map tupD).length ≤ 40) && (l.map tupD).all (lotB n)) = true
  rw [List.length_map, decide_eq_true hl, Bool.true_and, List.all_eq_true]
  intro d hd
  obtain ⟨x, hx, rfl⟩ := List.mem_map.mp hd
  exact lot_ok (h x hx)
theorem tgd2_tups (l : List (List Int)) : tgd2 (.tup (l.map tupD)) = true := by
  show (l.map tupD).all tgd = true
  rw [List.all_eq_true]
  intro d hd
  obtain ⟨x, _, rfl⟩ := List.mem_map.mp hd
  exact tgd_tup x
theorem tests_f {n : Int} {l : List D} {j : Nat} {d : D} (hd : l[j]? = some d) (h : lotB n d = false) : testsB n (.tup l) = false := by
  show (decide (l.length ≤ 40) && l.all (lotB n)) = false
  have : l.all (lotB n) = false := List.all_eq_false.mpr ⟨d, List.mem_of_getElem? hd, by rw [h]; decide⟩
  rw [this, Bool.and_false]
theorem room_hu {k : Nat} {A : Around} (r : RoomG k A) : A.units + 64 < cLine := by have := r.un; omega
theorem room_h65 {k : Nat} {A : Around} (r : RoomG k A) : A.units + 65 < cLine := by have := r.un; omega
theorem room_h2 {k : Nat} {A : Around} (r : RoomG k A) : A.units + 2 < cLine := by have := r.un; omega
theorem room_h1 {k : Nat} {A : Around} (r : RoomG k A) : A.units + 1 < cLine := by have := r.un; omega
theorem in_bd {n lo hi : Int} (h1 : lo ≤ n) (h2 : n ≤ hi) : inB (.int n) lo hi = true := by
  show (decide (lo ≤ n) && decide (n ≤ hi)) = true
  rw [decide_eq_true h1, decide_eq_true h2]; rfl
section
variable {P : Program} {w : World} {K : PySem.W.Frag} {mg : Str → Option Value} {base : Heap} {f : Addr} {fd : FuncData}
abbrev FnP (K : PySem.W.Frag) (x : Str) (st : Stmt) (f : Addr) (fd : FuncData) : Prop := L2.Fun K x x st f fd
structure Fr (mg : Str → Option Value) : Prop where
  int : mg "int" = none
  bool : mg "bool" = none
  isi : mg "isinstance" = none
  range : mg "range" = none
  len : mg "len" = none
  abs : mg "abs" = none
  ve : mg "ValueError" = none
  tuple : mg "tuple" = none
  list : mg "list" = none
  all : mg "all" = none
  any : mg "any" = none
  zip : mg "zip" = none
  min : mg "min" = none
  sorted : mg "sorted" = none
  repr : mg "repr" = none
  mt : ∃ t, mg "MOST_THINGS" = some (.int 24 t)
  mr : ∃ t, mg "MOST_TRIED" = some (.int 200000 t)
theorem sc_isint : FnScope ["thing"] ["thing"] (defScope st_is_integer) := ⟨rfl, rfl, rfl, by decide +kernel, rfl, by decide +kernel, by decide +kernel⟩
theorem ok_isint (B : Fr mg) (Fn : FnP K "is_integer" st_is_integer f fd) : FnG P w K mg base (L2.CX P w) 1 f fd ["thing"] (upP K F_isint) := by
  refine mkP Fn sc_isint (by rintro _ _ ⟨d, _, rfl, _⟩; rfl) fun cdv A outer s H E S0 H0 ds r hr hF hx => ?_
  obtain ⟨d, hd, rfl, rfl⟩ := hF
  refine b_one (s_ret (p_and (p_blt (cb_isa (n := "int") hd) (a_cons (p_var 0) (a_cons (p_ty B.int (by decide +kernel)) a_nil)) B.isi (by decide +kernel)) (fun hk => (p_one (p_notV (p_blt (cb_isa (n := "bool") hd) (a_cons (p_var 0) (a_cons (p_ty B.bool (by decide +kernel)) a_nil)) B.isi (by decide +kernel)))))) ?_)
  show Except.ok (D.bl (isI d)) = Except.ok (D.bl _)
  cases d <;> first | rfl | (cases hd; done)
theorem sc_within : FnScope ["thing", "least", "most"] ["thing", "least", "most"] (defScope st_is_within) := ⟨rfl, rfl, rfl, by decide +kernel, rfl, by decide +kernel, by decide +kernel⟩
theorem ok_within (G : FoP P w K mg base 1 "is_integer" F_isint) (Fn : FnP K "is_within" st_is_within f fd) : FnG P w K mg base (L2.CX P w) 2 f fd ["thing", "least", "most"] (upP K F_within) := by
  refine mkP Fn sc_within (by rintro _ _ ⟨d, _, _, _, rfl, _⟩; rfl) fun cdv A outer s H E S0 H0 ds r hr hF hx => ?_
  obtain ⟨d, lo, hi, hd, rfl, rfl⟩ := hF
  cases hI : isI d with
  | true =>
    obtain ⟨i, rfl⟩ : ∃ i, d = .int i := by cases d <;> first | exact ⟨_, rfl⟩ | cases hI
    refine b_one (s_ret (p_and (p_call G hr (a_cons (p_var 0) a_nil) ⟨_, hd, rfl, rfl⟩) (fun hk => (p_one (p_chain (p_var 1) (p_var 0) (fun hk => (p_var 2)) c_le (fun hk => c_le))))) ?_)
    show Except.ok (D.bl _) = Except.ok (D.bl _)
    simp [inB, inBd, isI]
  | false =>
    refine b_one (s_ret (p_and (k' := true) (p_call G hr (a_cons (p_var 0) a_nil) ⟨_, hd, rfl, by rw [hI]⟩) (fun hk => by cases hk)) ?_)
    show Except.ok (D.bl _) = Except.ok (D.bl _)
    cases d <;> first | rfl | (cases hI; done)
def isTp : D → Bool
  | .tup _ => true
  | _ => false
theorem isaT {d : D} (h : tyGood d = true) : isaN (tyName d) "tuple" = isTp d := by
  cases d <;> first | (cases h; done) | (simp only [tyName, isTp]; decide)
theorem sc_istup : FnScope ["thing", "least", "most"] ["thing", "least", "most"] (defScope st_is_tuple) := ⟨rfl, rfl, rfl, by decide +kernel, rfl, by decide +kernel, by decide +kernel⟩
theorem ok_istup (B : Fr mg) (Fn : FnP K "is_tuple" st_is_tuple f fd) : FnG P w K mg base (L2.CX P w) 1 f fd ["thing", "least", "most"] (upP K F_istup) := by
  refine mkP Fn sc_istup (by rintro _ _ ⟨d, _, _, _, rfl, _⟩; rfl) fun cdv A outer s H E S0 H0 ds r hr hF hx => ?_
  obtain ⟨d, lo, hi, hd, rfl, rfl⟩ := hF
  cases hT : isTp d with
  | true =>
    obtain ⟨l, rfl⟩ : ∃ l, d = .tup l := by cases d <;> first | exact ⟨_, rfl⟩ | cases hT
    refine b_one (s_ret (p_and (k := true) (p_is (p_blt (cb_isa (n := "tuple") hd) (a_cons (p_var 0) (a_cons (p_ty B.tuple (by decide +kernel)) a_nil)) B.isi (by decide +kernel)) (by rw [isaT hd, hT])) (fun hk => (p_one (p_chain (p_var 1) (p_blt cb_lenT (a_cons (p_var 0) a_nil) B.len (by decide +kernel)) (fun hk => (p_var 2)) c_le (fun hk => c_le))))) ?_)
    rfl
  | false =>
    refine b_one (s_ret (p_and (k := false) (k' := true) (p_is (p_blt (cb_isa (n := "tuple") hd) (a_cons (p_var 0) (a_cons (p_ty B.tuple (by decide +kernel)) a_nil)) B.isi (by decide +kernel)) (by rw [isaT hd, hT])) (fun hk => by cases hk)) ?_)
    show Except.ok (D.bl _) = Except.ok (D.bl _)
    cases d <;> first | rfl | cases hT
theorem sc_ist : FnScope ["things", "thing", "lot", "one", "a", "b"] ["things", "thing"] (defScope st_is_tests) := ⟨rfl, rfl, rfl, by decide +kernel, rfl, by decide +kernel, by decide +kernel⟩
theorem ok_ist (B : Fr mg) (G1 : FoP P w K mg base 2 "is_within" F_within) (G2 : FoP P w K mg base 1 "is_tuple" F_istup) (Fn : FnP K "is_tests" st_is_tests f fd) : FnG P w K mg base (L2.CX P w) 3 f fd ["things", "thing"] (upP K F_ist) := by
  refine mkP Fn sc_ist (by rintro _ _ ⟨_, _, _, _, _, rfl, _⟩; rfl) fun cdv A outer s H E S0 H0 ds r hr hF hx => ?_
  obtain ⟨n, d, n0, n1, hg, rfl, rfl⟩ := hF
  obtain ⟨tk, hmt⟩ := B.mt
  cases hT : isT d 0 40 with
  | false =>
    refine b_cons (s_if (k := true) (t_pw (w_or (k := false) (k' := true) (t_is (t_not (t_val (p_call G1 hr (a_cons (p_var 0) (a_cons p_int (a_cons (p_globI hmt) a_nil))) ⟨_, _, _, rfl, rfl, rfl⟩))) (by rw [in_bd n0 n1]; rfl)) (fun hk => w_or1 (t_is (t_not (t_val (p_call G2 hr (a_cons (p_var 1) (a_cons p_int (a_cons p_int a_nil))) ⟨_, _, _, tgd2_ty hg, rfl, rfl⟩))) (by rw [hT]; rfl))))) (fun hk => ?_) (fun hk => by cases hk))
    refine b_one (s_ret p_bl ?_)
    show Except.ok (D.bl _) = Except.ok (D.bl _)
    cases d <;> first | rfl | skip
    rename_i l
    unfold isT at hT
    have : ¬ l.length ≤ 40 := by simp at hT; omega
    show Except.ok (D.bl (decide (l.length ≤ 40) && _)) = _
    rw [decide_eq_false this]
    rfl
  | true =>
    obtain ⟨l, rfl⟩ : ∃ l, d = .tup l := by cases d <;> first | exact ⟨_, rfl⟩ | cases hT
    have hl : l.length ≤ 40 := by unfold isT at hT; simp at hT; omega
    refine b_cons (s_if (k := false) (t_pw (w_or (k := false) (k' := false) (t_is (t_not (t_val (p_call G1 hr (a_cons (p_var 0) (a_cons p_int (a_cons (p_globI hmt) a_nil))) ⟨_, _, _, rfl, rfl, rfl⟩))) (by rw [in_bd n0 n1]; rfl)) (fun hk => w_or1 (t_is (t_not (t_val (p_call G2 hr (a_cons (p_var 1) (a_cons p_int (a_cons p_int a_nil))) ⟨_, _, _, tgd2_ty hg, rfl, rfl⟩))) (by rw [hT]; rfl))))) (fun hk => by cases hk) (fun hk => ?_))
    refine b_nil ?_
    refine b_cons (s_forT 2 (ds := l) (fun j Γ => (∀ m, m < j → lotB n (l.getD m .non) = true) ∧ ∃ e2 e3 e4 e5, Γ = [some (.im (.int n)), some (.im (.tup l)), e2, e3, e4, e5]) (p_var 1) ⟨(fun m hm => by omega), none, none, none, none, rfl⟩ (fun j d Γ hd hI => ?_) (fun Γ hI => ?_) PassesOwn.leaving sc_ist.nd)
    · obtain ⟨hJ, e2, e3, e4, e5, rfl⟩ := hI
      have hg1 : tgd d = true := List.all_eq_true.mp hg d (List.mem_of_getElem? hd)
      cases hT2 : isT d 0 n with
      | false =>
        refine b_cons (s_if (k := true) (t_pw (w_or (k := true) (k' := false) (t_is (t_not (t_val (p_call G2 hr (a_cons (p_var 2) (a_cons p_int (a_cons (p_var 0) a_nil))) ⟨_, _, _, tgd_ty hg1, rfl, rfl⟩))) (by rw [hT2]; rfl)) (fun hk => by cases hk))) (fun hk => ?_) (fun hk => by cases hk))
        refine b_one (s_ret p_bl ?_)
        show Except.ok (D.bl _) = Except.ok (D.bl _)
        rw [tests_f hd (by
          cases d <;> first | rfl | skip
          rename_i u
          unfold isT at hT2
          show (decide ((u.length : Int) ≤ n) && _) = false
          rw [decide_eq_false (by simp at hT2; omega)]
          rfl)]
      | true =>
        obtain ⟨u, rfl⟩ : ∃ u, d = .tup u := by cases d <;> first | exact ⟨_, rfl⟩ | cases hT2
        have hul : (u.length : Int) ≤ n := by unfold isT at hT2; simp at hT2; omega
        have hgu : ∀ x ∈ u, tyGood x = true := List.all_eq_true.mp hg1
        have es : lotB n (.tup u) = (u.all (inBd 0 (n - 1)) && asc (u.map di)) := by
          show (decide ((u.length : Int) ≤ n) && _) = _
          rw [decide_eq_true hul, Bool.true_and]
        have tst : ∀ {k : Bool}, (!u.all (inBd 0 (n - 1))) = k → Pt (Bx P w K mg base ["things", "thing", "lot", "one", "a", "b"] "is_tests" (defScope st_is_tests) f cdv A outer s H E) ⟨S0, H0, [], []⟩ [some (.im (.int n)), some (.im (.tup l)), some (.im (.tup u)), e3, e4, e5] (match (match (defBody st_is_tests).getD 1 (.Pass ⟨0, 0, 0, 0⟩) with | .For _ _ b _ _ => b.getD 0 (.Pass ⟨0, 0, 0, 0⟩) | s => s) with | .If t _ _ _ => t | _ => .Constant .none 0 ⟨0, 0, 0, 0⟩) k := fun {k} hk0 =>
          t_pw (w_or (k := false) (k' := k) (t_is (t_not (t_val (p_call G2 hr (a_cons (p_var 2) (a_cons p_int (a_cons (p_var 0) a_nil))) ⟨_, _, _, tgd_ty hg1, rfl, rfl⟩))) (by rw [hT2]; rfl))
            (fun hk => w_or1 (t_is (t_not (t_val (p_blt (cb_all (bs := u.map fun x => inB x 0 (n - 1))) (a_cons (p_is (n_p (n_lcT (own := [("one", 3)]) (j := 3) (xs := u) id (fun x => .bl (inB x 0 (n - 1))) (fun _ => true) (p_is (p_var 2) (by rw [List.map_id])) (by omega) (blkB_ok (by rfl)) (fun _ _ _ _ _ => pg_name (i := 3) sc_ist.nd rfl (Or.inl rfl)) (fun i hi _ _ _ _ _ => ts_nil) (fun x hi _ _ _ _ _ _ => (p_call G1 hr (a_cons (p_var 3) (a_cons p_int (a_cons (p_bin (p_var 0) p_int bn_sub) a_nil))) ⟨_, _, _, hgu x hi, rfl, rfl⟩)) sc_ist.nd)) (by rw [filt_all, List.map_map]; rfl)) a_nil) B.all (by decide +kernel)))) (by rw [List.all_map]; exact hk0))))
        cases hA : u.all (inBd 0 (n - 1)) with
        | false =>
          refine b_cons (s_if (k := true) (tst (by rw [hA]; rfl)) (fun hk => ?_) (fun hk => by cases hk))
          refine b_one (s_ret p_bl ?_)
          show Except.ok (D.bl _) = Except.ok (D.bl _)
          rw [tests_f hd (by rw [es, hA]; rfl)]
        | true =>
          refine b_cons (s_if (k := false) (tst (by rw [hA]; rfl)) (fun hk => by cases hk) (fun hk => ?_))
          refine b_nil ?_
          obtain ⟨ns, rfl, hn⟩ := ints_of hA
          rw [List.length_map] at hul
          rw [hA, Bool.true_and, di_ints] at es
          have hm : min (ns.map D.int).length ((ns.drop 1).map D.int).length = ns.length - 1 := by simp
          have e1 : ∀ i, i < min (ns.map D.int).length ((ns.drop 1).map D.int).length → i < ns.length := fun i hi => by rw [hm] at hi; omega
          have e2' : ∀ i, i < min (ns.map D.int).length ((ns.drop 1).map D.int).length → i < (ns.drop 1).length := fun i hi => by rw [hm] at hi; rw [List.length_drop]; exact hi
          refine b_one (s_if (k := !asc ns) (t_is (t_not (t_val (p_blt (cb_all (bs := (List.range (ns.length - 1)).map fun i => decide (ns.getD i 0 < ns.getD (i + 1) 0))) (a_cons (p_is (n_p (n_lcS (.tp (.cons (.nm 4) (.cons (.nm 5) .nil))) (own := [("a", 4), ("b", 5)]) (fun i => .bl (decide (ns.getD i 0 < ns.getD (i + 1) 0))) (fun _ => true)
            (RZ.pi_zipA rfl B.zip (a_cons (p_var 2) (a_cons (p_is (p_sliceT (p_var 2) (o_some p_int) o_none) (by rw [cut1])) a_nil))) (srcp_zipT (ds := ns.map .int) (es := (ns.drop 1).map .int) fun _ _ _ h => h) (by rw [hm]; omega) (fun i hi => ⟨trivial, trivial, trivial⟩) (blkB_ok (by rfl)) (by decide)
            (fun _ _ _ _ _ => pg_tup rfl (pgs_cons (pg_name (i := 4) sc_ist.nd rfl (Or.inl rfl)) (pgs_cons (pg_name (i := 5) sc_ist.nd rfl (Or.inl rfl)) pgs_nil))) (fun i hi _ _ _ _ _ => ts_nil)
            (fun i hi _ _ _ _ _ _ => p_is (p_cmp (p_is (p_var 4) (getI (e1 i hi))) (p_is (p_var 5) (getI (e2' i hi))) c_lt) (by rw [drop_getD])) sc_ist.nd)) (by rw [hm]; unfold accE; rw [List.filter_eq_self.mpr (fun _ _ => rfl), List.map_map]; rfl)) a_nil) B.all (by decide +kernel)))) (by rw [List.all_map]; rfl)) (fun hk => ?_) (fun hk => ?_))
          · refine b_one (s_ret p_bl ?_)
            show Except.ok (D.bl _) = Except.ok (D.bl _)
            rw [tests_f hd (by rw [es]; simpa using hk)]
          · refine b_nil ⟨fun m hm2 => ?_, _, _, _, _, rfl⟩
            rcases Nat.lt_or_eq_of_le (Nat.le_of_lt_succ hm2) with z | z
            · exact hJ m z
            · rw [z, List.getD_eq_getElem?_getD, hd]
              show lotB n (.tup (ns.map D.int)) = true
              rw [es]
              simpa using hk
    · obtain ⟨hJ, e2, e3, e4, e5, rfl⟩ := hI
      refine b_one (s_ret p_bl ?_)
      show Except.ok (D.bl (decide (l.length ≤ 40) && l.all (lotB n))) = Except.ok (D.bl _)
      rw [decide_eq_true hl, Bool.true_and]
      have : l.all (lotB n) = true := List.all_eq_true.mpr fun d hd => by
        obtain ⟨i, hi, e⟩ := List.mem_iff_getElem.mp hd
        have h := hJ i hi
        rw [List.getD_eq_getElem?_getD, List.getElem?_eq_getElem hi] at h
        rw [← e]
        exact h
      rw [this]
theorem sc_ct : FnScope ["things", "tests"] ["things", "tests"] (defScope st_check_tests) := ⟨rfl, rfl, rfl, by decide +kernel, rfl, by decide +kernel, by decide +kernel⟩
theorem ok_ct {C fI cc cda : Addr} (G : FoP P w K mg base 3 "is_tests" F_ist) (T : XTxt K mg P "NoTests" C fI cc cda) (F0 : XFn0 K fI cc cda) (Fn : FnP K "check_tests" st_check_tests f fd) : FnG P w K mg base (L2.CX P w) 4 f fd ["things", "tests"] (upP K (F_ct (eN C))) := by
  refine mkP Fn sc_ct (by rintro _ _ ⟨_, _, _, _, _, rfl, _⟩; rfl) fun cdv A outer s H E S0 H0 ds r hr hF hx => ?_
  obtain ⟨n, d, n0, n1, hg, rfl, rfl⟩ := hF
  refine b_one (s_if (t_not (t_val (p_call G hr (a_cons (p_var 0) (a_cons (p_var 1) a_nil)) ⟨n, d, n0, n1, hg, rfl, rfl⟩))) (fun hk => ?_) (fun hk => ?_))
  · exact b_one (s_raise0 hx T F0 hr (by rw [if_neg (by simpa using hk)]))
  · exact b_nil (by show _ = _; rw [if_pos (by simpa using hk)])
theorem sc_cm : FnScope ["things", "most"] ["things", "most"] (defScope st_check_most) := ⟨rfl, rfl, rfl, by decide +kernel, rfl, by decide +kernel, by decide +kernel⟩
theorem ok_cm {C fI cc cda : Addr} (G : FoP P w K mg base 2 "is_within" F_within) (T : XTxt K mg P "NoNumber" C fI cc cda) (F0 : XFn0 K fI cc cda) (Fn : FnP K "check_most" st_check_most f fd) : FnG P w K mg base (L2.CX P w) 3 f fd ["things", "most"] (upP K (F_cm (eN C))) := by
  refine mkP Fn sc_cm (by rintro _ _ ⟨_, _, _, rfl, _⟩; rfl) fun cdv A outer s H E S0 H0 ds r hr hF hx => ?_
  obtain ⟨n, d, hg, rfl, rfl⟩ := hF
  refine b_one (s_if (t_not (t_val (p_call G hr (a_cons (p_var 1) (a_cons p_int (a_cons (p_var 0) a_nil))) ⟨_, _, _, hg, rfl, rfl⟩))) (fun hk => ?_) (fun hk => ?_))
  · exact b_one (s_raise0 hx T F0 hr (by rw [if_neg (by simpa using hk)]))
  · exact b_nil (by show _ = _; rw [if_pos (by simpa using hk)])
theorem ans_any (l bad : List Int) : ((l.map fun x => decide (x ∈ bad)).any id) = l.any (fun x => decide (x ∈ bad)) := by
  rw [List.any_map]
  rfl
theorem sc_ao : FnScope ["tests", "bad", "lot", "one"] ["tests", "bad"] (defScope st_answers_of) := ⟨rfl, rfl, rfl, by decide +kernel, rfl, by decide +kernel, by decide +kernel⟩
theorem ok_ao (B : Fr mg) (Fn : FnP K "answers_of" st_answers_of f fd) : FnG P w K mg base (L2.CX P w) 1 f fd ["tests", "bad"] (upP K F_ao) := by
  refine mkP Fn sc_ao (by rintro _ _ ⟨_, _, _, _, rfl, _⟩; rfl) fun cdv A outer s H E S0 H0 ds r hr hF hx => ?_
  obtain ⟨tests, bad, h1, h2, rfl, rfl⟩ := hF
  exact b_one (s_ret (p_is (p_bty cb_tupleTP (a_cons (n_p (n_lcT (own := [("lot", 2)]) (j := 2) (xs := tests) tupD (fun lot => .int (if lot.any (fun x => decide (x ∈ bad)) = true then 1 else 0)) (fun _ => true) (p_var 0) (by omega) (blkB_ok (by rfl)) (fun _ _ _ _ _ => pg_name (i := 2) sc_ao.nd rfl (by first | exact Or.inl rfl | exact Or.inr rfl)) (fun i hi _ _ _ _ _ => ts_nil)
    (fun lot hl _ _ _ _ _ _ => p_is (p_bty cb_intb (a_cons (p_blt (cb_any (bs := lot.map fun x => decide (x ∈ bad))) (a_cons (p_is (n_p (n_lcT (own := [("one", 3)]) (j := 3) (xs := lot) D.int (fun x => .bl (decide (x ∈ bad))) (fun _ => true) (p_var 2) (by have := h2 lot hl; omega) (blkB_ok (by rfl)) (fun _ _ _ _ _ => pg_name (i := 3) sc_ao.nd rfl (by first | exact Or.inl rfl | exact Or.inr rfl)) (fun i hi _ _ _ _ _ => ts_nil) (fun x hx _ _ _ _ _ _ => p_cmp (p_var 3) (p_var 1) c_inT) sc_ao.nd)) (by rw [filt_all, List.map_map]; rfl)) a_nil) B.any (by decide +kernel)) a_nil) B.int (by decide +kernel)) (by rw [ans_any])) sc_ao.nd)) a_nil) B.tuple (by decide +kernel)) (by rw [filt_all]; unfold ansOf; rw [List.map_map]; rfl)) rfl)
theorem sc_an : FnScope ["things", "tests", "bad"] ["things", "tests", "bad"] (defScope st_answers) := ⟨rfl, rfl, rfl, by decide +kernel, rfl, by decide +kernel, by decide +kernel⟩
theorem ok_an {C : Addr} (G1 : FoP P w K mg base 4 "check_tests" (F_ct (eN C))) (G2 : FoP P w K mg base 3 "is_tests" F_ist) (G3 : FoP P w K mg base 1 "answers_of" F_ao) (Fn : FnP K "answers" st_answers f fd) : FnG P w K mg base (L2.CX P w) 5 f fd ["things", "tests", "bad"] (upP K (F_an (eN C))) := by
  refine mkP Fn sc_an (by rintro _ _ (⟨_, _, _, _, _, _, _, rfl, _⟩ | ⟨_, _, _, _, _, _, _, rfl, _⟩) <;> rfl) fun cdv A outer s H E S0 H0 ds r hr hF hx => ?_
  rcases hF with ⟨n, d, b, n0, n1, hg, ht, rfl, rfl⟩ | ⟨n, tests, b, n0, n1, ht, hb, rfl, rfl⟩
  · exact b_cons (s_callX hx G1 hr (a_cons (p_var 0) (a_cons (p_var 1) a_nil)) ⟨n, d, n0, n1, hg, rfl, rfl⟩ (fun d hd => by rw [ht] at hd; cases hd) (fun e0 he => by rw [ht] at he; cases he; rfl))
  · have h10 := ht.len
    refine b_cons (s_callX (r := .ok .non) hx G1 hr (a_cons (p_var 0) (a_cons (p_var 1) a_nil)) ⟨n, _, n0, n1, tgd2_tups tests, rfl, by rw [if_pos (tests_ok ht.ok (by omega))]⟩ (fun d hd => ?_) (fun e0 he => nomatch he))
    refine b_cons (s_if (k := false) (t_is (t_not (t_val (p_call G2 hr (a_cons (p_var 0) (a_cons (p_is (d' := .tup ([b].map tupD)) (p_tup (a_cons (p_var 2) a_nil)) rfl) a_nil)) ⟨n, _, n0, n1, tgd2_tups [b], rfl, rfl⟩))) (by rw [tests_ok (l := [b]) (fun x hx => by rw [List.mem_singleton.mp hx]; exact hb) (by show 1 ≤ 40; decide)]; rfl)) (fun hk => by cases hk) (fun hk => ?_))
    refine b_nil ?_
    exact b_one (s_ret (p_call G3 hr (a_cons (p_var 1) (a_cons (p_var 2) a_nil)) ⟨tests, b, by omega, fun l hl => by have := (ht.ok l hl).len; omega, rfl, rfl⟩) rfl)
end
end K43

set_option Elab.async false
set_option linter.all false
set_option maxRecDepth 100000
set_option maxHeartbeats 4000000
namespace Spr
open PySem PySem.Spec PyProof.Rows L2
section
variable {X : Cx} {c : Cn} {Γ : Gm} {pos : Pos} {Po : Post} {x y : Str}
/-- xs.extend(ys), both lists of one's own -/
theorem s_extO (k j : Nat) {l m : List D} {p1 p2 p3 p4 : Pos} (hk : Γ[k]? = some (some (.ow l))) (hj : Γ[j]? = some (some (.ow m))) (hz : l.length + m.length ≤ 16000000) (hr : Po.nx (Γ.set k (some (.ow (l ++ m))))) (hN : X.N[k]? = some x := by rfl) (hN2 : X.N[j]? = some y := by rfl) (hv : Vis X.env.scope x := by first | exact Or.inl rfl | exact Or.inr (Or.inl rfl) | exact Or.inr (Or.inr rfl)) (hv2 : Vis X.env.scope y := by first | exact Or.inl rfl | exact Or.inr (Or.inl rfl) | exact Or.inr (Or.inr rfl))
    (hd2 : (y == ("__debug__" : Str)) = false := by decide) (hcd2 : (y == ("__classdict__" : Str)) = false := by decide) (hst : starEach [.Name y p4] X.env = (false, eval (.Name y p4) X.env) :: starEach [] X.env := by rfl)
    (hbm : ∀ ta, PA X [.Name y p4] ta → PE X (.Call (.Attribute (.Name x p1) "extend" p2) [.Name y p4] [] p3) (tBM X.K "list" rExtend (tVar k) ta) := by exact fun ta h => pe_bm PySem.F.plainAttrs_list PySem.F.slot_list_extend PySem.F.type_list_extend mt_extend (pe_var rfl (by first | exact Or.inl rfl | exact Or.inr (Or.inl rfl) | exact Or.inr (Or.inr rfl))) h)
    (hs : swapsWith (.Call (.Attribute (.Name x p1) "extend" p2) [.Name y p4] [] p3) none pos.line X.env = pure false := by rfl) : Sm X c Γ (.Expr (.Call (.Attribute (.Name x p1) "extend" p2) [.Name y p4] [] p3) pos) Po :=
  PS.wk (ps_expr (hbm _ (pa_cons (pe_var hN2 hv2 hd2 hcd2) pa_nil hst)) hs) fun D σ H ⟨S, t, q⟩ => by
    obtain ⟨a, xs, h1, h2, h3, h4⟩ := t.ow hk
    obtain ⟨b, ys, g1, g2, g3, g4⟩ := t.ow hj
    refine ⟨.ref a, h1, .inl ⟨rfl, xs, SqL.of h3⟩, .ref b, g1, a, b, xs, ys, rfl, rfl, h3, g3, by rw [h4.length, g4.length]; exact small_line hz, ?_⟩
    exact q.nx σ _ S _ (rl_upd h2) (t.change hk h1 h2 h3 (h4.append g4)) hr
end
end Spr
namespace K43
open PySem PySem.Spec PyProof.Rows L2 Spr
def F_lots : Fs := fun ds r => ∃ (n : Int) (m : Nat), 0 ≤ n ∧ n ≤ 6 ∧ m ≤ 3 ∧ ds = [.int n, .int m] ∧ r = .ok (.lst ((lotsTo n m).map tupD))
theorem getT {l : List (List Int)} {i : Nat} (h : i < l.length) : (l.map tupD).getD i .non = tupD (l.getD i []) := by
  rw [List.getD_eq_getElem?_getD, List.getD_eq_getElem?_getD, List.getElem?_map, List.getElem?_eq_getElem h]
  rfl
theorem memT {l : List (List Int)} {i : Nat} (h : i < l.length) : l.getD i [] ∈ l := by
  rw [List.getD_eq_getElem?_getD, List.getElem?_eq_getElem h]
  exact List.getElem_mem h
theorem cat_tup (u v : List Int) : D.tup (u.map D.int ++ v.map D.int) = tupD (u ++ v) := by
  unfold tupD
  rw [List.map_append]
theorem acc2_ext {n : Int} {m : Nat → Nat} (l : List (List Int)) (hm : ∀ i, i < l.length → m i = (n - start (l.getD i [])).toNat) : ∀ k, k ≤ l.length → acc2 m (fun _ _ => true) (fun i j => tupD (l.getD i [] ++ [start (l.getD i []) + (j : Int)])) (fun _ => true) k = ((l.take k).flatMap (ext n)).map tupD
  | 0, _ => rfl
  | k + 1, h => by
    have e : l.take (k + 1) = l.take k ++ [l.getD k []] := by
      rw [List.take_add_one, List.getD_eq_getElem?_getD, List.getElem?_eq_getElem (by omega)]
      rfl
    rw [e, List.flatMap_append, List.map_append, ← acc2_ext l hm k (by omega)]
    show acc2 m _ _ _ k ++ (if true = true then _ else _) = _
    rw [if_pos rfl, hm k (by omega), List.filter_eq_self.mpr (fun _ _ => rfl)]
    congr 1
    rw [List.flatMap_cons, List.flatMap_nil, List.append_nil]
    unfold ext
    rw [List.map_map]
    rfl
theorem last_at {l : List Int} (h : 0 < l.length) : (l.map D.int)[(l.map D.int).length - 1]? = some (.int (l.getD (l.length - 1) 0)) := by
  rw [List.length_map, List.getElem?_map, List.getD_eq_getElem?_getD, List.getElem?_eq_getElem (by omega)]
  rfl
section
variable {P : Program} {w : World} {K : PySem.W.Frag} {mg : Str → Option Value} {base : Heap} {f : Addr} {fd : FuncData}
theorem sc_lt : FnScope ["things", "most", "found", "here", "turn", "lot", "one"] ["things", "most"] (defScope st_lots_to) := ⟨rfl, rfl, rfl, by decide +kernel, rfl, by decide +kernel, by decide +kernel⟩
theorem ok_lt (B : Fr mg) (Fn : FnP K "lots_to" st_lots_to f fd) : FnG P w K mg base (L2.CX P w) 1 f fd ["things", "most"] (upP K F_lots) := by
  refine mkP Fn sc_lt (by rintro _ _ ⟨_, _, _, _, _, rfl, _⟩; rfl) fun cdv A outer s H E S0 H0 ds r hr hF hx => ?_
  obtain ⟨n, m, n0, n6, m3, rfl, rfl⟩ := hF
  obtain ⟨tk, hmr⟩ := B.mr
  refine b_cons (s_parO 2 3 (l := (lotsTo n 0).map tupD) (d2 := .lst ((level n 0).map tupD)) (n_is (n_lst (a_cons (p_tup a_nil) a_nil)) rfl) (p_is (p_lst (a_cons (p_tup a_nil) a_nil)) rfl) ?_ sc_lt.nd)
  refine b_cons (s_forR1 (n := (m : Int)) 4 (fun i Γ => ∃ e4 e5 e6, Γ = [some (.im (.int n)), some (.im (.int (m : Int))), some (.ow ((lotsTo n i).map tupD)), some (.im (.lst ((level n i).map tupD))), e4, e5, e6]) (a_cons (p_var 1) a_nil) (by constructor <;> omega) ⟨none, none, none, rfl⟩ (fun i Γ hi hI => ?_) (fun Γ hI => ?_) B.range PassesOwn.leaving sc_lt.nd)
  · obtain ⟨e4, e5, e6, rfl⟩ := hI
    obtain ⟨h20, h60⟩ := size_of (n := n) (j := i) n0 n6 (by omega)
    obtain ⟨h20', h60'⟩ := size_of (n := n) (j := i + 1) n0 n6 (by omega)
    have hln : ((level n i).map tupD).length = (level n i).length := List.length_map _
    have lt : ∀ j, j < ((level n i).map tupD).length → j < (level n i).length := fun j hj => by rw [hln] at hj; exact hj
    have iv : ∀ j, j < ((level n i).map tupD).length → Inv n ((level n i).getD j []) := fun j hj => (level_inv n0 i _ (memT (lt j hj))).1
    have il : ∀ j, j < ((level n i).map tupD).length → ((level n i).getD j []).length = i := fun j hj => (level_inv n0 i _ (memT (lt j hj))).2
    have mm : ∀ j, j < ((level n i).map tupD).length → min 6 (n - start ((level n i).getD j [])).toNat = (n - start ((level n i).getD j [])).toNat := fun j hj => by
      have := (iv j hj).s0
      omega
    refine b_cons (s_setLc2 3 (.nm 5) (.nm 6) [6] (own := [("lot", 5), ("one", 6)]) 6 (wi1 := fun a => iRng2 (tAs K ⟨S0, H0, [], []⟩ [some (.im (.int n)), some (.im (.int (m : Int))), some (.ow ((lotsTo n i).map tupD)), some (.im (.lst ((level n i).map tupD))), some (.im (.int (i : Int))), some (.im (((level n i).map tupD).getD a .non)), none] [.int (start ((level n i).getD a [])), .int n])) (m := fun j => min 6 (n - start ((level n i).getD j [])).toNat) (n := ((level n i).map tupD).length) (fun a b => tupD ((level n i).getD a [] ++ [start ((level n i).getD a []) + (b : Int)])) (fun _ => true) (fun _ _ => true)
      (pi_list (p_var 3)) (srcp_lst (ds := (level n i).map tupD) fun _ _ _ h => h) (by rw [hln]; omega) (fun _ => Nat.min_le_left _ _) (fun _ _ => trivial) (fun _ _ _ _ => trivial) (blkB_ok (by rfl)) (fun _ _ _ _ _ => pg_name (i := 5) sc_lt.nd rfl (by first | exact Or.inl rfl | exact Or.inr rfl)) (fun a ha _ _ _ _ _ => ts_nil)
      (fun a ha _ _ _ _ _ => pi_range2 rfl B.range (a_cons (p_if (d := .int (start ((level n i).getD a []))) (k := decide (0 < ((level n i).getD a []).length)) (t_is (t_cmp (p_blt cb_lenT (a_cons (p_is (p_var 5) (getT (lt a ha))) a_nil) B.len (by decide +kernel)) p_int c_gt) (by rw [List.length_map]; exact decide_eq_decide.mpr (by omega)))
        (fun hk => p_is (p_bin (p_ixT (p_is (p_var 5) (getT (lt a ha))) (p_neg p_int) (by exact atI_neg1 (last_at (of_decide_eq_true hk)))) p_int bn_add) (by unfold start; rw [if_pos (of_decide_eq_true hk)])) (fun hk => p_is p_int (by unfold start; rw [if_neg (of_decide_eq_false hk)]))) (a_cons (p_var 0) a_nil)))
      (fun a ha => by
        show SrcP K _ _ _ (min 6 (n - start ((level n i).getD a [])).toNat) (fun b => .int (start ((level n i).getD a []) + (b : Int)))
        rw [mm a ha]
        exact srcp_range2 (lo := start ((level n i).getD a [])) (n := n) (fun _ _ _ h => h) (by have := (iv a ha).s0; have := (iv a ha).sn; omega))
      (fun _ _ _ _ _ => pg_name (i := 6) sc_lt.nd rfl (by first | exact Or.inl rfl | exact Or.inr rfl)) (fun a b ha hb _ _ _ _ _ => ts_nil)
      (fun a b ha hb _ _ _ _ _ _ => p_is (p_bin (p_is (p_var 5) (getT (lt a ha))) (p_tup (a_cons (p_var 6) a_nil)) (bn_catT (by rw [List.length_map, il a ha]; show i + 1 ≤ _; omega))) (cat_tup _ [_])) (.inl ?_) sc_lt.nd)
    rw [acc2_ext (n := n) _ (fun j hj => mm j (by rw [hln]; exact hj)) _ (by rw [hln]; exact Nat.le_refl _), hln, List.take_length]
    have el : (level n i).flatMap (ext n) = level n (i + 1) := rfl
    rw [el]
    refine b_cons (s_extO 2 3 rfl rfl (by rw [List.length_map, List.length_map]; omega) ?_)
    have ef : (lotsTo n i).map tupD ++ (level n (i + 1)).map tupD = (lotsTo n (i + 1)).map tupD := by
      show _ = (lotsTo n i ++ level n (i + 1)).map tupD
      rw [List.map_append]
    rw [ef]
    refine s_freeze 3 rfl ?_
    refine b_one (s_if (k := false) (t_is (t_cmp (p_lenO 2 rfl B.len) (p_globI hmr) c_gt) (by rw [List.length_map]; exact decide_eq_false (by omega))) (fun hk => by cases hk) (fun hk => ?_))
    exact b_nil ⟨_, _, _, rfl⟩
  · obtain ⟨e4, e5, e6, rfl⟩ := hI
    rw [Int.toNat_natCast]
    exact b_one (s_retO 2 rfl rfl)
end
end K43

set_option Elab.async false
set_option linter.all false
set_option maxRecDepth 100000
set_option maxHeartbeats 4000000
namespace K43
open PySem PySem.Spec PyProof.Rows L2 Spr
def pairD : Option (List Int × List Int) → D
  | none => .non
  | some z => .tup [tupD z.1, tupD z.2]
structure okCall (n : Int) (m : Nat) (tests : List (List Int)) : Prop where
  n0 : 0 ≤ n
  n6 : n ≤ 6
  m3 : m ≤ 3
  mn : (m : Int) ≤ n
  t : okTests n tests
def F_pa : Fs := fun ds r => ∃ n m tests, okCall n m tests ∧ ds = [.int n, .tup (tests.map tupD), .int (m : Int)] ∧ r = .ok (pairD (pairA (ansOf tests) (lotsTo n m) []))
/-- defs of things, tests, most -/
def F_ta (eT eN : Er) (val : Option (List Int × List Int) → D) : Fs := fun ds r => (∃ n d q, 0 ≤ n ∧ n ≤ 24 ∧ tgd2 d = true ∧ testsB n d = false ∧ ds = [.int n, d, q] ∧ r = .error eT) ∨
  (∃ n tests q, 0 ≤ n ∧ n ≤ 24 ∧ okTests n tests ∧ tyGood q = true ∧ inB q 0 n = false ∧ ds = [.int n, .tup (tests.map tupD), q] ∧ r = .error eN) ∨
  (∃ n m tests, okCall n m tests ∧ ds = [.int n, .tup (tests.map tupD), .int (m : Int)] ∧ r = .ok (val (pairA (ansOf tests) (lotsTo n m) [])))
def toldB (k : Nat) : D → Bool
  | .tup l => decide (l.length = k) && l.all (inBd 0 1)
  | _ => false
def F_fi (eT eN eA : Er) : Fs := fun ds r => (∃ n m tests q, okCall n m tests ∧ tgd q = true ∧ toldB tests.length q = false ∧ ds = [.int n, .tup (tests.map tupD), .int (m : Int), q] ∧ r = .error eA) ∨
  (∃ n m tests told, okCall n m tests ∧ told.length = tests.length ∧ (∀ x ∈ told, 0 ≤ x ∧ x ≤ 1) ∧ ds = [.int n, .tup (tests.map tupD), .int (m : Int), tupD told] ∧ r = .ok (.lst ((fitsL n m tests told).map tupD)))
def seenD (l : List (List Int × List Int)) : List (List Int × D) := l.map fun z => (z.1, tupD z.2)
theorem find_seen {k : List Int} : ∀ l : List (List Int × List Int), valD (seenD l) k = (l.find? fun z => decide (z.1 = k)).map fun z => tupD z.2
  | [] => rfl
  | z :: l => by
    have ih := find_seen (k := k) l
    by_cases h : z.1 = k
    · unfold valD seenD
      rw [List.map_cons, List.find?_cons_of_pos (by simpa using h), List.find?_cons_of_pos (by simpa using h)]
      rfl
    · have e : valD (seenD (z :: l)) k = valD (seenD l) k := by
        unfold valD seenD
        rw [List.map_cons, List.find?_cons_of_neg (by simpa using h)]
      rw [e, ih, List.find?_cons_of_neg (by simpa using h)]
section
variable {P : Program} {w : World} {K : PySem.W.Frag} {mg : Str → Option Value} {base : Heap} {f : Addr} {fd : FuncData}
theorem sc_pa : FnScope ["things", "tests", "most", "seen", "lot", "key"] ["things", "tests", "most"] (defScope st_pair_alike) := ⟨rfl, rfl, rfl, by decide +kernel, rfl, by decide +kernel, by decide +kernel⟩
theorem ok_pa (B : Fr mg) (G1 : FoP P w K mg base 1 "lots_to" F_lots) (G2 : FoP P w K mg base 1 "answers_of" F_ao) (Fn : FnP K "pair_alike" st_pair_alike f fd) : FnG P w K mg base (L2.CX P w) 2 f fd ["things", "tests", "most"] (upP K F_pa) := by
  refine mkP Fn sc_pa (by rintro _ _ ⟨_, _, _, _, rfl, _⟩; rfl) fun cdv A outer s H E S0 H0 ds r hr hF hx => ?_
  obtain ⟨n, m, tests, oc, rfl, rfl⟩ := hF
  have hu := room_h1 hr
  have h10 := oc.t.len
  have h60 := (size_of oc.n0 oc.n6 oc.m3).2
  generalize el : lotsTo n m = lots at h60
  have le : ∀ l ∈ tests, l.length ≤ 50 := fun l hl => by have := (oc.t.ok l hl).len; have := oc.n6; omega
  refine b_cons (s_dnewT 3 (fun ad n0 => ?_) sc_pa.nd)
  refine b_cons (s_forL 4 (ds := lots.map tupD) (fun j Γ => pairA (ansOf tests) lots [] = pairA (ansOf tests) (lots.drop j) (seenOf (ansOf tests) (lots.take j)) ∧ ∃ d4 d5 : Option D, Γ = [some (.im (.int n)), some (.im (.tup (tests.map tupD))), some (.im (.int (m : Int))), some (.od ad (seenD (seenOf (ansOf tests) (lots.take j)))), d4.map Ent.im, d5.map Ent.im]) (p_is (p_call G1 hr (a_cons (p_var 0) (a_cons (p_var 2) a_nil)) ⟨n, m, oc.n0, oc.n6, oc.m3, rfl, rfl⟩) (by rw [el])) ⟨rfl, none, none, rfl⟩ (fun j d Γ hd hI => ?_) (fun Γ hI => ?_) PassesOwn.leaving sc_pa.nd)
  · obtain ⟨hp, d4, d5, rfl⟩ := hI
    rw [List.getElem?_map] at hd
    cases hlot : lots[j]? with
    | none => rw [hlot] at hd; cases hd
    | some lot =>
    rw [hlot] at hd
    cases hd
    have hj := (List.getElem?_eq_some_iff.mp hlot).1
    have hg := (List.getElem?_eq_some_iff.mp hlot).2
    have hdr : lots.drop j = lot :: lots.drop (j + 1) := by rw [List.drop_eq_getElem_cons hj, hg]
    have htk : lots.take (j + 1) = lots.take j ++ [lot] := by rw [List.take_add_one, hlot]; rfl
    rw [hdr] at hp
    refine b_cons (s_set 5 (d := .pt ((ansOf tests lot).map .int)) (p_call G2 hr (a_cons (p_var 1) (a_cons (p_var 4) a_nil)) ⟨tests, lot, by omega, le, rfl, rfl⟩) ?_ sc_pa.nd)
    cases hf : (seenOf (ansOf tests) (lots.take j)).find? (fun z => decide (z.1 = ansOf tests lot)) with
    | some z =>
      have hv : valD (seenD (seenOf (ansOf tests) (lots.take j))) (ansOf tests lot) = some (tupD z.2) := by rw [find_seen, hf]; rfl
      refine b_cons (s_if (k := true) (t_is (t_inD 3 rfl (p_var 5) hu) (by rw [hv]; rfl)) (fun hk => ?_) (fun hk => by cases hk))
      refine b_one (s_ret (p_tup (a_cons (p_getD 3 rfl (p_var 5) hv hu) (a_cons (p_var 4) a_nil))) ?_)
      show Except.ok _ = Except.ok _
      rw [hp]
      unfold pairA
      rw [hf]
      rfl
    | none =>
      have hv : valD (seenD (seenOf (ansOf tests) (lots.take j))) (ansOf tests lot) = none := by rw [find_seen, hf]; rfl
      refine b_cons (s_if (k := false) (t_is (t_inD 3 rfl (p_var 5) hu) (by rw [hv]; rfl)) (fun hk => by cases hk) (fun hk => ?_))
      refine b_nil ?_
      refine b_one (s_putD 3 rfl n0 (fun i kvs' h => ?_) (p_var 5) (p_var 4) hv ?_ ?_ hu)
      · match i, h with
        | 0, h => cases h
        | 1, h => cases h
        | 2, h => cases h
        | 3, _ => rfl
        | 4, h => cases h
        | 5, h => cases h
        | i + 6, h => cases h
      · unfold seenD seenOf
        rw [List.length_map, List.length_map, List.length_take]
        omega
      · refine ⟨?_, some (tupD lot), some (.pt ((ansOf tests lot).map .int)), ?_⟩
        · rw [hp, htk]
          conv => lhs; unfold pairA
          rw [hf]
          unfold seenOf
          rw [List.map_append]
          rfl
        · rw [htk]
          unfold seenOf seenD
          rw [List.map_append, List.map_append]
          rfl
  · obtain ⟨hp, d4, d5, rfl⟩ := hI
    refine b_one (s_ret p_non ?_)
    show Except.ok _ = Except.ok _
    rw [hp, List.length_map, List.drop_length]
    rfl
theorem isN_pair (x : Option (List Int × List Int)) : isN (pairD x) = x.isNone := by cases x <;> rfl
theorem raw_pair (x : Option (List Int × List Int)) : ∀ u, pairD x ≠ .raw u := fun u h => by cases x <;> cases h
theorem F_ta.len {eT eN : Er} {val : Option (List Int × List Int) → D} {ds : List D} {r : Except Er D} (h : F_ta eT eN val ds r) : ds.length = 3 := by
  rcases h with ⟨_, _, _, _, _, _, _, rfl, _⟩ | ⟨_, _, _, _, _, _, _, _, rfl, _⟩ | ⟨_, _, _, _, rfl, _⟩ <;> rfl
theorem sc_tl : FnScope ["things", "tests", "most"] ["things", "tests", "most"] (defScope st_tells) := ⟨rfl, rfl, rfl, by decide +kernel, rfl, by decide +kernel, by decide +kernel⟩
theorem ok_tl {CT CN : Addr} (G1 : FoP P w K mg base 4 "check_tests" (F_ct (eN CT))) (G2 : FoP P w K mg base 3 "check_most" (F_cm (eN CN))) (G3 : FoP P w K mg base 2 "pair_alike" F_pa) (Fn : FnP K "tells" st_tells f fd) : FnG P w K mg base (L2.CX P w) 5 f fd ["things", "tests", "most"] (upP K (F_ta (eN CT) (eN CN) fun x => .bl x.isNone)) := by
  refine mkP Fn sc_tl (fun ds r h => F_ta.len h) fun cdv A outer s H E S0 H0 ds r hr hF hx => ?_
  rcases hF with ⟨n, d, q, n0, n1, hg, ht, rfl, rfl⟩ | ⟨n, tests, q, n0, n1, ht, hg, hq, rfl, rfl⟩ | ⟨n, m, tests, oc, rfl, rfl⟩
  · exact b_cons (s_callX hx G1 hr (a_cons (p_var 0) (a_cons (p_var 1) a_nil)) ⟨n, d, n0, n1, hg, rfl, rfl⟩ (fun d hd => by rw [ht] at hd; cases hd) (fun e0 he => by rw [ht] at he; cases he; rfl))
  · refine b_cons (s_callX (r := .ok .non) hx G1 hr (a_cons (p_var 0) (a_cons (p_var 1) a_nil)) ⟨n, _, n0, n1, tgd2_tups tests, rfl, by rw [if_pos (tests_ok ht.ok (by have := ht.len; omega))]⟩ (fun d hd => ?_) (fun e0 he => nomatch he))
    exact b_cons (s_callX hx G2 hr (a_cons (p_var 0) (a_cons (p_var 2) a_nil)) ⟨n, q, hg, rfl, rfl⟩ (fun d hd => by rw [hq] at hd; cases hd) (fun e0 he => by rw [hq] at he; cases he; rfl))
  · refine b_cons (s_callX (r := .ok .non) hx G1 hr (a_cons (p_var 0) (a_cons (p_var 1) a_nil)) ⟨n, _, oc.n0, by have := oc.n6; omega, tgd2_tups tests, rfl, by rw [if_pos (tests_ok oc.t.ok (by have := oc.t.len; omega))]⟩ (fun d hd => ?_) (fun e0 he => nomatch he))
    refine b_cons (s_callX (r := .ok .non) hx G2 hr (a_cons (p_var 0) (a_cons (p_var 2) a_nil)) ⟨n, .int (m : Int), rfl, rfl, by rw [if_pos (in_bd (by omega) oc.mn)]⟩ (fun d hd => ?_) (fun e0 he => nomatch he))
    exact b_one (s_ret (p_is (p_cmp (p_call G3 hr (a_cons (p_var 0) (a_cons (p_var 1) (a_cons (p_var 2) a_nil))) ⟨n, m, tests, oc, rfl, rfl⟩) p_non (c_is (raw_pair _))) (congrArg D.bl (isN_pair _))) rfl)
theorem sc_al : FnScope ["things", "tests", "most"] ["things", "tests", "most"] (defScope st_alike) := ⟨rfl, rfl, rfl, by decide +kernel, rfl, by decide +kernel, by decide +kernel⟩
theorem ok_al {CT CN : Addr} (G1 : FoP P w K mg base 4 "check_tests" (F_ct (eN CT))) (G2 : FoP P w K mg base 3 "check_most" (F_cm (eN CN))) (G3 : FoP P w K mg base 2 "pair_alike" F_pa) (Fn : FnP K "alike" st_alike f fd) : FnG P w K mg base (L2.CX P w) 5 f fd ["things", "tests", "most"] (upP K (F_ta (eN CT) (eN CN) pairD)) := by
  refine mkP Fn sc_al (fun ds r h => F_ta.len h) fun cdv A outer s H E S0 H0 ds r hr hF hx => ?_
  rcases hF with ⟨n, d, q, n0, n1, hg, ht, rfl, rfl⟩ | ⟨n, tests, q, n0, n1, ht, hg, hq, rfl, rfl⟩ | ⟨n, m, tests, oc, rfl, rfl⟩
  · exact b_cons (s_callX hx G1 hr (a_cons (p_var 0) (a_cons (p_var 1) a_nil)) ⟨n, d, n0, n1, hg, rfl, rfl⟩ (fun d hd => by rw [ht] at hd; cases hd) (fun e0 he => by rw [ht] at he; cases he; rfl))
  · refine b_cons (s_callX (r := .ok .non) hx G1 hr (a_cons (p_var 0) (a_cons (p_var 1) a_nil)) ⟨n, _, n0, n1, tgd2_tups tests, rfl, by rw [if_pos (tests_ok ht.ok (by have := ht.len; omega))]⟩ (fun d hd => ?_) (fun e0 he => nomatch he))
    exact b_cons (s_callX hx G2 hr (a_cons (p_var 0) (a_cons (p_var 2) a_nil)) ⟨n, q, hg, rfl, rfl⟩ (fun d hd => by rw [hq] at hd; cases hd) (fun e0 he => by rw [hq] at he; cases he; rfl))
  · refine b_cons (s_callX (r := .ok .non) hx G1 hr (a_cons (p_var 0) (a_cons (p_var 1) a_nil)) ⟨n, _, oc.n0, by have := oc.n6; omega, tgd2_tups tests, rfl, by rw [if_pos (tests_ok oc.t.ok (by have := oc.t.len; omega))]⟩ (fun d hd => ?_) (fun e0 he => nomatch he))
    refine b_cons (s_callX (r := .ok .non) hx G2 hr (a_cons (p_var 0) (a_cons (p_var 2) a_nil)) ⟨n, .int (m : Int), rfl, rfl, by rw [if_pos (in_bd (by omega) oc.mn)]⟩ (fun d hd => ?_) (fun e0 he => nomatch he))
    exact b_one (s_ret (p_call G3 hr (a_cons (p_var 0) (a_cons (p_var 1) (a_cons (p_var 2) a_nil))) ⟨n, m, tests, oc, rfl, rfl⟩) rfl)
theorem told_ok {k : Nat} {l : List Int} (h : l.length = k) (hb : ∀ x ∈ l, 0 ≤ x ∧ x ≤ 1) : toldB k (tupD l) = true := by
  show (decide ((l.map D.int).length = k) && (l.map D.int).all (inBd 0 1)) = true
  rw [List.length_map, decide_eq_true h, all_ints hb]
  rfl
theorem isT_eq (k : Nat) (l : List D) : isT (.tup l) (k : Int) (k : Int) = decide (l.length = k) := by
  show (decide ((k : Int) ≤ (l.length : Int)) && decide ((l.length : Int) ≤ (k : Int))) = _
  by_cases h : l.length = k
  · rw [decide_eq_true h, decide_eq_true (by omega), decide_eq_true (by omega)]; rfl
  · rw [decide_eq_false h]
    by_cases h2 : (k : Int) ≤ (l.length : Int)
    · rw [decide_eq_false (p := (l.length : Int) ≤ (k : Int)) (by omega), Bool.and_false]
    · rw [decide_eq_false h2, Bool.false_and]
theorem sc_fi : FnScope ["things", "tests", "most", "told", "one", "lot"] ["things", "tests", "most", "told"] (defScope st_fits) := ⟨rfl, rfl, rfl, by decide +kernel, rfl, by decide +kernel, by decide +kernel⟩
theorem ok_fi {CT CN CA fI cc cda : Addr} (B : Fr mg) (G1 : FoP P w K mg base 4 "check_tests" (F_ct (eN CT))) (G2 : FoP P w K mg base 3 "check_most" (F_cm (eN CN))) (G3 : FoP P w K mg base 1 "lots_to" F_lots) (G4 : FoP P w K mg base 1 "answers_of" F_ao) (G5 : FoP P w K mg base 2 "is_within" F_within) (G6 : FoP P w K mg base 1 "is_tuple" F_istup) (T : XTxt K mg P "NoAnswers" CA fI cc cda) (F0 : XFn0 K fI cc cda) (Fn : FnP K "fits" st_fits f fd) : FnG P w K mg base (L2.CX P w) 5 f fd ["things", "tests", "most", "told"] (upP K (F_fi (eN CT) (eN CN) (eN CA))) := by
  refine mkP Fn sc_fi (by rintro _ _ (⟨_, _, _, _, _, _, _, rfl, _⟩ | ⟨_, _, _, _, _, _, _, rfl, _⟩) <;> rfl) fun cdv A outer s H E S0 H0 ds r hr hF hx => ?_
  have pre : ∀ {n : Int} {m : Nat} {tests : List (List Int)} {q : D} {Po : Post}, okCall n m tests → Bl (Bx P w K mg base ["things", "tests", "most", "told", "one", "lot"] "fits" (defScope st_fits) f cdv A outer s H E) ⟨S0, H0, [], []⟩ [some (.im (.int n)), some (.im (.tup (tests.map tupD))), some (.im (.int (m : Int))), some (.im q), none, none] ((defBody st_fits).drop 2) (poP r) → Bl (Bx P w K mg base ["things", "tests", "most", "told", "one", "lot"] "fits" (defScope st_fits) f cdv A outer s H E) ⟨S0, H0, [], []⟩ [some (.im (.int n)), some (.im (.tup (tests.map tupD))), some (.im (.int (m : Int))), some (.im q), none, none] (defBody st_fits) (poP r) := fun {n m tests q Po} oc h => by
    refine b_cons (s_callX (r := .ok .non) hx G1 hr (a_cons (p_var 0) (a_cons (p_var 1) a_nil)) ⟨n, _, oc.n0, by have := oc.n6; omega, tgd2_tups tests, rfl, by rw [if_pos (tests_ok oc.t.ok (by have := oc.t.len; omega))]⟩ (fun d hd => ?_) (fun e0 he => nomatch he))
    refine b_cons (s_callX (r := .ok .non) hx G2 hr (a_cons (p_var 0) (a_cons (p_var 2) a_nil)) ⟨n, .int (m : Int), rfl, rfl, by rw [if_pos (in_bd (by omega) oc.mn)]⟩ (fun d hd => ?_) (fun e0 he => nomatch he))
    exact h
  have len : ∀ (tests : List (List Int)), (D.int ((tests.map tupD).length : Int)) = .int (tests.length : Int) := fun tests => by rw [List.length_map]
  rcases hF with ⟨n, m, tests, q, oc, hg, ht, rfl, rfl⟩ | ⟨n, m, tests, told, oc, hl, hb, rfl, rfl⟩
  · refine pre (Po := poP (.ok .non)) oc ?_
    cases hT : isT q (tests.length : Int) (tests.length : Int) with
    | false =>
      refine b_cons (s_if (k := true) (t_pw (w_or (k := true) (k' := false) (t_is (t_not (t_val (p_call G6 hr (a_cons (p_var 3) (a_cons (p_is (p_blt cb_lenT (a_cons (p_var 1) a_nil) B.len (by decide +kernel)) (len tests)) (a_cons (p_is (p_blt cb_lenT (a_cons (p_var 1) a_nil) B.len (by decide +kernel)) (len tests)) a_nil))) ⟨_, _, _, tgd_ty hg, rfl, rfl⟩))) (by rw [hT]; rfl)) (fun hk => by cases hk))) (fun hk => ?_) (fun hk => by cases hk))
      exact b_one (s_raise0 hx T F0 hr rfl)
    | true =>
      obtain ⟨l, rfl⟩ : ∃ l, q = .tup l := by cases q <;> first | exact ⟨_, rfl⟩ | cases hT
      have hll : l.length = tests.length := by rw [isT_eq] at hT; exact of_decide_eq_true hT
      have hgl : ∀ x ∈ l, tyGood x = true := List.all_eq_true.mp hg
      have hA : l.all (inBd 0 1) = false := by
        have : (decide (l.length = tests.length) && l.all (inBd 0 1)) = false := ht
        rw [decide_eq_true hll, Bool.true_and] at this
        exact this
      have h10 := oc.t.len
      refine b_cons (s_if (k := true) (t_pw (w_or (k := false) (k' := true) (t_is (t_not (t_val (p_call G6 hr (a_cons (p_var 3) (a_cons (p_is (p_blt cb_lenT (a_cons (p_var 1) a_nil) B.len (by decide +kernel)) (len tests)) (a_cons (p_is (p_blt cb_lenT (a_cons (p_var 1) a_nil) B.len (by decide +kernel)) (len tests)) a_nil))) ⟨_, _, _, tgd_ty hg, rfl, rfl⟩))) (by rw [hT]; rfl))
        (fun hk => w_or1 (t_is (t_not (t_val (p_blt (cb_all (bs := l.map fun x => inB x 0 1)) (a_cons (p_is (n_p (n_lcT (own := [("one", 4)]) (j := 4) (xs := l) id (fun x => .bl (inB x 0 1)) (fun _ => true) (p_is (p_var 3) (by rw [List.map_id])) (by omega) (blkB_ok (by rfl)) (fun _ _ _ _ _ => pg_name (i := 4) sc_fi.nd rfl (Or.inl rfl)) (fun i hi _ _ _ _ _ => ts_nil) (fun x hi _ _ _ _ _ _ => (p_call G5 hr (a_cons (p_var 4) (a_cons p_int (a_cons p_int a_nil))) ⟨_, _, _, hgl x hi, rfl, rfl⟩)) sc_fi.nd)) (by rw [filt_all, List.map_map]; rfl)) a_nil) B.all (by decide +kernel)))) (by rw [List.all_map]; show (!l.all (inBd 0 1)) = true; rw [hA]; rfl))))) (fun hk => ?_) (fun hk => by cases hk))
      exact b_one (s_raise0 hx T F0 hr rfl)
  · refine pre (Po := poP (.ok .non)) oc ?_
    have h10 := oc.t.len
    have hA : (told.map D.int).all (inBd 0 1) = true := all_ints hb
    have hT : isT (tupD told) (tests.length : Int) (tests.length : Int) = true := by
      show isT (.tup (told.map D.int)) _ _ = true
      rw [isT_eq, List.length_map]
      exact decide_eq_true hl
    have hu := room_hu hr
    have le : ∀ l ∈ tests, l.length ≤ 50 := fun l hl => by have := (oc.t.ok l hl).len; have := oc.n6; omega
    have h60 := (size_of oc.n0 oc.n6 oc.m3).2
    refine b_cons (s_if (k := false) (t_pw (w_or (k := false) (k' := false) (t_is (t_not (t_val (p_call G6 hr (a_cons (p_var 3) (a_cons (p_is (p_blt cb_lenT (a_cons (p_var 1) a_nil) B.len (by decide +kernel)) (len tests)) (a_cons (p_is (p_blt cb_lenT (a_cons (p_var 1) a_nil) B.len (by decide +kernel)) (len tests)) a_nil))) ⟨_, _, _, rfl, rfl, rfl⟩))) (by rw [hT]; rfl))
      (fun hk => w_or1 (t_is (t_not (t_val (p_blt (cb_all (bs := (told.map D.int).map fun x => inB x 0 1)) (a_cons (p_is (n_p (n_lcT (own := [("one", 4)]) (j := 4) (xs := told.map D.int) id (fun x => .bl (inB x 0 1)) (fun _ => true) (p_is (p_var 3) (by rw [List.map_id]; rfl)) (by rw [List.length_map]; omega) (blkB_ok (by rfl)) (fun _ _ _ _ _ => pg_name (i := 4) sc_fi.nd rfl (Or.inl rfl)) (fun i hi _ _ _ _ _ => ts_nil) (fun x hi _ _ _ _ _ _ => (p_call G5 hr (a_cons (p_var 4) (a_cons p_int (a_cons p_int a_nil))) ⟨_, _, _, by obtain ⟨y, _, rfl⟩ := List.mem_map.mp hi; rfl, rfl, rfl⟩)) sc_fi.nd)) (by rw [filt_all, List.map_map, List.map_map, List.map_map]; rfl)) a_nil) B.all (by decide +kernel)))) (by rw [List.all_map]; show (!(told.map D.int).all (inBd 0 1)) = false; rw [hA]; rfl))))) (fun hk => by cases hk) (fun hk => ?_))
    refine b_nil ?_
    exact b_one (s_ret (p_is (n_p (n_lcL (own := [("lot", 5)]) (j := 5) (xs := lotsTo n m) tupD tupD (fun l => decide (ansOf tests l = told)) (p_call G3 hr (a_cons (p_var 0) (a_cons (p_var 2) a_nil)) ⟨n, m, oc.n0, oc.n6, oc.m3, rfl, rfl⟩) (by omega) (blkB_ok (by rfl)) (fun _ _ _ _ _ => pg_name (i := 5) sc_fi.nd rfl (by first | exact Or.inl rfl | exact Or.inr rfl))
      (fun lot hl _ _ _ _ _ => ts_one (t_is (t_cmp (p_upP (p_call G4 hr (a_cons (p_var 1) (a_cons (p_var 5) a_nil)) ⟨tests, lot, by omega, le, rfl, rfl⟩)) (p_var 3) (c_eq hu (eqOk_tup _) (eqOk_tup _))) (deq_tup _ _))) (fun lot hl _ _ _ _ _ _ => p_var 5) sc_fi.nd)) rfl) rfl)
end
end K43

set_option Elab.async false
set_option linter.all false
set_option maxRecDepth 100000
set_option maxHeartbeats 4000000
set_option exponentiation.threshold 10000
namespace K43
open PySem PySem.Spec PyProof.Rows L2 Spr
theorem lt_of_log2 {n k : Nat} (h : n.log2 < k) : n < 2 ^ k := by
  by_cases h0 : n = 0
  · rw [h0]; exact Nat.two_pow_pos k
  · exact (Nat.log2_lt h0).mp h
theorem log2_of_lt {n k : Nat} (hk : 0 < k) (h : n < 2 ^ k) : n.log2 < k := by
  by_cases h0 : n = 0
  · rw [h0]; simpa using hk
  · exact (Nat.log2_lt h0).mpr h
/-! ### the hand of numbers -/
structure Hd where
  cells : List Int
  p : Nat
  g : Int
  x : Int
  m : Int
def hE (h : Hd) : List D := [.lst (h.cells.map .int), .int h.p, .int h.g, .int h.x, .int h.m]
def hInit (ns : List Int) : Hd := ⟨ns.map fun z => (z.natAbs : Int), 0, 0, 1 + (ns.length : Int), 0⟩
def Hd.load (h : Hd) : Hd := if h.g = 0 ∧ h.p < h.cells.length then
  ⟨h.cells, h.p + 1, if 10 ^ 18 ≤ h.cells.getD h.p 0 then h.cells.getD h.p 0 else h.g, (h.x * 69621 + h.cells.getD h.p 0 + 11) % 2147483629, h.m⟩ else h
def mix (x m : Int) : Int :=
  let n1 := ((x + 7919 * m) * 48271) % 2147483647
  let n2 := (n1 * (n1 / 1009 + 69621)) % 2147483647
  (n2 * (n2 / 2003 + 40692)) % 2147483399
def finR (h : Hd) (n : Int) : Int := if 0 < h.g then h.g % n else (mix h.x (h.m + 1) / 16) % n
def finS (h : Hd) (n : Int) : Hd := if 0 < h.g then { h with g := h.g / n } else { h with m := h.m + 1 }
def drawR (h : Hd) (n : Int) : Int := finR h.load n
def drawS (h : Hd) (n : Int) : Hd := finS h.load n
theorem drawR_nn {h : Hd} {n : Int} (hn : 0 < n) : 0 ≤ drawR h n := by
  unfold drawR finR
  split <;> exact Int.emod_nonneg _ (by omega)
theorem drawR_lt {h : Hd} {n : Int} (hn : 0 < n) : drawR h n < n := by
  unfold drawR finR
  split <;> exact Int.emod_lt_of_pos _ hn
def F_hand : Fl := fun ds l => ∃ ns : List Int, ns.length ≤ 63 ∧ ds = [.lst (ns.map .int)] ∧ l = hE (hInit ns)
def F_draw : Fh := fun l ds d l' => ∃ (h : Hd) (n : Int), 0 < n ∧ n ≤ 1000 ∧ l = hE h ∧ ds = [.int n] ∧ d = .int (drawR h n) ∧ l' = hE (drawS h n)
def F_any : Fh := fun l ds d l' => ∃ (h : Hd) (xs : List D), 0 < xs.length ∧ xs.length ≤ 1000 ∧ l = hE h ∧ ds = [.lst xs] ∧ L2.atI xs (drawR h xs.length) = some d ∧ l' = hE (drawS h xs.length)
section
variable {P : Program} {w : World} {K : PySem.W.Frag} {mg : Str → Option Value} {base : Heap} {f : Addr} {fd : FuncData} {C : Addr}
theorem cut63 {l : List D} (h : l.length ≤ 63) : Spr.cutD l none (some 63) = l := by
  unfold Spr.cutD
  rw [HT.sIx_none, show (63 : Int) = ((63 : Nat) : Int) from rfl, HT.sIx_nat, List.drop_zero, Nat.min_eq_right h, Nat.sub_zero, List.take_length]
theorem sc_hand : FnScope ["script", "cells", "cell"] ["script"] (defScope st_law_hand) := ⟨rfl, rfl, rfl, by decide +kernel, rfl, by decide +kernel, by decide +kernel⟩
theorem ok_hand (B : Fr mg) (Fn : FnP K "_law_hand" st_law_hand f fd) : FnG P w K mg base (L2.CX P w) 1 f fd ["script"] (upN K F_hand) := by
  refine mkN Fn sc_hand (by rintro _ _ ⟨_, _, rfl, _⟩; rfl) fun cdv A outer s H E S0 H0 ds l hr hF => ?_
  obtain ⟨ns, hn, rfl, rfl⟩ := hF
  refine b_cons (s_setLcL (xs := ns) (own := [("cell", 2)]) (j := 2) 1 D.int (fun z => .int (z.natAbs : Int)) (fun _ => true) (p_is (n_p (n_slice (p_var 0) o_none (o_some p_int))) (by rw [cut63 (by simpa using hn)])) (by omega) (blkB_ok (by rfl)) (fun _ _ _ _ _ => pg_name (i := 2) sc_hand.nd rfl (Or.inl rfl)) (fun i hi _ _ _ _ _ => ts_nil) (fun i hi _ _ _ _ _ _ => (p_blt cb_abs (a_cons (p_bty cb_int (a_cons (p_var 2) a_nil) B.int (by decide +kernel)) a_nil) B.abs (by decide +kernel))) (.inr ?_) sc_hand.nd)
  rw [filt_all]
  refine b_one (s_retN' (n_is (n_lst (a_cons (p_var 1) (a_cons p_int (a_cons p_int (a_cons (p_bin p_int (p_blt cb_len (a_cons (p_var 1) a_nil) B.len (by decide +kernel)) bn_add) (a_cons p_int a_nil)))))) ?_) rfl)
  unfold hE hInit
  simp
theorem at_cells {cells : List Int} {p : Nat} (hp : p < cells.length) : L2.atI (cells.map D.int) (p : Int) = some (.int (cells.getD p 0)) := by
  refine atI_nat ?_
  rw [List.getElem?_map, List.getElem?_eq_getElem hp, List.getD_eq_getElem?_getD, List.getElem?_eq_getElem hp]
  rfl
theorem sc_draw : FnScope ["hand", "bound", "number", "cell", "digit"] ["hand", "bound"] (defScope st_law_draw) := ⟨rfl, rfl, rfl, by decide +kernel, rfl, by decide +kernel, by decide +kernel⟩
theorem md {x j : Int} (h : 0 < j) : 0 ≤ x % j ∧ x % j < j := ⟨Int.emod_nonneg _ (by omega), Int.emod_lt_of_pos _ h⟩
theorem ok_draw (B : Fr mg) (Fn : FnP K "_law_draw" st_law_draw f fd) : FnG P w K mg base (L2.CX P w) 1 f fd ["hand", "bound"] (upH K F_draw) := by
  refine mkH Fn sc_draw (by rintro _ _ _ _ ⟨_, _, _, _, _, rfl, _⟩; rfl) fun cdv A outer s H E S0 H0 a l ds d l' hr hF => ?_
  obtain ⟨h, n, hn0, hn1, rfl, rfl, rfl, rfl⟩ := hF
  have rest : ∀ (h1 : Hd) (e3 : Option Ent), h.load = h1 → Bl (Bx P w K mg base ["hand", "bound", "number", "cell", "digit"] "_law_draw" (defScope st_law_draw) f cdv A outer s H E) ⟨S0, H0, [], [(0, .ref a)]⟩ [some (.ow (hE h1)), some (.im (.int n)), none, e3, none] ((defBody st_law_draw).drop 1) (poH (.int (drawR h n)) (hE (drawS h n))) := fun h1 e3 he => by
    unfold drawR drawS
    rw [he]
    refine b_cons (s_if (t_cmp (p_ixO 0 rfl p_int rfl) p_int c_gt) (fun hk => ?_) (fun hk => ?_))
    · have hk : 0 < h1.g := of_decide_eq_true hk
      refine b_cons (s_set 4 (p_bin (p_bty cb_int (a_cons (p_ixO 0 rfl p_int rfl) a_nil) B.int (by decide +kernel)) (p_var 1) (bn_mod hn0)) ?_ sc_draw.nd)
      refine b_cons (s_put 0 rfl (p_bin (p_ixO 0 rfl p_int rfl) (p_var 1) (bn_fdiv ⟨hn0, log2_of_lt (by decide) (Nat.lt_of_le_of_lt (m := 1000) (by omega) (by decide +kernel))⟩)) p_int rfl ?_)
      refine b_one (s_ret (p_var 4) ⟨?_, ?_⟩)
      · show D.int _ = D.int _
        unfold finR
        rw [if_pos hk]
      · unfold finS
        rw [if_pos hk]
        rfl
    · have hk : ¬ 0 < h1.g := of_decide_eq_false hk
      refine b_nil ?_
      refine b_cons (s_put 0 rfl (p_bin (p_ixO 0 rfl p_int rfl) p_int bn_add) p_int rfl ?_)
      refine b_cons (s_set 2 (p_bin (p_bty cb_int (a_cons (p_bin (p_bty cb_int (a_cons (p_bin (p_ixO 0 rfl p_int rfl) (p_bin p_int (p_ixO 0 rfl p_int rfl) (bn_mul64 (.inl ⟨by decide, by decide⟩))) bn_add) a_nil) B.int (by decide +kernel)) p_int (bn_mul64 (.inr ⟨by decide, by decide⟩))) a_nil) B.int (by decide +kernel)) p_int (bn_mod (by decide))) ?_ sc_draw.nd)
      refine b_cons (s_set 2 (p_bin (p_bty cb_int (a_cons (p_bin (p_var 2) (p_bin (p_bin (p_var 2) p_int (bn_fdiv (by refine ⟨?_, ?_⟩ <;> decide +kernel))) p_int bn_add) (bn_mul64 (.inl (by have := md (x := (h1.x + 7919 * (h1.m + 1)) * 48271) (j := 2147483647) (by decide); exact ⟨by omega, by omega⟩)))) a_nil) B.int (by decide +kernel)) p_int (bn_mod (by decide))) ?_ sc_draw.nd)
      refine b_cons (s_set 2 (p_bin (p_bty cb_int (a_cons (p_bin (p_var 2) (p_bin (p_bin (p_var 2) p_int (bn_fdiv (by refine ⟨?_, ?_⟩ <;> decide +kernel))) p_int bn_add) (bn_mul64 (.inl ⟨by have := (md (x := (h1.x + 7919 * (h1.m + 1)) * 48271 % 2147483647 * ((h1.x + 7919 * (h1.m + 1)) * 48271 % 2147483647 / 1009 + 69621)) (j := 2147483647) (by decide)).1; omega, by have := (md (x := (h1.x + 7919 * (h1.m + 1)) * 48271 % 2147483647 * ((h1.x + 7919 * (h1.m + 1)) * 48271 % 2147483647 / 1009 + 69621)) (j := 2147483647) (by decide)).2; omega⟩))) a_nil) B.int (by decide +kernel)) p_int (bn_mod (by decide))) ?_ sc_draw.nd)
      refine b_one (s_ret (p_bin (p_bty cb_int (a_cons (p_bin (p_var 2) p_int (bn_fdiv (by refine ⟨?_, ?_⟩ <;> decide +kernel))) a_nil) B.int (by decide +kernel)) (p_var 1) (bn_mod hn0)) ⟨?_, ?_⟩)
      · show D.int _ = D.int _
        unfold finR
        rw [if_neg hk]
        rfl
      · unfold finS
        rw [if_neg hk]
        rfl
  by_cases hc : h.g = 0 ∧ h.p < h.cells.length
  · obtain ⟨hg, hp⟩ := id hc
    have hl : h.load = ⟨h.cells, h.p + 1, if 10 ^ 18 ≤ h.cells.getD h.p 0 then h.cells.getD h.p 0 else h.g, (h.x * 69621 + h.cells.getD h.p 0 + 11) % 2147483629, h.m⟩ := if_pos hc
    refine b_cons (s_if (k := true) (t_is (t_pw (w_and (t_cmp (p_ixO 0 rfl p_int rfl) p_int c_eqI) (fun hk => (w_and1 (t_cmp (p_ixO 0 rfl p_int rfl) (p_blt cb_len (a_cons (p_ixO 0 rfl p_int rfl) a_nil) B.len (by decide +kernel)) c_lt))))) (by simp; omega)) (fun hk => ?_) (fun hk => by cases hk))
    refine b_cons (s_set 3 (d := .int (h.cells.getD h.p 0)) (p_ixL (p_ixO 0 rfl p_int rfl) (p_ixO 0 rfl p_int rfl) ?_) ?_ sc_draw.nd)
    · exact at_cells hp
    refine b_cons (s_put 0 rfl (p_bin (p_ixO 0 rfl p_int rfl) p_int bn_add) p_int rfl ?_)
    refine b_cons (s_put 0 rfl (p_bin (p_bty cb_int (a_cons (p_bin (p_bin (p_bin (p_ixO 0 rfl p_int rfl) p_int (bn_mul64 (.inr ⟨by decide, by decide⟩))) (p_var 3) bn_add) p_int bn_add) a_nil) B.int (by decide +kernel)) p_int (bn_mod (by decide))) p_int rfl ?_)
    refine b_one (s_if (t_cmp (p_var 3) (p_bin p_int p_int (bn_pow (by refine ⟨?_, ?_, ?_⟩ <;> decide +kernel))) c_ge) (fun hk => ?_) (fun hk => ?_))
    · have hk : 10 ^ 18 ≤ h.cells.getD h.p 0 := of_decide_eq_true hk
      refine b_one (s_put 0 rfl (p_var 3) p_int rfl ?_)
      rw [if_pos hk] at hl
      exact rest _ _ hl
    · have hk : ¬ 10 ^ 18 ≤ h.cells.getD h.p 0 := of_decide_eq_false hk
      rw [if_neg hk] at hl
      refine b_nil ?_
      exact rest _ _ hl
  · have hl : h.load = h := if_neg hc
    refine b_cons (s_if (k := false) (t_is (t_pw (w_and (t_cmp (p_ixO 0 rfl p_int rfl) p_int c_eqI) (fun hk => (w_and1 (t_cmp (p_ixO 0 rfl p_int rfl) (p_blt cb_len (a_cons (p_ixO 0 rfl p_int rfl) a_nil) B.len (by decide +kernel)) c_lt))))) (by simp; omega)) (fun hk => by cases hk) (fun hk => ?_))
    refine b_nil ?_
    exact rest _ none hl
end
theorem atI_draw {xs : List D} {h : Hd} {n : Int} (hn : 0 < n) (hx : (xs.length : Int) = n) : ∃ d, xs[(drawR h n).toNat]? = some d ∧ L2.atI xs (drawR h n) = some d := by
  have h1 := drawR_nn (h := h) hn
  have h2 := drawR_lt (h := h) hn
  have h3 : (drawR h n).toNat < xs.length := by omega
  refine ⟨xs[(drawR h n).toNat], List.getElem?_eq_getElem h3, ?_⟩
  have e : drawR h n = (((drawR h n).toNat : Nat) : Int) := by omega
  have key : L2.atI xs (((drawR h n).toNat : Nat) : Int) = some xs[(drawR h n).toNat] := atI_nat (List.getElem?_eq_getElem h3)
  rw [← e] at key
  exact key
section
variable {P : Program} {w : World} {K : PySem.W.Frag} {mg : Str → Option Value} {base : Heap} {f : Addr} {fd : FuncData}
theorem sc_any : FnScope ["hand", "things"] ["hand", "things"] (defScope st_law_any) := ⟨rfl, rfl, rfl, by decide +kernel, rfl, by decide +kernel, by decide +kernel⟩
theorem ok_any (B : Fr mg) (Gd : Fo P w K mg base 1 "_law_draw" (upH K F_draw)) (Fn : FnP K "_law_any" st_law_any f fd) : FnG P w K mg base (L2.CX P w) 2 f fd ["hand", "things"] (upH K F_any) := by
  refine mkH Fn sc_any (by rintro _ _ _ _ ⟨_, _, _, _, _, rfl, _⟩; rfl) fun cdv A outer s H E S0 H0 a l ds d l' hr hF => ?_
  obtain ⟨h, xs, h0, h1, rfl, rfl, hd, rfl⟩ := hF
  exact b_one (s_retE (ev_ixL (ev_p (p_var 1)) (ev_call 0 Gd hr (ea_cons (ev_p (p_blt cb_len (a_cons (p_var 1) a_nil) B.len (by decide +kernel))) ea_nil) rfl ⟨h, _, by omega, by omega, rfl, rfl, rfl, rfl⟩) hd) ⟨rfl, rfl⟩)
end


theorem ne_str {X : Cx} {s : Str} : Cm X .NotEq (.str s) (.str s) false := ⟨_, op_ne, fun S H v w h1 h2 Q q => by
  rw [h1.str_, h2.str_]
  refine ⟨rfl, ?_⟩
  rw [decide_eq_true rfl]
  exact q⟩
theorem et_isG {X : Cx} {c : Cn} {Γ Γ1 Γ2 : Gm} {e : Expr} {k : Bool} (h : Et X c Γ e k Γ1) (q : Γ1 = Γ2) : Et X c Γ e k Γ2 := q ▸ h
def iterS (h : Hd) (n : Int) : Nat → Hd
  | 0 => h
  | i + 1 => drawS (iterS h n i) n
def drawsL (h : Hd) (n : Int) (m : Nat) : List Int := (List.range m).map fun i => drawR (iterS h n i) n
theorem draws_len {h : Hd} {n : Int} {m : Nat} : (drawsL h n m).length = m := by unfold drawsL; simp
theorem draws_bd {h : Hd} {m : Nat} : ∀ x ∈ drawsL h 2 m, 0 ≤ x ∧ x ≤ 1 := fun x hx => by
  obtain ⟨i, _, rfl⟩ := List.mem_map.mp hx
  have := drawR_nn (h := iterS h 2 i) (n := 2) (by decide)
  have := drawR_lt (h := iterS h 2 i) (n := 2) (by decide)
  omega
/-- a lot drawn, thing by thing -/
def lotP (h : Hd) (i : Nat) : Bool := decide (drawR (iterS h 2 i) 2 = 0)
def lotR (h : Hd) (n : Int) : List Int := ((List.range n.toNat).filter (lotP h)).map fun (i : Nat) => (i : Int)
theorem accE_lot (h : Hd) (n : Int) : accE (lotP h) (fun i => D.int (i : Int)) n.toNat = (lotR h n).map .int := by
  unfold accE lotR
  rw [List.map_map]
  rfl
theorem lotR_ok {h : Hd} {n : Int} (hn : 0 ≤ n) : okLot n (lotR h n) := by
  refine ⟨fun x hx => ?_, ?_, ?_⟩
  · obtain ⟨i, hi, rfl⟩ := List.mem_map.mp hx
    have := List.mem_range.mp (List.mem_filter.mp hi).1
    omega
  · unfold lotR
    rw [List.pairwise_map]
    exact (List.pairwise_lt_range.filter _).imp fun h => by omega
  · unfold lotR
    rw [List.length_map]
    have := List.length_filter_le (lotP h) (List.range n.toNat)
    rw [List.length_range] at this
    omega
def testS (h : Hd) (n : Int) : Nat → Hd
  | 0 => h
  | i + 1 => iterS (testS h n i) 2 n.toNat
def testsR (h : Hd) (n : Int) (k : Nat) : List (List Int) := (List.range k).map fun i => lotR (testS h n i) n
theorem testsR_succ (h : Hd) (n : Int) (k : Nat) : testsR h n (k + 1) = testsR h n k ++ [lotR (testS h n k) n] := by
  unfold testsR
  rw [List.range_succ, List.map_append]
  rfl
theorem testsR_len (h : Hd) (n : Int) (k : Nat) : (testsR h n k).length = k := by unfold testsR; simp
theorem testsR_ok {h : Hd} {n : Int} {k : Nat} (hn : 0 ≤ n) : ∀ l ∈ testsR h n k, okLot n l := fun l hl => by
  obtain ⟨i, _, rfl⟩ := List.mem_map.mp hl
  exact lotR_ok hn
def F_tests : Fh := fun l ds d l' => ∃ (h : Hd) (n M : Int), 0 ≤ n ∧ n ≤ 24 ∧ 0 ≤ M ∧ M ≤ 100 ∧ l = hE h ∧ ds = [.int n, .int M] ∧ d = .tup ((testsR (drawS h (M + 1)) n (drawR h (M + 1)).toNat).map tupD) ∧ l' = hE (testS (drawS h (M + 1)) n (drawR h (M + 1)).toNat)
def noT1 (n : Int) : List D := [.non, .lst [tupD [0]], .tup [tupD [n]], .tup [tupD [1, 0]], .tup [tupD [0, 0]], .tup [.lst [.int 0]], .tup [.tup [.bl true]], .tup [tupD [-1]], tupD [0], .tup (List.replicate (41 : Int).toNat [D.tup []]).flatten]
def noT (n : Int) : List D := noT1 n ++ [.str "tests", .int 7]
def F_nt : Fh := fun l ds d l' => ∃ (h : Hd) (n : Int), l = hE h ∧ ds = [.int n] ∧ (noT n)[(drawR h 12).toNat]? = some d ∧ l' = hE (drawS h 12)
theorem noT_bad {n : Int} (h0 : 0 ≤ n) : ∀ d ∈ noT n, tgd2 d = true ∧ testsB n d = false := by
  intro d hd
  unfold noT noT1 at hd
  simp only [List.cons_append, List.nil_append, List.mem_cons, List.not_mem_nil, or_false] at hd
  have one : ∀ u : D, lotB n u = false → testsB n (.tup [u]) = false := fun u h => tests_f (j := 0) (d := u) rfl h
  rcases hd with rfl | rfl | rfl | rfl | rfl | rfl | rfl | rfl | rfl | rfl | rfl | rfl
  · exact ⟨rfl, rfl⟩
  · exact ⟨rfl, rfl⟩
  · refine ⟨rfl, one _ ?_⟩
    show (_ && (((decide (0 ≤ n) && decide (n ≤ n - 1)) && true) && _)) = false
    rw [decide_eq_false (p := n ≤ n - 1) (by omega)]
    simp
  · refine ⟨rfl, one _ ?_⟩
    show (_ && (_ && asc [1, 0])) = false
    rw [show asc [1, 0] = false by decide]
    simp
  · refine ⟨rfl, one _ ?_⟩
    show (_ && (_ && asc [0, 0])) = false
    rw [show asc [0, 0] = false by decide]
    simp
  · exact ⟨rfl, one _ rfl⟩
  · refine ⟨rfl, one _ ?_⟩
    show (_ && ((false && true) && _)) = false
    simp
  · refine ⟨rfl, one _ ?_⟩
    show (_ && (((decide ((0 : Int) ≤ -1) && decide ((-1 : Int) ≤ n - 1)) && true) && _)) = false
    rw [decide_eq_false (p := (0 : Int) ≤ -1) (by decide)]
    simp
  · exact ⟨rfl, one _ rfl⟩
  · exact ⟨by decide +kernel, by show (decide ((List.replicate (41 : Int).toNat [D.tup []]).flatten.length ≤ 40) && (List.replicate (41 : Int).toNat [D.tup []]).flatten.all (lotB n)) = false; rw [decide_eq_false (by decide +kernel)]; rfl⟩
  · exact ⟨rfl, rfl⟩
  · exact ⟨rfl, rfl⟩
section
variable {P : Program} {w : World} {K : PySem.W.Frag} {mg : Str → Option Value} {base : Heap} {f : Addr} {fd : FuncData}
theorem sc_la : FnScope ["tests", "bad", "test", "thing"] ["tests", "bad"] (defScope st_law_answers) := ⟨rfl, rfl, rfl, by decide +kernel, rfl, by decide +kernel, by decide +kernel⟩
theorem ok_la (B : Fr mg) (Fn : FnP K "_law_answers" st_law_answers f fd) : FnG P w K mg base (L2.CX P w) 1 f fd ["tests", "bad"] (upP K F_ao) := by
  refine mkP Fn sc_la (by rintro _ _ ⟨_, _, _, _, rfl, _⟩; rfl) fun cdv A outer s H E S0 H0 ds r hr hF hx => ?_
  obtain ⟨tests, bad, h1, h2, rfl, rfl⟩ := hF
  exact b_one (s_ret (p_is (p_bty cb_tupleTP (a_cons (n_p (n_lcT (own := [("test", 2)]) (j := 2) (xs := tests) tupD (fun lot => .int (if lot.any (fun x => decide (x ∈ bad)) = true then 1 else 0)) (fun _ => true) (p_var 0) (by omega) (blkB_ok (by rfl)) (fun _ _ _ _ _ => pg_name (i := 2) sc_la.nd rfl (by first | exact Or.inl rfl | exact Or.inr rfl)) (fun i hi _ _ _ _ _ => ts_nil)
    (fun lot hl _ _ _ _ _ _ => p_is (p_bty cb_intb (a_cons (p_blt (cb_any (bs := lot.map fun x => decide (x ∈ bad))) (a_cons (p_is (n_p (n_lcT (own := [("thing", 3)]) (j := 3) (xs := lot) D.int (fun x => .bl (decide (x ∈ bad))) (fun _ => true) (p_var 2) (by have := h2 lot hl; omega) (blkB_ok (by rfl)) (fun _ _ _ _ _ => pg_name (i := 3) sc_la.nd rfl (by first | exact Or.inl rfl | exact Or.inr rfl)) (fun i hi _ _ _ _ _ => ts_nil) (fun x hx _ _ _ _ _ _ => p_cmp (p_var 3) (p_var 1) c_inT) sc_la.nd)) (by rw [filt_all, List.map_map]; rfl)) a_nil) B.any (by decide +kernel)) a_nil) B.int (by decide +kernel)) (by rw [ans_any])) sc_la.nd)) a_nil) B.tuple (by decide +kernel)) (by rw [filt_all]; unfold ansOf; rw [List.map_map]; rfl)) rfl)
theorem sc_lk : FnScope ["things", "tests", "most", "met", "lot", "told"] ["things", "tests", "most"] (defScope st_law_alike) := ⟨rfl, rfl, rfl, by decide +kernel, rfl, by decide +kernel, by decide +kernel⟩
theorem ok_lk (B : Fr mg) (G1 : FoP P w K mg base 1 "_law_lots" F_lots) (G2 : FoP P w K mg base 1 "_law_answers" F_ao) (Fn : FnP K "_law_alike" st_law_alike f fd) : FnG P w K mg base (L2.CX P w) 2 f fd ["things", "tests", "most"] (upP K F_pa) := by
  refine mkP Fn sc_lk (by rintro _ _ ⟨_, _, _, _, rfl, _⟩; rfl) fun cdv A outer s H E S0 H0 ds r hr hF hx => ?_
  obtain ⟨n, m, tests, oc, rfl, rfl⟩ := hF
  have hu := room_h1 hr
  have h10 := oc.t.len
  have h60 := (size_of oc.n0 oc.n6 oc.m3).2
  generalize el : lotsTo n m = lots at h60
  have le : ∀ l ∈ tests, l.length ≤ 50 := fun l hl => by have := (oc.t.ok l hl).len; have := oc.n6; omega
  refine b_cons (s_dnewT 3 (fun ad n0 => ?_) sc_lk.nd)
  refine b_cons (s_forL 4 (ds := lots.map tupD) (fun j Γ => pairA (ansOf tests) lots [] = pairA (ansOf tests) (lots.drop j) (seenOf (ansOf tests) (lots.take j)) ∧ ∃ d4 d5 : Option D, Γ = [some (.im (.int n)), some (.im (.tup (tests.map tupD))), some (.im (.int (m : Int))), some (.od ad (seenD (seenOf (ansOf tests) (lots.take j)))), d4.map Ent.im, d5.map Ent.im]) (p_is (p_call G1 hr (a_cons (p_var 0) (a_cons (p_var 2) a_nil)) ⟨n, m, oc.n0, oc.n6, oc.m3, rfl, rfl⟩) (by rw [el])) ⟨rfl, none, none, rfl⟩ (fun j d Γ hd hI => ?_) (fun Γ hI => ?_) PassesOwn.leaving sc_lk.nd)
  · obtain ⟨hp, d4, d5, rfl⟩ := hI
    rw [List.getElem?_map] at hd
    cases hlot : lots[j]? with
    | none => rw [hlot] at hd; cases hd
    | some lot =>
    rw [hlot] at hd
    cases hd
    have hj := (List.getElem?_eq_some_iff.mp hlot).1
    have hg := (List.getElem?_eq_some_iff.mp hlot).2
    have hdr : lots.drop j = lot :: lots.drop (j + 1) := by rw [List.drop_eq_getElem_cons hj, hg]
    have htk : lots.take (j + 1) = lots.take j ++ [lot] := by rw [List.take_add_one, hlot]; rfl
    rw [hdr] at hp
    refine b_cons (s_set 5 (d := .pt ((ansOf tests lot).map .int)) (p_call G2 hr (a_cons (p_var 1) (a_cons (p_var 4) a_nil)) ⟨tests, lot, by omega, le, rfl, rfl⟩) ?_ sc_lk.nd)
    cases hf : (seenOf (ansOf tests) (lots.take j)).find? (fun z => decide (z.1 = ansOf tests lot)) with
    | some z =>
      have hv : valD (seenD (seenOf (ansOf tests) (lots.take j))) (ansOf tests lot) = some (tupD z.2) := by rw [find_seen, hf]; rfl
      refine b_cons (s_if (k := true) (t_is (t_inD 3 rfl (p_var 5) hu) (by rw [hv]; rfl)) (fun hk => ?_) (fun hk => by cases hk))
      refine b_one (s_ret (p_tup (a_cons (p_getD 3 rfl (p_var 5) hv hu) (a_cons (p_var 4) a_nil))) ?_)
      show Except.ok _ = Except.ok _
      rw [hp]
      unfold pairA
      rw [hf]
      rfl
    | none =>
      have hv : valD (seenD (seenOf (ansOf tests) (lots.take j))) (ansOf tests lot) = none := by rw [find_seen, hf]; rfl
      refine b_cons (s_if (k := false) (t_is (t_inD 3 rfl (p_var 5) hu) (by rw [hv]; rfl)) (fun hk => by cases hk) (fun hk => ?_))
      refine b_nil ?_
      refine b_one (s_putD 3 rfl n0 (fun i kvs' h => ?_) (p_var 5) (p_var 4) hv ?_ ?_ hu)
      · match i, h with
        | 0, h => cases h
        | 1, h => cases h
        | 2, h => cases h
        | 3, _ => rfl
        | 4, h => cases h
        | 5, h => cases h
        | i + 6, h => cases h
      · unfold seenD seenOf
        rw [List.length_map, List.length_map, List.length_take]
        omega
      · refine ⟨?_, some (tupD lot), some (.pt ((ansOf tests lot).map .int)), ?_⟩
        · rw [hp, htk]
          conv => lhs; unfold pairA
          rw [hf]
          unfold seenOf
          rw [List.map_append]
          rfl
        · rw [htk]
          unfold seenOf seenD
          rw [List.map_append, List.map_append]
          rfl
  · obtain ⟨hp, d4, d5, rfl⟩ := hI
    refine b_one (s_ret p_non ?_)
    show Except.ok _ = Except.ok _
    rw [hp, List.length_map, List.drop_length]
    rfl
theorem sc_te : FnScope ["hand", "things", "most", "found", "lap", "thing", "%"] ["hand", "things", "most"] (defScope st_law_tests) := ⟨rfl, rfl, rfl, by decide +kernel, rfl, by decide +kernel, by decide +kernel⟩
theorem ok_te (B : Fr mg) (Gd : Fo P w K mg base 1 "_law_draw" (upH K F_draw)) (Fn : FnP K "_law_tests" st_law_tests f fd) : FnG P w K mg base (L2.CX P w) 2 f fd ["hand", "things", "most"] (upH K F_tests) := by
  refine mkH Fn sc_te (by rintro _ _ _ _ ⟨_, _, _, _, _, _, _, _, rfl, _⟩; rfl) fun cdv A outer s H E S0 H0 a l ds d l' hr hF => ?_
  obtain ⟨h, n, M, n0, n1, m0, m1, rfl, rfl, rfl, rfl⟩ := hF
  have k1 := drawR_nn (h := h) (n := M + 1) (by omega)
  have k2 := drawR_lt (h := h) (n := M + 1) (by omega)
  refine b_cons (s_setO 3 (l := []) (n_lst a_nil) ?_ sc_te.nd)
  refine b_cons (s_forS (.nm 4) (n := (drawR h (M + 1)).toNat) (fun j Γ => ∃ e4, Γ = [some (.ow (hE (testS (drawS h (M + 1)) n j))), some (.im (.int n)), some (.im (.int M)), some (.ow ((testsR (drawS h (M + 1)) n j).map tupD)), e4, none, none])
    (pi_range1 rfl B.range (ea_cons (ev_call 0 Gd hr (ea_cons (ev_p (p_bin (p_var 2) p_int bn_add)) ea_nil) rfl ⟨h, M + 1, by omega, by omega, rfl, rfl, rfl, rfl⟩) ea_nil)) (src_range1 (fun _ _ _ h => h) (by omega) (by omega)) (pg_name (i := 4) sc_te.nd rfl (by first | exact Or.inl rfl | exact Or.inr rfl)) (fun i hi => trivial) (fun j hj q hq e => by
        rcases List.mem_singleton.mp hq with rfl
        rcases List.mem_singleton.mp (show j ∈ [4] from hj) with rfl
        cases e) ⟨none, rfl⟩ (fun j Γ hj hI => ?_) (fun Γ hI => ?_) PassesOwn.leaving)
  · obtain ⟨e4, rfl⟩ := hI
    have hfl : ((testsR (drawS h (M + 1)) n j).map tupD).length ≤ 1000 := by rw [List.length_map, testsR_len]; omega
    have es : testS (drawS h (M + 1)) n (j + 1) = iterS (testS (drawS h (M + 1)) n j) 2 n.toNat := rfl
    rw [es, testsR_succ]
    generalize testS (drawS h (M + 1)) n j = hj'
    generalize testsR (drawS h (M + 1)) n j = T at hfl
    refine b_one (s_appS 3 (d := tupD (lotR hj' n)) (l := T.map tupD) (Γ1 := [some (.ow (hE (iterS hj' 2 n.toNat))), some (.im (.int n)), some (.im (.int M)), some (.ow (T.map tupD)), some (.im (.int (j : Int))), none, none]) (ev_is (ev_bty cb_tuple (ea_cons (ev_lcR1 5 6 (n := n) (own := [("thing", 5), ("%", 6)]) (fun i => [some (.ow (hE (iterS hj' 2 i))), some (.im (.int n)), some (.im (.int M)), some (.ow (T.map tupD)), some (.im (.int (j : Int))), none, none]) (fun i => [some (.ow (hE (iterS hj' 2 (i + 1)))), some (.im (.int n)), some (.im (.int M)), some (.ow (T.map tupD)), some (.im (.int (j : Int))), none, none]) (fun i => .int (i : Int)) (lotP hj')
      (ea_p (a_cons (p_var 1) a_nil)) (by omega) (by omega) (blkB_ok (by rfl)) (fun _ _ _ _ _ => pg_name (i := 5) sc_te.nd rfl (by first | exact Or.inl rfl | exact Or.inr rfl))
      (fun i hi _ _ _ _ _ => ts_oneE (et_isG (et_is (et_cmp (ev_call 0 Gd hr (ea_cons (ev_p p_int) ea_nil) rfl ⟨iterS hj' 2 i, 2, by decide, by decide, rfl, rfl, rfl, rfl⟩) (ev_p p_int) c_eqI) rfl) rfl))
      (fun i hi _ _ _ _ _ _ => ev_p (p_var 5)) ⟨rfl, by decide, by decide, by decide, rfl, fun _ => rfl, fun _ => rfl, fun i _ => rfl, by simp⟩ sc_te.nd B.range) ea_nil) B.tuple (by decide +kernel)) (congrArg D.tup (accE_lot hj' n))) (by omega) ?_)
    refine ⟨some (.im (.int (j : Int))), ?_⟩
    rw [List.map_append]
    rfl
  · obtain ⟨e4, rfl⟩ := hI
    refine s_freeze 3 rfl ?_
    exact b_one (s_ret (p_bty cb_tuple (a_cons (p_var 3) a_nil) B.tuple (by decide +kernel)) ⟨rfl, rfl⟩)
theorem sc_nt : FnScope ["hand", "things", "some"] ["hand", "things"] (defScope st_law_no_tests) := ⟨rfl, rfl, rfl, by decide +kernel, rfl, by decide +kernel, by decide +kernel⟩
theorem ok_nt (Ga : Fo P w K mg base 2 "_law_any" (upH K F_any)) (Fn : FnP K "_law_no_tests" st_law_no_tests f fd) : FnG P w K mg base (L2.CX P w) 3 f fd ["hand", "things"] (upH K F_nt) := by
  refine mkH Fn sc_nt (by rintro _ _ _ _ ⟨_, _, _, rfl, _⟩; rfl) fun cdv A outer s H E S0 H0 a l ds d l' hr hF => ?_
  obtain ⟨h, n, rfl, rfl, hd, rfl⟩ := hF
  obtain ⟨d', h1, h2⟩ := atI_draw (xs := noT n) (h := h) (n := 12) (by decide) rfl
  have ed : d' = d := Option.some.inj (h1.symm.trans hd)
  subst ed
  refine b_cons (s_set 2 (d := .tl (noT1 n)) (p_is (n_t (n_lst (a_cons p_non (a_cons (p_lst (a_cons (p_tup (a_cons p_int a_nil)) a_nil)) (a_cons (p_tup (a_cons (p_tup (a_cons (p_var 1) a_nil)) a_nil)) (a_cons (p_tup (a_cons (p_tup (a_cons p_int (a_cons p_int a_nil))) a_nil)) (a_cons (p_tup (a_cons (p_tup (a_cons p_int (a_cons p_int a_nil))) a_nil)) (a_cons (p_tup (a_cons (p_lst (a_cons p_int a_nil)) a_nil)) (a_cons (p_tup (a_cons (p_tup (a_cons p_bl a_nil)) a_nil)) (a_cons (p_tup (a_cons (p_tup (a_cons (p_neg p_int) a_nil)) a_nil)) (a_cons (p_tup (a_cons p_int a_nil)) (a_cons (p_bin (p_tup (a_cons (p_tup a_nil) a_nil)) p_int (bn_repT (by simp) (by simp) (by decide) (by decide))) a_nil)))))))))))) rfl) ?_ sc_nt.nd)
  exact b_one (s_retE (ev_call 0 Ga hr (ea_cons (ev_p (n_p (n_add (p_var 2) (n_t (n_lst (a_cons p_str (a_cons p_int a_nil)))) (by show 10 + 2 ≤ _; decide)))) ea_nil) rfl ⟨h, noT n, by show 0 < 12; decide, by show 12 ≤ 1000; decide, rfl, rfl, h2, rfl⟩) ⟨rfl, rfl⟩)
theorem sc_ll : FnScope ["things", "most", "found", "here", "lap", "longer", "lot", "thing"] ["things", "most"] (defScope st_law_lots) := ⟨rfl, rfl, rfl, by decide +kernel, rfl, by decide +kernel, by decide +kernel⟩
theorem ok_ll (B : Fr mg) (Fn : FnP K "_law_lots" st_law_lots f fd) : FnG P w K mg base (L2.CX P w) 1 f fd ["things", "most"] (upP K F_lots) := by
  refine mkP Fn sc_ll (by rintro _ _ ⟨_, _, _, _, _, rfl, _⟩; rfl) fun cdv A outer s H E S0 H0 ds r hr hF hx => ?_
  obtain ⟨n, m, n0, n6, m3, rfl, rfl⟩ := hF
  have hu := room_hu hr
  refine b_cons (s_par 2 3 (d1 := .tl ((lotsTo n 0).map tupD)) (d2 := .tl ((level n 0).map tupD)) (a_cons (p_is (n_t (n_lst (a_cons (p_tup a_nil) a_nil))) rfl) (a_cons (p_is (n_t (n_lst (a_cons (p_tup a_nil) a_nil))) rfl) a_nil)) ?_ sc_ll.nd)
  refine b_cons (s_forR1 (n := (m : Int)) 4 (fun i Γ => ∃ e4 e5 e6 e7, Γ = [some (.im (.int n)), some (.im (.int (m : Int))), some (.im (.tl ((lotsTo n i).map tupD))), some (.im (.tl ((level n i).map tupD))), e4, e5, e6, e7]) (a_cons (p_var 1) a_nil) (by constructor <;> omega) ⟨none, none, none, none, rfl⟩ (fun i Γ hi hI => ?_) (fun Γ hI => ?_) B.range PassesOwn.leaving sc_ll.nd)
  · obtain ⟨e4, e5, e6, e7, rfl⟩ := hI
    obtain ⟨h20, h60⟩ := size_of (n := n) (j := i) n0 n6 (by omega)
    obtain ⟨h20', h60'⟩ := size_of (n := n) (j := i + 1) n0 n6 (by omega)
    refine b_cons (s_setO 5 (l := []) (n_lst a_nil) ?_ sc_ll.nd)
    refine b_cons (s_forL 6 (ds := (level n i).map tupD) (fun j Γ => ∃ e6 e7, Γ = [some (.im (.int n)), some (.im (.int (m : Int))), some (.im (.tl ((lotsTo n i).map tupD))), some (.im (.tl ((level n i).map tupD))), some (.im (.int (i : Int))), some (.ow ((((level n i).take j).flatMap (ext n)).map tupD)), e6, e7]) (p_up (p_var 3)) ⟨_, _, rfl⟩ (fun j d Γ hd hI => ?_) (fun Γ hI => ?_) PassesOwn.leaving sc_ll.nd)
    · obtain ⟨e6, e7, rfl⟩ := hI
      rw [List.getElem?_map] at hd
      cases hlot : (level n i)[j]? with
      | none => rw [hlot] at hd; cases hd
      | some lot =>
      rw [hlot] at hd
      cases hd
      obtain ⟨iv, il⟩ := level_inv n0 i lot (List.mem_of_getElem? hlot)
      have s0 := iv.s0
      have sn := iv.sn
      have hjl := (List.getElem?_eq_some_iff.mp hlot).1
      have htk : (level n i).take (j + 1) = (level n i).take j ++ [lot] := by rw [List.take_add_one, hlot]; rfl
      have hel : (ext n lot).length ≤ 6 := by unfold ext; rw [List.length_map, List.length_range]; omega
      have hfl : (((level n i).take j).flatMap (ext n)).length ≤ 200 := by
        have : ∀ (L : List (List Int)), (∀ l ∈ L, (ext n l).length ≤ 6) → (L.flatMap (ext n)).length ≤ 6 * L.length := fun L => by
          induction L with
          | nil => intro _; simp
          | cons a L ih =>
            intro hL
            rw [List.flatMap_cons, List.length_append, List.length_cons]
            have := hL a List.mem_cons_self
            have := ih fun l hl => hL l (List.mem_cons_of_mem _ hl)
            omega
        have q := this ((level n i).take j) fun l hl => by
          have iv2 := (level_inv n0 i l (List.mem_of_mem_take hl)).1
          have := iv2.s0
          unfold ext; rw [List.length_map, List.length_range]; omega
        rw [List.length_take] at q
        omega
      refine b_one (s_ext 5 (m := (ext n lot).map tupD) rfl (n_is (n_lcR2 (own := [("thing", 7)]) (j := 7) (lo := start lot) (hi' := n) (fun b => tupD (lot ++ [start lot + (b : Int)])) (fun _ => true)
        (a_cons (p_if (d := .int (start lot)) (k := decide (0 < lot.length)) (t_is (t_cmp (p_var 6) (p_is (d' := tupD []) (p_tup a_nil) rfl) (c_ne hu (eqOk_tup _) (eqOk_tup []))) (by
            rw [deq_tup]
            cases lot with
            | nil => rfl
            | cons x t => simp)) (fun hk => p_is (p_bin (p_ixT (p_var 6) (p_neg p_int) (by exact atI_neg1 (last_at (of_decide_eq_true hk)))) p_int bn_add) (by unfold start; rw [if_pos (of_decide_eq_true hk)])) (fun hk => p_is p_int (by unfold start; rw [if_neg (of_decide_eq_false hk)]))) (a_cons (p_var 0) a_nil))
        (by omega) (blkB_ok (by rfl)) (fun _ _ _ _ _ => pg_name (i := 7) sc_ll.nd rfl (by first | exact Or.inl rfl | exact Or.inr rfl)) (fun b hb _ _ _ _ _ => ts_nil) (fun b hb _ _ _ _ _ _ => p_is (p_bin (p_var 6) (p_tup (a_cons (p_var 7) a_nil)) (bn_catT (by rw [List.length_map, il]; show i + 1 ≤ _; omega))) (cat_tup lot [_])) sc_ll.nd B.range) (by rw [filt_all]; unfold ext; rw [List.map_map]; rfl)) (by rw [List.length_map, List.length_map]; omega) ?_ (hbm := fun ta h => pe_bm PySem.F.plainAttrs_list PySem.F.slot_list_extend PySem.F.type_list_extend mt_extend (pe_var (i := 5) rfl (Or.inl rfl)) h))
      refine ⟨some (.im (tupD lot)), e7, ?_⟩
      rw [htk, List.flatMap_append, List.map_append, List.flatMap_cons, List.flatMap_nil, List.append_nil]
      rfl
    · obtain ⟨e6, e7, rfl⟩ := hI
      rw [List.length_map, List.take_length]
      have el : (level n i).flatMap (ext n) = level n (i + 1) := rfl
      rw [el]
      refine s_freezeT 5 rfl ?_
      have ef : (lotsTo n i).map tupD ++ (level n (i + 1)).map tupD = (lotsTo n (i + 1)).map tupD := by
        show _ = (lotsTo n i ++ level n (i + 1)).map tupD
        rw [List.map_append]
      exact b_one (s_par 2 3 (d1 := .tl ((lotsTo n (i + 1)).map tupD)) (d2 := .tl ((level n (i + 1)).map tupD)) (a_cons (p_is (n_t (n_add (p_var 2) (p_var 5) (by rw [List.length_map, List.length_map]; omega))) (congrArg D.tl ef)) (a_cons (p_var 5) a_nil)) ⟨_, _, _, _, rfl⟩ sc_ll.nd)
  · obtain ⟨e4, e5, e6, e7, rfl⟩ := hI
    rw [Int.toNat_natCast]
    exact b_one (s_ret (p_up (p_var 2)) rfl)
end
end K43

set_option Elab.async false
set_option linter.all false
set_option maxRecDepth 100000
set_option maxHeartbeats 4000000
namespace K43
open PySem PySem.Spec PyProof.Rows L2 Spr
/-- what is said of each outcome -/
def F_said (CA CN CT : Addr) : Fd := fun r d => (r = .error (eN CA) ∧ d = .str "answers") ∨ (r = .error (eN CN) ∧ d = .str "number") ∨ (r = .error (eN CT) ∧ d = .str "tests")
structure Cls (K : PySem.W.Frag) (mg : Str → Option Value) (CA CN CT CB : Addr) : Prop where
  gB : mg "RowError" = some (.ref CB)
  gA : mg "NoAnswers" = some (.ref CA)
  gN : mg "NoNumber" = some (.ref CN)
  gT : mg "NoTests" = some (.ref CT)
  exA : PySem.W.exmOne K (.ref CA) (.ref CB) = some true
  exN : PySem.W.exmOne K (.ref CN) (.ref CB) = some true
  exT : PySem.W.exmOne K (.ref CT) (.ref CB) = some true
  ecA : ExcC K CA
  ecN : ExcC K CN
  ecT : ExcC K CT
  vA : PySem.W.kitOne K (.ref CA) (.type "ValueError") = some true
  vN : PySem.W.kitOne K (.ref CN) (.type "ValueError") = some true
  vT : PySem.W.kitOne K (.ref CT) (.type "ValueError") = some true
  kAA : PySem.W.kitOne K (.ref CA) (.ref CA) = some true
  kAN : PySem.W.kitOne K (.ref CA) (.ref CN) = some false
  kAT : PySem.W.kitOne K (.ref CA) (.ref CT) = some false
  kNA : PySem.W.kitOne K (.ref CN) (.ref CA) = some false
  kNN : PySem.W.kitOne K (.ref CN) (.ref CN) = some true
  kNT : PySem.W.kitOne K (.ref CN) (.ref CT) = some false
  kTA : PySem.W.kitOne K (.ref CT) (.ref CA) = some false
  kTN : PySem.W.kitOne K (.ref CT) (.ref CN) = some false
  kTT : PySem.W.kitOne K (.ref CT) (.ref CT) = some true
theorem sc_said : FnScope ["call", "word", "e", "flags"] ["call"] (defScope st_law_word) := ⟨rfl, rfl, rfl, by decide +kernel, rfl, by decide +kernel, by decide +kernel⟩
theorem cnt0 : cntD [.bl true, .bl false, .bl false] (.bl true) = 1 := by decide +kernel
theorem cnt1 : cntD [.bl false, .bl true, .bl false] (.bl true) = 1 := by decide +kernel
theorem cnt2 : cntD [.bl false, .bl false, .bl true] (.bl true) = 1 := by decide +kernel
theorem said {X : Cx} {g CA CN CT CB : Addr} {cdg : Value} {q : Str} (hk : ∀ s H, (Sx X ["call", "word", "e", "flags"] "_law_word" (defScope st_law_word) g cdg s H).A.units + 65 < cLine) (B : Fr X.mg) (T : Cls X.K X.mg CA CN CT CB) :
    LamX.GivesTo X ["call", "word", "e", "flags"] "_law_word" (defScope st_law_word) g cdg (defBody st_law_word) "call" q (TTe X.K (F_said CA CN CT)) := by
  refine said_givesW (F := F_said CA CN CT) 2 1 rfl T.gB (by decide) sc_said.nd rfl rfl rfl rfl (by decide) (by decide) (fun e rd h => by rcases h with ⟨h1, _⟩ | ⟨h1, _⟩ | ⟨h1, _⟩ <;> cases h1; exact T.exA; exact T.exN; exact T.exT) (fun rd h => by rcases h with ⟨h1, _⟩ | ⟨h1, _⟩ | ⟨h1, _⟩ <;> cases h1) (fun s H H2 S e rd b oe dx pn hF hz hdx hf => ?_) (fun s H c Γ' rd h => b_one (s_ret (p_var 1 h) rfl))
  have hu := hk s H
  rcases hF with ⟨h1, rfl⟩ | ⟨h1, rfl⟩ | ⟨h1, rfl⟩
  · cases h1
    have hdx := hdx rfl
    subst hdx
    refine b_cons (s_set 3 (d := .lst [.bl true, .bl false, .bl false]) (p_lst (a_cons (p_blt (cb_isE T.ecA hz hf (v := .ref CA) (cv := .ref CA) (fun u r => r) T.kAA) (a_cons (p_var 2) (a_cons (p_glob T.gA rfl) a_nil)) B.isi (by decide +kernel)) (a_cons (p_blt (cb_isE T.ecA hz hf (v := .ref CN) (cv := .ref CN) (fun u r => r) T.kAN) (a_cons (p_var 2) (a_cons (p_glob T.gN rfl) a_nil)) B.isi (by decide +kernel)) (a_cons (p_blt (cb_isE T.ecA hz hf (v := .ref CT) (cv := .ref CT) (fun u r => r) T.kAT) (a_cons (p_var 2) (a_cons (p_glob T.gT rfl) a_nil)) B.isi (by decide +kernel)) a_nil)))) ?_ sc_said.nd)
    refine b_cons (s_set 1 p_str ?_ sc_said.nd)
    refine b_one (s_if (k := true) (t_pw (w_and (k := true) (k' := true) (t_is (t_cmp (p_count hu (p_var 3) p_bl (by decide +kernel) (by decide +kernel) (fun to ta h1 h2 => pe_bm PySem.F.plainAttrs_list PySem.F.slot_list_count PySem.F.type_list_count (mt_countD hu) h1 h2)) p_int c_eqI) (by rw [cnt0]; rfl)) (fun hk => w_and1 (t_val (p_blt (cb_isE T.ecA hz hf (v := .ty "ValueError") (cv := .type "ValueError") (fun u r => r) T.vA) (a_cons (p_var 2) (a_cons (p_ty B.ve (by decide +kernel)) a_nil)) B.isi (by decide +kernel)))))) (fun hk => ?_) (fun hk => by cases hk))
    refine b_one (s_set 1 (d := .str "answers") (p_ixL (p_lst (a_cons p_str (a_cons p_str (a_cons p_str a_nil)))) (p_index (n := 0) (z := .bl true) hu (p_var 3) p_bl (by decide +kernel) (by decide +kernel) rfl (by decide +kernel) (fun m z' hm hz' => ?_) (fun to ta h1 h2 => pe_bm PySem.F.plainAttrs_list PySem.F.slot_list_index PySem.F.type_list_index (mt_indexD hu) h1 h2)) rfl) rfl sc_said.nd)
    omega
  · cases h1
    have hdx := hdx rfl
    subst hdx
    refine b_cons (s_set 3 (d := .lst [.bl false, .bl true, .bl false]) (p_lst (a_cons (p_blt (cb_isE T.ecN hz hf (v := .ref CA) (cv := .ref CA) (fun u r => r) T.kNA) (a_cons (p_var 2) (a_cons (p_glob T.gA rfl) a_nil)) B.isi (by decide +kernel)) (a_cons (p_blt (cb_isE T.ecN hz hf (v := .ref CN) (cv := .ref CN) (fun u r => r) T.kNN) (a_cons (p_var 2) (a_cons (p_glob T.gN rfl) a_nil)) B.isi (by decide +kernel)) (a_cons (p_blt (cb_isE T.ecN hz hf (v := .ref CT) (cv := .ref CT) (fun u r => r) T.kNT) (a_cons (p_var 2) (a_cons (p_glob T.gT rfl) a_nil)) B.isi (by decide +kernel)) a_nil)))) ?_ sc_said.nd)
    refine b_cons (s_set 1 p_str ?_ sc_said.nd)
    refine b_one (s_if (k := true) (t_pw (w_and (k := true) (k' := true) (t_is (t_cmp (p_count hu (p_var 3) p_bl (by decide +kernel) (by decide +kernel) (fun to ta h1 h2 => pe_bm PySem.F.plainAttrs_list PySem.F.slot_list_count PySem.F.type_list_count (mt_countD hu) h1 h2)) p_int c_eqI) (by rw [cnt1]; rfl)) (fun hk => w_and1 (t_val (p_blt (cb_isE T.ecN hz hf (v := .ty "ValueError") (cv := .type "ValueError") (fun u r => r) T.vN) (a_cons (p_var 2) (a_cons (p_ty B.ve (by decide +kernel)) a_nil)) B.isi (by decide +kernel)))))) (fun hk => ?_) (fun hk => by cases hk))
    refine b_one (s_set 1 (d := .str "number") (p_ixL (p_lst (a_cons p_str (a_cons p_str (a_cons p_str a_nil)))) (p_index (n := 1) (z := .bl true) hu (p_var 3) p_bl (by decide +kernel) (by decide +kernel) rfl (by decide +kernel) (fun m z' hm hz' => ?_) (fun to ta h1 h2 => pe_bm PySem.F.plainAttrs_list PySem.F.slot_list_index PySem.F.type_list_index (mt_indexD hu) h1 h2)) rfl) rfl sc_said.nd)
    match m, hm with
    | 0, _ => cases hz'; decide +kernel
  · cases h1
    have hdx := hdx rfl
    subst hdx
    refine b_cons (s_set 3 (d := .lst [.bl false, .bl false, .bl true]) (p_lst (a_cons (p_blt (cb_isE T.ecT hz hf (v := .ref CA) (cv := .ref CA) (fun u r => r) T.kTA) (a_cons (p_var 2) (a_cons (p_glob T.gA rfl) a_nil)) B.isi (by decide +kernel)) (a_cons (p_blt (cb_isE T.ecT hz hf (v := .ref CN) (cv := .ref CN) (fun u r => r) T.kTN) (a_cons (p_var 2) (a_cons (p_glob T.gN rfl) a_nil)) B.isi (by decide +kernel)) (a_cons (p_blt (cb_isE T.ecT hz hf (v := .ref CT) (cv := .ref CT) (fun u r => r) T.kTT) (a_cons (p_var 2) (a_cons (p_glob T.gT rfl) a_nil)) B.isi (by decide +kernel)) a_nil)))) ?_ sc_said.nd)
    refine b_cons (s_set 1 p_str ?_ sc_said.nd)
    refine b_one (s_if (k := true) (t_pw (w_and (k := true) (k' := true) (t_is (t_cmp (p_count hu (p_var 3) p_bl (by decide +kernel) (by decide +kernel) (fun to ta h1 h2 => pe_bm PySem.F.plainAttrs_list PySem.F.slot_list_count PySem.F.type_list_count (mt_countD hu) h1 h2)) p_int c_eqI) (by rw [cnt2]; rfl)) (fun hk => w_and1 (t_val (p_blt (cb_isE T.ecT hz hf (v := .ty "ValueError") (cv := .type "ValueError") (fun u r => r) T.vT) (a_cons (p_var 2) (a_cons (p_ty B.ve (by decide +kernel)) a_nil)) B.isi (by decide +kernel)))))) (fun hk => ?_) (fun hk => by cases hk))
    refine b_one (s_set 1 (d := .str "tests") (p_ixL (p_lst (a_cons p_str (a_cons p_str (a_cons p_str a_nil)))) (p_index (n := 2) (z := .bl true) hu (p_var 3) p_bl (by decide +kernel) (by decide +kernel) rfl (by decide +kernel) (fun m z' hm hz' => ?_) (fun to ta h1 h2 => pe_bm PySem.F.plainAttrs_list PySem.F.slot_list_index PySem.F.type_list_index (mt_indexD hu) h1 h2)) rfl) rfl sc_said.nd)
    match m, hm with
    | 0, _ => cases hz'; decide +kernel
    | 1, _ => cases hz'; decide +kernel
section
variable {P : Program} {w : World} {K : PySem.W.Frag} {mg : Str → Option Value} {base : Heap} {CA CN CT CB : Addr}
theorem sayer {g : Addr} {dV kV doc pm cdv ct oc : Value} {an od : Option Addr} {osl : Array (Option Value)} (B : Fr mg) (T : Cls K mg CA CN CT CB) (hm : mg "_law_word" = some (.ref g)) (hk : PySem.W.keepIn K (.ref g) = true) (lk : K.lookup g = some ⟨oc, od, .func (PySem.W.fnOf "_law_word" "_law_word" (defArgs st_law_word) (defBody st_law_word) (defScope st_law_word) dV kV doc pm an cdv ct), osl⟩) (hc : PySem.W.codeIn K cdv "_law_word" = true)
    (hb : L2.Binds K (PySem.W.fnOf "_law_word" "_law_word" (defArgs st_law_word) (defBody st_law_word) (defScope st_law_word) dV kV doc pm an cdv ct) ["call"] []) : SayerG K mg 2 "_law_word" (F_said CA CN CT) := fun X eK eM hr => by
  subst eK eM
  exact ⟨"call", g, _, _, _, dV, kV, doc, pm, cdv, ct, oc, an, od, osl, _, hm, hk, lk, hc, hb, sc_said, rfl, Or.inl rfl, by decide, by decide, fun q => said (fun s H => by have := hr.un; show X.A.units + 3 + 65 < cLine; omega) B T⟩
end
end K43

set_option Elab.async false
set_option linter.all false
set_option maxRecDepth 100000
set_option maxHeartbeats 4000000
set_option exponentiation.threshold 10000
namespace K43
open PySem PySem.Spec PyProof.Rows L2 Spr

abbrev lamQ : Str := ((PySem.Str.ofString "law" ++ ".<locals>.") ++ "<lambda>")
abbrev tabs (P1 : Addr) : List (Addr × Str) := [(P1, lamQ)]
abbrev lawN : List Str := ["script", "hand", "lap", "things", "tests", "most", "every", "bad", "told", "due", "good", "drawn", "more", "none", "flags", "number", "wrong", "words", "lot", "test", "thing", "%"]
abbrev lawLoop : List Stmt := match (defBody st_law).getD 4 (.Pass ⟨0, 0, 0, 0⟩) with
  | .For _ _ b _ _ => b
  | _ => []
theorem sc_law : FnScope lawN ["script"] (defScope st_law) := ⟨rfl, rfl, rfl, by decide +kernel, rfl, by decide +kernel, by decide +kernel⟩
def Iv (ns : List Int) (Γ : Gm) : Prop := ∃ (h : Hd) (e2 e3 e4 e5 e6 e7 e8 e9 e10 e11 e12 e13 e14 e15 e16 e17 e18 : Option Ent), Γ = [some (.im (.lst (ns.map .int))), some (.ow (hE h)), e2, e3, e4, e5, e6, e7, e8, e9, e10, e11, e12, e13, e14, e15, e16, e17, e18, none, none, none]
theorem any_bad {q : D → Prop} {xs : List D} (n : Int) (hn : 0 < n) (hx : (xs.length : Int) = n) (h : Hd) (hq : ∀ d ∈ xs, q d) : ∃ d, L2.atI xs (drawR h xs.length) = some d ∧ q d := by
  obtain ⟨d, h1, h2⟩ := atI_draw (xs := xs) (h := h) hn hx
  exact ⟨d, by rw [hx]; exact h2, hq d (List.mem_of_getElem? h1)⟩
theorem any_tups (t : List Int) : ∀ l : List (List Int), ((l.map tupD).any fun z => deq z (tupD t)) = decide (t ∈ l)
  | [] => rfl
  | a :: l => by
    rw [List.map_cons, List.any_cons, any_tups t l, deq_tup]
    by_cases h : a = t
    · subst h; simp
    · have h' : t ≠ a := fun z => h z.symm
      simp [h, h']
theorem eqOk_tupsT (l : List (List Int)) : eqOk (.tup (l.map tupD)) = true := by
  have h := eqOk_tups l
  unfold eqOk at h ⊢
  exact h
theorem eqOk_pair (x : Option (List Int × List Int)) : eqOk (pairD x) = true := by
  cases x with
  | none => decide +kernel
  | some z => exact eqOk_tupsT [z.1, z.2]
theorem told_bad {T : List (List Int)} {told : List Int} (hl : told.length = T.length) (hb : ∀ x ∈ told, 0 ≤ x ∧ x ≤ 1) : ∀ d ∈ [D.non, tupD (told ++ [0]), .lst (told.map .int), tupD (List.replicate told.length 2 ++ [2]), .str "0"], tgd d = true ∧ toldB T.length d = false := by
  intro d hd
  have lens : ∀ l : List Int, l.length ≠ T.length → toldB T.length (tupD l) = false := fun l h => by
    show (decide ((l.map D.int).length = T.length) && (l.map D.int).all (inBd 0 1)) = false
    rw [List.length_map, decide_eq_false h]
    rfl
  simp only [List.mem_cons, List.not_mem_nil, or_false] at hd
  rcases hd with rfl | rfl | rfl | rfl | rfl
  · exact ⟨rfl, rfl⟩
  · exact ⟨tgd_tup _, lens _ (by rw [List.length_append, hl]; simp)⟩
  · exact ⟨rfl, rfl⟩
  · exact ⟨tgd_tup _, lens _ (by rw [List.length_append, List.length_replicate, hl]; simp)⟩
  · exact ⟨rfl, rfl⟩
theorem num_bad (n : Int) (h0 : 0 ≤ n) : ∀ d ∈ [D.non, .int (-1), .int (n + 1), .bl true, .str "1"], tyGood d = true ∧ inB d 0 n = false := by
  intro d hd
  simp only [List.mem_cons, List.not_mem_nil, or_false] at hd
  rcases hd with rfl | rfl | rfl | rfl | rfl
  · exact ⟨rfl, rfl⟩
  · refine ⟨rfl, ?_⟩
    show (decide ((0 : Int) ≤ -1) && decide ((-1 : Int) ≤ n)) = false
    rw [decide_eq_false (p := (0 : Int) ≤ -1) (by decide)]
    rfl
  · refine ⟨rfl, ?_⟩
    show (decide ((0 : Int) ≤ n + 1) && decide (n + 1 ≤ n)) = false
    rw [decide_eq_false (p := n + 1 ≤ n) (by omega), Bool.and_false]
  · exact ⟨rfl, rfl⟩
  · exact ⟨rfl, rfl⟩
structure Gs (P : Program) (w : World) (K : PySem.W.Frag) (mg : Str → Option Value) (base : Heap) (CA CN CT : Addr) : Prop where
  it : FoP P w K mg base 3 "is_tests" F_ist
  an : FoP P w K mg base 5 "answers" (F_an (eN CT))
  tl : FoP P w K mg base 5 "tells" (F_ta (eN CT) (eN CN) fun x => .bl x.isNone)
  al : FoP P w K mg base 5 "alike" (F_ta (eN CT) (eN CN) pairD)
  fi : FoP P w K mg base 5 "fits" (F_fi (eN CT) (eN CN) (eN CA))
  dr : Fo P w K mg base 1 "_law_draw" (upH K F_draw)
  ay : Fo P w K mg base 2 "_law_any" (upH K F_any)
  te : Fo P w K mg base 2 "_law_tests" (upH K F_tests)
  nt : Fo P w K mg base 3 "_law_no_tests" (upH K F_nt)
  ll : FoP P w K mg base 1 "_law_lots" F_lots
  la : FoP P w K mg base 1 "_law_answers" F_ao
  lk : FoP P w K mg base 2 "_law_alike" F_pa
  wd : SayerG K mg 2 "_law_word" (F_said CA CN CT)
section
variable {P : Program} {w : World} {K : PySem.W.Frag} {mg : Str → Option Value} {base : Heap} {CA CN CT : Addr}
theorem p3 {f cc P1 : Addr} {A : Around} {outer : List Env} {s : Shared} {H : Hp} {E : XK} {H0 : Hp} (B : Fr mg) (GG : Gs P w K mg base CA CN CT) (TB : LamX.TabB base mg cc P1) (hr : RoomG 8 (Bx P w K mg base lawN "law" (defScope st_law) f (.ref cc) A outer s H E).A) {ns : List Int} {Po : Post} (hnx : ∀ Γ', Iv ns Γ' → Po.nx Γ')
    {h : Hd} {n : Int} {m : Nat} {T : List (List Int)} {bad told : List Int} {e2 e6 e9 e10 e11 e12 e13 e14 e15 e16 e17 e18 : Option Ent} (oc : okCall n m T) (n2 : 2 ≤ n) (hl : told.length = T.length) (hb : ∀ x ∈ told, 0 ≤ x ∧ x ≤ 1) :
    Bl (Bx P w K mg base lawN "law" (defScope st_law) f (.ref cc) A outer s H E) (cLaw H0 (tabs P1)) [some (.im (.lst (ns.map .int))), some (.ow (hE h)), e2, some (.im (.int n)), some (.im (.tup (T.map tupD))), some (.im (.int (m : Int))), e6, some (.im (tupD bad)), some (.im (tupD told)), e9, e10, e11, e12, e13, e14, e15, e16, e17, e18, none, none, none] (lawLoop.drop 15) Po := by
  have hu := room_hu hr
  have h10 := oc.t.len
  have n6 := oc.n6
  have LT : LamT (Bx P w K mg base lawN "law" (defScope st_law) f (.ref cc) A outer s H E) (cLaw H0 (tabs P1)) := ⟨cc, P1, TB, rfl, List.mem_cons_self, fun p hp e => by
    rcases List.mem_singleton.mp hp with rfl
    rfl⟩
  obtain ⟨x1, y1, _⟩ := atI_draw (xs := noT n) (h := h) (n := 12) (by decide) rfl
  obtain ⟨z1, z2⟩ := noT_bad oc.n0 x1 (List.mem_of_getElem? y1)
  refine b_cons (s_setE 13 (ev_call 1 GG.nt hr (ea_cons (ev_p (p_var 3)) ea_nil) rfl ⟨h, n, rfl, rfl, y1, rfl⟩) ?_ sc_law.nd)
  generalize drawS h 12 = h1
  clear y1
  have gl : tgd2 (.lst (T.map tupD)) = true := rfl
  have it : ∀ i : Nat, i < 3 → tgd2 ([D.tup (T.map tupD), x1, .lst (T.map tupD)].getD i .non) = true := fun i hi => match i, hi with
    | 0, _ => tgd2_tups T
    | 1, _ => z1
    | 2, _ => gl
  refine b_cons (s_setLcS 14 (.nm 20) (n := 3) (own := [("thing", 20)]) (fun i => .bl (testsB n ([D.tup (T.map tupD), x1, .lst (T.map tupD)].getD i .non))) (fun _ => true)
    (pi_tup (p_tup (a_cons (p_var 4) (a_cons (p_var 13) (a_cons (p_bty cb_listT (a_cons (p_var 4) a_nil) B.list (by decide +kernel)) a_nil))))) (srcp_tup (ds := [D.tup (T.map tupD), x1, .lst (T.map tupD)]) fun _ _ _ h => h) (by decide) (fun i hi => trivial) (blkB_ok (by rfl)) (by decide) (fun _ _ _ _ _ => (pg_name (i := 20) sc_law.nd rfl (by first | exact Or.inl rfl | exact Or.inr rfl))) (fun i hi _ _ _ _ _ => ts_nil)
    (fun i hi _ _ _ _ _ _ => p_call GG.it hr (a_cons (p_var 3) (a_cons (p_var 20) a_nil)) ⟨n, _, oc.n0, by omega, it i hi, rfl, rfl⟩) (.inr ?_) sc_law.nd)
  have ef : accE (fun _ => true) (fun i => D.bl (testsB n ([D.tup (T.map tupD), x1, .lst (T.map tupD)].getD i .non))) 3 = [.bl true, .bl false, .bl false] := by
    show [D.bl (testsB n (.tup (T.map tupD))), .bl (testsB n x1), .bl (testsB n (.lst (T.map tupD)))] = _
    rw [tests_ok oc.t.ok (by omega), z2]
    rfl
  rw [ef]
  refine b_cons (s_if (k := false) (t_cmp (p_blt (cb_reprS hr (by decide +kernel) (by decide +kernel)) (a_cons (p_var 14) a_nil) B.repr (by decide +kernel)) (p_blt (cb_reprS hr (by decide +kernel) (by decide +kernel)) (a_cons (p_lst (a_cons p_bl (a_cons p_bl (a_cons p_bl a_nil)))) a_nil) B.repr (by decide +kernel)) ne_str) (fun hk => by cases hk) (fun hk => ?_))
  refine b_nil ?_
  obtain ⟨x2, y2, z3, z4⟩ := any_bad 5 (by decide) rfl h1 (num_bad n oc.n0)
  refine b_cons (s_setE 15 (ev_call 1 GG.ay hr (ea_cons (ev_p (p_lst (a_cons p_non (a_cons (p_neg p_int) (a_cons (p_bin (p_var 3) p_int bn_add) (a_cons p_bl (a_cons p_str a_nil))))))) ea_nil) rfl ⟨h1, _, by show 0 < 5; decide, by show 5 ≤ 1000; decide, rfl, rfl, y2, rfl⟩) ?_ sc_law.nd)
  generalize drawS h1 _ = h2
  obtain ⟨x3, y3, z5, z6⟩ := any_bad 5 (by decide) rfl h2 (told_bad (T := T) hl hb)
  have hrep : D.tup (List.replicate ((told.length : Int)).toNat [D.int 2]).flatten = tupD (List.replicate told.length 2) := by rw [rep_int]; rfl
  refine b_cons (s_setE 16 (ev_call 1 GG.ay hr (ea_cons (ev_p (p_lst (a_cons p_non (a_cons (p_is (p_bin (p_var 8) (p_tup (a_cons p_int a_nil)) (bn_catT (by rw [List.length_map]; show told.length + 1 ≤ _; omega))) (cat_tup told [0])) (a_cons (p_bty cb_listT (a_cons (p_var 8) a_nil) B.list (by decide +kernel)) (a_cons (p_is (p_bin (p_is (p_bin (p_tup (a_cons p_int a_nil)) (p_is (p_blt cb_lenT (a_cons (p_var 8) a_nil) B.len (by decide +kernel)) (congrArg (fun n : Nat => D.int (n : Int)) (List.length_map _))) (bn_repA (by simp) (by simp) (by omega) (by omega))) hrep) (p_tup (a_cons p_int a_nil)) (bn_catT (by rw [List.length_map, List.length_replicate]; show told.length + 1 ≤ _; omega))) (cat_tup _ [2])) (a_cons p_str a_nil))))))) ea_nil) rfl ⟨h2, _, by show 0 < 5; decide, by show 5 ≤ 1000; decide, rfl, rfl, y3, rfl⟩) ?_ sc_law.nd)
  generalize drawS h2 _ = h3
  refine b_cons (s_setOE 17 (ea_cons (ev_lamS (F := F_said CA CN CT) (rd := .str "tests") (r := .error (eN CT)) (k := 6) (GG.wd _ rfl rfl (hr.mono (by decide))) LT cnt_law hr
      (fun A' outer' s' H' E' f' c' hr' => xe_x (x_call (takes_of rfl rfl rfl rfl) GG.an hr' (a_cons (p_var 3) (a_cons (p_var 13) (a_cons (p_var 7) a_nil))) (.inl ⟨n, x1, _, oc.n0, by omega, z1, z2, rfl, rfl⟩))) (.inr (.inr ⟨rfl, rfl⟩))) ea_nil) ?_ sc_law.nd)
  refine b_cons (s_appS 17 (Γ1 := [some (.im (.lst (ns.map .int))), some (.ow (hE h3)), e2, some (.im (.int n)), some (.im (.tup (T.map tupD))), some (.im (.int (m : Int))), e6, some (.im (tupD bad)), some (.im (tupD told)), e9, e10, e11, e12, some (.im (x1)), some (.im (.lst [.bl true, .bl false, .bl false])), some (.im (x2)), some (.im (x3)), some (.ow [.str "tests"]), e18, none, none, none]) (l := [.str "tests"]) (ev_lamS (F := F_said CA CN CT) (rd := .str "number") (r := .error (eN CN)) (k := 6) (GG.wd _ rfl rfl (hr.mono (by decide))) LT cnt_law hr
      (fun A' outer' s' H' E' f' c' hr' => xe_x (x_call (takes_of rfl rfl rfl rfl) GG.tl hr' (a_cons (p_var 3) (a_cons (p_var 4) (a_cons (p_var 15) a_nil))) (.inr (.inl ⟨n, T, x2, oc.n0, by omega, oc.t, z3, z4, rfl, rfl⟩)))) (.inr (.inl ⟨rfl, rfl⟩))) (by show 1 < _; decide) ?_)
  refine b_cons (s_appS 17 (Γ1 := [some (.im (.lst (ns.map .int))), some (.ow (hE h3)), e2, some (.im (.int n)), some (.im (.tup (T.map tupD))), some (.im (.int (m : Int))), e6, some (.im (tupD bad)), some (.im (tupD told)), e9, e10, e11, e12, some (.im (x1)), some (.im (.lst [.bl true, .bl false, .bl false])), some (.im (x2)), some (.im (x3)), some (.ow [.str "tests", .str "number"]), e18, none, none, none]) (l := [.str "tests", .str "number"]) (ev_lamS (F := F_said CA CN CT) (rd := .str "tests") (r := .error (eN CT)) (k := 6) (GG.wd _ rfl rfl (hr.mono (by decide))) LT cnt_law hr
      (fun A' outer' s' H' E' f' c' hr' => xe_x (x_call (takes_of rfl rfl rfl rfl) GG.tl hr' (a_cons (p_var 3) (a_cons (p_var 13) (a_cons p_int a_nil))) (.inl ⟨n, x1, _, oc.n0, by omega, z1, z2, rfl, rfl⟩))) (.inr (.inr ⟨rfl, rfl⟩))) (by show 2 < _; decide) ?_)
  refine b_cons (s_appS 17 (Γ1 := [some (.im (.lst (ns.map .int))), some (.ow (hE h3)), e2, some (.im (.int n)), some (.im (.tup (T.map tupD))), some (.im (.int (m : Int))), e6, some (.im (tupD bad)), some (.im (tupD told)), e9, e10, e11, e12, some (.im (x1)), some (.im (.lst [.bl true, .bl false, .bl false])), some (.im (x2)), some (.im (x3)), some (.ow [.str "tests", .str "number", .str "tests"]), e18, none, none, none]) (l := [.str "tests", .str "number", .str "tests"]) (ev_lamS (F := F_said CA CN CT) (rd := .str "tests") (r := .error (eN CT)) (k := 6) (GG.wd _ rfl rfl (hr.mono (by decide))) LT cnt_law hr
      (fun A' outer' s' H' E' f' c' hr' => xe_x (x_call (takes_of rfl rfl rfl rfl) GG.al hr' (a_cons (p_var 3) (a_cons (p_var 13) (a_cons p_int a_nil))) (.inl ⟨n, x1, _, oc.n0, by omega, z1, z2, rfl, rfl⟩))) (.inr (.inr ⟨rfl, rfl⟩))) (by show 3 < _; decide) ?_)
  refine b_cons (s_appS 17 (Γ1 := [some (.im (.lst (ns.map .int))), some (.ow (hE h3)), e2, some (.im (.int n)), some (.im (.tup (T.map tupD))), some (.im (.int (m : Int))), e6, some (.im (tupD bad)), some (.im (tupD told)), e9, e10, e11, e12, some (.im (x1)), some (.im (.lst [.bl true, .bl false, .bl false])), some (.im (x2)), some (.im (x3)), some (.ow [.str "tests", .str "number", .str "tests", .str "tests"]), e18, none, none, none]) (l := [.str "tests", .str "number", .str "tests", .str "tests"]) (ev_lamS (F := F_said CA CN CT) (rd := .str "answers") (r := .error (eN CA)) (k := 6) (GG.wd _ rfl rfl (hr.mono (by decide))) LT cnt_law hr
      (fun A' outer' s' H' E' f' c' hr' => xe_x (x_call (takes_of rfl rfl rfl rfl) GG.fi hr' (a_cons (p_var 3) (a_cons (p_var 4) (a_cons (p_var 5) (a_cons (p_var 16) a_nil)))) (.inl ⟨n, m, T, x3, oc, z5, z6, rfl, rfl⟩))) (.inl ⟨rfl, rfl⟩)) (by show 4 < _; decide) ?_)
  refine s_freeze 17 rfl ?_
  refine b_one (s_if (k := false) (t_cmp (p_var 17) (p_lst (a_cons p_str (a_cons p_str (a_cons p_str (a_cons p_str (a_cons p_str a_nil)))))) (c_neSame hu (by decide +kernel))) (fun hk => by cases hk) (fun hk => ?_))
  exact b_nil (hnx _ ⟨_, _, _, _, _, _, _, _, _, _, _, _, _, _, _, _, _, _, rfl⟩)
end
end K43

set_option Elab.async false
set_option linter.all false
set_option maxRecDepth 100000
set_option maxHeartbeats 4000000
set_option exponentiation.threshold 10000
namespace K43
open PySem PySem.Spec PyProof.Rows L2 Spr

theorem accE_draws {h : Hd} {n : Int} {m : Nat} : D.tup (accE (fun _ => true) (fun i => .int (drawR (iterS h n i) n)) m) = tupD (drawsL h n m) := by
  unfold accE tupD drawsL
  rw [List.filter_eq_self.mpr (fun _ _ => rfl), List.map_map]
  rfl
section
variable {P : Program} {w : World} {K : PySem.W.Frag} {mg : Str → Option Value} {base : Heap} {CA CN CT : Addr}
theorem p2 {f cc P1 : Addr} {A : Around} {outer : List Env} {s : Shared} {H : Hp} {E : XK} {H0 : Hp} (B : Fr mg) (GG : Gs P w K mg base CA CN CT) (TB : LamX.TabB base mg cc P1) (hr : RoomG 8 (Bx P w K mg base lawN "law" (defScope st_law) f (.ref cc) A outer s H E).A) {ns : List Int} {Po : Post} (hnx : ∀ Γ', Iv ns Γ' → Po.nx Γ')
    {h : Hd} {n : Int} {m : Nat} {T : List (List Int)} {bad told : List Int} {e2 e9 e10 e11 e12 e13 e14 e15 e16 e17 e18 : Option Ent} (oc : okCall n m T) (n2 : 2 ≤ n) (hbm : bad ∈ lotsTo n m) (ht : ansOf T bad = told) (h6 : T.length ≤ 6) :
    Bl (Bx P w K mg base lawN "law" (defScope st_law) f (.ref cc) A outer s H E) (cLaw H0 (tabs P1)) [some (.im (.lst (ns.map .int))), some (.ow (hE h)), e2, some (.im (.int n)), some (.im (.tup (T.map tupD))), some (.im (.int (m : Int))), some (.im (.lst ((lotsTo n m).map tupD))), some (.im (tupD bad)), some (.im (tupD told)), e9, e10, e11, e12, e13, e14, e15, e16, e17, e18, none, none, none] (lawLoop.drop 8) Po := by
  have hu := room_hu hr
  have hun := hr.un
  have h10 := oc.t.len
  have n6 := oc.n6
  have n0 := oc.n0
  have h60 := (size_of oc.n0 oc.n6 oc.m3).2
  have le : ∀ l ∈ T, l.length ≤ 50 := fun l hl => by have := (oc.t.ok l hl).len; omega
  have fl : ∀ t, (fitsL n m T t).length ≤ 16000000 := fun t => by
    have := List.length_filter_le (fun l => decide (ansOf T l = t)) (lotsTo n m)
    unfold fitsL
    omega
  have hl : told.length = T.length := by rw [← ht, ans_len]
  have hb : ∀ x ∈ told, 0 ≤ x ∧ x ≤ 1 := by rw [← ht]; exact ans_bd
  have hmem : bad ∈ fitsL n m T told := List.mem_filter.mpr ⟨hbm, decide_eq_true ht⟩
  refine b_cons (s_setLcL 10 (own := [("lot", 18)]) (j := 18) (xs := lotsTo n m) tupD tupD (fun l => decide (ansOf T l = told)) (p_var 6) (by omega) (blkB_ok (by rfl)) (fun _ _ _ _ _ => (pg_name (i := 18) sc_law.nd rfl (by first | exact Or.inl rfl | exact Or.inr rfl)))
    (fun lot hl _ _ _ _ _ => ts_one (t_is (t_cmp (p_upP (p_call GG.la hr (a_cons (p_var 4) (a_cons (p_var 18) a_nil)) ⟨T, lot, by omega, le, rfl, rfl⟩)) (p_var 8) (c_eq hu (eqOk_tup _) (eqOk_tup _))) (deq_tup _ _))) (fun lot hl _ _ _ _ _ _ => p_var 18) (.inr ?_) sc_law.nd)

  refine b_cons (s_if (k := false) (t_pw (w_or (k := false) (k' := false) (t_cmp (p_blt (cb_sortV (l := fitsL n m T told) (by omega) (lots_head oc.n0 m _)) (a_cons (p_is (n_p (n_lcL (own := [("lot", 18)]) (j := 18) (xs := fitsL n m T told) tupD tupD (fun _ => true) (p_call GG.fi hr (a_cons (p_var 3) (a_cons (p_var 4) (a_cons (p_var 5) (a_cons (p_var 8) a_nil)))) (.inr ⟨n, m, T, told, oc, hl, hb, rfl, rfl⟩)) (fl told) (blkB_ok (by rfl)) (fun _ _ _ _ _ => (pg_name (i := 18) sc_law.nd rfl (by first | exact Or.inl rfl | exact Or.inr rfl))) (fun i hi _ _ _ _ _ => ts_nil) (fun lot hl _ _ _ _ _ _ => p_bty cb_tupleT (a_cons (p_var 18) a_nil) B.tuple (by decide +kernel)) sc_law.nd)) (by rw [filt_all])) a_nil) B.sorted (by decide +kernel)) (p_blt (cb_sortV (l := fitsL n m T told) (by omega) (lots_head oc.n0 m _)) (a_cons (p_var 10) a_nil) B.sorted (by decide +kernel)) (c_neSame hu (eqOk_tups _))) (fun hk => w_or1 (t_is (t_cmp (p_var 7) (p_var 10) (c_notinD (by omega) (eqOk_tup _) (eqOk_tups _))) (by rw [any_tups]; exact congrArg not (decide_eq_true hmem)))))) (fun hk => by cases hk) (fun hk => ?_))
  refine b_nil ?_
  have enl : (T.map tupD).length = T.length := List.length_map _
  refine b_cons (s_setE 11 (d := tupD (drawsL h 2 T.length)) (Γ1 := [some (.im (.lst (ns.map .int))), some (.ow (hE (iterS h 2 T.length))), e2, some (.im (.int n)), some (.im (.tup (T.map tupD))), some (.im (.int (m : Int))), some (.im (.lst ((lotsTo n m).map tupD))), some (.im (tupD bad)), some (.im (tupD told)), e9, some (.im (.lst ((fitsL n m T told).map tupD))), e11, e12, e13, e14, e15, e16, e17, e18, none, none, none]) (ev_isG (ev_is (ev_bty cb_tuple (ea_cons (ev_lcT 19 21 (ds := T.map tupD) (own := [("test", 19), ("%", 21)]) (fun i => [some (.im (.lst (ns.map .int))), some (.ow (hE (iterS h 2 i))), e2, some (.im (.int n)), some (.im (.tup (T.map tupD))), some (.im (.int (m : Int))), some (.im (.lst ((lotsTo n m).map tupD))), some (.im (tupD bad)), some (.im (tupD told)), e9, some (.im (.lst ((fitsL n m T told).map tupD))), e11, e12, e13, e14, e15, e16, e17, e18, none, none, none]) (fun i => [some (.im (.lst (ns.map .int))), some (.ow (hE (iterS h 2 i))), e2, some (.im (.int n)), some (.im (.tup (T.map tupD))), some (.im (.int (m : Int))), some (.im (.lst ((lotsTo n m).map tupD))), some (.im (tupD bad)), some (.im (tupD told)), e9, some (.im (.lst ((fitsL n m T told).map tupD))), e11, e12, e13, e14, e15, e16, e17, e18, none, none, none]) (fun i => .int (drawR (iterS h 2 i) 2)) (fun _ => true)
    (ev_p (p_var 4)) (by omega) (blkB_ok (by rfl)) (fun _ _ _ _ _ => (pg_name (i := 19) sc_law.nd rfl (by first | exact Or.inl rfl | exact Or.inr rfl))) (fun i hi _ _ _ _ _ => ts_nilE)
    (fun i hi _ _ _ _ _ _ => ev_isG (ev_call 1 GG.dr hr (ea_cons (ev_p p_int) ea_nil) rfl ⟨_, 2, by decide, by decide, rfl, rfl, rfl, rfl⟩) rfl) ⟨rfl, by decide, by decide, by decide, rfl, fun _ => rfl, fun _ => rfl, (fun i h => nomatch h), by simp⟩ sc_law.nd) ea_nil) B.tuple (by decide +kernel)) (by rw [enl]; exact accE_draws)) (by rw [enl])) ?_ sc_law.nd)
  have dl : (drawsL h 2 T.length).length = T.length := draws_len
  have db := draws_bd (h := h) (m := T.length)
  generalize drawsL h 2 T.length = dr at dl db
  generalize iterS h 2 T.length = h1
  refine b_cons (s_setLcL 10 (own := [("lot", 18)]) (j := 18) (xs := lotsTo n m) tupD tupD (fun l => decide (ansOf T l = dr)) (p_var 6) (by omega) (blkB_ok (by rfl)) (fun _ _ _ _ _ => (pg_name (i := 18) sc_law.nd rfl (by first | exact Or.inl rfl | exact Or.inr rfl)))
    (fun lot hl _ _ _ _ _ => ts_one (t_is (t_cmp (p_upP (p_call GG.la hr (a_cons (p_var 4) (a_cons (p_var 18) a_nil)) ⟨T, lot, by omega, le, rfl, rfl⟩)) (p_var 11) (c_eq hu (eqOk_tup _) (eqOk_tup _))) (deq_tup _ _))) (fun lot hl _ _ _ _ _ _ => p_var 18) (.inr ?_) sc_law.nd)

  refine b_cons (s_if (k := false) (t_cmp (p_blt (cb_sortV (l := fitsL n m T dr) (by omega) (lots_head oc.n0 m _)) (a_cons (p_is (n_p (n_lcL (own := [("lot", 18)]) (j := 18) (xs := fitsL n m T dr) tupD tupD (fun _ => true) (p_call GG.fi hr (a_cons (p_var 3) (a_cons (p_var 4) (a_cons (p_var 5) (a_cons (p_var 11) a_nil)))) (.inr ⟨n, m, T, dr, oc, dl, db, rfl, rfl⟩)) (fl dr) (blkB_ok (by rfl)) (fun _ _ _ _ _ => (pg_name (i := 18) sc_law.nd rfl (by first | exact Or.inl rfl | exact Or.inr rfl))) (fun i hi _ _ _ _ _ => ts_nil) (fun lot hl _ _ _ _ _ _ => p_bty cb_tupleT (a_cons (p_var 18) a_nil) B.tuple (by decide +kernel)) sc_law.nd)) (by rw [filt_all])) a_nil) B.sorted (by decide +kernel)) (p_blt (cb_sortV (l := fitsL n m T dr) (by omega) (lots_head oc.n0 m _)) (a_cons (p_var 10) a_nil) B.sorted (by decide +kernel)) (c_neSame hu (eqOk_tups _))) (fun hk => by cases hk) (fun hk => ?_))
  refine b_nil ?_
  refine b_cons (s_setE 12 (d := .tup ((T ++ [lotR h1 n]).map tupD)) (Γ1 := [some (.im (.lst (ns.map .int))), some (.ow (hE (iterS h1 2 n.toNat))), e2, some (.im (.int n)), some (.im (.tup (T.map tupD))), some (.im (.int (m : Int))), some (.im (.lst ((lotsTo n m).map tupD))), some (.im (tupD bad)), some (.im (tupD told)), e9, some (.im (.lst ((fitsL n m T dr).map tupD))), some (.im (tupD dr)), e12, e13, e14, e15, e16, e17, e18, none, none, none]) (ev_is (ev_bin (db := .tup [tupD (lotR h1 n)]) (ev_p (p_var 4)) (ev_tup (ea_cons (ev_is (ev_bty cb_tuple (ea_cons (ev_lcR1 20 21 (n := n) (own := [("thing", 20), ("%", 21)]) (fun i => [some (.im (.lst (ns.map .int))), some (.ow (hE (iterS h1 2 i))), e2, some (.im (.int n)), some (.im (.tup (T.map tupD))), some (.im (.int (m : Int))), some (.im (.lst ((lotsTo n m).map tupD))), some (.im (tupD bad)), some (.im (tupD told)), e9, some (.im (.lst ((fitsL n m T dr).map tupD))), some (.im (tupD dr)), e12, e13, e14, e15, e16, e17, e18, none, none, none]) (fun i => [some (.im (.lst (ns.map .int))), some (.ow (hE (iterS h1 2 (i + 1)))), e2, some (.im (.int n)), some (.im (.tup (T.map tupD))), some (.im (.int (m : Int))), some (.im (.lst ((lotsTo n m).map tupD))), some (.im (tupD bad)), some (.im (tupD told)), e9, some (.im (.lst ((fitsL n m T dr).map tupD))), some (.im (tupD dr)), e12, e13, e14, e15, e16, e17, e18, none, none, none]) (fun i => .int (i : Int)) (lotP h1)
      (ea_p (a_cons (p_var 3) a_nil)) (by omega) (by omega) (blkB_ok (by rfl)) (fun _ _ _ _ _ => (pg_name (i := 20) sc_law.nd rfl (by first | exact Or.inl rfl | exact Or.inr rfl)))
      (fun i hi _ _ _ _ _ => ts_oneE (et_isG (et_is (et_cmp (ev_call 1 GG.dr hr (ea_cons (ev_p p_int) ea_nil) rfl ⟨iterS h1 2 i, 2, by decide, by decide, rfl, rfl, rfl, rfl⟩) (ev_p p_int) c_eqI) rfl) rfl))
      (fun i hi _ _ _ _ _ _ => ev_p (p_var 20)) ⟨rfl, by decide, by decide, by decide, rfl, fun _ => rfl, fun _ => rfl, fun i _ => rfl, by simp⟩ sc_law.nd B.range) ea_nil) B.tuple (by decide +kernel)) (congrArg D.tup (accE_lot h1 n))) ea_nil) (by show 1 ≤ _; decide)) (bn_catT (by rw [List.length_map]; show T.length + 1 ≤ _; omega))) (by rw [List.map_append]; rfl)) ?_ sc_law.nd)
  have hlot := lotR_ok (h := h1) (n := n) n0
  generalize lotR h1 n = lot at hlot
  generalize iterS h1 2 n.toNat = h2
  have oc2 : okCall n m (T ++ [lot]) := ⟨oc.n0, oc.n6, oc.m3, oc.mn, ⟨fun l hl => by
    rcases List.mem_append.mp hl with hl | hl
    · exact oc.t.ok l hl
    · rw [List.mem_singleton.mp hl]; exact hlot, by rw [List.length_append]; show T.length + 1 ≤ 10; omega⟩⟩
  have tst : Pt (Bx P w K mg base lawN "law" (defScope st_law) f (.ref cc) A outer s H E) (cLaw H0 (tabs P1)) [some (.im (.lst (ns.map .int))), some (.ow (hE h2)), e2, some (.im (.int n)), some (.im (.tup (T.map tupD))), some (.im (.int (m : Int))), some (.im (.lst ((lotsTo n m).map tupD))), some (.im (tupD bad)), some (.im (tupD told)), e9, some (.im (.lst ((fitsL n m T dr).map tupD))), some (.im (tupD dr)), some (.im (.tup ((T ++ [lot]).map tupD))), e13, e14, e15, e16, e17, e18, none, none, none] (match (lawLoop.drop 14).getD 0 (.Pass ⟨0, 0, 0, 0⟩) with | .If t _ _ _ => t | _ => .Constant .none 0 ⟨0, 0, 0, 0⟩) false := by
    cases hp : pairA (ansOf T) (lotsTo n m) [] with
    | some z => exact t_pw (w_and (k := false) (k' := true) (t_is (t_val (p_call GG.tl hr (a_cons (p_var 3) (a_cons (p_var 4) (a_cons (p_var 5) a_nil))) (.inr (.inr ⟨n, m, T, oc, rfl, rfl⟩)))) (by rw [hp]; rfl)) (fun hk => by cases hk))
    | none => exact t_pw (w_and (k := true) (k' := false) (t_is (t_val (p_call GG.tl hr (a_cons (p_var 3) (a_cons (p_var 4) (a_cons (p_var 5) a_nil))) (.inr (.inr ⟨n, m, T, oc, rfl, rfl⟩)))) (by rw [hp]; rfl)) (fun hk => w_and1 (t_is (t_not (t_val (p_call GG.tl hr (a_cons (p_var 3) (a_cons (p_var 12) (a_cons (p_var 5) a_nil))) (.inr (.inr ⟨n, m, T ++ [lot], oc2, rfl, rfl⟩))))) (by rw [tells_more hp]; rfl))))
  refine b_cons (s_if (k := false) tst (fun hk => by cases hk) (fun hk => ?_))
  refine b_nil ?_
  exact p3 B GG TB hr hnx oc n2 hl hb
end
end K43

set_option Elab.async false
set_option linter.all false
set_option maxRecDepth 100000
set_option maxHeartbeats 4000000
set_option exponentiation.threshold 10000
namespace K43
open PySem PySem.Spec PyProof.Rows L2 Spr

section
variable {P : Program} {w : World} {K : PySem.W.Frag} {mg : Str → Option Value} {base : Heap} {CA CN CT : Addr}
theorem p1 {f cc P1 : Addr} {A : Around} {outer : List Env} {s : Shared} {H : Hp} {E : XK} {H0 : Hp} (B : Fr mg) (GG : Gs P w K mg base CA CN CT) (TB : LamX.TabB base mg cc P1) (hr : RoomG 8 (Bx P w K mg base lawN "law" (defScope st_law) f (.ref cc) A outer s H E).A) {ns : List Int} {Po : Post} (hnx : ∀ Γ', Iv ns Γ' → Po.nx Γ')
    {h : Hd}  {e2 e3 e4 e5 e6 e7 e8 e9 e10 e11 e12 e13 e14 e15 e16 e17 e18 : Option Ent}  :
    Bl (Bx P w K mg base lawN "law" (defScope st_law) f (.ref cc) A outer s H E) (cLaw H0 (tabs P1)) [some (.im (.lst (ns.map .int))), some (.ow (hE h)), e2, e3, e4, e5, e6, e7, e8, e9, e10, e11, e12, e13, e14, e15, e16, e17, e18, none, none, none] lawLoop Po := by
  have hu := room_hu hr
  have a1 := drawR_nn (h := h) (n := 5) (by decide)
  have a2 := drawR_lt (h := h) (n := 5) (by decide)
  refine b_cons (s_setE 3 (ev_bin (ev_p p_int) (ev_call 1 GG.dr hr (ea_cons (ev_p p_int) ea_nil) rfl ⟨h, 5, by decide, by decide, rfl, rfl, rfl, rfl⟩) bn_add) ?_ sc_law.nd)
  generalize drawS h 5 = h1
  have n2 : 2 ≤ 2 + drawR h 5 := by omega
  have n6 : 2 + drawR h 5 ≤ 6 := by omega
  clear a1 a2
  generalize 2 + drawR h 5 = n at n2 n6
  have k1 := drawR_nn (h := h1) (n := 6 + 1) (by decide)
  have k2 := drawR_lt (h := h1) (n := 6 + 1) (by decide)
  have hT : okTests n (testsR (drawS h1 (6 + 1)) n (drawR h1 (6 + 1)).toNat) := ⟨testsR_ok (by omega), by rw [testsR_len]; omega⟩
  have hT6 : (testsR (drawS h1 (6 + 1)) n (drawR h1 (6 + 1)).toNat).length ≤ 6 := by rw [testsR_len]; omega
  have hmin : 0 < min n 3 + 1 ∧ min n 3 + 1 ≤ 4 ∧ min n 3 ≤ n := by omega
  have b1 := drawR_nn (h := testS (drawS h1 (6 + 1)) n (drawR h1 (6 + 1)).toNat) (n := min n 3 + 1) hmin.1
  have b2 := drawR_lt (h := testS (drawS h1 (6 + 1)) n (drawR h1 (6 + 1)).toNat) (n := min n 3 + 1) hmin.1
  obtain ⟨m, em⟩ : ∃ m : Nat, drawR (testS (drawS h1 (6 + 1)) n (drawR h1 (6 + 1)).toNat) (min n 3 + 1) = (m : Int) := ⟨(drawR (testS (drawS h1 (6 + 1)) n (drawR h1 (6 + 1)).toNat) (min n 3 + 1)).toNat, by omega⟩
  have hm3 : m ≤ 3 := by omega
  have hmn : (m : Int) ≤ n := by omega
  refine b_cons (s_unpackE [4, 5] (ds := [.tup ((testsR (drawS h1 (6 + 1)) n (drawR h1 (6 + 1)).toNat).map tupD), .int (m : Int)]) (ev_tup (ea_cons (ev_call 1 GG.te hr (ea_cons (ev_p (p_var 3)) (ea_cons (ev_p p_int) ea_nil)) rfl ⟨h1, n, 6, by omega, by omega, by decide, by decide, rfl, rfl, rfl, rfl⟩) (ea_cons (ev_is (ev_call 1 GG.dr hr (ea_cons (ev_p (p_bin (p_blt cb_min2 (a_cons (p_var 3) (a_cons p_int a_nil)) B.min (by decide +kernel)) p_int bn_add)) ea_nil) rfl ⟨testS (drawS h1 (6 + 1)) n (drawR h1 (6 + 1)).toNat, min n 3 + 1, by omega, by omega, rfl, rfl, rfl, rfl⟩) (congrArg D.int em)) ea_nil)) (by show 2 ≤ _; decide)) ?_ (hg := pgs_cons (pg_name (i := 4) sc_law.nd rfl (by first | exact Or.inl rfl | exact Or.inr rfl)) (pgs_cons (pg_name (i := 5) sc_law.nd rfl (by first | exact Or.inl rfl | exact Or.inr rfl)) pgs_nil)))
  generalize drawS (testS (drawS h1 (6 + 1)) n (drawR h1 (6 + 1)).toNat) (min n 3 + 1) = h2
  clear em b1 b2
  generalize testsR (drawS h1 (6 + 1)) n (drawR h1 (6 + 1)).toNat = T at hT hT6
  have oc : okCall n m T := ⟨by omega, n6, hm3, hmn, hT⟩
  have le : ∀ l ∈ T, l.length ≤ 50 := fun l hl => by have := (hT.ok l hl).len; omega
  refine b_cons (s_set 6 (d := .lst ((lotsTo n m).map tupD)) (p_call GG.ll hr (a_cons (p_var 3) (a_cons (p_var 5) a_nil)) ⟨n, m, by omega, n6, hm3, rfl, rfl⟩) ?_ sc_law.nd)
  have h60 := (size_of (n := n) (j := m) (by omega) n6 hm3).2
  have hpos : 0 < (lotsTo n m).length := by
    obtain ⟨r, h1, _⟩ := lots_cons n (by omega) m
    rw [h1]
    simp
  have enl : ((lotsTo n m).map tupD).length = (lotsTo n m).length := List.length_map _
  obtain ⟨db, y1, y2⟩ := any_bad (q := fun d => ∃ l ∈ lotsTo n m, d = tupD l) (xs := (lotsTo n m).map tupD) ((lotsTo n m).length : Int) (by omega) (by rw [enl]) h2 (fun d hd => by
    obtain ⟨l, hl, rfl⟩ := List.mem_map.mp hd
    exact ⟨l, hl, rfl⟩)
  obtain ⟨bad, hbm, rfl⟩ := y2
  have hbo : okLot n bad := inv_ok (lots_inv (by omega) m bad hbm)
  refine b_cons (s_setE 7 (ev_call 1 GG.ay hr (ea_cons (ev_p (p_var 6)) ea_nil) rfl ⟨h2, _, by rw [enl]; omega, by rw [enl]; omega, rfl, rfl, y1, rfl⟩) ?_ sc_law.nd)
  generalize drawS h2 _ = h3
  clear y1
  refine b_cons (s_set 8 (d := tupD (ansOf T bad)) (p_upP (p_call GG.la hr (a_cons (p_var 4) (a_cons (p_var 7) a_nil)) ⟨T, bad, by omega, le, rfl, rfl⟩)) ?_ sc_law.nd)
  refine b_cons (s_if (k := false) (t_cmp (p_bty cb_tupleT (a_cons (p_upP (p_call GG.an hr (a_cons (p_var 3) (a_cons (p_var 4) (a_cons (p_var 7) a_nil))) (.inr ⟨n, T, bad, by omega, by omega, hT, hbo, rfl, rfl⟩))) a_nil) B.tuple (by decide +kernel)) (p_var 8) (c_neSame hu (eqOk_tup (ansOf T bad)))) (fun hk => by cases hk) (fun hk => ?_))
  refine b_nil ?_
  refine b_cons (s_set 9 (d := pairD (pairA (ansOf T) (lotsTo n m) [])) (p_call GG.lk hr (a_cons (p_var 3) (a_cons (p_var 4) (a_cons (p_var 5) a_nil))) ⟨n, m, T, oc, rfl, rfl⟩) ?_ sc_law.nd)
  refine b_cons (s_if (k := false) (t_pw (w_or (k := false) (k' := false) (t_cmp (p_blt cb_reprB (a_cons (p_call GG.tl hr (a_cons (p_var 3) (a_cons (p_var 4) (a_cons (p_var 5) a_nil))) (.inr (.inr ⟨n, m, T, oc, rfl, rfl⟩))) a_nil) B.repr (by decide +kernel)) (p_blt cb_reprB (a_cons (p_is (p_cmp (p_var 9) p_non (c_is (raw_pair _))) (congrArg D.bl (isN_pair _))) a_nil) B.repr (by decide +kernel)) ne_str) (fun hk => w_or1 (t_cmp (p_call GG.al hr (a_cons (p_var 3) (a_cons (p_var 4) (a_cons (p_var 5) a_nil))) (.inr (.inr ⟨n, m, T, oc, rfl, rfl⟩))) (p_var 9) (c_neSame hu (eqOk_pair _)))))) (fun hk => by cases hk) (fun hk => ?_))
  refine b_nil ?_
  exact p2 B GG TB hr hnx oc n2 hbm rfl hT6
theorem ok01 (n : Int) (h : 2 ≤ n) (h6 : n ≤ 6) : okTests n [[0, 1]] := ⟨fun l hl => by
  rw [List.mem_singleton.mp hl]
  exact ⟨fun x hx => by simp at hx; omega, by simp, by simp; omega⟩, by decide⟩
theorem ok3 : okTests 3 [[0, 1], [2]] := ⟨fun l hl => by
  simp at hl
  rcases hl with rfl | rfl
  · exact ⟨fun x hx => by simp at hx; omega, by simp, by simp⟩
  · exact ⟨fun x hx => by simp at hx; omega, by simp, by simp⟩, by decide⟩
theorem ok2 : okTests 2 [[0], [1]] := ⟨fun l hl => by
  simp at hl
  rcases hl with rfl | rfl
  · exact ⟨fun x hx => by simp at hx; omega, by simp, by simp⟩
  · exact ⟨fun x hx => by simp at hx; omega, by simp, by simp⟩, by decide⟩
theorem ok0 : okTests 2 [[0]] := ⟨fun l hl => by
  rw [List.mem_singleton.mp hl]
  exact ⟨fun x hx => by simp at hx; omega, by simp, by simp⟩, by decide⟩
theorem okE (n : Int) : okTests n [] := ⟨fun l hl => (nomatch hl), by decide⟩
theorem okL1 : okLot 3 [1] := ⟨fun x hx => by simp at hx; omega, by simp, by simp⟩
theorem ok_law {f cc P1 : Addr} {dV kV doc pm ct oc : Value} {an od : Option Addr} {osl : Array (Option Value)} (B : Fr mg) (GG : Gs P w K mg base CA CN CT) (Gh : Fo P w K mg base 1 "_law_hand" (upN K F_hand)) (TB : LamX.TabB base mg cc P1)
    (lk : K.lookup f = some ⟨oc, od, .func (PySem.W.fnOf "law" "law" (defArgs st_law) (defBody st_law) (defScope st_law) dV kV doc pm an (.ref cc) ct), osl⟩) (hcd : PySem.W.codeIn K (.ref cc) "law" = true) :
    FnG P w K mg base (L2.CX P w) 9 f (PySem.W.fnOf "law" "law" (defArgs st_law) (defBody st_law) (defScope st_law) dV kV doc pm an (.ref cc) ct) ["script"] (spLaw K (tabs P1) 63) := by
  refine mkLaw lk hcd sc_law fun A outer s H E H0 ns hr hn hz => ?_
  have hu := room_hu hr
  refine b_cons (s_setO 1 (l := hE (hInit ns)) (n_call Gh hr (a_cons (p_var 0) a_nil) ⟨ns, hn, rfl, rfl⟩) ?_ sc_law.nd)
  refine b_cons (s_if (k := false) (t_pw (w_or (k := false) (k' := false) (t_cmp (p_is (d' := tupD [1, 0]) (p_bty cb_tupleT (a_cons (p_upP (p_call GG.an hr (a_cons p_int (a_cons (p_is (d' := .tup (([[0, 1], [2]] : List (List Int)).map tupD)) (p_tup (a_cons (p_tup (a_cons p_int (a_cons p_int a_nil))) (a_cons (p_tup (a_cons p_int a_nil)) a_nil))) rfl) (a_cons (p_is (d' := tupD [1]) (p_tup (a_cons p_int a_nil)) rfl) a_nil))) (.inr ⟨3, [[0, 1], [2]], [1], by decide, by decide, ok3, okL1, rfl, rfl⟩))) a_nil) B.tuple (by decide +kernel)) (congrArg tupD (by decide +kernel : ansOf [[0, 1], [2]] [1] = [1, 0]))) (p_is (d' := tupD [1, 0]) (p_tup (a_cons p_int (a_cons p_int a_nil))) rfl) (c_neSame hu (eqOk_tup _))) (fun hk => w_or1 (t_is (t_cmp (p_call GG.tl hr (a_cons p_int (a_cons (p_is (d' := .tup (([[0], [1]] : List (List Int)).map tupD)) (p_tup (a_cons (p_tup (a_cons p_int a_nil)) (a_cons (p_tup (a_cons p_int a_nil)) a_nil))) rfl) (a_cons p_int a_nil))) (.inr (.inr ⟨2, 2, [[0], [1]], ⟨by decide, by decide, by decide, by decide, ok2⟩, rfl, rfl⟩))) p_bl c_isnotB) (by decide +kernel))))) (fun hk => by cases hk) (fun hk => ?_))
  refine b_nil ?_
  refine b_cons (s_if (k := false) (t_cmp (p_is (d' := .tup ([[0], [1]].map tupD)) (p_call GG.al hr (a_cons p_int (a_cons (p_is (d' := .tup (([[0, 1]] : List (List Int)).map tupD)) (p_tup (a_cons (p_tup (a_cons p_int (a_cons p_int a_nil))) a_nil)) rfl) (a_cons p_int a_nil))) (.inr (.inr ⟨2, 1, [[0, 1]], ⟨by decide, by decide, by decide, by decide, ok01 2 (by decide) (by decide)⟩, rfl, rfl⟩))) (congrArg pairD (by decide +kernel : pairA (ansOf [[0, 1]]) (lotsTo 2 1) [] = some ([0], [1])))) (p_is (d' := .tup (([[0], [1]] : List (List Int)).map tupD)) (p_tup (a_cons (p_tup (a_cons p_int a_nil)) (a_cons (p_tup (a_cons p_int a_nil)) a_nil))) rfl) (c_neSame hu (eqOk_tupsT _))) (fun hk => by cases hk) (fun hk => ?_))
  refine b_nil ?_
  refine b_cons (s_if (k := false) (t_pw (w_or (k := false) (k' := false) (t_cmp (p_is (d' := .tup ([[], [0]].map tupD)) (p_call GG.al hr (a_cons p_int (a_cons (p_is (d' := .tup (([] : List (List Int)).map tupD)) (p_tup a_nil) rfl) (a_cons p_int a_nil))) (.inr (.inr ⟨3, 1, [], ⟨by decide, by decide, by decide, by decide, okE 3⟩, rfl, rfl⟩))) (congrArg pairD (by decide +kernel : pairA (ansOf []) (lotsTo 3 1) [] = some ([], [0])))) (p_is (d' := .tup (([[], [0]] : List (List Int)).map tupD)) (p_tup (a_cons (p_tup a_nil) (a_cons (p_tup (a_cons p_int a_nil)) a_nil))) rfl) (c_neSame hu (eqOk_tupsT _))) (fun hk => w_or1 (t_cmp (p_is (d' := .lst ([[0]].map tupD)) (n_p (n_lcL (own := [("lot", 18)]) (j := 18) (xs := fitsL 2 1 [[0]] [1]) tupD tupD (fun _ => true) (p_call GG.fi hr (a_cons p_int (a_cons (p_is (d' := .tup (([[0]] : List (List Int)).map tupD)) (p_tup (a_cons (p_tup (a_cons p_int a_nil)) a_nil)) rfl) (a_cons p_int (a_cons (p_is (d' := tupD [1]) (p_tup (a_cons p_int a_nil)) rfl) a_nil)))) (.inr ⟨2, 1, [[0]], [1], ⟨by decide, by decide, by decide, by decide, ok0⟩, rfl, (fun x hx => by simp at hx; omega), rfl, rfl⟩)) (by decide +kernel) (blkB_ok (by rfl)) (fun _ _ _ _ _ => (pg_name (i := 18) sc_law.nd rfl (by first | exact Or.inl rfl | exact Or.inr rfl))) (fun i hi _ _ _ _ _ => ts_nil) (fun lot hl _ _ _ _ _ _ => p_bty cb_tupleT (a_cons (p_var 18) a_nil) B.tuple (by decide +kernel)) sc_law.nd)) (by rw [filt_all]; exact congrArg (fun l => D.lst (l.map tupD)) (by decide +kernel : fitsL 2 1 [[0]] [1] = [[0]]))) (p_is (d' := .lst ([[0]].map tupD)) (p_lst (a_cons (p_tup (a_cons p_int a_nil)) a_nil)) rfl) (c_neSame hu (eqOk_tups _)))))) (fun hk => by cases hk) (fun hk => ?_))
  refine b_nil ?_
  refine b_cons (s_forR1 2 (fun i Γ => Iv ns Γ) (a_cons p_int a_nil) (by constructor <;> decide) ⟨hInit ns, none, none, none, none, none, none, none, none, none, none, none, none, none, none, none, none, none, rfl⟩ (fun i Γ hi hI => ?_) (fun Γ hI => ?_) B.range PassesOwn.leaving sc_law.nd)
  · obtain ⟨h, e2, e3, e4, e5, e6, e7, e8, e9, e10, e11, e12, e13, e14, e15, e16, e17, e18, rfl⟩ := hI
    exact p1 B GG TB hr (fun Γ' h => h)
  · obtain ⟨h, e2, e3, e4, e5, e6, e7, e8, e9, e10, e11, e12, e13, e14, e15, e16, e17, e18, rfl⟩ := hI
    exact b_one (s_ret p_bl rfl)
end
end K43

set_option Elab.async false
set_option linter.all false
set_option maxRecDepth 100000
set_option maxHeartbeats 0
namespace K43
open PySem PySem.Spec PyProof.Rows L2 Spr
theorem facts {w : World} {K : PySem.W.Frag} {h : Heap} {mg : Str → Option Value} {f0 : Addr} (X : K.In h) (G : h.Ns mainGlobals mg) (hfa : mg "law" = some (.ref f0)) (c : SaysS fa fn tf ex h K) :
    LawAtG PySem.Challenge.rw_spoiltrows_k43_whole_tests_that_tell w K (L2.CX mainP w) 9 63 "script" mg f0 h := by
  have fr : ∀ {x : Str}, (He.Fa.free x) ∈ fa → mg x = none := fun hm => He.free_ok X G (c.d.facts hm)
  have gl : ∀ {x : Str}, (He.Fa.glo x) ∈ fa → mg x = some (.ref (He.ga K x)) := fun hm => He.glo_ok X G (c.d.facts hm)
  have hex := c.more
  unfold ex at hex
  obtain ⟨xtNoNumber, hex⟩ := He.ba hex
  obtain ⟨xfNoNumber, hex⟩ := He.ba hex
  obtain ⟨xcNoNumber, hex⟩ := He.ba hex
  obtain ⟨xvNoNumber, hex⟩ := He.ba hex
  obtain ⟨kNoNumberNoNumber, hex⟩ := He.ba hex
  obtain ⟨kNoNumberNoTests, hex⟩ := He.ba hex
  obtain ⟨kNoNumberNoAnswers, hex⟩ := He.ba hex
  obtain ⟨xtNoTests, hex⟩ := He.ba hex
  obtain ⟨xfNoTests, hex⟩ := He.ba hex
  obtain ⟨xcNoTests, hex⟩ := He.ba hex
  obtain ⟨xvNoTests, hex⟩ := He.ba hex
  obtain ⟨kNoTestsNoNumber, hex⟩ := He.ba hex
  obtain ⟨kNoTestsNoTests, hex⟩ := He.ba hex
  obtain ⟨kNoTestsNoAnswers, hex⟩ := He.ba hex
  obtain ⟨xtNoAnswers, hex⟩ := He.ba hex
  obtain ⟨xfNoAnswers, hex⟩ := He.ba hex
  obtain ⟨xcNoAnswers, hex⟩ := He.ba hex
  obtain ⟨xvNoAnswers, hex⟩ := He.ba hex
  obtain ⟨kNoAnswersNoNumber, hex⟩ := He.ba hex
  obtain ⟨kNoAnswersNoTests, hex⟩ := He.ba hex
  obtain ⟨kNoAnswersNoAnswers, hex⟩ := He.ba hex
  have T_NoNumber := xtB_ok (prog := mainP) X G xtNoNumber
  have F_NoNumber := xf0B_ok xfNoNumber
  have T_NoTests := xtB_ok (prog := mainP) X G xtNoTests
  have F_NoTests := xf0B_ok xfNoTests
  have T_NoAnswers := xtB_ok (prog := mainP) X G xtNoAnswers
  have F_NoAnswers := xf0B_ok xfNoAnswers
  have C : Cls K mg (He.ga K "NoAnswers") (He.ga K "NoNumber") (He.ga K "NoTests") (He.ga K "RowError") := ⟨gl (by simp [fa]), gl (by simp [fa]), gl (by simp [fa]), gl (by simp [fa]), He.exm_ok (c.d.facts (f := .exm "NoAnswers" "RowError" true) (by simp [fa])), He.exm_ok (c.d.facts (f := .exm "NoNumber" "RowError" true) (by simp [fa])), He.exm_ok (c.d.facts (f := .exm "NoTests" "RowError" true) (by simp [fa])), excCB_ok xcNoAnswers, excCB_ok xcNoNumber, excCB_ok xcNoTests, of_decide_eq_true xvNoAnswers, of_decide_eq_true xvNoNumber, of_decide_eq_true xvNoTests, of_decide_eq_true kNoAnswersNoAnswers, of_decide_eq_true kNoAnswersNoNumber, of_decide_eq_true kNoAnswersNoTests, of_decide_eq_true kNoNumberNoAnswers, of_decide_eq_true kNoNumberNoNumber, of_decide_eq_true kNoNumberNoTests, of_decide_eq_true kNoTestsNoAnswers, of_decide_eq_true kNoTestsNoNumber, of_decide_eq_true kNoTestsNoTests⟩
  obtain ⟨fdS, FS⟩ := c.d.def_ 19 (d := d_law_word) rfl
  have bS := FS.bindsN (ps := ["call"]) fun _ _ _ _ _ _ us hl => match us, hl with | [_], _ => rfl
  obtain ⟨ocS, odS, dVS, kVS, docS, pmS, anS, cdvS, ctS, oslS, eS, lkS, hcS, _, _⟩ := FS.ex
  subst eS
  have B : Fr mg := ⟨fr (by simp [fa]), fr (by simp [fa]), fr (by simp [fa]), fr (by simp [fa]), fr (by simp [fa]), fr (by simp [fa]), fr (by simp [fa]), fr (by simp [fa]), fr (by simp [fa]), fr (by simp [fa]), fr (by simp [fa]), fr (by simp [fa]), fr (by simp [fa]), fr (by simp [fa]), fr (by simp [fa]), (He.int_ok X G (c.d.facts (f := .int "MOST_THINGS" 24) (by simp [fa]))), (He.int_ok X G (c.d.facts (f := .int "MOST_TRIED" 200000) (by simp [fa])))⟩
  obtain ⟨fdL, FL⟩ := c.d.def_ 22 (d := d_law) rfl
  have e := hfa.symm.trans (gl (x := "law") (by simp [fa]))
  have e0 : f0 = He.ga K "law" := by cases e; rfl
  subst e0
  have bA := FL.bindsA (ps := ["script"]) fun _ _ _ _ _ _ us hl => match us, hl with | [_], _ => rfl
  obtain ⟨ocL, odL, dVL, kVL, docL, pmL, anL, cdvL, ctL, oslL, eL, lkL, hcdL, _, _⟩ := FL.ex
  obtain ⟨ccL, hccL⟩ := He.codeIn_ref hcdL
  subst hccL
  subst eL
  have ect0 : He.cT K ("law", none) = (ccL, He.tabOf K ccL) := by unfold He.cT; rw [show He.codeOf K ("law", none) = ccL from He.codeOf_eq lkL rfl]
  have t1_0 := c.hd ("law", none) (by simp [tf])
  have t2_0 := c.out ("law", none) (by simp [tf])
  have t3_0 := c.empty ("law", none) (by simp [tf])
  rw [ect0] at t1_0 t2_0 t3_0
  refine ⟨_, [(ccL, He.tabOf K ccL)], spLaw K (tabs (He.tabOf K ccL)) 63, fun p hp => ?_, fun p hp => ?_, fun p hp => ?_, fun s u => bA s [u] rfl, fun H a ns hl hz hT hs => ⟨a, ns, rfl, hl, hz, hs, fun p hp => ?_, fun H' => rfl⟩, fun base KB GB TBs => ?_⟩
  · simp only [List.mem_cons, List.not_mem_nil, or_false] at hp
    subst hp
    exact t3_0
  · simp only [List.mem_cons, List.not_mem_nil, or_false] at hp
    subst hp
    exact t2_0
  · simp only [List.mem_cons, List.not_mem_nil, or_false] at hp
    subst hp
    exact PySem.W.codeHd_of_K X t1_0
  · simp only [tabs, List.mem_cons, List.not_mem_nil, or_false] at hp
    subst hp
    exact hT (ccL, He.tabOf K ccL) (by simp)
  · skip
    have TB0 := TBs (ccL, He.tabOf K ccL) (by simp)
    obtain ⟨fd_is_integer, Df_is_integer⟩ := c.d.def_ 0 (d := d_is_integer) rfl
    have G_is_integer : FoP mainP w K mg base 1 "is_integer" F_isint := mkFo Df_is_integer (ok_isint B (He5.fun_of Df_is_integer)) (gl (by simp [fa])) (fun _ _ _ _ _ _ us hl => match us, hl with | [_], _ => rfl)
    obtain ⟨fd_is_within, Df_is_within⟩ := c.d.def_ 1 (d := d_is_within) rfl
    have G_is_within : FoP mainP w K mg base 2 "is_within" F_within := mkFo Df_is_within (ok_within G_is_integer (He5.fun_of Df_is_within)) (gl (by simp [fa])) (fun _ _ _ _ _ _ us hl => match us, hl with | [_, _, _], _ => rfl)
    obtain ⟨fd_is_tuple, Df_is_tuple⟩ := c.d.def_ 2 (d := d_is_tuple) rfl
    have G_is_tuple : FoP mainP w K mg base 1 "is_tuple" F_istup := mkFo Df_is_tuple (ok_istup B (He5.fun_of Df_is_tuple)) (gl (by simp [fa])) (fun _ _ _ _ _ _ us hl => match us, hl with | [_, _, _], _ => rfl)
    obtain ⟨fd_is_tests, Df_is_tests⟩ := c.d.def_ 3 (d := d_is_tests) rfl
    have G_is_tests : FoP mainP w K mg base 3 "is_tests" F_ist := mkFo Df_is_tests (ok_ist B G_is_within G_is_tuple (He5.fun_of Df_is_tests)) (gl (by simp [fa])) (fun _ _ _ _ _ _ us hl => match us, hl with | [_, _], _ => rfl)
    obtain ⟨fd_check_tests, Df_check_tests⟩ := c.d.def_ 4 (d := d_check_tests) rfl
    have G_check_tests : FoP mainP w K mg base 4 "check_tests" (F_ct (eN (He.ga K "NoTests"))) := mkFo Df_check_tests (ok_ct G_is_tests T_NoTests F_NoTests (He5.fun_of Df_check_tests)) (gl (by simp [fa])) (fun _ _ _ _ _ _ us hl => match us, hl with | [_, _], _ => rfl)
    obtain ⟨fd_answers_of, Df_answers_of⟩ := c.d.def_ 5 (d := d_answers_of) rfl
    have G_answers_of : FoP mainP w K mg base 1 "answers_of" F_ao := mkFo Df_answers_of (ok_ao B (He5.fun_of Df_answers_of)) (gl (by simp [fa])) (fun _ _ _ _ _ _ us hl => match us, hl with | [_, _], _ => rfl)
    obtain ⟨fd_answers, Df_answers⟩ := c.d.def_ 6 (d := d_answers) rfl
    have G_answers : FoP mainP w K mg base 5 "answers" (F_an (eN (He.ga K "NoTests"))) := mkFo Df_answers (ok_an G_check_tests G_is_tests G_answers_of (He5.fun_of Df_answers)) (gl (by simp [fa])) (fun _ _ _ _ _ _ us hl => match us, hl with | [_, _, _], _ => rfl)
    obtain ⟨fd_lots_to, Df_lots_to⟩ := c.d.def_ 7 (d := d_lots_to) rfl
    have G_lots_to : FoP mainP w K mg base 1 "lots_to" F_lots := mkFo Df_lots_to (ok_lt B (He5.fun_of Df_lots_to)) (gl (by simp [fa])) (fun _ _ _ _ _ _ us hl => match us, hl with | [_, _], _ => rfl)
    obtain ⟨fd_check_most, Df_check_most⟩ := c.d.def_ 8 (d := d_check_most) rfl
    have G_check_most : FoP mainP w K mg base 3 "check_most" (F_cm (eN (He.ga K "NoNumber"))) := mkFo Df_check_most (ok_cm G_is_within T_NoNumber F_NoNumber (He5.fun_of Df_check_most)) (gl (by simp [fa])) (fun _ _ _ _ _ _ us hl => match us, hl with | [_, _], _ => rfl)
    obtain ⟨fd_pair_alike, Df_pair_alike⟩ := c.d.def_ 10 (d := d_pair_alike) rfl
    have G_pair_alike : FoP mainP w K mg base 2 "pair_alike" F_pa := mkFo Df_pair_alike (ok_pa B G_lots_to G_answers_of (He5.fun_of Df_pair_alike)) (gl (by simp [fa])) (fun _ _ _ _ _ _ us hl => match us, hl with | [_, _, _], _ => rfl)
    obtain ⟨fd_tells, Df_tells⟩ := c.d.def_ 9 (d := d_tells) rfl
    have G_tells : FoP mainP w K mg base 5 "tells" (F_ta (eN (He.ga K "NoTests")) (eN (He.ga K "NoNumber")) fun x => .bl x.isNone) := mkFo Df_tells (ok_tl G_check_tests G_check_most G_pair_alike (He5.fun_of Df_tells)) (gl (by simp [fa])) (fun _ _ _ _ _ _ us hl => match us, hl with | [_, _, _], _ => rfl)
    obtain ⟨fd_alike, Df_alike⟩ := c.d.def_ 11 (d := d_alike) rfl
    have G_alike : FoP mainP w K mg base 5 "alike" (F_ta (eN (He.ga K "NoTests")) (eN (He.ga K "NoNumber")) pairD) := mkFo Df_alike (ok_al G_check_tests G_check_most G_pair_alike (He5.fun_of Df_alike)) (gl (by simp [fa])) (fun _ _ _ _ _ _ us hl => match us, hl with | [_, _, _], _ => rfl)
    obtain ⟨fd_fits, Df_fits⟩ := c.d.def_ 12 (d := d_fits) rfl
    have G_fits : FoP mainP w K mg base 5 "fits" (F_fi (eN (He.ga K "NoTests")) (eN (He.ga K "NoNumber")) (eN (He.ga K "NoAnswers"))) := mkFo Df_fits (ok_fi B G_check_tests G_check_most G_lots_to G_answers_of G_is_within G_is_tuple T_NoAnswers F_NoAnswers (He5.fun_of Df_fits)) (gl (by simp [fa])) (fun _ _ _ _ _ _ us hl => match us, hl with | [_, _, _, _], _ => rfl)
    obtain ⟨fd_law_hand, Df_law_hand⟩ := c.d.def_ 13 (d := d_law_hand) rfl
    have G_law_hand : Fo mainP w K mg base 1 "_law_hand" (upN K F_hand) := mkFo Df_law_hand (ok_hand B (He5.fun_of Df_law_hand)) (gl (by simp [fa])) (fun _ _ _ _ _ _ us hl => match us, hl with | [_], _ => rfl)
    obtain ⟨fd_law_draw, Df_law_draw⟩ := c.d.def_ 14 (d := d_law_draw) rfl
    have G_law_draw : Fo mainP w K mg base 1 "_law_draw" (upH K F_draw) := mkFo Df_law_draw (ok_draw B (He5.fun_of Df_law_draw)) (gl (by simp [fa])) (fun _ _ _ _ _ _ us hl => match us, hl with | [_, _], _ => rfl)
    obtain ⟨fd_law_any, Df_law_any⟩ := c.d.def_ 15 (d := d_law_any) rfl
    have G_law_any : Fo mainP w K mg base 2 "_law_any" (upH K F_any) := mkFo Df_law_any (ok_any B G_law_draw (He5.fun_of Df_law_any)) (gl (by simp [fa])) (fun _ _ _ _ _ _ us hl => match us, hl with | [_, _], _ => rfl)
    obtain ⟨fd_law_tests, Df_law_tests⟩ := c.d.def_ 16 (d := d_law_tests) rfl
    have G_law_tests : Fo mainP w K mg base 2 "_law_tests" (upH K F_tests) := mkFo Df_law_tests (ok_te B G_law_draw (He5.fun_of Df_law_tests)) (gl (by simp [fa])) (fun _ _ _ _ _ _ us hl => match us, hl with | [_, _, _], _ => rfl)
    obtain ⟨fd_law_no_tests, Df_law_no_tests⟩ := c.d.def_ 20 (d := d_law_no_tests) rfl
    have G_law_no_tests : Fo mainP w K mg base 3 "_law_no_tests" (upH K F_nt) := mkFo Df_law_no_tests (ok_nt G_law_any (He5.fun_of Df_law_no_tests)) (gl (by simp [fa])) (fun _ _ _ _ _ _ us hl => match us, hl with | [_, _], _ => rfl)
    obtain ⟨fd_law_lots, Df_law_lots⟩ := c.d.def_ 17 (d := d_law_lots) rfl
    have G_law_lots : FoP mainP w K mg base 1 "_law_lots" F_lots := mkFo Df_law_lots (ok_ll B (He5.fun_of Df_law_lots)) (gl (by simp [fa])) (fun _ _ _ _ _ _ us hl => match us, hl with | [_, _], _ => rfl)
    obtain ⟨fd_law_answers, Df_law_answers⟩ := c.d.def_ 18 (d := d_law_answers) rfl
    have G_law_answers : FoP mainP w K mg base 1 "_law_answers" F_ao := mkFo Df_law_answers (ok_la B (He5.fun_of Df_law_answers)) (gl (by simp [fa])) (fun _ _ _ _ _ _ us hl => match us, hl with | [_, _], _ => rfl)
    obtain ⟨fd_law_alike, Df_law_alike⟩ := c.d.def_ 21 (d := d_law_alike) rfl
    have G_law_alike : FoP mainP w K mg base 2 "_law_alike" F_pa := mkFo Df_law_alike (ok_lk B G_law_lots G_law_answers (He5.fun_of Df_law_alike)) (gl (by simp [fa])) (fun _ _ _ _ _ _ us hl => match us, hl with | [_, _, _], _ => rfl)
    have SG := sayer B C (gl (by simp [fa])) FS.kp lkS hcS bS
    have GG : Gs mainP w K mg base (He.ga K "NoAnswers") (He.ga K "NoNumber") (He.ga K "NoTests") := ⟨G_is_tests, G_answers, G_tells, G_alike, G_fits, G_law_draw, G_law_any, G_law_tests, G_law_no_tests, G_law_lots, G_law_answers, G_law_alike, SG⟩
    exact ok_law B GG G_law_hand TB0 lkL hcdL
end K43
open PySem PySem.W PySem.Calls PyProof.Rows
theorem PySem.Challenge.cw_spoiltrows_k43_whole_tests_that_tell_holds : PySem.Challenge.rw_spoiltrows_k43_whole_tests_that_tell.Holds := by
  w_on; o_law
  refine HandSHeadRun.head_any (r := OpenLaw.row PySem.Challenge.rw_spoiltrows_k43_whole_tests_that_tell) (q := view (OpenLaw.row PySem.Challenge.rw_spoiltrows_k43_whole_tests_that_tell).prog [33]) (H := K43.hk) (ob := K43.ob) (M := 9000) (loose := K43.loose) (d := HandSHeadRun.topDef (OpenLaw.row PySem.Challenge.rw_spoiltrows_k43_whole_tests_that_tell).prog 33) (kwd := []) K43.ob_eq
    (by kernel_rfl) (fun s => by kernel_rfl) K43.run (by kernel_rfl) (by kernel_rfl) (by kernel_rfl) (by rfl) (by first | assumption | decide +kernel) (by decide +kernel) ⟨rfl, rfl, rfl, rfl, rfl, by decide +kernel⟩ ?hw ?hc
  case hw => w_witness2
  case hc =>
    refine Spr.walkG (l := PySem.Challenge.rw_spoiltrows_k43_whole_tests_that_tell) (n := 63) (k := 9) (x := "script") (CX := fun w => L2.CX K43.mainP w) rfl (by decide) (by kernel_rfl) (Spr.roomG_caller ⟨rfl, by decide, by decide⟩) ?F ?X
    case F =>
      intro w mg fa h Y G hmg0
      obtain ⟨K, KX, c⟩ := Y
      have hmg : mg ("law" : PySem.Str) = some (.ref fa) := by
        have e : (HandSHeadRun.topDef (OpenLaw.row PySem.Challenge.rw_spoiltrows_k43_whole_tests_that_tell).prog 33).name = ("law" : PySem.Str) := by kernel_rfl
        rw [← e]
        exact hmg0
      exact ⟨K, KX, K43.facts KX G hmg c⟩
    case X =>
      intro w H s e s' h
      obtain ⟨_, _, _, _, _, _, _, _, _, _, _, _, z⟩ := h
      exact z

