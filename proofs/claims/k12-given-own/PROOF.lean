import PyProof.Rows.All
import Wide.All
import OpenK.AllK
import Wide.FinOn
import HandS.ForMost
import HandS.ForExc
import HandS.ExcInit
import HandS.IsInst
import HandS.Flow
import HandS.Style
import HandS.TupAny
import HandS.Zip
import HandS.Rev
import HandS.CallSlots
import HandS.EndBits
import HandS.Wide
import HandS.WideBits
import HandS.StrMore
import HandS.Replace
import HandS.SetFor
import HandS.Text
import PyProof.StrBlock2
import KE.KExcIs
import HandS.ExcValue
import HandS.Defaults
import HandS.ReplaceLit
import HandS.ReplaceDef
import PyProof.ReprRoads
import PyProof.CallFns
import HandS.Strs
import HandS.SortInts
import KE.KSortedM
import HandS.StrSplit
import HandS.More
import HandS.Codes
import HandS.ReplaceList
import PyProof.StrLawsRepr
import PyProof.FitsInt
import PySem.Challenge.RW_allmayedit_k12_whole_given_and_own_texts
set_option Elab.async false
set_option linter.all false
set_option maxRecDepth 100000
set_option maxHeartbeats 4000000
/-! DL: each def of the text is shown to compute a plain Lean function over data. -/
namespace DL
open PySem L2

/-! ### data -/
/-- Python's data: an own error is its place, its class's name and what its field holds -/
inductive D where
  | non | bl (b : Bool) | int (i : Int) | str (s : Str)
  | lst (xs : List D) | tup (xs : List D) | dic (kvs : List (Key × D))
  /-- a list that is only read: the script, a list of the module's top -/
  | ros (xs : List D)
  | exc (a : Addr) (c : Str) (v : D)

/-- what a part of a program gives -/
inductive R (α : Type) where
  | ok (a : α) | bad
/-- a slot: nothing, data that never changes, a list or dict of this frame's own -/
inductive Sl where
  | no | cl (d : D) | ow (d : D)
abbrev Rho := List Sl
inductive Out (α : Type) where
  | ok (a : α) (r : Rho) | exn (c : Str) (v : D) (r : Rho) | bad
abbrev M (α : Type) := Rho → Out α
def M.pure {α : Type} (a : α) : M α := fun r => .ok a r
def M.bind {α β : Type} (m : M α) (f : α → M β) : M β := fun r => match m r with
  | .ok a r' => f a r'
  | .exn c v r' => .exn c v r'
  | .bad => .bad
def M.lift {α : Type} (x : R α) : M α := fun r => match x with
  | .ok a => .ok a r
  | .bad => .bad

/-! ### data in the heap -/
/-- heaps: F ⊆ H -/
def Sub (F H : Hp) : Prop := ∀ a o, F a = some o → H a = some o
theorem Sub.refl (F : Hp) : Sub F F := fun _ _ h => h
theorem Sub.trans {F G H : Hp} (a : Sub F G) (b : Sub G H) : Sub F H := fun x o h => b x o (a x o h)

/-- an own error of the class at C stands at a, its field's dict at d -/
def ExT (C d a : Addr) : HO := .ext fun h => ∃ (oe : Obj) (vs : Array Value), h.get? a = some oe ∧ oe.cls = .ref C ∧ oe.dict = some d ∧ oe.data = .fields vs

structure Gx where
  K : PySem.W.Frag
  mg : Str → Option Value

/-- a dict that is read: its object stands for good -/
def DcAt (F : Hp) (a : Addr) (kvs : List (Key × V)) : Prop := ∃ o, F a = some (.frz o (.dK kvs))

/-- what an own error's class says -/
structure XcC (K : PySem.W.Frag) (D : Addr) : Prop where
  hc : (PySem.W.clsIn K D).isSome = true
  hg : PySem.W.findIn K (.ref D) "__getattribute__" = some (some (.builtin "BaseException.__getattribute__"))
  hk : PySem.W.findIn K (.ref D) "__getattr__" = some none
  hs : PySem.W.subIn K (.ref D) (.type "BaseException") = some true
  ha : PySem.W.findIn K (.ref D) "__class__" = some (some (.builtin "object.__class__"))
  hn : PySem.W.specialIn K (.builtin "object.__class__") "__get__" = some (some (.builtin "getset_descriptor.__get__"))
  ht : PySem.W.takesIn K (.builtin "object.__class__") = some true
  hm : PySem.W.mroIn K D (.type "object") = some true
  hd : PySem.W.hasDictIn K D = true
  hv : PySem.W.findIn K (.ref D) "value" = some none
  he : PySem.W.findIn K (.ref D) "__eq__" = some (some (.builtin "object.__eq__"))

mutual
def Rep (g : Gx) (F : Hp) : D → V → Prop
  | .non, v => v = .non
  | .bl b, v => v = .bl b
  | .int i, v => v = .int i
  | .str s, v => v = .str s
  | .lst xs, v => ∃ a vs, v = .ref a ∧ F a = some (.lst vs) ∧ RepL g F xs vs
  | .ros xs, v => ∃ a vs, v = .ref a ∧ SqL g.K F a vs ∧ RepL g F xs vs
  | .tup xs, v => ∃ a vs, v = .ref a ∧ SqT g.K F a vs ∧ RepL g F xs vs
  | .dic kvs, v => ∃ a vs, v = .ref a ∧ DcAt F a vs ∧ RepK g F kvs vs
  | .exc a c x, v => ∃ C d w, v = .ref a ∧ g.mg c = some (.ref C) ∧ XcC g.K C ∧ F a = some (ExT C d a) ∧ F d = some (.xd [("value", w)]) ∧ Rep g F x w
def RepL (g : Gx) (F : Hp) : List D → List V → Prop
  | [], vs => vs = []
  | x :: xs, vs => ∃ v r, vs = v :: r ∧ Rep g F x v ∧ RepL g F xs r
def RepK (g : Gx) (F : Hp) : List (Key × D) → List (Key × V) → Prop
  | [], vs => vs = []
  | (k, x) :: xs, vs => ∃ v r, vs = (k, v) :: r ∧ Rep g F x v ∧ RepK g F xs r
end

theorem sqL_mono {K : PySem.W.Frag} {F H : Hp} (e : Sub F H) {a : Addr} {xs : List V} (h : SqL K F a xs) : SqL K H a xs := by
  rcases h with (h | ⟨o, h⟩) | h
  · exact .inl (.inl (e _ _ h))
  · exact .inl (.inr ⟨o, e _ _ h⟩)
  · exact .inr h
theorem sqT_mono {K : PySem.W.Frag} {F H : Hp} (e : Sub F H) {a : Addr} {xs : List V} (h : SqT K F a xs) : SqT K H a xs := by
  rcases h with (h | ⟨o, h⟩) | h
  · exact .inl (.inl (e _ _ h))
  · exact .inl (.inr ⟨o, e _ _ h⟩)
  · exact .inr h
mutual
theorem Rep.mono {g : Gx} {F H : Hp} (e : Sub F H) : ∀ {d : D} {v : V}, Rep g F d v → Rep g H d v
  | .non, v, h => by simpa only [Rep] using h
  | .bl b, v, h => by simpa only [Rep] using h
  | .int i, v, h => by simpa only [Rep] using h
  | .str s, v, h => by simpa only [Rep] using h
  | .lst xs, v, h => by
    simp only [Rep] at h ⊢
    obtain ⟨a, vs, rfl, h1, h2⟩ := h
    exact ⟨a, vs, rfl, e _ _ h1, RepL.mono e h2⟩
  | .ros xs, v, h => by
    simp only [Rep] at h ⊢
    obtain ⟨a, vs, rfl, h1, h2⟩ := h
    exact ⟨a, vs, rfl, sqL_mono e h1, RepL.mono e h2⟩
  | .tup xs, v, h => by
    simp only [Rep] at h ⊢
    obtain ⟨a, vs, rfl, h1, h2⟩ := h
    exact ⟨a, vs, rfl, sqT_mono e h1, RepL.mono e h2⟩
  | .dic kvs, v, h => by
    simp only [Rep] at h ⊢
    obtain ⟨a, vs, rfl, h1, h2⟩ := h
    exact ⟨a, vs, rfl, h1.imp fun o q => e _ _ q, RepK.mono e h2⟩
  | .exc a c x, v, h => by
    simp only [Rep] at h ⊢
    obtain ⟨C, d, w, rfl, h1, hx, h2, h3, h4⟩ := h
    exact ⟨C, d, w, rfl, h1, hx, e _ _ h2, e _ _ h3, Rep.mono e h4⟩
theorem RepL.mono {g : Gx} {F H : Hp} (e : Sub F H) : ∀ {xs : List D} {vs : List V}, RepL g F xs vs → RepL g H xs vs
  | [], vs, h => by simpa only [RepL] using h
  | x :: xs, vs, h => by
    simp only [RepL] at h ⊢
    obtain ⟨v, r, rfl, h1, h2⟩ := h
    exact ⟨v, r, rfl, Rep.mono e h1, RepL.mono e h2⟩
theorem RepK.mono {g : Gx} {F H : Hp} (e : Sub F H) : ∀ {xs : List (Key × D)} {vs : List (Key × V)}, RepK g F xs vs → RepK g H xs vs
  | [], vs, h => by simpa only [RepK] using h
  | (k, x) :: xs, vs, h => by
    simp only [RepK] at h ⊢
    obtain ⟨v, r, rfl, h1, h2⟩ := h
    exact ⟨v, r, rfl, Rep.mono e h1, RepK.mono e h2⟩
end

section
variable {g : Gx} {F H : Hp}
theorem RepL.length : ∀ {xs : List D} {vs : List V}, RepL g F xs vs → vs.length = xs.length
  | [], vs, h => by simp only [RepL] at h; simp [h]
  | x :: xs, vs, h => by
    simp only [RepL] at h
    obtain ⟨v, r, rfl, _, h2⟩ := h
    simp [RepL.length h2]
theorem RepL.append : ∀ {xs ys : List D} {vs ws : List V}, RepL g F xs vs → RepL g F ys ws → RepL g F (xs ++ ys) (vs ++ ws)
  | [], ys, vs, ws, h, k => by simp only [RepL] at h; subst h; simpa using k
  | x :: xs, ys, vs, ws, h, k => by
    simp only [RepL] at h
    obtain ⟨v, r, rfl, h1, h2⟩ := h
    simp only [List.cons_append, RepL]
    exact ⟨v, r ++ ws, rfl, h1, RepL.append h2 k⟩
theorem RepL.get : ∀ {xs : List D} {vs : List V} {i : Nat} {d : D}, RepL g F xs vs → xs[i]? = some d → ∃ v, vs[i]? = some v ∧ Rep g F d v
  | [], vs, i, d, h, e => by simp at e
  | x :: xs, vs, 0, d, h, e => by
    simp only [RepL] at h
    obtain ⟨v, r, rfl, h1, h2⟩ := h
    simp at e
    subst e
    exact ⟨v, rfl, h1⟩
  | x :: xs, vs, i + 1, d, h, e => by
    simp only [RepL] at h
    obtain ⟨v, r, rfl, h1, h2⟩ := h
    obtain ⟨w, e1, r1⟩ := RepL.get (i := i) (d := d) h2 (by simpa using e)
    exact ⟨w, by simpa using e1, r1⟩
theorem RepL.getV : ∀ {xs : List D} {vs : List V} {i : Nat} {v : V}, RepL g F xs vs → vs[i]? = some v → ∃ d, xs[i]? = some d ∧ Rep g F d v
  | [], vs, i, v, h, e => by simp only [RepL] at h; subst h; simp at e
  | x :: xs, vs, 0, v, h, e => by
    simp only [RepL] at h
    obtain ⟨w, r, rfl, h1, h2⟩ := h
    simp at e
    subst e
    exact ⟨x, rfl, h1⟩
  | x :: xs, vs, i + 1, v, h, e => by
    simp only [RepL] at h
    obtain ⟨w, r, rfl, h1, h2⟩ := h
    obtain ⟨d, e1, r1⟩ := RepL.getV (i := i) (v := v) h2 (by simpa using e)
    exact ⟨d, by simpa using e1, r1⟩
theorem RepL.set : ∀ {xs : List D} {vs : List V} {d : D} {v : V} (i : Nat), RepL g F xs vs → Rep g F d v → RepL g F (xs.set i d) (vs.set i v)
  | [], vs, d, v, i, h, k => by simp only [RepL] at h; subst h; simp [RepL]
  | x :: xs, vs, d, v, 0, h, k => by
    simp only [RepL] at h
    obtain ⟨w, r, rfl, h1, h2⟩ := h
    simp only [List.set_cons_zero, RepL]
    exact ⟨v, r, rfl, k, h2⟩
  | x :: xs, vs, d, v, i + 1, h, k => by
    simp only [RepL] at h
    obtain ⟨w, r, rfl, h1, h2⟩ := h
    simp only [List.set_cons_succ, RepL]
    exact ⟨w, r.set i v, rfl, h1, RepL.set i h2 k⟩
theorem RepL.take : ∀ {xs : List D} {vs : List V} (i : Nat), RepL g F xs vs → RepL g F (xs.take i) (vs.take i)
  | [], vs, i, h => by simp only [RepL] at h; subst h; simp [RepL]
  | x :: xs, vs, 0, h => by simp [RepL]
  | x :: xs, vs, i + 1, h => by
    simp only [RepL] at h
    obtain ⟨w, r, rfl, h1, h2⟩ := h
    simp only [List.take_succ_cons, RepL]
    exact ⟨w, r.take i, rfl, h1, RepL.take i h2⟩
theorem RepL.drop : ∀ {xs : List D} {vs : List V} (i : Nat), RepL g F xs vs → RepL g F (xs.drop i) (vs.drop i)
  | [], vs, i, h => by simp only [RepL] at h; subst h; simp [RepL]
  | x :: xs, vs, 0, h => by simpa using h
  | x :: xs, vs, i + 1, h => by
    simp only [RepL] at h
    obtain ⟨w, r, rfl, h1, h2⟩ := h
    simpa using RepL.drop i h2
theorem RepL.reverse : ∀ {xs : List D} {vs : List V}, RepL g F xs vs → RepL g F xs.reverse vs.reverse
  | [], vs, h => by simp only [RepL] at h; subst h; simp [RepL]
  | x :: xs, vs, h => by
    simp only [RepL] at h
    obtain ⟨w, r, rfl, h1, h2⟩ := h
    rw [List.reverse_cons, List.reverse_cons]
    exact RepL.append (RepL.reverse h2) (by simp only [RepL]; exact ⟨w, [], rfl, h1, rfl⟩)
theorem RepL.one {d : D} {v : V} (h : Rep g F d v) : RepL g F [d] [v] := by
  simp only [RepL]
  exact ⟨v, [], rfl, h, rfl⟩
theorem RepL.nil : RepL g F [] [] := by simp only [RepL]
theorem RepL.cons {d : D} {v : V} {xs : List D} {vs : List V} (h : Rep g F d v) (k : RepL g F xs vs) : RepL g F (d :: xs) (v :: vs) := by
  simp only [RepL]
  exact ⟨v, vs, rfl, h, k⟩
end

/-- the heap grows -/
structure Grow (F H F' H' : Hp) : Prop where
  f : Sub F F'
  h : Sub H H'
  s : Sub F' H'
  n : ∀ a o, F' a = some o → F a = some o ∨ H a = none
theorem Grow.refl {F H : Hp} (s : Sub F H) : Grow F H F H := ⟨Sub.refl _, Sub.refl _, s, fun _ _ h => .inl h⟩
theorem Grow.trans {F H F1 H1 F2 H2 : Hp} (a : Grow F H F1 H1) (b : Grow F1 H1 F2 H2) : Grow F H F2 H2 :=
  ⟨a.f.trans b.f, a.h.trans b.h, b.s, fun x o h => by
    rcases b.n x o h with q | q
    · exact a.n x o q
    · right
      cases e : H x with
      | none => rfl
      | some u => rw [a.h x u e] at q; cases q⟩
theorem Grow.new {F H : Hp} (s : Sub F H) {p : Addr} {o : HO} (hp : H p = none) : Grow F H (upd F p o) (upd H p o) := by
  have fp : F p = none := by
    cases e : F p with
    | none => rfl
    | some u => rw [s p u e] at hp; cases hp
  refine ⟨fun a u h => ?_, fun a u h => ?_, fun a u h => ?_, fun a u h => ?_⟩
  · rw [upd_ne (ne_of_none h fp)]; exact h
  · rw [upd_ne (ne_of_none h hp)]; exact h
  · by_cases e : a = p
    · subst e; rw [upd_same] at h ⊢; exact h
    · rw [upd_ne e] at h ⊢; exact s a u h
  · by_cases e : a = p
    · subst e; exact .inr hp
    · rw [upd_ne e] at h; exact .inl h
/-- the big heap alone grows -/
theorem Grow.big {F H : Hp} (s : Sub F H) {p : Addr} {o : HO} (hp : H p = none) : Grow F H F (upd H p o) :=
  ⟨Sub.refl _, (Grow.new s hp (o := o)).h, fun a u h => (Grow.new s hp (o := o)).h a u (s a u h), fun a u h => .inl h⟩

/-- a frame's own list or dict at a -/
def Own (g : Gx) (F H : Hp) (a : Addr) : D → Prop
  | .lst xs => ∃ vs, H a = some (.lst vs) ∧ RepL g F xs vs
  | .dic kvs => ∃ vs, H a = some (.dK vs) ∧ RepK g F kvs vs
  | _ => False
theorem Own.there {g : Gx} {F H : Hp} {a : Addr} {d : D} (h : Own g F H a d) : ∃ o, H a = some o := by
  cases d <;> first
    | (obtain ⟨vs, e, _⟩ := h; exact ⟨_, e⟩)
    | exact h.elim
theorem Own.move {g : Gx} {F H F' H' : Hp} {a : Addr} {d : D} (h : Own g F H a d) (f : Sub F F') (e : H' a = H a) : Own g F' H' a d := by
  cases d <;> first
    | (obtain ⟨vs, e1, r⟩ := h; exact ⟨vs, e.trans e1, RepL.mono f r⟩)
    | (obtain ⟨vs, e1, r⟩ := h; exact ⟨vs, e.trans e1, RepK.mono f r⟩)
    | exact h.elim
/-- shown for reading: clean, or a frame's own -/
def WRep (g : Gx) (F H : Hp) (d : D) (v : V) : Prop := Rep g F d v ∨ ∃ a, v = .ref a ∧ Own g F H a d
theorem WRep.grow {g : Gx} {F H F' H' : Hp} {d : D} {v : V} (h : WRep g F H d v) (G : Grow F H F' H') : WRep g F' H' d v := by
  rcases h with h | ⟨a, rfl, h⟩
  · exact .inl (h.mono G.f)
  · obtain ⟨o, e⟩ := h.there
    exact .inr ⟨a, rfl, h.move G.f ((G.h a o e).trans e.symm)⟩

/-- several lists that are nobody's as yet, none of them there in H0 -/
def OwnL (g : Gx) (F H H0 : Hp) (ds : List D) (vs : List V) : Prop := vs.length = ds.length ∧ ∀ (i : Nat) d, ds[i]? = some d → ∃ a, vs[i]? = some (.ref a) ∧ F a = none ∧ H0 a = none ∧ Own g F H a d
/-- a new list of such -/
def Pool (g : Gx) (F H H0 : Hp) (v : V) (d : D) : Prop := ∃ p ds vs, v = .ref p ∧ d = .lst ds ∧ F p = none ∧ H0 p = none ∧ H p = some (.lst vs) ∧ OwnL g F H H0 ds vs ∧ vs.Nodup ∧ V.ref p ∉ vs
theorem OwnL.base {g : Gx} {F H H0 H1 : Hp} {ds : List D} {vs : List V} (h : OwnL g F H H0 ds vs) (k : ∀ a, H0 a = none → H1 a = none) : OwnL g F H H1 ds vs :=
  ⟨h.1, fun i d e => by
    obtain ⟨a, e1, e2, e3, e4⟩ := h.2 i d e
    exact ⟨a, e1, e2, k a e3, e4⟩⟩
theorem Pool.base {g : Gx} {F H H0 H1 : Hp} {v : V} {d : D} (h : Pool g F H H0 v d) (k : ∀ a, H0 a = none → H1 a = none) : Pool g F H H1 v d := by
  obtain ⟨p, ds, vs, e1, e2, e3, e4, e5, e6, e7, e8⟩ := h
  exact ⟨p, ds, vs, e1, e2, e3, k p e4, e5, e6.base k, e7, e8⟩
theorem OwnL.move {g : Gx} {F H F' H' H0 : Hp} {ds : List D} {vs : List V} (h : OwnL g F H H0 ds vs) (f : Sub F F') (k : ∀ a, V.ref a ∈ vs → H0 a = none → F a = none → (∃ o, H a = some o) → H' a = H a ∧ F' a = none) : OwnL g F' H' H0 ds vs :=
  ⟨h.1, fun i d e => by
    obtain ⟨a, e1, e2, e3, e4⟩ := h.2 i d e
    obtain ⟨k1, k2⟩ := k a (List.mem_of_getElem? e1) e3 e2 e4.there
    exact ⟨a, e1, k2, e3, e4.move f k1⟩⟩
/-! ### a frame -/
/-- what a def hands back: data that stands still, or a list or dict that is the caller's own -/
inductive Rk where
  | cl | fr | pl
  /-- data that stands still, and more that is known of it: N of the heap at the call, of what stands still behind it, of the data -/
  | cw (N : Hp → Hp → D → V → Prop)
structure Fx where
  F0 : Hp
  H0 : Hp
  O0 : List (Nat × Addr)
  ow : List Nat
  rk : Rk

structure ST (g : Gx) (fx : Fx) (σ : L2.St) (H F : Hp) (ρ : Rho) : Prop where
  s : Sub F H
  ge : Sub fx.F0 F
  nw : ∀ a o, F a = some o → fx.F0 a = some o ∨ fx.H0 a = none
  old : ∀ a o, fx.H0 a = some o → (∀ i, (i, a) ∉ fx.O0) → H a = some o
  len : σ.length = ρ.length
  cl : ∀ (i : Nat) d, ρ[i]? = some (.cl d) → ∃ v, σ[i]? = some (some v) ∧ Rep g F d v
  ow : ∀ (i : Nat) d, ρ[i]? = some (.ow d) → ∃ a, σ[i]? = some (some (.ref a)) ∧ F a = none ∧ Own g F H a d ∧ (fx.H0 a = none ∨ (i, a) ∈ fx.O0)
  inj : ∀ (i j : Nat) d e a, ρ[i]? = some (.ow d) → ρ[j]? = some (.ow e) → σ[i]? = some (some (.ref a)) → σ[j]? = some (some (.ref a)) → i = j
  par : ∀ (i : Nat) a, (i, a) ∈ fx.O0 → (∃ d, ρ[i]? = some (.ow d)) ∧ σ[i]? = some (some (.ref a))
  pin : ∀ (i : Nat) a, (i, a) ∈ fx.O0 → i ∈ fx.ow

section
variable {g : Gx} {fx : Fx} {σ : L2.St} {H F H' F' : Hp} {ρ : Rho}
theorem ST.par_there (S : ST g fx σ H F ρ) {i : Nat} {a : Addr} (h : (i, a) ∈ fx.O0) : ∃ o, H a = some o := by
  obtain ⟨⟨d, e⟩, e2⟩ := S.par i a h
  obtain ⟨b, e3, _, o, _⟩ := S.ow i d e
  rw [e2] at e3
  cases e3
  exact o.there
theorem ST.fresh (S : ST g fx σ H F ρ) {a : Addr} (h : H a = none) : fx.H0 a = none := by
  cases e : fx.H0 a with
  | none => rfl
  | some o =>
    by_cases q : ∃ i, (i, a) ∈ fx.O0
    · obtain ⟨i, q⟩ := q
      obtain ⟨u, e2⟩ := S.par_there q
      rw [h] at e2; cases e2
    · have := S.old a o e (fun i hi => q ⟨i, hi⟩)
      rw [h] at this; cases this
theorem ST.grow (S : ST g fx σ H F ρ) (G : Grow F H F' H') : ST g fx σ H' F' ρ where
  s := G.s
  ge := S.ge.trans G.f
  nw := fun a o h => by
    rcases G.n a o h with q | q
    · exact S.nw a o q
    · exact .inr (S.fresh q)
  old := fun a o h k => G.h a o (S.old a o h k)
  len := S.len
  cl := fun i d h => by
    obtain ⟨v, e, r⟩ := S.cl i d h
    exact ⟨v, e, r.mono G.f⟩
  ow := fun i d h => by
    obtain ⟨a, e, fa, o, n⟩ := S.ow i d h
    obtain ⟨u, hu⟩ := o.there
    refine ⟨a, e, ?_, o.move G.f ((G.h a u hu).trans hu.symm), n⟩
    cases q : F' a with
    | none => rfl
    | some w =>
      rcases G.n a w q with z | z
      · rw [fa] at z; cases z
      · rw [hu] at z; cases z
  inj := S.inj
  par := S.par
  pin := S.pin
end
end DL

set_option Elab.async false
set_option linter.all false
set_option maxRecDepth 100000
set_option maxHeartbeats 4000000
namespace DL
open PySem L2

/-! ### judgements -/
def VR (cl : Bool) (g : Gx) (F H : Hp) (d : D) (v : V) : Prop := match cl with
  | true => Rep g F d v
  | false => WRep g F H d v
theorem VR.w {cl : Bool} {g : Gx} {F H : Hp} {d : D} {v : V} (h : VR cl g F H d v) : WRep g F H d v := by
  cases cl with
  | true => exact .inl h
  | false => exact h
theorem VR.grow {cl : Bool} {g : Gx} {F H F' H' : Hp} {d : D} {v : V} (h : VR cl g F H d v) (G : Grow F H F' H') : VR cl g F' H' d v := by
  cases cl with
  | true => exact Rep.mono G.f h
  | false => exact WRep.grow h G
/-- an own error on its way -/
def XR (g : Gx) (F : Hp) (c : Str) (x : D) (cls : Value) (dd : Option Addr) : Prop :=
  ∃ C d w, cls = .ref C ∧ dd = some d ∧ g.mg c = some (.ref C) ∧ XcC g.K C ∧ F d = some (.xd [("value", w)]) ∧ Rep g F x w

/-- what is kept from here to there: all, where nothing of the frame's own is written -/
structure Go (eff : Bool) (σ : L2.St) (F H : Hp) (ρ : Rho) (F' H' : Hp) (ρ' : Rho) : Prop where
  f : Sub F F'
  n : ∀ a o, F' a = some o → F a = some o ∨ H a = none ∨ ∃ (i : Nat) (d : D), ρ[i]? = some (.ow d) ∧ σ[i]? = some (some (.ref a))
  o : ∀ (i : Nat) d, ρ'[i]? = some (.ow d) → ∃ e, ρ[i]? = some (.ow e)
  k : ∀ a o, H a = some o → (∀ (i : Nat) d, ρ[i]? = some (.ow d) → σ[i]? ≠ some (some (.ref a))) → H' a = some o
  g : eff = false → Grow F H F' H' ∧ ρ' = ρ
  d : ∀ a o, H a = some o → ∃ u, H' a = some u
theorem Go.refl {eff : Bool} {σ : L2.St} {F H : Hp} {ρ : Rho} (s : Sub F H) : Go eff σ F H ρ F H ρ := ⟨Sub.refl _, fun _ _ h => .inl h, fun _ d h => ⟨d, h⟩, fun _ _ h _ => h, fun _ => ⟨Grow.refl s, rfl⟩, fun _ o h => ⟨o, h⟩⟩
theorem Go.of {eff : Bool} {σ : L2.St} {F H F' H' : Hp} {ρ : Rho} (G : Grow F H F' H') : Go eff σ F H ρ F' H' ρ := ⟨G.f, fun a o h => (G.n a o h).imp id .inl, fun _ d h => ⟨d, h⟩, fun a o h _ => G.h a o h, fun _ => ⟨G, rfl⟩, fun a o h => ⟨o, G.h a o h⟩⟩
theorem Go.trans {e1 e2 : Bool} {σ : L2.St} {F H F1 H1 F2 H2 : Hp} {ρ ρ1 ρ2 : Rho} (a : Go e1 σ F H ρ F1 H1 ρ1) (b : Go e2 σ F1 H1 ρ1 F2 H2 ρ2) : Go (e1 || e2) σ F H ρ F2 H2 ρ2 where
  f := a.f.trans b.f
  n := fun x o h => by
    rcases b.n x o h with q | q | ⟨i, d, q1, q2⟩
    · exact a.n x o q
    · refine .inr (.inl ?_)
      cases e : H x with
      | none => rfl
      | some u =>
        obtain ⟨w, hw⟩ := a.d x u e
        rw [hw] at q
        cases q
    · obtain ⟨e, h1⟩ := a.o i d q1
      exact .inr (.inr ⟨i, e, h1, q2⟩)
  o := fun i d h => by
    obtain ⟨e, h1⟩ := b.o i d h
    exact a.o i e h1
  k := fun x o h q => b.k x o (a.k x o h q) fun i d hi => by
    obtain ⟨e, h1⟩ := a.o i d hi
    exact q i e h1
  g := fun e => by
    cases e1 with
    | true => cases e
    | false =>
      cases e2 with
      | true => cases e
      | false =>
        obtain ⟨h1, r1⟩ := a.g rfl
        obtain ⟨h2, r2⟩ := b.g rfl
        exact ⟨h1.trans h2, r2.trans r1⟩
  d := fun x o h => by
    obtain ⟨u, hu⟩ := a.d x o h
    exact b.d x u hu
theorem Go.up {e : Bool} {σ : L2.St} {F H F' H' : Hp} {ρ ρ' : Rho} (G : Go e σ F H ρ F' H' ρ') : Go true σ F H ρ F' H' ρ' := ⟨G.f, G.n, G.o, G.k, fun z => (nomatch z), G.d⟩
theorem VR.go {cl eff : Bool} {σ : L2.St} {g : Gx} {F H F' H' : Hp} {ρ ρ' : Rho} {d : D} {v : V} (h : VR cl g F H d v) (o : Go eff σ F H ρ F' H' ρ') (c : (!eff || cl) = true) : VR cl g F' H' d v := by
  cases cl with
  | true => exact Rep.mono o.f h
  | false =>
    cases eff with
    | true => exact absurd c (by decide)
    | false => exact WRep.grow h (o.g rfl).1

theorem xst {e : Bool} {g : Gx} {fx : Fx} {W : WX} {σ : L2.St} {F H F1 H1 : Hp} {ρ ρ1 ρ' : Rho} {c : Str} {x : D} (G : Go e σ F H ρ F1 H1 ρ1) (h : ∀ cls dd H' F', Go true σ F H ρ F' H' ρ' → ST g fx σ H' F' ρ' → XR g F' c x cls dd → W cls dd σ H') :
    ∀ cls dd H' F', Go true σ F1 H1 ρ1 F' H' ρ' → ST g fx σ H' F' ρ' → XR g F' c x cls dd → W cls dd σ H' := fun cls dd H' F' k => h cls dd H' F' (G.up.trans k)
section
variable (g : Gx) (fx : Fx) (W : WX)
def tE (cl eff : Bool) (m : M D) : TE := fun σ H Q => ∃ F ρ, ST g fx σ H F ρ ∧ match m ρ with
  | .ok d ρ' => ∀ v H' F', Go eff σ F H ρ F' H' ρ' → ST g fx σ H' F' ρ' → VR cl g F' H' d v → Q v H'
  | .exn c x ρ' => ∀ cls dd H' F', Go true σ F H ρ F' H' ρ' → ST g fx σ H' F' ρ' → XR g F' c x cls dd → W cls dd σ H'
  | .bad => False
def tB (eff : Bool) (m : M Bool) : TT := fun σ H Q => ∃ F ρ, ST g fx σ H F ρ ∧ match m ρ with
  | .ok b ρ' => ∀ H' F', Go eff σ F H ρ F' H' ρ' → ST g fx σ H' F' ρ' → Q b H'
  | .exn c x ρ' => ∀ cls dd H' F', Go true σ F H ρ F' H' ρ' → ST g fx σ H' F' ρ' → XR g F' c x cls dd → W cls dd σ H'
  | .bad => False
/-- arguments: all of them clean, or readable -/
def VRL (cl : Bool) (g : Gx) (F H : Hp) : List D → List V → Prop
  | [], vs => vs = []
  | d :: ds, vs => ∃ v r, vs = v :: r ∧ VR cl g F H d v ∧ VRL cl g F H ds r
def tA (cl eff : Bool) (m : M (List D)) : TA := fun σ H Q => ∃ F ρ, ST g fx σ H F ρ ∧ match m ρ with
  | .ok ds ρ' => ∀ vs H' F', Go eff σ F H ρ F' H' ρ' → ST g fx σ H' F' ρ' → VRL cl g F' H' ds vs → Q vs H'
  | .exn c x ρ' => ∀ cls dd H' F', Go true σ F H ρ F' H' ρ' → ST g fx σ H' F' ρ' → XR g F' c x cls dd → W cls dd σ H'
  | .bad => False
end
theorem VRL.rep {g : Gx} {F H : Hp} : ∀ {ds : List D} {vs : List V}, VRL true g F H ds vs → RepL g F ds vs
  | [], vs, h => by simpa only [VRL, RepL] using h
  | d :: ds, vs, h => by
    obtain ⟨v, r, rfl, h1, h2⟩ := h
    simp only [RepL]
    exact ⟨v, r, rfl, h1, VRL.rep h2⟩
theorem VRL.length {cl : Bool} {g : Gx} {F H : Hp} : ∀ {ds : List D} {vs : List V}, VRL cl g F H ds vs → vs.length = ds.length
  | [], vs, h => by
    have e : vs = [] := h
    simp [e]
  | d :: ds, vs, h => by
    obtain ⟨v, r, rfl, h1, h2⟩ := h
    simp [VRL.length h2]
/-- readable arguments -/
abbrev WRL (g : Gx) (F H : Hp) (ds : List D) (vs : List V) : Prop := VRL false g F H ds vs
theorem VRL.w {cl : Bool} {g : Gx} {F H : Hp} : ∀ {ds : List D} {vs : List V}, VRL cl g F H ds vs → WRL g F H ds vs
  | [], vs, h => h
  | d :: ds, vs, h => by
    obtain ⟨v, r, rfl, h1, h2⟩ := h
    exact ⟨v, r, rfl, h1.w, VRL.w h2⟩

section
variable (X : Cx) (fx : Fx) (W : WX)
abbrev gx (X : Cx) : Gx := ⟨X.K, X.mg⟩
def SE (cl eff : Bool) (e : Expr) (m : M D) : Prop := PE X e (tE (gx X) fx W cl eff m)
def SB (eff : Bool) (e : Expr) (m : M Bool) : Prop := PT X e (tB (gx X) fx W eff m)
def SA (cl eff : Bool) (es : List Expr) (m : M (List D)) : Prop := PA X es (tA (gx X) fx W cl eff m)
end

theorem PE.imp {X : Cx} {e : Expr} {t u : TE} (h : PE X e t) (k : ∀ σ H Q, u σ H Q → t σ H Q) : PE X e u := ⟨fun pins s σ H Q I q => h.run pins s σ H Q I (k σ H Q q)⟩
theorem PT.imp {X : Cx} {e : Expr} {t u : TT} (h : PT X e t) (k : ∀ σ H Q, u σ H Q → t σ H Q) : PT X e u := ⟨fun pins s σ H Q I q => h.run pins s σ H Q I (k σ H Q q)⟩
theorem PW.imp {X : Cx} {e : Expr} {t u : TT} (h : PW X e t) (k : ∀ σ H Q, u σ H Q → t σ H Q) : PW X e u := ⟨fun wh pins s σ H Q I q => h.run wh pins s σ H Q I (k σ H Q q)⟩
theorem PA.imp {X : Cx} {es : List Expr} {t u : TA} (h : PA X es t) (k : ∀ σ H Q, u σ H Q → t σ H Q) : PA X es u := ⟨fun pos pins s σ H Q I q => h.run pos pins s σ H Q I (k σ H Q q)⟩
theorem PS.imp {X : Cx} {st : Stmt} {t u : TS} (h : PS X st t) (k : ∀ D σ H, u D σ H → t D σ H) : PS X st u := ⟨fun pins s σ H D I q => h.run pins s σ H D I (k D σ H q)⟩
theorem PSs.imp {X : Cx} {st : List Stmt} {t u : TS} (h : PSs X st t) (k : ∀ D σ H, u D σ H → t D σ H) : PSs X st u := ⟨fun pins s σ H D I q => h.run pins s σ H D I (k D σ H q)⟩
theorem PE.or {X : Cx} {e : Expr} {t u : TE} (h : PE X e t) (k : PE X e u) : PE X e (fun σ H Q => t σ H Q ∨ u σ H Q) := ⟨fun pins s σ H Q I q => q.elim (h.run pins s σ H Q I) (k.run pins s σ H Q I)⟩

/-! ### mirrors of expressions -/
def eVar (i : Nat) : M D := fun ρ => match ρ[i]? with
  | some (.cl d) => .ok d ρ
  | _ => .bad
/-- a frame's own list or dict, for reading -/
def eOwn (i : Nat) : M D := fun ρ => match ρ[i]? with
  | some (.cl d) => .ok d ρ
  | some (.ow d) => .ok d ρ
  | _ => .bad
def eC (d : D) : M D := fun ρ => .ok d ρ
def e1 (op : D → R D) (a : M D) : M D := a.bind fun x => M.lift (op x)
def e2 (op : D → D → R D) (a b : M D) : M D := a.bind fun x => b.bind fun y => M.lift (op x y)
def aNil : M (List D) := M.pure []
def aCons (a : M D) (r : M (List D)) : M (List D) := a.bind fun x => r.bind fun xs => M.pure (x :: xs)
def eN (op : List D → R D) (a : M (List D)) : M D := a.bind fun xs => M.lift (op xs)
def eM (op : D → List D → R D) (o : M D) (a : M (List D)) : M D := o.bind fun x => a.bind fun xs => M.lift (op x xs)

/-! ### what an operation by values does -/
section
variable (g : Gx)
def Gives (F H : Hp) (d : D) (Q : VK) : Prop := ∀ v H' F', Grow F H F' H' → Rep g F' d v → Q v H'
def Snd2 (r : R2) (op : D → D → R D) : Prop := ∀ F H dx dy x y d Q, Sub F H → WRep g F H dx x → WRep g F H dy y → op dx dy = .ok d → Gives g F H d Q → r x y H Q
def Snd1 (r : V → Hp → VK → Prop) (op : D → R D) : Prop := ∀ F H dx x d Q, Sub F H → WRep g F H dx x → op dx = .ok d → Gives g F H d Q → r x H Q
def SndN (r : List V → Hp → VK → Prop) (op : List D → R D) : Prop := ∀ F H ds vs d Q, Sub F H → WRL g F H ds vs → op ds = .ok d → Gives g F H d Q → r vs H Q
def SndM (r : V → List V → Hp → VK → Prop) (op : D → List D → R D) : Prop := ∀ F H dx x ds vs d Q, Sub F H → WRep g F H dx x → WRL g F H ds vs → op dx ds = .ok d → Gives g F H d Q → r x vs H Q
end

section
variable {g : Gx} {fx : Fx} {W : WX} {σ : L2.St} {H : Hp} {Q : VK} {ca cb ea eb : Bool} {ma mb : M D}
theorem tE_e2 {r : R2} {op : D → D → R D} (hs : Snd2 g r op) (hc : (!eb || ca) = true) (h : tE g fx W true (ea || eb) (e2 op ma mb) σ H Q) : tOp r (tE g fx W ca ea ma) (tE g fx W cb eb mb) σ H Q := by
  obtain ⟨F, ρ, S, h⟩ := h
  refine ⟨F, ρ, S, ?_⟩
  unfold e2 M.bind at h
  cases e1 : ma ρ with
  | bad => rw [e1] at h; exact h
  | exn c x r1 => rw [e1] at h; exact h
  | ok dx ρ1 =>
    rw [e1] at h
    intro v H1 F1 G1 S1 r1
    refine ⟨F1, ρ1, S1, ?_⟩
    dsimp only at h
    cases e2 : mb ρ1 with
    | bad => rw [e2] at h; exact h
    | exn c x r1 => rw [e2] at h; exact xst G1 h
    | ok dy ρ2 =>
      rw [e2] at h
      intro u H2 F2 G2 S2 r2
      dsimp only [M.lift] at h
      cases e3 : op dx dy with
      | bad => rw [e3] at h; exact h.elim
      | ok d =>
        rw [e3] at h
        refine hs F2 H2 dx dy v u d Q S2.s (r1.go G2 hc).w r2.w e3 fun z H3 F3 G3 r3 => ?_
        exact h z H3 F3 (by
          have q := (G1.trans G2).trans (Go.of (eff := false) (ρ := ρ2) G3)
          rwa [Bool.or_false] at q) (S2.grow G3) r3
theorem tE_e1 {r : V → Hp → VK → Prop} {op : D → R D} (hs : Snd1 g r op) (h : tE g fx W true ea (e1 op ma) σ H Q) : tUn r (tE g fx W ca ea ma) σ H Q := by
  obtain ⟨F, ρ, S, h⟩ := h
  refine ⟨F, ρ, S, ?_⟩
  unfold e1 M.bind at h
  cases e1 : ma ρ with
  | bad => rw [e1] at h; exact h
  | exn c x r1 => rw [e1] at h; exact h
  | ok dx ρ1 =>
    rw [e1] at h
    intro v H1 F1 G1 S1 r1
    dsimp only [M.lift] at h
    cases e3 : op dx with
    | bad => rw [e3] at h; exact h.elim
    | ok d =>
      rw [e3] at h
      refine hs F1 H1 dx v d Q S1.s r1.w e3 fun z H3 F3 G3 r3 => ?_
      exact h z H3 F3 (by
        have q := G1.trans (Go.of (eff := false) (ρ := ρ1) G3)
        rwa [Bool.or_false] at q) (S1.grow G3) r3
theorem tE_eN {r : List V → Hp → VK → Prop} {op : List D → R D} {m : M (List D)} (hs : SndN g r op) (h : tE g fx W true ea (eN op m) σ H Q) : tCB r (tA g fx W ca ea m) σ H Q := by
  obtain ⟨F, ρ, S, h⟩ := h
  refine ⟨F, ρ, S, ?_⟩
  unfold eN M.bind at h
  cases e1 : m ρ with
  | bad => rw [e1] at h; exact h
  | exn c x r1 => rw [e1] at h; exact h
  | ok ds ρ1 =>
    rw [e1] at h
    intro vs H1 F1 G1 S1 r1
    dsimp only [M.lift] at h
    cases e3 : op ds with
    | bad => rw [e3] at h; exact h.elim
    | ok d =>
      rw [e3] at h
      refine hs F1 H1 ds vs d Q S1.s r1.w e3 fun z H3 F3 G3 r3 => ?_
      exact h z H3 F3 (by
        have q := G1.trans (Go.of (eff := false) (ρ := ρ1) G3)
        rwa [Bool.or_false] at q) (S1.grow G3) r3
theorem tA_nil {Q : List V → Hp → Prop} (h : tA g fx W true false aNil σ H Q) : tNil σ H Q := by
  obtain ⟨F, ρ, S, h⟩ := h
  exact h [] H F (Go.refl S.s) S rfl
theorem VRL.go {cl eff : Bool} {σ : L2.St} {g : Gx} {F H F' H' : Hp} {ρ ρ' : Rho} (o : Go eff σ F H ρ F' H' ρ') (c : (!eff || cl) = true) : ∀ {ds : List D} {vs : List V}, VRL cl g F H ds vs → VRL cl g F' H' ds vs
  | [], vs, h => h
  | d :: ds, vs, h => by
    obtain ⟨v, r, rfl, h1, h2⟩ := h
    exact ⟨v, r, rfl, h1.go o c, VRL.go o c h2⟩
/-- weaken to readable -/
theorem VRL.weak {cl cl' : Bool} (h : (!cl' || cl) = true) {g : Gx} {F H : Hp} {ds : List D} {vs : List V} (k : VRL cl g F H ds vs) : VRL cl' g F H ds vs := by
  cases cl' with
  | false => exact k.w
  | true =>
    cases cl with
    | true => exact k
    | false => exact absurd h (by decide)
theorem VR.weak {cl cl' : Bool} (h : (!cl' || cl) = true) {g : Gx} {F H : Hp} {d : D} {v : V} (k : VR cl g F H d v) : VR cl' g F H d v := by
  cases cl' with
  | false => exact k.w
  | true =>
    cases cl with
    | true => exact k
    | false => exact absurd h (by decide)
theorem and_l {a b : Bool} : (!(a && b) || a) = true := by cases a <;> cases b <;> rfl
theorem and_r {a b : Bool} : (!(a && b) || b) = true := by cases a <;> cases b <;> rfl
theorem tA_cons {m : M (List D)} {Q : List V → Hp → Prop} (hc : (!eb || ca) = true) (h : tA g fx W (ca && cb) (ea || eb) (aCons ma m) σ H Q) : tCons (tE g fx W ca ea ma) (tA g fx W cb eb m) σ H Q := by
  obtain ⟨F, ρ, S, h⟩ := h
  refine ⟨F, ρ, S, ?_⟩
  unfold aCons M.bind at h
  cases e1 : ma ρ with
  | bad => rw [e1] at h; exact h
  | exn c x r1 => rw [e1] at h; exact h
  | ok dx ρ1 =>
    rw [e1] at h
    intro v H1 F1 G1 S1 r1
    refine ⟨F1, ρ1, S1, ?_⟩
    dsimp only at h
    cases e2 : m ρ1 with
    | bad => rw [e2] at h; exact h
    | exn c x r1 => rw [e2] at h; exact xst G1 h
    | ok ds ρ2 =>
      rw [e2] at h
      intro vs H2 F2 G2 S2 r2
      exact h (v :: vs) H2 F2 (G1.trans G2) S2 ⟨v, vs, rfl, (r1.go G2 hc).weak and_l, r2.weak and_r⟩
/-- a built-in's method: its receiver's kind is looked at first -/
inductive Ty where
  | str | int | list | dict
def Ty.nm : Ty → String
  | .str => "str" | .int => "int" | .list => "list" | .dict => "dict"
def isT : Ty → D → Bool
  | .str, .str _ => true
  | .int, .int _ => true
  | .list, .lst _ => true
  | .list, .ros _ => true
  | _, _ => false
theorem isT_ty {F H : Hp} {T : Ty} {d : D} {v : V} (s : Sub F H) (h : isT T d = true) (r : WRep g F H d v) : tyV g.K T.nm v H := by
  have hl : ∀ {a : Addr} {vs : List V}, SqL g.K H a vs → tyV g.K Ty.list.nm (.ref a) H := fun {a vs} q => .inl ⟨rfl, vs, q⟩
  rcases r with r | ⟨a, rfl, o⟩
  · cases T with
    | str =>
      cases d <;> first | exact Bool.noConfusion h | skip
      simp only [Rep] at r
      subst r
      rfl
    | int =>
      cases d <;> first | exact Bool.noConfusion h | skip
      simp only [Rep] at r
      subst r
      rfl
    | list =>
      cases d <;> first | exact Bool.noConfusion h | skip
      · simp only [Rep] at r
        obtain ⟨a, vs, rfl, e, _⟩ := r
        exact hl (SqL.of (s _ _ e))
      · simp only [Rep] at r
        obtain ⟨a, vs, rfl, e, _⟩ := r
        exact hl (sqL_mono s e)
    | dict =>
      cases d <;> exact Bool.noConfusion h
  · cases T with
    | str => cases d <;> first | exact Bool.noConfusion h | exact o.elim
    | int => cases d <;> first | exact Bool.noConfusion h | exact o.elim
    | list =>
      cases d <;> first | exact Bool.noConfusion h | exact o.elim | skip
      obtain ⟨vs, e, _⟩ := o
      exact hl (SqL.of e)
    | dict =>
      cases d <;> exact Bool.noConfusion h
def mGuard (b : Bool) : M Unit := fun ρ => if b then .ok () ρ else .bad
def eMT (T : Ty) (op : D → List D → R D) (o : M D) (a : M (List D)) : M D := o.bind fun x => (mGuard (isT T x)).bind fun _ => a.bind fun xs => M.lift (op x xs)
theorem tE_eM {T : Ty} {r : V → List V → Hp → VK → Prop} {op : D → List D → R D} {m : M (List D)} (hs : SndM g r op) (hc : (!eb || ca) = true) (h : tE g fx W true (ea || eb) (eMT T op ma m) σ H Q) :
    tBM g.K T.nm r (tE g fx W ca ea ma) (tA g fx W cb eb m) σ H Q := by
  obtain ⟨F, ρ, S, h⟩ := h
  refine ⟨F, ρ, S, ?_⟩
  unfold eMT M.bind at h
  cases e1 : ma ρ with
  | bad => rw [e1] at h; exact h
  | exn c x r1 => rw [e1] at h; exact h
  | ok dx ρ1 =>
    rw [e1] at h
    intro v H1 F1 G1 S1 r1
    dsimp only at h
    cases e0 : isT T dx with
    | false => rw [e0] at h; exact h.elim
    | true =>
      rw [e0] at h
      refine ⟨isT_ty S1.s e0 r1.w, F1, ρ1, S1, ?_⟩
      dsimp only [mGuard] at h
      rw [if_pos rfl] at h
      dsimp only at h
      cases e2 : m ρ1 with
      | bad => rw [e2] at h; exact h
      | exn c x r1 => rw [e2] at h; exact xst G1 h
      | ok ds ρ2 =>
        rw [e2] at h
        intro vs H2 F2 G2 S2 r2
        dsimp only [M.lift] at h
        cases e3 : op dx ds with
        | bad => rw [e3] at h; exact h.elim
        | ok d =>
          rw [e3] at h
          refine hs F2 H2 dx v ds vs d Q S2.s (r1.go G2 hc).w r2.w e3 fun z H3 F3 G3 r3 => ?_
          exact h z H3 F3 (by
            have q := (G1.trans G2).trans (Go.of (eff := false) (ρ := ρ2) G3)
            rwa [Bool.or_false] at q) (S2.grow G3) r3
theorem tE_eM0 {T : Ty} {r : V → List V → Hp → VK → Prop} {op : D → List D → R D} (hs : SndM g r op) (h : tE g fx W true ea (eMT T op ma aNil) σ H Q) :
    tBM0 g.K T.nm r (tE g fx W ca ea ma) σ H Q := by
  obtain ⟨F, ρ, S, h⟩ := h
  refine ⟨F, ρ, S, ?_⟩
  unfold eMT M.bind aNil at h
  cases e1 : ma ρ with
  | bad => rw [e1] at h; exact h
  | exn c x r1 => rw [e1] at h; exact h
  | ok dx ρ1 =>
    rw [e1] at h
    intro v H1 F1 G1 S1 r1
    dsimp only at h
    cases e0 : isT T dx with
    | false => rw [e0] at h; exact h.elim
    | true =>
      rw [e0] at h
      refine ⟨isT_ty S1.s e0 r1.w, ?_⟩
      dsimp only [mGuard] at h
      rw [if_pos rfl] at h
      dsimp only [M.pure, M.lift] at h
      cases e3 : op dx [] with
      | bad => rw [e3] at h; exact h.elim
      | ok d =>
        rw [e3] at h
        refine hs F1 H1 dx v [] [] d Q S1.s r1.w rfl e3 fun z H3 F3 G3 r3 => ?_
        exact h z H3 F3 (by
          have q := G1.trans (Go.of (eff := false) (ρ := ρ1) G3)
          rwa [Bool.or_false] at q) (S1.grow G3) r3

/-! ### names and constants -/
theorem tE_var {i : Nat} (h : tE g fx W true false (eVar i) σ H Q) : tVar i σ H Q := by
  obtain ⟨F, ρ, S, h⟩ := h
  unfold eVar at h
  cases e : ρ[i]? with
  | none => rw [e] at h; exact h.elim
  | some s =>
    rw [e] at h
    cases s with
    | no => exact h.elim
    | ow d => exact h.elim
    | cl d =>
      obtain ⟨v, e1, r⟩ := S.cl i d e
      exact ⟨v, e1, h v H F (Go.refl S.s) S r⟩
theorem tE_own {i : Nat} (h : tE g fx W false false (eOwn i) σ H Q) : tVar i σ H Q := by
  obtain ⟨F, ρ, S, h⟩ := h
  unfold eOwn at h
  cases e : ρ[i]? with
  | none => rw [e] at h; exact h.elim
  | some s =>
    rw [e] at h
    cases s with
    | no => exact h.elim
    | cl d =>
      obtain ⟨v, e1, r⟩ := S.cl i d e
      exact ⟨v, e1, h v H F (Go.refl S.s) S (.inl r)⟩
    | ow d =>
      obtain ⟨a, e1, _, o, _⟩ := S.ow i d e
      exact ⟨.ref a, e1, h _ H F (Go.refl S.s) S (.inr ⟨a, rfl, o⟩)⟩
theorem tE_c {d : D} {v : V} (hr : ∀ F, Rep g F d v) (h : tE g fx W true false (eC d) σ H Q) : tC v σ H Q := by
  obtain ⟨F, ρ, S, h⟩ := h
  exact h v H F (Go.refl S.s) S (hr F)
end

section
variable {X : Cx} {fx : Fx} {W : WX}
theorem se_var (i : Nat) {x : Str} {pos : Pos} (hN : X.N[i]? = some x := by rfl) (hv : Vis X.env.scope x := by first | exact Or.inl rfl | exact Or.inr (Or.inl rfl) | exact Or.inr (Or.inr rfl)) (hd : (x == ("__debug__" : Str)) = false := by decide)
    (hcd : (x == ("__classdict__" : Str)) = false := by decide) : SE X fx W true false (.Name x pos) (eVar i) := PE.imp (pe_var hN hv hd hcd) fun _ _ _ h => tE_var h
theorem se_own (i : Nat) {x : Str} {pos : Pos} (hN : X.N[i]? = some x := by rfl) (hv : Vis X.env.scope x := by first | exact Or.inl rfl | exact Or.inr (Or.inl rfl) | exact Or.inr (Or.inr rfl)) (hd : (x == ("__debug__" : Str)) = false := by decide)
    (hcd : (x == ("__classdict__" : Str)) = false := by decide) : SE X fx W false false (.Name x pos) (eOwn i) := PE.imp (pe_var hN hv hd hcd) fun _ _ _ h => tE_own h
theorem se_int {i : Int} {j : Nat} {pos : Pos} : SE X fx W true false (.Constant (.int i) j pos) (eC (.int i)) := PE.imp pe_int fun _ _ _ h => tE_c (fun _ => by simp only [Rep]) h
theorem se_bl {b : Bool} {j : Nat} {pos : Pos} : SE X fx W true false (.Constant (.bool b) j pos) (eC (.bl b)) := PE.imp pe_bl fun _ _ _ h => tE_c (fun _ => by simp only [Rep]) h
theorem se_non {j : Nat} {pos : Pos} : SE X fx W true false (.Constant .none j pos) (eC .non) := PE.imp pe_non fun _ _ _ h => tE_c (fun _ => by simp only [Rep]) h
theorem se_str {x : Str} {j : Nat} {pos : Pos} : SE X fx W true false (.Constant (.str x) j pos) (eC (.str x)) := PE.imp pe_str fun _ _ _ h => tE_c (fun _ => by simp only [Rep]) h
/-- a constant of the module -/
theorem se_glob {x : Str} {d : D} {v : V} {u : Value} {pos : Pos} (hm : X.mg x = some u) (r : RelV v u) (hr : ∀ F, Rep (gx X) F d v) (hg : Gl X x := by rfl) (hd : (x == ("__debug__" : Str)) = false := by decide) : SE X fx W true false (.Name x pos) (eC d) :=
  PE.imp (pe_glob hg hm r hd) fun _ _ _ h => tE_c hr h
variable {ca cb ea eb : Bool} {a b : Expr} {ma mb : M D} {pos : Pos}
theorem se_op {o : Operator} {r : R2} {op : D → D → R D} (ho : OpR X (binaryOp o) r) (hs : Snd2 (gx X) r op) (ha : SE X fx W ca ea a ma) (hb : SE X fx W cb eb b mb) (hc : (!eb || ca) = true := by rfl) : SE X fx W true (ea || eb) (.BinOp a o b pos) (e2 op ma mb) :=
  PE.imp (pe_op ho ha hb) fun _ _ _ h => tE_e2 hs hc h
theorem se_un {o : UnaryOp} {r : V → Hp → VK → Prop} {op : D → R D} (ho : UnR X (unaryOp o) r) (hs : Snd1 (gx X) r op) (ha : SE X fx W ca ea a ma) : SE X fx W true ea (.UnaryOp o a pos) (e1 op ma) :=
  PE.imp (pe_un ho ha) fun _ _ _ h => tE_e1 hs h
theorem se_cmp {o : CmpOp} {r : R2} {op : D → D → R D} (ho : OpR X (compareOp o) r) (hs : Snd2 (gx X) r op) (ha : SE X fx W ca ea a ma) (hb : SE X fx W cb eb b mb) (hm : behindInMarks o b = false := by rfl) (hc : (!eb || ca) = true := by rfl) :
    SE X fx W true (ea || eb) (.Compare a [o] [b] pos) (e2 op ma mb) := PE.imp (pe_cmpR ho ha hb hm) fun _ _ _ h => tE_e2 hs hc h
theorem se_ix {r : R2} {op : D → D → R D} (ho : IxR X r) (hs : Snd2 (gx X) r op) (ha : SE X fx W ca ea a ma) (hb : SE X fx W cb eb b mb) (hp : PlainIx b := by exact (fun _ _ => rfl)) (hc : (!eb || ca) = true := by rfl) :
    SE X fx W true (ea || eb) (.Subscript a b pos) (e2 op ma mb) := PE.imp (pe_ix ho ha hb hp) fun _ _ _ h => tE_e2 hs hc h
theorem sa_nil : SA X fx W true false [] aNil := PA.imp pa_nil fun _ _ _ h => tA_nil h
theorem sa_cons {es : List Expr} {m : M (List D)} (ha : SE X fx W ca ea a ma) (hr : SA X fx W cb eb es m) (hs : starEach (a :: es) X.env = (false, eval a X.env) :: starEach es X.env := by rfl) (hc : (!eb || ca) = true := by rfl) :
    SA X fx W (ca && cb) (ea || eb) (a :: es) (aCons ma m) := PA.imp (pa_cons ha hr hs) fun _ _ _ h => tA_cons hc h
theorem se_callB {id : String} {x : Str} {p : Pos} {e : Expr} {es : List Expr} {r : List V → Hp → VK → Prop} {op : List D → R D} {m : M (List D)} (ho : CallR X (.builtin id) r) (hs : SndN (gx X) r op) (hm : X.mg x = none) (hv : bootBuiltins x = some (.builtin id)) (ha : SA X fx W ca ea (e :: es) m)
    (hg : Gl X x := by rfl) (hn : x ≠ "__name__" := by decide) (hdb : (x == ("__debug__" : Str)) = false := by decide) (h1 : starEach (e :: es) X.env = (false, eval e X.env) :: starEach es X.env := by rfl) (hpl : (backTo pos (starEach es X.env)).any (·.1) = false := by rfl) :
    SE X fx W true ea (.Call (.Name x p) (e :: es) [] pos) (eN op m) := PE.imp (pe_callB ho hg hm hv ha hn hdb h1 hpl) fun _ _ _ h => tE_eN hs h
theorem se_callTy {T : String} {x : Str} {p : Pos} {e : Expr} {es : List Expr} {r : List V → Hp → VK → Prop} {op : List D → R D} {m : M (List D)} (ho : CallR X (.type T) r) (hs : SndN (gx X) r op) (hm : X.mg x = none) (hv : bootBuiltins x = some (.type T)) (ha : SA X fx W ca ea (e :: es) m)
    (hg : Gl X x := by rfl) (hn : x ≠ "__name__" := by decide) (hdb : (x == ("__debug__" : Str)) = false := by decide) (h1 : starEach (e :: es) X.env = (false, eval e X.env) :: starEach es X.env := by rfl) (hpl : (backTo pos (starEach es X.env)).any (·.1) = false := by rfl) :
    SE X fx W true ea (.Call (.Name x p) (e :: es) [] pos) (eN op m) := PE.imp (pe_callTy ho hg hm hv ha hn hdb h1 hpl) fun _ _ _ h => tE_eN hs h
end
end DL

set_option Elab.async false
set_option linter.all false
set_option maxRecDepth 100000
set_option maxHeartbeats 4000000
namespace DL
open PySem L2

/-! ### truth -/
def truth : D → R Bool
  | .non => .ok false
  | .bl b => .ok b
  | .int i => .ok (i != 0)
  | .str s => if s.length ≤ 16777216 then .ok ((s.length : Int) != 0) else .bad
  | .lst xs => .ok (!xs.isEmpty)
  | .ros xs => .ok (!xs.isEmpty)
  | .tup xs => .ok (!xs.isEmpty)
  | .dic _ => .bad
  | .exc _ _ _ => .bad
section
variable {g : Gx} {F H : Hp}
theorem RepL.isEmpty {xs : List D} {vs : List V} (h : RepL g F xs vs) : vs.isEmpty = xs.isEmpty := by
  cases xs with
  | nil => simp only [RepL] at h; subst h; rfl
  | cons x xs =>
    simp only [RepL] at h
    obtain ⟨v, r, rfl, _⟩ := h
    rfl
theorem RepK.isEmpty {xs : List (Key × D)} {vs : List (Key × V)} (h : RepK g F xs vs) : vs.isEmpty = xs.isEmpty := by
  cases xs with
  | nil => simp only [RepK] at h; subst h; rfl
  | cons x xs =>
    obtain ⟨k, x⟩ := x
    simp only [RepK] at h
    obtain ⟨v, r, rfl, _⟩ := h
    rfl
theorem truth_ok {d : D} {v : V} {b : Bool} (s : Sub F H) (r : WRep g F H d v) (h : truth d = .ok b) : TruV g.K v H b := by
  rcases r with r | ⟨a, rfl, o⟩
  · cases d with
    | non => simp only [Rep] at r; subst r; cases h; rfl
    | bl k => simp only [Rep] at r; subst r; cases h; rfl
    | int i => simp only [Rep] at r; subst r; cases h; rfl
    | str z =>
      simp only [Rep] at r
      subst r
      dsimp only [truth] at h
      by_cases q : z.length ≤ 16777216
      · rw [if_pos q] at h
        cases h
        exact ⟨by rw [sizeLine_eq]; exact q, rfl⟩
      · rw [if_neg q] at h; cases h
    | lst xs =>
      simp only [Rep] at r
      obtain ⟨a, vs, rfl, e, l⟩ := r
      cases h
      exact .inl ⟨vs, SqL.of (s _ _ e), by rw [l.isEmpty]⟩
    | ros xs =>
      simp only [Rep] at r
      obtain ⟨a, vs, rfl, e, l⟩ := r
      cases h
      exact .inl ⟨vs, sqL_mono s e, by rw [l.isEmpty]⟩
    | tup xs =>
      simp only [Rep] at r
      obtain ⟨a, vs, rfl, e, l⟩ := r
      cases h
      exact .inr (.inl ⟨vs, sqT_mono s e, by rw [l.isEmpty]⟩)
    | dic xs => cases h
    | exc a c x => cases h
  · cases d with
    | lst xs =>
      obtain ⟨vs, e, l⟩ := o
      cases h
      exact .inl ⟨vs, SqL.of e, by rw [l.isEmpty]⟩
    | dic xs => cases h
    | _ => exact o.elim
end

/-! ### tests -/
def isBl : D → R Bool
  | .bl b => .ok b
  | _ => .bad
def bOf (m : M D) : M Bool := m.bind fun d => M.lift (isBl d)
def bTr (m : M D) : M Bool := m.bind fun d => M.lift (truth d)
def bAnd (a b : M Bool) : M Bool := a.bind fun x => if x then b else M.pure false
def bOr (a b : M Bool) : M Bool := a.bind fun x => if x then M.pure true else b
def bNot (a : M Bool) : M Bool := a.bind fun x => M.pure (!x)
def eIf (c : M Bool) (a b : M D) : M D := c.bind fun x => if x then a else b
def eAnd (a b : M D) : M D := a.bind fun x => (M.lift (truth x)).bind fun k => if k then b else M.pure x
def eOr (a b : M D) : M D := a.bind fun x => (M.lift (truth x)).bind fun k => if k then M.pure x else b
def eNot (a : M D) : M D := a.bind fun x => (M.lift (truth x)).bind fun k => M.pure (.bl (!k))
def eChain (op op' : D → D → R D) (a b c : M D) : M D := a.bind fun x => b.bind fun y => (M.lift (op x y)).bind fun z => (M.lift (isBl z)).bind fun k =>
  if k then c.bind fun w => M.lift (op' y w) else M.pure (.bl false)

section
variable {g : Gx} {fx : Fx} {W : WX} {σ : L2.St} {H : Hp} {ca cb ea eb ec : Bool} {ma mb mc : M D} {b1 b2 : M Bool}
theorem tB_of {Q : Bool → Hp → Prop} (h : tB g fx W ea (bOf ma) σ H Q) : tTest (tE g fx W ca ea ma) σ H Q := by
  obtain ⟨F, ρ, S, h⟩ := h
  refine ⟨F, ρ, S, ?_⟩
  unfold bOf M.bind at h
  cases e1 : ma ρ with
  | bad => rw [e1] at h; exact h
  | exn c x r1 => rw [e1] at h; exact h
  | ok dx ρ1 =>
    rw [e1] at h
    intro v H1 F1 G1 S1 r1
    dsimp only [M.lift] at h
    cases dx with
    | bl b =>
      have q := r1.w
      have e : v = .bl b := by
        rcases q with q | ⟨a, _, o⟩
        · simpa only [Rep] using q
        · exact o.elim
      exact ⟨b, e, h H1 F1 G1 S1⟩
    | _ => exact h.elim
theorem tB_tr {Q : Bool → Hp → Prop} (h : tB g fx W ea (bTr ma) σ H Q) : tE g fx W ca ea ma σ H fun x H1 => ∃ k, TruV g.K x H1 k ∧ Q k H1 := by
  obtain ⟨F, ρ, S, h⟩ := h
  refine ⟨F, ρ, S, ?_⟩
  unfold bTr M.bind at h
  cases e1 : ma ρ with
  | bad => rw [e1] at h; exact h
  | exn c x r1 => rw [e1] at h; exact h
  | ok dx ρ1 =>
    rw [e1] at h
    intro v H1 F1 G1 S1 r1
    dsimp only [M.lift] at h
    cases e2 : truth dx with
    | bad => rw [e2] at h; exact h.elim
    | ok k =>
      rw [e2] at h
      exact ⟨k, truth_ok S1.s r1.w e2, h H1 F1 G1 S1⟩
theorem tB_and {Q : Bool → Hp → Prop} (h : tB g fx W (ea || eb) (bAnd b1 b2) σ H Q) : tAnd (tB g fx W ea b1) (tB g fx W eb b2) σ H Q := by
  obtain ⟨F, ρ, S, h⟩ := h
  refine ⟨F, ρ, S, ?_⟩
  unfold bAnd M.bind at h
  cases e1 : b1 ρ with
  | bad => rw [e1] at h; exact h
  | exn c x r1 => rw [e1] at h; exact h
  | ok k ρ1 =>
    rw [e1] at h
    intro H1 F1 G1 S1
    cases k with
    | false =>
      rw [if_neg (by decide)]
      refine h H1 F1 ?_ S1
      have q := G1.trans (Go.refl (eff := eb) (ρ := ρ1) S1.s)
      exact q
    | true =>
      rw [if_pos rfl]
      refine ⟨F1, ρ1, S1, ?_⟩
      dsimp only at h
      rw [if_pos rfl] at h
      cases e2 : b2 ρ1 with
      | bad => rw [e2] at h; exact h
      | exn c x r1 => rw [e2] at h; exact xst G1 h
      | ok k2 ρ2 =>
        rw [e2] at h
        intro H2 F2 G2 S2
        exact h H2 F2 (G1.trans G2) S2
theorem tB_or {Q : Bool → Hp → Prop} (h : tB g fx W (ea || eb) (bOr b1 b2) σ H Q) : tOr (tB g fx W ea b1) (tB g fx W eb b2) σ H Q := by
  obtain ⟨F, ρ, S, h⟩ := h
  refine ⟨F, ρ, S, ?_⟩
  unfold bOr M.bind at h
  cases e1 : b1 ρ with
  | bad => rw [e1] at h; exact h
  | exn c x r1 => rw [e1] at h; exact h
  | ok k ρ1 =>
    rw [e1] at h
    intro H1 F1 G1 S1
    cases k with
    | true =>
      rw [if_pos rfl]
      refine h H1 F1 ?_ S1
      have q := G1.trans (Go.refl (eff := eb) (ρ := ρ1) S1.s)
      exact q
    | false =>
      rw [if_neg (by decide)]
      refine ⟨F1, ρ1, S1, ?_⟩
      dsimp only at h
      rw [if_neg (by decide)] at h
      cases e2 : b2 ρ1 with
      | bad => rw [e2] at h; exact h
      | exn c x r1 => rw [e2] at h; exact xst G1 h
      | ok k2 ρ2 =>
        rw [e2] at h
        intro H2 F2 G2 S2
        exact h H2 F2 (G1.trans G2) S2
theorem tB_not {Q : Bool → Hp → Prop} (h : tB g fx W ea (bNot b1) σ H Q) : tNot (tB g fx W ea b1) σ H Q := by
  obtain ⟨F, ρ, S, h⟩ := h
  refine ⟨F, ρ, S, ?_⟩
  unfold bNot M.bind at h
  cases e1 : b1 ρ with
  | bad => rw [e1] at h; exact h
  | exn c x r1 => rw [e1] at h; exact h
  | ok k ρ1 => rw [e1] at h; exact h
theorem Go.le {e e' : Bool} {σ : L2.St} (h : (!e || e') = true) {F H F' H' : Hp} {ρ ρ' : Rho} (G : Go e σ F H ρ F' H' ρ') : Go e' σ F H ρ F' H' ρ' :=
  ⟨G.f, G.n, G.o, G.k, fun q => G.g (by cases e with | false => rfl | true => subst q; cases h), G.d⟩
theorem le_l {a b : Bool} : (!a || (a || b)) = true := by cases a <;> cases b <;> rfl
theorem le_r {a b : Bool} : (!b || (a || b)) = true := by cases a <;> cases b <;> rfl
theorem tE_if {Q : VK} (h : tE g fx W (ca && cb) (ec || (ea || eb)) (eIf b1 ma mb) σ H Q) : tIf (tB g fx W ec b1) (tE g fx W ca ea ma) (tE g fx W cb eb mb) σ H Q := by
  obtain ⟨F, ρ, S, h⟩ := h
  refine ⟨F, ρ, S, ?_⟩
  unfold eIf M.bind at h
  cases e1 : b1 ρ with
  | bad => rw [e1] at h; exact h
  | exn c x r1 => rw [e1] at h; exact h
  | ok k ρ1 =>
    rw [e1] at h
    intro H1 F1 G1 S1
    dsimp only at h
    cases k with
    | true =>
      rw [if_pos rfl] at h ⊢
      refine ⟨F1, ρ1, S1, ?_⟩
      cases e2 : ma ρ1 with
      | bad => rw [e2] at h; exact h
      | exn c x r1 => rw [e2] at h; exact xst G1 h
      | ok d ρ2 =>
        rw [e2] at h
        intro v H2 F2 G2 S2 r2
        exact h v H2 F2 (G1.trans (G2.le le_l)) S2 (r2.weak and_l)
    | false =>
      rw [if_neg (by decide)] at h ⊢
      refine ⟨F1, ρ1, S1, ?_⟩
      cases e2 : mb ρ1 with
      | bad => rw [e2] at h; exact h
      | exn c x r1 => rw [e2] at h; exact xst G1 h
      | ok d ρ2 =>
        rw [e2] at h
        intro v H2 F2 G2 S2 r2
        exact h v H2 F2 (G1.trans (G2.le le_r)) S2 (r2.weak and_r)
theorem tE_and {Q : VK} (h : tE g fx W (ca && cb) (ea || eb) (eAnd ma mb) σ H Q) : tAndT g.K (tE g fx W ca ea ma) (tE g fx W cb eb mb) σ H Q := by
  obtain ⟨F, ρ, S, h⟩ := h
  refine ⟨F, ρ, S, ?_⟩
  unfold eAnd M.bind at h
  cases e1 : ma ρ with
  | bad => rw [e1] at h; exact h
  | exn c x r1 => rw [e1] at h; exact h
  | ok dx ρ1 =>
    rw [e1] at h
    intro v H1 F1 G1 S1 r1
    dsimp only [M.lift] at h
    cases e2 : truth dx with
    | bad => rw [e2] at h; exact h.elim
    | ok k =>
      rw [e2] at h
      refine ⟨k, truth_ok S1.s r1.w e2, ?_⟩
      dsimp only at h
      cases k with
      | true =>
        rw [if_pos rfl] at h ⊢
        refine ⟨F1, ρ1, S1, ?_⟩
        cases e2 : mb ρ1 with
        | bad => rw [e2] at h; exact h
        | exn c x r1 => rw [e2] at h; exact xst G1 h
        | ok d ρ2 =>
          rw [e2] at h
          intro v H2 F2 G2 S2 r2
          exact h v H2 F2 (G1.trans G2) S2 (r2.weak and_r)
      | false =>
        rw [if_neg (by decide)] at h ⊢
        exact h v H1 F1 (G1.le le_l) S1 (r1.weak and_l)
theorem tE_or {Q : VK} (h : tE g fx W (ca && cb) (ea || eb) (eOr ma mb) σ H Q) : tOrT g.K (tE g fx W ca ea ma) (tE g fx W cb eb mb) σ H Q := by
  obtain ⟨F, ρ, S, h⟩ := h
  refine ⟨F, ρ, S, ?_⟩
  unfold eOr M.bind at h
  cases e1 : ma ρ with
  | bad => rw [e1] at h; exact h
  | exn c x r1 => rw [e1] at h; exact h
  | ok dx ρ1 =>
    rw [e1] at h
    intro v H1 F1 G1 S1 r1
    dsimp only [M.lift] at h
    cases e2 : truth dx with
    | bad => rw [e2] at h; exact h.elim
    | ok k =>
      rw [e2] at h
      refine ⟨k, truth_ok S1.s r1.w e2, ?_⟩
      dsimp only at h
      cases k with
      | false =>
        rw [if_neg (by decide)] at h ⊢
        refine ⟨F1, ρ1, S1, ?_⟩
        cases e2 : mb ρ1 with
        | bad => rw [e2] at h; exact h
        | exn c x r1 => rw [e2] at h; exact xst G1 h
        | ok d ρ2 =>
          rw [e2] at h
          intro v H2 F2 G2 S2 r2
          exact h v H2 F2 (G1.trans G2) S2 (r2.weak and_r)
      | true =>
        rw [if_pos rfl] at h ⊢
        exact h v H1 F1 (G1.le le_l) S1 (r1.weak and_l)
theorem tE_not {Q : VK} (h : tE g fx W true ea (eNot ma) σ H Q) : tNotT g.K (tE g fx W ca ea ma) σ H Q := by
  obtain ⟨F, ρ, S, h⟩ := h
  refine ⟨F, ρ, S, ?_⟩
  unfold eNot M.bind at h
  cases e1 : ma ρ with
  | bad => rw [e1] at h; exact h
  | exn c x r1 => rw [e1] at h; exact h
  | ok dx ρ1 =>
    rw [e1] at h
    intro v H1 F1 G1 S1 r1
    dsimp only [M.lift] at h
    cases e2 : truth dx with
    | bad => rw [e2] at h; exact h.elim
    | ok k =>
      rw [e2] at h
      exact ⟨k, truth_ok S1.s r1.w e2, h _ H1 F1 G1 S1 (by show Rep g F1 _ _; simp only [Rep])⟩
theorem tE_chain {Q : VK} {r r' : R2} {op op' : D → D → R D} (hs : Snd2 g r op) (hs' : Snd2 g r' op') (hc1 : (!eb || ca) = true) (hc2 : (!ec || cb) = true) (h : tE g fx W true (ea || (eb || ec)) (eChain op op' ma mb mc) σ H Q) :
    tChain r r' (tE g fx W ca ea ma) (tE g fx W cb eb mb) (tE g fx W true ec mc) σ H Q := by
  obtain ⟨F, ρ, S, h⟩ := h
  refine ⟨F, ρ, S, ?_⟩
  unfold eChain M.bind at h
  cases e1 : ma ρ with
  | bad => rw [e1] at h; exact h
  | exn c x r1 => rw [e1] at h; exact h
  | ok dx ρ1 =>
    rw [e1] at h
    intro v H1 F1 G1 S1 r1
    refine ⟨F1, ρ1, S1, ?_⟩
    dsimp only at h
    cases e2 : mb ρ1 with
    | bad => rw [e2] at h; exact h
    | exn c x r1 => rw [e2] at h; exact xst G1 h
    | ok dy ρ2 =>
      rw [e2] at h
      intro u H2 F2 G2 S2 r2
      dsimp only [M.lift] at h
      cases e3 : op dx dy with
      | bad => rw [e3] at h; exact h.elim
      | ok z =>
        rw [e3] at h
        refine hs F2 H2 dx dy v u z _ S2.s (r1.go G2 hc1).w r2.w e3 fun zv H3 F3 G3 r3 => ?_
        dsimp only at h
        cases z with
        | bl k =>
          have ez : zv = .bl k := by simpa only [Rep] using r3
          refine ⟨k, ez, ?_⟩
          dsimp only [isBl] at h
          have G23 : Go (ea || eb) σ F H ρ F3 H3 ρ2 := by
            have q := (G1.trans G2).trans (Go.of (eff := false) (ρ := ρ2) G3)
            rwa [Bool.or_false] at q
          cases k with
          | false =>
            rw [if_neg (by decide)] at h ⊢
            exact h _ H3 F3 (by
              have q := G23.trans (Go.refl (eff := ec) (ρ := ρ2) (S2.grow G3).s)
              rwa [Bool.or_assoc] at q) (S2.grow G3) (by show Rep g F3 _ _; simp only [Rep])
          | true =>
            rw [if_pos rfl] at h ⊢
            refine ⟨F3, ρ2, S2.grow G3, ?_⟩
            cases e4 : mc ρ2 with
            | bad => rw [e4] at h; exact h
            | exn c x r1 => rw [e4] at h; exact xst G23 h
            | ok dw ρ4 =>
              rw [e4] at h
              intro w H4 F4 G4 S4 r4
              dsimp only at h
              cases e5 : op' dy dw with
              | bad => rw [e5] at h; exact h.elim
              | ok d =>
                rw [e5] at h
                refine hs' F4 H4 dy dw u w d Q S4.s ((r2.grow G3).go G4 hc2).w r4.w e5 fun q H5 F5 G5 r5 => ?_
                exact h q H5 F5 (by
                  have q := (G23.trans G4).trans (Go.of (eff := false) (ρ := ρ4) G5)
                  rwa [Bool.or_false, Bool.or_assoc] at q) (S4.grow G5) r5
        | _ => exact h.elim
end

section
variable {X : Cx} {fx : Fx} {W : WX} {ca cb cc ea eb ec : Bool} {a b c : Expr} {ma mb mc : M D} {b1 b2 : M Bool} {pos : Pos} {rest : List Expr}
theorem sb_cmp {o : CmpOp} {r : R2} {op : D → D → R D} (ho : OpR X (compareOp o) r) (hs : Snd2 (gx X) r op) (ha : SE X fx W ca ea a ma) (hb : SE X fx W cb eb b mb) (hm : behindInMarks o b = false := by rfl) (hc : (!eb || ca) = true := by rfl) :
    SB X fx W (ea || eb) (.Compare a [o] [b] pos) (bOf (e2 op ma mb)) :=
  PT.imp (pt_cmpR ho ha hb hm) fun σ H Q h => by
    have q : tTest (tE (gx X) fx W true (ea || eb) (e2 op ma mb)) σ H Q := tB_of h
    exact tE_e2 hs hc q
theorem se_chain {o o' : CmpOp} {r r' : R2} {op op' : D → D → R D} (ho : OpR X (compareOp o) r) (hs : Snd2 (gx X) r op) (ho' : OpR X (compareOp o') r') (hs' : Snd2 (gx X) r' op') (ha : SE X fx W ca ea a ma) (hb : SE X fx W cb eb b mb) (hd : SE X fx W true ec c mc)
    (hm : lastMarks [o, o'] [b, c] = false := by rfl) (hc1 : (!eb || ca) = true := by rfl) (hc2 : (!ec || cb) = true := by rfl) :
    SE X fx W true (ea || (eb || ec)) (.Compare a [o, o'] [b, c] pos) (eChain op op' ma mb mc) := PE.imp (pe_chain ho ho' ha hb hd hm) fun σ H Q h => tE_chain hs hs' hc1 hc2 h
theorem sb_chain {o o' : CmpOp} {r r' : R2} {op op' : D → D → R D} (ho : OpR X (compareOp o) r) (hs : Snd2 (gx X) r op) (ho' : OpR X (compareOp o') r') (hs' : Snd2 (gx X) r' op') (ha : SE X fx W ca ea a ma) (hb : SE X fx W cb eb b mb) (hd : SE X fx W true ec c mc)
    (hm : lastMarks [o, o'] [b, c] = false := by rfl) (hc1 : (!eb || ca) = true := by rfl) (hc2 : (!ec || cb) = true := by rfl) :
    SB X fx W (ea || (eb || ec)) (.Compare a [o, o'] [b, c] pos) (bOf (eChain op op' ma mb mc)) := PT.imp (pt_chain ho ho' ha hb hd hm) fun σ H Q h => by
    have q : tTest (tE (gx X) fx W true (ea || (eb || ec)) (eChain op op' ma mb mc)) σ H Q := tB_of h
    exact tE_chain hs hs' hc1 hc2 q
/-- any expression as a test -/
theorem sb_tr (ha : SE X fx W ca ea a ma) (he : ∀ whole, isTrue a X.env whole = (do let v ← whole; standAt a.pos; holding [v] (truthy v)) := by intro _; rfl) : SB X fx W ea a (bTr ma) :=
  PT.imp (pt_truth ha he) fun σ H Q h => tB_tr h
def SW (X : Cx) (fx : Fx) (W : WX) (eff : Bool) (e : Expr) (m : M Bool) : Prop := PW X e (tB (gx X) fx W eff m)
theorem SW.sb (h : SW X fx W ea a b1) : SB X fx W ea a b1 := PW.pt h
theorem sw_and1 (ha : SB X fx W ea a b1) : SW X fx W ea (.BoolOp .And [a] pos) b1 := pw_and1 ha
theorem sw_or1 (ha : SB X fx W ea a b1) : SW X fx W ea (.BoolOp .Or [a] pos) b1 := pw_or1 ha
theorem sw_and (ha : SB X fx W ea a b1) (hb : SW X fx W eb (.BoolOp .And (b :: rest) pos) b2) : SW X fx W (ea || eb) (.BoolOp .And (a :: b :: rest) pos) (bAnd b1 b2) := PW.imp (pw_and ha hb) fun σ H Q h => tB_and h
theorem sw_or (ha : SB X fx W ea a b1) (hb : SW X fx W eb (.BoolOp .Or (b :: rest) pos) b2) : SW X fx W (ea || eb) (.BoolOp .Or (a :: b :: rest) pos) (bOr b1 b2) := PW.imp (pw_or ha hb) fun σ H Q h => tB_or h
theorem sb_not (ha : SB X fx W ea a b1) : SB X fx W ea (.UnaryOp .Not a pos) (bNot b1) := PT.imp (pt_not ha) fun σ H Q h => tB_not h
theorem se_if (hc : SB X fx W ec c b1) (ha : SE X fx W ca ea a ma) (hb : SE X fx W cb eb b mb) : SE X fx W (ca && cb) (ec || (ea || eb)) (.IfExp c a b pos) (eIf b1 ma mb) := PE.imp (pe_ifExp hc ha hb) fun σ H Q h => tE_if h
theorem se_one {o : BoolOp} (ha : SE X fx W ca ea a ma) : SE X fx W ca ea (.BoolOp o [a] pos) ma := pe_one ha
theorem se_and (ha : SE X fx W ca ea a ma) (hb : SE X fx W cb eb (.BoolOp .And (b :: rest) pos) mb) : SE X fx W (ca && cb) (ea || eb) (.BoolOp .And (a :: b :: rest) pos) (eAnd ma mb) := PE.imp (pe_andT ha hb) fun σ H Q h => tE_and h
theorem se_or (ha : SE X fx W ca ea a ma) (hb : SE X fx W cb eb (.BoolOp .Or (b :: rest) pos) mb) : SE X fx W (ca && cb) (ea || eb) (.BoolOp .Or (a :: b :: rest) pos) (eOr ma mb) := PE.imp (pe_orT ha hb) fun σ H Q h => tE_or h
theorem se_not (ha : SE X fx W ca ea a ma) : SE X fx W true ea (.UnaryOp .Not a pos) (eNot ma) := PE.imp (pe_notT ha) fun σ H Q h => tE_not h
end
end DL

set_option Elab.async false
set_option linter.all false
set_option maxRecDepth 100000
set_option maxHeartbeats 4000000
namespace DL
open PySem L2

/-! ### displays -/
def mkLst (xs : List D) : R D := if xs.length ≤ 16777216 then .ok (.lst xs) else .bad
def mkTup (xs : List D) : R D := if xs.length ≤ 16777216 then .ok (.tup xs) else .bad
section
variable {g : Gx} {fx : Fx} {W : WX} {σ : L2.St} {H : Hp} {ea : Bool} {m : M (List D)}
theorem new_lst {F H : Hp} {xs : List D} {vs : List V} {Q : VK} (s : Sub F H) (r : RepL g F xs vs) (h : Gives g F H (.lst xs) Q) {p : Addr} (hp : H p = none) : Q (.ref p) (upd H p (.lst vs)) :=
  h _ _ _ (Grow.new s hp) (by simp only [Rep]; exact ⟨p, vs, rfl, upd_same, RepL.mono (Grow.new s hp).f r⟩)
theorem new_tup {F H : Hp} {xs : List D} {vs : List V} {Q : VK} (s : Sub F H) (r : RepL g F xs vs) (h : Gives g F H (.tup xs) Q) {p : Addr} (hp : H p = none) : Q (.ref p) (upd H p (.tup vs)) :=
  h _ _ _ (Grow.new s hp) (by simp only [Rep]; exact ⟨p, vs, rfl, SqT.of upd_same, RepL.mono (Grow.new s hp).f r⟩)
theorem tE_lst {Q : VK} (h : tE g fx W true ea (eN mkLst m) σ H Q) : tLst (tA g fx W true ea m) σ H Q := by
  obtain ⟨F, ρ, S, h⟩ := h
  refine ⟨F, ρ, S, ?_⟩
  unfold eN M.bind at h
  cases e1 : m ρ with
  | bad => rw [e1] at h; exact h
  | exn c x r1 => rw [e1] at h; exact h
  | ok ds ρ1 =>
    rw [e1] at h
    intro vs H1 F1 G1 S1 r1
    dsimp only [M.lift, mkLst] at h
    by_cases q : ds.length ≤ 16777216
    · rw [if_pos q] at h
      refine ⟨by rw [r1.length, sizeLine_eq]; exact q, fun p hp => new_lst S1.s r1.rep (fun v H2 F2 G2 r2 => ?_) hp⟩
      exact h v H2 F2 (by
        have q := G1.trans (Go.of (eff := false) (ρ := ρ1) G2)
        rwa [Bool.or_false] at q) (S1.grow G2) r2
    · rw [if_neg q] at h; exact h.elim
theorem tE_tup {Q : VK} (h : tE g fx W true ea (eN mkTup m) σ H Q) : tTup (tA g fx W true ea m) σ H Q := by
  obtain ⟨F, ρ, S, h⟩ := h
  refine ⟨F, ρ, S, ?_⟩
  unfold eN M.bind at h
  cases e1 : m ρ with
  | bad => rw [e1] at h; exact h
  | exn c x r1 => rw [e1] at h; exact h
  | ok ds ρ1 =>
    rw [e1] at h
    intro vs H1 F1 G1 S1 r1
    dsimp only [M.lift, mkTup] at h
    by_cases q : ds.length ≤ 16777216
    · rw [if_pos q] at h
      refine ⟨by rw [r1.length, sizeLine_eq]; exact q, fun p hp => new_tup S1.s r1.rep (fun v H2 F2 G2 r2 => ?_) hp⟩
      exact h v H2 F2 (by
        have q := G1.trans (Go.of (eff := false) (ρ := ρ1) G2)
        rwa [Bool.or_false] at q) (S1.grow G2) r2
    · rw [if_neg q] at h; exact h.elim
/-- behind it a thing may be locked for good -/
def tPLock (t : TE) : TE := fun σ H Q => t σ H fun v H1 => Q v H1 ∨ ∃ d u, H1 d = some u ∧ Mut (some u) ∧ ∀ od, Q v (upd H1 d (.frz od u))
theorem pe_plock {X : Cx} {e : Expr} {t : TE} (h : PE X e t) : PE X e (tPLock t) := by
  refine ⟨fun pins s σ H Q I hw => ?_⟩
  refine thn (h.run pins s σ H _ I hw) fun v s1 ⟨x, H1, I1, r, q⟩ => ?_
  rcases q with q | ⟨d, u, hd, mu, q⟩
  · exact ⟨x, H1, I1, r, q⟩
  · obtain ⟨od, I2⟩ := I1.lock hd mu
    exact ⟨x, _, I2, r, q od⟩
theorem tE_dnew {Q : VK} (h : tE g fx W true false (eC (.dic [])) σ H Q) : tPLock tDNewK σ H Q := by
  obtain ⟨F, ρ, S, h⟩ := h
  intro p hp
  refine .inr ⟨p, .dK [], upd_same, trivial, fun od => ?_⟩
  rw [upd_upd]
  refine h _ _ (upd F p (.frz od (.dK []))) (Go.of (Grow.new S.s hp)) (S.grow (Grow.new S.s hp)) ?_
  show Rep g _ _ _
  simp only [Rep]
  exact ⟨p, [], rfl, ⟨od, upd_same⟩, by simp only [RepK]⟩
end

/-! ### slices -/
/-- a part of a slice: a number, or nothing -/
def toPart : D → R (Option Int)
  | .int i => .ok (some i)
  | _ => .bad
def pNo : M (Option Int) := M.pure none
def pAt (m : M D) : M (Option Int) := m.bind fun d => M.lift (toPart d)
def cutL {α : Type} (xs : List α) (lo hi : Option Int) : List α := (xs.drop (HT.sIx xs.length 0 lo)).take (HT.sIx xs.length xs.length hi - HT.sIx xs.length 0 lo)
def cutD : D → Option Int → Option Int → R D
  | .str s, lo, hi => if s.length ≤ 16777216 then .ok (.str (cutS s lo hi)) else .bad
  | .lst xs, lo, hi => .ok (.lst (cutL xs lo hi))
  | .ros xs, lo, hi => .ok (.lst (cutL xs lo hi))
  | .tup xs, lo, hi => .ok (.tup (cutL xs lo hi))
  | _, _, _ => .bad
def eCut (a : M D) (lo hi : M (Option Int)) : M D := a.bind fun x => lo.bind fun l => hi.bind fun h => M.lift (cutD x l h)
def tP (g : Gx) (fx : Fx) (W : WX) (eff : Bool) (m : M (Option Int)) : TO := fun σ H Q => ∃ F ρ, ST g fx σ H F ρ ∧ match m ρ with
  | .ok o ρ' => ∀ H' F', Go eff σ F H ρ F' H' ρ' → ST g fx σ H' F' ρ' → Q o H'
  | .exn c x ρ' => ∀ cls dd H' F', Go true σ F H ρ F' H' ρ' → ST g fx σ H' F' ρ' → XR g F' c x cls dd → W cls dd σ H'
  | .bad => False
def SP (X : Cx) (fx : Fx) (W : WX) (eff : Bool) (e : Option Expr) (m : M (Option Int)) : Prop := PO X e (tP (gx X) fx W eff m)
theorem PO.imp {X : Cx} {e : Option Expr} {t u : TO} (h : PO X e t) (k : ∀ σ H Q, u σ H Q → t σ H Q) : PO X e u := ⟨fun pins s σ H Q I q => h.run pins s σ H Q I (k σ H Q q)⟩
section
variable {g : Gx} {fx : Fx} {W : WX} {σ : L2.St} {H : Hp} {ca ea el eh : Bool} {ma : M D} {ml mh : M (Option Int)}
theorem tP_no {Q : Option Int → Hp → Prop} (h : tP g fx W false pNo σ H Q) : tNoPart σ H Q := by
  obtain ⟨F, ρ, S, h⟩ := h
  exact h H F (Go.refl S.s) S
theorem tP_at {Q : Option Int → Hp → Prop} (h : tP g fx W ea (pAt ma) σ H Q) : tPart (tE g fx W ca ea ma) σ H Q := by
  obtain ⟨F, ρ, S, h⟩ := h
  refine ⟨F, ρ, S, ?_⟩
  unfold pAt M.bind at h
  cases e1 : ma ρ with
  | bad => rw [e1] at h; exact h
  | exn c x r1 => rw [e1] at h; exact h
  | ok dx ρ1 =>
    rw [e1] at h
    intro v H1 F1 G1 S1 r1
    cases dx with
    | int i =>
      have e : v = .int i := by
        rcases r1.w with q | ⟨a, _, o⟩
        · simpa only [Rep] using q
        · exact o.elim
      exact ⟨i, e, h H1 F1 G1 S1⟩
    | _ => exact h.elim
def rCut (K : PySem.W.Frag) : V → Option Int → Option Int → Hp → VK → Prop := fun x lo hi H Q => rSlS x lo hi H Q ∨ rSlL K x lo hi H Q ∨ rSlA K x lo hi H Q
theorem sl_cut {X : Cx} : SlR X (rCut X.K) := SlR.or sl_str (SlR.or sl_list sl_tupA)
theorem RepL.cut {F : Hp} {xs : List D} {vs : List V} (r : RepL g F xs vs) (lo hi : Option Int) : RepL g F (cutL xs lo hi) (cutV vs lo hi) := by
  unfold cutL cutV
  rw [r.length]
  exact RepL.take _ (RepL.drop _ r)
theorem cut_ok {F H : Hp} {x d : D} {v : V} {lo hi : Option Int} {Q : VK} (s : Sub F H) (r : WRep g F H x v) (h : cutD x lo hi = .ok d) (k : Gives g F H d Q) : rCut g.K v lo hi H Q := by
  have lst : ∀ {a : Addr} {vs : List V} {xs : List D}, SqL g.K H a vs → RepL g F xs vs → d = .lst (cutL xs lo hi) → rCut g.K (.ref a) lo hi H Q := fun {a vs xs} e l ed => by
    subst ed
    exact .inr (.inl ⟨a, vs, rfl, e, fun p hp => new_lst s (l.cut lo hi) k hp⟩)
  rcases r with r | ⟨a, rfl, o⟩
  · cases x with
    | str z =>
      simp only [Rep] at r
      subst r
      dsimp only [cutD] at h
      by_cases q : z.length ≤ 16777216
      · rw [if_pos q] at h
        cases h
        exact .inl ⟨z, rfl, by rw [sizeLine_eq]; exact q, k _ _ _ (Grow.refl s) (by simp only [Rep])⟩
      · rw [if_neg q] at h; cases h
    | lst xs =>
      simp only [Rep] at r
      obtain ⟨a, vs, rfl, e, l⟩ := r
      cases h
      exact lst (SqL.of (s _ _ e)) l rfl
    | ros xs =>
      simp only [Rep] at r
      obtain ⟨a, vs, rfl, e, l⟩ := r
      cases h
      exact lst (sqL_mono s e) l rfl
    | tup xs =>
      simp only [Rep] at r
      obtain ⟨a, vs, rfl, e, l⟩ := r
      cases h
      refine .inr (.inr ⟨a, vs, rfl, sqT_mono s e, fun hw => ?_, fun _ p hp => new_tup s (l.cut lo hi) k hp⟩)
      refine k _ _ _ (Grow.refl s) ?_
      simp only [Rep]
      refine ⟨a, vs, rfl, e, ?_⟩
      have e2 : cutL xs lo hi = xs := by
        have el := l.length
        unfold cutL
        rw [← el, hw.1, hw.2, el]
        simp
      rw [e2]
      exact l
    | _ => cases h
  · cases x with
    | lst xs =>
      obtain ⟨vs, e, l⟩ := o
      cases h
      exact lst (SqL.of e) l rfl
    | _ => first | exact o.elim | cases h
theorem tE_cut {Q : VK} (hc1 : (!el || ca) = true) (hc2 : (!eh || ca) = true) (h : tE g fx W true (ea || (el || eh)) (eCut ma ml mh) σ H Q) : tSl (rCut g.K) (tE g fx W ca ea ma) (tP g fx W el ml) (tP g fx W eh mh) σ H Q := by
  obtain ⟨F, ρ, S, h⟩ := h
  refine ⟨F, ρ, S, ?_⟩
  unfold eCut M.bind at h
  cases e1 : ma ρ with
  | bad => rw [e1] at h; exact h
  | exn c x r1 => rw [e1] at h; exact h
  | ok dx ρ1 =>
    rw [e1] at h
    intro v H1 F1 G1 S1 r1
    refine ⟨F1, ρ1, S1, ?_⟩
    dsimp only at h
    cases e2 : ml ρ1 with
    | bad => rw [e2] at h; exact h
    | exn c x r1 => rw [e2] at h; exact xst G1 h
    | ok lo ρ2 =>
      rw [e2] at h
      intro H2 F2 G2 S2
      refine ⟨F2, ρ2, S2, ?_⟩
      dsimp only at h
      cases e3 : mh ρ2 with
      | bad => rw [e3] at h; exact h
      | exn c x r1 => rw [e3] at h; exact xst (G1.trans G2) h
      | ok hi ρ3 =>
        rw [e3] at h
        intro H3 F3 G3 S3
        dsimp only [M.lift] at h
        cases e4 : cutD dx lo hi with
        | bad => rw [e4] at h; exact h.elim
        | ok d =>
          rw [e4] at h
          refine cut_ok S3.s ((r1.go G2 hc1).go G3 hc2).w e4 fun u H4 F4 G4 r4 => ?_
          exact h u H4 F4 (by
            have q := ((G1.trans G2).trans G3).trans (Go.of (eff := false) (ρ := ρ3) G4)
            rwa [Bool.or_false, Bool.or_assoc] at q) (S3.grow G4) r4
end
section
variable {X : Cx} {fx : Fx} {W : WX} {ca ea el eh : Bool} {a : Expr} {ma : M D} {m : M (List D)} {ml mh : M (Option Int)} {pos p2 : Pos} {es : List Expr} {lo hi : Option Expr}
theorem se_lst (h : SA X fx W true ea es m) : SE X fx W true ea (.List es pos) (eN mkLst m) := PE.imp (pe_lst h) fun σ H Q q => tE_lst q
theorem se_tup {x1 : Nat} (h : SA X fx W true ea es m) : SE X fx W true ea (.Tuple es x1 pos) (eN mkTup m) := PE.imp (pe_tup h) fun σ H Q q => tE_tup q
theorem se_dnew : SE X fx W true false (.Dict [] [] pos) (eC (.dic [])) := PE.imp (pe_plock pe_dnewK) fun σ H Q q => tE_dnew q
theorem sp_no : SP X fx W false none pNo := PO.imp po_none fun σ H Q q => tP_no q
theorem sp_at (h : SE X fx W ca ea a ma) : SP X fx W ea (some a) (pAt ma) := PO.imp (po_some h) fun σ H Q q => tP_at q
theorem se_cut (ha : SE X fx W ca ea a ma) (hl : SP X fx W el lo ml) (hh : SP X fx W eh hi mh) (hc1 : (!el || ca) = true := by rfl) (hc2 : (!eh || ca) = true := by rfl) :
    SE X fx W true (ea || (el || eh)) (.Subscript a (.Slice lo hi none p2) pos) (eCut ma ml mh) := PE.imp (pe_slice sl_cut ha hl hh) fun σ H Q q => tE_cut hc1 hc2 q
end
end DL

set_option Elab.async false
set_option linter.all false
set_option maxRecDepth 100000
set_option maxHeartbeats 4000000
namespace DL
open PySem PySem.Spec PyProof.Rows L2

/-! ### what is walked -/
/-- the walk J gives the data ds -/
structure ItRep (g : Gx) (J : It) (ds : List D) (F : Hp) : Prop where
  go : ∀ (i : Nat) H' F', Sub F F' → Sub F' H' → i < ds.length → J.go i H'
  yld : ∀ (i : Nat) H' F' x H'' d, Sub F F' → Sub F' H' → ds[i]? = some d → J.yld i H' x H'' → ∃ F'', Grow F' H' F'' H'' ∧ Rep g F'' d x
  stop : ∀ (i : Nat) H' F', Sub F F' → Sub F' H' → ds.length ≤ i → J.stop i H'
  len : ds.length ≤ 16777216
def tI (g : Gx) (fx : Fx) (W : WX) (eff : Bool) (m : M (List D)) : TI := fun σ H R => ∃ F ρ, ST g fx σ H F ρ ∧ match m ρ with
  | .ok ds ρ' => ∀ J H' F', Go eff σ F H ρ F' H' ρ' → ST g fx σ H' F' ρ' → ItRep g J ds F' → R J H'
  | .exn c x ρ' => ∀ cls dd H' F', Go true σ F H ρ F' H' ρ' → ST g fx σ H' F' ρ' → XR g F' c x cls dd → W cls dd σ H'
  | .bad => False
def SI (X : Cx) (fx : Fx) (W : WX) (eff : Bool) (tg e : Expr) (m : M (List D)) : Prop := PI X tg e (tI (gx X) fx W eff m)
theorem PI.imp {X : Cx} {tg e : Expr} {t u : TI} (h : PI X tg e t) (k : ∀ σ H R, u σ H R → t σ H R) : PI X tg e u := ⟨fun pins s σ H R I q => h.run pins s σ H R I (k σ H R q)⟩

/-- a key of a dict -/
def keyD : Key → D
  | .inl i => .int i
  | .inr x => .str x
def strItems (s : Str) : List D := s.cps.toList.map fun c => .str ⟨#[c]⟩
def items : D → R (List D)
  | .lst xs => .ok xs
  | .ros xs => .ok xs
  | .tup xs => .ok xs
  | .str s => if s.length ≤ 16777216 then .ok (strItems s) else .bad
  | .dic kvs => .ok (kvs.map fun p => keyD p.1)
  | _ => .bad
def iSeq (a : M D) : M (List D) := a.bind fun x => M.lift (items x)
section
variable {g : Gx} {F : Hp}
theorem itl_rep {a : Addr} {xs : List D} {vs : List V} (h : SqL g.K F a vs) (r : RepL g F xs vs) (hl : xs.length ≤ 16777216) (uniq : ∀ F', Sub F F' → ∀ ws, SqL g.K F' a ws → ws = vs) : ItRep g (Itl g.K a) xs F where
  go := fun i H' F' f s hi => by
    have q : SqL g.K H' a vs := sqL_mono (f.trans s) h
    obtain ⟨v, e, _⟩ := r.get (d := xs[i]) (List.getElem?_eq_getElem hi)
    exact ⟨vs, v, q, e⟩
  yld := fun i H' F' x H'' d f s e y => by
    obtain ⟨rfl, y⟩ := y
    obtain ⟨v, e1, r1⟩ := r.get e
    have e2 := y vs (sqL_mono (f.trans s) h)
    rw [e1] at e2
    cases e2
    exact ⟨F', Grow.refl s, r1.mono f⟩
  stop := fun i H' F' f s hi => ⟨vs, sqL_mono (f.trans s) h, by rw [r.length]; exact hi⟩
  len := hl
theorem itt_rep {a : Addr} {xs : List D} {vs : List V} (h : SqT g.K F a vs) (r : RepL g F xs vs) (hl : xs.length ≤ 16777216) : ItRep g (Itt g.K a) xs F where
  go := fun i H' F' f s hi => by
    have q : SqT g.K H' a vs := sqT_mono (f.trans s) h
    obtain ⟨v, e, _⟩ := r.get (d := xs[i]) (List.getElem?_eq_getElem hi)
    exact ⟨vs, v, q, e⟩
  yld := fun i H' F' x H'' d f s e y => by
    obtain ⟨rfl, y⟩ := y
    obtain ⟨v, e1, r1⟩ := r.get e
    have e2 := y vs (sqT_mono (f.trans s) h)
    rw [e1] at e2
    cases e2
    exact ⟨F', Grow.refl s, r1.mono f⟩
  stop := fun i H' F' f s hi => ⟨vs, sqT_mono (f.trans s) h, by rw [r.length]; exact hi⟩
  len := hl
theorem keyD_rep {k : Key} : Rep g F (keyD k) (kV k) := by
  cases k with
  | inl i => show Rep g F (.int i) (.int i); simp only [Rep]
  | inr x => show Rep g F (.str x) (.str x); simp only [Rep]
theorem RepK.get : ∀ {xs : List (Key × D)} {vs : List (Key × V)} {i : Nat} {k : Key} {d : D}, RepK g F xs vs → xs[i]? = some (k, d) → ∃ v, vs[i]? = some (k, v) ∧ Rep g F d v
  | [], vs, i, k, d, h, e => by simp at e
  | (k0, x) :: xs, vs, 0, k, d, h, e => by
    simp only [RepK] at h
    obtain ⟨v, r, rfl, h1, h2⟩ := h
    simp at e
    obtain ⟨rfl, rfl⟩ := e
    exact ⟨v, rfl, h1⟩
  | (k0, x) :: xs, vs, i + 1, k, d, h, e => by
    simp only [RepK] at h
    obtain ⟨v, r, rfl, h1, h2⟩ := h
    obtain ⟨w, e1, r1⟩ := RepK.get (i := i) (d := d) h2 (by simpa using e)
    exact ⟨w, by simpa using e1, r1⟩
theorem RepK.length : ∀ {xs : List (Key × D)} {vs : List (Key × V)}, RepK g F xs vs → vs.length = xs.length
  | [], vs, h => by simp only [RepK] at h; simp [h]
  | (k, x) :: xs, vs, h => by
    simp only [RepK] at h
    obtain ⟨v, r, rfl, _, h2⟩ := h
    simp [RepK.length h2]
theorem itk_rep {a : Addr} {o : Obj} {kvs : List (Key × D)} {vs : List (Key × V)} (h : F a = some (.frz o (.dK vs))) (r : RepK g F kvs vs) (hl : vs.length ≤ 16777216) : ItRep g (Itk a o vs) (kvs.map fun p => keyD p.1) F where
  go := fun i H' F' f s hi => ⟨s _ _ (f _ _ h), by rw [r.length]; simpa using hi⟩
  yld := fun i H' F' x H'' d f s e y => by
    obtain ⟨rfl, k, v, hk, rfl⟩ := y
    rw [List.getElem?_map] at e
    cases q : kvs[i]? with
    | none => rw [q] at e; cases e
    | some p =>
      rw [q] at e
      cases e
      obtain ⟨w, hw, _⟩ := r.get (k := p.1) (d := p.2) q
      rw [hk] at hw
      cases hw
      exact ⟨F', Grow.refl s, keyD_rep⟩
  stop := fun i H' F' f s hi => ⟨s _ _ (f _ _ h), by rw [r.length]; simpa using hi⟩
  len := by
    have := r.length
    simp
    omega
theorem its_rep {z : Str} (hl : z.length ≤ 16777216) : ItRep g (Its z) (strItems z) F where
  go := fun i H' F' f s hi => by
    have : i < z.cps.size := by simpa [strItems] using hi
    exact this
  yld := fun i H' F' x H'' d f s e y => by
    obtain ⟨rfl, c, e1, rfl⟩ := y
    refine ⟨F', Grow.refl s, ?_⟩
    have e2 : d = .str ⟨#[c]⟩ := by
      unfold strItems at e
      rw [List.getElem?_map] at e
      rw [Array.getElem?_toList, e1] at e
      exact (Option.some.inj e).symm
    subst e2
    simp only [Rep]
  stop := fun i H' F' f s hi => by
    have : z.cps.size ≤ i := by simpa [strItems] using hi
    exact this
  len := by
    have : z.cps.size ≤ 16777216 := hl
    simpa [strItems] using this
end

section
variable {X : Cx} {fx : Fx} {W : WX} {ea : Bool} {tg e : Expr} {m : M D}
/-- a list, a tuple, a text, whichever it is -/
theorem si_seq (he : SE X fx W true ea e m) : SI X fx W ea tg e (iSeq m) := by
  refine ⟨fun pins s σ H R I h => ?_⟩
  obtain ⟨F, ρ, S, h⟩ := h
  unfold iSeq M.bind at h
  refine thn (he.run pins s σ H (fun v H1 => ∃ F1 ρ1 d ds, m ρ = .ok d ρ1 ∧ items d = .ok ds ∧ Go ea σ F H ρ F1 H1 ρ1 ∧ ST (gx X) fx σ H1 F1 ρ1 ∧ Rep (gx X) F1 d v) I ⟨F, ρ, S, ?_⟩) fun u s1 ⟨v, H1, I1, rv, F1, ρ1, d, ds, e1, e2, G1, S1, r1⟩ => ?_
  · cases e1 : m ρ with
    | bad => rw [e1] at h; exact h
    | exn c x r1 => rw [e1] at h; exact h
    | ok d ρ1 =>
      rw [e1] at h
      intro v H1 F1 G1 S1 r1
      dsimp only [M.lift] at h
      cases e2 : items d with
      | bad => rw [e2] at h; exact h.elim
      | ok ds => exact ⟨F1, ρ1, d, ds, rfl, e2, G1, S1, r1⟩
  · rw [e1] at h
    dsimp only [M.lift] at h
    rw [e2] at h
    have fin : ∀ {J : It}, ItRep (gx X) J ds F1 → R J H1 := fun j => h _ H1 F1 G1 S1 j
    have lst : ∀ {a : Addr} {vs : List V}, v = .ref a → SqL X.K F1 a vs → RepL (gx X) F1 ds vs → wpAny (model X.prog X.w) X.A (pyIter u) (PIE X pins σ tg R) X.xe s1 := fun {a vs} ev hq l => by
      subst ev
      cases rv
      have hH := sqL_mono S1.s hq
      obtain ⟨its, rr, p, hz⟩ := I1.list hH
      refine wpAny_pyIter_list p.isList ?_
      refine ⟨s1.heap.objs.size, [s1.heap.objs.size], _, _, H1, rfl, I1.kept (t' := s1.toks) fun b o e => Heap.get?_push_of_some _ e, turn_list a _, ⟨_, Heap.get?_push_size _ rfl, rfl, rfl⟩, fun b hb => ?_, fin ?_⟩
      · have e : b = s1.heap.objs.size := by simpa using hb
        subst e
        exact I1.fpOk (Nat.le_refl _) (I1.hok.fresh (Nat.le_refl _))
      · refine ⟨fun i H' F' f s hi => ?_, fun i H' F' x H'' d f s e y => ?_, fun i H' F' f s hi => ⟨vs, sqL_mono (f.trans s) hq, by rw [l.length]; exact hi⟩, by rw [← l.length, ← sizeLine_eq]; exact hz⟩
        · obtain ⟨v, e, _⟩ := l.get (d := ds[i]) (List.getElem?_eq_getElem hi)
          exact ⟨vs, v, sqL_mono (f.trans s) hq, e⟩
        · obtain ⟨rfl, y⟩ := y
          obtain ⟨v, e1, r1⟩ := l.get e
          have e2 := y vs (sqL_mono (f.trans s) hq)
          rw [e1] at e2
          cases e2
          exact ⟨F', Grow.refl s, r1.mono f⟩
    cases d with
    | lst xs =>
      simp only [Rep] at r1
      obtain ⟨a, vs, ev, ea, l⟩ := r1
      cases e2
      exact lst ev (SqL.of ea) l
    | ros xs =>
      simp only [Rep] at r1
      obtain ⟨a, vs, ev, ea, l⟩ := r1
      cases e2
      exact lst ev ea l
    | tup xs =>
      simp only [Rep] at r1
      obtain ⟨a, vs, rfl, hq, l⟩ := r1
      cases e2
      cases rv
      have hH := sqT_mono S1.s hq
      obtain ⟨its, rr, p, hz⟩ := I1.tuple hH
      refine wpAny_pyIter_tuple (show s1.heap.IsTuple a its.toArray from p) ?_
      refine ⟨s1.heap.objs.size, [s1.heap.objs.size], _, _, H1, rfl, I1.kept (t' := s1.toks) fun b o e => Heap.get?_push_of_some _ e, turn_tuple a _, ⟨_, Heap.get?_push_size _ rfl, rfl, rfl⟩, fun b hb => ?_, fin (itt_rep hq l (by rw [← l.length, ← sizeLine_eq]; exact hz))⟩
      have e : b = s1.heap.objs.size := by simpa using hb
      subst e
      exact I1.fpOk (Nat.le_refl _) (I1.hok.fresh (Nat.le_refl _))
    | str z =>
      simp only [Rep] at r1
      subst r1
      dsimp only [items] at e2
      by_cases q : z.length ≤ 16777216
      · rw [if_pos q] at e2
        cases e2
        obtain ⟨t, rfl⟩ := rv
        cases ha : z.cps.all (· < 128)
        · exact wpAny_pyIter_wide ha (pi_one (tk := s1.toks) I1 _ (turn_str _ z t "str_iterator" (.inr rfl)) ⟨_, Heap.get?_push_size _ rfl, rfl, rfl⟩ (fin (its_rep q)))
        · exact wpAny_pyIter_ascii ha (pi_one (tk := s1.toks) I1 _ (turn_str _ z t "str_ascii_iterator" (.inl rfl)) ⟨_, Heap.get?_push_size _ rfl, rfl, rfl⟩ (fin (its_rep q)))
      · rw [if_neg q] at e2; cases e2
    | dic kvs =>
      simp only [Rep] at r1
      obtain ⟨a, vs, rfl, ⟨o, ha⟩, l⟩ := r1
      cases e2
      cases rv
      have hH := S1.s _ _ ha
      obtain ⟨hs, hgd, hx, es, ep, ws, hdt, hsz, kv, hm⟩ := I1.frzK hH
      have hz := (dk_rd I1.hok (.inr ⟨o, hH⟩)).1
      refine iter_keys hs hgd hx hdt (pi_one (tk := s1.toks) I1 _ (turn_keys _ hdt) ⟨_, Heap.get?_push_size _ rfl, rfl, ?_⟩ (fin (itk_rep ha l (by rw [← sizeLine_eq]; exact hz))))
      rw [hsz] <;> rfl
    | _ => cases e2
end

/-- lo, lo + 1, .. -/
def upFrom (lo : Int) (n : Nat) : List D := (List.range n).map fun i => .int (lo + (i : Nat))
def toRange : List D → R (List D)
  | [.int j] => if j ≤ 16777216 ∧ -(2 ^ 62) ≤ j then .ok (upFrom 0 j.toNat) else .bad
  | [.int i, .int j] => if (j - i ≤ 16777216 ∧ -(2 ^ 62) ≤ i ∧ i < 2 ^ 62) ∧ -(2 ^ 62) ≤ j ∧ j < 2 ^ 62 then .ok (upFrom i (j - i).toNat) else .bad
  | _ => .bad
def iRange (a : M (List D)) : M (List D) := a.bind fun xs => M.lift (toRange xs)
theorem itr_rep {g : Gx} {F : Hp} {lo : Int} {n : Nat} (h : n ≤ 16777216) : ItRep g (Itr lo n) (upFrom lo n) F where
  go := fun i H' F' f s hi => by
    have : i < n := by simpa [upFrom] using hi
    exact this
  yld := fun i H' F' x H'' d f s e y => by
    obtain ⟨rfl, rfl⟩ := y
    refine ⟨F', Grow.refl s, ?_⟩
    unfold upFrom at e
    rw [List.getElem?_map] at e
    cases q : (List.range n)[i]? with
    | none => rw [q] at e; cases e
    | some k =>
      rw [q] at e
      have hk : k = i := by
        have z := List.getElem?_eq_some_iff.mp q
        obtain ⟨h1, h2⟩ := z
        rw [List.getElem_range] at h2
        exact h2.symm
      subst hk
      cases e
      simp only [Rep]
  stop := fun i H' F' f s hi => by
    have : n ≤ i := by simpa [upFrom] using hi
    exact this
  len := by simpa [upFrom] using h
section
variable {X : Cx} {fx : Fx} {W : WX} {ca ea : Bool} {tg e a b : Expr} {m : M (List D)} {p pos : Pos}
theorem vr_int {cl : Bool} {g : Gx} {F H : Hp} {i : Int} {v : V} (h : VR cl g F H (.int i) v) : v = .int i := by
  rcases h.w with q | ⟨a, _, o⟩
  · simpa only [Rep] using q
  · exact o.elim
theorem tI_range1 {g : Gx} {σ : L2.St} {H : Hp} {R : It → Hp → Prop} (h1 : ∀ ρ ds ρ', m ρ = .ok ds ρ' → ds.length = 1) (h : tI g fx W ea (iRange m) σ H R) : iRng1 (tA g fx W ca ea m) σ H R := by
  obtain ⟨F, ρ, S, h⟩ := h
  refine ⟨F, ρ, S, ?_⟩
  unfold iRange M.bind at h
  cases e1 : m ρ with
  | bad => rw [e1] at h; exact h
  | exn c x r1 => rw [e1] at h; exact h
  | ok ds ρ1 =>
    rw [e1] at h
    intro vs H1 F1 G1 S1 r1
    have hl := h1 _ _ _ e1
    match ds, hl with
    | [d], _ =>
      obtain ⟨v, r, rfl, r1, rfl⟩ := r1
      cases d with
      | int j =>
        dsimp only [M.lift, toRange] at h
        by_cases q : j ≤ 16777216 ∧ -(2 ^ 62) ≤ j
        · rw [if_pos q] at h
          rw [vr_int r1]
          exact ⟨j, rfl, q.2, by omega, h _ H1 F1 G1 S1 (itr_rep (by omega))⟩
        · rw [if_neg q] at h; exact h.elim
      | _ => exact h.elim
theorem tI_range2 {g : Gx} {σ : L2.St} {H : Hp} {R : It → Hp → Prop} (h1 : ∀ ρ ds ρ', m ρ = .ok ds ρ' → ds.length = 2) (h : tI g fx W ea (iRange m) σ H R) : iRng2 (tA g fx W ca ea m) σ H R := by
  obtain ⟨F, ρ, S, h⟩ := h
  refine ⟨F, ρ, S, ?_⟩
  unfold iRange M.bind at h
  cases e1 : m ρ with
  | bad => rw [e1] at h; exact h
  | exn c x r1 => rw [e1] at h; exact h
  | ok ds ρ1 =>
    rw [e1] at h
    intro vs H1 F1 G1 S1 r1
    have hl := h1 _ _ _ e1
    match ds, hl with
    | [d, d2], _ =>
      obtain ⟨v, r, rfl, r1, v2, r', rfl, r2, rfl⟩ := r1
      cases d with
      | int i =>
        cases d2 with
        | int j =>
          dsimp only [M.lift, toRange] at h
          by_cases q : (j - i ≤ 16777216 ∧ -(2 ^ 62) ≤ i ∧ i < 2 ^ 62) ∧ -(2 ^ 62) ≤ j ∧ j < 2 ^ 62
          · rw [if_pos q] at h
            rw [vr_int r1, vr_int r2]
            exact ⟨i, j, rfl, ⟨q.1.2.1, q.1.2.2, q.2.1, q.2.2⟩, h _ H1 F1 G1 S1 (itr_rep (by omega))⟩
          · rw [if_neg q] at h; exact h.elim
        | _ => exact h.elim
      | _ => exact h.elim
theorem aCons_len {ma : M D} {n : Nat} (h : ∀ ρ ds ρ', m ρ = .ok ds ρ' → ds.length = n) : ∀ ρ ds ρ', aCons ma m ρ = .ok ds ρ' → ds.length = n + 1 := by
  intro ρ ds ρ' e
  unfold aCons M.bind at e
  cases e1 : ma ρ with
  | bad => rw [e1] at e; cases e
  | exn c x r1 => rw [e1] at e; cases e
  | ok d ρ1 =>
    rw [e1] at e
    dsimp only at e
    cases e2 : m ρ1 with
    | bad => rw [e2] at e; cases e
    | exn c x r1 => rw [e2] at e; cases e
    | ok xs ρ2 =>
      rw [e2] at e
      dsimp only [M.pure] at e
      cases e
      rw [List.length_cons, h _ _ _ e2]
theorem aNil_len : ∀ ρ ds ρ', aNil ρ = .ok ds ρ' → ds.length = 0 := by
  intro ρ ds ρ' e
  unfold aNil M.pure at e
  cases e
  rfl
theorem si_range1 {ma : M D} (ha : SE X fx W ca ea a ma) (hm : X.mg "range" = none) (hg : Gl X "range" := by rfl) (hs : starEach [a] X.env = [(false, eval a X.env)] := by rfl) : SI X fx W ea tg (.Call (.Name "range" p) [a] [] pos) (iRange (aCons ma aNil)) := by
  have h := sa_cons ha sa_nil (hs := by rw [hs] <;> rfl) (hc := by rfl)
  rw [Bool.or_false] at h
  exact PI.imp (pi_range1 hg hm h hs) fun σ H R q => tI_range1 (aCons_len aNil_len) q
theorem si_range2 {eb cb : Bool} {ma mb : M D} (ha : SE X fx W ca ea a ma) (hb : SE X fx W cb eb b mb) (hm : X.mg "range" = none) (hc : (!eb || ca) = true := by rfl) (hg : Gl X "range" := by rfl) (hs : starEach [a, b] X.env = [(false, eval a X.env), (false, eval b X.env)] := by rfl) (hs2 : starEach [b] X.env = [(false, eval b X.env)] := by rfl) :
    SI X fx W (ea || eb) tg (.Call (.Name "range" p) [a, b] [] pos) (iRange (aCons ma (aCons mb aNil))) := by
  have h2 := sa_cons hb sa_nil (hs := by rw [hs2] <;> rfl) (hc := by rfl)
  rw [Bool.or_false] at h2
  have h := sa_cons ha h2 (hs := by rw [hs, hs2] <;> rfl) (hc := hc)
  exact PI.imp (pi_range2 hg hm h hs hs2) fun σ H R q => tI_range2 (aCons_len (aCons_len aNil_len)) q
end

/-! ### targets -/
def tgName (i : Nat) (d : D) (ρ : Rho) : R Rho := .ok (ρ.set i (.cl d))
def tgAll : List Nat → List D → Rho → R Rho
  | [], [], ρ => .ok ρ
  | i :: is, d :: ds, ρ => tgAll is ds (ρ.set i (.cl d))
  | _, _, _ => .bad
def tgTup (is : List Nat) (d : D) (ρ : Rho) : R Rho := match d with
  | .tup ds => tgAll is ds ρ
  | _ => .bad
/-- the slots is alone are changed -/
def Touch {α : Type} (is : List Nat) (σ σ' : List α) : Prop := σ'.length = σ.length ∧ ∀ (j : Nat), j ∉ is → σ'[j]? = σ[j]?
theorem Touch.trans {α : Type} {is js : List Nat} {σ σ1 σ2 : List α} (a : Touch is σ σ1) (b : Touch js σ1 σ2) : Touch (is ++ js) σ σ2 :=
  ⟨b.1.trans a.1, fun j h => (b.2 j fun q => h (List.mem_append_right _ q)).trans (a.2 j fun q => h (List.mem_append_left _ q))⟩
theorem Touch.set {α : Type} {i : Nat} {σ : List α} {x : α} : Touch [i] σ (σ.set i x) := ⟨List.length_set, fun j h => List.getElem?_set_ne fun e => h (by simp [e])⟩
/-- no own slot comes of it -/
def NoOw (ρ ρ' : Rho) : Prop := ∀ (i : Nat) d, ρ'[i]? = some (.ow d) → ρ[i]? = some (.ow d)
def tG (g : Gx) (fx : Fx) (is : List Nat) (t : D → Rho → R Rho) : TG := fun v σ H Q => ∃ F ρ d, ST g fx σ H F ρ ∧ Rep g F d v ∧ match t d ρ with
  | .ok ρ' => ∀ σ', ST g fx σ' H F ρ' → Touch is σ σ' → NoOw ρ ρ' → Touch is ρ ρ' → Q σ' H
  | .bad => False
def SG (X : Cx) (fx : Fx) (is : List Nat) (tg : Expr) (t : D → Rho → R Rho) : Prop := PG X tg (tG (gx X) fx is t)
theorem PG.imp {X : Cx} {tg : Expr} {t u : TG} (h : PG X tg t) (k : ∀ v σ H Q, u v σ H Q → t v σ H Q) : PG X tg u := ⟨fun pins s σ H v u Q I r q => h.run pins s σ H v u Q I r (k v σ H Q q)⟩
section
variable {g : Gx} {fx : Fx} {σ : L2.St} {H F : Hp} {ρ : Rho}
theorem set_get {α : Type} {l : List α} {i j : Nat} {x y : α} (h : (l.set i x)[j]? = some y) : (i = j ∧ x = y) ∨ (i ≠ j ∧ l[j]? = some y) := by
  by_cases e : i = j
  · subst e
    by_cases hl : i < l.length
    · rw [List.getElem?_set_self hl] at h
      exact .inl ⟨rfl, Option.some.inj h⟩
    · rw [List.getElem?_eq_none (by rw [List.length_set]; omega)] at h; cases h
  · rw [List.getElem?_set_ne e] at h
    exact .inr ⟨e, h⟩
/-- a clean value is stored -/
theorem ST.set (S : ST g fx σ H F ρ) {i : Nat} {d : D} {v : V} (hi : fx.ow.contains i = false) (r : Rep g F d v) : ST g fx (σ.set i (some v)) H F (ρ.set i (.cl d)) where
  s := S.s
  ge := S.ge
  nw := S.nw
  old := S.old
  len := by rw [List.length_set, List.length_set]; exact S.len
  cl := fun j e h => by
    rcases set_get h with ⟨rfl, q⟩ | ⟨ne, q⟩
    · cases q
      have hl : i < σ.length := by
        rw [S.len]
        have := (List.getElem?_eq_some_iff.mp h).1
        simpa using this
      exact ⟨v, by rw [List.getElem?_set_self hl], r⟩
    · obtain ⟨w, e1, r1⟩ := S.cl j e q
      exact ⟨w, by rw [List.getElem?_set_ne ne]; exact e1, r1⟩
  ow := fun j e h => by
    rcases set_get h with ⟨rfl, q⟩ | ⟨ne, q⟩
    · cases q
    · obtain ⟨a, e1, r1⟩ := S.ow j e q
      exact ⟨a, by rw [List.getElem?_set_ne ne]; exact e1, r1⟩
  inj := fun j k d e a h1 h2 h3 h4 => by
    rcases set_get h1 with ⟨_, q⟩ | ⟨n1, q1⟩
    · cases q
    · rcases set_get h2 with ⟨_, q⟩ | ⟨n2, q2⟩
      · cases q
      · rw [List.getElem?_set_ne n1] at h3
        rw [List.getElem?_set_ne n2] at h4
        exact S.inj j k d e a q1 q2 h3 h4
  par := fun j a h => by
    have hj := S.pin j a h
    have ne : i ≠ j := fun e => by
      subst e
      have : fx.ow.contains i = true := by simpa using hj
      rw [hi] at this; cases this
    obtain ⟨⟨d, e⟩, e2⟩ := S.par j a h
    exact ⟨⟨d, by rw [List.getElem?_set_ne ne]; exact e⟩, by rw [List.getElem?_set_ne ne]; exact e2⟩
  pin := S.pin
theorem NoOw.set {ρ : Rho} {i : Nat} {d : D} : NoOw ρ (ρ.set i (.cl d)) := fun j e h => by
  rcases set_get h with ⟨_, q⟩ | ⟨_, q⟩
  · cases q
  · exact q
theorem NoOw.trans {ρ ρ1 ρ2 : Rho} (a : NoOw ρ ρ1) (b : NoOw ρ1 ρ2) : NoOw ρ ρ2 := fun i d h => a i d (b i d h)
theorem tG_name {i : Nat} {v : V} {Q : L2.St → Hp → Prop} (hi : fx.ow.contains i = false) (h : tG g fx [i] (tgName i) v σ H Q) : gName i v σ H Q := by
  obtain ⟨F, ρ, d, S, r, h⟩ := h
  exact h _ (S.set hi r) Touch.set NoOw.set Touch.set
/-- several names -/
def tGs (g : Gx) (fx : Fx) (is : List Nat) : TGs := fun vs σ H Q => ∃ F ρ ds, ST g fx σ H F ρ ∧ RepL g F ds vs ∧ match tgAll is ds ρ with
  | .ok ρ' => ∀ σ', ST g fx σ' H F ρ' → Touch is σ σ' → NoOw ρ ρ' → Touch is ρ ρ' → Q σ' H
  | .bad => False
theorem tGs_nil {vs : List V} {Q : L2.St → Hp → Prop} (h : tGs g fx [] vs σ H Q) : gNil vs σ H Q := by
  obtain ⟨F, ρ, ds, S, r, h⟩ := h
  cases ds with
  | nil =>
    simp only [RepL] at r
    exact ⟨r, h σ S ⟨rfl, fun _ _ => rfl⟩ (fun _ _ h => h) ⟨rfl, fun _ _ => rfl⟩⟩
  | cons d ds => exact h.elim
theorem tGs_cons {i : Nat} {is : List Nat} {vs : List V} {Q : L2.St → Hp → Prop} (hi : fx.ow.contains i = false) (h : tGs g fx (i :: is) vs σ H Q) : gCons (gName i) (tGs g fx is) vs σ H Q := by
  obtain ⟨F, ρ, ds, S, r, h⟩ := h
  cases ds with
  | nil => exact h.elim
  | cons d ds =>
    simp only [RepL] at r
    obtain ⟨v, w, rfl, r1, r2⟩ := r
    refine ⟨v, w, rfl, F, _, ds, S.set hi r1, r2, ?_⟩
    dsimp only [tgAll] at h
    cases q : tgAll is ds (ρ.set i (.cl d)) with
    | bad => rw [q] at h; exact h
    | ok ρ' =>
      rw [q] at h
      exact fun σ' S' t n u => h σ' S' (Touch.trans Touch.set t) (NoOw.set.trans n) (Touch.trans Touch.set u)
theorem tgAll_len : ∀ {is : List Nat} {ds : List D} {ρ ρ' : Rho}, tgAll is ds ρ = .ok ρ' → ds.length = is.length
  | [], [], _, _, _ => rfl
  | [], _ :: _, _, _, h => by cases h
  | _ :: _, [], _, _, h => by cases h
  | i :: is, d :: ds, ρ, ρ', h => by
    have := tgAll_len (is := is) (ds := ds) (ρ := ρ.set i (.cl d)) h
    simp [this]
theorem tG_tup {is : List Nat} {n : Nat} {v : V} {Q : L2.St → Hp → Prop} (hn : n = is.length) (h : tG g fx is (tgTup is) v σ H Q) : gTup g.K n (tGs g fx is) v σ H Q := by
  obtain ⟨F, ρ, d, S, r, h⟩ := h
  cases d with
  | tup ds =>
    simp only [Rep] at r
    obtain ⟨a, vs, rfl, e, l⟩ := r
    refine ⟨a, vs, rfl, sqT_mono S.s e, ?_, F, ρ, ds, S, l, h⟩
    dsimp only [tgTup] at h
    cases q : tgAll is ds ρ with
    | bad => rw [q] at h; exact h.elim
    | ok ρ' => rw [l.length, tgAll_len q, hn]
  | _ => exact h.elim
end
section
variable {X : Cx} {fx : Fx} {pos : Pos}
theorem sg_name (i : Nat) {x : Str} (hN : X.N.Nodup) (hi : X.N[i]? = some x := by rfl) (ho : fx.ow.contains i = false := by rfl) (hx : Loc X.env.scope x := by first | exact .inl rfl | exact .inr rfl) (hf : X.fn x = true ∨ X.env.scope.names.lookup x = some .local := by first | exact .inl rfl | exact .inr rfl) :
    SG X fx [i] (.Name x pos) (tgName i) := PG.imp (pg_name hN hi hx hf) fun v σ H Q h => tG_name ho h
def SGs (X : Cx) (fx : Fx) (es : List Expr) (is : List Nat) : Prop := PGs X es (tGs (gx X) fx is)
theorem PGs.imp {X : Cx} {es : List Expr} {t u : TGs} (h : PGs X es t) (k : ∀ v σ H Q, u v σ H Q → t v σ H Q) : PGs X es u := ⟨fun pins s σ H v u Q I r q => h.run pins s σ H v u Q I r (k v σ H Q q)⟩
theorem sgs_nil : SGs X fx [] [] := PGs.imp pgs_nil fun v σ H Q h => tGs_nil h
theorem sgs_cons (i : Nat) {is : List Nat} {x : Str} {es : List Expr} (hN : X.N.Nodup) (hr : SGs X fx es is) (hi : X.N[i]? = some x := by rfl) (ho : fx.ow.contains i = false := by rfl) (hx : Loc X.env.scope x := by first | exact .inl rfl | exact .inr rfl) (hf : X.fn x = true ∨ X.env.scope.names.lookup x = some .local := by first | exact .inl rfl | exact .inr rfl)
    (ha : (assignEach (.Name x pos :: es) X.env).map (·.2) = assign (.Name x pos) X.env :: (assignEach es X.env).map (·.2) := by rfl) :
    SGs X fx (.Name x pos :: es) (i :: is) := PGs.imp (pgs_cons (pg_name hN hi hx hf) hr) fun v σ H Q h => tGs_cons ho h
theorem sg_tup {es : List Expr} {k : Nat} {is : List Nat} (hc : X.calm = true) (hr : SGs X fx es is) (hn : (assignEach es X.env).length = is.length := by rfl) (hst : (assignEach es X.env).findIdx? (·.1) = none := by rfl) : SG X fx is (.Tuple es k pos) (tgTup is) := PG.imp (pg_tup hc hr hn hst) fun v σ H Q h => tG_tup rfl h
end
end DL

set_option Elab.async false
set_option linter.all false
set_option maxRecDepth 100000
set_option maxHeartbeats 4000000
namespace DL
open PySem PySem.Spec PyProof.Rows L2

/-! ### comprehensions -/
def over {α : Type} (f : Nat → α) : List Nat → List α → List α
  | [], l => l
  | v :: vs, l => (over f vs l).set v (f v)
theorem over_len {α : Type} {f : Nat → α} : ∀ (vs : List Nat) (l : List α), (over f vs l).length = l.length
  | [], l => rfl
  | v :: vs, l => by unfold over; rw [List.length_set, over_len vs l]
theorem over_get {α : Type} {f : Nat → α} {j : Nat} : ∀ (vs : List Nat) (l : List α), (over f vs l)[j]? = if j ∈ vs then (l[j]?.map fun _ => f j) else l[j]?
  | [], l => by simp [over]
  | v :: vs, l => by
    unfold over
    by_cases e : v = j
    · subst e
      rw [if_pos (by simp)]
      by_cases hl : v < l.length
      · rw [List.getElem?_set_self (by rw [over_len]; exact hl), List.getElem?_eq_getElem hl]
        rfl
      · rw [List.getElem?_eq_none (by rw [List.length_set, over_len]; omega), List.getElem?_eq_none (by omega)]
        rfl
    · rw [List.getElem?_set_ne e, over_get vs l]
      by_cases h : j ∈ vs
      · rw [if_pos h, if_pos (by simp [h])]
      · rw [if_neg h, if_neg (by simp [h]; exact fun q => e q.symm)]
theorem wipe_over (σ : L2.St) : ∀ vs, wipe σ vs = over (fun _ => none) vs σ
  | [] => rfl
  | v :: vs => by
    show (wipe σ vs).set v none = (over _ vs σ).set v none
    rw [wipe_over σ vs]
abbrev wipeR (ρ : Rho) (vs : List Nat) : Rho := over (fun _ => .no) vs ρ
abbrev backR (ρ0 ρ : Rho) (vs : List Nat) : Rho := over (fun j => ρ0.getD j .no) vs ρ
theorem back_wipe {ρ : Rho} {vs : List Nat} : backR ρ (wipeR ρ vs) vs = ρ := by
  refine List.ext_getElem? fun j => ?_
  rw [over_get, over_get]
  by_cases h : j ∈ vs
  · rw [if_pos h, if_pos h]
    cases e : ρ[j]? with
    | none => rfl
    | some x =>
      show some (ρ.getD j .no) = some x
      rw [List.getD_eq_getElem?_getD, e]
      rfl
  · rw [if_neg h, if_neg h]

/-- the turns of a comprehension -/
def lcLoop (vs : List Nat) (t : D → Rho → R Rho) (c : M Bool) (e : M D) : List D → M (List D)
  | [], ρ => .ok [] ρ
  | d :: ds, ρ => match t d ρ with
    | .bad => .bad
    | .ok ρ1 => match c ρ1 with
      | .ok true ρ2 => match e ρ2 with
        | .ok x ρ3 => match lcLoop vs t c e ds (wipeR ρ3 vs) with
          | .ok xs ρ4 => .ok (x :: xs) ρ4
          | _ => .bad
        | _ => .bad
      | .ok false ρ2 => lcLoop vs t c e ds (wipeR ρ2 vs)
      | _ => .bad
def eLC (vs : List Nat) (t : D → Rho → R Rho) (c : M Bool) (e : M D) (it : M (List D)) : M D := it.bind fun ds ρ => match lcLoop vs t c e ds (wipeR ρ vs) with
  | .ok xs ρ' => .ok (.lst xs) (backR ρ ρ' vs)
  | _ => .bad
/-- no exception leaves -/
abbrev W0 : WX := fun _ _ _ _ => False

section
variable {g : Gx} {fx : Fx} {σ : L2.St} {H F H' F' : Hp} {ρ ρ' : Rho} {vs : List Nat}
/-- some slots are let go -/
theorem ST.wipe (S : ST g fx σ H F ρ) (hv : vs.all (fun j => !fx.ow.contains j) = true) : ST g fx (L2.wipe σ vs) H F (wipeR ρ vs) := by
  have nv : ∀ i, i ∈ fx.ow → i ∉ vs := fun i h q => by
    have := List.all_eq_true.mp hv i q
    have h2 : fx.ow.contains i = true := by simpa using h
    rw [h2] at this
    cases this
  have gr : ∀ {i : Nat} {x : Sl}, (wipeR ρ vs)[i]? = some x → x ≠ .no → i ∉ vs ∧ ρ[i]? = some x := fun {i x} h ne => by
    rw [over_get] at h
    by_cases q : i ∈ vs
    · rw [if_pos q] at h
      cases e : ρ[i]? with
      | none => rw [e] at h; cases h
      | some y => rw [e] at h; cases h; exact absurd rfl ne
    · rw [if_neg q] at h
      exact ⟨q, h⟩
  have gs : ∀ {i : Nat}, i ∉ vs → (L2.wipe σ vs)[i]? = σ[i]? := fun {i} h => by rw [wipe_over, over_get, if_neg h]
  refine ⟨S.s, S.ge, S.nw, S.old, by rw [wipe_over, over_len, over_len]; exact S.len, fun i d h => ?_, fun i d h => ?_, fun i j d e a h1 h2 h3 h4 => ?_, fun i a h => ?_, S.pin⟩
  · obtain ⟨n, e⟩ := gr h (by intro z; cases z)
    rw [gs n]
    exact S.cl i d e
  · obtain ⟨n, e⟩ := gr h (by intro z; cases z)
    rw [gs n]
    exact S.ow i d e
  · obtain ⟨n1, e1⟩ := gr h1 (by intro z; cases z)
    obtain ⟨n2, e2⟩ := gr h2 (by intro z; cases z)
    rw [gs n1] at h3
    rw [gs n2] at h4
    exact S.inj i j d e a e1 e2 h3 h4
  · have n := nv i (S.pin i a h)
    obtain ⟨⟨d, e⟩, e2⟩ := S.par i a h
    exact ⟨⟨d, by rw [over_get, if_neg n]; exact e⟩, by rw [gs n]; exact e2⟩
/-- back from the block: its names' slots as they were -/
theorem ST.back {eff : Bool} (S : ST g fx σ H F ρ) (S' : ST g fx (L2.wipe σ vs) H' F' ρ') (G : Go eff (L2.wipe σ vs) F H (wipeR ρ vs) F' H' ρ') (hv : vs.all (fun j => !fx.ow.contains j) = true) : ST g fx σ H' F' (backR ρ ρ' vs) := by
  have gs : ∀ {i : Nat}, i ∉ vs → (L2.wipe σ vs)[i]? = σ[i]? := fun {i} h => by rw [wipe_over, over_get, if_neg h]
  have hl : ρ'.length = ρ.length := by rw [← S'.len, ← S.len, wipe_over, over_len]
  have gr : ∀ {i : Nat} {x : Sl}, (backR ρ ρ' vs)[i]? = some x → (i ∈ vs ∧ ρ[i]? = some x) ∨ (i ∉ vs ∧ ρ'[i]? = some x) := fun {i x} h => by
    rw [over_get] at h
    by_cases q : i ∈ vs
    · rw [if_pos q] at h
      left
      refine ⟨q, ?_⟩
      cases e : ρ'[i]? with
      | none => rw [e] at h; cases h
      | some y =>
        rw [e] at h
        have hi : i < ρ.length := by rw [← hl]; exact (List.getElem?_eq_some_iff.mp e).1
        have e2 : ρ.getD i .no = x := Option.some.inj h
        rw [List.getD_eq_getElem?_getD, List.getElem?_eq_getElem hi] at e2
        rw [List.getElem?_eq_getElem hi]
        exact congrArg some e2
    · rw [if_neg q] at h
      exact .inr ⟨q, h⟩
  -- an own slot that was let go keeps its object
  have kept : ∀ {i : Nat} {d : D} {a : Addr}, i ∈ vs → ρ[i]? = some (.ow d) → σ[i]? = some (some (.ref a)) → (∃ o, H a = some o) → H' a = H a := fun {i d a} q e es ⟨o, ho⟩ => by
    rw [ho]
    refine G.k a o ho fun j e' hj hs => ?_
    rw [over_get] at hj
    by_cases qj : j ∈ vs
    · rw [if_pos qj] at hj
      cases z : ρ[j]? with
      | none => rw [z] at hj; cases hj
      | some y => rw [z] at hj; cases hj
    · rw [if_neg qj] at hj
      rw [gs qj] at hs
      have := S.inj i j d e' a e hj es hs
      exact qj (this ▸ q)
  have nof : ∀ {i : Nat} {d : D} {a : Addr} {o : HO}, i ∈ vs → ρ[i]? = some (.ow d) → σ[i]? = some (some (.ref a)) → F a = none → H a = some o → F' a = none := fun {i d a o} q e es h1 h2 => by
    cases z : F' a with
    | none => rfl
    | some y =>
      rcases G.n a y z with q | q | ⟨j, e', hj, hs⟩
      · rw [h1] at q; cases q
      · rw [h2] at q; cases q
      · rw [over_get] at hj
        by_cases qj : j ∈ vs
        · rw [if_pos qj] at hj
          cases z : ρ[j]? with
          | none => rw [z] at hj; cases hj
          | some y => rw [z] at hj; cases hj
        · rw [if_neg qj] at hj
          rw [gs qj] at hs
          exact absurd q (S.inj i j d e' a e hj es hs ▸ qj)
  refine ⟨S'.s, S'.ge, S'.nw, S'.old, by rw [over_len, hl]; exact S.len, fun i d h => ?_, fun i d h => ?_, fun i j d e a h1 h2 h3 h4 => ?_, fun i a h => ?_, S.pin⟩
  · rcases gr h with ⟨q, e⟩ | ⟨q, e⟩
    · obtain ⟨v, e1, r⟩ := S.cl i d e
      exact ⟨v, e1, r.mono G.f⟩
    · rw [← gs q]
      exact S'.cl i d e
  · rcases gr h with ⟨q, e⟩ | ⟨q, e⟩
    · obtain ⟨a, e1, fa, o, n⟩ := S.ow i d e
      obtain ⟨u, hu⟩ := o.there
      exact ⟨a, e1, nof q e e1 fa hu, o.move G.f (kept q e e1 ⟨u, hu⟩), n⟩
    · rw [← gs q]
      exact S'.ow i d e
  · rcases gr h1 with ⟨q1, e1⟩ | ⟨q1, e1⟩
    · rcases gr h2 with ⟨q2, e2⟩ | ⟨q2, e2⟩
      · exact S.inj i j d e a e1 e2 h3 h4
      · -- j stands in both
        obtain ⟨e', hj⟩ := G.o j e e2
        rw [over_get, if_neg q2] at hj
        exact S.inj i j d e' a e1 hj h3 h4
    · rcases gr h2 with ⟨q2, e2⟩ | ⟨q2, e2⟩
      · obtain ⟨e', hi⟩ := G.o i d e1
        rw [over_get, if_neg q1] at hi
        exact S.inj i j e' e a hi e2 h3 h4
      · rw [← gs q1] at h3
        rw [← gs q2] at h4
        exact S'.inj i j d e a e1 e2 h3 h4
  · have n : i ∉ vs := fun q => by
      have := List.all_eq_true.mp hv i q
      have h2 : fx.ow.contains i = true := by simpa using S.pin i a h
      rw [h2] at this
      cases this
    obtain ⟨⟨d, e⟩, e2⟩ := S'.par i a h
    exact ⟨⟨d, by rw [over_get, if_neg n]; exact e⟩, by rw [← gs n]; exact e2⟩
/-- an object that is nobody's is written -/
theorem ST.side {D : Addr} {o : HO} (S : ST g fx σ H F ρ) (hF : F D = none) (h0 : fx.H0 D = none) (hn : ∀ (i : Nat) d, ρ[i]? = some (.ow d) → σ[i]? ≠ some (some (.ref D))) : ST g fx σ (upd H D o) F ρ where
  s := fun a u h => by
    rw [upd_ne (ne_of_none h hF)]
    exact S.s a u h
  ge := S.ge
  nw := S.nw
  old := fun a u h k => by
    rw [upd_ne (ne_of_none h h0)]
    exact S.old a u h k
  len := S.len
  cl := S.cl
  ow := fun i d h => by
    obtain ⟨a, e, fa, ow, n⟩ := S.ow i d h
    refine ⟨a, e, fa, ow.move (Sub.refl _) (upd_ne fun z => ?_), n⟩
    subst z
    exact hn i d h e
  inj := S.inj
  par := S.par
  pin := S.pin
/-- such an object is given to all -/
theorem ST.give {D : Addr} {o : HO} (S : ST g fx σ H F ρ) (hH : H D = some o) (hF : F D = none) (h0 : fx.H0 D = none) (hn : ∀ (i : Nat) d, ρ[i]? = some (.ow d) → σ[i]? ≠ some (some (.ref D))) : ST g fx σ H (upd F D o) ρ := by
  have f : Sub F (upd F D o) := fun a u h => by
    rw [upd_ne (ne_of_none h hF)]
    exact h
  refine ⟨fun a u h => ?_, S.ge.trans f, fun a u h => ?_, S.old, S.len, fun i d h => ?_, fun i d h => ?_, S.inj, S.par, S.pin⟩
  · by_cases e : a = D
    · subst e; rw [upd_same] at h; rw [hH]; exact h
    · rw [upd_ne e] at h; exact S.s a u h
  · by_cases e : a = D
    · subst e; exact .inr h0
    · rw [upd_ne e] at h; exact S.nw a u h
  · obtain ⟨v, e, r⟩ := S.cl i d h
    exact ⟨v, e, r.mono f⟩
  · obtain ⟨a, e, fa, ow, n⟩ := S.ow i d h
    have ne : a ≠ D := fun z => hn i d h (z ▸ e)
    exact ⟨a, e, by rw [upd_ne ne]; exact fa, ow.move f rfl, n⟩
end

section
variable {g : Gx} {fx : Fx} {W : WX} {σ : L2.St} {H : Hp} {Q : VK} {ei ec ee : Bool} {vs is : List Nat} {t : D → Rho → R Rho} {c : M Bool} {e : M D} {mi : M (List D)}
theorem wipe_touch {σ2 : L2.St} (h : Touch is (wipe σ vs) σ2) (hs : is.all (fun j => vs.contains j) = true) : wipe σ2 vs = wipe σ vs := by
  rw [wipe_over σ2 vs]
  refine List.ext_getElem? fun j => ?_
  have hl : σ2.length = σ.length := by rw [h.1, wipe_over, over_len]
  rw [over_get]
  by_cases q : j ∈ vs
  · rw [if_pos q, wipe_over, over_get, if_pos q]
    cases e1 : σ2[j]? with
    | none =>
      have : σ[j]? = none := List.getElem?_eq_none (by rw [← hl]; exact List.getElem?_eq_none_iff.mp e1)
      rw [this]
    | some x =>
      have hj : j < σ.length := by rw [← hl]; exact (List.getElem?_eq_some_iff.mp e1).1
      rw [List.getElem?_eq_getElem hj]
      rfl
  · rw [if_neg q]
    refine h.2 j fun z => q ?_
    have := List.all_eq_true.mp hs j z
    simpa using this
theorem lc_turns {ρ1 : Rho} {F1 H1 : Hp} {ds : List D} {J : It} {D : Addr} (hv : vs.all (fun j => !fx.ow.contains j) = true) (hs : is.all (fun j => vs.contains j) = true) (S1 : ST g fx σ H1 F1 ρ1) (R1 : ItRep g J ds F1) (hD : H1 D = none) {xs0 : List DL.D} {ρ0 : Rho} (e0 : lcLoop vs t c e ds (wipeR ρ1 vs) = .ok xs0 ρ0) {Qd : Hp → Prop}
    (hE : ∀ Hc Fc accV, ST g fx (wipe σ vs) Hc Fc ρ0 → Go (ec || ee) (wipe σ vs) F1 H1 (wipeR ρ1 vs) Fc Hc ρ0 → Hc D = some (.lst accV) → RepL g Fc xs0 accV → Fc D = none → Qd Hc) :
    ∃ W : Nat → Nat → Hp → Prop, (∃ m, W 0 m (upd H1 D (.lst []))) ∧ ∀ i m H, W i m H →
      (J.stop i H ∧ Qd H) ∨ (J.go i H ∧ ∃ Nx : Hp → Prop, (∀ H', Nx H' → ∃ m', m' < m ∧ W (i + 1) m' H') ∧ ∀ x H', J.yld i H x H' → tG g fx is t x (wipe σ vs) H' fun σ2 H2 => wipe σ2 vs = wipe σ vs ∧ tB g fx W0 ec c σ2 H2 fun b H3 =>
        if b = true then tE g fx W0 true ee e σ2 H3 fun y H4 => ∃ acc, H4 D = some (.lst acc) ∧ acc.length < sizeLine ∧ Nx (upd H4 D (.lst (acc ++ [y]))) else Nx H3) := by
  -- the end, whatever the turns give
  have S1w : ST g fx (wipe σ vs) H1 F1 (wipeR ρ1 vs) := S1.wipe hv
  have hD0 : fx.H0 D = none := S1.fresh hD
  have hDF : F1 D = none := by
    cases z : F1 D with
    | none => rfl
    | some u => rw [S1.s D u z] at hD; cases hD
  have nD : ∀ {ρc : Rho} {Fc Hc : Hp}, Go (ec || ee) (wipe σ vs) F1 H1 (wipeR ρ1 vs) Fc Hc ρc → ∀ (i : Nat) d, ρc[i]? = some (.ow d) → (wipe σ vs)[i]? ≠ some (some (.ref D)) := fun {ρc Fc Hc} G i d hi hs => by
    obtain ⟨d', hi'⟩ := G.o i d hi
    obtain ⟨a, ea, _, o, _⟩ := S1w.ow i d' hi'
    rw [hs] at ea
    cases ea
    obtain ⟨u, hu⟩ := o.there
    rw [hD] at hu; cases hu
  let Pv : Nat → Hp → Prop := fun i Hc => i ≤ ds.length ∧ ∃ Fc ρc acc accV, ST g fx (wipe σ vs) Hc Fc ρc ∧ Go (ec || ee) (wipe σ vs) F1 H1 (wipeR ρ1 vs) Fc Hc ρc ∧ Hc D = some (.lst accV) ∧ RepL g Fc acc accV ∧ Fc D = none ∧ acc.length ≤ i ∧
    match lcLoop vs t c e (ds.drop i) ρc with
      | .ok xs ρ' => acc ++ xs = xs0 ∧ ρ' = ρ0
      | _ => False
  refine ⟨fun i m Hc => m = ds.length - i ∧ Pv i Hc, ⟨ds.length, by simp, Nat.zero_le _, F1, wipeR ρ1 vs, [], [], ?_, ?_, upd_same, RepL.nil, hDF, Nat.le_refl _, ?_⟩, ?_⟩
  · exact S1w.grow (Grow.big S1w.s hD)
  · exact Go.of (Grow.big S1w.s hD)
  · rw [List.drop_zero, e0]
    exact ⟨rfl, rfl⟩
  · rintro i m Hc ⟨rfl, hi, Fc, ρc, acc, accV, Sc, Gc, hDc, rc, hFD, hacc, hq⟩
    by_cases hlt : i < ds.length
    · right
      have f1c : Sub F1 Fc := Gc.f
      refine ⟨R1.go i Hc Fc f1c Sc.s hlt, Pv (i + 1), fun H' p => ⟨ds.length - (i + 1), by omega, rfl, p⟩, fun x H' y => ?_⟩
      obtain ⟨F', G', r'⟩ := R1.yld i Hc Fc x H' ds[i] f1c Sc.s (List.getElem?_eq_getElem hlt) y
      have S' := Sc.grow G'
      have ed : ds.drop i = ds[i] :: ds.drop (i + 1) := List.drop_eq_getElem_cons hlt
      rw [ed] at hq
      dsimp only [lcLoop] at hq
      refine ⟨F', ρc, ds[i], S', r', ?_⟩
      cases et : t ds[i] ρc with
      | bad => rw [et] at hq; exact hq
      | ok ρ2 =>
        rw [et] at hq
        dsimp only at hq
        intro σ2 S2 T2 N2 U2
        refine ⟨wipe_touch T2 hs, F', ρ2, S2, ?_⟩
        -- facts that go along
        have Gx : Go (ec || ee) (wipe σ vs) F1 H1 (wipeR ρ1 vs) F' H' ρc := by
          have q := Gc.trans (Go.of (eff := false) (ρ := ρc) G')
          rwa [Bool.or_false] at q
        have hD' : H' D = some (.lst accV) := G'.h D _ hDc
        have hFD' : F' D = none := by
          cases z : F' D with
          | none => rfl
          | some u =>
            rcases G'.n D u z with q | q
            · rw [hFD] at q; cases q
            · rw [hDc] at q; cases q
        have rc' := rc.mono G'.f
        -- from the block's slots to the slots at hand
        have inv : ∀ {ρ3 : Rho} (j : Nat) d, ρ3[j]? = some (.ow d) → (∃ d', ρ2[j]? = some (.ow d')) → j ∉ vs ∧ ρc[j]? = ρc[j]? := fun j d _ ⟨d', h2⟩ => by
          have h3 := N2 j d' h2
          obtain ⟨d2, h4⟩ := Gc.o j d' h3
          refine ⟨fun q => ?_, rfl⟩
          rw [over_get, if_pos q] at h4
          cases z : ρ1[j]? with
          | none => rw [z] at h4; cases h4
          | some y => rw [z] at h4; cases h4
        have own2 : ∀ (j : Nat) d, ρ2[j]? = some (.ow d) → j ∉ vs ∧ σ2[j]? = (wipe σ vs)[j]? := fun j d h2 => by
          obtain ⟨n, _⟩ := inv (ρ3 := ρ2) j d h2 ⟨d, h2⟩
          exact ⟨n, T2.2 j fun z => n (by simpa using List.all_eq_true.mp hs j z)⟩
        have step : ∀ {ef : Bool} {ρ3 : Rho} {F3 H3 : Hp}, (!ef || (ec || ee)) = true → Go ef σ2 F' H' ρ2 F3 H3 ρ3 → ST g fx σ2 H3 F3 ρ3 →
            ST g fx (wipe σ vs) H3 F3 (wipeR ρ3 vs) ∧ Go (ec || ee) (wipe σ vs) F1 H1 (wipeR ρ1 vs) F3 H3 (wipeR ρ3 vs) ∧ H3 D = some (.lst accV) ∧ F3 D = none := fun {ef ρ3 F3 H3} hle G3 S3 => by
          have Sw := S3.wipe hv
          rw [wipe_touch T2 hs] at Sw
          have ow3 : ∀ (j : Nat) d, (wipeR ρ3 vs)[j]? = some (.ow d) → j ∉ vs ∧ ρ3[j]? = some (.ow d) := fun j d hj => by
            rw [over_get] at hj
            by_cases q : j ∈ vs
            · rw [if_pos q] at hj
              cases z : ρ3[j]? with
              | none => rw [z] at hj; cases hj
              | some y => rw [z] at hj; cases hj
            · rw [if_neg q] at hj
              exact ⟨q, hj⟩
          have kD : ∀ (j : Nat) d, ρ2[j]? = some (.ow d) → σ2[j]? ≠ some (some (.ref D)) := fun j d h2 hs2 => by
            obtain ⟨n, es⟩ := own2 j d h2
            rw [es] at hs2
            exact nD Gx j d (N2 j d h2) hs2
          refine ⟨Sw, ⟨Gx.f.trans G3.f, fun a o ha => ?_, fun j d hj => ?_, fun a o ha hn => ?_, fun e0 => ?_, fun a o ha => ?_⟩, G3.k D _ hD' kD, ?_⟩
          · rcases G3.n a o ha with q | q | ⟨j, d, h2, hs2⟩
            · exact Gx.n a o q
            · refine .inr (.inl ?_)
              cases z : H1 a with
              | none => rfl
              | some u =>
                obtain ⟨w, hw⟩ := Gx.d a u z
                rw [hw] at q; cases q
            · obtain ⟨n, es⟩ := own2 j d h2
              rw [es] at hs2
              obtain ⟨d3, h3⟩ := Gc.o j d (N2 j d h2)
              exact .inr (.inr ⟨j, d3, h3, hs2⟩)
          · obtain ⟨_, h3⟩ := ow3 j d hj
            obtain ⟨d2, h2⟩ := G3.o j d h3
            exact Gc.o j d2 (N2 j d2 h2)
          · refine G3.k a o (Gx.k a o ha hn) fun j d h2 hs2 => ?_
            obtain ⟨n, es⟩ := own2 j d h2
            rw [es] at hs2
            obtain ⟨d3, h3⟩ := Gc.o j d (N2 j d h2)
            exact hn j d3 h3 hs2
          · have e3 : ef = false := by
              cases ef with
              | false => rfl
              | true => rw [e0] at hle; cases hle
            obtain ⟨gr, er⟩ := G3.g e3
            obtain ⟨gr1, er1⟩ := Gx.g e0
            refine ⟨gr1.trans gr, ?_⟩
            rw [er]
            -- the target's slots are the block's own
            refine List.ext_getElem? fun j => ?_
            rw [over_get, over_get]
            by_cases q : j ∈ vs
            · rw [if_pos q, if_pos q]
              have l2 : ρ2.length = ρ1.length := by rw [← S2.len, T2.1, wipe_over, over_len, S1.len]
              cases z : ρ2[j]? with
              | none =>
                have : ρ1[j]? = none := List.getElem?_eq_none (by rw [← l2]; exact List.getElem?_eq_none_iff.mp z)
                rw [this]
              | some y =>
                have hj : j < ρ1.length := by rw [← l2]; exact (List.getElem?_eq_some_iff.mp z).1
                rw [List.getElem?_eq_getElem hj]
                rfl
            · rw [if_neg q, if_neg q]
              rw [U2.2 j fun z => q (by simpa using List.all_eq_true.mp hs j z), er1, over_get, if_neg q]
          · obtain ⟨w, hw⟩ := Gx.d a o ha
            exact G3.d a w hw
          · cases z : F3 D with
            | none => rfl
            | some u =>
              rcases G3.n D u z with q | q | ⟨j, d, h2, hs2⟩
              · rw [hFD'] at q; cases q
              · rw [hD'] at q; cases q
              · exact absurd hs2 (kD j d h2)
        cases ecc : c ρ2 with
        | bad => rw [ecc] at hq; exact hq
        | exn _ _ _ => rw [ecc] at hq; exact hq.elim
        | ok b ρ3 =>
          rw [ecc] at hq
          intro H3 F3 G3 S3
          cases b with
          | false =>
            rw [if_neg (by decide)]
            obtain ⟨Sw, Gw, hDw, hFw⟩ := step le_l G3 S3
            exact ⟨hlt, F3, wipeR ρ3 vs, acc, accV, Sw, Gw, hDw, rc'.mono G3.f, hFw, by omega, hq⟩
          | true =>
            rw [if_pos rfl]
            dsimp only at hq
            refine ⟨F3, ρ3, S3, ?_⟩
            cases eee : e ρ3 with
            | bad => rw [eee] at hq; exact hq
            | exn _ _ _ => rw [eee] at hq; exact hq.elim
            | ok xd ρ4 =>
              rw [eee] at hq
              dsimp only at hq
              intro xv H4 F4 G4 S4 r4
              obtain ⟨Sw, Gw, hDw, hFw⟩ := step (by cases ec <;> cases ee <;> rfl) (G3.trans G4) S4
              refine ⟨accV, hDw, by rw [rc.length, sizeLine_eq]; have := R1.len; omega, hlt, F4, wipeR ρ4 vs, acc ++ [xd], accV ++ [xv], Sw.side hFw hD0 (nD Gw), ?_, upd_same, ((rc'.mono G3.f).mono G4.f).append (RepL.one r4), hFw, by rw [List.length_append, List.length_singleton]; omega, ?_⟩
              · refine ⟨Gw.f, Gw.n, Gw.o, fun a o ha hn => ?_, fun e0 => ?_, fun a o ha => ?_⟩
                · rw [upd_ne (ne_of_none ha hD)]
                  exact Gw.k a o ha hn
                · obtain ⟨gr, er⟩ := Gw.g e0
                  refine ⟨⟨gr.f, fun a o ha => ?_, fun a o ha => ?_, gr.n⟩, er⟩
                  · rw [upd_ne (ne_of_none ha hD)]
                    exact gr.h a o ha
                  · rw [upd_ne (ne_of_none ha hFw)]
                    exact gr.s a o ha
                · by_cases z : a = D
                  · subst z; exact ⟨_, upd_same⟩
                  · rw [upd_ne z]
                    exact Gw.d a o ha
              · cases el : lcLoop vs t c e (ds.drop (i + 1)) (wipeR ρ4 vs) with
                | bad => rw [el] at hq; exact hq
                | exn _ _ _ => rw [el] at hq; exact hq
                | ok xs ρ5 =>
                  rw [el] at hq
                  dsimp only at hq ⊢
                  rw [List.append_assoc]
                  exact hq
    · left
      have ei : i = ds.length := by omega
      subst ei
      refine ⟨R1.stop _ Hc Fc Gc.f Sc.s (Nat.le_refl _), ?_⟩
      rw [List.drop_length] at hq
      dsimp only [lcLoop] at hq
      rw [List.append_nil] at hq
      obtain ⟨q1, q2⟩ := hq
      subst q1
      subst q2
      exact hE Hc Fc accV Sc Gc hDc rc hFD
/-- the block's end: what is kept, seen from around -/
theorem Go.block {eff : Bool} {F1 H1 Fc Hc : Hp} {ρ1 ρc : Rho} (Gg : Go eff (wipe σ vs) F1 H1 (wipeR ρ1 vs) Fc Hc ρc) : Go eff σ F1 H1 ρ1 Fc Hc (backR ρ1 ρc vs) := by
  refine ⟨Gg.f, fun a o ha => ?_, fun j d hj => ?_, fun a o ha hn => ?_, fun e0 => ?_, Gg.d⟩
  · rcases Gg.n a o ha with q | q | ⟨j, d, h2, hs2⟩
    · exact .inl q
    · exact .inr (.inl q)
    · rw [over_get] at h2
      by_cases q : j ∈ vs
      · rw [if_pos q] at h2
        cases z : ρ1[j]? with
        | none => rw [z] at h2; cases h2
        | some y => rw [z] at h2; cases h2
      · rw [if_neg q] at h2
        rw [wipe_over, over_get, if_neg q] at hs2
        exact .inr (.inr ⟨j, d, h2, hs2⟩)
  · rw [over_get] at hj
    by_cases q : j ∈ vs
    · rw [if_pos q] at hj
      cases z : ρc[j]? with
      | none => rw [z] at hj; cases hj
      | some y =>
        rw [z] at hj
        have e2 : ρ1.getD j .no = .ow d := Option.some.inj hj
        rw [List.getD_eq_getElem?_getD] at e2
        cases z2 : ρ1[j]? with
        | none => rw [z2] at e2; cases e2
        | some y2 =>
          rw [z2] at e2
          have e3 : y2 = .ow d := e2
          rw [e3]
          exact ⟨d, rfl⟩
    · rw [if_neg q] at hj
      obtain ⟨d2, h2⟩ := Gg.o j d hj
      rw [over_get, if_neg q] at h2
      exact ⟨d2, h2⟩
  · refine Gg.k a o ha fun j d hj hs => ?_
    rw [over_get] at hj
    by_cases q : j ∈ vs
    · rw [if_pos q] at hj
      cases z : ρ1[j]? with
      | none => rw [z] at hj; cases hj
      | some y => rw [z] at hj; cases hj
    · rw [if_neg q] at hj
      rw [wipe_over, over_get, if_neg q] at hs
      exact hn j d hj hs
  · obtain ⟨gr, er⟩ := Gg.g e0
    refine ⟨gr, ?_⟩
    rw [er]
    exact back_wipe
theorem tE_lc (hv : vs.all (fun j => !fx.ow.contains j) = true) (hs : is.all (fun j => vs.contains j) = true) (h : tE g fx W true (ei || (ec || ee)) (eLC vs t c e mi) σ H Q) :
    tLc (tI g fx W ei mi) (tG g fx is t) (tB g fx W0 ec c) (tE g fx W0 true ee e) vs σ H Q := by
  obtain ⟨F, ρ, S, h⟩ := h
  refine ⟨F, ρ, S, ?_⟩
  unfold eLC M.bind at h
  cases e1 : mi ρ with
  | bad => rw [e1] at h; exact h
  | exn c x r1 => rw [e1] at h; exact h
  | ok ds ρ1 =>
    rw [e1] at h
    intro J H1 F1 G1 S1 R1 D hD
    dsimp only at h
    cases e2 : lcLoop vs t c e ds (wipeR ρ1 vs) with
    | bad => rw [e2] at h; exact h.elim
    | exn _ _ _ => rw [e2] at h; exact h.elim
    | ok xs ρ' =>
      rw [e2] at h
      refine lc_turns hv hs S1 R1 hD e2 fun Hc Fc accV Sc Gc hDc rc hFD => ?_
      have hD0 : fx.H0 D = none := S1.fresh hD
      have hDF : F1 D = none := by
        cases z : F1 D with
        | none => rfl
        | some u => rw [S1.s D u z] at hD; cases hD
      have S1w : ST g fx (wipe σ vs) H1 F1 (wipeR ρ1 vs) := S1.wipe hv
      have nD : ∀ (i : Nat) d, ρ'[i]? = some (.ow d) → (wipe σ vs)[i]? ≠ some (some (.ref D)) := fun i d hi hs => by
        obtain ⟨d', hi'⟩ := Gc.o i d hi
        obtain ⟨a, ea, _, o, _⟩ := S1w.ow i d' hi'
        rw [hs] at ea
        cases ea
        obtain ⟨u, hu⟩ := o.there
        rw [hD] at hu; cases hu
      have Sg := Sc.give hDc hFD hD0 nD
      have Gg : Go (ec || ee) (wipe σ vs) F1 H1 (wipeR ρ1 vs) (upd Fc D (.lst accV)) Hc ρ' := by
        refine ⟨fun a o ha => ?_, fun a o ha => ?_, Gc.o, Gc.k, fun e0 => ?_, Gc.d⟩
        · rw [upd_ne (ne_of_none ha hDF)]
          exact Gc.f a o ha
        · by_cases z : a = D
          · subst z; exact .inr (.inl hD)
          · rw [upd_ne z] at ha; exact Gc.n a o ha
        · obtain ⟨gr, er⟩ := Gc.g e0
          refine ⟨⟨fun a o ha => ?_, gr.h, Sg.s, fun a o ha => ?_⟩, er⟩
          · rw [upd_ne (ne_of_none ha hDF)]
            exact gr.f a o ha
          · by_cases z : a = D
            · subst z; exact .inr hD
            · rw [upd_ne z] at ha; exact gr.n a o ha
      refine h (.ref D) Hc (upd Fc D (.lst accV)) (G1.trans Gg.block) (S1.back Sg Gg hv) ?_
      show Rep g _ (.lst xs) _
      simp only [Rep]
      refine ⟨D, accV, rfl, upd_same, rc.mono fun a o ha => ?_⟩
      rw [upd_ne (ne_of_none ha hFD)]
      exact ha
/-- a new list or dict, the frame's own -/
def tF (g : Gx) (fx : Fx) (W : WX) (eff : Bool) (m : M D) : TE := fun σ H Q => ∃ F ρ, ST g fx σ H F ρ ∧ match m ρ with
  | .ok d ρ' => ∀ a H' F', Go eff σ F H ρ F' H' ρ' → ST g fx σ H' F' ρ' → F' a = none → Own g F' H' a d → fx.H0 a = none → (∀ (i : Nat) e, ρ'[i]? = some (.ow e) → σ[i]? ≠ some (some (.ref a))) → (H a = none ∨ ∃ (i : Nat) (e : D), ρ[i]? = some (.ow e) ∧ σ[i]? = some (some (.ref a))) → Q (.ref a) H'
  | .exn c x ρ' => ∀ cls dd H' F', Go true σ F H ρ F' H' ρ' → ST g fx σ H' F' ρ' → XR g F' c x cls dd → W cls dd σ H'
  | .bad => False
theorem tF_lc (hv : vs.all (fun j => !fx.ow.contains j) = true) (hs : is.all (fun j => vs.contains j) = true) (h : tF g fx W (ei || (ec || ee)) (eLC vs t c e mi) σ H Q) :
    tLc (tI g fx W ei mi) (tG g fx is t) (tB g fx W0 ec c) (tE g fx W0 true ee e) vs σ H Q := by
  obtain ⟨F, ρ, S, h⟩ := h
  refine ⟨F, ρ, S, ?_⟩
  unfold eLC M.bind at h
  cases e1 : mi ρ with
  | bad => rw [e1] at h; exact h
  | exn c x r1 => rw [e1] at h; exact h
  | ok ds ρ1 =>
    rw [e1] at h
    intro J H1 F1 G1 S1 R1 D hD
    dsimp only at h
    cases e2 : lcLoop vs t c e ds (wipeR ρ1 vs) with
    | bad => rw [e2] at h; exact h.elim
    | exn _ _ _ => rw [e2] at h; exact h.elim
    | ok xs ρ' =>
      rw [e2] at h
      refine lc_turns hv hs S1 R1 hD e2 fun Hc Fc accV Sc Gc hDc rc hFD => ?_
      have hD0 : fx.H0 D = none := S1.fresh hD
      refine h D Hc Fc (G1.trans Gc.block) (S1.back Sc Gc hv) hFD ⟨accV, hDc, rc⟩ hD0 (fun i d hi hs => ?_) (.inl ?_)
      · obtain ⟨d', hi'⟩ := Gc.block.o i d hi
        obtain ⟨a, ea, _, o, _⟩ := S1.ow i d' hi'
        rw [hs] at ea
        cases ea
        obtain ⟨u, hu⟩ := o.there
        rw [hD] at hu; cases hu
      · cases z : H D with
        | none => rfl
        | some u =>
          obtain ⟨w, hw⟩ := G1.d D u z
          rw [hD] at hw; cases hw
end
end DL

set_option Elab.async false
set_option linter.all false
set_option maxRecDepth 100000
set_option maxHeartbeats 4000000
namespace DL
open PySem PySem.Spec PyProof.Rows L2

section
variable {X : Cx} {fx : Fx} {W : WX} {ei ec ee : Bool} {is : List Nat} {t : D → Rho → R Rho} {c : M Bool} {e : M D} {mi : M (List D)} {elt tg iter : Expr} {ifs : List Expr} {scope : Scope} {own : List (Str × Nat)} {pos spos : Pos}
def STs (X : Cx) (fx : Fx) (eff : Bool) (es : List Expr) (m : M Bool) : Prop := PTs X es (tB (gx X) fx W0 eff m)
theorem sts_nil : STs X fx false [] (M.pure true) := ⟨fun pins s σ H Q I h => pts_nil.run pins s σ H Q I (by
  obtain ⟨F, ρ, S, h⟩ := h
  exact h H F (Go.refl S.s) S)⟩
theorem sts_one {a : Expr} {m : M Bool} (h : SB X fx W0 ec a m) : STs X fx ec [a] m := pts_one h
/-- [elt for tg in iter if ..] -/
theorem se_lc (own : List (Str × Nat)) (hc : X.calm = true) (hN : X.N.Nodup) (hi : SI X fx W ei tg iter mi) (ok : BlkOk X.N X.env.scope scope own)
    (hg : ∀ (s : Shared) (H : Hp) (C : Addr) (cl : List (Str × Addr)) (fp : List Addr), SG (X.blk s H scope (compEnvC scope cl C X.env) fp) fx is tg t) (ht : ∀ (s : Shared) (H : Hp) (C : Addr) (cl : List (Str × Addr)) (fp : List Addr), STs (X.blk s H scope (compEnvC scope cl C X.env) fp) fx ec ifs c)
    (he : ∀ (s : Shared) (H : Hp) (C : Addr) (cl : List (Str × Addr)) (fp : List Addr), SE (X.blk s H scope (compEnvC scope cl C X.env) fp) fx W0 true ee elt e)
    (hv : (own.map (·.2)).all (fun j => !fx.ow.contains j) = true := by rfl) (hs : is.all (fun j => (own.map (·.2)).contains j) = true := by rfl) (hf : ∀ x, foldedSetIterable iter X.env x = pure x := by intro _; rfl) :
    SE X fx W true (ei || (ec || ee)) (.ListComp elt [⟨tg, iter, ifs, 0⟩] scope pos) (eLC (own.map (·.2)) t c e mi) :=
  PE.imp (pe_lc (g := tG (gx X) fx is t) (tt := tB (gx X) fx W0 ec c) (te := tE (gx X) fx W0 true ee e) hc hN hi ok hg ht he hf) fun σ H Q q => tE_lc hv hs q
end

/-! ### statements -/
/-- the state's own objects -/
def OwnA (σ : L2.St) (ρ : Rho) (a : Addr) : Prop := ∃ (i : Nat) (d : D), ρ[i]? = some (.ow d) ∧ σ[i]? = some (some (.ref a))
/-- from here to there, statements between -/
structure Gs (σ : L2.St) (F H : Hp) (ρ : Rho) (σ' : L2.St) (F' H' : Hp) (ρ' : Rho) : Prop where
  f : Sub F F'
  n : ∀ a o, F' a = some o → F a = some o ∨ H a = none ∨ OwnA σ ρ a
  k : ∀ a o, H a = some o → ¬ OwnA σ ρ a → H' a = some o
  o : ∀ a, OwnA σ' ρ' a → OwnA σ ρ a ∨ H a = none
  d : ∀ a o, H a = some o → ∃ u, H' a = some u
theorem Gs.refl {σ : L2.St} {F H : Hp} {ρ : Rho} : Gs σ F H ρ σ F H ρ := ⟨Sub.refl _, fun _ _ h => .inl h, fun _ _ h _ => h, fun _ h => .inl h, fun _ o h => ⟨o, h⟩⟩
theorem Gs.trans {σ σ1 σ2 : L2.St} {F H F1 H1 F2 H2 : Hp} {ρ ρ1 ρ2 : Rho} (a : Gs σ F H ρ σ1 F1 H1 ρ1) (b : Gs σ1 F1 H1 ρ1 σ2 F2 H2 ρ2) : Gs σ F H ρ σ2 F2 H2 ρ2 where
  f := a.f.trans b.f
  n := fun x o h => by
    rcases b.n x o h with q | q | q
    · exact a.n x o q
    · refine .inr (.inl ?_)
      cases e : H x with
      | none => rfl
      | some u =>
        obtain ⟨w, hw⟩ := a.d x u e
        rw [hw] at q
        cases q
    · rcases a.o x q with z | z
      · exact .inr (.inr z)
      · exact .inr (.inl z)
  k := fun x o h q => b.k x o (a.k x o h q) fun z => by
    rcases a.o x z with w | w
    · exact q w
    · rw [h] at w; cases w
  o := fun x h => by
    rcases b.o x h with q | q
    · exact a.o x q
    · right
      cases e : H x with
      | none => rfl
      | some u =>
        obtain ⟨w, hw⟩ := a.d x u e
        rw [hw] at q
        cases q
  d := fun x o h => by
    obtain ⟨u, hu⟩ := a.d x o h
    exact b.d x u hu
theorem Go.gs {e : Bool} {σ : L2.St} {F H F' H' : Hp} {ρ ρ' : Rho} (G : Go e σ F H ρ F' H' ρ') : Gs σ F H ρ σ F' H' ρ' where
  f := G.f
  n := fun a o h => by
    rcases G.n a o h with q | q | ⟨i, d, q⟩
    · exact .inl q
    · exact .inr (.inl q)
    · exact .inr (.inr ⟨i, d, q⟩)
  k := fun a o h q => G.k a o h fun i d h1 h2 => q ⟨i, d, h1, h2⟩
  o := fun a ⟨i, d, h1, h2⟩ => by
    obtain ⟨e, h3⟩ := G.o i d h1
    exact .inl ⟨i, e, h3, h2⟩
  d := G.d
/-- a store of clean data -/
theorem Gs.to {σ σ' : L2.St} {F H : Hp} {ρ ρ' : Rho} {is : List Nat} (n : NoOw ρ ρ') (t : Touch is σ σ') (u : ∀ (i : Nat), i ∈ is → ∀ d, ρ'[i]? ≠ some (.ow d)) : Gs σ F H ρ σ' F H ρ' :=
  ⟨Sub.refl _, fun _ _ h => .inl h, fun _ _ h _ => h, fun a ⟨i, d, h1, h2⟩ => .inl ⟨i, d, n i d h1, by
    have ni : i ∉ is := fun z => u i z d h1
    rw [t.2 i ni] at h2
    exact h2⟩, fun _ o h => ⟨o, h⟩⟩

inductive SO where
  | nx (r : Rho) | ret (d : D) (r : Rho) | brk (r : Rho) | ct (r : Rho) | exn (c : Str) (v : D) (r : Rho) | bad
  /-- whatever the place of a new object -/
  | any (f : Addr → SO)
abbrev MS := Rho → SO
/-- what is handed back -/
def RV (g : Gx) (fx : Fx) (F H : Hp) (d : D) (v : V) : Prop := match fx.rk with
  | .cl => Rep g F d v
  | .fr => ∃ a, v = .ref a ∧ F a = none ∧ Own g F H a d ∧ fx.H0 a = none
  | .pl => Pool g F H fx.H0 v d
  | .cw N => Rep g F d v ∧ N fx.H0 F d v
def sPost (g : Gx) (fx : Fx) (W : WX) (E : Ends) (σ : L2.St) (F H : Hp) (ρ : Rho) : SO → Prop
  | .nx ρ' => ∀ σ' H' F', Gs σ F H ρ σ' F' H' ρ' → ST g fx σ' H' F' ρ' → E.nx σ' H'
  | .ret d ρ' => ∀ v σ' H' F', ST g fx σ' H' F' ρ' → RV g fx F' H' d v → E.rt v H'
  | .brk ρ' => ∀ σ' H' F', Gs σ F H ρ σ' F' H' ρ' → ST g fx σ' H' F' ρ' → E.bk σ' H'
  | .ct ρ' => ∀ σ' H' F', Gs σ F H ρ σ' F' H' ρ' → ST g fx σ' H' F' ρ' → E.ct σ' H'
  | .exn c x ρ' => ∀ cls dd σ' H' F', Gs σ F H ρ σ' F' H' ρ' → ST g fx σ' H' F' ρ' → XR g F' c x cls dd → W cls dd σ' H'
  | .bad => False
  | .any f => ∀ a, sPost g fx W E σ F H ρ (f a)
def tS (g : Gx) (fx : Fx) (W : WX) (m : MS) : TS := fun E σ H => ∃ F ρ, ST g fx σ H F ρ ∧ sPost g fx W E σ F H ρ (m ρ)
theorem sPost.mono {g : Gx} {fx : Fx} {W : WX} {E : Ends} {σ σ1 : L2.St} {F H F1 H1 : Hp} {ρ ρ1 : Rho} : ∀ {s : SO}, sPost g fx W E σ F H ρ s → Gs σ F H ρ σ1 F1 H1 ρ1 → sPost g fx W E σ1 F1 H1 ρ1 s
  | .nx r, h, G => fun σ' H' F2 k => h σ' H' F2 (G.trans k)
  | .ret d r, h, G => h
  | .brk r, h, G => fun σ' H' F2 k => h σ' H' F2 (G.trans k)
  | .ct r, h, G => fun σ' H' F2 k => h σ' H' F2 (G.trans k)
  | .exn c x r, h, G => fun cls dd σ' H' F2 k => h cls dd σ' H' F2 (G.trans k)
  | .bad, h, G => h
  | .any f, h, G => fun a => sPost.mono (h a) G
def SS (X : Cx) (fx : Fx) (W : WX) (st : Stmt) (m : MS) : Prop := PS X st (tS (gx X) fx W m)
def SSs (X : Cx) (fx : Fx) (W : WX) (st : List Stmt) (m : MS) : Prop := PSs X st (tS (gx X) fx W m)

def sNext : MS := fun ρ => .nx ρ
/-- behind a statement that goes on -/
def SO.then (o : SO) (k : MS) : SO := match o with
  | .nx ρ => k ρ
  | .any f => .any fun a => (f a).then k
  | .ret d ρ => .ret d ρ
  | .brk ρ => .brk ρ
  | .ct ρ => .ct ρ
  | .exn c x ρ => .exn c x ρ
  | .bad => .bad
def sSeq (a b : MS) : MS := fun ρ => (a ρ).then b
/-- what an expression gives, then what is done with it -/
def sDo {α : Type} (m : M α) (k : α → MS) : MS := fun ρ => match m ρ with
  | .ok a ρ1 => k a ρ1
  | .exn c x ρ1 => .exn c x ρ1
  | .bad => .bad
def sTo (t : D → Rho → R Rho) (d : D) : MS := fun ρ => match t d ρ with
  | .ok ρ1 => .nx ρ1
  | .bad => .bad
def sAsg (m : M D) (t : D → Rho → R Rho) : MS := sDo m (sTo t)
def sRet (m : M D) : MS := sDo m fun d ρ => .ret d ρ
def sRetN : MS := fun ρ => .ret .non ρ
def sDrop (m : M D) : MS := sDo m fun _ ρ => .nx ρ
def sIf (c : M Bool) (a b : MS) : MS := sDo c fun k => if k then a else b
def sBrk : MS := fun ρ => .brk ρ
def sCt : MS := fun ρ => .ct ρ
/-- behind a turn of a loop -/
def SO.turn (o : SO) (k : MS) : SO := match o with
  | .nx ρ => k ρ
  | .ct ρ => k ρ
  | .brk ρ => .nx ρ
  | .any f => .any fun a => (f a).turn k
  | .ret d ρ => .ret d ρ
  | .exn c x ρ => .exn c x ρ
  | .bad => .bad
/-- a loop over what is walked -/
def forLoop (t : D → Rho → R Rho) (b : MS) : List D → MS
  | [], ρ => .nx ρ
  | d :: ds, ρ => match t d ρ with
    | .bad => .bad
    | .ok ρ1 => (b ρ1).turn (forLoop t b ds)
def sFor (t : D → Rho → R Rho) (it : M (List D)) (b : MS) : MS := sDo it fun ds => forLoop t b ds
/-- a while, at most so many turns -/
def whLoop (c : M Bool) (b : MS) : Nat → MS
  | 0, _ => .bad
  | n + 1, ρ => match c ρ with
    | .bad => .bad
    | .exn c x ρ1 => .exn c x ρ1
    | .ok false ρ1 => .nx ρ1
    | .ok true ρ1 => (b ρ1).turn (whLoop c b n)

section
variable {g : Gx} {fx : Fx} {W : WX} {E : Ends} {σ : L2.St} {H : Hp} {ma mb : MS} {c : M Bool} {m : M D} {ca ea : Bool} {is : List Nat} {t : D → Rho → R Rho} {mi : M (List D)}
theorem tS_next (h : tS g fx W sNext E σ H) : tNext E σ H := by
  obtain ⟨F, ρ, S, h⟩ := h
  exact h σ H F Gs.refl S
/-- .then, by its parts -/
theorem post_then {k : MS} {F H : Hp} {ρ : Rho} {E' : Ends} (hn : E'.nx = tS g fx W k E) (hr : E'.rt = E.rt) (hb : E'.bk = E.bk) (hc : E'.ct = E.ct) : ∀ {s : SO}, sPost g fx W E σ F H ρ (s.then k) → sPost g fx W E' σ F H ρ s
  | .nx ρ1, h => fun σ' H' F' G S' => by
    rw [hn]
    exact ⟨F', ρ1, S', sPost.mono h G⟩
  | .ret d r, h => by
    intro v σ' H' F' S' q
    rw [hr]
    exact h v σ' H' F' S' q
  | .brk r, h => by
    intro σ' H' F' G S'
    rw [hb]
    exact h σ' H' F' G S'
  | .ct r, h => by
    intro σ' H' F' G S'
    rw [hc]
    exact h σ' H' F' G S'
  | .exn c x r, h => h
  | .bad, h => h
  | .any f, h => fun a => post_then hn hr hb hc (h a)
/-- .turn, by its parts -/
theorem post_turn {k : MS} {F H : Hp} {ρ : Rho} {N : L2.St → Hp → Prop} {E' : Ends} (hk : ∀ ρ1, sPost g fx W E σ F H ρ (k ρ1) → ∀ σ' H' F', Gs σ F H ρ σ' F' H' ρ1 → ST g fx σ' H' F' ρ1 → N σ' H') (hn : E'.nx = N) (hc : E'.ct = N) (hr : E'.rt = E.rt) (hb : E'.bk = E.nx) :
    ∀ {s : SO}, sPost g fx W E σ F H ρ (s.turn k) → sPost g fx W E' σ F H ρ s
  | .nx ρ1, h => by
    intro σ' H' F' G S'
    rw [hn]
    exact hk ρ1 h σ' H' F' G S'
  | .ct ρ1, h => by
    intro σ' H' F' G S'
    rw [hc]
    exact hk ρ1 h σ' H' F' G S'
  | .brk r, h => by
    intro σ' H' F' G S'
    rw [hb]
    exact h σ' H' F' G S'
  | .ret d r, h => by
    intro v σ' H' F' S' q
    rw [hr]
    exact h v σ' H' F' S' q
  | .exn c x r, h => h
  | .bad, h => h
  | .any f, h => fun a => post_turn hk hn hc hr hb (h a)
theorem tS_seq (h : tS g fx W (sSeq ma mb) E σ H) : tSeq (tS g fx W ma) (tS g fx W mb) E σ H := by
  obtain ⟨F, ρ, S, h⟩ := h
  exact ⟨F, ρ, S, post_then (E' := { E with nx := tS g fx W mb E }) rfl rfl rfl rfl h⟩
theorem xgs {F : Hp} {ρ ρ' : Rho} {c : Str} {x : D} (h : ∀ cls dd σ' H' F', Gs σ F H ρ σ' F' H' ρ' → ST g fx σ' H' F' ρ' → XR g F' c x cls dd → W cls dd σ' H') : ∀ cls dd H' F', Go true σ F H ρ F' H' ρ' → ST g fx σ H' F' ρ' → XR g F' c x cls dd → W cls dd σ H' :=
  fun cls dd H' F' G => h cls dd σ H' F' G.gs
/-- what a target stores -/
def TgOk (is : List Nat) (t : D → Rho → R Rho) : Prop := ∀ d ρ ρ', t d ρ = .ok ρ' → ∀ (i : Nat), i ∈ is → ∀ e, ρ'[i]? ≠ some (.ow e)
theorem tS_asg (ht : TgOk is t) (h : tS g fx W (sAsg m t) E σ H) : tAsg (tE g fx W true ea m) (tG g fx is t) E σ H := by
  obtain ⟨F, ρ, S, h⟩ := h
  refine ⟨F, ρ, S, ?_⟩
  unfold sAsg sDo at h
  cases e : m ρ with
  | bad => rw [e] at h; exact h
  | exn c x r =>
    rw [e] at h
    exact xgs h
  | ok d ρ1 =>
    rw [e] at h
    intro v H1 F1 G1 S1 r1
    refine ⟨F1, ρ1, d, S1, r1, ?_⟩
    dsimp only [sTo] at h
    cases e2 : t d ρ1 with
    | bad => rw [e2] at h; exact h
    | ok ρ2 =>
      rw [e2] at h
      exact fun σ' S' T N U => h σ' H1 F1 (G1.gs.trans (Gs.to N T (ht d ρ1 ρ2 e2))) S'
theorem tS_ret (hk : fx.rk = .cl) (h : tS g fx W (sRet m) E σ H) : tRet (tE g fx W true ea m) E σ H := by
  obtain ⟨F, ρ, S, h⟩ := h
  refine ⟨F, ρ, S, ?_⟩
  unfold sRet sDo at h
  cases e : m ρ with
  | bad => rw [e] at h; exact h
  | exn c x r =>
    rw [e] at h
    exact xgs h
  | ok d ρ1 =>
    rw [e] at h
    exact fun v H1 F1 G1 S1 r1 => h v σ H1 F1 S1 (by unfold RV; rw [hk]; exact r1)
theorem tS_retN (hk : fx.rk = .cl) (h : tS g fx W sRetN E σ H) : tRetN E σ H := by
  obtain ⟨F, ρ, S, h⟩ := h
  exact h .non σ H F S (by unfold RV; rw [hk]; simp only [Rep])
theorem tS_drop (h : tS g fx W (sDrop m) E σ H) : tDrop (tE g fx W ca ea m) E σ H := by
  obtain ⟨F, ρ, S, h⟩ := h
  refine ⟨F, ρ, S, ?_⟩
  unfold sDrop sDo at h
  cases e : m ρ with
  | bad => rw [e] at h; exact h
  | exn c x r =>
    rw [e] at h
    exact xgs h
  | ok d ρ1 =>
    rw [e] at h
    exact fun v H1 F1 G1 S1 r1 => h σ H1 F1 G1.gs S1
theorem tS_if (h : tS g fx W (sIf c ma mb) E σ H) : tIfS (tB g fx W ea c) (tS g fx W ma) (tS g fx W mb) E σ H := by
  obtain ⟨F, ρ, S, h⟩ := h
  refine ⟨F, ρ, S, ?_⟩
  unfold sIf sDo at h
  cases e : c ρ with
  | bad => rw [e] at h; exact h
  | exn c x r =>
    rw [e] at h
    exact xgs h
  | ok k ρ1 =>
    rw [e] at h
    intro H1 F1 G1 S1
    cases k with
    | true =>
      rw [if_pos rfl]
      exact ⟨F1, ρ1, S1, sPost.mono h G1.gs⟩
    | false =>
      rw [if_neg (by decide)]
      exact ⟨F1, ρ1, S1, sPost.mono h G1.gs⟩
theorem Grow.gs {F H F' H' : Hp} {ρ : Rho} (G : Grow F H F' H') : Gs σ F H ρ σ F' H' ρ := (Go.of (eff := true) G).gs
theorem tS_for (ht : TgOk is t) (h : tS g fx W (sFor t mi ma) E σ H) : tFor (tI g fx W ea mi) (tG g fx is t) (tS g fx W ma) E σ H := by
  obtain ⟨F, ρ, S, h⟩ := h
  refine ⟨F, ρ, S, ?_⟩
  unfold sFor sDo at h
  cases e : mi ρ with
  | bad => rw [e] at h; exact h
  | exn c x r =>
    rw [e] at h
    exact xgs h
  | ok ds ρ1 =>
    rw [e] at h
    intro J H1 F1 G1 S1 R1
    let Pv : Nat → L2.St → Hp → Prop := fun i σc Hc => i ≤ ds.length ∧ ∃ Fc ρc, ST g fx σc Hc Fc ρc ∧ Sub F1 Fc ∧ sPost g fx W E σc Fc Hc ρc (forLoop t ma (ds.drop i) ρc)
    refine ⟨fun i n σc Hc => n = ds.length - i ∧ Pv i σc Hc, ⟨ds.length, by simp, Nat.zero_le _, F1, ρ1, S1, Sub.refl _, ?_⟩, ?_⟩
    · rw [List.drop_zero]
      exact sPost.mono h G1.gs
    · rintro i n σc Hc ⟨rfl, hi, Fc, ρc, Sc, fc, hq⟩
      by_cases hlt : i < ds.length
      · refine .inr ⟨R1.go i Hc Fc fc Sc.s hlt, Pv (i + 1), fun σ' H' p => ⟨ds.length - (i + 1), by omega, rfl, p⟩, fun x H' y => ?_⟩
        obtain ⟨F', G', r'⟩ := R1.yld i Hc Fc x H' ds[i] fc Sc.s (List.getElem?_eq_getElem hlt) y
        have S' := Sc.grow G'
        have ed : ds.drop i = ds[i] :: ds.drop (i + 1) := List.drop_eq_getElem_cons hlt
        rw [ed] at hq
        dsimp only [forLoop] at hq
        refine ⟨F', ρc, ds[i], S', r', ?_⟩
        cases et : t ds[i] ρc with
        | bad => rw [et] at hq; exact hq
        | ok ρ2 =>
          rw [et] at hq
          intro σ2 S2 T2 N2 U2
          have G2 : Gs σc Fc Hc ρc σ2 F' H' ρ2 := (Grow.gs G').trans (Gs.to N2 T2 (ht _ _ _ et))
          refine ⟨F', ρ2, S2, ?_⟩
          have hq' : sPost g fx W E σ2 F' H' ρ2 ((ma ρ2).turn (forLoop t ma (ds.drop (i + 1)))) := sPost.mono hq G2
          exact post_turn (E := E) (E' := { E with nx := Pv (i + 1), ct := Pv (i + 1), bk := E.nx }) (N := Pv (i + 1)) (fun ρ3 h3 σ3 H3 F3 G3 S3 => ⟨hlt, F3, ρ3, S3, (fc.trans G'.f).trans G3.f, sPost.mono h3 G3⟩) rfl rfl rfl rfl hq'
      · have ei : i = ds.length := by omega
        subst ei
        rw [List.drop_length] at hq
        exact .inl ⟨R1.stop _ Hc Fc fc Sc.s (Nat.le_refl _), hq σc Hc Fc Gs.refl Sc⟩
theorem tS_while {n : Nat} (h : tS g fx W (whLoop c ma n) E σ H) : tWhile (tB g fx W ea c) (tS g fx W ma) E σ H := by
  refine ⟨fun n σ' H' => tS g fx W (whLoop c ma n) E σ' H', ⟨n, h⟩, fun n σ1 H1 h => ?_⟩
  obtain ⟨F, ρ, S, h⟩ := h
  refine ⟨F, ρ, S, ?_⟩
  cases n with
  | zero => exact h.elim
  | succ n =>
    unfold whLoop at h
    cases e : c ρ with
    | bad => rw [e] at h; exact h
    | exn c x r =>
      rw [e] at h
      exact xgs h
    | ok k ρ1 =>
      rw [e] at h
      intro H2 F2 G2 S2
      cases k with
      | false =>
        rw [if_neg (by decide)]
        exact h σ1 H2 F2 G2.gs S2
      | true =>
        rw [if_pos rfl]
        refine ⟨tS g fx W (whLoop c ma n) E, fun σ' H' q => ⟨n, Nat.lt_succ_self n, q⟩, F2, ρ1, S2, ?_⟩
        have h2 : sPost g fx W E σ1 F2 H2 ρ1 ((ma ρ1).turn (whLoop c ma n)) := sPost.mono h G2.gs
        exact post_turn (E := E) (E' := { E with nx := tS g fx W (whLoop c ma n) E, ct := tS g fx W (whLoop c ma n) E, bk := E.nx }) (N := tS g fx W (whLoop c ma n) E) (fun ρ3 h3 σ3 H3 F3 G3 S3 => ⟨F3, ρ3, S3, sPost.mono h3 G3⟩) rfl rfl rfl rfl h2
end

theorem tgName_ok {i : Nat} : TgOk [i] (tgName i) := fun d ρ ρ' h j hj e q => by
  have z : j = i := by simpa using hj
  subst z
  cases h
  rcases set_get q with ⟨_, w⟩ | ⟨w, _⟩
  · cases w
  · exact w rfl
theorem tgAll_ok : ∀ {is : List Nat} {ds : List D} {ρ ρ' : Rho}, tgAll is ds ρ = .ok ρ' → ∀ (j : Nat), (j ∈ is ∨ ∀ e, ρ[j]? ≠ some (.ow e)) → ∀ e, ρ'[j]? ≠ some (.ow e)
  | [], [], ρ, ρ', h, j, hj, e => by
    cases h
    rcases hj with hj | hj
    · cases hj
    · exact hj e
  | [], _ :: _, _, _, h, _, _, _ => by cases h
  | _ :: _, [], _, _, h, _, _, _ => by cases h
  | i :: is, d :: ds, ρ, ρ', h, j, hj, e => by
    refine tgAll_ok (is := is) (ds := ds) (ρ := ρ.set i (.cl d)) h j ?_ e
    by_cases z : j = i
    · right
      intro e' q
      rcases set_get q with ⟨_, w⟩ | ⟨w, _⟩
      · cases w
      · exact w z.symm
    · rcases hj with hj | hj
      · rcases List.mem_cons.mp hj with q | q
        · exact absurd q z
        · exact .inl q
      · right
        intro e' q
        rcases set_get q with ⟨_, w⟩ | ⟨_, w⟩
        · cases w
        · exact hj e' w
theorem tgTup_ok {is : List Nat} : TgOk is (tgTup is) := fun d ρ ρ' h j hj e => by
  cases d <;> first
    | exact tgAll_ok (by exact h) j (.inl hj) e
    | cases h
section
variable {X : Cx} {fx : Fx} {W : WX} {ma mb : MS} {c : M Bool} {m : M D} {ca ea ei ec ee : Bool} {is : List Nat} {t : D → Rho → R Rho} {mi : M (List D)} {st : Stmt} {sts body orelse : List Stmt} {e tg iter test : Expr} {pos spos : Pos}
theorem sss_nil : SSs X fx W [] sNext := PSs.imp pss_nil fun E σ H h => tS_next h
theorem sss_cons (h1 : SS X fx W st ma) (h2 : SSs X fx W sts mb) : SSs X fx W (st :: sts) (sSeq ma mb) := PSs.imp (pss_cons h1 h2) fun E σ H h => tS_seq h
theorem sss_one (h1 : SS X fx W st ma) : SSs X fx W [st] ma := pss_one h1
theorem ss_pass : SS X fx W (.Pass pos) sNext := PS.imp ps_pass fun E σ H h => tS_next h
theorem ss_brk : SS X fx W (.Break pos) sBrk := PS.imp ps_break fun E σ H h => by
  obtain ⟨F, ρ, S, h⟩ := h
  exact h σ H F Gs.refl S
theorem ss_ct : SS X fx W (.Continue pos) sCt := PS.imp ps_continue fun E σ H h => by
  obtain ⟨F, ρ, S, h⟩ := h
  exact h σ H F Gs.refl S
theorem ss_asg (he : SE X fx W true ea e m) (hg : SG X fx is tg t) (ht : TgOk is t := by first | exact tgName_ok | exact tgTup_ok) (hs : swapsWithSole [tg] e pos.line X.env = pure false := by rfl) (hw : swappedStores [tg] e X.env = pure none := by rfl)
    (h1 : (assignEach [tg] X.env).map (·.2) = [assign tg X.env] := by rfl) : SS X fx W (.Assign [tg] e pos) (sAsg m t) := PS.imp (ps_asg he hg hs hw h1) fun E σ H h => tS_asg ht h
theorem ss_ret (he : SE X fx W true ea e m) (hk : fx.rk = .cl := by rfl) : SS X fx W (.Return (some e) pos) (sRet m) := PS.imp (ps_ret he) fun E σ H h => tS_ret hk h
theorem ss_retN (hk : fx.rk = .cl := by rfl) : SS X fx W (.Return none pos) sRetN := PS.imp ps_retN fun E σ H h => tS_retN hk h
theorem ss_expr (he : SE X fx W ca ea e m) (hs : swapsWith e none pos.line X.env = pure false := by rfl) : SS X fx W (.Expr e pos) (sDrop m) := PS.imp (ps_expr he hs) fun E σ H h => tS_drop h
theorem ss_if (hc : SB X fx W ea test c) (ha : SSs X fx W body ma) (hb : SSs X fx W orelse mb) : SS X fx W (.If test body orelse pos) (sIf c ma mb) := PS.imp (ps_if hc ha hb) fun E σ H h => tS_if h
theorem ss_for (hp : PassesOwn (model X.prog X.w) X.A X.env X.xe) (hc : X.calm = true) (hi : SI X fx W ei tg iter mi) (hg : SG X fx is tg t) (hb : SSs X fx W body ma) (ht : TgOk is t := by first | exact tgName_ok | exact tgTup_ok) (hs : ∀ x, foldedSetIterable iter X.env x = pure x := by intro _; rfl) :
    SS X fx W (.For tg iter body [] pos) (sFor t mi ma) := PS.imp (ps_for hp hc hi hg hb hs) fun E σ H h => tS_for ht h
theorem ss_while (n : Nat) (hp : PassesOwn (model X.prog X.w) X.A X.env X.xe) (hc : SB X fx W ea test c) (hb : SSs X fx W body ma) : SS X fx W (.While test body [] pos) (whLoop c ma n) := PS.imp (ps_while hp hc hb) fun E σ H h => tS_while h
/-- name = [..] -/
theorem ss_asgLc {i : Nat} {y : Str} {py : Pos} {elt : Expr} {ifs : List Expr} {scope : Scope} (own : List (Str × Nat)) {em : M D} (hc : X.calm = true) (hN : X.N.Nodup) (hi : SI X fx W ei tg iter mi) (ok : BlkOk X.N X.env.scope scope own)
    (hg : ∀ (s : Shared) (H : Hp) (C : Addr) (cl : List (Str × Addr)) (fp : List Addr), SG (X.blk s H scope (compEnvC scope cl C X.env) fp) fx is tg t) (ht : ∀ (s : Shared) (H : Hp) (C : Addr) (cl : List (Str × Addr)) (fp : List Addr), STs (X.blk s H scope (compEnvC scope cl C X.env) fp) fx ec ifs c)
    (he : ∀ (s : Shared) (H : Hp) (C : Addr) (cl : List (Str × Addr)) (fp : List Addr), SE (X.blk s H scope (compEnvC scope cl C X.env) fp) fx W0 true ee elt em)
    (hy : X.N[i]? = some y := by rfl) (hyl : X.env.scope.names.lookup y = some .local := by rfl) (hsw : swapsWith (.ListComp elt [⟨tg, iter, ifs, 0⟩] scope pos) (some (.Name y py)) spos.line X.env = pure true := by exact (sw_true rfl rfl rfl (by decide +kernel))) (ho : fx.ow.contains i = false := by rfl)
    (hv : (own.map (·.2)).all (fun j => !fx.ow.contains j) = true := by rfl) (hs : is.all (fun j => (own.map (·.2)).contains j) = true := by rfl) (hf : ∀ x, foldedSetIterable iter X.env x = pure x := by intro _; rfl) :
    SS X fx W (.Assign [.Name y py] (.ListComp elt [⟨tg, iter, ifs, 0⟩] scope pos) spos) (sAsg (eLC (own.map (·.2)) t c em mi) (tgName i)) :=
  PS.imp (ps_setLc (g := tG (gx X) fx is t) (tt := tB (gx X) fx W0 ec c) (te := tE (gx X) fx W0 true ee em) hc hN hy hyl hsw hi ok hg ht he hf) fun E σ H h => by
    have q : tAsg (tE (gx X) fx W true (ei || (ec || ee)) (eLC (own.map (·.2)) t c em mi)) (tG (gx X) fx [i] (tgName i)) E σ H := tS_asg tgName_ok h
    have q2 : tE (gx X) fx W true (ei || (ec || ee)) (eLC (own.map (·.2)) t c em mi) σ H fun x H1 => gName i x σ H1 E.nx := by
      obtain ⟨F, ρ, S, q⟩ := q
      refine ⟨F, ρ, S, ?_⟩
      cases e1 : eLC (own.map (·.2)) t c em mi ρ with
      | bad => rw [e1] at q; exact q
      | exn _ _ _ => rw [e1] at q; exact q
      | ok d ρ1 =>
        rw [e1] at q
        exact fun v H' F' G' S' r' => tG_name ho (q v H' F' G' S' r')
    exact tE_lc hv hs q2
end
end DL

set_option Elab.async false
set_option linter.all false
set_option maxRecDepth 100000
set_option maxHeartbeats 4000000
/-! defs' promises where it is known that nothing is being shown (repr asks for it) -/
namespace DL
open PySem PySem.Spec PyProof.Rows L2
/-- room for k calls; nothing is being shown -/
structure RoomG (k : Nat) (A : Around) : Prop where
  r : Room k A
  g : A.guards = some []
theorem RoomG.mono {j k : Nat} {A : Around} (h : RoomG k A) (e : j ≤ k) : RoomG j A := ⟨h.r.mono e, h.g⟩
theorem RoomG.units {k : Nat} {A : Around} (h : RoomG k A) : A.units + 64 < cLine := h.r.units
theorem RoomG.down {k : Nat} {A : Around} (h : RoomG (k + 1) A) (env : Env) : RoomG k (A.deeper env) := ⟨h.r.deeper env, h.g⟩
/-- a def's promise -/
structure FnG (P : Program) (w : World) (K : PySem.W.Frag) (mg : Str → Option Value) (base : Heap) (CX : CXT) (k : Nat) (f : Addr) (fd : FuncData) (ps : List Str) (sp : Sp) : Prop where
  len : ∀ xs H Q E, sp xs H Q E → xs.length = ps.length
  go : ∀ (A : Around) (out : List Env) (s : Shared) (H : Hp) (as : Args) (us : List Value) (xs : List V) (Q : VK) (E : XK), RoomG k A → Env0 P w K mg base A out s H → BindsTo s fd as (ps.zip us) → Vals xs us → sp xs H Q E → codeAny (model P w) A (.call (.ref f) as) (CR CX out P w H s Q E) s
section
variable {P : Program} {w : World} {K : PySem.W.Frag} {mg : Str → Option Value} {base : Heap} {CX : CXT} {k : Nat} {f : Addr} {fd : FuncData} {ps : List Str} {sp : Sp}
theorem FnG.mono {j : Nat} (F : FnG P w K mg base CX j f fd ps sp) (e : j ≤ k) : FnG P w K mg base CX k f fd ps sp := ⟨F.len, fun A out s H as us xs Q E r => F.go A out s H as us xs Q E (r.mono e)⟩
theorem FnG.of (F : FnOk P w K mg base CX k f fd ps sp) : FnG P w K mg base CX k f fd ps sp := ⟨F.len, fun A out s H as us xs Q E r => F.run A out s H as us xs Q E r.r⟩
theorem FnG.imp {sp' : Sp} (F : FnG P w K mg base CX k f fd ps sp) (i : ∀ xs H Q E, sp' xs H Q E → sp xs H Q E) : FnG P w K mg base CX k f fd ps sp' :=
  ⟨fun xs H Q E q => F.len xs H Q E (i _ _ _ _ q), fun A out s H as us xs Q E r e b v q => F.go A out s H as us xs Q E r e b v (i _ _ _ _ q)⟩
theorem fnG_of {qn nm : Str} {pr : Arguments} {bd : List Stmt} {sc : Scope} {dV kV dc pm cv ct oc : Value} {an od : Option Addr} {osl : Array (Option Value)} {N : List Str}
    (lk : K.lookup f = some ⟨oc, od, .func (PySem.W.fnOf nm qn pr bd sc dV kV dc pm an cv ct), osl⟩) (hc : PySem.W.codeIn K cv qn = true) (S : FnScope N ps sc) (len : ∀ xs H Q E, sp xs H Q E → xs.length = ps.length)
    (B : ∀ (A : Around) (out : List Env) (s : Shared) (H : Hp) (xs : List V) (Q : VK) (E : XK), RoomG k (A.deeper (envOfC qn sc s.heap.objs.size f cv)) → sp xs H Q E →
      ∃ t, PSs (cxOf CX P w K mg base N qn sc f cv A out s H E) bd t ∧ t { nx := fun _ H1 => Q .non H1, rt := Q } (L2.start N xs) H) :
    FnG P w K mg base CX (k + 1) f (PySem.W.fnOf nm qn pr bd sc dV kV dc pm an cv ct) ps sp where
  len := len
  go A out s H as us xs Q E r e0 b v q := by
    have n := len _ _ _ _ q
    have kin : K.In s.heap := e0.mod.kin.keeps fun b o e => (e0.bs b o e).1
    have loc : ∀ y ∈ ps.zip us, sc.names.lookup y.1 = some .local ∨ (sc.names.lookup y.1 = some .cell ∧ ((cellsFrom (s.heap.objs.size + 1) sc.names []).lookup y.1).isSome = true) := by
      intro ⟨x, u⟩ m
      exact (S.par x (List.of_mem_zip m).1).imp id fun z => ⟨z, PySem.W.cellsFrom_some _ _ _ (.inl z)⟩
    refine codeAny_call_function r.r.depth (kin _ _ lk) rfl S.co S.gen rfl (PySem.W.codeRec_of kin hc) (b _ _ _ _ (wpAny_newFunctionEnv_cells S.kind loc fun en he s1 x => ?_))
    subst he
    refine ⟨(e0.mod.nolimit.keeps fun b o e => (e0.bs b o e).1).keeps x.toInCall.keep, codeAny_func ?_⟩
    obtain ⟨t, T, z⟩ := B A out s H xs Q E (r.down _) q
    have I : Inv (cxOf CX P w K mg base N qn sc f cv A out s H E) [] (L2.start N xs) H s1 := inv_start S r.r.hd e0 n v x
    have fin : ∀ {σ1 : L2.St} {H1 : Hp} {v : V} {u : Value} {s2 : Shared}, Inv (cxOf CX P w K mg base N qn sc f cv A out s H E) [] σ1 H1 s2 → RelV v u → Q v H1 → CE out P w H s Q u s2 := fun J a b => ⟨_, _, J.os, J.bare, J.base, J.hok, a, b⟩
    refine wpAny_mono (T.run [] s1 (L2.start N xs) H _ I z) (fun fl s2 y => ?_) fun _ _ y => y
    match fl, y with
    | .ret u, ⟨v, σ1, H1, J, a, b⟩ => exact fin J a b
    | .next, ⟨σ1, H1, J, b⟩ => exact fin (v := V.non) (u := Value.none) J rfl b
    | .brk, ⟨_, _, _, b⟩ => exact b.elim
    | .cont, ⟨_, _, _, b⟩ => exact b.elim
end
section
variable {X : Cx} {CX : CXT} {k : Nat} {f : Addr} {fd : FuncData} {ps : List Str} {sp : Sp} {E : L2.St → XK} {x : Str} {p pos : Pos} {e : Expr} {es : List Expr} {t : TA}
/-- behind a call -/
theorem goG {pins : List (Addr × Obj)} {σ : L2.St} {H : Hp} {s : Shared} {Q : VK} (hx : PassesAt CX X σ (E σ)) (I : Inv X pins σ H s) {c : Code} (h : codeAny (model X.prog X.w) X.A c (CR CX X.stack X.prog X.w H s Q (E σ)) s) :
    codeAny (model X.prog X.w) X.A c (wants (EP X pins σ Q) X.xe) s := by
  refine codeAny_mono h fun r s1 q => ?_
  match r, q with
  | .error er, q => exact hx pins H s er s1 I q
  | .ok (.ret u), q => exact I.after q
  | .ok .next, q => exact False.elim q
  | .ok .brk, q => exact False.elim q
  | .ok .cont, q => exact False.elim q
theorem run_fnG {pins : List (Addr × Obj)} {σ : L2.St} {H : Hp} {s : Shared} {Q : VK} {us : List Value} {xs : List V} (F : FnG X.prog X.w X.K X.mg X.base CX k f fd ps sp) (r : RoomG k X.A) (b : Binds X.K fd ps []) (hx : PassesAt CX X σ (E σ))
    (I : Inv X pins σ H s) (v : Vals xs us) (h : sp xs H Q (E σ)) : wpAny (model X.prog X.w) X.A (call (.ref f) us) (EP X pins σ Q) X.xe s := by
  have n : (us ++ []).length = ps.length := by rw [List.append_nil, ← v.length]; exact F.len _ _ _ _ h
  have b' := b s us I.kIn n
  rw [List.append_nil] at b'
  exact wpAny_call (goG hx I (F.go X.A X.stack s H ⟨us, []⟩ us xs Q (E σ) r I.env0 b' v h))
theorem pe_callG (F : FnG X.prog X.w X.K X.mg X.base CX k f fd ps sp) (r : RoomG k X.A) (hg : Gl X x) (hm : X.mg x = some (.ref f)) (hk : PySem.W.keepIn X.K (.ref f) = true) (b : Binds X.K fd ps []) (hx : ∀ σ, PassesAt CX X σ (E σ)) (ha : PA X (e :: es) t)
    (hdb : (x == ("__debug__" : Str)) = false := by decide) (he : starEach (e :: es) X.env = (false, eval e X.env) :: starEach es X.env := by rfl) (hpl : (backTo pos (starEach es X.env)).any (·.1) = false := by rfl) : PE X (.Call (.Name x p) (e :: es) [] pos) (tCallS sp E t) := by
  refine ⟨fun pins s σ H Q I h => wpAny_Call_Name_kw (ld_glob I hg hm ?_ hdb)⟩
  exact PySem.W.callWith_K (h₀ := X.base) I.ok.mod.kin hk (thn (ha.run pos pins s σ H _ I h) fun us s1 ⟨xs, H1, I1, v, q⟩ => ⟨I1.kIn, run_fnG F r b (hx σ) I1 v q⟩) he hpl
theorem pe_call0G (F : FnG X.prog X.w X.K X.mg X.base CX k f fd ps sp) (r : RoomG k X.A) (hg : Gl X x) (hm : X.mg x = some (.ref f)) (hk : PySem.W.keepIn X.K (.ref f) = true) (b : Binds X.K fd ps []) (hx : ∀ σ, PassesAt CX X σ (E σ))
    (hdb : (x == ("__debug__" : Str)) = false := by decide) : PE X (.Call (.Name x p) [] [] pos) (tCallS sp E tNil) :=
  ⟨fun pins s σ H Q I h => wpAny_Call_Name_kw (ld_glob I hg hm (PySem.W.callWith_K0 I.kIn hk (run_fnG (us := []) F r b (hx σ) I .nil h)) hdb)⟩
end
/-! ### the law's call -/
section
variable {P : Program} {w : World} {K : PySem.W.Frag} {mg mb : Str → Option Value} {CX : CXT} {k : Nat} {fa a : Addr} {fd : FuncData} {x : Str} {sp : Sp} {s0 : Shared} {us : List Value} {ns : List Int}
/-- what is told at the end -/
def TrueEnd (s0 : Shared) (r : Result) (s : Shared) : Prop := r = .ok (.ret (.bool true)) ∧ OldK s0.heap s.heap ∧ s.os = s0.os ∧ AllBare s.gens
theorem law_core {H : Hp} (kin : K.In s0.heap) (hns : s0.heap.Ns mainGlobals mg) (hb : s0.heap.Ns builtinsNs mb) (hbb : ∀ y : Str, y ≠ "__name__" → mb y = bootBuiltins y) (lim : s0.heap.NoLimit) (gn : s0.gens = #[])
    (ho : s0.heap.get? a = some { cls := .type "list", data := .seq us.toArray }) (r : RoomG k callerA) (F : ∀ base : Heap, K.In base → base.Ns mainGlobals mg → FnG P w K mg base CX k fa fd [x] sp) (bnd : ∀ (s : Shared) (u : Value), BindsTo s fd ⟨[u], []⟩ [(x, u)])
    (only : Only H) (q : sp [.ref a] H (fun v _ => v = .bl true) fun _ _ _ => False) (cx : ∀ e s', CX [] H s0 (fun _ _ _ => False) e s' → False) (hok : HOk P w H s0.heap) (at1 : ∀ b, H b ≠ none → b = a) (at2 : H a ≠ none → K.lookup a = none) :
    codeAny (model P w) callerA (.call (.ref fa) ⟨[.ref a], []⟩) (TrueEnd s0) s0 := by
  have none_of : ∀ {b : Addr} {o : Obj}, s0.heap.get? b = some o → (H b ≠ none → o.data ≠ .seq us.toArray 0) → H b = none := by
    intro b o e n
    apply Classical.byContradiction
    intro z
    have eb := at1 b z
    rw [eb, ho] at e
    cases e
    exact n z rfl
  have dns : ∀ {b : Addr} {m : Str → Option Value}, s0.heap.Ns b m → (hidT s0.heap H).Ns b m := by
    rintro b m ⟨o, es, ep, e, d, z⟩
    exact ⟨o, es, ep, hidT_get e (none_of e fun _ h => by rw [d] at h; cases h), d, z⟩
  have kb : K.In (hidT s0.heap H) := by
    intro b o e
    refine hidT_get (kin b o e) ?_
    apply Classical.byContradiction
    intro z
    have eb := at1 b z
    rw [eb] at z e
    rw [at2 z] at e
    cases e
  have md : Mod K mg (hidT s0.heap H) := ⟨kb, dns hns, ⟨mb, dns hb, hbb⟩, by obtain ⟨mc, h1, h2⟩ := lim; exact ⟨mc, dns h1, h2⟩⟩
  have e0 : Env0 P w K mg (hidT s0.heap H) callerA [] s0 H := ⟨rfl, md, fun _ _ e => of_hidT e, Nat.le_of_eq (hidT_size _ _), trivial, fun b z => (nomatch (show b ∈ ([] : List Addr) from z)), hok, .of_eq gn⟩
  refine codeAny_mono ((F _ kb (dns hns)).go callerA [] s0 H ⟨[.ref a], []⟩ [.ref a] [.ref a] _ _ r e0 (bnd s0 (.ref a)) (.cons rfl .nil) q) fun rr s1 z => ?_
  match rr, z with
  | .error e, z => exact (cx e s1 z).elim
  | .ok .next, z => exact False.elim z
  | .ok .brk, z => exact False.elim z
  | .ok .cont, z => exact False.elim z
  | .ok (.ret u), ⟨v, H1, z1, z2, un, hok1, rv, ev⟩ =>
    have ev : v = .bl true := ev
    subst ev
    have eu : u = Value.bool true := rv
    subst eu
    refine ⟨rfl, OldK.of_keep fun b o e => ?_, z1, z2⟩
    cases c : H b with
    | none => exact un.keep b o e c (fun z => (nomatch (show b ∈ ([] : List Addr) from z))) (by simp)
    | some y =>
      rcases only b with z | ⟨ob, ys, z⟩
      · rw [c] at z; cases z
      · obtain ⟨p1, _⟩ := hok b _ z
        obtain ⟨p2, _⟩ := hok1 b _ (un.frzs b ob _ z)
        rw [e] at p1
        cases p1
        exact p2
theorem law_callG (kin : K.In s0.heap) (hns : s0.heap.Ns mainGlobals mg) (hb : s0.heap.Ns builtinsNs mb) (hbb : ∀ y : Str, y ≠ "__name__" → mb y = bootBuiltins y) (lim : s0.heap.NoLimit) (gn : s0.gens = #[])
    (ho : s0.heap.get? a = some { cls := .type "list", data := .seq us.toArray }) (hi : IntsAre us ns) (hl : ns.length ≤ sizeLine) (r : RoomG k callerA) (F : ∀ base : Heap, K.In base → base.Ns mainGlobals mg → FnG P w K mg base CX k fa fd [x] sp) (bnd : ∀ (s : Shared) (u : Value), BindsTo s fd ⟨[u], []⟩ [(x, u)])
    (q : ∀ H : Hp, Only H → SqL K H a (ns.map V.int) → sp [.ref a] H (fun v _ => v = .bl true) fun _ _ _ => False) (cx : ∀ H e s', CX [] H s0 (fun _ _ _ => False) e s' → False) :
    codeAny (model P w) callerA (.call (.ref fa) ⟨[.ref a], []⟩) (TrueEnd s0) s0 := by
  have rv := vals_ints hi
  have nl := hi.length
  cases c : K.lookup a with
  | some o =>
    have e := kin a o c
    rw [ho] at e
    cases e
    have O : Only fun _ => none := fun _ => .inl rfl
    refine law_core (H := fun _ => none) kin hns hb hbb lim gn ho r F bnd O (q _ O (.inr ⟨_, us.toArray, _, c, rfl, rfl, rfl, ?_, ?_⟩)) (cx _) (fun b u z => ?_) (fun b z => (z rfl).elim) fun z => (z rfl).elim
    · rw [List.size_toArray, nl]; exact hl
    · simpa using rv
    · exact absurd (show (none : Option HO) = some u from z) (fun z => nomatch z)
  | none =>
    let H1 : Hp := fun b => if b = a then some (.frz { cls := .type "list", data := .seq us.toArray } (.lst (ns.map V.int))) else none
    have hit : H1 a = some (.frz { cls := .type "list", data := .seq us.toArray } (.lst (ns.map V.int))) := if_pos rfl
    have off : ∀ {b : Addr}, b ≠ a → H1 b = none := fun n => if_neg n
    have O : Only H1 := fun b => (Classical.em (b = a)).elim (fun e => .inr ⟨_, _, e ▸ hit⟩) fun n => .inl (off n)
    refine law_core (H := H1) kin hns hb hbb lim gn ho r F bnd O (q _ O (.inl (.inr ⟨_, hit⟩))) (cx _) (fun b u z => ?_) (fun b z => Classical.byContradiction fun n => z (off n)) fun _ => c
    by_cases e : b = a
    · subst e
      rw [hit] at z
      cases z
      exact ⟨ho, by rw [List.length_map]; exact hl, us, _, rv, ho⟩
    · rw [off e] at z
      cases z
end
theorem walk_ofG {l : PySem.W.OpenLaw} {n k : Nat} {q : Program} {loose : List Str} {XP : (Str → Option Value) → Heap → Prop} {YP : World → Heap → Prop} {d : DefRec} {K : Params → PySem.W.Frag} {CX : World → CXT} {sp : World → Sp} {x : Str}
    (hn : l.most = some n) (n2 : n ≤ sizeLine) (hdf : d.params.defaults = []) (r : Room k callerA) (hY : ∀ (w : World) (h : Heap), YP w h → (K w.params).In h)
    (F : ∀ (w : World) (mg : Str → Option Value) (fa : Addr) (h : Heap), (K w.params).In h → h.Ns mainGlobals mg → mg d.name = some (.ref fa) →
      ∃ fd : FuncData, (∀ (s : Shared) (u : Value), BindsTo s fd ⟨[u], []⟩ [(x, u)]) ∧ ∀ base : Heap, (K w.params).In base → base.Ns mainGlobals mg → FnG l.prog w (K w.params) mg base (CX w) k fa fd [x] (sp w))
    (hs : ∀ (w : World) (H : Hp) (a : Addr) (ns : List Int), ns.length ≤ n → (∀ z ∈ ns, Builtin.Int.intBits z ≤ 1048576) → Only H → SqL (K w.params) H a (ns.map V.int) → sp w [.ref a] H (fun v _ => v = .bl true) fun _ _ _ => False)
    (cx : ∀ (w : World) (H : Hp) (s : Shared) (e : Value) (s' : Shared), CX w [] H s (fun _ _ _ => False) e s' → False) : PySem.W.WalkO q loose XP YP l.row.toRowW d [] (fun f vs => PySem.call f vs) := by
  refine Att.attach_callB hn hdf fun w s0 s1 mg mb fa o pm cd dc a us ns G Y ho hd hcd hmg hob hin len bits gn => ?_
  obtain ⟨fd, hb, FF⟩ := F w mg fa _ (hY w _ Y) G.T.g hmg
  exact law_callG (hY w _ Y) G.T.g G.T.b G.T.builtins G.T.nolimit gn hob hin (Nat.le_trans len n2) ⟨r, rfl⟩ FF hb (fun H O S => hs w H a ns len bits O S) fun H e s' => cx w H s1 e s'
end DL

set_option Elab.async false
set_option linter.all false
set_option maxRecDepth 100000
set_option maxHeartbeats 4000000
namespace DL
open PySem PySem.Spec PyProof.Rows L2

/-! ### what a def computes -/
inductive FO where
  | ok (d : D) (outs : List D) | exn (c : Str) (v : D) (outs : List D) | bad
  | any (f : Addr → FO)
abbrev Fn := List D → FO
/-- behind a call: what stood stands, but the handed over lists and dicts -/
structure After (g : Gx) (mask : List Nat) (F H : Hp) (vs : List V) (outs : List D) (F' H' : Hp) : Prop where
  s : Sub F' H'
  f : Sub F F'
  n : ∀ a o, F' a = some o → F a = some o ∨ H a = none
  k : ∀ a o, H a = some o → (∀ i ∈ mask, vs[i]? ≠ some (.ref a)) → H' a = some o
  o : ∀ (j : Nat) i, mask[j]? = some i → ∃ a d, vs[i]? = some (.ref a) ∧ outs[j]? = some d ∧ F' a = none ∧ Own g F' H' a d
  l : outs.length = mask.length
structure Args (g : Gx) (mask : List Nat) (F H : Hp) (ds : List D) (vs : List V) : Prop where
  s : Sub F H
  len : vs.length = ds.length
  ow : ∀ (i : Nat) d, i ∈ mask → ds[i]? = some d → ∃ a, vs[i]? = some (.ref a) ∧ F a = none ∧ Own g F H a d
  cl : ∀ (i : Nat) d, i ∉ mask → ds[i]? = some d → ∃ v, vs[i]? = some v ∧ Rep g F d v
  inj : ∀ (i j : Nat) a, i ∈ mask → j ∈ mask → vs[i]? = some (.ref a) → vs[j]? = some (.ref a) → i = j
  all : ∀ i ∈ mask, i < ds.length
/-- what is handed back, H the heap at the call -/
def RC (g : Gx) (rk : Rk) (H F' H' : Hp) (d : D) (v : V) : Prop := match rk with
  | .cl => Rep g F' d v
  | .fr => ∃ a, v = .ref a ∧ F' a = none ∧ Own g F' H' a d ∧ H a = none
  | .pl => Pool g F' H' H v d
  | .cw N => Rep g F' d v ∧ N H F' d v
def fPost (g : Gx) (mask : List Nat) (rk : Rk) (F H : Hp) (vs : List V) (Q : VK) (E : XK) : FO → Prop
  | .ok d outs => ∀ v H' F', After g mask F H vs outs F' H' → RC g rk H F' H' d v → Q v H'
  | .exn c x outs => ∀ cls dd H' F', After g mask F H vs outs F' H' → XR g F' c x cls dd → E cls dd H'
  | .bad => False
  | .any f => ∀ a, fPost g mask rk F H vs Q E (f a)
def spOf (g : Gx) (mask : List Nat) (rk : Rk) (n : Nat) (fn : Fn) : Sp := fun vs H Q E => ∃ F ds, Args g mask F H ds vs ∧ ds.length = n ∧ fPost g mask rk F H vs Q E (fn ds)

/-- the slots at a def's entry -/
def startR (N : Nat) (mask : List Nat) (ds : List D) : Rho := (ds.zipIdx.map fun p => if mask.contains p.2 then Sl.ow p.1 else Sl.cl p.1) ++ List.replicate (N - ds.length) .no
def outAt (x : Option Sl) : D := match x with
  | some (.ow d) => d
  | _ => .non
def outsOf (mask : List Nat) (ρ : Rho) : List D := mask.map fun (i : Nat) => outAt ρ[i]?
def SO.fo (mask : List Nat) (rk : Rk) : SO → FO
  | .nx ρ => match rk with
    | .cl => .ok .non (outsOf mask ρ)
    | .fr => .bad
    | .pl => .bad
    | .cw _ => .bad
  | .ret d ρ => .ok d (outsOf mask ρ)
  | .exn c x ρ => .exn c x (outsOf mask ρ)
  | .any f => .any fun a => (f a).fo mask rk
  | _ => .bad
def runFn (N : Nat) (mask : List Nat) (rk : Rk) (m : MS) : Fn := fun ds => (m (startR N mask ds)).fo mask rk

theorem startR_get {N : Nat} {mask : List Nat} {ds : List D} {i : Nat} {x : Sl} (h : (startR N mask ds)[i]? = some x) : (∃ d, ds[i]? = some d ∧ x = if mask.contains i then Sl.ow d else Sl.cl d) ∨ (ds.length ≤ i ∧ x = .no) := by
  unfold startR at h
  by_cases hi : i < ds.length
  · rw [List.getElem?_append_left (by simpa using hi), List.getElem?_map, List.getElem?_zipIdx, List.getElem?_eq_getElem hi] at h
    refine .inl ⟨ds[i], List.getElem?_eq_getElem hi, ?_⟩
    have e := Option.some.inj h
    rw [← e]
    simp
  · rw [List.getElem?_append_right (by simp; omega), List.getElem?_replicate] at h
    refine .inr ⟨by omega, ?_⟩
    split at h
    · exact (Option.some.inj h).symm
    · cases h
theorem start_get {N : List Str} {vs : List V} {i : Nat} {v : V} (h : vs[i]? = some v) : (L2.start N vs)[i]? = some (some v) := by
  unfold L2.start
  have hi : i < vs.length := (List.getElem?_eq_some_iff.mp h).1
  rw [List.getElem?_append_left (by simpa using hi), List.getElem?_map, h]
  rfl
theorem start_get' {N : List Str} {vs : List V} {i : Nat} {v : V} (h : (L2.start N vs)[i]? = some (some v)) : vs[i]? = some v := by
  unfold L2.start at h
  by_cases hi : i < vs.length
  · rw [List.getElem?_append_left (by simpa using hi), List.getElem?_map] at h
    cases e : vs[i]? with
    | none => rw [e] at h; cases h
    | some w => rw [e] at h; cases h; rfl
  · rw [List.getElem?_append_right (by simp; omega), List.getElem?_replicate] at h
    split at h <;> cases h
/-- the handed over lists and dicts, by their parameters' places -/
def refAt (i : Nat) (x : Option V) : Option (Nat × Addr) := match x with
  | some (.ref a) => some (i, a)
  | _ => none
def ownOf (mask : List Nat) (vs : List V) : List (Nat × Addr) := mask.filterMap fun (i : Nat) => refAt i vs[i]?
theorem mem_ownOf {mask : List Nat} {vs : List V} {i : Nat} {a : Addr} : (i, a) ∈ ownOf mask vs ↔ i ∈ mask ∧ vs[i]? = some (.ref a) := by
  unfold ownOf
  rw [List.mem_filterMap]
  constructor
  · rintro ⟨j, hj, e⟩
    cases q : vs[j]? with
    | none => rw [q] at e; cases e
    | some v =>
      rw [q] at e
      cases v <;> first | cases e | skip
      exact ⟨hj, q⟩
  · rintro ⟨h1, h2⟩
    exact ⟨i, h1, by rw [h2] <;> rfl⟩
theorem st_start {g : Gx} {mask : List Nat} {rk : Rk} {F H : Hp} {ds : List D} {vs : List V} {N : List Str} (A : Args g mask F H ds vs) (hN : ds.length ≤ N.length) : ST g ⟨F, H, ownOf mask vs, mask, rk⟩ (L2.start N vs) H F (startR N.length mask ds) where
  s := A.s
  ge := Sub.refl _
  nw := fun _ _ h => .inl h
  old := fun _ _ h _ => h
  len := by
    unfold startR L2.start
    have := A.len
    simp
    omega
  cl := fun i d h => by
    rcases startR_get h with ⟨d', e, q⟩ | ⟨_, q⟩
    · by_cases c : mask.contains i = true
      · rw [if_pos c] at q; cases q
      · rw [if_neg c] at q
        cases q
        obtain ⟨v, e1, r⟩ := A.cl i d (by simpa using c) e
        exact ⟨v, start_get e1, r⟩
    · cases q
  ow := fun i d h => by
    rcases startR_get h with ⟨d', e, q⟩ | ⟨_, q⟩
    · by_cases c : mask.contains i = true
      · rw [if_pos c] at q
        cases q
        obtain ⟨a, e1, fa, o⟩ := A.ow i d (by simpa using c) e
        exact ⟨a, start_get e1, fa, o, .inr (mem_ownOf.mpr ⟨by simpa using c, e1⟩)⟩
      · rw [if_neg c] at q; cases q
    · cases q
  inj := fun i j d e a h1 h2 h3 h4 => by
    have im : ∀ {i : Nat} {d : D}, (startR N.length mask ds)[i]? = some (.ow d) → i ∈ mask := fun {i d} h => by
      rcases startR_get h with ⟨d', e, q⟩ | ⟨_, q⟩
      · by_cases c : mask.contains i = true
        · simpa using c
        · rw [if_neg c] at q; cases q
      · cases q
    exact A.inj i j a (im h1) (im h2) (start_get' h3) (start_get' h4)
  par := fun i a h => by
    obtain ⟨h1, h2⟩ := mem_ownOf.mp h
    have hi := A.all i h1
    have c : mask.contains i = true := by simpa using h1
    refine ⟨⟨ds[i], ?_⟩, start_get h2⟩
    unfold startR
    rw [List.getElem?_append_left (by simpa using hi), List.getElem?_map, List.getElem?_zipIdx, List.getElem?_eq_getElem hi]
    show some (if mask.contains (0 + i) = true then Sl.ow ds[i] else Sl.cl ds[i]) = _
    rw [Nat.zero_add, if_pos c]
  pin := fun i a h => (mem_ownOf (vs := vs).mp h).1
/-- a def's end -/
theorem st_end {g : Gx} {mask : List Nat} {rk : Rk} {F H F' H' : Hp} {ds : List D} {vs : List V} {σ : L2.St} {ρ : Rho} (A : Args g mask F H ds vs) (S : ST g ⟨F, H, ownOf mask vs, mask, rk⟩ σ H' F' ρ) : After g mask F H vs (outsOf mask ρ) F' H' where
  s := S.s
  f := S.ge
  n := S.nw
  k := fun a o h q => S.old a o h fun i hi => by
    obtain ⟨h1, h2⟩ := mem_ownOf.mp hi
    exact q i h1 h2
  o := fun j i hj => by
    have hi : i ∈ mask := List.mem_of_getElem? hj
    have hd := A.all i hi
    obtain ⟨a, e1, _, _⟩ := A.ow i ds[i] hi (List.getElem?_eq_getElem hd)
    obtain ⟨⟨d, e⟩, e2⟩ := S.par i a (mem_ownOf.mpr ⟨hi, e1⟩)
    obtain ⟨b, e3, fb, o, _⟩ := S.ow i d e
    rw [e2] at e3
    cases e3
    refine ⟨a, d, e1, ?_, fb, o⟩
    unfold outsOf
    rw [List.getElem?_map, hj]
    show some (outAt ρ[i]?) = some d
    rw [e]
    rfl
  l := by unfold outsOf; rw [List.length_map]

section
variable {P : Program} {w : World} {K : PySem.W.Frag} {mg : Str → Option Value} {base : Heap}
theorem fo_post {mask : List Nat} {rk : Rk} {F H : Hp} {ds : List D} {vs : List V} {Q : VK} {E : XK} {σ : L2.St} {ρ : Rho} (A : Args ⟨K, mg⟩ mask F H ds vs) : ∀ {o : SO}, fPost ⟨K, mg⟩ mask rk F H vs Q E (o.fo mask rk) →
    sPost ⟨K, mg⟩ ⟨F, H, ownOf mask vs, mask, rk⟩ (fun cls d _ H => E cls d H) { nx := fun _ H' => Q .non H', rt := Q } σ F H ρ o
  | .nx ρ1, h => by
    cases rk with
    | cl => exact fun σ' H' F' _ S' => h .non H' F' (st_end A S') (by show Rep _ _ _ _; simp only [Rep])
    | fr => exact h.elim
    | pl => exact h.elim
    | cw _ => exact h.elim
  | .ret d ρ1, h => fun v σ' H' F' S' r => h v H' F' (st_end A S') (by
    cases rk with
    | cl => exact r
    | fr => exact r
    | pl => exact r
    | cw _ => exact r)
  | .exn c x ρ1, h => fun cls dd σ' H' F' _ S' r => h cls dd H' F' (st_end A S') r
  | .brk _, h => h.elim
  | .ct _, h => h.elim
  | .bad, h => h.elim
  | .any f, h => fun a => fo_post A (h a)
/-- a def of the text as it stands behind the top, its defaults whatever they are -/
structure DF (K : PySem.W.Frag) (x qual : Str) (st : Stmt) (f : Addr) (fd : FuncData) : Prop where
  ex : ∃ (oc : Value) (od : Option Addr) (dV kV doc pm : Value) (an : Option Addr) (cdv ct : Value) (osl : Array (Option Value)),
    fd = PySem.W.fnOf x qual (defArgs st) (defBody st) (defScope st) dV kV doc pm an cdv ct ∧ K.lookup f = some ⟨oc, od, .func fd, osl⟩ ∧ PySem.W.codeIn K cdv qual = true ∧ ((defArgs st).defaults = [] → dV = .none)
  kp : PySem.W.keepIn K (.ref f) = true
theorem DF.mk' {x qual : Str} {st : Stmt} {f : Addr} {oc : Value} {od an : Option Addr} {osl : Array (Option Value)} {dV kV doc pm cdv ct : Value} (l : K.lookup f = some ⟨oc, od, .func (PySem.W.fnOf x qual (defArgs st) (defBody st) (defScope st) dV kV doc pm an cdv ct), osl⟩)
    (c : PySem.W.codeIn K cdv qual = true) (k : PySem.W.keepIn K (.ref f) = true) (hd : (defArgs st).defaults = [] → dV = .none) : DF K x qual st f (PySem.W.fnOf x qual (defArgs st) (defBody st) (defScope st) dV kV doc pm an cdv ct) := ⟨⟨oc, od, dV, kV, doc, pm, an, cdv, ct, osl, rfl, l, c, hd⟩, k⟩
theorem DF.okX {x qual : Str} {st : Stmt} {f : Addr} {fd : FuncData} {N ps : List Str} {k : Nat} {sp : Sp} (F : DF K x qual st f fd) (S : FnScope N ps (defScope st)) (len : ∀ vs H Q E, sp vs H Q E → vs.length = ps.length)
    (hb : ∀ (cdv : Value) (A : Around) (outer : List Env) (s : Shared) (H : Hp) (vs : List V) (Q : VK) (E : XK), RoomG k (A.deeper (envOfC qual (defScope st) s.heap.objs.size f cdv)) → sp vs H Q E →
      ∃ t, PSs (cxOf (L2.CX P w) P w K mg base N qual (defScope st) f cdv A outer s H E) (defBody st) t ∧ t { nx := fun _ H' => Q .non H', rt := Q } (start N vs) H) : FnG P w K mg base (L2.CX P w) (k + 1) f fd ps sp := by
  obtain ⟨oc, od, dV, kV, doc, pm, an, cdv, ct, osl, rfl, lk, hcd, _⟩ := F.ex
  exact fnG_of lk hcd S len fun A outer s H vs Q E hr h => hb cdv A outer s H vs Q E hr h
theorem DF.okX0 {x qual : Str} {st : Stmt} {f : Addr} {fd : FuncData} {N ps : List Str} {k : Nat} {sp : Sp} (F : DF K x qual st f fd) (S : FnScope N ps (defScope st)) (len : ∀ vs H Q E, sp vs H Q E → vs.length = ps.length)
    (hb : ∀ (cdv : Value) (A : Around) (outer : List Env) (s : Shared) (H : Hp) (vs : List V) (Q : VK) (E : XK), Room k (A.deeper (envOfC qual (defScope st) s.heap.objs.size f cdv)) → sp vs H Q E →
      ∃ t, PSs (cxOf (L2.CX P w) P w K mg base N qual (defScope st) f cdv A outer s H E) (defBody st) t ∧ t { nx := fun _ H' => Q .non H', rt := Q } (start N vs) H) : FnOk P w K mg base (L2.CX P w) (k + 1) f fd ps sp := by
  obtain ⟨oc, od, dV, kV, doc, pm, an, cdv, ct, osl, rfl, lk, hcd, _⟩ := F.ex
  exact fn_of lk hcd S len fun A outer s H vs Q E hr h => hb cdv A outer s H vs Q E hr h
/-- every parameter is given -/
theorem DF.binds {x qual : Str} {st : Stmt} {f : Addr} {fd : FuncData} {ps : List Str} (F : DF K x qual st f fd) (hd : (defArgs st).defaults = [])
    (h : ∀ (kV doc pm : Value) (an : Option Addr) (cdv ct : Value) (us : List Value), us.length = ps.length → bindArgs (PySem.W.fnOf x qual (defArgs st) (defBody st) (defScope st) .none kV doc pm an cdv ct) ⟨us, []⟩ = pure (ps.zip us)) : Binds K fd ps [] := by
  obtain ⟨oc, od, dV, kV, doc, pm, an, cdv, ct, osl, rfl, lk, hcd, z⟩ := F.ex
  cases z hd
  exact .all (h kV doc pm an cdv ct)
/-- .. by keywords -/
theorem DF.kbinds {x qual : Str} {st : Stmt} {f : Addr} {fd : FuncData} {ps ks : List Str} {g : List Value → List Value → List Value} {gV : List V → List V → List V} (F : DF K x qual st f fd) (hd : (defArgs st).defaults = [])
    (h : ∀ (kV doc pm : Value) (an : Option Addr) (cdv ct : Value) (us ws : List Value), (g us ws).length = ps.length → bindArgs (PySem.W.fnOf x qual (defArgs st) (defBody st) (defScope st) .none kV doc pm an cdv ct) ⟨us, ks.zip ws⟩ = pure (ps.zip (g us ws)))
    (hr : ∀ {vs : List V} {us : List Value} {zs : List V} {ws : List Value}, Vals vs us → Vals zs ws → Vals (gV vs zs) (g us ws)) : KBinds K fd ps ks g gV := by
  obtain ⟨oc, od, dV, kV, doc, pm, an, cdv, ct, osl, rfl, lk, hcd, z⟩ := F.ex
  cases z hd
  exact ⟨fun s us ws _ hl => .of_eq (h kV doc pm an cdv ct us ws hl), hr⟩
/-- THE RULE for a def: its body's mirror m -/
theorem fn_ok {x qual : Str} {st : Stmt} {f : Addr} {fd : FuncData} {N ps : List Str} {k : Nat} {mask : List Nat} {rk : Rk} {m : MS} (FF : DF K x qual st f fd) (S : FnScope N ps (defScope st)) (hl : ps.length ≤ N.length)
    (hbody : ∀ (cdv : Value) (A : Around) (outer : List Env) (s : Shared) (H : Hp) (E : XK) (F : Hp) (O : List (Nat × Addr)), RoomG k (A.deeper (envOfC qual (defScope st) s.heap.objs.size f cdv)) →
      SSs (cxOf (L2.CX P w) P w K mg base N qual (defScope st) f cdv A outer s H E) ⟨F, H, O, mask, rk⟩ (fun cls d _ H => E cls d H) (defBody st) m) :
    FnG P w K mg base (L2.CX P w) (k + 1) f fd ps (spOf ⟨K, mg⟩ mask rk ps.length (runFn N.length mask rk m)) := by
  refine FF.okX S (fun vs H Q E h => ?_) (fun cdv A outer s H vs Q E hr h => ?_)
  · obtain ⟨F, ds, A, hn, _⟩ := h
    rw [A.len, hn]
  · obtain ⟨F, ds, AA, hn, h⟩ := h
    exact ⟨_, hbody cdv A outer s H E F (ownOf mask vs) hr, F, startR N.length mask ds, st_start AA (by omega), fo_post AA h⟩
end

/-- a def of the text, as its callers see it -/
structure Fd (P : Program) (w : World) (K : PySem.W.Frag) (mg : Str → Option Value) (base : Heap) (x : Str) (mask : List Nat) (rk : Rk) (n k : Nat) (fn : Fn) : Prop where
  ex : ∃ f fd ps, FnG P w K mg base (L2.CX P w) k f fd ps (spOf ⟨K, mg⟩ mask rk n fn) ∧ mg x = some (.ref f) ∧ PySem.W.keepIn K (.ref f) = true ∧ Binds K fd ps []

/-! ### calls -/
def eCall (fn : Fn) (m : M (List D)) : M D := m.bind fun ds ρ => match fn ds with
  | .ok d _ => .ok d ρ
  | .exn c x _ => .exn c x ρ
  | _ => .bad
/-- the first argument is handed over -/
def eCallO (fn : Fn) (s : Nat) (m : M (List D)) : M D := fun ρ => match ρ[s]? with
  | some (.ow _) => match m ρ with
    | .ok ds ρ1 => match ρ1[s]? with
      | some (.ow d) => match fn (d :: ds) with
        | .ok r [d'] => .ok r (ρ1.set s (.ow d'))
        | .exn c x [d'] => .exn c x (ρ1.set s (.ow d'))
        | _ => .bad
      | _ => .bad
    | .exn c x ρ1 => .exn c x ρ1
    | .bad => .bad
  | _ => .bad

section
variable {g : Gx} {fx : Fx} {W : WX} {σ : L2.St} {H : Hp} {Q : VK} {ea : Bool} {m : M (List D)} {fn : Fn} {n : Nat}
theorem args_of {F H : Hp} {ds : List D} {vs : List V} (s : Sub F H) (r : RepL g F ds vs) : Args g [] F H ds vs :=
  ⟨s, r.length, fun _ _ h => (nomatch h), fun i d _ e => r.get e, fun _ _ _ h => (nomatch h), fun _ h => (nomatch h)⟩
theorem After.grow {F H F' H' : Hp} {vs : List V} {outs : List D} (A : After g [] F H vs outs F' H') : Grow F H F' H' := ⟨A.f, fun a o h => A.k a o h fun _ z => (nomatch z), A.s, A.n⟩
theorem tE_call (hn : ∀ ρ ds ρ', m ρ = .ok ds ρ' → ds.length = n) (h : tE g fx W true ea (eCall fn m) σ H Q) : tCallS (spOf g [] .cl n fn) (WE W) (tA g fx W true ea m) σ H Q := by
  obtain ⟨F, ρ, S, h⟩ := h
  refine ⟨F, ρ, S, ?_⟩
  unfold eCall M.bind at h
  cases e1 : m ρ with
  | bad => rw [e1] at h; exact h
  | exn c x r1 => rw [e1] at h; exact h
  | ok ds ρ1 =>
    rw [e1] at h
    intro vs H1 F1 G1 S1 r1
    refine ⟨F1, ds, args_of S1.s r1.rep, hn _ _ _ e1, ?_⟩
    dsimp only at h
    cases e2 : fn ds with
    | bad => rw [e2] at h; exact h.elim
    | any f => rw [e2] at h; exact h.elim
    | ok d outs =>
      rw [e2] at h
      exact fun v H' F' A r => h v H' F' (by
        have q := G1.trans (Go.of (eff := false) (ρ := ρ1) A.grow)
        rwa [Bool.or_false] at q) (S1.grow A.grow) r
    | exn c x outs =>
      rw [e2] at h
      exact fun cls dd H' F' A r => h cls dd H' F' (G1.trans (Go.of (eff := false) (ρ := ρ1) A.grow)).up (S1.grow A.grow) r
/-- the heap behind a call that was handed the slot s -/
theorem ST.handed {F F' H' : Hp} {ρ : Rho} {s : Nat} {a : Addr} {d d' : D} {vs : List V} (S : ST g fx σ H F ρ) (hs : ρ[s]? = some (.ow d)) (ha : σ[s]? = some (some (.ref a))) (h0 : vs[0]? = some (.ref a)) (A : After g [0] F H vs [d'] F' H') :
    ST g fx σ H' F' (ρ.set s (.ow d')) ∧ Go true σ F H ρ F' H' (ρ.set s (.ow d')) := by
  obtain ⟨b, e1, fa, o, n0⟩ := S.ow s d hs
  rw [ha] at e1
  cases e1
  obtain ⟨u, hu⟩ := o.there
  have hsl : s < ρ.length := (List.getElem?_eq_some_iff.mp hs).1
  obtain ⟨b, d2, e2, e3, fb, ob⟩ := A.o 0 0 rfl
  rw [h0] at e2
  cases e2
  have ed : d' = d2 := Option.some.inj e3
  subst ed
  have kk : ∀ c o, H c = some o → c ≠ a → H' c = some o := fun c o h ne => A.k c o h fun i hi q => by
    have e : i = 0 := by simpa using hi
    subst e
    rw [h0] at q
    cases q
    exact ne rfl
  have gr : ∀ {i : Nat} {x : Sl}, (ρ.set s (.ow d'))[i]? = some x → (i = s ∧ x = .ow d') ∨ (i ≠ s ∧ ρ[i]? = some x) := fun {i x} h => by
    rcases set_get h with ⟨e, q⟩ | ⟨ne, q⟩
    · exact .inl ⟨e.symm, q.symm⟩
    · exact .inr ⟨fun z => ne z.symm, q⟩
  have keep : ∀ {c : Addr} {o : HO}, F c = none → H c = some o → F' c = none := fun {c o} h1 h2 => by
    cases z : F' c with
    | none => rfl
    | some y =>
      rcases A.n c y z with q | q
      · rw [h1] at q; cases q
      · rw [h2] at q; cases q
  refine ⟨⟨A.s, S.ge.trans A.f, fun c o h => ?_, fun c o h q => ?_, by rw [List.length_set]; exact S.len, fun i e h => ?_, fun i e h => ?_, fun i j e e' c h1 h2 h3 h4 => ?_, fun i c h => ?_, S.pin⟩, ⟨A.f, fun c o h => ?_, fun i e h => ?_, fun c o h q => ?_, fun z => (nomatch z), fun c o h => ?_⟩⟩
  · rcases A.n c o h with q | q
    · exact S.nw c o q
    · exact .inr (S.fresh q)
  · refine kk c o (S.old c o h q) fun z => ?_
    subst z
    rcases n0 with n0 | n0
    · rw [h] at n0; cases n0
    · exact q s n0
  · rcases gr h with ⟨_, q⟩ | ⟨_, q⟩
    · cases q
    · obtain ⟨v, e1, r⟩ := S.cl i e q
      exact ⟨v, e1, r.mono A.f⟩
  · rcases gr h with ⟨rfl, q⟩ | ⟨ne, q⟩
    · cases q
      exact ⟨a, ha, fb, ob, n0⟩
    · obtain ⟨c, e1, fc, oc, nc⟩ := S.ow i e q
      obtain ⟨w, hw⟩ := oc.there
      have nca : c ≠ a := fun z => by
        subst z
        exact ne (S.inj i s e d c q hs e1 ha)
      exact ⟨c, e1, keep fc hw, oc.move A.f ((kk c w hw nca).trans hw.symm), nc⟩
  · rcases gr h1 with ⟨rfl, q1⟩ | ⟨n1, q1⟩
    · rcases gr h2 with ⟨rfl, q2⟩ | ⟨n2, q2⟩
      · rfl
      · exact S.inj i j d e' c hs q2 h3 h4
    · rcases gr h2 with ⟨rfl, q2⟩ | ⟨n2, q2⟩
      · exact S.inj i j e d c q1 hs h3 h4
      · exact S.inj i j e e' c q1 q2 h3 h4
  · obtain ⟨⟨e, q⟩, e2⟩ := S.par i c h
    refine ⟨?_, e2⟩
    by_cases z : s = i
    · subst z
      exact ⟨d', List.getElem?_set_self hsl⟩
    · exact ⟨e, by rw [List.getElem?_set_ne z]; exact q⟩
  · rcases A.n c o h with q | q
    · exact .inl q
    · exact .inr (.inl q)
  · rcases gr h with ⟨rfl, _⟩ | ⟨_, q⟩
    · exact ⟨d, hs⟩
    · exact ⟨e, q⟩
  · exact kk c o h fun z => q s d hs (z ▸ ha)
  · by_cases z : c = a
    · subst z
      exact ob.there
    · exact ⟨o, kk c o h z⟩
theorem tE_callO {s : Nat} (hn : ∀ ρ ds ρ', m ρ = .ok ds ρ' → ds.length = n) (h : tE g fx W true true (eCallO fn s m) σ H Q) : tCallS (spOf g [0] .cl (n + 1) fn) (WE W) (tCons (tVar s) (tA g fx W true ea m)) σ H Q := by
  obtain ⟨F, ρ, S, h⟩ := h
  unfold eCallO at h
  cases e0 : ρ[s]? with
  | none => rw [e0] at h; exact h.elim
  | some x =>
    rw [e0] at h
    cases x with
    | no => exact h.elim
    | cl d => exact h.elim
    | ow d0 =>
      dsimp only at h
      obtain ⟨a, ea, _, _, _⟩ := S.ow s d0 e0
      refine ⟨.ref a, ea, F, ρ, S, ?_⟩
      cases e1 : m ρ with
      | bad => rw [e1] at h; exact h
      | exn c x r1 => rw [e1] at h; exact h
      | ok ds ρ1 =>
        rw [e1] at h
        dsimp only at h
        intro vs H1 F1 G1 S1 r1
        cases e2 : ρ1[s]? with
        | none => rw [e2] at h; exact h.elim
        | some x =>
          rw [e2] at h
          cases x with
          | no => exact h.elim
          | cl d => exact h.elim
          | ow d =>
            dsimp only at h
            obtain ⟨b, eb, fb, ob, _⟩ := S1.ow s d e2
            rw [ea] at eb
            cases eb
            have AA : Args g [0] F1 H1 (d :: ds) (.ref a :: vs) := by
              refine ⟨S1.s, by simp [r1.length], fun i e hi he => ?_, fun i e hi he => ?_, fun i j c hi hj _ _ => ?_, fun i hi => ?_⟩
              · have z : i = 0 := by simpa using hi
                subst z
                cases he
                exact ⟨a, rfl, fb, ob⟩
              · cases i with
                | zero => exact absurd (by simp) hi
                | succ i =>
                  obtain ⟨v, e1, r⟩ := r1.rep.get (i := i) (d := e) (by simpa using he)
                  exact ⟨v, by simpa using e1, r⟩
              · have z1 : i = 0 := by simpa using hi
                have z2 : j = 0 := by simpa using hj
                rw [z1, z2]
              · have z1 : i = 0 := by simpa using hi
                subst z1
                simp
            refine ⟨F1, d :: ds, AA, by rw [List.length_cons, hn _ _ _ e1], ?_⟩
            cases e3 : fn (d :: ds) with
            | bad => rw [e3] at h; exact h.elim
            | any f => rw [e3] at h; exact h.elim
            | ok r outs =>
              rw [e3] at h
              match outs, h with
              | [d'], h =>
                intro v H' F' A r'
                obtain ⟨S2, G2⟩ := S1.handed e2 ea rfl A
                exact h v H' F' (by
                  have q := G1.trans G2
                  rwa [Bool.or_true] at q) S2 r'
              | [], h => exact h.elim
              | _ :: _ :: _, h => exact h.elim
            | exn c x outs =>
              rw [e3] at h
              match outs, h with
              | [d'], h =>
                intro cls dd H' F' A r'
                obtain ⟨S2, G2⟩ := S1.handed e2 ea rfl A
                exact h cls dd H' F' (G1.trans G2).up S2 r'
              | [], h => exact h.elim
              | _ :: _ :: _, h => exact h.elim
end

section
variable {X : Cx} {fx : Fx} {W : WX} {ea : Bool} {x : Str} {p pos : Pos} {e : Expr} {es : List Expr} {m : M (List D)} {fn : Fn} {n k : Nat}
theorem se_call (C : Fd X.prog X.w X.K X.mg X.base x [] .cl n k fn) (hr : RoomG k X.A) (tk : Takes X W) (ha : SA X fx W true ea (e :: es) m) (hn : ∀ ρ ds ρ', m ρ = .ok ds ρ' → ds.length = n) (hg : Gl X x := by rfl)
    (hdb : (x == ("__debug__" : Str)) = false := by decide) (he : starEach (e :: es) X.env = (false, eval e X.env) :: starEach es X.env := by rfl) (hpl : (backTo pos (starEach es X.env)).any (·.1) = false := by rfl) :
    SE X fx W true ea (.Call (.Name x p) (e :: es) [] pos) (eCall fn m) := by
  obtain ⟨f, fd, ps, F, hm, hk, hb⟩ := C.ex
  exact PE.imp (pe_callG F hr hg hm hk hb (fun σ => passAt tk σ) ha hdb he hpl) fun σ H Q q => tE_call hn q
/-- f(own, ..) -/
theorem se_callO (s : Nat) {y : Str} {py : Pos} (C : Fd X.prog X.w X.K X.mg X.base x [0] .cl (n + 1) k fn) (hr : RoomG k X.A) (tk : Takes X W) (ha : SA X fx W true ea es m) (hn : ∀ ρ ds ρ', m ρ = .ok ds ρ' → ds.length = n) (hg : Gl X x := by rfl)
    (hN : X.N[s]? = some y := by rfl) (hv : Vis X.env.scope y := by first | exact Or.inl rfl | exact Or.inr (Or.inl rfl) | exact Or.inr (Or.inr rfl)) (hd : (y == ("__debug__" : Str)) = false := by decide) (hcd : (y == ("__classdict__" : Str)) = false := by decide)
    (hdb : (x == ("__debug__" : Str)) = false := by decide) (he : starEach (.Name y py :: es) X.env = (false, eval (.Name y py) X.env) :: starEach es X.env := by rfl) (hpl : (backTo pos (starEach es X.env)).any (·.1) = false := by rfl) :
    SE X fx W true true (.Call (.Name x p) (.Name y py :: es) [] pos) (eCallO fn s m) := by
  obtain ⟨f, fd, ps, F, hm, hk, hb⟩ := C.ex
  exact PE.imp (pe_callG F hr hg hm hk hb (fun σ => passAt tk σ) (pa_cons (pv s hN hv hd hcd) ha he) hdb he hpl) fun σ H Q q => tE_callO hn q
end
end DL

set_option Elab.async false
set_option linter.all false
set_option maxRecDepth 100000
set_option maxHeartbeats 4000000
namespace DL
open PySem PySem.Spec PyProof.Rows L2

/-! ### the frame's own lists and dicts -/
def SF (X : Cx) (fx : Fx) (W : WX) (eff : Bool) (e : Expr) (m : M D) : Prop := PE X e (tF (gx X) fx W eff m)
/-- an own slot is let go of: its object is a new value -/
def eMove (i : Nat) : M D := fun ρ => match ρ[i]? with
  | some (.ow d) => .ok d (ρ.set i .no)
  | _ => .bad
section
variable {g : Gx} {fx : Fx} {W : WX} {σ : L2.St} {H F : Hp} {ρ : Rho} {Q : VK} {ea : Bool} {m : M D} {E : Ends}
theorem ST.ow_ne (S : ST g fx σ H F ρ) {p : Addr} (hp : H p = none) : ∀ (i : Nat) e, ρ[i]? = some (.ow e) → σ[i]? ≠ some (some (.ref p)) := fun i e hi hs => by
  obtain ⟨a, e1, _, o, _⟩ := S.ow i e hi
  rw [hs] at e1
  cases e1
  obtain ⟨u, hu⟩ := o.there
  rw [hp] at hu; cases hu
theorem Go.new {eff : Bool} {F' H' : Hp} {ρ' : Rho} (G : Go eff σ F H ρ F' H' ρ') {p : Addr} (hp : H' p = none) : H p = none := by
  cases z : H p with
  | none => rfl
  | some u =>
    obtain ⟨w, hw⟩ := G.d p u z
    rw [hp] at hw; cases hw
theorem tF_lst {m : M (List D)} (h : tF g fx W ea (eN mkLst m) σ H Q) : tLst (tA g fx W true ea m) σ H Q := by
  obtain ⟨F, ρ, S, h⟩ := h
  refine ⟨F, ρ, S, ?_⟩
  unfold eN M.bind at h
  cases e1 : m ρ with
  | bad => rw [e1] at h; exact h
  | exn c x r1 => rw [e1] at h; exact h
  | ok ds ρ1 =>
    rw [e1] at h
    intro vs H1 F1 G1 S1 r1
    dsimp only [M.lift, mkLst] at h
    by_cases q : ds.length ≤ 16777216
    · rw [if_pos q] at h
      refine ⟨by rw [r1.length, sizeLine_eq]; exact q, fun p hp => ?_⟩
      have fp : F1 p = none := by
        cases z : F1 p with
        | none => rfl
        | some u => rw [S1.s p u z] at hp; cases hp
      refine h p _ F1 ?_ (S1.grow (Grow.big S1.s hp)) fp ⟨vs, upd_same, r1.rep⟩ (S1.fresh hp) (S1.ow_ne hp) (.inl (G1.new hp))
      have q := G1.trans (Go.of (eff := false) (ρ := ρ1) (Grow.big S1.s hp (o := .lst vs)))
      rwa [Bool.or_false] at q
    · rw [if_neg q] at h; exact h.elim
theorem tF_dnew (h : tF g fx W false (eC (.dic [])) σ H Q) : tDNewK σ H Q := by
  obtain ⟨F, ρ, S, h⟩ := h
  intro p hp
  have fp : F p = none := by
    cases z : F p with
    | none => rfl
    | some u => rw [S.s p u z] at hp; cases hp
  exact h p _ F (Go.of (Grow.big S.s hp)) (S.grow (Grow.big S.s hp)) fp ⟨[], upd_same, by simp only [RepK]⟩ (S.fresh hp) (S.ow_ne hp) (.inl hp)
theorem Own.rep {a : Addr} {xs : List D} {F' : Hp} (o : Own g F H a (.lst xs)) (f : Sub F F') (e : F' a = H a) : Rep g F' (.lst xs) (.ref a) := by
  obtain ⟨vs, e1, r⟩ := o
  simp only [Rep]
  exact ⟨a, vs, rfl, e.trans e1, r.mono f⟩
/-- a dict is given to all, and stands for good -/
theorem ST.giveD {D : Addr} {o : HO} (S : ST g fx σ H F ρ) (hF : F D = none) (h0 : fx.H0 D = none) (hn : ∀ (i : Nat) d, ρ[i]? = some (.ow d) → σ[i]? ≠ some (some (.ref D))) : ST g fx σ (upd H D o) (upd F D o) ρ := by
  have f : Sub F (upd F D o) := fun a u h => by
    rw [upd_ne (ne_of_none h hF)]
    exact h
  refine ⟨fun a u h => ?_, S.ge.trans f, fun a u h => ?_, fun a u h k => ?_, S.len, fun i d h => ?_, fun i d h => ?_, S.inj, S.par, S.pin⟩
  · by_cases e : a = D
    · subst e; rw [upd_same] at h ⊢; exact h
    · rw [upd_ne e] at h ⊢; exact S.s a u h
  · by_cases e : a = D
    · subst e; exact .inr h0
    · rw [upd_ne e] at h; exact S.nw a u h
  · rw [upd_ne (ne_of_none h h0)]
    exact S.old a u h k
  · obtain ⟨v, e, r⟩ := S.cl i d h
    exact ⟨v, e, r.mono f⟩
  · obtain ⟨a, e, fa, ow, n⟩ := S.ow i d h
    have ne : a ≠ D := fun z => hn i d h (z ▸ e)
    exact ⟨a, e, by rw [upd_ne ne]; exact fa, ow.move f (upd_ne ne), n⟩
/-- given to all -/
theorem tE_fr (h : tE g fx W true true m σ H Q) : tPLock (tF g fx W ea m) σ H Q := by
  obtain ⟨F, ρ, S, h⟩ := h
  refine ⟨F, ρ, S, ?_⟩
  cases e1 : m ρ with
  | bad => rw [e1] at h; exact h
  | exn c x r1 => rw [e1] at h; exact h
  | ok d ρ1 =>
    rw [e1] at h
    intro a H' F' G S' fa o h0 hn ha
    obtain ⟨u, hu⟩ := o.there
    have nn : ∀ w : HO, ∀ b x, upd F' a w b = some x → F b = some x ∨ H b = none ∨ ∃ (i : Nat) (d : D), ρ[i]? = some (.ow d) ∧ σ[i]? = some (some (.ref b)) := fun w b x hb => by
      by_cases z : b = a
      · subst z
        exact .inr ha
      · rw [upd_ne z] at hb
        exact G.n b x hb
    have f : ∀ w : HO, Sub F' (upd F' a w) := fun w b x hb => by
      rw [upd_ne (ne_of_none hb fa)]
      exact hb
    cases d with
    | lst xs =>
      have S2 := S'.give hu fa h0 hn
      exact .inl (h (.ref a) H' (upd F' a u) ⟨G.f.trans (f u), nn u, G.o, G.k, fun z => (nomatch z), G.d⟩ S2 (o.rep (f u) (by rw [upd_same]; exact hu.symm)))
    | dic xs =>
      obtain ⟨vs, e2, r⟩ := o
      refine .inr ⟨a, .dK vs, e2, trivial, fun od => ?_⟩
      refine h (.ref a) (upd H' a (.frz od (.dK vs))) (upd F' a (.frz od (.dK vs))) ⟨G.f.trans (f _), nn _, G.o, fun b x hb k => ?_, fun z => (nomatch z), fun b x hb => ?_⟩ (S'.giveD fa h0 hn) ?_
      · have ne : b ≠ a := fun z => by
          subst z
          rcases ha with z | ⟨i, d, z1, z2⟩
          · rw [z] at hb; cases hb
          · exact k i d z1 z2
        rw [upd_ne ne]
        exact G.k b x hb k
      · by_cases z : b = a
        · subst z; exact ⟨_, upd_same⟩
        · rw [upd_ne z]; exact G.d b x hb
      · show Rep g _ _ _
        simp only [Rep]
        exact ⟨a, vs, rfl, ⟨od, upd_same⟩, r.mono (f _)⟩
    | _ => exact o.elim
theorem set_no {i j : Nat} {x : Sl} (h : (ρ.set i .no)[j]? = some x) (hx : x ≠ .no) : i ≠ j ∧ ρ[j]? = some x := by
  rcases set_get h with ⟨_, q⟩ | q
  · exact absurd q.symm hx
  · exact q
theorem ST.drop (S : ST g fx σ H F ρ) {i : Nat} (hi : fx.ow.contains i = false) : ST g fx σ H F (ρ.set i .no) where
  s := S.s
  ge := S.ge
  nw := S.nw
  old := S.old
  len := by rw [List.length_set]; exact S.len
  cl := fun j d h => S.cl j d (set_no h (by intro z; cases z)).2
  ow := fun j d h => S.ow j d (set_no h (by intro z; cases z)).2
  inj := fun j k d e a h1 h2 h3 h4 => S.inj j k d e a (set_no h1 (by intro z; cases z)).2 (set_no h2 (by intro z; cases z)).2 h3 h4
  par := fun j a h => by
    have hj := S.pin j a h
    have ne : i ≠ j := fun e => by
      subst e
      have : fx.ow.contains i = true := by simpa using hj
      rw [hi] at this; cases this
    obtain ⟨⟨d, e⟩, e2⟩ := S.par j a h
    exact ⟨⟨d, by rw [List.getElem?_set_ne ne]; exact e⟩, e2⟩
  pin := S.pin
theorem tF_move {i : Nat} (hi : fx.ow.contains i = false) (h : tF g fx W true (eMove i) σ H Q) : tVar i σ H Q := by
  obtain ⟨F, ρ, S, h⟩ := h
  unfold eMove at h
  cases e : ρ[i]? with
  | none => rw [e] at h; exact h.elim
  | some s =>
    rw [e] at h
    cases s with
    | no => exact h.elim
    | cl d => exact h.elim
    | ow d =>
      obtain ⟨a, e1, fa, o, n⟩ := S.ow i d e
      have n' : fx.H0 a = none := by
        rcases n with n | n
        · exact n
        · have := S.pin i a n
          have q : fx.ow.contains i = true := by simpa using this
          rw [hi] at q; cases q
      refine ⟨.ref a, e1, h a H F ⟨Sub.refl _, fun _ _ h => .inl h, fun j d h => ⟨d, (set_no h (by intro z; cases z)).2⟩, fun _ _ h _ => h, fun z => (nomatch z), fun _ o h => ⟨o, h⟩⟩ (S.drop hi) fa o n' (fun j e' hj hs => ?_) (.inr ⟨i, d, e, e1⟩)⟩
      obtain ⟨ne, hj⟩ := set_no hj (by intro z; cases z)
      exact ne (S.inj i j d e' a e hj e1 hs)
/-- an own value is stored -/
theorem ST.setO (S : ST g fx σ H F ρ) {i : Nat} {d : D} {a : Addr} (hi : fx.ow.contains i = false) (fa : F a = none) (o : Own g F H a d) (h0 : fx.H0 a = none) (hn : ∀ (i : Nat) e, ρ[i]? = some (.ow e) → σ[i]? ≠ some (some (.ref a))) : ST g fx (σ.set i (some (.ref a))) H F (ρ.set i (.ow d)) where
  s := S.s
  ge := S.ge
  nw := S.nw
  old := S.old
  len := by rw [List.length_set, List.length_set]; exact S.len
  cl := fun j e h => by
    rcases set_get h with ⟨rfl, q⟩ | ⟨ne, q⟩
    · cases q
    · obtain ⟨w, e1, r1⟩ := S.cl j e q
      exact ⟨w, by rw [List.getElem?_set_ne ne]; exact e1, r1⟩
  ow := fun j e h => by
    rcases set_get h with ⟨rfl, q⟩ | ⟨ne, q⟩
    · cases q
      have hl : i < σ.length := by
        rw [S.len]
        have := (List.getElem?_eq_some_iff.mp h).1
        simpa using this
      exact ⟨a, by rw [List.getElem?_set_self hl], fa, o, .inl h0⟩
    · obtain ⟨b, e1, r1⟩ := S.ow j e q
      exact ⟨b, by rw [List.getElem?_set_ne ne]; exact e1, r1⟩
  inj := fun j k d e b h1 h2 h3 h4 => by
    rcases set_get h1 with ⟨rfl, q1⟩ | ⟨n1, q1⟩
    · rcases set_get h2 with ⟨rfl, q2⟩ | ⟨n2, q2⟩
      · rfl
      · have hl : i < σ.length := by
          rw [S.len]
          have := (List.getElem?_eq_some_iff.mp h1).1
          simpa using this
        rw [List.getElem?_set_self hl] at h3
        cases h3
        rw [List.getElem?_set_ne n2] at h4
        exact absurd h4 (hn k e q2)
    · rw [List.getElem?_set_ne n1] at h3
      rcases set_get h2 with ⟨rfl, q2⟩ | ⟨n2, q2⟩
      · have hl : i < σ.length := by
          rw [S.len]
          have := (List.getElem?_eq_some_iff.mp h2).1
          simpa using this
        rw [List.getElem?_set_self hl] at h4
        cases h4
        exact absurd h3 (hn j d q1)
      · rw [List.getElem?_set_ne n2] at h4
        exact S.inj j k d e b q1 q2 h3 h4
  par := fun j b h => by
    have hj := S.pin j b h
    have ne : i ≠ j := fun e => by
      subst e
      have : fx.ow.contains i = true := by simpa using hj
      rw [hi] at this; cases this
    obtain ⟨⟨d, e⟩, e2⟩ := S.par j b h
    exact ⟨⟨d, by rw [List.getElem?_set_ne ne]; exact e⟩, by rw [List.getElem?_set_ne ne]; exact e2⟩
  pin := S.pin
def toOw (i : Nat) (d : D) : MS := fun ρ => .nx (ρ.set i (.ow d))
/-- x = .., x the frame's own -/
def sAsgO (i : Nat) (m : M D) : MS := sDo m (toOw i)
theorem asgO_end {F' H' : Hp} {ρ' : Rho} {i : Nat} {a : Addr} {d : D} {eff : Bool} (hi : fx.ow.contains i = false) (G : Go eff σ F H ρ F' H' ρ') (S' : ST g fx σ H' F' ρ') (fa : F' a = none) (o : Own g F' H' a d) (h0 : fx.H0 a = none) (hn : ∀ (i : Nat) e, ρ'[i]? = some (.ow e) → σ[i]? ≠ some (some (.ref a)))
    (ha : H a = none ∨ ∃ (i : Nat) (e : D), ρ[i]? = some (.ow e) ∧ σ[i]? = some (some (.ref a))) : Gs σ F H ρ (σ.set i (some (.ref a))) F' H' (ρ'.set i (.ow d)) where
  f := G.gs.f
  n := G.gs.n
  k := G.gs.k
  o := fun b ⟨j, e, h1, h2⟩ => by
    rcases set_get h1 with ⟨rfl, q⟩ | ⟨ne, q⟩
    · have hl : i < σ.length := by
        rw [S'.len]
        have := (List.getElem?_eq_some_iff.mp h1).1
        simpa using this
      rw [List.getElem?_set_self hl] at h2
      cases h2
      rcases ha with ha | ⟨k, e', k1, k2⟩
      · exact .inr ha
      · exact .inl ⟨k, e', k1, k2⟩
    · rw [List.getElem?_set_ne ne] at h2
      exact G.gs.o b ⟨j, e, q, h2⟩
  d := G.gs.d
theorem tS_asgO {i : Nat} (hi : fx.ow.contains i = false) (h : tS g fx W (sAsgO i m) E σ H) : tAsg (tF g fx W ea m) (gName i) E σ H := by
  obtain ⟨F, ρ, S, h⟩ := h
  refine ⟨F, ρ, S, ?_⟩
  unfold sAsgO sDo at h
  cases e : m ρ with
  | bad => rw [e] at h; exact h
  | exn c x r =>
    rw [e] at h
    exact xgs h
  | ok d ρ1 =>
    rw [e] at h
    exact fun a H' F' G S' fa o h0 hn ha => h (σ.set i (some (.ref a))) H' F' (asgO_end hi G S' fa o h0 hn ha) (S'.setO hi fa o h0 hn)
theorem tS_retF (hk : fx.rk = .fr) (h : tS g fx W (sRet m) E σ H) : tRet (tF g fx W ea m) E σ H := by
  obtain ⟨F, ρ, S, h⟩ := h
  refine ⟨F, ρ, S, ?_⟩
  unfold sRet sDo at h
  cases e : m ρ with
  | bad => rw [e] at h; exact h
  | exn c x r =>
    rw [e] at h
    exact xgs h
  | ok d ρ1 =>
    rw [e] at h
    exact fun a H' F' G S' fa o h0 hn ha => h (.ref a) σ H' F' S' (by unfold RV; rw [hk]; exact ⟨a, rfl, fa, o, h0⟩)
/-- a call that hands back a new list or dict -/
theorem tF_call {fn : Fn} {n : Nat} {m : M (List D)} (hn : ∀ ρ ds ρ', m ρ = .ok ds ρ' → ds.length = n) (h : tF g fx W ea (eCall fn m) σ H Q) : tCallS (spOf g [] .fr n fn) (WE W) (tA g fx W true ea m) σ H Q := by
  obtain ⟨F, ρ, S, h⟩ := h
  refine ⟨F, ρ, S, ?_⟩
  unfold eCall M.bind at h
  cases e1 : m ρ with
  | bad => rw [e1] at h; exact h
  | exn c x r1 => rw [e1] at h; exact h
  | ok ds ρ1 =>
    rw [e1] at h
    intro vs H1 F1 G1 S1 r1
    refine ⟨F1, ds, args_of S1.s r1.rep, hn _ _ _ e1, ?_⟩
    dsimp only at h
    cases e2 : fn ds with
    | bad => rw [e2] at h; exact h.elim
    | any f => rw [e2] at h; exact h.elim
    | ok d outs =>
      rw [e2] at h
      intro v H' F' A ⟨a, ev, fa, o, ha⟩
      subst ev
      refine h a H' F' (by
        have q := G1.trans (Go.of (eff := false) (ρ := ρ1) A.grow)
        rwa [Bool.or_false] at q) (S1.grow A.grow) fa o (S1.fresh ha) (S1.ow_ne ha) (.inl (G1.new ha))
    | exn c x outs =>
      rw [e2] at h
      exact fun cls dd H' F' A r => h cls dd H' F' (G1.trans (Go.of (eff := false) (ρ := ρ1) A.grow)).up (S1.grow A.grow) r
/-- the own object of slot i is written -/
theorem ST.put (S : ST g fx σ H F ρ) {i : Nat} {d d' : D} {a : Addr} {o : HO} (hs : ρ[i]? = some (.ow d)) (ha : σ[i]? = some (some (.ref a))) (ob : Own g F (upd H a o) a d') :
    ST g fx σ (upd H a o) F (ρ.set i (.ow d')) ∧ Go true σ F H ρ F (upd H a o) (ρ.set i (.ow d')) := by
  obtain ⟨b, e1, fa, ow, n0⟩ := S.ow i d hs
  rw [ha] at e1
  cases e1
  obtain ⟨u, hu⟩ := ow.there
  have hsl : i < ρ.length := (List.getElem?_eq_some_iff.mp hs).1
  have kk : ∀ c w, H c = some w → c ≠ a → upd H a o c = some w := fun c w h ne => by rw [upd_ne ne]; exact h
  have gr : ∀ {j : Nat} {x : Sl}, (ρ.set i (.ow d'))[j]? = some x → (j = i ∧ x = .ow d') ∨ (j ≠ i ∧ ρ[j]? = some x) := fun {j x} h => by
    rcases set_get h with ⟨e, q⟩ | ⟨ne, q⟩
    · exact .inl ⟨e.symm, q.symm⟩
    · exact .inr ⟨fun z => ne z.symm, q⟩
  refine ⟨⟨fun c w h => kk c w (S.s c w h) (ne_of_none h fa), S.ge, S.nw, fun c w h q => ?_, by rw [List.length_set]; exact S.len, fun j e h => ?_, fun j e h => ?_, fun j k e e' c h1 h2 h3 h4 => ?_, fun j c h => ?_, S.pin⟩, ⟨Sub.refl _, fun _ _ h => .inl h, fun j e h => ?_, fun c w h q => ?_, fun z => (nomatch z), fun c w h => ?_⟩⟩
  · refine kk c w (S.old c w h q) fun z => ?_
    subst z
    rcases n0 with n0 | n0
    · rw [h] at n0; cases n0
    · exact q i n0
  · rcases gr h with ⟨_, q⟩ | ⟨_, q⟩
    · cases q
    · exact S.cl j e q
  · rcases gr h with ⟨rfl, q⟩ | ⟨ne, q⟩
    · cases q
      exact ⟨a, ha, fa, ob, n0⟩
    · obtain ⟨c, e1, fc, oc, nc⟩ := S.ow j e q
      have nca : c ≠ a := fun z => by
        subst z
        exact ne (S.inj j i e d c q hs e1 ha)
      exact ⟨c, e1, fc, oc.move (Sub.refl _) (upd_ne nca), nc⟩
  · rcases gr h1 with ⟨rfl, q1⟩ | ⟨n1, q1⟩
    · rcases gr h2 with ⟨rfl, q2⟩ | ⟨n2, q2⟩
      · rfl
      · exact S.inj j k d e' c hs q2 h3 h4
    · rcases gr h2 with ⟨rfl, q2⟩ | ⟨n2, q2⟩
      · exact S.inj j k e d c q1 hs h3 h4
      · exact S.inj j k e e' c q1 q2 h3 h4
  · obtain ⟨⟨e, q⟩, e2⟩ := S.par j c h
    refine ⟨?_, e2⟩
    by_cases z : i = j
    · subst z
      exact ⟨d', List.getElem?_set_self hsl⟩
    · exact ⟨e, by rw [List.getElem?_set_ne z]; exact q⟩
  · rcases gr h with ⟨rfl, _⟩ | ⟨_, q⟩
    · exact ⟨d, hs⟩
    · exact ⟨e, q⟩
  · exact kk c w h fun z => q i d hs (z ▸ ha)
  · by_cases z : c = a
    · subst z
      exact ⟨o, upd_same⟩
    · exact ⟨w, kk c w h z⟩
/-- the slot's own list changed by what m gives -/
def owLst (x : Option Sl) : R (List D) := match x with
  | some (.ow (.lst xs)) => .ok xs
  | _ => .bad
def owDic (x : Option Sl) : R (List (Key × D)) := match x with
  | some (.ow (.dic xs)) => .ok xs
  | _ => .bad
theorem owLst_eq {x : Option Sl} {xs : List D} (h : owLst x = .ok xs) : x = some (.ow (.lst xs)) := by
  unfold owLst at h
  split at h
  · cases h; rfl
  · cases h
theorem owDic_eq {x : Option Sl} {xs : List (Key × D)} (h : owDic x = .ok xs) : x = some (.ow (.dic xs)) := by
  unfold owDic at h
  split at h
  · cases h; rfl
  · cases h
/-- x.append(e) -/
def sApp (i : Nat) (m : M D) : MS := fun ρ => match owLst ρ[i]? with
  | .bad => .bad
  | .ok _ => sDo m (fun d ρ1 => match owLst ρ1[i]? with
    | .ok xs => if xs.length < 16777216 then .nx (ρ1.set i (.ow (.lst (xs ++ [d])))) else .bad
    | .bad => .bad) ρ
theorem tS_app {i : Nat} (h : tS g fx W (sApp i m) E σ H) : tDrop (tBM g.K "list" rAppend (tVar i) (tCons (tE g fx W true ea m) tNil)) E σ H := by
  obtain ⟨F, ρ, S, h⟩ := h
  unfold sApp at h
  cases e0 : owLst ρ[i]? with
  | bad => rw [e0] at h; exact h.elim
  | ok ys =>
    rw [e0] at h
    obtain ⟨a, ea', fa, ⟨ws, hw, _⟩, _⟩ := S.ow i _ (owLst_eq e0)
    refine ⟨.ref a, ea', .inl ⟨rfl, ws, SqL.of hw⟩, F, ρ, S, ?_⟩
    dsimp only [sDo] at h
    cases e : m ρ with
    | bad => rw [e] at h; exact h
    | exn c x r =>
      rw [e] at h
      exact xgs h
    | ok d ρ1 =>
      rw [e] at h
      intro v H1 F1 G1 S1 r1
      dsimp only at h
      cases e2 : owLst ρ1[i]? with
      | bad => rw [e2] at h; exact h.elim
      | ok xs =>
        rw [e2] at h
        dsimp only at h
        have hi := owLst_eq e2
        obtain ⟨b, eb, fb, ⟨vs, hv, l⟩, _⟩ := S1.ow i _ hi
        rw [ea'] at eb
        cases eb
        by_cases q : xs.length < 16777216
        · rw [if_pos q] at h
          obtain ⟨S2, G2⟩ := S1.put (o := .lst (vs ++ [v])) (d' := .lst (xs ++ [d])) hi ea' ⟨vs ++ [v], upd_same, l.append (RepL.one r1)⟩
          exact ⟨a, vs, v, rfl, rfl, hv, by rw [l.length, sizeLine_eq]; exact q, h σ _ F1 (G1.gs.trans G2.gs) S2⟩
        · rw [if_neg q] at h; exact h.elim
/-- x[k] = e, x an own list -/
def sSetI (i : Nat) (k m : M D) : MS := sDo m fun d ρ1 => match owLst ρ1[i]? with
  | .bad => .bad
  | .ok _ => sDo k (fun n ρ2 => match owLst ρ2[i]?, n with
    | .ok xs, .int j => (match ixN xs.length j with
      | some q => .nx (ρ2.set i (.ow (.lst (xs.set q d))))
      | none => .bad)
    | _, _ => .bad) ρ1
theorem tS_setI {i : Nat} {k : M D} {eb : Bool} (h : tS g fx W (sSetI i k m) E σ H) : tAsg (tE g fx W true ea m) (gSub (tVar i) (tE g fx W true eb k) rSetL) E σ H := by
  obtain ⟨F, ρ, S, h⟩ := h
  refine ⟨F, ρ, S, ?_⟩
  unfold sSetI sDo at h
  cases e : m ρ with
  | bad => rw [e] at h; exact h
  | exn c x r =>
    rw [e] at h
    exact xgs h
  | ok d ρ1 =>
    rw [e] at h
    intro v H1 F1 G1 S1 r1
    dsimp only at h
    cases e0 : owLst ρ1[i]? with
    | bad => rw [e0] at h; exact h.elim
    | ok ys =>
      rw [e0] at h
      obtain ⟨a, ea', fa, ⟨ws, hw, _⟩, _⟩ := S1.ow i _ (owLst_eq e0)
      refine ⟨.ref a, ea', F1, ρ1, S1, ?_⟩
      dsimp only at h
      cases e2 : k ρ1 with
      | bad => rw [e2] at h; exact h
      | exn c x r =>
        rw [e2] at h
        exact xst G1 (xgs h)
      | ok n ρ2 =>
        rw [e2] at h
        intro u H2 F2 G2 S2 r2
        dsimp only at h
        cases e3 : owLst ρ2[i]? with
        | bad => rw [e3] at h; exact h.elim
        | ok xs =>
          rw [e3] at h
          have hi := owLst_eq e3
          obtain ⟨b, eb', fb, ⟨vs, hv, l⟩, _⟩ := S2.ow i _ hi
          rw [ea'] at eb'
          cases eb'
          cases n with
          | int j =>
            dsimp only at h
            have ek := vr_int r2
            subst ek
            cases e4 : ixN xs.length j with
            | none => rw [e4] at h; exact h.elim
            | some q =>
              rw [e4] at h
              obtain ⟨S3, G3⟩ := S2.put (o := .lst (vs.set q v)) (d' := .lst (xs.set q d)) hi ea' ⟨vs.set q v, upd_same, RepL.set q l (Rep.mono G2.f r1)⟩
              exact ⟨a, vs, j, q, rfl, rfl, hv, by rw [l.length]; exact e4, h σ _ F2 ((G1.gs.trans G2.gs).trans G3.gs) S3⟩
          | _ => exact h.elim
/-- a, b = e1, e2 -/
def sPar (i j : Nat) (m : M (List D)) : MS := sDo m fun ds ρ => match ds with
  | [a, b] => .nx ((ρ.set i (.cl a)).set j (.cl b))
  | _ => .bad
theorem gs_set {i : Nat} {v : V} {d : D} : Gs σ F H ρ (σ.set i (some v)) F H (ρ.set i (.cl d)) := Gs.to (is := [i]) NoOw.set Touch.set fun k hk e q => by
  have z : k = i := by simpa using hk
  subst z
  rcases set_get q with ⟨_, w⟩ | ⟨w, _⟩
  · cases w
  · exact w rfl
theorem tS_par {i j : Nat} {m : M (List D)} (hi : fx.ow.contains i = false) (hj : fx.ow.contains j = false) (h : tS g fx W (sPar i j m) E σ H) : tPar i j (tA g fx W true ea m) E σ H := by
  obtain ⟨F, ρ, S, h⟩ := h
  refine ⟨F, ρ, S, ?_⟩
  unfold sPar sDo at h
  cases e : m ρ with
  | bad => rw [e] at h; exact h
  | exn c x r =>
    rw [e] at h
    exact xgs h
  | ok ds ρ1 =>
    rw [e] at h
    intro vs H1 F1 G1 S1 r1
    match ds, h, r1 with
    | [a, b], h, r1 =>
      obtain ⟨v, r, rfl, ra, w, r', rfl, rb, rfl⟩ := r1
      refine ⟨v, w, rfl, h _ H1 F1 ((G1.gs.trans gs_set).trans gs_set) ((S1.set hi ra).set hj rb)⟩
    | [], h, r1 => exact h.elim
    | [_], h, r1 => exact h.elim
    | _ :: _ :: _ :: _, h, r1 => exact h.elim
end
section
variable {X : Cx} {fx : Fx} {W : WX} {ea eb ei ec ee : Bool} {m k : M D} {ml : M (List D)} {pos spos py : Pos} {es : List Expr} {e a b : Expr} {y : Str}
theorem sf_lst (h : SA X fx W true ea es ml) : SF X fx W ea (.List es pos) (eN mkLst ml) := PE.imp (pe_lst h) fun σ H Q q => tF_lst q
theorem sf_dnew : SF X fx W false (.Dict [] [] pos) (eC (.dic [])) := PE.imp pe_dnewK fun σ H Q q => tF_dnew q
theorem se_fr (h : SF X fx W ea e m) : SE X fx W true true e m := PE.imp (pe_plock h) fun σ H Q q => tE_fr q
theorem sf_move (i : Nat) (hN : X.N[i]? = some y := by rfl) (hi : fx.ow.contains i = false := by rfl) (hv : Vis X.env.scope y := by first | exact Or.inl rfl | exact Or.inr (Or.inl rfl) | exact Or.inr (Or.inr rfl)) (hd : (y == ("__debug__" : Str)) = false := by decide)
    (hcd : (y == ("__classdict__" : Str)) = false := by decide) : SF X fx W true (.Name y pos) (eMove i) := PE.imp (pe_var hN hv hd hcd) fun σ H Q q => tF_move hi q
theorem sf_call {x : Str} {p : Pos} {fn : Fn} {n j : Nat} (C : Fd X.prog X.w X.K X.mg X.base x [] .fr n j fn) (hr : RoomG j X.A) (tk : Takes X W) (ha : SA X fx W true ea (e :: es) ml) (hn : ∀ ρ ds ρ', ml ρ = .ok ds ρ' → ds.length = n) (hg : Gl X x := by rfl)
    (hdb : (x == ("__debug__" : Str)) = false := by decide) (he : starEach (e :: es) X.env = (false, eval e X.env) :: starEach es X.env := by rfl) (hpl : (backTo pos (starEach es X.env)).any (·.1) = false := by rfl) :
    SF X fx W ea (.Call (.Name x p) (e :: es) [] pos) (eCall fn ml) := by
  obtain ⟨f, fd, ps, F, hm, hk, hb⟩ := C.ex
  exact PE.imp (pe_callG F hr hg hm hk hb (fun σ => passAt tk σ) ha hdb he hpl) fun σ H Q q => tF_call hn q
theorem ss_asgO (i : Nat) (hN : X.N.Nodup) (he : SF X fx W ea e m) (hi : X.N[i]? = some y := by rfl) (ho : fx.ow.contains i = false := by rfl) (hx : Loc X.env.scope y := by first | exact .inl rfl | exact .inr rfl) (hs : swapsWith e (some (.Name y py)) pos.line X.env = pure false := by rfl)
    (hf : X.fn y = true ∨ X.env.scope.names.lookup y = some .local := by first | exact .inl rfl | exact .inr rfl) : SS X fx W (.Assign [.Name y py] e pos) (sAsgO i m) := PS.imp (ps_set hN hi hx he hs hf) fun E σ H q => tS_asgO ho q
theorem ss_retF (he : SF X fx W ea e m) (hk : fx.rk = .fr := by rfl) : SS X fx W (.Return (some e) pos) (sRet m) := PS.imp (ps_ret he) fun E σ H q => tS_retF hk q
theorem ss_app (i : Nat) {apos cpos : Pos} (he : SE X fx W true ea e m) (hN : X.N[i]? = some y := by rfl) (hv : Vis X.env.scope y := by first | exact Or.inl rfl | exact Or.inr (Or.inl rfl) | exact Or.inr (Or.inr rfl)) (hd : (y == ("__debug__" : Str)) = false := by decide) (hcd : (y == ("__classdict__" : Str)) = false := by decide)
    (h1 : starEach [e] X.env = (false, eval e X.env) :: starEach [] X.env := by rfl) (hbase : attributeBase (.Name y py) "append" X.env (eval (.Name y py) X.env) = eval (.Name y py) X.env := by rfl)
    (hfew : ((backTo cpos (starEach [e] X.env)).all (fun x => !x.1) && (backToKw cpos (keywordEach [] X.env)).all (fun x => x.1.isSome) && decide (([e] : List Expr).length + ([] : List Keyword).length + (if ([] : List Keyword).isEmpty then 0 else 1) < 30)) = true := by rfl)
    (hline : (apos.endLine == cpos.line) = true := by rfl) (hplain : (backTo cpos (starEach [] X.env)).any (·.1) = false := by rfl) (hsw : swapsWith (.Call (.Attribute (.Name y py) "append" apos) [e] [] cpos) none spos.line X.env = pure false := by rfl) :
    SS X fx W (.Expr (.Call (.Attribute (.Name y py) "append" apos) [e] [] cpos) spos) (sApp i m) :=
  PS.imp (ps_expr (pe_bm PySem.F.plainAttrs_list PySem.F.slot_list_append PySem.F.type_list_append mt_append (pv i hN hv hd hcd) (pa_cons he pa_nil h1) hbase hfew hline h1 hplain) hsw) fun E σ H q => tS_app q
theorem ss_setI (i : Nat) {p1 p2 : Pos} {k' : Expr} (he : SE X fx W true ea e m) (hk : SE X fx W true eb k' k) (hN : X.N[i]? = some y := by rfl) (hv : Vis X.env.scope y := by first | exact Or.inl rfl | exact Or.inr (Or.inl rfl) | exact Or.inr (Or.inr rfl)) (hd : (y == ("__debug__" : Str)) = false := by decide) (hcd : (y == ("__classdict__" : Str)) = false := by decide)
    (hsub : ∀ v, assign (.Subscript (.Name y p1) k' p2) X.env v = (do
      let ov ← holding [v] (eval (.Name y p1) X.env)
      let iv ← holding [v, ov] (eval k' X.env)
      standAt p2
      holding [v, ov, iv] (setItem ov iv v)
      release [v, ov, iv] []) := by intro _; rfl)
    (hs : swapsWithSole [.Subscript (.Name y p1) k' p2] e pos.line X.env = pure false := by rfl) (hw : swappedStores [.Subscript (.Name y p1) k' p2] e X.env = pure none := by rfl)
    (h1 : (assignEach [.Subscript (.Name y p1) k' p2] X.env).map (·.2) = [assign (.Subscript (.Name y p1) k' p2) X.env] := by rfl) : SS X fx W (.Assign [.Subscript (.Name y p1) k' p2] e pos) (sSetI i k m) :=
  PS.imp (ps_asg he (pg_sub (pv i hN hv hd hcd) hk set_list hsub) hs hw h1) fun E σ H q => tS_setI q
theorem ss_par (i j : Nat) {x : Str} {px pt : Pos} {kt k2 : Nat} {pt2 : Pos} (hc : X.calm = true) (hN : X.N.Nodup) (ha : SA X fx W true ea [a, b] ml) (hi : X.N[i]? = some x := by rfl) (hj : X.N[j]? = some y := by rfl) (hij : i ≠ j := by decide) (oi : fx.ow.contains i = false := by rfl) (oj : fx.ow.contains j = false := by rfl)
    (hx : X.env.scope.names.lookup x = some .local := by rfl) (hy : X.env.scope.names.lookup y = some .local := by rfl)
    (hw : swappedStores [.Tuple [.Name x px, .Name y py] kt pt] (.Tuple [a, b] k2 pt2) X.env = pure (some [x, y]) := by rfl)
    (hs : swapsWithSole [.Tuple [.Name x px, .Name y py] kt pt] (.Tuple [a, b] k2 pt2) pos.line X.env = pure false := by rfl) :
    SS X fx W (.Assign [.Tuple [.Name x px, .Name y py] kt pt] (.Tuple [a, b] k2 pt2) pos) (sPar i j ml) := PS.imp (ps_par hc hN hi hj hij hx hy ha hw hs) fun E σ H q => tS_par oi oj q
end
end DL

set_option Elab.async false
set_option linter.all false
set_option maxRecDepth 100000
set_option maxHeartbeats 4000000
namespace DL
open PySem PySem.Spec PyProof.Rows L2

/-! ### readings of data -/
section
variable {g : Gx} {F H : Hp} {v : V} {Q : VK}
theorem w_non (r : WRep g F H .non v) : v = .non := by
  rcases r with r | ⟨a, _, o⟩
  · simpa only [Rep] using r
  · exact o.elim
theorem w_bl {b : Bool} (r : WRep g F H (.bl b) v) : v = .bl b := by
  rcases r with r | ⟨a, _, o⟩
  · simpa only [Rep] using r
  · exact o.elim
theorem w_int {i : Int} (r : WRep g F H (.int i) v) : v = .int i := by
  rcases r with r | ⟨a, _, o⟩
  · simpa only [Rep] using r
  · exact o.elim
theorem w_str {s : Str} (r : WRep g F H (.str s) v) : v = .str s := by
  rcases r with r | ⟨a, _, o⟩
  · simpa only [Rep] using r
  · exact o.elim
theorem w_lst {xs : List D} (s : Sub F H) (r : WRep g F H (.lst xs) v) : ∃ a vs, v = .ref a ∧ H a = some (.lst vs) ∧ RepL g F xs vs := by
  rcases r with r | ⟨a, e, o⟩
  · simp only [Rep] at r
    obtain ⟨a, vs, e, h, l⟩ := r
    exact ⟨a, vs, e, s _ _ h, l⟩
  · obtain ⟨vs, h, l⟩ := o
    exact ⟨a, vs, e, h, l⟩
theorem w_ros {xs : List D} (s : Sub F H) (r : WRep g F H (.ros xs) v) : ∃ a vs, v = .ref a ∧ SqL g.K H a vs ∧ RepL g F xs vs := by
  rcases r with r | ⟨a, e, o⟩
  · simp only [Rep] at r
    obtain ⟨a, vs, e, h, l⟩ := r
    exact ⟨a, vs, e, sqL_mono s h, l⟩
  · exact o.elim
theorem w_tup {xs : List D} (s : Sub F H) (r : WRep g F H (.tup xs) v) : ∃ a vs, v = .ref a ∧ SqT g.K H a vs ∧ RepL g F xs vs ∧ Rep g F (.tup xs) v := by
  rcases r with r | ⟨a, e, o⟩
  · have r0 := r
    simp only [Rep] at r
    obtain ⟨a, vs, e, h, l⟩ := r
    exact ⟨a, vs, e, sqT_mono s h, l, r0⟩
  · exact o.elim
theorem w_dic {xs : List (Key × D)} (s : Sub F H) (r : WRep g F H (.dic xs) v) : ∃ a vs, v = .ref a ∧ Rd H a (.dK vs) ∧ RepK g F xs vs := by
  rcases r with r | ⟨a, e, o⟩
  · simp only [Rep] at r
    obtain ⟨a, vs, e, ⟨u, h⟩, l⟩ := r
    exact ⟨a, vs, e, .inr ⟨u, s _ _ h⟩, l⟩
  · obtain ⟨vs, h, l⟩ := o
    exact ⟨a, vs, e, .inl h, l⟩
/-- the items of a list, for reading -/
def lstOf : D → Option (List D)
  | .lst xs => some xs
  | .ros xs => some xs
  | _ => none
theorem w_lstOf {d : D} {xs : List D} (s : Sub F H) (e : lstOf d = some xs) (r : WRep g F H d v) : ∃ a vs, v = .ref a ∧ SqL g.K H a vs ∧ RepL g F xs vs := by
  cases d with
  | lst ys =>
    cases e
    obtain ⟨a, vs, e, h, l⟩ := w_lst s r
    exact ⟨a, vs, e, SqL.of h, l⟩
  | ros ys =>
    cases e
    exact w_ros s r
  | _ => cases e
theorem Gives.bl {b : Bool} (s : Sub F H) (h : Gives g F H (.bl b) Q) : Q (.bl b) H := h _ _ _ (Grow.refl s) (by simp only [Rep])
theorem Gives.int {i : Int} (s : Sub F H) (h : Gives g F H (.int i) Q) : Q (.int i) H := h _ _ _ (Grow.refl s) (by simp only [Rep])
theorem Gives.str {x : Str} (s : Sub F H) (h : Gives g F H (.str x) Q) : Q (.str x) H := h _ _ _ (Grow.refl s) (by simp only [Rep])
theorem Gives.val {d : D} (s : Sub F H) (r : Rep g F d v) (h : Gives g F H d Q) : Q v H := h _ _ _ (Grow.refl s) r
/-- all items dInts, bools, texts -/
def dInts : List D → Option (List Int)
  | [] => some []
  | .int i :: ds => (dInts ds).map (i :: ·)
  | _ => none
theorem dInts_rep : ∀ {xs : List D} {is : List Int} {vs : List V}, dInts xs = some is → RepL g F xs vs → vs = is.map V.int
  | [], is, vs, e, r => by
    cases e
    simp only [RepL] at r
    subst r
    rfl
  | .int i :: ds, is, vs, e, r => by
    simp only [RepL, Rep] at r
    obtain ⟨v, w, rfl, rfl, r⟩ := r
    unfold dInts at e
    cases q : dInts ds with
    | none => rw [q] at e; cases e
    | some js =>
      rw [q] at e
      cases e
      rw [dInts_rep q r]
      rfl
  | .non :: _, _, _, e, _ => by cases e
  | .bl _ :: _, _, _, e, _ => by cases e
  | .str _ :: _, _, _, e, _ => by cases e
  | .lst _ :: _, _, _, e, _ => by cases e
  | .tup _ :: _, _, _, e, _ => by cases e
  | .dic _ :: _, _, _, e, _ => by cases e
  | .ros _ :: _, _, _, e, _ => by cases e
  | .exc _ _ _ :: _, _, _, e, _ => by cases e
def dBls : List D → Option (List Bool)
  | [] => some []
  | .bl i :: ds => (dBls ds).map (i :: ·)
  | _ => none
theorem dBls_rep : ∀ {xs : List D} {is : List Bool} {vs : List V}, dBls xs = some is → RepL g F xs vs → vs = is.map V.bl
  | [], is, vs, e, r => by
    cases e
    simp only [RepL] at r
    subst r
    rfl
  | .bl i :: ds, is, vs, e, r => by
    simp only [RepL, Rep] at r
    obtain ⟨v, w, rfl, rfl, r⟩ := r
    unfold dBls at e
    cases q : dBls ds with
    | none => rw [q] at e; cases e
    | some js =>
      rw [q] at e
      cases e
      rw [dBls_rep q r]
      rfl
  | .non :: _, _, _, e, _ => by cases e
  | .int _ :: _, _, _, e, _ => by cases e
  | .str _ :: _, _, _, e, _ => by cases e
  | .lst _ :: _, _, _, e, _ => by cases e
  | .tup _ :: _, _, _, e, _ => by cases e
  | .dic _ :: _, _, _, e, _ => by cases e
  | .ros _ :: _, _, _, e, _ => by cases e
  | .exc _ _ _ :: _, _, _, e, _ => by cases e
def dStrs : List D → Option (List Str)
  | [] => some []
  | .str i :: ds => (dStrs ds).map (i :: ·)
  | _ => none
theorem dStrs_rep : ∀ {xs : List D} {is : List Str} {vs : List V}, dStrs xs = some is → RepL g F xs vs → vs = is.map V.str
  | [], is, vs, e, r => by
    cases e
    simp only [RepL] at r
    subst r
    rfl
  | .str i :: ds, is, vs, e, r => by
    simp only [RepL, Rep] at r
    obtain ⟨v, w, rfl, rfl, r⟩ := r
    unfold dStrs at e
    cases q : dStrs ds with
    | none => rw [q] at e; cases e
    | some js =>
      rw [q] at e
      cases e
      rw [dStrs_rep q r]
      rfl
  | .non :: _, _, _, e, _ => by cases e
  | .int _ :: _, _, _, e, _ => by cases e
  | .bl _ :: _, _, _, e, _ => by cases e
  | .lst _ :: _, _, _, e, _ => by cases e
  | .tup _ :: _, _, _, e, _ => by cases e
  | .dic _ :: _, _, _, e, _ => by cases e
  | .ros _ :: _, _, _, e, _ => by cases e
  | .exc _ _ _ :: _, _, _, e, _ => by cases e
end

/-! ### arithmetic -/
def opAdd : D → D → R D
  | .int a, .int b => .ok (.int (a + b))
  | .str a, .str b => if a.length + b.length ≤ 16777216 then .ok (.str (a ++ b)) else .bad
  | .lst xs, .lst ys => if xs.length + ys.length ≤ 16777216 then .ok (.lst (xs ++ ys)) else .bad
  | .tup xs, .tup ys => if xs.length + ys.length ≤ 16777216 then .ok (.tup (xs ++ ys)) else .bad
  | _, _ => .bad
def opSub : D → D → R D
  | .int a, .int b => .ok (.int (a - b))
  | _, _ => .bad
def opMul : D → D → R D
  | .int a, .int b => if (Builtin.Int.intBits a : Int) + (Builtin.Int.intBits b : Int) ≤ 134217728 then .ok (.int (a * b)) else .bad
  | .lst xs, .int b => if -(2 ^ 63) ≤ b ∧ b < 2 ^ 63 ∧ xs.length * b.toNat ≤ 16777216 then .ok (.lst (List.replicate b.toNat xs).flatten) else .bad
  | _, _ => .bad
def opMod : D → D → R D
  | .int a, .int b => if 0 < b then .ok (.int (a % b)) else .bad
  | _, _ => .bad
def opFdiv : D → D → R D
  | .int a, .int b => if 0 < b ∧ b.natAbs.log2 < 9000 then .ok (.int (a / b)) else .bad
  | _, _ => .bad
def CPowX (i j : Int) : Prop := 0 ≤ j ∧ (Builtin.Int.intBits i : Int) * j ≤ 2 ^ 27
def opPow : D → D → R D
  | .int a, .int b => if 0 ≤ b ∧ (Builtin.Int.intBits a : Int) * b ≤ 2 ^ 27 then .ok (.int (a ^ b.toNat)) else .bad
  | _, _ => .bad
def opNeg : D → R D
  | .int a => .ok (.int (-a))
  | _ => .bad
section
variable {X : Cx}
theorem op_powX : OpR X (binaryOp .Pow) (rI CPowX fun i j => .int (i ^ j.toNat)) := opI fun _ _ _ _ _ _ _ hc q => pow_int hc.1 hc.2 q
theorem o_add : OpR X (binaryOp .Add) (fun x y H Q => rI0 (fun i j => .int (i + j)) x y H Q ∨ (∃ i j, x = .str i ∧ y = .str j ∧ i.length + j.length ≤ sizeLine ∧ Q (.str (i ++ j)) H) ∨ rCat x y H Q ∨ rCatA X.K x y H Q) :=
  op_add.or (op_add_str.or (op_cat.or op_catA))
theorem s_add {g : Gx} : Snd2 g (fun x y H Q => rI0 (fun i j => .int (i + j)) x y H Q ∨ (∃ i j, x = .str i ∧ y = .str j ∧ i.length + j.length ≤ sizeLine ∧ Q (.str (i ++ j)) H) ∨ rCat x y H Q ∨ rCatA g.K x y H Q) opAdd := by
  intro F H dx dy x y d Q s rx ry e G
  cases dx with
  | int a =>
    cases dy with
    | int b =>
      cases e
      exact .inl ⟨a, b, w_int rx, w_int ry, G.int s⟩
    | _ => cases e
  | str a =>
    cases dy with
    | str b =>
      dsimp only [opAdd] at e
      by_cases q : a.length + b.length ≤ 16777216
      · rw [if_pos q] at e
        cases e
        exact .inr (.inl ⟨a, b, w_str rx, w_str ry, by rw [sizeLine_eq]; exact q, G.str s⟩)
      · rw [if_neg q] at e; cases e
    | _ => cases e
  | lst xs =>
    cases dy with
    | lst ys =>
      dsimp only [opAdd] at e
      by_cases q : xs.length + ys.length ≤ 16777216
      · rw [if_pos q] at e
        cases e
        obtain ⟨a, vs, rfl, ha, la⟩ := w_lst s rx
        obtain ⟨b, ws, rfl, hb, lb⟩ := w_lst s ry
        exact .inr (.inr (.inl ⟨a, b, vs, ws, rfl, rfl, ha, hb, by rw [la.length, lb.length, sizeLine_eq]; exact q, fun p hp => new_lst s (la.append lb) G hp⟩))
      · rw [if_neg q] at e; cases e
    | _ => cases e
  | tup xs =>
    cases dy with
    | tup ys =>
      dsimp only [opAdd] at e
      by_cases q : xs.length + ys.length ≤ 16777216
      · rw [if_pos q] at e
        cases e
        obtain ⟨a, vs, rfl, ha, la, ra⟩ := w_tup s rx
        obtain ⟨b, ws, rfl, hb, lb, rb⟩ := w_tup s ry
        refine .inr (.inr (.inr ⟨a, b, vs, ws, rfl, rfl, ha, hb, by rw [la.length, lb.length, sizeLine_eq]; exact q, fun z => ?_, fun _ z => ?_, fun _ _ p hp => new_tup s (la.append lb) G hp⟩))
        · have e0 : xs = [] := by
            have := la.length
            rw [z] at this
            exact List.length_eq_zero_iff.mp this.symm
          subst e0
          exact G.val s rb
        · have e0 : ys = [] := by
            have := lb.length
            rw [z] at this
            exact List.length_eq_zero_iff.mp this.symm
          subst e0
          rw [List.append_nil] at G
          exact G.val s ra
      · rw [if_neg q] at e; cases e
    | _ => cases e
  | _ => cases dy <;> cases e
theorem s_sub {g : Gx} : Snd2 g (rI0 fun i j => .int (i - j)) opSub := by
  intro F H dx dy x y d Q s rx ry e G
  cases dx with
  | int a =>
    cases dy with
    | int b =>
      cases e
      exact ⟨a, b, w_int rx, w_int ry, G.int s⟩
    | _ => cases e
  | _ => cases dy <;> cases e
theorem o_mul : OpR X (binaryOp .Mult) (fun x y H Q => rI CMulX (fun i j => .int (i * j)) x y H Q ∨ rRep x y H Q) := op_mulX.or op_rep
theorem s_mul {g : Gx} : Snd2 g (fun x y H Q => rI CMulX (fun i j => .int (i * j)) x y H Q ∨ rRep x y H Q) opMul := by
  intro F H dx dy x y d Q s rx ry e G
  cases dx with
  | int a =>
    cases dy with
    | int b =>
      dsimp only [opMul] at e
      by_cases q : (Builtin.Int.intBits a : Int) + (Builtin.Int.intBits b : Int) ≤ 134217728
      · rw [if_pos q] at e
        cases e
        exact .inl ⟨a, b, w_int rx, w_int ry, q, G.int s⟩
      · rw [if_neg q] at e; cases e
    | _ => cases e
  | lst xs =>
    cases dy with
    | int b =>
      dsimp only [opMul] at e
      by_cases q : -(2 ^ 63) ≤ b ∧ b < 2 ^ 63 ∧ xs.length * b.toNat ≤ 16777216
      · rw [if_pos q] at e
        cases e
        obtain ⟨a, vs, rfl, ha, la⟩ := w_lst s rx
        refine .inr ⟨a, b, vs, rfl, w_int ry, ha, q.1, q.2.1, by rw [la.length, sizeLine_eq]; exact q.2.2, fun p hp => new_lst s ?_ G hp⟩
        generalize b.toNat = n
        induction n with
        | zero => exact RepL.nil
        | succ n ih =>
          rw [List.replicate_succ, List.replicate_succ, List.flatten_cons, List.flatten_cons]
          exact la.append ih
      · rw [if_neg q] at e; cases e
    | _ => cases e
  | _ => cases dy <;> cases e
theorem s_mod {g : Gx} : Snd2 g (rI (fun _ j => 0 < j) fun i j => .int (i % j)) opMod := by
  intro F H dx dy x y d Q s rx ry e G
  cases dx with
  | int a =>
    cases dy with
    | int b =>
      dsimp only [opMod] at e
      by_cases q : 0 < b
      · rw [if_pos q] at e
        cases e
        exact ⟨a, b, w_int rx, w_int ry, q, G.int s⟩
      · rw [if_neg q] at e; cases e
    | _ => cases e
  | _ => cases dy <;> cases e
theorem s_fdiv {g : Gx} : Snd2 g (rI CDivW fun i j => .int (i / j)) opFdiv := by
  intro F H dx dy x y d Q s rx ry e G
  cases dx with
  | int a =>
    cases dy with
    | int b =>
      dsimp only [opFdiv] at e
      by_cases q : 0 < b ∧ b.natAbs.log2 < 9000
      · rw [if_pos q] at e
        cases e
        exact ⟨a, b, w_int rx, w_int ry, q, G.int s⟩
      · rw [if_neg q] at e; cases e
    | _ => cases e
  | _ => cases dy <;> cases e
theorem s_pow {g : Gx} : Snd2 g (rI CPowX fun i j => .int (i ^ j.toNat)) opPow := by
  intro F H dx dy x y d Q s rx ry e G
  cases dx with
  | int a =>
    cases dy with
    | int b =>
      dsimp only [opPow] at e
      by_cases q : 0 ≤ b ∧ (Builtin.Int.intBits a : Int) * b ≤ 2 ^ 27
      · rw [if_pos q] at e
        cases e
        exact ⟨a, b, w_int rx, w_int ry, q, G.int s⟩
      · rw [if_neg q] at e; cases e
    | _ => cases e
  | _ => cases dy <;> cases e
theorem s_neg {g : Gx} : Snd1 g (rU fun i => .int (-i)) opNeg := by
  intro F H dx x d Q s rx e G
  cases dx with
  | int a =>
    cases e
    exact ⟨a, w_int rx, G.int s⟩
  | _ => cases e
end
end DL

set_option Elab.async false
set_option linter.all false
set_option maxRecDepth 100000
set_option maxHeartbeats 4000000
namespace DL
open PySem PySem.Spec PyProof.Rows L2

/-! ### == of data -/
mutual
def toP : D → Option PyData
  | .non => some .none
  | .bl b => some (.bool b)
  | .int i => some (.int i)
  | .str s => some (.str s)
  | .lst xs => (toPs xs).map .list
  | .ros xs => (toPs xs).map .list
  | .tup xs => (toPs xs).map .tuple
  | .dic _ => none
  | .exc _ _ _ => none
def toPs : List D → Option (List PyData)
  | [] => some []
  | d :: ds => match toP d with
    | none => none
    | some p => (toPs ds).map (p :: ·)
end
section
variable {g : Gx} {F H : Hp}
mutual
theorem dp_rep (s : Sub F H) : ∀ {d : D} {p : PyData} {v : V}, toP d = some p → Rep g F d v → Dp g.K H v p
  | .non, p, v, e, r => by
    unfold toP at e; cases e
    simp only [Rep] at r; subst r
    exact .non
  | .bl b, p, v, e, r => by
    unfold toP at e; cases e
    simp only [Rep] at r; subst r
    exact .bl b
  | .int b, p, v, e, r => by
    unfold toP at e; cases e
    simp only [Rep] at r; subst r
    exact .int b
  | .str b, p, v, e, r => by
    unfold toP at e; cases e
    simp only [Rep] at r; subst r
    exact .str b
  | .lst xs, p, v, e, r => by
    unfold toP at e
    simp only [Rep] at r
    obtain ⟨a, vs, rfl, h, l⟩ := r
    cases q : toPs xs with
    | none => rw [q] at e; cases e
    | some ps =>
      rw [q] at e; cases e
      exact .lst (SqL.of (s _ _ h)) (dps_rep s q l)
  | .ros xs, p, v, e, r => by
    unfold toP at e
    simp only [Rep] at r
    obtain ⟨a, vs, rfl, h, l⟩ := r
    cases q : toPs xs with
    | none => rw [q] at e; cases e
    | some ps =>
      rw [q] at e; cases e
      exact .lst (sqL_mono s h) (dps_rep s q l)
  | .tup xs, p, v, e, r => by
    unfold toP at e
    simp only [Rep] at r
    obtain ⟨a, vs, rfl, h, l⟩ := r
    cases q : toPs xs with
    | none => rw [q] at e; cases e
    | some ps =>
      rw [q] at e; cases e
      exact .tup (sqT_mono s h) (dps_rep s q l)
  | .dic _, _, _, e, _ => by unfold toP at e; cases e
  | .exc _ _ _, _, _, e, _ => by unfold toP at e; cases e
theorem dps_rep (s : Sub F H) : ∀ {ds : List D} {ps : List PyData} {vs : List V}, toPs ds = some ps → RepL g F ds vs → DpAll g.K H vs ps
  | [], ps, vs, e, r => by
    unfold toPs at e; cases e
    simp only [RepL] at r; subst r
    exact .nil
  | d :: ds, ps, vs, e, r => by
    simp only [RepL] at r
    obtain ⟨v, w, rfl, r1, r2⟩ := r
    unfold toPs at e
    cases q : toP d with
    | none => rw [q] at e; cases e
    | some p =>
      rw [q] at e
      dsimp only at e
      cases q2 : toPs ds with
      | none => rw [q2] at e; cases e
      | some qs =>
        rw [q2] at e; cases e
        exact .cons (dp_rep s q r1) (dps_rep s q2 r2)
end
theorem dp_w (s : Sub F H) {d : D} {p : PyData} {v : V} (e : toP d = some p) (r : WRep g F H d v) : Dp g.K H v p := by
  rcases r with r | ⟨a, rfl, o⟩
  · exact dp_rep s e r
  · cases d with
    | lst xs =>
      obtain ⟨vs, h, l⟩ := o
      unfold toP at e
      cases q : toPs xs with
      | none => rw [q] at e; cases e
      | some ps =>
        rw [q] at e; cases e
        exact .lst (SqL.of h) (dps_rep s q l)
    | dic xs => unfold toP at e; cases e
    | _ => exact o.elim
end
def eqD : D → D → R Bool
  | .int a, .int b => .ok (a == b)
  | .str a, .str b => .ok (a == b)
  | .bl a, .bl b => .ok (a == b)
  | x, y => match toP x, toP y with
    | some p, some q => if SeqAt.shaped p = true ∧ SeqAt.shaped q = true then .ok (PyData.eqv p q) else .bad
    | _, _ => .bad
/-- one own error is itself; of two of them nothing is said -/
def sameX : D → D → Option Bool
  | .exc a _ _, .exc b _ _ => some (decide (a = b))
  | _, _ => none
def opEq (x y : D) : R D := match sameX x y with
  | some true => .ok (.bl true)
  | some false => .bad
  | none => match eqD x y with
    | .ok b => .ok (.bl b)
    | .bad => .bad
def opNe (x y : D) : R D := match eqD x y with
  | .ok b => .ok (.bl (!b))
  | .bad => .bad
section
variable {X : Cx} {pins : List (Addr × Obj)} {σ : L2.St} {H : Hp} {s : Shared}
theorem ext_inst {a C d : Addr} {fs : List (Str × V)} (I : Inv X pins σ H s) (ha : H a = some (ExT C d a)) (hd : H d = some (.xd fs)) : ∃ oe od, PySem.W.InstAt s.heap a oe C (some od) ∧ ∃ mA, s.heap.Ns1 d mA ∧ (∀ f, RelO (fs.lookup f) (mA f)) ∧ s.heap.get? d = some od ∧ ∀ n, PySem.W.lookIn n od = some (mA n) := by
  obtain ⟨⟨oe, vs, e1, e2, e3, e4⟩, _, _⟩ := I.hok a _ ha
  have hx : ObjOk X.prog X.w H s.heap d (.xd fs) := I.hok d _ hd
  obtain ⟨mA, hns, hr⟩ := hx
  obtain ⟨od, ho, hl⟩ := lookIn_ns hns
  exact ⟨oe, od, ⟨e1, e2, by unfold PySem.W.notCls; rw [e4] <;> rfl, by rw [e3]; exact ho⟩, mA, hns, hr, ho, fun n => by rw [hl]⟩
end
section
variable {prog : Program} {w : World} {A : Around} {E : Value → Shared → Prop} {s : Shared} {K : PySem.W.Frag} {x C : Addr} {ox : Obj} {od : Option Obj}
/-- an instance without an own __eq__ is equal to itself -/
theorem rc_self {Q : Value → Shared → Prop} (hu : A.units < cLine) (X : K.In s.heap) (I : PySem.W.InstAt s.heap x ox C od) (hm : PySem.W.mroIn K C (.type "object") = some true) (he : PySem.W.findIn K (.ref C) "__eq__" = some (some (.builtin "object.__eq__"))) (hq : Q (.bool true) s) :
    wpAny (model prog w) A (richCompare .Eq (.ref x) (.ref x)) Q E s := by
  have it : wpAny (model prog w) A (tryCompare (.ref x) "__eq__" (.ref x)) (fun r s' => r = some (.bool true) ∧ s' = s) E s := by
    unfold tryCompare
    exact wpAny_bind (HN.ifBound_objEq X I he (wpAny_call (codeAny_call_builtin F.cmp_object.eq.plain F.cmpEntry_eq (PySem.W.check_slot F.cmpKind_eq F.cmpSplit_eq (I.type.andThen (PySem.W.looks_mroIn X hm)) (F.cmpArgs_eq _ _) (objEq_entry_same (wpAny_pure ⟨rfl, rfl⟩))))))
  simp only [richCompare, cmpInfo_Eq, oneThing_ref]
  refine wpAny_holding (wpAny_bind (wpAny_cRoomFor hu (wpAny_bind (I.type.here (wpAny_bind (I.type.here ?_))))))
  split
  · rename_i q
    exact absurd q (by simp)
  · refine wpAny_bind (wpAny_pure ?_)
    simp only [Bool.false_eq_true, if_false]
    refine wpAny_bind (m := tryCompare (.ref x) _ (.ref x)) (wpAny_mono it (fun r s1 z => ?_) fun _ _ e => e)
    obtain ⟨rfl, rfl⟩ := z
    exact wpAny_pure hq
end
def rEqX (K : PySem.W.Frag) : R2 := fun x y H Q => ∃ (a C d : Addr) (fs : List (Str × V)), x = .ref a ∧ y = .ref a ∧ H a = some (ExT C d a) ∧ H d = some (.xd fs) ∧ XcC K C ∧ Q (.bl true) H
theorem op_eqX {X : Cx} (hu : X.A.units + 64 < cLine) : OpR X (compareOp .Eq) (rEqX X.K) := by
  intro pins s σ H x y v u Q I rx ry h
  obtain ⟨a, C, d, fs, rfl, rfl, ha, hd, T, q⟩ := h
  cases rx
  cases ry
  obtain ⟨oe, od, J, _⟩ := ext_inst I ha hd
  show wpAny (model X.prog X.w) X.A (richCompare .Eq _ _) (EP X pins σ Q) X.xe s
  exact rc_self (by omega) I.kIn J T.hm T.he ⟨.bl true, H, I, rfl, q⟩
section
variable {X : Cx} {g : Gx}
theorem o_eq (hu : X.A.units + 64 < cLine) : OpR X (compareOp .Eq) (fun x y H Q => (rEq x y H Q ∨ rEqD X.K x y H Q) ∨ rEqX X.K x y H Q) := (op_eq.or (op_eqD hu)).or (op_eqX hu)
theorem o_ne (hu : X.A.units + 64 < cLine) : OpR X (compareOp .NotEq) (fun x y H Q => rNe x y H Q ∨ rNeD X.K x y H Q) := op_ne.or (op_neD hu)
theorem eqD_gen {F H : Hp} {dx dy : D} {x y : V} {b : Bool} (s : Sub F H) (rx : WRep g F H dx x) (ry : WRep g F H dy y) (e : eqD dx dy = .ok b) :
    (scal x y = true ∧ decide (x = y) = b) ∨ ∃ p q, Dp g.K H x p ∧ Dp g.K H y q ∧ SeqAt.shaped p = true ∧ SeqAt.shaped q = true ∧ PyData.eqv p q = b := by
  unfold eqD at e
  split at e
  · cases e
    rw [w_int rx, w_int ry]
    exact .inl ⟨rfl, dec_int⟩
  · cases e
    rw [w_str rx, w_str ry]
    exact .inl ⟨rfl, dec_str⟩
  · cases e
    rw [w_bl rx, w_bl ry]
    exact .inl ⟨rfl, dec_bl⟩
  · split at e
    · rename_i p q ep eq
      by_cases c : SeqAt.shaped p = true ∧ SeqAt.shaped q = true
      · rw [if_pos c] at e
        cases e
        exact .inr ⟨p, q, dp_w s ep rx, dp_w s eq ry, c.1, c.2, rfl⟩
      · rw [if_neg c] at e; cases e
    · cases e
theorem w_exc {F H : Hp} {a : Addr} {c : Str} {x : D} {v : V} (s : Sub F H) (r : WRep g F H (.exc a c x) v) : ∃ C d w, v = .ref a ∧ g.mg c = some (.ref C) ∧ XcC g.K C ∧ H a = some (ExT C d a) ∧ H d = some (.xd [("value", w)]) ∧ Rep g F x w := by
  rcases r with r | ⟨b, e, o⟩
  · simp only [Rep] at r
    obtain ⟨C, d, w, e, h1, hx, h2, h3, h4⟩ := r
    exact ⟨C, d, w, e, h1, hx, s _ _ h2, s _ _ h3, h4⟩
  · exact o.elim
theorem s_eq : Snd2 g (fun x y H Q => (rEq x y H Q ∨ rEqD g.K x y H Q) ∨ rEqX g.K x y H Q) opEq := by
  intro F H dx dy x y d Q s rx ry e G
  unfold opEq at e
  cases z : sameX dx dy with
  | none =>
    rw [z] at e
    dsimp only at e
    cases q : eqD dx dy with
    | bad => rw [q] at e; cases e
    | ok b =>
      rw [q] at e; cases e
      rcases eqD_gen s rx ry q with ⟨h1, h2⟩ | ⟨p, q, h1, h2, h3, h4, h5⟩
      · exact .inl (.inl ⟨h1, by rw [h2]; exact G.bl s⟩)
      · exact .inl (.inr ⟨p, q, h1, h2, h3, h4, by rw [h5]; exact G.bl s⟩)
  | some k =>
    rw [z] at e
    cases k with
    | false => cases e
    | true =>
      cases e
      unfold sameX at z
      split at z
      · rename_i a c v b c' v'
        have ab : a = b := by simpa using z
        subst ab
        obtain ⟨C, d, w, rfl, _, T, h1, h2, _⟩ := w_exc s rx
        obtain ⟨_, _, _, rfl, _⟩ := w_exc s ry
        exact .inr ⟨a, C, d, _, rfl, rfl, h1, h2, T, G.bl s⟩
      · cases z
theorem s_ne : Snd2 g (fun x y H Q => rNe x y H Q ∨ rNeD g.K x y H Q) opNe := by
  intro F H dx dy x y d Q s rx ry e G
  unfold opNe at e
  cases q : eqD dx dy with
  | bad => rw [q] at e; cases e
  | ok b =>
    rw [q] at e; cases e
    rcases eqD_gen s rx ry q with ⟨h1, h2⟩ | ⟨p, q, h1, h2, h3, h4, h5⟩
    · exact .inl ⟨h1, by rw [h2]; exact G.bl s⟩
    · exact .inr ⟨p, q, h1, h2, h3, h4, by rw [h5]; exact G.bl s⟩
end

/-! ### order, is, in -/
def opCmp (f : Int → Int → Bool) (h : Str → Str → Bool) : D → D → R D
  | .int a, .int b => .ok (.bl (f a b))
  | .str a, .str b => .ok (.bl (h a b))
  | _, _ => .bad
def opLt : D → D → R D := opCmp (fun i j => decide (i < j)) fun i j => decide (i.cps.toList < j.cps.toList)
def opLe : D → D → R D := opCmp (fun i j => decide (i ≤ j)) fun i j => !decide (j.cps.toList < i.cps.toList)
def opGt : D → D → R D := opCmp (fun i j => decide (j < i)) fun i j => decide (j.cps.toList < i.cps.toList)
def opGe : D → D → R D := opCmp (fun i j => decide (j ≤ i)) fun i j => !decide (i.cps.toList < j.cps.toList)
def rCmp (f : Int → Int → Bool) (h : Str → Str → Bool) : R2 := fun x y H Q => rI0 (fun i j => .bl (f i j)) x y H Q ∨ ∃ i j, x = .str i ∧ y = .str j ∧ Q (.bl (h i j)) H
def isNon : D → Bool
  | .non => true
  | _ => false
def opIsN (x y : D) : R D := match y with
  | .non => .ok (.bl (isNon x))
  | _ => .bad
def opNotN (x y : D) : R D := match y with
  | .non => .ok (.bl (!isNon x))
  | _ => .bad
def opIsB : D → D → R D
  | .bl a, .bl b => .ok (.bl (decide (a = b)))
  | _, _ => .bad
def opNotB : D → D → R D
  | .bl a, .bl b => .ok (.bl (!decide (a = b)))
  | _, _ => .bad
def flat : D → Option V
  | .non => some .non
  | .bl b => some (.bl b)
  | .int i => some (.int i)
  | .str s => some (.str s)
  | _ => none
def flats : List D → Option (List V)
  | [] => some []
  | d :: ds => match flat d with
    | none => none
    | some v => (flats ds).map (v :: ·)
def seqOf : D → Option (List D)
  | .lst xs => some xs
  | .ros xs => some xs
  | .tup xs => some xs
  | _ => none
def inD (x y : D) : R Bool := match x, y with
  | .str a, .str b => .ok (!(Builtin.Str.occurrences b a 0 b.length 1).isEmpty)
  | x, y => match seqOf y, flat x with
    | some ys, some v => match flats ys with
      | some vs => .ok (inV v vs)
      | none => .bad
    | _, _ => .bad
def opIn (x y : D) : R D := match inD x y with
  | .ok b => .ok (.bl b)
  | .bad => .bad
def opNotIn (x y : D) : R D := match inD x y with
  | .ok b => .ok (.bl (!b))
  | .bad => .bad
section
variable {X : Cx} {g : Gx} {F H : Hp}
theorem s_cmp {f : Int → Int → Bool} {h : Str → Str → Bool} : Snd2 g (rCmp f h) (opCmp f h) := by
  intro F H dx dy x y d Q s rx ry e G
  cases dx with
  | int a =>
    cases dy with
    | int b =>
      cases e
      exact .inl ⟨a, b, w_int rx, w_int ry, G.bl s⟩
    | _ => cases e
  | str a =>
    cases dy with
    | str b =>
      cases e
      exact .inr ⟨a, b, w_str rx, w_str ry, G.bl s⟩
    | _ => cases e
  | _ => cases dy <;> cases e
theorem o_lt : OpR X (compareOp .Lt) (rCmp (fun i j => decide (i < j)) fun i j => decide (i.cps.toList < j.cps.toList)) := op_lt.or op_lt_str
theorem o_le : OpR X (compareOp .LtE) (rCmp (fun i j => decide (i ≤ j)) fun i j => !decide (j.cps.toList < i.cps.toList)) := op_le.or op_le_str
theorem o_gt : OpR X (compareOp .Gt) (rCmp (fun i j => decide (j < i)) fun i j => decide (j.cps.toList < i.cps.toList)) := op_gt.or op_gt_str
theorem o_ge : OpR X (compareOp .GtE) (rCmp (fun i j => decide (j ≤ i)) fun i j => !decide (i.cps.toList < j.cps.toList)) := op_ge.or op_ge_str
theorem isNon_ok {d : D} {v : V} (r : WRep g F H d v) : decide (v = .non) = isNon d := by
  rcases r with r | ⟨a, rfl, o⟩
  · cases d <;> simp only [Rep] at r
    · subst r; rfl
    · subst r; rfl
    · subst r; rfl
    · subst r; rfl
    · obtain ⟨a, vs, rfl, _⟩ := r; rfl
    · obtain ⟨a, vs, rfl, _⟩ := r; rfl
    · obtain ⟨a, vs, rfl, _⟩ := r; rfl
    · obtain ⟨a, vs, rfl, _⟩ := r; rfl
    · obtain ⟨_, _, _, rfl, _⟩ := r; rfl
  · cases d <;> first | exact o.elim | rfl
theorem s_isN : Snd2 g (fun x y H Q => y = .non ∧ Q (.bl (decide (x = .non))) H) opIsN := by
  intro F H dx dy x y d Q s rx ry e G
  cases dy with
  | non =>
    cases e
    exact ⟨w_non ry, by rw [isNon_ok rx]; exact G.bl s⟩
  | _ => cases e
theorem s_notN : Snd2 g (fun x y H Q => y = .non ∧ Q (.bl (!decide (x = .non))) H) opNotN := by
  intro F H dx dy x y d Q s rx ry e G
  cases dy with
  | non =>
    cases e
    exact ⟨w_non ry, by rw [isNon_ok rx]; exact G.bl s⟩
  | _ => cases e
theorem s_isB : Snd2 g rIsB opIsB := by
  intro F H dx dy x y d Q s rx ry e G
  cases dx with
  | bl a =>
    cases dy with
    | bl b =>
      cases e
      exact ⟨a, b, w_bl rx, w_bl ry, G.bl s⟩
    | _ => cases e
  | _ => cases dy <;> cases e
theorem s_notB : Snd2 g rNotB opNotB := by
  intro F H dx dy x y d Q s rx ry e G
  cases dx with
  | bl a =>
    cases dy with
    | bl b =>
      cases e
      exact ⟨a, b, w_bl rx, w_bl ry, G.bl s⟩
    | _ => cases e
  | _ => cases dy <;> cases e
theorem flat_rep {d : D} {v w : V} (e : flat d = some v) (r : WRep g F H d w) : w = v ∧ flatV v = true := by
  cases d with
  | non => cases e; exact ⟨w_non r, rfl⟩
  | bl b => cases e; exact ⟨w_bl r, rfl⟩
  | int b => cases e; exact ⟨w_int r, rfl⟩
  | str b => cases e; exact ⟨w_str r, rfl⟩
  | _ => cases e
theorem flats_rep : ∀ {ds : List D} {vs ws : List V}, flats ds = some vs → RepL g F ds ws → ws = vs ∧ vs.all flatV = true
  | [], vs, ws, e, r => by
    unfold flats at e; cases e
    simp only [RepL] at r
    exact ⟨r, rfl⟩
  | d :: ds, vs, ws, e, r => by
    simp only [RepL] at r
    obtain ⟨v, w, rfl, r1, r2⟩ := r
    unfold flats at e
    cases q : flat d with
    | none => rw [q] at e; cases e
    | some u =>
      rw [q] at e
      dsimp only at e
      cases q2 : flats ds with
      | none => rw [q2] at e; cases e
      | some us =>
        rw [q2] at e; cases e
        obtain ⟨h1, h2⟩ := flat_rep (H := F) q (.inl r1)
        obtain ⟨h3, h4⟩ := flats_rep q2 r2
        subst h1 h3
        exact ⟨rfl, by rw [List.all_cons, h2, h4]; rfl⟩
theorem seqOf_rep {d : D} {xs : List D} {v : V} (s : Sub F H) (e : seqOf d = some xs) (r : WRep g F H d v) : ∃ a vs, v = .ref a ∧ (SqL g.K H a vs ∨ SqT g.K H a vs) ∧ RepL g F xs vs := by
  cases d with
  | lst ys =>
    cases e
    obtain ⟨a, vs, e, h, l⟩ := w_lst s r
    exact ⟨a, vs, e, .inl (SqL.of h), l⟩
  | ros ys =>
    cases e
    obtain ⟨a, vs, e, h, l⟩ := w_ros s r
    exact ⟨a, vs, e, .inl h, l⟩
  | tup ys =>
    cases e
    obtain ⟨a, vs, e, h, l, _⟩ := w_tup s r
    exact ⟨a, vs, e, .inr h, l⟩
  | _ => cases e
theorem inD_gen {dx dy : D} {x y : V} {b : Bool} (s : Sub F H) (rx : WRep g F H dx x) (ry : WRep g F H dy y) (e : inD dx dy = .ok b) :
    (∃ i j, x = .str i ∧ y = .str j ∧ (!(Builtin.Str.occurrences j i 0 j.length 1).isEmpty) = b) ∨ ∃ p xs, y = .ref p ∧ (SqL g.K H p xs ∨ SqT g.K H p xs) ∧ flatV x = true ∧ xs.all flatV = true ∧ inV x xs = b := by
  unfold inD at e
  split at e
  · cases e
    exact .inl ⟨_, _, w_str rx, w_str ry, rfl⟩
  · split at e
    · rename_i ys v e1 e2
      split at e
      · rename_i vs e3
        cases e
        obtain ⟨a, ws, rfl, h, l⟩ := seqOf_rep s e1 ry
        obtain ⟨h1, h2⟩ := flat_rep e2 rx
        obtain ⟨h3, h4⟩ := flats_rep e3 l
        subst h1 h3
        exact .inr ⟨a, _, rfl, h, h2, h4, rfl⟩
      · cases e
    · cases e
theorem o_in : OpR X (compareOp .In) (fun x y H Q => (∃ i j, x = .str i ∧ y = .str j ∧ Q (.bl (!(Builtin.Str.occurrences j i 0 j.length 1).isEmpty)) H) ∨ rIn X.K false x y H Q) := op_in_str.or op_in_seq
theorem o_notIn : OpR X (compareOp .NotIn) (fun x y H Q => (∃ i j, x = .str i ∧ y = .str j ∧ Q (.bl (!(!(Builtin.Str.occurrences j i 0 j.length 1).isEmpty))) H) ∨ rIn X.K true x y H Q) := op_notIn_str.or op_notIn_seq
theorem s_in : Snd2 g (fun x y H Q => (∃ i j, x = .str i ∧ y = .str j ∧ Q (.bl (!(Builtin.Str.occurrences j i 0 j.length 1).isEmpty)) H) ∨ rIn g.K false x y H Q) opIn := by
  intro F H dx dy x y d Q s rx ry e G
  unfold opIn at e
  cases q : inD dx dy with
  | bad => rw [q] at e; cases e
  | ok b =>
    rw [q] at e; cases e
    rcases inD_gen s rx ry q with ⟨i, j, h1, h2, h3⟩ | ⟨p, xs, h1, h2, h3, h4, h5⟩
    · exact .inl ⟨i, j, h1, h2, by rw [h3]; exact G.bl s⟩
    · exact .inr ⟨p, xs, h1, h2, h3, h4, by rw [if_neg (by decide), h5]; exact G.bl s⟩
theorem s_notIn : Snd2 g (fun x y H Q => (∃ i j, x = .str i ∧ y = .str j ∧ Q (.bl (!(!(Builtin.Str.occurrences j i 0 j.length 1).isEmpty))) H) ∨ rIn g.K true x y H Q) opNotIn := by
  intro F H dx dy x y d Q s rx ry e G
  unfold opNotIn at e
  cases q : inD dx dy with
  | bad => rw [q] at e; cases e
  | ok b =>
    rw [q] at e; cases e
    rcases inD_gen s rx ry q with ⟨i, j, h1, h2, h3⟩ | ⟨p, xs, h1, h2, h3, h4, h5⟩
    · exact .inl ⟨i, j, h1, h2, by rw [h3]; exact G.bl s⟩
    · exact .inr ⟨p, xs, h1, h2, h3, h4, by rw [if_pos rfl, h5]; exact G.bl s⟩
end

/-! ### x[i], len, int, max, min, sum, all, any -/
def opIx (x y : D) : R D := match y with
  | .int i => (match x with
    | .str z => if z.length ≤ 16777216 then (match atI z.cps.toList i with
      | some c => .ok (.str ⟨#[c]⟩)
      | none => .bad) else .bad
    | x => match seqOf x with
      | some xs => (match atI xs i with
        | some d => .ok d
        | none => .bad)
      | none => .bad)
  | _ => .bad
def lenOf : D → R Nat
  | .str s => if s.length ≤ 16777216 then .ok s.length else .bad
  | .lst xs => .ok xs.length
  | .ros xs => .ok xs.length
  | .tup xs => .ok xs.length
  | .dic xs => .ok xs.length
  | _ => .bad
def opLen : List D → R D
  | [d] => match lenOf d with
    | .ok n => .ok (.int n)
    | .bad => .bad
  | _ => .bad
def opInt : List D → R D
  | [.int i] => .ok (.int i)
  | [.bl k] => .ok (.int (if k then 1 else 0))
  | _ => .bad
def opMax : List D → R D
  | [.int i, .int j] => .ok (.int (if j > i then j else i))
  | _ => .bad
def opMin : List D → R D
  | [.int i, .int j] => .ok (.int (if j < i then j else i))
  | _ => .bad
def opSum : List D → R D
  | [d] => match lstOf d with
    | some xs => (match dInts xs with
      | some is => .ok (.int is.sum)
      | none => .bad)
    | none => .bad
  | _ => .bad
def opAll : List D → R D
  | [d] => match lstOf d with
    | some xs => (match dBls xs with
      | some is => .ok (.bl (is.all id))
      | none => .bad)
    | none => .bad
  | _ => .bad
def opAny : List D → R D
  | [d] => match lstOf d with
    | some xs => (match dBls xs with
      | some is => .ok (.bl (is.any id))
      | none => .bad)
    | none => .bad
  | _ => .bad
section
variable {X : Cx} {g : Gx} {F H : Hp}
theorem atI_rep {xs : List D} {vs : List V} {i : Int} {d : D} (l : RepL g F xs vs) (e : atI xs i = some d) : ∃ v, atI vs i = some v ∧ Rep g F d v := by
  unfold atI at e ⊢
  rw [l.length]
  cases q : ixN xs.length i with
  | none => rw [q] at e; cases e
  | some j =>
    rw [q] at e
    exact l.get e
theorem s_ix : Snd2 g (rIx g.K) opIx := by
  intro F H dx dy x y d Q s rx ry e G
  cases dy with
  | int i =>
    have ey := w_int ry
    subst ey
    have seq : ∀ {dx : D} {xs : List D}, WRep g F H dx x → seqOf dx = some xs → (match atI xs i with
        | some d => R.ok d
        | none => .bad) = .ok d → rIx g.K x (.int i) H Q := by
      intro dx xs rx e1 e
      obtain ⟨a, vs, rfl, h, l⟩ := seqOf_rep s e1 rx
      cases q : atI xs i with
      | none => rw [q] at e; cases e
      | some c =>
        rw [q] at e; cases e
        obtain ⟨v, h1, h2⟩ := atI_rep l q
        rcases h with h | h
        · exact .inl ⟨a, vs, i, v, rfl, rfl, h, h1, G.val s h2⟩
        · exact .inr (.inl ⟨a, vs, i, v, rfl, rfl, h, h1, G.val s h2⟩)
    cases dx with
    | str z =>
      dsimp only [opIx] at e
      by_cases c : z.length ≤ 16777216
      · rw [if_pos c] at e
        cases q : atI z.cps.toList i with
        | none => rw [q] at e; cases e
        | some k =>
          rw [q] at e; cases e
          exact .inr (.inr ⟨z, i, k, w_str rx, rfl, by rw [sizeLine_eq]; exact c, q, G.str s⟩)
      · rw [if_neg c] at e; cases e
    | lst xs => exact seq rx rfl e
    | ros xs => exact seq rx rfl e
    | tup xs => exact seq rx rfl e
    | _ => cases e
  | _ => cases e
theorem wrl1 {d : D} {vs : List V} (h : WRL g F H [d] vs) : ∃ v, vs = [v] ∧ WRep g F H d v := by
  obtain ⟨v, r, rfl, h1, h2⟩ := h
  cases (show r = [] from h2)
  exact ⟨v, rfl, h1⟩
theorem wrl2 {d e : D} {vs : List V} (h : WRL g F H [d, e] vs) : ∃ v w, vs = [v, w] ∧ WRep g F H d v ∧ WRep g F H e w := by
  obtain ⟨v, r, rfl, h1, h2⟩ := h
  obtain ⟨w, rfl, h3⟩ := wrl1 h2
  exact ⟨v, w, rfl, h1, h3⟩
/-- a text, a list, a tuple or a dict of n -/
def LenX (K : PySem.W.Frag) (x : V) (H : Hp) (n : Nat) : Prop := LenV K x H n ∨ ∃ a kvs, x = .ref a ∧ Rd H a (.dK kvs) ∧ n = kvs.length
theorem lenOf_rep {d : D} {v : V} {n : Nat} (s : Sub F H) (e : lenOf d = .ok n) (r : WRep g F H d v) : LenX g.K v H n := by
  cases d with
  | str z =>
    rw [w_str r]
    dsimp only [lenOf] at e
    by_cases c : z.length ≤ 16777216
    · rw [if_pos c] at e
      cases e
      exact .inl ⟨by rw [sizeLine_eq]; exact c, rfl⟩
    · rw [if_neg c] at e; cases e
  | lst xs =>
    cases e
    obtain ⟨a, vs, rfl, h, l⟩ := w_lst s r
    exact .inl (.inl ⟨vs, SqL.of h, l.length.symm⟩)
  | ros xs =>
    cases e
    obtain ⟨a, vs, rfl, h, l⟩ := w_ros s r
    exact .inl (.inl ⟨vs, h, l.length.symm⟩)
  | tup xs =>
    cases e
    obtain ⟨a, vs, rfl, h, l, _⟩ := w_tup s r
    exact .inl (.inr ⟨vs, h, l.length.symm⟩)
  | dic xs =>
    cases e
    obtain ⟨a, vs, rfl, h, l⟩ := w_dic s r
    exact .inr ⟨a, vs, rfl, h, l.length.symm⟩
  | _ => cases e
theorem call_lenX {X : Cx} : CallR X (.builtin "len") (fun xs H Q => ∃ x n, xs = [x] ∧ LenX X.K x H n ∧ Q (.int (n : Nat)) H) := by
  intro pins s σ H xs us Q I r h
  obtain ⟨x, n, e, h | ⟨a, kvs, rfl, ha, rfl⟩, q⟩ := h
  · exact call_len pins s σ H xs us Q I r ⟨x, n, e, h, q⟩
  · subst e
    obtain ⟨u, rfl, ru⟩ := vals1 r
    cases ru
    exact d_len I ha fun t s' I' => ⟨.int kvs.length, H, I', ⟨t, rfl⟩, q⟩
theorem s_len : SndN g (fun xs H Q => ∃ x n, xs = [x] ∧ LenX g.K x H n ∧ Q (.int (n : Nat)) H) opLen := by
  intro F H ds vs d Q s r e G
  cases ds with
  | nil => cases e
  | cons d0 t =>
    cases t with
    | cons d1 t => first | cases e | (cases d0 <;> cases e)
    | nil =>
    obtain ⟨v, rfl, rv⟩ := wrl1 r
    dsimp only [opLen] at e
    cases q : lenOf d0 with
    | bad => rw [q] at e; cases e
    | ok n =>
      rw [q] at e; cases e
      exact ⟨v, n, rfl, lenOf_rep s q rv, G.int s⟩
theorem s_int : SndN g (fun xs H Q => (∃ i, xs = [.int i] ∧ Q (.int i) H) ∨ ∃ k, xs = [.bl k] ∧ Q (.int (if k then 1 else 0)) H) opInt := by
  intro F H ds vs d Q s r e G
  cases ds with
  | nil => cases e
  | cons d0 t =>
    cases t with
    | cons d1 t => first | cases e | (cases d0 <;> cases e)
    | nil =>
    obtain ⟨v, rfl, rv⟩ := wrl1 r
    cases d0 with
    | int i => cases e; exact .inl ⟨i, by rw [w_int rv], G.int s⟩
    | bl k => cases e; exact .inr ⟨k, by rw [w_bl rv], G.int s⟩
    | _ => cases e
theorem s_max : SndN g (fun xs H Q => ∃ i j, xs = [.int i, .int j] ∧ Q (.int (if j > i then j else i)) H) opMax := by
  intro F H ds vs d Q s r e G
  cases ds with
  | nil => cases e
  | cons d0 t =>
    cases t with
    | nil => cases d0 <;> cases e
    | cons d1 t =>
    cases t with
    | cons d2 t => cases d0 <;> cases d1 <;> cases e
    | nil =>
    obtain ⟨v, w, rfl, rv, rw'⟩ := wrl2 r
    cases d0 with
    | int i =>
      cases d1 with
      | int j => cases e; exact ⟨i, j, by rw [w_int rv, w_int rw'], G.int s⟩
      | _ => cases e
    | _ => cases d1 <;> cases e
theorem s_min : SndN g (fun xs H Q => ∃ i j, xs = [.int i, .int j] ∧ Q (.int (if j < i then j else i)) H) opMin := by
  intro F H ds vs d Q s r e G
  cases ds with
  | nil => cases e
  | cons d0 t =>
    cases t with
    | nil => cases d0 <;> cases e
    | cons d1 t =>
    cases t with
    | cons d2 t => cases d0 <;> cases d1 <;> cases e
    | nil =>
    obtain ⟨v, w, rfl, rv, rw'⟩ := wrl2 r
    cases d0 with
    | int i =>
      cases d1 with
      | int j => cases e; exact ⟨i, j, by rw [w_int rv, w_int rw'], G.int s⟩
      | _ => cases e
    | _ => cases d1 <;> cases e
theorem s_sum : SndN g (rSum g.K) opSum := by
  intro F H ds vs d Q s r e G
  cases ds with
  | nil => cases e
  | cons d0 t =>
    cases t with
    | cons d1 t => first | cases e | (cases d0 <;> cases e)
    | nil =>
    obtain ⟨v, rfl, rv⟩ := wrl1 r
    dsimp only [opSum] at e
    cases q : lstOf d0 with
    | none => rw [q] at e; cases e
    | some xs =>
      rw [q] at e
      dsimp only at e
      cases q2 : dInts xs with
      | none => rw [q2] at e; cases e
      | some is =>
        rw [q2] at e; cases e
        obtain ⟨a, ws, rfl, h, l⟩ := w_lstOf s q rv
        rw [dInts_rep q2 l] at h
        exact ⟨a, is, rfl, h, G.int s⟩
theorem s_all : SndN g (rAll g.K) opAll := by
  intro F H ds vs d Q s r e G
  cases ds with
  | nil => cases e
  | cons d0 t =>
    cases t with
    | cons d1 t => first | cases e | (cases d0 <;> cases e)
    | nil =>
    obtain ⟨v, rfl, rv⟩ := wrl1 r
    dsimp only [opAll] at e
    cases q : lstOf d0 with
    | none => rw [q] at e; cases e
    | some xs =>
      rw [q] at e
      dsimp only at e
      cases q2 : dBls xs with
      | none => rw [q2] at e; cases e
      | some is =>
        rw [q2] at e; cases e
        obtain ⟨a, ws, rfl, h, l⟩ := w_lstOf s q rv
        rw [dBls_rep q2 l] at h
        exact ⟨a, is, rfl, h, G.bl s⟩
theorem s_any : SndN g (rAny g.K) opAny := by
  intro F H ds vs d Q s r e G
  cases ds with
  | nil => cases e
  | cons d0 t =>
    cases t with
    | cons d1 t => first | cases e | (cases d0 <;> cases e)
    | nil =>
    obtain ⟨v, rfl, rv⟩ := wrl1 r
    dsimp only [opAny] at e
    cases q : lstOf d0 with
    | none => rw [q] at e; cases e
    | some xs =>
      rw [q] at e
      dsimp only at e
      cases q2 : dBls xs with
      | none => rw [q2] at e; cases e
      | some is =>
        rw [q2] at e; cases e
        obtain ⟨a, ws, rfl, h, l⟩ := w_lstOf s q rv
        rw [dBls_rep q2 l] at h
        exact ⟨a, is, rfl, h, G.bl s⟩
end
end DL

set_option Elab.async false
set_option linter.all false
set_option maxRecDepth 100000
set_option maxHeartbeats 4000000
namespace DL
open PySem PySem.Spec PyProof.Rows L2

/-! ### methods -/
section
variable {X : Cx} {fx : Fx} {W : WX} {ca cb ea eb : Bool} {o e : Expr} {es : List Expr} {mo : M D} {ma : M (List D)} {op : D → List D → R D} {r : V → List V → Hp → VK → Prop} {nm : Str} {apos cpos : Pos} {id : String} {T : Ty}
theorem se_bm0 (T : Ty) (pa : PlainAttrs T.nm) (slot : Slot T.nm nm id) (hty : typeOf (.builtin id) = pure (.type "method_descriptor")) (hm : MtR X id r) (hs : SndM (gx X) r op) (ho : SE X fx W ca ea o mo)
    (hbase : attributeBase o nm X.env (eval o X.env) = eval o X.env := by rfl) (hline : (apos.endLine == cpos.line) = true := by rfl) : SE X fx W true ea (.Call (.Attribute o nm apos) [] [] cpos) (eMT T op mo aNil) :=
  PE.imp (pe_bm0 pa slot hty hm ho hbase hline) fun σ H Q q => tE_eM0 hs q
theorem se_bm (T : Ty) (pa : PlainAttrs T.nm) (slot : Slot T.nm nm id) (hty : typeOf (.builtin id) = pure (.type "method_descriptor")) (hm : MtR X id r) (hs : SndM (gx X) r op) (ho : SE X fx W ca ea o mo) (ha : SA X fx W cb eb (e :: es) ma) (hc : (!eb || ca) = true := by rfl)
    (hbase : attributeBase o nm X.env (eval o X.env) = eval o X.env := by rfl)
    (hfew : ((backTo cpos (starEach (e :: es) X.env)).all (fun x => !x.1) && (backToKw cpos (keywordEach [] X.env)).all (fun x => x.1.isSome)
      && decide ((e :: es).length + ([] : List Keyword).length + (if ([] : List Keyword).isEmpty then 0 else 1) < 30)) = true := by rfl)
    (hline : (apos.endLine == cpos.line) = true := by rfl) (hst : starEach (e :: es) X.env = (false, eval e X.env) :: starEach es X.env := by rfl) (hplain : (backTo cpos (starEach es X.env)).any (·.1) = false := by rfl) :
    SE X fx W true (ea || eb) (.Call (.Attribute o nm apos) (e :: es) [] cpos) (eMT T op mo ma) :=
  PE.imp (pe_bm pa slot hty hm ho ha hbase hfew hline hst hplain) fun σ H Q q => tE_eM hs hc q
end

/-- flat items -/
def rCntF (K : PySem.W.Frag) : V → List V → Hp → VK → Prop := fun x xs H Q => ∃ (p : Addr) (ys : List V) (y : V), x = .ref p ∧ xs = [y] ∧ SqL K H p ys ∧ flatV y = true ∧ ys.all flatV = true ∧ Q (.int (ys.countP fun z => eqV z y : Nat)) H
section
variable {X : Cx}
theorem eqU_countP {y : V} {us : List Value} : ∀ {ys : List V}, Vals ys us → ys.all flatV = true → us.countP (eqU y) = ys.countP fun z => eqV z y
  | _, .nil, _ => rfl
  | _, .cons r t, f => by
    rw [List.all_cons, Bool.and_eq_true] at f
    rw [List.countP_cons, List.countP_cons, eqU_of r f.1, eqU_countP t f.2]
theorem mt_lcountF : MtR X "list.count" (rCntF X.K) := by
  intro pins s σ H x xs v us Q I rx rxs h
  obtain ⟨p, ys, y, rfl, rfl, hs, fy, fys, q⟩ := h
  cases rx
  cases rxs with
  | cons ry rt =>
    rename_i uy ut
    cases rt
    obtain ⟨its, rv, ⟨⟨cls, dd, data, sl⟩, n, ho, hc, hdn, hd⟩, hlen⟩ := I.list hs
    simp only at hc hd
    subst hc hd
    refine call_meets PySem.F.slot_list_count ⟨_, ho, rfl⟩ PySem.F.entry_list_count (PySem.F.args_list_count_2 _ _)
      (SeqAt.list_countAt p its.toArray n dd sl uy (eqU y)) ⟨ho, fun u' hu' => mem_eqAt ry fy rv fys u' (by simpa using hu'), ?_⟩
    have ec : its.toArray.toList.countP (eqU y) = ys.countP fun z => eqV z y := eqU_countP rv fys
    refine ⟨.int (ys.countP fun z => eqV z y : Nat), H, I.tok _, ⟨s.toks, ?_⟩, q⟩
    show Value.int ((its.toArray.toList.countP (eqU y) : Nat) : Int) s.toks = Value.int _ s.toks
    rw [ec]
end
def opCount (x : D) (as : List D) : R D := match as with
  | [y] => match lstOf x, flat y with
    | some xs, some v => (match flats xs with
      | some vs => .ok (.int (vs.countP fun z => eqV z v : Nat))
      | none => .bad)
    | _, _ => .bad
  | _ => .bad
def findV (v : V) : List V → Option Nat
  | [] => none
  | z :: zs => if eqV z v = true then some 0 else (findV v zs).map (· + 1)
def opIndex (x : D) (as : List D) : R D := match as with
  | [y] => match lstOf x, flat y with
    | some xs, some v => (match flats xs with
      | some vs => (match findV v vs with
        | some n => .ok (.int (n : Nat))
        | none => .bad)
      | none => .bad)
    | _, _ => .bad
  | _ => .bad
def opJoin (x : D) (as : List D) : R D := match x, as with
  | .str a, [y] => match seqOf y with
    | some xs => (match dStrs xs with
      | some ys => if (ys.map (·.length)).sum + ys.length * a.length ≤ 16777216 then .ok (.str (Txt.join a ys)) else .bad
      | none => .bad)
    | none => .bad
  | _, _ => .bad
section
variable {X : Cx} {g : Gx}
theorem s_count : SndM g (rCntF g.K) opCount := by
  intro F H dx x ds vs d Q s rx r e G
  cases ds with
  | nil => cases e
  | cons d0 t =>
    cases t with
    | cons _ _ => cases e
    | nil =>
      obtain ⟨v, rfl, rv⟩ := wrl1 r
      dsimp only [opCount] at e
      cases q1 : lstOf dx with
      | none => rw [q1] at e; cases e
      | some xs =>
        cases q2 : flat d0 with
        | none => rw [q1, q2] at e; cases e
        | some u =>
          rw [q1, q2] at e
          dsimp only at e
          cases q3 : flats xs with
          | none => rw [q3] at e; cases e
          | some us =>
            rw [q3] at e; cases e
            obtain ⟨a, ws, rfl, h, l⟩ := w_lstOf s q1 rx
            obtain ⟨h1, h2⟩ := flat_rep q2 rv
            obtain ⟨h3, h4⟩ := flats_rep q3 l
            subst h1 h3
            exact ⟨a, _, _, rfl, rfl, h, h2, h4, G.int s⟩
theorem findV_spec {v : V} : ∀ {vs : List V} {n : Nat}, findV v vs = some n → ∃ z, vs[n]? = some z ∧ eqV z v = true ∧ ∀ (m : Nat) (z' : V), m < n → vs[m]? = some z' → eqV z' v = false
  | [], n, h => by cases h
  | z :: zs, n, h => by
    unfold findV at h
    by_cases c : eqV z v = true
    · rw [if_pos c] at h
      cases h
      exact ⟨z, rfl, c, fun m z' hm _ => absurd hm (by omega)⟩
    · rw [if_neg c] at h
      cases q : findV v zs with
      | none => rw [q] at h; cases h
      | some k =>
        rw [q] at h
        cases h
        obtain ⟨z1, h1, h2, h3⟩ := findV_spec q
        refine ⟨z1, by simpa using h1, h2, fun m z' hm hz => ?_⟩
        cases m with
        | zero =>
          have : z = z' := by simpa using hz
          subst this
          simpa using c
        | succ m => exact h3 m z' (by have := hm; simp at this; omega) (by simpa using hz)
theorem s_index : SndM g (rIndex g.K) opIndex := by
  intro F H dx x ds vs d Q s rx r e G
  cases ds with
  | nil => cases e
  | cons d0 t =>
    cases t with
    | cons _ _ => cases e
    | nil =>
      obtain ⟨v, rfl, rv⟩ := wrl1 r
      dsimp only [opIndex] at e
      cases q1 : lstOf dx with
      | none => rw [q1] at e; cases e
      | some xs =>
        cases q2 : flat d0 with
        | none => rw [q1, q2] at e; cases e
        | some u =>
          rw [q1, q2] at e
          dsimp only at e
          cases q3 : flats xs with
          | none => rw [q3] at e; cases e
          | some us =>
            rw [q3] at e
            dsimp only at e
            cases q4 : findV u us with
            | none => rw [q4] at e; cases e
            | some n =>
              rw [q4] at e; cases e
              obtain ⟨a, ws, rfl, h, l⟩ := w_lstOf s q1 rx
              obtain ⟨h1, h2⟩ := flat_rep q2 rv
              obtain ⟨h3, h4⟩ := flats_rep q3 l
              obtain ⟨z, h5, h6, h7⟩ := findV_spec q4
              subst h1 h3
              exact ⟨a, _, _, n, z, rfl, rfl, h, h2, h4, h5, h6, h7, G.int s⟩
theorem s_join : SndM g (fun x xs H Q => ∃ a p, ∃ ys : List Str, x = .str a ∧ xs = [.ref p] ∧ (SqL g.K H p (ys.map V.str) ∨ SqT g.K H p (ys.map V.str)) ∧
    (ys.map (·.length)).sum + ys.length * a.length ≤ 16777216 ∧ Q (.str (Txt.join a ys)) H) opJoin := by
  intro F H dx x ds vs d Q s rx r e G
  cases ds with
  | nil => cases dx <;> cases e
  | cons d0 t =>
    cases t with
    | cons _ _ => cases dx <;> cases e
    | nil =>
      obtain ⟨v, rfl, rv⟩ := wrl1 r
      cases dx with
      | str a =>
        dsimp only [opJoin] at e
        cases q1 : seqOf d0 with
        | none => rw [q1] at e; cases e
        | some xs =>
          rw [q1] at e
          dsimp only at e
          cases q3 : dStrs xs with
          | none => rw [q3] at e; cases e
          | some us =>
            rw [q3] at e
            dsimp only at e
            by_cases c : (us.map (·.length)).sum + us.length * a.length ≤ 16777216
            · rw [if_pos c] at e; cases e
              obtain ⟨p, ws, rfl, h, l⟩ := seqOf_rep s q1 rv
              rw [dStrs_rep q3 l] at h
              exact ⟨a, p, us, w_str rx, rfl, h, c, G.str s⟩
            · rw [if_neg c] at e; cases e
      | _ => cases e
end

/-! ### text * int -/
def opSMul : D → D → R D
  | .str x, .int n => if n < 2 ^ 24 ∧ x.length * n.toNat ≤ 16777216 ∧ -(2 ^ 63) ≤ n then .ok (.str (Txt.mul x n)) else .bad
  | x, y => opMul x y
section
variable {X : Cx} {g : Gx}
def rSMul : R2 := fun x y H Q => ∃ a n, x = .str a ∧ y = .int n ∧ MulOk a n ∧ Q (.str (Txt.mul a n)) H
theorem op_smul : OpR X (binaryOp .Mult) rSMul := by
  intro pins s σ H x y v u Q I rx ry h
  obtain ⟨a, n, rfl, rfl, hk, q⟩ := h
  obtain ⟨t, rfl⟩ := rx
  obtain ⟨t', rfl⟩ := ry
  exact PySem.SB.mul hk fun t2 k => ⟨.str _, H, I.tok _, ⟨_, rfl⟩, q⟩
theorem mulOk_of {x : Str} {n : Int} (h1 : n < 2 ^ 24) (h2 : x.length * n.toNat ≤ 16777216) (h0 : -(2 ^ 63) ≤ n) : MulOk x n := by
  refine ⟨?_, fun a b => ?_, fun a b => ?_⟩
  · have e1 : decide (n < -(2 ^ 63 : Int)) = false := decide_eq_false (by omega)
    have e2 : decide (n ≥ 2 ^ 63) = false := decide_eq_false (by omega)
    rw [e1, e2]
    rfl
  · have hn : 0 < n := by omega
    have hx : (x.length : Int) ≤ 16777216 := by
      have : x.length ≤ x.length * n.toNat := Nat.le_mul_of_pos_right _ (by omega)
      omega
    have : (16777216 : Int) ≤ (2 ^ 63 - 1) / n := by
      rw [Int.le_ediv_iff_mul_le hn]
      have : (16777216 : Int) * n ≤ 16777216 * 2 ^ 24 := by omega
      omega
    omega
  · unfold Builtin.Str.tooLong
    first
      | (rw [sizeLine_eq]; exact decide_eq_false (by omega))
      | exact decide_eq_false (by have := sizeLine_eq; omega)
theorem s_smul : Snd2 g (fun x y H Q => rSMul x y H Q ∨ rI CMulX (fun i j => .int (i * j)) x y H Q ∨ rRep x y H Q) opSMul := by
  intro F H dx dy x y d Q s rx ry e G
  have other : opMul dx dy = .ok d → (fun x y H Q => rSMul x y H Q ∨ rI CMulX (fun i j => .int (i * j)) x y H Q ∨ rRep x y H Q) x y H Q := fun h => .inr (s_mul (g := g) F H dx dy x y d Q s rx ry h G)
  cases dx with
  | str a =>
    cases dy with
    | int n =>
      dsimp only [opSMul] at e
      by_cases c : n < 2 ^ 24 ∧ a.length * n.toNat ≤ 16777216 ∧ -(2 ^ 63) ≤ n
      · rw [if_pos c] at e; cases e
        exact .inl ⟨a, n, w_str rx, w_int ry, mulOk_of c.1 c.2.1 c.2.2, G.str s⟩
      · rw [if_neg c] at e; cases e
    | _ => exact other e
  | _ => exact other e
theorem o_smul : OpR X (binaryOp .Mult) (fun x y H Q => rSMul x y H Q ∨ rI CMulX (fun i j => .int (i * j)) x y H Q ∨ rRep x y H Q) := op_smul.or o_mul
end

/-! ### i.bit_length() -/
def opBits : D → R D
  | .int i => .ok (.int (Builtin.Int.intBits i : Nat))
  | _ => .bad
section
variable {X : Cx} {fx : Fx} {W : WX} {ca ea : Bool} {o : Expr} {mo : M D} {apos pos : Pos}
theorem se_bits (ho : SE X fx W ca ea o mo) (hbase : attributeBase o "bit_length" X.env (eval o X.env) = eval o X.env := by rfl) (hline : (apos.endLine == pos.line) = true := by rfl) :
    SE X fx W true ea (.Call (.Attribute o "bit_length" apos) [] [] pos) (e1 opBits mo) := PE.imp (pe_bits ho hbase hline) fun σ H Q q => by
  have h := tE_e1 (r := fun x H Q => ∃ i, x = .int i ∧ Q (.int (Builtin.Int.intBits i : Nat)) H) (ca := ca) (fun F H dx x d Q s rx e G => by
    cases dx with
    | int i => cases e; exact ⟨i, w_int rx, G.int s⟩
    | _ => cases e) q
  exact h
/-- what is never reached -/
def eBad : M D := fun _ => .bad
theorem se_bad {eff : Bool} {e : Expr} : SE X fx W true eff e eBad := ⟨fun pins s σ H Q I q => by
  obtain ⟨F, ρ, S, h⟩ := q
  exact h.elim⟩
def sBad : MS := fun _ => .bad
theorem ss_bad {st : Stmt} : SS X fx W st sBad := ⟨fun pins s σ H D I q => by
  obtain ⟨F, ρ, S, h⟩ := q
  exact h.elim⟩
end

/-! ### isinstance -/
inductive Kd where
  | non | bl | int | str | lst | tup | dic
deriving DecidableEq
def Kd.nm : Kd → String
  | .non => "NoneType" | .bl => "bool" | .int => "int" | .str => "str" | .lst => "list" | .tup => "tuple" | .dic => "dict"
def kd : D → Option Kd
  | .non => some .non | .bl _ => some .bl | .int _ => some .int | .str _ => some .str | .lst _ => some .lst | .ros _ => some .lst | .tup _ => some .tup | .dic _ => some .dic
  | .exc _ _ _ => none
/-- isinstance: of the kinds, of the own errors -/
def opIs (base : List Kd) (tab : List (Str × Bool)) : D → R D
  | .exc _ c _ => match tab.lookup c with
    | some b => .ok (.bl b)
    | none => .bad
  | d => match kd d with
    | some k => .ok (.bl (base.contains k))
    | none => .bad
structure IsT (K : PySem.W.Frag) (mg : Str → Option Value) (us : List Value) (base : List Kd) (tab : List (Str × Bool)) : Prop where
  b : ∀ k : Kd, PySem.W.kitAny K (.type k.nm) us = some (base.contains k)
  t : ∀ p ∈ tab, ∃ C, mg p.1 = some (.ref C) ∧ PySem.W.kitAny K (.ref C) us = some p.2
/-- isinstance(e, c), (c1, ..): e an own error that is tracked -/
def rIsX (K : PySem.W.Frag) : List V → Hp → VK → Prop := fun xs H Q => ∃ (a C d : Addr) (fs : List (Str × V)) (c : V) (u : Value) (b : Bool), xs = [.ref a, c] ∧ H a = some (ExT C d a) ∧ H d = some (.xd fs) ∧ XcC K C ∧ ClsV c u ∧ PySem.W.kitOne K (.ref C) u = some b ∧ Q (.bl b) H
def rIsXT (K : PySem.W.Frag) : List V → Hp → VK → Prop := fun xs H Q => ∃ (a C d : Addr) (fs : List (Str × V)) (tp : Addr) (cs : List V) (us : List Value) (b : Bool), xs = [.ref a, .ref tp] ∧ H a = some (ExT C d a) ∧ H d = some (.xd fs) ∧ XcC K C ∧ H tp = some (.tup cs) ∧ Paired ClsV cs us ∧ PySem.W.kitAny K (.ref C) us = some b ∧ Q (.bl b) H
section
variable {X : Cx} {pins : List (Addr × Obj)} {σ : L2.St} {H : Hp} {s : Shared}
theorem call_isX : CallR X (.builtin "isinstance") (rIsX X.K) := by
  intro pins s σ H xs us Q I r h
  obtain ⟨a, C, d, fs, c, u, b, rfl, ha, hd, T, k, e, q⟩ := h
  obtain ⟨u1, u2, rfl, r1, r2⟩ := vals2 r
  cases (show u1 = Value.ref a from r1)
  have e2 := k.eq r2
  subst e2
  obtain ⟨oe, od, J, _⟩ := ext_inst I ha hd
  exact PySem.W.kia_one (PySem.W.kitx_exc T.hc T.hg T.hk T.hs T.ha T.hn T.ht T.hm) I.kIn J e (fun z => nomatch z) fun tk => ⟨.bl b, H, I.tok tk, rfl, q⟩
theorem call_isXT : CallR X (.builtin "isinstance") (rIsXT X.K) := by
  intro pins s σ H xs us Q I r h
  obtain ⟨a, C, d, fs, tp, cs, ws, b, rfl, ha, hd, T, hT, k, e, q⟩ := h
  obtain ⟨u1, u2, rfl, r1, r2⟩ := vals2 r
  cases (show u1 = Value.ref a from r1)
  cases (show u2 = Value.ref tp from r2)
  obtain ⟨oe, od, J, _⟩ := ext_inst I ha hd
  obtain ⟨_, its, rv, o, h1, h2, n, h3⟩ := (show ObjOk X.prog X.w H s.heap tp (.tup cs) from I.hok tp _ hT)
  have e3 := ClsV.all k rv
  subst e3
  obtain ⟨oc, od, dt, sl⟩ := o
  simp only at h2 h3
  subst h2 h3
  exact PySem.W.kia_tup (PySem.W.kitx_exc T.hc T.hg T.hk T.hs T.ha T.hn T.ht T.hm) I.kIn J h1 e (fun z => nomatch z) fun tk => ⟨.bl b, H, I.tok tk, rfl, q⟩
end
theorem kitAny1 {K : PySem.W.Frag} {t u : Value} {b : Bool} (h : PySem.W.kitAny K t [u] = some b) : PySem.W.kitOne K t u = some b := by
  unfold PySem.W.kitAny at h
  split at h
  · cases h; assumption
  · unfold PySem.W.kitAny at h; cases h; assumption
  · cases h
section
variable {g : Gx} {F H : Hp}
theorem ty_rep (s : Sub F H) {d : D} {k : Kd} {v : V} (e : kd d = some k) (r : WRep g F H d v) : TyX g.K H v (.type k.nm) := by
  have hl : ∀ {a : Addr} {vs : List V}, SqL g.K H a vs → TyX g.K H (.ref a) (.type "list") := fun {a vs} q => by
    rcases q with (q | ⟨o, q⟩) | q
    · exact .base (.lst q)
    · exact .base (.frz q)
    · obtain ⟨o, _, _, h1, h2, _⟩ := q
      exact .kList h1 h2
  have ht : ∀ {a : Addr} {vs : List V}, SqT g.K H a vs → TyX g.K H (.ref a) (.type "tuple") := fun {a vs} q => by
    rcases q with (q | ⟨o, q⟩) | q
    · exact .base (.tup q)
    · exact .fTuple q
    · obtain ⟨o, _, _, h1, h2, _⟩ := q
      exact .kTuple h1 h2
  cases d with
  | non => cases e; rw [w_non r]; exact .base .non
  | bl b => cases e; rw [w_bl r]; exact .base (.bl b)
  | int b => cases e; rw [w_int r]; exact .base (.int b)
  | str b => cases e; rw [w_str r]; exact .base (.str b)
  | lst xs => cases e; obtain ⟨a, vs, rfl, h, _⟩ := w_lst s r; exact .base (.lst h)
  | ros xs => cases e; obtain ⟨a, vs, rfl, h, _⟩ := w_ros s r; exact hl h
  | tup xs => cases e; obtain ⟨a, vs, rfl, h, _⟩ := w_tup s r; exact ht h
  | dic xs =>
    cases e
    obtain ⟨a, vs, rfl, h | ⟨u, h⟩, _⟩ := w_dic s r
    · exact .base (.dK h)
    · exact .fDict h
  | exc a c x => cases e
end
section
variable {X : Cx} {fx : Fx} {W : WX} {ca ea : Bool} {e : Expr} {m : M D} {p p2 pos tpos : Pos}
theorem lookup_mem {c : Str} {b : Bool} : ∀ {tab : List (Str × Bool)}, tab.lookup c = some b → (c, b) ∈ tab
  | [], h => by cases h
  | (k, z) :: t, h => by
    rw [List.lookup_cons] at h
    cases q : c == k with
    | true =>
      rw [q] at h
      cases h
      have : c = k := by simpa using q
      subst this
      exact List.mem_cons_self
    | false =>
      rw [q] at h
      exact List.mem_cons_of_mem _ (lookup_mem h)
theorem tE_isi {g : Gx} {σ : L2.St} {H : Hp} {Q : VK} {c : V} {u : Value} {base : List Kd} {tab : List (Str × Bool)} (k : ClsV c u) (T : IsT g.K g.mg [u] base tab) (h : tE g fx W true ea (e1 (opIs base tab) m) σ H Q) :
    tCB (fun xs H Q => rIsi g.K xs H Q ∨ rIsX g.K xs H Q) (tCons (tE g fx W ca ea m) (tCons (tC c) tNil)) σ H Q := by
  have h2 := tE_e1 (r := fun x H Q => rIsi g.K [x, c] H Q ∨ rIsX g.K [x, c] H Q) (ca := ca) (fun F H dx x d Q s rx e G => by
    cases dx with
    | exc a cn y =>
      dsimp only [opIs] at e
      cases q : tab.lookup cn with
      | none => rw [q] at e; cases e
      | some b =>
        rw [q] at e; cases e
        obtain ⟨C, d, w, rfl, h1, m2, h2, h3, _⟩ := w_exc s rx
        obtain ⟨C', m1, m3⟩ := T.t _ (lookup_mem q)
        rw [h1] at m1
        cases m1
        exact .inr ⟨a, C, d, _, c, u, b, rfl, h2, h3, m2, k, kitAny1 m3, G.bl s⟩
    | _ =>
      first
        | (cases e; exact .inl ⟨x, c, _, u, _, rfl, k, ty_rep s rfl rx, kitAny1 (T.b _), G.bl s⟩)) h
  exact h2
/-- isinstance(e, T) -/
theorem se_isi {T : String} {x : Str} {base : List Kd} {tab : List (Str × Bool)} (IT : IsT X.K X.mg [.type T] base tab) (hmT : X.mg x = none) (hvT : bootBuiltins x = some (.type T)) (he : SE X fx W ca ea e m) (hm : X.mg "isinstance" = none) (hg : Gl X "isinstance" := by rfl) (hgT : Gl X x := by rfl)
    (hn : x ≠ "__name__" := by decide) (hdb : (x == ("__debug__" : Str)) = false := by decide)
    (h1 : starEach [e, .Name x p2] X.env = (false, eval e X.env) :: starEach [.Name x p2] X.env := by rfl) (h2 : starEach [.Name x p2] X.env = (false, eval (.Name x p2) X.env) :: starEach [] X.env := by rfl) (hpl : (backTo pos (starEach [.Name x p2] X.env)).any (·.1) = false := by rfl) :
    SE X fx W true ea (.Call (.Name "isinstance" p) [e, .Name x p2] [] pos) (e1 (opIs base tab) m) :=
  PE.imp (pe_callB (call_isi.or call_isX) hg hm PyProof.Rows.Boot.«isinstance» (pa_cons he (pa_cons (pe_bltn (v := V.ty T) hgT hmT hvT rfl hn hdb) pa_nil h2) h1) (by decide) (by decide) h1 hpl) fun σ H Q q => tE_isi (.ty T) IT q
/-- isinstance(e, C), an own class -/
theorem se_isiO {C : Addr} {x : Str} {base : List Kd} {tab : List (Str × Bool)} (IT : IsT X.K X.mg [.ref C] base tab) (hmT : X.mg x = some (.ref C)) (he : SE X fx W ca ea e m) (hm : X.mg "isinstance" = none) (hg : Gl X "isinstance" := by rfl) (hgT : Gl X x := by rfl)
    (hdb : (x == ("__debug__" : Str)) = false := by decide)
    (h1 : starEach [e, .Name x p2] X.env = (false, eval e X.env) :: starEach [.Name x p2] X.env := by rfl) (h2 : starEach [.Name x p2] X.env = (false, eval (.Name x p2) X.env) :: starEach [] X.env := by rfl) (hpl : (backTo pos (starEach [.Name x p2] X.env)).any (·.1) = false := by rfl) :
    SE X fx W true ea (.Call (.Name "isinstance" p) [e, .Name x p2] [] pos) (e1 (opIs base tab) m) :=
  PE.imp (pe_callB (call_isi.or call_isX) hg hm PyProof.Rows.Boot.«isinstance» (pa_cons he (pa_cons (pe_glob (v := V.ref C) hgT hmT rfl hdb) pa_nil h2) h1) (by decide) (by decide) h1 hpl) fun σ H Q q => tE_isi (.own C) IT q
end
end DL

set_option Elab.async false
set_option linter.all false
set_option maxRecDepth 100000
set_option maxHeartbeats 4000000
namespace DL
open PySem PySem.Spec PyProof.Rows L2

/-! ### a caught error that is kept: it is tracked from the clause's end on -/
section
variable {X : Cx} {pins : List (Addr × Obj)} {σ : L2.St} {H : Hp} {s : Shared}
/-- an object of the heap that nobody tracked is tracked -/
theorem inv_track {a : Addr} {o : HO} (I : Inv X pins σ H s) (hn : H a = none) (n0 : X.s_0.heap.get? a = none) (nL : a ≠ X.env.locals) (nC : ∀ x c, X.env.cells.lookup x = some c → c ≠ a) (np : ∀ p ∈ X.pn ++ pins, p.1 ≠ a)
    (new : ObjOk X.prog X.w (upd H a o) s.heap a o) : Inv X pins σ (upd H a o) s where
  ok := I.ok
  os := I.os
  bare := I.bare
  base := {
    keep := fun b u e n h1 h2 => I.base.keep b u e n h1 h2
    slot := fun b u e n h1 h2 => I.base.slot b u e n h1 h2
    free := fun b u e n h1 => by
      have ne : b ≠ a := fun z => by rw [z, n0] at e; cases e
      rw [upd_ne ne]
      exact I.base.free b u e n h1
    there := fun b u e h1 => I.base.there b u e h1
    tups := fun b xs e => by
      have q := I.base.tups b xs e
      rw [upd_ne (ne_of_none q hn)]
      exact q
    frzs := fun b u w e => by
      have q := I.base.frzs b u w e
      rw [upd_ne (ne_of_none q hn)]
      exact q
    tbls := fun b ps e => by
      obtain ⟨more, q⟩ := I.base.tbls b ps e
      exact ⟨more, by rw [upd_ne (ne_of_none q hn)]; exact q⟩ }
  loc := I.loc
  cell := I.cell
  free := by
    rw [upd_ne (Ne.symm nL)]
    exact I.free
  freeC := fun x c e => by
    rw [upd_ne (nC x c e)]
    exact I.freeC x c e
  pin := fun p hp => by
    obtain ⟨h1, h2, h3⟩ := I.pin p hp
    exact ⟨h1, by rw [upd_ne (np p hp)]; exact h2, h3⟩
  hok := I.hok.laidN (fun _ _ e => e) hn new
  len := I.len
theorem ext_ok {P : Program} {w : World} {h : Heap} {a C d : Addr} {oe : Obj} {vs : Array Value} (e : h.get? a = some oe) (e1 : oe.cls = .ref C) (e2 : oe.dict = some d) (e3 : oe.data = .fields vs) : ObjOk P w H h a (ExT C d a) :=
  ⟨⟨oe, vs, e, e1, e2, e3⟩, ⟨oe, e⟩, fun _ _ ⟨o, v, q, r⟩ k => ⟨o, v, k o q, r⟩⟩
end

/-- except c as (slot i): a suite that goes on, the error kept -/
def wKeep (K : PySem.W.Frag) (c : Value) (i : Nat) (ts : Addr → TS) (Wout : WX) (E : Ends) : WX := fun cls d σ H =>
  ∃ b, PySem.W.exmOne K cls c = some b ∧ (b = false → Wout cls d σ H) ∧
    (b = true → ∃ C dd, cls = .ref C ∧ d = some dd ∧ ∀ a, H a = none → ts a { nx := fun σ' H' => H' a = none → E.nx (σ'.set i none) (upd H' a (ExT C dd a)), rt := fun _ _ => False, bk := fun _ _ => False, ct := fun _ _ => False } (σ.set i (some (.ref a))) H)
section
variable {X : Cx} {x n : Str} {c : Value} {i : Nat} {body suite : List Stmt} {b₀ : Stmt} {np pos pos' : Pos} {tb : WX → TS} {ts : Addr → TS} {Wout : WX}
theorem ps_keep (hx0 : X.ex = []) (hs : X.stack = X.env :: X.outer) (hf : X.env.frame = some X.env.locals) (hN : X.N.Nodup) (hi : X.N[i]? = some n) (hln : X.env.kindOf n = some .local) (hc : Names X x c) (tk : Takes X Wout)
    (hb : ∀ (W : WX) (pn : List (Addr × Obj)) (xe : Value → Shared → Prop), Takes (X.tr pn xe) W → PassesOwn (model X.prog X.w) X.A X.env xe → PSs (X.tr pn xe) body (tb W))
    (hsu : ∀ (a : Addr) (oe : Obj) (pn : List (Addr × Obj)), PSs (X.suite a ((a, oe) :: pn)) (b₀ :: suite) (ts a)) :
    PS X (.Try body [.ExceptHandler (some (.Name x np)) (some n) (b₀ :: suite) pos'] [] [] pos) (fun E σ H => tb (wKeep X.K c i ts Wout E) E σ H) := by
  constructor
  intro pins s σ H E I h
  have ok := I.ok
  have frm : X.A.frames = some (X.env :: X.outer) := by rw [ok.frames]; rw [hs]
  refine wpAny_Try_except (wpAny_mono ((hb (wKeep X.K c i ts Wout E) (X.pn ++ pins) (fun e s₁ => wpAny (model X.prog X.w) X.A (noteFrame e X.env) (fun _ s₂ => wpAny (model X.prog X.w) X.A (setFlight e none) (fun _ s₃ => wpAny (model X.prog X.w) X.A (handleBy e X.env [.ExceptHandler (some (.Name x np)) (some n) (b₀ :: suite) pos']) (L2.SP X pins E) X.xe s₃) X.xe s₂) X.xe s₁) ?_ PassesOwn.looking).run [] s σ H E (I.toTry _) h) ?_ fun _ _ z => z)
  · rintro u s' ⟨a, B, sI, pins', σ', H', cls, d, rfl, J0, nb, up, sky, na, os, ag, b, hb1, hno, hyes⟩
    have J : Inv X pins σ' H' sI := J0.ofTry ok
    rw [show (X.tr (X.pn ++ pins) _).stack = X.env :: X.outer from hs] at sky
    show wpAny (model X.prog X.w) X.A (noteFrame (.ref a) X.env) _ _ _
    refine Sky.land Zc.steady frm hf sky fun h3 fl3 up3 => ?_
    have J3 : Inv X pins σ' H' { s' with heap := h3 } := J.landed nb fl3.1 (up.trans up3) os ag
    obtain ⟨oe3, vs3, he3, hz3, hd3⟩ := fl3.there
    have nfr : a ∉ frs (X.env :: X.outer) := fun hm => by
      obtain ⟨_, o', e', hnf⟩ := fl3.2.2.1.mem hm
      rw [he3] at e'
      cases e'
      exact hnf _ hd3
    have nL : a ≠ X.env.locals := fun z => nfr (List.mem_filterMap.mpr ⟨X.env, List.mem_cons_self, by rw [hf, z]⟩)
    have nF : a ∉ X.fs := fun hm => by
      obtain ⟨e, he, q⟩ := List.mem_filterMap.mp hm
      exact nfr (List.mem_filterMap.mpr ⟨e, List.mem_cons_of_mem _ he, q⟩)
    have gB : B.get? a = none := fl3.2.1
    have gI : sI.heap.get? a = none := by
      cases e : sI.heap.get? a with
      | none => rfl
      | some o =>
        have z := nb a o e (by rw [show (X.tr (X.pn ++ pins) _).stack = X.env :: X.outer from hs]; exact nfr)
        rw [gB] at z
        cases z
    have n0 : X.s_0.heap.get? a = none := by
      cases e : X.s_0.heap.get? a with
      | none => rfl
      | some o =>
        obtain ⟨o', z⟩ := J.base.there a o e (by rw [hx0]; exact fun z => nomatch z)
        rw [gI] at z
        cases z
    have np' : ∀ p ∈ X.pn ++ pins, p.1 ≠ a := fun p hp z => by
      have q := (J.pin p hp).1
      rw [z, gI] at q
      cases q
    have S3 := J3.suite he3 hd3 na nL nF
    refine wpAny_handleBy_cons (codeAny_handlers_test ?_) (by intro q; cases q)
    have LT : PySem.W.Looks (model X.prog X.w) h3 (typeOf (.ref a)) cls := fun A Q E s k q => wpAny_typeOf_ref (k _ _ he3) (by rw [hz3.1]; exact q)
    have LM := PySem.W.exm_one (M := model X.prog X.w) (J3.kIn) LT hb1
    have test : ∀ {Q : Value → Shared → Prop} {E : Value → Shared → Prop}, Q c { s' with heap := h3 } → wpAny (model X.prog X.w) (X.A.mark (some (.ref a))) (eval (.Name x np) X.env) Q E { s' with heap := h3 } := fun {Q E} q => by
      obtain ⟨hg, hdbg, hm | ⟨hm, hv, hnn⟩⟩ := hc
      · exact ld_glob (X := X.suite a ((a, oe3) :: (X.pn ++ pins))) S3 hg hm q hdbg
      · exact ld_blt (X := X.suite a ((a, oe3) :: (X.pn ++ pins))) S3 hg hm hv q hnn hdbg
    refine test (LM.here ?_)
    cases b with
    | true =>
      refine codeAny_handlers_suite_as (HandSPX.lands_againZ fl3 fun h4 fl4 up4 => ?_)
      have J4 : Inv X pins σ' H' { s' with heap := h4 } := J.landed nb fl4.1 ((up.trans up3).trans up4) os ag
      obtain ⟨oe4, vs4, he4, hz4, hd4⟩ := fl4.there
      have S4 := J4.suite he4 hd4 na nL nF
      obtain ⟨C, dd, rfl, rfl, hts⟩ := hyes rfl
      refine store_ok (X := X.suite a ((a, oe4) :: (X.pn ++ pins))) (v := .ref a) S4 hN hi (.inl hln) rfl (fun s5 S5 => ?_) (.inr hln)
      refine wpAny_mono ((hsu a oe4 (X.pn ++ pins)).run [] s5 _ H' _ S5 (hts a na)) (fun f s6 hsp => ?_) (fun _ _ z => False.elim z)
      cases f with
      | next =>
        obtain ⟨σ6, H6, S6, q6⟩ := hsp
        have U6 : Inv X ((a, oe4) :: pins) σ6 H6 s6 :=
          ⟨ok, S6.os, S6.bare, S6.base, S6.loc, S6.cell, S6.free, S6.freeC, fun p hp => S6.pin p (by
            refine List.mem_append_left _ ?_
            rcases List.mem_append.mp hp with z | z
            · exact List.mem_cons_of_mem _ (List.mem_append_left _ z)
            · rcases List.mem_cons.mp z with z | z
              · rw [z]; exact List.mem_cons_self
              · exact List.mem_cons_of_mem _ (List.mem_append_right _ z)), S6.hok, S6.len⟩
        refine gone_ok U6 hN hi hln fun s7 J7 => ?_
        obtain ⟨ea, ha, _, _, hnc⟩ := J7.pin (a, oe4) (List.mem_append_right _ List.mem_cons_self)
        have J8 : Inv X pins (σ6.set i none) H6 s7 :=
          ⟨ok, J7.os, J7.bare, J7.base, J7.loc, J7.cell, J7.free, J7.freeC, fun p hp => J7.pin p (by
            rcases List.mem_append.mp hp with z | z
            · exact List.mem_append_left _ z
            · exact List.mem_append_right _ (List.mem_cons_of_mem _ z)), J7.hok, J7.len⟩
        refine ⟨_, _, inv_track J8 ha n0 nL (fun y c' e z => ?_) np' (ext_ok ea hz4.1 hz4.2 hd4), q6 ha⟩
        obtain ⟨v, oc, g1, g2⟩ := J8.cell y c' e
        have eo : oc = oe4 := by
          rw [z, ea] at g1
          exact (Option.some.inj g1).symm
        rw [eo] at g2
        exact hnc v g2
      | brk =>
        obtain ⟨_, _, _, z⟩ := hsp
        exact z.elim
      | cont =>
        obtain ⟨_, _, _, z⟩ := hsp
        exact z.elim
      | ret u =>
        obtain ⟨_, _, _, _, _, z⟩ := hsp
        exact z.elim
    | false =>
      show wpAny _ X.A (handleBy (.ref a) X.env []) _ _ _
      refine wpAny_handleBy_nil ?_
      obtain ⟨k1, k2, k3, oe, vs, T, oT, ts', he, hz, hd, h1, hr⟩ := id fl3
      unfold PySem.passOn
      refine wpAny_bind (wpAny_field he hd h1 ?_)
      rw [if_neg (show ¬ ((Value.ref T == Value.none) = true) from by simp)]
      have fin : wpAny (model X.prog X.w) X.A (setFlight (.ref a) X.env.frame) (fun _ s4 => wpAny (model X.prog X.w) X.A (throw (.ref a) : Sem Flow) (L2.SP X pins E) X.xe s4) X.xe { s' with heap := h3 } := by
        rw [hf]
        exact HandSPX.setFlight_upZ fl3 fun h4 hh4 up4 => wpAny_throw (tk _ _ ⟨a, B, sI, pins, σ', H', cls, d, rfl, J, nb, (up.trans up3).trans up4, .inr (.inr (by rw [hs]; exact hh4)), na, os, ag, hno rfl⟩)
      first
        | exact wpAny_bind (wpAny_pure (wpAny_bind fin))
        | exact wpAny_bind fin
  · intro f s1 hsp
    cases f with
    | next =>
      obtain ⟨σ', H', J', q⟩ := hsp
      exact wpAny_execs_nil ⟨σ', H', J'.ofTry ok, q⟩
    | brk =>
      obtain ⟨σ', H', J', q⟩ := hsp
      exact ⟨σ', H', J'.ofTry ok, q⟩
    | cont =>
      obtain ⟨σ', H', J', q⟩ := hsp
      exact ⟨σ', H', J'.ofTry ok, q⟩
    | ret u =>
      obtain ⟨v, σ', H', J', r, q⟩ := hsp
      exact ⟨v, σ', H', J'.ofTry ok, r, q⟩
end
end DL

set_option Elab.async false
set_option linter.all false
set_option maxRecDepth 100000
set_option maxHeartbeats 4000000
namespace DL
open PySem PySem.Spec PyProof.Rows L2

/-! ### an own error class with __init__(self, value=None): self.value = value -/
def spInit (K : PySem.W.Frag) : Sp := fun vs H Q E => ∃ (a C : Addr) (y : V), vs = [.ref a, y] ∧ OexC K C ∧ PySem.W.findIn K (.ref C) "value" = some none ∧ H a = some (exo a C none) ∧
  ∀ dx, H dx = none → dx ≠ a → Q .non (upd (upd H dx (exd dx [("value", y)])) a (exo a C (some dx)))
/-- what the callers of such a class know -/
structure Xd (P : Program) (w : World) (K : PySem.W.Frag) (mg : Str → Option Value) (base : Heap) (x : Str) (k : Nat) : Prop where
  ex : ∃ C fI fd ps, OexC K C ∧ XcC K C ∧ PySem.W.findIn K (.ref C) "__init__" = some (some (.ref fI)) ∧ PySem.W.typeIn K (.ref fI) = some (.type "function") ∧
    FnOk P w K mg base (L2.CX P w) k fI fd ps (spInit K) ∧ Binds K fd ps [] ∧ mg x = some (.ref C)
section
variable {P : Program} {w : World} {K : PySem.W.Frag} {mg : Str → Option Value} {base : Heap}
theorem init_ok {x qual : Str} {st : Stmt} {f : Addr} {fd : FuncData} {k : Nat} {p1 p2 p3 p4 : Pos} (FF : DF K x qual st f fd) (S : FnScope ["self", "value"] ["self", "value"] (defScope st))
    (hs : (defScope st).names.lookup ("self" : Str) = some .local) (hv : (defScope st).names.lookup ("value" : Str) = some .local) (hb : defBody st = [.Assign [.Attribute (.Name "self" p1) "value" p2] (.Name "value" p3) p4])
    (hsw : ∀ (env : Env), swapsWith (.Name "value" p3) (some (.Attribute (.Name "self" p1) "value" p2)) p4.line env = pure false) :
    FnOk P w K mg base (L2.CX P w) (k + 1) f fd ["self", "value"] (spInit K) := by
  refine FF.okX0 S (fun vs H Q E h => ?_) (fun cdv A outer s H vs Q E hr h => ?_)
  · obtain ⟨a, C, y, rfl, _⟩ := h
    rfl
  · obtain ⟨a, C, y, rfl, T, hno, ha, q⟩ := h
    rw [hb]
    refine ⟨_, pss_one (ps_ost (pv 0 (hN := by rfl) (hv := .inl hs)) (pv 1 (hN := by rfl) (hv := .inl hv)) (hsw _)), ?_⟩
    exact ⟨y, rfl, .ref a, rfl, a, C, rfl, T, hno, .inl ⟨ha, fun dx n1 n2 => q dx n1 n2⟩⟩
end
/-! ### raise C(e) -/
def sRaise (c : Str) (m : M D) : MS := sDo m fun d ρ => .exn c d ρ
section
variable {X : Cx} {fx : Fx} {W : WX} {ea : Bool} {e : Expr} {m : M D} {E : Ends} {σ : L2.St} {H : Hp}
theorem tS_raise {c : Str} {C : Addr} (T : OexC X.K C) (TC : XcC X.K C) (hm : X.mg c = some (.ref C)) (h : tS (gx X) fx W (sRaise c m) E σ H) :
    tMkO C (spInit X.K) [] (tCons (tE (gx X) fx W true ea m) tNil) σ H fun cls d H' => W cls d σ H' := by
  obtain ⟨F, ρ, S, h⟩ := h
  refine ⟨F, ρ, S, ?_⟩
  unfold sRaise sDo at h
  cases e1 : m ρ with
  | bad => rw [e1] at h; exact h
  | exn c' x r =>
    rw [e1] at h
    exact xgs h
  | ok d ρ1 =>
    rw [e1] at h
    intro v H1 F1 G1 S1 r1
    refine ⟨Nat.le_of_ble_eq_true rfl, fun a na => ⟨a, C, v, rfl, T, TC.hv, upd_same, fun dx n1 n2 => ⟨rfl, dx, _, upd_same, by rw [upd_ne n2, upd_same], ?_, ?_⟩⟩⟩
    · rw [upd_ne n2] at n1
      exact n1
    · have nd : H1 dx = none := by rw [upd_ne n2] at n1; exact n1
      have eh : upd (del (upd (upd (upd H1 a (exo a C none)) dx (exd dx [("value", v)])) a (exo a C (some dx))) a) dx (.xd [("value", v)]) = upd H1 dx (.xd [("value", v)]) := by
        funext b
        by_cases hb : b = dx
        · subst hb
          rw [upd_same, upd_same]
        · rw [upd_ne hb, upd_ne hb]
          by_cases ha : b = a
          · subst ha
            rw [del_same, na]
          · rw [del_ne ha, upd_ne ha, upd_ne hb, upd_ne ha]
      rw [eh]
      have G2 := Grow.new S1.s (p := dx) (o := .xd [("value", v)]) nd
      exact h (.ref C) (some dx) σ _ (upd F1 dx (.xd [("value", v)])) (G1.gs.trans (Grow.gs G2)) (S1.grow G2) ⟨C, dx, v, rfl, rfl, hm, TC, upd_same, r1.mono G2.f⟩
theorem ss_raise {c : Str} {k : Nat} {p pos rpos : Pos} (C : Xd X.prog X.w X.K X.mg X.base c k) (hc : X.calm = true) (hr : Room (k + 1) X.A) (tk : Takes X W) (he : SE X fx W true ea e m) (hx : ∀ (us : L2.St), True := fun _ => trivial) (hg : Gl X c := by rfl)
    (hdb : (c == ("__debug__" : Str)) = false := by decide) (hst : starEach [e] X.env = (false, eval e X.env) :: starEach [] X.env := by rfl) (hpl : (backTo pos (starEach [] X.env)).any (·.1) = false := by rfl) :
    SS X fx W (.Raise (some (.Call (.Name c p) [e] [] pos)) none rpos) (sRaise c m) := by
  obtain ⟨Ca, fI, fd, ps, T, TC, iC, tI, F1, hb, hm⟩ := C.ex
  exact PS.imp (L2.ps_raise hc tk (pmk_oex T iC tI F1 hr hb .nil (fun _ _ _ _ _ _ _ h => by
    obtain ⟨_, _, _, _, _, _, _, _, _, _, _, _, z⟩ := h
    exact z.elim) hg hm (pa_cons he pa_nil hst) hdb hst hpl)) fun E σ H h => tS_raise (ea := ea) T TC hm h
end
end DL

set_option Elab.async false
set_option linter.all false
set_option maxRecDepth 100000
set_option maxHeartbeats 4000000
namespace DL
open PySem PySem.Spec PyProof.Rows L2

/-! ### try: .. except C as e: kept = e -/
def SO.kept (tab : List (Str × Bool)) (i j : Nat) : SO → SO
  | .exn c v ρ => match tab.lookup c with
    | some true => if i < ρ.length then .any fun a => .nx ((ρ.set j (.cl (.exc a c v))).set i .no) else .bad
    | some false => .exn c v ρ
    | none => .bad
  | .any f => .any fun a => (f a).kept tab i j
  | .nx ρ => .nx ρ
  | .ret d ρ => .ret d ρ
  | .brk ρ => .brk ρ
  | .ct ρ => .ct ρ
  | .bad => .bad
def sTryK (tab : List (Str × Bool)) (i j : Nat) (mb : MS) : MS := fun ρ => (mb ρ).kept tab i j
/-- which own errors the clause takes -/
def CatT (K : PySem.W.Frag) (mg : Str → Option Value) (cv : Value) (tab : List (Str × Bool)) : Prop := ∀ p ∈ tab, ∃ C, mg p.1 = some (.ref C) ∧ PySem.W.exmOne K (.ref C) cv = some p.2
section
variable {g : Gx} {fx : Fx} {W : WX} {σ : L2.St} {H F : Hp} {ρ : Rho} {E : Ends}
theorem ST.unset (S : ST g fx σ H F ρ) {i : Nat} (hi : fx.ow.contains i = false) : ST g fx (σ.set i none) H F (ρ.set i .no) where
  s := S.s
  ge := S.ge
  nw := S.nw
  old := S.old
  len := by rw [List.length_set, List.length_set]; exact S.len
  cl := fun j d h => by
    obtain ⟨ne, q⟩ := set_no h (by intro z; cases z)
    rw [List.getElem?_set_ne ne]
    exact S.cl j d q
  ow := fun j d h => by
    obtain ⟨ne, q⟩ := set_no h (by intro z; cases z)
    rw [List.getElem?_set_ne ne]
    exact S.ow j d q
  inj := fun j k d e a h1 h2 h3 h4 => by
    obtain ⟨n1, q1⟩ := set_no h1 (by intro z; cases z)
    obtain ⟨n2, q2⟩ := set_no h2 (by intro z; cases z)
    rw [List.getElem?_set_ne n1] at h3
    rw [List.getElem?_set_ne n2] at h4
    exact S.inj j k d e a q1 q2 h3 h4
  par := fun j a h => by
    have hj := S.pin j a h
    have ne : i ≠ j := fun e => by
      subst e
      have : fx.ow.contains i = true := by simpa using hj
      rw [hi] at this; cases this
    obtain ⟨⟨d, e⟩, e2⟩ := S.par j a h
    exact ⟨⟨d, by rw [List.getElem?_set_ne ne]; exact e⟩, by rw [List.getElem?_set_ne ne]; exact e2⟩
  pin := S.pin
theorem gs_unset {i : Nat} : Gs σ F H ρ (σ.set i none) F H (ρ.set i .no) := ⟨Sub.refl _, fun _ _ h => .inl h, fun _ _ h _ => h, fun a ⟨j, d, h1, h2⟩ => .inl ⟨j, d, by
    obtain ⟨ne, q⟩ := set_no h1 (by intro z; cases z)
    rw [List.getElem?_set_ne ne] at h2
    exact ⟨q, h2⟩⟩, fun _ o h => ⟨o, h⟩⟩
theorem post_kept {cv : Value} {tab : List (Str × Bool)} {i j : Nat} (hij : i ≠ j) (oi : fx.ow.contains i = false) (oj : fx.ow.contains j = false) (T : CatT g.K g.mg cv tab) :
    ∀ {s : SO}, sPost g fx W E σ F H ρ (s.kept tab i j) → sPost g fx (wKeep g.K cv i (fun a => tAsg (tVar i) (gName j)) W E) E σ F H ρ s
  | .nx ρ1, h => h
  | .ret d r, h => h
  | .brk r, h => h
  | .ct r, h => h
  | .bad, h => h
  | .any f, h => fun a => post_kept hij oi oj T (h a)
  | .exn c v r, h => by
    intro cls dd σ' H' F' G S' X
    obtain ⟨C, d, w, rfl, rfl, hm, XC, hd, rw'⟩ := X
    dsimp only [SO.kept] at h
    cases q : tab.lookup c with
    | none => rw [q] at h; exact h.elim
    | some b =>
      rw [q] at h
      obtain ⟨C', m1, m2⟩ := T _ (lookup_mem q)
      rw [hm] at m1
      cases m1
      refine ⟨b, m2, fun z => ?_, fun z => ?_⟩
      · subst z
        exact h _ _ σ' H' F' G S' ⟨C, d, w, rfl, rfl, hm, XC, hd, rw'⟩
      · subst z
        dsimp only at h
        by_cases hi : i < r.length
        · rw [if_pos hi] at h
          refine ⟨C, d, rfl, rfl, fun a na => ⟨.ref a, ?_, fun na' => ?_⟩⟩
          · rw [List.getElem?_set_self (by rw [S'.len]; exact hi)]
          · have G2 := Grow.new S'.s (p := a) (o := ExT C d a) na
            have dn : F' a = none := by
              cases z : F' a with
              | none => rfl
              | some u => rw [S'.s a u z] at na; cases na
            have rx : Rep g (upd F' a (ExT C d a)) (.exc a c v) (.ref a) := by
              simp only [Rep]
              exact ⟨C, d, w, trivial, hm, XC, upd_same, G2.f _ _ hd, rw'.mono G2.f⟩
            have S2 := ((S'.grow G2).set oj rx).unset oi
            have ec : ((σ'.set i (some (.ref a))).set j (some (.ref a))).set i none = (σ'.set j (some (.ref a))).set i none := by
              rw [List.set_comm _ _ hij, List.set_set]
            have Gf := ((G.trans (Grow.gs G2)).trans (gs_set (i := j) (v := .ref a) (d := .exc a c v))).trans (gs_unset (i := i))
            show E.nx (((σ'.set i (some (.ref a))).set j (some (.ref a))).set i none) (upd H' a (ExT C d a))
            rw [ec]
            exact h a _ _ _ Gf S2
        · rw [if_neg hi] at h
          exact h.elim
theorem tS_tryK {cv : Value} {tab : List (Str × Bool)} {i j : Nat} {mb : MS} (hij : i ≠ j) (oi : fx.ow.contains i = false) (oj : fx.ow.contains j = false) (T : CatT g.K g.mg cv tab) (h : tS g fx W (sTryK tab i j mb) E σ H) :
    tS g fx (wKeep g.K cv i (fun a => tAsg (tVar i) (gName j)) W E) mb E σ H := by
  obtain ⟨F, ρ, S, h⟩ := h
  exact ⟨F, ρ, S, post_kept hij oi oj T h⟩
end
section
variable {X : Cx} {fx : Fx} {W : WX}
theorem ss_tryK (i j : Nat) {c x n : Str} {cv : Value} {tab : List (Str × Bool)} {body : List Stmt} {mb : MS} {np pos pos' p1 p2 p3 : Pos} (T : CatT X.K X.mg cv tab) (hc : Names X c cv) (hx0 : X.ex = []) (hs : X.stack = X.env :: X.outer) (hf : X.env.frame = some X.env.locals) (hN : X.N.Nodup) (tk : Takes X W)
    (hb : ∀ (W' : WX) (pn : List (Addr × Obj)) (xe : Value → Shared → Prop), Takes (X.tr pn xe) W' → PassesOwn (model X.prog X.w) X.A X.env xe → SSs (X.tr pn xe) fx W' body mb)
    (hi : X.N[i]? = some n := by rfl) (hj : X.N[j]? = some x := by rfl) (hij : i ≠ j := by decide) (oi : fx.ow.contains i = false := by rfl) (oj : fx.ow.contains j = false := by rfl)
    (hln : X.env.scope.names.lookup n = some .local := by rfl) (hlx : X.env.scope.names.lookup x = some .local := by rfl) (hkn : X.env.kindOf n = some .local := by rfl)
    (hsw : swapsWith (.Name n p2) (some (.Name x p1)) p3.line X.env = pure false := by rfl) (hd : (n == ("__debug__" : Str)) = false := by decide) (hcd : (n == ("__classdict__" : Str)) = false := by decide) :
    SS X fx W (.Try body [.ExceptHandler (some (.Name c np)) (some n) [.Assign [.Name x p1] (.Name n p2) p3] pos'] [] [] pos) (sTryK tab i j mb) := by
  have hsu : ∀ (a : Addr) (oe : Obj) (pn : List (Addr × Obj)), PSs (X.suite a ((a, oe) :: pn)) [.Assign [.Name x p1] (.Name n p2) p3] (tAsg (tVar i) (gName j)) := fun a oe pn =>
    pss_one (ps_set (X := X.suite a ((a, oe) :: pn)) hN hj (.inl hlx) (pe_var (X := X.suite a ((a, oe) :: pn)) hi (.inl hln) hd hcd) hsw (.inr hlx))
  exact PS.imp (ps_keep (tb := fun W' => tS (gx X) fx W' mb) hx0 hs hf hN hi hkn hc tk hb hsu) fun E σ H h => tS_tryK hij oi oj T h
end

/-! ### err.value -/
def opVal : D → R D
  | .exc _ _ v => .ok v
  | _ => .bad
section
variable {X : Cx} {fx : Fx} {W : WX} {ca ea : Bool} {e : Expr} {m : M D} {pos : Pos}
def rVal (K : PySem.W.Frag) : V → Hp → VK → Prop := fun x H Q => ∃ (a C d : Addr) (w : V), x = .ref a ∧ H a = some (ExT C d a) ∧ H d = some (.xd [("value", w)]) ∧ XcC K C ∧ Q w H
theorem pe_val {te : TE} (he : PE X e te) (hb : attributeBase e "value" X.env (eval e X.env) = eval e X.env := by rfl) : PE X (.Attribute e "value" pos) (fun σ H Q => te σ H fun x H1 => rVal X.K x H1 Q) := by
  refine ⟨fun pins s σ H Q I h => attr_of hb (thn (he.run pins s σ H _ I h) fun u s1 hh => ?_)⟩
  obtain ⟨x, H1, I1, rx, a, C, d, w, rfl, ha, hd, T, q⟩ := hh
  obtain rfl : u = Value.ref a := rx
  obtain ⟨oe, od, J, mA, hns, hr, ho, hl⟩ := ext_inst I1 ha hd
  obtain ⟨u, hu, ru⟩ := RelO.some_of (v := w) (o := mA "value") (hr "value")
  exact HandSPX.exc_get I1.kIn J T.hg T.hk T.hs (PySem.W.findObj_own T.hd T.hv rfl (by rw [hl, hu])) (handed_of ru) ⟨w, H1, I1.tok _, ru, q⟩
theorem se_val (he : SE X fx W ca ea e m) (hb : attributeBase e "value" X.env (eval e X.env) = eval e X.env := by rfl) : SE X fx W true ea (.Attribute e "value" pos) (e1 opVal m) :=
  PE.imp (pe_val he hb) fun σ H Q q => by
    have h := tE_e1 (g := gx X) (r := rVal X.K) (ca := ca) (fun F H dx x d Q s rx e G => by
      cases dx with
      | exc a c v =>
        cases e
        obtain ⟨C, dd, w, rfl, h1, h2, h3, h4, h5⟩ := w_exc s rx
        exact ⟨a, C, dd, w, rfl, h3, h4, h2, G.val s h5⟩
      | _ => cases e) q
    exact h
end
end DL

set_option Elab.async false
set_option linter.all false
set_option maxRecDepth 100000
set_option maxHeartbeats 4000000
namespace DL
open PySem PySem.Spec PyProof.Rows L2

section
variable {X : Cx} {fx : Fx} {W : WX}
theorem sss_bad {st : List Stmt} : SSs X fx W st sBad := ⟨fun pins s σ H D I q => by
  obtain ⟨F, ρ, S, h⟩ := q
  exact h.elim⟩
theorem sb_bad {eff : Bool} {e : Expr} : SB X fx W eff e (fun _ => .bad) := ⟨fun pins s σ H Q I q => by
  obtain ⟨F, ρ, S, h⟩ := q
  exact h.elim⟩
end

/-! ### f() -/
section
variable {X : Cx} {fx : Fx} {W : WX} {x : Str} {p pos : Pos} {fn : Fn} {k : Nat}
theorem se_call0 (C : Fd X.prog X.w X.K X.mg X.base x [] .cl 0 k fn) (hr : RoomG k X.A) (tk : Takes X W) (hg : Gl X x := by rfl) (hdb : (x == ("__debug__" : Str)) = false := by decide) :
    SE X fx W true false (.Call (.Name x p) [] [] pos) (eCall fn aNil) := by
  obtain ⟨f, fd, ps, F, hm, hk, hb⟩ := C.ex
  exact PE.imp (pe_call0G F hr hg hm hk hb (fun σ => passAt tk σ) hdb) fun σ H Q q => by
    have h := tE_call (ea := false) (n := 0) aNil_len q
    obtain ⟨F, ρ, S, h⟩ := h
    exact h [] H F (Go.refl S.s) S rfl
end

/-! ### f(a = .., b = ..) -/
def permL {α : Type} (is : List Nat) (xs : List α) : List α := is.filterMap fun i => xs[i]?
def permK (is : List Nat) (us ws : List Value) : List Value := match us with
  | [] => permL is ws
  | _ => []
def permV (is : List Nat) (us ws : List V) : List V := match us with
  | [] => permL is ws
  | _ => []
theorem vals_get : ∀ {vs : List V} {us : List Value}, Vals vs us → ∀ i : Nat, (∃ v u, vs[i]? = some v ∧ us[i]? = some u ∧ RelV v u) ∨ (vs[i]? = none ∧ us[i]? = none)
  | _, _, .nil, i => .inr ⟨rfl, rfl⟩
  | _, _, .cons r t, 0 => .inl ⟨_, _, rfl, rfl, r⟩
  | _, _, .cons r t, i + 1 => vals_get t i
theorem permL_vals {vs : List V} {us : List Value} (h : Vals vs us) : ∀ is : List Nat, Vals (permL is vs) (permL is us)
  | [] => .nil
  | i :: is => by
    have ih := permL_vals h is
    unfold permL at ih ⊢
    rw [List.filterMap_cons, List.filterMap_cons]
    rcases vals_get h i with ⟨v, u, e1, e2, r⟩ | ⟨e1, e2⟩
    · rw [e1, e2]
      exact .cons r ih
    · rw [e1, e2]
      exact ih
theorem perm_vals {is : List Nat} {vs : List V} {us : List Value} {zs : List V} {ws : List Value} (h : Vals vs us) (k : Vals zs ws) : Vals (permV is vs zs) (permK is us ws) := by
  cases h with
  | nil => exact permL_vals k is
  | cons r t => exact .nil
/-- a def as its callers by keywords see it -/
structure Fk (P : Program) (w : World) (K : PySem.W.Frag) (mg : Str → Option Value) (base : Heap) (x : Str) (ks : List Str) (is : List Nat) (n k : Nat) (fn : Fn) : Prop where
  ex : ∃ f fd ps, FnG P w K mg base (L2.CX P w) k f fd ps (spOf ⟨K, mg⟩ [] .cl n fn) ∧ mg x = some (.ref f) ∧ PySem.W.keepIn K (.ref f) = true ∧ KBinds K fd ps ks (permK is) (permV is)
def eCallK (fn : Fn) (is : List Nat) (m : M (List D)) : M D := eCall fn (m.bind fun ds => M.pure (permL is ds))
section
variable {X : Cx} {fx : Fx} {W : WX} {x : Str} {p pos kpos : Pos} {fn : Fn} {k n : Nat} {ea eb ca cb : Bool} {ks : List Str} {is : List Nat} {kws : List Keyword} {m : M (List D)} {e : Expr} {ma : M D} {nm : Option Str}
def SK (X : Cx) (fx : Fx) (W : WX) (cl eff : Bool) (kws : List Keyword) (m : M (List D)) : Prop := PK X kws (tA (gx X) fx W cl eff m)
theorem PK.imp {t u : TA} (h : PK X kws t) (k : ∀ σ H Q, u σ H Q → t σ H Q) : PK X kws u := ⟨fun pos pins s σ H Q I q => h.run pos pins s σ H Q I (k σ H Q q)⟩
theorem sk_nil : SK X fx W true false [] aNil := PK.imp pk_nil fun _ _ _ h => tA_nil h
theorem sk_cons (ha : SE X fx W ca ea e ma) (hr : SK X fx W cb eb kws m) (hc : (!eb || ca) = true := by rfl) : SK X fx W (ca && cb) (ea || eb) (⟨nm, e, kpos⟩ :: kws) (aCons ma m) := PK.imp (pk_cons ha hr) fun _ _ _ h => tA_cons hc h
def tCallKS (sp : Sp) (gV : List V → List V → List V) (E : L2.St → XK) (tk : TA) : TE := fun σ H Q => tk σ H fun zs H2 => sp (gV [] zs) H2 Q (E σ)
theorem pe_callKS {CX : CXT} {f : Addr} {fd : FuncData} {ps : List Str} {sp : Sp} {E : L2.St → XK} {tk : TA} {g : List Value → List Value → List Value} {gV : List V → List V → List V} (F : FnG X.prog X.w X.K X.mg X.base CX k f fd ps sp) (hr : RoomG k X.A) (hg : Gl X x) (hm : X.mg x = some (.ref f))
    (hk : PySem.W.keepIn X.K (.ref f) = true) (hb : KBinds X.K fd ps ks g gV) (hx : ∀ σ, PassesAt CX X σ (E σ)) (hkw : PK X kws tk) (hall : (backToKw pos (keywordEach kws X.env)).all (·.1.isSome) = true := by rfl) (hks : (backToKw pos (keywordEach kws X.env)).filterMap (·.1) = ks := by rfl)
    (hdb : (x == ("__debug__" : Str)) = false := by decide) (hpl : ((backTo pos (starEach [] X.env)).any (·.1) || (backToKw pos (keywordEach kws X.env)).any (·.1.isNone)) = false := by rfl) :
    PE X (.Call (.Name x p) [] kws pos) (tCallKS sp gV E tk) := by
  constructor
  intro pins s σ H Q I h
  refine wpAny_Call_Name_kw (ld_glob I hg hm (PySem.W.callWith_KW0 (h₀ := X.base) I.ok.mod.kin hk hall ?_ hpl) hdb)
  refine thn (hkw.run pos pins s σ H _ I h) fun ws s2 ⟨zs, H2, I2, rz, q2⟩ => ⟨I2.kIn, ?_⟩
  rw [hks]
  have r2 := hb.rel .nil rz
  have hl : (g [] ws).length = ps.length := by rw [← r2.length]; exact F.len _ _ _ _ q2
  refine wpAny_call (codeAny_mono (F.go X.A X.stack s2 H2 ⟨[], ks.zip ws⟩ (g [] ws) (gV [] zs) Q (E σ) hr I2.env0 (hb.to s2 [] ws I2.kIn hl) r2 q2) fun r s' hq => ?_)
  cases r with
  | error er => exact hx σ pins H2 s2 er s' I2 hq
  | ok fl =>
    cases fl with
    | ret u => exact I2.after hq
    | next => exact False.elim hq
    | brk => exact False.elim hq
    | cont => exact False.elim hq
theorem permL_vrl {g : Gx} {F H : Hp} {ds : List D} {vs : List V} (r : VRL true g F H ds vs) : ∀ is : List Nat, VRL true g F H (permL is ds) (permL is vs)
  | [] => rfl
  | i :: is => by
    have ih := permL_vrl r is
    unfold permL at ih ⊢
    rw [List.filterMap_cons, List.filterMap_cons]
    cases e : ds[i]? with
    | none =>
      have hl := r.length
      have : vs[i]? = none := List.getElem?_eq_none (by rw [hl]; exact List.getElem?_eq_none_iff.mp e)
      rw [this]
      exact ih
    | some d =>
      obtain ⟨v, e1, r1⟩ := r.rep.get e
      rw [e1]
      exact ⟨v, _, rfl, r1, ih⟩
theorem se_callK (C : Fk X.prog X.w X.K X.mg X.base x ks is n k fn) (hr : RoomG k X.A) (tk : Takes X W) (ha : SK X fx W true ea kws m) (hn : ∀ ρ ds ρ', m ρ = .ok ds ρ' → (permL is ds).length = n) (hg : Gl X x := by rfl)
    (hall : (backToKw pos (keywordEach kws X.env)).all (·.1.isSome) = true := by rfl) (hks : (backToKw pos (keywordEach kws X.env)).filterMap (·.1) = ks := by rfl)
    (hdb : (x == ("__debug__" : Str)) = false := by decide) (hpl : ((backTo pos (starEach [] X.env)).any (·.1) || (backToKw pos (keywordEach kws X.env)).any (·.1.isNone)) = false := by rfl) :
    SE X fx W true ea (.Call (.Name x p) [] kws pos) (eCallK fn is m) := by
  obtain ⟨f, fd, ps, F, hm, hk, hb⟩ := C.ex
  refine PE.imp (pe_callKS F hr hg hm hk hb (fun σ => passAt tk σ) ha hall hks hdb hpl) fun σ H Q q => ?_
  have h := tE_call (n := n) (m := m.bind fun ds => M.pure (permL is ds)) (fun ρ ds ρ' e => by
    unfold M.bind M.pure at e
    cases e1 : m ρ with
    | bad => rw [e1] at e; cases e
    | exn c x r1 => rw [e1] at e; cases e
    | ok ds1 ρ1 =>
      rw [e1] at e
      cases e
      exact hn _ _ _ e1) q
  obtain ⟨F0, ρ, S, h⟩ := h
  refine ⟨F0, ρ, S, ?_⟩
  unfold M.bind M.pure at h
  cases e1 : m ρ with
  | bad => rw [e1] at h; exact h
  | exn c x r1 => rw [e1] at h; exact h
  | ok ds1 ρ1 =>
    rw [e1] at h
    intro zs H1 F1 G1 S1 r1
    exact h (permL is zs) H1 F1 G1 S1 (permL_vrl r1 is)
end

/-! ### for a, b in zip(e, f) -/
def zipD : List D → R (List D)
  | [a, b] => match lstOf a, lstOf b with
    | some xs, some ys => if xs.length ≤ 16777216 then .ok ((xs.zip ys).map fun p => .tup [p.1, p.2]) else .bad
    | _, _ => match a, b with
      | .tup xs, .tup ys => if xs.length ≤ 16777216 then .ok ((xs.zip ys).map fun p => .tup [p.1, p.2]) else .bad
      | _, _ => .bad
  | _ => .bad
def iZip (m : M (List D)) : M (List D) := m.bind fun ds => M.lift (zipD ds)

section
variable {g : Gx} {F : Hp}
theorem zip_get {xs ys : List D} {i : Nat} {d : D} (e : ((xs.zip ys).map fun p => D.tup [p.1, p.2])[i]? = some d) : ∃ x y, xs[i]? = some x ∧ ys[i]? = some y ∧ d = .tup [x, y] := by
  rw [List.getElem?_map] at e
  cases q : (xs.zip ys)[i]? with
  | none => rw [q] at e; cases e
  | some p =>
    rw [q] at e
    cases e
    obtain ⟨h1, h2⟩ := List.getElem?_zip_eq_some.mp q
    exact ⟨p.1, p.2, h1, h2, rfl⟩
theorem zip_rep {H' F' : Hp} {x y : D} {v u : V} {T : Addr} (s : Sub F' H') (hT : H' T = none) (r1 : Rep g F' x v) (r2 : Rep g F' y u) : ∃ F'', Grow F' H' F'' (upd H' T (.tup [v, u])) ∧ Rep g F'' (.tup [x, y]) (.ref T) :=
  ⟨upd F' T (.tup [v, u]), Grow.new s hT, by
    simp only [Rep]
    have m := (Grow.new s hT (o := .tup [v, u])).f
    exact ⟨T, [v, u], rfl, SqT.of upd_same, RepL.cons (r1.mono m) (RepL.one (r2.mono m))⟩⟩
theorem itz_rep {a b : Addr} {xs ys : List D} {vs ws : List V} (ha : SqL g.K F a vs) (hb : SqL g.K F b ws) (ra : RepL g F xs vs) (rb : RepL g F ys ws) (hl : xs.length ≤ 16777216) : ItRep g (Itz g.K a b) ((xs.zip ys).map fun p => .tup [p.1, p.2]) F where
  go := fun i H' F' f s hi => by
    obtain ⟨x, y, h1, h2, _⟩ := zip_get (List.getElem?_eq_getElem hi)
    obtain ⟨v, e1, _⟩ := ra.get h1
    obtain ⟨u, e2, _⟩ := rb.get h2
    exact ⟨vs, ws, v, u, sqL_mono (f.trans s) ha, sqL_mono (f.trans s) hb, e1, e2⟩
  yld := fun i H' F' x H'' d f s e y => by
    obtain ⟨T, v, u, rfl, hT, rfl, y1, y2⟩ := y
    obtain ⟨dx, dy, h1, h2, rfl⟩ := zip_get e
    obtain ⟨v', e1, r1⟩ := ra.get h1
    obtain ⟨u', e2, r2⟩ := rb.get h2
    have q1 := y1 vs (sqL_mono (f.trans s) ha)
    have q2 := y2 ws (sqL_mono (f.trans s) hb)
    rw [e1] at q1
    rw [e2] at q2
    cases q1
    cases q2
    exact zip_rep s hT (r1.mono f) (r2.mono f)
  stop := fun i H' F' f s hi => ⟨vs, ws, sqL_mono (f.trans s) ha, sqL_mono (f.trans s) hb, by
    have h1 := ra.length
    have h2 := rb.length
    rw [List.length_map, List.length_zip] at hi
    omega⟩
  len := by
    rw [List.length_map, List.length_zip]
    omega
theorem itzT_rep {a b : Addr} {xs ys : List D} {vs ws : List V} (ha : SqT g.K F a vs) (hb : SqT g.K F b ws) (ra : RepL g F xs vs) (rb : RepL g F ys ws) (hl : xs.length ≤ 16777216) : ItRep g (RZ.ItzT g.K a b) ((xs.zip ys).map fun p => .tup [p.1, p.2]) F where
  go := fun i H' F' f s hi => by
    obtain ⟨x, y, h1, h2, _⟩ := zip_get (List.getElem?_eq_getElem hi)
    obtain ⟨v, e1, _⟩ := ra.get h1
    obtain ⟨u, e2, _⟩ := rb.get h2
    exact ⟨vs, ws, v, u, sqT_mono (f.trans s) ha, sqT_mono (f.trans s) hb, e1, e2⟩
  yld := fun i H' F' x H'' d f s e y => by
    obtain ⟨T, v, u, rfl, hT, rfl, y1, y2⟩ := y
    obtain ⟨dx, dy, h1, h2, rfl⟩ := zip_get e
    obtain ⟨v', e1, r1⟩ := ra.get h1
    obtain ⟨u', e2, r2⟩ := rb.get h2
    have q1 := y1 vs (sqT_mono (f.trans s) ha)
    have q2 := y2 ws (sqT_mono (f.trans s) hb)
    rw [e1] at q1
    rw [e2] at q2
    cases q1
    cases q2
    exact zip_rep s hT (r1.mono f) (r2.mono f)
  stop := fun i H' F' f s hi => ⟨vs, ws, sqT_mono (f.trans s) ha, sqT_mono (f.trans s) hb, by
    have h1 := ra.length
    have h2 := rb.length
    rw [List.length_map, List.length_zip] at hi
    omega⟩
  len := by
    rw [List.length_map, List.length_zip]
    omega
theorem lstOf_rep {d : D} {xs : List D} {v : V} (e : lstOf d = some xs) (r : Rep g F d v) : ∃ a vs, v = .ref a ∧ SqL g.K F a vs ∧ RepL g F xs vs := by
  cases d with
  | lst ys =>
    cases e
    simp only [Rep] at r
    obtain ⟨a, vs, e, h, l⟩ := r
    exact ⟨a, vs, e, SqL.of h, l⟩
  | ros ys =>
    cases e
    simp only [Rep] at r
    exact r
  | _ => cases e
end
section
variable {g : Gx} {fx : Fx} {W : WX} {σ : L2.St} {H : Hp} {ea : Bool} {m : M (List D)} {R : It → Hp → Prop}
theorem tI_zip (h : tI g fx W ea (iZip m) σ H R) : RZ.iZipA g.K (tA g fx W true ea m) σ H R := by
  obtain ⟨F, ρ, S, h⟩ := h
  refine ⟨F, ρ, S, ?_⟩
  unfold iZip M.bind at h
  cases e1 : m ρ with
  | bad => rw [e1] at h; exact h
  | exn c x r1 => rw [e1] at h; exact h
  | ok ds ρ1 =>
    rw [e1] at h
    intro vs H1 F1 G1 S1 r1
    dsimp only [M.lift] at h
    match ds, r1, h with
    | [], _, h => exact h.elim
    | [_], _, h => exact h.elim
    | _ :: _ :: _ :: _, _, h => exact h.elim
    | [a, b], r1, h =>
      obtain ⟨v, r, rfl, ra, u, r', rfl, rb, rfl⟩ := r1
      have ra' : Rep g F1 a v := ra
      have rb' : Rep g F1 b u := rb
      cases q1 : lstOf a with
      | some xs =>
        cases q2 : lstOf b with
        | some ys =>
          dsimp only [zipD] at h
          rw [q1, q2] at h
          dsimp only at h
          by_cases c : xs.length ≤ 16777216
          · rw [if_pos c] at h
            obtain ⟨p, vs, rfl, h1, l1⟩ := lstOf_rep q1 ra'
            obtain ⟨p2, ws, rfl, h2, l2⟩ := lstOf_rep q2 rb'
            exact ⟨p, p2, vs, ws, rfl, .inl ⟨sqL_mono S1.s h1, sqL_mono S1.s h2, h _ H1 F1 G1 S1 (itz_rep h1 h2 l1 l2 c)⟩⟩
          · rw [if_neg c] at h; exact h.elim
        | none =>
          dsimp only [zipD] at h
          rw [q1, q2] at h
          cases a <;> cases b <;> first | exact h.elim | (cases q1)
      | none =>
        dsimp only [zipD] at h
        rw [q1] at h
        cases a with
        | tup xs =>
          cases b with
          | tup ys =>
            dsimp only at h
            by_cases c : xs.length ≤ 16777216
            · rw [if_pos c] at h
              simp only [Rep] at ra' rb'
              obtain ⟨p, vs, rfl, h1, l1⟩ := ra'
              obtain ⟨p2, ws, rfl, h2, l2⟩ := rb'
              exact ⟨p, p2, vs, ws, rfl, .inr ⟨sqT_mono S1.s h1, sqT_mono S1.s h2, h _ H1 F1 G1 S1 (itzT_rep h1 h2 l1 l2 c)⟩⟩
            · rw [if_neg c] at h; exact h.elim
          | _ => exact h.elim
        | _ => cases b <;> first | exact h.elim | (cases q1)
end
section
variable {X : Cx} {fx : Fx} {W : WX} {ea : Bool} {p pos tpos : Pos} {e e2 : Expr} {elts : List Expr} {kk : Nat} {m : M (List D)}
theorem si_zip (hm : X.mg "zip" = none) (ha : SA X fx W true ea [e, e2] m) (hg : Gl X "zip" := by rfl) (hs : starEach [e, e2] X.env = (false, eval e X.env) :: starEach [e2] X.env := by rfl) (hpl : (backTo pos (starEach [e2] X.env)).any (·.1) = false := by rfl) :
    SI X fx W ea (.Tuple elts kk tpos) (.Call (.Name "zip" p) [e, e2] [] pos) (iZip m) := PI.imp (RZ.pi_zipA hg hm ha hs hpl) fun σ H R q => tI_zip q
end
end DL

set_option Elab.async false
set_option linter.all false
set_option maxRecDepth 100000
set_option maxHeartbeats 4000000
namespace DL
open PySem PySem.Spec PyProof.Rows L2

theorem takes0 {X : Cx} : Takes X W0 := fun u s' h => by
  obtain ⟨_, _, _, _, _, _, _, _, _, _, _, _, _, _, _, _, z⟩ := h
  exact z.elim

theorem tE_mono {g : Gx} {fx : Fx} {W : WX} {ca ea : Bool} {m : M D} {σ : L2.St} {H : Hp} {Q Q' : VK} (h : tE g fx W ca ea m σ H Q) (k : ∀ v H', Q v H' → Q' v H') : tE g fx W ca ea m σ H Q' := by
  obtain ⟨F, ρ, S, h⟩ := h
  refine ⟨F, ρ, S, ?_⟩
  cases e1 : m ρ with
  | bad => rw [e1] at h; exact h
  | exn c x r => rw [e1] at h; exact h
  | ok d ρ1 =>
    rw [e1] at h
    exact fun v H' F' G S' r => k _ _ (h v H' F' G S' r)
/-! ### isinstance(e, (T1, ..)) -/
section
variable {X : Cx} {fx : Fx} {W : WX} {ca ea : Bool} {e : Expr} {m : M D} {p pos tpos : Pos}
theorem tE_isiT {g : Gx} {σ : L2.St} {H : Hp} {Q : VK} {cs : List V} {us : List Value} {base : List Kd} {tab : List (Str × Bool)} {ta : TA} (k : Paired ClsV cs us) (hta : ∀ σ H Q, Q cs H → ta σ H Q) (hz : cs.length ≤ sizeLine) (T : IsT g.K g.mg us base tab) (h : tE g fx W true ea (e1 (opIs base tab) m) σ H Q) :
    tCB (fun xs H Q => rIsiT g.K xs H Q ∨ rIsXT g.K xs H Q) (tCons (tE g fx W ca ea m) (tCons (tTup ta) tNil)) σ H Q := by
  have h2 := tE_e1 (r := fun x H Q => ∀ t, H t = none → (fun xs H Q => rIsiT g.K xs H Q ∨ rIsXT g.K xs H Q) [x, .ref t] (upd H t (.tup cs)) Q) (ca := ca) (fun F H dx x d Q s rx e G t ht => by
    have G2 := Grow.big s ht (o := .tup cs)
    have rx2 := rx.grow G2
    have fin : ∀ {b : Bool}, Gives g F H (.bl b) Q → Q (.bl b) (upd H t (.tup cs)) := fun {b} G => G _ _ _ G2 (by simp only [Rep])
    cases dx with
    | exc a cn y =>
      dsimp only [opIs] at e
      cases q : tab.lookup cn with
      | none => rw [q] at e; cases e
      | some b =>
        rw [q] at e; cases e
        obtain ⟨C, d, w, rfl, h1, m2, h2, h3, _⟩ := w_exc G2.s rx2
        obtain ⟨C', m1, m3⟩ := T.t _ (lookup_mem q)
        rw [h1] at m1
        cases m1
        exact .inr ⟨a, C, d, _, t, cs, us, b, rfl, h2, h3, m2, upd_same, k, m3, fin G⟩
    | _ =>
      first
        | (cases e; exact .inl ⟨x, t, cs, _, us, _, rfl, upd_same, k, ty_rep G2.s rfl rx2, T.b _, fin G⟩)) h
  exact tE_mono h2 fun x H1 q => hta _ _ _ ⟨hz, fun t ht => q t ht⟩
theorem se_isiT2 {T1 T2 : String} {x1 x2 : Str} {p1 p2 : Pos} {kt : Nat} {base : List Kd} {tab : List (Str × Bool)} (IT : IsT X.K X.mg [.type T1, .type T2] base tab) (h1 : X.mg x1 = none) (v1 : bootBuiltins x1 = some (.type T1)) (h2 : X.mg x2 = none) (v2 : bootBuiltins x2 = some (.type T2))
    (he : SE X fx W ca ea e m) (hm : X.mg "isinstance" = none) (hg : Gl X "isinstance" := by rfl) (g1 : Gl X x1 := by rfl) (g2 : Gl X x2 := by rfl) (n1 : x1 ≠ "__name__" := by decide) (n2 : x2 ≠ "__name__" := by decide) (d1 : (x1 == ("__debug__" : Str)) = false := by decide) (d2 : (x2 == ("__debug__" : Str)) = false := by decide)
    (s1 : starEach [.Name x1 p1, .Name x2 p2] X.env = (false, eval (.Name x1 p1) X.env) :: starEach [.Name x2 p2] X.env := by rfl) (s2 : starEach [.Name x2 p2] X.env = (false, eval (.Name x2 p2) X.env) :: starEach [] X.env := by rfl)
    (s3 : starEach [e, .Tuple [.Name x1 p1, .Name x2 p2] kt tpos] X.env = (false, eval e X.env) :: starEach [.Tuple [.Name x1 p1, .Name x2 p2] kt tpos] X.env := by rfl)
    (s4 : starEach [.Tuple [.Name x1 p1, .Name x2 p2] kt tpos] X.env = (false, eval (.Tuple [.Name x1 p1, .Name x2 p2] kt tpos) X.env) :: starEach [] X.env := by rfl) (hpl : (backTo pos (starEach [.Tuple [.Name x1 p1, .Name x2 p2] kt tpos] X.env)).any (·.1) = false := by rfl) :
    SE X fx W true ea (.Call (.Name "isinstance" p) [e, .Tuple [.Name x1 p1, .Name x2 p2] kt tpos] [] pos) (e1 (opIs base tab) m) :=
  PE.imp (pe_callB (call_isiT.or call_isXT) hg hm PyProof.Rows.Boot.«isinstance» (pa_cons he (pa_cons (pe_tup (pa_cons (pe_bltn (v := V.ty T1) g1 h1 v1 rfl n1 d1) (pa_cons (pe_bltn (v := V.ty T2) g2 h2 v2 rfl n2 d2) pa_nil s2) s1)) pa_nil s4) s3) (by decide) (by decide) s3 hpl) fun σ H Q q =>
    tE_isiT (.cons (.ty T1) (.cons (.ty T2) .nil)) (fun σ H Q q => q) (by rw [sizeLine_eq]; exact Nat.le_of_ble_eq_true rfl) IT q
theorem se_isiT3 {T1 T2 T3 : String} {x1 x2 x3 : Str} {p1 p2 p3 : Pos} {kt : Nat} {base : List Kd} {tab : List (Str × Bool)} (IT : IsT X.K X.mg [.type T1, .type T2, .type T3] base tab) (h1 : X.mg x1 = none) (v1 : bootBuiltins x1 = some (.type T1)) (h2 : X.mg x2 = none) (v2 : bootBuiltins x2 = some (.type T2)) (h3 : X.mg x3 = none) (v3 : bootBuiltins x3 = some (.type T3))
    (he : SE X fx W ca ea e m) (hm : X.mg "isinstance" = none) (hg : Gl X "isinstance" := by rfl) (g1 : Gl X x1 := by rfl) (g2 : Gl X x2 := by rfl) (g3 : Gl X x3 := by rfl) (n1 : x1 ≠ "__name__" := by decide) (n2 : x2 ≠ "__name__" := by decide) (n3 : x3 ≠ "__name__" := by decide)
    (d1 : (x1 == ("__debug__" : Str)) = false := by decide) (d2 : (x2 == ("__debug__" : Str)) = false := by decide) (d3 : (x3 == ("__debug__" : Str)) = false := by decide)
    (s1 : starEach [.Name x1 p1, .Name x2 p2, .Name x3 p3] X.env = (false, eval (.Name x1 p1) X.env) :: starEach [.Name x2 p2, .Name x3 p3] X.env := by rfl) (s2 : starEach [.Name x2 p2, .Name x3 p3] X.env = (false, eval (.Name x2 p2) X.env) :: starEach [.Name x3 p3] X.env := by rfl) (s5 : starEach [.Name x3 p3] X.env = (false, eval (.Name x3 p3) X.env) :: starEach [] X.env := by rfl)
    (s3 : starEach [e, .Tuple [.Name x1 p1, .Name x2 p2, .Name x3 p3] kt tpos] X.env = (false, eval e X.env) :: starEach [.Tuple [.Name x1 p1, .Name x2 p2, .Name x3 p3] kt tpos] X.env := by rfl)
    (s4 : starEach [.Tuple [.Name x1 p1, .Name x2 p2, .Name x3 p3] kt tpos] X.env = (false, eval (.Tuple [.Name x1 p1, .Name x2 p2, .Name x3 p3] kt tpos) X.env) :: starEach [] X.env := by rfl) (hpl : (backTo pos (starEach [.Tuple [.Name x1 p1, .Name x2 p2, .Name x3 p3] kt tpos] X.env)).any (·.1) = false := by rfl) :
    SE X fx W true ea (.Call (.Name "isinstance" p) [e, .Tuple [.Name x1 p1, .Name x2 p2, .Name x3 p3] kt tpos] [] pos) (e1 (opIs base tab) m) :=
  PE.imp (pe_callB (call_isiT.or call_isXT) hg hm PyProof.Rows.Boot.«isinstance» (pa_cons he (pa_cons (pe_tup (pa_cons (pe_bltn (v := V.ty T1) g1 h1 v1 rfl n1 d1) (pa_cons (pe_bltn (v := V.ty T2) g2 h2 v2 rfl n2 d2) (pa_cons (pe_bltn (v := V.ty T3) g3 h3 v3 rfl n3 d3) pa_nil s5) s2) s1)) pa_nil s4) s3) (by decide) (by decide) s3 hpl) fun σ H Q q =>
    tE_isiT (.cons (.ty T1) (.cons (.ty T2) (.cons (.ty T3) .nil))) (fun σ H Q q => q) (by rw [sizeLine_eq]; exact Nat.le_of_ble_eq_true rfl) IT q
end

/-! ### which kinds the classes of the language take -/
theorem kitAny_one {K : PySem.W.Frag} {t u : Value} {b : Bool} (h : PySem.W.kitOne K t u = some b) : PySem.W.kitAny K t [u] = some b := by
  unfold PySem.W.kitAny
  rw [h]
  cases b <;> rfl
theorem kitAny_two {K : PySem.W.Frag} {t u : Value} {us : List Value} {b c : Bool} (h : PySem.W.kitOne K t u = some b) (k : PySem.W.kitAny K t us = some c) : PySem.W.kitAny K t (u :: us) = some (b || c) := by
  unfold PySem.W.kitAny
  rw [h]
  cases b
  · exact k
  · rfl
/-- the kinds of a built-in class -/
def kdsOf : String → List Kd
  | "str" => [.str] | "int" => [.int, .bl] | "bool" => [.bl] | "list" => [.lst] | "tuple" => [.tup] | "dict" => [.dic]
  | _ => []
theorem kit_kd {K : PySem.W.Frag} {T : String} (hT : T = "str" ∨ T = "int" ∨ T = "bool" ∨ T = "list" ∨ T = "tuple" ∨ T = "dict") (k : Kd) : PySem.W.kitOne K (.type k.nm) (.type T) = some ((kdsOf T).contains k) := by
  rcases hT with rfl | rfl | rfl | rfl | rfl | rfl <;> cases k <;> exact kit_ty (by decide +kernel)
end DL

set_option Elab.async false
set_option linter.all false
set_option maxRecDepth 100000
set_option maxHeartbeats 4000000
namespace DL
open PySem PySem.Spec PyProof.Rows L2

/-! ### what a printed walk leans on -/
def blkB (N : List Str) (sc scope : Scope) (own : List (Str × Nat)) : Bool :=
  decide (scope.kind = .function) && (scope.names.all fun y => decide (scope.names.lookup y.1 = some y.2)) && (own.all fun p => decide (N[p.2]? = some p.1)) &&
  (scope.names.all fun y => !decide (y.2 = .free) || decide (sc.names.lookup y.1 = some .cell) || decide (sc.names.lookup y.1 = some .free)) &&
  (scope.names.all fun y => !(decide (y.2 = .local) || decide (y.2 = .cell)) || decide (y.1 ∈ own.map (·.1)) || !decide (y.1 ∈ N))
theorem blkB_ok {N : List Str} {sc scope : Scope} {own : List (Str × Nat)} (h : blkB N sc scope own = true) : BlkOk N sc scope own := by
  unfold blkB at h
  simp only [Bool.and_eq_true, List.all_eq_true, decide_eq_true_eq, Bool.or_eq_true, Bool.not_eq_true', decide_eq_false_iff_not] at h
  obtain ⟨⟨⟨⟨h1, h2⟩, h3⟩, h4⟩, h5⟩ := h
  exact ⟨h1, h2, h3, fun y hy e => by
    rcases h4 y hy with (z | z) | z
    · exact absurd e z
    · exact .inl z
    · exact .inr z, fun y hy e => by
    rcases h5 y hy with (z | z) | z
    · simp at z
      rcases e with e | e
      · exact absurd e z.1
      · exact absurd e z.2
    · exact .inl z
    · exact .inr z⟩
section
variable {X : Cx} {fx : Fx} {W : WX} {ca ea : Bool} {e : Expr} {m : M D} {p p2 pos : Pos} {x : Str}
theorem se_globE {d : D} (h : ∃ v u, X.mg x = some u ∧ RelV v u ∧ ∀ F, Rep ⟨X.K, X.mg⟩ F d v) (hg : Gl X x := by rfl) (hd : (x == ("__debug__" : Str)) = false := by decide) : SE X fx W true false (.Name x pos) (eC d) := by
  obtain ⟨v, u, hm, r, hr⟩ := h
  exact se_glob hm r hr hg hd
theorem se_isiOE {base : List Kd} {tab : List (Str × Bool)} (h : ∃ C, X.mg x = some (.ref C) ∧ IsT X.K X.mg [.ref C] base tab) (he : SE X fx W ca ea e m) (hm : X.mg "isinstance" = none) (hg : Gl X "isinstance" := by rfl) (hgT : Gl X x := by rfl)
    (hdb : (x == ("__debug__" : Str)) = false := by decide)
    (h1 : starEach [e, .Name x p2] X.env = (false, eval e X.env) :: starEach [.Name x p2] X.env := by rfl) (h2 : starEach [.Name x p2] X.env = (false, eval (.Name x p2) X.env) :: starEach [] X.env := by rfl) (hpl : (backTo pos (starEach [.Name x p2] X.env)).any (·.1) = false := by rfl) :
    SE X fx W true ea (.Call (.Name "isinstance" p) [e, .Name x p2] [] pos) (e1 (opIs base tab) m) := by
  obtain ⟨C, hmT, IT⟩ := h
  exact se_isiO IT hmT he hm hg hgT hdb h1 h2 hpl
theorem ss_tryKE (i j : Nat) {c n : Str} {tab : List (Str × Bool)} {body : List Stmt} {mb : MS} {np pos' p1 p3 : Pos} (h : ∃ C, X.mg c = some (.ref C) ∧ CatT X.K X.mg (.ref C) tab) (hx0 : X.ex = []) (hs : X.stack = X.env :: X.outer) (hf : X.env.frame = some X.env.locals) (hN : X.N.Nodup) (tk : Takes X W)
    (hb : ∀ (W' : WX) (pn : List (Addr × Obj)) (xe : Value → Shared → Prop), Takes (X.tr pn xe) W' → PassesOwn (model X.prog X.w) X.A X.env xe → SSs (X.tr pn xe) fx W' body mb)
    (hg : Gl X c := by rfl) (hdb : (c == ("__debug__" : Str)) = false := by decide)
    (hi : X.N[i]? = some n := by rfl) (hj : X.N[j]? = some x := by rfl) (hij : i ≠ j := by decide) (oi : fx.ow.contains i = false := by rfl) (oj : fx.ow.contains j = false := by rfl)
    (hln : X.env.scope.names.lookup n = some .local := by rfl) (hlx : X.env.scope.names.lookup x = some .local := by rfl) (hkn : X.env.kindOf n = some .local := by rfl)
    (hsw : swapsWith (.Name n p2) (some (.Name x p1)) p3.line X.env = pure false := by rfl) (hd : (n == ("__debug__" : Str)) = false := by decide) (hcd : (n == ("__classdict__" : Str)) = false := by decide) :
    SS X fx W (.Try body [.ExceptHandler (some (.Name c np)) (some n) [.Assign [.Name x p1] (.Name n p2) p3] pos'] [] [] pos) (sTryK tab i j mb) := by
  obtain ⟨C, hm, T⟩ := h
  exact ss_tryK i j T ⟨hg, hdb, .inl hm⟩ hx0 hs hf hN tk hb hi hj hij oi oj hln hlx hkn hsw hd hcd
end
theorem permL_len {α : Type} {xs : List α} : ∀ {is : List Nat}, (is.all fun i => decide (i < xs.length)) = true → (permL is xs).length = is.length
  | [], _ => rfl
  | i :: is, h => by
    rw [List.all_cons, Bool.and_eq_true] at h
    have hi : i < xs.length := of_decide_eq_true h.1
    have ih := permL_len h.2
    unfold permL at ih ⊢
    rw [List.filterMap_cons, List.getElem?_eq_getElem hi]
    simp [ih]
theorem perm_len {m : M (List D)} {k n : Nat} {is : List Nat} (hk : ∀ ρ ds ρ', m ρ = .ok ds ρ' → ds.length = k) (h : (is.all fun i => decide (i < k)) = true) (hn : is.length = n) : ∀ ρ ds ρ', m ρ = .ok ds ρ' → (permL is ds).length = n := fun ρ ds ρ' e => by
  rw [permL_len (by rw [hk _ _ _ e]; exact h), hn]
section
variable {P : Program} {w : World} {K : PySem.W.Frag} {mg : Str → Option Value} {base : Heap} {x : Str} {st : Stmt} {mask : List Nat} {rk : Rk} {n k : Nat} {fn : Fn} {ps : List Str}
def Fw (P : Program) (w : World) (K : PySem.W.Frag) (mg : Str → Option Value) (base : Heap) (x : Str) (st : Stmt) (ps : List Str) (mask : List Nat) (rk : Rk) (n k : Nat) (fn : Fn) : Prop :=
  ∃ f fd, DF K x x st f fd ∧ FnG P w K mg base (L2.CX P w) k f fd ps (spOf ⟨K, mg⟩ mask rk n fn) ∧ mg x = some (.ref f)
theorem fd_of (h : Fw P w K mg base x st ps mask rk n k fn) (hd : (defArgs st).defaults = [])
    (hb : ∀ (kV doc pm : Value) (an : Option Addr) (cdv ct : Value) (us : List Value), us.length = ps.length → bindArgs (PySem.W.fnOf x x (defArgs st) (defBody st) (defScope st) .none kV doc pm an cdv ct) ⟨us, []⟩ = pure (ps.zip us)) : Fd P w K mg base x mask rk n k fn := by
  obtain ⟨f, fd, F, G, hm⟩ := h
  exact ⟨f, fd, ps, G, hm, F.kp, F.binds hd hb⟩
theorem fk_of {ks : List Str} {is : List Nat} (h : Fw P w K mg base x st ps [] .cl n k fn) (hd : (defArgs st).defaults = [])
    (hb : ∀ (kV doc pm : Value) (an : Option Addr) (cdv ct : Value) (us ws : List Value), (permK is us ws).length = ps.length → bindArgs (PySem.W.fnOf x x (defArgs st) (defBody st) (defScope st) .none kV doc pm an cdv ct) ⟨us, ks.zip ws⟩ = pure (ps.zip (permK is us ws))) : Fk P w K mg base x ks is n k fn := by
  obtain ⟨f, fd, F, G, hm⟩ := h
  exact ⟨f, fd, ps, G, hm, F.kp, F.kbinds hd hb perm_vals⟩
end
/-! ### a, b, c = e1, e2, e3 -/
def sPar3 (i j l : Nat) (m : M (List D)) : MS := sDo m fun ds ρ => match ds with
  | [a, b, c] => .nx (((ρ.set i (.cl a)).set j (.cl b)).set l (.cl c))
  | _ => .bad
section
variable {g : Gx} {fx : Fx} {W : WX} {σ : L2.St} {H : Hp} {E : Ends} {ea : Bool}
theorem tS_par3 {i j l : Nat} {m : M (List D)} (hi : fx.ow.contains i = false) (hj : fx.ow.contains j = false) (hl : fx.ow.contains l = false) (h : tS g fx W (sPar3 i j l m) E σ H) : tPar3 i j l (tA g fx W true ea m) E σ H := by
  obtain ⟨F, ρ, S, h⟩ := h
  refine ⟨F, ρ, S, ?_⟩
  unfold sPar3 sDo at h
  cases e : m ρ with
  | bad => rw [e] at h; exact h
  | exn c x r =>
    rw [e] at h
    exact xgs h
  | ok ds ρ1 =>
    rw [e] at h
    intro vs H1 F1 G1 S1 r1
    match ds, h, r1 with
    | [a, b, c], h, r1 =>
      obtain ⟨v, r, rfl, ra, w, r', rfl, rb, u, r'', rfl, rc, rfl⟩ := r1
      refine ⟨v, w, u, rfl, h _ H1 F1 (((G1.gs.trans gs_set).trans gs_set).trans gs_set) (((S1.set hi ra).set hj rb).set hl rc)⟩
    | [], h, r1 => exact h.elim
    | [_], h, r1 => exact h.elim
    | [_, _], h, r1 => exact h.elim
    | _ :: _ :: _ :: _ :: _, h, r1 => exact h.elim
end
section
variable {X : Cx} {fx : Fx} {W : WX} {ea : Bool} {ml : M (List D)} {pos : Pos} {a b c : Expr}
theorem ss_par3 (i j l : Nat) {x y z : Str} {px py pz pt pt2 : Pos} {kt k2 : Nat} (hc : X.calm = true) (hN : X.N.Nodup) (ha : SA X fx W true ea [a, b, c] ml) (hi : X.N[i]? = some x := by rfl) (hj : X.N[j]? = some y := by rfl) (hl : X.N[l]? = some z := by rfl) (hij : i ≠ j := by decide) (hil : i ≠ l := by decide) (hjl : j ≠ l := by decide)
    (oi : fx.ow.contains i = false := by rfl) (oj : fx.ow.contains j = false := by rfl) (ol : fx.ow.contains l = false := by rfl)
    (hx : X.env.scope.names.lookup x = some .local := by rfl) (hy : X.env.scope.names.lookup y = some .local := by rfl) (hz : X.env.scope.names.lookup z = some .local := by rfl)
    (hw : swappedStores [.Tuple [.Name x px, .Name y py, .Name z pz] kt pt] (.Tuple [a, b, c] k2 pt2) X.env = pure (some [x, y, z]) := by rfl)
    (hs : swapsWithSole [.Tuple [.Name x px, .Name y py, .Name z pz] kt pt] (.Tuple [a, b, c] k2 pt2) pos.line X.env = pure false := by rfl) :
    SS X fx W (.Assign [.Tuple [.Name x px, .Name y py, .Name z pz] kt pt] (.Tuple [a, b, c] k2 pt2) pos) (sPar3 i j l ml) := PS.imp (ps_par3 hc hN hi hj hl hij hil hjl hx hy hz ha hw hs) fun E σ H q => tS_par3 oi oj ol q
end
end DL

set_option Elab.async false
set_option linter.all false
set_option maxRecDepth 100000
set_option maxHeartbeats 4000000
namespace DL
open PySem PySem.Spec PyProof.Rows L2

/-! ### lists of own lists -/
/-- the lists made so far, D the list they go to -/
def PL (g : Gx) (F H H1 : Hp) (D : Addr) (ds : List DL.D) (vs : List V) : Prop := OwnL g F H H1 ds vs ∧ vs.Nodup ∧ V.ref D ∉ vs
section
variable {g : Gx} {F H F' H' H1 : Hp} {D : Addr} {ds : List DL.D} {vs : List V}
theorem PL.nil : PL g F H H1 D [] [] := ⟨⟨rfl, fun i d h => by simp at h⟩, List.nodup_nil, by simp⟩
theorem PL.grow (h : PL g F H H1 D ds vs) (G : Grow F H F' H') : PL g F' H' H1 D ds vs :=
  ⟨h.1.move G.f (fun a _ _ hF ho => by
    obtain ⟨o, ho⟩ := ho
    refine ⟨(G.h a o ho).trans ho.symm, ?_⟩
    cases z : F' a with
    | none => rfl
    | some u =>
      rcases G.n a u z with q | q
      · rw [hF] at q; cases q
      · rw [ho] at q; cases q), h.2.1, h.2.2⟩
theorem OwnL.at (h : OwnL g F H H1 ds vs) {a : Addr} (m : V.ref a ∈ vs) : ∃ o, H a = some o := by
  obtain ⟨i, hi, e⟩ := List.getElem_of_mem m
  have hd : i < ds.length := by rw [← h.1]; exact hi
  obtain ⟨b, e1, _, _, o⟩ := h.2 i ds[i] (List.getElem?_eq_getElem hd)
  rw [List.getElem?_eq_getElem hi, e] at e1
  cases e1
  exact o.there
theorem PL.at (h : PL g F H H1 D ds vs) {a : Addr} (m : V.ref a ∈ vs) : ∃ o, H a = some o := h.1.at m
theorem PL.snoc {a : Addr} {d : DL.D} (h : PL g F H H1 D ds vs) (h1 : H1 a = none) (fa : F a = none) (o : Own g F H a d) (na : V.ref a ∉ vs) (ne : a ≠ D) : PL g F H H1 D (ds ++ [d]) (vs ++ [.ref a]) := by
  refine ⟨⟨by rw [List.length_append, List.length_append, h.1.1]; rfl, fun i e hi => ?_⟩, ?_, fun z => ?_⟩
  · by_cases c : i < ds.length
    · rw [List.getElem?_append_left c] at hi
      obtain ⟨b, e1, r⟩ := h.1.2 i e hi
      exact ⟨b, by rw [List.getElem?_append_left (by rw [h.1.1]; exact c)]; exact e1, r⟩
    · rw [List.getElem?_append_right (by omega)] at hi
      have c0 : i - ds.length = 0 := by
        cases q : i - ds.length with
        | zero => rfl
        | succ n => rw [q] at hi; cases hi
      rw [c0] at hi
      cases hi
      exact ⟨a, by rw [List.getElem?_append_right (by rw [h.1.1]; omega), h.1.1, c0]; rfl, fa, h1, o⟩
  · rw [List.nodup_append]
    refine ⟨h.2.1, by simp, fun x hx y hy => ?_⟩
    have : y = .ref a := by simpa using hy
    subst this
    exact fun z => na (z ▸ hx)
  · rcases List.mem_append.mp z with z | z
    · exact h.2.2 z
    · have : V.ref D = V.ref a := by simpa using z
      cases this
      exact ne rfl
theorem PL.side {o : HO} (h : PL g F H H1 D ds vs) : PL g F (upd H D o) H1 D ds vs :=
  ⟨h.1.move (Sub.refl _) fun a m _ hF _ => ⟨upd_ne fun z => h.2.2 (z ▸ m), hF⟩, h.2.1, h.2.2⟩
end
/-- a new list or dict -/
def tN (g : Gx) (fx : Fx) (W : WX) (eff : Bool) (m : M D) : TE := fun σ H Q => ∃ F ρ, ST g fx σ H F ρ ∧ match m ρ with
  | .ok d ρ' => ∀ a H' F', Go eff σ F H ρ F' H' ρ' → ST g fx σ H' F' ρ' → F' a = none → Own g F' H' a d → H a = none → Q (.ref a) H'
  | .exn c x ρ' => ∀ cls dd H' F', Go true σ F H ρ F' H' ρ' → ST g fx σ H' F' ρ' → XR g F' c x cls dd → W cls dd σ H'
  | .bad => False
/-- a new list of new lists -/
def tQ (g : Gx) (fx : Fx) (W : WX) (eff : Bool) (m : M D) : TE := fun σ H Q => ∃ F ρ, ST g fx σ H F ρ ∧ match m ρ with
  | .ok d ρ' => ∀ v H' F', Go eff σ F H ρ F' H' ρ' → ST g fx σ H' F' ρ' → Pool g F' H' H v d → Q v H'
  | .exn c x ρ' => ∀ cls dd H' F', Go true σ F H ρ F' H' ρ' → ST g fx σ H' F' ρ' → XR g F' c x cls dd → W cls dd σ H'
  | .bad => False
section
variable {g : Gx} {fx : Fx} {W : WX} {σ : L2.St} {H : Hp} {Q : VK} {ei ec ee ea : Bool} {vs is : List Nat} {t : D → Rho → R Rho} {c : M Bool} {e : M D} {mi : M (List D)} {E : Ends}
theorem lcp_turns {ρ1 : Rho} {F1 H1 : Hp} {ds : List D} {J : It} {D : Addr} (hv : vs.all (fun j => !fx.ow.contains j) = true) (hs : is.all (fun j => vs.contains j) = true) (S1 : ST g fx σ H1 F1 ρ1) (R1 : ItRep g J ds F1) (hD : H1 D = none) {xs0 : List DL.D} {ρ0 : Rho} (e0 : lcLoop vs t c e ds (wipeR ρ1 vs) = .ok xs0 ρ0) {Qd : Hp → Prop}
    (hE : ∀ Hc Fc accV, ST g fx (wipe σ vs) Hc Fc ρ0 → Go (ec || ee) (wipe σ vs) F1 H1 (wipeR ρ1 vs) Fc Hc ρ0 → Hc D = some (.lst accV) → PL g Fc Hc H1 D xs0 accV → Fc D = none → Qd Hc) :
    ∃ W : Nat → Nat → Hp → Prop, (∃ m, W 0 m (upd H1 D (.lst []))) ∧ ∀ i m H, W i m H →
      (J.stop i H ∧ Qd H) ∨ (J.go i H ∧ ∃ Nx : Hp → Prop, (∀ H', Nx H' → ∃ m', m' < m ∧ W (i + 1) m' H') ∧ ∀ x H', J.yld i H x H' → tG g fx is t x (wipe σ vs) H' fun σ2 H2 => wipe σ2 vs = wipe σ vs ∧ tB g fx W0 ec c σ2 H2 fun b H3 =>
        if b = true then tN g fx W0 ee e σ2 H3 fun y H4 => ∃ acc, H4 D = some (.lst acc) ∧ acc.length < sizeLine ∧ Nx (upd H4 D (.lst (acc ++ [y]))) else Nx H3) := by
  -- the end, whatever the turns give
  have S1w : ST g fx (wipe σ vs) H1 F1 (wipeR ρ1 vs) := S1.wipe hv
  have hD0 : fx.H0 D = none := S1.fresh hD
  have hDF : F1 D = none := by
    cases z : F1 D with
    | none => rfl
    | some u => rw [S1.s D u z] at hD; cases hD
  have nX : ∀ {x : Addr} {ρc : Rho} {Fc Hc : Hp}, H1 x = none → Go (ec || ee) (wipe σ vs) F1 H1 (wipeR ρ1 vs) Fc Hc ρc → ∀ (i : Nat) d, ρc[i]? = some (.ow d) → (wipe σ vs)[i]? ≠ some (some (.ref x)) := fun {x ρc Fc Hc} hx G i d hi hs => by
    obtain ⟨d', hi'⟩ := G.o i d hi
    obtain ⟨a, ea, _, o, _⟩ := S1w.ow i d' hi'
    rw [hs] at ea
    cases ea
    obtain ⟨u, hu⟩ := o.there
    rw [hx] at hu; cases hu
  have nD : ∀ {ρc : Rho} {Fc Hc : Hp}, Go (ec || ee) (wipe σ vs) F1 H1 (wipeR ρ1 vs) Fc Hc ρc → ∀ (i : Nat) d, ρc[i]? = some (.ow d) → (wipe σ vs)[i]? ≠ some (some (.ref D)) := fun {ρc Fc Hc} => nX hD
  let Pv : Nat → Hp → Prop := fun i Hc => i ≤ ds.length ∧ ∃ Fc ρc acc accV, ST g fx (wipe σ vs) Hc Fc ρc ∧ Go (ec || ee) (wipe σ vs) F1 H1 (wipeR ρ1 vs) Fc Hc ρc ∧ Hc D = some (.lst accV) ∧ PL g Fc Hc H1 D acc accV ∧ Fc D = none ∧ acc.length ≤ i ∧
    match lcLoop vs t c e (ds.drop i) ρc with
      | .ok xs ρ' => acc ++ xs = xs0 ∧ ρ' = ρ0
      | _ => False
  refine ⟨fun i m Hc => m = ds.length - i ∧ Pv i Hc, ⟨ds.length, by simp, Nat.zero_le _, F1, wipeR ρ1 vs, [], [], ?_, ?_, upd_same, PL.nil, hDF, Nat.le_refl _, ?_⟩, ?_⟩
  · exact S1w.grow (Grow.big S1w.s hD)
  · exact Go.of (Grow.big S1w.s hD)
  · rw [List.drop_zero, e0]
    exact ⟨rfl, rfl⟩
  · rintro i m Hc ⟨rfl, hi, Fc, ρc, acc, accV, Sc, Gc, hDc, rc, hFD, hacc, hq⟩
    by_cases hlt : i < ds.length
    · right
      have f1c : Sub F1 Fc := Gc.f
      refine ⟨R1.go i Hc Fc f1c Sc.s hlt, Pv (i + 1), fun H' p => ⟨ds.length - (i + 1), by omega, rfl, p⟩, fun x H' y => ?_⟩
      obtain ⟨F', G', r'⟩ := R1.yld i Hc Fc x H' ds[i] f1c Sc.s (List.getElem?_eq_getElem hlt) y
      have S' := Sc.grow G'
      have ed : ds.drop i = ds[i] :: ds.drop (i + 1) := List.drop_eq_getElem_cons hlt
      rw [ed] at hq
      dsimp only [lcLoop] at hq
      refine ⟨F', ρc, ds[i], S', r', ?_⟩
      cases et : t ds[i] ρc with
      | bad => rw [et] at hq; exact hq
      | ok ρ2 =>
        rw [et] at hq
        dsimp only at hq
        intro σ2 S2 T2 N2 U2
        refine ⟨wipe_touch T2 hs, F', ρ2, S2, ?_⟩
        -- facts that go along
        have Gx : Go (ec || ee) (wipe σ vs) F1 H1 (wipeR ρ1 vs) F' H' ρc := by
          have q := Gc.trans (Go.of (eff := false) (ρ := ρc) G')
          rwa [Bool.or_false] at q
        have hD' : H' D = some (.lst accV) := G'.h D _ hDc
        have hFD' : F' D = none := by
          cases z : F' D with
          | none => rfl
          | some u =>
            rcases G'.n D u z with q | q
            · rw [hFD] at q; cases q
            · rw [hDc] at q; cases q
        have rc' := rc.grow G'
        -- from the block's slots to the slots at hand
        have inv : ∀ {ρ3 : Rho} (j : Nat) d, ρ3[j]? = some (.ow d) → (∃ d', ρ2[j]? = some (.ow d')) → j ∉ vs ∧ ρc[j]? = ρc[j]? := fun j d _ ⟨d', h2⟩ => by
          have h3 := N2 j d' h2
          obtain ⟨d2, h4⟩ := Gc.o j d' h3
          refine ⟨fun q => ?_, rfl⟩
          rw [over_get, if_pos q] at h4
          cases z : ρ1[j]? with
          | none => rw [z] at h4; cases h4
          | some y => rw [z] at h4; cases h4
        have own2 : ∀ (j : Nat) d, ρ2[j]? = some (.ow d) → j ∉ vs ∧ σ2[j]? = (wipe σ vs)[j]? := fun j d h2 => by
          obtain ⟨n, _⟩ := inv (ρ3 := ρ2) j d h2 ⟨d, h2⟩
          exact ⟨n, T2.2 j fun z => n (by simpa using List.all_eq_true.mp hs j z)⟩
        have step : ∀ {ef : Bool} {ρ3 : Rho} {F3 H3 : Hp}, (!ef || (ec || ee)) = true → Go ef σ2 F' H' ρ2 F3 H3 ρ3 → ST g fx σ2 H3 F3 ρ3 →
            ST g fx (wipe σ vs) H3 F3 (wipeR ρ3 vs) ∧ Go (ec || ee) (wipe σ vs) F1 H1 (wipeR ρ1 vs) F3 H3 (wipeR ρ3 vs) ∧ H3 D = some (.lst accV) ∧ F3 D = none := fun {ef ρ3 F3 H3} hle G3 S3 => by
          have Sw := S3.wipe hv
          rw [wipe_touch T2 hs] at Sw
          have ow3 : ∀ (j : Nat) d, (wipeR ρ3 vs)[j]? = some (.ow d) → j ∉ vs ∧ ρ3[j]? = some (.ow d) := fun j d hj => by
            rw [over_get] at hj
            by_cases q : j ∈ vs
            · rw [if_pos q] at hj
              cases z : ρ3[j]? with
              | none => rw [z] at hj; cases hj
              | some y => rw [z] at hj; cases hj
            · rw [if_neg q] at hj
              exact ⟨q, hj⟩
          have kD : ∀ (j : Nat) d, ρ2[j]? = some (.ow d) → σ2[j]? ≠ some (some (.ref D)) := fun j d h2 hs2 => by
            obtain ⟨n, es⟩ := own2 j d h2
            rw [es] at hs2
            exact nD Gx j d (N2 j d h2) hs2
          refine ⟨Sw, ⟨Gx.f.trans G3.f, fun a o ha => ?_, fun j d hj => ?_, fun a o ha hn => ?_, fun e0 => ?_, fun a o ha => ?_⟩, G3.k D _ hD' kD, ?_⟩
          · rcases G3.n a o ha with q | q | ⟨j, d, h2, hs2⟩
            · exact Gx.n a o q
            · refine .inr (.inl ?_)
              cases z : H1 a with
              | none => rfl
              | some u =>
                obtain ⟨w, hw⟩ := Gx.d a u z
                rw [hw] at q; cases q
            · obtain ⟨n, es⟩ := own2 j d h2
              rw [es] at hs2
              obtain ⟨d3, h3⟩ := Gc.o j d (N2 j d h2)
              exact .inr (.inr ⟨j, d3, h3, hs2⟩)
          · obtain ⟨_, h3⟩ := ow3 j d hj
            obtain ⟨d2, h2⟩ := G3.o j d h3
            exact Gc.o j d2 (N2 j d2 h2)
          · refine G3.k a o (Gx.k a o ha hn) fun j d h2 hs2 => ?_
            obtain ⟨n, es⟩ := own2 j d h2
            rw [es] at hs2
            obtain ⟨d3, h3⟩ := Gc.o j d (N2 j d h2)
            exact hn j d3 h3 hs2
          · have e3 : ef = false := by
              cases ef with
              | false => rfl
              | true => rw [e0] at hle; cases hle
            obtain ⟨gr, er⟩ := G3.g e3
            obtain ⟨gr1, er1⟩ := Gx.g e0
            refine ⟨gr1.trans gr, ?_⟩
            rw [er]
            -- the target's slots are the block's own
            refine List.ext_getElem? fun j => ?_
            rw [over_get, over_get]
            by_cases q : j ∈ vs
            · rw [if_pos q, if_pos q]
              have l2 : ρ2.length = ρ1.length := by rw [← S2.len, T2.1, wipe_over, over_len, S1.len]
              cases z : ρ2[j]? with
              | none =>
                have : ρ1[j]? = none := List.getElem?_eq_none (by rw [← l2]; exact List.getElem?_eq_none_iff.mp z)
                rw [this]
              | some y =>
                have hj : j < ρ1.length := by rw [← l2]; exact (List.getElem?_eq_some_iff.mp z).1
                rw [List.getElem?_eq_getElem hj]
                rfl
            · rw [if_neg q, if_neg q]
              rw [U2.2 j fun z => q (by simpa using List.all_eq_true.mp hs j z), er1, over_get, if_neg q]
          · obtain ⟨w, hw⟩ := Gx.d a o ha
            exact G3.d a w hw
          · cases z : F3 D with
            | none => rfl
            | some u =>
              rcases G3.n D u z with q | q | ⟨j, d, h2, hs2⟩
              · rw [hFD'] at q; cases q
              · rw [hD'] at q; cases q
              · exact absurd hs2 (kD j d h2)
        have keepP : ∀ {ef : Bool} {ρ3 : Rho} {F3 H3 : Hp}, Go ef σ2 F' H' ρ2 F3 H3 ρ3 → PL g F3 H3 H1 D acc accV := fun {ef ρ3 F3 H3} G3 => by
          refine ⟨rc'.1.move G3.f fun a ha h1 hF ho => ?_, rc'.2.1, rc'.2.2⟩
          obtain ⟨o, ho⟩ := ho
          have kX : ∀ (j : Nat) d, ρ2[j]? = some (.ow d) → σ2[j]? ≠ some (some (.ref a)) := fun j d h2 hs2 => by
            obtain ⟨n, es⟩ := own2 j d h2
            rw [es] at hs2
            exact nX h1 Gx j d (N2 j d h2) hs2
          refine ⟨(G3.k a o ho kX).trans ho.symm, ?_⟩
          cases z : F3 a with
          | none => rfl
          | some u =>
            rcases G3.n a u z with q | q | ⟨j, d, h2, hs2⟩
            · rw [hF] at q; cases q
            · rw [ho] at q; cases q
            · exact absurd hs2 (kX j d h2)
        cases ecc : c ρ2 with
        | bad => rw [ecc] at hq; exact hq
        | exn _ _ _ => rw [ecc] at hq; exact hq.elim
        | ok b ρ3 =>
          rw [ecc] at hq
          intro H3 F3 G3 S3
          cases b with
          | false =>
            rw [if_neg (by decide)]
            obtain ⟨Sw, Gw, hDw, hFw⟩ := step le_l G3 S3
            exact ⟨hlt, F3, wipeR ρ3 vs, acc, accV, Sw, Gw, hDw, keepP G3, hFw, by omega, hq⟩
          | true =>
            rw [if_pos rfl]
            dsimp only at hq
            refine ⟨F3, ρ3, S3, ?_⟩
            cases eee : e ρ3 with
            | bad => rw [eee] at hq; exact hq
            | exn _ _ _ => rw [eee] at hq; exact hq.elim
            | ok xd ρ4 =>
              rw [eee] at hq
              dsimp only at hq
              intro xa H4 F4 G4 S4 fa oa ha3
              have xv : V := .ref xa
              obtain ⟨Sw, Gw, hDw, hFw⟩ := step (by cases ec <;> cases ee <;> rfl) (G3.trans G4) S4
              have P3 := keepP G3
              have P4 := keepP (G3.trans G4)
              have h1a : H1 xa = none := by
                cases z : H1 xa with
                | none => rfl
                | some u =>
                  obtain ⟨w, hw⟩ := Gx.d xa u z
                  obtain ⟨w2, hw2⟩ := G3.d xa w hw
                  rw [ha3] at hw2; cases hw2
              have na : V.ref xa ∉ accV := fun z => by
                obtain ⟨w, hw⟩ := P3.at z
                rw [ha3] at hw; cases hw
              have neD : xa ≠ D := fun z => by
                obtain ⟨w, hw⟩ := G3.d D _ hD'
                rw [z, hw] at ha3; cases ha3
              refine ⟨accV, hDw, by rw [rc.1.1, sizeLine_eq]; have := R1.len; omega, hlt, F4, wipeR ρ4 vs, acc ++ [xd], accV ++ [.ref xa], Sw.side hFw hD0 (nD Gw), ?_, upd_same, (P4.snoc h1a fa oa na neD).side, hFw, by rw [List.length_append, List.length_singleton]; omega, ?_⟩
              · refine ⟨Gw.f, Gw.n, Gw.o, fun a o ha hn => ?_, fun e0 => ?_, fun a o ha => ?_⟩
                · rw [upd_ne (ne_of_none ha hD)]
                  exact Gw.k a o ha hn
                · obtain ⟨gr, er⟩ := Gw.g e0
                  refine ⟨⟨gr.f, fun a o ha => ?_, fun a o ha => ?_, gr.n⟩, er⟩
                  · rw [upd_ne (ne_of_none ha hD)]
                    exact gr.h a o ha
                  · rw [upd_ne (ne_of_none ha hFw)]
                    exact gr.s a o ha
                · by_cases z : a = D
                  · subst z; exact ⟨_, upd_same⟩
                  · rw [upd_ne z]
                    exact Gw.d a o ha
              · cases el : lcLoop vs t c e (ds.drop (i + 1)) (wipeR ρ4 vs) with
                | bad => rw [el] at hq; exact hq
                | exn _ _ _ => rw [el] at hq; exact hq
                | ok xs ρ5 =>
                  rw [el] at hq
                  dsimp only at hq ⊢
                  rw [List.append_assoc]
                  exact hq
    · left
      have ei : i = ds.length := by omega
      subst ei
      refine ⟨R1.stop _ Hc Fc Gc.f Sc.s (Nat.le_refl _), ?_⟩
      rw [List.drop_length] at hq
      dsimp only [lcLoop] at hq
      rw [List.append_nil] at hq
      obtain ⟨q1, q2⟩ := hq
      subst q1
      subst q2
      exact hE Hc Fc accV Sc Gc hDc rc hFD
theorem tQ_lc (hv : vs.all (fun j => !fx.ow.contains j) = true) (hs : is.all (fun j => vs.contains j) = true) (h : tQ g fx W (ei || (ec || ee)) (eLC vs t c e mi) σ H Q) :
    tLc (tI g fx W ei mi) (tG g fx is t) (tB g fx W0 ec c) (tN g fx W0 ee e) vs σ H Q := by
  obtain ⟨F, ρ, S, h⟩ := h
  refine ⟨F, ρ, S, ?_⟩
  unfold eLC M.bind at h
  cases e1 : mi ρ with
  | bad => rw [e1] at h; exact h
  | exn c x r1 => rw [e1] at h; exact h
  | ok ds ρ1 =>
    rw [e1] at h
    intro J H1 F1 G1 S1 R1 D hD
    dsimp only at h
    cases e2 : lcLoop vs t c e ds (wipeR ρ1 vs) with
    | bad => rw [e2] at h; exact h.elim
    | exn _ _ _ => rw [e2] at h; exact h.elim
    | ok xs ρ' =>
      rw [e2] at h
      refine lcp_turns hv hs S1 R1 hD e2 fun Hc Fc accV Sc Gc hDc rc hFD => ?_
      have bk : ∀ a, H1 a = none → H a = none := fun a ha => by
        cases z : H a with
        | none => rfl
        | some u =>
          obtain ⟨w, hw⟩ := G1.d a u z
          rw [ha] at hw; cases hw
      exact h (.ref D) Hc Fc (G1.trans Gc.block) (S1.back Sc Gc hv) ⟨D, xs, accV, rfl, rfl, hFD, bk D hD, hDc, rc.1.base bk, rc.2.1, rc.2.2⟩
/-- a call that hands back a new list -/
theorem tN_call {fn : Fn} {n : Nat} {m : M (List D)} (hn : ∀ ρ ds ρ', m ρ = .ok ds ρ' → ds.length = n) (h : tN g fx W ea (eCall fn m) σ H Q) : tCallS (spOf g [] .fr n fn) (WE W) (tA g fx W true ea m) σ H Q := by
  obtain ⟨F, ρ, S, h⟩ := h
  refine ⟨F, ρ, S, ?_⟩
  unfold eCall M.bind at h
  cases e1 : m ρ with
  | bad => rw [e1] at h; exact h
  | exn c x r1 => rw [e1] at h; exact h
  | ok ds ρ1 =>
    rw [e1] at h
    intro vs H1 F1 G1 S1 r1
    refine ⟨F1, ds, args_of S1.s r1.rep, hn _ _ _ e1, ?_⟩
    dsimp only at h
    cases e2 : fn ds with
    | bad => rw [e2] at h; exact h.elim
    | any f => rw [e2] at h; exact h.elim
    | ok d outs =>
      rw [e2] at h
      intro v H' F' A ⟨a, ev, fa, o, ha⟩
      subst ev
      exact h a H' F' (by
        have q := G1.trans (Go.of (eff := false) (ρ := ρ1) A.grow)
        rwa [Bool.or_false] at q) (S1.grow A.grow) fa o (G1.new ha)
    | exn c x outs =>
      rw [e2] at h
      exact fun cls dd H' F' A r => h cls dd H' F' (G1.trans (Go.of (eff := false) (ρ := ρ1) A.grow)).up (S1.grow A.grow) r
/-- .. a new list of new lists -/
theorem tQ_call {fn : Fn} {n : Nat} {m : M (List D)} (hn : ∀ ρ ds ρ', m ρ = .ok ds ρ' → ds.length = n) (h : tQ g fx W ea (eCall fn m) σ H Q) : tCallS (spOf g [] .pl n fn) (WE W) (tA g fx W true ea m) σ H Q := by
  obtain ⟨F, ρ, S, h⟩ := h
  refine ⟨F, ρ, S, ?_⟩
  unfold eCall M.bind at h
  cases e1 : m ρ with
  | bad => rw [e1] at h; exact h
  | exn c x r1 => rw [e1] at h; exact h
  | ok ds ρ1 =>
    rw [e1] at h
    intro vs H1 F1 G1 S1 r1
    refine ⟨F1, ds, args_of S1.s r1.rep, hn _ _ _ e1, ?_⟩
    dsimp only at h
    cases e2 : fn ds with
    | bad => rw [e2] at h; exact h.elim
    | any f => rw [e2] at h; exact h.elim
    | ok d outs =>
      rw [e2] at h
      exact fun v H' F' A r => h v H' F' (by
        have q := G1.trans (Go.of (eff := false) (ρ := ρ1) A.grow)
        rwa [Bool.or_false] at q) (S1.grow A.grow) (Pool.base r fun a ha => G1.new ha)
    | exn c x outs =>
      rw [e2] at h
      exact fun cls dd H' F' A r => h cls dd H' F' (G1.trans (Go.of (eff := false) (ρ := ρ1) A.grow)).up (S1.grow A.grow) r
theorem tS_retQ {m : M D} (hk : fx.rk = .pl) (h : tS g fx W (sRet m) E σ H) : tRet (tQ g fx W ea m) E σ H := by
  obtain ⟨F, ρ, S, h⟩ := h
  refine ⟨F, ρ, S, ?_⟩
  unfold sRet sDo at h
  cases e : m ρ with
  | bad => rw [e] at h; exact h
  | exn c x r =>
    rw [e] at h
    exact xgs h
  | ok d ρ1 =>
    rw [e] at h
    exact fun v H1 F1 G1 S1 r1 => h v σ H1 F1 S1 (by unfold RV; rw [hk]; exact r1.base fun a ha => S.fresh ha)
end
end DL

set_option Elab.async false
set_option linter.all false
set_option maxRecDepth 100000
set_option maxHeartbeats 4000000
namespace DL
open PySem PySem.Spec PyProof.Rows L2

/-! ### for x in a new list of new lists -/
def forOw (i : Nat) (b : MS) : List D → MS
  | [], ρ => .nx ρ
  | d :: ds, ρ => (b (ρ.set i (.ow d))).turn (forOw i b ds)
def sForP (i : Nat) (m : M D) (b : MS) : MS := sDo m fun d => match d with
  | .lst ds => forOw i b ds
  | _ => fun _ => .bad
section
variable {g : Gx} {fx : Fx} {W : WX} {E : Ends} {σ σ1 : L2.St} {H F H1 F1 : Hp} {ρ ρ1 : Rho} {ea : Bool} {m : M D} {mb : MS}
theorem post_turnB {k : MS} {N : L2.St → Hp → Prop} {E' : Ends} (G : Gs σ F H ρ σ1 F1 H1 ρ1) (hk : ∀ ρ2, sPost g fx W E σ F H ρ (k ρ2) → ∀ σ' H' F', Gs σ1 F1 H1 ρ1 σ' F' H' ρ2 → ST g fx σ' H' F' ρ2 → N σ' H') (hn : E'.nx = N) (hc : E'.ct = N) (hr : E'.rt = E.rt) (hb : E'.bk = E.nx) :
    ∀ {s : SO}, sPost g fx W E σ F H ρ (s.turn k) → sPost g fx W E' σ1 F1 H1 ρ1 s
  | .nx ρ2, h => by
    intro σ' H' F' G2 S'
    rw [hn]
    exact hk ρ2 h σ' H' F' G2 S'
  | .ct ρ2, h => by
    intro σ' H' F' G2 S'
    rw [hc]
    exact hk ρ2 h σ' H' F' G2 S'
  | .brk r, h => by
    intro σ' H' F' G2 S'
    rw [hb]
    exact h σ' H' F' (G.trans G2) S'
  | .ret d r, h => by
    intro v σ' H' F' S' q
    rw [hr]
    exact h v σ' H' F' S' q
  | .exn c x r, h => fun cls dd σ' H' F' G2 => h cls dd σ' H' F' (G.trans G2)
  | .bad, h => h
  | .any f, h => fun a => post_turnB G hk hn hc hr hb (h a)
theorem ST.notOw (S : ST g fx σ H F ρ) {a : Addr} (ha : H a = none) : ¬ OwnA σ ρ a := fun ⟨i, d, h1, h2⟩ => S.ow_ne ha i d h1 h2
/-- the lists from the i-th on are nobody's -/
def Left (g : Gx) (F H H0 : Hp) (σ : L2.St) (ρ : Rho) (p : Addr) (ds : List D) (vs : List V) (i : Nat) : Prop :=
  F p = none ∧ H p = some (.lst vs) ∧ ¬ OwnA σ ρ p ∧ ∀ (j : Nat) d, i ≤ j → ds[j]? = some d → ∃ a, vs[j]? = some (.ref a) ∧ F a = none ∧ H0 a = none ∧ Own g F H a d ∧ ¬ OwnA σ ρ a
theorem Left.step {H0 : Hp} {p : Addr} {ds : List D} {vs : List V} {i : Nat} (h : Left g F H H0 σ ρ p ds vs i) (G : Gs σ F H ρ σ1 F1 H1 ρ1) : Left g F1 H1 H0 σ1 ρ1 p ds vs i := by
  have key : ∀ {a : Addr} {o : HO}, F a = none → H a = some o → ¬ OwnA σ ρ a → F1 a = none ∧ H1 a = some o ∧ ¬ OwnA σ1 ρ1 a := fun {a o} f h n => by
    refine ⟨?_, G.k a o h n, fun z => ?_⟩
    · cases z : F1 a with
      | none => rfl
      | some u =>
        rcases G.n a u z with q | q | q
        · rw [f] at q; cases q
        · rw [h] at q; cases q
        · exact absurd q n
    · rcases G.o a z with q | q
      · exact n q
      · rw [h] at q; cases q
  obtain ⟨h1, h2, h3, h4⟩ := h
  obtain ⟨k1, k2, k3⟩ := key h1 h2 h3
  refine ⟨k1, k2, k3, fun j d hj e => ?_⟩
  obtain ⟨a, e1, fa, ha, o, n⟩ := h4 j d hj e
  obtain ⟨u, hu⟩ := o.there
  obtain ⟨q1, q2, q3⟩ := key fa hu n
  exact ⟨a, e1, q1, ha, o.move G.f (q2.trans hu.symm), q3⟩
theorem own_set {i : Nat} {d : D} {v : Option V} {a : Addr} (h : OwnA (σ.set i v) (ρ.set i (.ow d)) a) : v = some (.ref a) ∨ OwnA σ ρ a := by
  obtain ⟨j, e, h1, h2⟩ := h
  by_cases c : i = j
  · subst c
    left
    have hl : i < σ.length := by
      have := (List.getElem?_eq_some_iff.mp h2).1
      simpa using this
    rw [List.getElem?_set_self hl] at h2
    exact Option.some.inj h2
  · rw [List.getElem?_set_ne c] at h1 h2
    exact .inr ⟨j, e, h1, h2⟩
theorem tS_forP {i : Nat} (hi : fx.ow.contains i = false) (h : tS g fx W (sForP i m mb) E σ H) : tFor (iList g.K (tQ g fx W ea m)) (gName i) (tS g fx W mb) E σ H := by
  obtain ⟨F, ρ, S, h⟩ := h
  refine ⟨F, ρ, S, ?_⟩
  unfold sForP sDo at h
  cases e : m ρ with
  | bad => rw [e] at h; exact h
  | exn c x r =>
    rw [e] at h
    exact xgs h
  | ok d ρ1 =>
    rw [e] at h
    intro v H1 F1 G1 S1 P1
    obtain ⟨p, ds, vs, rfl, rfl, fp, hp0, hp, ol, nd, np⟩ := P1
    dsimp only at h
    refine ⟨p, rfl, ⟨vs, SqL.of hp⟩, ?_⟩
    -- nothing of the pool is a slot's
    have no1 : ∀ a, H a = none → ¬ OwnA σ ρ1 a := fun a ha ⟨j, e, h1, h2⟩ => by
      obtain ⟨e', h3⟩ := G1.o j e h1
      exact S.ow_ne ha j e' h3 h2
    let Pv : Nat → L2.St → Hp → Prop := fun k σc Hc => k ≤ ds.length ∧ ∃ Fc ρc, ST g fx σc Hc Fc ρc ∧ Gs σ F H ρ σc Fc Hc ρc ∧ Left g Fc Hc H σc ρc p ds vs k ∧ sPost g fx W E σ F H ρ (forOw i mb (ds.drop k) ρc)
    refine ⟨fun k n σc Hc => n = ds.length - k ∧ Pv k σc Hc, ⟨ds.length, by simp, Nat.zero_le _, F1, ρ1, S1, G1.gs, ⟨fp, hp, no1 p hp0, fun j d _ e => ?_⟩, ?_⟩, ?_⟩
    · obtain ⟨a, e1, fa, ha, o⟩ := ol.2 j d e
      exact ⟨a, e1, fa, ha, o, no1 a ha⟩
    · rw [List.drop_zero]
      exact h
    · rintro k n σc Hc ⟨rfl, hk, Fc, ρc, Sc, Gc, Lc, hq⟩
      obtain ⟨fpc, hpc, npc, Lr⟩ := Lc
      by_cases hlt : k < ds.length
      · refine .inr ⟨⟨vs, vs[k]'(by rw [ol.1]; exact hlt), SqL.of hpc, List.getElem?_eq_getElem _⟩, Pv (k + 1), fun σ' H' q => ⟨ds.length - (k + 1), by omega, rfl, q⟩, fun x H' y => ?_⟩
        obtain ⟨rfl, y⟩ := y
        have ex := y vs (SqL.of hpc)
        obtain ⟨a, ea, fa, ha, oa, na⟩ := Lr k ds[k] (Nat.le_refl _) (List.getElem?_eq_getElem hlt)
        rw [ea] at ex
        cases ex
        have S2 := Sc.setO hi fa oa (S.fresh ha) (fun j e h1 h2 => na ⟨j, e, h1, h2⟩)
        have G2 : Gs σ F H ρ (σc.set i (some (.ref a))) Fc H' (ρc.set i (.ow ds[k])) := ⟨Gc.f, Gc.n, Gc.k, fun b hb => by
          rcases own_set hb with q | q
          · cases q
            exact .inr ha
          · exact Gc.o b q, Gc.d⟩
        have L2' : Left g Fc H' H (σc.set i (some (.ref a))) (ρc.set i (.ow ds[k])) p ds vs (k + 1) := by
          have ne : ∀ {b : Addr}, b ≠ a → ¬ OwnA σc ρc b → ¬ OwnA (σc.set i (some (.ref a))) (ρc.set i (.ow ds[k])) b := fun {b} n1 n2 z => by
            rcases own_set z with q | q
            · cases q; exact n1 rfl
            · exact n2 q
          refine ⟨fpc, hpc, ne (fun z => np (z ▸ List.mem_of_getElem? ea)) npc, fun j d hj e => ?_⟩
          obtain ⟨b, e1, fb, hb, ob, nb⟩ := Lr j d (by omega) e
          refine ⟨b, e1, fb, hb, ob, ne (fun z => ?_) nb⟩
          subst z
          have hj1 := (List.getElem?_eq_some_iff.mp e1)
          have : j = k := (List.getElem?_inj hj1.1 nd).mp (e1.trans ea.symm)
          omega
        have ed : ds.drop k = ds[k] :: ds.drop (k + 1) := List.drop_eq_getElem_cons hlt
        rw [ed] at hq
        dsimp only [forOw] at hq
        refine ⟨Fc, _, S2, ?_⟩
        exact post_turnB (E' := { E with nx := Pv (k + 1), ct := Pv (k + 1), bk := E.nx }) (N := Pv (k + 1)) G2 (fun ρ3 h3 σ3 H3 F3 G3 S3 => ⟨hlt, F3, ρ3, S3, G2.trans G3, L2'.step G3, h3⟩) rfl rfl rfl rfl hq
      · have ei : k = ds.length := by omega
        subst ei
        rw [List.drop_length] at hq
        exact .inl ⟨⟨vs, SqL.of hpc, by rw [ol.1]; exact Nat.le_refl _⟩, hq σc Hc Fc Gc Sc⟩

/-! ### f(new list) -/
def eCallF (fn : Fn) (m : M D) : M D := m.bind fun d ρ => match fn [d] with
  | .ok r [_] => .ok r ρ
  | .exn c x [_] => .exn c x ρ
  | _ => .bad
theorem ST.lost {F' H' : Hp} {a : Addr} {outs : List D} (S : ST g fx σ H F ρ) (hF : F a = none) (h0 : fx.H0 a = none) (hn : ¬ OwnA σ ρ a) (A : After g [0] F H [.ref a] outs F' H') : ST g fx σ H' F' ρ := by
  have kk : ∀ c o, H c = some o → c ≠ a → H' c = some o := fun c o h ne => A.k c o h fun i hi q => by
    have e : i = 0 := by simpa using hi
    subst e
    have : V.ref a = V.ref c := by simpa using q
    cases this
    exact ne rfl
  refine ⟨A.s, S.ge.trans A.f, fun c o h => ?_, fun c o h k => ?_, S.len, fun i d h => ?_, fun i d h => ?_, S.inj, S.par, S.pin⟩
  · rcases A.n c o h with q | q
    · exact S.nw c o q
    · exact .inr (S.fresh q)
  · exact kk c o (S.old c o h k) fun z => by rw [z, h0] at h; cases h
  · obtain ⟨v, e, r⟩ := S.cl i d h
    exact ⟨v, e, r.mono A.f⟩
  · obtain ⟨c, e, fc, o, n⟩ := S.ow i d h
    obtain ⟨u, hu⟩ := o.there
    have ne : c ≠ a := fun z => hn ⟨i, d, h, z ▸ e⟩
    refine ⟨c, e, ?_, o.move A.f ((kk c u hu ne).trans hu.symm), n⟩
    cases z : F' c with
    | none => rfl
    | some y =>
      rcases A.n c y z with q | q
      · rw [fc] at q; cases q
      · rw [hu] at q; cases q
theorem tE_callF {fn : Fn} {Q : VK} (h : tE g fx W true true (eCallF fn m) σ H Q) : tCallS (spOf g [0] .cl 1 fn) (WE W) (tCons (tN g fx W ea m) tNil) σ H Q := by
  obtain ⟨F, ρ, S, h⟩ := h
  refine ⟨F, ρ, S, ?_⟩
  unfold eCallF M.bind at h
  cases e1 : m ρ with
  | bad => rw [e1] at h; exact h
  | exn c x r1 => rw [e1] at h; exact h
  | ok d ρ1 =>
    rw [e1] at h
    intro a H1 F1 G1 S1 fa o ha
    dsimp only at h
    have na : ¬ OwnA σ ρ1 a := fun ⟨j, e, h1, h2⟩ => by
      obtain ⟨e', h3⟩ := G1.o j e h1
      exact S.ow_ne ha j e' h3 h2
    have AA : Args g [0] F1 H1 [d] [.ref a] := by
      refine ⟨S1.s, rfl, fun i e hi he => ?_, fun i e hi he => ?_, fun i j c hi hj _ _ => ?_, fun i hi => ?_⟩
      · have z : i = 0 := by simpa using hi
        subst z
        cases he
        exact ⟨a, rfl, fa, o⟩
      · cases i with
        | zero => exact absurd (by simp) hi
        | succ i => simp at he
      · have z1 : i = 0 := by simpa using hi
        have z2 : j = 0 := by simpa using hj
        rw [z1, z2]
      · have z1 : i = 0 := by simpa using hi
        subst z1
        simp
    refine ⟨F1, [d], AA, rfl, ?_⟩
    have go : ∀ {outs : List D} {F' H' : Hp}, After g [0] F1 H1 [.ref a] outs F' H' → Go true σ F H ρ F' H' ρ1 := fun {outs F' H'} A => by
      have kk : ∀ c o, H1 c = some o → c ≠ a → H' c = some o := fun c o h ne => A.k c o h fun i hi q => by
        have e : i = 0 := by simpa using hi
        subst e
        have : V.ref a = V.ref c := by simpa using q
        cases this
        exact ne rfl
      refine ⟨G1.f.trans A.f, fun c w hc => ?_, G1.o, fun c w hc hn => ?_, fun z => (nomatch z), fun c w hc => ?_⟩
      · rcases A.n c w hc with q | q
        · exact G1.n c w q
        · exact .inr (.inl (G1.new q))
      · exact kk c w (G1.k c w hc hn) fun z => by rw [z, ha] at hc; cases hc
      · obtain ⟨u, hu⟩ := G1.d c w hc
        exact ⟨u, kk c u hu fun z => by rw [z, ha] at hc; cases hc⟩
    have st : ∀ {outs : List D} {F' H' : Hp}, After g [0] F1 H1 [.ref a] outs F' H' → ST g fx σ H' F' ρ1 := fun {outs F' H'} A => S1.lost fa (S.fresh ha) na A
    cases e3 : fn [d] with
    | bad => rw [e3] at h; exact h.elim
    | any f => rw [e3] at h; exact h.elim
    | ok r outs =>
      rw [e3] at h
      match outs, h with
      | [d'], h => exact fun v H' F' A r' => h v H' F' (go A) (st A) r'
      | [], h => exact h.elim
      | _ :: _ :: _, h => exact h.elim
    | exn c x outs =>
      rw [e3] at h
      match outs, h with
      | [d'], h => exact fun cls dd H' F' A r' => h cls dd H' F' (go A) (st A) r'
      | [], h => exact h.elim
      | _ :: _ :: _, h => exact h.elim
end
section
variable {X : Cx} {fx : Fx} {W : WX} {ea ei ec ee : Bool} {e : Expr} {es : List Expr} {m : M D} {ml : M (List D)} {pos p py : Pos} {is : List Nat} {t : D → Rho → R Rho} {c : M Bool} {em : M D} {mi : M (List D)} {elt tg iter : Expr} {ifs : List Expr} {scope : Scope}
def SN (X : Cx) (fx : Fx) (W : WX) (eff : Bool) (e : Expr) (m : M D) : Prop := PE X e (tN (gx X) fx W eff m)
def SQ (X : Cx) (fx : Fx) (W : WX) (eff : Bool) (e : Expr) (m : M D) : Prop := PE X e (tQ (gx X) fx W eff m)
theorem sn_call {x : Str} {fn : Fn} {n j : Nat} (C : Fd X.prog X.w X.K X.mg X.base x [] .fr n j fn) (hr : RoomG j X.A) (tk : Takes X W) (ha : SA X fx W true ea (e :: es) ml) (hn : ∀ ρ ds ρ', ml ρ = .ok ds ρ' → ds.length = n) (hg : Gl X x := by rfl)
    (hdb : (x == ("__debug__" : Str)) = false := by decide) (he : starEach (e :: es) X.env = (false, eval e X.env) :: starEach es X.env := by rfl) (hpl : (backTo pos (starEach es X.env)).any (·.1) = false := by rfl) :
    SN X fx W ea (.Call (.Name x p) (e :: es) [] pos) (eCall fn ml) := by
  obtain ⟨f, fd, ps, F, hm, hk, hb⟩ := C.ex
  exact PE.imp (pe_callG F hr hg hm hk hb (fun σ => passAt tk σ) ha hdb he hpl) fun σ H Q q => tN_call hn q
theorem sq_call {x : Str} {fn : Fn} {n j : Nat} (C : Fd X.prog X.w X.K X.mg X.base x [] .pl n j fn) (hr : RoomG j X.A) (tk : Takes X W) (ha : SA X fx W true ea (e :: es) ml) (hn : ∀ ρ ds ρ', ml ρ = .ok ds ρ' → ds.length = n) (hg : Gl X x := by rfl)
    (hdb : (x == ("__debug__" : Str)) = false := by decide) (he : starEach (e :: es) X.env = (false, eval e X.env) :: starEach es X.env := by rfl) (hpl : (backTo pos (starEach es X.env)).any (·.1) = false := by rfl) :
    SQ X fx W ea (.Call (.Name x p) (e :: es) [] pos) (eCall fn ml) := by
  obtain ⟨f, fd, ps, F, hm, hk, hb⟩ := C.ex
  exact PE.imp (pe_callG F hr hg hm hk hb (fun σ => passAt tk σ) ha hdb he hpl) fun σ H Q q => tQ_call hn q
theorem sq_lc (own : List (Str × Nat)) (hc : X.calm = true) (hN : X.N.Nodup) (hi : SI X fx W ei tg iter mi) (ok : BlkOk X.N X.env.scope scope own)
    (hg : ∀ (s : Shared) (H : Hp) (C : Addr) (cl : List (Str × Addr)) (fp : List Addr), SG (X.blk s H scope (compEnvC scope cl C X.env) fp) fx is tg t) (ht : ∀ (s : Shared) (H : Hp) (C : Addr) (cl : List (Str × Addr)) (fp : List Addr), STs (X.blk s H scope (compEnvC scope cl C X.env) fp) fx ec ifs c)
    (he : ∀ (s : Shared) (H : Hp) (C : Addr) (cl : List (Str × Addr)) (fp : List Addr), SN (X.blk s H scope (compEnvC scope cl C X.env) fp) fx W0 ee elt em)
    (hv : (own.map (·.2)).all (fun j => !fx.ow.contains j) = true := by rfl) (hs : is.all (fun j => (own.map (·.2)).contains j) = true := by rfl) (hf : ∀ x, foldedSetIterable iter X.env x = pure x := by intro _; rfl) :
    SQ X fx W (ei || (ec || ee)) (.ListComp elt [⟨tg, iter, ifs, 0⟩] scope pos) (eLC (own.map (·.2)) t c em mi) :=
  PE.imp (pe_lc (g := tG (gx X) fx is t) (tt := tB (gx X) fx W0 ec c) (te := tN (gx X) fx W0 ee em) hc hN hi ok hg ht he hf) fun σ H Q q => tQ_lc hv hs q
theorem ss_retQ (he : SQ X fx W ea e m) (hk : fx.rk = .pl := by rfl) : SS X fx W (.Return (some e) pos) (sRet m) := PS.imp (ps_ret he) fun E σ H q => tS_retQ hk q
theorem ss_forP (i : Nat) {y : Str} {body : List Stmt} {mb : MS} (hp : PassesOwn (model X.prog X.w) X.A X.env X.xe) (hc : X.calm = true) (hN : X.N.Nodup) (he : SQ X fx W ea e m) (hb : SSs X fx W body mb) (hi : X.N[i]? = some y := by rfl) (ho : fx.ow.contains i = false := by rfl)
    (hx : Loc X.env.scope y := by first | exact .inl rfl | exact .inr rfl) (hf : X.fn y = true ∨ X.env.scope.names.lookup y = some .local := by first | exact .inl rfl | exact .inr rfl) (hs : ∀ x, foldedSetIterable e X.env x = pure x := by intro _; rfl) :
    SS X fx W (.For (.Name y py) e body [] pos) (sForP i m mb) := PS.imp (ps_for hp hc (pi_list he) (pg_name hN hi hx hf) hb hs) fun E σ H q => tS_forP ho q
theorem se_callF {x : Str} {fn : Fn} {k : Nat} (C : Fd X.prog X.w X.K X.mg X.base x [0] .cl 1 k fn) (hr : RoomG k X.A) (tk : Takes X W) (he : SN X fx W ea e m) (hg : Gl X x := by rfl)
    (hdb : (x == ("__debug__" : Str)) = false := by decide) (hst : starEach [e] X.env = (false, eval e X.env) :: starEach [] X.env := by rfl) (hpl : (backTo pos (starEach [] X.env)).any (·.1) = false := by rfl) :
    SE X fx W true true (.Call (.Name x p) [e] [] pos) (eCallF fn m) := by
  obtain ⟨f, fd, ps, F, hm, hk, hb⟩ := C.ex
  exact PE.imp (pe_callG F hr hg hm hk hb (fun σ => passAt tk σ) (pa_cons he pa_nil hst) hdb hst hpl) fun σ H Q q => tE_callF q
end
end DL

set_option Elab.async false
set_option linter.all false
set_option maxRecDepth 100000
set_option maxHeartbeats 4000000
namespace DL
open PySem PySem.Spec PyProof.Rows L2

/-! ### what the top has written: from k_is's facts to the walk's -/
def AllP {α : Type} (P : α → Prop) : List α → Prop
  | [] => True
  | x :: xs => P x ∧ AllP P xs
theorem allP {α : Type} {P : α → Prop} : ∀ {l : List α}, AllP P l → ∀ x ∈ l, P x
  | [], _, x, h => by cases h
  | y :: ys, ⟨h1, h2⟩, x, h => by
    rcases List.mem_cons.mp h with e | h
    · rw [e]; exact h1
    · exact allP h2 x h
section
variable {K : PySem.W.Frag} {mg : Str → Option Value}
theorem cls_some {C : Addr} (h : PySem.W.hasDictIn K C = true) : (PySem.W.clsIn K C).isSome = true := by
  obtain ⟨cd, hc, _⟩ := PySem.W.any_some h
  rw [hc]
  rfl
theorem kit_refTy {C : Addr} {T : String} {b : Bool} (hT : PySem.W.kitMeta T = true) (s : PySem.W.subIn K (.ref C) (.type T) = some b) : PySem.W.kitOne K (.ref C) (.type T) = some b := by
  unfold PySem.W.kitOne
  rw [if_neg (show ¬ ((Value.ref C == Value.type T) = true) from by simp)]
  show (if PySem.W.kitMeta T = true then _ else _) = _
  rw [if_pos hT]
  exact s
theorem kit_toRef {C : Addr} {t : Value} {b : Bool} (ty : PySem.W.typeIn K (.ref C) = some (.type "type")) (hd : PySem.W.hasDictIn K C = true) (s : PySem.W.subIn K t (.ref C) = some b) (hb : t = .ref C → b = true) : PySem.W.kitOne K t (.ref C) = some b := by
  unfold PySem.W.kitOne
  by_cases e : t = .ref C
  · rw [if_pos (beq_iff_eq.mpr e), hb e]
  · rw [if_neg (fun z => e (beq_iff_eq.mp z))]
    show (if ((PySem.W.clsIn K C).isSome && PySem.W.typeIn K (.ref C) == some (.type "type")) = true then _ else _) = _
    rw [if_pos (by rw [cls_some hd, ty] <;> rfl)]
    exact s
/-- an own error among built-in classes -/
def NoTy (K : PySem.W.Frag) (mg : Str → Option Value) (Ts : List String) (tab : List (Str × Bool)) : Prop := AllP (fun p => p.2 = false ∧ ∃ C, mg p.1 = some (.ref C) ∧ AllP (fun T => PySem.W.subIn K (.ref C) (.type T) = some false) Ts) tab
def six (T : String) : Prop := T = "str" ∨ T = "int" ∨ T = "bool" ∨ T = "list" ∨ T = "tuple" ∨ T = "dict"
theorem six_meta {T : String} (h : six T) : PySem.W.kitMeta T = true := by
  rcases h with rfl | rfl | rfl | rfl | rfl | rfl <;> decide +kernel
theorem any_refTys {C : Addr} : ∀ {Ts : List String}, (∀ T ∈ Ts, six T) → AllP (fun T => PySem.W.subIn K (.ref C) (.type T) = some false) Ts → PySem.W.kitAny K (.ref C) (Ts.map .type) = some false
  | [], _, _ => rfl
  | T :: Ts, h, ⟨s, r⟩ => kitAny_two (kit_refTy (six_meta (h T List.mem_cons_self)) s) (any_refTys (fun U hU => h U (List.mem_cons_of_mem _ hU)) r)
theorem any_kdTys {k : Kd} : ∀ {Ts : List String}, (∀ T ∈ Ts, six T) → PySem.W.kitAny K (.type k.nm) (Ts.map .type) = some (Ts.any fun T => (kdsOf T).contains k)
  | [], _ => rfl
  | T :: Ts, h => kitAny_two (kit_kd (h T List.mem_cons_self) k) (any_kdTys fun U hU => h U (List.mem_cons_of_mem _ hU))
theorem isT_tys {Ts : List String} {base : List Kd} {tab : List (Str × Bool)} (h : ∀ T ∈ Ts, six T) (hb : ∀ k : Kd, (Ts.any fun T => (kdsOf T).contains k) = base.contains k) (t : NoTy K mg Ts tab) : IsT K mg (Ts.map .type) base tab where
  b := fun k => by rw [any_kdTys h, hb]
  t := fun p hp => by
    obtain ⟨e, C, hC, r⟩ := allP t p hp
    exact ⟨C, hC, by rw [e]; exact any_refTys h r⟩
/-- an own error among own classes -/
def ErT (K : PySem.W.Frag) (mg : Str → Option Value) (c : Value) (tab : List (Str × Bool)) : Prop := AllP (fun p => ∃ E, mg p.1 = some (.ref E) ∧ PySem.W.subIn K (.ref E) c = some p.2 ∧ PySem.W.subIn K (.ref E) (.ref E) = some true) tab
theorem kit_er {C E : Addr} {b : Bool} (ty : PySem.W.typeIn K (.ref C) = some (.type "type")) (hd : PySem.W.hasDictIn K C = true) (s : PySem.W.subIn K (.ref E) (.ref C) = some b) (s2 : PySem.W.subIn K (.ref E) (.ref E) = some true) : PySem.W.kitOne K (.ref E) (.ref C) = some b :=
  kit_toRef ty hd s fun e => by
    have e2 : E = C := Value.ref.inj e
    subst e2
    rw [s2] at s
    exact (Option.some.inj s).symm
theorem isT_ref {C : Addr} {tab : List (Str × Bool)} (ty : PySem.W.typeIn K (.ref C) = some (.type "type")) (hd : PySem.W.hasDictIn K C = true) (b : AllP (fun k : Kd => PySem.W.subIn K (.type k.nm) (.ref C) = some false) [.non, .bl, .int, .str, .lst, .tup, .dic]) (t : ErT K mg (.ref C) tab) : IsT K mg [.ref C] [] tab where
  b := fun k => by
    refine kitAny_one (kit_toRef ty hd (allP b k (by cases k <;> simp)) fun e => by cases e)
  t := fun p hp => by
    obtain ⟨E, hE, s, s2⟩ := allP t p hp
    exact ⟨E, hE, kitAny_one (kit_er ty hd s s2)⟩
theorem isT_VE {tab : List (Str × Bool)} (t : ErT K mg (.type "ValueError") tab) : IsT K mg [.type "ValueError"] [] tab where
  b := fun k => kitAny_one (by cases k <;> exact kit_ty (by decide +kernel))
  t := fun p hp => by
    obtain ⟨E, hE, s, s2⟩ := allP t p hp
    exact ⟨E, hE, kitAny_one (kit_refTy (by decide +kernel) s)⟩
theorem catT_mk {C : Addr} {tab : List (Str × Bool)} (ty : PySem.W.typeIn K (.ref C) = some (.type "type")) (hd : PySem.W.hasDictIn K C = true) (hs : PySem.W.subIn K (.ref C) (.type "BaseException") = some true) (t : ErT K mg (.ref C) tab) : CatT K mg (.ref C) tab := fun p hp => by
  obtain ⟨E, hE, s, s2⟩ := allP t p hp
  have q := kit_er ty hd s s2
  refine ⟨E, hE, ?_⟩
  unfold PySem.W.exmOne
  rw [if_pos (by rw [hs] <;> rfl)]
  by_cases e : E = C
  · subst e
    show (if ((PySem.W.clsIn K E).isSome && PySem.W.typeIn K (.ref E) == some (.type "type")) = true then _ else _) = _
    rw [if_pos (by rw [cls_some hd, ty] <;> rfl)]
    exact s
  · show (if ((PySem.W.clsIn K C).isSome && PySem.W.typeIn K (.ref C) == some (.type "type")) = true then _ else _) = _
    rw [if_pos (by rw [cls_some hd, ty] <;> rfl)]
    exact s
end
section
variable {P : Program} {w : World} {K : PySem.W.Frag} {mg : Str → Option Value} {base : Heap}
theorem xd_mk {x : Str} {C fI : Addr} {st : Stmt} {qual : Str} {fd : FuncData} {p1 p2 p3 p4 : Pos} (hm : mg x = some (.ref C)) (oc : OexC K C)
    (g1 : PySem.W.findIn K (.ref C) "__getattribute__" = some (some (.builtin "BaseException.__getattribute__"))) (g2 : PySem.W.findIn K (.ref C) "__getattr__" = some none) (ha : PySem.W.findIn K (.ref C) "__class__" = some (some (.builtin "object.__class__")))
    (hn : PySem.W.specialIn K (.builtin "object.__class__") "__get__" = some (some (.builtin "getset_descriptor.__get__"))) (ht : PySem.W.takesIn K (.builtin "object.__class__") = some true) (hmro : PySem.W.mroIn K C (.type "object") = some true)
    (hd : PySem.W.hasDictIn K C = true) (hv : PySem.W.findIn K (.ref C) "value" = some none) (heq : PySem.W.findIn K (.ref C) "__eq__" = some (some (.builtin "object.__eq__"))) (iC : PySem.W.findIn K (.ref C) "__init__" = some (some (.ref fI))) (tI : PySem.W.typeIn K (.ref fI) = some (.type "function"))
    (FF : DF K "__init__" qual st fI fd) (S : FnScope ["self", "value"] ["self", "value"] (defScope st)) (hs : (defScope st).names.lookup ("self" : Str) = some .local) (hv2 : (defScope st).names.lookup ("value" : Str) = some .local)
    (hb : defBody st = [.Assign [.Attribute (.Name "self" p1) "value" p2] (.Name "value" p3) p4]) (hsw : ∀ (env : Env), swapsWith (.Name "value" p3) (some (.Attribute (.Name "self" p1) "value" p2)) p4.line env = pure false)
    (hbi : Binds K fd ["self", "value"] []) : Xd P w K mg base x 1 :=
  ⟨C, fI, fd, _, oc, ⟨cls_some hd, g1, g2, oc.exC, ha, hn, ht, hmro, hd, hv, heq⟩, iC, tI, init_ok FF S hs hv2 hb hsw, hbi, hm⟩
end
end DL
namespace DL
open PySem PySem.Spec PyProof.Rows L2
/-! ### a default that is never asked for -/
theorem init_binds {K : PySem.W.Frag} {qual : Str} {st : Stmt} {f T : Addr} {oc oc2 kV doc pm cdv ct : Value} {od od2 an : Option Addr} {osl osl2 : Array (Option Value)} {n : Nat} (l : K.lookup f = some ⟨oc, od, .func (PySem.W.fnOf "__init__" qual (defArgs st) (defBody st) (defScope st) (.ref T) kV doc pm an cdv ct), osl⟩)
    (c : PySem.W.codeIn K cdv qual = true) (k : PySem.W.keepIn K (.ref f) = true) (lT : K.lookup T = some ⟨oc2, od2, .seq #[.none] n, osl2⟩)
    (h : ∀ (T : Addr) (kV doc pm : Value) (an : Option Addr) (cdv ct : Value) (us its : List Value), us.length = 2 → its.length = 1 →
      ∃ k, bindArgs (PySem.W.fnOf "__init__" qual (defArgs st) (defBody st) (defScope st) (.ref T) kV doc pm an cdv ct) ⟨us, []⟩ = seqItems? (.ref T) >>= k ∧ k (some its.toArray) = pure ((["self", "value"] : List Str).zip (us ++ its.drop 1))) :
    Binds K (PySem.W.fnOf "__init__" qual (defArgs st) (defBody st) (defScope st) (.ref T) kV doc pm an cdv ct) ["self", "value"] [] := by
  have F : FunD K "__init__" qual (defArgs st) (defBody st) (defScope st) [.non] [] f (PySem.W.fnOf "__init__" qual (defArgs st) (defBody st) (defScope st) (.ref T) kV doc pm an cdv ct) :=
    ⟨⟨oc, od, .ref T, kV, doc, pm, an, cdv, ct, osl, rfl, l, c, .inr ⟨by simp, T, _, [.none], n, rfl, lT, rfl, .cons rfl .nil⟩, .inl rfl⟩, k⟩
  obtain ⟨ds, hd, hb⟩ := F.binds1 (ps := ["self", "value"]) 2 1 (by simp) rfl h
  cases hd
  exact hb
/-! ### the law's end -/
theorem rep_ints {g : Gx} {F : Hp} : ∀ ns : List Int, RepL g F (ns.map .int) (ns.map V.int)
  | [] => RepL.nil
  | n :: ns => RepL.cons (by simp only [Rep]) (rep_ints ns)
def spLaw (K : PySem.W.Frag) : Sp := fun vs H Q _ => ∃ (a : Addr) (ns : List Int), vs = [.ref a] ∧ SqL K H a (ns.map V.int) ∧ ns.length ≤ 63 ∧ (∀ z ∈ ns, Builtin.Int.intBits z ≤ 1048576) ∧ ∀ H', Q (.bl true) H'
theorem law_walk {l : PySem.W.OpenLaw} {q : Program} {loose : List Str} {XP : (Str → Option Value) → Heap → Prop} {YP : World → Heap → Prop} {d : DefRec} {K : Params → PySem.W.Frag} {st : Stmt} {k : Nat} {fn : Fn} (hn : l.most = some 63) (hdf : d.params.defaults = []) (hr : Room k callerA)
    (hY : ∀ (w : World) (h : Heap), YP w h → (K w.params).In h) (hdn : d.name = ("law" : Str)) (hd : (defArgs st).defaults = [])
    (hb : ∀ (kV doc pm : Value) (an : Option Addr) (cdv ct : Value) (u : Value), bindArgs (PySem.W.fnOf "law" "law" (defArgs st) (defBody st) (defScope st) .none kV doc pm an cdv ct) ⟨[u], []⟩ = pure [(("script" : Str), u)])
    (hlaw : ∀ ns : List Int, ns.length ≤ 63 → (∀ z ∈ ns, Builtin.Int.intBits z ≤ 1048576) → fn [.ros (ns.map .int)] = .ok (.bl true) [])
    (F : ∀ (w : World) (mg : Str → Option Value) (h : Heap), (K w.params).In h → h.Ns mainGlobals mg →
      (∃ f fd, DF (K w.params) "law" "law" st f fd ∧ mg "law" = some (.ref f)) ∧ ∀ base : Heap, Fw l.prog w (K w.params) mg base "law" st ["script"] [] .cl 1 k fn) :
    PySem.W.WalkO q loose XP YP l.row.toRowW d [] (fun f vs => PySem.call f vs) := by
  refine walk_ofG (n := 63) (k := k) (x := "script") (CX := fun w => L2.CX l.prog w) (sp := fun w => spLaw (K w.params)) hn (by decide) hdf hr hY (fun w mg fa h KX G hmg => ?_) (fun _ _ a ns hl hb _ hS => ⟨a, ns, rfl, hS, hl, hb, fun _ => rfl⟩) ?_
  · obtain ⟨⟨f, fd, D, hm⟩, FW⟩ := F w mg h KX G
    rw [hdn, hm] at hmg
    cases hmg
    obtain ⟨oc, od, dV, kV, doc, pm, an, cdv, ct, osl, e, lk, hcd, z⟩ := D.ex
    cases z hd
    refine ⟨fd, fun s u => .of_eq (by rw [e]; exact hb kV doc pm an cdv ct u), fun base _ _ => ?_⟩
    obtain ⟨f2, fd2, D2, G2, hm2⟩ := FW base
    rw [hm] at hm2
    cases hm2
    obtain ⟨oc2, od2, dV2, kV2, doc2, pm2, an2, cdv2, ct2, osl2, e2, lk2, _, _⟩ := D2.ex
    rw [lk] at lk2
    cases lk2
    have key : ∀ vs H Q E, spLaw (K w.params) vs H Q E → spOf ⟨K w.params, mg⟩ [] .cl 1 fn vs H Q E := by
      rintro vs H Q E ⟨a, ns, rfl, hS, hl, hbits, hQ⟩
      refine ⟨H, [.ros (ns.map .int)], ⟨Sub.refl _, rfl, fun _ _ h => (nomatch h), fun i d _ e => ?_, fun _ _ _ h => (nomatch h), fun _ h => (nomatch h)⟩, rfl, ?_⟩
      · cases i with
        | zero =>
          cases e
          refine ⟨.ref a, rfl, ?_⟩
          simp only [Rep]
          exact ⟨a, ns.map V.int, rfl, hS, rep_ints ns⟩
        | succ i => simp at e
      · rw [hlaw ns hl hbits]
        intro v H' F' _ r
        have ev : v = .bl true := by
          have r' : Rep ⟨K w.params, mg⟩ F' (.bl true) v := r
          simpa only [Rep] using r'
        rw [ev]
        exact hQ H'
    exact G2.imp key
  · intro w H s e s' z
    obtain ⟨_, _, _, _, _, _, _, _, _, _, _, _, z⟩ := z
    exact z
end DL

set_option Elab.async false
set_option linter.all false
set_option maxRecDepth 100000
set_option maxHeartbeats 4000000
namespace DL
open PySem PySem.Spec PyProof.Rows L2

/-! ### steps of mirrors -/
section
variable {ρ ρ1 ρ2 ρ3 : Rho} {d x y : D} {ds xs : List D} {ma mb mc : M D} {m : M (List D)} {b1 b2 : M Bool} {k : Bool} {i j s : Nat}
theorem ev_var (h : ρ[i]? = some (.cl d)) : eVar i ρ = .ok d ρ := by unfold eVar; rw [h]
theorem ev_own (h : ρ[i]? = some (.ow d)) : eOwn i ρ = .ok d ρ := by unfold eOwn; rw [h]
theorem ev_c : eC d ρ = .ok d ρ := rfl
theorem ev_2 {op : D → D → R D} (ha : ma ρ = .ok x ρ1) (hb : mb ρ1 = .ok y ρ2) (h : op x y = .ok d) : e2 op ma mb ρ = .ok d ρ2 := by
  unfold e2 M.bind
  rw [ha]
  dsimp only
  rw [hb]
  dsimp only [M.lift]
  rw [h]
theorem ev_1 {op : D → R D} (ha : ma ρ = .ok x ρ1) (h : op x = .ok d) : e1 op ma ρ = .ok d ρ1 := by
  unfold e1 M.bind
  rw [ha]
  dsimp only [M.lift]
  rw [h]
theorem ev_N {op : List D → R D} (ha : m ρ = .ok ds ρ1) (h : op ds = .ok d) : eN op m ρ = .ok d ρ1 := by
  unfold eN M.bind
  rw [ha]
  dsimp only [M.lift]
  rw [h]
theorem ev_nil : aNil ρ = .ok [] ρ := rfl
theorem ev_cons (ha : ma ρ = .ok x ρ1) (h : m ρ1 = .ok ds ρ2) : aCons ma m ρ = .ok (x :: ds) ρ2 := by
  unfold aCons M.bind
  rw [ha]
  dsimp only
  rw [h]
  rfl
theorem ev_call {fn : Fn} {outs : List D} (h : m ρ = .ok ds ρ1) (hf : fn ds = .ok d outs) : eCall fn m ρ = .ok d ρ1 := by
  unfold eCall M.bind
  rw [h]
  dsimp only
  rw [hf]
theorem ev_callO {fn : Fn} {d0 d1 d' : D} (h0 : ρ[s]? = some (.ow d0)) (h : m ρ = .ok ds ρ1) (h1 : ρ1[s]? = some (.ow d1)) (hf : fn (d1 :: ds) = .ok d [d']) : eCallO fn s m ρ = .ok d (ρ1.set s (.ow d')) := by
  unfold eCallO
  rw [h0]
  dsimp only
  rw [h]
  dsimp only
  rw [h1]
  dsimp only
  rw [hf]
theorem ev_callF {fn : Fn} {d' : D} (h : ma ρ = .ok x ρ1) (hf : fn [x] = .ok d [d']) : eCallF fn ma ρ = .ok d ρ1 := by
  unfold eCallF M.bind
  rw [h]
  dsimp only
  rw [hf]
theorem ev_callK {fn : Fn} {is : List Nat} {outs : List D} (h : m ρ = .ok ds ρ1) (hf : fn (permL is ds) = .ok d outs) : eCallK fn is m ρ = .ok d ρ1 := by
  unfold eCallK
  refine ev_call (ds := permL is ds) ?_ hf
  unfold M.bind
  rw [h]
  rfl
theorem ev_M {T : Ty} {op : D → List D → R D} (ho : ma ρ = .ok x ρ1) (ht : isT T x = true) (h : m ρ1 = .ok ds ρ2) (hop : op x ds = .ok d) : eMT T op ma m ρ = .ok d ρ2 := by
  unfold eMT M.bind
  rw [ho]
  dsimp only [mGuard]
  rw [if_pos ht]
  dsimp only
  rw [h]
  dsimp only [M.lift]
  rw [hop]
theorem ev_ifT (hc : b1 ρ = .ok true ρ1) (h : ma ρ1 = .ok d ρ2) : eIf b1 ma mb ρ = .ok d ρ2 := by
  unfold eIf M.bind
  rw [hc]
  exact h
theorem ev_ifF (hc : b1 ρ = .ok false ρ1) (h : mb ρ1 = .ok d ρ2) : eIf b1 ma mb ρ = .ok d ρ2 := by
  unfold eIf M.bind
  rw [hc]
  exact h
theorem ev_not (h : ma ρ = .ok x ρ1) (ht : truth x = .ok k) : eNot ma ρ = .ok (.bl (!k)) ρ1 := by
  unfold eNot M.bind
  rw [h]
  dsimp only [M.lift]
  rw [ht]
  rfl
theorem ev_andT (h : ma ρ = .ok x ρ1) (ht : truth x = .ok true) (h2 : mb ρ1 = .ok d ρ2) : eAnd ma mb ρ = .ok d ρ2 := by
  unfold eAnd M.bind
  rw [h]
  dsimp only [M.lift]
  rw [ht]
  exact h2
theorem ev_andF (h : ma ρ = .ok x ρ1) (ht : truth x = .ok false) : eAnd ma mb ρ = .ok x ρ1 := by
  unfold eAnd M.bind
  rw [h]
  dsimp only [M.lift]
  rw [ht]
  rfl
theorem ev_orT (h : ma ρ = .ok x ρ1) (ht : truth x = .ok true) : eOr ma mb ρ = .ok x ρ1 := by
  unfold eOr M.bind
  rw [h]
  dsimp only [M.lift]
  rw [ht]
  rfl
theorem ev_orF (h : ma ρ = .ok x ρ1) (ht : truth x = .ok false) (h2 : mb ρ1 = .ok d ρ2) : eOr ma mb ρ = .ok d ρ2 := by
  unfold eOr M.bind
  rw [h]
  dsimp only [M.lift]
  rw [ht]
  exact h2
theorem ev_chainT {op op' : D → D → R D} {z : D} (ha : ma ρ = .ok x ρ1) (hb : mb ρ1 = .ok y ρ2) (h : op x y = .ok (.bl true)) (hc : mc ρ2 = .ok z ρ3) (h2 : op' y z = .ok d) : eChain op op' ma mb mc ρ = .ok d ρ3 := by
  unfold eChain M.bind
  rw [ha]
  dsimp only
  rw [hb]
  dsimp only [M.lift]
  rw [h]
  dsimp only [isBl]
  rw [if_pos rfl, hc]
  dsimp only [M.lift]
  rw [h2]
theorem ev_chainF {op op' : D → D → R D} (ha : ma ρ = .ok x ρ1) (hb : mb ρ1 = .ok y ρ2) (h : op x y = .ok (.bl false)) : eChain op op' ma mb mc ρ = .ok (.bl false) ρ2 := by
  unfold eChain M.bind
  rw [ha]
  dsimp only
  rw [hb]
  dsimp only [M.lift]
  rw [h]
  rfl
theorem pa_no : pNo ρ = .ok none ρ := rfl
theorem pa_at {n : Int} (h : ma ρ = .ok (.int n) ρ1) : pAt ma ρ = .ok (some n) ρ1 := by
  unfold pAt M.bind
  rw [h]
  rfl
theorem ev_cut {lo hi : M (Option Int)} {l h : Option Int} (ha : ma ρ = .ok x ρ1) (hl : lo ρ1 = .ok l ρ2) (hh : hi ρ2 = .ok h ρ3) (hc : cutD x l h = .ok d) : eCut ma lo hi ρ = .ok d ρ3 := by
  unfold eCut M.bind
  rw [ha]
  dsimp only
  rw [hl]
  dsimp only
  rw [hh]
  dsimp only [M.lift]
  rw [hc]
/-! tests -/
theorem tb_of' (h : ma ρ = .ok (.bl k) ρ1) : bOf ma ρ = .ok k ρ1 := by
  unfold bOf M.bind
  rw [h]
  rfl
theorem tb_tr' (h : ma ρ = .ok x ρ1) (ht : truth x = .ok k) : bTr ma ρ = .ok k ρ1 := by
  unfold bTr M.bind
  rw [h]
  dsimp only [M.lift]
  rw [ht]
theorem tb_andT (h : b1 ρ = .ok true ρ1) (h2 : b2 ρ1 = .ok k ρ2) : bAnd b1 b2 ρ = .ok k ρ2 := by
  unfold bAnd M.bind
  rw [h]
  exact h2
theorem tb_andF (h : b1 ρ = .ok false ρ1) : bAnd b1 b2 ρ = .ok false ρ1 := by
  unfold bAnd M.bind
  rw [h]
  rfl
theorem tb_orT (h : b1 ρ = .ok true ρ1) : bOr b1 b2 ρ = .ok true ρ1 := by
  unfold bOr M.bind
  rw [h]
  rfl
theorem tb_orF (h : b1 ρ = .ok false ρ1) (h2 : b2 ρ1 = .ok k ρ2) : bOr b1 b2 ρ = .ok k ρ2 := by
  unfold bOr M.bind
  rw [h]
  exact h2
theorem tb_not' (h : b1 ρ = .ok k ρ1) : bNot b1 ρ = .ok (!k) ρ1 := by
  unfold bNot M.bind
  rw [h]
  rfl
/-! walks -/
theorem it_seq (h : ma ρ = .ok x ρ1) (hi : items x = .ok ds) : iSeq ma ρ = .ok ds ρ1 := by
  unfold iSeq M.bind
  rw [h]
  dsimp only [M.lift]
  rw [hi]
theorem it_range (h : m ρ = .ok xs ρ1) (hi : toRange xs = .ok ds) : iRange m ρ = .ok ds ρ1 := by
  unfold iRange M.bind
  rw [h]
  dsimp only [M.lift]
  rw [hi]
theorem it_zip (h : m ρ = .ok xs ρ1) (hi : zipD xs = .ok ds) : iZip m ρ = .ok ds ρ1 := by
  unfold iZip M.bind
  rw [h]
  dsimp only [M.lift]
  rw [hi]
theorem ev_lc {vs : List Nat} {t : D → Rho → R Rho} {c : M Bool} {e : M D} {mi : M (List D)} {ρ' : Rho} (h : mi ρ = .ok ds ρ1) (hl : lcLoop vs t c e ds (wipeR ρ1 vs) = .ok xs ρ') : eLC vs t c e mi ρ = .ok (.lst xs) (backR ρ1 ρ' vs) := by
  unfold eLC M.bind
  rw [h]
  dsimp only
  rw [hl]
/-! statements -/
theorem st_seq {a b : MS} {o : SO} (h : a ρ = .nx ρ1) (h2 : b ρ1 = o) : sSeq a b ρ = o := by
  unfold sSeq
  rw [h]
  exact h2
theorem st_seqR {a b : MS} (h : a ρ = .ret d ρ1) : sSeq a b ρ = .ret d ρ1 := by
  unfold sSeq
  rw [h]
  rfl
theorem st_asg (h : ma ρ = .ok d ρ1) : sAsg ma (tgName i) ρ = .nx (ρ1.set i (.cl d)) := by
  unfold sAsg sDo
  rw [h]
  rfl
theorem st_asgT {t : D → Rho → R Rho} (h : ma ρ = .ok d ρ1) (ht : t d ρ1 = .ok ρ2) : sAsg ma t ρ = .nx ρ2 := by
  unfold sAsg sDo
  rw [h]
  dsimp only [sTo]
  rw [ht]
theorem st_asgO (h : ma ρ = .ok d ρ1) : sAsgO i ma ρ = .nx (ρ1.set i (.ow d)) := by
  unfold sAsgO sDo
  rw [h]
  rfl
theorem st_ret (h : ma ρ = .ok d ρ1) : sRet ma ρ = .ret d ρ1 := by
  unfold sRet sDo
  rw [h]
theorem st_drop (h : ma ρ = .ok d ρ1) : sDrop ma ρ = .nx ρ1 := by
  unfold sDrop sDo
  rw [h]
theorem st_ifT {a b : MS} {o : SO} (hc : b1 ρ = .ok true ρ1) (h : a ρ1 = o) : sIf b1 a b ρ = o := by
  unfold sIf sDo
  rw [hc]
  exact h
theorem st_ifF {a b : MS} {o : SO} (hc : b1 ρ = .ok false ρ1) (h : b ρ1 = o) : sIf b1 a b ρ = o := by
  unfold sIf sDo
  rw [hc]
  exact h
theorem st_next : sNext ρ = .nx ρ := rfl
theorem st_par (h : m ρ = .ok [x, y] ρ1) : sPar i j m ρ = .nx ((ρ1.set i (.cl x)).set j (.cl y)) := by
  unfold sPar sDo
  rw [h]
theorem st_par3 {l : Nat} {z : D} (h : m ρ = .ok [x, y, z] ρ1) : sPar3 i j l m ρ = .nx (((ρ1.set i (.cl x)).set j (.cl y)).set l (.cl z)) := by
  unfold sPar3 sDo
  rw [h]
theorem st_app {ys : List D} (h0 : ρ[i]? = some (.ow (.lst ys))) (h : ma ρ = .ok d ρ1) (h1 : ρ1[i]? = some (.ow (.lst xs))) (hl : xs.length < 16777216) : sApp i ma ρ = .nx (ρ1.set i (.ow (.lst (xs ++ [d])))) := by
  unfold sApp
  rw [h0]
  dsimp only [owLst, sDo]
  rw [h]
  dsimp only
  rw [h1]
  dsimp only [owLst]
  rw [if_pos hl]
theorem st_setI {ys : List D} {n : Int} {q : Nat} (h : ma ρ = .ok d ρ1) (h0 : ρ1[i]? = some (.ow (.lst ys))) (hk : mb ρ1 = .ok (.int n) ρ2) (h1 : ρ2[i]? = some (.ow (.lst xs))) (hq : ixN xs.length n = some q) : sSetI i mb ma ρ = .nx (ρ2.set i (.ow (.lst (xs.set q d)))) := by
  unfold sSetI sDo
  rw [h]
  dsimp only
  rw [h0]
  dsimp only [owLst]
  rw [hk]
  dsimp only
  rw [h1]
  dsimp only [owLst]
  rw [hq]
theorem st_for {t : D → Rho → R Rho} {it : M (List D)} {b : MS} {o : SO} (h : it ρ = .ok ds ρ1) (hl : forLoop t b ds ρ1 = o) : sFor t it b ρ = o := by
  unfold sFor sDo
  rw [h]
  exact hl
theorem for_nil {t : D → Rho → R Rho} {b : MS} : forLoop t b [] ρ = .nx ρ := rfl
theorem for_nx {t : D → Rho → R Rho} {b : MS} {o : SO} (ht : t d ρ = .ok ρ1) (hb : b ρ1 = .nx ρ2) (h : forLoop t b ds ρ2 = o) : forLoop t b (d :: ds) ρ = o := by
  show (match t d ρ with
    | .bad => .bad
    | .ok ρ1 => (b ρ1).turn (forLoop t b ds)) = o
  rw [ht]
  dsimp only
  rw [hb]
  exact h
theorem wh_end {c : M Bool} {b : MS} {n : Nat} (hc : c ρ = .ok false ρ1) : whLoop c b (n + 1) ρ = .nx ρ1 := by
  unfold whLoop
  rw [hc]
theorem wh_go {c : M Bool} {b : MS} {n : Nat} {o : SO} (hc : c ρ = .ok true ρ1) (hb : b ρ1 = .nx ρ2) (h : whLoop c b n ρ2 = o) : whLoop c b (n + 1) ρ = o := by
  unfold whLoop
  rw [hc]
  dsimp only
  rw [hb]
  exact h
theorem fn_run {N : Nat} {mask : List Nat} {rk : Rk} {mm : MS} {ρ0 : Rho} (h0 : startR N mask ds = ρ0) (h : mm ρ0 = .ret d ρ1) : runFn N mask rk mm ds = .ok d (outsOf mask ρ1) := by
  unfold runFn
  rw [h0, h]
  rfl
end
end DL

set_option Elab.async false
set_option linter.all false
set_option maxRecDepth 100000
set_option maxHeartbeats 400000
namespace DL
open PySem PySem.Spec PyProof.Rows L2
/-! ### a mirror without .any in place of one with it -/
/-- r stands under s: s is r, whatever the places -/
def FO.le (r : FO) : FO → Prop
  | .any f => ∀ a, FO.le r (f a)
  | s => r = .bad ∨ r = s
theorem post_le {g : Gx} {mask : List Nat} {rk : Rk} {F H : Hp} {vs : List V} {Q : VK} {E : XK} {r : FO} (h : fPost g mask rk F H vs Q E r) : ∀ {s : FO}, FO.le r s → fPost g mask rk F H vs Q E s
  | .any f, k => fun a => post_le h (k a)
  | .ok d outs, k => by
    rcases k with k | k
    · rw [k] at h; exact h.elim
    · rw [k] at h; exact h
  | .exn c x outs, k => by
    rcases k with k | k
    · rw [k] at h; exact h.elim
    · rw [k] at h; exact h
  | .bad, k => by
    rcases k with k | k
    · rw [k] at h; exact h.elim
    · rw [k] at h; exact h
theorem Fw.le {P : Program} {w : World} {K : PySem.W.Frag} {mg : Str → Option Value} {base : Heap} {x : Str} {st : Stmt} {mask : List Nat} {rk : Rk} {n k : Nat} {fn fn' : Fn} {ps : List Str} (h : Fw P w K mg base x st ps mask rk n k fn) (hl : ∀ ds, FO.le (fn' ds) (fn ds)) : Fw P w K mg base x st ps mask rk n k fn' := by
  obtain ⟨f, fd, D, G, hm⟩ := h
  refine ⟨f, fd, D, G.imp fun vs H Q E q => ?_, hm⟩
  obtain ⟨F, ds, A, hn, q⟩ := q
  exact ⟨F, ds, A, hn, post_le q (hl ds)⟩
/-- one answer for all places -/
noncomputable def FO.flat : FO → FO
  | .any f => open Classical in if h : ∃ s, ∀ a, (f a).flat = s then Classical.choose h else .bad
  | .ok d outs => .ok d outs
  | .exn c v outs => .exn c v outs
  | .bad => .bad
theorem FO.bad_le : ∀ r : FO, FO.le .bad r
  | .any f => fun a => FO.bad_le (f a)
  | .ok _ _ => .inl rfl
  | .exn _ _ _ => .inl rfl
  | .bad => .inl rfl
theorem FO.flat_le : ∀ r : FO, FO.le r.flat r
  | .any f => fun a => by
    unfold FO.flat
    by_cases h : ∃ s, ∀ a, (f a).flat = s
    · rw [dif_pos h, ← Classical.choose_spec h a]
      exact FO.flat_le (f a)
    · rw [dif_neg h]
      exact FO.bad_le _
  | .ok _ _ => .inr rfl
  | .exn _ _ _ => .inr rfl
  | .bad => .inr rfl
theorem FO.flat_any {f : Addr → FO} {s : FO} (h : ∀ a, (f a).flat = s) : (FO.any f).flat = s := by
  have e : ∃ s, ∀ a, (f a).flat = s := ⟨s, h⟩
  unfold FO.flat
  rw [dif_pos e, ← Classical.choose_spec e (0 : Nat)]
  exact h _
noncomputable def flatFn (fn : Fn) : Fn := fun ds => (fn ds).flat
theorem Fw.flat {P : Program} {w : World} {K : PySem.W.Frag} {mg : Str → Option Value} {base : Heap} {x : Str} {st : Stmt} {mask : List Nat} {rk : Rk} {n k : Nat} {fn : Fn} {ps : List Str} (h : Fw P w K mg base x st ps mask rk n k fn) : Fw P w K mg base x st ps mask rk n k (flatFn fn) :=
  h.le fun ds => (fn ds).flat_le
end DL

set_option Elab.async false
set_option linter.all false
set_option maxRecDepth 100000
set_option maxHeartbeats 4000000
namespace DL
open PySem PySem.Spec PyProof.Rows L2

/-! ### a comprehension whose first walk wants a token -/
/-- what the walk J is to lead to -/
def LcTo (g : TG) (tt : TT) (te : TE) (vs : List Nat) (σ : L2.St) (Q : VK) (J : It) (H1 : Hp) : Prop := ∀ D, H1 D = none → ∃ W : Nat → Nat → Hp → Prop, (∃ m, W 0 m (upd H1 D (.lst []))) ∧ ∀ i m H, W i m H →
  (J.stop i H ∧ Q (.ref D) H) ∨ (J.go i H ∧ ∃ Nx : Hp → Prop, (∀ H', Nx H' → ∃ m', m' < m ∧ W (i + 1) m' H') ∧ ∀ x H', J.yld i H x H' → g x (wipe σ vs) H' fun σ2 H2 => wipe σ2 vs = wipe σ vs ∧ tt σ2 H2 fun b H3 =>
    if b = true then te σ2 H3 fun y H4 => ∃ acc, H4 D = some (.lst acc) ∧ acc.length < sizeLine ∧ Nx (upd H4 D (.lst (acc ++ [y]))) else Nx H3)
section
variable {X : Cx} {pins : List (Addr × Obj)} {s : Shared} {σ : L2.St} {H : Hp} {Q : VK} {elt tg iter : Expr} {ifs : List Expr} {scope : Scope} {own : List (Str × Nat)} {pos : Pos} {g : TG} {tt : TT} {te : TE}
theorem lc_at (calm : X.calm = true) (nd : X.N.Nodup) (I : Inv X pins σ H s) (ok : BlkOk X.N X.env.scope scope own)
    (PG1 : ∀ (s : Shared) (H : Hp) (C : Addr) (cl : List (Str × Addr)) (fp : List Addr), PG (X.blk s H scope (compEnvC scope cl C X.env) fp) tg g)
    (PT1 : ∀ (s : Shared) (H : Hp) (C : Addr) (cl : List (Str × Addr)) (fp : List Addr), PTs (X.blk s H scope (compEnvC scope cl C X.env) fp) ifs tt)
    (PE1 : ∀ (s : Shared) (H : Hp) (C : Addr) (cl : List (Str × Addr)) (fp : List Addr), PE (X.blk s H scope (compEnvC scope cl C X.env) fp) elt te)
    (hfold : ∀ x, foldedSetIterable iter X.env x = pure x)
    (first : wpAny (model X.prog X.w) X.A (eval iter X.env) (fun v s1 => wpAny (model X.prog X.w) X.A (pyIter v) (PIE X pins σ tg (LcTo g tt te (own.map (·.2)) σ Q)) X.xe s1) X.xe s) :
    wpAny (model X.prog X.w) X.A (eval (.ListComp elt [⟨tg, iter, ifs, 0⟩] scope pos) X.env) (EP X pins σ Q) X.xe s := by
  have cap : ∀ y ∈ scope.names, y.2 = .free → ∃ c, X.env.cells.lookup y.1 = some c := fun y hy e => (ok.free y hy e).elim (fun k => I.ok.has _ (.inl k)) fun k => I.ok.has _ (.inr k)
  rw [eval_ListComp]
  refine wpAny_comprehension_free rfl hfold (closure_ok cap) ok.kind (fun y hy e => (ok.uniq y hy).trans (congrArg some e)) (thn first fun _ _ q1 => thn q1 fun _ sB q2 => ?_)
  obtain ⟨it, fp, tn, J, HB, rfl, IB, T, tB, fB, to⟩ := q2
  refine wpAny_newObj_type (newEnv_comp ?_) (by show 0 ≤ sizeLine; decide)
  -- the new list at D
  let D := sB.heap.objs.size
  obtain ⟨W, ⟨m0, w0⟩, turn⟩ := to D (IB.hok.fresh (Nat.le_refl _))
  let lo : Obj := { cls := .type "list", data := .seq ([] : List Value).toArray }
  let sC : Shared := { sB with heap := sB.heap.push lo }
  let HC : Hp := upd HB D (.lst [])
  have IC : Inv X pins σ HC sC := IB.laid (t' := sB.toks) (fun b o e => Heap.get?_push_of_some _ e) (Nat.le_refl _) ⟨Nat.zero_le _, [], 0, .nil, Heap.get?_push_size _ rfl⟩
  have low : ∀ b ∈ fp, b < sB.heap.objs.size := fun b hb => (T.obj _ _ tB b hb).elim fun o q => Heap.lt_size q.1
  have fC : ∀ b ∈ fp, FpOk X pins HC b ∧ b < sC.heap.objs.size := fun b hb =>
    ⟨⟨(upd_ne (Nat.ne_of_lt (low b hb))).trans (fB b hb).1, (fB b hb).2⟩, by show b < (sB.heap.push lo).objs.size; rw [Heap.size_push]; exact Nat.lt_succ_of_lt (low b hb)⟩
  have tC : tn 0 sC.heap := T.keep _ _ _ tB fun b _ o e => Heap.get?_push_of_some _ e
  -- the block begins
  have IS := block_start IC ok nd fC
  let cl := cellsFrom (sC.heap.objs.size + 1) scope.names (cloFrom X.env.cells scope.names [])
  have pg := PG1 sC HC sC.heap.objs.size cl fp
  have pt := PT1 sC HC sC.heap.objs.size cl fp
  have pe := PE1 sC HC sC.heap.objs.size cl fp
  have hL : (compEnvC scope cl sC.heap.objs.size X.env).locals = sC.heap.objs.size := rfl
  show codeAny _ _ (.compStart (.ListComp elt [⟨tg, iter, ifs, 0⟩] scope pos) 0 (.ref it) (.ref D) (compEnvC scope cl sC.heap.objs.size X.env))
    (compPost (model X.prog X.w) X.A X.xe none (EP X pins σ Q) (.ref D) sC.heap.objs.size) { sC with heap := pushCells (sC.heap.push { cls := .type "dict", data := .dict #[] }) scope.names }
  have IS : Inv (X.blk sC HC scope (compEnvC scope cl sC.heap.objs.size X.env) fp) [] (wipe σ (own.map (·.2))) HC { sC with heap := pushCells (sC.heap.push { cls := .type "dict", data := .dict #[] }) scope.names } := IS
  generalize compEnvC scope cl sC.heap.objs.size X.env = ce at pg pt pe IS hL ⊢
  generalize hS : ({ sC with heap := pushCells (sC.heap.push { cls := .type "dict", data := .dict #[] }) scope.names } : Shared) = sS at IS ⊢
  have tS : tn 0 sS.heap := hS ▸ T.keep _ _ _ tC fun b _ o e => pushCells_keeps _ _ _ _ (Heap.get?_push_of_some _ e)
  have free0 : ∀ b ∈ fp, HC b = none := fun b hb => (fC b hb).1.1
  generalize hτ : wipe σ (own.map (·.2)) = τ at IS turn
  have lenτ : τ.length = σ.length := by rw [← hτ, wipe_length]
  have mine : ∀ {τ' : L2.St} {H' : Hp} {s' : Shared}, Inv (X.blk sC HC scope ce fp) [] τ' H' s' → (∀ b ∈ fp, H' b = none) → ∀ b ∈ fp, FpOk (X.blk sC HC scope ce fp) [] H' b := fun J h b hb =>
    ⟨h b hb, (J.ok.exf b hb).1, J.ok.exfs b hb, .inl hb, (J.ok.exf b hb).2, fun p hp => nomatch (show p ∈ ([] : List (Addr × Obj)) from hp)⟩
  have loop : codeAny (model X.prog X.w) X.A (.compLoop (.ListComp elt [⟨tg, iter, ifs, 0⟩] scope pos) 0 (.ref it) (.ref D) ce) (compPost (model X.prog X.w) X.A X.xe none (EP X pins σ Q) (.ref D) sC.heap.objs.size) sS := by
    refine compLoop_any (fun n s' => ∃ i H', Inv (X.blk sC HC scope ce fp) [] τ H' s' ∧ tn i s'.heap ∧ (∀ b ∈ fp, H' b = none) ∧ W i n H') ?_ m0 ⟨0, HC, IS, tS, free0, w0⟩
    intro n s5 h5
    obtain ⟨i, H5, I5, t5, n5, w5⟩ := h5
    rcases turn i n H5 w5 with ⟨stop, fin⟩ | ⟨go, Nx, back, step⟩
    · refine thnF (T.done (X.blk sC HC scope ce fp) rfl rfl rfl calm i [] s5 _ H5 (fun _ _ => False) I5 (mine I5 n5) t5 stop) fun r s6 h6 => ?_
      obtain ⟨rfl, I6⟩ := h6
      have I7 : Inv X pins σ H5 s6 := IC.call' (ch := fp) I6.os I6.base I6.hok I6.bare fun b hb => ⟨(fC b hb).1.2.2.2.1, (fC b hb).1.2.1, (fC b hb).1.2.2.2.2.1, (fC b hb).1.2.2.2.2.2⟩
      obtain ⟨m, hn, _⟩ := id I6.loc
      have z : H5 ce.locals = none := I6.free
      have hn : s6.heap.Ns ce.locals m := hn
      rw [hL] at z hn
      obtain ⟨f0, f1, f2, f3, f4, f5⟩ := IC.fpOk (H' := H5) (Nat.le_refl _) z
      exact ⟨m, hn, fun h'' sb => ⟨.ref D, H5, I7.turned (t' := s6.toks) (fun b o hb e => (sb.2 b hb).trans e) f0 f1 f3 f4 f5, rfl, fin⟩⟩
    · refine thnF (T.item (X.blk sC HC scope ce fp) rfl rfl rfl calm i [] s5 _ H5 (fun _ _ => False) I5 (mine I5 n5) t5 go) fun r s6 h6 => ?_
      obtain ⟨u, rfl, h6⟩ := h6
      refine thnF h6 fun _ s7 h7 => ?_
      obtain ⟨x, H7, I7, r7, y7, t7, n7⟩ := h7
      refine thnF (pg.run _ s7 _ H7 x u _ (I7.pinned (mine I7 n7) (T.obj _ _ t7)) r7 (step x H7 y7)) fun _ s8 h8 => ?_
      obtain ⟨σ8, H8, I8, w8, q8⟩ := h8
      refine thnF (pt.run _ s8 σ8 H8 _ I8 q8) fun b s9 h9 => ?_
      obtain ⟨H9, I9, q9⟩ := h9
      have again : ∀ {s' : Shared} {H' : Hp}, Inv (X.blk sC HC scope ce fp) ([] ++ pinsAt fp s7.heap) σ8 H' s' → Nx H' → ∃ m, m < n ∧ ∃ i H', Inv (X.blk sC HC scope ce fp) [] τ H' s' ∧ tn i s'.heap ∧ (∀ b ∈ fp, H' b = none) ∧ W i m H' := fun {s' H'} I' nx => by
        obtain ⟨m', hm, w'⟩ := back H' nx
        have kept : ∀ b ∈ fp, ∀ o, s7.heap.get? b = some o → s'.heap.get? b = some o ∧ H' b = none := fun b hb o e =>
          have z := I'.pin (b, o) (List.mem_append_right _ (List.mem_append_right _ (mem_pinsAt hb e)))
          ⟨z.1, z.2.1⟩
        have l8 : τ.length = σ8.length := by rw [lenτ, ← wipe_length σ8 (own.map (·.2)), w8, lenτ]
        refine ⟨m', hm, i + 1, H', (I'.unpinned (pins := [])).weak l8 (fun j v e => ?_), T.keep _ _ _ t7 fun b hb o e => (kept b hb o e).1, fun b hb => (T.obj _ _ t7 b hb).elim fun o q => (kept b hb o q.1).2, w'⟩
        rw [← w8] at e
        exact (wipe_some e).1
      cases b with
      | false => exact again I9 q9
      | true =>
        refine thnF (pe.run _ s9 σ8 H9 _ I9 q9) fun z sA hA => ?_
        obtain ⟨yv, HA, IA, rA, acc, e1, e2, nx⟩ := hA
        exact app_ok (X := X.blk sC HC scope ce fp) IA e1 e2 rA fun sF IF => again IF nx
  exact codeAny_compStart_list loop (T.self X.A 0 _ _ _ tS loop)
theorem pet_lc {wi : TI} (calm : X.calm = true) (nd : X.N.Nodup) (hi : PIT X tg iter wi) (ok : BlkOk X.N X.env.scope scope own)
    (PG1 : ∀ (s : Shared) (H : Hp) (C : Addr) (cl : List (Str × Addr)) (fp : List Addr), PG (X.blk s H scope (compEnvC scope cl C X.env) fp) tg g)
    (PT1 : ∀ (s : Shared) (H : Hp) (C : Addr) (cl : List (Str × Addr)) (fp : List Addr), PTs (X.blk s H scope (compEnvC scope cl C X.env) fp) ifs tt)
    (PE1 : ∀ (s : Shared) (H : Hp) (C : Addr) (cl : List (Str × Addr)) (fp : List Addr), PE (X.blk s H scope (compEnvC scope cl C X.env) fp) elt te)
    (hfold : ∀ x, foldedSetIterable iter X.env x = pure x := by intro _; rfl) : PET X (.ListComp elt [⟨tg, iter, ifs, 0⟩] scope pos) (tLc wi g tt te (own.map (·.2))) := fun pins s σ H Q h0 I h =>
  lc_at calm nd I ok PG1 PT1 PE1 hfold (hi pins s σ H _ h0 I h)
end
end DL

set_option Elab.async false
set_option linter.all false
set_option maxRecDepth 100000
set_option maxHeartbeats 4000000
namespace DL
open PySem PySem.Spec PyProof.Rows L2 CwR

/-! ### methods of texts -/
def opLower (x : D) (as : List D) : R D := match x, as with
  | .str a, [] => if a.length ≤ 5592405 then .ok (.str (Txt.lower a)) else .bad
  | _, _ => .bad
def opUpper (x : D) (as : List D) : R D := match x, as with
  | .str a, [] => if a.length ≤ 5592405 then .ok (.str (Txt.upper a)) else .bad
  | _, _ => .bad
def opStripC (x : D) (as : List D) : R D := match x, as with
  | .str a, [.str b] => if a.length ≤ 16777216 then .ok (.str (Txt.stripChars a b)) else .bad
  | _, _ => .bad
def opSplit (x : D) (as : List D) : R D := match x, as with
  | .str a, [.str b] => if b.length ≠ 0 ∧ a.length + 2 ≤ 16777216 then .ok (.lst ((Txt.split a b).map .str)) else .bad
  | _, _ => .bad
def opSIndex (x : D) (as : List D) : R D := match x, as with
  | .str a, [.str b] => (match Builtin.Str.occurrences a b 0 a.length 1 with
    | i :: _ => .ok (.int (i : Nat))
    | [] => .bad)
  | _, _ => .bad
def opStarts (x : D) (as : List D) : R D := match x, as with
  | .str a, [.str b] => .ok (.bl (Txt.startswith a b))
  | _, _ => .bad
section
variable {X : Cx} {g : Gx} {F H : Hp}
theorem strs_rep : ∀ ys : List Str, RepL g F (ys.map D.str) (ys.map V.str)
  | [] => RepL.nil
  | y :: ys => RepL.cons (by simp only [Rep]) (strs_rep ys)
theorem s_lower : SndM g (fun x xs H Q => ∃ a, x = .str a ∧ xs = [] ∧ a.length ≤ 5592405 ∧ Q (.str (Txt.lower a)) H) opLower := by
  intro F H dx x ds vs d Q s rx r e G
  cases ds with
  | cons _ _ => cases dx <;> cases e
  | nil =>
    cases dx with
    | str a =>
      have ev : vs = [] := r
      dsimp only [opLower] at e
      by_cases q : a.length ≤ 5592405
      · rw [if_pos q] at e
        cases e
        exact ⟨a, w_str rx, ev, q, G.str s⟩
      · rw [if_neg q] at e; cases e
    | _ => cases e
theorem s_upper : SndM g (fun x xs H Q => ∃ a, x = .str a ∧ xs = [] ∧ a.length ≤ 5592405 ∧ Q (.str (Txt.upper a)) H) opUpper := by
  intro F H dx x ds vs d Q s rx r e G
  cases ds with
  | cons _ _ => cases dx <;> cases e
  | nil =>
    cases dx with
    | str a =>
      have ev : vs = [] := r
      dsimp only [opUpper] at e
      by_cases q : a.length ≤ 5592405
      · rw [if_pos q] at e
        cases e
        exact ⟨a, w_str rx, ev, q, G.str s⟩
      · rw [if_neg q] at e; cases e
    | _ => cases e
theorem str2 {op : D → List D → R D} {dx x d : _} {ds : List D} {vs : List V} (h : op dx ds = .ok d) (hop : ∀ y zs d, op y zs = .ok d → ∃ a b, y = D.str a ∧ zs = [D.str b]) (rx : WRep g F H dx x) (r : WRL g F H ds vs) : ∃ a b, dx = .str a ∧ ds = [.str b] ∧ x = .str a ∧ vs = [.str b] := by
  obtain ⟨a, b, rfl, rfl⟩ := hop _ _ _ h
  obtain ⟨v, rfl, rv⟩ := wrl1 r
  exact ⟨a, b, rfl, rfl, w_str rx, by rw [w_str rv]⟩
theorem two_of {op : D → List D → R D} (h1 : ∀ y zs, (∀ a b, ¬ (y = D.str a ∧ zs = [D.str b])) → op y zs = .bad) : ∀ y zs d, op y zs = .ok d → ∃ a b, y = D.str a ∧ zs = [D.str b] := fun y zs d e => by
  by_cases q : ∃ a b, y = D.str a ∧ zs = [D.str b]
  · exact q
  · rw [h1 y zs fun a b z => q ⟨a, b, z⟩] at e
    cases e
theorem bad2 {f : Str → Str → R D} {op : D → List D → R D} (h : ∀ x as, op x as = match x, as with | .str a, [.str b] => f a b | _, _ => .bad) : ∀ y zs d, op y zs = .ok d → ∃ a b, y = D.str a ∧ zs = [D.str b] := fun y zs d e => by
  rw [h] at e
  split at e
  · exact ⟨_, _, rfl, rfl⟩
  · cases e
theorem s_stripC : SndM g (fun x xs H Q => ∃ a b, x = .str a ∧ xs = [.str b] ∧ a.length ≤ sizeLine ∧ Q (.str (Txt.stripChars a b)) H) opStripC := by
  intro F H dx x ds vs d Q s rx r e G
  obtain ⟨a, b, rfl, rfl, rfl, rfl⟩ := str2 e (bad2 fun _ _ => rfl) rx r
  dsimp only [opStripC] at e
  by_cases q : a.length ≤ 16777216
  · rw [if_pos q] at e
    cases e
    exact ⟨a, b, rfl, rfl, by rw [sizeLine_eq]; exact q, G.str s⟩
  · rw [if_neg q] at e; cases e
theorem s_split : SndM g (fun x xs H Q => ∃ a b, x = .str a ∧ xs = [.str b] ∧ (b.length == 0) = false ∧ a.length + 2 ≤ sizeLine ∧ rNewStrs (Txt.split a b) H Q) opSplit := by
  intro F H dx x ds vs d Q s rx r e G
  obtain ⟨a, b, rfl, rfl, rfl, rfl⟩ := str2 e (bad2 fun _ _ => rfl) rx r
  dsimp only [opSplit] at e
  by_cases q : b.length ≠ 0 ∧ a.length + 2 ≤ 16777216
  · rw [if_pos q] at e
    cases e
    exact ⟨a, b, rfl, rfl, by simpa using q.1, by rw [sizeLine_eq]; exact q.2, fun p hp => new_lst s (strs_rep _) G hp⟩
  · rw [if_neg q] at e; cases e
theorem s_sindex : SndM g (fun x xs H Q => ∃ a b i rest, x = .str a ∧ xs = [.str b] ∧ Builtin.Str.occurrences a b 0 a.length 1 = i :: rest ∧ Q (.int (i : Nat)) H) opSIndex := by
  intro F H dx x ds vs d Q s rx r e G
  obtain ⟨a, b, rfl, rfl, rfl, rfl⟩ := str2 e (bad2 fun _ _ => rfl) rx r
  dsimp only [opSIndex] at e
  cases q : Builtin.Str.occurrences a b 0 a.length 1 with
  | nil => rw [q] at e; cases e
  | cons i t =>
    rw [q] at e
    cases e
    exact ⟨a, b, i, t, rfl, rfl, q, G.int s⟩
theorem s_starts : SndM g (fun x xs H Q => ∃ a b, x = .str a ∧ xs = [.str b] ∧ Q (.bl (Txt.startswith a b)) H) opStarts := by
  intro F H dx x ds vs d Q s rx r e G
  obtain ⟨a, b, rfl, rfl, rfl, rfl⟩ := str2 e (bad2 fun _ _ => rfl) rx r
  cases e
  exact ⟨a, b, rfl, rfl, G.bl s⟩
end
/-! ### one of two readings, by what stands there -/
def mOr {α : Type} (c : Rho → Bool) (a b : M α) : M α := fun ρ => if c ρ = true then a ρ else b ρ
def isKd (T : Ty) (m : M D) (ρ : Rho) : Bool := match m ρ with
  | .ok d _ => isT T d
  | _ => true
section
variable {X : Cx} {fx : Fx} {W : WX} {cl eff : Bool} {e : Expr} {m1 m2 : M D}
theorem se_kd (c : Rho → Bool) (h1 : SE X fx W cl eff e m1) (h2 : SE X fx W cl eff e m2) : SE X fx W cl eff e (mOr c m1 m2) := PE.imp (PE.or h1 h2) fun σ H Q q => by
  obtain ⟨F, ρ, S, q⟩ := q
  unfold mOr at q
  cases e : c ρ with
  | true => rw [if_pos e] at q; exact .inl ⟨F, ρ, S, q⟩
  | false => rw [if_neg (by rw [e]; exact Bool.false_ne_true)] at q; exact .inr ⟨F, ρ, S, q⟩
end

/-! ### one token out -/
theorem PET.imp {X : Cx} {e : Expr} {t u : TE} (h : PET X e t) (k : ∀ σ H Q, u σ H Q → t σ H Q) : PET X e u := fun pins s σ H Q h0 I q => h pins s σ H Q h0 I (k σ H Q q)
theorem PAT.imp {X : Cx} {es : List Expr} {t u : TA} (h : PAT X es t) (k : ∀ σ H Q, u σ H Q → t σ H Q) : PAT X es u := fun pos pins s σ H Q h0 I q => h pos pins s σ H Q h0 I (k σ H Q q)
theorem PST.imp {X : Cx} {st : Stmt} {t u : TS} (h : PST X st t) (k : ∀ D σ H, u D σ H → t D σ H) : PST X st u := fun pins s σ H D h0 I q => h pins s σ H D h0 I (k D σ H q)
theorem PIT.imp {X : Cx} {tg e : Expr} {t u : TI} (h : PIT X tg e t) (k : ∀ σ H R, u σ H R → t σ H R) : PIT X tg e u := fun pins s σ H R h0 I q => h pins s σ H R h0 I (k σ H R q)
def SET (X : Cx) (fx : Fx) (W : WX) (cl eff : Bool) (e : Expr) (m : M D) : Prop := PET X e (tE (gx X) fx W cl eff m)
def SAT (X : Cx) (fx : Fx) (W : WX) (cl eff : Bool) (es : List Expr) (m : M (List D)) : Prop := PAT X es (tA (gx X) fx W cl eff m)
def SIT (X : Cx) (fx : Fx) (W : WX) (eff : Bool) (tg e : Expr) (m : M (List D)) : Prop := PIT X tg e (tI (gx X) fx W eff m)
/-- e.replace(y, z) of written texts -/
def opRepl (y z : Str) : D → R D
  | .str x => if x.length + (x.length + 1) * z.length ≤ 16777216 then .ok (.str (Txt.replace x y z)) else .bad
  | _ => .bad
def iLst (a : M D) : M (List D) := a.bind fun x => M.lift (match x with
  | .lst xs => if xs.length ≤ 16777216 then .ok xs else .bad
  | _ => .bad)
section
variable {X : Cx} {fx : Fx} {W : WX} {ca cb ea eb ei ec ee : Bool} {o e tg iter elt : Expr} {es ifs : List Expr} {mo m : M D} {ma : M (List D)} {op : D → List D → R D} {r : V → List V → Hp → VK → Prop} {nm y z : Str} {apos cpos pos c0 c1 : Pos} {id : String} {T : Ty} {j k : Nat}
theorem set_of (h : SE X fx W ca ea e m) : SET X fx W ca ea e m := CwR.PET.of h
theorem set_repl (ho : SE X fx W ca ea o mo) (hyz : (y == z) = false := by decide)
    (hst : starEach [.Constant (.str y) j c0, .Constant (.str z) k c1] X.env = [(false, eval (.Constant (.str y) j c0) X.env), (false, eval (.Constant (.str z) k c1) X.env)] := by rfl)
    (hbase : attributeBase o "replace" X.env (eval o X.env) = eval o X.env := by rfl) (hline : (apos.endLine == pos.line) = true := by rfl) :
    SET X fx W true ea (.Call (.Attribute o "replace" apos) [.Constant (.str y) j c0, .Constant (.str z) k c1] [] pos) (e1 (opRepl y z) mo) :=
  PET.imp (pet_replC ho hyz hst hbase hline) fun σ H Q h => by
    obtain ⟨F, ρ, S, h⟩ := h
    refine ⟨F, ρ, S, ?_⟩
    unfold e1 M.bind at h
    cases e1 : mo ρ with
    | bad => rw [e1] at h; exact h
    | exn c x r1 => rw [e1] at h; exact h
    | ok d ρ1 =>
      rw [e1] at h
      intro v H1 F1 G1 S1 r1
      dsimp only [M.lift] at h
      cases d with
      | str x =>
        dsimp only [opRepl] at h
        by_cases q : x.length + (x.length + 1) * z.length ≤ 16777216
        · rw [if_pos q] at h
          exact ⟨x, w_str r1.w, q, h _ H1 F1 G1 S1 (by show Rep _ _ _ _; simp only [Rep])⟩
        · rw [if_neg q] at h; exact h.elim
      | _ => exact h.elim
theorem set_bm (T : Ty) (pa : PlainAttrs T.nm) (slot : Slot T.nm nm id) (hty : typeOf (.builtin id) = pure (.type "method_descriptor")) (hm : MtR X id r) (hs : SndM (gx X) r op) (ho : SET X fx W ca ea o mo) (ha : SAT X fx W cb eb (e :: es) ma) (hc : (!eb || ca) = true := by rfl)
    (hbase : attributeBase o nm X.env (eval o X.env) = eval o X.env := by rfl)
    (hfew : ((backTo cpos (starEach (e :: es) X.env)).all (fun x => !x.1) && (backToKw cpos (keywordEach [] X.env)).all (fun x => x.1.isSome)
      && decide ((e :: es).length + ([] : List Keyword).length + (if ([] : List Keyword).isEmpty then 0 else 1) < 30)) = true := by rfl)
    (hline : (apos.endLine == cpos.line) = true := by rfl) (hst : starEach (e :: es) X.env = (false, eval e X.env) :: starEach es X.env := by rfl) (hplain : (backTo cpos (starEach es X.env)).any (·.1) = false := by rfl) :
    SET X fx W true (ea || eb) (.Call (.Attribute o nm apos) (e :: es) [] cpos) (eMT T op mo ma) := by
  refine PET.imp (t := tBM X.K T.nm r (tE (gx X) fx W ca ea mo) (tA (gx X) fx W cb eb ma)) ?_ fun σ H Q q => tE_eM hs hc q
  intro pins s σ H Q h0 I h
  refine wpAny_Call_method_late hbase hfew hline rfl (wpAny_mono (PySem.wpAny_toks (ho pins s σ H _ h0 I h)) (fun v s1 q => ?_) fun _ _ q => q.2)
  obtain ⟨hk, x, H1, I1, r1, ty, q1⟩ := q
  obtain ⟨t1, t2⟩ := tyV_is I1 r1 ty
  refine ⟨T.nm, id, pa, slot, hty, t1, t2, ?_⟩
  have hA := ha cpos pins s1 σ H1 _ (Nat.le_trans h0 hk) I1 q1
  rw [hst] at hA ⊢
  exact Calls.callWith_builtin (by show (false || (backTo cpos (starEach es X.env)).any (·.1)) = false; rw [hplain] <;> rfl) (Calls.evalArgs_plain (thn hA fun us s2 ⟨vs, H2, I2, r2, q2⟩ => hm pins s2 σ H2 x vs v us Q I2 r1 r2 q2))
theorem sat_nil : SAT X fx W true false [] aNil := fun pos pins s σ H Q _ I q => (pa_nil (X := X)).run pos pins s σ H Q I (tA_nil q)
theorem sat_cons (ha : SET X fx W ca ea e m) (hr : SAT X fx W cb eb es ma) (hc : (!eb || ca) = true := by rfl) (hst : starEach (e :: es) X.env = (false, eval e X.env) :: starEach es X.env := by rfl) : SAT X fx W (ca && cb) (ea || eb) (e :: es) (aCons m ma) :=
  PAT.imp (pat_cons ha hr hst) fun σ H Q q => tA_cons hc q
theorem sit_lst (h : SET X fx W true ea e m) : SIT X fx W ea tg e (iLst m) := PIT.imp (pit_list h) fun σ H R h => by
  obtain ⟨F, ρ, S, h⟩ := h
  refine ⟨F, ρ, S, ?_⟩
  unfold iLst M.bind at h
  cases e1 : m ρ with
  | bad => rw [e1] at h; exact h
  | exn c x r1 => rw [e1] at h; exact h
  | ok d ρ1 =>
    rw [e1] at h
    intro v H1 F1 G1 S1 r1
    dsimp only [M.lift] at h
    cases d with
    | lst xs =>
      dsimp only at h
      by_cases q : xs.length ≤ 16777216
      · rw [if_pos q] at h
        have r2 : Rep (gx X) F1 (.lst xs) v := r1
        simp only [Rep] at r2
        obtain ⟨a, vs, rfl, ea, l⟩ := r2
        have hq : SqL X.K F1 a vs := SqL.of ea
        refine ⟨a, rfl, ⟨vs, sqL_mono S1.s hq⟩, h _ H1 F1 G1 S1 ?_⟩
        refine ⟨fun i H' F' f s hi => ?_, fun i H' F' x H'' d f s e y => ?_, fun i H' F' f s hi => ⟨vs, sqL_mono (f.trans s) hq, by rw [l.length]; exact hi⟩, q⟩
        · obtain ⟨v, e, _⟩ := l.get (d := xs[i]) (List.getElem?_eq_getElem hi)
          exact ⟨vs, v, sqL_mono (f.trans s) hq, e⟩
        · obtain ⟨rfl, y⟩ := y
          obtain ⟨v, e1, r1⟩ := l.get e
          have e2 := y vs (sqL_mono (f.trans s) hq)
          rw [e1] at e2
          cases e2
          exact ⟨F', Grow.refl s, r1.mono f⟩
      · rw [if_neg q] at h; exact h.elim
    | _ => exact h.elim
theorem set_lc {is : List Nat} {t : D → Rho → R Rho} {c : M Bool} {me : M D} {mi : M (List D)} {scope : Scope} (own : List (Str × Nat)) (hc : X.calm = true) (hN : X.N.Nodup) (hi : SIT X fx W ei tg iter mi) (ok : BlkOk X.N X.env.scope scope own)
    (hg : ∀ (s : Shared) (H : Hp) (C : Addr) (cl : List (Str × Addr)) (fp : List Addr), SG (X.blk s H scope (compEnvC scope cl C X.env) fp) fx is tg t) (ht : ∀ (s : Shared) (H : Hp) (C : Addr) (cl : List (Str × Addr)) (fp : List Addr), STs (X.blk s H scope (compEnvC scope cl C X.env) fp) fx ec ifs c)
    (he : ∀ (s : Shared) (H : Hp) (C : Addr) (cl : List (Str × Addr)) (fp : List Addr), SE (X.blk s H scope (compEnvC scope cl C X.env) fp) fx W0 true ee elt me)
    (hv : (own.map (·.2)).all (fun j => !fx.ow.contains j) = true := by rfl) (hs : is.all (fun j => (own.map (·.2)).contains j) = true := by rfl) (hf : ∀ x, foldedSetIterable iter X.env x = pure x := by intro _; rfl) :
    SET X fx W true (ei || (ec || ee)) (.ListComp elt [⟨tg, iter, ifs, 0⟩] scope pos) (eLC (own.map (·.2)) t c me mi) :=
  PET.imp (pet_lc (g := tG (gx X) fx is t) (tt := tB (gx X) fx W0 ec c) (te := tE (gx X) fx W0 true ee me) hc hN hi ok hg ht he hf) fun σ H Q q => tE_lc hv hs q
/-- a def that is one return -/
theorem sst_ret (he : SET X fx W true ea e m) (hk : fx.rk = .cl := by rfl) : PSsT X [.Return (some e) pos] (tS (gx X) fx W (sRet m)) :=
  psst_one (PST.imp (pst_ret he) fun E σ H h => tS_ret hk h)
end
section
variable {P : Program} {w : World} {K : PySem.W.Frag} {mg : Str → Option Value} {base : Heap}
theorem fn_okT {x qual : Str} {st : Stmt} {f : Addr} {fd : FuncData} {N ps : List Str} {k : Nat} {mask : List Nat} {rk : Rk} {m : MS} (FF : DF K x qual st f fd) (S : FnScope N ps (defScope st)) (hl : ps.length ≤ N.length) (hnc : ∀ y ∈ (defScope st).names, y.2 ≠ .cell) (h1 : 1 ≤ ps.length)
    (hbody : ∀ (cdv : Value) (A : Around) (outer : List Env) (s : Shared) (H : Hp) (E : XK) (F : Hp) (O : List (Nat × Addr)), Room k (A.deeper (envOfC qual (defScope st) s.heap.objs.size f cdv)) →
      PSsT (cxOf (L2.CX P w) P w K mg base N qual (defScope st) f cdv A outer s H E) (defBody st) (tS ⟨K, mg⟩ ⟨F, H, O, mask, rk⟩ (fun cls d _ H => E cls d H) m)) :
    FnG P w K mg base (L2.CX P w) (k + 1) f fd ps (spOf ⟨K, mg⟩ mask rk ps.length (runFn N.length mask rk m)) := by
  obtain ⟨oc, od, dV, kV, doc, pm, an, cdv, ct, osl, rfl, lk, hcd, _⟩ := FF.ex
  refine .of (fn_ofT lk hcd S hnc h1 (fun vs H Q E h => ?_) (fun A outer s H vs Q E hr h => ?_))
  · obtain ⟨F, ds, A, hn, _⟩ := h
    rw [A.len, hn]
  · obtain ⟨F, ds, AA, hn, h⟩ := h
    exact ⟨_, hbody cdv A outer s H E F (ownOf mask vs) hr, F, startR N.length mask ds, st_start AA (by omega), fo_post AA h⟩
end
end DL

set_option Elab.async false
set_option linter.all false
set_option maxRecDepth 100000
set_option maxHeartbeats 4000000
namespace DL
open PySem PySem.Spec PyProof.Rows L2

/-! ### C(e) as a value: whatever its place -/
theorem pe_new {X : Cx} {e : Expr} {t : L2.St → Hp → XK → Prop} (hx0 : X.ex = []) (h : PMk X e t) :
    PE X e (fun σ H Q => t σ H fun cls d H' => ∀ a, H' a = none → ∃ C dd, cls = .ref C ∧ d = some dd ∧ Q (.ref a) (upd H' a (ExT C dd a))) := by
  refine ⟨fun pins s σ H Q I q => thn (h pins s σ H _ I q) fun u s1 hu => ?_⟩
  obtain ⟨a, oe, vs, sI, H', cls, d, rfl, J, k, hne, ha, hz, hd, h1, na, os, ag, r, q⟩ := hu
  obtain ⟨C, dd, rfl, rfl, q2⟩ := q a na
  have J1 : Inv X pins σ H' s1 := J.call' (ch := []) os (Un.kept k) (J.hok.kept k) ag fun b hb => nomatch hb
  have nL : a ≠ X.env.locals := fun z => by
    obtain ⟨m, ⟨o, _, _, ho, _⟩, _⟩ := J.loc
    rw [← z, hne] at ho
    cases ho
  have nC : ∀ x c, X.env.cells.lookup x = some c → c ≠ a := fun x c e z => by
    obtain ⟨v, o, ho, _⟩ := J.cell x c e
    rw [z, hne] at ho
    cases ho
  have np : ∀ p ∈ X.pn ++ pins, p.1 ≠ a := fun p hp z => by
    have e := (J.pin p hp).1
    rw [z, hne] at e
    cases e
  have n0 : X.s_0.heap.get? a = none := by
    cases e : X.s_0.heap.get? a with
    | none => rfl
    | some o =>
      obtain ⟨o', z⟩ := J.base.there a o e (by rw [hx0]; exact fun z => nomatch z)
      rw [hne] at z
      cases z
  exact ⟨.ref a, _, inv_track J1 na n0 nL nC np (ext_ok ha hz.1 hz.2 hd), rfl, q2⟩
section
variable (g : Gx) (fx : Fx) (W : WX)
def tEf (eff : Bool) (fam : Addr → M D) : TE := fun σ H Q => ∃ F ρ, ST g fx σ H F ρ ∧ ∀ a, match fam a ρ with
  | .ok d ρ' => ∀ v H' F', Go eff σ F H ρ F' H' ρ' → ST g fx σ H' F' ρ' → Rep g F' d v → Q v H'
  | .exn c x ρ' => ∀ cls dd H' F', Go true σ F H ρ F' H' ρ' → ST g fx σ H' F' ρ' → XR g F' c x cls dd → W cls dd σ H'
  | .bad => False
def tAf (eff : Bool) (fam : Addr → M (List D)) : TA := fun σ H Q => ∃ F ρ, ST g fx σ H F ρ ∧ ∀ a, match fam a ρ with
  | .ok ds ρ' => ∀ vs H' F', Go eff σ F H ρ F' H' ρ' → ST g fx σ H' F' ρ' → VRL true g F' H' ds vs → Q vs H'
  | .exn c x ρ' => ∀ cls dd H' F', Go true σ F H ρ F' H' ρ' → ST g fx σ H' F' ρ' → XR g F' c x cls dd → W cls dd σ H'
  | .bad => False
end
def SEf (X : Cx) (fx : Fx) (W : WX) (eff : Bool) (e : Expr) (fam : Addr → M D) : Prop := PE X e (tEf (gx X) fx W eff fam)
def SAf (X : Cx) (fx : Fx) (W : WX) (eff : Bool) (es : List Expr) (fam : Addr → M (List D)) : Prop := PA X es (tAf (gx X) fx W eff fam)
def eNew (c : Str) (m : M D) (a : Addr) : M D := m.bind fun d => M.pure (.exc a c d)
section
variable {X : Cx} {fx : Fx} {W : WX} {ca ea eb : Bool} {e : Expr} {es : List Expr} {m : M D} {ma : M (List D)} {fam : Addr → M D} {fal : Addr → M (List D)} {σ : L2.St} {H : Hp} {p pos : Pos}
theorem tEf_new {c : Str} {C : Addr} {Q : VK} (T : OexC X.K C) (TC : XcC X.K C) (hm : X.mg c = some (.ref C)) (h : tEf (gx X) fx W ea (eNew c m) σ H Q) :
    tMkO C (spInit X.K) [] (tCons (tE (gx X) fx W true ea m) tNil) σ H fun cls d H' => ∀ a, H' a = none → ∃ C dd, cls = .ref C ∧ d = some dd ∧ Q (.ref a) (upd H' a (ExT C dd a)) := by
  obtain ⟨F, ρ, S, h⟩ := h
  refine ⟨F, ρ, S, ?_⟩
  unfold eNew M.bind at h
  cases e1 : m ρ with
  | bad => have h := h (0 : Nat); rw [e1] at h; exact h
  | exn c' x r => have h := h (0 : Nat); rw [e1] at h; exact h
  | ok d ρ1 =>
    rw [e1] at h
    intro v H1 F1 G1 S1 r1
    refine ⟨Nat.le_of_ble_eq_true rfl, fun a na => ⟨a, C, v, rfl, T, TC.hv, upd_same, fun dx n1 n2 => ⟨rfl, dx, _, upd_same, by rw [upd_ne n2, upd_same], ?_, ?_⟩⟩⟩
    · rw [upd_ne n2] at n1
      exact n1
    · have nd : H1 dx = none := by rw [upd_ne n2] at n1; exact n1
      have eh : upd (del (upd (upd (upd H1 a (exo a C none)) dx (exd dx [("value", v)])) a (exo a C (some dx))) a) dx (.xd [("value", v)]) = upd H1 dx (.xd [("value", v)]) := by
        funext b
        by_cases hb : b = dx
        · subst hb
          rw [upd_same, upd_same]
        · rw [upd_ne hb, upd_ne hb]
          by_cases ha : b = a
          · subst ha
            rw [del_same, na]
          · rw [del_ne ha, upd_ne ha, upd_ne hb, upd_ne ha]
      rw [eh]
      intro b nb
      refine ⟨C, dx, rfl, rfl, ?_⟩
      have ne : dx ≠ b := fun z => by
        rw [← z, upd_same] at nb
        cases nb
      have G2 := Grow.new S1.s (p := dx) (o := .xd [("value", v)]) nd
      have G3 := Grow.new G2.s (p := b) (o := ExT C dx b) nb
      refine h b (.ref b) _ (upd (upd F1 dx (.xd [("value", v)])) b (ExT C dx b)) (by
        have q := G1.trans (Go.of (eff := false) (ρ := ρ1) (G2.trans G3))
        rwa [Bool.or_false] at q) (S1.grow (G2.trans G3)) ?_
      show Rep (gx X) _ (.exc b c d) _
      simp only [Rep]
      exact ⟨C, dx, v, trivial, hm, TC, upd_same, by rw [upd_ne ne, upd_same], r1.mono (G2.trans G3).f⟩
theorem sef_new {c : Str} {k : Nat} (C : Xd X.prog X.w X.K X.mg X.base c k) (hx0 : X.ex = []) (hr : Room (k + 1) X.A) (he : SE X fx W true ea e m) (hg : Gl X c := by rfl)
    (hdb : (c == ("__debug__" : Str)) = false := by decide) (hst : starEach [e] X.env = (false, eval e X.env) :: starEach [] X.env := by rfl) (hpl : (backTo pos (starEach [] X.env)).any (·.1) = false := by rfl) :
    SEf X fx W ea (.Call (.Name c p) [e] [] pos) (eNew c m) := by
  obtain ⟨Ca, fI, fd, ps, T, TC, iC, tI, F1, hb, hm⟩ := C.ex
  exact PE.imp (pe_new hx0 (pmk_oex T iC tI F1 hr hb .nil (fun _ _ _ _ _ _ _ h => by
    obtain ⟨_, _, _, _, _, _, _, _, _, _, _, _, z⟩ := h
    exact z.elim) hg hm (pa_cons he pa_nil hst) hdb hst hpl)) fun σ H Q h => tEf_new T TC hm h
theorem saf_last (he : SEf X fx W ea e fam) (hst : starEach [e] X.env = (false, eval e X.env) :: starEach [] X.env := by rfl) : SAf X fx W ea [e] (fun a => aCons (fam a) aNil) :=
  PA.imp (pa_cons he pa_nil hst) fun σ H Q h => by
    obtain ⟨F, ρ, S, h⟩ := h
    refine ⟨F, ρ, S, fun a => ?_⟩
    have h := h a
    dsimp only at h
    unfold aCons M.bind at h
    cases e1 : fam a ρ with
    | bad => rw [e1] at h; exact h
    | exn c x r => rw [e1] at h; exact h
    | ok d ρ1 =>
      rw [e1] at h
      exact fun v H1 F1 G1 S1 r1 => h [v] H1 F1 G1 S1 ⟨v, [], rfl, r1, rfl⟩
theorem saf_cons (he : SE X fx W true ea e m) (hr : SAf X fx W eb es fal) (hst : starEach (e :: es) X.env = (false, eval e X.env) :: starEach es X.env := by rfl) : SAf X fx W (ea || eb) (e :: es) (fun a => aCons m (fal a)) :=
  PA.imp (pa_cons he hr hst) fun σ H Q h => by
    obtain ⟨F, ρ, S, h⟩ := h
    refine ⟨F, ρ, S, ?_⟩
    dsimp only at h
    unfold aCons M.bind at h
    cases e1 : m ρ with
    | bad => have h := h (0 : Nat); rw [e1] at h; exact h
    | exn c x r => have h := h (0 : Nat); rw [e1] at h; exact h
    | ok d ρ1 =>
      rw [e1] at h
      intro v H1 F1 G1 S1 r1
      refine ⟨F1, ρ1, S1, fun a => ?_⟩
      have h := h a
      dsimp only at h
      cases e2 : fal a ρ1 with
      | bad => rw [e2] at h; exact h
      | exn c x r => rw [e2] at h; exact xst G1 h
      | ok ds ρ2 =>
        rw [e2] at h
        exact fun vs H2 F2 G2 S2 r2 => h (v :: vs) H2 F2 (G1.trans G2) S2 ⟨v, vs, rfl, Rep.mono G2.f r1, r2⟩
theorem sef_lst (h : SAf X fx W ea es fal) : SEf X fx W ea (.List es pos) (fun a => eN mkLst (fal a)) := PE.imp (pe_lst h) fun σ H Q h => by
  obtain ⟨F, ρ, S, h⟩ := h
  refine ⟨F, ρ, S, fun a => ?_⟩
  have h := h a
  dsimp only at h
  unfold eN M.bind at h
  cases e1 : fal a ρ with
  | bad => rw [e1] at h; exact h
  | exn c x r1 => rw [e1] at h; exact h
  | ok ds ρ1 =>
    rw [e1] at h
    intro vs H1 F1 G1 S1 r1
    dsimp only [M.lift, mkLst] at h
    by_cases q : ds.length ≤ 16777216
    · rw [if_pos q] at h
      refine ⟨by rw [r1.length, sizeLine_eq]; exact q, fun p hp => new_lst S1.s r1.rep (fun v H2 F2 G2 r2 => ?_) hp⟩
      exact h v H2 F2 (by
        have q := G1.trans (Go.of (eff := false) (ρ := ρ1) G2)
        rwa [Bool.or_false] at q) (S1.grow G2) r2
    · rw [if_neg q] at h; exact h.elim
theorem tEf_callO {s n : Nat} {fn : Fn} {Q : VK} {g : Gx} (hn : ∀ a ρ ds ρ', fal a ρ = .ok ds ρ' → ds.length = n) (h : tEf g fx W true (fun a => eCallO fn s (fal a)) σ H Q) : tCallS (spOf g [0] .cl (n + 1) fn) (WE W) (tCons (tVar s) (tAf g fx W ea fal)) σ H Q := by
  obtain ⟨F, ρ, S, h⟩ := h
  have hz := h (0 : Nat)
  dsimp only at hz
  unfold eCallO at hz
  cases e0 : ρ[s]? with
  | none => rw [e0] at hz; exact hz.elim
  | some x =>
    cases x with
    | no => rw [e0] at hz; exact hz.elim
    | cl d => rw [e0] at hz; exact hz.elim
    | ow d0 =>
      clear hz
      obtain ⟨a, ea', _, _, _⟩ := S.ow s d0 e0
      refine ⟨.ref a, ea', F, ρ, S, fun b => ?_⟩
      have h := h b
      dsimp only at h
      unfold eCallO at h
      rw [e0] at h
      dsimp only at h
      cases e1 : fal b ρ with
      | bad => rw [e1] at h; exact h
      | exn c x r1 => rw [e1] at h; exact h
      | ok ds ρ1 =>
        rw [e1] at h
        dsimp only at h
        intro vs H1 F1 G1 S1 r1
        cases e2 : ρ1[s]? with
        | none => rw [e2] at h; exact h.elim
        | some x =>
          rw [e2] at h
          cases x with
          | no => exact h.elim
          | cl d => exact h.elim
          | ow d =>
            dsimp only at h
            obtain ⟨b', eb, fb, ob, _⟩ := S1.ow s d e2
            rw [ea'] at eb
            cases eb
            have AA : Args g [0] F1 H1 (d :: ds) (.ref a :: vs) := by
              refine ⟨S1.s, by simp [r1.length], fun i e hi he => ?_, fun i e hi he => ?_, fun i j c hi hj _ _ => ?_, fun i hi => ?_⟩
              · have z : i = 0 := by simpa using hi
                subst z
                cases he
                exact ⟨a, rfl, fb, ob⟩
              · cases i with
                | zero => exact absurd (by simp) hi
                | succ i =>
                  obtain ⟨v, e1, r⟩ := r1.rep.get (i := i) (d := e) (by simpa using he)
                  exact ⟨v, by simpa using e1, r⟩
              · have z1 : i = 0 := by simpa using hi
                have z2 : j = 0 := by simpa using hj
                rw [z1, z2]
              · have z1 : i = 0 := by simpa using hi
                subst z1
                simp
            refine ⟨F1, d :: ds, AA, by rw [List.length_cons, hn _ _ _ _ e1], ?_⟩
            cases e3 : fn (d :: ds) with
            | bad => rw [e3] at h; exact h.elim
            | any f => rw [e3] at h; exact h.elim
            | ok r outs =>
              rw [e3] at h
              match outs, h with
              | [d'], h =>
                intro v H' F' A r'
                obtain ⟨S2, G2⟩ := S1.handed e2 ea' rfl A
                exact h v H' F' (by
                  have q := G1.trans G2
                  rwa [Bool.or_true] at q) S2 r'
              | [], h => exact h.elim
              | _ :: _ :: _, h => exact h.elim
            | exn c x outs =>
              rw [e3] at h
              match outs, h with
              | [d'], h =>
                intro cls dd H' F' A r'
                obtain ⟨S2, G2⟩ := S1.handed e2 ea' rfl A
                exact h cls dd H' F' (G1.trans G2).up S2 r'
              | [], h => exact h.elim
              | _ :: _ :: _, h => exact h.elim
theorem aCons_lenf {m : Addr → M D} {fal : Addr → M (List D)} {n : Nat} (h : ∀ a ρ ds ρ', fal a ρ = .ok ds ρ' → ds.length = n) : ∀ a ρ ds ρ', aCons (m a) (fal a) ρ = .ok ds ρ' → ds.length = n + 1 := fun a => aCons_len (h a)
theorem sef_callO (s : Nat) {x y : Str} {k n : Nat} {fn : Fn} {py : Pos} (C : Fd X.prog X.w X.K X.mg X.base x [0] .cl (n + 1) k fn) (hr : RoomG k X.A) (tk : Takes X W) (ha : SAf X fx W ea es fal) (hn : ∀ a ρ ds ρ', fal a ρ = .ok ds ρ' → ds.length = n) (hg : Gl X x := by rfl)
    (hN : X.N[s]? = some y := by rfl) (hv : Vis X.env.scope y := by first | exact Or.inl rfl | exact Or.inr (Or.inl rfl) | exact Or.inr (Or.inr rfl)) (hd : (y == ("__debug__" : Str)) = false := by decide) (hcd : (y == ("__classdict__" : Str)) = false := by decide)
    (hdb : (x == ("__debug__" : Str)) = false := by decide) (he : starEach (.Name y py :: es) X.env = (false, eval (.Name y py) X.env) :: starEach es X.env := by rfl) (hpl : (backTo pos (starEach es X.env)).any (·.1) = false := by rfl) :
    SEf X fx W true (.Call (.Name x p) (.Name y py :: es) [] pos) (fun a => eCallO fn s (fal a)) := by
  obtain ⟨f, fd, ps, F, hm, hk, hb⟩ := C.ex
  exact PE.imp (pe_callG F hr hg hm hk hb (fun σ => passAt tk σ) (pa_cons (pv s hN hv hd hcd) ha he) hdb he hpl) fun σ H Q q => tEf_callO hn q
/-- x = .., whatever the place -/
def sAny (f : Addr → MS) : MS := fun ρ => .any fun a => f a ρ
theorem ssf_asg {is : List Nat} {t : D → Rho → R Rho} {tg : Expr} (he : SEf X fx W ea e fam) (hg : SG X fx is tg t) (ht : TgOk is t := by first | exact tgName_ok | exact tgTup_ok) (hs : swapsWithSole [tg] e pos.line X.env = pure false := by rfl) (hw : swappedStores [tg] e X.env = pure none := by rfl)
    (h1 : (assignEach [tg] X.env).map (·.2) = [assign tg X.env] := by rfl) : SS X fx W (.Assign [tg] e pos) (sAny fun a => sAsg (fam a) t) := PS.imp (ps_asg he hg hs hw h1) fun E σ H h => by
  obtain ⟨F, ρ, S, h⟩ := h
  refine ⟨F, ρ, S, fun a => ?_⟩
  have h : sPost (gx X) fx W E σ F H ρ (sAsg (fam a) t ρ) := h a
  unfold sAsg sDo at h
  cases e1 : fam a ρ with
  | bad => rw [e1] at h; exact h
  | exn c x r =>
    rw [e1] at h
    exact xgs h
  | ok d ρ1 =>
    rw [e1] at h
    intro v H1 F1 G1 S1 r1
    refine ⟨F1, ρ1, d, S1, r1, ?_⟩
    dsimp only [sTo] at h
    cases e2 : t d ρ1 with
    | bad => rw [e2] at h; exact h
    | ok ρ2 =>
      rw [e2] at h
      exact fun σ' S' T N U => h σ' H1 F1 (G1.gs.trans (Gs.to N T (ht d ρ1 ρ2 e2))) S'
end
end DL

set_option Elab.async false
set_option linter.all false
set_option maxRecDepth 100000
set_option maxHeartbeats 4000000
namespace DL
open PySem PySem.Spec PyProof.Rows L2
/-! ### constants of the top -/
theorem vals_strs2 : ∀ ys : List (Str × Tok), Vals (ys.map fun p => V.str p.1) (ys.map fun p => Value.str p.1 p.2)
  | [] => .nil
  | p :: ys => .cons ⟨p.2, rfl⟩ (vals_strs2 ys)
theorem rep_strs2 {g : Gx} {F : Hp} : ∀ ys : List (Str × Tok), RepL g F (ys.map fun p => D.str p.1) (ys.map fun p => V.str p.1)
  | [] => RepL.nil
  | p :: ys => RepL.cons (by simp only [Rep]) (rep_strs2 ys)
/-- a tuple of written texts -/
theorem glob_strs {K : PySem.W.Frag} {mg : Str → Option Value} {x : Str} {a : Addr} {dd : Option Addr} {n : Nat} {sl : Array (Option Value)} (ys : List (Str × Tok)) (hm : mg x = some (.ref a))
    (h : K.lookup a = some ⟨.type "tuple", dd, .seq (ys.map fun p => Value.str p.1 p.2).toArray n, sl⟩) (hz : ys.length ≤ sizeLine) : ∃ v u, mg x = some u ∧ RelV v u ∧ ∀ F, Rep ⟨K, mg⟩ F (.tup (ys.map fun p => D.str p.1)) v :=
  ⟨.ref a, .ref a, hm, rfl, fun F => by
    simp only [Rep]
    exact ⟨a, ys.map fun p => V.str p.1, rfl, .inr ⟨_, _, _, h, rfl, rfl, by simpa using hz, by simpa using vals_strs2 ys⟩, rep_strs2 ys⟩⟩
theorem glob_str {K : PySem.W.Frag} {mg : Str → Option Value} {x y : Str} {t : Tok} (hm : mg x = some (.str y t)) : ∃ v u, mg x = some u ∧ RelV v u ∧ ∀ F, Rep ⟨K, mg⟩ F (.str y) v := ⟨.str y, .str y t, hm, ⟨t, rfl⟩, fun F => by simp only [Rep]⟩
theorem glob_int {K : PySem.W.Frag} {mg : Str → Option Value} {x : Str} {i : Int} {t : Tok} (hm : mg x = some (.int i t)) : ∃ v u, mg x = some u ∧ RelV v u ∧ ∀ F, Rep ⟨K, mg⟩ F (.int i) v := ⟨.int i, .int i t, hm, ⟨t, rfl⟩, fun F => by simp only [Rep]⟩
end DL

set_option Elab.async false
set_option linter.all false
set_option maxRecDepth 100000
set_option maxHeartbeats 4000000
namespace DL
open PySem PySem.Spec PyProof.Rows L2
/-! ### dicts are read -/
def dget (kvs : List (Key × D)) (k : Key) : Option D := (kvs.find? fun kv => decide (kv.1 = k)).map (·.2)
def keyOf : D → Option Key
  | .int i => some (.inl i)
  | .str s => some (.inr s)
  | _ => none
def opCGet (kvs : List (Key × D)) (y : D) : R D := match keyOf y with
  | some k => (match dget kvs k with
    | some d => .ok d
    | none => .bad)
  | none => .bad
def opCIn (kvs : List (Key × D)) (y : D) : R D := match keyOf y with
  | some k => .ok (.bl (dget kvs k).isSome)
  | none => .bad
def opCNotIn (kvs : List (Key × D)) (y : D) : R D := match keyOf y with
  | some k => .ok (.bl (!(dget kvs k).isSome))
  | none => .bad
def opDGet (x y : D) : R D := match x with
  | .dic kvs => opCGet kvs y
  | _ => .bad
def opDIn (y x : D) : R D := match x with
  | .dic kvs => opCIn kvs y
  | _ => .bad
def opDNotIn (y x : D) : R D := match x with
  | .dic kvs => opCNotIn kvs y
  | _ => .bad
section
variable {g : Gx} {F H : Hp}
theorem repK_val {k : Key} : ∀ {kvs : List (Key × D)} {vs : List (Key × V)}, RepK g F kvs vs → match dget kvs k with
    | some d => ∃ v, valV vs k = some v ∧ Rep g F d v
    | none => valV vs k = none
  | [], vs, h => by
    simp only [RepK] at h
    subst h
    exact valV_nil
  | (k0, x) :: kvs, vs, h => by
    simp only [RepK] at h
    obtain ⟨v, r, rfl, h1, h2⟩ := h
    by_cases e : k0 = k
    · have q : dget ((k0, x) :: kvs) k = some x := by simp [dget, List.find?_cons, e]
      rw [q]
      exact ⟨v, valV_pos e, h1⟩
    · have q : dget ((k0, x) :: kvs) k = dget kvs k := by simp [dget, List.find?_cons, e]
      rw [q, valV_neg (p := (k0, v)) e]
      exact repK_val h2
theorem keyOf_w {d : D} {k : Key} {v : V} (e : keyOf d = some k) (r : WRep g F H d v) : v = kV k := by
  cases d with
  | int i => cases e; exact w_int r
  | str s => cases e; exact w_str r
  | _ => cases e
end
def rDGet : R2 := fun x y H Q => ∃ a v, x = .ref a ∧ DGet H a y (some v) ∧ Q v H
def rDIn (neg : Bool) : R2 := fun y x H Q => ∃ a o, x = .ref a ∧ DGet H a y o ∧ Q (.bl (if neg then !o.isSome else o.isSome)) H
section
variable {g : Gx}
theorem s_dget : Snd2 g rDGet opDGet := by
  intro F H dx dy x y d Q s rx ry e G
  cases dx with
  | dic kvs =>
    obtain ⟨a, vs, rfl, ha, l⟩ := w_dic s rx
    dsimp only [opDGet, opCGet] at e
    cases q : keyOf dy with
    | none => rw [q] at e; cases e
    | some k =>
      rw [q] at e
      dsimp only at e
      have r := repK_val (k := k) l
      cases q2 : dget kvs k with
      | none => rw [q2] at e; cases e
      | some d2 =>
        rw [q2] at e r
        cases e
        obtain ⟨v, e1, r1⟩ := r
        exact ⟨a, v, rfl, .inl ⟨vs, k, ha, keyOf_w q ry, e1.symm⟩, G.val s r1⟩
  | _ => cases e
theorem dic_has {kvs : List (Key × D)} {vs : List (Key × V)} {F : Hp} {k : Key} (l : RepK g F kvs vs) : (dget kvs k).isSome = (valV vs k).isSome := by
  have r := repK_val (k := k) l
  cases q2 : dget kvs k with
  | none => rw [q2] at r; rw [r]; rfl
  | some d => rw [q2] at r; obtain ⟨v, e, _⟩ := r; rw [e]; rfl
theorem s_din : Snd2 g (rDIn false) opDIn := by
  intro F H dy dx y x d Q s ry rx e G
  cases dx with
  | dic kvs =>
    obtain ⟨a, vs, rfl, ha, l⟩ := w_dic s rx
    dsimp only [opDIn, opCIn] at e
    cases q : keyOf dy with
    | none => rw [q] at e; cases e
    | some k =>
      rw [q] at e
      cases e
      refine ⟨a, valV vs k, rfl, .inl ⟨vs, k, ha, keyOf_w q ry, rfl⟩, ?_⟩
      rw [← dic_has l]
      exact G.bl s
  | _ => cases e
theorem s_dnotIn : Snd2 g (rDIn true) opDNotIn := by
  intro F H dy dx y x d Q s ry rx e G
  cases dx with
  | dic kvs =>
    obtain ⟨a, vs, rfl, ha, l⟩ := w_dic s rx
    dsimp only [opDNotIn, opCNotIn] at e
    cases q : keyOf dy with
    | none => rw [q] at e; cases e
    | some k =>
      rw [q] at e
      cases e
      refine ⟨a, valV vs k, rfl, .inl ⟨vs, k, ha, keyOf_w q ry, rfl⟩, ?_⟩
      rw [← dic_has l]
      exact G.bl s
  | _ => cases e
end
section
variable {X : Cx}
theorem op_dIn (hu : X.A.units + 64 < cLine) : OpR X (compareOp .In) (rDIn false) := by
  intro pins s σ H x y v u Q I rx ry h
  obtain ⟨a, o, rfl, g, q⟩ := h
  cases ry
  exact d_in (by omega) I g rx fun s' I' => ⟨.bl o.isSome, H, I', rfl, q⟩
theorem op_dNotIn (hu : X.A.units + 64 < cLine) : OpR X (compareOp .NotIn) (rDIn true) := by
  intro pins s σ H x y v u Q I rx ry h
  obtain ⟨a, o, rfl, g, q⟩ := h
  cases ry
  exact d_notIn (by omega) I g rx fun s' I' => ⟨.bl (!o.isSome), H, I', rfl, q⟩
end
section
variable {X : Cx} {fx : Fx} {W : WX} {ca cb ea eb : Bool} {a b : Expr} {ma mb : M D} {pos : Pos}
theorem se_dget (hu : X.A.units + 64 < cLine) (ha : SE X fx W ca ea a ma) (hb : SE X fx W cb eb b mb) (hs : NoSl b := by exact (fun _ _ => rfl)) (hc : (!eb || ca) = true := by rfl) : SE X fx W true (ea || eb) (.Subscript a b pos) (e2 opDGet ma mb) :=
  PE.imp (pe_dget (by omega) ha hb hs) fun σ H Q h => tE_e2 (r := rDGet) s_dget hc h
end

/-! ### a dict of the module's top -/
def DcC (w : World) (K : PySem.W.Frag) (mg : Str → Option Value) (x : Str) (kvs : List (Key × D)) : Prop :=
  ∃ (a : Addr) (o : Obj) (es : Array DictEntry) (ep : Nat) (ws : List (Key × V)) (vs : List (Key × Value)), mg x = some (.ref a) ∧ (a == sysModules) = false ∧ K.lookup a = some o ∧ o.ExactDict ∧ o.data = .dict es ep ∧ ws.length ≤ sizeLine ∧ KV ws vs ∧
    (∀ F, RepK ⟨K, mg⟩ F kvs ws) ∧ ∀ P : Program, KeysOf (mixKind P w) es ∧ Pairs (mixKind P w) es.toList vs ∧ (vs.map (·.1)).Nodup
/-- the pairs -/
def ItC (ws : List (Key × V)) : It :=
  ⟨fun i _ => i < ws.length, fun i H x H' => ∃ T k v, ws[i]? = some (k, v) ∧ x = .ref T ∧ H T = none ∧ H' = upd H T (.tup [kV k, v]), fun i _ => ws.length ≤ i⟩
def pairsD (kvs : List (Key × D)) : List D := kvs.map fun p => .tup [keyD p.1, p.2]
theorem itC_rep {g : Gx} {F : Hp} {kvs : List (Key × D)} {ws : List (Key × V)} (r : RepK g F kvs ws) (hl : ws.length ≤ 16777216) : ItRep g (ItC ws) (pairsD kvs) F where
  go := fun i H' F' f s hi => by
    show i < ws.length
    rw [r.length]
    simpa [pairsD] using hi
  yld := fun i H' F' x H'' d f s e y => by
    obtain ⟨T, k, v, hk, rfl, hT, rfl⟩ := y
    unfold pairsD at e
    rw [List.getElem?_map] at e
    cases q : kvs[i]? with
    | none => rw [q] at e; cases e
    | some p =>
      rw [q] at e
      cases e
      obtain ⟨w, hw, r1⟩ := r.get (k := p.1) (d := p.2) q
      rw [hk] at hw
      cases hw
      refine ⟨_, Grow.new s hT (o := .tup [kV p.1, v]), ?_⟩
      simp only [Rep]
      exact ⟨T, _, rfl, SqT.of upd_same, RepL.cons keyD_rep (RepL.cons (r1.mono (f.trans (Grow.new s hT).f)) RepL.nil)⟩
  stop := fun i H' F' f s hi => by
    show ws.length ≤ i
    rw [r.length]
    simpa [pairsD] using hi
  len := by
    have := r.length
    simp [pairsD]
    omega
section
variable {X : Cx} {pins : List (Addr × Obj)} {σ : L2.St} {H : Hp} {s : Shared} {a : Addr} {o : Obj} {es : Array DictEntry} {ep : Nat} {vs : List (Key × Value)}
theorem atK (I : Inv X pins σ H s) (hk : X.K.lookup a = some o) (hx : o.ExactDict) (hd : o.data = .dict es ep) (hp : KeysOf (mixKind X.prog X.w) es ∧ Pairs (mixKind X.prog X.w) es.toList vs ∧ (vs.map (·.1)).Nodup) :
    s.heap.DictAt (mixKind X.prog X.w) a vs ep := ⟨o, es, I.kIn a o hk, hx, hd, hp⟩
end
theorem turn_itemsK {P : Program} {w : World} {K : PySem.W.Frag} {a : Addr} {o : Obj} {es : Array DictEntry} {ep : Nat} {ws : List (Key × V)} {vs : List (Key × Value)} {elts : List Expr} {kk : Nat} {tpos : Pos} (z : Addr)
    (hk : K.lookup a = some o) (hx : o.ExactDict) (hd : o.data = .dict es ep) (rel : KV ws vs) (hp : KeysOf (mixKind P w) es ∧ Pairs (mixKind P w) es.toList vs ∧ (vs.map (·.1)).Nodup) :
    Turn P w K (.Tuple elts kk tpos) (ItC ws) [z] z (fun i h => ∃ k0 v0, IsItemIter h z a i vs.length ep k0 v0) where
  mem := List.mem_singleton.mpr rfl
  obj := fun i h st b hb => by
    rw [List.mem_singleton.mp hb]
    exact let ⟨_, _, e⟩ := st; ⟨_, e, fun v q => nomatch q⟩
  keep := fun i h h' st k => let ⟨k0, v0, e⟩ := st; ⟨k0, v0, k z (List.mem_singleton.mpr rfl) _ e⟩
  item := by
    rintro X rfl rfl rfl hc i pins s σ H E I hf ⟨k0, v0, it0⟩ (hi : i < ws.length)
    have dict := atK I hk hx hd hp
    have there : ws[i]? = some ws[i] := List.getElem?_eq_getElem hi
    generalize ws[i] = kv at there
    cases kv with
    | mk k v =>
      obtain ⟨u, hu, ru⟩ := kv_get rel there
      have zlt : z < s.heap.objs.size := Heap.lt_size it0
      refine wpAny_pyNext_items_item it0 dict hu fun key h' hkey ho hT hz kept => ⟨_, rfl, wpAny_letOwnedTupleGo_items (s := { s with heap := h' }) ho fun h'' it1 sb => ?_⟩
      have tup : h''.get? s.heap.objs.size = some { cls := .type "tuple", data := .seq #[key, u] } := (sb.2 _ (Nat.ne_of_gt zlt)).trans hT
      have fresh := I.hok.fresh (Nat.le_refl s.heap.objs.size)
      have new : ObjOk X.prog X.w (upd H s.heap.objs.size (.tup [kV k, v])) h'' s.heap.objs.size (.tup [kV k, v]) := ⟨by show 2 ≤ sizeLine; decide, [key, u], .cons (relV_key (show keyIs k key = true from hkey)) (.cons ru .nil), _, tup, rfl, _, rfl⟩
      refine ⟨.ref s.heap.objs.size, upd H s.heap.objs.size (.tup [kV k, v]), I.turnedNew (t' := s.toks) (ch := [z]) (fun b ob hb e => ?_) hf (Nat.le_refl _) new, rfl, ⟨_, k, v, there, rfl, fresh, rfl⟩, ⟨key, u, it1⟩, fun b hb => ?_⟩
      · have hb : b ≠ z := fun q => hb (q ▸ List.mem_singleton.mpr rfl)
        exact (sb.2 b hb).trans (kept b ob hb e)
      · rw [List.mem_singleton.mp hb, upd_ne (Nat.ne_of_lt zlt)]
        exact (hf z (List.mem_singleton.mpr rfl)).1
  done := by
    rintro X rfl rfl rfl hc i pins s σ H E I hf ⟨k0, v0, it0⟩ (hi : ws.length ≤ i)
    have f := hf z (List.mem_singleton.mpr rfl)
    have hl : ws.length = vs.length := Paired.length rel
    exact wpAny_pyNext_items_end (I.ok.hd hc) it0 (atK I hk hx hd hp) (List.getElem?_eq_none (by omega)) fun h' eb => ⟨rfl, I.turned (t' := s.toks) (fun b ob hb e => eb b ob hb e) f.1 f.2.1 f.2.2.2.1 f.2.2.2.2.1 f.2.2.2.2.2⟩
  self := fun A i s Q E st h => let ⟨_, _, e⟩ := st; PySem.W.kcp_self e h
section
variable {X : Cx} {fx : Fx} {W : WX} {ca ea : Bool} {b : Expr} {mb : M D} {x : Str} {kvs : List (Key × D)} {pos p apos cpos tpos : Pos} {elts : List Expr} {kk : Nat}
def rCGet (ws : List (Key × V)) : V → Hp → VK → Prop := fun y H Q => ∃ k v, y = kV k ∧ valV ws k = some v ∧ Q v H
def rCIn (neg : Bool) (ws : List (Key × V)) : V → Hp → VK → Prop := fun y H Q => ∃ k, y = kV k ∧ Q (.bl (if neg then !(valV ws k).isSome else (valV ws k).isSome)) H
theorem s_cget {g : Gx} {ws : List (Key × V)} (l : ∀ F, RepK g F kvs ws) : Snd1 g (rCGet ws) (opCGet kvs) := by
  intro F H dx y d Q s ry e G
  unfold opCGet at e
  cases q : keyOf dx with
  | none => rw [q] at e; cases e
  | some k =>
    rw [q] at e
    dsimp only at e
    have r := repK_val (k := k) (l F)
    cases q2 : dget kvs k with
    | none => rw [q2] at e; cases e
    | some d2 =>
      rw [q2] at e r
      cases e
      obtain ⟨v, e1, r1⟩ := r
      exact ⟨k, v, keyOf_w q ry, e1, G.val s r1⟩
theorem s_cin {g : Gx} {ws : List (Key × V)} (l : ∀ F, RepK g F kvs ws) : Snd1 g (rCIn false ws) (opCIn kvs) := by
  intro F H dx y d Q s ry e G
  unfold opCIn at e
  cases q : keyOf dx with
  | none => rw [q] at e; cases e
  | some k =>
    rw [q] at e
    cases e
    refine ⟨k, keyOf_w q ry, ?_⟩
    rw [← dic_has (l F)]
    exact G.bl s
theorem s_cnotIn {g : Gx} {ws : List (Key × V)} (l : ∀ F, RepK g F kvs ws) : Snd1 g (rCIn true ws) (opCNotIn kvs) := by
  intro F H dx y d Q s ry e G
  unfold opCNotIn at e
  cases q : keyOf dx with
  | none => rw [q] at e; cases e
  | some k =>
    rw [q] at e
    cases e
    refine ⟨k, keyOf_w q ry, ?_⟩
    rw [← dic_has (l F)]
    exact G.bl s
theorem se_cget (T : DcC X.w X.K X.mg x kvs) (hb : SE X fx W ca ea b mb) (hg : Gl X x := by rfl) (hs : NoSl b := by exact (fun _ _ => rfl)) (hdb : (x == ("__debug__" : Str)) = false := by decide) :
    SE X fx W true ea (.Subscript (.Name x p) b pos) (e1 (opCGet kvs) mb) := by
  obtain ⟨a, o, es, ep, ws, vs, hm, hz, hk, hx, hd, hl, rel, rep, hp⟩ := T
  refine PE.imp (t := tUn (rCGet ws) (tE (gx X) fx W ca ea mb)) ⟨fun pins s σ H Q I h => ?_⟩ fun σ H Q h => tE_e1 (s_cget rep) h
  refine subD_of PySem.F.slot_dict_getitem.lookup hs (thn ((pe_glob (v := V.ref a) hg hm rfl hdb).run pins s σ H (fun x H1 => x = .ref a ∧ tUn (rCGet ws) (tE (gx X) fx W ca ea mb) σ H1 Q) I ⟨rfl, h⟩) fun u s1 ⟨x, H1, I1, rx, ex, q1⟩ => thn (hb.run pins s1 σ H1 _ I1 q1) fun iv s2 ⟨y, H2, I2, ry, k, v, ey, e2, q2⟩ => ?_)
  subst ex ey
  obtain rfl : u = Value.ref a := rx
  have dd := (atK I2 hk hx hd (hp X.prog)).dictOf
  obtain ⟨w', hw, rw'⟩ := RelO.some_of (v := v) (o := valueAt vs k) (by rw [← e2]; exact rel.val k)
  exact ⟨dd.typeIs, wpAny_getItem_of (kV_is ry) dd.mapOf hw ⟨v, H2, I2.tok _, rw', q2⟩⟩
theorem op_cIn {neg : Bool} {a : Addr} {o : Obj} {es : Array DictEntry} {ep : Nat} {ws : List (Key × V)} {vs : List (Key × Value)} (hz : (a == sysModules) = false) (hk : X.K.lookup a = some o) (hx : o.ExactDict) (hd : o.data = .dict es ep) (rel : KV ws vs)
    (hp : ∀ P : Program, KeysOf (mixKind P X.w) es ∧ Pairs (mixKind P X.w) es.toList vs ∧ (vs.map (·.1)).Nodup) : OpR X (compareOp (if neg then .NotIn else .In)) (fun y x H Q => x = .ref a ∧ rCIn neg ws y H Q) := by
  intro pins s σ H x y v u Q I rx ry h
  obtain ⟨rfl, k, rfl, q⟩ := h
  cases ry
  have dd := (atK I hk hx hd (hp X.prog)).dictOf
  cases neg with
  | false =>
    refine wpAny_in_of (kV_is rx) hz dd.mapOf ⟨_, H, I.tok _, ?_, q⟩
    show _ = _
    rw [(rel.val k).isSome_eq]
    rfl
  | true =>
    refine wpAny_notIn_of (kV_is rx) hz dd.mapOf ⟨_, H, I.tok _, ?_, q⟩
    show _ = _
    rw [(rel.val k).isSome_eq]
    rfl
theorem tE_cin {g : Gx} {σ : L2.St} {H : Hp} {Q : VK} {neg : Bool} {a : Addr} {ws : List (Key × V)} {op : D → R D} (hs : Snd1 g (rCIn neg ws) op) (h : tE g fx W true ea (e1 op mb) σ H Q) :
    tOp (fun y x H Q => x = .ref a ∧ rCIn neg ws y H Q) (tE g fx W ca ea mb) (tC (.ref a)) σ H Q := by
  have q : tUn (rCIn neg ws) (tE g fx W ca ea mb) σ H Q := tE_e1 hs h
  obtain ⟨F, ρ, S, q⟩ := q
  refine ⟨F, ρ, S, ?_⟩
  cases e : mb ρ with
  | bad => rw [e] at q; exact q
  | exn c x r => rw [e] at q; exact q
  | ok d r =>
    rw [e] at q
    exact fun v H' F' G S' R => ⟨rfl, q v H' F' G S' R⟩
theorem se_cin (T : DcC X.w X.K X.mg x kvs) (hb : SE X fx W ca ea b mb) (hg : Gl X x := by rfl) (hm' : behindInMarks .In (.Name x p) = false := by rfl) (hdb : (x == ("__debug__" : Str)) = false := by decide) :
    SE X fx W true ea (.Compare b [.In] [.Name x p] pos) (e1 (opCIn kvs) mb) := by
  obtain ⟨a, o, es, ep, ws, vs, hm, hz, hk, hx, hd, hl, rel, rep, hp⟩ := T
  exact PE.imp (pe_cmpR (op_cIn (neg := false) hz hk hx hd rel hp) hb (pe_glob (v := V.ref a) hg hm rfl hdb) hm') fun σ H Q h => tE_cin (s_cin rep) h
theorem se_cnotIn (T : DcC X.w X.K X.mg x kvs) (hb : SE X fx W ca ea b mb) (hg : Gl X x := by rfl) (hm' : behindInMarks .NotIn (.Name x p) = false := by rfl) (hdb : (x == ("__debug__" : Str)) = false := by decide) :
    SE X fx W true ea (.Compare b [.NotIn] [.Name x p] pos) (e1 (opCNotIn kvs) mb) := by
  obtain ⟨a, o, es, ep, ws, vs, hm, hz, hk, hx, hd, hl, rel, rep, hp⟩ := T
  exact PE.imp (pe_cmpR (op_cIn (neg := true) hz hk hx hd rel hp) hb (pe_glob (v := V.ref a) hg hm rfl hdb) hm') fun σ H Q h => tE_cin (s_cnotIn rep) h
theorem sb_cin (T : DcC X.w X.K X.mg x kvs) (hb : SE X fx W ca ea b mb) (hg : Gl X x := by rfl) (hm' : behindInMarks .In (.Name x p) = false := by rfl) (hdb : (x == ("__debug__" : Str)) = false := by decide) :
    SB X fx W ea (.Compare b [.In] [.Name x p] pos) (bOf (e1 (opCIn kvs) mb)) := by
  obtain ⟨a, o, es, ep, ws, vs, hm, hz, hk, hx, hd, hl, rel, rep, hp⟩ := T
  exact PT.imp (pt_cmpR (op_cIn (neg := false) hz hk hx hd rel hp) hb (pe_glob (v := V.ref a) hg hm rfl hdb) hm') fun σ H Q h => by
    have q : tTest (tE (gx X) fx W true ea (e1 (opCIn kvs) mb)) σ H Q := tB_of h
    exact tE_cin (s_cin rep) q
theorem sb_cnotIn (T : DcC X.w X.K X.mg x kvs) (hb : SE X fx W ca ea b mb) (hg : Gl X x := by rfl) (hm' : behindInMarks .NotIn (.Name x p) = false := by rfl) (hdb : (x == ("__debug__" : Str)) = false := by decide) :
    SB X fx W ea (.Compare b [.NotIn] [.Name x p] pos) (bOf (e1 (opCNotIn kvs) mb)) := by
  obtain ⟨a, o, es, ep, ws, vs, hm, hz, hk, hx, hd, hl, rel, rep, hp⟩ := T
  exact PT.imp (pt_cmpR (op_cIn (neg := true) hz hk hx hd rel hp) hb (pe_glob (v := V.ref a) hg hm rfl hdb) hm') fun σ H Q h => by
    have q : tTest (tE (gx X) fx W true ea (e1 (opCNotIn kvs) mb)) σ H Q := tB_of h
    exact tE_cin (s_cnotIn rep) q
/-- for k, v in X.items(), of the top -/
def iPairs (kvs : List (Key × D)) : M (List D) := M.pure (pairsD kvs)
theorem si_citems (T : DcC X.w X.K X.mg x kvs) (hg : Gl X x := by rfl) (hdb : (x == ("__debug__" : Str)) = false := by decide) (hbase : attributeBase (.Name x p) "items" X.env (eval (.Name x p) X.env) = eval (.Name x p) X.env := by rfl) (hline : (apos.endLine == cpos.line) = true := by rfl) :
    SI X fx W false (.Tuple elts kk tpos) (.Call (.Attribute (.Name x p) "items" apos) [] [] cpos) (iPairs kvs) := by
  obtain ⟨a, o, es, ep, ws, vs, hm, hz, hk, hx, hd, hl, rel, rep, hp⟩ := T
  refine ⟨fun pins s σ H R I h => ?_⟩
  obtain ⟨F1, ρ, S, h⟩ := h
  refine wpAny_Call_method (T := "dict") (id := "dict.items") hbase rfl hline F.plainAttrs_dict F.slot_dict_items F.type_dict_items (thn ((pe_glob (v := V.ref a) hg hm rfl hdb).run pins s σ H (fun x H1 => x = .ref a ∧ H1 = H) I ⟨rfl, rfl⟩) fun u s1 ⟨x, H1, I1, rx, ex, eh⟩ => ?_)
  subst ex eh
  obtain rfl : u = Value.ref a := rx
  have dict := atK I1 hk hx hd (hp X.prog)
  have hlen : ws.length = vs.length := Paired.length rel
  refine ⟨dict.dictOf.typeIs, dict.dictOf.mapOf.noDict, ?_⟩
  have I2 : Inv X pins σ H1 { s1 with heap := s1.heap.push { cls := .type "dict_items", data := .fields #[.ref a] } } := I1.kept (t' := s1.toks) fun b ob q => Heap.get?_push_of_some _ q
  have q : R (ItC ws) H1 := h _ H1 F1 (Go.refl S.s) S (itC_rep (rep F1) (by rw [← sizeLine_eq]; exact hl))
  have walk : wpAny (model X.prog X.w) X.A (pyIter (.ref s1.heap.objs.size)) (PIE X pins σ (.Tuple elts kk tpos) R) X.xe { s1 with heap := s1.heap.push { cls := .type "dict_items", data := .fields #[.ref a] } } :=
    wpAny_pyIter_items (d := a) (knd := mixKind X.prog X.w) ⟨_, Heap.get?_push_size _ rfl, rfl, rfl⟩ (dict.push _) (pi_one (tk := s1.toks) I2 _ (turn_itemsK _ hk hx hd rel (hp X.prog)) ⟨.none, .none, Heap.get?_push_size _ rfl⟩ q)
  show wpAny _ _ (callWith cpos (.builtin "dict.items") [.ref a] [] []) _ X.xe s1
  exact method_meetsIn F.slot_dict_items F.entry_dict_items rfl (PySem.evalArgs_none ⟨rfl, dict.dictOf.typeIs, F.args_dict_items_1 _, _, meets_dict_items (mixKind X.prog X.w) a hz, ⟨vs, dict.dictOf⟩, walk⟩)
end
end DL

set_option Elab.async false
set_option linter.all false
set_option maxRecDepth 100000
set_option maxHeartbeats 4000000
namespace DL
open PySem PySem.Spec PyProof.Rows L2
/-! ### displays of dicts -/
/-- keys and values in turn -/
def pairUp : List D → Option (List (Key × D))
  | [] => some []
  | k :: d :: r => match keyOf k, pairUp r with
    | some k, some ps => some ((k, d) :: ps)
    | _, _ => none
  | _ => none
def mkDic (ds : List D) : R D := match pairUp ds with
  | some kvs => if kvs.length ≤ 15 ∧ (kvs.map (·.1)).Nodup then .ok (.dic kvs) else .bad
  | none => .bad
theorem mergeK_new : ∀ {more kvs : List (Key × V)}, ((kvs ++ more).map (·.1)).Nodup → mergeK kvs more = kvs ++ more
  | [], kvs, _ => (List.append_nil kvs).symm
  | p :: r, kvs, h => by
    have e : valV kvs p.1 = none := by
      cases q : valV kvs p.1 with
      | none => rfl
      | some v =>
        have : ∃ kv ∈ kvs, kv.1 = p.1 := by
          unfold valV at q
          obtain ⟨kv, h1, _⟩ := Option.map_eq_some_iff.mp q
          exact ⟨kv, List.mem_of_find?_eq_some h1, by simpa using List.find?_some h1⟩
        obtain ⟨kv, m, e⟩ := this
        rw [List.map_append, List.nodup_append] at h
        exact absurd e (h.2.2 _ (List.mem_map.mpr ⟨kv, m, rfl⟩) _ (List.mem_map.mpr ⟨p, List.mem_cons_self, rfl⟩))
    show mergeK (putK kvs p.1 p.2) r = _
    rw [putK_new p.2 e, mergeK_new (by simpa using h)]
    simp
theorem repK_keys {g : Gx} {F : Hp} : ∀ {kvs : List (Key × D)} {vs : List (Key × V)}, RepK g F kvs vs → vs.map (·.1) = kvs.map (·.1)
  | [], vs, h => by
    simp only [RepK] at h
    rw [h]
    rfl
  | (k, x) :: kvs, vs, h => by
    simp only [RepK] at h
    obtain ⟨v, r, rfl, h1, h2⟩ := h
    simp [repK_keys h2]
/-- what a reading of pairs has of the values in turn -/
def turns : List (V × V) → List V
  | [] => []
  | p :: r => p.1 :: p.2 :: turns r
theorem pairUp_rep {g : Gx} {F H : Hp} : ∀ {ps : List (V × V)} {ds : List D} {kvs : List (Key × D)}, VRL true g F H ds (turns ps) → pairUp ds = some kvs → ∃ vs : List (Key × V), ps = vs.map (fun kv => (kV kv.1, kv.2)) ∧ RepK g F kvs vs
  | [], [], kvs, _, e => by
    cases e
    exact ⟨[], rfl, by simp only [RepK]⟩
  | [], d :: ds, kvs, h, e => by
    obtain ⟨v, r, q, _⟩ := h
    cases q
  | p :: ps, [], kvs, h, e => by
    have h : turns (p :: ps) = [] := h
    cases h
  | p :: ps, [d], kvs, h, e => by cases e
  | p :: ps, k :: d :: ds, kvs, h, e => by
    obtain ⟨v, r, q, h1, v2, r2, q2, h2, h3⟩ := h
    cases q
    cases q2
    unfold pairUp at e
    cases e1 : keyOf k with
    | none => rw [e1] at e; cases e
    | some k' =>
      cases e2 : pairUp ds with
      | none => rw [e1, e2] at e; cases e
      | some kvs' =>
        rw [e1, e2] at e
        cases e
        obtain ⟨vs, rfl, rr⟩ := pairUp_rep h3 e2
        have hk : p.1 = kV k' := keyOf_w e1 (VR.w h1)
        refine ⟨(k', p.2) :: vs, by rw [List.map_cons, ← hk], ?_⟩
        simp only [RepK]
        exact ⟨_, _, rfl, h2, rr⟩
section
variable {X : Cx} {fx : Fx} {W : WX} {eff ea eb : Bool} {m : M (List D)} {pos : Pos}
theorem tA_mono {g : Gx} {ca : Bool} {σ : L2.St} {H : Hp} {Q Q' : List V → Hp → Prop} (h : tA g fx W ca ea m σ H Q) (k : ∀ v H', Q v H' → Q' v H') : tA g fx W ca ea m σ H Q' := by
  obtain ⟨F, ρ, S, h⟩ := h
  refine ⟨F, ρ, S, ?_⟩
  cases e1 : m ρ with
  | bad => rw [e1] at h; exact h
  | exn c x r1 => rw [e1] at h; exact h
  | ok d ρ1 =>
    rw [e1] at h
    exact fun v H' F' G S' R => k v H' (h v H' F' G S' R)
/-- the pairs of a display, by their values in turn -/
def SD (X : Cx) (fx : Fx) (W : WX) (eff : Bool) (pos : Pos) (ks : List (Option Expr)) (vs : List Expr) (m : M (List D)) : Prop :=
  ∃ trs, PPs X pos ks vs trs ∧ ∀ σ H (Q : List (V × V) → Hp → Prop), tA (gx X) fx W true eff m σ H (fun ws H' => ∀ ps, turns ps = ws → Q ps H') → tPairs trs σ H Q
theorem sd_nil : SD X fx W false pos [] [] aNil := ⟨[], pps_nil, fun σ H Q h => by
  have q := tA_nil h
  exact q [] rfl⟩
theorem sd_cons {k v : Expr} {ks : List (Option Expr)} {vs : List Expr} {mk mv : M D} (hk : SE X fx W true ea k mk) (hv : SE X fx W true eb v mv) (hr : SD X fx W eff pos ks vs m) :
    SD X fx W (ea || (eb || eff)) pos (some k :: ks) (v :: vs) (aCons mk (aCons mv m)) := by
  obtain ⟨trs, P, h⟩ := hr
  refine ⟨_, pps_cons hk hv P, fun σ H Q q => ?_⟩
  have q1 := tA_cons (ca := true) (cb := true) (by cases ea <;> cases eb <;> cases eff <;> rfl) q
  refine tE_mono q1 ?_
  intro x H1 q2
  have q3 := tA_cons (ca := true) (cb := true) (by cases eb <;> cases eff <;> rfl) q2
  refine tE_mono q3 ?_
  intro y H2 q4
  refine h σ H2 _ (tA_mono q4 ?_)
  intro ws H3 q5 ps e
  exact q5 ((x, y) :: ps) (by rw [← e]; rfl)
theorem tE_disp {trs : List (TE × TE)} {σ : L2.St} {H : Hp} {Q : VK} (hp : ∀ σ H (Q : List (V × V) → Hp → Prop), tA (gx X) fx W true eff m σ H (fun ws H' => ∀ ps, turns ps = ws → Q ps H') → tPairs trs σ H Q)
    (h : tE (gx X) fx W true eff (eN mkDic m) σ H Q) : tPLock (tDisp trs) σ H Q := by
  intro p hp0
  apply hp
  obtain ⟨F, ρ, S, h⟩ := h
  have G0 := Grow.big S.s hp0 (o := .dK [])
  have S0 := S.grow G0
  have no : ∀ (i : Nat) d, ρ[i]? = some (.ow d) → σ[i]? ≠ some (some (.ref p)) := S.ow_ne hp0
  refine ⟨F, ρ, S0, ?_⟩
  unfold eN M.bind at h
  cases e1 : m ρ with
  | bad => rw [e1] at h; exact h
  | exn c x r1 =>
    rw [e1] at h
    exact fun cls dd H' F' G S' R => h cls dd H' F' ((Go.of (eff := true) G0).trans G) S' R
  | ok ds ρ1 =>
    rw [e1] at h
    dsimp only [M.lift, mkDic] at h
    intro ws H' F' G S' R ps eps
    subst eps
    cases e2 : pairUp ds with
    | none => rw [e2] at h; exact h.elim
    | some kvs =>
      rw [e2] at h
      dsimp only at h
      by_cases c : kvs.length ≤ 15 ∧ (kvs.map (·.1)).Nodup
      · rw [if_pos c] at h
        obtain ⟨vs, rfl, rr⟩ := pairUp_rep R e2
        have hk := repK_keys rr
        have hl : vs.length = kvs.length := rr.length
        refine ⟨G.k p _ upd_same no, vs, rfl, by omega, ?_⟩
        have em : mergeK [] vs = vs := mergeK_new (by rw [List.nil_append, hk]; exact c.2)
        rw [em]
        refine .inr ⟨p, .dK vs, upd_same, trivial, fun od => ?_⟩
        rw [upd_upd]
        have fp : F' p = none := by
          cases q : F' p with
          | none => rfl
          | some u =>
            rcases G.n p u q with z | z | ⟨i, d, z1, z2⟩
            · rw [S.s p u z] at hp0; cases hp0
            · rw [upd_same] at z; cases z
            · exact absurd z2 (no i d z1)
        have f : ∀ w : HO, Sub F' (upd F' p w) := fun w b x hb => by
          rw [upd_ne (ne_of_none hb fp)]
          exact hb
        have no' : ∀ (i : Nat) d, ρ1[i]? = some (.ow d) → σ[i]? ≠ some (some (.ref p)) := fun i d hd => by
          obtain ⟨e, he⟩ := G.o i d hd
          exact no i e he
        have GG := (Go.of (eff := false) (σ := σ) (ρ := ρ) G0).trans G
        rw [Bool.false_or] at GG
        refine h (.ref p) (upd H' p (.frz od (.dK vs))) (upd F' p (.frz od (.dK vs))) ⟨GG.f.trans (f _), fun b x hb => ?_, GG.o, fun b x hb k => ?_, fun z => ?_, fun b x hb => ?_⟩ (S'.giveD fp (S.fresh hp0) no') ?_
        · by_cases z : b = p
          · subst z; exact .inr (.inl hp0)
          · rw [upd_ne z] at hb
            exact GG.n b x hb
        · rw [upd_ne (ne_of_none hb hp0)]
          exact GG.k b x hb k
        · obtain ⟨g1, g2⟩ := GG.g z
          refine ⟨⟨g1.f.trans (f _), fun b x hb => ?_, fun b x hb => ?_, fun b x hb => ?_⟩, g2⟩
          · rw [upd_ne (ne_of_none hb hp0)]
            exact g1.h b x hb
          · by_cases z : b = p
            · subst z; rw [upd_same] at hb ⊢; exact hb
            · rw [upd_ne z] at hb ⊢
              exact g1.s b x hb
          · by_cases z : b = p
            · subst z; exact .inr hp0
            · rw [upd_ne z] at hb
              exact g1.n b x hb
        · by_cases z : b = p
          · subst z; exact ⟨_, upd_same⟩
          · rw [upd_ne z]; exact GG.d b x hb
        · show Rep (gx X) _ _ _
          simp only [Rep]
          exact ⟨p, vs, rfl, ⟨od, upd_same⟩, rr.mono (f _)⟩
      · rw [if_neg c] at h; exact h.elim
theorem se_disp {ks : List (Option Expr)} {vs : List Expr} (hd : SD X fx W eff pos ks vs m) (hall : ks.all (·.isSome) = true := by rfl) (hl : ks.length = vs.length := by rfl) (h0 : ks ≠ [] := by exact (fun q => nomatch q)) (h15 : ks.length ≤ 15 := by decide) :
    SE X fx W true eff (.Dict ks vs pos) (eN mkDic m) := by
  obtain ⟨trs, P, h⟩ := hd
  exact PE.imp (pe_plock (pe_disp P hall hl h0 h15)) fun σ H Q q => tE_disp h q
end
/-! ### list(x) -/
def opList : List D → R D
  | [.lst xs] => .ok (.lst xs)
  | [.ros xs] => .ok (.lst xs)
  | [.tup xs] => .ok (.lst xs)
  | _ => .bad
theorem s_list {g : Gx} : SndN g (fun xs H Q => ∃ p ys, xs = [.ref p] ∧ (SqL g.K H p ys ∨ SqT g.K H p ys) ∧ ∀ l, H l = none → Q (.ref l) (upd H l (.lst ys))) opList := by
  intro F H ds vs d Q s r e G
  cases ds with
  | nil => cases e
  | cons d0 t =>
    cases t with
    | cons d1 t => cases d0 <;> cases e
    | nil =>
      obtain ⟨v, rfl, rv⟩ := wrl1 r
      cases d0 with
      | lst xs =>
        cases e
        obtain ⟨a, vs, rfl, h, l⟩ := w_lst s rv
        exact ⟨a, vs, rfl, .inl (SqL.of h), fun p hp => new_lst s l G hp⟩
      | ros xs =>
        cases e
        obtain ⟨a, vs, rfl, h, l⟩ := w_ros s rv
        exact ⟨a, vs, rfl, .inl h, fun p hp => new_lst s l G hp⟩
      | tup xs =>
        cases e
        obtain ⟨a, vs, rfl, h, l, _⟩ := w_tup s rv
        exact ⟨a, vs, rfl, .inr h, fun p hp => new_lst s l G hp⟩
      | _ => cases e
/-! ### a dict of the top: its fact -/
theorem pairs_top {w : World} : ∀ ys : List ((Str × Tok) × (Str × Tok)), ∀ P : Program, Pairs (mixKind P w) (ys.map fun p => (⟨PyData.keyHash w.params p.1.1, .str p.1.1 p.1.2, .str p.2.1 p.2.2⟩ : DictEntry)) (ys.map fun p => ((Sum.inr p.1.1 : Key), Value.str p.2.1 p.2.2))
  | [], P => .nil
  | p :: ys, P => .cons (kV_is (k := Sum.inr p.1.1) (show RelV (V.str p.1.1) _ from ⟨p.1.2, rfl⟩)) rfl (pairs_top ys P)
theorem kv_top : ∀ ys : List ((Str × Tok) × (Str × Tok)), KV (ys.map fun p => ((Sum.inr p.1.1 : Key), V.str p.2.1)) (ys.map fun p => ((Sum.inr p.1.1 : Key), Value.str p.2.1 p.2.2))
  | [] => .nil
  | p :: ys => .cons ⟨rfl, p.2.2, rfl⟩ (kv_top ys)
theorem repK_top {g : Gx} {F : Hp} : ∀ ys : List ((Str × Tok) × (Str × Tok)), RepK g F (ys.map fun p => ((Sum.inr p.1.1 : Key), D.str p.2.1)) (ys.map fun p => ((Sum.inr p.1.1 : Key), V.str p.2.1))
  | [] => by simp only [List.map_nil, RepK]
  | p :: ys => by
    simp only [List.map_cons, RepK]
    exact ⟨_, _, rfl, by simp only [Rep], repK_top ys⟩
theorem glob_dict {w : World} {K : PySem.W.Frag} {mg : Str → Option Value} {x : Str} {a : Addr} {n : Nat} (ys : List ((Str × Tok) × (Str × Tok))) (hm : mg x = some (.ref a)) (hz : (a == sysModules) = false)
    (h : K.lookup a = some ⟨.type "dict", none, .dict (ys.map fun p => (⟨PyData.keyHash w.params p.1.1, .str p.1.1 p.1.2, .str p.2.1 p.2.2⟩ : DictEntry)).toArray n, #[]⟩) (hn : (ys.map fun p => (Sum.inr p.1.1 : Key)).Nodup) (hl : ys.length ≤ sizeLine) :
    DcC w K mg x (ys.map fun p => (Sum.inr p.1.1, D.str p.2.1)) :=
  ⟨a, _, _, n, ys.map fun p => (Sum.inr p.1.1, V.str p.2.1), ys.map fun p => (Sum.inr p.1.1, Value.str p.2.1 p.2.2), hm, hz, h, ⟨rfl, rfl, rfl⟩, rfl, by rw [List.length_map]; exact hl, kv_top ys, fun F => repK_top ys, fun P =>
    ⟨fun e he => by
      obtain ⟨p, _, rfl⟩ := List.mem_map.mp (List.mem_toArray.mp he)
      exact ⟨Sum.inr p.1.1, kV_is (show RelV (V.str p.1.1) _ from ⟨p.1.2, rfl⟩), rfl⟩, pairs_top ys P, by
      rw [List.map_map]
      exact hn⟩⟩
end DL

set_option Elab.async false
set_option linter.all false
set_option maxRecDepth 100000
set_option maxHeartbeats 4000000
namespace DL
open PySem PySem.Spec PyProof.Rows L2
/-! ### xs[::-1], enumerate(xs) -/
def opRev : D → R D
  | .lst xs => .ok (.lst xs.reverse)
  | .ros xs => .ok (.lst xs.reverse)
  | _ => .bad
theorem RepL.app {g : Gx} {F : Hp} : ∀ {xs ys : List D} {vs ws : List V}, RepL g F xs vs → RepL g F ys ws → RepL g F (xs ++ ys) (vs ++ ws)
  | [], ys, vs, ws, h, k => by
    simp only [RepL] at h
    subst h
    exact k
  | x :: xs, ys, vs, ws, h, k => by
    simp only [RepL] at h
    obtain ⟨v, r, rfl, h1, h2⟩ := h
    show RepL g F (x :: (xs ++ ys)) (v :: (r ++ ws))
    simp only [RepL]
    exact ⟨v, _, rfl, h1, RepL.app h2 k⟩
theorem RepL.rev {g : Gx} {F : Hp} : ∀ {xs : List D} {vs : List V}, RepL g F xs vs → RepL g F xs.reverse vs.reverse
  | [], vs, h => by
    simp only [RepL] at h
    subst h
    simp [RepL]
  | x :: xs, vs, h => by
    simp only [RepL] at h
    obtain ⟨v, r, rfl, h1, h2⟩ := h
    rw [List.reverse_cons, List.reverse_cons]
    refine RepL.app (RepL.rev h2) ?_
    simp only [RepL]
    exact ⟨v, [], rfl, h1, rfl⟩
/-- the pairs of places and items -/
def numD : Nat → List D → List D
  | _, [] => []
  | i, d :: ds => .tup [.int (i : Nat), d] :: numD (i + 1) ds
theorem numD_get : ∀ (ds : List D) (k i : Nat), (numD k ds)[i]? = (ds[i]?).map fun d => D.tup [.int ((k + i : Nat) : Int), d]
  | [], k, i => by simp [numD]
  | d :: ds, k, 0 => by simp [numD]
  | d :: ds, k, i + 1 => by
    show (numD (k + 1) ds)[i]? = _
    rw [numD_get ds (k + 1) i, List.getElem?_cons_succ, show k + 1 + i = k + (i + 1) by omega]
theorem numD_len : ∀ (ds : List D) (k : Nat), (numD k ds).length = ds.length
  | [], _ => rfl
  | _ :: ds, k => by
    show (numD (k + 1) ds).length + 1 = _
    rw [numD_len ds (k + 1)]
    rfl
def enumD : List D → R (List D)
  | [d] => match lstOf d with
    | some xs => if xs.length ≤ 16777216 then .ok (numD 0 xs) else .bad
    | none => .bad
  | _ => .bad
def iEnumD (m : M (List D)) : M (List D) := m.bind fun xs => M.lift (enumD xs)
section
variable {g : Gx} {F : Hp}
theorem ite_rep {a : Addr} {xs : List D} {vs : List V} (h : SqL g.K F a vs) (r : RepL g F xs vs) (hl : xs.length ≤ 16777216) : ItRep g (Ite g.K a) (numD 0 xs) F where
  go := fun i H' F' f s hi => by
    rw [numD_len] at hi
    obtain ⟨v, e, _⟩ := r.get (d := xs[i]) (List.getElem?_eq_getElem hi)
    exact ⟨vs, v, sqL_mono (f.trans s) h, e⟩
  yld := fun i H' F' x H'' d f s e y => by
    obtain ⟨T, v, rfl, hT, rfl, q⟩ := y
    have q1 := q vs (sqL_mono (f.trans s) h)
    rw [numD_get, Nat.zero_add] at e
    cases k : xs[i]? with
    | none => rw [k] at e; cases e
    | some z =>
      rw [k] at e
      cases e
      obtain ⟨w, e1, r1⟩ := r.get k
      rw [q1] at e1
      cases e1
      refine ⟨_, Grow.new s hT (o := .tup [.int (i : Nat), v]), ?_⟩
      simp only [Rep]
      exact ⟨T, _, rfl, SqT.of upd_same, RepL.cons (by simp only [Rep]) (RepL.cons (r1.mono (f.trans (Grow.new s hT).f)) RepL.nil)⟩
  stop := fun i H' F' f s hi => ⟨vs, sqL_mono (f.trans s) h, by rw [numD_len] at hi; rw [r.length]; exact hi⟩
  len := by rw [numD_len]; exact hl
end
section
variable {X : Cx} {fx : Fx} {W : WX} {ca ea : Bool} {e : Expr} {m : M D} {ma : M (List D)} {k kk : Nat} {p p1 p2 p3 pos tpos : Pos} {elts : List Expr}
theorem s_rev {g : Gx} : Snd1 g (fun v H Q => ∃ (a : Addr) (xs : List V), v = .ref a ∧ SqL g.K H a xs ∧ ∀ q, H q = none → Q (.ref q) (upd H q (.lst xs.reverse))) opRev := by
  intro F H dx x d Q s rx e G
  cases dx with
  | lst xs =>
    cases e
    obtain ⟨a, vs, rfl, h, l⟩ := w_lst s rx
    exact ⟨a, vs, rfl, SqL.of h, fun p hp => new_lst s l.rev G hp⟩
  | ros xs =>
    cases e
    obtain ⟨a, vs, rfl, h, l⟩ := w_ros s rx
    exact ⟨a, vs, rfl, h, fun p hp => new_lst s l.rev G hp⟩
  | _ => cases e
theorem se_rev (he : SE X fx W ca ea e m) : SE X fx W true ea (.Subscript e (.Slice none none (some (.UnaryOp .USub (.Constant (.int 1) k p1) p2)) p3) pos) (e1 opRev m) :=
  PE.imp (pe_revL he) fun σ H Q h => tE_e1 (ca := ca) s_rev h
theorem tI_enum {g : Gx} {σ : L2.St} {H : Hp} {R : It → Hp → Prop} (h : tI g fx W ea (iEnumD ma) σ H R) : iEnum g.K (tA g fx W true ea ma) σ H R := by
  obtain ⟨F, ρ, S, h⟩ := h
  refine ⟨F, ρ, S, ?_⟩
  unfold iEnumD M.bind at h
  cases e1 : ma ρ with
  | bad => rw [e1] at h; exact h
  | exn c x r1 => rw [e1] at h; exact h
  | ok ds ρ1 =>
    rw [e1] at h
    intro vs H1 F1 G1 S1 r1
    dsimp only [M.lift] at h
    match ds, r1, h with
    | [], _, h => exact h.elim
    | _ :: _ :: _, _, h => exact h.elim
    | [a], r1, h =>
      obtain ⟨v, r, rfl, ra, rfl⟩ := r1
      have ra' : Rep g F1 a v := ra
      cases q1 : lstOf a with
      | none =>
        dsimp only [enumD] at h
        rw [q1] at h
        exact h.elim
      | some xs =>
        dsimp only [enumD] at h
        rw [q1] at h
        dsimp only at h
        by_cases c : xs.length ≤ 16777216
        · rw [if_pos c] at h
          obtain ⟨p, vs, rfl, h1, l1⟩ := lstOf_rep q1 ra'
          exact ⟨p, vs, rfl, sqL_mono S1.s h1, h _ H1 F1 G1 S1 (ite_rep h1 l1 c)⟩
        · rw [if_neg c] at h; exact h.elim
theorem si_enum (hm : X.mg "enumerate" = none) (ha : SA X fx W true ea [e] ma) (hg : Gl X "enumerate" := by rfl) (hs : starEach [e] X.env = [(false, eval e X.env)] := by rfl) :
    SI X fx W ea (.Tuple elts kk tpos) (.Call (.Name "enumerate" p) [e] [] pos) (iEnumD ma) := PI.imp (pi_enum hg hm ha hs) fun σ H R q => tI_enum q
end
end DL

set_option Elab.async false
set_option linter.all false
set_option maxRecDepth 100000
set_option maxHeartbeats 4000000
namespace DL
open PySem PySem.Spec PyProof.Rows L2
/-! ### more that is known of a value: new lists in it -/
structure NK where
  N : Hp → Hp → D → V → Prop
  hit : D → Bool
  free : ∀ H F d v, hit d = false → N H F d v
  anti : ∀ {H H0 F d v}, N H F d v → (∀ a, H a = none → H0 a = none) → N H0 F d v
  mono : ∀ {H F F' d v}, N H F d v → Sub F F' → N H F' d v
/-- a list is new -/
def N0 (H _F : Hp) (d : D) (v : V) : Prop := match d with
  | .lst _ => ∃ a, v = .ref a ∧ H a = none
  | _ => True
def k0 : NK where
  N := N0
  hit := fun d => match d with
    | .lst _ => true
    | _ => false
  free := fun H F d v h => by cases d <;> first | trivial | cases h
  anti := fun {H H0 F d v} h k => by
    cases d with
    | lst xs => obtain ⟨a, e, q⟩ := h; exact ⟨a, e, k a q⟩
    | _ => trivial
  mono := fun {H F F' d v} h s => by
    cases d with
    | lst xs => exact h
    | _ => trivial
/-- told, and a new list -/
def hit1 : D → Bool
  | .lst [.str w, .lst _] => w == "told"
  | _ => false
def N1 (H F : Hp) (d : D) (v : V) : Prop := hit1 d = true → ∃ a b x, v = .ref a ∧ F a = some (.lst [x, .ref b]) ∧ H b = none
def k1 : NK where
  N := N1
  hit := hit1
  free := fun H F d v h z => by rw [h] at z; cases z
  anti := fun h k z => by
    obtain ⟨a, b, x, e, f, q⟩ := h z
    exact ⟨a, b, x, e, f, k b q⟩
  mono := fun h s z => by
    obtain ⟨a, b, x, e, f, q⟩ := h z
    exact ⟨a, b, x, e, s _ _ f, q⟩
def tKn (g : Gx) (fx : Fx) (W : WX) (N : Hp → Hp → D → V → Prop) (eff : Bool) (m : M D) : TE := fun σ H Q => ∃ F ρ, ST g fx σ H F ρ ∧ match m ρ with
  | .ok d ρ' => ∀ v H' F', Go eff σ F H ρ F' H' ρ' → ST g fx σ H' F' ρ' → Rep g F' d v → N fx.H0 F' d v → Q v H'
  | .exn c x ρ' => ∀ cls dd H' F', Go true σ F H ρ F' H' ρ' → ST g fx σ H' F' ρ' → XR g F' c x cls dd → W cls dd σ H'
  | .bad => False
def SKn (X : Cx) (fx : Fx) (W : WX) (N : Hp → Hp → D → V → Prop) (eff : Bool) (e : Expr) (m : M D) : Prop := PE X e (tKn (gx X) fx W N eff m)
/-- data of which nothing has to be known -/
def eChk (hit : D → Bool) (m : M D) : M D := m.bind fun d ρ => if hit d then .bad else .ok d ρ
section
variable {g : Gx} {fx : Fx} {W : WX} {σ : L2.St} {H : Hp} {Q : VK} {ea eb ec : Bool} {m ma mb : M D} {ml : M (List D)} {b1 : M Bool} {k : NK}
theorem tKn_chk (h : tKn g fx W k.N ea (eChk k.hit m) σ H Q) : tE g fx W true ea m σ H Q := by
  obtain ⟨F, ρ, S, h⟩ := h
  refine ⟨F, ρ, S, ?_⟩
  unfold eChk M.bind at h
  cases e1 : m ρ with
  | bad => rw [e1] at h; exact h
  | exn c x r1 => rw [e1] at h; exact h
  | ok d ρ1 =>
    rw [e1] at h
    dsimp only at h
    cases q : k.hit d with
    | true => rw [q] at h; exact h.elim
    | false =>
      rw [q] at h
      exact fun v H' F' G S' r => h v H' F' G S' r (k.free _ _ _ _ q)
theorem tKn_if {N : Hp → Hp → D → V → Prop} (h : tKn g fx W N (ec || (ea || eb)) (eIf b1 ma mb) σ H Q) : tIf (tB g fx W ec b1) (tKn g fx W N ea ma) (tKn g fx W N eb mb) σ H Q := by
  obtain ⟨F, ρ, S, h⟩ := h
  refine ⟨F, ρ, S, ?_⟩
  unfold eIf M.bind at h
  cases e1 : b1 ρ with
  | bad => rw [e1] at h; exact h
  | exn c x r1 => rw [e1] at h; exact h
  | ok q ρ1 =>
    rw [e1] at h
    intro H1 F1 G1 S1
    dsimp only at h
    cases q with
    | true =>
      rw [if_pos rfl] at h ⊢
      refine ⟨F1, ρ1, S1, ?_⟩
      cases e2 : ma ρ1 with
      | bad => rw [e2] at h; exact h
      | exn c x r1 => rw [e2] at h; exact xst G1 h
      | ok d ρ2 =>
        rw [e2] at h
        exact fun v H2 F2 G2 S2 r2 n2 => h v H2 F2 (G1.trans (G2.le le_l)) S2 r2 n2
    | false =>
      rw [if_neg (by decide)] at h ⊢
      refine ⟨F1, ρ1, S1, ?_⟩
      cases e2 : mb ρ1 with
      | bad => rw [e2] at h; exact h
      | exn c x r1 => rw [e2] at h; exact xst G1 h
      | ok d ρ2 =>
        rw [e2] at h
        exact fun v H2 F2 G2 S2 r2 n2 => h v H2 F2 (G1.trans (G2.le le_r)) S2 r2 n2
/-- a new list is given to all -/
theorem tKn_fr (h : tKn g fx W N0 true m σ H Q) : tPLock (tF g fx W ea m) σ H Q := by
  obtain ⟨F, ρ, S, h⟩ := h
  refine ⟨F, ρ, S, ?_⟩
  cases e1 : m ρ with
  | bad => rw [e1] at h; exact h
  | exn c x r1 => rw [e1] at h; exact h
  | ok d ρ1 =>
    rw [e1] at h
    intro a H' F' G S' fa o h0 hn ha
    obtain ⟨u, hu⟩ := o.there
    have nn : ∀ w : HO, ∀ b x, upd F' a w b = some x → F b = some x ∨ H b = none ∨ ∃ (i : Nat) (d : D), ρ[i]? = some (.ow d) ∧ σ[i]? = some (some (.ref b)) := fun w b x hb => by
      by_cases z : b = a
      · subst z
        exact .inr ha
      · rw [upd_ne z] at hb
        exact G.n b x hb
    have f : ∀ w : HO, Sub F' (upd F' a w) := fun w b x hb => by
      rw [upd_ne (ne_of_none hb fa)]
      exact hb
    cases d with
    | lst xs =>
      have S2 := S'.give hu fa h0 hn
      exact .inl (h (.ref a) H' (upd F' a u) ⟨G.f.trans (f u), nn u, G.o, G.k, fun z => (nomatch z), G.d⟩ S2 (o.rep (f u) (by rw [upd_same]; exact hu.symm)) ⟨a, rfl, h0⟩)
    | dic xs =>
      obtain ⟨vs, e2, r⟩ := o
      refine .inr ⟨a, .dK vs, e2, trivial, fun od => ?_⟩
      refine h (.ref a) (upd H' a (.frz od (.dK vs))) (upd F' a (.frz od (.dK vs))) ⟨G.f.trans (f _), nn _, G.o, fun b x hb k => ?_, fun z => (nomatch z), fun b x hb => ?_⟩ (S'.giveD fa h0 hn) ?_ trivial
      · have ne : b ≠ a := fun z => by
          subst z
          rcases ha with z | ⟨i, d, z1, z2⟩
          · rw [z] at hb; cases hb
          · exact k i d z1 z2
        rw [upd_ne ne]
        exact G.k b x hb k
      · by_cases z : b = a
        · subst z; exact ⟨_, upd_same⟩
        · rw [upd_ne z]; exact G.d b x hb
      · show Rep g _ _ _
        simp only [Rep]
        exact ⟨a, vs, rfl, ⟨od, upd_same⟩, r.mono (f _)⟩
    | _ => exact o.elim
theorem tKn_call {fn : Fn} {n : Nat} (hn : ∀ ρ ds ρ', ml ρ = .ok ds ρ' → ds.length = n) (h : tKn g fx W k.N ea (eCall fn ml) σ H Q) : tCallS (spOf g [] (.cw k.N) n fn) (WE W) (tA g fx W true ea ml) σ H Q := by
  obtain ⟨F, ρ, S, h⟩ := h
  refine ⟨F, ρ, S, ?_⟩
  unfold eCall M.bind at h
  cases e1 : ml ρ with
  | bad => rw [e1] at h; exact h
  | exn c x r1 => rw [e1] at h; exact h
  | ok ds ρ1 =>
    rw [e1] at h
    intro vs H1 F1 G1 S1 r1
    refine ⟨F1, ds, args_of S1.s r1.rep, hn _ _ _ e1, ?_⟩
    dsimp only at h
    cases e2 : fn ds with
    | bad => rw [e2] at h; exact h.elim
    | any f => rw [e2] at h; exact h.elim
    | ok d outs =>
      rw [e2] at h
      intro v H' F' A ⟨r, nw⟩
      refine h v H' F' (by
        have q := G1.trans (Go.of (eff := false) (ρ := ρ1) A.grow)
        rwa [Bool.or_false] at q) (S1.grow A.grow) r (k.anti nw fun a z => S1.fresh z)
    | exn c x outs =>
      rw [e2] at h
      intro cls dd H' F' A r
      exact h cls dd H' F' (G1.trans (Go.of (eff := true) (ρ := ρ1) A.grow)).up (S1.grow A.grow) r
theorem tS_retW {E : Ends} {N : Hp → Hp → D → V → Prop} (hk : fx.rk = .cw N) (h : tS g fx W (sRet m) E σ H) : tRet (tKn g fx W N ea m) E σ H := by
  obtain ⟨F, ρ, S, h⟩ := h
  refine ⟨F, ρ, S, ?_⟩
  unfold sRet sDo at h
  cases e : m ρ with
  | bad => rw [e] at h; exact h
  | exn c x r =>
    rw [e] at h
    exact xgs h
  | ok d ρ1 =>
    rw [e] at h
    exact fun v H1 F1 G1 S1 r1 n1 => h v σ H1 F1 S1 (by unfold RV; rw [hk]; exact ⟨r1, n1⟩)
end
section
variable {X : Cx} {fx : Fx} {W : WX} {ea eb ec : Bool} {e a b c : Expr} {es : List Expr} {m ma mb : M D} {ml : M (List D)} {b1 : M Bool} {k : NK} {p pos : Pos} {x : Str} {fn : Fn} {n j : Nat}
theorem skn_of (h : SE X fx W true ea e m) : SKn X fx W k.N ea e (eChk k.hit m) := PE.imp h fun σ H Q q => tKn_chk q
theorem skn_if {N : Hp → Hp → D → V → Prop} (hc : SB X fx W ec c b1) (ha : SKn X fx W N ea a ma) (hb : SKn X fx W N eb b mb) : SKn X fx W N (ec || (ea || eb)) (.IfExp c a b pos) (eIf b1 ma mb) := PE.imp (pe_ifExp hc ha hb) fun σ H Q h => tKn_if h
theorem skn_fr (h : SF X fx W ea e m) : SKn X fx W N0 true e m := PE.imp (pe_plock h) fun σ H Q q => tKn_fr q
theorem skn_call (C : Fd X.prog X.w X.K X.mg X.base x [] (.cw k.N) n j fn) (hr : RoomG j X.A) (tk : Takes X W) (ha : SA X fx W true ea (e :: es) ml) (hn : ∀ ρ ds ρ', ml ρ = .ok ds ρ' → ds.length = n) (hg : Gl X x := by rfl)
    (hdb : (x == ("__debug__" : Str)) = false := by decide) (he : starEach (e :: es) X.env = (false, eval e X.env) :: starEach es X.env := by rfl) (hpl : (backTo pos (starEach es X.env)).any (·.1) = false := by rfl) :
    SKn X fx W k.N ea (.Call (.Name x p) (e :: es) [] pos) (eCall fn ml) := by
  obtain ⟨f, fd, ps, F, hm, hk, hb⟩ := C.ex
  exact PE.imp (pe_callG F hr hg hm hk hb (fun σ => passAt tk σ) ha hdb he hpl) fun σ H Q q => tKn_call hn q
theorem ss_retW {N : Hp → Hp → D → V → Prop} (he : SKn X fx W N ea e m) (hk : fx.rk = .cw N := by rfl) : SS X fx W (.Return (some e) pos) (sRet m) := PS.imp (ps_ret he) fun E σ H q => tS_retW hk q
end
section
variable {X : Cx} {fx : Fx} {W : WX} {ea eb : Bool} {a b : Expr} {ma mb : M D} {pos : Pos}
theorem tKn_lst2 {g : Gx} {σ : L2.St} {H : Hp} {Q : VK} (h : tKn g fx W N1 (ea || (eb || false)) (eN mkLst (aCons ma (aCons mb aNil))) σ H Q) : tLst (tCons (tE g fx W true ea ma) (tCons (tKn g fx W N0 eb mb) tNil)) σ H Q := by
  obtain ⟨F, ρ, S, h⟩ := h
  refine ⟨F, ρ, S, ?_⟩
  unfold eN aCons M.bind at h
  cases e1 : ma ρ with
  | bad => rw [e1] at h; exact h
  | exn c x r1 => rw [e1] at h; exact h
  | ok d ρ1 =>
    rw [e1] at h
    intro v H1 F1 G1 S1 r1
    refine ⟨F1, ρ1, S1, ?_⟩
    dsimp only at h
    cases e2 : mb ρ1 with
    | bad => rw [e2] at h; exact h
    | exn c x r => rw [e2] at h; exact xst G1 h
    | ok d2 ρ2 =>
      rw [e2] at h
      intro v2 H2 F2 G2 S2 r2 n2
      refine ⟨by show 2 ≤ sizeLine; decide, fun p hp => ?_⟩
      have GN := Grow.new S2.s hp (o := .lst [v, v2])
      refine h (.ref p) (upd H2 p (.lst [v, v2])) (upd F2 p (.lst [v, v2])) (by
        have q := (G1.trans G2).trans (Go.of (eff := false) (ρ := ρ2) GN)
        rw [Bool.or_false] at q ⊢
        exact q) (S2.grow GN) ?_ ?_
      · simp only [Rep]
        exact ⟨p, [v, v2], rfl, upd_same, RepL.cons ((Rep.mono G2.f r1).mono GN.f) (RepL.cons (r2.mono GN.f) RepL.nil)⟩
      · intro z
        cases d2 with
        | lst ys =>
          obtain ⟨b, rfl, q⟩ := n2
          exact ⟨p, b, v, rfl, upd_same, q⟩
        | _ =>
          cases d <;> cases z
theorem skn_lst2 (ha : SE X fx W true ea a ma) (hb : SKn X fx W N0 eb b mb) (h1 : starEach [a, b] X.env = (false, eval a X.env) :: starEach [b] X.env := by rfl) (h2 : starEach [b] X.env = (false, eval b X.env) :: starEach [] X.env := by rfl) :
    SKn X fx W N1 (ea || (eb || false)) (.List [a, b] pos) (eN mkLst (aCons ma (aCons mb aNil))) := PE.imp (pe_lst (pa_cons ha (pa_cons hb pa_nil h2) h1)) fun σ H Q q => tKn_lst2 q
end
/-- what is known may be let go of -/
theorem spOf_cl {g : Gx} {mask : List Nat} {N : Hp → Hp → D → V → Prop} {n : Nat} {fn : Fn} {vs : List V} {H : Hp} {Q : VK} {E : XK} (h : spOf g mask .cl n fn vs H Q E) : spOf g mask (.cw N) n fn vs H Q E := by
  obtain ⟨F, ds, A, hn, h⟩ := h
  refine ⟨F, ds, A, hn, ?_⟩
  have : ∀ o : FO, fPost g mask .cl F H vs Q E o → fPost g mask (.cw N) F H vs Q E o := fun o => by
    induction o with
    | ok d outs => exact fun q v H' F' A r => q v H' F' A r.1
    | exn c x outs => exact fun q => q
    | bad => exact fun q => q
    | any f ih => exact fun q a => ih a (q a)
  exact this _ h
theorem Fd.cl {P : Program} {w : World} {K : PySem.W.Frag} {mg : Str → Option Value} {base : Heap} {x : Str} {mask : List Nat} {N : Hp → Hp → D → V → Prop} {n k : Nat} {fn : Fn} (h : Fd P w K mg base x mask (.cw N) n k fn) : Fd P w K mg base x mask .cl n k fn := by
  obtain ⟨f, fd, ps, F, hm, hk, hb⟩ := h.ex
  exact ⟨f, fd, ps, F.imp fun vs H Q E q => spOf_cl q, hm, hk, hb⟩
end DL

set_option Elab.async false
set_option linter.all false
set_option maxRecDepth 100000
set_option maxHeartbeats 4000000
namespace DL
open PySem PySem.Spec PyProof.Rows L2
/-- a def as its callers by keywords see it, whatever it hands back -/
structure FkW (P : Program) (w : World) (K : PySem.W.Frag) (mg : Str → Option Value) (base : Heap) (x : Str) (ks : List Str) (is : List Nat) (rk : Rk) (n k : Nat) (fn : Fn) : Prop where
  ex : ∃ f fd ps, FnG P w K mg base (L2.CX P w) k f fd ps (spOf ⟨K, mg⟩ [] rk n fn) ∧ mg x = some (.ref f) ∧ PySem.W.keepIn K (.ref f) = true ∧ KBinds K fd ps ks (permK is) (permV is)
theorem FkW.cl {P : Program} {w : World} {K : PySem.W.Frag} {mg : Str → Option Value} {base : Heap} {x : Str} {ks : List Str} {is : List Nat} {N : Hp → Hp → D → V → Prop} {n k : Nat} {fn : Fn} (h : FkW P w K mg base x ks is (.cw N) n k fn) : Fk P w K mg base x ks is n k fn := by
  obtain ⟨f, fd, ps, F, hm, hk, hb⟩ := h.ex
  exact ⟨f, fd, ps, F.imp fun vs H Q E q => spOf_cl q, hm, hk, hb⟩
theorem fkW_of {P : Program} {w : World} {K : PySem.W.Frag} {mg : Str → Option Value} {base : Heap} {x : Str} {st : Stmt} {rk : Rk} {n k : Nat} {fn : Fn} {ps ks : List Str} {is : List Nat} (h : Fw P w K mg base x st ps [] rk n k fn) (hd : (defArgs st).defaults = [])
    (hb : ∀ (kV doc pm : Value) (an : Option Addr) (cdv ct : Value) (us ws : List Value), (permK is us ws).length = ps.length → bindArgs (PySem.W.fnOf x x (defArgs st) (defBody st) (defScope st) .none kV doc pm an cdv ct) ⟨us, ks.zip ws⟩ = pure (ps.zip (permK is us ws))) : FkW P w K mg base x ks is rk n k fn := by
  obtain ⟨f, fd, F, G, hm⟩ := h
  exact ⟨f, fd, ps, G, hm, F.kp, F.kbinds hd hb perm_vals⟩
section
variable {X : Cx} {fx : Fx} {W : WX} {x : Str} {p pos kpos : Pos} {fn : Fn} {k n : Nat} {ea : Bool} {ks : List Str} {is : List Nat} {kws : List Keyword} {m : M (List D)} {nk : NK}
theorem skn_callK (C : FkW X.prog X.w X.K X.mg X.base x ks is (.cw nk.N) n k fn) (hr : RoomG k X.A) (tk : Takes X W) (ha : SK X fx W true ea kws m) (hn : ∀ ρ ds ρ', m ρ = .ok ds ρ' → (permL is ds).length = n) (hg : Gl X x := by rfl)
    (hall : (backToKw pos (keywordEach kws X.env)).all (·.1.isSome) = true := by rfl) (hks : (backToKw pos (keywordEach kws X.env)).filterMap (·.1) = ks := by rfl)
    (hdb : (x == ("__debug__" : Str)) = false := by decide) (hpl : ((backTo pos (starEach [] X.env)).any (·.1) || (backToKw pos (keywordEach kws X.env)).any (·.1.isNone)) = false := by rfl) :
    SKn X fx W nk.N ea (.Call (.Name x p) [] kws pos) (eCallK fn is m) := by
  obtain ⟨f, fd, ps, F, hm, hk, hb⟩ := C.ex
  refine PE.imp (pe_callKS F hr hg hm hk hb (fun σ => passAt tk σ) ha hall hks hdb hpl) fun σ H Q q => ?_
  have h := tKn_call (k := nk) (n := n) (ml := m.bind fun ds => M.pure (permL is ds)) (fun ρ ds ρ' e => by
    unfold M.bind M.pure at e
    cases e1 : m ρ with
    | bad => rw [e1] at e; cases e
    | exn c x r1 => rw [e1] at e; cases e
    | ok ds1 ρ1 =>
      rw [e1] at e
      cases e
      exact hn _ _ _ e1) q
  obtain ⟨F0, ρ, S, h⟩ := h
  refine ⟨F0, ρ, S, ?_⟩
  unfold M.bind M.pure at h
  cases e1 : m ρ with
  | bad => rw [e1] at h; exact h
  | exn c x r1 => rw [e1] at h; exact h
  | ok ds1 ρ1 =>
    rw [e1] at h
    intro zs H1 F1 G1 S1 r1
    exact h (permL is zs) H1 F1 G1 S1 (permL_vrl r1 is)
end
section
variable {X : Cx} {fx : Fx} {W : WX} {ei ec ee : Bool} {tg iter elt : Expr} {ifs : List Expr} {scope : Scope} {pos : Pos} {is : List Nat} {t : D → Rho → R Rho} {c : M Bool} {e : M D} {mi : M (List D)}
/-- a comprehension is a new list -/
theorem sf_lc (own : List (Str × Nat)) (hc : X.calm = true) (hN : X.N.Nodup) (hi : SI X fx W ei tg iter mi) (ok : BlkOk X.N X.env.scope scope own)
    (hg : ∀ (s : Shared) (H : Hp) (C : Addr) (cl : List (Str × Addr)) (fp : List Addr), SG (X.blk s H scope (compEnvC scope cl C X.env) fp) fx is tg t) (ht : ∀ (s : Shared) (H : Hp) (C : Addr) (cl : List (Str × Addr)) (fp : List Addr), STs (X.blk s H scope (compEnvC scope cl C X.env) fp) fx ec ifs c)
    (he : ∀ (s : Shared) (H : Hp) (C : Addr) (cl : List (Str × Addr)) (fp : List Addr), SE (X.blk s H scope (compEnvC scope cl C X.env) fp) fx W0 true ee elt e)
    (hv : (own.map (·.2)).all (fun j => !fx.ow.contains j) = true := by rfl) (hs : is.all (fun j => (own.map (·.2)).contains j) = true := by rfl) (hf : ∀ x, foldedSetIterable iter X.env x = pure x := by intro _; rfl) :
    SF X fx W (ei || (ec || ee)) (.ListComp elt [⟨tg, iter, ifs, 0⟩] scope pos) (eLC (own.map (·.2)) t c e mi) :=
  PE.imp (pe_lc (g := tG (gx X) fx is t) (tt := tB (gx X) fx W0 ec c) (te := tE (gx X) fx W0 true ee e) hc hN hi ok hg ht he hf) fun σ H Q q => tF_lc hv hs q
end
end DL

set_option Elab.async false
set_option linter.all false
set_option maxRecDepth 100000
set_option maxHeartbeats 4000000
namespace DL
open PySem PySem.Spec PyProof.Rows L2
/-! ### told = f(..); if ..: return e; told[1].append(c): told's new list is changed, told is never asked again -/
def tKh (g : Gx) (fx : Fx) (W : WX) (N : Hp → Hp → D → V → Prop) (eff : Bool) (m : M D) : TE := fun σ H Q => ∃ F ρ, ST g fx σ H F ρ ∧ match m ρ with
  | .ok d ρ' => ∀ v H' F', Go eff σ F H ρ F' H' ρ' → ST g fx σ H' F' ρ' → Rep g F' d v → N H F' d v → Q v H'
  | .exn c x ρ' => ∀ cls dd H' F', Go true σ F H ρ F' H' ρ' → ST g fx σ H' F' ρ' → XR g F' c x cls dd → W cls dd σ H'
  | .bad => False
def toldL : D → Option (List D)
  | .lst [.str w, .lst ys] => if (w == "told") = true then some ys else none
  | _ => none
theorem toldL_eq {d : D} {ys : List D} (h : toldL d = some ys) : ∃ w, d = .lst [.str w, .lst ys] ∧ (w == "told") = true := by
  unfold toldL at h
  split at h
  · rename_i w zs
    split at h
    · rename_i q
      cases h
      exact ⟨w, rfl, q⟩
    · cases h
  · cases h
def sSpoil (i : Nat) (call : M D) (test : M Bool) (r : M D) : MS := fun ρ => match call ρ with
  | .ok d ρ1 => (match test (ρ1.set i (.cl d)) with
    | .ok true ρ2 => sRet r ρ2
    | .ok false ρ2 => (match toldL d with
      | some ys => if ys.length < 16777216 ∧ i < ρ.length then .nx (ρ.set i .no) else .bad
      | none => .bad)
    | _ => .bad)
  | .exn c x ρ1 => .exn c x ρ1
  | .bad => .bad
section
variable {g : Gx} {fx : Fx} {W : WX} {σ : L2.St} {F H : Hp} {ρ : Rho} {Q : VK} {ml : M (List D)} {k : NK}
theorem tKh_call {fn : Fn} {n : Nat} (hn : ∀ ρ ds ρ', ml ρ = .ok ds ρ' → ds.length = n) (h : tKh g fx W k.N false (eCall fn ml) σ H Q) : tCallS (spOf g [] (.cw k.N) n fn) (WE W) (tA g fx W true false ml) σ H Q := by
  obtain ⟨F, ρ, S, h⟩ := h
  refine ⟨F, ρ, S, ?_⟩
  unfold eCall M.bind at h
  cases e1 : ml ρ with
  | bad => rw [e1] at h; exact h
  | exn c x r1 => rw [e1] at h; exact h
  | ok ds ρ1 =>
    rw [e1] at h
    intro vs H1 F1 G1 S1 r1
    refine ⟨F1, ds, args_of S1.s r1.rep, hn _ _ _ e1, ?_⟩
    dsimp only at h
    cases e2 : fn ds with
    | bad => rw [e2] at h; exact h.elim
    | any f => rw [e2] at h; exact h.elim
    | ok d outs =>
      rw [e2] at h
      intro v H' F' A ⟨r, nw⟩
      exact h v H' F' (G1.trans (Go.of (eff := false) (ρ := ρ1) A.grow)) (S1.grow A.grow) r (k.anti nw fun a z => G1.new z)
    | exn c x outs =>
      rw [e2] at h
      intro cls dd H' F' A r
      exact h cls dd H' F' (G1.trans (Go.of (eff := true) (ρ := ρ1) A.grow)).up (S1.grow A.grow) r
theorem ST.junk (S : ST g fx σ H F ρ) {i : Nat} {x : Option V} (hi : fx.ow.contains i = false) : ST g fx (σ.set i x) H F (ρ.set i .no) where
  s := S.s
  ge := S.ge
  nw := S.nw
  old := S.old
  len := by rw [List.length_set, List.length_set]; exact S.len
  cl := fun j d h => by
    obtain ⟨ne, q⟩ := set_no h (fun z => nomatch z)
    rw [List.getElem?_set_ne ne]
    exact S.cl j d q
  ow := fun j d h => by
    obtain ⟨ne, q⟩ := set_no h (fun z => nomatch z)
    rw [List.getElem?_set_ne ne]
    exact S.ow j d q
  inj := fun j k d e a h1 h2 h3 h4 => by
    obtain ⟨n1, q1⟩ := set_no h1 (fun z => nomatch z)
    obtain ⟨n2, q2⟩ := set_no h2 (fun z => nomatch z)
    rw [List.getElem?_set_ne n1] at h3
    rw [List.getElem?_set_ne n2] at h4
    exact S.inj j k d e a q1 q2 h3 h4
  par := fun j a h => by
    have ne : i ≠ j := fun e => by
      have hj := S.pin j a h
      rw [← e] at hj
      have : fx.ow.contains i = true := by simpa using hj
      rw [hi] at this; cases this
    obtain ⟨⟨d, e⟩, e2⟩ := S.par j a h
    exact ⟨⟨d, by rw [List.getElem?_set_ne ne]; exact e⟩, by rw [List.getElem?_set_ne ne]; exact e2⟩
  pin := S.pin
end
section
variable {X : Cx} {fx : Fx} {W : WX} {test re : Expr} {e : Expr} {es : List Expr} {ml : M (List D)} {c : M Bool} {r : M D} {x y s : Str} {p pos p1 p2 p3 p4 p5 p6 p7 p8 p9 p10 rpos : Pos} {fn : Fn} {n j k3 k4 : Nat} {er : Bool}
theorem sss_spoil (i : Nat) (C : Fd X.prog X.w X.K X.mg X.base x [] (.cw N1) n j fn) (hr : RoomG j X.A) (tk : Takes X W) (ha : SA X fx W true false (e :: es) ml) (hn : ∀ ρ ds ρ', ml ρ = .ok ds ρ' → ds.length = n) (hc : SB X fx W false test c) (hre : SE X fx W true er re r) (hk : fx.rk = .cl := by rfl)
    (hN : X.N.Nodup := by assumption) (hi : X.N[i]? = some y := by rfl) (ho : fx.ow.contains i = false := by rfl) (hx : Loc X.env.scope y := by first | exact .inl rfl | exact .inr rfl) (hs : swapsWith (.Call (.Name x p) (e :: es) [] pos) (some (.Name y p1)) p2.line X.env = pure false := by rfl)
    (hf : X.fn y = true ∨ X.env.scope.names.lookup y = some .local := by first | exact .inl rfl | exact .inr rfl)
    (hv : Vis X.env.scope y := by first | exact Or.inl rfl | exact Or.inr (Or.inl rfl) | exact Or.inr (Or.inr rfl)) (hd : (y == ("__debug__" : Str)) = false := by decide) (hcd : (y == ("__classdict__" : Str)) = false := by decide)
    (hg : Gl X x := by rfl) (hdb : (x == ("__debug__" : Str)) = false := by decide) (he : starEach (e :: es) X.env = (false, eval e X.env) :: starEach es X.env := by rfl) (hpl : (backTo pos (starEach es X.env)).any (·.1) = false := by rfl)
    (hbase : attributeBase (.Subscript (.Name y p3) (.Constant (.int 1) k3 p4) p5) "append" X.env (eval (.Subscript (.Name y p3) (.Constant (.int 1) k3 p4) p5) X.env) = eval (.Subscript (.Name y p3) (.Constant (.int 1) k3 p4) p5) X.env := by rfl)
    (hfew : ((backTo p8 (starEach [.Constant (.str s) k4 p6] X.env)).all (fun x => !x.1) && (backToKw p8 (keywordEach [] X.env)).all (fun x => x.1.isSome) && decide (([.Constant (.str s) k4 p6] : List Expr).length + ([] : List Keyword).length + (if ([] : List Keyword).isEmpty then 0 else 1) < 30)) = true := by rfl)
    (hline : (p7.endLine == p8.line) = true := by rfl) (h1 : starEach [.Constant (.str s) k4 p6] X.env = (false, eval (.Constant (.str s) k4 p6) X.env) :: starEach [] X.env := by rfl) (hplain : (backTo p8 (starEach [] X.env)).any (·.1) = false := by rfl)
    (hsw : swapsWith (.Call (.Attribute (.Subscript (.Name y p3) (.Constant (.int 1) k3 p4) p5) "append" p7) [.Constant (.str s) k4 p6] [] p8) none p9.line X.env = pure false := by rfl) :
    SSs X fx W [.Assign [.Name y p1] (.Call (.Name x p) (e :: es) [] pos) p2, .If test [.Return (some re) rpos] [] p10, .Expr (.Call (.Attribute (.Subscript (.Name y p3) (.Constant (.int 1) k3 p4) p5) "append" p7) [.Constant (.str s) k4 p6] [] p8) p9] (sSpoil i (eCall fn ml) c r) := by
  obtain ⟨f, fd, ps, FF, hm, hkp, hb⟩ := C.ex
  have P1 : PE X (.Call (.Name x p) (e :: es) [] pos) (tKh (gx X) fx W N1 false (eCall fn ml)) := PE.imp (pe_callG FF hr hg hm hkp hb (fun σ => passAt tk σ) ha hdb he hpl) fun σ H Q q => tKh_call (k := k1) hn q
  have P3 := pe_bm PySem.F.plainAttrs_list PySem.F.slot_list_append PySem.F.type_list_append mt_append (pe_ix (pos := p5) ix_list (pv i (pos := p3) hi hv hd hcd) (pe_int (j := k3) (pos := p4) (i := 1)) (fun _ _ => rfl)) (pa_cons (pe_str (x := s) (j := k4) (pos := p6)) pa_nil h1) hbase hfew hline h1 hplain
  refine PSs.imp (pss_cons (ps_set hN hi hx P1 hs hf) (pss_cons (ps_if hc (pss_one (ss_ret hre hk)) pss_nil) (pss_one (ps_expr P3 hsw)))) fun E σ H h => ?_
  obtain ⟨F, ρ, S, h⟩ := h
  unfold sSpoil at h
  refine ⟨F, ρ, S, ?_⟩
  cases e1 : eCall fn ml ρ with
  | bad => rw [e1] at h; exact h.elim
  | exn c x r1 =>
    rw [e1] at h
    exact xgs h
  | ok d ρ1 =>
    rw [e1] at h
    dsimp only at h
    intro v H1 F1 G1 S1 r1 n1
    obtain ⟨gr1, er1⟩ := G1.g rfl
    have er1 : ρ1 = ρ := er1
    subst er1
    have S1' := S1.set ho r1
    refine ⟨F1, _, S1', ?_⟩
    cases e2 : c (ρ1.set i (.cl d)) with
    | bad => rw [e2] at h; exact h.elim
    | exn c x r2 => rw [e2] at h; exact h.elim
    | ok q ρ2 =>
      rw [e2] at h
      intro H2 F2 G2 S2
      obtain ⟨gr2, er2⟩ := G2.g rfl
      cases q with
      | true =>
        rw [if_pos rfl]
        dsimp only at h
        have h' := h.mono ((G1.gs.trans gs_set).trans G2.gs)
        refine ⟨F2, ρ2, S2, ?_⟩
        unfold sRet sDo at h' ⊢
        cases e3 : r ρ2 with
        | bad => rw [e3] at h'; exact h'
        | exn c x r3 => rw [e3] at h'; exact h'
        | ok d3 r3 => rw [e3] at h'; exact h'
      | false =>
        rw [if_neg (by decide)]
        dsimp only at h
        cases tq : toldL d with
        | none => rw [tq] at h; exact h.elim
        | some ys =>
          rw [tq] at h
          obtain ⟨w, rfl, hw⟩ := toldL_eq tq
          dsimp only at h
          by_cases z : ys.length < 16777216 ∧ i < ρ1.length
          · rw [if_pos z] at h
            obtain ⟨a, b, vx, ev, fa, hb0⟩ := n1 hw
            subst ev
            simp only [Rep] at r1
            obtain ⟨a', vs', ea, fa', rl⟩ := r1
            cases ea
            rw [fa] at fa'
            cases fa'
            simp only [RepL] at rl
            obtain ⟨v1, t1, et, _, v2, t2, et2, rb, _⟩ := rl
            cases et
            cases et2
            simp only [Rep] at rb
            obtain ⟨b', vs, eb, fb, rys⟩ := rb
            cases eb
            have hlen : i < σ.length := by
              rw [S.len]
              exact z.2
            have hA : H2 a = some (.lst [vx, .ref b]) := S2.s _ _ (gr2.f _ _ fa)
            have hB : H2 b = some (.lst vs) := S2.s _ _ (gr2.f _ _ fb)
            refine ⟨.ref a, by rw [List.getElem?_set_self hlen], ⟨a, [vx, .ref b], 1, .ref b, rfl, rfl, SqL.of hA, rfl, .inl ⟨rfl, vs, SqL.of hB⟩, b, vs, .str s, rfl, rfl, hB, by rw [rys.length, sizeLine_eq]; exact z.1, ?_⟩⟩
            have sub : ∀ a0 o, H a0 = some o → upd H2 b (.lst (vs ++ [.str s])) a0 = some o := fun a0 o q => by
              rw [upd_ne (ne_of_none q hb0)]
              exact gr2.h _ _ (gr1.h _ _ q)
            have GR : Grow F H F (upd H2 b (.lst (vs ++ [.str s]))) := ⟨Sub.refl _, sub, fun a0 o q => sub a0 o (S.s a0 o q), fun a0 o q => .inl q⟩
            refine h _ _ F ⟨Sub.refl _, fun a0 o q => .inl q, fun a0 o q _ => sub a0 o q, fun a0 ⟨j, dd, q1, q2⟩ => ?_, fun a0 o q => ⟨o, sub a0 o q⟩⟩ ((S.grow GR).junk ho)
            obtain ⟨ne, q⟩ := set_no q1 (fun z => nomatch z)
            rw [List.getElem?_set_ne ne] at q2
            exact .inl ⟨j, dd, q, q2⟩
          · rw [if_neg z] at h
            exact h.elim
end
end DL

set_option Elab.async false
set_option linter.all false
set_option maxRecDepth 100000
set_option maxHeartbeats 4000000
/-! DLah: repr(x) of data: lists, tuples at any depth; a dict of plain values at the top -/
namespace DL
open PySem PySem.Spec PyProof.Rows L2
def keyP : Key → PyData
  | .inl i => .int i
  | .inr x => .str x
def flatP : D → Option PyData
  | .non => some .none
  | .bl b => some (.bool b)
  | .int i => some (.int i)
  | .str x => some (.str x)
  | _ => none
def dicP : List (Key × D) → Option (List (PyData × PyData))
  | [] => some []
  | (k, d) :: r => match flatP d, dicP r with
    | some p, some q => some ((keyP k, p) :: q)
    | _, _ => none
def toQ : D → Option PyData
  | .dic kvs => (dicP kvs).map .dict
  | d => toP d
def canShow (p : PyData) : Bool := p.showable && (decide (p.shown.length ≤ 16777216) && decide (p.depth ≤ 60))
def opRepr : List D → R D
  | [d] => match toQ d with
    | some p => if canShow p = true then .ok (.str p.shown) else .bad
    | none => .bad
  | _ => .bad
mutual
theorem toP_noDict : ∀ {d : D} {p : PyData}, toP d = some p → p.hasDict = false
  | .non, p, e => by unfold toP at e; cases e; simp only [PyData.hasDict]
  | .bl _, p, e => by unfold toP at e; cases e; simp only [PyData.hasDict]
  | .int _, p, e => by unfold toP at e; cases e; simp only [PyData.hasDict]
  | .str _, p, e => by unfold toP at e; cases e; simp only [PyData.hasDict]
  | .lst xs, p, e => by
    unfold toP at e
    cases q : toPs xs with
    | none => rw [q] at e; cases e
    | some ps => rw [q] at e; cases e; simp only [PyData.hasDict]; exact toPs_noDict q
  | .ros xs, p, e => by
    unfold toP at e
    cases q : toPs xs with
    | none => rw [q] at e; cases e
    | some ps => rw [q] at e; cases e; simp only [PyData.hasDict]; exact toPs_noDict q
  | .tup xs, p, e => by
    unfold toP at e
    cases q : toPs xs with
    | none => rw [q] at e; cases e
    | some ps => rw [q] at e; cases e; simp only [PyData.hasDict]; exact toPs_noDict q
  | .dic _, _, e => by unfold toP at e; cases e
  | .exc _ _ _, _, e => by unfold toP at e; cases e
theorem toPs_noDict : ∀ {ds : List D} {ps : List PyData}, toPs ds = some ps → PyData.hasDictAll ps = false
  | [], ps, e => by unfold toPs at e; cases e; simp only [PyData.hasDictAll]
  | d :: ds, ps, e => by
    unfold toPs at e
    cases q : toP d with
    | none => rw [q] at e; cases e
    | some p =>
      rw [q] at e
      dsimp only at e
      cases q2 : toPs ds with
      | none => rw [q2] at e; cases e
      | some qs =>
        rw [q2] at e; cases e
        simp only [PyData.hasDictAll, toP_noDict q, toPs_noDict q2, Bool.or_self]
end
/-- a plain value -/
def PlV (v : V) (p : PyData) : Prop := (v = .non ∧ p = .none) ∨ (∃ b, v = .bl b ∧ p = .bool b) ∨ (∃ i, v = .int i ∧ p = .int i) ∨ ∃ x, v = .str x ∧ p = .str x
def PlK : List (Key × V) → List (PyData × PyData) → Prop
  | [], q => q = []
  | (k, v) :: r, q => ∃ p s, q = (keyP k, p) :: s ∧ PlV v p ∧ PlK r s
def DicR (H : Hp) (x : V) (p : PyData) : Prop := ∃ a vs q, x = .ref a ∧ p = .dict q ∧ Rd H a (.dK vs) ∧ PlK vs q
def rRepr (K : PySem.W.Frag) : List V → Hp → VK → Prop := fun xs H Q => ∃ x p, xs = [x] ∧ ((Dp K H x p ∧ p.hasDict = false) ∨ DicR H x p) ∧ p.showable = true ∧ p.shown.length ≤ sizeLine ∧ p.depth ≤ 60 ∧ Q (.str p.shown) H
theorem plV_reads {h : Heap} {v : V} {u : Value} {p : PyData} (x : PlV v p) (r : RelV v u) : Reads h u p [] := by
  rcases x with ⟨rfl, rfl⟩ | ⟨b, rfl, rfl⟩ | ⟨i, rfl, rfl⟩ | ⟨y, rfl, rfl⟩
  · cases r; exact .none
  · cases r; exact .bool b
  · obtain ⟨t, rfl⟩ := r; exact .int i t
  · obtain ⟨t, rfl⟩ := r; exact .str y t
theorem key_reads {h : Heap} {P : Program} {w : World} {k : Key} {u : Value} (e : (mixKind P w).is k u = true) : Reads h u (keyP k) [] := by
  rcases keyIs_shape (show keyIs k u = true from e) with ⟨i, t, rfl, rfl⟩ | ⟨x, t, rfl, rfl⟩
  · exact .int i t
  · exact .str x t
theorem plK_reads {h : Heap} {P : Program} {w : World} : ∀ {vs : List (Key × V)} {q : List (PyData × PyData)} {es : List DictEntry} {ws : List (Key × Value)}, Pairs (mixKind P w) es ws → KV vs ws → PlK vs q →
    ReadsAll h (es.map (·.key)) (q.map (·.1)) [] ∧ ReadsAll h (es.map (·.val)) (q.map (·.2)) []
  | [], q, es, ws, p, k, l => by
    cases k
    cases p
    cases (show q = [] from l)
    exact ⟨.nil, .nil⟩
  | (k, v) :: vs, q, es, ws, p, kk, l => by
    cases kk with
    | cons k1 k2 =>
      cases p with
      | cons p1 p2 p3 =>
        obtain ⟨pd, s, rfl, l1, l2⟩ := l
        obtain ⟨i1, i2⟩ := plK_reads (h := h) p3 k2 l2
        obtain ⟨e1, r1⟩ := k1
        dsimp only at e1 r1
        refine ⟨ReadsAll.cons (as := []) (bs := []) ?_ i1, ReadsAll.cons (as := []) (bs := []) ?_ i2⟩
        · exact key_reads (by rw [e1]; exact p1)
        · exact plV_reads l1 (by have := r1; rw [← p2] at this; exact this)
section
variable {X : Cx}
theorem call_reprD (hg : X.A.guards = some []) (hu : X.A.units + 64 < cLine) : CallR X (.builtin "repr") (rRepr X.K) := by
  intro pins s σ H xs us Q I r h
  obtain ⟨x, p, rfl, hx, hs, hz, hd, q⟩ := h
  obtain ⟨u, rfl, ru⟩ := vals1 r
  have fin : ∀ h' t tk, (∀ b o, s.heap.get? b = some o → h'.get? b = some o) → EP X pins σ Q (.str p.shown t) { s with heap := h', toks := tk } := fun h' t tk k => ⟨.str p.shown, H, I.kept k, ⟨t, rfl⟩, q⟩
  rcases hx with ⟨hx, hnd⟩ | ⟨a, vs, kvs, rfl, rfl, hR, hP⟩
  · obtain ⟨as, R⟩ := Dp.reads I p x u hx ru
    cases hx with
    | non =>
      cases ru
      simp only [PyData.shown] at q
      exact PySem.P.repr_of_none ⟨.str _, H, I.tok _, ⟨_, rfl⟩, q⟩
    | bl b =>
      cases ru
      simp only [PyData.shown] at q
      exact PySem.P.repr_of_bool ⟨.str _, H, I.tok _, ⟨_, rfl⟩, q⟩
    | int i =>
      obtain ⟨t, rfl⟩ := ru
      simp only [PyData.shown] at q
      exact PySem.P.repr_of_int (by simpa [PyData.showable] using hs) ⟨.str _, H, I.tok _, ⟨_, rfl⟩, q⟩
    | str y =>
      obtain ⟨t, rfl⟩ := ru
      simp only [PyData.shown] at q hz
      exact PySem.P.repr_of_str ⟨.str _, H, I.tok _, ⟨_, rfl⟩, q⟩ hz
    | lst h1 h2 =>
      cases ru
      exact repr_of_reads' R hs (PyData.noDict_hsm hnd) hg (by omega) (fun _ _ e => e) fin hz
    | tup h1 h2 =>
      cases ru
      exact repr_of_reads' R hs (PyData.noDict_hsm hnd) hg (by omega) (fun _ _ e => e) fin hz
  · cases ru
    have ok : ObjOk X.prog X.w H s.heap a (.dK vs) := by
      rcases hR with hR | ⟨o, hR⟩
      · exact I.hok a _ hR
      · exact (I.hok a _ hR).2
    obtain ⟨_, ns, ws, kv, ob, es, ep, h1, h2, h3, _, h5, _⟩ := ok
    obtain ⟨r1, r2⟩ := plK_reads (h := s.heap) h5 kv hP
    refine repr_of_reads' (.dict h1 h2.1 h3 r1 r2) hs (fun _ m => ?_) hg (by omega) (fun _ _ e => e) fin hz
    simp only [List.append_nil, List.mem_singleton] at m
    rw [← m] at ns
    simp at ns
end
section
variable {g : Gx} {F H : Hp}
theorem plV_of {d : D} {p : PyData} {v : V} (e : flatP d = some p) (r : Rep g F d v) : PlV v p := by
  cases d <;> first
    | (cases e; simp only [Rep] at r; subst r; first | exact .inl ⟨rfl, rfl⟩ | exact .inr (.inl ⟨_, rfl, rfl⟩) | exact .inr (.inr (.inl ⟨_, rfl, rfl⟩)) | exact .inr (.inr (.inr ⟨_, rfl, rfl⟩)))
    | cases e
theorem plK_of : ∀ {kvs : List (Key × D)} {q : List (PyData × PyData)} {vs : List (Key × V)}, dicP kvs = some q → RepK g F kvs vs → PlK vs q
  | [], q, vs, e, r => by
    cases e
    simp only [RepK] at r
    subst r
    rfl
  | (k, d) :: kvs, q, vs, e, r => by
    simp only [RepK] at r
    obtain ⟨v, w, rfl, r1, r2⟩ := r
    unfold dicP at e
    cases e1 : flatP d with
    | none => rw [e1] at e; cases e
    | some p =>
      cases e2 : dicP kvs with
      | none => rw [e1, e2] at e; cases e
      | some qs =>
        rw [e1, e2] at e
        cases e
        exact ⟨p, qs, rfl, plV_of e1 r1, plK_of e2 r2⟩
theorem s_repr : SndN g (rRepr g.K) opRepr := by
  intro F H ds vs d Q s r e G
  cases ds with
  | nil => cases e
  | cons d0 t =>
    cases t with
    | cons d1 t => cases e
    | nil =>
      obtain ⟨v, rfl, rv⟩ := wrl1 r
      dsimp only [opRepr] at e
      cases q : toQ d0 with
      | none => rw [q] at e; cases e
      | some p =>
        rw [q] at e
        dsimp only at e
        by_cases c : canShow p = true
        · rw [if_pos c] at e
          cases e
          unfold canShow at c
          rw [Bool.and_eq_true, Bool.and_eq_true, decide_eq_true_eq, decide_eq_true_eq] at c
          refine ⟨v, p, rfl, ?_, c.1, by rw [sizeLine_eq]; exact c.2.1, c.2.2, G.str s⟩
          have base : toP d0 = some p → (Dp g.K H v p ∧ p.hasDict = false) ∨ DicR H v p := fun e => .inl ⟨dp_w s e rv, toP_noDict e⟩
          cases d0 with
          | dic kvs =>
            dsimp only [toQ] at q
            cases q2 : dicP kvs with
            | none => rw [q2] at q; cases q
            | some ps =>
              rw [q2] at q
              cases q
              obtain ⟨a, vs, rfl, ha, l⟩ := w_dic s rv
              exact .inr ⟨a, vs, ps, rfl, rfl, ha, plK_of q2 l⟩
          | _ => exact base q
        · rw [if_neg c] at e; cases e
end
section
variable {X : Cx} {fx : Fx} {W : WX} {ea : Bool} {p pos : Pos} {e : Expr} {es : List Expr} {m : M (List D)} {k : Nat}
theorem se_repr (hr : RoomG k X.A) (hm : X.mg "repr" = none) (ha : SA X fx W true ea (e :: es) m) (hn : ("repr" : Str) ≠ "__name__" := by decide) (hdb : (("repr" : Str) == ("__debug__" : Str)) = false := by decide)
    (h1 : starEach (e :: es) X.env = (false, eval e X.env) :: starEach es X.env := by rfl) (hpl : (backTo pos (starEach es X.env)).any (·.1) = false := by rfl) (hg : Gl X "repr" := by rfl) :
    SE X fx W true ea (.Call (.Name "repr" p) (e :: es) [] pos) (eN opRepr m) := PE.imp (pe_callB (call_reprD hr.g hr.units) hg hm PyProof.Rows.Boot.«repr» ha hn hdb h1 hpl) fun _ _ _ h => tE_eN s_repr h
end
end DL

set_option Elab.async false
set_option linter.all false
set_option maxRecDepth 100000
set_option maxHeartbeats 4000000
/-! DLai: set(xs) of a list of ints, sorted(set(xs)); sorted(xs) of ints, of texts -/
namespace DL
open PySem PySem.Spec PyProof.Rows L2
/-- a set as it is made -/
abbrev nset (w : World) : Obj := { cls := .type "set", dict := none, data := .set #[] 0 (.fresh 0 0 (!w.params.followText "set-order")) }
section
variable {P : Program} {w : World} {A : Around} {E : Value → Shared → Prop} {s : Shared}
abbrev withSet (w : World) (s : Shared) : Shared := { s with heap := s.heap.push (nset w) }
theorem set_of_list {l : Addr} {us : Array Value} (ns : List Int) {Q : Value → Shared → Prop} (hh : A.handled = none) (hl : s.heap.IsList l us) (hi : IntsAre us.toList ns) (hb : ns.length + 1 < scanBound)
    (fin : ∀ (g : Heap) (t c : Nat), SetR w g s.heap.objs.size (fun j => decide (j ∈ ns)) c → c ≤ ns.length → (∀ b o, s.heap.get? b = some o → g.get? b = some o) → Q (.ref s.heap.objs.size) { s with heap := g, toks := t }) :
    wpAny (model P w) A (call (.type "set") [.ref l]) Q E s := by
  have sz : us.size = ns.length := (Array.length_toList (xs := us)).symm.trans hi.length
  obtain ⟨_, _, hmro⟩ := F.called_set.mro
  have k1 := F.called_set.made
  have k2 := F.called_set.sub
  have k3 := F.called_set.notType
  have k4 := F.called_set.canCreate
  have k5 := F.typeCall_set_1 (.ref l)
  have new : (s.heap.push (nset w)).get? s.heap.objs.size = some (nset w) := Heap.get?_push_size _ rfl
  refine wpAny_call (codeAny_of_tree ?_)
  show wpAny _ _ (callAny (.type "set") _) _ _ _
  refine wpAny_pure ⟨Code.quiet_builtin _ (by decide +kernel), codeAny_builtin F.entry_type_call ?_⟩
  rw [Around.under_plain (weight_type_call_type "set" [.ref l] []) rfl]
  repeat (any_goals (first | assumption | wp_step))
  refine codeAny_mono (code_set_led1 (.ref l) (E := E) (Q₁ := fun x s1 => x = .ref s.heap.objs.size ∧ s1 = withSet w s) ⟨rfl, rfl⟩) fun r s1 q => ?_
  match r, q with
  | .error _, q => exact q
  | .ok .next, q => exact False.elim q
  | .ok .brk, q => exact False.elim q
  | .ok .cont, q => exact False.elim q
  | .ok (.ret x), ⟨e1, e2⟩ =>
    subst e1; subst e2
    have ty : Shared.TypeIs (withSet w s) (.ref s.heap.objs.size) "set" := ⟨_, new, rfl⟩
    have i1 := F.called_set.init.lookup
    have i2 := F.called_set.init.bind (.ref s.heap.objs.size)
    repeat (any_goals (first | assumption | wp_step))
    let Mid : Value → Shared → Prop := fun x s2 => x = .none ∧ ∃ g t c, s2 = { s with heap := g, toks := t } ∧ SetR w g s.heap.objs.size (fun j => decide (j ∈ ns)) c ∧ c ≤ ns.length ∧ ∀ b o, s.heap.get? b = some o → g.get? b = some o
    refine codeAny_mono (codeAny_call_builtin (R := wants Mid E) F.called_set.init.plain F.entry_set_init (check_set_init_1 ty ?_)) fun r2 s2 q2 => ?_
    · obtain ⟨⟨cls, dct, dat, slo⟩, ho, hc, n, hd⟩ := hl
      simp only at hc hd
      subst hc; subst hd
      have hlt : l < s.heap.objs.size := Heap.lt_size ho
      have there := Heap.get?_push_of_some (nset w) ho
      have z1 := F.sub_list_set
      have z2 := F.sub_list_frozenset
      have z3 : (Value.type "list" == Value.type "dict") = false := by decide
      have isl : (s.heap.push (nset w)).IsList l us := ⟨_, there, rfl, n, rfl⟩
      have hz : (s.heap.push (nset w)).objs.size = s.heap.objs.size + 1 := Heap.size_push ..
      unfold Builtin.«set.__init__» noKeywords Builtin.Frozenset.updateFrom
      generalize hIt : pyIter = it
      wp_walk
      subst hIt
      refine wpAny_pyIter_list isl (wpAny_bind (wpAny_runValue ?_))
      have quiet : A.in1.in1.in1.handled = none := by simp [hh]
      have apart : l ≠ (s.heap.push (nset w)).objs.size := hz ▸ Nat.ne_of_lt (Nat.lt_succ_of_lt hlt)
      have mine : s.heap.objs.size ∉ [(s.heap.push (nset w)).objs.size, l] := by
        simp only [List.mem_cons, List.not_mem_nil, or_false, not_or]
        exact ⟨hz ▸ Nat.ne_of_lt (Nat.lt_succ_self _), Nat.ne_of_gt hlt⟩
      have val : ∀ (i : Nat) (v : Value), us[i]? = some v → ∃ k t, ns[i]? = some k ∧ v = .int k t := by
        intro i v hv
        have lt : i < ns.length := sz ▸ (Array.getElem?_eq_some_iff.mp hv).1
        obtain ⟨t, e⟩ := PyProof.Rows.IntsAre.int_at hi i v (by rw [Array.getElem?_toList]; exact hv)
        have g1 : ns[i]? = some ns[i] := List.getElem?_eq_getElem lt
        exact ⟨ns[i], t, g1, by rw [e, List.getD_eq_getElem?_getD, g1]; rfl⟩
      refine set_update_ints ((Walks.list quiet _ l apart us).toS) s.heap.objs.size mine ns sz hb val (us.size - 0) 0 _ (by omega) (Nat.zero_le _) ⟨⟨_, Heap.get?_push_size _ rfl, rfl, rfl⟩, isl.push _⟩ ⟨0, Nat.le_refl 0, setR_new_at (Heap.get?_push_of_some _ new)⟩ ?_
      rintro ⟨g, gs, dr, tk, os⟩ c mv hc2 hS
      have m1 : gs = s.gens := mv.gens
      have m2 : dr = s.drawn := mv.drawn
      have m3 : os = s.os := mv.os
      subst m1; subst m2; subst m3
      show wpAny _ _ _ _ _ _
      refine wpAny_pure ?_
      show wpAny _ _ (ret Value.none) _ _ _
      refine wpAny_pure ⟨rfl, g, tk, c, rfl, hS, sz ▸ hc2, fun b o e => ?_⟩
      have blt : b < s.heap.objs.size := Heap.lt_size e
      refine mv.heap b o ?_ (Heap.get?_push_of_some _ (Heap.get?_push_of_some _ e))
      simp only [List.mem_cons, List.not_mem_nil, or_false, not_or]
      exact ⟨Nat.ne_of_lt blt, hz ▸ Nat.ne_of_lt (Nat.lt_succ_of_lt blt)⟩
    · match r2, q2 with
      | .error _, q2 => exact q2
      | .ok .next, q2 => exact False.elim q2
      | .ok .brk, q2 => exact False.elim q2
      | .ok .cont, q2 => exact False.elim q2
      | .ok (.ret x), ⟨e1, g, t, c, e2, hS, hc2, kp⟩ =>
        subst e1; subst e2
        repeat (any_goals (first | assumption | wp_step))
        exact fin _ _ _ hS hc2 kp
end
/-! ### the rules -/
def isort (ns : List Int) : List Int := ns.mergeSort fun a b => decide (a ≤ b)
theorem isort_perm (ns : List Int) : (isort ns).Perm ns := List.mergeSort_perm ..
theorem isort_le (ns : List Int) : (isort ns).Pairwise (· ≤ ·) := by
  have h := List.pairwise_mergeSort (le := fun a b : Int => decide (a ≤ b)) (fun a b c h1 h2 => by simp only [decide_eq_true_eq] at h1 h2 ⊢; omega) (fun a b => by simp only [Bool.or_eq_true, decide_eq_true_eq]; omega) ns
  exact h.imp fun q => by simpa using q
theorem isort_eq {ms ns : List Int} (p : ms.Perm ns) (h : ms.Pairwise (· ≤ ·)) : ms = isort ns := PySem.W.ksm_same (p.trans (isort_perm ns).symm) h (isort_le ns)
theorem isort_id {ns : List Int} (h : ns.Pairwise (· ≤ ·)) : isort ns = ns := (isort_eq (List.Perm.refl ns) h).symm
def usort (ns : List Int) : List Int := isort ns.eraseDups
theorem mem_eraseDups' {k : Int} : ∀ {ns : List Int}, k ∈ ns.eraseDups ↔ k ∈ ns := by
  intro ns; exact List.mem_eraseDups
theorem usort_mem {ns : List Int} {k : Int} : k ∈ usort ns ↔ k ∈ ns := (isort_perm _).mem_iff.trans List.mem_eraseDups
theorem nodup_eraseDups' : ∀ (n : Nat) (ns : List Int), ns.length ≤ n → ns.eraseDups.Nodup
  | 0, ns, h => by
    cases ns with
    | nil => rw [List.eraseDups_nil]; exact List.nodup_nil
    | cons a r => simp at h
  | n + 1, ns, h => by
    cases ns with
    | nil => rw [List.eraseDups_nil]; exact List.nodup_nil
    | cons a r =>
      rw [List.eraseDups_cons]
      refine List.nodup_cons.mpr ⟨fun m => ?_, nodup_eraseDups' n _ ?_⟩
      · have := List.mem_eraseDups.mp m
        simp at this
      · have := List.length_filter_le (fun b => !b == a) r
        simp only [List.length_cons] at h
        omega
theorem lt_of_le_nodup' : ∀ {l : List Int}, l.Pairwise (· ≤ ·) → l.Nodup → l.Pairwise (· < ·)
  | [], _, _ => .nil
  | a :: l, h, n => by
    rw [List.pairwise_cons] at h
    rw [List.nodup_cons] at n
    refine List.pairwise_cons.mpr ⟨fun b hb => ?_, lt_of_le_nodup' h.2 n.2⟩
    have h1 := h.1 b hb
    have h2 : a ≠ b := fun e => n.1 (e ▸ hb)
    omega
theorem usort_lt (ns : List Int) : (usort ns).Pairwise (· < ·) := lt_of_le_nodup' (isort_le _) ((isort_perm _).nodup_iff.mpr (nodup_eraseDups' _ _ (Nat.le_refl _)))
theorem asc_eq : ∀ {a b : List Int}, a.Pairwise (· < ·) → b.Pairwise (· < ·) → (∀ k, k ∈ a ↔ k ∈ b) → a = b := by
  intro a b ha hb h
  have na : a.Nodup := ha.imp fun q => by omega
  have nb : b.Nodup := hb.imp fun q => by omega
  exact PySem.W.ksm_same ((List.perm_ext_iff_of_nodup na nb).mpr h) (ha.imp fun q => by omega) (hb.imp fun q => by omega)
def opSorted : List D → R D
  | [d] => match lstOf d with
    | some xs => (match dInts xs with
      | some is => .ok (.lst ((isort is).map .int))
      | none => .bad)
    | none => .bad
  | _ => .bad
theorem s_sorted {g : Gx} : SndN g (rSortedI g.K) opSorted := by
  intro F H ds vs d Q s r e G
  cases ds with
  | nil => cases e
  | cons d0 t =>
    cases t with
    | cons d1 t => first | cases e | (cases d0 <;> cases e)
    | nil =>
      obtain ⟨v, rfl, rv⟩ := wrl1 r
      dsimp only [opSorted] at e
      cases q : lstOf d0 with
      | none => rw [q] at e; cases e
      | some xs =>
        rw [q] at e
        dsimp only at e
        cases q2 : dInts xs with
        | none => rw [q2] at e; cases e
        | some is =>
          rw [q2] at e; cases e
          obtain ⟨a, ws, rfl, h, l⟩ := w_lstOf s q rv
          rw [dInts_rep q2 l] at h
          refine ⟨a, is, rfl, h, fun ms p pm pw hp => ?_⟩
          rw [isort_eq pm pw]
          exact new_lst s (rep_ints _) G hp
def opSortSet (d : D) : R D := match lstOf d with
  | some xs => (match dInts xs with
    | some is => if is.length < 64 then .ok (.lst ((usort is).map .int)) else .bad
    | none => .bad)
  | none => .bad
def rSetI (w : World) (K : PySem.W.Frag) : List V → Hp → VK → Prop := fun xs H Q => ∃ (l : Addr) (ns : List Int), xs = [.ref l] ∧ SqL K H l (ns.map V.int) ∧ ns.length < 64 ∧
  ∀ (a : Addr) (c : Nat), H a = none → c ≤ ns.length → Q (.ref a) (upd H a (SetO w a (fun j => decide (j ∈ ns)) c))
section
variable {X : Cx}
theorem call_setI (hc : X.calm = true) : CallR X (.type "set") (rSetI X.w X.K) := by
  intro pins s σ H xs us Q I r h
  obtain ⟨l, ns, rfl, hS, h64, q⟩ := h
  obtain ⟨its, rv, hl, _⟩ := I.list hS
  rw [Vals.ref1 r]
  refine set_of_list ns (I.ok.hd hc) hl.isList (by simpa using rv.ints) (by unfold scanBound; omega) fun g t c hR hc2 kp => ?_
  exact ⟨.ref _, _, I.laid kp (Nat.le_refl _) (setO_new hR), rfl, q _ c (I.hok.fresh (Nat.le_refl _)) hc2⟩
end
section
variable {X : Cx} {fx : Fx} {W : WX} {ea ca : Bool} {p p2 pos q2 : Pos} {a : Expr} {ma : M D}
theorem se_sortSet (hc : X.calm = true) (hm1 : X.mg "sorted" = none) (hm2 : X.mg "set" = none) (ha : SE X fx W ca ea a ma) (hg1 : Gl X "sorted" := by rfl) (hg2 : Gl X "set" := by rfl)
    (h2 : starEach [a] X.env = (false, eval a X.env) :: starEach [] X.env := by rfl) (h1 : starEach [Expr.Call (.Name "set" p2) [a] [] q2] X.env = (false, eval (.Call (.Name "set" p2) [a] [] q2) X.env) :: starEach [] X.env := by rfl)
    (hp1 : (backTo pos (starEach [] X.env)).any (·.1) = false := by rfl) (hp2 : (backTo q2 (starEach [] X.env)).any (·.1) = false := by rfl) :
    SE X fx W true ea (.Call (.Name "sorted" p) [.Call (.Name "set" p2) [a] [] q2] [] pos) (e1 opSortSet ma) := by
  refine PE.imp (pe_callB (cr_sortedSet hc) hg1 hm1 PyProof.Rows.Boot.«sorted» (pa_cons (pe_callTy (call_setI hc) hg2 hm2 PyProof.Rows.Boot.«set» (pa_cons ha pa_nil h2) (by decide) (by decide) h2 hp2) pa_nil h1) (by decide) (by decide) h1 hp1) fun σ H Q h => ?_
  obtain ⟨F, ρ, S, h⟩ := h
  refine ⟨F, ρ, S, ?_⟩
  unfold e1 M.bind at h
  cases e1 : ma ρ with
  | bad => rw [e1] at h; exact h
  | exn c x r1 => rw [e1] at h; exact h
  | ok dx ρ1 =>
    rw [e1] at h
    intro v H1 F1 G1 S1 r1
    dsimp only [M.lift] at h
    unfold opSortSet at h
    cases q : lstOf dx with
    | none => rw [q] at h; exact h.elim
    | some xs =>
      rw [q] at h
      dsimp only at h
      cases q3 : dInts xs with
      | none => rw [q3] at h; exact h.elim
      | some is =>
        rw [q3] at h
        dsimp only at h
        by_cases c : is.length < 64
        · rw [if_pos c] at h
          dsimp only at h
          obtain ⟨l, ws, rfl, hS, hr⟩ := w_lstOf S1.s q r1.w
          rw [dInts_rep q3 hr] at hS
          refine ⟨l, is, rfl, hS, c, fun b k hb hk => ⟨b, _, k, rfl, upd_same, by omega, fun ms z pw mm ml hz => ?_⟩⟩
          have em : ms = usort is := asc_eq pw (usort_lt is) fun j => by rw [mm, usort_mem, decide_eq_true_eq]
          rw [em]
          have Ga : Grow F1 H1 F1 (upd H1 b (SetO X.w b (fun j => decide (j ∈ is)) k)) := Grow.big S1.s hb
          have Gb := Grow.new Ga.s hz (o := HO.lst ((usort is).map V.int))
          have G := Ga.trans Gb
          refine h _ _ _ (by
            have q := G1.trans (Go.of (eff := false) (ρ := ρ1) G)
            rwa [Bool.or_false] at q) (S1.grow G) ?_
          show Rep _ _ _ _
          simp only [Rep]
          exact ⟨z, _, rfl, upd_same, rep_ints _⟩
        · rw [if_neg c] at h; exact h.elim
end
end DL

set_option Elab.async false
set_option linter.all false
set_option maxRecDepth 100000
set_option maxHeartbeats 4000000
/-! DLaj: calls that leave out parameters with defaults (plain constants) -/
namespace DL
open PySem PySem.Spec PyProof.Rows L2
section
variable {X : Cx} {CX : CXT} {k : Nat} {f : Addr} {fd : FuncData} {ps : List Str} {sp : Sp} {E : L2.St → XK} {x : Str} {p pos : Pos} {e : Expr} {es : List Expr} {t : TA} {dvs : List V} {ds : List Value}
theorem run_fnGD {pins : List (Addr × Obj)} {σ : L2.St} {H : Hp} {s : Shared} {Q : VK} {us : List Value} {xs : List V} (F : FnG X.prog X.w X.K X.mg X.base CX k f fd ps sp) (r : RoomG k X.A) (b : Binds X.K fd ps ds) (dv : Vals dvs ds) (hx : PassesAt CX X σ (E σ))
    (I : Inv X pins σ H s) (v : Vals xs us) (h : sp (xs ++ dvs) H Q (E σ)) : wpAny (model X.prog X.w) X.A (call (.ref f) us) (EP X pins σ Q) X.xe s := by
  have v2 := v.append dv
  have n : (us ++ ds).length = ps.length := by rw [← v2.length]; exact F.len _ _ _ _ h
  exact wpAny_call (goG hx I (F.go X.A X.stack s H ⟨us, []⟩ (us ++ ds) (xs ++ dvs) Q (E σ) r I.env0 (b s us I.kIn n) v2 h))
theorem pe_callGD (F : FnG X.prog X.w X.K X.mg X.base CX k f fd ps sp) (r : RoomG k X.A) (hg : Gl X x) (hm : X.mg x = some (.ref f)) (hk : PySem.W.keepIn X.K (.ref f) = true) (b : Binds X.K fd ps ds) (dv : Vals dvs ds) (hx : ∀ σ, PassesAt CX X σ (E σ)) (ha : PA X (e :: es) t)
    (hdb : (x == ("__debug__" : Str)) = false := by decide) (he : starEach (e :: es) X.env = (false, eval e X.env) :: starEach es X.env := by rfl) (hpl : (backTo pos (starEach es X.env)).any (·.1) = false := by rfl) : PE X (.Call (.Name x p) (e :: es) [] pos) (tCallSD sp dvs E t) := by
  refine ⟨fun pins s σ H Q I h => wpAny_Call_Name_kw (ld_glob I hg hm ?_ hdb)⟩
  exact PySem.W.callWith_K (h₀ := X.base) I.ok.mod.kin hk (thn (ha.run pos pins s σ H _ I h) fun us s1 ⟨xs, H1, I1, v, q⟩ => ⟨I1.kIn, run_fnGD F r b dv (hx σ) I1 v q⟩) he hpl
end
/-- a def, called with its last parameters left out: these are dds -/
structure FdD (P : Program) (w : World) (K : PySem.W.Frag) (mg : Str → Option Value) (base : Heap) (x : Str) (dds : List D) (n k : Nat) (fn : Fn) : Prop where
  ex : ∃ f fd ps dvs ds, FnG P w K mg base (L2.CX P w) k f fd ps (spOf ⟨K, mg⟩ [] .cl n fn) ∧ mg x = some (.ref f) ∧ PySem.W.keepIn K (.ref f) = true ∧ flats dds = some dvs ∧ Vals dvs ds ∧ Binds K fd ps ds
def eCallD (fn : Fn) (dds : List D) (m : M (List D)) : M D := eCall fn (m.bind fun ds => M.pure (ds ++ dds))
theorem flat_back {g : Gx} {F : Hp} {d : D} {v : V} (e : flat d = some v) : Rep g F d v := by
  cases d <;> first
    | (cases e; simp only [Rep])
    | cases e
theorem vrl_flats {g : Gx} {F H : Hp} : ∀ {dds : List D} {dvs : List V}, flats dds = some dvs → VRL true g F H dds dvs
  | [], dvs, e => by
    unfold flats at e
    cases e
    rfl
  | d :: ds, dvs, e => by
    unfold flats at e
    cases e1 : flat d with
    | none => rw [e1] at e; cases e
    | some v =>
      rw [e1] at e
      dsimp only at e
      cases e2 : flats ds with
      | none => rw [e2] at e; cases e
      | some vs =>
        rw [e2] at e
        cases e
        exact ⟨v, vs, rfl, flat_back e1, vrl_flats e2⟩
theorem vrl_app {g : Gx} {F H : Hp} : ∀ {as bs : List D} {us vs : List V}, VRL true g F H as us → VRL true g F H bs vs → VRL true g F H (as ++ bs) (us ++ vs)
  | [], bs, us, vs, h, k => by
    have e : us = [] := h
    rw [e]
    exact k
  | a :: as, bs, us, vs, h, k => by
    obtain ⟨v, r, rfl, h1, h2⟩ := h
    exact ⟨v, r ++ vs, rfl, h1, vrl_app h2 k⟩
section
variable {X : Cx} {fx : Fx} {W : WX} {ea : Bool} {x : Str} {p pos : Pos} {e : Expr} {es : List Expr} {m : M (List D)} {fn : Fn} {n j k : Nat} {dds : List D}
theorem se_callD (C : FdD X.prog X.w X.K X.mg X.base x dds n k fn) (hr : RoomG k X.A) (tk : Takes X W) (ha : SA X fx W true ea (e :: es) m) (hn : ∀ ρ ds ρ', m ρ = .ok ds ρ' → ds.length = j) (hj : j + dds.length = n := by rfl) (hg : Gl X x := by rfl)
    (hdb : (x == ("__debug__" : Str)) = false := by decide) (he : starEach (e :: es) X.env = (false, eval e X.env) :: starEach es X.env := by rfl) (hpl : (backTo pos (starEach es X.env)).any (·.1) = false := by rfl) :
    SE X fx W true ea (.Call (.Name x p) (e :: es) [] pos) (eCallD fn dds m) := by
  obtain ⟨f, fd, ps, dvs, ds, F, hm, hk, hf, hv, hb⟩ := C.ex
  refine PE.imp (pe_callGD F hr hg hm hk hb hv (fun σ => passAt tk σ) ha hdb he hpl) fun σ H Q q => ?_
  have h := tE_call (n := n) (m := m.bind fun ds => M.pure (ds ++ dds)) (fun ρ ds ρ' e => by
    unfold M.bind M.pure at e
    cases e1 : m ρ with
    | bad => rw [e1] at e; cases e
    | exn c x r1 => rw [e1] at e; cases e
    | ok ds1 ρ1 =>
      rw [e1] at e
      cases e
      rw [List.length_append, hn _ _ _ e1]
      exact hj) q
  obtain ⟨F0, ρ, S, h⟩ := h
  refine ⟨F0, ρ, S, ?_⟩
  unfold M.bind M.pure at h
  cases e1 : m ρ with
  | bad => rw [e1] at h; exact h
  | exn c x r1 => rw [e1] at h; exact h
  | ok ds1 ρ1 =>
    rw [e1] at h
    intro zs H1 F1 G1 S1 r1
    exact h (zs ++ dvs) H1 F1 G1 S1 (vrl_app r1 (vrl_flats hf))
end
/-- what K holds of a def with defaults -/
def Dfl (K : PySem.W.Frag) (mg : Str → Option Value) (x : Str) (st : Stmt) (dvs : List V) : Prop := ∃ f fd, FunD K x x (defArgs st) (defBody st) (defScope st) dvs [] f fd ∧ mg x = some (.ref f)
section
variable {P : Program} {w : World} {K : PySem.W.Frag} {mg : Str → Option Value} {base : Heap} {x : Str} {st : Stmt} {mask : List Nat} {rk : Rk} {n k : Nat} {fn : Fn} {ps : List Str} {dvs : List V}
theorem dfl_bind (h : Fw P w K mg base x st ps mask rk n k fn) (d : Dfl K mg x st dvs) (m j : Nat) (hd : dvs ≠ []) (hn : m + (dvs.length - j) = ps.length)
    (hb : ∀ (T : Addr) (kV doc pm : Value) (an : Option Addr) (cdv ct : Value) (us its : List Value), us.length = m → its.length = dvs.length →
      ∃ k, bindArgs (PySem.W.fnOf x x (defArgs st) (defBody st) (defScope st) (.ref T) kV doc pm an cdv ct) ⟨us, []⟩ = seqItems? (.ref T) >>= k ∧ k (some its.toArray) = pure (ps.zip (us ++ its.drop j))) :
    ∃ f fd, FnG P w K mg base (L2.CX P w) k f fd ps (spOf ⟨K, mg⟩ mask rk n fn) ∧ mg x = some (.ref f) ∧ PySem.W.keepIn K (.ref f) = true ∧ ∃ ds, Vals (dvs.drop j) ds ∧ Binds K fd ps ds := by
  obtain ⟨f, fd, F, G, hm⟩ := h
  obtain ⟨f2, fd2, F2, hm2⟩ := d
  rw [hm] at hm2
  cases hm2
  have e : fd2 = fd := by
    obtain ⟨_, _, _, _, _, _, _, _, _, _, e1, l1, _⟩ := F.ex
    obtain ⟨_, _, _, _, _, _, _, _, _, _, e2, l2, _⟩ := F2.ex
    rw [l1] at l2
    cases l2
    rfl
  subst e
  exact ⟨f, _, G, hm, F.kp, F2.binds1 m j hd hn hb⟩
/-- all parameters are given -/
theorem fd_ofD (h : Fw P w K mg base x st ps mask rk n k fn) (d : Dfl K mg x st dvs) (hd : dvs ≠ [])
    (hb : ∀ (T : Addr) (kV doc pm : Value) (an : Option Addr) (cdv ct : Value) (us its : List Value), us.length = ps.length → its.length = dvs.length →
      ∃ k, bindArgs (PySem.W.fnOf x x (defArgs st) (defBody st) (defScope st) (.ref T) kV doc pm an cdv ct) ⟨us, []⟩ = seqItems? (.ref T) >>= k ∧ k (some its.toArray) = pure (ps.zip (us ++ its.drop dvs.length))) : Fd P w K mg base x mask rk n k fn := by
  obtain ⟨f, fd, G, hm, kp, ds, v, b⟩ := dfl_bind h d ps.length dvs.length hd (by omega) hb
  rw [List.drop_length] at v
  cases v
  exact ⟨f, fd, ps, G, hm, kp, b⟩
theorem fdd_of (h : Fw P w K mg base x st ps [] .cl n k fn) (d : Dfl K mg x st dvs) (m j : Nat) (hd : dvs ≠ []) (hn : m + (dvs.length - j) = ps.length) {dds : List D} (hf : flats dds = some (dvs.drop j))
    (hb : ∀ (T : Addr) (kV doc pm : Value) (an : Option Addr) (cdv ct : Value) (us its : List Value), us.length = m → its.length = dvs.length →
      ∃ k, bindArgs (PySem.W.fnOf x x (defArgs st) (defBody st) (defScope st) (.ref T) kV doc pm an cdv ct) ⟨us, []⟩ = seqItems? (.ref T) >>= k ∧ k (some its.toArray) = pure (ps.zip (us ++ its.drop j))) : FdD P w K mg base x dds n k fn := by
  obtain ⟨f, fd, G, hm, kp, ds, v, b⟩ := dfl_bind h d m j hd hn hb
  exact ⟨f, fd, ps, _, ds, G, hm, kp, hf, v, b⟩
end
end DL

set_option Elab.async false
set_option linter.all false
set_option maxRecDepth 100000
set_option maxHeartbeats 4000000
/-! DLak: a, b = e1, e2 with a the frame's own -/
namespace DL
open PySem PySem.Spec PyProof.Rows L2
def sParO (i j : Nat) (m1 m2 : M D) : MS := sDo m1 fun d1 => sDo m2 fun d2 ρ => .nx ((ρ.set i (.ow d1)).set j (.cl d2))
section
variable {g : Gx} {fx : Fx} {W : WX} {σ : L2.St} {H : Hp} {E : Ends} {ea eb : Bool} {m1 m2 : M D}
theorem tS_parO {i j : Nat} (hi : fx.ow.contains i = false) (hj : fx.ow.contains j = false) (h : tS g fx W (sParO i j m1 m2) E σ H) : tPar i j (tCons (tF g fx W ea m1) (tCons (tE g fx W true eb m2) tNil)) E σ H := by
  obtain ⟨F, ρ, S, h⟩ := h
  refine ⟨F, ρ, S, ?_⟩
  unfold sParO sDo at h
  cases e : m1 ρ with
  | bad => rw [e] at h; exact h
  | exn c x r =>
    rw [e] at h
    exact xgs h
  | ok d1 ρ1 =>
    rw [e] at h
    dsimp only at h
    intro a H1 F1 G1 S1 fa o h0 hn ha
    refine ⟨F1, ρ1, S1, ?_⟩
    cases e2 : m2 ρ1 with
    | bad => rw [e2] at h; exact h
    | exn c x r =>
      rw [e2] at h
      exact xst G1 (xgs h)
    | ok d2 ρ2 =>
      rw [e2] at h
      dsimp only at h
      intro w H2 F2 G2 S2 r2
      obtain ⟨u, hu⟩ := o.there
      have off : ∀ (k : Nat) d, ρ1[k]? = some (.ow d) → σ[k]? ≠ some (some (.ref a)) := hn
      have same : H2 a = some u := G2.k a u hu off
      have f2 : F2 a = none := by
        cases q : F2 a with
        | none => rfl
        | some z =>
          rcases G2.n a z q with y | y | ⟨k, d, y1, y2⟩
          · rw [fa] at y; cases y
          · rw [hu] at y; cases y
          · exact absurd y2 (off k d y1)
      have o2 : Own g F2 H2 a d1 := o.move G2.f (same.trans hu.symm)
      have hn2 : ∀ (k : Nat) d, ρ2[k]? = some (.ow d) → σ[k]? ≠ some (some (.ref a)) := fun k d q => by
        obtain ⟨d', q'⟩ := G2.o k d q
        exact off k d' q'
      exact ⟨.ref a, w, rfl, h _ H2 F2 ((asgO_end hi (G1.trans G2) S2 f2 o2 h0 hn2 ha).trans gs_set) ((S2.setO hi f2 o2 h0 hn2).set hj r2)⟩
end
section
variable {X : Cx} {fx : Fx} {W : WX} {ea eb : Bool} {m1 m2 : M D} {a b : Expr} {pos py : Pos} {y : Str}
theorem ss_parO (i j : Nat) {x : Str} {px pt : Pos} {kt k2 : Nat} {pt2 : Pos} (hc : X.calm = true) (hN : X.N.Nodup) (ha : SF X fx W ea a m1) (hb : SE X fx W true eb b m2) (hi : X.N[i]? = some x := by rfl) (hj : X.N[j]? = some y := by rfl) (hij : i ≠ j := by decide) (oi : fx.ow.contains i = false := by rfl) (oj : fx.ow.contains j = false := by rfl)
    (hx : X.env.scope.names.lookup x = some .local := by rfl) (hy : X.env.scope.names.lookup y = some .local := by rfl)
    (h1 : starEach (a :: [b]) X.env = (false, eval a X.env) :: starEach [b] X.env := by rfl) (h2 : starEach (b :: []) X.env = (false, eval b X.env) :: starEach [] X.env := by rfl)
    (hw : swappedStores [.Tuple [.Name x px, .Name y py] kt pt] (.Tuple [a, b] k2 pt2) X.env = pure (some [x, y]) := by rfl)
    (hs : swapsWithSole [.Tuple [.Name x px, .Name y py] kt pt] (.Tuple [a, b] k2 pt2) pos.line X.env = pure false := by rfl) :
    SS X fx W (.Assign [.Tuple [.Name x px, .Name y py] kt pt] (.Tuple [a, b] k2 pt2) pos) (sParO i j m1 m2) := PS.imp (ps_par hc hN hi hj hij hx hy (pa_cons ha (pa_cons hb pa_nil h2) h1) hw hs) fun E σ H q => tS_parO oi oj q
end
end DL

set_option Elab.async false
set_option linter.all false
set_option maxRecDepth 100000
set_option maxHeartbeats 4000000
/-! DLal: find from a place on, split with a bound, extend, insert, x += e, a, b, c = .. with own ones, tuples of tuples of the top, list + list as a new list -/
namespace DL
open PySem PySem.Spec PyProof.Rows L2
section
variable {g : Gx} {F H : Hp}
def opFind3 (x : D) (as : List D) : R D := match x, as with
  | .str a, [.str b, .int i] => .ok (.int (Txt.find3 a b i))
  | _, _ => .bad
def opFind4 (x : D) (as : List D) : R D := match x, as with
  | .str a, [.str b, .int i, .int j] => .ok (.int (Txt.findIn a b i j))
  | _, _ => .bad
def opSplitM (x : D) (as : List D) : R D := match x, as with
  | .str a, [.str b, .int k] => if (b.length ≠ 0 ∧ a.length + 2 ≤ 16777216) ∧ -(2 ^ 63) ≤ k ∧ k < 2 ^ 63 then .ok (.lst ((Txt.splitMax a b k).map .str)) else .bad
  | _, _ => .bad
theorem wrl3 {d e f : D} {vs : List V} (h : WRL g F H [d, e, f] vs) : ∃ v w u, vs = [v, w, u] ∧ WRep g F H d v ∧ WRep g F H e w ∧ WRep g F H f u := by
  obtain ⟨v, r, rfl, h1, h2⟩ := h
  obtain ⟨w, u, rfl, h3, h4⟩ := wrl2 h2
  exact ⟨v, w, u, rfl, h1, h3, h4⟩
theorem s_find3 : SndM g (fun x xs H Q => ∃ (a b : Str) (i : Int), x = .str a ∧ xs = [.str b, .int i] ∧ Q (.int (Txt.find3 a b i)) H) opFind3 := by
  intro F H dx x ds vs d Q s rx r e G
  unfold opFind3 at e
  split at e
  · rename_i a b i
    cases e
    obtain ⟨v, w, rfl, h1, h2⟩ := wrl2 r
    exact ⟨a, b, i, w_str rx, by rw [w_str h1, w_int h2], G.int s⟩
  · cases e
theorem s_find4 : SndM g (fun x xs H Q => ∃ (a b : Str) (i j : Int), x = .str a ∧ xs = [.str b, .int i, .int j] ∧ Q (.int (Txt.findIn a b i j)) H) opFind4 := by
  intro F H dx x ds vs d Q s rx r e G
  unfold opFind4 at e
  split at e
  · rename_i a b i j
    cases e
    obtain ⟨v, w, u, rfl, h1, h2, h3⟩ := wrl3 r
    exact ⟨a, b, i, j, w_str rx, by rw [w_str h1, w_int h2, w_int h3], G.int s⟩
  · cases e
theorem s_splitM : SndM g (fun x xs H Q => ∃ (a b : Str) (k : Int), x = .str a ∧ xs = [.str b, .int k] ∧ (b.length == 0) = false ∧ -(2 ^ 63) ≤ k ∧ k < 2 ^ 63 ∧ a.length + 2 ≤ sizeLine ∧ rNewStrs (Txt.splitMax a b k) H Q) opSplitM := by
  intro F H dx x ds vs d Q s rx r e G
  unfold opSplitM at e
  split at e
  · rename_i a b k
    by_cases q : (b.length ≠ 0 ∧ a.length + 2 ≤ 16777216) ∧ -(2 ^ 63) ≤ k ∧ k < 2 ^ 63
    · rw [if_pos q] at e
      cases e
      obtain ⟨v, w, rfl, h1, h2⟩ := wrl2 r
      exact ⟨a, b, k, w_str rx, by rw [w_str h1, w_int h2], by simpa using q.1.1, q.2.1, q.2.2, by rw [sizeLine_eq]; exact q.1.2, fun p hp => new_lst s (strs_rep _) G hp⟩
    · rw [if_neg q] at e; cases e
  · cases e
end
/-! ### x.extend(e), x.insert(i, e) -/
def sExt (i : Nat) (m : M D) : MS := fun ρ => match owLst ρ[i]? with
  | .bad => .bad
  | .ok _ => sDo m (fun d ρ1 => match owLst ρ1[i]?, d with
    | .ok xs, .lst ys => if xs.length + ys.length ≤ 16777216 then .nx (ρ1.set i (.ow (.lst (xs ++ ys)))) else .bad
    | _, _ => .bad) ρ
def sIns (i : Nat) (m : M (List D)) : MS := fun ρ => match owLst ρ[i]? with
  | .bad => .bad
  | .ok _ => sDo m (fun ds ρ1 => match owLst ρ1[i]?, ds with
    | .ok xs, [.int k, d] => if (xs.length < 16777216 ∧ 0 ≤ k) ∧ k < 2 ^ 63 then .nx (ρ1.set i (.ow (.lst (xs.take k.toNat ++ [d] ++ xs.drop k.toNat)))) else .bad
    | _, _ => .bad) ρ
section
variable {g : Gx} {fx : Fx} {W : WX} {σ : L2.St} {H F : Hp} {ρ : Rho} {E : Ends} {ea : Bool} {m : M D} {ml : M (List D)}
theorem tS_ext {i : Nat} (h : tS g fx W (sExt i m) E σ H) : tDrop (tBM g.K "list" rExtend (tVar i) (tCons (tE g fx W true ea m) tNil)) E σ H := by
  obtain ⟨F, ρ, S, h⟩ := h
  unfold sExt at h
  cases e0 : owLst ρ[i]? with
  | bad => rw [e0] at h; exact h.elim
  | ok ys =>
    rw [e0] at h
    obtain ⟨a, ea', fa, ⟨ws, hw, _⟩, _⟩ := S.ow i _ (owLst_eq e0)
    refine ⟨.ref a, ea', .inl ⟨rfl, ws, SqL.of hw⟩, F, ρ, S, ?_⟩
    dsimp only [sDo] at h
    cases e : m ρ with
    | bad => rw [e] at h; exact h
    | exn c x r =>
      rw [e] at h
      exact xgs h
    | ok d ρ1 =>
      rw [e] at h
      intro v H1 F1 G1 S1 r1
      dsimp only at h
      cases e2 : owLst ρ1[i]? with
      | bad => rw [e2] at h; exact h.elim
      | ok xs =>
        rw [e2] at h
        cases d with
        | lst ys2 =>
          dsimp only at h
          have hi := owLst_eq e2
          obtain ⟨b, eb, fb, ⟨vs, hv, l⟩, _⟩ := S1.ow i _ hi
          rw [ea'] at eb
          cases eb
          have r1' : Rep g F1 (.lst ys2) v := r1
          simp only [Rep] at r1'
          obtain ⟨c, us, rfl, hc, l2⟩ := r1'
          by_cases q : xs.length + ys2.length ≤ 16777216
          · rw [if_pos q] at h
            obtain ⟨S2, G2⟩ := S1.put (o := .lst (vs ++ us)) (d' := .lst (xs ++ ys2)) hi ea' ⟨vs ++ us, upd_same, l.append l2⟩
            exact ⟨a, c, vs, us, rfl, rfl, hv, S1.s _ _ hc, by rw [l.length, l2.length, sizeLine_eq]; exact q, h σ _ F1 (G1.gs.trans G2.gs) S2⟩
          · rw [if_neg q] at h; exact h.elim
        | _ => exact h.elim
theorem tS_ins {i : Nat} (h : tS g fx W (sIns i ml) E σ H) : tDrop (tBM g.K "list" (fun x vs H Q => ∃ (l : Addr) (xs : List V) (i : Int) (y : V), x = .ref l ∧ vs = [.int i, y] ∧ H l = some (.lst xs) ∧ xs.length < sizeLine ∧ 0 ≤ i ∧ i < 2 ^ 63 ∧ Q .non (upd H l (.lst (xs.take i.toNat ++ [y] ++ xs.drop i.toNat)))) (tVar i) (tA g fx W true ea ml)) E σ H := by
  obtain ⟨F, ρ, S, h⟩ := h
  unfold sIns at h
  cases e0 : owLst ρ[i]? with
  | bad => rw [e0] at h; exact h.elim
  | ok ys =>
    rw [e0] at h
    obtain ⟨a, ea', fa, ⟨ws, hw, _⟩, _⟩ := S.ow i _ (owLst_eq e0)
    refine ⟨.ref a, ea', .inl ⟨rfl, ws, SqL.of hw⟩, F, ρ, S, ?_⟩
    dsimp only [sDo] at h
    cases e : ml ρ with
    | bad => rw [e] at h; exact h
    | exn c x r =>
      rw [e] at h
      exact xgs h
    | ok ds ρ1 =>
      rw [e] at h
      intro zs H1 F1 G1 S1 r1
      dsimp only at h
      cases e2 : owLst ρ1[i]? with
      | bad => rw [e2] at h; exact h.elim
      | ok xs =>
        rw [e2] at h
        have hi := owLst_eq e2
        obtain ⟨b, eb, fb, ⟨vs, hv, l⟩, _⟩ := S1.ow i _ hi
        rw [ea'] at eb
        cases eb
        match ds, h, r1 with
        | [.int k, d], h, r1 =>
          dsimp only at h
          obtain ⟨v1, r, rfl, h1, v2, r', rfl, h2, h3⟩ := r1
          cases (show r' = [] from h3)
          have ev : v1 = .int k := by
            have h1' : Rep g F1 (.int k) v1 := h1
            simpa only [Rep] using h1'
          subst ev
          by_cases q : (xs.length < 16777216 ∧ 0 ≤ k) ∧ k < 2 ^ 63
          · rw [if_pos q] at h
            have h2' : Rep g F1 d v2 := h2
            obtain ⟨S2, G2⟩ := S1.put (o := .lst (vs.take k.toNat ++ [v2] ++ vs.drop k.toNat)) (d' := .lst (xs.take k.toNat ++ [d] ++ xs.drop k.toNat)) hi ea' ⟨_, upd_same, ((l.take _).append (RepL.one h2')).append (l.drop _)⟩
            exact ⟨a, vs, k, v2, rfl, rfl, hv, by rw [l.length, sizeLine_eq]; exact q.1.1, q.1.2, q.2, h σ _ F1 (G1.gs.trans G2.gs) S2⟩
          · rw [if_neg q] at h; exact h.elim
/-! ### x += e of ints, of texts -/
def addIS : D → D → R D
  | .int a, .int b => .ok (.int (a + b))
  | .str a, .str b => if a.length + b.length ≤ 16777216 then .ok (.str (a ++ b)) else .bad
  | _, _ => .bad
def sAug (i : Nat) (m : M D) : MS := fun ρ => match ρ[i]? with
  | some (.cl x) => sDo m (fun y ρ1 => match addIS x y with
    | .ok z => .nx (ρ1.set i (.cl z))
    | .bad => .bad) ρ
  | _ => .bad
def tiIS : TIp := fun x y H Q => (∃ i j, x = .int i ∧ y = .int j ∧ Q (.int (i + j)) H) ∨ ∃ i j, x = .str i ∧ y = .str j ∧ i.length + j.length ≤ sizeLine ∧ Q (.str (i ++ j)) H
theorem ip_IS {X : Cx} : PIp X .Add tiIS := by
  intro pins s σ H x y v u Q I r1 r2 h
  rcases h with h | h
  · exact ip_add pins s σ H x y v u Q I r1 r2 h
  · exact iop_add_str pins s σ H x y v u Q I r1 r2 h
theorem tS_aug {i : Nat} (hi : fx.ow.contains i = false) (h : tS g fx W (sAug i m) E σ H) : tAug i (tE g fx W true ea m) tiIS E σ H := by
  obtain ⟨F, ρ, S, h⟩ := h
  unfold sAug at h
  split at h
  · rename_i x hx
    obtain ⟨v, e1, rv⟩ := S.cl i x hx
    refine ⟨v, e1, F, ρ, S, ?_⟩
    unfold sDo at h
    cases e : m ρ with
    | bad => rw [e] at h; exact h
    | exn c x r =>
      rw [e] at h
      exact xgs h
    | ok y ρ1 =>
      rw [e] at h
      intro w H1 F1 G1 S1 r1
      dsimp only at h
      cases q : addIS x y with
      | bad => rw [q] at h; exact h.elim
      | ok z =>
        rw [q] at h
        have r1' : Rep g F1 y w := r1
        unfold addIS at q
        split at q
        · cases q
          simp only [Rep] at rv r1'
          subst rv; subst r1'
          exact .inl ⟨_, _, rfl, rfl, h _ H1 F1 (G1.gs.trans gs_set) (S1.set hi (by simp only [Rep]))⟩
        · rename_i a b
          by_cases c : a.length + b.length ≤ 16777216
          · rw [if_pos c] at q
            cases q
            simp only [Rep] at rv r1'
            subst rv; subst r1'
            exact .inr ⟨_, _, rfl, rfl, by rw [sizeLine_eq]; exact c, h _ H1 F1 (G1.gs.trans gs_set) (S1.set hi (by simp only [Rep]))⟩
          · rw [if_neg c] at q; cases q
        · cases q
  · exact h.elim
end
section
variable {X : Cx} {fx : Fx} {W : WX} {ea : Bool} {m : M D} {ml : M (List D)} {spos py apos cpos : Pos} {es : List Expr} {e f : Expr} {y : Str}
theorem ss_ext (i : Nat) (he : SE X fx W true ea e m) (hN : X.N[i]? = some y := by rfl) (hv : Vis X.env.scope y := by first | exact Or.inl rfl | exact Or.inr (Or.inl rfl) | exact Or.inr (Or.inr rfl)) (hd : (y == ("__debug__" : Str)) = false := by decide) (hcd : (y == ("__classdict__" : Str)) = false := by decide)
    (h1 : starEach [e] X.env = (false, eval e X.env) :: starEach [] X.env := by rfl) (hbase : attributeBase (.Name y py) "extend" X.env (eval (.Name y py) X.env) = eval (.Name y py) X.env := by rfl)
    (hfew : ((backTo cpos (starEach [e] X.env)).all (fun x => !x.1) && (backToKw cpos (keywordEach [] X.env)).all (fun x => x.1.isSome) && decide (([e] : List Expr).length + ([] : List Keyword).length + (if ([] : List Keyword).isEmpty then 0 else 1) < 30)) = true := by rfl)
    (hline : (apos.endLine == cpos.line) = true := by rfl) (hplain : (backTo cpos (starEach [] X.env)).any (·.1) = false := by rfl) (hsw : swapsWith (.Call (.Attribute (.Name y py) "extend" apos) [e] [] cpos) none spos.line X.env = pure false := by rfl) :
    SS X fx W (.Expr (.Call (.Attribute (.Name y py) "extend" apos) [e] [] cpos) spos) (sExt i m) :=
  PS.imp (ps_expr (pe_bm PySem.F.plainAttrs_list PySem.F.slot_list_extend PySem.F.type_list_extend mt_extend (pv i hN hv hd hcd) (pa_cons he pa_nil h1) hbase hfew hline h1 hplain) hsw) fun E σ H q => tS_ext q
theorem ss_ins (i : Nat) (ha : SA X fx W true ea [e, f] ml) (hN : X.N[i]? = some y := by rfl) (hv : Vis X.env.scope y := by first | exact Or.inl rfl | exact Or.inr (Or.inl rfl) | exact Or.inr (Or.inr rfl)) (hd : (y == ("__debug__" : Str)) = false := by decide) (hcd : (y == ("__classdict__" : Str)) = false := by decide)
    (h1 : starEach (e :: [f]) X.env = (false, eval e X.env) :: starEach [f] X.env := by rfl) (hbase : attributeBase (.Name y py) "insert" X.env (eval (.Name y py) X.env) = eval (.Name y py) X.env := by rfl)
    (hfew : ((backTo cpos (starEach (e :: [f]) X.env)).all (fun x => !x.1) && (backToKw cpos (keywordEach [] X.env)).all (fun x => x.1.isSome) && decide ((e :: [f] : List Expr).length + ([] : List Keyword).length + (if ([] : List Keyword).isEmpty then 0 else 1) < 30)) = true := by rfl)
    (hline : (apos.endLine == cpos.line) = true := by rfl) (hplain : (backTo cpos (starEach [f] X.env)).any (·.1) = false := by rfl) (hsw : swapsWith (.Call (.Attribute (.Name y py) "insert" apos) [e, f] [] cpos) none spos.line X.env = pure false := by rfl) :
    SS X fx W (.Expr (.Call (.Attribute (.Name y py) "insert" apos) [e, f] [] cpos) spos) (sIns i ml) :=
  PS.imp (ps_expr (pe_bm PySem.F.plainAttrs_list PySem.F.slot_list_insert PySem.F.type_list_insert mt_insert (pv i hN hv hd hcd) ha hbase hfew hline h1 hplain) hsw) fun E σ H q => tS_ins q
theorem ss_aug (i : Nat) {pos : Pos} (hN : X.N.Nodup) (he : SE X fx W true ea e m) (hi : X.N[i]? = some y := by rfl) (ho : fx.ow.contains i = false := by rfl) (hx : Loc X.env.scope y := by first | exact .inl rfl | exact .inr rfl)
    (hf : X.fn y = true ∨ X.env.scope.names.lookup y = some .local := by first | exact .inl rfl | exact .inr rfl) : SS X fx W (.AugAssign (.Name y py) .Add e pos) (sAug i m) := PS.imp (ps_aug hN hi hx he ip_IS hf) fun E σ H q => tS_aug ho q
end
/-! ### a tuple of tuples of written texts -/
def tupsIn (K : PySem.W.Frag) : List (Addr × List (Str × Tok)) → Prop
  | [] => True
  | p :: r => (∃ (dd : Option Addr) (n : Nat) (sl : Array (Option Value)), K.lookup p.1 = some ⟨.type "tuple", dd, .seq (p.2.map fun q => Value.str q.1 q.2).toArray n, sl⟩ ∧ p.2.length ≤ sizeLine) ∧ tupsIn K r
theorem vals_refs : ∀ ys : List (Addr × List (Str × Tok)), Vals (ys.map fun p => V.ref p.1) (ys.map fun p => Value.ref p.1)
  | [] => .nil
  | p :: ys => .cons rfl (vals_refs ys)
theorem rep_tups {K : PySem.W.Frag} {mg : Str → Option Value} {F : Hp} : ∀ ys : List (Addr × List (Str × Tok)), tupsIn K ys → RepL ⟨K, mg⟩ F (ys.map fun p => D.tup (p.2.map fun q => D.str q.1)) (ys.map fun p => V.ref p.1)
  | [], _ => RepL.nil
  | p :: ys, h => by
    obtain ⟨⟨dd, n, sl, h1, h2⟩, h3⟩ := h
    refine RepL.cons ?_ (rep_tups ys h3)
    simp only [Rep]
    exact ⟨p.1, p.2.map fun q => V.str q.1, rfl, .inr ⟨_, _, _, h1, rfl, rfl, by simpa using h2, by simpa using vals_strs2 p.2⟩, rep_strs2 p.2⟩
theorem glob_tups {K : PySem.W.Frag} {mg : Str → Option Value} {x : Str} {a : Addr} {dd : Option Addr} {n : Nat} {sl : Array (Option Value)} (ys : List (Addr × List (Str × Tok))) (hm : mg x = some (.ref a))
    (h : K.lookup a = some ⟨.type "tuple", dd, .seq (ys.map fun p => Value.ref p.1).toArray n, sl⟩) (hz : ys.length ≤ sizeLine) (hy : tupsIn K ys) : ∃ v u, mg x = some u ∧ RelV v u ∧ ∀ F, Rep ⟨K, mg⟩ F (.tup (ys.map fun p => D.tup (p.2.map fun q => D.str q.1))) v :=
  ⟨.ref a, .ref a, hm, rfl, fun F => by
    simp only [Rep]
    exact ⟨a, ys.map fun p => V.ref p.1, rfl, .inr ⟨_, _, _, h, rfl, rfl, by simpa using hz, by simpa using vals_refs ys⟩, rep_tups ys hy⟩⟩
end DL

set_option Elab.async false
set_option linter.all false
set_option maxRecDepth 100000
set_option maxHeartbeats 4000000
/-! DLam: a, b, c = e1, e2, e3, some of them the frame's own -/
namespace DL
open PySem PySem.Spec PyProof.Rows L2
/-- a value that waits for its slot -/
def Pnd (g : Gx) (fx : Fx) (σ : L2.St) (F H : Hp) (ρ : Rho) (s : Sl) (v : V) : Prop := match s with
  | .no => False
  | .cl d => Rep g F d v
  | .ow d => ∃ a, v = .ref a ∧ F a = none ∧ Own g F H a d ∧ fx.H0 a = none ∧ ∀ (i : Nat) e, ρ[i]? = some (.ow e) → σ[i]? ≠ some (some (.ref a))
section
variable {g : Gx} {fx : Fx} {W : WX} {σ : L2.St} {H F H' F' : Hp} {ρ ρ' : Rho} {E : Ends} {ea : Bool}
theorem Pnd.go {s : Sl} {v : V} {eff : Bool} (P : Pnd g fx σ F H ρ s v) (G : Go eff σ F H ρ F' H' ρ') : Pnd g fx σ F' H' ρ' s v := by
  cases s with
  | no => exact P.elim
  | cl d => exact Rep.mono G.f P
  | ow d =>
    obtain ⟨a, e, fa, o, h0, hn⟩ := P
    obtain ⟨u, hu⟩ := o.there
    have same := G.k a u hu hn
    refine ⟨a, e, ?_, o.move G.f (same.trans hu.symm), h0, fun i d' q => ?_⟩
    · cases q : F' a with
      | none => rfl
      | some z =>
        rcases G.n a z q with y | y | ⟨k, d', y1, y2⟩
        · rw [fa] at y; cases y
        · rw [hu] at y; cases y
        · exact absurd y2 (hn k d' y1)
    · obtain ⟨d2, q2⟩ := G.o i d' q
      exact hn i d2 q2
/-- one is set; the others go on waiting -/
theorem Pnd.put (S : ST g fx σ H F ρ) {i : Nat} {s : Sl} {v : V} (hi : fx.ow.contains i = false) (P : Pnd g fx σ F H ρ s v) : ST g fx (σ.set i (some v)) H F (ρ.set i s) := by
  cases s with
  | no => exact P.elim
  | cl d => exact S.set hi P
  | ow d =>
    obtain ⟨a, rfl, fa, o, h0, hn⟩ := P
    exact S.setO hi fa o h0 hn
def apartV (s t : Sl) (v w : V) : Prop := match s, t with
  | .ow _, .ow _ => v ≠ w
  | _, _ => True
theorem Pnd.keep {i : Nat} {s t : Sl} {v w : V} (S : ST g fx σ H F ρ) (P : Pnd g fx σ F H ρ s v) (T : Pnd g fx σ F H ρ t w) (ap : apartV s t v w) : Pnd g fx (σ.set i (some v)) F H (ρ.set i s) t w := by
  cases t with
  | no => exact T.elim
  | cl d => exact T
  | ow d =>
    obtain ⟨a, e, fa, o, h0, hn⟩ := T
    refine ⟨a, e, fa, o, h0, fun k d' q => ?_⟩
    rcases set_get q with ⟨rfl, q2⟩ | ⟨ne, q2⟩
    · subst q2
      have hl : i < σ.length := by
        rw [S.len]
        have := (List.getElem?_eq_some_iff.mp q).1
        simpa using this
      rw [List.getElem?_set_self hl]
      intro z
      cases z
      exact ap e.symm
    · rw [List.getElem?_set_ne ne]
      exact hn k d' q2
/-- where it comes from -/
def FromV (σ : L2.St) (H : Hp) (ρ : Rho) (s : Sl) (v : V) : Prop := match s with
  | .ow _ => ∀ a, v = .ref a → H a = none ∨ ∃ (i : Nat) (e : D), ρ[i]? = some (.ow e) ∧ σ[i]? = some (some (.ref a))
  | _ => True
theorem FromV.back {eff : Bool} {s : Sl} {v : V} {F1 H1 : Hp} {ρ1 : Rho} (G : Go eff σ F H ρ F1 H1 ρ1) (f : FromV σ H1 ρ1 s v) : FromV σ H ρ s v := by
  cases s with
  | no => trivial
  | cl d => trivial
  | ow d =>
    intro a ea
    rcases f a ea with z | ⟨k, d', z1, z2⟩
    · left
      cases q : H a with
      | none => rfl
      | some u =>
        obtain ⟨w, hw⟩ := G.d a u q
        rw [hw] at z
        cases z
    · obtain ⟨d2, z3⟩ := G.o k d' z1
      exact .inr ⟨k, d2, z3, z2⟩
/-- own slots behind a store: an own one of before, or one that waited -/
theorem own_put {i : Nat} {s : Sl} {v : V} {σ1 : L2.St} {ρ1 : Rho} {H0 : Hp} {σ0 : L2.St} {ρ0 : Rho} (len : σ1.length = ρ1.length) (fr : FromV σ0 H0 ρ0 s v) (h : ∀ a, OwnA σ1 ρ1 a → OwnA σ0 ρ0 a ∨ H0 a = none) : ∀ a, OwnA (σ1.set i (some v)) (ρ1.set i s) a → OwnA σ0 ρ0 a ∨ H0 a = none := by
  rintro a ⟨k, d, h1, h2⟩
  rcases set_get h1 with ⟨rfl, q⟩ | ⟨ne, q⟩
  · subst q
    have hl : i < σ1.length := by
      rw [len]
      have := (List.getElem?_eq_some_iff.mp h1).1
      simpa using this
    rw [List.getElem?_set_self hl] at h2
    cases h2
    rcases fr a rfl with z | ⟨j, e, z1, z2⟩
    · exact .inr z
    · exact .inl ⟨j, e, z1, z2⟩
  · rw [List.getElem?_set_ne ne] at h2
    exact h a ⟨k, d, q, h2⟩
end
/-- a reading of one: a clean value, or a new one of the frame's own -/
structure Wt (X : Cx) (fx : Fx) (W : WX) (e : Expr) (m : M Sl) : Prop where
  t : ∃ te : TE, PE X e te ∧ ∀ σ H Q, (∃ F ρ, ST (gx X) fx σ H F ρ ∧ match m ρ with
    | .ok s ρ' => ∀ v H' F', Go true σ F H ρ F' H' ρ' → ST (gx X) fx σ H' F' ρ' → Pnd (gx X) fx σ F' H' ρ' s v → FromV σ H ρ s v → Q v H'
    | .exn c x ρ' => ∀ cls dd H' F', Go true σ F H ρ F' H' ρ' → ST (gx X) fx σ H' F' ρ' → XR (gx X) F' c x cls dd → W cls dd σ H'
    | .bad => False) → te σ H Q
def wCl (m : M D) : M Sl := m.bind fun d => M.pure (.cl d)
def wOw (m : M D) : M Sl := m.bind fun d => M.pure (.ow d)
section
variable {X : Cx} {fx : Fx} {W : WX} {ea : Bool} {e a b c : Expr} {m : M D} {m1 m2 m3 : M Sl}
theorem wt_cl (h : SE X fx W true ea e m) : Wt X fx W e (wCl m) := ⟨_, h, fun σ H Q ⟨F, ρ, S, h⟩ => ⟨F, ρ, S, by
  unfold wCl M.bind M.pure at h
  cases q : m ρ with
  | bad => rw [q] at h; exact h
  | exn c x r => rw [q] at h; exact h
  | ok d r =>
    rw [q] at h
    intro v H' F' G S' rv
    exact h v H' F' G.up S' rv trivial⟩⟩
theorem wt_ow (h : SF X fx W ea e m) : Wt X fx W e (wOw m) := ⟨_, h, fun σ H Q ⟨F, ρ, S, h⟩ => ⟨F, ρ, S, by
  unfold wOw M.bind M.pure at h
  cases q : m ρ with
  | bad => rw [q] at h; exact h
  | exn c x r => rw [q] at h; exact h
  | ok d r =>
    rw [q] at h
    intro a H' F' G S' fa o h0 hn ha
    refine h (.ref a) H' F' G.up S' ⟨a, rfl, fa, o, h0, hn⟩ fun b eb => ?_
    cases eb
    exact ha⟩⟩
def sPair (i j : Nat) (m1 m2 : M Sl) : MS := sDo m1 fun s1 => sDo m2 fun s2 ρ => .nx ((ρ.set i s1).set j s2)
def sTrip (i j k : Nat) (m1 m2 m3 : M Sl) : MS := sDo m1 fun s1 => sDo m2 fun s2 => sDo m3 fun s3 ρ => .nx (((ρ.set i s1).set j s2).set k s3)
theorem apart_of {σ : L2.St} {F H : Hp} {ρ : Rho} {s t : Sl} {v w : V} {H2 : Hp} (P : Pnd (gx X) fx σ F H ρ s v) (f : FromV σ H ρ t w) (T : ∃ F2 ρ2, Pnd (gx X) fx σ F2 H2 ρ2 t w) : apartV s t v w := by
  cases s with
  | no => exact P.elim
  | cl d => exact trivial
  | ow d =>
    cases t with
    | no => exact trivial
    | cl d => exact trivial
    | ow d' =>
      obtain ⟨a, rfl, fa, o, h0, hn⟩ := P
      obtain ⟨u, hu⟩ := o.there
      intro z
      subst z
      rcases f a rfl with y | ⟨i, e, y1, y2⟩
      · rw [hu] at y; cases y
      · exact hn i e y1 y2
theorem ss_pair (i j : Nat) {x y : Str} {px py pt pos : Pos} {kt k2 : Nat} {pt2 : Pos} (hc : X.calm = true) (hN : X.N.Nodup) (ha : Wt X fx W a m1) (hb : Wt X fx W b m2) (hi : X.N[i]? = some x := by rfl) (hj : X.N[j]? = some y := by rfl) (hij : i ≠ j := by decide) (oi : fx.ow.contains i = false := by rfl) (oj : fx.ow.contains j = false := by rfl)
    (hx : X.env.scope.names.lookup x = some .local := by rfl) (hy : X.env.scope.names.lookup y = some .local := by rfl)
    (h1 : starEach (a :: [b]) X.env = (false, eval a X.env) :: starEach [b] X.env := by rfl) (h2 : starEach (b :: []) X.env = (false, eval b X.env) :: starEach [] X.env := by rfl)
    (hw : swappedStores [.Tuple [.Name x px, .Name y py] kt pt] (.Tuple [a, b] k2 pt2) X.env = pure (some [x, y]) := by rfl)
    (hs : swapsWithSole [.Tuple [.Name x px, .Name y py] kt pt] (.Tuple [a, b] k2 pt2) pos.line X.env = pure false := by rfl) :
    SS X fx W (.Assign [.Tuple [.Name x px, .Name y py] kt pt] (.Tuple [a, b] k2 pt2) pos) (sPair i j m1 m2) := by
  obtain ⟨ta, pa, ka⟩ := ha.t
  obtain ⟨tb, pb, kb⟩ := hb.t
  refine PS.imp (ps_par hc hN hi hj hij hx hy (pa_cons pa (pa_cons pb pa_nil h2) h1) hw hs) fun E σ H q => ?_
  obtain ⟨F, ρ, S, h⟩ := q
  refine ka _ _ _ ⟨F, ρ, S, ?_⟩
  unfold sPair sDo at h
  cases e : m1 ρ with
  | bad => rw [e] at h; exact h
  | exn c x r => rw [e] at h; exact xgs h
  | ok s1 ρ1 =>
    rw [e] at h
    dsimp only at h
    intro v1 H1 F1 G1 S1 P1 f1
    refine kb _ _ _ ⟨F1, ρ1, S1, ?_⟩
    cases e2 : m2 ρ1 with
    | bad => rw [e2] at h; exact h
    | exn c x r => rw [e2] at h; exact xst G1 (xgs h)
    | ok s2 ρ2 =>
      rw [e2] at h
      dsimp only at h
      intro v2 H2 F2 G2 S2 P2 f2
      have Q1 := P1.go G2
      have ap := apart_of P1 f2 ⟨_, _, P2⟩
      have T1 := Pnd.put S2 oi Q1
      have T2 := Pnd.put T1 oj (Pnd.keep S2 Q1 P2 ap)
      have G := G1.trans G2
      have f2' : FromV σ H ρ s2 v2 := FromV.back G1 f2
      show ∃ v w, [v1, v2] = [v, w] ∧ E.nx ((σ.set i (some v)).set j (some w)) H2
      refine ⟨v1, v2, rfl, h _ H2 F2 ⟨G.gs.f, G.gs.n, G.gs.k, ?_, G.gs.d⟩ T2⟩
      exact own_put T1.len f2' (own_put S2.len f1 G.gs.o)
theorem ss_trip (i j k : Nat) {x y z : Str} {px py pz pt pos : Pos} {kt k2 : Nat} {pt2 : Pos} (hc : X.calm = true) (hN : X.N.Nodup) (ha : Wt X fx W a m1) (hb : Wt X fx W b m2) (hd : Wt X fx W c m3) (hi : X.N[i]? = some x := by rfl) (hj : X.N[j]? = some y := by rfl) (hk : X.N[k]? = some z := by rfl) (hij : i ≠ j := by decide) (hik : i ≠ k := by decide) (hjk : j ≠ k := by decide)
    (oi : fx.ow.contains i = false := by rfl) (oj : fx.ow.contains j = false := by rfl) (ok : fx.ow.contains k = false := by rfl)
    (hx : X.env.scope.names.lookup x = some .local := by rfl) (hy : X.env.scope.names.lookup y = some .local := by rfl) (hz : X.env.scope.names.lookup z = some .local := by rfl)
    (h1 : starEach (a :: [b, c]) X.env = (false, eval a X.env) :: starEach [b, c] X.env := by rfl) (h2 : starEach (b :: [c]) X.env = (false, eval b X.env) :: starEach [c] X.env := by rfl) (h3 : starEach (c :: []) X.env = (false, eval c X.env) :: starEach [] X.env := by rfl)
    (hw : swappedStores [.Tuple [.Name x px, .Name y py, .Name z pz] kt pt] (.Tuple [a, b, c] k2 pt2) X.env = pure (some [x, y, z]) := by rfl)
    (hs : swapsWithSole [.Tuple [.Name x px, .Name y py, .Name z pz] kt pt] (.Tuple [a, b, c] k2 pt2) pos.line X.env = pure false := by rfl) :
    SS X fx W (.Assign [.Tuple [.Name x px, .Name y py, .Name z pz] kt pt] (.Tuple [a, b, c] k2 pt2) pos) (sTrip i j k m1 m2 m3) := by
  obtain ⟨ta, pa, ka⟩ := ha.t
  obtain ⟨tb, pb, kb⟩ := hb.t
  obtain ⟨tc, pc, kc⟩ := hd.t
  refine PS.imp (ps_par3 hc hN hi hj hk hij hik hjk hx hy hz (pa_cons pa (pa_cons pb (pa_cons pc pa_nil h3) h2) h1) hw hs) fun E σ H q => ?_
  obtain ⟨F, ρ, S, h⟩ := q
  refine ka _ _ _ ⟨F, ρ, S, ?_⟩
  unfold sTrip sDo at h
  cases e : m1 ρ with
  | bad => rw [e] at h; exact h
  | exn c x r => rw [e] at h; exact xgs h
  | ok s1 ρ1 =>
    rw [e] at h
    dsimp only at h
    intro v1 H1 F1 G1 S1 P1 f1
    refine kb _ _ _ ⟨F1, ρ1, S1, ?_⟩
    cases e2 : m2 ρ1 with
    | bad => rw [e2] at h; exact h
    | exn c x r => rw [e2] at h; exact xst G1 (xgs h)
    | ok s2 ρ2 =>
      rw [e2] at h
      dsimp only at h
      intro v2 H2 F2 G2 S2 P2 f2
      refine kc _ _ _ ⟨F2, ρ2, S2, ?_⟩
      cases e3 : m3 ρ2 with
      | bad => rw [e3] at h; exact h
      | exn c x r => rw [e3] at h; exact xst (G1.trans G2) (xgs h)
      | ok s3 ρ3 =>
        rw [e3] at h
        dsimp only at h
        intro v3 H3 F3 G3 S3 P3 f3
        have Q1 := (P1.go G2).go G3
        have Q2 := P2.go G3
        have ap12 := apart_of P1 f2 ⟨_, _, P2⟩
        have ap13 := apart_of (P1.go G2) f3 ⟨_, _, P3⟩
        have ap23 := apart_of P2 f3 ⟨_, _, P3⟩
        have T1 := Pnd.put S3 oi Q1
        have K2 := Pnd.keep (i := i) S3 Q1 Q2 ap12
        have K3 := Pnd.keep (i := i) S3 Q1 P3 ap13
        have T2 := Pnd.put T1 oj K2
        have T3 := Pnd.put T2 ok (Pnd.keep T1 K2 K3 ap23)
        have G := (G1.trans G2).trans G3
        show ∃ u v w, [v1, v2, v3] = [u, v, w] ∧ E.nx (((σ.set i (some u)).set j (some v)).set k (some w)) H3
        refine ⟨v1, v2, v3, rfl, h _ H3 F3 ⟨G.gs.f, G.gs.n, G.gs.k, ?_, G.gs.d⟩ T3⟩
        exact own_put T2.len (FromV.back (G1.trans G2) f3) (own_put T1.len (FromV.back G1 f2) (own_put S3.len f1 G.gs.o))
end
end DL

set_option Elab.async false
set_option linter.all false
set_option maxRecDepth 100000
set_option maxHeartbeats 4000000
/-! DLan: a, b = e1, e2 by a tuple (a name is captured), some of them the frame's own -/
namespace DL
open PySem PySem.Spec PyProof.Rows L2
section
variable {X : Cx} {fx : Fx} {W : WX} {ea : Bool} {e a b c : Expr} {m : M D} {m1 m2 m3 : M Sl}
theorem ss_pairT (i j : Nat) {x y : Str} {px py pt pos : Pos} {kt k2 : Nat} {pt2 : Pos} (hc : X.calm = true) (hN : X.N.Nodup) (ha : Wt X fx W a m1) (hb : Wt X fx W b m2) (hi : X.N[i]? = some x := by rfl) (hj : X.N[j]? = some y := by rfl) (hij : i ≠ j := by decide) (oi : fx.ow.contains i = false := by rfl) (oj : fx.ow.contains j = false := by rfl)
    (hx : Loc X.env.scope x := by first | exact .inl rfl | exact .inr rfl) (hfx : X.fn x = true ∨ X.env.scope.names.lookup x = some .local := by first | exact .inl rfl | exact .inr rfl)
    (hy : Loc X.env.scope y := by first | exact .inl rfl | exact .inr rfl) (hfy : X.fn y = true ∨ X.env.scope.names.lookup y = some .local := by first | exact .inl rfl | exact .inr rfl)
    (h1 : starEach (a :: [b]) X.env = (false, eval a X.env) :: starEach [b] X.env := by rfl) (h2 : starEach (b :: []) X.env = (false, eval b X.env) :: starEach [] X.env := by rfl)
    (g1 : (assignEach (.Name x px :: [.Name y py]) X.env).map (·.2) = assign (.Name x px) X.env :: (assignEach [.Name y py] X.env).map (·.2) := by rfl) (g2 : (assignEach (.Name y py :: []) X.env).map (·.2) = assign (.Name y py) X.env :: (assignEach [] X.env).map (·.2) := by rfl)
    (hn : (assignEach [.Name x px, .Name y py] X.env).length = 2 := by rfl) (hst : (assignEach [.Name x px, .Name y py] X.env).findIdx? (·.1) = none := by rfl)
    (hw : swappedStores [.Tuple [.Name x px, .Name y py] kt pt] (.Tuple [a, b] k2 pt2) X.env = pure none := by rfl)
    (hs : swapsWithSole [.Tuple [.Name x px, .Name y py] kt pt] (.Tuple [a, b] k2 pt2) pos.line X.env = pure false := by rfl)
    (hl : (assignEach [.Tuple [.Name x px, .Name y py] kt pt] X.env).map (·.2) = [assign (.Tuple [.Name x px, .Name y py] kt pt) X.env] := by rfl) :
    SS X fx W (.Assign [.Tuple [.Name x px, .Name y py] kt pt] (.Tuple [a, b] k2 pt2) pos) (sPair i j m1 m2) := by
  obtain ⟨ta, pa, ka⟩ := ha.t
  obtain ⟨tb, pb, kb⟩ := hb.t
  refine PS.imp (ps_asg (pe_tup (pa_cons pa (pa_cons pb pa_nil h2) h1)) (pg_tup hc (pgs_cons (pg_name hN hi hx hfx) (pgs_cons (pg_name hN hj hy hfy) pgs_nil g2) g1) hn hst) hs hw hl) fun E σ H q => ?_
  obtain ⟨F, ρ, S, h⟩ := q
  refine ka _ _ _ ⟨F, ρ, S, ?_⟩
  unfold sPair sDo at h
  cases e : m1 ρ with
  | bad => rw [e] at h; exact h
  | exn c x r => rw [e] at h; exact xgs h
  | ok s1 ρ1 =>
    rw [e] at h
    dsimp only at h
    intro v1 H1 F1 G1 S1 P1 f1
    refine kb _ _ _ ⟨F1, ρ1, S1, ?_⟩
    cases e2 : m2 ρ1 with
    | bad => rw [e2] at h; exact h
    | exn c x r => rw [e2] at h; exact xst G1 (xgs h)
    | ok s2 ρ2 =>
      rw [e2] at h
      dsimp only at h
      intro v2 H2 F2 G2 S2 P2 f2
      refine ⟨by rw [sizeLine_eq]; simp, fun p hp => ⟨p, [v1, v2], rfl, SqT.of upd_same, rfl, v1, [v2], rfl, v2, [], rfl, rfl, ?_⟩⟩
      have gn := Grow.new (o := .tup [v1, v2]) S2.s hp
      have Gn : Go true σ F2 H2 ρ2 (upd F2 p (.tup [v1, v2])) (upd H2 p (.tup [v1, v2])) ρ2 := (Go.of (eff := false) gn).up
      have S3 := S2.grow gn
      have Q1 := (P1.go G2).go Gn
      have Q2 := P2.go Gn
      have ap := apart_of P1 f2 ⟨_, _, P2⟩
      have T1 := Pnd.put S3 oi Q1
      have T2 := Pnd.put T1 oj (Pnd.keep S3 Q1 Q2 ap)
      have G := (G1.trans G2).trans Gn
      have f2' : FromV σ H ρ s2 v2 := FromV.back G1 f2
      refine h _ _ _ ⟨G.gs.f, G.gs.n, G.gs.k, ?_, G.gs.d⟩ T2
      exact own_put T1.len f2' (own_put S3.len f1 G.gs.o)
end
end DL

set_option Elab.async false
set_option linter.all false
set_option maxRecDepth 100000
set_option maxHeartbeats 4000000
namespace DL
open PySem PySem.Spec PyProof.Rows L2
noncomputable section
/-! law_k12: mirrors -/
def top (i : Nat) : Stmt := PySem.Challenge.pw_allmayedit_k12_whole_given_and_own_texts.main.body.getD i (.Pass ⟨0, 0, 0, 0⟩)
def d_KEPT : D := .tup [.tup [.str "note", .str "<!--", .str "-->"], .tup [.str "asis", .str "<asis>", .str "</asis>"]]
def d_STRETCHES : D := .tup [.tup [.str "only", .str "<only>", .str "</only>"], .tup [.str "not", .str "<not>", .str "</not>"]]
/-! is_text -/
def m_is_text : MS := sRet (eAnd (e1 (opIs [.str] [("InvalidText", false)]) (eVar 0)) (eN opAll (aCons (eLC [1] (tgName 1) (M.pure true) (eOr (eChain opLe opLe (eC (.str " ")) (eVar 1) (eC (.str "~"))) (e2 opEq (eVar 1) (eC (.str "\n")))) (iSeq (eVar 0))) (aNil))))
def f_is_text : Fn := runFn 2 [] .cl m_is_text
/-! first_kept -/
def m_first_kept : MS := sSeq (sAsg (eC .non) (tgName 2))
  (sSeq (sFor (tgTup [3, 4, 5]) (iSeq (eC d_KEPT)) (sSeq (sAsg (eMT .str opFind3 (eVar 0) (aCons (eVar 4) (aCons (eVar 1) (aNil)))) (tgName 6))
  (sSeq (sAsg (eIf (bOf (e2 opLt (eVar 6) (eC (.int 0)))) (e1 opNeg (eC (.int 1))) (eMT .str opFind3 (eVar 0) (aCons (eVar 5) (aCons (e2 opAdd (eVar 6) (eN opLen (aCons (eVar 4) (aNil)))) (aNil))))) (tgName 7))
  (sIf (bAnd (bOf (e2 opGe (eVar 7) (eC (.int 0)))) (bOr (bOf (e2 opIsN (eVar 2) (eC .non))) (bOf (e2 opLt (eVar 6) (e2 opIx (eVar 2) (eC (.int 0))))))) (sAsg (eN mkTup (aCons (eVar 6) (aCons (eVar 3) (aCons (eCut (eVar 0) (pAt (e2 opAdd (eVar 6) (eN opLen (aCons (eVar 4) (aNil))))) (pAt (eVar 7))) (aCons (e2 opAdd (eVar 7) (eN opLen (aCons (eVar 5) (aNil)))) (aNil)))))) (tgName 2)) (sNext)))))
  (sRet (eVar 2)))
def f_first_kept : Fn := runFn 8 [] .cl m_first_kept
/-! found_outside -/
def m_found_outside : MS := sSeq (sFor (tgTup [4, 5]) (iSeq (eVar 1)) (sSeq (sAsg (eMT .str opFind4 (eVar 0) (aCons (eVar 2) (aCons (eN opMax (aCons (eVar 4) (aCons (eVar 3) (aNil)))) (aCons (eVar 5) (aNil))))) (tgName 6))
  (sIf (bOf (e2 opGe (eVar 6) (eC (.int 0)))) (sRet (eVar 6)) (sNext))))
  (sRet (e1 opNeg (eC (.int 1))))
def f_found_outside : Fn := runFn 7 [] .cl m_found_outside
/-! _law_purse -/
def m__law_purse : MS := sSeq (sAsg (eN opSum (aCons (eCut (eVar 0) (pAt (eVar 1)) (pAt (e2 opAdd (eVar 1) (eC (.int 1))))) (aNil))) (tgName 2))
  (sRet (eN mkLst (aCons (e2 opMod (eN opInt (aCons (eN opMax (aCons (e2 opSub (eVar 2) (e2 opPow (eC (.int 10)) (eC (.int 18)))) (aCons (eC (.int 0)) (aNil)))) (aNil))) (e2 opPow (e2 opPow (eC (.int 10)) (eC (.int 60))) (eC (.int 8)))) (aCons (e2 opMod (eN opInt (aCons (eVar 2) (aNil))) (eC (.int 2147483629))) (aCons (eC (.int 0)) (aCons (eVar 1) (aNil)))))))
def f__law_purse : Fn := runFn 3 [] .fr m__law_purse
/-! _law_mixed -/
def m__law_mixed : MS := sSeq (sAsg (e2 opAdd (e2 opSMul (eVar 0) (eC (.int 69069))) (e2 opSMul (e2 opSMul (eC (.int 104729)) (eVar 1)) (eVar 1))) (tgName 3))
  (sSeq (sAsg (e2 opMod (eN opInt (aCons (e2 opAdd (e2 opAdd (eVar 3) (e2 opSMul (eC (.int 7919)) (eVar 2))) (eVar 1)) (aNil))) (eC (.int 2147483647))) (tgName 3))
  (sSeq (sAsg (e2 opMod (eN opInt (aCons (e2 opAdd (e2 opSMul (eVar 3) (eVar 3)) (eC (.int 40503))) (aNil))) (eC (.int 2147483629))) (tgName 3))
  (sRet (e2 opMod (eN opInt (aCons (e2 opSMul (eVar 3) (eC (.int 48271))) (aNil))) (eC (.int 2147483587))))))
def f__law_mixed : Fn := runFn 4 [] .cl m__law_mixed
/-! _law_items -/
def m__law_items : MS := sSeq (sParO 1 2 (eN mkLst (aNil)) (eC (.int 0)))
  (sSeq (whLoop (bOf (e2 opLt (eVar 2) (eN opLen (aCons (eVar 0) (aNil))))) (sSeq (sAsg (eVar 2) (tgName 3))
  (sSeq (sFor (tgTup [4, 5, 6]) (iSeq (eN mkLst (aCons (eN mkTup (aCons (eC (.str "note")) (aCons (eC (.str "<!--")) (aCons (eC (.str "-->")) (aNil))))) (aCons (eN mkTup (aCons (eC (.str "asis")) (aCons (eC (.str "<asis>")) (aCons (eC (.str "</asis>")) (aNil))))) (aNil))))) (sSeq (sAsg (eIf (bOf (e2 opEq (eCut (eVar 0) (pAt (eVar 2)) (pAt (e2 opAdd (eVar 2) (eN opLen (aCons (eVar 5) (aNil)))))) (eVar 5))) (eMT .str opSplitM (eCut (eVar 0) (pAt (e2 opAdd (eVar 2) (eN opLen (aCons (eVar 5) (aNil))))) (pNo)) (aCons (eVar 6) (aCons (eC (.int 1)) (aNil)))) (eN mkLst (aCons (eVar 0) (aNil)))) (tgName 7))
  (sIf (bOf (e2 opEq (eN opLen (aCons (eVar 7) (aNil))) (eC (.int 2)))) (sSeq (sApp 1 (eN mkTup (aCons (eVar 4) (aCons (e2 opIx (eVar 7) (eC (.int 0))) (aNil)))))
  (sAsg (e2 opAdd (e2 opAdd (e2 opAdd (eVar 2) (eN opLen (aCons (eVar 5) (aNil)))) (eN opLen (aCons (e2 opIx (eVar 7) (eC (.int 0))) (aNil)))) (eN opLen (aCons (eVar 6) (aNil)))) (tgName 3))) (sNext))))
  (sSeq (sIf (bOf (e2 opEq (eVar 3) (eVar 2))) (sSeq (sApp 1 (e2 opIx (eVar 0) (eVar 2)))
  (sAsg (e2 opAdd (eVar 2) (eC (.int 1))) (tgName 3))) (sNext))
  (sAsg (eVar 3) (tgName 2))))) 1000000)
  (sRet (eMove 1)))
def f__law_items : Fn := runFn 8 [] .cl m__law_items
/-! plain_spots -/
def m_plain_spots : MS := sSeq (sTrip 1 2 3 (wOw (eN mkLst (aNil))) (wCl (eC (.int 0))) (wCl (eCall f_first_kept (aCons (eVar 0) (aCons (eC (.int 0)) (aNil))))))
  (sSeq (whLoop (bOf (e2 opNotN (eVar 3) (eC .non))) (sSeq (sApp 1 (eN mkTup (aCons (eVar 2) (aCons (e2 opIx (eVar 3) (eC (.int 0))) (aNil)))))
  (sSeq (sAsg (e2 opIx (eVar 3) (eC (.int 3))) (tgName 2))
  (sAsg (eCall f_first_kept (aCons (eVar 0) (aCons (eVar 2) (aNil)))) (tgName 3)))) 1000000)
  (sRet (e2 opAdd (eOwn 1) (eN mkLst (aCons (eN mkTup (aCons (eVar 2) (aCons (eN opLen (aCons (eVar 0) (aNil))) (aNil)))) (aNil))))))
def f_plain_spots : Fn := runFn 4 [] .cl m_plain_spots
/-! _law_draw -/
def m__law_draw : MS := sSeq (sIf (bOf (e2 opGt (e2 opIx (eOwn 0) (eC (.int 0))) (eC (.int 0)))) (sSeq (sAsg (e2 opMod (eN opInt (aCons (e2 opIx (eOwn 0) (eC (.int 0))) (aNil))) (eVar 1)) (tgName 2))
  (sSeq (sSetI 0 (eC (.int 0)) (e2 opFdiv (e2 opIx (eOwn 0) (eC (.int 0))) (eVar 1)))
  (sRet (eVar 2)))) (sNext))
  (sSeq (sAsg (eC (.int 0)) (tgName 3))
  (sSeq (sFor (tgName 4) (iRange (aCons (e2 opAdd (eC (.int 1)) (e2 opFdiv (e1 opBits (eVar 1)) (eC (.int 28)))) aNil)) (sSeq (sSetI 0 (eC (.int 2)) (e2 opAdd (e2 opIx (eOwn 0) (eC (.int 2))) (eC (.int 1))))
  (sAsg (e2 opAdd (e2 opSMul (eVar 3) (eC (.int 2147483587))) (eCall f__law_mixed (aCons (e2 opIx (eOwn 0) (eC (.int 1))) (aCons (e2 opIx (eOwn 0) (eC (.int 2))) (aCons (e2 opIx (eOwn 0) (eC (.int 3))) (aNil)))))) (tgName 3))))
  (sRet (e2 opMod (eN opInt (aCons (eVar 3) (aNil))) (eVar 1)))))
def f__law_draw : Fn := runFn 5 [0] .cl m__law_draw
/-! _law_tags -/
def m__law_tags : MS := sSeq (sTrip 1 2 3 (wCl (eCall f__law_items (aCons (eVar 0) (aNil)))) (wCl (eC (.int 0))) (wOw (eN mkLst (aNil))))
  (sSeq (sFor (tgName 4) (iSeq (eVar 1)) (sSeq (sIf (bTr (e1 (opIs [.str] [("InvalidText", false)]) (eVar 4))) (sApp 3 (eVar 2)) (sNext))
  (sAsg (e2 opAdd (eVar 2) (eIf (bTr (e1 (opIs [.str] [("InvalidText", false)]) (eVar 4))) (eC (.int 1)) (e2 opAdd (eN opLen (aCons (e2 opIx (eVar 4) (eC (.int 1))) (aNil))) (eIf (bOf (e2 opEq (e2 opIx (eVar 4) (eC (.int 0))) (eC (.str "note")))) (eC (.int 7)) (eC (.int 13)))))) (tgName 2))))
  (sRet (eMove 3)))
def f__law_tags : Fn := runFn 5 [] .cl m__law_tags
/-! check_text -/
def m_check_text : MS := sIf (bNot (bTr (eCall f_is_text (aCons (eVar 0) (aNil))))) (sRaise "InvalidText" (eVar 0)) (sNext)
def f_check_text : Fn := runFn 1 [] .cl m_check_text
/-! stretches_of -/
def m_stretches_of : MS := sSeq (sTrip 1 2 3 (wCl (eCall f_plain_spots (aCons (eVar 0) (aNil)))) (wOw (eN mkLst (aNil))) (wCl (eC (.int 0))))
  (sSeq (whLoop (bOf (e2 opNotN (eVar 3) (eC .non))) (sSeq (sAsg (eC .non) (tgName 4))
  (sSeq (sFor (tgTup [5, 6, 7]) (iSeq (eC d_STRETCHES)) (sSeq (sAsg (eCall f_found_outside (aCons (eVar 0) (aCons (eVar 1) (aCons (eVar 6) (aCons (eVar 3) (aNil)))))) (tgName 8))
  (sSeq (sAsg (eIf (bOf (e2 opLt (eVar 8) (eC (.int 0)))) (e1 opNeg (eC (.int 1))) (eCall f_found_outside (aCons (eVar 0) (aCons (eVar 1) (aCons (eVar 7) (aCons (e2 opAdd (eVar 8) (eN opLen (aCons (eVar 6) (aNil)))) (aNil))))))) (tgName 9))
  (sIf (bAnd (bOf (e2 opGe (eVar 9) (eC (.int 0)))) (bOr (bOf (e2 opIsN (eVar 4) (eC .non))) (bOf (e2 opLt (eVar 8) (e2 opIx (eVar 4) (eC (.int 1))))))) (sAsg (eN mkTup (aCons (eVar 5) (aCons (eVar 8) (aCons (e2 opAdd (eVar 8) (eN opLen (aCons (eVar 6) (aNil)))) (aCons (eVar 9) (aCons (e2 opAdd (eVar 9) (eN opLen (aCons (eVar 7) (aNil)))) (aNil))))))) (tgName 4)) (sNext)))))
  (sSeq (sAsg (eIf (bOf (e2 opIsN (eVar 4) (eC .non))) (eC .non) (e2 opIx (eVar 4) (eC (.int 4)))) (tgName 3))
  (sExt 2 (eIf (bOf (e2 opIsN (eVar 4) (eC .non))) (eN mkLst (aNil)) (eN mkLst (aCons (eVar 4) (aNil)))))))) 1000000)
  (sRet (eMove 2)))
def f_stretches_of : Fn := runFn 10 [] .cl m_stretches_of
/-! _law_one_of -/
def m__law_one_of : MS := sRet (e2 opIx (eVar 1) (eCallO f__law_draw 0 (aCons (eN opLen (aCons (eVar 1) (aNil))) (aNil))))
def f__law_one_of : Fn := runFn 2 [0] .cl m__law_one_of
/-! _law_shuffled -/
def m__law_shuffled : MS := sSeq (sAsgO 2 (eN mkLst (aNil)))
  (sSeq (sFor (tgName 3) (iSeq (eVar 1)) (sIns 2 (aCons (eCallO f__law_draw 0 (aCons (e2 opAdd (eN opLen (aCons (eOwn 2) (aNil))) (eC (.int 1))) (aNil))) (aCons (eVar 3) (aNil)))))
  (sRet (eMove 2)))
def f__law_shuffled : Fn := runFn 4 [0] .cl m__law_shuffled
/-! _law_marks -/
def m__law_marks : MS := sSeq (sPair 1 2 (wCl (eCall f__law_tags (aCons (eVar 0) (aNil)))) (wOw (eN mkLst (aNil))))
  (sSeq (sFor (tgName 3) (iSeq (eVar 1)) (sFor (tgName 4) (iSeq (eN mkLst (aCons (eC (.str "<only>")) (aCons (eC (.str "</only>")) (aCons (eC (.str "<not>")) (aCons (eC (.str "</not>")) (aNil))))))) (sIf (bAnd (bOf (e2 opEq (eCut (eVar 0) (pAt (eVar 3)) (pAt (e2 opAdd (eVar 3) (eN opLen (aCons (eVar 4) (aNil)))))) (eVar 4))) (bTr (eN opAll (aCons (eLC [5] (tgName 5) (M.pure true) (e2 opIn (e2 opAdd (eVar 3) (eVar 5)) (eVar 1)) (iRange (aCons (eN opLen (aCons (eVar 4) (aNil))) aNil))) (aNil))))) (sApp 2 (eN mkTup (aCons (eVar 3) (aCons (eVar 4) (aNil))))) (sNext))))
  (sRet (eMove 2)))
def f__law_marks : Fn := runFn 6 [] .cl m__law_marks
/-! given_in -/
def m_given_in : MS := sSeq (sAsg (eCall f_stretches_of (aCons (eVar 0) (aNil))) (tgName 1))
  (sSeq (sAsg (eLC [5, 6, 7, 8, 9] (tgTup [5, 6, 7, 8, 9]) (bOf (e2 opEq (eVar 5) (eC (.str "only")))) (eCut (eVar 0) (pAt (eVar 7)) (pAt (eVar 8))) (iSeq (eVar 1))) (tgName 2))
  (sSeq (sIf (bTr (eVar 2)) (sRet (eMT .str opJoin (eC (.str "")) (aCons (eVar 2) (aNil)))) (sNext))
  (sSeq (sAsg (eN mkTup (aCons (eC (.str "")) (aCons (eC (.int 0)) (aNil)))) (tgTup [3, 4]))
  (sSeq (sFor (tgTup [5, 6, 7, 8, 9]) (iSeq (eVar 1)) (sSeq (sAug 3 (eCut (eVar 0) (pAt (eVar 4)) (pAt (eVar 6))))
  (sAsg (eVar 9) (tgName 4))))
  (sRet (e2 opAdd (eVar 3) (eCut (eVar 0) (pAt (eVar 4)) (pNo))))))))
def f_given_in : Fn := runFn 10 [] .cl m_given_in
/-! own_in -/
def m_own_in : MS := sSeq (sAsg (eN mkTup (aCons (eC (.str "")) (aCons (eC (.int 0)) (aNil)))) (tgTup [1, 2]))
  (sSeq (sFor (tgTup [3, 4, 5, 6, 7]) (iSeq (eCall f_stretches_of (aCons (eVar 0) (aNil)))) (sSeq (sAug 1 (e2 opAdd (eCut (eVar 0) (pAt (eVar 2)) (pAt (eVar 4))) (eCut (eVar 0) (pAt (eVar 5)) (pAt (eVar 6)))))
  (sAsg (eVar 7) (tgName 2))))
  (sRet (e2 opAdd (eVar 1) (eCut (eVar 0) (pAt (eVar 2)) (pNo)))))
def f_own_in : Fn := runFn 8 [] .cl m_own_in
/-! _law_stretches -/
def m__law_stretches : MS := sSeq (sTrip 1 2 3 (wCl (eCall f__law_marks (aCons (eVar 0) (aNil)))) (wOw (eN mkLst (aNil))) (wCl (eC (.int 0))))
  (sSeq (sFor (tgTup [4, 5]) (iSeq (eVar 1)) (sSeq (sAsg (eLC [7, 8] (tgTup [7, 8]) (bAnd (bOf (e2 opGt (eVar 7) (eVar 4))) (bOf (e2 opEq (eVar 8) (e2 opAdd (eC (.str "</")) (eCut (eVar 5) (pAt (eC (.int 1))) (pNo)))))) (eVar 7) (iSeq (eVar 1))) (tgName 6))
  (sIf (bAnd (bOf (e2 opGe (eVar 4) (eVar 3))) (bAnd (bOf (e2 opNe (e2 opIx (eVar 5) (eC (.int 1))) (eC (.str "/")))) (bOf (e2 opNe (eVar 6) (eN mkLst (aNil)))))) (sSeq (sApp 2 (eN mkTup (aCons (eVar 5) (aCons (eVar 4) (aCons (e2 opAdd (eVar 4) (eN opLen (aCons (eVar 5) (aNil)))) (aCons (e2 opIx (eVar 6) (eC (.int 0))) (aCons (e2 opAdd (e2 opAdd (e2 opIx (eVar 6) (eC (.int 0))) (eN opLen (aCons (eVar 5) (aNil)))) (eC (.int 1))) (aNil))))))))
  (sAsg (e2 opIx (e2 opIx (eOwn 2) (e1 opNeg (eC (.int 1)))) (eC (.int 4))) (tgName 3))) (sNext))))
  (sRet (eMove 2)))
def f__law_stretches : Fn := runFn 9 [] .cl m__law_stretches
/-! given_text -/
def m_given_text : MS := sSeq (sDrop (eCall f_check_text (aCons (eVar 0) (aNil))))
  (sRet (eCall f_given_in (aCons (eVar 0) (aNil))))
def f_given_text : Fn := runFn 1 [] .cl m_given_text
/-! own_text -/
def m_own_text : MS := sSeq (sDrop (eCall f_check_text (aCons (eVar 0) (aNil))))
  (sRet (eCall f_own_in (aCons (eVar 0) (aNil))))
def f_own_text : Fn := runFn 1 [] .cl m_own_text
/-! _law_given -/
def m__law_given : MS := sSeq (sAsg (eCall f__law_stretches (aCons (eVar 0) (aNil))) (tgName 1))
  (sSeq (sAsg (eLC [5, 6, 7, 8, 9] (tgTup [5, 6, 7, 8, 9]) (bOf (e2 opEq (eVar 5) (eC (.str "<only>")))) (eCut (eVar 0) (pAt (eVar 7)) (pAt (eVar 8))) (iSeq (eVar 1))) (tgName 2))
  (sSeq (sIf (bOf (e2 opNe (eVar 2) (eN mkLst (aNil)))) (sRet (eMT .str opJoin (eC (.str "")) (aCons (eVar 2) (aNil)))) (sNext))
  (sSeq (sAsg (eN mkTup (aCons (eC (.str "")) (aCons (eC (.int 0)) (aNil)))) (tgTup [3, 4]))
  (sSeq (sFor (tgTup [5, 6, 7, 8, 9]) (iSeq (eVar 1)) (sPar 3 4 (aCons (e2 opAdd (eVar 3) (eCut (eVar 0) (pAt (eVar 4)) (pAt (eVar 6)))) (aCons (eVar 9) (aNil)))))
  (sRet (e2 opAdd (eVar 3) (eCut (eVar 0) (pAt (eVar 4)) (pNo))))))))
def f__law_given : Fn := runFn 10 [] .cl m__law_given
/-! _law_own -/
def m__law_own : MS := sSeq (sAsg (eN mkTup (aCons (eC (.str "")) (aCons (eC (.int 0)) (aNil)))) (tgTup [1, 2]))
  (sSeq (sFor (tgTup [3, 4, 5, 6, 7]) (iSeq (eCall f__law_stretches (aCons (eVar 0) (aNil)))) (sPar 1 2 (aCons (e2 opAdd (e2 opAdd (eVar 1) (eCut (eVar 0) (pAt (eVar 2)) (pAt (eVar 4)))) (eCut (eVar 0) (pAt (eVar 5)) (pAt (eVar 6)))) (aCons (eVar 7) (aNil)))))
  (sRet (e2 opAdd (eVar 1) (eCut (eVar 0) (pAt (eVar 2)) (pNo)))))
def f__law_own : Fn := runFn 8 [] .cl m__law_own
/-! _law_refused -/
def m__law_refused : MS := sSeq (sFor (tgName 0) (iSeq (eN mkLst (aCons (eC .non) (aCons (eC (.int 0)) (aCons (eC (.bl true)) (aCons (eN mkLst (aCons (eC (.str "a")) (aNil))) (aCons (eN mkTup (aCons (eC (.str "a")) (aNil))) (aCons (eN mkDic (aCons (eC (.str "a")) (aCons (eC (.str "b")) (aNil)))) (aCons (eC (.str "a\t")) (aCons (eC (.int 5)) (aNil))))))))))) (sFor (tgName 1) (iRange (aCons (eC (.int 2)) aNil)) (sSeq (sAsg (eC .non) (tgName 2))
  (sSeq (sTryK [("InvalidText", true)] 3 2 (sIf (bOf (e2 opEq (eVar 1) (eC (.int 0)))) (sDrop (eCall f_given_text (aCons (eVar 0) (aNil)))) (sDrop (eCall f_own_text (aCons (eVar 0) (aNil))))))
  (sIf (bOr (bNot (bTr (e1 (opIs [] [("InvalidText", true)]) (eVar 2)))) (bOf (e2 opNe (eN opRepr (aCons (e1 opVal (eVar 2)) (aNil))) (eN opRepr (aCons (eVar 0) (aNil)))))) (sRet (eC (.bl false))) (sNext))))))
  (sRet (eC (.bl true)))
def r__law_refused : Fn := runFn 4 [] .cl m__law_refused
noncomputable def f__law_refused : Fn := flatFn r__law_refused
/-! _law_exact -/
def m__law_exact (rc : Fn) : MS := sSeq (sIf (bTr (e1 (opIs [.lst, .tup] [("InvalidText", false)]) (eVar 0))) (sSeq (sAsg (eAnd (e2 opEq (e1 (opIs [.lst] [("InvalidText", false)]) (eVar 1)) (e1 (opIs [.lst] [("InvalidText", false)]) (eVar 0))) (e2 opEq (e1 (opIs [.tup] [("InvalidText", false)]) (eVar 1)) (e1 (opIs [.tup] [("InvalidText", false)]) (eVar 0)))) (tgName 2))
  (sRet (eAnd (eVar 2) (eAnd (e2 opEq (eN opLen (aCons (eVar 0) (aNil))) (eN opLen (aCons (eVar 1) (aNil)))) (eN opAll (aCons (eLC [3, 4] (tgTup [3, 4]) (M.pure true) (eCall rc (aCons (eVar 3) (aCons (eVar 4) (aNil)))) (iZip (aCons (eVar 0) (aCons (eVar 1) (aNil))))) (aNil))))))) (sNext))
  (sSeq (sIf (bOr (bTr (e1 (opIs [.lst, .tup, .dic] [("InvalidText", false)]) (eVar 1))) (bOf (e2 opNe (e2 opIsN (eVar 0) (eC .non)) (e2 opIsN (eVar 1) (eC .non))))) (sRet (eC (.bl false))) (sNext))
  (sSeq (sAsg (eAnd (e2 opEq (e1 (opIs [.int, .bl] [("InvalidText", false)]) (eVar 0)) (e1 (opIs [.int, .bl] [("InvalidText", false)]) (eVar 1))) (e2 opEq (e1 (opIs [.str] [("InvalidText", false)]) (eVar 0)) (e1 (opIs [.str] [("InvalidText", false)]) (eVar 1)))) (tgName 2))
  (sRet (eAnd (eVar 2) (eAnd (e2 opEq (e1 (opIs [.bl] [("InvalidText", false)]) (eVar 0)) (e1 (opIs [.bl] [("InvalidText", false)]) (eVar 1))) (e2 opEq (eVar 0) (eVar 1)))))))
def f__law_exact_ : Nat → Fn
  | 0 => runFn 5 [] .cl sBad
  | n + 1 => runFn 5 [] .cl (m__law_exact (f__law_exact_ n))
abbrev f__law_exact : Fn := f__law_exact_ 8
/-! _law_right -/
def m__law_right : MS := sSeq (sAsg (eN mkLst (aCons (eCall f__law_given (aCons (eVar 0) (aNil))) (aCons (eCall f__law_own (aCons (eVar 0) (aNil))) (aNil)))) (tgName 1))
  (sRet (eAnd (eCall f__law_exact (aCons (eVar 1) (aCons (eN mkLst (aCons (eCall f_given_text (aCons (eVar 0) (aNil))) (aCons (eCall f_own_text (aCons (eVar 0) (aNil))) (aNil)))) (aNil)))) (eCall f__law_exact (aCons (eVar 1) (aCons (eN mkLst (aCons (eCallK f_given_text [0] (aCons (eVar 0) (aNil))) (aCons (eCallK f_own_text [0] (aCons (eVar 0) (aNil))) (aNil)))) (aNil))))))
def f__law_right : Fn := runFn 2 [] .cl m__law_right
/-! law -/
def m_law : MS := sSeq (sAsg (eN mkLst (aCons (eC (.str "<only>")) (aCons (eC (.str "</only>")) (aCons (eC (.str "<not>")) (aCons (eC (.str "</not>")) (aCons (eC (.str "<!--")) (aCons (eC (.str "-->")) (aCons (eC (.str "<asis>")) (aCons (eC (.str "</asis>")) (aCons (eC (.str "<")) (aCons (eC (.str ">")) (aCons (eC (.str "only")) (aCons (eC (.str "a")) (aCons (eC (.str "b ")) (aCons (eC (.str "\n")) (aCons (eC (.str "<onl")) (aCons (eC (.str "{{x}}")) (aCons (eC (.str "<ONLY>")) (aCons (eC (.str "</Not>")) (aCons (eC (.str "<on<!--a-->ly>")) (aCons (eC (.str "</no<!---->t>")) (aNil)))))))))))))))))))))) (tgName 1))
  (sSeq (sFor (tgName 2) (iRange (aCons (eN opMax (aCons (eC (.int 1)) (aCons (eN opMin (aCons (eN opLen (aCons (eVar 0) (aNil))) (aCons (eC (.int 6)) (aNil)))) (aNil)))) aNil)) (sSeq (sAsgO 3 (eCall f__law_purse (aCons (eVar 0) (aCons (eVar 2) (aNil)))))
  (sSeq (sAsg (eCut (eCallO f__law_shuffled 3 (aCons (eVar 1) (aNil))) (pNo) (pAt (e2 opAdd (eC (.int 2)) (eCallO f__law_draw 3 (aCons (eC (.int 15)) (aNil)))))) (tgName 4))
  (sSeq (sFor (tgName 5) (iRange (aCons (eC (.int 6)) aNil)) (sSeq (sAsg (eMT .str opJoin (eC (.str "")) (aCons (eLC [7] (tgName 7) (M.pure true) (eCallO f__law_one_of 3 (aCons (eVar 4) (aNil))) (iRange (aCons (eCallO f__law_draw 3 (aCons (eC (.int 20)) (aNil))) aNil))) (aNil))) (tgName 6))
  (sIf (bNot (bTr (eCall f__law_right (aCons (eVar 6) (aNil))))) (sRet (eC (.bl false))) (sNext))))
  (sIf (bNot (bTr (eCall f__law_right (aCons (e2 opAdd (eC (.str "a{{b}} [[c]] ")) (eCallO f__law_one_of 3 (aCons (eN mkLst (aCons (eC (.str "")) (aCons (eC (.str "</only>")) (aCons (eC (.str "<not")) (aCons (eC (.str "<!--<only>--></only>")) (aNil)))))) (aNil)))) (aNil))))) (sRet (eC (.bl false))) (sNext))))))
  (sRet (eAnd (eCall f__law_refused aNil) (eCall f__law_right (aCons (eC (.str "")) (aNil))))))
def f_law : Fn := runFn 8 [] .cl m_law
abbrev s_is_text : Stmt := top 4
abbrev s_first_kept : Stmt := top 9
abbrev s_found_outside : Stmt := top 11
abbrev s__law_purse : Stmt := top 18
abbrev s__law_mixed : Stmt := top 19
abbrev s__law_items : Stmt := top 24
abbrev s_plain_spots : Stmt := top 10
abbrev s__law_draw : Stmt := top 20
abbrev s__law_tags : Stmt := top 25
abbrev s_check_text : Stmt := top 5
abbrev s_stretches_of : Stmt := top 12
abbrev s__law_one_of : Stmt := top 21
abbrev s__law_shuffled : Stmt := top 22
abbrev s__law_marks : Stmt := top 26
abbrev s_given_in : Stmt := top 13
abbrev s_own_in : Stmt := top 14
abbrev s__law_stretches : Stmt := top 27
abbrev s_given_text : Stmt := top 15
abbrev s_own_text : Stmt := top 16
abbrev s__law_given : Stmt := top 28
abbrev s__law_own : Stmt := top 29
abbrev s__law_refused : Stmt := top 30
abbrev s__law_exact : Stmt := top 23
abbrev s__law_right : Stmt := top 31
abbrev s_law : Stmt := top 32
structure Tx (P : Program) (w : World) (K : PySem.W.Frag) (mg : Str → Option Value) (base : Heap) : Prop where
  n_isinstance : mg "isinstance" = none
  i_str : IsT K mg [.type "str"] [.str] [("InvalidText", false)]
  n_str : mg "str" = none
  n_all : mg "all" = none
  d_is_text : ∃ f fd, DF K "is_text" "is_text" s_is_text f fd ∧ mg "is_text" = some (.ref f)
  g_KEPT : ∃ v u, mg "KEPT" = some u ∧ RelV v u ∧ ∀ F, Rep ⟨K, mg⟩ F d_KEPT v
  n_len : mg "len" = none
  d_first_kept : ∃ f fd, DF K "first_kept" "first_kept" s_first_kept f fd ∧ mg "first_kept" = some (.ref f)
  n_max : mg "max" = none
  d_found_outside : ∃ f fd, DF K "found_outside" "found_outside" s_found_outside f fd ∧ mg "found_outside" = some (.ref f)
  n_sum : mg "sum" = none
  n_int : mg "int" = none
  d__law_purse : ∃ f fd, DF K "_law_purse" "_law_purse" s__law_purse f fd ∧ mg "_law_purse" = some (.ref f)
  d__law_mixed : ∃ f fd, DF K "_law_mixed" "_law_mixed" s__law_mixed f fd ∧ mg "_law_mixed" = some (.ref f)
  d__law_items : ∃ f fd, DF K "_law_items" "_law_items" s__law_items f fd ∧ mg "_law_items" = some (.ref f)
  d_plain_spots : ∃ f fd, DF K "plain_spots" "plain_spots" s_plain_spots f fd ∧ mg "plain_spots" = some (.ref f)
  n_range : mg "range" = none
  d__law_draw : ∃ f fd, DF K "_law_draw" "_law_draw" s__law_draw f fd ∧ mg "_law_draw" = some (.ref f)
  d__law_tags : ∃ f fd, DF K "_law_tags" "_law_tags" s__law_tags f fd ∧ mg "_law_tags" = some (.ref f)
  x_InvalidText : Xd P w K mg base "InvalidText" 1
  d_check_text : ∃ f fd, DF K "check_text" "check_text" s_check_text f fd ∧ mg "check_text" = some (.ref f)
  g_STRETCHES : ∃ v u, mg "STRETCHES" = some u ∧ RelV v u ∧ ∀ F, Rep ⟨K, mg⟩ F d_STRETCHES v
  d_stretches_of : ∃ f fd, DF K "stretches_of" "stretches_of" s_stretches_of f fd ∧ mg "stretches_of" = some (.ref f)
  d__law_one_of : ∃ f fd, DF K "_law_one_of" "_law_one_of" s__law_one_of f fd ∧ mg "_law_one_of" = some (.ref f)
  d__law_shuffled : ∃ f fd, DF K "_law_shuffled" "_law_shuffled" s__law_shuffled f fd ∧ mg "_law_shuffled" = some (.ref f)
  d__law_marks : ∃ f fd, DF K "_law_marks" "_law_marks" s__law_marks f fd ∧ mg "_law_marks" = some (.ref f)
  d_given_in : ∃ f fd, DF K "given_in" "given_in" s_given_in f fd ∧ mg "given_in" = some (.ref f)
  d_own_in : ∃ f fd, DF K "own_in" "own_in" s_own_in f fd ∧ mg "own_in" = some (.ref f)
  d__law_stretches : ∃ f fd, DF K "_law_stretches" "_law_stretches" s__law_stretches f fd ∧ mg "_law_stretches" = some (.ref f)
  d_given_text : ∃ f fd, DF K "given_text" "given_text" s_given_text f fd ∧ mg "given_text" = some (.ref f)
  d_own_text : ∃ f fd, DF K "own_text" "own_text" s_own_text f fd ∧ mg "own_text" = some (.ref f)
  d__law_given : ∃ f fd, DF K "_law_given" "_law_given" s__law_given f fd ∧ mg "_law_given" = some (.ref f)
  d__law_own : ∃ f fd, DF K "_law_own" "_law_own" s__law_own f fd ∧ mg "_law_own" = some (.ref f)
  c_WikiError : ∃ C, mg "WikiError" = some (.ref C) ∧ CatT K mg (.ref C) [("InvalidText", true)]
  i_InvalidText : ∃ C, mg "InvalidText" = some (.ref C) ∧ IsT K mg [.ref C] [] [("InvalidText", true)]
  n_repr : mg "repr" = none
  d__law_refused : ∃ f fd, DF K "_law_refused" "_law_refused" s__law_refused f fd ∧ mg "_law_refused" = some (.ref f)
  i_list_tuple : IsT K mg [.type "list", .type "tuple"] [.lst, .tup] [("InvalidText", false)]
  n_list : mg "list" = none
  n_tuple : mg "tuple" = none
  i_list : IsT K mg [.type "list"] [.lst] [("InvalidText", false)]
  i_tuple : IsT K mg [.type "tuple"] [.tup] [("InvalidText", false)]
  n_zip : mg "zip" = none
  i_list_tuple_dict : IsT K mg [.type "list", .type "tuple", .type "dict"] [.lst, .tup, .dic] [("InvalidText", false)]
  n_dict : mg "dict" = none
  i_int : IsT K mg [.type "int"] [.int, .bl] [("InvalidText", false)]
  i_bool : IsT K mg [.type "bool"] [.bl] [("InvalidText", false)]
  n_bool : mg "bool" = none
  d__law_exact : ∃ f fd, DF K "_law_exact" "_law_exact" s__law_exact f fd ∧ mg "_law_exact" = some (.ref f)
  d__law_right : ∃ f fd, DF K "_law_right" "_law_right" s__law_right f fd ∧ mg "_law_right" = some (.ref f)
  n_min : mg "min" = none
  d_law : ∃ f fd, DF K "law" "law" s_law f fd ∧ mg "law" = some (.ref f)
section
variable {P : Program} {w : World} {K : PySem.W.Frag} {mg : Str → Option Value} {base : Heap}
theorem sc_is_text : FnScope ["value", "sign"] ["value"] (defScope s_is_text) := ⟨rfl, rfl, rfl, by decide +kernel, rfl, by decide +kernel, by decide +kernel⟩
theorem fx_is_text (T : Tx P w K mg base) : Fw P w K mg base "is_text" s_is_text ["value"] [] .cl 1 1 f_is_text := by
  obtain ⟨f, fd, F, hm⟩ := T.d_is_text
  refine ⟨f, fd, F, fn_ok F sc_is_text (by decide) (fun cdv A outer s H E F0 O hr => ?_), hm⟩
  have tk := takes_of (X := cxOf (L2.CX P w) P w K mg base ["value", "sign"] "is_text" (defScope s_is_text) f cdv A outer s H E) rfl rfl rfl rfl
  have hp := passes_of (X := cxOf (L2.CX P w) P w K mg base ["value", "sign"] "is_text" (defScope s_is_text) f cdv A outer s H E) rfl
  have nd := sc_is_text.nd
  exact (sss_one (ss_ret (se_and (se_isi T.i_str T.n_str PyProof.Rows.Boot.«str» (se_var 0) T.n_isinstance) (se_one (se_callB (cr_all rfl) s_all T.n_all PyProof.Rows.Boot.«all» (sa_cons (se_lc [("sign", 1)] rfl nd (si_seq (se_var 0)) (blkB_ok (by rfl)) (fun _ _ _ _ _ => (sg_name 1 nd)) (fun _ _ _ _ _ => sts_nil) (fun _ _ _ _ _ => (se_or (se_chain o_le s_cmp o_le s_cmp se_str (se_var 1) se_str) (se_one (se_cmp (o_eq hr.units) s_eq (se_var 1) se_str))))) sa_nil))))))
theorem fd_is_text (T : Tx P w K mg base) : Fd P w K mg base "is_text" [] .cl 1 1 f_is_text := fd_of (fx_is_text T) (rfl) (fun _ _ _ _ _ _ us hl => match us, hl with | [_], _ => rfl)
theorem sc_first_kept : FnScope ["text", "at", "found", "word", "sign", "last", "start", "end"] ["text", "at"] (defScope s_first_kept) := ⟨rfl, rfl, rfl, by decide +kernel, rfl, by decide +kernel, by decide +kernel⟩
theorem fx_first_kept (T : Tx P w K mg base) : Fw P w K mg base "first_kept" s_first_kept ["text", "at"] [] .cl 2 1 f_first_kept := by
  obtain ⟨f, fd, F, hm⟩ := T.d_first_kept
  refine ⟨f, fd, F, fn_ok F sc_first_kept (by decide) (fun cdv A outer s H E F0 O hr => ?_), hm⟩
  have tk := takes_of (X := cxOf (L2.CX P w) P w K mg base ["text", "at", "found", "word", "sign", "last", "start", "end"] "first_kept" (defScope s_first_kept) f cdv A outer s H E) rfl rfl rfl rfl
  have hp := passes_of (X := cxOf (L2.CX P w) P w K mg base ["text", "at", "found", "word", "sign", "last", "start", "end"] "first_kept" (defScope s_first_kept) f cdv A outer s H E) rfl
  have nd := sc_first_kept.nd
  exact (sss_cons (ss_asg se_non (sg_name 2 nd)) (sss_cons (ss_for hp rfl (si_seq (se_globE T.g_KEPT)) (sg_tup rfl (sgs_cons 3 nd (sgs_cons 4 nd (sgs_cons 5 nd sgs_nil)))) (sss_cons (ss_asg (se_bm .str PySem.F.plainAttrs_str PySem.F.slot_str_find PySem.F.type_str_find mt_find3 s_find3 (se_var 0) (sa_cons (se_var 4) (sa_cons (se_var 1) sa_nil))) (sg_name 6 nd)) (sss_cons (ss_asg (se_if (sb_cmp o_lt s_cmp (se_var 6) se_int) (se_un un_neg s_neg se_int) (se_bm .str PySem.F.plainAttrs_str PySem.F.slot_str_find PySem.F.type_str_find mt_find3 s_find3 (se_var 0) (sa_cons (se_var 5) (sa_cons (se_op o_add s_add (se_var 6) (se_callB call_lenX s_len T.n_len PyProof.Rows.Boot.«len» (sa_cons (se_var 4) sa_nil))) sa_nil)))) (sg_name 7 nd)) (sss_one (ss_if (SW.sb (sw_and (sb_cmp o_ge s_cmp (se_var 7) se_int) (sw_and1 (SW.sb (sw_or (sb_cmp op_isN s_isN (se_var 2) se_non) (sw_or1 (sb_cmp o_lt s_cmp (se_var 6) (se_ix ix_seq s_ix (se_var 2) se_int)))))))) (sss_one (ss_asg (se_tup (sa_cons (se_var 6) (sa_cons (se_var 3) (sa_cons (se_cut (se_var 0) (sp_at (se_op o_add s_add (se_var 6) (se_callB call_lenX s_len T.n_len PyProof.Rows.Boot.«len» (sa_cons (se_var 4) sa_nil)))) (sp_at (se_var 7))) (sa_cons (se_op o_add s_add (se_var 7) (se_callB call_lenX s_len T.n_len PyProof.Rows.Boot.«len» (sa_cons (se_var 5) sa_nil))) sa_nil))))) (sg_name 2 nd))) sss_nil))))) (sss_one (ss_ret (se_var 2)))))
theorem fd_first_kept (T : Tx P w K mg base) : Fd P w K mg base "first_kept" [] .cl 2 1 f_first_kept := fd_of (fx_first_kept T) (rfl) (fun _ _ _ _ _ _ us hl => match us, hl with | [_, _], _ => rfl)
theorem sc_found_outside : FnScope ["text", "spots", "sign", "at", "start", "end", "place"] ["text", "spots", "sign", "at"] (defScope s_found_outside) := ⟨rfl, rfl, rfl, by decide +kernel, rfl, by decide +kernel, by decide +kernel⟩
theorem fx_found_outside (T : Tx P w K mg base) : Fw P w K mg base "found_outside" s_found_outside ["text", "spots", "sign", "at"] [] .cl 4 1 f_found_outside := by
  obtain ⟨f, fd, F, hm⟩ := T.d_found_outside
  refine ⟨f, fd, F, fn_ok F sc_found_outside (by decide) (fun cdv A outer s H E F0 O hr => ?_), hm⟩
  have tk := takes_of (X := cxOf (L2.CX P w) P w K mg base ["text", "spots", "sign", "at", "start", "end", "place"] "found_outside" (defScope s_found_outside) f cdv A outer s H E) rfl rfl rfl rfl
  have hp := passes_of (X := cxOf (L2.CX P w) P w K mg base ["text", "spots", "sign", "at", "start", "end", "place"] "found_outside" (defScope s_found_outside) f cdv A outer s H E) rfl
  have nd := sc_found_outside.nd
  exact (sss_cons (ss_for hp rfl (si_seq (se_var 1)) (sg_tup rfl (sgs_cons 4 nd (sgs_cons 5 nd sgs_nil))) (sss_cons (ss_asg (se_bm .str PySem.F.plainAttrs_str PySem.F.slot_str_find PySem.F.type_str_find mt_find4 s_find4 (se_var 0) (sa_cons (se_var 2) (sa_cons (se_callB (call_max2 rfl) s_max T.n_max PyProof.Rows.Boot.«max» (sa_cons (se_var 4) (sa_cons (se_var 3) sa_nil))) (sa_cons (se_var 5) sa_nil)))) (sg_name 6 nd)) (sss_one (ss_if (sb_cmp o_ge s_cmp (se_var 6) se_int) (sss_one (ss_ret (se_var 6))) sss_nil)))) (sss_one (ss_ret (se_un un_neg s_neg se_int))))
theorem fd_found_outside (T : Tx P w K mg base) : Fd P w K mg base "found_outside" [] .cl 4 1 f_found_outside := fd_of (fx_found_outside T) (rfl) (fun _ _ _ _ _ _ us hl => match us, hl with | [_, _, _, _], _ => rfl)
theorem sc__law_purse : FnScope ["script", "at", "seed"] ["script", "at"] (defScope s__law_purse) := ⟨rfl, rfl, rfl, by decide +kernel, rfl, by decide +kernel, by decide +kernel⟩
theorem fx__law_purse (T : Tx P w K mg base) : Fw P w K mg base "_law_purse" s__law_purse ["script", "at"] [] .fr 2 1 f__law_purse := by
  obtain ⟨f, fd, F, hm⟩ := T.d__law_purse
  refine ⟨f, fd, F, fn_ok F sc__law_purse (by decide) (fun cdv A outer s H E F0 O hr => ?_), hm⟩
  have tk := takes_of (X := cxOf (L2.CX P w) P w K mg base ["script", "at", "seed"] "_law_purse" (defScope s__law_purse) f cdv A outer s H E) rfl rfl rfl rfl
  have hp := passes_of (X := cxOf (L2.CX P w) P w K mg base ["script", "at", "seed"] "_law_purse" (defScope s__law_purse) f cdv A outer s H E) rfl
  have nd := sc__law_purse.nd
  exact (sss_cons (ss_asg (se_callB (cr_sum rfl) s_sum T.n_sum PyProof.Rows.Boot.«sum» (sa_cons (se_cut (se_var 0) (sp_at (se_var 1)) (sp_at (se_op o_add s_add (se_var 1) se_int))) sa_nil)) (sg_name 2 nd)) (sss_one (ss_retF (sf_lst (sa_cons (se_op op_mod s_mod (se_callTy call_int1 s_int T.n_int PyProof.Rows.Boot.«int» (sa_cons (se_callB (call_max2 rfl) s_max T.n_max PyProof.Rows.Boot.«max» (sa_cons (se_op op_sub s_sub (se_var 2) (se_op op_powX s_pow se_int se_int)) (sa_cons se_int sa_nil))) sa_nil)) (se_op op_powX s_pow (se_op op_powX s_pow se_int se_int) se_int)) (sa_cons (se_op op_mod s_mod (se_callTy call_int1 s_int T.n_int PyProof.Rows.Boot.«int» (sa_cons (se_var 2) sa_nil)) se_int) (sa_cons se_int (sa_cons (se_var 1) sa_nil))))))))
theorem fd__law_purse (T : Tx P w K mg base) : Fd P w K mg base "_law_purse" [] .fr 2 1 f__law_purse := fd_of (fx__law_purse T) (rfl) (fun _ _ _ _ _ _ us hl => match us, hl with | [_, _], _ => rfl)
theorem sc__law_mixed : FnScope ["seed", "spin", "at", "mixed"] ["seed", "spin", "at"] (defScope s__law_mixed) := ⟨rfl, rfl, rfl, by decide +kernel, rfl, by decide +kernel, by decide +kernel⟩
theorem fx__law_mixed (T : Tx P w K mg base) : Fw P w K mg base "_law_mixed" s__law_mixed ["seed", "spin", "at"] [] .cl 3 1 f__law_mixed := by
  obtain ⟨f, fd, F, hm⟩ := T.d__law_mixed
  refine ⟨f, fd, F, fn_ok F sc__law_mixed (by decide) (fun cdv A outer s H E F0 O hr => ?_), hm⟩
  have tk := takes_of (X := cxOf (L2.CX P w) P w K mg base ["seed", "spin", "at", "mixed"] "_law_mixed" (defScope s__law_mixed) f cdv A outer s H E) rfl rfl rfl rfl
  have hp := passes_of (X := cxOf (L2.CX P w) P w K mg base ["seed", "spin", "at", "mixed"] "_law_mixed" (defScope s__law_mixed) f cdv A outer s H E) rfl
  have nd := sc__law_mixed.nd
  exact (sss_cons (ss_asg (se_op o_add s_add (se_op o_smul s_smul (se_var 0) se_int) (se_op o_smul s_smul (se_op o_smul s_smul se_int (se_var 1)) (se_var 1))) (sg_name 3 nd)) (sss_cons (ss_asg (se_op op_mod s_mod (se_callTy call_int1 s_int T.n_int PyProof.Rows.Boot.«int» (sa_cons (se_op o_add s_add (se_op o_add s_add (se_var 3) (se_op o_smul s_smul se_int (se_var 2))) (se_var 1)) sa_nil)) se_int) (sg_name 3 nd)) (sss_cons (ss_asg (se_op op_mod s_mod (se_callTy call_int1 s_int T.n_int PyProof.Rows.Boot.«int» (sa_cons (se_op o_add s_add (se_op o_smul s_smul (se_var 3) (se_var 3)) se_int) sa_nil)) se_int) (sg_name 3 nd)) (sss_one (ss_ret (se_op op_mod s_mod (se_callTy call_int1 s_int T.n_int PyProof.Rows.Boot.«int» (sa_cons (se_op o_smul s_smul (se_var 3) se_int) sa_nil)) se_int))))))
theorem fd__law_mixed (T : Tx P w K mg base) : Fd P w K mg base "_law_mixed" [] .cl 3 1 f__law_mixed := fd_of (fx__law_mixed T) (rfl) (fun _ _ _ _ _ _ us hl => match us, hl with | [_, _, _], _ => rfl)
theorem sc__law_items : FnScope ["text", "items", "at", "late", "word", "sign", "last", "rest"] ["text"] (defScope s__law_items) := ⟨rfl, rfl, rfl, by decide +kernel, rfl, by decide +kernel, by decide +kernel⟩
theorem fx__law_items (T : Tx P w K mg base) : Fw P w K mg base "_law_items" s__law_items ["text"] [] .cl 1 1 f__law_items := by
  obtain ⟨f, fd, F, hm⟩ := T.d__law_items
  refine ⟨f, fd, F, fn_ok F sc__law_items (by decide) (fun cdv A outer s H E F0 O hr => ?_), hm⟩
  have tk := takes_of (X := cxOf (L2.CX P w) P w K mg base ["text", "items", "at", "late", "word", "sign", "last", "rest"] "_law_items" (defScope s__law_items) f cdv A outer s H E) rfl rfl rfl rfl
  have hp := passes_of (X := cxOf (L2.CX P w) P w K mg base ["text", "items", "at", "late", "word", "sign", "last", "rest"] "_law_items" (defScope s__law_items) f cdv A outer s H E) rfl
  have nd := sc__law_items.nd
  exact (sss_cons (ss_parO 1 2 rfl nd (sf_lst sa_nil) se_int) (sss_cons (ss_while 1000000 hp (sb_cmp o_lt s_cmp (se_var 2) (se_callB call_lenX s_len T.n_len PyProof.Rows.Boot.«len» (sa_cons (se_var 0) sa_nil))) (sss_cons (ss_asg (se_var 2) (sg_name 3 nd)) (sss_cons (ss_for hp rfl (si_seq (se_lst (sa_cons (se_tup (sa_cons se_str (sa_cons se_str (sa_cons se_str sa_nil)))) (sa_cons (se_tup (sa_cons se_str (sa_cons se_str (sa_cons se_str sa_nil)))) sa_nil)))) (sg_tup rfl (sgs_cons 4 nd (sgs_cons 5 nd (sgs_cons 6 nd sgs_nil)))) (sss_cons (ss_asg (se_if (sb_cmp (o_eq hr.units) s_eq (se_cut (se_var 0) (sp_at (se_var 2)) (sp_at (se_op o_add s_add (se_var 2) (se_callB call_lenX s_len T.n_len PyProof.Rows.Boot.«len» (sa_cons (se_var 5) sa_nil))))) (se_var 5)) (se_bm .str PySem.F.plainAttrs_str PySem.F.slot_str_split PySem.F.type_str_split mt_splitMax s_splitM (se_cut (se_var 0) (sp_at (se_op o_add s_add (se_var 2) (se_callB call_lenX s_len T.n_len PyProof.Rows.Boot.«len» (sa_cons (se_var 5) sa_nil)))) sp_no) (sa_cons (se_var 6) (sa_cons se_int sa_nil))) (se_lst (sa_cons (se_var 0) sa_nil))) (sg_name 7 nd)) (sss_one (ss_if (sb_cmp (o_eq hr.units) s_eq (se_callB call_lenX s_len T.n_len PyProof.Rows.Boot.«len» (sa_cons (se_var 7) sa_nil)) se_int) (sss_cons (ss_app 1 (se_tup (sa_cons (se_var 4) (sa_cons (se_ix ix_seq s_ix (se_var 7) se_int) sa_nil)))) (sss_one (ss_asg (se_op o_add s_add (se_op o_add s_add (se_op o_add s_add (se_var 2) (se_callB call_lenX s_len T.n_len PyProof.Rows.Boot.«len» (sa_cons (se_var 5) sa_nil))) (se_callB call_lenX s_len T.n_len PyProof.Rows.Boot.«len» (sa_cons (se_ix ix_seq s_ix (se_var 7) se_int) sa_nil))) (se_callB call_lenX s_len T.n_len PyProof.Rows.Boot.«len» (sa_cons (se_var 6) sa_nil))) (sg_name 3 nd)))) sss_nil)))) (sss_cons (ss_if (sb_cmp (o_eq hr.units) s_eq (se_var 3) (se_var 2)) (sss_cons (ss_app 1 (se_ix ix_seq s_ix (se_var 0) (se_var 2))) (sss_one (ss_asg (se_op o_add s_add (se_var 2) se_int) (sg_name 3 nd)))) sss_nil) (sss_one (ss_asg (se_var 3) (sg_name 2 nd))))))) (sss_one (ss_ret (se_fr (sf_move 1))))))
theorem fd__law_items (T : Tx P w K mg base) : Fd P w K mg base "_law_items" [] .cl 1 1 f__law_items := fd_of (fx__law_items T) (rfl) (fun _ _ _ _ _ _ us hl => match us, hl with | [_], _ => rfl)
theorem sc_plain_spots : FnScope ["text", "spots", "at", "kept"] ["text"] (defScope s_plain_spots) := ⟨rfl, rfl, rfl, by decide +kernel, rfl, by decide +kernel, by decide +kernel⟩
theorem fx_plain_spots (T : Tx P w K mg base) : Fw P w K mg base "plain_spots" s_plain_spots ["text"] [] .cl 1 2 f_plain_spots := by
  obtain ⟨f, fd, F, hm⟩ := T.d_plain_spots
  refine ⟨f, fd, F, fn_ok F sc_plain_spots (by decide) (fun cdv A outer s H E F0 O hr => ?_), hm⟩
  have tk := takes_of (X := cxOf (L2.CX P w) P w K mg base ["text", "spots", "at", "kept"] "plain_spots" (defScope s_plain_spots) f cdv A outer s H E) rfl rfl rfl rfl
  have hp := passes_of (X := cxOf (L2.CX P w) P w K mg base ["text", "spots", "at", "kept"] "plain_spots" (defScope s_plain_spots) f cdv A outer s H E) rfl
  have nd := sc_plain_spots.nd
  exact (sss_cons (ss_trip 1 2 3 rfl nd (wt_ow (sf_lst sa_nil)) (wt_cl se_int) (wt_cl (se_call (fd_first_kept T) (hr.mono (by decide)) tk (sa_cons (se_var 0) (sa_cons se_int sa_nil)) (aCons_len (aCons_len aNil_len))))) (sss_cons (ss_while 1000000 hp (sb_cmp op_notN s_notN (se_var 3) se_non) (sss_cons (ss_app 1 (se_tup (sa_cons (se_var 2) (sa_cons (se_ix ix_seq s_ix (se_var 3) se_int) sa_nil)))) (sss_cons (ss_asg (se_ix ix_seq s_ix (se_var 3) se_int) (sg_name 2 nd)) (sss_one (ss_asg (se_call (fd_first_kept T) (hr.mono (by decide)) tk (sa_cons (se_var 0) (sa_cons (se_var 2) sa_nil)) (aCons_len (aCons_len aNil_len))) (sg_name 3 nd)))))) (sss_one (ss_ret (se_op o_add s_add (se_own 1) (se_lst (sa_cons (se_tup (sa_cons (se_var 2) (sa_cons (se_callB call_lenX s_len T.n_len PyProof.Rows.Boot.«len» (sa_cons (se_var 0) sa_nil)) sa_nil))) sa_nil)))))))
theorem fd_plain_spots (T : Tx P w K mg base) : Fd P w K mg base "plain_spots" [] .cl 1 2 f_plain_spots := fd_of (fx_plain_spots T) (rfl) (fun _ _ _ _ _ _ us hl => match us, hl with | [_], _ => rfl)
theorem sc__law_draw : FnScope ["purse", "many", "drawn", "found", "piece"] ["purse", "many"] (defScope s__law_draw) := ⟨rfl, rfl, rfl, by decide +kernel, rfl, by decide +kernel, by decide +kernel⟩
theorem fx__law_draw (T : Tx P w K mg base) : Fw P w K mg base "_law_draw" s__law_draw ["purse", "many"] [0] .cl 2 2 f__law_draw := by
  obtain ⟨f, fd, F, hm⟩ := T.d__law_draw
  refine ⟨f, fd, F, fn_ok F sc__law_draw (by decide) (fun cdv A outer s H E F0 O hr => ?_), hm⟩
  have tk := takes_of (X := cxOf (L2.CX P w) P w K mg base ["purse", "many", "drawn", "found", "piece"] "_law_draw" (defScope s__law_draw) f cdv A outer s H E) rfl rfl rfl rfl
  have hp := passes_of (X := cxOf (L2.CX P w) P w K mg base ["purse", "many", "drawn", "found", "piece"] "_law_draw" (defScope s__law_draw) f cdv A outer s H E) rfl
  have nd := sc__law_draw.nd
  exact (sss_cons (ss_if (sb_cmp o_gt s_cmp (se_ix ix_seq s_ix (se_own 0) se_int) se_int) (sss_cons (ss_asg (se_op op_mod s_mod (se_callTy call_int1 s_int T.n_int PyProof.Rows.Boot.«int» (sa_cons (se_ix ix_seq s_ix (se_own 0) se_int) sa_nil)) (se_var 1)) (sg_name 2 nd)) (sss_cons (ss_setI 0 (se_op op_fdivW s_fdiv (se_ix ix_seq s_ix (se_own 0) se_int) (se_var 1)) se_int) (sss_one (ss_ret (se_var 2))))) sss_nil) (sss_cons (ss_asg se_int (sg_name 3 nd)) (sss_cons (ss_for hp rfl (si_range1 (se_op o_add s_add se_int (se_op op_fdivW s_fdiv (se_bits (se_var 1)) se_int)) T.n_range) (sg_name 4 nd) (sss_cons (ss_setI 0 (se_op o_add s_add (se_ix ix_seq s_ix (se_own 0) se_int) se_int) se_int) (sss_one (ss_asg (se_op o_add s_add (se_op o_smul s_smul (se_var 3) se_int) (se_call (fd__law_mixed T) (hr.mono (by decide)) tk (sa_cons (se_ix ix_seq s_ix (se_own 0) se_int) (sa_cons (se_ix ix_seq s_ix (se_own 0) se_int) (sa_cons (se_ix ix_seq s_ix (se_own 0) se_int) sa_nil))) (aCons_len (aCons_len (aCons_len aNil_len))))) (sg_name 3 nd))))) (sss_one (ss_ret (se_op op_mod s_mod (se_callTy call_int1 s_int T.n_int PyProof.Rows.Boot.«int» (sa_cons (se_var 3) sa_nil)) (se_var 1)))))))
theorem fd__law_draw (T : Tx P w K mg base) : Fd P w K mg base "_law_draw" [0] .cl 2 2 f__law_draw := fd_of (fx__law_draw T) (rfl) (fun _ _ _ _ _ _ us hl => match us, hl with | [_, _], _ => rfl)
theorem sc__law_tags : FnScope ["text", "items", "at", "spots", "item"] ["text"] (defScope s__law_tags) := ⟨rfl, rfl, rfl, by decide +kernel, rfl, by decide +kernel, by decide +kernel⟩
theorem fx__law_tags (T : Tx P w K mg base) : Fw P w K mg base "_law_tags" s__law_tags ["text"] [] .cl 1 2 f__law_tags := by
  obtain ⟨f, fd, F, hm⟩ := T.d__law_tags
  refine ⟨f, fd, F, fn_ok F sc__law_tags (by decide) (fun cdv A outer s H E F0 O hr => ?_), hm⟩
  have tk := takes_of (X := cxOf (L2.CX P w) P w K mg base ["text", "items", "at", "spots", "item"] "_law_tags" (defScope s__law_tags) f cdv A outer s H E) rfl rfl rfl rfl
  have hp := passes_of (X := cxOf (L2.CX P w) P w K mg base ["text", "items", "at", "spots", "item"] "_law_tags" (defScope s__law_tags) f cdv A outer s H E) rfl
  have nd := sc__law_tags.nd
  exact (sss_cons (ss_trip 1 2 3 rfl nd (wt_cl (se_call (fd__law_items T) (hr.mono (by decide)) tk (sa_cons (se_var 0) sa_nil) (aCons_len aNil_len))) (wt_cl se_int) (wt_ow (sf_lst sa_nil))) (sss_cons (ss_for hp rfl (si_seq (se_var 1)) (sg_name 4 nd) (sss_cons (ss_if (sb_tr (se_isi T.i_str T.n_str PyProof.Rows.Boot.«str» (se_var 4) T.n_isinstance)) (sss_one (ss_app 3 (se_var 2))) sss_nil) (sss_one (ss_asg (se_op o_add s_add (se_var 2) (se_if (sb_tr (se_isi T.i_str T.n_str PyProof.Rows.Boot.«str» (se_var 4) T.n_isinstance)) se_int (se_op o_add s_add (se_callB call_lenX s_len T.n_len PyProof.Rows.Boot.«len» (sa_cons (se_ix ix_seq s_ix (se_var 4) se_int) sa_nil)) (se_if (sb_cmp (o_eq hr.units) s_eq (se_ix ix_seq s_ix (se_var 4) se_int) se_str) se_int se_int)))) (sg_name 2 nd))))) (sss_one (ss_ret (se_fr (sf_move 3))))))
theorem fd__law_tags (T : Tx P w K mg base) : Fd P w K mg base "_law_tags" [] .cl 1 2 f__law_tags := fd_of (fx__law_tags T) (rfl) (fun _ _ _ _ _ _ us hl => match us, hl with | [_], _ => rfl)
theorem sc_check_text : FnScope ["value"] ["value"] (defScope s_check_text) := ⟨rfl, rfl, rfl, by decide +kernel, rfl, by decide +kernel, by decide +kernel⟩
theorem fx_check_text (T : Tx P w K mg base) : Fw P w K mg base "check_text" s_check_text ["value"] [] .cl 1 3 f_check_text := by
  obtain ⟨f, fd, F, hm⟩ := T.d_check_text
  refine ⟨f, fd, F, fn_ok F sc_check_text (by decide) (fun cdv A outer s H E F0 O hr => ?_), hm⟩
  have tk := takes_of (X := cxOf (L2.CX P w) P w K mg base ["value"] "check_text" (defScope s_check_text) f cdv A outer s H E) rfl rfl rfl rfl
  have hp := passes_of (X := cxOf (L2.CX P w) P w K mg base ["value"] "check_text" (defScope s_check_text) f cdv A outer s H E) rfl
  have nd := sc_check_text.nd
  exact (sss_one (ss_if (sb_not (sb_tr (se_call (fd_is_text T) (hr.mono (by decide)) tk (sa_cons (se_var 0) sa_nil) (aCons_len aNil_len)))) (sss_one (ss_raise T.x_InvalidText rfl (hr.mono (by decide)).r tk (se_var 0))) sss_nil))
theorem fd_check_text (T : Tx P w K mg base) : Fd P w K mg base "check_text" [] .cl 1 3 f_check_text := fd_of (fx_check_text T) (rfl) (fun _ _ _ _ _ _ us hl => match us, hl with | [_], _ => rfl)
theorem sc_stretches_of : FnScope ["text", "spots", "found", "at", "best", "word", "sign", "last", "start", "end"] ["text"] (defScope s_stretches_of) := ⟨rfl, rfl, rfl, by decide +kernel, rfl, by decide +kernel, by decide +kernel⟩
theorem fx_stretches_of (T : Tx P w K mg base) : Fw P w K mg base "stretches_of" s_stretches_of ["text"] [] .cl 1 3 f_stretches_of := by
  obtain ⟨f, fd, F, hm⟩ := T.d_stretches_of
  refine ⟨f, fd, F, fn_ok F sc_stretches_of (by decide) (fun cdv A outer s H E F0 O hr => ?_), hm⟩
  have tk := takes_of (X := cxOf (L2.CX P w) P w K mg base ["text", "spots", "found", "at", "best", "word", "sign", "last", "start", "end"] "stretches_of" (defScope s_stretches_of) f cdv A outer s H E) rfl rfl rfl rfl
  have hp := passes_of (X := cxOf (L2.CX P w) P w K mg base ["text", "spots", "found", "at", "best", "word", "sign", "last", "start", "end"] "stretches_of" (defScope s_stretches_of) f cdv A outer s H E) rfl
  have nd := sc_stretches_of.nd
  exact (sss_cons (ss_trip 1 2 3 rfl nd (wt_cl (se_call (fd_plain_spots T) (hr.mono (by decide)) tk (sa_cons (se_var 0) sa_nil) (aCons_len aNil_len))) (wt_ow (sf_lst sa_nil)) (wt_cl se_int)) (sss_cons (ss_while 1000000 hp (sb_cmp op_notN s_notN (se_var 3) se_non) (sss_cons (ss_asg se_non (sg_name 4 nd)) (sss_cons (ss_for hp rfl (si_seq (se_globE T.g_STRETCHES)) (sg_tup rfl (sgs_cons 5 nd (sgs_cons 6 nd (sgs_cons 7 nd sgs_nil)))) (sss_cons (ss_asg (se_call (fd_found_outside T) (hr.mono (by decide)) tk (sa_cons (se_var 0) (sa_cons (se_var 1) (sa_cons (se_var 6) (sa_cons (se_var 3) sa_nil)))) (aCons_len (aCons_len (aCons_len (aCons_len aNil_len))))) (sg_name 8 nd)) (sss_cons (ss_asg (se_if (sb_cmp o_lt s_cmp (se_var 8) se_int) (se_un un_neg s_neg se_int) (se_call (fd_found_outside T) (hr.mono (by decide)) tk (sa_cons (se_var 0) (sa_cons (se_var 1) (sa_cons (se_var 7) (sa_cons (se_op o_add s_add (se_var 8) (se_callB call_lenX s_len T.n_len PyProof.Rows.Boot.«len» (sa_cons (se_var 6) sa_nil))) sa_nil)))) (aCons_len (aCons_len (aCons_len (aCons_len aNil_len)))))) (sg_name 9 nd)) (sss_one (ss_if (SW.sb (sw_and (sb_cmp o_ge s_cmp (se_var 9) se_int) (sw_and1 (SW.sb (sw_or (sb_cmp op_isN s_isN (se_var 4) se_non) (sw_or1 (sb_cmp o_lt s_cmp (se_var 8) (se_ix ix_seq s_ix (se_var 4) se_int)))))))) (sss_one (ss_asg (se_tup (sa_cons (se_var 5) (sa_cons (se_var 8) (sa_cons (se_op o_add s_add (se_var 8) (se_callB call_lenX s_len T.n_len PyProof.Rows.Boot.«len» (sa_cons (se_var 6) sa_nil))) (sa_cons (se_var 9) (sa_cons (se_op o_add s_add (se_var 9) (se_callB call_lenX s_len T.n_len PyProof.Rows.Boot.«len» (sa_cons (se_var 7) sa_nil))) sa_nil)))))) (sg_name 4 nd))) sss_nil))))) (sss_cons (ss_asg (se_if (sb_cmp op_isN s_isN (se_var 4) se_non) se_non (se_ix ix_seq s_ix (se_var 4) se_int)) (sg_name 3 nd)) (sss_one (ss_ext 2 (se_if (sb_cmp op_isN s_isN (se_var 4) se_non) (se_lst sa_nil) (se_lst (sa_cons (se_var 4) sa_nil))))))))) (sss_one (ss_ret (se_fr (sf_move 2))))))
theorem fd_stretches_of (T : Tx P w K mg base) : Fd P w K mg base "stretches_of" [] .cl 1 3 f_stretches_of := fd_of (fx_stretches_of T) (rfl) (fun _ _ _ _ _ _ us hl => match us, hl with | [_], _ => rfl)
theorem sc__law_one_of : FnScope ["purse", "some"] ["purse", "some"] (defScope s__law_one_of) := ⟨rfl, rfl, rfl, by decide +kernel, rfl, by decide +kernel, by decide +kernel⟩
theorem fx__law_one_of (T : Tx P w K mg base) : Fw P w K mg base "_law_one_of" s__law_one_of ["purse", "some"] [0] .cl 2 3 f__law_one_of := by
  obtain ⟨f, fd, F, hm⟩ := T.d__law_one_of
  refine ⟨f, fd, F, fn_ok F sc__law_one_of (by decide) (fun cdv A outer s H E F0 O hr => ?_), hm⟩
  have tk := takes_of (X := cxOf (L2.CX P w) P w K mg base ["purse", "some"] "_law_one_of" (defScope s__law_one_of) f cdv A outer s H E) rfl rfl rfl rfl
  have hp := passes_of (X := cxOf (L2.CX P w) P w K mg base ["purse", "some"] "_law_one_of" (defScope s__law_one_of) f cdv A outer s H E) rfl
  have nd := sc__law_one_of.nd
  exact (sss_one (ss_ret (se_ix ix_seq s_ix (se_var 1) (se_callO 0 (fd__law_draw T) (hr.mono (by decide)) tk (sa_cons (se_callB call_lenX s_len T.n_len PyProof.Rows.Boot.«len» (sa_cons (se_var 1) sa_nil)) sa_nil) (aCons_len aNil_len)))))
theorem fd__law_one_of (T : Tx P w K mg base) : Fd P w K mg base "_law_one_of" [0] .cl 2 3 f__law_one_of := fd_of (fx__law_one_of T) (rfl) (fun _ _ _ _ _ _ us hl => match us, hl with | [_, _], _ => rfl)
theorem sc__law_shuffled : FnScope ["purse", "some", "found", "item"] ["purse", "some"] (defScope s__law_shuffled) := ⟨rfl, rfl, rfl, by decide +kernel, rfl, by decide +kernel, by decide +kernel⟩
theorem fx__law_shuffled (T : Tx P w K mg base) : Fw P w K mg base "_law_shuffled" s__law_shuffled ["purse", "some"] [0] .cl 2 3 f__law_shuffled := by
  obtain ⟨f, fd, F, hm⟩ := T.d__law_shuffled
  refine ⟨f, fd, F, fn_ok F sc__law_shuffled (by decide) (fun cdv A outer s H E F0 O hr => ?_), hm⟩
  have tk := takes_of (X := cxOf (L2.CX P w) P w K mg base ["purse", "some", "found", "item"] "_law_shuffled" (defScope s__law_shuffled) f cdv A outer s H E) rfl rfl rfl rfl
  have hp := passes_of (X := cxOf (L2.CX P w) P w K mg base ["purse", "some", "found", "item"] "_law_shuffled" (defScope s__law_shuffled) f cdv A outer s H E) rfl
  have nd := sc__law_shuffled.nd
  exact (sss_cons (ss_asgO 2 nd (sf_lst sa_nil)) (sss_cons (ss_for hp rfl (si_seq (se_var 1)) (sg_name 3 nd) (sss_one (ss_ins 2 (sa_cons (se_callO 0 (fd__law_draw T) (hr.mono (by decide)) tk (sa_cons (se_op o_add s_add (se_callB call_lenX s_len T.n_len PyProof.Rows.Boot.«len» (sa_cons (se_own 2) sa_nil)) se_int) sa_nil) (aCons_len aNil_len)) (sa_cons (se_var 3) sa_nil))))) (sss_one (ss_ret (se_fr (sf_move 2))))))
theorem fd__law_shuffled (T : Tx P w K mg base) : Fd P w K mg base "_law_shuffled" [0] .cl 2 3 f__law_shuffled := fd_of (fx__law_shuffled T) (rfl) (fun _ _ _ _ _ _ us hl => match us, hl with | [_, _], _ => rfl)
theorem sc__law_marks : FnScope ["text", "spots", "found", "place", "sign", "k"] ["text"] (defScope s__law_marks) := ⟨rfl, rfl, rfl, by decide +kernel, rfl, by decide +kernel, by decide +kernel⟩
theorem fx__law_marks (T : Tx P w K mg base) : Fw P w K mg base "_law_marks" s__law_marks ["text"] [] .cl 1 3 f__law_marks := by
  obtain ⟨f, fd, F, hm⟩ := T.d__law_marks
  refine ⟨f, fd, F, fn_ok F sc__law_marks (by decide) (fun cdv A outer s H E F0 O hr => ?_), hm⟩
  have tk := takes_of (X := cxOf (L2.CX P w) P w K mg base ["text", "spots", "found", "place", "sign", "k"] "_law_marks" (defScope s__law_marks) f cdv A outer s H E) rfl rfl rfl rfl
  have hp := passes_of (X := cxOf (L2.CX P w) P w K mg base ["text", "spots", "found", "place", "sign", "k"] "_law_marks" (defScope s__law_marks) f cdv A outer s H E) rfl
  have nd := sc__law_marks.nd
  exact (sss_cons (ss_pairT 1 2 rfl nd (wt_cl (se_call (fd__law_tags T) (hr.mono (by decide)) tk (sa_cons (se_var 0) sa_nil) (aCons_len aNil_len))) (wt_ow (sf_lst sa_nil))) (sss_cons (ss_for hp rfl (si_seq (se_var 1)) (sg_name 3 nd) (sss_one (ss_for hp rfl (si_seq (se_lst (sa_cons se_str (sa_cons se_str (sa_cons se_str (sa_cons se_str sa_nil)))))) (sg_name 4 nd) (sss_one (ss_if (SW.sb (sw_and (sb_cmp (o_eq hr.units) s_eq (se_cut (se_var 0) (sp_at (se_var 3)) (sp_at (se_op o_add s_add (se_var 3) (se_callB call_lenX s_len T.n_len PyProof.Rows.Boot.«len» (sa_cons (se_var 4) sa_nil))))) (se_var 4)) (sw_and1 (sb_tr (se_callB (cr_all rfl) s_all T.n_all PyProof.Rows.Boot.«all» (sa_cons (se_lc [("k", 5)] rfl nd (si_range1 (se_callB call_lenX s_len T.n_len PyProof.Rows.Boot.«len» (sa_cons (se_var 4) sa_nil)) T.n_range) (blkB_ok (by rfl)) (fun _ _ _ _ _ => (sg_name 5 nd)) (fun _ _ _ _ _ => sts_nil) (fun _ _ _ _ _ => (se_cmp o_in s_in (se_op o_add s_add (se_var 3) (se_var 5)) (se_var 1)))) sa_nil)))))) (sss_one (ss_app 2 (se_tup (sa_cons (se_var 3) (sa_cons (se_var 4) sa_nil))))) sss_nil))))) (sss_one (ss_ret (se_fr (sf_move 2))))))
theorem fd__law_marks (T : Tx P w K mg base) : Fd P w K mg base "_law_marks" [] .cl 1 3 f__law_marks := fd_of (fx__law_marks T) (rfl) (fun _ _ _ _ _ _ us hl => match us, hl with | [_], _ => rfl)
theorem sc_given_in : FnScope ["text", "stretches", "only", "left", "at", "word", "start", "first", "last", "end"] ["text"] (defScope s_given_in) := ⟨rfl, rfl, rfl, by decide +kernel, rfl, by decide +kernel, by decide +kernel⟩
theorem fx_given_in (T : Tx P w K mg base) : Fw P w K mg base "given_in" s_given_in ["text"] [] .cl 1 4 f_given_in := by
  obtain ⟨f, fd, F, hm⟩ := T.d_given_in
  refine ⟨f, fd, F, fn_ok F sc_given_in (by decide) (fun cdv A outer s H E F0 O hr => ?_), hm⟩
  have tk := takes_of (X := cxOf (L2.CX P w) P w K mg base ["text", "stretches", "only", "left", "at", "word", "start", "first", "last", "end"] "given_in" (defScope s_given_in) f cdv A outer s H E) rfl rfl rfl rfl
  have hp := passes_of (X := cxOf (L2.CX P w) P w K mg base ["text", "stretches", "only", "left", "at", "word", "start", "first", "last", "end"] "given_in" (defScope s_given_in) f cdv A outer s H E) rfl
  have nd := sc_given_in.nd
  exact (sss_cons (ss_asg (se_call (fd_stretches_of T) (hr.mono (by decide)) tk (sa_cons (se_var 0) sa_nil) (aCons_len aNil_len)) (sg_name 1 nd)) (sss_cons (ss_asgLc [("word", 5), ("start", 6), ("first", 7), ("last", 8), ("end", 9)] rfl nd (si_seq (se_var 1)) (blkB_ok (by rfl)) (fun _ _ _ _ _ => (sg_tup rfl (sgs_cons 5 nd (sgs_cons 6 nd (sgs_cons 7 nd (sgs_cons 8 nd (sgs_cons 9 nd sgs_nil))))))) (fun _ _ _ _ _ => (sts_one (sb_cmp (o_eq hr.units) s_eq (se_var 5) se_str))) (fun _ _ _ _ _ => (se_cut (se_var 0) (sp_at (se_var 7)) (sp_at (se_var 8)))) (i := 2)) (sss_cons (ss_if (sb_tr (se_var 2)) (sss_one (ss_ret (se_bm .str PySem.F.plainAttrs_str PySem.F.slot_str_join PySem.F.type_str_join mt_join s_join se_str (sa_cons (se_var 2) sa_nil)))) sss_nil) (sss_cons (ss_asg (se_tup (sa_cons se_str (sa_cons se_int sa_nil))) (sg_tup rfl (sgs_cons 3 nd (sgs_cons 4 nd sgs_nil)))) (sss_cons (ss_for hp rfl (si_seq (se_var 1)) (sg_tup rfl (sgs_cons 5 nd (sgs_cons 6 nd (sgs_cons 7 nd (sgs_cons 8 nd (sgs_cons 9 nd sgs_nil)))))) (sss_cons (ss_aug 3 nd (se_cut (se_var 0) (sp_at (se_var 4)) (sp_at (se_var 6)))) (sss_one (ss_asg (se_var 9) (sg_name 4 nd))))) (sss_one (ss_ret (se_op o_add s_add (se_var 3) (se_cut (se_var 0) (sp_at (se_var 4)) sp_no)))))))))
theorem fd_given_in (T : Tx P w K mg base) : Fd P w K mg base "given_in" [] .cl 1 4 f_given_in := fd_of (fx_given_in T) (rfl) (fun _ _ _ _ _ _ us hl => match us, hl with | [_], _ => rfl)
theorem sc_own_in : FnScope ["text", "left", "at", "word", "start", "first", "last", "end"] ["text"] (defScope s_own_in) := ⟨rfl, rfl, rfl, by decide +kernel, rfl, by decide +kernel, by decide +kernel⟩
theorem fx_own_in (T : Tx P w K mg base) : Fw P w K mg base "own_in" s_own_in ["text"] [] .cl 1 4 f_own_in := by
  obtain ⟨f, fd, F, hm⟩ := T.d_own_in
  refine ⟨f, fd, F, fn_ok F sc_own_in (by decide) (fun cdv A outer s H E F0 O hr => ?_), hm⟩
  have tk := takes_of (X := cxOf (L2.CX P w) P w K mg base ["text", "left", "at", "word", "start", "first", "last", "end"] "own_in" (defScope s_own_in) f cdv A outer s H E) rfl rfl rfl rfl
  have hp := passes_of (X := cxOf (L2.CX P w) P w K mg base ["text", "left", "at", "word", "start", "first", "last", "end"] "own_in" (defScope s_own_in) f cdv A outer s H E) rfl
  have nd := sc_own_in.nd
  exact (sss_cons (ss_asg (se_tup (sa_cons se_str (sa_cons se_int sa_nil))) (sg_tup rfl (sgs_cons 1 nd (sgs_cons 2 nd sgs_nil)))) (sss_cons (ss_for hp rfl (si_seq (se_call (fd_stretches_of T) (hr.mono (by decide)) tk (sa_cons (se_var 0) sa_nil) (aCons_len aNil_len))) (sg_tup rfl (sgs_cons 3 nd (sgs_cons 4 nd (sgs_cons 5 nd (sgs_cons 6 nd (sgs_cons 7 nd sgs_nil)))))) (sss_cons (ss_aug 1 nd (se_op o_add s_add (se_cut (se_var 0) (sp_at (se_var 2)) (sp_at (se_var 4))) (se_cut (se_var 0) (sp_at (se_var 5)) (sp_at (se_var 6))))) (sss_one (ss_asg (se_var 7) (sg_name 2 nd))))) (sss_one (ss_ret (se_op o_add s_add (se_var 1) (se_cut (se_var 0) (sp_at (se_var 2)) sp_no))))))
theorem fd_own_in (T : Tx P w K mg base) : Fd P w K mg base "own_in" [] .cl 1 4 f_own_in := fd_of (fx_own_in T) (rfl) (fun _ _ _ _ _ _ us hl => match us, hl with | [_], _ => rfl)
theorem sc__law_stretches : FnScope ["text", "marks", "found", "at", "place", "sign", "ends", "late", "other"] ["text"] (defScope s__law_stretches) := ⟨rfl, rfl, rfl, by decide +kernel, rfl, by decide +kernel, by decide +kernel⟩
theorem fx__law_stretches (T : Tx P w K mg base) : Fw P w K mg base "_law_stretches" s__law_stretches ["text"] [] .cl 1 4 f__law_stretches := by
  obtain ⟨f, fd, F, hm⟩ := T.d__law_stretches
  refine ⟨f, fd, F, fn_ok F sc__law_stretches (by decide) (fun cdv A outer s H E F0 O hr => ?_), hm⟩
  have tk := takes_of (X := cxOf (L2.CX P w) P w K mg base ["text", "marks", "found", "at", "place", "sign", "ends", "late", "other"] "_law_stretches" (defScope s__law_stretches) f cdv A outer s H E) rfl rfl rfl rfl
  have hp := passes_of (X := cxOf (L2.CX P w) P w K mg base ["text", "marks", "found", "at", "place", "sign", "ends", "late", "other"] "_law_stretches" (defScope s__law_stretches) f cdv A outer s H E) rfl
  have nd := sc__law_stretches.nd
  exact (sss_cons (ss_trip 1 2 3 rfl nd (wt_cl (se_call (fd__law_marks T) (hr.mono (by decide)) tk (sa_cons (se_var 0) sa_nil) (aCons_len aNil_len))) (wt_ow (sf_lst sa_nil)) (wt_cl se_int)) (sss_cons (ss_for hp rfl (si_seq (se_var 1)) (sg_tup rfl (sgs_cons 4 nd (sgs_cons 5 nd sgs_nil))) (sss_cons (ss_asgLc [("late", 7), ("other", 8)] rfl nd (si_seq (se_var 1)) (blkB_ok (by rfl)) (fun _ _ _ _ _ => (sg_tup rfl (sgs_cons 7 nd (sgs_cons 8 nd sgs_nil)))) (fun _ _ _ _ _ => (sts_one (SW.sb (sw_and (sb_cmp o_gt s_cmp (se_var 7) (se_var 4)) (sw_and1 (sb_cmp (o_eq hr.units) s_eq (se_var 8) (se_op o_add s_add se_str (se_cut (se_var 5) (sp_at se_int) sp_no)))))))) (fun _ _ _ _ _ => (se_var 7)) (i := 6)) (sss_one (ss_if (SW.sb (sw_and (sb_cmp o_ge s_cmp (se_var 4) (se_var 3)) (sw_and (sb_cmp (o_ne hr.units) s_ne (se_ix ix_seq s_ix (se_var 5) se_int) se_str) (sw_and1 (sb_cmp (o_ne hr.units) s_ne (se_var 6) (se_lst sa_nil)))))) (sss_cons (ss_app 2 (se_tup (sa_cons (se_var 5) (sa_cons (se_var 4) (sa_cons (se_op o_add s_add (se_var 4) (se_callB call_lenX s_len T.n_len PyProof.Rows.Boot.«len» (sa_cons (se_var 5) sa_nil))) (sa_cons (se_ix ix_seq s_ix (se_var 6) se_int) (sa_cons (se_op o_add s_add (se_op o_add s_add (se_ix ix_seq s_ix (se_var 6) se_int) (se_callB call_lenX s_len T.n_len PyProof.Rows.Boot.«len» (sa_cons (se_var 5) sa_nil))) se_int) sa_nil))))))) (sss_one (ss_asg (se_ix ix_seq s_ix (se_ix ix_seq s_ix (se_own 2) (se_un un_neg s_neg se_int)) se_int) (sg_name 3 nd)))) sss_nil)))) (sss_one (ss_ret (se_fr (sf_move 2))))))
theorem fd__law_stretches (T : Tx P w K mg base) : Fd P w K mg base "_law_stretches" [] .cl 1 4 f__law_stretches := fd_of (fx__law_stretches T) (rfl) (fun _ _ _ _ _ _ us hl => match us, hl with | [_], _ => rfl)
theorem sc_given_text : FnScope ["text"] ["text"] (defScope s_given_text) := ⟨rfl, rfl, rfl, by decide +kernel, rfl, by decide +kernel, by decide +kernel⟩
theorem fx_given_text (T : Tx P w K mg base) : Fw P w K mg base "given_text" s_given_text ["text"] [] .cl 1 5 f_given_text := by
  obtain ⟨f, fd, F, hm⟩ := T.d_given_text
  refine ⟨f, fd, F, fn_ok F sc_given_text (by decide) (fun cdv A outer s H E F0 O hr => ?_), hm⟩
  have tk := takes_of (X := cxOf (L2.CX P w) P w K mg base ["text"] "given_text" (defScope s_given_text) f cdv A outer s H E) rfl rfl rfl rfl
  have hp := passes_of (X := cxOf (L2.CX P w) P w K mg base ["text"] "given_text" (defScope s_given_text) f cdv A outer s H E) rfl
  have nd := sc_given_text.nd
  exact (sss_cons (ss_expr (se_call (fd_check_text T) (hr.mono (by decide)) tk (sa_cons (se_var 0) sa_nil) (aCons_len aNil_len))) (sss_one (ss_ret (se_call (fd_given_in T) (hr.mono (by decide)) tk (sa_cons (se_var 0) sa_nil) (aCons_len aNil_len)))))
theorem fd_given_text (T : Tx P w K mg base) : Fd P w K mg base "given_text" [] .cl 1 5 f_given_text := fd_of (fx_given_text T) (rfl) (fun _ _ _ _ _ _ us hl => match us, hl with | [_], _ => rfl)
theorem fk_given_text_text (T : Tx P w K mg base) : Fk P w K mg base "given_text" ["text"] [0] 1 5 f_given_text := fk_of (fx_given_text T) rfl fun _ _ _ _ _ _ us ws hl => match us, ws, hl with | [], _ :: _, _ => rfl
theorem sc_own_text : FnScope ["text"] ["text"] (defScope s_own_text) := ⟨rfl, rfl, rfl, by decide +kernel, rfl, by decide +kernel, by decide +kernel⟩
theorem fx_own_text (T : Tx P w K mg base) : Fw P w K mg base "own_text" s_own_text ["text"] [] .cl 1 5 f_own_text := by
  obtain ⟨f, fd, F, hm⟩ := T.d_own_text
  refine ⟨f, fd, F, fn_ok F sc_own_text (by decide) (fun cdv A outer s H E F0 O hr => ?_), hm⟩
  have tk := takes_of (X := cxOf (L2.CX P w) P w K mg base ["text"] "own_text" (defScope s_own_text) f cdv A outer s H E) rfl rfl rfl rfl
  have hp := passes_of (X := cxOf (L2.CX P w) P w K mg base ["text"] "own_text" (defScope s_own_text) f cdv A outer s H E) rfl
  have nd := sc_own_text.nd
  exact (sss_cons (ss_expr (se_call (fd_check_text T) (hr.mono (by decide)) tk (sa_cons (se_var 0) sa_nil) (aCons_len aNil_len))) (sss_one (ss_ret (se_call (fd_own_in T) (hr.mono (by decide)) tk (sa_cons (se_var 0) sa_nil) (aCons_len aNil_len)))))
theorem fd_own_text (T : Tx P w K mg base) : Fd P w K mg base "own_text" [] .cl 1 5 f_own_text := fd_of (fx_own_text T) (rfl) (fun _ _ _ _ _ _ us hl => match us, hl with | [_], _ => rfl)
theorem fk_own_text_text (T : Tx P w K mg base) : Fk P w K mg base "own_text" ["text"] [0] 1 5 f_own_text := fk_of (fx_own_text T) rfl fun _ _ _ _ _ _ us ws hl => match us, ws, hl with | [], _ :: _, _ => rfl
theorem sc__law_given : FnScope ["text", "stretches", "only", "left", "at", "sign", "start", "first", "last", "end"] ["text"] (defScope s__law_given) := ⟨rfl, rfl, rfl, by decide +kernel, rfl, by decide +kernel, by decide +kernel⟩
theorem fx__law_given (T : Tx P w K mg base) : Fw P w K mg base "_law_given" s__law_given ["text"] [] .cl 1 5 f__law_given := by
  obtain ⟨f, fd, F, hm⟩ := T.d__law_given
  refine ⟨f, fd, F, fn_ok F sc__law_given (by decide) (fun cdv A outer s H E F0 O hr => ?_), hm⟩
  have tk := takes_of (X := cxOf (L2.CX P w) P w K mg base ["text", "stretches", "only", "left", "at", "sign", "start", "first", "last", "end"] "_law_given" (defScope s__law_given) f cdv A outer s H E) rfl rfl rfl rfl
  have hp := passes_of (X := cxOf (L2.CX P w) P w K mg base ["text", "stretches", "only", "left", "at", "sign", "start", "first", "last", "end"] "_law_given" (defScope s__law_given) f cdv A outer s H E) rfl
  have nd := sc__law_given.nd
  exact (sss_cons (ss_asg (se_call (fd__law_stretches T) (hr.mono (by decide)) tk (sa_cons (se_var 0) sa_nil) (aCons_len aNil_len)) (sg_name 1 nd)) (sss_cons (ss_asgLc [("sign", 5), ("start", 6), ("first", 7), ("last", 8), ("end", 9)] rfl nd (si_seq (se_var 1)) (blkB_ok (by rfl)) (fun _ _ _ _ _ => (sg_tup rfl (sgs_cons 5 nd (sgs_cons 6 nd (sgs_cons 7 nd (sgs_cons 8 nd (sgs_cons 9 nd sgs_nil))))))) (fun _ _ _ _ _ => (sts_one (sb_cmp (o_eq hr.units) s_eq (se_var 5) se_str))) (fun _ _ _ _ _ => (se_cut (se_var 0) (sp_at (se_var 7)) (sp_at (se_var 8)))) (i := 2)) (sss_cons (ss_if (sb_cmp (o_ne hr.units) s_ne (se_var 2) (se_lst sa_nil)) (sss_one (ss_ret (se_bm .str PySem.F.plainAttrs_str PySem.F.slot_str_join PySem.F.type_str_join mt_join s_join se_str (sa_cons (se_var 2) sa_nil)))) sss_nil) (sss_cons (ss_asg (se_tup (sa_cons se_str (sa_cons se_int sa_nil))) (sg_tup rfl (sgs_cons 3 nd (sgs_cons 4 nd sgs_nil)))) (sss_cons (ss_for hp rfl (si_seq (se_var 1)) (sg_tup rfl (sgs_cons 5 nd (sgs_cons 6 nd (sgs_cons 7 nd (sgs_cons 8 nd (sgs_cons 9 nd sgs_nil)))))) (sss_one (ss_par 3 4 rfl nd (sa_cons (se_op o_add s_add (se_var 3) (se_cut (se_var 0) (sp_at (se_var 4)) (sp_at (se_var 6)))) (sa_cons (se_var 9) sa_nil))))) (sss_one (ss_ret (se_op o_add s_add (se_var 3) (se_cut (se_var 0) (sp_at (se_var 4)) sp_no)))))))))
theorem fd__law_given (T : Tx P w K mg base) : Fd P w K mg base "_law_given" [] .cl 1 5 f__law_given := fd_of (fx__law_given T) (rfl) (fun _ _ _ _ _ _ us hl => match us, hl with | [_], _ => rfl)
theorem sc__law_own : FnScope ["text", "left", "at", "sign", "start", "first", "last", "end"] ["text"] (defScope s__law_own) := ⟨rfl, rfl, rfl, by decide +kernel, rfl, by decide +kernel, by decide +kernel⟩
theorem fx__law_own (T : Tx P w K mg base) : Fw P w K mg base "_law_own" s__law_own ["text"] [] .cl 1 5 f__law_own := by
  obtain ⟨f, fd, F, hm⟩ := T.d__law_own
  refine ⟨f, fd, F, fn_ok F sc__law_own (by decide) (fun cdv A outer s H E F0 O hr => ?_), hm⟩
  have tk := takes_of (X := cxOf (L2.CX P w) P w K mg base ["text", "left", "at", "sign", "start", "first", "last", "end"] "_law_own" (defScope s__law_own) f cdv A outer s H E) rfl rfl rfl rfl
  have hp := passes_of (X := cxOf (L2.CX P w) P w K mg base ["text", "left", "at", "sign", "start", "first", "last", "end"] "_law_own" (defScope s__law_own) f cdv A outer s H E) rfl
  have nd := sc__law_own.nd
  exact (sss_cons (ss_asg (se_tup (sa_cons se_str (sa_cons se_int sa_nil))) (sg_tup rfl (sgs_cons 1 nd (sgs_cons 2 nd sgs_nil)))) (sss_cons (ss_for hp rfl (si_seq (se_call (fd__law_stretches T) (hr.mono (by decide)) tk (sa_cons (se_var 0) sa_nil) (aCons_len aNil_len))) (sg_tup rfl (sgs_cons 3 nd (sgs_cons 4 nd (sgs_cons 5 nd (sgs_cons 6 nd (sgs_cons 7 nd sgs_nil)))))) (sss_one (ss_par 1 2 rfl nd (sa_cons (se_op o_add s_add (se_op o_add s_add (se_var 1) (se_cut (se_var 0) (sp_at (se_var 2)) (sp_at (se_var 4)))) (se_cut (se_var 0) (sp_at (se_var 5)) (sp_at (se_var 6)))) (sa_cons (se_var 7) sa_nil))))) (sss_one (ss_ret (se_op o_add s_add (se_var 1) (se_cut (se_var 0) (sp_at (se_var 2)) sp_no))))))
theorem fd__law_own (T : Tx P w K mg base) : Fd P w K mg base "_law_own" [] .cl 1 5 f__law_own := fd_of (fx__law_own T) (rfl) (fun _ _ _ _ _ _ us hl => match us, hl with | [_], _ => rfl)
theorem sc__law_refused : FnScope ["odd", "way", "caught", "error"] [] (defScope s__law_refused) := ⟨rfl, rfl, rfl, by decide +kernel, rfl, by decide +kernel, by decide +kernel⟩
theorem fr__law_refused (T : Tx P w K mg base) : Fw P w K mg base "_law_refused" s__law_refused [] [] .cl 0 6 r__law_refused := by
  obtain ⟨f, fd, F, hm⟩ := T.d__law_refused
  refine ⟨f, fd, F, fn_ok F sc__law_refused (by decide) (fun cdv A outer s H E F0 O hr => ?_), hm⟩
  have tk := takes_of (X := cxOf (L2.CX P w) P w K mg base ["odd", "way", "caught", "error"] "_law_refused" (defScope s__law_refused) f cdv A outer s H E) rfl rfl rfl rfl
  have hp := passes_of (X := cxOf (L2.CX P w) P w K mg base ["odd", "way", "caught", "error"] "_law_refused" (defScope s__law_refused) f cdv A outer s H E) rfl
  have nd := sc__law_refused.nd
  exact (sss_cons (ss_for hp rfl (si_seq (se_lst (sa_cons se_non (sa_cons se_int (sa_cons se_bl (sa_cons (se_lst (sa_cons se_str sa_nil)) (sa_cons (se_tup (sa_cons se_str sa_nil)) (sa_cons (se_disp (sd_cons se_str se_str sd_nil)) (sa_cons se_str (sa_cons se_int sa_nil)))))))))) (sg_name 0 nd) (sss_one (ss_for hp rfl (si_range1 se_int T.n_range) (sg_name 1 nd) (sss_cons (ss_asg se_non (sg_name 2 nd)) (sss_cons (ss_tryKE 3 2 T.c_WikiError rfl rfl rfl nd tk (fun W1 pn1 xe1 tk1 hp1 => (sss_one (ss_if (sb_cmp (o_eq hr.units) s_eq (se_var 1) se_int) (sss_one (ss_expr (se_call (fd_given_text T) (hr.mono (by decide)) tk1 (sa_cons (se_var 0) sa_nil) (aCons_len aNil_len)))) (sss_one (ss_expr (se_call (fd_own_text T) (hr.mono (by decide)) tk1 (sa_cons (se_var 0) sa_nil) (aCons_len aNil_len)))))))) (sss_one (ss_if (SW.sb (sw_or (sb_not (sb_tr (se_isiOE T.i_InvalidText (se_var 2) T.n_isinstance))) (sw_or1 (sb_cmp (o_ne hr.units) s_ne (se_repr hr T.n_repr (sa_cons (se_val (se_var 2)) sa_nil)) (se_repr hr T.n_repr (sa_cons (se_var 0) sa_nil)))))) (sss_one (ss_ret se_bl)) sss_nil))))))) (sss_one (ss_ret se_bl)))
theorem fx__law_refused (T : Tx P w K mg base) : Fw P w K mg base "_law_refused" s__law_refused [] [] .cl 0 6 f__law_refused := (fr__law_refused T).flat
theorem fd__law_refused (T : Tx P w K mg base) : Fd P w K mg base "_law_refused" [] .cl 0 6 f__law_refused := fd_of (fx__law_refused T) (rfl) (fun _ _ _ _ _ _ us hl => match us, hl with | [], _ => rfl)
theorem sc__law_exact : FnScope ["mine", "theirs", "is_like", "a", "b"] ["mine", "theirs"] (defScope s__law_exact) := ⟨rfl, rfl, rfl, by decide +kernel, rfl, by decide +kernel, by decide +kernel⟩
theorem fx__law_exact_ (T : Tx P w K mg base) : ∀ n : Nat, Fw P w K mg base "_law_exact" s__law_exact ["mine", "theirs"] [] .cl 2 (n + 1) (f__law_exact_ n)
  | 0 => by
    obtain ⟨f, fd, F, hm⟩ := T.d__law_exact
    exact ⟨f, fd, F, fn_ok F sc__law_exact (by decide) (fun cdv A outer s H E F0 O hr => sss_bad), hm⟩
  | n + 1 => by
    have ih := fd_of (fx__law_exact_ T n) (rfl) (fun _ _ _ _ _ _ us hl => match us, hl with | [_, _], _ => rfl)
    obtain ⟨f, fd, F, hm⟩ := T.d__law_exact
    rw [show n + 1 + 1 = (n + 1) + 1 by omega]
    refine ⟨f, fd, F, fn_ok F sc__law_exact (by decide) (fun cdv A outer s H E F0 O hr => ?_), hm⟩
    have tk := takes_of (X := cxOf (L2.CX P w) P w K mg base ["mine", "theirs", "is_like", "a", "b"] "_law_exact" (defScope s__law_exact) f cdv A outer s H E) rfl rfl rfl rfl
    have hp := passes_of (X := cxOf (L2.CX P w) P w K mg base ["mine", "theirs", "is_like", "a", "b"] "_law_exact" (defScope s__law_exact) f cdv A outer s H E) rfl
    have nd := sc__law_exact.nd
    exact (sss_cons (ss_if (sb_tr (se_isiT2 T.i_list_tuple T.n_list PyProof.Rows.Boot.«list» T.n_tuple PyProof.Rows.Boot.«tuple» (se_var 0) T.n_isinstance)) (sss_cons (ss_asg (se_and (se_cmp (o_eq hr.units) s_eq (se_isi T.i_list T.n_list PyProof.Rows.Boot.«list» (se_var 1) T.n_isinstance) (se_isi T.i_list T.n_list PyProof.Rows.Boot.«list» (se_var 0) T.n_isinstance)) (se_one (se_cmp (o_eq hr.units) s_eq (se_isi T.i_tuple T.n_tuple PyProof.Rows.Boot.«tuple» (se_var 1) T.n_isinstance) (se_isi T.i_tuple T.n_tuple PyProof.Rows.Boot.«tuple» (se_var 0) T.n_isinstance)))) (sg_name 2 nd)) (sss_one (ss_ret (se_and (se_var 2) (se_and (se_cmp (o_eq hr.units) s_eq (se_callB call_lenX s_len T.n_len PyProof.Rows.Boot.«len» (sa_cons (se_var 0) sa_nil)) (se_callB call_lenX s_len T.n_len PyProof.Rows.Boot.«len» (sa_cons (se_var 1) sa_nil))) (se_one (se_callB (cr_all rfl) s_all T.n_all PyProof.Rows.Boot.«all» (sa_cons (se_lc [("a", 3), ("b", 4)] rfl nd (si_zip T.n_zip (sa_cons (se_var 0) (sa_cons (se_var 1) sa_nil))) (blkB_ok (by rfl)) (fun _ _ _ _ _ => (sg_tup rfl (sgs_cons 3 nd (sgs_cons 4 nd sgs_nil)))) (fun _ _ _ _ _ => sts_nil) (fun _ _ _ _ _ => (se_call ih (hr.mono (by omega)) takes0 (sa_cons (se_var 3) (sa_cons (se_var 4) sa_nil)) (aCons_len (aCons_len aNil_len))))) sa_nil)))))))) sss_nil) (sss_cons (ss_if (SW.sb (sw_or (sb_tr (se_isiT3 T.i_list_tuple_dict T.n_list PyProof.Rows.Boot.«list» T.n_tuple PyProof.Rows.Boot.«tuple» T.n_dict PyProof.Rows.Boot.«dict» (se_var 1) T.n_isinstance)) (sw_or1 (sb_cmp (o_ne hr.units) s_ne (se_cmp op_isN s_isN (se_var 0) se_non) (se_cmp op_isN s_isN (se_var 1) se_non))))) (sss_one (ss_ret se_bl)) sss_nil) (sss_cons (ss_asg (se_and (se_cmp (o_eq hr.units) s_eq (se_isi T.i_int T.n_int PyProof.Rows.Boot.«int» (se_var 0) T.n_isinstance) (se_isi T.i_int T.n_int PyProof.Rows.Boot.«int» (se_var 1) T.n_isinstance)) (se_one (se_cmp (o_eq hr.units) s_eq (se_isi T.i_str T.n_str PyProof.Rows.Boot.«str» (se_var 0) T.n_isinstance) (se_isi T.i_str T.n_str PyProof.Rows.Boot.«str» (se_var 1) T.n_isinstance)))) (sg_name 2 nd)) (sss_one (ss_ret (se_and (se_var 2) (se_and (se_cmp (o_eq hr.units) s_eq (se_isi T.i_bool T.n_bool PyProof.Rows.Boot.«bool» (se_var 0) T.n_isinstance) (se_isi T.i_bool T.n_bool PyProof.Rows.Boot.«bool» (se_var 1) T.n_isinstance)) (se_one (se_cmp (o_eq hr.units) s_eq (se_var 0) (se_var 1))))))))))
theorem fx__law_exact (T : Tx P w K mg base) : Fw P w K mg base "_law_exact" s__law_exact ["mine", "theirs"] [] .cl 2 9 f__law_exact := fx__law_exact_ T 8
theorem fd__law_exact (T : Tx P w K mg base) : Fd P w K mg base "_law_exact" [] .cl 2 9 f__law_exact := fd_of (fx__law_exact T) (rfl) (fun _ _ _ _ _ _ us hl => match us, hl with | [_, _], _ => rfl)
theorem sc__law_right : FnScope ["text", "dues"] ["text"] (defScope s__law_right) := ⟨rfl, rfl, rfl, by decide +kernel, rfl, by decide +kernel, by decide +kernel⟩
theorem fx__law_right (T : Tx P w K mg base) : Fw P w K mg base "_law_right" s__law_right ["text"] [] .cl 1 10 f__law_right := by
  obtain ⟨f, fd, F, hm⟩ := T.d__law_right
  refine ⟨f, fd, F, fn_ok F sc__law_right (by decide) (fun cdv A outer s H E F0 O hr => ?_), hm⟩
  have tk := takes_of (X := cxOf (L2.CX P w) P w K mg base ["text", "dues"] "_law_right" (defScope s__law_right) f cdv A outer s H E) rfl rfl rfl rfl
  have hp := passes_of (X := cxOf (L2.CX P w) P w K mg base ["text", "dues"] "_law_right" (defScope s__law_right) f cdv A outer s H E) rfl
  have nd := sc__law_right.nd
  exact (sss_cons (ss_asg (se_lst (sa_cons (se_call (fd__law_given T) (hr.mono (by decide)) tk (sa_cons (se_var 0) sa_nil) (aCons_len aNil_len)) (sa_cons (se_call (fd__law_own T) (hr.mono (by decide)) tk (sa_cons (se_var 0) sa_nil) (aCons_len aNil_len)) sa_nil))) (sg_name 1 nd)) (sss_one (ss_ret (se_and (se_call (fd__law_exact T) (hr.mono (by decide)) tk (sa_cons (se_var 1) (sa_cons (se_lst (sa_cons (se_call (fd_given_text T) (hr.mono (by decide)) tk (sa_cons (se_var 0) sa_nil) (aCons_len aNil_len)) (sa_cons (se_call (fd_own_text T) (hr.mono (by decide)) tk (sa_cons (se_var 0) sa_nil) (aCons_len aNil_len)) sa_nil))) sa_nil)) (aCons_len (aCons_len aNil_len))) (se_one (se_call (fd__law_exact T) (hr.mono (by decide)) tk (sa_cons (se_var 1) (sa_cons (se_lst (sa_cons (se_callK (fk_given_text_text T) (hr.mono (by decide)) tk (sk_cons (se_var 0) sk_nil) (perm_len (aCons_len aNil_len) (by decide) rfl)) (sa_cons (se_callK (fk_own_text_text T) (hr.mono (by decide)) tk (sk_cons (se_var 0) sk_nil) (perm_len (aCons_len aNil_len) (by decide) rfl)) sa_nil))) sa_nil)) (aCons_len (aCons_len aNil_len))))))))
theorem fd__law_right (T : Tx P w K mg base) : Fd P w K mg base "_law_right" [] .cl 1 10 f__law_right := fd_of (fx__law_right T) (rfl) (fun _ _ _ _ _ _ us hl => match us, hl with | [_], _ => rfl)
theorem sc_law : FnScope ["script", "signs", "at", "purse", "few", "turn", "text", "spin"] ["script"] (defScope s_law) := ⟨rfl, rfl, rfl, by decide +kernel, rfl, by decide +kernel, by decide +kernel⟩
theorem fx_law (T : Tx P w K mg base) : Fw P w K mg base "law" s_law ["script"] [] .cl 1 11 f_law := by
  obtain ⟨f, fd, F, hm⟩ := T.d_law
  refine ⟨f, fd, F, fn_ok F sc_law (by decide) (fun cdv A outer s H E F0 O hr => ?_), hm⟩
  have tk := takes_of (X := cxOf (L2.CX P w) P w K mg base ["script", "signs", "at", "purse", "few", "turn", "text", "spin"] "law" (defScope s_law) f cdv A outer s H E) rfl rfl rfl rfl
  have hp := passes_of (X := cxOf (L2.CX P w) P w K mg base ["script", "signs", "at", "purse", "few", "turn", "text", "spin"] "law" (defScope s_law) f cdv A outer s H E) rfl
  have nd := sc_law.nd
  exact (sss_cons (ss_asg (se_lst (sa_cons se_str (sa_cons se_str (sa_cons se_str (sa_cons se_str (sa_cons se_str (sa_cons se_str (sa_cons se_str (sa_cons se_str (sa_cons se_str (sa_cons se_str (sa_cons se_str (sa_cons se_str (sa_cons se_str (sa_cons se_str (sa_cons se_str (sa_cons se_str (sa_cons se_str (sa_cons se_str (sa_cons se_str (sa_cons se_str sa_nil))))))))))))))))))))) (sg_name 1 nd)) (sss_cons (ss_for hp rfl (si_range1 (se_callB (call_max2 rfl) s_max T.n_max PyProof.Rows.Boot.«max» (sa_cons se_int (sa_cons (se_callB (call_min2 rfl) s_min T.n_min PyProof.Rows.Boot.«min» (sa_cons (se_callB call_lenX s_len T.n_len PyProof.Rows.Boot.«len» (sa_cons (se_var 0) sa_nil)) (sa_cons se_int sa_nil))) sa_nil))) T.n_range) (sg_name 2 nd) (sss_cons (ss_asgO 3 nd (sf_call (fd__law_purse T) (hr.mono (by decide)) tk (sa_cons (se_var 0) (sa_cons (se_var 2) sa_nil)) (aCons_len (aCons_len aNil_len)))) (sss_cons (ss_asg (se_cut (se_callO 3 (fd__law_shuffled T) (hr.mono (by decide)) tk (sa_cons (se_var 1) sa_nil) (aCons_len aNil_len)) sp_no (sp_at (se_op o_add s_add se_int (se_callO 3 (fd__law_draw T) (hr.mono (by decide)) tk (sa_cons se_int sa_nil) (aCons_len aNil_len))))) (sg_name 4 nd)) (sss_cons (ss_for hp rfl (si_range1 se_int T.n_range) (sg_name 5 nd) (sss_cons (ss_asg (se_bm .str PySem.F.plainAttrs_str PySem.F.slot_str_join PySem.F.type_str_join mt_join s_join se_str (sa_cons (se_lc [("spin", 7)] rfl nd (si_range1 (se_callO 3 (fd__law_draw T) (hr.mono (by decide)) tk (sa_cons se_int sa_nil) (aCons_len aNil_len)) T.n_range) (blkB_ok (by rfl)) (fun _ _ _ _ _ => (sg_name 7 nd)) (fun _ _ _ _ _ => sts_nil) (fun _ _ _ _ _ => (se_callO 3 (fd__law_one_of T) (hr.mono (by decide)) takes0 (sa_cons (se_var 4) sa_nil) (aCons_len aNil_len)))) sa_nil)) (sg_name 6 nd)) (sss_one (ss_if (sb_not (sb_tr (se_call (fd__law_right T) (hr.mono (by decide)) tk (sa_cons (se_var 6) sa_nil) (aCons_len aNil_len)))) (sss_one (ss_ret se_bl)) sss_nil)))) (sss_one (ss_if (sb_not (sb_tr (se_call (fd__law_right T) (hr.mono (by decide)) tk (sa_cons (se_op o_add s_add se_str (se_callO 3 (fd__law_one_of T) (hr.mono (by decide)) tk (sa_cons (se_lst (sa_cons se_str (sa_cons se_str (sa_cons se_str (sa_cons se_str sa_nil))))) sa_nil) (aCons_len aNil_len))) sa_nil) (aCons_len aNil_len)))) (sss_one (ss_ret se_bl)) sss_nil)))))) (sss_one (ss_ret (se_and (se_call0 (fd__law_refused T) (hr.mono (by decide)) tk) (se_one (se_call (fd__law_right T) (hr.mono (by decide)) tk (sa_cons se_str sa_nil) (aCons_len aNil_len))))))))
theorem fd_law (T : Tx P w K mg base) : Fd P w K mg base "law" [] .cl 1 11 f_law := fd_of (fx_law T) (rfl) (fun _ _ _ _ _ _ us hl => match us, hl with | [_], _ => rfl)
end
end
end DL

set_option Elab.async false
set_option linter.all false
set_option maxRecDepth 100000
set_option maxHeartbeats 400000
namespace DL
open PySem PySem.Spec PyProof.Rows L2
/-! ### steps that lay the slots out again -/
section
variable {ρ ρ1 ρ2 ρ3 : Rho} {d x y : D} {ds xs : List D} {ma mb mc : M D} {m : M (List D)} {b1 b2 : M Bool} {k : Bool} {i j s : Nat}
theorem ew_callO {fn : Fn} {d0 d1 d' : D} (h0 : ρ[s]? = some (.ow d0)) (h : m ρ = .ok ds ρ1) (h1 : ρ1[s]? = some (.ow d1)) (hf : fn (d1 :: ds) = .ok d [d']) (hr : ρ1.set s (.ow d') = ρ2) : eCallO fn s m ρ = .ok d ρ2 := hr ▸ ev_callO h0 h h1 hf
theorem sw_asg (h : ma ρ = .ok d ρ1) (hr : ρ1.set i (.cl d) = ρ2) : sAsg ma (tgName i) ρ = .nx ρ2 := hr ▸ st_asg h
theorem sw_asgO (h : ma ρ = .ok d ρ1) (hr : ρ1.set i (.ow d) = ρ2) : sAsgO i ma ρ = .nx ρ2 := hr ▸ st_asgO h
theorem sw_par (h : m ρ = .ok [x, y] ρ1) (hr : (ρ1.set i (.cl x)).set j (.cl y) = ρ2) : sPar i j m ρ = .nx ρ2 := hr ▸ st_par h
theorem sw_par3 {l : Nat} {z : D} (h : m ρ = .ok [x, y, z] ρ1) (hr : ((ρ1.set i (.cl x)).set j (.cl y)).set l (.cl z) = ρ2) : sPar3 i j l m ρ = .nx ρ2 := hr ▸ st_par3 h
theorem sw_app {ys : List D} (h0 : ρ[i]? = some (.ow (.lst ys))) (h : ma ρ = .ok d ρ1) (h1 : ρ1[i]? = some (.ow (.lst xs))) (hl : xs.length < 16777216) (hr : ρ1.set i (.ow (.lst (xs ++ [d]))) = ρ2) : sApp i ma ρ = .nx ρ2 := hr ▸ st_app h0 h h1 hl
theorem gt_id {x : Option Sl} (h : ρ[i]? = x) : ρ[i]? = x := h
theorem set_id {x : Sl} (h : ρ.set i x = ρ1) : ρ.set i x = ρ1 := h
theorem set_n {x : Sl} (h : ρ.set i x = ρ1) (h2 : ρ1.set j x = ρ2) : (ρ.set i x).set j x = ρ2 := h ▸ h2
/-- a test, then its way -/
theorem sw_if {a b : MS} {o : SO} (hc : b1 ρ = .ok k ρ1) (ht : k = true → a ρ1 = o) (hf : k = false → b ρ1 = o) : sIf b1 a b ρ = o := by
  cases k with
  | true => exact st_ifT hc (ht rfl)
  | false => exact st_ifF hc (hf rfl)
theorem bw_and {k2 : Bool} (h : b1 ρ = .ok k ρ1) (h2 : k = true → b2 ρ1 = .ok k2 ρ1) : bAnd b1 b2 ρ = .ok (k && k2) ρ1 := by
  cases k with
  | true => exact tb_andT h (h2 rfl)
  | false => exact tb_andF h
theorem bw_or {k2 : Bool} (h : b1 ρ = .ok k ρ1) (h2 : k = false → b2 ρ1 = .ok k2 ρ1) : bOr b1 b2 ρ = .ok (k || k2) ρ1 := by
  cases k with
  | false => exact tb_orF h (h2 rfl)
  | true => exact tb_orT h
/-! ### errors -/
theorem ex_call {fn : Fn} {outs : List D} {c : Str} {v : D} (h : m ρ = .ok ds ρ1) (hf : fn ds = .exn c v outs) : eCall fn m ρ = .exn c v ρ1 := by
  unfold eCall M.bind
  rw [h]
  dsimp only
  rw [hf]
theorem ex_bind {c : Str} {v : D} {t : D → Rho → R Rho} (h : ma ρ = .exn c v ρ1) : sAsg ma t ρ = .exn c v ρ1 := by
  unfold sAsg sDo
  rw [h]
theorem ex_drop {c : Str} {v : D} (h : ma ρ = .exn c v ρ1) : sDrop ma ρ = .exn c v ρ1 := by
  unfold sDrop sDo
  rw [h]
theorem ex_ret {c : Str} {v : D} (h : ma ρ = .exn c v ρ1) : sRet ma ρ = .exn c v ρ1 := by
  unfold sRet sDo
  rw [h]
theorem ex_seq {a b : MS} {c : Str} {v : D} (h : a ρ = .exn c v ρ1) : sSeq a b ρ = .exn c v ρ1 := by
  unfold sSeq
  rw [h]
  rfl
theorem st_raise {c : Str} (h : ma ρ = .ok d ρ1) : sRaise c ma ρ = .exn c d ρ1 := by
  unfold sRaise sDo
  rw [h]
theorem ex_run {N : Nat} {mask : List Nat} {rk : Rk} {mm : MS} {ρ0 : Rho} {c : Str} {v : D} {outs : List D} (h0 : startR N mask ds = ρ0) (h : mm ρ0 = .exn c v ρ1) (ho : outsOf mask ρ1 = outs) : runFn N mask rk mm ds = .exn c v outs := by
  unfold runFn
  rw [h0, h]
  subst ho
  rfl
theorem st_try {tab : List (Str × Bool)} {b : MS} (h : b ρ = .nx ρ1) : sTryK tab i j b ρ = .nx ρ1 := by
  unfold sTryK
  rw [h]
  rfl
theorem st_tryR {tab : List (Str × Bool)} {b : MS} (h : b ρ = .ret d ρ1) : sTryK tab i j b ρ = .ret d ρ1 := by
  unfold sTryK
  rw [h]
  rfl
theorem st_kept {tab : List (Str × Bool)} {b : MS} {c : Str} {v : D} (h : b ρ = .exn c v ρ1) (ht : tab.lookup c = some true) (hi : i < ρ1.length) : sTryK tab i j b ρ = .any fun a => .nx ((ρ1.set j (.cl (.exc a c v))).set i .no) := by
  unfold sTryK
  rw [h]
  unfold SO.kept
  rw [ht]
  dsimp only
  rw [if_pos hi]
theorem st_any {a b : MS} {g : Addr → Rho} {o : Addr → SO} (h : a ρ = .any fun x => .nx (g x)) (h2 : ∀ x, b (g x) = o x) : sSeq a b ρ = .any o := by
  unfold sSeq
  rw [h]
  show SO.any (fun x => b (g x)) = _
  exact congrArg SO.any (funext h2)
theorem st_anyS {a b : MS} {f : Addr → SO} {o : Addr → SO} (h : a ρ = .any f) (h2 : ∀ x, (f x).then b = o x) : sSeq a b ρ = .any o := by
  unfold sSeq
  rw [h]
  show SO.any (fun x => (f x).then b) = _
  exact congrArg SO.any (funext h2)
theorem fw_run {N : Nat} {mask : List Nat} {rk : Rk} {mm : MS} {ρ0 : Rho} {outs : List D} (h0 : startR N mask ds = ρ0) (h : mm ρ0 = .ret d ρ1) (ho : outsOf mask ρ1 = outs) : runFn N mask rk mm ds = .ok d outs := ho ▸ fn_run h0 h
theorem fw_flat {N : Nat} {mask : List Nat} {rk : Rk} {mm : MS} {ρ0 : Rho} {outs : List D} {g : Addr → Rho} (h0 : startR N mask ds = ρ0) (h : mm ρ0 = .any fun a => .ret d (g a)) (ho : ∀ a, outsOf mask (g a) = outs) : flatFn (runFn N mask rk mm) ds = .ok d outs := by
  unfold flatFn runFn
  rw [h0, h]
  refine FO.flat_any fun a => ?_
  show FO.ok d (outsOf mask (g a)) = _
  rw [ho]
theorem fw_flat1 {N : Nat} {mask : List Nat} {rk : Rk} {mm : MS} {ρ0 : Rho} {outs : List D} (h0 : startR N mask ds = ρ0) (h : mm ρ0 = .ret d ρ1) (ho : outsOf mask ρ1 = outs) : flatFn (runFn N mask rk mm) ds = .ok d outs := by
  unfold flatFn runFn
  rw [h0, h]
  subst ho
  rfl
end
end DL

set_option Elab.async false
set_option linter.all false
set_option maxRecDepth 100000
set_option maxHeartbeats 400000
namespace DL
open PySem PySem.Spec PyProof.Rows L2
theorem bits_le {x : Int} {k : Nat} (h : x.natAbs < 2 ^ k) : Builtin.Int.intBits x ≤ k := by
  unfold Builtin.Int.intBits
  split
  · exact Nat.zero_le _
  · have := (Nat.log2_lt (by intro z; simp_all)).mpr h
    omega
theorem smul_int {a b : Int} (ha : a.natAbs < 2 ^ 64) (hb : b.natAbs < 2 ^ 64) : opSMul (.int a) (.int b) = .ok (.int (a * b)) := by
  have h1 := bits_le ha
  have h2 := bits_le hb
  show opMul (.int a) (.int b) = _
  unfold opMul
  exact if_pos (by omega)
theorem add_int' {a b : Int} : opAdd (.int a) (.int b) = .ok (.int (a + b)) := rfl
theorem sub_int' {a b : Int} : opSub (.int a) (.int b) = .ok (.int (a - b)) := rfl
theorem mod_int {a b : Int} (h : 0 < b) : opMod (.int a) (.int b) = .ok (.int (a % b)) := by
  unfold opMod
  exact if_pos h
theorem int_int {a : Int} : opInt [.int a] = .ok (.int a) := rfl
theorem gt_t {a b : Int} (h : b < a) : opGt (.int a) (.int b) = .ok (.bl true) := by
  show R.ok (D.bl (decide (b < a))) = _
  rw [decide_eq_true h]
theorem gt_f {a b : Int} (h : ¬ b < a) : opGt (.int a) (.int b) = .ok (.bl false) := by
  show R.ok (D.bl (decide (b < a))) = _
  rw [decide_eq_false h]
theorem fdiv_int {a b : Int} (h : 0 < b) (h2 : b.natAbs.log2 < 9000) : opFdiv (.int a) (.int b) = .ok (.int (a / b)) := by
  unfold opFdiv
  exact if_pos ⟨h, h2⟩
theorem log2_27 {b : Int} (h : 0 < b) (h2 : b < 2 ^ 27) : b.natAbs.log2 < 9000 := by
  have := (Nat.log2_lt (n := b.natAbs) (k := 27) (by omega)).mpr (by omega)
  omega
theorem ixp0 {a b c d : D} : opIx (.lst [a, b, c, d]) (.int 0) = .ok a := rfl
theorem ixp1 {a b c d : D} : opIx (.lst [a, b, c, d]) (.int 1) = .ok b := rfl
theorem ixp2 {a b c d : D} : opIx (.lst [a, b, c, d]) (.int 2) = .ok c := rfl
theorem ixp3 {a b c d : D} : opIx (.lst [a, b, c, d]) (.int 3) = .ok d := rfl
theorem bits_ev {i : Int} : opBits (.int i) = .ok (.int (Builtin.Int.intBits i : Nat)) := rfl
theorem tg_name {ρ : Rho} {i : Nat} {d : D} : tgName i d ρ = .ok (ρ.set i (.cl d)) := rfl
theorem ix_str {z : Str} {i : Int} (k : Nat) {c : Nat} (e : i = (k : Int)) (hl : z.length ≤ 16777216) (h : z.cps.toList[k]? = some c) : opIx (.str z) (.int i) = .ok (.str ⟨#[c]⟩) := by
  subst e
  have hk : k < z.cps.toList.length := (List.getElem?_eq_some_iff.mp h).1
  have e2 : atI z.cps.toList (k : Int) = some c := by
    unfold atI ixN
    rw [if_pos (by omega), if_pos (by omega)]
    exact h
  show (if z.length ≤ 16777216 then _ else _) = _
  rw [if_pos hl, e2]
theorem eq_sign {c d : Nat} : opEq (.str ⟨#[c]⟩) (.str ⟨#[d]⟩) = .ok (.bl (decide (c = d))) := by
  show R.ok (D.bl ((⟨#[c]⟩ : Str) == ⟨#[d]⟩)) = _
  congr 2
  rw [Bool.eq_iff_iff]
  simp
theorem lt_t {a b : Int} (h : a < b) : opLt (.int a) (.int b) = .ok (.bl true) := by
  show R.ok (D.bl (decide (a < b))) = _
  rw [decide_eq_true h]
theorem lt_f {a b : Int} (h : ¬ a < b) : opLt (.int a) (.int b) = .ok (.bl false) := by
  show R.ok (D.bl (decide (a < b))) = _
  rw [decide_eq_false h]
theorem len_str {z : Str} (h : z.length ≤ 16777216) : opLen [.str z] = .ok (.int (z.length : Nat)) := by
  show (match (if z.length ≤ 16777216 then R.ok z.length else R.bad) with
    | .ok n => R.ok (D.int n)
    | .bad => .bad) = _
  rw [if_pos h]
def okc (c : Nat) : Bool := (decide (32 ≤ c) && decide (c ≤ 126)) || decide (c = 10)
theorem lt1 {a b : Nat} : ([a] < [b]) ↔ a < b := by
  rw [List.cons_lt_cons_iff]
  constructor
  · rintro (h | ⟨_, h⟩)
    · exact h
    · cases h
  · exact .inl
theorem le_sign {c d : Nat} : opLe (.str ⟨#[c]⟩) (.str ⟨#[d]⟩) = .ok (.bl (decide (c ≤ d))) := by
  show R.ok (D.bl (!decide ([d] < [c]))) = _
  have e : (!decide ([d] < [c])) = decide (c ≤ d) := by
    by_cases h : d < c
    · rw [decide_eq_true (lt1.mpr h), decide_eq_false (by omega)]
      rfl
    · rw [decide_eq_false (fun z => h (lt1.mp z)), decide_eq_true (by omega)]
      rfl
  rw [e]
theorem s32 : (" " : Str) = ⟨#[32]⟩ := by decide +kernel
theorem s126 : ("~" : Str) = ⟨#[126]⟩ := by decide +kernel
theorem s10 : ("\n" : Str) = ⟨#[10]⟩ := by decide +kernel
theorem bls_map : ∀ cs : List Nat, dBls (cs.map fun c => D.bl (okc c)) = some (cs.map okc)
  | [] => rfl
  | c :: cs => by
    show (dBls (cs.map fun c => D.bl (okc c))).map (okc c :: ·) = _
    rw [bls_map cs]
    rfl
theorem items_str {z : Str} (h : z.length ≤ 16777216) : items (.str z) = .ok (z.cps.toList.map fun c => .str ⟨#[c]⟩) := by
  show (if z.length ≤ 16777216 then R.ok (strItems z) else R.bad) = _
  rw [if_pos h]
  rfl
def Sm : Nat → D → Prop
  | 0, _ => False
  | _ + 1, .non => True
  | _ + 1, .bl _ => True
  | _ + 1, .int _ => True
  | _ + 1, .str _ => True
  | n + 1, .lst xs => xs.length ≤ 16777216 ∧ ∀ x ∈ xs, Sm n x
  | n + 1, .tup xs => xs.length ≤ 16777216 ∧ ∀ x ∈ xs, Sm n x
  | _ + 1, _ => False
theorem eq_bl {b c : Bool} : opEq (.bl b) (.bl c) = .ok (.bl (b == c)) := rfl
theorem ne_bl {b c : Bool} : opNe (.bl b) (.bl c) = .ok (.bl (!(b == c))) := rfl
theorem eq_int {i j : Int} : opEq (.int i) (.int j) = .ok (.bl (i == j)) := rfl
theorem trues : ∀ xs : List D, dBls (xs.map fun _ => D.bl true) = some (xs.map fun _ => true)
  | [] => rfl
  | x :: xs => by
    show (dBls (xs.map fun _ => D.bl true)).map (true :: ·) = _
    rw [trues xs]
    rfl
theorem all_trues {xs : List D} : opAll [.lst (xs.map fun _ => D.bl true)] = .ok (.bl true) := by
  show (match dBls (xs.map fun _ => D.bl true) with
    | some is => R.ok (D.bl (is.all id))
    | none => .bad) = _
  rw [trues]
  show R.ok (D.bl ((xs.map fun _ => true).all id)) = _
  congr 2
  simp
theorem lst2 {x y : D} : mkLst [x, y] = .ok (.lst [x, y]) := rfl
theorem ix_lst {xs : List D} {k : Int} {d : D} (h0 : 0 ≤ k) (h : xs[k.toNat]? = some d) : opIx (.lst xs) (.int k) = .ok d := by
  have hk := (List.getElem?_eq_some_iff.mp h).1
  have e : atI xs k = some d := by
    unfold atI ixN
    rw [if_pos h0, if_pos (by omega)]
    exact h
  show (match atI xs k with
    | some d => R.ok d
    | none => .bad) = _
  rw [e]
theorem len_lst {xs : List D} : opLen [.lst xs] = .ok (.int (xs.length : Nat)) := rfl
theorem max_int {a b : Int} : opMax [.int a, .int b] = .ok (.int (if b > a then b else a)) := rfl
theorem pow_int' {a b : Int} (h : 0 ≤ b) (h2 : (Builtin.Int.intBits a : Int) * b ≤ 2 ^ 27) : opPow (.int a) (.int b) = .ok (.int (a ^ b.toNat)) := by
  unfold opPow
  exact if_pos ⟨h, h2⟩
theorem p18 : opPow (.int 10) (.int 18) = .ok (.int (10 ^ 18)) := pow_int' (by decide) (by decide +kernel)
theorem p60 : opPow (.int 10) (.int 60) = .ok (.int (10 ^ 60)) := pow_int' (by decide) (by decide +kernel)
theorem p480 : opPow (.int (10 ^ 60)) (.int 8) = .ok (.int ((10 ^ 60) ^ 8)) := pow_int' (by decide) (by decide +kernel)
theorem dints_map : ∀ xs : List Int, dInts (xs.map D.int) = some xs
  | [] => rfl
  | x :: xs => by
    show (dInts (xs.map D.int)).map (x :: ·) = _
    rw [dints_map xs]
    rfl
theorem cutL_map {lo hi : Option Int} {xs : List Int} : cutL (xs.map D.int) lo hi = (cutL xs lo hi).map D.int := by
  unfold cutL
  rw [List.length_map, List.map_take, List.map_drop]
theorem set_self {ρ : Rho} {i : Nat} {x : Sl} (h : ρ[i]? = some x) : ρ.set i x = ρ := by
  refine List.ext_getElem? fun j => ?_
  by_cases e : i = j
  · subst e
    rw [List.getElem?_set_self (List.getElem?_eq_some_iff.mp h).1, h]
  · rw [List.getElem?_set_ne e]
def mkS (cs : List Nat) : Str := ⟨cs.toArray⟩
theorem mkS_list (cs : List Nat) : (mkS cs).cps.toList = cs := by simp [mkS]
theorem mkS_len (cs : List Nat) : (mkS cs).length = cs.length := by simp [mkS, Str.length]
theorem mkS_of (z : Str) : z = mkS z.cps.toList := by
  cases z
  simp [mkS]
theorem mkS_inj {a b : List Nat} : mkS a = mkS b ↔ a = b := ⟨fun h => by
  have q := congrArg (fun z : Str => z.cps.toList) h
  simpa [mkS_list] using q, fun h => by rw [h]⟩
theorem mkS_cut {cs : List Nat} {a b : Nat} : cutS (mkS cs) (some (a : Int)) (some (b : Int)) = mkS ((cs.drop (min a cs.length)).take (min b cs.length - min a cs.length)) := by
  unfold cutS
  rw [HT.sIx_nat, HT.sIx_nat, mkS_len, mkS_list]
  rfl
theorem mkS_pre {cs : List Nat} {b : Nat} : cutS (mkS cs) none (some (b : Int)) = mkS (cs.take b) := by
  unfold cutS
  rw [HT.sIx_nat, HT.sIx_none, mkS_len, mkS_list]
  show mkS ((cs.drop 0).take (min b cs.length - 0)) = _
  rw [List.drop_zero, Nat.sub_zero, mkS_inj, List.take_eq_take_iff]
  omega
theorem mkS_post {cs : List Nat} {a : Nat} : cutS (mkS cs) (some (a : Int)) none = mkS (cs.drop a) := by
  unfold cutS
  rw [HT.sIx_nat, HT.sIx_none, mkS_len, mkS_list]
  show mkS ((cs.drop (min a cs.length)).take (cs.length - min a cs.length)) = _
  rw [mkS_inj]
  by_cases h : a ≤ cs.length
  · rw [Nat.min_eq_left h, List.take_of_length_le (by rw [List.length_drop]; exact Nat.le_refl _)]
  · rw [Nat.min_eq_right (by omega), List.drop_eq_nil_of_le (Nat.le_refl _), List.drop_eq_nil_of_le (by omega)]
    simp
theorem eq_mkS {a b : List Nat} : opEq (.str (mkS a)) (.str (mkS b)) = .ok (.bl (decide (a = b))) := by
  show R.ok (D.bl (mkS a == mkS b)) = _
  congr 2
  rw [Bool.eq_iff_iff]
  simp [mkS_inj]
theorem add_mkS {a b : List Nat} (h : a.length + b.length ≤ 16777216) : opAdd (.str (mkS a)) (.str (mkS b)) = .ok (.str (mkS (a ++ b))) := by
  have e : mkS a ++ mkS b = mkS (a ++ b) := by
    show (⟨_⟩ : Str) = _
    simp [mkS]
  show (if (mkS a).length + (mkS b).length ≤ 16777216 then _ else _) = _
  rw [mkS_len, mkS_len, if_pos h, e]
theorem len_mkS {a : List Nat} (h : a.length ≤ 16777216) : opLen [.str (mkS a)] = .ok (.int (a.length : Nat)) := by
  have e := len_str (z := mkS a) (by rw [mkS_len]; exact h)
  rw [mkS_len] at e
  exact e
theorem ge_t {a b : Int} (h : b ≤ a) : opGe (.int a) (.int b) = .ok (.bl true) := by
  show R.ok (D.bl (decide (b ≤ a))) = _
  rw [decide_eq_true h]
theorem ge_f {a b : Int} (h : ¬ b ≤ a) : opGe (.int a) (.int b) = .ok (.bl false) := by
  show R.ok (D.bl (decide (b ≤ a))) = _
  rw [decide_eq_false h]
theorem lt_int {a b : Int} : opLt (.int a) (.int b) = .ok (.bl (decide (a < b))) := rfl
theorem gt_int' {a b : Int} : opGt (.int a) (.int b) = .ok (.bl (decide (b < a))) := rfl
theorem ixt0 {a b c : D} : opIx (.tup [a, b, c]) (.int 0) = .ok a := rfl
theorem ixt1 {a b c : D} : opIx (.tup [a, b, c]) (.int 1) = .ok b := rfl
theorem cut_str {cs : List Nat} {lo hi : Option Int} (h : cs.length ≤ 16777216) : cutD (.str (mkS cs)) lo hi = .ok (.str (cutS (mkS cs) lo hi)) := by
  show (if (mkS cs).length ≤ 16777216 then _ else _) = _
  rw [mkS_len, if_pos h]
theorem tup3 {a b c : D} : mkTup [a, b, c] = .ok (.tup [a, b, c]) := rfl
theorem strs_map : ∀ ks : List Nat, dStrs (ks.map fun c => D.str ⟨#[c]⟩) = some (ks.map fun c => (⟨#[c]⟩ : Str))
  | [] => rfl
  | k :: ks => by
    show (dStrs (ks.map fun c => D.str ⟨#[c]⟩)).map ((⟨#[k]⟩ : Str) :: ·) = _
    rw [strs_map ks]
    rfl
theorem app_mkS {a b : List Nat} : mkS a ++ mkS b = mkS (a ++ b) := by
  show (⟨_⟩ : Str) = _
  simp [mkS]
theorem s0 : ("" : Str) = mkS [] := by decide +kernel
theorem join_mkS : ∀ ks : List Nat, Str.join (mkS []) (ks.map fun c => (⟨#[c]⟩ : Str)) = mkS ks
  | [] => rfl
  | [k] => rfl
  | k :: l :: ks => by
    have ih := join_mkS (l :: ks)
    show mkS [k] ++ mkS [] ++ Str.join (mkS []) ((l :: ks).map fun c => (⟨#[c]⟩ : Str)) = _
    rw [ih, app_mkS, app_mkS]
    rfl
theorem ones_sum : ∀ ks : List Nat, ((ks.map fun c => (⟨#[c]⟩ : Str)).map (·.length)).sum = ks.length
  | [] => rfl
  | k :: ks => by
    rw [List.map_cons, List.map_cons, List.sum_cons, ones_sum ks, List.length_cons]
    show 1 + ks.length = _
    omega
theorem join_ok {ks : List Nat} (h : ks.length ≤ 16777216) : opJoin (.str "") [.lst (ks.map fun c => D.str ⟨#[c]⟩)] = .ok (.str (mkS ks)) := by
  rw [s0]
  show (match dStrs (ks.map fun c => D.str ⟨#[c]⟩) with
    | some ys => if (ys.map fun z : Str => z.length).sum + ys.length * (mkS []).length ≤ 16777216 then R.ok (D.str (Txt.join (mkS []) ys)) else .bad
    | none => .bad) = _
  rw [strs_map]
  have e : Txt.join (mkS []) (ks.map fun c => (⟨#[c]⟩ : Str)) = mkS ks := by
    show Builtin.Str.glued _ _ = _
    rw [StrLaws.glued_eq_join, join_mkS]
  dsimp only
  rw [e, ones_sum, mkS_len]
  exact if_pos (by simpa using h)
theorem up_len {k : Nat} : (upFrom 0 k).length = k := by simp [upFrom]
theorem fold_rep (a : Array Nat) : ∀ (k : Nat) (acc : Array Nat), ((List.replicate k a).foldl (· ++ ·) acc).toList = acc.toList ++ (List.replicate k a.toList).flatten
  | 0, acc => by simp
  | k + 1, acc => by
    rw [List.replicate_succ, List.foldl_cons, fold_rep a k, List.replicate_succ, List.flatten_cons]
    simp [List.append_assoc]
theorem mul_mkS {ks : List Nat} {n : Nat} : Txt.mul (mkS ks) (n : Int) = mkS (List.replicate n ks).flatten := by
  unfold Txt.mul
  by_cases h : (n : Int) < 1
  · rw [if_pos h]
    have e : n = 0 := by omega
    subst e
    rfl
  · rw [if_neg h]
    by_cases c : ((n : Int) == 1 || (mkS ks).length == 0) = true
    · rw [if_pos c, mkS_inj]
      rw [mkS_len] at c
      rcases (Bool.or_eq_true _ _).mp c with c | c
      · have e : n = 1 := by have := beq_iff_eq.mp c; omega
        subst e
        simp
      · have e : ks = [] := List.length_eq_zero_iff.mp (beq_iff_eq.mp c)
        subst e
        simp
    · rw [if_neg c, Int.toNat_natCast]
      have q := fold_rep (mkS ks).cps n #[]
      rw [mkS_list] at q
      have q2 : ((List.replicate n (mkS ks).cps).foldl (· ++ ·) #[]).toList = (List.replicate n ks).flatten := by simpa using q
      rw [mkS_of ⟨(List.replicate n (mkS ks).cps).foldl (· ++ ·) #[]⟩, mkS_inj]
      exact q2
theorem smul_mkS {ks : List Nat} {n : Nat} (h : n < 2 ^ 24) (h2 : ks.length * n ≤ 16777216) : opSMul (.str (mkS ks)) (.int n) = .ok (.str (mkS (List.replicate n ks).flatten)) := by
  have c : (n : Int) < 2 ^ 24 ∧ (mkS ks).length * (n : Int).toNat ≤ 16777216 ∧ -(2 ^ 63) ≤ (n : Int) := ⟨by omega, by rw [mkS_len, Int.toNat_natCast]; exact h2, by omega⟩
  rw [← mul_mkS]
  generalize (n : Int) = z at c ⊢
  dsimp only [opSMul]
  rw [if_pos c]
theorem rep_len {ks : List Nat} : ∀ n : Nat, (List.replicate n ks).flatten.length = n * ks.length
  | 0 => by simp
  | n + 1 => by
    rw [List.replicate_succ, List.flatten_cons, List.length_append, rep_len n, Nat.succ_mul]
    omega
theorem rep_ok {ks : List Nat} (h : ks.all okc = true) : ∀ n : Nat, (List.replicate n ks).flatten.all okc = true
  | 0 => rfl
  | n + 1 => by
    rw [List.replicate_succ, List.flatten_cons, List.all_append, h, rep_ok h n]
    rfl
theorem truth_bl {b : Bool} : truth (.bl b) = .ok b := rfl
def rp (ks : List Nat) (z : Int) : List Nat := (List.replicate z.toNat ks).flatten
theorem rp_len {ks : List Nat} {z : Int} : (rp ks z).length = z.toNat * ks.length := rep_len _
theorem rp_add {ks : List Nat} {z w : Int} (h : 0 ≤ z) (h2 : 0 ≤ w) : rp ks (z + w) = rp ks z ++ rp ks w := by
  unfold rp
  rw [show (z + w).toNat = z.toNat + w.toNat by omega, ← List.replicate_append_replicate, List.flatten_append]
theorem rp_ok {ks : List Nat} {z : Int} (h : ks.all okc = true) : (rp ks z).all okc = true := rep_ok h _
theorem smul_rp {ks : List Nat} {z : Int} (h : 0 ≤ z) (h2 : z < 5000) (h3 : ks.length ≤ 2) : opSMul (.str (mkS ks)) (.int z) = .ok (.str (mkS (rp ks z))) := by
  have q := smul_mkS (ks := ks) (n := z.toNat) (by omega) (by
    have : ks.length * z.toNat ≤ 2 * z.toNat := Nat.mul_le_mul_right _ h3
    omega)
  rwa [Int.toNat_of_nonneg h] at q
end DL

set_option Elab.async false
set_option linter.all false
set_option maxRecDepth 100000
set_option maxHeartbeats 400000
namespace DL
open PySem PySem.Spec PyProof.Rows L2
theorem mixed_ok {a b c : Int} (h1 : 0 ≤ a) (h2 : a < 2147483629) (h3 : 0 ≤ b) (h4 : b ≤ 2000000) (h5 : 0 ≤ c) (h6 : c ≤ 63) : ∃ n : Int, f__law_mixed [.int a, .int b, .int c] = .ok (.int n) [] := by
  exact ⟨_, fn_run (ρ0 := [.cl (.int a), .cl (.int b), .cl (.int c), .no]) rfl
    (st_seq (st_asg (ev_2 (ev_2 (ev_var rfl) ev_c (smul_int (by omega) (by decide))) (ev_2 (ev_2 ev_c (ev_var rfl) (smul_int (by decide) (by omega))) (ev_var rfl) (smul_int (by omega) (by omega))) add_int'))
    (st_seq (st_asg (ev_2 (ev_N (ev_cons (ev_2 (ev_2 (ev_var rfl) (ev_2 ev_c (ev_var rfl) (smul_int (by decide) (by omega))) add_int') (ev_var rfl) add_int') ev_nil) int_int) ev_c (mod_int (by decide))))
    (st_seq (st_asg (ev_2 (ev_N (ev_cons (ev_2 (ev_2 (ev_var rfl) (ev_var rfl) (smul_int (by omega) (by omega))) ev_c add_int') ev_nil) int_int) ev_c (mod_int (by decide))))
    (st_ret (ev_2 (ev_N (ev_cons (ev_2 (ev_var rfl) ev_c (smul_int (by omega) (by decide))) ev_nil) int_int) ev_c (mod_int (by decide)))))))⟩

def PV (n : Int) (p : D) : Prop := ∃ a b c d : Int, p = .lst [.int a, .int b, .int c, .int d] ∧ 0 ≤ a ∧ 0 ≤ b ∧ b < 2147483629 ∧ 0 ≤ c ∧ c ≤ n ∧ 0 ≤ d ∧ d ≤ 63
section
variable {ρ ρ1 : Rho} {v a b c d : D} {ma mb : M D} {i : Nat}
theorem st_set0 (h : ma ρ = .ok v ρ1) (h0 : ρ1[i]? = some (.ow (.lst [a, b, c, d]))) (hk : mb ρ1 = .ok (.int 0) ρ1) : sSetI i mb ma ρ = .nx (ρ1.set i (.ow (.lst [v, b, c, d]))) := st_setI (xs := [a, b, c, d]) (n := 0) (q := 0) h h0 hk h0 rfl
theorem st_set2 (h : ma ρ = .ok v ρ1) (h0 : ρ1[i]? = some (.ow (.lst [a, b, c, d]))) (hk : mb ρ1 = .ok (.int 2) ρ1) : sSetI i mb ma ρ = .nx (ρ1.set i (.ow (.lst [a, b, v, d]))) := st_setI (xs := [a, b, c, d]) (n := 2) (q := 2) h h0 hk h0 rfl
end
theorem draw_a {a b c d many : Int} (h0 : 0 < a) (hm : 0 < many) (hm2 : many < 2 ^ 27) : m__law_draw [.ow (.lst [.int a, .int b, .int c, .int d]), .cl (.int many), .no, .no, .no] =
    .ret (.int (a % many)) [.ow (.lst [.int (a / many), .int b, .int c, .int d]), .cl (.int many), .cl (.int (a % many)), .no, .no] :=
  st_seqR (st_ifT (tb_of' (ev_2 (ev_2 (ev_own rfl) ev_c ixp0) ev_c (gt_t h0)))
    (st_seq (st_asg (ev_2 (ev_N (ev_cons (ev_2 (ev_own rfl) ev_c ixp0) ev_nil) int_int) (ev_var rfl) (mod_int hm)))
    (st_seq (st_set0 (ev_2 (ev_2 (ev_own rfl) ev_c ixp0) (ev_var rfl) (fdiv_int hm (log2_27 hm hm2))) rfl ev_c)
    (st_ret (ev_var rfl)))))

theorem draw_b {a b c d many mx : Int} (h0 : ¬ 0 < a) (hm : 0 < many) (hm2 : many < 2 ^ 27) (hmx : f__law_mixed [.int b, .int (c + 1), .int d] = .ok (.int mx) []) :
    m__law_draw [.ow (.lst [.int a, .int b, .int c, .int d]), .cl (.int many), .no, .no, .no] =
    .ret (.int ((0 * 2147483587 + mx) % many)) [.ow (.lst [.int a, .int b, .int (c + 1), .int d]), .cl (.int many), .no, .cl (.int (0 * 2147483587 + mx)), .cl (.int 0)] := by
  have hbits : Builtin.Int.intBits many ≤ 27 := bits_le (by omega)
  have e1 : (1 : Int) + ((Builtin.Int.intBits many : Nat) : Int) / 28 = 1 := by omega
  have hr : toRange [.int (1 + ((Builtin.Int.intBits many : Nat) : Int) / 28)] = .ok [.int 0] := by
    rw [e1]
    rfl
  exact st_seq (st_ifF (tb_of' (ev_2 (ev_2 (ev_own rfl) ev_c ixp0) ev_c (gt_f h0))) st_next)
    (st_seq (st_asg ev_c)
    (st_seq (st_for (it_range (ev_cons (ev_2 ev_c (ev_2 (ev_1 (ev_var rfl) bits_ev) ev_c (fdiv_int (by decide) (by decide))) add_int') ev_nil) hr)
      (for_nx tg_name (st_seq (st_set2 (ev_2 (ev_2 (ev_own rfl) ev_c ixp2) ev_c add_int') rfl ev_c)
        (st_asg (ev_2 (ev_2 (ev_var rfl) ev_c (smul_int (by decide) (by decide))) (ev_call (ev_cons (ev_2 (ev_own rfl) ev_c ixp1) (ev_cons (ev_2 (ev_own rfl) ev_c ixp2) (ev_cons (ev_2 (ev_own rfl) ev_c ixp3) ev_nil))) hmx) add_int'))) for_nil))
    (st_ret (ev_2 (ev_N (ev_cons (ev_var rfl) ev_nil) int_int) (ev_var rfl) (mod_int hm)))))
theorem draw_ok {n many : Int} {p : D} (h : PV n p) (hn : n < 1000000) (hm : 0 < many) (hm2 : many < 2 ^ 27) : ∃ (k : Int) (p' : D), f__law_draw [p, .int many] = .ok (.int k) [p'] ∧ 0 ≤ k ∧ k < many ∧ PV (n + 1) p' := by
  obtain ⟨a, b, c, d, rfl, ha, hb, hb2, hc, hc2, hd, hd2⟩ := h
  by_cases h0 : 0 < a
  · exact ⟨_, _, fn_run rfl (draw_a h0 hm hm2), Int.emod_nonneg _ (by omega), Int.emod_lt_of_pos _ hm, _, _, _, _, rfl, Int.ediv_nonneg ha (by omega), hb, hb2, hc, by omega, hd, hd2⟩
  · obtain ⟨mx, hmx⟩ := mixed_ok (a := b) (b := c + 1) (c := d) hb hb2 (by omega) (by omega) hd hd2
    exact ⟨_, _, fn_run rfl (draw_b h0 hm hm2 hmx), Int.emod_nonneg _ (by omega), Int.emod_lt_of_pos _ hm, _, _, _, _, rfl, ha, hb, hb2, by omega, by omega, hd, hd2⟩
def txE : M D := eOr (eChain opLe opLe (eC (.str " ")) (eVar 1) (eC (.str "~"))) (e2 opEq (eVar 1) (eC (.str "\n")))
theorem txE_ok {x : Sl} {c : Nat} : txE [x, .cl (.str ⟨#[c]⟩)] = .ok (.bl (okc c)) [x, .cl (.str ⟨#[c]⟩)] := by
  unfold txE
  rw [s32, s126, s10]
  by_cases h1 : 32 ≤ c
  · have e1 : opLe (.str ⟨#[32]⟩) (.str ⟨#[c]⟩) = .ok (.bl true) := by rw [le_sign, decide_eq_true h1]
    by_cases h2 : c ≤ 126
    · have e2 : opLe (.str ⟨#[c]⟩) (.str ⟨#[126]⟩) = .ok (.bl true) := by rw [le_sign, decide_eq_true h2]
      have e3 : okc c = true := by simp [okc, h1, h2]
      rw [e3]
      exact ev_orT (ev_chainT ev_c (ev_var rfl) e1 ev_c e2) rfl
    · have e2 : opLe (.str ⟨#[c]⟩) (.str ⟨#[126]⟩) = .ok (.bl false) := by rw [le_sign, decide_eq_false h2]
      have e3 : okc c = decide (c = 10) := by simp [okc, h2]
      rw [e3]
      exact ev_orF (ev_chainT ev_c (ev_var rfl) e1 ev_c e2) rfl (ev_2 (ev_var rfl) ev_c eq_sign)
  · have e1 : opLe (.str ⟨#[32]⟩) (.str ⟨#[c]⟩) = .ok (.bl false) := by rw [le_sign, decide_eq_false h1]
    have e3 : okc c = decide (c = 10) := by simp [okc, h1]
    rw [e3]
    exact ev_orF (ev_chainF ev_c (ev_var rfl) e1) rfl (ev_2 (ev_var rfl) ev_c eq_sign)
theorem tx_loop {x : Sl} : ∀ cs : List Nat, lcLoop [1] (tgName 1) (M.pure true) txE (cs.map fun c => .str ⟨#[c]⟩) [x, .no] = .ok (cs.map fun c => D.bl (okc c)) [x, .no]
  | [] => rfl
  | c :: cs => by
    show (match txE [x, .cl (.str ⟨#[c]⟩)] with
      | .ok y ρ3 => (match lcLoop [1] (tgName 1) (M.pure true) txE (cs.map fun c => .str ⟨#[c]⟩) (wipeR ρ3 [1]) with
        | .ok xs ρ4 => Out.ok (y :: xs) ρ4
        | _ => .bad)
      | _ => .bad) = _
    rw [txE_ok]
    show (match lcLoop [1] (tgName 1) (M.pure true) txE (cs.map fun c => .str ⟨#[c]⟩) [x, .no] with
        | .ok xs ρ4 => Out.ok (D.bl (okc c) :: xs) ρ4
        | _ => .bad) = _
    rw [tx_loop cs]
    rfl
theorem is_text_str {z : Str} (h : z.length ≤ 16777216) : f_is_text [.str z] = .ok (.bl (z.cps.toList.all okc)) [] := by
  have e : opAll [.lst (z.cps.toList.map fun c => D.bl (okc c))] = .ok (.bl (z.cps.toList.all okc)) := by
    show (match dBls (z.cps.toList.map fun c => D.bl (okc c)) with
      | some is => R.ok (D.bl (is.all id))
      | none => .bad) = _
    rw [bls_map]
    show R.ok (D.bl ((z.cps.toList.map okc).all id)) = _
    rw [List.all_map]
    rfl
  exact fn_run (ρ0 := [.cl (.str z), .no]) rfl (st_ret (ev_andT (ev_1 (ev_var rfl) (show opIs [.str] [("InvalidText", false)] (.str z) = .ok (.bl true) from rfl)) rfl
    (ev_N (ev_cons (ev_lc (it_seq (ev_var rfl) (items_str h)) (tx_loop _)) ev_nil) e)))
theorem one_of_lst {n : Int} {p : D} {xs : List D} (h : PV n p) (hn : n < 1000000) (h0 : 0 < xs.length) (h1 : xs.length < 2 ^ 27) : ∃ (d : D) (p' : D), f__law_one_of [p, .lst xs] = .ok d [p'] ∧ d ∈ xs ∧ PV (n + 1) p' := by
  obtain ⟨k, p', e, hk, hk2, hp⟩ := draw_ok (many := (xs.length : Nat)) h hn (by omega) (by omega)
  have hlt : k.toNat < xs.length := by omega
  exact ⟨xs[k.toNat], p', fn_run (ρ0 := [.ow p, .cl (.lst xs)]) rfl (st_ret (ev_2 (ev_var rfl) (ev_callO rfl (ev_cons (ev_N (ev_cons (ev_var rfl) ev_nil) len_lst) ev_nil) rfl e) (ix_lst hk (List.getElem?_eq_getElem hlt)))), List.getElem_mem hlt, hp⟩
theorem one_of_str {n : Int} {p : D} {z : Str} {cs : List Nat} (h : PV n p) (hn : n < 1000000) (ez : z.cps.toList = cs) (h0 : 0 < cs.length) (h1 : cs.length ≤ 16777216) : ∃ (c : Nat) (p' : D), f__law_one_of [p, .str z] = .ok (.str ⟨#[c]⟩) [p'] ∧ c ∈ cs ∧ PV (n + 1) p' := by
  have lz : z.length = cs.length := by rw [← ez]; simp [Str.length]
  obtain ⟨k, p', e, hk, hk2, hp⟩ := draw_ok (many := (z.length : Nat)) h hn (by omega) (by omega)
  have hlt : k.toNat < cs.length := by omega
  exact ⟨cs[k.toNat], p', fn_run (ρ0 := [.ow p, .cl (.str z)]) rfl (st_ret (ev_2 (ev_var rfl) (ev_callO rfl (ev_cons (ev_N (ev_cons (ev_var rfl) ev_nil) (len_str (by omega))) ev_nil) rfl e) (ix_str k.toNat (by omega) (by omega) (by rw [ez]; exact List.getElem?_eq_getElem hlt)))), List.getElem_mem hlt, hp⟩
theorem purse_ok {ns : List Int} {k : Int} (h0 : 0 ≤ k) (h1 : k ≤ 63) : ∃ p, f__law_purse [.ros (ns.map .int), .int k] = .ok p [] ∧ PV 0 p := by
  have c1 : cutD (.ros (ns.map .int)) (some k) (some (k + 1)) = .ok (.lst ((cutL ns (some k) (some (k + 1))).map D.int)) := by
    show R.ok (D.lst (cutL (ns.map D.int) _ _)) = _
    rw [cutL_map]
  have c2 : opSum [.lst ((cutL ns (some k) (some (k + 1))).map D.int)] = .ok (.int (cutL ns (some k) (some (k + 1))).sum) := by
    show (match dInts ((cutL ns (some k) (some (k + 1))).map D.int) with
      | some is => R.ok (D.int is.sum)
      | none => .bad) = _
    rw [dints_map]
  have pp : (0 : Int) < (10 ^ 60) ^ 8 := by decide +kernel
  refine ⟨_, fn_run (ρ0 := [.cl (.ros (ns.map .int)), .cl (.int k), .no]) rfl
    (st_seq (st_asg (ev_N (ev_cons (ev_cut (ev_var rfl) (pa_at (ev_var rfl)) (pa_at (ev_2 (ev_var rfl) ev_c add_int')) c1) ev_nil) c2))
    (st_ret (ev_N (ev_cons (ev_2 (ev_N (ev_cons (ev_N (ev_cons (ev_2 (ev_var rfl) (ev_2 ev_c ev_c p18) sub_int') (ev_cons ev_c ev_nil)) max_int) ev_nil) int_int) (ev_2 (ev_2 ev_c ev_c p60) ev_c p480) (mod_int pp))
      (ev_cons (ev_2 (ev_N (ev_cons (ev_var rfl) ev_nil) int_int) ev_c (mod_int (by decide))) (ev_cons ev_c (ev_cons (ev_var rfl) ev_nil)))) rfl))), _, _, _, _, rfl, Int.emod_nonneg _ (by omega), Int.emod_nonneg _ (by decide), Int.emod_lt_of_pos _ (by decide), Int.le_refl _, Int.le_refl _, h0, h1⟩
theorem PV.le {n m : Int} {p : D} (h : PV n p) (k : n ≤ m) : PV m p := by
  obtain ⟨a, b, c, d, e, h1, h2, h3, h4, h5, h6⟩ := h
  exact ⟨a, b, c, d, e, h1, h2, h3, h4, by omega, h6⟩
end DL

set_option Elab.async false
set_option linter.all false
set_option maxRecDepth 100000
set_option maxHeartbeats 1000000
namespace DL
open PyProof.Rows
/-! ### titles, in plain lists of signs -/
def isp (c : Nat) : Bool := c == 32 || c == 95
def moS (f : List Nat) (c : Nat) : List Nat := if isp c = true then (if f ≠ [] ∧ f.getLast? ≠ some 32 then f ++ [32] else f) else f ++ [c]
def moT (f : List Nat) : List Nat := if f.getLast? = some 32 then f.dropLast else f
def mo (cs : List Nat) : List Nat := moT (cs.foldl moS [])
/-- no low line, no two blanks side by side -/
def nd : List Nat → Bool
  | [] => true
  | c :: r => decide (c ≠ 95) && (decide (c ≠ 32) || decide (r.head? ≠ some 32)) && nd r
theorem nd_cons {c : Nat} {r : List Nat} : nd (c :: r) = true ↔ c ≠ 95 ∧ (c ≠ 32 ∨ r.head? ≠ some 32) ∧ nd r = true := by
  show (decide (c ≠ 95) && (decide (c ≠ 32) || decide (r.head? ≠ some 32)) && nd r) = true ↔ _
  simp only [Bool.and_eq_true, Bool.or_eq_true, decide_eq_true_eq, and_assoc]
theorem nd_app : ∀ {a b : List Nat}, nd (a ++ b) = true ↔ nd a = true ∧ nd b = true ∧ (a.getLast? ≠ some 32 ∨ b.head? ≠ some 32)
  | [], b => by simp [nd]
  | [c], b => by
    rw [List.singleton_append, nd_cons]
    simp [nd, and_assoc, and_comm, and_left_comm]
  | c :: d :: a, b => by
    have ih := nd_app (a := d :: a) (b := b)
    rw [List.cons_append, nd_cons, ih, nd_cons (c := c)]
    have e : (c :: d :: a).getLast? = (d :: a).getLast? := by rw [List.getLast?_cons_cons]
    rw [e, List.cons_append, List.head?_cons, List.head?_cons]
    simp only [and_assoc]
/-- blanks single, none at the ends -/
structure Nm (s : List Nat) : Prop where
  nd : nd s = true
  hd : s.head? ≠ some 32
  tl : s.getLast? ≠ some 32
theorem nm_nil : Nm [] := ⟨rfl, by simp, by simp⟩
theorem nd_dropLast {f : List Nat} (h : nd f = true) : nd f.dropLast = true := by
  by_cases e : f = []
  · subst e; rfl
  · rw [← List.dropLast_concat_getLast e, nd_app] at h
    exact h.1
theorem moT_nm {f : List Nat} (h : nd f = true) (hh : f.head? ≠ some 32) : Nm (moT f) := by
  unfold moT
  by_cases c : f.getLast? = some 32
  · rw [if_pos c]
    have e : f ≠ [] := fun z => by rw [z] at c; cases c
    have q := List.dropLast_concat_getLast e
    have h2 := h
    rw [← q, nd_app] at h2
    refine ⟨h2.1, ?_, ?_⟩
    · cases hd : f.dropLast with
      | nil => simp
      | cons a r =>
        rw [hd] at q
        rw [← q] at hh
        simpa using hh
    · rcases h2.2.2 with z | z
      · exact z
      · exfalso
        rw [List.getLast?_eq_some_getLast e] at c
        exact z (by simpa using c)
  · rw [if_neg c]
    exact ⟨h, hh, c⟩
theorem fold_nd : ∀ (cs f : List Nat), nd f = true → f.head? ≠ some 32 → nd (cs.foldl moS f) = true ∧ (cs.foldl moS f).head? ≠ some 32
  | [], f, h, hh => ⟨h, hh⟩
  | c :: cs, f, h, hh => by
    rw [List.foldl_cons]
    refine fold_nd cs _ ?_ ?_
    · unfold moS
      split
      · split
        · rename_i q
          rw [nd_app]
          exact ⟨h, rfl, .inl q.2⟩
        · exact h
      · rename_i q
        have q1 : c ≠ 32 ∧ c ≠ 95 := by simpa [isp] using q
        rw [nd_app, nd_cons]
        exact ⟨h, ⟨q1.2, .inl q1.1, rfl⟩, .inr (by simpa using q1.1)⟩
    · unfold moS
      split
      · split
        · rename_i q
          cases f with
          | nil => exact absurd rfl q.1
          | cons a r => simpa using hh
        · exact hh
      · rename_i q
        have q1 : c ≠ 32 ∧ c ≠ 95 := by simpa [isp] using q
        cases f with
        | nil => simpa using q1.1
        | cons a r => simpa using hh
theorem mo_nm (cs : List Nat) : Nm (mo cs) := by
  obtain ⟨h1, h2⟩ := fold_nd cs [] rfl (by simp)
  exact moT_nm h1 h2
/-- blanks at the ends away, where they are single -/
def st (s : List Nat) : List Nat := moT (if s.head? = some 32 then s.tail else s)
theorem fold_run : ∀ (s f : List Nat), f ≠ [] → nd s = true → (f.getLast? ≠ some 32 ∨ s.head? ≠ some 32) → s.foldl moS f = f ++ s
  | [], f, _, _, _ => by simp
  | c :: s, f, hf, h, hl => by
    rw [nd_cons] at h
    rw [List.foldl_cons]
    have e : moS f c = f ++ [c] := by
      unfold moS
      by_cases q : c = 32
      · subst q
        rw [if_pos (by decide), if_pos ⟨hf, by simpa using hl⟩]
      · rw [if_neg (by simp [isp, q, h.1])]
    rw [e, fold_run s (f ++ [c]) (by simp) h.2.2 (by simpa using h.2.1)]
    simp
theorem fold_nil {s : List Nat} (h : nd s = true) : s.foldl moS [] = if s.head? = some 32 then s.tail else s := by
  cases s with
  | nil => rfl
  | cons c s =>
    rw [nd_cons] at h
    rw [List.foldl_cons]
    by_cases q : c = 32
    · subst q
      have e : moS [] 32 = [] := rfl
      rw [e, if_pos (by simp), List.tail_cons]
      cases s with
      | nil => rfl
      | cons d s =>
        have hd : d ≠ 32 := by simpa using h.2.1
        have h3 := nd_cons.mp h.2.2
        rw [List.foldl_cons]
        have e2 : moS [] d = [d] := by unfold moS; rw [if_neg (by simp [isp, hd, h3.1])]; rfl
        rw [e2, fold_run s [d] (by simp) h3.2.2 (by simpa using h3.2.1)]
        rfl
    · have e2 : moS [] c = [c] := by unfold moS; rw [if_neg (by simp [isp, q, h.1])]; rfl
      rw [e2, fold_run s [c] (by simp) h.2.2 (by simpa using h.2.1), if_neg (by simpa using q)]
      rfl
theorem mo_st {s : List Nat} (h : nd s = true) : mo s = st s := by
  unfold mo st
  rw [fold_nil h]
theorem st_of {s : List Nat} (h : Nm s) : st s = s := by
  unfold st moT
  rw [if_neg h.hd, if_neg h.tl]
theorem mo_of {s : List Nat} (h : Nm s) : mo s = s := (mo_st h.nd).trans (st_of h)
theorem nd_tail {s : List Nat} (h : nd s = true) : nd s.tail = true := by
  cases s with
  | nil => rfl
  | cons c s => exact (nd_cons.mp h).2.2
theorem st_nm {s : List Nat} (h : nd s = true) : Nm (st s) := by
  unfold st
  by_cases q : s.head? = some 32
  · rw [if_pos q]
    refine moT_nm (nd_tail h) ?_
    cases s with
    | nil => cases q
    | cons c s =>
      have e : c = 32 := by simpa using q
      have := (nd_cons.mp h).2.1
      rw [e] at this
      simpa using this
  · rw [if_neg q]
    exact moT_nm h q
/-! lengths -/
theorem moT_len {f : List Nat} : (moT f).length ≤ f.length := by
  unfold moT
  split
  · rw [List.length_dropLast]; omega
  · exact Nat.le_refl _
theorem fold_len : ∀ (cs f : List Nat), (cs.foldl moS f).length ≤ f.length + cs.length
  | [], f => by simp
  | c :: cs, f => by
    rw [List.foldl_cons]
    have h := fold_len cs (moS f c)
    have h2 : (moS f c).length ≤ f.length + 1 := by
      unfold moS
      split
      · split
        · simp
        · omega
      · simp
    rw [List.length_cons]
    omega
theorem mo_len (cs : List Nat) : (mo cs).length ≤ cs.length := by
  have h1 := moT_len (f := cs.foldl moS [])
  have h2 := fold_len cs []
  simp at h2
  unfold mo
  omega
theorem st_len (s : List Nat) : (st s).length ≤ s.length := by
  have h1 := moT_len (f := if s.head? = some 32 then s.tail else s)
  have h2 : (if s.head? = some 32 then s.tail else s).length ≤ s.length := by
    split
    · rw [List.length_tail]; omega
    · exact Nat.le_refl _
  unfold st
  omega
/-! signs -/
theorem moT_mem {f : List Nat} {c : Nat} (h : c ∈ moT f) : c ∈ f := by
  unfold moT at h
  split at h
  · exact (List.dropLast_subset f) h
  · exact h
theorem fold_mem {c : Nat} : ∀ (cs f : List Nat), c ∈ cs.foldl moS f → c ∈ f ∨ c ∈ cs ∨ c = 32
  | [], f, h => .inl h
  | d :: cs, f, h => by
    rw [List.foldl_cons] at h
    rcases fold_mem cs _ h with q | q | q
    · unfold moS at q
      split at q
      · split at q
        · rcases List.mem_append.mp q with q | q
          · exact .inl q
          · exact .inr (.inr (by simpa using q))
        · exact .inl q
      · rcases List.mem_append.mp q with q | q
        · exact .inl q
        · exact .inr (.inl (by rw [List.mem_singleton.mp q]; exact List.mem_cons_self))
    · exact .inr (.inl (List.mem_cons_of_mem _ q))
    · exact .inr (.inr q)
theorem mo_mem {cs : List Nat} {c : Nat} (h : c ∈ mo cs) : c ∈ cs ∨ c = 32 := by
  rcases fold_mem cs [] (moT_mem h) with q | q | q
  · cases q
  · exact .inl q
  · exact .inr q
theorem st_mem {s : List Nat} {c : Nat} (h : c ∈ st s) : c ∈ s := by
  have q := moT_mem h
  split at q
  · exact List.mem_of_mem_tail q
  · exact q
end DL

set_option Elab.async false
set_option linter.all false
set_option maxRecDepth 100000
set_option maxHeartbeats 1000000
namespace DL
open PyProof.Rows
/-- the great letter ahead -/
def uf : List Nat → List Nat
  | [] => []
  | c :: r => up1 c :: r
def pre58 (o : List Nat) : List Nat := o.takeWhile (fun c => decide (c ≠ 58))
def post58 (o : List Nat) : List Nat := (o.dropWhile (fun c => decide (c ≠ 58))).tail
def roomL : List (List Nat) := [[84, 97, 108, 107], [85, 115, 101, 114], [85, 115, 101, 114, 32, 116, 97, 108, 107], [84, 101, 109, 112, 108, 97, 116, 101], [84, 101, 109, 112, 108, 97, 116, 101, 32, 116, 97, 108, 107],
  [67, 97, 116, 101, 103, 111, 114, 121], [67, 97, 116, 101, 103, 111, 114, 121, 32, 116, 97, 108, 107], [72, 101, 108, 112], [72, 101, 108, 112, 32, 116, 97, 108, 107]]
def rm (p : List Nat) : Option (List Nat) := roomL.find? fun n => decide (n.map lo1 = p.map lo1)
def bad (c : Nat) : Bool := [10, 91, 93, 123, 125, 124, 60, 62, 35].contains c
def nameOf (o : List Nat) : Option (List Nat) := if 58 ∈ o then rm (st (pre58 o)) else none
def restOf (o : List Nat) (n : Option (List Nat)) : List Nat := match n with
  | none => o
  | some _ => st (post58 o)
def joinT (n : Option (List Nat)) (r : List Nat) : List Nat := match n with
  | none => r
  | some n => n ++ 58 :: r
def fitT (r t : List Nat) : Option (List Nat) := if r = [] ∨ r.head? = some 58 ∨ 60 < t.length then none else some t
def TT (cs : List Nat) : Option (List Nat) := if cs.any bad = true then none else
  fitT (uf (restOf (mo cs) (nameOf (mo cs)))) (joinT (nameOf (mo cs)) (uf (restOf (mo cs) (nameOf (mo cs)))))

theorem up1_32 {c : Nat} : up1 c = 32 ↔ c = 32 := by unfold up1; split <;> omega
theorem up1_58 {c : Nat} : up1 c = 58 ↔ c = 58 := by unfold up1; split <;> omega
theorem up1_95 {c : Nat} : up1 c = 95 ↔ c = 95 := by unfold up1; split <;> omega
theorem up1_up1 {c : Nat} : up1 (up1 c) = up1 c := by unfold up1; split <;> (try split) <;> omega
theorem lo1_up1 {c : Nat} : lo1 (up1 c) = lo1 c := by unfold lo1 up1; split <;> split <;> (try split) <;> omega
theorem lo1_32 {c : Nat} : lo1 c = 32 ↔ c = 32 := by unfold lo1; split <;> omega
theorem lo1_58 {c : Nat} : lo1 c = 58 ↔ c = 58 := by unfold lo1; split <;> omega
theorem bad_iff {c : Nat} : bad c = true ↔ c = 10 ∨ c = 91 ∨ c = 93 ∨ c = 123 ∨ c = 125 ∨ c = 124 ∨ c = 60 ∨ c = 62 ∨ c = 35 := by
  unfold bad
  simp
theorem bad_up1 {c : Nat} (h : bad (up1 c) = true) : bad c = true := by
  rw [bad_iff] at h ⊢
  unfold up1 at h
  split at h <;> omega
theorem uf_uf : ∀ s : List Nat, uf (uf s) = uf s
  | [] => rfl
  | c :: r => by
    show up1 (up1 c) :: r = up1 c :: r
    rw [up1_up1]
theorem uf_len : ∀ s : List Nat, (uf s).length = s.length
  | [] => rfl
  | _ :: _ => rfl
theorem uf_nil {s : List Nat} : uf s = [] ↔ s = [] := by cases s <;> simp [uf]
theorem uf_head {s : List Nat} : (uf s).head? = some 58 ↔ s.head? = some 58 := by cases s <;> simp [uf, up1_58]
theorem uf_nm {s : List Nat} (h : Nm s) : Nm (uf s) := by
  cases s with
  | nil => exact nm_nil
  | cons c r =>
    obtain ⟨h1, h2, h3⟩ := h
    rw [nd_cons] at h1
    refine ⟨?_, ?_, ?_⟩
    · show nd (up1 c :: r) = true
      rw [nd_cons, Ne, up1_95, Ne, up1_32]
      exact h1
    · show (up1 c :: r).head? ≠ some 32
      simpa [up1_32] using h2
    · show (up1 c :: r).getLast? ≠ some 32
      cases r with
      | nil => simpa [up1_32] using h3
      | cons d r => rw [List.getLast?_cons_cons] at h3 ⊢; exact h3
theorem uf_bad {s : List Nat} (h : ∀ c ∈ s, bad c = false) : ∀ c ∈ uf s, bad c = false := by
  cases s with
  | nil => exact h
  | cons d r =>
    intro c hc
    rcases List.mem_cons.mp hc with e | hc
    · cases q : bad c with
      | false => rfl
      | true =>
        rw [e] at q
        have := bad_up1 q
        rw [h d List.mem_cons_self] at this
        cases this
    · exact h c (List.mem_cons_of_mem _ hc)
theorem uf_lo : ∀ s : List Nat, (uf s).map lo1 = s.map lo1
  | [] => rfl
  | c :: r => by
    show lo1 (up1 c) :: r.map lo1 = lo1 c :: r.map lo1
    rw [lo1_up1]
theorem mem_uf58 {s : List Nat} : 58 ∈ uf s ↔ 58 ∈ s := by
  cases s with
  | nil => rfl
  | cons c r =>
    show 58 ∈ up1 c :: r ↔ 58 ∈ c :: r
    rw [List.mem_cons, List.mem_cons]
    constructor
    · rintro (h | h)
      · exact .inl (up1_58.mp h.symm).symm
      · exact .inr h
    · rintro (h | h)
      · exact .inl (up1_58.mpr h.symm).symm
      · exact .inr h
theorem split58 {o : List Nat} (h : 58 ∈ o) : o = pre58 o ++ 58 :: post58 o := by
  unfold pre58 post58
  induction o with
  | nil => cases h
  | cons c r ih =>
    by_cases q : c = 58
    · subst q; simp
    · have h2 : 58 ∈ r := by
        rcases List.mem_cons.mp h with z | z
        · exact absurd z.symm q
        · exact z
      have e := ih h2
      rw [List.takeWhile_cons_of_pos (by simpa using q), List.dropWhile_cons_of_pos (by simpa using q), List.cons_append, ← e]
theorem pre58_no (o : List Nat) : 58 ∉ pre58 o := fun h => by
  have : ∀ l : List Nat, 58 ∉ l.takeWhile (fun c => decide (c ≠ 58)) := fun l => by
    induction l with
    | nil => simp
    | cons c r ih =>
      by_cases q : c = 58
      · subst q; simp
      · rw [List.takeWhile_cons_of_pos (by simpa using q)]
        intro z
        rcases List.mem_cons.mp z with z | z
        · exact q z.symm
        · exact ih z
  exact this o h
theorem pre58_app {p t : List Nat} (h : 58 ∉ p) : pre58 (p ++ 58 :: t) = p ∧ post58 (p ++ 58 :: t) = t := by
  unfold pre58 post58
  induction p with
  | nil => simp
  | cons c r ih =>
    have h1 : c ≠ 58 := fun z => h (by rw [z]; exact List.mem_cons_self)
    obtain ⟨e1, e2⟩ := ih fun z => h (List.mem_cons_of_mem _ z)
    rw [List.cons_append, List.takeWhile_cons_of_pos (by simpa using h1), List.dropWhile_cons_of_pos (by simpa using h1), e1, e2]
    exact ⟨rfl, rfl⟩
theorem rm_some {p n : List Nat} (h : rm p = some n) : n ∈ roomL ∧ n.map lo1 = p.map lo1 := ⟨List.mem_of_find?_eq_some h, by simpa using List.find?_some h⟩
theorem rm_self : ∀ n ∈ roomL, rm n = some n := by decide +kernel
theorem room_nm : ∀ n ∈ roomL, nd n = true ∧ n.head? ≠ some 32 ∧ n.getLast? ≠ some 32 ∧ 58 ∉ n ∧ n ≠ [] ∧ (∀ c ∈ n, bad c = false) := by decide +kernel
theorem rm_lo {p q : List Nat} (h : p.map lo1 = q.map lo1) : rm p = rm q := by unfold rm; rw [h]
theorem fit_some {r t u : List Nat} (h : fitT r t = some u) : r ≠ [] ∧ r.head? ≠ some 58 ∧ t.length ≤ 60 ∧ u = t := by
  unfold fitT at h
  split at h
  · cases h
  · rename_i q
    refine ⟨fun z => q (.inl z), fun z => q (.inr (.inl z)), ?_, (Option.some.inj h).symm⟩
    have : ¬ 60 < t.length := fun z => q (.inr (.inr z))
    omega
theorem fit_of {r t : List Nat} (h1 : r ≠ []) (h2 : r.head? ≠ some 58) (h3 : t.length ≤ 60) : fitT r t = some t := by
  unfold fitT
  rw [if_neg]
  rintro (z | z | z)
  · exact h1 z
  · exact h2 z
  · omega
theorem post_nd {o : List Nat} (h : nd o = true) (h58 : 58 ∈ o) : nd (post58 o) = true := by
  rw [split58 h58, nd_app, nd_cons] at h
  exact h.2.1.2.2
theorem pre_nd {o : List Nat} (h : nd o = true) (h58 : 58 ∈ o) : nd (pre58 o) = true := by
  rw [split58 h58, nd_app] at h
  exact h.1
/-- a title of at most so many signs -/
theorem TT_len {cs t : List Nat} (h : TT cs = some t) : t.length ≤ cs.length ∧ t.length ≤ 60 := by
  unfold TT at h
  split at h
  · cases h
  · obtain ⟨h1, h2, h3, rfl⟩ := fit_some h
    refine ⟨?_, h3⟩
    have hm := mo_len cs
    generalize mo cs = o at h1 h2 h3 hm ⊢
    cases e : nameOf o with
    | none =>
      show (uf o).length ≤ _
      rw [uf_len]
      exact hm
    | some n =>
      unfold nameOf at e
      split at e
      · rename_i h58
        obtain ⟨_, el⟩ := rm_some e
        have l1 := congrArg List.length el
        rw [List.length_map, List.length_map] at l1
        have l2 := st_len (pre58 o)
        have l3 := st_len (post58 o)
        have l4 := congrArg List.length (split58 h58)
        rw [List.length_append, List.length_cons] at l4
        show (n ++ 58 :: uf (st (post58 o))).length ≤ _
        rw [List.length_append, List.length_cons, uf_len]
        omega
      · cases e
/-- a title makes itself -/
theorem TT_self {cs t : List Nat} (h : TT cs = some t) : TT t = some t := by
  unfold TT at h
  split at h
  · cases h
  rename_i hb
  have hb : ∀ c ∈ cs, bad c = false := by simpa using hb
  have hbo : ∀ c ∈ mo cs, bad c = false := fun c hc => by
    rcases mo_mem hc with z | z
    · exact hb c z
    · rw [z]; rfl
  have hn := mo_nm cs
  generalize mo cs = o at h hbo hn
  obtain ⟨h1, h2, h3, rfl⟩ := fit_some h
  clear h
  cases e : nameOf o with
  | none =>
    rw [e] at h1 h2 h3
    have h1 : uf o ≠ [] := h1
    have h2 : (uf o).head? ≠ some 58 := h2
    have h3 : (uf o).length ≤ 60 := h3
    show TT (uf o) = some (uf o)
    have hu := uf_nm hn
    have e2 : nameOf (uf o) = none := by
      unfold nameOf at e ⊢
      by_cases q : 58 ∈ o
      · rw [if_pos q] at e
        rw [if_pos (mem_uf58.mpr q)]
        have s1 := split58 q
        generalize hp : pre58 o = p at e s1
        have np : 58 ∉ p := hp ▸ pre58_no o
        have pne : p ≠ [] := fun z => by
          rw [z] at s1
          rw [s1] at h2
          exact h2 rfl
        have e3 : pre58 (uf o) = uf p := by
          cases p with
          | nil => exact absurd rfl pne
          | cons c r =>
            rw [s1]
            show pre58 ((up1 c :: r) ++ 58 :: post58 o) = up1 c :: r
            refine (pre58_app fun z => ?_).1
            rcases List.mem_cons.mp z with z | z
            · exact np (by rw [up1_58.mp z.symm]; exact List.mem_cons_self)
            · exact np (List.mem_cons_of_mem _ z)
        rw [e3]
        have nh : p.head? ≠ some 32 := by
          cases p with
          | nil => exact absurd rfl pne
          | cons c r =>
            have z := hn.hd
            rw [s1] at z
            simpa using z
        have e4 : (st (uf p)).map lo1 = (st p).map lo1 := by
          cases p with
          | nil => rfl
          | cons c r =>
            have nh' : c ≠ 32 := by simpa using nh
            have nu : up1 c ≠ 32 := fun z => nh' (up1_32.mp z)
            have e5 : st (up1 c :: r) = moT (up1 c :: r) := by unfold st; rw [if_neg (by simpa using nu)]
            have e6 : st (c :: r) = moT (c :: r) := by unfold st; rw [if_neg (by simpa using nh')]
            show (st (up1 c :: r)).map lo1 = (st (c :: r)).map lo1
            rw [e5, e6]
            unfold moT
            cases r with
            | nil =>
              rw [if_neg (by simpa using nu), if_neg (by simpa using nh')]
              simp [lo1_up1]
            | cons d r =>
              rw [List.getLast?_cons_cons, List.getLast?_cons_cons]
              split
              · rw [List.dropLast_cons_cons, List.dropLast_cons_cons, List.map_cons, List.map_cons, lo1_up1]
              · rw [List.map_cons, lo1_up1]
                rfl
        rw [rm_lo e4]
        exact e
      · rw [if_neg fun z => q (mem_uf58.mp z)]
    unfold TT
    rw [if_neg (by simpa using uf_bad hbo), mo_of hu, e2]
    show fitT (uf (uf o)) (uf (uf o)) = some (uf o)
    rw [uf_uf]
    exact fit_of h1 h2 h3
  | some n =>
    rw [e] at h1 h2 h3
    have h58 : 58 ∈ o := by
      unfold nameOf at e
      split at e
      · assumption
      · cases e
    have er : rm (st (pre58 o)) = some n := by
      unfold nameOf at e
      rw [if_pos h58] at e
      exact e
    obtain ⟨nr, nl⟩ := rm_some er
    obtain ⟨n1, n2, n3, n4, n5, n6⟩ := room_nm n nr
    have h1 : uf (st (post58 o)) ≠ [] := h1
    have h2 : (uf (st (post58 o))).head? ≠ some 58 := h2
    have h3 : (n ++ 58 :: uf (st (post58 o))).length ≤ 60 := h3
    show TT (n ++ 58 :: uf (st (post58 o))) = some (n ++ 58 :: uf (st (post58 o)))
    have hr := uf_nm (st_nm (post_nd hn.nd h58))
    have hu := uf_uf (st (post58 o))
    have hbr : ∀ c ∈ uf (st (post58 o)), bad c = false := uf_bad fun c hc => hbo c (by
      rw [split58 h58]
      exact List.mem_append_right _ (List.mem_cons_of_mem _ (st_mem hc)))
    generalize uf (st (post58 o)) = r at h1 h2 h3 hr hu hbr
    have ht : Nm (n ++ 58 :: r) := by
      refine ⟨?_, ?_, ?_⟩
      · rw [nd_app, nd_cons]
        exact ⟨n1, ⟨by decide, .inl (by decide), hr.nd⟩, .inl n3⟩
      · cases n with
        | nil => exact absurd rfl n5
        | cons c m => simpa using n2
      · have q := hr.tl
        cases r with
        | nil => exact absurd rfl h1
        | cons c m => rw [List.getLast?_append, List.getLast?_cons_cons]; simp at q ⊢; exact q
    have e2 : nameOf (n ++ 58 :: r) = some n := by
      unfold nameOf
      rw [if_pos (List.mem_append_right _ List.mem_cons_self), (pre58_app n4).1, st_of ⟨n1, n2, n3⟩]
      exact rm_self n nr
    unfold TT
    rw [if_neg, mo_of ht, e2]
    · show fitT (uf (st (post58 (n ++ 58 :: r)))) (n ++ 58 :: uf (st (post58 (n ++ 58 :: r)))) = _
      rw [(pre58_app n4).2, st_of hr, hu]
      exact fit_of h1 h2 h3
    · intro z
      obtain ⟨c, hc, hz⟩ := List.any_eq_true.mp z
      have : bad c = false := by
        rcases List.mem_append.mp hc with z | z
        · exact n6 c z
        · rcases List.mem_cons.mp z with z | z
          · rw [z]; rfl
          · exact hbr c z
      rw [this] at hz
      cases hz
end DL

set_option Elab.async false
set_option linter.all false
set_option maxRecDepth 100000
set_option maxHeartbeats 400000
namespace DL
open PySem PySem.Spec PyProof.Rows L2
/-! ### texts: replace, split, join, lower, upper, strip, index, in -/
def us (c : Nat) : Nat := if c = 95 then 32 else c
theorem replL_us : ∀ l : List Nat, StrLaws.replL [95] [32] l = l.map us
  | [] => StrLaws.replL_nil
  | c :: r => by
    by_cases h : c = 95
    · subst h
      rw [StrLaws.replL_hit (by simp) (by simp)]
      show [32] ++ StrLaws.replL [95] [32] r = _
      rw [replL_us r]
      rfl
    · rw [StrLaws.replL_miss (by simpa using h), replL_us r]
      show c :: r.map us = us c :: r.map us
      unfold us
      rw [if_neg h]
theorem s_us : ("_" : Str) = mkS [95] := by decide +kernel
theorem s_bl : (" " : Str) = mkS [32] := by decide +kernel
theorem repl_us {cs : List Nat} (h : cs.length ≤ 8000000) : opRepl "_" " " (.str (mkS cs)) = .ok (.str (mkS (cs.map us))) := by
  rw [s_us, s_bl]
  have e : Txt.replace (mkS cs) (mkS [95]) (mkS [32]) = mkS (cs.map us) := by
    rw [mkS_of (Txt.replace (mkS cs) (mkS [95]) (mkS [32])), mkS_inj, StrLaws.replace_list (by rw [mkS_len]; decide), mkS_list, mkS_list, mkS_list]
    exact replL_us cs
  show (if (mkS cs).length + ((mkS cs).length + 1) * (mkS [32]).length ≤ 16777216 then _ else _) = _
  rw [e, mkS_len, mkS_len, if_pos (by simp; omega)]
/-- the parts at the blanks -/
def sp32 (cs : List Nat) : List (List Nat) := TL.spl [32] 0 [] cs
theorem split_bl {cs : List Nat} (h : cs.length ≤ 8000000) : opSplit (.str (mkS cs)) [.str (mkS [32])] = .ok (.lst ((sp32 cs).map fun w => D.str (mkS w))) := by
  have e : Txt.split (mkS cs) (mkS [32]) = (sp32 cs).map SX.S := SX.split_S (by simp) (by decide)
  show (if (mkS [32]).length ≠ 0 ∧ (mkS cs).length + 2 ≤ 16777216 then R.ok (D.lst ((Txt.split (mkS cs) (mkS [32])).map .str)) else .bad) = _
  rw [e, mkS_len, mkS_len, if_pos (by constructor <;> simp <;> omega), List.map_map]
  rfl
theorem dstrs_mk : ∀ ws : List (List Nat), dStrs (ws.map fun w => D.str (mkS w)) = some (ws.map mkS)
  | [] => rfl
  | w :: ws => by
    show (dStrs (ws.map fun w => D.str (mkS w))).map (mkS w :: ·) = _
    rw [dstrs_mk ws]
    rfl
theorem join_mk {s : List Nat} {ws : List (List Nat)} (h : (ws.map List.length).sum + ws.length * s.length ≤ 16777216) : opJoin (.str (mkS s)) [.lst (ws.map fun w => D.str (mkS w))] = .ok (.str (mkS (TL.joinL s ws))) := by
  have e : Txt.join (mkS s) (ws.map mkS) = mkS (TL.joinL s ws) := SX.join_S s ws
  have l : (ws.map mkS).map (·.length) = ws.map List.length := SX.lens ws
  show (match dStrs (ws.map fun w => D.str (mkS w)) with
    | some ys => if (ys.map fun z : Str => z.length).sum + ys.length * (mkS s).length ≤ 16777216 then R.ok (D.str (Txt.join (mkS s) ys)) else .bad
    | none => .bad) = _
  rw [dstrs_mk]
  dsimp only
  rw [e, l, List.length_map, mkS_len, if_pos h]
theorem lower_mk {cs : List Nat} (h : cs.all (· < 128) = true) (hl : cs.length ≤ 5592405) : opLower (.str (mkS cs)) [] = .ok (.str (mkS (cs.map lo1))) := by
  have e : Txt.lower (mkS cs) = mkS (cs.map lo1) := SX.lower_S h
  show (if (mkS cs).length ≤ 5592405 then R.ok (D.str (Txt.lower (mkS cs))) else .bad) = _
  rw [e, mkS_len, if_pos hl]
theorem upper_mk {cs : List Nat} (h : cs.all (· < 128) = true) (hl : cs.length ≤ 5592405) : opUpper (.str (mkS cs)) [] = .ok (.str (mkS (cs.map up1))) := by
  have e : Txt.upper (mkS cs) = mkS (cs.map up1) := SX.upper_S h
  show (if (mkS cs).length ≤ 5592405 then R.ok (D.str (Txt.upper (mkS cs))) else .bad) = _
  rw [e, mkS_len, if_pos hl]
/-! one sign: in, index -/
theorem occ_first (s sub : Str) (hi : Nat) : ∀ (l : List Nat) (free : Nat), (∀ i ∈ l, free ≤ i) →
    (forIn l ((#[] : Array Nat), free) (StrLaws.occBody s sub hi 1)).run.fst.toList = (l.find? fun i => decide (i + sub.length ≤ hi ∧ Builtin.Str.subAt s sub i = true)).toList := by
  have full : ∀ (l : List Nat) (a free : Nat), (forIn l ((#[a] : Array Nat), free) (StrLaws.occBody s sub hi 1)).run.fst = #[a] := fun l => by
    induction l with
    | nil => intro a free; rfl
    | cons b l ih =>
      intro a free
      rw [List.forIn_cons]
      unfold StrLaws.occBody
      rw [if_neg (by simp)]
      exact ih a free
  intro l
  induction l with
  | nil => intro free _; rfl
  | cons a l ih =>
    intro free hf
    have ha : free ≤ a := hf a List.mem_cons_self
    rw [List.forIn_cons]
    unfold StrLaws.occBody
    by_cases hc : a + sub.length ≤ hi ∧ Builtin.Str.subAt s sub a = true
    · rw [if_pos ⟨⟨⟨by simp, ha⟩, hc.1⟩, hc.2⟩, List.find?_cons_of_pos (by simpa using hc)]
      show (forIn l ((#[a] : Array Nat), a + sub.length) (StrLaws.occBody s sub hi 1)).run.fst.toList = _
      rw [full]
      rfl
    · rw [if_neg fun h => hc ⟨h.1.2, h.2⟩, List.find?_cons_of_neg (by simpa using hc)]
      exact ih free fun i hi' => hf i (List.mem_cons_of_mem _ hi')
theorem sub_one {cs : List Nat} {c i : Nat} : Builtin.Str.subAt (mkS cs) (mkS [c]) i = true ↔ cs[i]? = some c := by
  have e := StrLaws.subAt_eq (mkS cs) (mkS [c]) i
  rw [e, mkS_list, mkS_list]
  simp only [mkS_len]
  constructor
  · intro h
    have h2 : (cs.drop i).take 1 = [c] := by simpa using h
    cases q : cs.drop i with
    | nil => rw [q] at h2; simp at h2
    | cons d r =>
      rw [q] at h2
      have e2 : d = c := by simpa using h2
      have h3 := congrArg List.head? q
      rw [List.head?_drop] at h3
      rw [h3, e2]
      rfl
  · intro h
    have h3 : (cs.drop i).head? = some c := by rw [List.head?_drop]; exact h
    cases q : cs.drop i with
    | nil => rw [q] at h3; cases h3
    | cons d r =>
      rw [q] at h3
      have e2 : d = c := by simpa using h3
      rw [e2]
      simp
/-- where a sign stands first -/
def at1 (c : Nat) (cs : List Nat) : Nat := (cs.takeWhile fun d => decide (d ≠ c)).length
theorem at1_get {c : Nat} : ∀ {cs : List Nat}, c ∈ cs → cs[at1 c cs]? = some c ∧ (∀ j, j < at1 c cs → cs[j]? ≠ some c) ∧ at1 c cs < cs.length
  | [], h => by cases h
  | d :: cs, h => by
    by_cases q : d = c
    · subst q
      have e : at1 d (d :: cs) = 0 := by unfold at1; simp
      rw [e]
      exact ⟨rfl, fun j hj => by omega, by simp⟩
    · have h2 : c ∈ cs := by
        rcases List.mem_cons.mp h with z | z
        · exact absurd z.symm q
        · exact z
      obtain ⟨h3, h4, h5⟩ := at1_get h2
      have e : at1 c (d :: cs) = at1 c cs + 1 := by unfold at1; rw [List.takeWhile_cons_of_pos (by simpa using q), List.length_cons]
      rw [e]
      refine ⟨by simpa using h3, fun j hj => ?_, by simpa using h5⟩
      cases j with
      | zero => simpa using q
      | succ j => simpa using h4 j (by omega)
theorem find_least {P : Nat → Bool} {n i : Nat} (hi : i < n) (h : P i = true) (hl : ∀ j, j < i → P j = false) : (List.range' 0 n).find? P = some i := by
  rw [← List.range_eq_range']
  rw [List.find?_range_eq_some]
  exact ⟨h, by simpa using hi, fun j hj => by simp [hl j hj]⟩
theorem sindex_mk {c : Nat} {cs : List Nat} (h : c ∈ cs) : opSIndex (.str (mkS cs)) [.str (mkS [c])] = .ok (.int (at1 c cs : Nat)) := by
  obtain ⟨h1, h2, h3⟩ := at1_get h
  have e : Builtin.Str.occurrences (mkS cs) (mkS [c]) 0 (mkS cs).length 1 = [at1 c cs] := by
    rw [StrLaws.occ_eq, occ_first _ _ _ _ 0 (fun i _ => Nat.zero_le i)]
    rw [find_least (i := at1 c cs) (by rw [mkS_len]; omega)]
    · rfl
    · rw [mkS_len, mkS_len]
      exact decide_eq_true ⟨by simp; omega, sub_one.mpr h1⟩
    · intro j hj
      exact decide_eq_false fun z => h2 j hj (sub_one.mp z.2)
  show (match Builtin.Str.occurrences (mkS cs) (mkS [c]) 0 (mkS cs).length 1 with
    | i :: _ => R.ok (D.int (i : Nat))
    | [] => .bad) = _
  rw [e]
theorem in_mk {c : Nat} {cs : List Nat} : opIn (.str (mkS [c])) (.str (mkS cs)) = .ok (.bl (decide (c ∈ cs))) := by
  have e : (!(Builtin.Str.occurrences (mkS cs) (mkS [c]) 0 (mkS cs).length 1).isEmpty) = decide (c ∈ cs) := SX.in_one cs c
  show R.ok (D.bl (!(Builtin.Str.occurrences (mkS cs) (mkS [c]) 0 (mkS cs).length 1).isEmpty)) = _
  rw [e]
theorem notIn_mk {c : Nat} {cs : List Nat} : opNotIn (.str (mkS [c])) (.str (mkS cs)) = .ok (.bl (!decide (c ∈ cs))) := by
  have e : (!(Builtin.Str.occurrences (mkS cs) (mkS [c]) 0 (mkS cs).length 1).isEmpty) = decide (c ∈ cs) := SX.in_one cs c
  show R.ok (D.bl (!(!(Builtin.Str.occurrences (mkS cs) (mkS [c]) 0 (mkS cs).length 1).isEmpty))) = _
  rw [e]
theorem tw_len {s : List Nat} (h : nd s = true) : (s.takeWhile fun c => [32].contains c).length = if s.head? = some 32 then 1 else 0 := by
  cases s with
  | nil => rfl
  | cons c r =>
    by_cases q : c = 32
    · subst q
      have h2 := (nd_cons.mp h).2.1
      have h3 : r.head? ≠ some 32 := by simpa using h2
      have e : r.takeWhile (fun c => [32].contains c) = [] := by
        cases r with
        | nil => rfl
        | cons d r =>
          have : d ≠ 32 := by simpa using h3
          rw [List.takeWhile_cons_of_neg (by simpa using this)]
      rw [List.takeWhile_cons_of_pos (by simp), e]
      rfl
    · rw [List.takeWhile_cons_of_neg (by simpa using q), if_neg (by simpa using q)]
      rfl
theorem nd_rev : ∀ {s : List Nat}, nd s = true → nd s.reverse = true
  | [], _ => rfl
  | c :: r, h => by
    have h2 := nd_cons.mp h
    rw [List.reverse_cons, nd_app]
    refine ⟨nd_rev h2.2.2, ?_, ?_⟩
    · rw [nd_cons]
      exact ⟨h2.1, .inr (by simp), rfl⟩
    · rw [List.getLast?_reverse]
      rcases h2.2.1 with z | z
      · exact .inr (by simpa using z)
      · exact .inl z
/-- blanks away at the ends of a text of single blanks -/
theorem strip_list {s : List Nat} (h : nd s = true) : Txt.stripChars (mkS s) (mkS [32]) = mkS (st s) := by
  unfold Txt.stripChars
  rw [stripBy_eq]
  have g : (mkS [32]).cps.contains = fun c => [32].contains c := by
    funext c
    show (#[32] : Array Nat).contains c = _
    simp
  have e1 : stripLo (mkS [32]).cps.contains true (mkS s) = if s.head? = some 32 then 1 else 0 := by
    unfold stripLo
    rw [g, mkS_list, if_pos rfl, tw_len h]
  have ht : nd (s.drop (if s.head? = some 32 then 1 else 0)) = true := by
    split
    · rw [List.drop_one]; exact nd_tail h
    · exact h
  have e2 : stripHi (mkS [32]).cps.contains true (mkS s) (if s.head? = some 32 then 1 else 0) = s.length - (if (s.drop (if s.head? = some 32 then 1 else 0)).getLast? = some 32 then 1 else 0) := by
    unfold stripHi
    rw [g, mkS_list, if_pos rfl, tw_len (nd_rev ht), List.head?_reverse, mkS_len]
  rw [e1, e2]
  have e3 : ∀ lo hi : Nat, hi ≤ s.length → Builtin.Str.strSub (mkS s) lo hi = mkS ((s.drop lo).take (hi - lo)) := fun lo hi hh => by
    rw [mkS_of (Builtin.Str.strSub (mkS s) lo hi), mkS_inj]
    show ((mkS s).cps.extract lo hi).toList = _
    rw [Array.toList_extract, mkS_list, List.extract_eq_take_drop]
  rw [e3 _ _ (Nat.sub_le _ _), mkS_inj]
  unfold st
  have e4 : (if s.head? = some 32 then s.tail else s) = s.drop (if s.head? = some 32 then 1 else 0) := by
    split
    · rw [List.drop_one]
    · rfl
  rw [e4]
  have el : (s.drop (if s.head? = some 32 then 1 else 0)).length = s.length - (if s.head? = some 32 then 1 else 0) := List.length_drop
  generalize hL : (if s.head? = some 32 then 1 else 0) = L at ht el ⊢
  generalize s.drop L = t at ht el ⊢
  unfold moT
  by_cases q : t.getLast? = some 32
  · rw [if_pos q, if_pos q, List.dropLast_eq_take]
    congr 1
    omega
  · rw [if_neg q, if_neg q]
    exact List.take_of_length_le (by omega)
theorem strip_nd {s : List Nat} (h : nd s = true) (hl : s.length ≤ 16777216) : opStripC (.str (mkS s)) [.str (mkS [32])] = .ok (.str (mkS (st s))) := by
  show (if (mkS s).length ≤ 16777216 then R.ok (D.str (Txt.stripChars (mkS s) (mkS [32]))) else .bad) = _
  rw [strip_list h, mkS_len, if_pos hl]
end DL

set_option Elab.async false
set_option linter.all false
set_option maxRecDepth 100000
set_option maxHeartbeats 400000
namespace DL
open PySem PySem.Spec PyProof.Rows L2
/-! ### loops by plain lists -/
section
variable {α : Type} {vs : List Nat} {t : D → Rho → R Rho} {c : M Bool} {e : M D} {ρ : Rho} {G E : α → D} {env : α → Rho} {P : α → Bool}
theorem lc_gen : ∀ {xs : List α}, (∀ x ∈ xs, t (G x) ρ = .ok (env x)) → (∀ x ∈ xs, c (env x) = .ok (P x) (env x)) → (∀ x ∈ xs, P x = true → e (env x) = .ok (E x) (env x)) → (∀ x ∈ xs, wipeR (env x) vs = ρ) →
    lcLoop vs t c e (xs.map G) ρ = .ok ((xs.filter P).map E) ρ
  | [], _, _, _, _ => rfl
  | x :: xs, ht, hc, he, hw => by
    have ih := lc_gen (xs := xs) (fun y hy => ht y (List.mem_cons_of_mem _ hy)) (fun y hy => hc y (List.mem_cons_of_mem _ hy)) (fun y hy => he y (List.mem_cons_of_mem _ hy)) fun y hy => hw y (List.mem_cons_of_mem _ hy)
    rw [List.map_cons]
    unfold lcLoop
    rw [ht x List.mem_cons_self]
    dsimp only
    rw [hc x List.mem_cons_self]
    cases q : P x with
    | true =>
      dsimp only
      rw [he x List.mem_cons_self q]
      dsimp only
      rw [hw x List.mem_cons_self, ih, List.filter_cons_of_pos q]
      rfl
    | false =>
      dsimp only
      rw [hw x List.mem_cons_self, ih, List.filter_cons_of_neg (by rw [q]; exact Bool.false_ne_true)]
theorem ev_lcF {mi : M (List D)} {ρ1 : Rho} {xs : List α} (hi : mi ρ = .ok (xs.map G) ρ1) (hw0 : wipeR ρ1 vs = ρ1) (hb : backR ρ1 ρ1 vs = ρ1) (ht : ∀ x ∈ xs, t (G x) ρ1 = .ok (env x)) (hc : ∀ x ∈ xs, c (env x) = .ok (P x) (env x)) (he : ∀ x ∈ xs, P x = true → e (env x) = .ok (E x) (env x)) (hw : ∀ x ∈ xs, wipeR (env x) vs = ρ1) :
    eLC vs t c e mi ρ = .ok (.lst ((xs.filter P).map E)) ρ1 := by
  have q := ev_lc (vs := vs) (t := t) (c := c) (e := e) hi (by rw [hw0]; exact lc_gen ht hc he hw)
  rwa [hb] at q
/-- without a test -/
theorem ev_lcM {mi : M (List D)} {ρ1 : Rho} {xs : List α} (hi : mi ρ = .ok (xs.map G) ρ1) (hw0 : wipeR ρ1 vs = ρ1) (hb : backR ρ1 ρ1 vs = ρ1) (ht : ∀ x ∈ xs, t (G x) ρ1 = .ok (env x)) (he : ∀ x ∈ xs, e (env x) = .ok (E x) (env x)) (hw : ∀ x ∈ xs, wipeR (env x) vs = ρ1) :
    eLC vs t (M.pure true) e mi ρ = .ok (.lst (xs.map E)) ρ1 := by
  have q := ev_lcF (vs := vs) (t := t) (c := M.pure true) (P := fun _ => true) hi hw0 hb ht (fun _ _ => rfl) (fun x hx _ => he x hx) hw
  rwa [List.filter_eq_self.mpr fun _ _ => rfl] at q
variable {S : Type} {b : MS} {Env : S → Rho} {step : S → α → S}
/-- each turn goes on -/
theorem for_fold : ∀ {xs : List α} {s : S}, (∀ s, ∀ x ∈ xs, ∃ ρ1, t (G x) (Env s) = .ok ρ1 ∧ b ρ1 = .nx (Env (step s x))) → forLoop t b (xs.map G) (Env s) = .nx (Env (xs.foldl step s))
  | [], s, _ => rfl
  | x :: xs, s, h => by
    obtain ⟨ρ1, h1, h2⟩ := h s x List.mem_cons_self
    exact for_nx h1 h2 (for_fold fun s y hy => h s y (List.mem_cons_of_mem _ hy))
/-- .. while something is kept -/
theorem for_inv {I : S → Prop} : ∀ {xs : List α} {s : S}, I s → (∀ s, I s → ∀ x ∈ xs, ∃ ρ1, t (G x) (Env s) = .ok ρ1 ∧ b ρ1 = .nx (Env (step s x)) ∧ I (step s x)) → forLoop t b (xs.map G) (Env s) = .nx (Env (xs.foldl step s)) ∧ I (xs.foldl step s)
  | [], s, i, _ => ⟨rfl, i⟩
  | x :: xs, s, i, h => by
    obtain ⟨ρ1, h1, h2, h3⟩ := h s i x List.mem_cons_self
    obtain ⟨h4, h5⟩ := for_inv h3 fun s i y hy => h s i y (List.mem_cons_of_mem _ hy)
    exact ⟨for_nx h1 h2 h4, h5⟩
theorem for_ret {d : D} {ds : List D} {ρ1 ρ2 : Rho} {r : D} (ht : t d ρ = .ok ρ1) (hb : b ρ1 = .ret r ρ2) : forLoop t b (d :: ds) ρ = .ret r ρ2 := by
  show (match t d ρ with
    | .bad => SO.bad
    | .ok ρ1 => (b ρ1).turn (forLoop t b ds)) = _
  rw [ht]
  dsimp only
  rw [hb]
  rfl
/-- the first one that is meant -/
theorem for_find {Y : Sl → Rho} {Q : α → D} : ∀ {xs : List α} {y : Sl}, (∀ y, ∀ x ∈ xs, t (G x) (Y y) = .ok (Y (.cl (G x)))) → (∀ x ∈ xs, P x = true → b (Y (.cl (G x))) = .ret (Q x) (Y (.cl (G x)))) → (∀ x ∈ xs, P x = false → b (Y (.cl (G x))) = .nx (Y (.cl (G x)))) →
    (∀ x, xs.find? P = some x → forLoop t b (xs.map G) (Y y) = .ret (Q x) (Y (.cl (G x)))) ∧ (xs.find? P = none → ∃ z, forLoop t b (xs.map G) (Y y) = .nx (Y z))
  | [], y, _, _, _ => ⟨fun x h => (by cases h), fun _ => ⟨y, rfl⟩⟩
  | x :: xs, y, ht, h1, h0 => by
    have ih := for_find (y := .cl (G x)) (fun y z hz => ht y z (List.mem_cons_of_mem _ hz)) (fun z hz => h1 z (List.mem_cons_of_mem _ hz)) fun z hz => h0 z (List.mem_cons_of_mem _ hz)
    cases q : P x with
    | true =>
      refine ⟨fun z hz => ?_, fun hz => ?_⟩
      · rw [List.find?_cons_of_pos q] at hz
        cases hz
        exact for_ret (ht y x List.mem_cons_self) (h1 x List.mem_cons_self q)
      · rw [List.find?_cons_of_pos q] at hz
        cases hz
    | false =>
      rw [List.find?_cons_of_neg (by rw [q]; exact Bool.false_ne_true)]
      refine ⟨fun z hz => for_nx (ht y x List.mem_cons_self) (h0 x List.mem_cons_self q) (ih.1 z hz), fun hz => ?_⟩
      obtain ⟨w, hw⟩ := ih.2 hz
      exact ⟨w, for_nx (ht y x List.mem_cons_self) (h0 x List.mem_cons_self q) hw⟩
end
/-! ### the words of a text -/
def full (w : List Nat) : Bool := decide (w ≠ [])
theorem joinL_snoc {s : List Nat} : ∀ {ws : List (List Nat)} {w : List Nat}, ws ≠ [] → TL.joinL s (ws ++ [w]) = TL.joinL s ws ++ (s ++ w)
  | [], w, h => absurd rfl h
  | [p], w, _ => by
    show p ++ (s ++ w) = p ++ (s ++ w)
    rfl
  | p :: q :: r, w, _ => by
    have ih := joinL_snoc (s := s) (ws := q :: r) (w := w) (by simp)
    show p ++ (s ++ TL.joinL s (q :: r ++ [w])) = p ++ (s ++ TL.joinL s (q :: r)) ++ (s ++ w)
    rw [ih]
    simp
theorem words_fold : ∀ (l acc f : List Nat) (ws : List (List Nat)), (acc ≠ [] → f = TL.joinL [32] (ws ++ [acc]) ∧ acc.getLast? ≠ some 32) → (acc = [] → f = if ws = [] then [] else TL.joinL [32] ws ++ [32]) → (∀ w ∈ ws, w ≠ [] ∧ w.getLast? ≠ some 32) →
    moT (l.foldl moS f) = TL.joinL [32] (ws ++ (TL.spl [32] 0 acc (l.map us)).filter full)
  | [], acc, f, ws, ha, h0, hw => by
    rw [List.map_nil, TL.spl_nil, List.foldl_nil]
    have lastJ : ∀ (ws : List (List Nat)) , ws ≠ [] → (∀ w ∈ ws, w ≠ [] ∧ w.getLast? ≠ some 32) → (TL.joinL [32] ws).getLast? ≠ some 32 := fun ws hne hw => by
      have e := (List.dropLast_concat_getLast hne).symm
      have hl := hw _ (List.getLast_mem hne)
      generalize ws.getLast hne = w at e hl
      generalize ws.dropLast = vs at e
      subst e
      by_cases q : vs = []
      · subst q; exact hl.2
      · rw [joinL_snoc q, List.getLast?_append]
        have : w.getLast? ≠ none := by simpa using hl.1
        rw [List.getLast?_append]
        cases z : w.getLast? with
        | none => exact absurd z this
        | some c => rw [z] at hl; simpa using hl.2
    by_cases q : acc = []
    · rw [h0 q, q]
      show moT _ = TL.joinL [32] (ws ++ [])
      rw [List.append_nil]
      by_cases z : ws = []
      · subst z; rfl
      · rw [if_neg z]
        unfold moT
        rw [if_pos (by simp), List.dropLast_concat]
    · obtain ⟨e, hl⟩ := ha q
      have e2 : [acc].filter full = [acc] := by simp [full, q]
      rw [e2, e]
      unfold moT
      rw [if_neg]
      refine lastJ _ (by simp) fun w hw' => ?_
      rcases List.mem_append.mp hw' with z | z
      · exact hw w z
      · rw [List.mem_singleton.mp z]; exact ⟨q, hl⟩
  | c :: l, acc, f, ws, ha, h0, hw => by
    rw [List.foldl_cons, List.map_cons]
    by_cases hs : isp c = true
    · have hu : us c = 32 := by
        unfold us
        have : c = 32 ∨ c = 95 := by simpa [isp] using hs
        rcases this with z | z
        · subst z; rfl
        · rw [if_pos z]
      rw [hu, TL.spl_hit (by rfl)]
      show moT (l.foldl moS (moS f c)) = TL.joinL [32] (ws ++ (acc :: TL.spl [32] 0 [] (l.map us)).filter full)
      by_cases q : acc = []
      · have e : moS f c = f := by
          unfold moS
          rw [if_pos hs]
          rw [h0 q]
          by_cases z : ws = []
          · rw [if_pos z]; rfl
          · rw [if_neg z, if_neg (by simp)]
        rw [e, List.filter_cons_of_neg (by simp [full, q])]
        exact words_fold l [] f ws (fun z => absurd rfl z) (fun _ => h0 q) hw
      · obtain ⟨e1, hl⟩ := ha q
        have fl : f.getLast? = acc.getLast? ∧ f ≠ [] := by
          rw [e1]
          by_cases z : ws = []
          · subst z; exact ⟨rfl, q⟩
          · rw [joinL_snoc z]
            refine ⟨?_, by simp⟩
            rw [List.getLast?_append, List.getLast?_append]
            cases y : acc.getLast? with
            | none => exact absurd (by simpa using y) q
            | some k => rfl
        have e : moS f c = f ++ [32] := by
          unfold moS
          rw [if_pos hs, if_pos ⟨fl.2, by rw [fl.1]; exact hl⟩]
        rw [e, List.filter_cons_of_pos (by simp [full, q])]
        have ih := words_fold l [] (f ++ [32]) (ws ++ [acc]) (fun z => absurd rfl z) (fun _ => by rw [if_neg (by simp), e1]) fun w hw' => by
          rcases List.mem_append.mp hw' with z | z
          · exact hw w z
          · rw [List.mem_singleton.mp z]; exact ⟨q, hl⟩
        rw [ih]
        simp
    · have q1 : c ≠ 32 ∧ c ≠ 95 := by simpa [isp] using hs
      have hu : us c = c := by unfold us; rw [if_neg q1.2]
      have e : moS f c = f ++ [c] := by unfold moS; rw [if_neg hs]
      rw [hu, TL.spl_miss (by unfold TL.pre; simpa using q1.1), e]
      refine words_fold l (acc ++ [c]) (f ++ [c]) ws (fun _ => ⟨?_, by simpa using q1.1⟩) (fun z => by simp at z) hw
      by_cases q : acc = []
      · rw [h0 q, q]
        by_cases z : ws = []
        · subst z; rfl
        · rw [if_neg z, List.nil_append, joinL_snoc z, List.append_assoc]
      · rw [(ha q).1]
        by_cases z : ws = []
        · subst z; rfl
        · rw [joinL_snoc z, joinL_snoc z]
          simp
/-- the program's words are the law's signs -/
theorem words_mo (cs : List Nat) : TL.joinL [32] ((sp32 (cs.map us)).filter full) = mo cs :=
  (words_fold cs [] [] [] (fun z => absurd rfl z) (fun _ => rfl) (fun w h => by cases h)).symm
end DL

set_option Elab.async false
set_option linter.all false
set_option maxRecDepth 100000
set_option maxHeartbeats 400000
namespace DL
open PySem PySem.Spec PyProof.Rows L2
/-! ### steps on texts by lists of signs -/
section
variable {ρ ρ1 ρ2 ρ3 : Rho} {d x y : D} {ds xs : List D} {ma mb mc : M D} {m : M (List D)} {b1 b2 : M Bool} {k : Bool}
theorem it_lst (h : ma ρ = .ok (.lst xs) ρ1) (hl : xs.length ≤ 16777216) : iLst ma ρ = .ok xs ρ1 := by
  unfold iLst M.bind
  rw [h]
  dsimp only [M.lift]
  rw [if_pos hl]
theorem ew_if (hc : b1 ρ = .ok k ρ1) (ht : k = true → ma ρ1 = .ok d ρ2) (hf : k = false → mb ρ1 = .ok d ρ2) : eIf b1 ma mb ρ = .ok d ρ2 := by
  cases k with
  | true => exact ev_ifT hc (ht rfl)
  | false => exact ev_ifF hc (hf rfl)
theorem ew_kdS {z : Str} {a b : M D} {o : Out D} (h : ma ρ = .ok (.str z) ρ1) (h2 : a ρ = o) : mOr (isKd .str ma) a b ρ = o := by
  unfold mOr isKd
  rw [h]
  exact h2
theorem ew_kdL {z : List D} {a b : M D} {o : Out D} (h : ma ρ = .ok (.lst z) ρ1) (h2 : b ρ = o) : mOr (isKd .str ma) a b ρ = o := by
  unfold mOr isKd
  rw [h]
  exact h2
end
theorem ne_mk {a b : List Nat} : opNe (.str (mkS a)) (.str (mkS b)) = .ok (.bl (!decide (a = b))) := by
  have h := eq_mkS (a := a) (b := b)
  show R.ok (D.bl (!(mkS a == mkS b))) = _
  have e : (mkS a == mkS b) = decide (a = b) := by
    rw [Bool.eq_iff_iff]
    simp [mkS_inj]
  rw [e]
theorem ix_mk {cs : List Nat} {c : Nat} (i : Nat) (hl : cs.length ≤ 16777216) (h : cs[i]? = some c) : opIx (.str (mkS cs)) (.int (i : Nat)) = .ok (.str (mkS [c])) :=
  ix_str i rfl (by rw [mkS_len]; exact hl) (by rw [mkS_list]; exact h)
theorem neg1 : opNeg (.int 1) = .ok (.int (-1)) := rfl
theorem ix_last {cs : List Nat} {c : Nat} (hl : cs.length ≤ 16777216) (h : cs.getLast? = some c) : opIx (.str (mkS cs)) (.int (-1)) = .ok (.str (mkS [c])) := by
  have hn : 0 < cs.length := by
    cases cs with
    | nil => cases h
    | cons a r => simp
  have e : atI (mkS cs).cps.toList (-1) = some c := by
    rw [mkS_list]
    unfold atI ixN
    rw [if_neg (by omega), if_pos (by omega)]
    show cs[((-1 : Int) + cs.length).toNat]? = some c
    rw [List.getLast?_eq_getElem?] at h
    rw [← h]
    congr 1
    omega
  show (if (mkS cs).length ≤ 16777216 then _ else _) = _
  rw [mkS_len, if_pos hl, e]
  rfl
theorem sIx_m1 {n d : Nat} : HT.sIx n d (some (-1)) = n - 1 := by
  unfold HT.sIx
  first
    | (simp; omega)
    | (rw [if_pos (by omega)]; omega)
    | omega
theorem cut_m1 {cs : List Nat} (hl : cs.length ≤ 16777216) : cutD (.str (mkS cs)) (some (-1)) none = .ok (.str (mkS (cs.drop (cs.length - 1)))) := by
  rw [cut_str hl]
  unfold cutS
  rw [sIx_m1, HT.sIx_none, mkS_len, mkS_list]
  have e : (cs.drop (cs.length - 1)).take (cs.length - (cs.length - 1)) = cs.drop (cs.length - 1) := List.take_of_length_le (by rw [List.length_drop]; omega)
  rw [e]
  rfl
theorem cut_init {cs : List Nat} (hl : cs.length ≤ 16777216) : cutD (.str (mkS cs)) none (some (-1)) = .ok (.str (mkS cs.dropLast)) := by
  rw [cut_str hl]
  unfold cutS
  rw [sIx_m1, HT.sIx_none, mkS_len, mkS_list, List.drop_zero, List.dropLast_eq_take]
  rfl
theorem cut_pre {cs : List Nat} {b : Nat} (hl : cs.length ≤ 16777216) : cutD (.str (mkS cs)) none (some (b : Nat)) = .ok (.str (mkS (cs.take b))) := by rw [cut_str hl, mkS_pre]
theorem cut_post {cs : List Nat} {a : Nat} (hl : cs.length ≤ 16777216) : cutD (.str (mkS cs)) (some (a : Nat)) none = .ok (.str (mkS (cs.drop a))) := by rw [cut_str hl, mkS_post]
theorem items_mk {cs : List Nat} (h : cs.length ≤ 16777216) : items (.str (mkS cs)) = .ok (cs.map fun c => D.str (mkS [c])) := by
  rw [items_str (by rw [mkS_len]; exact h), mkS_list]
  rfl
theorem last_drop {f : List Nat} : f.drop (f.length - 1) = match f.getLast? with | some c => [c] | none => [] := by
  cases h : f.getLast? with
  | none =>
    have : f = [] := by simpa using h
    subst this
    rfl
  | some c =>
    have hne : f ≠ [] := fun z => by rw [z] at h; cases h
    have e := List.dropLast_concat_getLast hne
    rw [List.getLast?_eq_some_getLast hne] at h
    have ec : f.getLast hne = c := Option.some.inj h
    have e2 : f = f.dropLast ++ [c] := by rw [← ec]; exact e.symm
    rw [e2]
    simp
theorem last_eq {f : List Nat} : decide (f.drop (f.length - 1) = [32]) = decide (f.getLast? = some 32) := by
  rw [last_drop]
  cases f.getLast? with
  | none => simp
  | some c => simp
/-! how long the parts are -/
theorem spl_len : ∀ (l acc : List Nat), (TL.spl [32] 0 acc l).length ≤ l.length + 1 ∧ ((TL.spl [32] 0 acc l).map List.length).sum ≤ acc.length + l.length
  | [], acc => by rw [TL.spl_nil]; simp
  | c :: l, acc => by
    by_cases h : c = 32
    · subst h
      rw [TL.spl_hit (by rfl)]
      obtain ⟨h1, h2⟩ := spl_len l []
      simp only [List.length_cons, List.map_cons, List.sum_cons, List.length_nil] at h1 h2 ⊢
      show (TL.spl [32] 0 [] l).length + 1 ≤ _ ∧ acc.length + ((TL.spl [32] 0 [] l).map List.length).sum ≤ _
      omega
    · rw [TL.spl_miss (by unfold TL.pre; simpa using h)]
      obtain ⟨h1, h2⟩ := spl_len l (acc ++ [c])
      simp only [List.length_append, List.length_cons, List.length_nil] at h1 h2 ⊢
      omega
theorem filter_sum {P : List Nat → Bool} : ∀ ws : List (List Nat), ((ws.filter P).map List.length).sum ≤ (ws.map List.length).sum
  | [] => Nat.le_refl _
  | w :: ws => by
    have ih := filter_sum (P := P) ws
    by_cases h : P w = true
    · rw [List.filter_cons_of_pos h, List.map_cons, List.map_cons, List.sum_cons, List.sum_cons]
      omega
    · rw [List.filter_cons_of_neg h, List.map_cons, List.sum_cons]
      omega
end DL

set_option Elab.async false
set_option linter.all false
set_option maxRecDepth 100000
set_option maxHeartbeats 400000
namespace DL
open PySem PySem.Spec PyProof.Rows L2
/-! ### places in texts -/
def Least (P : Nat → Prop) (o : Option Nat) : Prop := match o with
  | none => ∀ q, ¬ P q
  | some s => P s ∧ ∀ q, q < s → ¬ P q
theorem Least.uniq {P Q : Nat → Prop} {o u : Option Nat} (h : Least P o) (h2 : Least Q u) (e : ∀ q, P q ↔ Q q) : o = u := by
  cases o with
  | none => cases u with
    | none => rfl
    | some s => exact absurd ((e s).mpr h2.1) (h s)
  | some r => cases u with
    | none => exact absurd ((e r).mp h.1) (h2 r)
    | some s =>
      have h1 : ¬ r < s := fun z => h2.2 r z ((e r).mp h.1)
      have h3 : ¬ s < r := fun z => h.2 s z ((e s).mpr h2.1)
      have : r = s := by omega
      rw [this]
def pre (w t : List Nat) (i : Nat) : Bool := (t.drop i).take w.length == w
def fnd (w t : List Nat) (a b : Nat) : Option Nat := (List.range' a (b + 1 - a)).find? fun i => decide (i + w.length ≤ b ∧ pre w t i = true)
theorem fnd_least (w t : List Nat) (a b : Nat) : Least (fun i => a ≤ i ∧ i + w.length ≤ b ∧ pre w t i = true) (fnd w t a b) := by
  cases h : fnd w t a b with
  | none =>
    unfold fnd at h
    rw [List.find?_range'_eq_none] at h
    intro q hq
    have := h q hq.1 (by omega)
    simp [hq.2] at this
  | some s =>
    unfold fnd at h
    rw [List.find?_range'_eq_some] at h
    obtain ⟨h1, h2, h3⟩ := h
    rw [List.mem_range'_1] at h2
    have h4 := of_decide_eq_true h1
    refine ⟨⟨h2.1, h4.1, h4.2⟩, fun q hq hp => ?_⟩
    have := h3 q hp.1 hq
    simp [hp.2] at this
theorem pre_get {w t : List Nat} {i : Nat} (h : pre w t i = true) : ∀ k, k < w.length → t[i + k]? = w[k]? := by
  intro k hk
  have e : (t.drop i).take w.length = w := by simpa [pre] using h
  have e2 : ((t.drop i).take w.length)[k]? = w[k]? := by rw [e]
  rw [List.getElem?_take_of_lt hk, List.getElem?_drop] at e2
  exact e2
theorem pre_le {w t : List Nat} {i : Nat} (h : pre w t i = true) (hw : w ≠ []) : i + w.length ≤ t.length := by
  have e : (t.drop i).take w.length = w := by simpa [pre] using h
  have e2 := congrArg List.length e
  rw [List.length_take, List.length_drop] at e2
  have : 0 < w.length := by
    cases w with
    | nil => exact absurd rfl hw
    | cons _ _ => simp
  omega
def kS (k : Bool) : List Nat := if k = true then [60, 97, 115, 105, 115, 62] else [60, 33, 45, 45]
def kL (k : Bool) : List Nat := if k = true then [60, 47, 97, 115, 105, 115, 62] else [45, 45, 62]
theorem kS_ne (k : Bool) : kS k ≠ [] := by cases k <;> decide
theorem kL_ne (k : Bool) : kL k ≠ [] := by cases k <;> decide
theorem kS_len (k : Bool) : 4 ≤ (kS k).length := by cases k <;> decide
theorem kL_len (k : Bool) : 3 ≤ (kL k).length := by cases k <;> decide
section
variable (t : List Nat)
def kend (k : Bool) (p : Nat) : Option Nat := if pre (kS k) t p = true then fnd (kL k) t (p + (kS k).length) t.length else none
def ke (p : Nat) : Option (Bool × Nat) := match kend t false p with
  | some e => some (false, e)
  | none => match kend t true p with
    | some e => some (true, e)
    | none => none
def cand (k : Bool) (a : Nat) : Option (Nat × Nat) := match fnd (kS k) t a t.length with
  | none => none
  | some s => match fnd (kL k) t (s + (kS k).length) t.length with
    | none => none
    | some e => some (s, e)
def fk (a : Nat) : Option (Nat × Bool × Nat) := match cand t false a with
  | none => (match cand t true a with
    | none => none
    | some (s, e) => some (s, true, e))
  | some (s, e) => (match cand t true a with
    | none => some (s, false, e)
    | some (s2, e2) => if s2 < s then some (s2, true, e2) else some (s, false, e))
end
variable {t : List Nat}
theorem kend_mono {k : Bool} {s j : Nat} (hs : fnd (kL k) t (s + (kS k).length) t.length = none) (hj : s ≤ j) : kend t k j = none := by
  unfold kend
  split
  · have h1 := fnd_least (kL k) t (s + (kS k).length) t.length
    have h2 := fnd_least (kL k) t (j + (kS k).length) t.length
    rw [hs] at h1
    cases h : fnd (kL k) t (j + (kS k).length) t.length with
    | none => rfl
    | some q =>
      rw [h] at h2
      exact absurd ⟨by have := h2.1.1; omega, h2.1.2⟩ (h1 q)
  · rfl
theorem cand_none {k : Bool} {a : Nat} (h : cand t k a = none) : ∀ j, a ≤ j → kend t k j = none := by
  intro j hj
  unfold cand at h
  have h1 := fnd_least (kS k) t a t.length
  cases e : fnd (kS k) t a t.length with
  | none =>
    rw [e] at h1
    unfold kend
    rw [if_neg]
    intro z
    exact h1 j ⟨hj, pre_le z (kS_ne k), z⟩
  | some s =>
    rw [e] at h h1
    dsimp only at h
    cases e2 : fnd (kL k) t (s + (kS k).length) t.length with
    | some q => rw [e2] at h; cases h
    | none =>
      by_cases q : j < s
      · unfold kend
        rw [if_neg]
        intro z
        exact h1.2 j q ⟨hj, pre_le z (kS_ne k), z⟩
      · exact kend_mono e2 (by omega)
theorem cand_some {k : Bool} {a s e : Nat} (h : cand t k a = some (s, e)) : a ≤ s ∧ kend t k s = some e ∧ ∀ j, a ≤ j → j < s → kend t k j = none := by
  unfold cand at h
  have h1 := fnd_least (kS k) t a t.length
  cases e1 : fnd (kS k) t a t.length with
  | none => rw [e1] at h; cases h
  | some s1 =>
    rw [e1] at h h1
    dsimp only at h
    cases e2 : fnd (kL k) t (s1 + (kS k).length) t.length with
    | none => rw [e2] at h; cases h
    | some q =>
      rw [e2] at h
      cases h
      refine ⟨h1.1.1, ?_, fun j hj hl => ?_⟩
      · unfold kend
        rw [if_pos h1.1.2.2, e2]
      · unfold kend
        rw [if_neg]
        intro z
        exact h1.2 j hl ⟨hj, pre_le z (kS_ne k), z⟩
theorem ke_none {p : Nat} (h1 : kend t false p = none) (h2 : kend t true p = none) : ke t p = none := by
  unfold ke
  rw [h1, h2]
theorem fk_none {a : Nat} (h : fk t a = none) : ∀ j, a ≤ j → ke t j = none := by
  intro j hj
  unfold fk at h
  cases e1 : cand t false a with
  | some x =>
    rw [e1] at h
    cases e2 : cand t true a with
    | none => rw [e2] at h; cases h
    | some y => rw [e2] at h; dsimp only at h; split at h <;> cases h
  | none =>
    rw [e1] at h
    cases e2 : cand t true a with
    | some y => rw [e2] at h; cases h
    | none => exact ke_none (cand_none e1 j hj) (cand_none e2 j hj)
theorem fk_some {a s e : Nat} {k : Bool} (h : fk t a = some (s, k, e)) : a ≤ s ∧ ke t s = some (k, e) ∧ ∀ j, a ≤ j → j < s → ke t j = none := by
  unfold fk at h
  cases e1 : cand t false a with
  | none =>
    rw [e1] at h
    cases e2 : cand t true a with
    | none => rw [e2] at h; cases h
    | some y =>
      rw [e2] at h
      cases h
      obtain ⟨h1, h2, h3⟩ := cand_some e2
      refine ⟨h1, ?_, fun j hj hl => ke_none (cand_none e1 j hj) (h3 j hj hl)⟩
      unfold ke
      rw [cand_none e1 _ h1, h2]
  | some x =>
    rw [e1] at h
    obtain ⟨g1, g2, g3⟩ := cand_some e1
    cases e2 : cand t true a with
    | none =>
      rw [e2] at h
      cases h
      refine ⟨g1, ?_, fun j hj hl => ke_none (g3 j hj hl) (cand_none e2 j hj)⟩
      unfold ke
      rw [g2]
    | some y =>
      rw [e2] at h
      dsimp only at h
      obtain ⟨h1, h2, h3⟩ := cand_some e2
      by_cases q : y.1 < x.1
      · rw [if_pos q] at h
        cases h
        refine ⟨h1, ?_, fun j hj hl => ke_none (g3 j hj (by omega)) (h3 j hj hl)⟩
        unfold ke
        rw [g3 _ h1 q, h2]
      · rw [if_neg q] at h
        cases h
        refine ⟨g1, ?_, fun j hj hl => ke_none (g3 j hj hl) (h3 j hj (by omega))⟩
        unfold ke
        rw [g2]
theorem kend_spec {k : Bool} {s e : Nat} (h : kend t k s = some e) : pre (kS k) t s = true ∧ s + (kS k).length ≤ e ∧ e + (kL k).length ≤ t.length := by
  unfold kend at h
  by_cases q : pre (kS k) t s = true
  · rw [if_pos q] at h
    have h1 := fnd_least (kL k) t (s + (kS k).length) t.length
    rw [h] at h1
    exact ⟨q, h1.1.1, h1.1.2.1⟩
  · rw [if_neg q] at h; cases h
theorem ke_spec {k : Bool} {s e : Nat} (h : ke t s = some (k, e)) : kend t k s = some e := by
  unfold ke at h
  cases e1 : kend t false s with
  | some x => rw [e1] at h; cases h; exact e1
  | none =>
    rw [e1] at h
    cases e2 : kend t true s with
    | some x => rw [e2] at h; cases h; exact e2
    | none => rw [e2] at h; cases h
/-! the plain stretches of the program, the plain places of the law -/
section
variable (t)
def iv : Nat → Nat → List (Nat × Nat)
  | 0, a => [(a, t.length)]
  | f + 1, a => match fk t a with
    | none => [(a, t.length)]
    | some (s, k, e) => (a, s) :: iv f (e + (kL k).length)
def itms : Nat → Nat → List (Option Bool × List Nat)
  | 0, _ => []
  | f + 1, p => if t.length ≤ p then [] else match ke t p with
    | some (k, e) => (some k, (t.drop (p + (kS k).length)).take (e - (p + (kS k).length))) :: itms f (e + (kL k).length)
    | none => (none, [t.getD p 0]) :: itms f (p + 1)
def wid (x : Option Bool × List Nat) : Nat := match x.1 with
  | none => 1
  | some false => x.2.length + 7
  | some true => x.2.length + 13
def tgs : List (Option Bool × List Nat) → Nat → List Nat
  | [], _ => []
  | x :: xs, a => if x.1 = none then a :: tgs xs (a + wid x) else tgs xs (a + wid x)
def spt : Nat → Nat → List Nat
  | 0, _ => []
  | f + 1, p => if t.length ≤ p then [] else match ke t p with
    | some (k, e) => spt f (e + (kL k).length)
    | none => p :: spt f (p + 1)
def spL (L : List (Nat × Nat)) : List Nat := L.flatMap fun x => List.range' x.1 (x.2 - x.1)
end
theorem tgs_itms : ∀ (f p : Nat), tgs (itms t f p) p = spt t f p
  | 0, p => rfl
  | f + 1, p => by
    unfold itms spt
    split
    · rfl
    · cases h : ke t p with
      | none =>
        show tgs ((none, [t.getD p 0]) :: itms t f (p + 1)) p = p :: spt t f (p + 1)
        rw [← tgs_itms f (p + 1)]
        rfl
      | some x =>
        obtain ⟨k, e⟩ := x
        obtain ⟨h1, h2, h3⟩ := kend_spec (ke_spec h)
        show tgs ((some k, (t.drop (p + (kS k).length)).take (e - (p + (kS k).length))) :: itms t f (e + (kL k).length)) p = spt t f (e + (kL k).length)
        rw [← tgs_itms f (e + (kL k).length)]
        have el : ((t.drop (p + (kS k).length)).take (e - (p + (kS k).length))).length = e - (p + (kS k).length) := by rw [List.length_take, List.length_drop]; omega
        unfold tgs
        rw [if_neg (by simp)]
        have ew : p + wid (some k, (t.drop (p + (kS k).length)).take (e - (p + (kS k).length))) = e + (kL k).length := by
          cases k with
          | false =>
            show p + (((t.drop (p + 4)).take (e - (p + 4))).length + 7) = e + 3
            have el' : ((t.drop (p + 4)).take (e - (p + 4))).length = e - (p + 4) := el
            have h2' : p + 4 ≤ e := h2
            omega
          | true =>
            show p + (((t.drop (p + 6)).take (e - (p + 6))).length + 13) = e + 7
            have el' : ((t.drop (p + 6)).take (e - (p + 6))).length = e - (p + 6) := el
            have h2' : p + 6 ≤ e := h2
            omega
        rw [ew]
        have hd : ∀ xs : List (Option Bool × List Nat), ∀ a, tgs xs a = tgs xs a := fun _ _ => rfl
        cases itms t f (e + (kL k).length) with
        | nil => rfl
        | cons y ys => rfl
theorem spt_run : ∀ (d f p : Nat), p + d ≤ t.length → d ≤ f → (∀ j, p ≤ j → j < p + d → ke t j = none) → spt t f p = List.range' p d ++ spt t (f - d) (p + d)
  | 0, f, p, _, _, _ => by simp
  | d + 1, 0, p, _, h, _ => by omega
  | d + 1, f + 1, p, hp, hf, h => by
    have e0 : spt t (f + 1) p = p :: spt t f (p + 1) := by
      rw [spt, if_neg (by omega), h p (Nat.le_refl _) (by omega)]
    rw [e0, spt_run d f (p + 1) (by omega) (by omega) (fun j h1 h2 => h j (by omega) (by omega)), List.range'_succ, List.cons_append]
    have e1 : f + 1 - (d + 1) = f - d := by omega
    have e2 : p + 1 + d = p + (d + 1) := by omega
    rw [e1, e2]
theorem spt_iv : ∀ (n f g p : Nat), t.length - p ≤ n → p ≤ t.length → t.length - p < f → t.length - p < g → spt t f p = spL (iv t g p) := by
  intro n
  induction n with
  | zero =>
    intro f g p hn hp hf hg
    have e : p = t.length := by omega
    subst e
    have e1 : spt t f t.length = [] := by
      cases f with
      | zero => rfl
      | succ f => unfold spt; rw [if_pos (Nat.le_refl _)]
    rw [e1]
    cases g with
    | zero => omega
    | succ g =>
      unfold iv
      cases h : fk t t.length with
      | none => simp [spL]
      | some x =>
        obtain ⟨s, k, e⟩ := x
        obtain ⟨h1, h2, h3⟩ := fk_some h
        obtain ⟨h4, h5, h6⟩ := kend_spec (ke_spec h2)
        have := kS_len k
        omega
  | succ n ih =>
    intro f g p hn hp hf hg
    cases g with
    | zero => omega
    | succ g =>
      unfold iv
      cases h : fk t p with
      | none =>
        have h1 := fk_none h
        rw [spt_run (t.length - p) f p (by omega) (by omega) fun j hj _ => h1 j hj]
        have e1 : p + (t.length - p) = t.length := by omega
        have e2 : spt t (f - (t.length - p)) (p + (t.length - p)) = [] := by
          rw [e1]
          cases f - (t.length - p) with
          | zero => rfl
          | succ f => unfold spt; rw [if_pos (Nat.le_refl _)]
        rw [e2]
        simp [spL]
      | some x =>
        obtain ⟨s, k, e⟩ := x
        obtain ⟨h1, h2, h3⟩ := fk_some h
        obtain ⟨h4, h5, h6⟩ := kend_spec (ke_spec h2)
        have := kS_len k
        have := kL_len k
        rw [spt_run (s - p) f p (by omega) (by omega) fun j hj hl => h3 j hj (by omega)]
        have e1 : p + (s - p) = s := by omega
        rw [e1]
        have e2 : spt t (f - (s - p)) s = spt t (f - (s - p) - 1) (e + (kL k).length) := by
          cases q : f - (s - p) with
          | zero => omega
          | succ m =>
            show (if t.length ≤ s then [] else match ke t s with
              | some (k, e) => spt t m (e + (kL k).length)
              | none => s :: spt t m (s + 1)) = _
            rw [if_neg (by omega), h2]
            rfl
        rw [e2, ih (f - (s - p) - 1) g (e + (kL k).length) (by omega) (by omega) (by omega) (by omega)]
        rfl
/-- stretches in order, with something between -/
inductive Iv (n : Nat) : Nat → List (Nat × Nat) → Prop where
  | last {p : Nat} : p ≤ n → Iv n p [(p, n)]
  | more {p s e : Nat} {L : List (Nat × Nat)} : p ≤ s → s < e → Iv n e L → Iv n p ((p, s) :: L)
theorem iv_Iv : ∀ (g p : Nat), p ≤ t.length → Iv t.length p (iv t g p)
  | 0, p, h => .last h
  | g + 1, p, h => by
    unfold iv
    cases q : fk t p with
    | none => exact .last h
    | some x =>
      obtain ⟨s, k, e⟩ := x
      obtain ⟨h1, h2, h3⟩ := fk_some q
      obtain ⟨h4, h5, h6⟩ := kend_spec (ke_spec h2)
      have := kS_len k
      exact .more h1 (by omega) (iv_Iv g _ (by omega))
theorem iv_len : ∀ (g p : Nat), (iv t g p).length ≤ g + 1
  | 0, p => by simp [iv]
  | g + 1, p => by
    unfold iv
    cases q : fk t p with
    | none => simp
    | some x =>
      obtain ⟨s, k, e⟩ := x
      have := iv_len g (e + (kL k).length)
      simp
      omega
theorem Iv.le {n p : Nat} {L : List (Nat × Nat)} (h : Iv n p L) : p ≤ n := by
  induction h with
  | last h => exact h
  | more h1 h2 h3 ih => omega
theorem spL_cons {x y : Nat} {L : List (Nat × Nat)} {q : Nat} : q ∈ spL ((x, y) :: L) ↔ (x ≤ q ∧ q < y) ∨ q ∈ spL L := by
  unfold spL
  rw [List.flatMap_cons, List.mem_append, List.mem_range'_1]
  constructor
  · rintro (h | h)
    · exact .inl (by omega)
    · exact .inr h
  · rintro (h | h)
    · exact .inl (by omega)
    · exact .inr h
theorem spL_nil {q : Nat} : ¬ q ∈ spL [] := by simp [spL]
theorem Iv.mem {n p : Nat} {L : List (Nat × Nat)} (h : Iv n p L) : ∀ q ∈ spL L, p ≤ q ∧ q < n := by
  induction h with
  | last h =>
    intro q hq
    rcases spL_cons.mp hq with z | z
    · exact z
    · exact absurd z spL_nil
  | @more p s e L h1 h2 h3 ih =>
    intro q hq
    have hn := h3.le
    rcases spL_cons.mp hq with z | z
    · omega
    · have := ih q z; omega
theorem Iv.sorted {n p : Nat} {L : List (Nat × Nat)} (h : Iv n p L) : (spL L).Pairwise (· < ·) := by
  induction h with
  | last h =>
    show (List.range' _ _ ++ []).Pairwise _
    rw [List.append_nil]
    exact List.pairwise_lt_range' 1
  | @more p s e L h1 h2 h3 ih =>
    show (List.range' _ _ ++ spL L).Pairwise _
    rw [List.pairwise_append]
    refine ⟨List.pairwise_lt_range' 1, ih, fun a ha b hb => ?_⟩
    rw [List.mem_range'_1] at ha
    have := h3.mem b hb
    dsimp only at ha
    omega
/-- where a mark stands whole in the plain -/
def Mt (t : List Nat) (S : List Nat) (w : List Nat) (q : Nat) : Prop := pre w t q = true ∧ ∀ k, k < w.length → q + k ∈ S
def foL (t w : List Nat) (a : Nat) : List (Nat × Nat) → Option Nat
  | [] => none
  | x :: L => match fnd w t (max x.1 a) x.2 with
    | some i => some i
    | none => foL t w a L
theorem foL_least {w : List Nat} (hw : w ≠ []) {p a : Nat} {L : List (Nat × Nat)} (h : Iv t.length p L) : Least (fun q => a ≤ q ∧ Mt t (spL L) w q) (foL t w a L) := by
  have w0 : 0 < w.length := by
    cases w with
    | nil => exact absurd rfl hw
    | cons _ _ => simp
  induction h with
  | @last p h =>
    have h1 := fnd_least w t (max p a) t.length
    show Least _ (match fnd w t (max p a) t.length with
      | some i => some i
      | none => none)
    cases e : fnd w t (max p a) t.length with
    | none =>
      rw [e] at h1
      rintro q ⟨hq, hp, hm⟩
      have hm0 := hm 0 w0
      rcases spL_cons.mp hm0 with z | z
      · exact h1 q ⟨by omega, pre_le hp hw, hp⟩
      · exact absurd z spL_nil
    | some i =>
      rw [e] at h1
      obtain ⟨⟨h2, h3, h4⟩, h5⟩ := h1
      refine ⟨⟨by omega, h4, fun k hk => spL_cons.mpr (.inl (by omega))⟩, ?_⟩
      rintro q hl ⟨hq, hp, hm⟩
      have hm0 := hm 0 w0
      rcases spL_cons.mp hm0 with z | z
      · exact h5 q hl ⟨by omega, pre_le hp hw, hp⟩
      · exact absurd z spL_nil
  | @more p s e L h1 h2 h3 ih =>
    have g1 := fnd_least w t (max p a) s
    have hn := h3.le
    -- a mark stands whole in the first stretch or in the others
    have key : ∀ q, a ≤ q ∧ Mt t (spL ((p, s) :: L)) w q ↔ (max p a ≤ q ∧ q + w.length ≤ s ∧ pre w t q = true) ∨ (a ≤ q ∧ Mt t (spL L) w q) := by
      intro q
      constructor
      · rintro ⟨hq, hp, hm⟩
        by_cases z : q < s
        · left
          have hm0 := hm 0 w0
          have hp0 : p ≤ q := by
            rcases spL_cons.mp hm0 with y | y
            · omega
            · have := h3.mem _ y; omega
          refine ⟨by omega, ?_, hp⟩
          by_cases y : q + w.length ≤ s
          · exact y
          · have := hm (s - q) (by omega)
            have e1 : q + (s - q) = s := by omega
            rw [e1] at this
            rcases spL_cons.mp this with x | x
            · omega
            · have := h3.mem _ x; omega
        · right
          refine ⟨hq, hp, fun k hk => ?_⟩
          rcases spL_cons.mp (hm k hk) with x | x
          · omega
          · exact x
      · rintro (⟨h4, h5, h6⟩ | ⟨h4, h5, h6⟩)
        · exact ⟨by omega, h6, fun k hk => spL_cons.mpr (.inl (by omega))⟩
        · exact ⟨h4, h5, fun k hk => spL_cons.mpr (.inr (h6 k hk))⟩
    show Least _ (match fnd w t (max p a) s with
      | some i => some i
      | none => foL t w a L)
    cases q : fnd w t (max p a) s with
    | some i =>
      rw [q] at g1
      refine ⟨(key i).mpr (.inl g1.1), fun r hr hm => ?_⟩
      rcases (key r).mp hm with z | z
      · exact g1.2 r hr z
      · have := (h3.mem _ (z.2.2 0 w0)).1
        have := g1.1.2.1
        omega
    | none =>
      rw [q] at g1
      dsimp only
      cases y : foL t w a L with
      | none =>
        rw [y] at ih
        intro r hm
        rcases (key r).mp hm with z | z
        · exact g1 r z
        · exact ih r z
      | some i =>
        rw [y] at ih
        refine ⟨(key i).mpr (.inr ih.1), fun r hr hm => ?_⟩
        rcases (key r).mp hm with z | z
        · exact g1 r z
        · exact ih.2 r hr z
end DL

set_option Elab.async false
set_option linter.all false
set_option maxRecDepth 100000
set_option maxHeartbeats 400000
namespace DL
open PySem PySem.Spec PyProof.Rows L2
/-! ### marks and stretches -/
def oS (k : Bool) : List Nat := if k = true then [60, 110, 111, 116, 62] else [60, 111, 110, 108, 121, 62]
def oC (k : Bool) : List Nat := if k = true then [60, 47, 110, 111, 116, 62] else [60, 47, 111, 110, 108, 121, 62]
def sgs : List (List Nat) := [oS false, oC false, oS true, oC true]
theorem oC_eq (k : Bool) : oC k = 60 :: 47 :: (oS k).tail := by cases k <;> rfl
theorem oC_len (k : Bool) : (oC k).length = (oS k).length + 1 := by cases k <;> rfl
theorem oS_ne (k : Bool) : oS k ≠ [] := by cases k <;> decide
theorem oC_ne (k : Bool) : oC k ≠ [] := by cases k <;> decide
theorem oS_mem (k : Bool) : oS k ∈ sgs := by cases k <;> decide
theorem oC_mem (k : Bool) : oC k ∈ sgs := by cases k <;> decide
theorem sgs_ne {w : List Nat} (h : w ∈ sgs) : 0 < w.length := by
  simp only [sgs, List.mem_cons, List.not_mem_nil, or_false] at h
  rcases h with rfl | rfl | rfl | rfl <;> decide
theorem sgs_nn {w : List Nat} (h : w ∈ sgs) : w ≠ [] := fun z => by have := sgs_ne h; rw [z] at this; simp at this
theorem excl {t : List Nat} {p : Nat} {a b : List Nat} (ha : a ∈ sgs) (hb : b ∈ sgs) (h1 : pre a t p = true) (h2 : pre b t p = true) : a = b := by
  have H : ∀ k, k < a.length → k < b.length → a[k]? = b[k]? := fun k x y => by rw [← pre_get h1 k x, ← pre_get h2 k y]
  clear h1 h2
  simp only [sgs, List.mem_cons, List.not_mem_nil, or_false] at ha hb
  rcases ha with rfl | rfl | rfl | rfl <;> rcases hb with rfl | rfl | rfl | rfl <;> first | rfl | exact absurd (H 1 (by decide) (by decide)) (by decide) | exact absurd (H 2 (by decide) (by decide)) (by decide)
section
variable (t S : List Nat)
def whole (p : Nat) (w : List Nat) : Bool := pre w t p && (List.range w.length).all fun k => decide (p + k ∈ S)
def marks : List (Nat × List Nat) := S.flatMap fun p => (sgs.filter (whole t S p)).map fun w => (p, w)
end
variable {t S : List Nat}
theorem whole_iff {p : Nat} {w : List Nat} : whole t S p w = true ↔ Mt t S w p := by
  unfold whole Mt
  simp
theorem mem_marks {p : Nat} {w : List Nat} : (p, w) ∈ marks t S ↔ w ∈ sgs ∧ Mt t S w p := by
  unfold marks
  rw [List.mem_flatMap]
  constructor
  · rintro ⟨q, hq, h⟩
    rw [List.mem_map] at h
    obtain ⟨v, hv, e⟩ := h
    cases e
    rw [List.mem_filter] at hv
    exact ⟨hv.1, whole_iff.mp hv.2⟩
  · rintro ⟨h1, h2⟩
    exact ⟨p, h2.2 0 (sgs_ne h1), List.mem_map.mpr ⟨w, List.mem_filter.mpr ⟨h1, whole_iff.mpr h2⟩, rfl⟩⟩
theorem marks_sorted (so : S.Pairwise (· < ·)) : (marks t S).Pairwise (fun a b => a.1 < b.1) := by
  unfold marks
  rw [List.pairwise_flatMap]
  refine ⟨fun p _ => ?_, ?_⟩
  · rw [List.pairwise_map]
    have n : (sgs.filter (whole t S p)).Pairwise (· ≠ ·) := List.Pairwise.filter _ (by decide : sgs.Pairwise (· ≠ ·))
    refine List.Pairwise.imp_of_mem ?_ n
    intro a b ha hb hne
    rw [List.mem_filter] at ha hb
    exact absurd (excl ha.1 hb.1 (whole_iff.mp ha.2).1 (whole_iff.mp hb.2).1) hne
  · refine List.Pairwise.imp ?_ so
    intro a b hab x hx y hy
    rw [List.mem_map] at hx hy
    obtain ⟨_, _, rfl⟩ := hx
    obtain ⟨_, _, rfl⟩ := hy
    exact hab
theorem find_first {M : List (Nat × List Nat)} (so : M.Pairwise (fun a b => a.1 < b.1)) (P : Nat × List Nat → Bool) : Least (fun q => ∃ w, (q, w) ∈ M ∧ P (q, w) = true) ((M.find? P).map (·.1)) := by
  induction M with
  | nil => rintro q ⟨w, h, _⟩; cases h
  | cons m M ih =>
    rw [List.pairwise_cons] at so
    by_cases h : P m = true
    · rw [List.find?_cons_of_pos h]
      refine ⟨⟨m.2, List.mem_cons_self, h⟩, ?_⟩
      rintro q hq ⟨w, hm, hp⟩
      rcases List.mem_cons.mp hm with e | e
      · have : q = m.1 := by rw [← e]
        simp only at hq
        omega
      · have := so.1 _ e
        simp only at this hq
        omega
    · rw [List.find?_cons_of_neg h]
      have ih := ih so.2
      cases e : M.find? P with
      | none =>
        rw [e] at ih
        rintro q ⟨w, hm, hp⟩
        rcases List.mem_cons.mp hm with z | z
        · rw [z] at hp; exact h hp
        · exact ih q ⟨w, z, hp⟩
      | some x =>
        rw [e] at ih
        obtain ⟨⟨w, h1, h2⟩, h3⟩ := ih
        refine ⟨⟨w, List.mem_cons_of_mem _ h1, h2⟩, ?_⟩
        rintro q hq ⟨v, hm, hp⟩
        rcases List.mem_cons.mp hm with z | z
        · rw [z] at hp; exact h hp
        · exact h3 q hq ⟨v, z, hp⟩
theorem mark_uniq {M : List (Nat × List Nat)} (so : M.Pairwise (fun a b => a.1 < b.1)) {p : Nat} {v w : List Nat} (h1 : (p, v) ∈ M) (h2 : (p, w) ∈ M) : v = w := by
  induction M with
  | nil => cases h1
  | cons m M ih =>
    rw [List.pairwise_cons] at so
    rcases List.mem_cons.mp h1 with e | e <;> rcases List.mem_cons.mp h2 with f | f
    · have := e.trans f.symm
      cases this
      rfl
    · have := so.1 _ f; rw [← e] at this; simp at this
    · have := so.1 _ e; rw [← f] at this; simp at this
    · exact ih so.2 e f
/-! the law's walk over the marks -/
section
variable (M : List (Nat × List Nat))
def ends (m : Nat × List Nat) : List Nat := (M.filter fun x => decide (m.1 < x.1) && decide (x.2 = 60 :: 47 :: m.2.tail)).map (·.1)
def good (a : Nat) (m : Nat × List Nat) : Bool := decide (a ≤ m.1) && (decide (m.2[1]? ≠ some 47) && !(ends M m).isEmpty)
def itm (m : Nat × List Nat) : List Nat × Nat × Nat := (m.2, m.1, (ends M m).headD 0)
def strL : List (Nat × List Nat) → Nat → List (List Nat × Nat × Nat)
  | [], _ => []
  | m :: R, a => if good M a m = true then itm M m :: strL R ((ends M m).headD 0 + m.2.length + 1) else strL R a
end
theorem ends_gt {M : List (Nat × List Nat)} {m : Nat × List Nat} {e : Nat} (h : e ∈ ends M m) : m.1 < e := by
  unfold ends at h
  rw [List.mem_map] at h
  obtain ⟨x, hx, rfl⟩ := h
  rw [List.mem_filter] at hx
  simp at hx
  exact hx.2.1
theorem good_end {M : List (Nat × List Nat)} {a : Nat} {m : Nat × List Nat} (h : good M a m = true) : a ≤ m.1 ∧ (ends M m).headD 0 ∈ ends M m := by
  unfold good at h
  simp at h
  refine ⟨h.1, ?_⟩
  cases e : ends M m with
  | nil => exact absurd e h.2.2
  | cons x xs => simp
theorem strL_find {M : List (Nat × List Nat)} : ∀ {R : List (Nat × List Nat)} {a : Nat}, R.Pairwise (fun a b => a.1 < b.1) →
    strL M R a = match R.find? (good M a) with
      | none => []
      | some m => itm M m :: strL M R ((ends M m).headD 0 + m.2.length + 1)
  | [], a, _ => rfl
  | m :: R, a, so => by
    rw [List.pairwise_cons] at so
    by_cases h : good M a m = true
    · rw [List.find?_cons_of_pos h]
      have h2 := ends_gt (good_end h).2
      show strL M (m :: R) a = itm M m :: strL M (m :: R) ((ends M m).headD 0 + m.2.length + 1)
      have e : strL M (m :: R) ((ends M m).headD 0 + m.2.length + 1) = strL M R ((ends M m).headD 0 + m.2.length + 1) := by
        rw [strL, if_neg]
        intro z
        have := (good_end z).1
        omega
      rw [e, strL, if_pos h]
    · rw [List.find?_cons_of_neg h]
      have e : strL M (m :: R) a = strL M R a := by rw [strL, if_neg h]
      rw [e, strL_find so.2]
      cases q : R.find? (good M a) with
      | none => rfl
      | some x =>
        dsimp only
        have hx := so.1 x (List.mem_of_find?_eq_some q)
        have hg : good M a x = true := List.find?_some q
        have h2 := ends_gt (good_end hg).2
        have e : strL M (m :: R) ((ends M x).headD 0 + x.2.length + 1) = strL M R ((ends M x).headD 0 + x.2.length + 1) := by
          rw [strL, if_neg]
          intro z
          have := (good_end z).1
          omega
        rw [e]
theorem ends_head {M : List (Nat × List Nat)} (so : M.Pairwise (fun a b => a.1 < b.1)) (m : Nat × List Nat) : Least (fun q => m.1 < q ∧ (q, 60 :: 47 :: m.2.tail) ∈ M) (ends M m).head? := by
  have h := find_first so (fun x => decide (m.1 < x.1) && decide (x.2 = 60 :: 47 :: m.2.tail))
  have e : (ends M m).head? = ((M.find? fun x => decide (m.1 < x.1) && decide (x.2 = 60 :: 47 :: m.2.tail))).map (·.1) := by
    unfold ends
    rw [List.head?_map, List.head?_filter]
  have g : ∀ q, (∃ w, (q, w) ∈ M ∧ (decide (m.1 < (q, w).1) && decide ((q, w).2 = 60 :: 47 :: m.2.tail)) = true) ↔ (m.1 < q ∧ (q, 60 :: 47 :: m.2.tail) ∈ M) := by
    intro q
    constructor
    · rintro ⟨w, h1, h2⟩
      simp at h2
      rw [h2.2] at h1
      exact ⟨h2.1, h1⟩
    · rintro ⟨h1, h2⟩
      exact ⟨_, h2, by simp [h1]⟩
  rw [e]
  cases q : ((M.find? fun x => decide (m.1 < x.1) && decide (x.2 = 60 :: 47 :: m.2.tail))).map (·.1) with
  | none =>
    rw [q] at h
    exact fun r hr => h r ((g r).mpr hr)
  | some s =>
    rw [q] at h
    exact ⟨(g s).mp h.1, fun r hl hr => h.2 r hl ((g r).mpr hr)⟩
/-! the program's choice -/
section
variable (t : List Nat) (L : List (Nat × Nat))
def cnd (k : Bool) (a : Nat) : Option (Nat × Nat) := match foL t (oS k) a L with
  | none => none
  | some s => match foL t (oC k) (s + (oS k).length) L with
    | none => none
    | some e => some (s, e)
def bst (a : Nat) : Option (Nat × Bool × Nat) := match cnd t L false a with
  | none => (match cnd t L true a with
    | none => none
    | some (s, e) => some (s, true, e))
  | some (s, e) => (match cnd t L true a with
    | none => some (s, false, e)
    | some (s2, e2) => if s2 < s then some (s2, true, e2) else some (s, false, e))
def strP : Nat → Nat → List (Nat × Bool × Nat)
  | 0, _ => []
  | f + 1, a => match bst t L a with
    | none => []
    | some (s, k, e) => (s, k, e) :: strP f (e + (oC k).length)
end
variable {L : List (Nat × Nat)} {p0 : Nat}
theorem no_over {k : Bool} {q r : Nat} (h1 : pre (oS k) t q = true) (h2 : pre (oC k) t r = true) (h : q < r) : q + (oS k).length ≤ r := by
  by_cases z : q + (oS k).length ≤ r
  · exact z
  · have e1 := pre_get h1 (r - q) (by omega)
    have e2 := pre_get h2 0 (by cases k <;> decide)
    have e3 : q + (r - q) = r + 0 := by omega
    rw [e3, e2] at e1
    generalize hj : r - q = j at e1
    have e4 : 1 ≤ j ∧ j < (oS k).length := by omega
    cases k with
    | false =>
      have : j = 1 ∨ j = 2 ∨ j = 3 ∨ j = 4 ∨ j = 5 := by have : (oS false).length = 6 := rfl; omega
      rcases this with rfl | rfl | rfl | rfl | rfl <;> exact absurd e1 (by decide)
    | true =>
      have : j = 1 ∨ j = 2 ∨ j = 3 ∨ j = 4 := by have : (oS true).length = 5 := rfl; omega
      rcases this with rfl | rfl | rfl | rfl <;> exact absurd e1 (by decide)
theorem foL_marks (h : Iv t.length p0 L) {w : List Nat} (hw : w ∈ sgs) {a : Nat} : Least (fun q => a ≤ q ∧ (q, w) ∈ marks t (spL L)) (foL t w a L) := by
  have g := foL_least (a := a) (sgs_nn hw) h
  have e : ∀ q, (a ≤ q ∧ Mt t (spL L) w q) ↔ (a ≤ q ∧ (q, w) ∈ marks t (spL L)) := fun q => by rw [mem_marks]; simp [hw]
  cases q : foL t w a L with
  | none => rw [q] at g; exact fun r hr => g r ((e r).mpr hr)
  | some s => rw [q] at g; exact ⟨(e s).mp g.1, fun r hl hr => g.2 r hl ((e r).mpr hr)⟩
theorem ends_eq (h : Iv t.length p0 L) {k : Bool} {s : Nat} (hs : (s, oS k) ∈ marks t (spL L)) : (ends (marks t (spL L)) (s, oS k)).head? = foL t (oC k) (s + (oS k).length) L := by
  refine (ends_head (marks_sorted h.sorted) (s, oS k)).uniq (foL_marks h (oC_mem k)) fun q => ?_
  show (s < q ∧ (q, 60 :: 47 :: (oS k).tail) ∈ _) ↔ _
  rw [← oC_eq]
  constructor
  · rintro ⟨h1, h2⟩
    exact ⟨no_over (mem_marks.mp hs).2.1 (mem_marks.mp h2).2.1 h1, h2⟩
  · rintro ⟨h1, h2⟩
    refine ⟨?_, h2⟩
    have := sgs_ne (oS_mem k)
    omega
theorem good_iff {M : List (Nat × List Nat)} {a : Nat} {k : Bool} {s : Nat} : good M a (s, oS k) = true ↔ a ≤ s ∧ (ends M (s, oS k)).head? ≠ none := by
  have e : decide ((oS k)[1]? ≠ some 47) = true := by cases k <;> decide
  unfold good
  show (decide (a ≤ s) && (decide ((oS k)[1]? ≠ some 47) && !(ends M (s, oS k)).isEmpty)) = true ↔ _
  rw [e]
  cases ends M (s, oS k) <;> simp
theorem good_sign {a : Nat} {m : Nat × List Nat} (hm : m ∈ marks t S) (h : good (marks t S) a m = true) : ∃ k, m = (m.1, oS k) := by
  have hw := (mem_marks (p := m.1) (w := m.2)).mp hm
  have h1 : m.2[1]? ≠ some 47 := by unfold good at h; simp at h; simpa using h.2.1
  have := hw.1
  simp only [sgs, List.mem_cons, List.not_mem_nil, or_false] at this
  obtain ⟨p, w⟩ := m
  simp only at this h1 ⊢
  rcases this with rfl | rfl | rfl | rfl
  · exact ⟨false, rfl⟩
  · exact absurd rfl h1
  · exact ⟨true, rfl⟩
  · exact absurd rfl h1
theorem cnd_none (h : Iv t.length p0 L) {k : Bool} {a : Nat} (e : cnd t L k a = none) : ∀ q, (q, oS k) ∈ marks t (spL L) → ¬ good (marks t (spL L)) a (q, oS k) = true := by
  intro q hq hg
  obtain ⟨g1, g2⟩ := good_iff.mp hg
  have l := foL_marks (a := a) h (oS_mem k)
  unfold cnd at e
  cases e1 : foL t (oS k) a L with
  | none => rw [e1] at l; exact l q ⟨g1, hq⟩
  | some s =>
    rw [e1] at l e
    dsimp only at e
    have hs : s ≤ q := by
      by_cases z : q < s
      · exact absurd ⟨g1, hq⟩ (l.2 q z)
      · omega
    cases e2 : foL t (oC k) (s + (oS k).length) L with
    | some r => rw [e2] at e; cases e
    | none =>
      have l2 := foL_marks (a := s + (oS k).length) h (oC_mem k)
      rw [e2] at l2
      rw [ends_eq h hq] at g2
      have l3 := foL_marks (a := q + (oS k).length) h (oC_mem k)
      cases e3 : foL t (oC k) (q + (oS k).length) L with
      | none => exact g2 e3
      | some r => rw [e3] at l3; exact l2 r ⟨by have := l3.1.1; omega, l3.1.2⟩
theorem cnd_some (h : Iv t.length p0 L) {k : Bool} {a s e : Nat} (q : cnd t L k a = some (s, e)) : (s, oS k) ∈ marks t (spL L) ∧ good (marks t (spL L)) a (s, oS k) = true ∧ (ends (marks t (spL L)) (s, oS k)).head? = some e ∧
    (∀ r, r < s → (r, oS k) ∈ marks t (spL L) → ¬ good (marks t (spL L)) a (r, oS k) = true) ∧ e + (oC k).length ≤ t.length := by
  have l := foL_marks (a := a) h (oS_mem k)
  unfold cnd at q
  cases e1 : foL t (oS k) a L with
  | none => rw [e1] at q; cases q
  | some s1 =>
    rw [e1] at l q
    dsimp only at q
    have l2 := foL_marks (a := s1 + (oS k).length) h (oC_mem k)
    cases e2 : foL t (oC k) (s1 + (oS k).length) L with
    | none => rw [e2] at q; cases q
    | some r =>
      rw [e2] at q l2
      cases q
      have hh := (ends_eq h l.1.2).trans e2
      refine ⟨l.1.2, good_iff.mpr ⟨l.1.1, by rw [hh]; simp⟩, hh, fun r hr hm hg => l.2 r hr ⟨(good_iff.mp hg).1, hm⟩, ?_⟩
      exact pre_le (mem_marks.mp l2.1.2).2.1 (oC_ne k)
theorem bst_none (h : Iv t.length p0 L) {a : Nat} (e : bst t L a = none) : ∀ m ∈ marks t (spL L), ¬ good (marks t (spL L)) a m = true := by
  intro m hm hg
  obtain ⟨k, ek⟩ := good_sign hm hg
  rw [ek] at hm hg
  unfold bst at e
  cases e1 : cnd t L false a with
  | some x =>
    rw [e1] at e
    cases e2 : cnd t L true a with
    | none => rw [e2] at e; cases e
    | some y => rw [e2] at e; dsimp only at e; split at e <;> cases e
  | none =>
    rw [e1] at e
    cases e2 : cnd t L true a with
    | some y => rw [e2] at e; cases e
    | none =>
      cases k with
      | false => exact cnd_none h e1 _ hm hg
      | true => exact cnd_none h e2 _ hm hg
theorem bst_some (h : Iv t.length p0 L) {a s e : Nat} {k : Bool} (q : bst t L a = some (s, k, e)) : (marks t (spL L)).find? (good (marks t (spL L)) a) = some (s, oS k) ∧ (ends (marks t (spL L)) (s, oS k)).head? = some e ∧ a ≤ s ∧ e + (oC k).length ≤ t.length := by
  have key : (s, oS k) ∈ marks t (spL L) ∧ good (marks t (spL L)) a (s, oS k) = true ∧ (ends (marks t (spL L)) (s, oS k)).head? = some e ∧ (∀ r, r < s → ∀ j, (r, oS j) ∈ marks t (spL L) → ¬ good (marks t (spL L)) a (r, oS j) = true) ∧ e + (oC k).length ≤ t.length := by
    unfold bst at q
    cases e1 : cnd t L false a with
    | none =>
      rw [e1] at q
      cases e2 : cnd t L true a with
      | none => rw [e2] at q; cases q
      | some y =>
        rw [e2] at q
        cases q
        obtain ⟨h1, h2, h3, h4, h5⟩ := cnd_some h e2
        refine ⟨h1, h2, h3, fun r hr j => ?_, h5⟩
        cases j with
        | false => exact cnd_none h e1 r
        | true => exact h4 r hr
    | some x =>
      rw [e1] at q
      obtain ⟨g1, g2, g3, g4, g5⟩ := cnd_some h e1
      cases e2 : cnd t L true a with
      | none =>
        rw [e2] at q
        cases q
        refine ⟨g1, g2, g3, fun r hr j => ?_, g5⟩
        cases j with
        | false => exact g4 r hr
        | true => exact cnd_none h e2 r
      | some y =>
        rw [e2] at q
        dsimp only at q
        obtain ⟨h1, h2, h3, h4, h5⟩ := cnd_some h e2
        by_cases z : y.1 < x.1
        · rw [if_pos z] at q
          cases q
          refine ⟨h1, h2, h3, fun r hr j => ?_, h5⟩
          cases j with
          | false => exact g4 r (by omega)
          | true => exact h4 r hr
        · rw [if_neg z] at q
          cases q
          refine ⟨g1, g2, g3, fun r hr j => ?_, g5⟩
          cases j with
          | false => exact g4 r hr
          | true => exact h4 r (by omega)
  obtain ⟨h1, h2, h3, h4, h5⟩ := key
  refine ⟨?_, h3, (good_iff.mp h2).1, h5⟩
  have so := marks_sorted (t := t) h.sorted
  have l := find_first so (good (marks t (spL L)) a)
  cases z : (marks t (spL L)).find? (good (marks t (spL L)) a) with
  | none =>
    rw [z] at l
    exact absurd ⟨_, h1, h2⟩ (l s)
  | some m =>
    rw [z] at l
    have hm := List.mem_of_find?_eq_some z
    have hg : good (marks t (spL L)) a m = true := List.find?_some z
    obtain ⟨j, ej⟩ := good_sign hm hg
    have e1 : ¬ m.1 < s := fun y => h4 m.1 y j (by rw [← ej]; exact hm) (by rw [← ej]; exact hg)
    have e2 : ¬ s < m.1 := fun y => l.2 s y ⟨_, h1, h2⟩
    have e3 : m.1 = s := by omega
    rw [e3] at ej
    rw [ej] at hm ⊢
    rw [mark_uniq so hm h1]
theorem strP_eq (h : Iv t.length p0 L) : ∀ (f a : Nat), t.length < a + f → strL (marks t (spL L)) (marks t (spL L)) a = (strP t L f a).map fun x => (oS x.2.1, x.1, x.2.2)
  | 0, a, hf => by
    have so := marks_sorted (t := t) h.sorted
    have e : (marks t (spL L)).find? (good (marks t (spL L)) a) = none := by
      rw [List.find?_eq_none]
      intro m hm hg
      have h1 := (good_end hg).1
      have h2 := (mem_marks (p := m.1) (w := m.2)).mp hm
      have := pre_le h2.2.1 (sgs_nn h2.1)
      omega
    rw [strL_find so, e]
    rfl
  | f + 1, a, hf => by
    have so := marks_sorted (t := t) h.sorted
    rw [strL_find so]
    unfold strP
    cases q : bst t L a with
    | none =>
      have e : (marks t (spL L)).find? (good (marks t (spL L)) a) = none := by
        rw [List.find?_eq_none]
        exact bst_none h q
      rw [e]
      rfl
    | some x =>
      obtain ⟨s, k, e⟩ := x
      obtain ⟨h1, h2, h3, h4⟩ := bst_some h q
      rw [h1]
      have e2 : (ends (marks t (spL L)) (s, oS k)).headD 0 = e := by rw [List.headD_eq_head?_getD, h2]; rfl
      have e5 : s < e := by
        have : e ∈ ends (marks t (spL L)) (s, oS k) := List.mem_of_mem_head? (by rw [h2]; rfl)
        exact ends_gt this
      have e3 : e + (oS k).length + 1 = e + (oC k).length := by rw [oC_len]; omega
      show itm _ (s, oS k) :: strL _ _ ((ends (marks t (spL L)) (s, oS k)).headD 0 + (oS k).length + 1) = _
      unfold itm
      rw [e2, e3, strP_eq h f (e + (oC k).length) (by omega)]
      rfl
theorem strP_len : ∀ (f a : Nat), (strP t L f a).length ≤ f
  | 0, a => by simp [strP]
  | f + 1, a => by
    unfold strP
    cases bst t L a with
    | none => simp
    | some x => simp; exact strP_len f _
end DL

set_option Elab.async false
set_option linter.all false
set_option maxRecDepth 100000
set_option maxHeartbeats 400000
namespace DL
open PySem PySem.Spec PyProof.Rows L2
/-! ### whatever the places of new objects -/
/-- goes on, Q of the slots -/
def Eve (Q : Rho → Prop) : SO → Prop
  | .any f => ∀ a, Eve Q (f a)
  | .nx ρ => Q ρ
  | _ => False
/-- hands back r -/
def EvR (r : D) : SO → Prop
  | .any f => ∀ a, EvR r (f a)
  | .ret d _ => d = r
  | _ => False
theorem Eve.turn {Q Q' : Rho → Prop} {k : MS} (h : ∀ ρ, Q ρ → Eve Q' (k ρ)) : ∀ {s : SO}, Eve Q s → Eve Q' (s.turn k)
  | .any f, q => fun a => Eve.turn h (q a)
  | .nx ρ, q => h ρ q
  | .ret _ _, q => q.elim
  | .brk _, q => q.elim
  | .ct _, q => q.elim
  | .exn _ _ _, q => q.elim
  | .bad, q => q.elim
theorem Eve.then {Q Q' : Rho → Prop} {k : MS} (h : ∀ ρ, Q ρ → Eve Q' (k ρ)) : ∀ {s : SO}, Eve Q s → Eve Q' (s.then k)
  | .any f, q => fun a => Eve.then h (q a)
  | .nx ρ, q => h ρ q
  | .ret _ _, q => q.elim
  | .brk _, q => q.elim
  | .ct _, q => q.elim
  | .exn _ _ _, q => q.elim
  | .bad, q => q.elim
theorem Eve.thenR {Q : Rho → Prop} {r : D} {k : MS} (h : ∀ ρ, Q ρ → EvR r (k ρ)) : ∀ {s : SO}, Eve Q s → EvR r (s.then k)
  | .any f, q => fun a => Eve.thenR h (q a)
  | .nx ρ, q => h ρ q
  | .ret _ _, q => q.elim
  | .brk _, q => q.elim
  | .ct _, q => q.elim
  | .exn _ _ _, q => q.elim
  | .bad, q => q.elim
theorem eve_seq {Q Q' : Rho → Prop} {a b : MS} {ρ : Rho} (h1 : Eve Q (a ρ)) (h2 : ∀ ρ, Q ρ → Eve Q' (b ρ)) : Eve Q' (sSeq a b ρ) := Eve.then h2 h1
theorem evr_seq {Q : Rho → Prop} {r : D} {a b : MS} {ρ : Rho} (h1 : Eve Q (a ρ)) (h2 : ∀ ρ, Q ρ → EvR r (b ρ)) : EvR r (sSeq a b ρ) := Eve.thenR h2 h1
theorem eve_nx {Q : Rho → Prop} {s : SO} {ρ : Rho} (h : s = .nx ρ) (q : Q ρ) : Eve Q s := h ▸ q
theorem evr_ret {r : D} {s : SO} {ρ : Rho} (h : s = .ret r ρ) : EvR r s := h ▸ rfl
theorem eve_for {Q : Rho → Prop} {t : D → Rho → R Rho} {b : MS} : ∀ {ds : List D} {ρ : Rho}, (∀ ρ, Q ρ → ∀ d ∈ ds, ∃ ρ1, t d ρ = .ok ρ1 ∧ Eve Q (b ρ1)) → Q ρ → Eve Q (forLoop t b ds ρ)
  | [], ρ, _, q => q
  | d :: ds, ρ, h, q => by
    obtain ⟨ρ1, h1, h2⟩ := h ρ q d List.mem_cons_self
    show Eve Q (match t d ρ with
      | .bad => SO.bad
      | .ok ρ1 => (b ρ1).turn (forLoop t b ds))
    rw [h1]
    exact Eve.turn (fun ρ2 q2 => eve_for (fun ρ q d hd => h ρ q d (List.mem_cons_of_mem _ hd)) q2) h2
theorem evr_fo {r : D} : ∀ {s : SO}, EvR r s → (s.fo [] .cl).flat = .ok r []
  | .any f, h => FO.flat_any fun a => evr_fo (h a)
  | .ret d ρ, h => by
    have e : d = r := h
    subst e
    rfl
  | .nx _, h => h.elim
  | .brk _, h => h.elim
  | .ct _, h => h.elim
  | .exn _ _ _, h => h.elim
  | .bad, h => h.elim
theorem fw_evr {N : Nat} {mm : MS} {ρ0 : Rho} {ds : List D} {r : D} (h0 : startR N [] ds = ρ0) (h : EvR r (mm ρ0)) : flatFn (runFn N [] .cl mm) ds = .ok r [] := by
  unfold flatFn runFn
  rw [h0]
  exact evr_fo h
section
variable {ρ ρ1 ρ2 : Rho} {ma mb : M D} {b1 : M Bool} {c : Str} {v : D}
theorem ex_ifT (hc : b1 ρ = .ok true ρ1) (h : ma ρ1 = .exn c v ρ2) : eIf b1 ma mb ρ = .exn c v ρ2 := by
  unfold eIf M.bind
  rw [hc]
  exact h
theorem ex_ifF (hc : b1 ρ = .ok false ρ1) (h : mb ρ1 = .exn c v ρ2) : eIf b1 ma mb ρ = .exn c v ρ2 := by
  unfold eIf M.bind
  rw [hc]
  exact h
theorem ex_callK {fn : Fn} {is : List Nat} {outs ds : List D} {m : M (List D)} (h : m ρ = .ok ds ρ1) (hf : fn (permL is ds) = .exn c v outs) : eCallK fn is m ρ = .exn c v ρ1 := by
  unfold eCallK
  refine ex_call (ds := permL is ds) ?_ hf
  unfold M.bind
  rw [h]
  rfl
theorem ex_cons {m : M (List D)} (h : ma ρ = .exn c v ρ1) : aCons ma m ρ = .exn c v ρ1 := by
  unfold aCons M.bind
  rw [h]
theorem ex_cons2 {m : M (List D)} {d : D} (h : ma ρ = .ok d ρ1) (h2 : m ρ1 = .exn c v ρ2) : aCons ma m ρ = .exn c v ρ2 := by
  unfold aCons M.bind
  rw [h]
  dsimp only
  rw [h2]
theorem ex_N {op : List D → R D} {m : M (List D)} (h : m ρ = .exn c v ρ1) : eN op m ρ = .exn c v ρ1 := by
  unfold eN M.bind
  rw [h]
end
end DL

set_option Elab.async false
set_option linter.all false
set_option maxRecDepth 100000
set_option maxHeartbeats 400000
namespace DL
open PySem PySem.Spec PyProof.Rows L2
/-! ### steps as equations, for simp only -/
section
variable {α β : Type}
def Out.bnd (o : Out α) (f : α → M β) : Out β := match o with
  | .ok a r => f a r
  | .exn c v r => .exn c v r
  | .bad => .bad
def Out.so (o : Out α) (k : α → MS) : SO := match o with
  | .ok a r => k a r
  | .exn c v r => .exn c v r
  | .bad => .bad
def R.bnd (x : R α) (f : α → M β) (r : Rho) : Out β := match x with
  | .ok a => f a r
  | .bad => .bad
theorem bnd_ok {a : α} {r : Rho} {f : α → M β} : (Out.ok a r).bnd f = f a r := rfl
theorem bnd_exn {c : Str} {v : D} {r : Rho} {f : α → M β} : (Out.exn c v r : Out α).bnd f = .exn c v r := rfl
theorem so_ok {a : α} {r : Rho} {f : α → MS} : (Out.ok a r).so f = f a r := rfl
theorem so_exn {c : Str} {v : D} {r : Rho} {f : α → MS} : (Out.exn c v r : Out α).so f = .exn c v r := rfl
theorem rb_ok {a : α} {f : α → M β} {r : Rho} : (R.ok a).bnd f r = f a r := rfl
end
section
variable {ρ r : Rho} {a b c : M D} {m : M (List D)} {p q : M Bool} {x y : D} {xs ds : List D} {s t : MS} {i j : Nat} {k : Bool}
def gVar (x : Option Sl) (ρ : Rho) : Out D := match x with
  | some (.cl d) => .ok d ρ
  | _ => .bad
def gOwn (x : Option Sl) (ρ : Rho) : Out D := match x with
  | some (.cl d) => .ok d ρ
  | some (.ow d) => .ok d ρ
  | _ => .bad
theorem e_var : eVar i ρ = gVar ρ[i]? ρ := rfl
theorem e_own : eOwn i ρ = gOwn ρ[i]? ρ := rfl
theorem g_var {d : D} : gVar (some (.cl d)) ρ = .ok d ρ := rfl
theorem g_own1 {d : D} : gOwn (some (.cl d)) ρ = .ok d ρ := rfl
theorem g_own2 {d : D} : gOwn (some (.ow d)) ρ = .ok d ρ := rfl
theorem e_c : eC x ρ = .ok x ρ := rfl
theorem e_2 {op : D → D → R D} : e2 op a b ρ = (a ρ).bnd fun x => fun ρ => (b ρ).bnd fun y => fun ρ => (op x y).bnd (fun z => fun ρ => Out.ok z ρ) ρ := rfl
theorem e_1 {op : D → R D} : e1 op a ρ = (a ρ).bnd fun x => fun ρ => (op x).bnd (fun z => fun ρ => Out.ok z ρ) ρ := rfl
theorem e_N {op : List D → R D} : eN op m ρ = (m ρ).bnd fun x => fun ρ => (op x).bnd (fun z => fun ρ => Out.ok z ρ) ρ := rfl
theorem e_nil : aNil ρ = .ok [] ρ := rfl
theorem e_cons : aCons a m ρ = (a ρ).bnd fun x => fun ρ => (m ρ).bnd fun xs => fun ρ => Out.ok (x :: xs) ρ := rfl
def foOut (o : FO) (ρ : Rho) : Out D := match o with
  | .ok d _ => .ok d ρ
  | .exn c v _ => .exn c v ρ
  | _ => .bad
theorem e_call {fn : Fn} : eCall fn m ρ = (m ρ).bnd fun ds => fun ρ => foOut (fn ds) ρ := by
  unfold eCall M.bind Out.bnd
  cases m ρ with
  | ok ds r => dsimp only; cases fn ds <;> rfl
  | exn c v r => rfl
  | bad => rfl
theorem fo_ok {outs : List D} : foOut (.ok x outs) ρ = .ok x ρ := rfl
theorem fo_exn {outs : List D} {c : Str} : foOut (.exn c x outs) ρ = .exn c x ρ := rfl
theorem e_callD {fn : Fn} : eCallD fn ds m ρ = (m ρ).bnd fun xs => fun ρ => foOut (fn (xs ++ ds)) ρ := by
  unfold eCallD
  rw [e_call]
  unfold M.bind M.pure Out.bnd
  cases m ρ <;> rfl
theorem e_callK {fn : Fn} {is : List Nat} : eCallK fn is m ρ = (m ρ).bnd fun xs => fun ρ => foOut (fn (permL is xs)) ρ := by
  unfold eCallK
  rw [e_call]
  unfold M.bind M.pure Out.bnd
  cases m ρ <;> rfl
def ownArg (fn : Fn) (s : Nat) (x : Option Sl) (ds : List D) (ρ : Rho) : Out D := match x with
  | some (.ow d) => (match fn (d :: ds) with
    | .ok e [d'] => .ok e (ρ.set s (.ow d'))
    | .exn c v [d'] => .exn c v (ρ.set s (.ow d'))
    | _ => .bad)
  | _ => .bad
theorem e_if : eIf p a b ρ = (p ρ).bnd fun k => fun ρ => (if k = true then a else b) ρ := rfl
theorem e_and : eAnd a b ρ = (a ρ).bnd fun x => fun ρ => (truth x).bnd (fun k => fun ρ => (if k = true then b else M.pure x) ρ) ρ := by
  unfold eAnd M.bind M.lift Out.bnd R.bnd
  cases a ρ with
  | ok x r => first | (dsimp only; done) | (dsimp only; cases truth x <;> rfl)
  | exn c v r => rfl
  | bad => rfl
theorem e_or : eOr a b ρ = (a ρ).bnd fun x => fun ρ => (truth x).bnd (fun k => fun ρ => (if k = true then M.pure x else b) ρ) ρ := by
  unfold eOr M.bind M.lift Out.bnd R.bnd
  cases a ρ with
  | ok x r => first | (dsimp only; done) | (dsimp only; cases truth x <;> rfl)
  | exn c v r => rfl
  | bad => rfl
theorem e_not : eNot a ρ = (a ρ).bnd fun x => fun ρ => (truth x).bnd (fun k => fun ρ => Out.ok (.bl (!k)) ρ) ρ := by
  unfold eNot M.bind M.lift Out.bnd R.bnd
  cases a ρ with
  | ok x r => first | (dsimp only; done) | (dsimp only; cases truth x <;> rfl)
  | exn c v r => rfl
  | bad => rfl
theorem e_pure {α : Type} {v : α} : M.pure v ρ = .ok v ρ := rfl
theorem e_of : bOf a ρ = (a ρ).bnd fun x => fun ρ => (isBl x).bnd (fun k => fun ρ => Out.ok k ρ) ρ := by
  unfold bOf M.bind M.lift Out.bnd R.bnd
  cases a ρ with
  | ok x r => first | (dsimp only; done) | (dsimp only; cases isBl x <;> rfl)
  | exn c v r => rfl
  | bad => rfl
theorem e_tr : bTr a ρ = (a ρ).bnd fun x => fun ρ => (truth x).bnd (fun k => fun ρ => Out.ok k ρ) ρ := by
  unfold bTr M.bind M.lift Out.bnd R.bnd
  cases a ρ with
  | ok x r => first | (dsimp only; done) | (dsimp only; cases truth x <;> rfl)
  | exn c v r => rfl
  | bad => rfl
theorem e_bnot : bNot p ρ = (p ρ).bnd fun k => fun ρ => Out.ok (!k) ρ := rfl
theorem e_band : bAnd p q ρ = (p ρ).bnd fun k => fun ρ => (if k = true then q else M.pure false) ρ := rfl
theorem e_bor : bOr p q ρ = (p ρ).bnd fun k => fun ρ => (if k = true then M.pure true else q) ρ := rfl
theorem e_chain {o1 o2 : D → D → R D} : eChain o1 o2 a b c ρ = (a ρ).bnd fun x => fun ρ => (b ρ).bnd fun y => fun ρ => (o1 x y).bnd (fun z => fun ρ => (isBl z).bnd (fun k => fun ρ => (if k = true then (c.bind fun w => M.lift (o2 y w)) else M.pure (.bl false)) ρ) ρ) ρ := by
  unfold eChain M.bind M.lift Out.bnd R.bnd
  cases a ρ with
  | ok x r =>
    dsimp only
    cases b r with
    | ok y r2 => dsimp only; cases o1 x y with
      | ok z => dsimp only; cases isBl z <;> rfl
      | bad => rfl
    | exn c v r => rfl
    | bad => rfl
  | exn c v r => rfl
  | bad => rfl
theorem e_bind {α β : Type} {u : M α} {f : α → M β} : M.bind u f ρ = (u ρ).bnd f := rfl
theorem e_lift {α : Type} {z : R α} : M.lift z ρ = z.bnd (fun v => fun ρ => Out.ok v ρ) ρ := by cases z <;> rfl
theorem i_bl : isBl (.bl k) = .ok k := rfl
theorem t_bl : truth (.bl k) = .ok k := rfl
theorem e_MT {T : Ty} {op : D → List D → R D} : eMT T op a m ρ = (a ρ).bnd fun x => fun ρ => (if isT T x = true then (m.bind fun xs => M.lift (op x xs)) ρ else .bad) := by
  unfold eMT M.bind Out.bnd mGuard
  cases a ρ with
  | ok x r => dsimp only; cases isT T x <;> rfl
  | exn c v r => rfl
  | bad => rfl
theorem e_cut {lo hi : M (Option Int)} : eCut a lo hi ρ = (a ρ).bnd fun x => fun ρ => (lo ρ).bnd fun l => fun ρ => (hi ρ).bnd fun h => fun ρ => (cutD x l h).bnd (fun z => fun ρ => Out.ok z ρ) ρ := rfl
theorem e_pno : pNo ρ = .ok none ρ := rfl
theorem e_pat : pAt a ρ = (a ρ).bnd fun x => fun ρ => (toPart x).bnd (fun z => fun ρ => Out.ok z ρ) ρ := rfl
theorem p_int {n : Int} : toPart (.int n) = .ok (some n) := rfl
theorem i_seq : iSeq a ρ = (a ρ).bnd fun x => fun ρ => (items x).bnd (fun z => fun ρ => Out.ok z ρ) ρ := rfl
theorem i_range : iRange m ρ = (m ρ).bnd fun x => fun ρ => (toRange x).bnd (fun z => fun ρ => Out.ok z ρ) ρ := rfl
theorem i_zip : iZip m ρ = (m ρ).bnd fun x => fun ρ => (zipD x).bnd (fun z => fun ρ => Out.ok z ρ) ρ := rfl
/-! statements -/
theorem s_seq : sSeq s t ρ = (s ρ).then t := rfl
theorem th_nx : (SO.nx ρ).then t = t ρ := rfl
theorem th_ret : (SO.ret x ρ).then t = .ret x ρ := rfl
theorem th_exn {c : Str} : (SO.exn c x ρ).then t = .exn c x ρ := rfl
theorem th_brk : (SO.brk ρ).then t = .brk ρ := rfl
theorem th_ct : (SO.ct ρ).then t = .ct ρ := rfl
theorem s_asg : sAsg a (tgName i) ρ = (a ρ).so fun d => fun ρ => .nx (ρ.set i (.cl d)) := rfl
theorem s_asgO : sAsgO i a ρ = (a ρ).so fun d => fun ρ => .nx (ρ.set i (.ow d)) := rfl
theorem s_asgT {u : D → Rho → R Rho} : sAsg a u ρ = (a ρ).so fun d => fun ρ => sTo u d ρ := rfl
theorem s_ret : sRet a ρ = (a ρ).so fun d => fun ρ => .ret d ρ := rfl
theorem s_retN : sRetN ρ = .ret .non ρ := rfl
theorem s_drop : sDrop a ρ = (a ρ).so fun _ => fun ρ => .nx ρ := rfl
theorem s_if : sIf p s t ρ = (p ρ).so fun k => fun ρ => (if k = true then s else t) ρ := rfl
theorem s_next : sNext ρ = .nx ρ := rfl
theorem s_brk : sBrk ρ = .brk ρ := rfl
theorem s_ct : sCt ρ = .ct ρ := rfl
theorem s_raise {c : Str} : sRaise c a ρ = (a ρ).so fun d => fun ρ => .exn c d ρ := rfl
theorem s_par : sPar i j m ρ = (m ρ).so fun ds => fun ρ => (match ds with
  | [a, b] => .nx ((ρ.set i (.cl a)).set j (.cl b))
  | _ => .bad) := by
  unfold sPar sDo Out.so
  cases m ρ with
  | ok ds r => match ds with
    | [_, _] => rfl
    | [] => rfl
    | [_] => rfl
    | _ :: _ :: _ :: _ => rfl
  | exn c v r => rfl
  | bad => rfl
theorem tt_if {α : Type} {u v : α} : (if true = true then u else v) = u := rfl
theorem ff_if {α : Type} {u v : α} : (if false = true then u else v) = v := rfl
theorem run_eq {N : Nat} {mask : List Nat} {rk : Rk} {mm : MS} : runFn N mask rk mm ds = (mm (startR N mask ds)).fo mask rk := rfl
def foOwn (o : FO) (s : Nat) (ρ : Rho) : Out D := match o with
  | .ok r [d'] => .ok r (ρ.set s (.ow d'))
  | .exn c x [d'] => .exn c x (ρ.set s (.ow d'))
  | _ => .bad
def inOwn (fn : Fn) (n : Nat) (x : Option Sl) (ds : List D) (ρ : Rho) : Out D := match x with
  | some (.ow d) => foOwn (fn (d :: ds)) n ρ
  | _ => .bad
def isOwn (x : Option Sl) (o : Out D) : Out D := match x with
  | some (.ow _) => o
  | _ => .bad
theorem e_callO {fn : Fn} {n : Nat} : eCallO fn n m ρ = isOwn ρ[n]? ((m ρ).bnd fun ds => fun ρ => inOwn fn n ρ[n]? ds ρ) := by
  unfold eCallO isOwn
  match ρ[n]? with
  | some (.ow d) =>
    dsimp only
    unfold Out.bnd
    cases m ρ with
    | ok ds r =>
      dsimp only
      unfold inOwn
      match r[n]? with
      | some (.ow d) => rfl
      | some (.cl d) => rfl
      | some .no => rfl
      | none => rfl
    | exn c v r => rfl
    | bad => rfl
  | some (.cl d) => rfl
  | some .no => rfl
  | none => rfl
theorem ow_is {o : Out D} : isOwn (some (.ow x)) o = o := rfl
theorem ow_in {fn : Fn} {n : Nat} : inOwn fn n (some (.ow x)) ds ρ = foOwn (fn (x :: ds)) n ρ := rfl
theorem ow_ok {n : Nat} : foOwn (.ok x [y]) n ρ = .ok x (ρ.set n (.ow y)) := rfl
theorem fo_ret {rk : Rk} : (SO.ret x ρ).fo [] rk = .ok x [] := rfl
theorem fo_ret0 {rk : Rk} : (SO.ret x (.ow y :: ρ)).fo [0] rk = .ok x [y] := rfl
theorem fo_ex {rk : Rk} {c : Str} : (SO.exn c x ρ).fo [] rk = .exn c x [] := rfl
theorem run_of {N : Nat} {mask : List Nat} {rk : Rk} {mm : MS} {ρ0 : Rho} (h : startR N mask ds = ρ0) : runFn N mask rk mm ds = (mm ρ0).fo mask rk := by rw [run_eq, h]
theorem par_2 {v w : D} : (match [v, w] with
  | [a, b] => SO.nx ((ρ.set i (.cl a)).set j (.cl b))
  | _ => SO.bad) = .nx ((ρ.set i (.cl v)).set j (.cl w)) := rfl
theorem fo_nx {rk : Rk} (h : rk = .cl := by rfl) : (SO.nx ρ).fo [] rk = .ok .non [] := by subst h; rfl
theorem ix_l {k : Int} {n : Nat} {d : D} (e : k = (n : Int)) (h : xs[n]? = some d) : opIx (.lst xs) (.int k) = .ok d := by
  subst e
  exact ix_lst (Int.natCast_nonneg n) (by simpa using h)
theorem ix_end {d : D} (h : xs.getLast? = some d) : opIx (.lst xs) (.int (-1)) = .ok d := by
  have h2 : xs[xs.length - 1]? = some d := by rw [← List.getLast?_eq_getElem?]; exact h
  have hp : 0 < xs.length := by
    cases xs with
    | nil => cases h
    | cons _ _ => simp
  have e : ixN xs.length (-1) = some (xs.length - 1) := by
    unfold ixN
    simp
    omega
  have e2 : atI xs (-1) = some d := by
    unfold atI
    rw [e]
    exact h2
  show (match atI xs (-1) with
    | some d => R.ok d
    | none => .bad) = _
  rw [e2]
theorem bls_t {α : Type} : ∀ xs : List α, dBls (xs.map fun _ => D.bl true) = some (xs.map fun _ => true)
  | [] => rfl
  | x :: xs => by
    rw [List.map_cons, List.map_cons]
    unfold dBls
    rw [bls_t xs]
    rfl
theorem all_t {α : Type} {xs : List α} : opAll [.lst (xs.map fun _ => D.bl true)] = .ok (.bl true) := by
  show (match dBls (xs.map fun _ => D.bl true) with
    | some is => R.ok (D.bl (is.all id))
    | none => R.bad) = _
  rw [bls_t]
  dsimp only
  rw [List.all_eq_true.mpr fun b h => by obtain ⟨_, _, rfl⟩ := List.mem_map.mp h; rfl]
theorem s_parO {m1 m2 : M D} : sParO i j m1 m2 ρ = (m1 ρ).so fun d1 => fun ρ => (m2 ρ).so fun d2 => fun ρ => .nx ((ρ.set i (.ow d1)).set j (.cl d2)) := rfl
def isOwL (x : Option Sl) (o : SO) : SO := match x with
  | some (.ow (.lst _)) => o
  | _ => .bad
def putOw (i : Nat) (d : D) (x : Option Sl) (ρ : Rho) : SO := match x with
  | some (.ow (.lst xs)) => if xs.length < 16777216 then .nx (ρ.set i (.ow (.lst (xs ++ [d])))) else .bad
  | _ => .bad
theorem s_app : sApp i a ρ = isOwL ρ[i]? ((a ρ).so fun d => fun ρ => putOw i d ρ[i]? ρ) := by
  unfold sApp isOwL owLst
  match ρ[i]? with
  | some (.ow (.lst xs)) =>
    dsimp only
    unfold sDo Out.so
    cases a ρ with
    | ok d r =>
      dsimp only
      unfold putOw
      match r[i]? with
      | some (.ow (.lst xs)) => rfl
      | some (.ow (.non)) => rfl
      | some (.ow (.bl _)) => rfl
      | some (.ow (.int _)) => rfl
      | some (.ow (.str _)) => rfl
      | some (.ow (.ros _)) => rfl
      | some (.ow (.tup _)) => rfl
      | some (.ow (.dic _)) => rfl
      | some (.ow (.exc _ _ _)) => rfl
      | some (.cl d) => rfl
      | some .no => rfl
      | none => rfl
    | exn c v r => rfl
    | bad => rfl
  | some (.ow (.non)) => rfl
  | some (.ow (.bl _)) => rfl
  | some (.ow (.int _)) => rfl
  | some (.ow (.str _)) => rfl
  | some (.ow (.ros _)) => rfl
  | some (.ow (.tup _)) => rfl
  | some (.ow (.dic _)) => rfl
  | some (.ow (.exc _ _ _)) => rfl
  | some (.cl d) => rfl
  | some .no => rfl
  | none => rfl
theorem ow_lst {o : SO} : isOwL (some (.ow (.lst xs))) o = o := rfl
theorem put_lst (h : xs.length < 16777216) : putOw i x (some (.ow (.lst xs))) ρ = .nx (ρ.set i (.ow (.lst (xs ++ [x])))) := if_pos h
def mvOw (i : Nat) (x : Option Sl) (ρ : Rho) : Out D := match x with
  | some (.ow d) => .ok d (ρ.set i .no)
  | _ => .bad
theorem e_move : eMove i ρ = mvOw i ρ[i]? ρ := rfl
theorem mv_ow : mvOw i (some (.ow x)) ρ = .ok x (ρ.set i .no) := rfl
def tupTo (is : List Nat) (d : D) (ρ : Rho) : SO := match tgTup is d ρ with
  | .ok r => .nx r
  | .bad => .bad
theorem s_asgTup {is : List Nat} : sAsg a (tgTup is) ρ = (a ρ).so fun d => fun ρ => tupTo is d ρ := by
  unfold sAsg sDo Out.so
  cases a ρ with
  | ok d r => show sTo (tgTup is) d r = tupTo is d r; unfold sTo tupTo; cases tgTup is d r <;> rfl
  | exn c v r => rfl
  | bad => rfl
theorem tup_2 {u v : D} : tupTo [i, j] (.tup [u, v]) ρ = .nx ((ρ.set i (.cl u)).set j (.cl v)) := rfl
theorem s_for {u : D → Rho → R Rho} {it : M (List D)} : sFor u it s ρ = (it ρ).so fun ds => fun ρ => forLoop u s ds ρ := rfl
end
end DL

set_option Elab.async false
set_option linter.all false
set_option maxRecDepth 100000
set_option maxHeartbeats 400000
namespace DL
open PySem PySem.Spec PyProof.Rows L2
/-! ### how long repr's text is -/
theorem str_app_len (a b : Str) : (a ++ b).length = a.length + b.length := strLen_append a b
theorem listText_le (ts : List Str) : (listText ts).length ≤ piled ts + 2 := by
  unfold listText
  rw [str_app_len]
  cases ts with
  | nil => show 1 + 1 ≤ _; omega
  | cons t r =>
    show (textFrom 1 (("[" : Str) ++ (if 0 > 0 then ", " else "" : String) ++ t) r).length + 1 ≤ _
    rw [textFrom_length_pos _ _ _ (by decide), str_app_len, str_app_len, piled_cons]
    show 1 + 0 + t.length + _ + 1 ≤ _
    omega
theorem tupleText_le (ts : List Str) : (tupleText ts).length ≤ piled ts + 3 := by
  unfold tupleText
  rw [str_app_len, str_app_len]
  have h1 : (("(" : Str)).length = 1 := rfl
  have h2 : ((if ts.length == 1 then ",)" else ")" : String) : Str).length ≤ 2 := by
    split
    · show 2 ≤ 2; decide
    · show 1 ≤ 2; decide
  have h3 : (Str.join ", " ts).length ≤ piled ts := by
    by_cases h : ts = []
    · subst h; exact Nat.le_refl _
    · have := join_length_add ts h
      omega
  omega
/-- data whose text is not long -/
def Sh (n k : Nat) (d : D) : Prop := ∃ p, toP d = some p ∧ p.showable = true ∧ p.shown.length ≤ n ∧ p.depth ≤ k
def ShL (n k : Nat) (ds : List D) : Prop := ∃ ps, toPs ds = some ps ∧ PyData.showableAll ps = true ∧ piled (PyData.shownAll ps) ≤ ds.length * (n + 2) ∧ PyData.depthAll ps ≤ k
theorem Sh.mono {n k m j : Nat} {d : D} (h : Sh n k d) (a : n ≤ m) (b : k ≤ j) : Sh m j d := by
  obtain ⟨p, h1, h2, h3, h4⟩ := h
  exact ⟨p, h1, h2, by omega, by omega⟩
theorem sh_all {n k : Nat} : ∀ {ds : List D}, (∀ d ∈ ds, Sh n k d) → ShL n k ds
  | [], _ => ⟨[], by unfold toPs; rfl, by simp only [PyData.showableAll], by simp only [PyData.shownAll]; exact Nat.zero_le _, by simp only [PyData.depthAll]; exact Nat.zero_le _⟩
  | d :: ds, h => by
    obtain ⟨p, a1, a2, a3, a4⟩ := h d List.mem_cons_self
    obtain ⟨ps, b1, b2, b3, b4⟩ := sh_all fun x hx => h x (List.mem_cons_of_mem _ hx)
    refine ⟨p :: ps, ?_, ?_, ?_, ?_⟩
    · unfold toPs; rw [a1]; dsimp only; rw [b1]; rfl
    · simp only [PyData.showableAll, a2, b2, Bool.and_self]
    · simp only [PyData.shownAll]
      rw [piled_cons, List.length_cons, Nat.add_mul]
      omega
    · simp only [PyData.depthAll]
      omega
theorem of_len {s : String} : (Str.ofString s).length = s.length := by
  exact PySem.ofString_length s
theorem sh_non {k : Nat} : Sh 4 k .non := ⟨.none, by unfold toP; rfl, by simp only [PyData.showable], by simp only [PyData.shown]; decide, by simp only [PyData.depth]; exact Nat.zero_le _⟩
theorem sh_bl {b : Bool} {k : Nat} : Sh 5 k (.bl b) := ⟨.bool b, by unfold toP; rfl, by simp only [PyData.showable], by simp only [PyData.shown]; cases b <;> decide, by simp only [PyData.depth]; exact Nat.zero_le _⟩
theorem sh_int {i : Int} {j k : Nat} (hj : 0 < j) (h2 : j ≤ 500) (h : i.natAbs < 10 ^ j) : Sh (j + 1) k (.int i) := by
  refine ⟨.int i, by unfold toP; rfl, ?_, ?_, by simp only [PyData.depth]; exact Nat.zero_le _⟩
  · simp only [PyData.showable, decide_eq_true_eq]
    by_cases z : i.natAbs = 0
    · rw [z]; decide
    · rw [Nat.log2_lt z]
      refine Nat.lt_of_lt_of_le h (Nat.le_trans (Nat.pow_le_pow_right (by decide) h2) ?_)
      decide +kernel
  · simp only [PyData.shown]
    rw [of_len]
    exact int_text_length_le10 hj h
theorem sh_str {x : Str} {k : Nat} (hx : ∀ c ∈ x.cps.toList, c < 16 ^ 8) : Sh (10 * x.length + 2) k (.str x) := by
  refine ⟨.str x, by unfold toP; rfl, by simp only [PyData.showable], ?_, by simp only [PyData.depth]; exact Nat.zero_le _⟩
  simp only [PyData.shown]
  exact PySem.StrLaws.reprText_len x hx
theorem sh_lst {n k : Nat} {ds : List D} (h : ∀ d ∈ ds, Sh n k d) : Sh (ds.length * (n + 2) + 2) (k + 1) (.lst ds) := by
  obtain ⟨ps, b1, b2, b3, b4⟩ := sh_all h
  refine ⟨.list ps, by unfold toP; rw [b1]; rfl, by simp only [PyData.showable, b2], ?_, ?_⟩
  · simp only [PyData.shown]
    have := listText_le (PyData.shownAll ps)
    omega
  · simp only [PyData.depth]
    omega
theorem sh_tup {n k : Nat} {ds : List D} (h : ∀ d ∈ ds, Sh n k d) : Sh (ds.length * (n + 2) + 3) (k + 1) (.tup ds) := by
  obtain ⟨ps, b1, b2, b3, b4⟩ := sh_all h
  refine ⟨.tuple ps, by unfold toP; rw [b1]; rfl, by simp only [PyData.showable, b2], ?_, ?_⟩
  · simp only [PyData.shown]
    have := tupleText_le (PyData.shownAll ps)
    omega
  · simp only [PyData.depth]
    omega
theorem repr_ok {n k : Nat} {d : D} (h : Sh n k d) (hn : n ≤ 16777216) (hk : k ≤ 60) : ∃ s, opRepr [d] = .ok (.str s) := by
  obtain ⟨p, h1, h2, h3, h4⟩ := h
  refine ⟨p.shown, ?_⟩
  have q : toQ d = some p := by
    cases d with
    | dic kvs => unfold toP at h1; cases h1
    | _ => exact h1
  show (match toQ d with
    | some p => if canShow p = true then R.ok (D.str p.shown) else .bad
    | none => .bad) = _
  rw [q]
  dsimp only
  rw [if_pos]
  unfold canShow
  rw [h2, Bool.true_and, decide_eq_true (show p.shown.length ≤ 16777216 by omega), decide_eq_true (show p.depth ≤ 60 by omega)]
  rfl
end DL

set_option Elab.async false
set_option linter.all false
set_option maxRecDepth 100000
set_option maxHeartbeats 400000
namespace DL
open PySem PySem.Spec PyProof.Rows L2
/-! ### == of lists of plain data -/
section
variable {α : Type} {f : α → D} {g : α → PyData}
/-- f shows plain values -/
def Pl (f : α → D) (g : α → PyData) : Prop := ∀ x, toP (f x) = some (g x) ∧ (g x).canLay0 = true ∧ (g x).depth = 0
theorem pl_toPs (h : Pl f g) : ∀ xs : List α, toPs (xs.map f) = some (xs.map g) ∧ PyData.canLayAll0 (xs.map g) = true ∧ PyData.depthAll (xs.map g) = 0
  | [] => ⟨by simp only [List.map_nil]; unfold toPs; rfl, by simp only [List.map_nil, PyData.canLayAll0], by simp only [List.map_nil, PyData.depthAll]⟩
  | x :: xs => by
    obtain ⟨a1, a2, a3⟩ := h x
    obtain ⟨b1, b2, b3⟩ := pl_toPs h xs
    refine ⟨?_, ?_, ?_⟩
    · simp only [List.map_cons]
      unfold toPs
      rw [a1]
      dsimp only
      rw [b1]
      rfl
    · simp only [List.map_cons, PyData.canLayAll0, a2, b2, Bool.and_self]
    · simp only [List.map_cons, PyData.depthAll, a3, b3, Nat.max_self]
theorem pl_shaped (h : Pl f g) (xs : List α) : SeqAt.shaped (.list (xs.map g)) = true := by
  obtain ⟨b1, b2, b3⟩ := pl_toPs h xs
  unfold SeqAt.shaped
  simp only [PyData.canLay0, PyData.depth, b2, b3, Bool.true_and]
  decide
theorem eqD_lst (h : Pl f g) (xs ys : List α) : eqD (.lst (xs.map f)) (.lst (ys.map f)) = .ok (PyData.eqvAll (xs.map g) (ys.map g)) := by
  have e : ∀ zs : List α, toP (.lst (zs.map f)) = some (.list (zs.map g)) := fun zs => by
    unfold toP
    rw [(pl_toPs h zs).1]
    rfl
  show (match toP (.lst (xs.map f)), toP (.lst (ys.map f)) with
    | some p, some q => if SeqAt.shaped p = true ∧ SeqAt.shaped q = true then R.ok (PyData.eqv p q) else .bad
    | _, _ => .bad) = _
  rw [e, e]
  dsimp only
  rw [if_pos ⟨pl_shaped h xs, pl_shaped h ys⟩]
  simp only [PyData.eqv]
theorem ne_nil (h : Pl f g) (xs : List α) : opNe (.lst (xs.map f)) (.lst []) = .ok (.bl (!xs.isEmpty)) := by
  show (match eqD (.lst (xs.map f)) (.lst []) with
    | .ok b => R.ok (D.bl (!b))
    | .bad => .bad) = _
  have := eqD_lst h xs []
  rw [List.map_nil] at this
  rw [this]
  cases xs with
  | nil => simp only [List.map_nil, PyData.eqvAll, List.isEmpty_nil]
  | cons x xs => simp only [List.map_cons, PyData.eqvAll, List.map_nil, List.isEmpty_cons]
end
def iP : Int → PyData := .int
theorem pl_int : Pl D.int PyData.int := fun i => ⟨by unfold toP; rfl, by simp only [PyData.canLay0], by simp only [PyData.depth]⟩
theorem eqvAll_int : ∀ xs ys : List Int, PyData.eqvAll (xs.map PyData.int) (ys.map PyData.int) = decide (xs = ys)
  | [], [] => by simp [PyData.eqvAll]
  | [], y :: ys => by simp [PyData.eqvAll]
  | x :: xs, [] => by simp [PyData.eqvAll]
  | x :: xs, y :: ys => by
    simp only [List.map_cons, PyData.eqvAll, PyData.eqv, eqvAll_int xs ys]
    by_cases h : x = y
    · subst h; simp
    · simp [h]
theorem eq_ints {xs ys : List Int} : opEq (.lst (xs.map .int)) (.lst (ys.map .int)) = .ok (.bl (decide (xs = ys))) := by
  show (match eqD (.lst (xs.map .int)) (.lst (ys.map .int)) with
    | .ok b => R.ok (D.bl b)
    | .bad => .bad) = _
  rw [eqD_lst pl_int, eqvAll_int]
theorem ne_ints {xs ys : List Int} : opNe (.lst (xs.map .int)) (.lst (ys.map .int)) = .ok (.bl (!decide (xs = ys))) := by
  show (match eqD (.lst (xs.map .int)) (.lst (ys.map .int)) with
    | .ok b => R.ok (D.bl (!b))
    | .bad => .bad) = _
  rw [eqD_lst pl_int, eqvAll_int]
/-- a loop that goes on, Q being kept -/
theorem for_q {Q : Rho → Prop} {t : D → Rho → R Rho} {b : MS} : ∀ {ds : List D} {ρ : Rho}, (∀ ρ, Q ρ → ∀ d ∈ ds, ∃ ρ1 ρ2, t d ρ = .ok ρ1 ∧ b ρ1 = .nx ρ2 ∧ Q ρ2) → Q ρ → ∃ ρ2, forLoop t b ds ρ = .nx ρ2 ∧ Q ρ2
  | [], ρ, _, q => ⟨ρ, rfl, q⟩
  | d :: ds, ρ, h, q => by
    obtain ⟨ρ1, ρ2, h1, h2, h3⟩ := h ρ q d List.mem_cons_self
    obtain ⟨ρ3, h4, h5⟩ := for_q (fun ρ q d hd => h ρ q d (List.mem_cons_of_mem _ hd)) h3
    exact ⟨ρ3, for_nx h1 h2 h4, h5⟩
theorem sorted_ints {xs : List Int} : opSorted [.lst (xs.map .int)] = .ok (.lst ((isort xs).map .int)) := by
  show (match dInts (xs.map .int) with
    | some is => R.ok (D.lst ((isort is).map .int))
    | none => .bad) = _
  rw [dints_map]
theorem sortset_ints {xs : List Int} (h : xs.length < 64) : opSortSet (.lst (xs.map .int)) = .ok (.lst ((usort xs).map .int)) := by
  show (match dInts (xs.map .int) with
    | some is => (if is.length < 64 then R.ok (D.lst ((usort is).map .int)) else .bad)
    | none => .bad) = _
  rw [dints_map]
  exact if_pos h
theorem zip_self {xs : List D} : (xs.zip xs).map (fun p => D.tup [p.1, p.2]) = xs.map fun x => D.tup [x, x] := by
  induction xs with
  | nil => rfl
  | cons x xs ih => rw [List.zip_cons_cons, List.map_cons, List.map_cons, ih]
theorem zip_lst {xs : List D} (h : xs.length ≤ 16777216) : zipD [.lst xs, .lst xs] = .ok (xs.map fun x => D.tup [x, x]) := by
  show (if xs.length ≤ 16777216 then R.ok ((xs.zip xs).map fun p => D.tup [p.1, p.2]) else .bad) = _
  rw [if_pos h, zip_self]
theorem zip_tup {xs : List D} (h : xs.length ≤ 16777216) : zipD [.tup xs, .tup xs] = .ok (xs.map fun x => D.tup [x, x]) := by
  show (if xs.length ≤ 16777216 then R.ok ((xs.zip xs).map fun p => D.tup [p.1, p.2]) else .bad) = _
  rw [if_pos h, zip_self]
/-- loops counted -/
theorem for_qn {Q : Nat → Rho → Prop} {t : D → Rho → R Rho} {b : MS} {N : Nat} : ∀ {ds : List D} {i : Nat} {ρ : Rho}, i + ds.length ≤ N → (∀ i ρ, i < N → Q i ρ → ∀ d ∈ ds, ∃ ρ1 ρ2, t d ρ = .ok ρ1 ∧ b ρ1 = .nx ρ2 ∧ Q (i + 1) ρ2) → Q i ρ → ∃ ρ2, forLoop t b ds ρ = .nx ρ2 ∧ Q (i + ds.length) ρ2
  | [], i, ρ, _, _, q => ⟨ρ, rfl, q⟩
  | d :: ds, i, ρ, hN, h, q => by
    simp only [List.length_cons] at hN
    obtain ⟨ρ1, ρ2, h1, h2, h3⟩ := h i ρ (by omega) q d List.mem_cons_self
    obtain ⟨ρ3, h4, h5⟩ := for_qn (ds := ds) (i := i + 1) (by omega) (fun i ρ z q d hd => h i ρ z q d (List.mem_cons_of_mem _ hd)) h3
    refine ⟨ρ3, for_nx h1 h2 h4, ?_⟩
    have e : i + (d :: ds).length = i + 1 + ds.length := by simp only [List.length_cons]; omega
    rw [e]
    exact h5
inductive Both {α β : Type} (R : α → β → Prop) : List α → List β → Prop where
  | nil : Both R [] []
  | cons {a : α} {b : β} {as : List α} {bs : List β} : R a b → Both R as bs → Both R (a :: as) (b :: bs)
theorem Both.len {α β : Type} {R : α → β → Prop} {as : List α} {bs : List β} (h : Both R as bs) : as.length = bs.length := by
  induction h with
  | nil => rfl
  | cons _ _ ih => simp [ih]
/-- a comprehension that draws -/
theorem lc_q {Q : Nat → Rho → Prop} {T : D → D → Prop} {vs : List Nat} {t : D → Rho → R Rho} {e : M D} {N : Nat} : ∀ {ds : List D} {i : Nat} {ρ : Rho}, i + ds.length ≤ N → (∀ i ρ, i < N → Q i ρ → ∀ d ∈ ds, ∃ ρ1 ρ2 x, t d ρ = .ok ρ1 ∧ e ρ1 = .ok x ρ2 ∧ Q (i + 1) (wipeR ρ2 vs) ∧ T d x) → Q i ρ →
    ∃ xs ρ2, lcLoop vs t (M.pure true) e ds ρ = .ok xs ρ2 ∧ Q (i + ds.length) ρ2 ∧ Both T ds xs
  | [], i, ρ, _, _, q => ⟨[], ρ, rfl, q, .nil⟩
  | d :: ds, i, ρ, hN, h, q => by
    simp only [List.length_cons] at hN
    obtain ⟨ρ1, ρ2, x, h1, h2, h3, h4⟩ := h i ρ (by omega) q d List.mem_cons_self
    obtain ⟨xs, ρ3, h5, h6, h7⟩ := lc_q (ds := ds) (i := i + 1) (by omega) (fun i ρ z q d hd => h i ρ z q d (List.mem_cons_of_mem _ hd)) h3
    refine ⟨x :: xs, ρ3, ?_, ?_, .cons h4 h7⟩
    · unfold lcLoop
      rw [h1]
      dsimp only [M.pure]
      rw [h2]
      dsimp only
      rw [h5]
    · have e : i + (d :: ds).length = i + 1 + ds.length := by simp only [List.length_cons]; omega
      rw [e]
      exact h6
theorem ev_lcQ {Q : Nat → Rho → Prop} {T : D → D → Prop} {vs : List Nat} {t : D → Rho → R Rho} {e : M D} {mi : M (List D)} {ds : List D} {ρ ρ1 : Rho} (hi : mi ρ = .ok ds ρ1) (hw : wipeR ρ1 vs = ρ1)
    (h : ∀ i ρ, i < ds.length → Q i ρ → ∀ d ∈ ds, ∃ ρ1 ρ2 x, t d ρ = .ok ρ1 ∧ e ρ1 = .ok x ρ2 ∧ Q (i + 1) (wipeR ρ2 vs) ∧ T d x) (q : Q 0 ρ1) : ∃ xs ρ2, eLC vs t (M.pure true) e mi ρ = .ok (.lst xs) (backR ρ1 ρ2 vs) ∧ Q ds.length ρ2 ∧ Both T ds xs := by
  obtain ⟨xs, ρ2, h1, h2, h3⟩ := lc_q (N := ds.length) (i := 0) (by omega) h q
  rw [Nat.zero_add] at h2
  exact ⟨xs, ρ2, ev_lc hi (by rw [hw]; exact h1), h2, h3⟩
/-- a comprehension over a name that is in use around it -/
theorem ev_lcFB {α : Type} {vs : List Nat} {tt : D → Rho → R Rho} {c : M Bool} {e : M D} {ρ ρ1 ρw : Rho} {G E : α → D} {env : α → Rho} {P : α → Bool} {mi : M (List D)} {xs : List α} (hi : mi ρ = .ok (xs.map G) ρ1) (hw0 : wipeR ρ1 vs = ρw) (hb : backR ρ1 ρw vs = ρ1)
    (ht : ∀ x ∈ xs, tt (G x) ρw = .ok (env x)) (hc : ∀ x ∈ xs, c (env x) = .ok (P x) (env x)) (he : ∀ x ∈ xs, P x = true → e (env x) = .ok (E x) (env x)) (hw : ∀ x ∈ xs, wipeR (env x) vs = ρw) : eLC vs tt c e mi ρ = .ok (.lst ((xs.filter P).map E)) ρ1 := by
  have g := lc_gen (c := c) (e := e) (E := E) (P := P) ht hc he hw
  have q := ev_lc (vs := vs) (t := tt) (c := c) (e := e) hi (by rw [hw0]; exact g)
  rwa [hb] at q
theorem ev_lcMB {α : Type} {vs : List Nat} {tt : D → Rho → R Rho} {e : M D} {ρ ρ1 ρw : Rho} {G E : α → D} {env : α → Rho} {mi : M (List D)} {xs : List α} (hi : mi ρ = .ok (xs.map G) ρ1) (hw0 : wipeR ρ1 vs = ρw) (hb : backR ρ1 ρw vs = ρ1)
    (ht : ∀ x ∈ xs, tt (G x) ρw = .ok (env x)) (he : ∀ x ∈ xs, e (env x) = .ok (E x) (env x)) (hw : ∀ x ∈ xs, wipeR (env x) vs = ρw) : eLC vs tt (M.pure true) e mi ρ = .ok (.lst (xs.map E)) ρ1 := by
  have q := ev_lcFB (P := fun _ => true) hi hw0 hb ht (fun _ _ => rfl) (fun x hx _ => he x hx) hw
  rwa [List.filter_eq_self.mpr fun _ _ => rfl] at q
end DL

set_option Elab.async false
set_option linter.all false
set_option maxRecDepth 100000
set_option maxHeartbeats 400000
namespace DL
open PySem PySem.Spec PyProof.Rows L2
/-! ### finding, parting -/
def fI : Option Nat → Int
  | some i => (i : Nat)
  | none => -1
theorem occ_fnd {t w : List Nat} {a b : Nat} : Builtin.Str.occurrences (mkS t) (mkS w) a b 1 = (fnd w t a b).toList := by
  rw [StrLaws.occ_eq, occ_first _ _ _ _ a (fun i hi => (List.mem_range'_1.mp hi).1)]
  unfold fnd pre
  congr 2
  funext i
  rw [mkS_len, StrLaws.subAt_eq, mkS_list, mkS_list, mkS_len]
theorem hd_toList {o : Option Nat} : (match o.toList with
    | k :: _ => ((k : Nat) : Int)
    | [] => -1) = fI o := by cases o <;> rfl
theorem find3_mk {t w : List Nat} {i : Int} (a : Nat) (h : i = (a : Nat)) : opFind3 (.str (mkS t)) [.str (mkS w), .int i] = .ok (.int (fI (fnd w t a t.length))) := by
  subst h
  show R.ok (D.int (Txt.find3 (mkS t) (mkS w) (a : Nat))) = _
  have e : fromIndex (mkS t).length ((a : Nat) : Int) = a := by unfold fromIndex; split <;> omega
  unfold Txt.find3
  rw [e, mkS_len, occ_fnd]
  congr 2
  exact hd_toList
theorem find4_mk {t w : List Nat} {i j : Int} (a b : Nat) (h : i = (a : Nat)) (h2 : j = (b : Nat)) (hb : b ≤ t.length) : opFind4 (.str (mkS t)) [.str (mkS w), .int i, .int j] = .ok (.int (fI (fnd w t a b))) := by
  subst h h2
  show R.ok (D.int (Txt.findIn (mkS t) (mkS w) (a : Nat) (b : Nat))) = _
  have e : fromIndex (mkS t).length ((a : Nat) : Int) = a := by unfold fromIndex; split <;> omega
  have e2 : toIndexW (mkS t).length ((b : Nat) : Int) = b := by unfold toIndexW; rw [mkS_len]; split <;> omega
  unfold Txt.findIn
  rw [e, e2, occ_fnd]
  congr 2
  exact hd_toList
theorem kind1 {w : List Nat} (h : w.all (· < 256) = true) {t : List Nat} : decide (Builtin.Str.strKind (mkS t) < Builtin.Str.strKind (mkS w)) = false := by
  have e : Builtin.Str.strKind (mkS w) = 1 := by
    unfold Builtin.Str.strKind
    rw [if_pos]
    show w.toArray.all _ = true
    rw [List.all_toArray]
    exact h
  rw [e]
  unfold Builtin.Str.strKind
  split
  · rfl
  · split <;> rfl
theorem fnd_short {w t : List Nat} {a b : Nat} (h : b < a + w.length) : fnd w t a b = none := by
  have g := fnd_least w t a b
  cases e : fnd w t a b with
  | none => rfl
  | some i => rw [e] at g; have := g.1.1; have := g.1.2.1; omega
theorem sub_mk {t : List Nat} {a b : Nat} (h : b ≤ t.length) : Builtin.Str.strSub (mkS t) a b = mkS ((t.drop a).take (b - a)) := by
  rw [mkS_of (Builtin.Str.strSub (mkS t) a b), mkS_inj]
  show ((mkS t).cps.extract a b).toList = _
  rw [Array.toList_extract, mkS_list, List.extract_eq_take_drop]
theorem splitM_mk {t w : List Nat} (hw : w ≠ []) (h : w.all (· < 256) = true) (hl : t.length ≤ 8000000) : opSplitM (.str (mkS t)) [.str (mkS w), .int 1] = .ok (.lst (match fnd w t 0 t.length with
    | none => [.str (mkS t)]
    | some i => [.str (mkS (t.take i)), .str (mkS (t.drop (i + w.length)))])) := by
  have w0 : w.length ≠ 0 := by
    cases w with
    | nil => exact absurd rfl hw
    | cons _ _ => simp
  show (if ((mkS w).length ≠ 0 ∧ (mkS t).length + 2 ≤ 16777216) ∧ -(2 ^ 63) ≤ (1 : Int) ∧ (1 : Int) < 2 ^ 63 then R.ok (D.lst ((Txt.splitMax (mkS t) (mkS w) 1).map .str)) else .bad) = _
  rw [if_pos ⟨⟨by rw [mkS_len]; exact w0, by rw [mkS_len]; omega⟩, by decide, by decide⟩]
  have e : Txt.splitMax (mkS t) (mkS w) 1 = match fnd w t 0 t.length with
    | none => [mkS t]
    | some i => [mkS (t.take i), mkS (t.drop (i + w.length))] := by
    unfold Txt.splitMax
    rw [kind1 h, Bool.or_false, mkS_len, mkS_len]
    by_cases q : t.length < w.length
    · rw [if_pos (decide_eq_true q), fnd_short (by omega)]
    · rw [if_neg (by simpa using q)]
      have el : limitOf (mkS t) 1 = 1 := rfl
      rw [el, occ_fnd]
      cases z : fnd w t 0 t.length with
      | none => rfl
      | some i =>
        have g := fnd_least w t 0 t.length
        rw [z] at g
        have := g.1.2.1
        show (if ([i] : List Nat).isEmpty = true then [mkS t] else Builtin.Str.partsBetween (mkS t) [i] w.length) = _
        rw [if_neg (by simp)]
        show [Builtin.Str.strSub (mkS t) 0 i, Builtin.Str.strSub (mkS t) (i + w.length) (mkS t).length] = _
        rw [mkS_len, sub_mk (by omega), sub_mk (Nat.le_refl _), List.drop_zero, Nat.sub_zero]
        rw [List.take_of_length_le (l := t.drop (i + w.length)) (by rw [List.length_drop]; omega)]
  rw [e]
  cases fnd w t 0 t.length <;> rfl
theorem fnd_drop {w t : List Nat} {q : Nat} (h : q ≤ t.length) : fnd w (t.drop q) 0 (t.drop q).length = (fnd w t q t.length).map (· - q) := by
  refine (fnd_least w (t.drop q) 0 (t.drop q).length).uniq (Q := fun i => i + q + w.length ≤ t.length ∧ pre w t (i + q) = true) ?_ fun i => ?_
  · have g := fnd_least w t q t.length
    cases e : fnd w t q t.length with
    | none => rw [e] at g; exact fun r hr => g (r + q) ⟨by omega, hr⟩
    | some s =>
      rw [e] at g
      refine ⟨?_, fun r hr hm => g.2 (r + q) (by have := g.1.1; show r + q < s; dsimp only at hr; omega) ⟨by omega, hm⟩⟩
      have e2 : s - q + q = s := by have := g.1.1; omega
      show s - q + q + w.length ≤ t.length ∧ pre w t (s - q + q) = true
      rw [e2]
      exact g.1.2
  · have ep : pre w (t.drop q) i = pre w t (i + q) := by unfold pre; rw [List.drop_drop, Nat.add_comm q i]
    rw [ep, List.length_drop]
    constructor
    · rintro ⟨h1, h2, h3⟩; exact ⟨by omega, h3⟩
    · rintro ⟨h1, h3⟩; exact ⟨by omega, by omega, h3⟩
theorem isT_s {z : Str} : isT .str (.str z) = true := rfl
theorem isN_t {xs : List D} : opIsN (.tup xs) .non = .ok (.bl false) := rfl
theorem isN_n : opIsN .non .non = .ok (.bl true) := rfl
theorem notN_t {xs : List D} : opNotN (.tup xs) .non = .ok (.bl true) := rfl
theorem notN_n : opNotN .non .non = .ok (.bl false) := rfl
theorem ge_int {a b : Int} : opGe (.int a) (.int b) = .ok (.bl (decide (b ≤ a))) := rfl
theorem mk4 {a b c d : D} : mkTup [a, b, c, d] = .ok (.tup [a, b, c, d]) := rfl
theorem mk5 {a b c d e : D} : mkTup [a, b, c, d, e] = .ok (.tup [a, b, c, d, e]) := rfl
theorem ixq0 {a b c d : D} : opIx (.tup [a, b, c, d]) (.int 0) = .ok a := rfl
theorem ixq3 {a b c d : D} : opIx (.tup [a, b, c, d]) (.int 3) = .ok d := rfl
theorem ixq1 {a b c d e : D} : opIx (.tup [a, b, c, d, e]) (.int 1) = .ok b := rfl
theorem ixq4 {a b c d e : D} : opIx (.tup [a, b, c, d, e]) (.int 4) = .ok e := rfl
/-! first_kept -/
def nm (k : Bool) : Str := if k = true then "asis" else "note"
def elK (k : Bool) : D := .tup [.str (nm k), .str (mkS (kS k)), .str (mkS (kL k))]
theorem kept_items : items d_KEPT = .ok [elK false, elK true] := by kernel_rfl
def fD (t : List Nat) : Option (Nat × Bool × Nat) → D
  | none => .non
  | some (s, k, e) => .tup [.int (s : Nat), .str (nm k), .str (cutS (mkS t) (some ((s : Int) + ((kS k).length : Nat))) (some (e : Int))), .int ((e : Int) + ((kL k).length : Nat))]
def kst (t : List Nat) (k : Bool) (a : Nat) (found : Option (Nat × Bool × Nat)) : Option (Nat × Bool × Nat) := match cand t k a with
  | none => found
  | some (s, e) => match found with
    | none => some (s, k, e)
    | some (s0, k0, e0) => if s < s0 then some (s, k, e) else some (s0, k0, e0)
theorem fk_steps {t : List Nat} {a : Nat} : fk t a = kst t true a (kst t false a none) := by
  unfold fk kst
  cases cand t false a with
  | none => cases cand t true a <;> rfl
  | some x => cases cand t true a <;> rfl
noncomputable def kbody : MS := (sSeq (sAsg (eMT .str opFind3 (eVar 0) (aCons (eVar 4) (aCons (eVar 1) (aNil)))) (tgName 6))
  (sSeq (sAsg (eIf (bOf (e2 opLt (eVar 6) (eC (.int 0)))) (e1 opNeg (eC (.int 1))) (eMT .str opFind3 (eVar 0) (aCons (eVar 5) (aCons (e2 opAdd (eVar 6) (eN opLen (aCons (eVar 4) (aNil)))) (aNil))))) (tgName 7))
  (sIf (bAnd (bOf (e2 opGe (eVar 7) (eC (.int 0)))) (bOr (bOf (e2 opIsN (eVar 2) (eC .non))) (bOf (e2 opLt (eVar 6) (e2 opIx (eVar 2) (eC (.int 0))))))) (sAsg (eN mkTup (aCons (eVar 6) (aCons (eVar 3) (aCons (eCut (eVar 0) (pAt (e2 opAdd (eVar 6) (eN opLen (aCons (eVar 4) (aNil))))) (pAt (eVar 7))) (aCons (e2 opAdd (eVar 7) (eN opLen (aCons (eVar 5) (aNil)))) (aNil)))))) (tgName 2)) (sNext))))
theorem kS_l (k : Bool) : (kS k).length ≤ 16777216 := by cases k <;> decide
theorem kL_l (k : Bool) : (kL k).length ≤ 16777216 := by cases k <;> decide
theorem kbody_ok {t : List Nat} (hl : t.length ≤ 8000000) {k : Bool} {a : Nat} {found : Option (Nat × Bool × Nat)} {y6 y7 : Sl} :
    ∃ z6 z7, kbody [.cl (.str (mkS t)), .cl (.int (a : Nat)), .cl (fD t found), .cl (.str (nm k)), .cl (.str (mkS (kS k))), .cl (.str (mkS (kL k))), y6, y7] =
      .nx [.cl (.str (mkS t)), .cl (.int (a : Nat)), .cl (fD t (kst t k a found)), .cl (.str (nm k)), .cl (.str (mkS (kS k))), .cl (.str (mkS (kL k))), z6, z7] := by
  have F1 := find3_mk (t := t) (w := kS k) a rfl
  unfold kbody kst cand
  have lm : decide ((-1 : Int) < 0) = true := rfl
  have gm : decide ((0 : Int) ≤ -1) = false := rfl
  have hl2 : t.length ≤ 16777216 := by omega
  cases e1 : fnd (kS k) t a t.length with
  | none =>
    rw [e1] at F1
    refine ⟨.cl (.int (-1)), .cl (.int (-1)), ?_⟩
    simp only [s_seq, th_nx, th_ret, th_exn, s_asg, s_asgO, s_ret, s_retN, s_drop, s_if, s_next, s_raise, e_var, e_own, g_var, g_own1, g_own2, e_c, e_2, e_1, e_N, e_nil, e_cons, e_call, fo_ok, fo_exn, e_callD, e_callK, e_if, e_and, e_or, e_not, e_pure, e_of, e_tr, e_bnot, e_band, e_bor, e_chain, e_bind, e_lift, i_bl, t_bl, e_cut, e_pno, e_pat, p_int, i_seq, i_range, i_zip, bnd_ok, bnd_exn, so_ok, so_exn, rb_ok, if_true, if_false, Bool.false_eq_true, e_callO, ow_is, ow_in, ow_ok, fo_ret, fo_ret0, fo_ex, s_par, par_2, s_parO, s_app, ow_lst, e_move, mv_ow, s_asgTup, tup_2, List.getElem?_cons_succ, List.getElem?_cons_zero, List.set_cons_zero, List.set_cons_succ, List.cons_append, List.nil_append, e_MT, isT_s, F1, fI, lt_int, lm, neg1, ge_int, gm]
  | some s =>
    rw [e1] at F1
    have F2 := find3_mk (t := t) (w := kL k) (i := (s : Int) + ((kS k).length : Nat)) (s + (kS k).length) (by omega)
    have ls : decide ((s : Int) < 0) = false := decide_eq_false (by omega)
    dsimp only
    cases e2 : fnd (kL k) t (s + (kS k).length) t.length with
    | none =>
      rw [e2] at F2
      refine ⟨.cl (.int s), .cl (.int (-1)), ?_⟩
      simp only [s_seq, th_nx, th_ret, th_exn, s_asg, s_asgO, s_ret, s_retN, s_drop, s_if, s_next, s_raise, e_var, e_own, g_var, g_own1, g_own2, e_c, e_2, e_1, e_N, e_nil, e_cons, e_call, fo_ok, fo_exn, e_callD, e_callK, e_if, e_and, e_or, e_not, e_pure, e_of, e_tr, e_bnot, e_band, e_bor, e_chain, e_bind, e_lift, i_bl, t_bl, e_cut, e_pno, e_pat, p_int, i_seq, i_range, i_zip, bnd_ok, bnd_exn, so_ok, so_exn, rb_ok, if_true, if_false, Bool.false_eq_true, e_callO, ow_is, ow_in, ow_ok, fo_ret, fo_ret0, fo_ex, s_par, par_2, s_parO, s_app, ow_lst, e_move, mv_ow, s_asgTup, tup_2, List.getElem?_cons_succ, List.getElem?_cons_zero, List.set_cons_zero, List.set_cons_succ, List.cons_append, List.nil_append, e_MT, isT_s, F1, fI, lt_int, ls, len_mkS (kS_l k), add_int', F2, ge_int, gm]
    | some e =>
      rw [e2] at F2
      have ge : decide ((0 : Int) ≤ (e : Nat)) = true := decide_eq_true (by omega)
      refine ⟨.cl (.int s), .cl (.int e), ?_⟩
      cases found with
      | none =>
        simp only [s_seq, th_nx, th_ret, th_exn, s_asg, s_asgO, s_ret, s_retN, s_drop, s_if, s_next, s_raise, e_var, e_own, g_var, g_own1, g_own2, e_c, e_2, e_1, e_N, e_nil, e_cons, e_call, fo_ok, fo_exn, e_callD, e_callK, e_if, e_and, e_or, e_not, e_pure, e_of, e_tr, e_bnot, e_band, e_bor, e_chain, e_bind, e_lift, i_bl, t_bl, e_cut, e_pno, e_pat, p_int, i_seq, i_range, i_zip, bnd_ok, bnd_exn, so_ok, so_exn, rb_ok, if_true, if_false, Bool.false_eq_true, e_callO, ow_is, ow_in, ow_ok, fo_ret, fo_ret0, fo_ex, s_par, par_2, s_parO, s_app, ow_lst, e_move, mv_ow, s_asgTup, tup_2, List.getElem?_cons_succ, List.getElem?_cons_zero, List.set_cons_zero, List.set_cons_succ, List.cons_append, List.nil_append, e_MT, isT_s, F1, fI, lt_int, ls, len_mkS (kS_l k), len_mkS (kL_l k), add_int', F2, ge_int, ge, fD, isN_n, cut_str hl2, mk4]
      | some x =>
        obtain ⟨s0, k0, e0⟩ := x
        dsimp only
        by_cases q : s < s0
        · have ls0 : decide ((s : Int) < (s0 : Nat)) = true := decide_eq_true (by omega)
          rw [if_pos q]
          simp only [s_seq, th_nx, th_ret, th_exn, s_asg, s_asgO, s_ret, s_retN, s_drop, s_if, s_next, s_raise, e_var, e_own, g_var, g_own1, g_own2, e_c, e_2, e_1, e_N, e_nil, e_cons, e_call, fo_ok, fo_exn, e_callD, e_callK, e_if, e_and, e_or, e_not, e_pure, e_of, e_tr, e_bnot, e_band, e_bor, e_chain, e_bind, e_lift, i_bl, t_bl, e_cut, e_pno, e_pat, p_int, i_seq, i_range, i_zip, bnd_ok, bnd_exn, so_ok, so_exn, rb_ok, if_true, if_false, Bool.false_eq_true, e_callO, ow_is, ow_in, ow_ok, fo_ret, fo_ret0, fo_ex, s_par, par_2, s_parO, s_app, ow_lst, e_move, mv_ow, s_asgTup, tup_2, List.getElem?_cons_succ, List.getElem?_cons_zero, List.set_cons_zero, List.set_cons_succ, List.cons_append, List.nil_append, e_MT, isT_s, F1, fI, lt_int, ls, len_mkS (kS_l k), len_mkS (kL_l k), add_int', F2, ge_int, ge, fD, isN_t, ixq0, ls0, cut_str hl2, mk4]
        · have ls0 : decide ((s : Int) < (s0 : Nat)) = false := decide_eq_false (by omega)
          rw [if_neg q]
          simp only [s_seq, th_nx, th_ret, th_exn, s_asg, s_asgO, s_ret, s_retN, s_drop, s_if, s_next, s_raise, e_var, e_own, g_var, g_own1, g_own2, e_c, e_2, e_1, e_N, e_nil, e_cons, e_call, fo_ok, fo_exn, e_callD, e_callK, e_if, e_and, e_or, e_not, e_pure, e_of, e_tr, e_bnot, e_band, e_bor, e_chain, e_bind, e_lift, i_bl, t_bl, e_cut, e_pno, e_pat, p_int, i_seq, i_range, i_zip, bnd_ok, bnd_exn, so_ok, so_exn, rb_ok, if_true, if_false, Bool.false_eq_true, e_callO, ow_is, ow_in, ow_ok, fo_ret, fo_ret0, fo_ex, s_par, par_2, s_parO, s_app, ow_lst, e_move, mv_ow, s_asgTup, tup_2, List.getElem?_cons_succ, List.getElem?_cons_zero, List.set_cons_zero, List.set_cons_succ, List.cons_append, List.nil_append, e_MT, isT_s, F1, fI, lt_int, ls, len_mkS (kS_l k), len_mkS (kL_l k), add_int', F2, ge_int, ge, fD, isN_t, ixq0, ls0]
theorem first_kept_ok {t : List Nat} (hl : t.length ≤ 8000000) {i : Int} (a : Nat) (hi : i = (a : Nat)) : f_first_kept [.str (mkS t), .int i] = .ok (fD t (fk t a)) [] := by
  subst hi
  obtain ⟨z6, z7, h1⟩ := kbody_ok hl (k := false) (a := a) (found := none) (y6 := .no) (y7 := .no)
  obtain ⟨u6, u7, h2⟩ := kbody_ok hl (k := true) (a := a) (found := kst t false a none) (y6 := z6) (y7 := z7)
  have L : forLoop (tgTup [3, 4, 5]) kbody [elK false, elK true] [.cl (.str (mkS t)), .cl (.int (a : Nat)), .cl .non, .no, .no, .no, .no, .no] = .nx [.cl (.str (mkS t)), .cl (.int (a : Nat)), .cl (fD t (fk t a)), .cl (.str (nm true)), .cl (.str (mkS (kS true))), .cl (.str (mkS (kL true))), u6, u7] := by
    rw [fk_steps]
    exact for_nx rfl h1 (for_nx rfl h2 for_nil)
  refine (run_of (ρ0 := [.cl (.str (mkS t)), .cl (.int (a : Nat)), .no, .no, .no, .no, .no, .no]) rfl).trans ?_
  unfold kbody at L
  unfold m_first_kept
  simp only [s_seq, th_nx, th_ret, th_exn, s_asg, s_asgO, s_ret, s_retN, s_drop, s_if, s_next, s_raise, e_var, e_own, g_var, g_own1, g_own2, e_c, e_2, e_1, e_N, e_nil, e_cons, e_call, fo_ok, fo_exn, e_callD, e_callK, e_if, e_and, e_or, e_not, e_pure, e_of, e_tr, e_bnot, e_band, e_bor, e_chain, e_bind, e_lift, i_bl, t_bl, e_cut, e_pno, e_pat, p_int, i_seq, i_range, i_zip, bnd_ok, bnd_exn, so_ok, so_exn, rb_ok, if_true, if_false, Bool.false_eq_true, e_callO, ow_is, ow_in, ow_ok, fo_ret, fo_ret0, fo_ex, s_par, par_2, s_parO, s_app, ow_lst, e_move, mv_ow, s_asgTup, tup_2, List.getElem?_cons_succ, List.getElem?_cons_zero, List.set_cons_zero, List.set_cons_succ, List.cons_append, List.nil_append, s_for, kept_items, L]
end DL

set_option Elab.async false
set_option linter.all false
set_option maxRecDepth 100000
set_option maxHeartbeats 400000
namespace DL
open PySem PySem.Spec PyProof.Rows L2
/-! ### more steps as equations: a, b, c = .., extend, insert, x += e, walks -/
section
variable {ρ r : Rho} {a b c : M D} {m : M (List D)} {m1 m2 m3 : M Sl} {x y : D} {xs ys ds : List D} {s t : MS} {i j k : Nat}
theorem e_wcl : wCl a ρ = (a ρ).bnd fun d => fun ρ => Out.ok (Sl.cl d) ρ := rfl
theorem e_wow : wOw a ρ = (a ρ).bnd fun d => fun ρ => Out.ok (Sl.ow d) ρ := rfl
theorem s_trip : sTrip i j k m1 m2 m3 ρ = (m1 ρ).so fun s1 => fun ρ => (m2 ρ).so fun s2 => fun ρ => (m3 ρ).so fun s3 => fun ρ => .nx (((ρ.set i s1).set j s2).set k s3) := rfl
theorem s_pair : sPair i j m1 m2 ρ = (m1 ρ).so fun s1 => fun ρ => (m2 ρ).so fun s2 => fun ρ => .nx ((ρ.set i s1).set j s2) := rfl
theorem ow_l : owLst (some (.ow (.lst xs))) = .ok xs := rfl
def isO (z : R (List D)) (o : SO) : SO := match z with
  | .bad => .bad
  | .ok _ => o
theorem is_o {o : SO} : isO (.ok xs) o = o := rfl
def extO (i : Nat) (d : D) (z : R (List D)) (ρ : Rho) : SO := match z, d with
  | .ok xs, .lst ys => if xs.length + ys.length ≤ 16777216 then .nx (ρ.set i (.ow (.lst (xs ++ ys)))) else .bad
  | _, _ => .bad
theorem s_ext : sExt i a ρ = isO (owLst ρ[i]?) ((a ρ).so fun d => fun ρ => extO i d (owLst ρ[i]?) ρ) := by
  unfold sExt isO
  cases owLst ρ[i]? with
  | bad => rfl
  | ok xs =>
    dsimp only
    unfold sDo Out.so
    cases a ρ with
    | ok d r =>
      dsimp only
      unfold extO
      cases owLst r[i]? with
      | bad => cases d <;> rfl
      | ok xs => cases d <;> rfl
    | exn c v r => rfl
    | bad => rfl
theorem extd_ok (h : xs.length + ys.length ≤ 16777216) : extO i (.lst ys) (.ok xs) ρ = .nx (ρ.set i (.ow (.lst (xs ++ ys)))) := if_pos h
def insO (i : Nat) (ds : List D) (z : R (List D)) (ρ : Rho) : SO := match z, ds with
  | .ok xs, [.int k, d] => if (xs.length < 16777216 ∧ 0 ≤ k) ∧ k < 2 ^ 63 then .nx (ρ.set i (.ow (.lst (xs.take k.toNat ++ [d] ++ xs.drop k.toNat)))) else .bad
  | _, _ => .bad
theorem s_ins : sIns i m ρ = isO (owLst ρ[i]?) ((m ρ).so fun d => fun ρ => insO i d (owLst ρ[i]?) ρ) := by
  unfold sIns isO
  cases owLst ρ[i]? with
  | bad => rfl
  | ok xs =>
    dsimp only
    unfold sDo Out.so
    cases m ρ with
    | ok d r =>
      dsimp only
      unfold insO
      cases owLst r[i]? with
      | bad => first | rfl | (split <;> rfl)
      | ok xs => first | rfl | (split <;> rfl)
    | exn c v r => rfl
    | bad => rfl
theorem ins_ok {n : Int} (h : xs.length < 16777216) (h0 : 0 ≤ n) (h1 : n < 2 ^ 63) : insO i [.int n, x] (.ok xs) ρ = .nx (ρ.set i (.ow (.lst (xs.take n.toNat ++ [x] ++ xs.drop n.toNat)))) := if_pos ⟨⟨h, h0⟩, h1⟩
def addO (z : R D) (i : Nat) (ρ : Rho) : SO := match z with
  | .ok d => .nx (ρ.set i (.cl d))
  | .bad => .bad
def augS (z : Option Sl) (i : Nat) (o : Out D) : SO := match z with
  | some (.cl v) => o.so fun y => fun ρ => addO (addIS v y) i ρ
  | _ => .bad
theorem s_aug : sAug i a ρ = augS ρ[i]? i (a ρ) := by
  unfold sAug augS
  match ρ[i]? with
  | some (.cl v) =>
    dsimp only
    unfold sDo Out.so addO
    cases a ρ with
    | ok d r => first | (dsimp only; done) | (dsimp only; cases addIS v d <;> rfl)
    | exn c v r => rfl
    | bad => rfl
  | some (.ow d) => rfl
  | some .no => rfl
  | none => rfl
theorem aug_cl {o : Out D} : augS (some (.cl x)) i o = o.so fun y => fun ρ => addO (addIS x y) i ρ := rfl
theorem add_o : addO (.ok x) i ρ = .nx (ρ.set i (.cl x)) := rfl
theorem augs_str {a b : List Nat} (h : a.length + b.length ≤ 16777216) : addIS (.str (mkS a)) (.str (mkS b)) = .ok (.str (mkS (a ++ b))) := by
  show (if (mkS a).length + (mkS b).length ≤ 16777216 then R.ok (D.str (mkS a ++ mkS b)) else .bad) = _
  rw [mkS_len, mkS_len, if_pos h, app_mkS]
theorem add_lst (h : xs.length + ys.length ≤ 16777216) : opAdd (.lst xs) (.lst ys) = .ok (.lst (xs ++ ys)) := if_pos h
theorem max_nat {a b : Nat} : opMax [.int (a : Nat), .int (b : Nat)] = .ok (.int ((max a b : Nat) : Int)) := by
  rw [max_int]
  congr 2
  split <;> omega
theorem min_nat {a b : Nat} : opMin [.int (a : Int), .int (b : Int)] = .ok (.int ((min a b : Nat) : Int)) := by
  show R.ok (D.int (if (b : Int) < (a : Int) then (b : Int) else (a : Int))) = _
  congr 2
  split <;> omega
end
end DL

set_option Elab.async false
set_option linter.all false
set_option maxRecDepth 100000
set_option maxHeartbeats 400000
namespace DL
open PySem PySem.Spec PyProof.Rows L2
def pD (x : Nat × Nat) : D := .tup [.int (x.1 : Nat), .int (x.2 : Nat)]
theorem mk2t {a b : D} : mkTup [a, b] = .ok (.tup [a, b]) := rfl
theorem mkl1 {a : D} : mkLst [a] = .ok (.lst [a]) := rfl
theorem mkl0 : mkLst [] = .ok (.lst []) := rfl
/-! plain_spots -/
noncomputable def spBody : MS := (sSeq (sApp 1 (eN mkTup (aCons (eVar 2) (aCons (e2 opIx (eVar 3) (eC (.int 0))) (aNil)))))
  (sSeq (sAsg (e2 opIx (eVar 3) (eC (.int 3))) (tgName 2))
  (sAsg (eCall f_first_kept (aCons (eVar 0) (aCons (eVar 2) (aNil)))) (tgName 3))))
noncomputable def spCond : M Bool := (bOf (e2 opNotN (eVar 3) (eC .non)))
theorem spots_loop {t : List Nat} (hl : t.length ≤ 8000000) : ∀ (f a : Nat) (acc : List D) (i : Int) (N : Nat), i = (a : Nat) → t.length < a + f → f < N → acc.length + f < 16777216 →
    ∃ (L' : List (Nat × Nat)) (a' : Nat), iv t f a = L' ++ [(a', t.length)] ∧ whLoop spCond spBody N [.cl (.str (mkS t)), .ow (.lst acc), .cl (.int i), .cl (fD t (fk t a))] = .nx [.cl (.str (mkS t)), .ow (.lst (acc ++ L'.map pD)), .cl (.int (a' : Nat)), .cl .non]
  | f, a, acc, i, 0, _, _, h, _ => by omega
  | f, a, acc, i, N + 1, hi, hf, hN, ha => by
    subst hi
    cases q : fk t a with
    | none =>
      refine ⟨[], a, ?_, ?_⟩
      · cases f with
        | zero => rfl
        | succ f => show (match fk t a with | none => [(a, t.length)] | some (s, k, e) => (a, s) :: iv t f (e + (kL k).length)) = _; rw [q]; rfl
      · rw [List.map_nil, List.append_nil]
        refine wh_end ?_
        unfold spCond
        simp only [s_seq, th_nx, th_ret, th_exn, s_asg, s_asgO, s_ret, s_retN, s_drop, s_if, s_next, s_raise, e_var, e_own, g_var, g_own1, g_own2, e_c, e_2, e_1, e_N, e_nil, e_cons, e_call, fo_ok, fo_exn, e_callD, e_callK, e_if, e_and, e_or, e_not, e_pure, e_of, e_tr, e_bnot, e_band, e_bor, e_chain, e_bind, e_lift, i_bl, t_bl, e_cut, e_pno, e_pat, p_int, i_seq, i_range, i_zip, bnd_ok, bnd_exn, so_ok, so_exn, rb_ok, if_true, if_false, Bool.false_eq_true, e_callO, ow_is, ow_in, ow_ok, fo_ret, fo_ret0, fo_ex, s_par, par_2, s_parO, s_app, ow_lst, e_move, mv_ow, s_asgTup, tup_2, e_wcl, e_wow, s_trip, s_pair, ow_l, is_o, s_ext, s_ins, s_aug, aug_cl, add_o, e_MT, List.getElem?_cons_succ, List.getElem?_cons_zero, List.set_cons_zero, List.set_cons_succ, List.cons_append, List.nil_append, fD, notN_n]
    | some x =>
      obtain ⟨s, k, e⟩ := x
      obtain ⟨h1, h2, h3⟩ := fk_some q
      obtain ⟨h4, h5, h6⟩ := kend_spec (ke_spec h2)
      have := kS_len k
      cases f with
      | zero => omega
      | succ f =>
        have C := first_kept_ok hl (i := (e : Int) + ((kL k).length : Nat)) (e + (kL k).length) (by omega)
        obtain ⟨L', a', e1, e2⟩ := spots_loop hl f (e + (kL k).length) (acc ++ [pD (a, s)]) ((e : Int) + ((kL k).length : Nat)) N (by omega) (by omega) (by omega) (by simp; omega)
        refine ⟨(a, s) :: L', a', ?_, ?_⟩
        · show (match fk t a with | none => [(a, t.length)] | some (s, k, e) => (a, s) :: iv t f (e + (kL k).length)) = _
          rw [q]
          show (a, s) :: iv t f (e + (kL k).length) = _
          rw [e1]
          rfl
        · rw [List.append_assoc] at e2
          refine wh_go (ρ1 := [.cl (.str (mkS t)), .ow (.lst acc), .cl (.int (a : Nat)), .cl (fD t (some (s, k, e)))]) ?_ ?_ e2
          · unfold spCond
            simp only [s_seq, th_nx, th_ret, th_exn, s_asg, s_asgO, s_ret, s_retN, s_drop, s_if, s_next, s_raise, e_var, e_own, g_var, g_own1, g_own2, e_c, e_2, e_1, e_N, e_nil, e_cons, e_call, fo_ok, fo_exn, e_callD, e_callK, e_if, e_and, e_or, e_not, e_pure, e_of, e_tr, e_bnot, e_band, e_bor, e_chain, e_bind, e_lift, i_bl, t_bl, e_cut, e_pno, e_pat, p_int, i_seq, i_range, i_zip, bnd_ok, bnd_exn, so_ok, so_exn, rb_ok, if_true, if_false, Bool.false_eq_true, e_callO, ow_is, ow_in, ow_ok, fo_ret, fo_ret0, fo_ex, s_par, par_2, s_parO, s_app, ow_lst, e_move, mv_ow, s_asgTup, tup_2, e_wcl, e_wow, s_trip, s_pair, ow_l, is_o, s_ext, s_ins, s_aug, aug_cl, add_o, e_MT, List.getElem?_cons_succ, List.getElem?_cons_zero, List.set_cons_zero, List.set_cons_succ, List.cons_append, List.nil_append, fD, notN_t]
          · unfold spBody
            have hp : putOw 1 (pD (a, s)) (some (.ow (.lst acc))) [.cl (.str (mkS t)), .ow (.lst acc), .cl (.int (a : Nat)), .cl (fD t (some (s, k, e)))] = _ := put_lst (by omega)
            unfold pD fD at hp
            simp only [s_seq, th_nx, th_ret, th_exn, s_asg, s_asgO, s_ret, s_retN, s_drop, s_if, s_next, s_raise, e_var, e_own, g_var, g_own1, g_own2, e_c, e_2, e_1, e_N, e_nil, e_cons, e_call, fo_ok, fo_exn, e_callD, e_callK, e_if, e_and, e_or, e_not, e_pure, e_of, e_tr, e_bnot, e_band, e_bor, e_chain, e_bind, e_lift, i_bl, t_bl, e_cut, e_pno, e_pat, p_int, i_seq, i_range, i_zip, bnd_ok, bnd_exn, so_ok, so_exn, rb_ok, if_true, if_false, Bool.false_eq_true, e_callO, ow_is, ow_in, ow_ok, fo_ret, fo_ret0, fo_ex, s_par, par_2, s_parO, s_app, ow_lst, e_move, mv_ow, s_asgTup, tup_2, e_wcl, e_wow, s_trip, s_pair, ow_l, is_o, s_ext, s_ins, s_aug, aug_cl, add_o, e_MT, List.getElem?_cons_succ, List.getElem?_cons_zero, List.set_cons_zero, List.set_cons_succ, List.cons_append, List.nil_append, fD, ixq0, mk2t, hp, ixq3, C]
            rfl
theorem plain_spots_ok {t : List Nat} (hl : t.length ≤ 900000) : f_plain_spots [.str (mkS t)] = .ok (.lst ((iv t (t.length + 1) 0).map pD)) [] := by
  obtain ⟨L', a', e1, e2⟩ := spots_loop (t := t) (by omega) (t.length + 1) 0 [] 0 1000000 rfl (by omega) (by omega) (by simp; omega)
  have hlen := iv_len (t := t) (t.length + 1) 0
  have C := first_kept_ok (t := t) (by omega) (i := 0) 0 rfl
  rw [e1, List.length_append] at hlen
  refine (run_of (ρ0 := [.cl (.str (mkS t)), .no, .no, .no]) rfl).trans ?_
  unfold m_plain_spots
  unfold spCond spBody at e2
  have A : opAdd (.lst (L'.map pD)) (.lst [.tup [.int (a' : Nat), .int (t.length : Nat)]]) = .ok (.lst ((iv t (t.length + 1) 0).map pD)) := by
    rw [add_lst (by simp at hlen ⊢; omega), e1, List.map_append]
    rfl
  simp only [s_seq, th_nx, th_ret, th_exn, s_asg, s_asgO, s_ret, s_retN, s_drop, s_if, s_next, s_raise, e_var, e_own, g_var, g_own1, g_own2, e_c, e_2, e_1, e_N, e_nil, e_cons, e_call, fo_ok, fo_exn, e_callD, e_callK, e_if, e_and, e_or, e_not, e_pure, e_of, e_tr, e_bnot, e_band, e_bor, e_chain, e_bind, e_lift, i_bl, t_bl, e_cut, e_pno, e_pat, p_int, i_seq, i_range, i_zip, bnd_ok, bnd_exn, so_ok, so_exn, rb_ok, if_true, if_false, Bool.false_eq_true, e_callO, ow_is, ow_in, ow_ok, fo_ret, fo_ret0, fo_ex, s_par, par_2, s_parO, s_app, ow_lst, e_move, mv_ow, s_asgTup, tup_2, e_wcl, e_wow, s_trip, s_pair, ow_l, is_o, s_ext, s_ins, s_aug, aug_cl, add_o, e_MT, List.getElem?_cons_succ, List.getElem?_cons_zero, List.set_cons_zero, List.set_cons_succ, List.cons_append, List.nil_append, mkl0, C, e2, len_mkS (show t.length ≤ 16777216 by omega), mk2t, mkl1, A]
/-! found_outside -/
noncomputable def foBody : MS := (sSeq (sAsg (eMT .str opFind4 (eVar 0) (aCons (eVar 2) (aCons (eN opMax (aCons (eVar 4) (aCons (eVar 3) (aNil)))) (aCons (eVar 5) (aNil))))) (tgName 6))
  (sIf (bOf (e2 opGe (eVar 6) (eC (.int 0)))) (sRet (eVar 6)) (sNext)))
theorem fo_loop {t w : List Nat} {a : Nat} {y : D} : ∀ (L : List (Nat × Nat)) (z4 z5 z6 : Sl), (∀ x ∈ L, x.2 ≤ t.length) → ∃ ρ', forLoop (tgTup [4, 5]) foBody (L.map pD) [.cl (.str (mkS t)), .cl y, .cl (.str (mkS w)), .cl (.int (a : Nat)), z4, z5, z6] = match foL t w a L with
    | some i => .ret (.int (i : Nat)) ρ'
    | none => .nx ρ'
  | [], z4, z5, z6, _ => ⟨_, rfl⟩
  | x :: L, z4, z5, z6, h => by
    have F := find4_mk (t := t) (w := w) (i := ((max x.1 a : Nat) : Int)) (j := ((x.2 : Nat) : Int)) (max x.1 a) x.2 rfl rfl (h x List.mem_cons_self)
    show ∃ ρ', (foBody [.cl (.str (mkS t)), .cl y, .cl (.str (mkS w)), .cl (.int (a : Nat)), .cl (.int (x.1 : Nat)), .cl (.int (x.2 : Nat)), z6]).turn (forLoop (tgTup [4, 5]) foBody (L.map pD)) = match (match fnd w t (max x.1 a) x.2 with
      | some i => some i
      | none => foL t w a L) with
      | some i => SO.ret (.int (i : Nat)) ρ'
      | none => .nx ρ'
    cases q : fnd w t (max x.1 a) x.2 with
    | some i =>
      rw [q] at F
      have gi : decide ((0 : Int) ≤ (i : Nat)) = true := decide_eq_true (by omega)
      have B : foBody [.cl (.str (mkS t)), .cl y, .cl (.str (mkS w)), .cl (.int (a : Nat)), .cl (.int (x.1 : Nat)), .cl (.int (x.2 : Nat)), z6] = .ret (.int (i : Nat)) [.cl (.str (mkS t)), .cl y, .cl (.str (mkS w)), .cl (.int (a : Nat)), .cl (.int (x.1 : Nat)), .cl (.int (x.2 : Nat)), .cl (.int (i : Nat))] := by
        unfold foBody
        simp only [s_seq, th_nx, th_ret, th_exn, s_asg, s_asgO, s_ret, s_retN, s_drop, s_if, s_next, s_raise, e_var, e_own, g_var, g_own1, g_own2, e_c, e_2, e_1, e_N, e_nil, e_cons, e_call, fo_ok, fo_exn, e_callD, e_callK, e_if, e_and, e_or, e_not, e_pure, e_of, e_tr, e_bnot, e_band, e_bor, e_chain, e_bind, e_lift, i_bl, t_bl, e_cut, e_pno, e_pat, p_int, i_seq, i_range, i_zip, bnd_ok, bnd_exn, so_ok, so_exn, rb_ok, if_true, if_false, Bool.false_eq_true, e_callO, ow_is, ow_in, ow_ok, fo_ret, fo_ret0, fo_ex, s_par, par_2, s_parO, s_app, ow_lst, e_move, mv_ow, s_asgTup, tup_2, e_wcl, e_wow, s_trip, s_pair, ow_l, is_o, s_ext, s_ins, s_aug, aug_cl, add_o, e_MT, List.getElem?_cons_succ, List.getElem?_cons_zero, List.set_cons_zero, List.set_cons_succ, List.cons_append, List.nil_append, isT_s, max_nat, F, fI, ge_int, gi]
      exact ⟨_, by rw [B]; rfl⟩
    | none =>
      rw [q] at F
      have gm : decide ((0 : Int) ≤ -1) = false := rfl
      have B : foBody [.cl (.str (mkS t)), .cl y, .cl (.str (mkS w)), .cl (.int (a : Nat)), .cl (.int (x.1 : Nat)), .cl (.int (x.2 : Nat)), z6] = .nx [.cl (.str (mkS t)), .cl y, .cl (.str (mkS w)), .cl (.int (a : Nat)), .cl (.int (x.1 : Nat)), .cl (.int (x.2 : Nat)), .cl (.int (-1))] := by
        unfold foBody
        simp only [s_seq, th_nx, th_ret, th_exn, s_asg, s_asgO, s_ret, s_retN, s_drop, s_if, s_next, s_raise, e_var, e_own, g_var, g_own1, g_own2, e_c, e_2, e_1, e_N, e_nil, e_cons, e_call, fo_ok, fo_exn, e_callD, e_callK, e_if, e_and, e_or, e_not, e_pure, e_of, e_tr, e_bnot, e_band, e_bor, e_chain, e_bind, e_lift, i_bl, t_bl, e_cut, e_pno, e_pat, p_int, i_seq, i_range, i_zip, bnd_ok, bnd_exn, so_ok, so_exn, rb_ok, if_true, if_false, Bool.false_eq_true, e_callO, ow_is, ow_in, ow_ok, fo_ret, fo_ret0, fo_ex, s_par, par_2, s_parO, s_app, ow_lst, e_move, mv_ow, s_asgTup, tup_2, e_wcl, e_wow, s_trip, s_pair, ow_l, is_o, s_ext, s_ins, s_aug, aug_cl, add_o, e_MT, List.getElem?_cons_succ, List.getElem?_cons_zero, List.set_cons_zero, List.set_cons_succ, List.cons_append, List.nil_append, isT_s, max_nat, F, fI, ge_int, gm]
      obtain ⟨ρ', e⟩ := fo_loop L (.cl (.int (x.1 : Nat))) (.cl (.int (x.2 : Nat))) (.cl (.int (-1))) fun x hx => h x (List.mem_cons_of_mem _ hx)
      exact ⟨ρ', by rw [B]; exact e⟩
theorem found_outside_ok {t w : List Nat} {L : List (Nat × Nat)} (h : ∀ x ∈ L, x.2 ≤ t.length) {i : Int} (a : Nat) (hi : i = (a : Nat)) : f_found_outside [.str (mkS t), .lst (L.map pD), .str (mkS w), .int i] = .ok (.int (fI (foL t w a L))) [] := by
  subst hi
  obtain ⟨ρ', e⟩ := fo_loop (t := t) (w := w) (a := a) (y := .lst (L.map pD)) L .no .no .no h
  unfold foBody at e
  refine (run_of (ρ0 := [.cl (.str (mkS t)), .cl (.lst (L.map pD)), .cl (.str (mkS w)), .cl (.int (a : Nat)), .no, .no, .no]) rfl).trans ?_
  unfold m_found_outside
  have it : items (.lst (L.map pD)) = .ok (L.map pD) := rfl
  cases q : foL t w a L with
  | some i =>
    rw [q] at e
    simp only [s_seq, th_nx, th_ret, th_exn, s_asg, s_asgO, s_ret, s_retN, s_drop, s_if, s_next, s_raise, e_var, e_own, g_var, g_own1, g_own2, e_c, e_2, e_1, e_N, e_nil, e_cons, e_call, fo_ok, fo_exn, e_callD, e_callK, e_if, e_and, e_or, e_not, e_pure, e_of, e_tr, e_bnot, e_band, e_bor, e_chain, e_bind, e_lift, i_bl, t_bl, e_cut, e_pno, e_pat, p_int, i_seq, i_range, i_zip, bnd_ok, bnd_exn, so_ok, so_exn, rb_ok, if_true, if_false, Bool.false_eq_true, e_callO, ow_is, ow_in, ow_ok, fo_ret, fo_ret0, fo_ex, s_par, par_2, s_parO, s_app, ow_lst, e_move, mv_ow, s_asgTup, tup_2, e_wcl, e_wow, s_trip, s_pair, ow_l, is_o, s_ext, s_ins, s_aug, aug_cl, add_o, e_MT, List.getElem?_cons_succ, List.getElem?_cons_zero, List.set_cons_zero, List.set_cons_succ, List.cons_append, List.nil_append, s_for, it, e, th_ret, fI]
  | none =>
    rw [q] at e
    simp only [s_seq, th_nx, th_ret, th_exn, s_asg, s_asgO, s_ret, s_retN, s_drop, s_if, s_next, s_raise, e_var, e_own, g_var, g_own1, g_own2, e_c, e_2, e_1, e_N, e_nil, e_cons, e_call, fo_ok, fo_exn, e_callD, e_callK, e_if, e_and, e_or, e_not, e_pure, e_of, e_tr, e_bnot, e_band, e_bor, e_chain, e_bind, e_lift, i_bl, t_bl, e_cut, e_pno, e_pat, p_int, i_seq, i_range, i_zip, bnd_ok, bnd_exn, so_ok, so_exn, rb_ok, if_true, if_false, Bool.false_eq_true, e_callO, ow_is, ow_in, ow_ok, fo_ret, fo_ret0, fo_ex, s_par, par_2, s_parO, s_app, ow_lst, e_move, mv_ow, s_asgTup, tup_2, e_wcl, e_wow, s_trip, s_pair, ow_l, is_o, s_ext, s_ins, s_aug, aug_cl, add_o, e_MT, List.getElem?_cons_succ, List.getElem?_cons_zero, List.set_cons_zero, List.set_cons_succ, List.cons_append, List.nil_append, s_for, it, e, fI, neg1]
end DL

set_option Elab.async false
set_option linter.all false
set_option maxRecDepth 100000
set_option maxHeartbeats 400000
namespace DL
open PySem PySem.Spec PyProof.Rows L2
/-! stretches_of -/
def wd (k : Bool) : Str := if k = true then "not" else "only"
def elS (k : Bool) : D := .tup [.str (wd k), .str (mkS (oS k)), .str (mkS (oC k))]
theorem str_items : items d_STRETCHES = .ok [elS false, elS true] := by kernel_rfl
def sD (x : Nat × Bool × Nat) : D := .tup [.str (wd x.2.1), .int (x.1 : Nat), .int ((x.1 : Int) + ((oS x.2.1).length : Nat)), .int (x.2.2 : Nat), .int ((x.2.2 : Int) + ((oC x.2.1).length : Nat))]
def bD : Option (Nat × Bool × Nat) → D
  | none => .non
  | some x => sD x
def bstp (t : List Nat) (L : List (Nat × Nat)) (k : Bool) (a : Nat) (found : Option (Nat × Bool × Nat)) : Option (Nat × Bool × Nat) := match cnd t L k a with
  | none => found
  | some (s, e) => match found with
    | none => some (s, k, e)
    | some (s0, k0, e0) => if s < s0 then some (s, k, e) else some (s0, k0, e0)
theorem bst_steps {t : List Nat} {L : List (Nat × Nat)} {a : Nat} : bst t L a = bstp t L true a (bstp t L false a none) := by
  unfold bst bstp
  cases cnd t L false a with
  | none => cases cnd t L true a <;> rfl
  | some x => cases cnd t L true a <;> rfl
noncomputable def bbody : MS := (sSeq (sAsg (eCall f_found_outside (aCons (eVar 0) (aCons (eVar 1) (aCons (eVar 6) (aCons (eVar 3) (aNil)))))) (tgName 8))
  (sSeq (sAsg (eIf (bOf (e2 opLt (eVar 8) (eC (.int 0)))) (e1 opNeg (eC (.int 1))) (eCall f_found_outside (aCons (eVar 0) (aCons (eVar 1) (aCons (eVar 7) (aCons (e2 opAdd (eVar 8) (eN opLen (aCons (eVar 6) (aNil)))) (aNil))))))) (tgName 9))
  (sIf (bAnd (bOf (e2 opGe (eVar 9) (eC (.int 0)))) (bOr (bOf (e2 opIsN (eVar 4) (eC .non))) (bOf (e2 opLt (eVar 8) (e2 opIx (eVar 4) (eC (.int 1))))))) (sAsg (eN mkTup (aCons (eVar 5) (aCons (eVar 8) (aCons (e2 opAdd (eVar 8) (eN opLen (aCons (eVar 6) (aNil)))) (aCons (eVar 9) (aCons (e2 opAdd (eVar 9) (eN opLen (aCons (eVar 7) (aNil)))) (aNil))))))) (tgName 4)) (sNext))))
theorem oS_l (k : Bool) : (oS k).length ≤ 16777216 := by cases k <;> decide
theorem oC_l (k : Bool) : (oC k).length ≤ 16777216 := by cases k <;> decide
theorem bbody_ok {t : List Nat} {L : List (Nat × Nat)} (hL : ∀ x ∈ L, x.2 ≤ t.length) {k : Bool} {a : Nat} {found : Option (Nat × Bool × Nat)} {y2 y8 y9 : Sl} :
    ∃ z8 z9, bbody [.cl (.str (mkS t)), .cl (.lst (L.map pD)), y2, .cl (.int (a : Nat)), .cl (bD found), .cl (.str (wd k)), .cl (.str (mkS (oS k))), .cl (.str (mkS (oC k))), y8, y9] =
      .nx [.cl (.str (mkS t)), .cl (.lst (L.map pD)), y2, .cl (.int (a : Nat)), .cl (bD (bstp t L k a found)), .cl (.str (wd k)), .cl (.str (mkS (oS k))), .cl (.str (mkS (oC k))), z8, z9] := by
  have F1 := found_outside_ok (t := t) (w := oS k) hL (i := (a : Nat)) a rfl
  unfold bbody bstp cnd
  have lm : decide ((-1 : Int) < 0) = true := rfl
  have gm : decide ((0 : Int) ≤ -1) = false := rfl
  cases e1 : foL t (oS k) a L with
  | none =>
    rw [e1] at F1
    refine ⟨.cl (.int (-1)), .cl (.int (-1)), ?_⟩
    simp only [s_seq, th_nx, th_ret, th_exn, s_asg, s_asgO, s_ret, s_retN, s_drop, s_if, s_next, s_raise, e_var, e_own, g_var, g_own1, g_own2, e_c, e_2, e_1, e_N, e_nil, e_cons, e_call, fo_ok, fo_exn, e_callD, e_callK, e_if, e_and, e_or, e_not, e_pure, e_of, e_tr, e_bnot, e_band, e_bor, e_chain, e_bind, e_lift, i_bl, t_bl, e_cut, e_pno, e_pat, p_int, i_seq, i_range, i_zip, bnd_ok, bnd_exn, so_ok, so_exn, rb_ok, if_true, if_false, Bool.false_eq_true, e_callO, ow_is, ow_in, ow_ok, fo_ret, fo_ret0, fo_ex, s_par, par_2, s_parO, s_app, ow_lst, e_move, mv_ow, s_asgTup, tup_2, e_wcl, e_wow, s_trip, s_pair, ow_l, is_o, s_ext, s_ins, s_aug, aug_cl, add_o, e_MT, List.getElem?_cons_succ, List.getElem?_cons_zero, List.set_cons_zero, List.set_cons_succ, List.cons_append, List.nil_append, F1, fI, lt_int, lm, neg1, ge_int, gm]
  | some s =>
    rw [e1] at F1
    have F2 := found_outside_ok (t := t) (w := oC k) hL (i := (s : Int) + ((oS k).length : Nat)) (s + (oS k).length) (by omega)
    have ls : decide ((s : Int) < 0) = false := decide_eq_false (by omega)
    dsimp only
    cases e2 : foL t (oC k) (s + (oS k).length) L with
    | none =>
      rw [e2] at F2
      refine ⟨.cl (.int s), .cl (.int (-1)), ?_⟩
      simp only [s_seq, th_nx, th_ret, th_exn, s_asg, s_asgO, s_ret, s_retN, s_drop, s_if, s_next, s_raise, e_var, e_own, g_var, g_own1, g_own2, e_c, e_2, e_1, e_N, e_nil, e_cons, e_call, fo_ok, fo_exn, e_callD, e_callK, e_if, e_and, e_or, e_not, e_pure, e_of, e_tr, e_bnot, e_band, e_bor, e_chain, e_bind, e_lift, i_bl, t_bl, e_cut, e_pno, e_pat, p_int, i_seq, i_range, i_zip, bnd_ok, bnd_exn, so_ok, so_exn, rb_ok, if_true, if_false, Bool.false_eq_true, e_callO, ow_is, ow_in, ow_ok, fo_ret, fo_ret0, fo_ex, s_par, par_2, s_parO, s_app, ow_lst, e_move, mv_ow, s_asgTup, tup_2, e_wcl, e_wow, s_trip, s_pair, ow_l, is_o, s_ext, s_ins, s_aug, aug_cl, add_o, e_MT, List.getElem?_cons_succ, List.getElem?_cons_zero, List.set_cons_zero, List.set_cons_succ, List.cons_append, List.nil_append, F1, fI, lt_int, ls, len_mkS (oS_l k), add_int', F2, ge_int, gm]
    | some e =>
      rw [e2] at F2
      have ge : decide ((0 : Int) ≤ (e : Nat)) = true := decide_eq_true (by omega)
      refine ⟨.cl (.int s), .cl (.int e), ?_⟩
      cases found with
      | none =>
        simp only [s_seq, th_nx, th_ret, th_exn, s_asg, s_asgO, s_ret, s_retN, s_drop, s_if, s_next, s_raise, e_var, e_own, g_var, g_own1, g_own2, e_c, e_2, e_1, e_N, e_nil, e_cons, e_call, fo_ok, fo_exn, e_callD, e_callK, e_if, e_and, e_or, e_not, e_pure, e_of, e_tr, e_bnot, e_band, e_bor, e_chain, e_bind, e_lift, i_bl, t_bl, e_cut, e_pno, e_pat, p_int, i_seq, i_range, i_zip, bnd_ok, bnd_exn, so_ok, so_exn, rb_ok, if_true, if_false, Bool.false_eq_true, e_callO, ow_is, ow_in, ow_ok, fo_ret, fo_ret0, fo_ex, s_par, par_2, s_parO, s_app, ow_lst, e_move, mv_ow, s_asgTup, tup_2, e_wcl, e_wow, s_trip, s_pair, ow_l, is_o, s_ext, s_ins, s_aug, aug_cl, add_o, e_MT, List.getElem?_cons_succ, List.getElem?_cons_zero, List.set_cons_zero, List.set_cons_succ, List.cons_append, List.nil_append, F1, fI, lt_int, ls, len_mkS (oS_l k), len_mkS (oC_l k), add_int', F2, ge_int, ge, bD, sD, isN_n, mk5]
      | some x =>
        obtain ⟨s0, k0, e0⟩ := x
        dsimp only
        by_cases q : s < s0
        · have ls0 : decide ((s : Int) < (s0 : Nat)) = true := decide_eq_true (by omega)
          rw [if_pos q]
          simp only [s_seq, th_nx, th_ret, th_exn, s_asg, s_asgO, s_ret, s_retN, s_drop, s_if, s_next, s_raise, e_var, e_own, g_var, g_own1, g_own2, e_c, e_2, e_1, e_N, e_nil, e_cons, e_call, fo_ok, fo_exn, e_callD, e_callK, e_if, e_and, e_or, e_not, e_pure, e_of, e_tr, e_bnot, e_band, e_bor, e_chain, e_bind, e_lift, i_bl, t_bl, e_cut, e_pno, e_pat, p_int, i_seq, i_range, i_zip, bnd_ok, bnd_exn, so_ok, so_exn, rb_ok, if_true, if_false, Bool.false_eq_true, e_callO, ow_is, ow_in, ow_ok, fo_ret, fo_ret0, fo_ex, s_par, par_2, s_parO, s_app, ow_lst, e_move, mv_ow, s_asgTup, tup_2, e_wcl, e_wow, s_trip, s_pair, ow_l, is_o, s_ext, s_ins, s_aug, aug_cl, add_o, e_MT, List.getElem?_cons_succ, List.getElem?_cons_zero, List.set_cons_zero, List.set_cons_succ, List.cons_append, List.nil_append, F1, fI, lt_int, ls, len_mkS (oS_l k), len_mkS (oC_l k), add_int', F2, ge_int, ge, bD, sD, isN_t, ixq1, ls0, mk5]
        · have ls0 : decide ((s : Int) < (s0 : Nat)) = false := decide_eq_false (by omega)
          rw [if_neg q]
          simp only [s_seq, th_nx, th_ret, th_exn, s_asg, s_asgO, s_ret, s_retN, s_drop, s_if, s_next, s_raise, e_var, e_own, g_var, g_own1, g_own2, e_c, e_2, e_1, e_N, e_nil, e_cons, e_call, fo_ok, fo_exn, e_callD, e_callK, e_if, e_and, e_or, e_not, e_pure, e_of, e_tr, e_bnot, e_band, e_bor, e_chain, e_bind, e_lift, i_bl, t_bl, e_cut, e_pno, e_pat, p_int, i_seq, i_range, i_zip, bnd_ok, bnd_exn, so_ok, so_exn, rb_ok, if_true, if_false, Bool.false_eq_true, e_callO, ow_is, ow_in, ow_ok, fo_ret, fo_ret0, fo_ex, s_par, par_2, s_parO, s_app, ow_lst, e_move, mv_ow, s_asgTup, tup_2, e_wcl, e_wow, s_trip, s_pair, ow_l, is_o, s_ext, s_ins, s_aug, aug_cl, add_o, e_MT, List.getElem?_cons_succ, List.getElem?_cons_zero, List.set_cons_zero, List.set_cons_succ, List.cons_append, List.nil_append, F1, fI, lt_int, ls, len_mkS (oS_l k), len_mkS (oC_l k), add_int', F2, ge_int, ge, bD, sD, isN_t, ixq1, ls0]
noncomputable def stBody : MS := (sSeq (sAsg (eC .non) (tgName 4))
  (sSeq (sFor (tgTup [5, 6, 7]) (iSeq (eC d_STRETCHES)) bbody)
  (sSeq (sAsg (eIf (bOf (e2 opIsN (eVar 4) (eC .non))) (eC .non) (e2 opIx (eVar 4) (eC (.int 4)))) (tgName 3))
  (sExt 2 (eIf (bOf (e2 opIsN (eVar 4) (eC .non))) (eN mkLst (aNil)) (eN mkLst (aCons (eVar 4) (aNil))))))))
noncomputable def stCond : M Bool := (bOf (e2 opNotN (eVar 3) (eC .non)))
theorem b_loop {t : List Nat} {L : List (Nat × Nat)} (hL : ∀ x ∈ L, x.2 ≤ t.length) {a : Nat} {y2 y5 y6 y7 y8 y9 : Sl} :
    ∃ z5 z6 z7 z8 z9, forLoop (tgTup [5, 6, 7]) bbody [elS false, elS true] [.cl (.str (mkS t)), .cl (.lst (L.map pD)), y2, .cl (.int (a : Nat)), .cl .non, y5, y6, y7, y8, y9] =
      .nx [.cl (.str (mkS t)), .cl (.lst (L.map pD)), y2, .cl (.int (a : Nat)), .cl (bD (bst t L a)), z5, z6, z7, z8, z9] := by
  obtain ⟨z6, z7, h1⟩ := bbody_ok hL (k := false) (a := a) (found := none) (y2 := y2) (y8 := y8) (y9 := y9)
  obtain ⟨u6, u7, h2⟩ := bbody_ok hL (k := true) (a := a) (found := bstp t L false a none) (y2 := y2) (y8 := z6) (y9 := z7)
  refine ⟨.cl (.str (wd true)), .cl (.str (mkS (oS true))), .cl (.str (mkS (oC true))), u6, u7, ?_⟩
  rw [bst_steps]
  exact for_nx rfl h1 (for_nx rfl h2 for_nil)
theorem st_step {t : List Nat} {L : List (Nat × Nat)} (hL : ∀ x ∈ L, x.2 ≤ t.length) {a : Nat} {acc : List D} {y4 y5 y6 y7 y8 y9 : Sl} (ha : acc.length < 16777215) :
    ∃ z4 z5 z6 z7 z8 z9, stBody [.cl (.str (mkS t)), .cl (.lst (L.map pD)), .ow (.lst acc), .cl (.int (a : Nat)), y4, y5, y6, y7, y8, y9] =
      .nx (match bst t L a with
        | none => [.cl (.str (mkS t)), .cl (.lst (L.map pD)), .ow (.lst acc), .cl .non, z4, z5, z6, z7, z8, z9]
        | some x => [.cl (.str (mkS t)), .cl (.lst (L.map pD)), .ow (.lst (acc ++ [sD x])), .cl (.int ((x.2.2 : Int) + ((oC x.2.1).length : Nat))), z4, z5, z6, z7, z8, z9]) := by
  obtain ⟨z5, z6, z7, z8, z9, B⟩ := b_loop hL (a := a) (y2 := .ow (.lst acc)) (y5 := y5) (y6 := y6) (y7 := y7) (y8 := y8) (y9 := y9)
  refine ⟨.cl (bD (bst t L a)), z5, z6, z7, z8, z9, ?_⟩
  unfold stBody
  cases q : bst t L a with
  | none =>
    rw [q] at B
    have X : ∀ {ρ : Rho}, extO 2 (.lst []) (.ok acc) ρ = .nx (ρ.set 2 (.ow (.lst acc))) := fun {ρ} => by rw [extd_ok (by simp; omega), List.append_nil]
    simp only [s_seq, th_nx, th_ret, th_exn, s_asg, s_asgO, s_ret, s_retN, s_drop, s_if, s_next, s_raise, e_var, e_own, g_var, g_own1, g_own2, e_c, e_2, e_1, e_N, e_nil, e_cons, e_call, fo_ok, fo_exn, e_callD, e_callK, e_if, e_and, e_or, e_not, e_pure, e_of, e_tr, e_bnot, e_band, e_bor, e_chain, e_bind, e_lift, i_bl, t_bl, e_cut, e_pno, e_pat, p_int, i_seq, i_range, i_zip, bnd_ok, bnd_exn, so_ok, so_exn, rb_ok, if_true, if_false, Bool.false_eq_true, e_callO, ow_is, ow_in, ow_ok, fo_ret, fo_ret0, fo_ex, s_par, par_2, s_parO, s_app, ow_lst, e_move, mv_ow, s_asgTup, tup_2, e_wcl, e_wow, s_trip, s_pair, ow_l, is_o, s_ext, s_ins, s_aug, aug_cl, add_o, e_MT, List.getElem?_cons_succ, List.getElem?_cons_zero, List.set_cons_zero, List.set_cons_succ, List.cons_append, List.nil_append, s_for, str_items, B, bD, isN_n, mkl0, X]
  | some x =>
    obtain ⟨s, k, e⟩ := x
    rw [q] at B
    have X : ∀ {ρ : Rho}, extO 2 (.lst [sD (s, k, e)]) (.ok acc) ρ = .nx (ρ.set 2 (.ow (.lst (acc ++ [sD (s, k, e)])))) := fun {ρ} => extd_ok (by simp; omega)
    unfold sD at X
    simp only [s_seq, th_nx, th_ret, th_exn, s_asg, s_asgO, s_ret, s_retN, s_drop, s_if, s_next, s_raise, e_var, e_own, g_var, g_own1, g_own2, e_c, e_2, e_1, e_N, e_nil, e_cons, e_call, fo_ok, fo_exn, e_callD, e_callK, e_if, e_and, e_or, e_not, e_pure, e_of, e_tr, e_bnot, e_band, e_bor, e_chain, e_bind, e_lift, i_bl, t_bl, e_cut, e_pno, e_pat, p_int, i_seq, i_range, i_zip, bnd_ok, bnd_exn, so_ok, so_exn, rb_ok, if_true, if_false, Bool.false_eq_true, e_callO, ow_is, ow_in, ow_ok, fo_ret, fo_ret0, fo_ex, s_par, par_2, s_parO, s_app, ow_lst, e_move, mv_ow, s_asgTup, tup_2, e_wcl, e_wow, s_trip, s_pair, ow_l, is_o, s_ext, s_ins, s_aug, aug_cl, add_o, e_MT, List.getElem?_cons_succ, List.getElem?_cons_zero, List.set_cons_zero, List.set_cons_succ, List.cons_append, List.nil_append, s_for, str_items, B, bD, sD, isN_t, ixq4, mkl1, X]
theorem st_loop {t : List Nat} {L : List (Nat × Nat)} {p0 : Nat} (h : Iv t.length p0 L) (hL : ∀ x ∈ L, x.2 ≤ t.length) : ∀ (f a : Nat) (acc : List D) (i : Int) (N : Nat) (y4 y5 y6 y7 y8 y9 : Sl), i = (a : Nat) → t.length < a + f → f + 2 < N → acc.length + f < 16777214 →
    ∃ z4 z5 z6 z7 z8 z9, whLoop stCond stBody N [.cl (.str (mkS t)), .cl (.lst (L.map pD)), .ow (.lst acc), .cl (.int i), y4, y5, y6, y7, y8, y9] =
      .nx [.cl (.str (mkS t)), .cl (.lst (L.map pD)), .ow (.lst (acc ++ (strP t L f a).map sD)), .cl .non, z4, z5, z6, z7, z8, z9]
  | f, a, acc, i, 0, y4, y5, y6, y7, y8, y9, _, _, hN, _ => by omega
  | f, a, acc, i, 1, y4, y5, y6, y7, y8, y9, _, _, hN, _ => by omega
  | f, a, acc, i, N + 2, y4, y5, y6, y7, y8, y9, hi, hf, hN, ha => by
    subst hi
    obtain ⟨z4, z5, z6, z7, z8, z9, B⟩ := st_step hL (a := a) (acc := acc) (y4 := y4) (y5 := y5) (y6 := y6) (y7 := y7) (y8 := y8) (y9 := y9) (by omega)
    have C : stCond [.cl (.str (mkS t)), .cl (.lst (L.map pD)), .ow (.lst acc), .cl (.int (a : Nat)), y4, y5, y6, y7, y8, y9] = .ok true [.cl (.str (mkS t)), .cl (.lst (L.map pD)), .ow (.lst acc), .cl (.int (a : Nat)), y4, y5, y6, y7, y8, y9] := by
      have : opNotN (.int (a : Nat)) .non = .ok (.bl true) := rfl
      unfold stCond
      simp only [s_seq, th_nx, th_ret, th_exn, s_asg, s_asgO, s_ret, s_retN, s_drop, s_if, s_next, s_raise, e_var, e_own, g_var, g_own1, g_own2, e_c, e_2, e_1, e_N, e_nil, e_cons, e_call, fo_ok, fo_exn, e_callD, e_callK, e_if, e_and, e_or, e_not, e_pure, e_of, e_tr, e_bnot, e_band, e_bor, e_chain, e_bind, e_lift, i_bl, t_bl, e_cut, e_pno, e_pat, p_int, i_seq, i_range, i_zip, bnd_ok, bnd_exn, so_ok, so_exn, rb_ok, if_true, if_false, Bool.false_eq_true, e_callO, ow_is, ow_in, ow_ok, fo_ret, fo_ret0, fo_ex, s_par, par_2, s_parO, s_app, ow_lst, e_move, mv_ow, s_asgTup, tup_2, e_wcl, e_wow, s_trip, s_pair, ow_l, is_o, s_ext, s_ins, s_aug, aug_cl, add_o, e_MT, List.getElem?_cons_succ, List.getElem?_cons_zero, List.set_cons_zero, List.set_cons_succ, List.cons_append, List.nil_append, this]
    cases q : bst t L a with
    | none =>
      rw [q] at B
      refine ⟨z4, z5, z6, z7, z8, z9, ?_⟩
      have e : strP t L f a = [] := by
        cases f with
        | zero => rfl
        | succ f => unfold strP; rw [q]
      rw [e, List.map_nil, List.append_nil]
      refine wh_go C B (wh_end ?_)
      unfold stCond
      simp only [s_seq, th_nx, th_ret, th_exn, s_asg, s_asgO, s_ret, s_retN, s_drop, s_if, s_next, s_raise, e_var, e_own, g_var, g_own1, g_own2, e_c, e_2, e_1, e_N, e_nil, e_cons, e_call, fo_ok, fo_exn, e_callD, e_callK, e_if, e_and, e_or, e_not, e_pure, e_of, e_tr, e_bnot, e_band, e_bor, e_chain, e_bind, e_lift, i_bl, t_bl, e_cut, e_pno, e_pat, p_int, i_seq, i_range, i_zip, bnd_ok, bnd_exn, so_ok, so_exn, rb_ok, if_true, if_false, Bool.false_eq_true, e_callO, ow_is, ow_in, ow_ok, fo_ret, fo_ret0, fo_ex, s_par, par_2, s_parO, s_app, ow_lst, e_move, mv_ow, s_asgTup, tup_2, e_wcl, e_wow, s_trip, s_pair, ow_l, is_o, s_ext, s_ins, s_aug, aug_cl, add_o, e_MT, List.getElem?_cons_succ, List.getElem?_cons_zero, List.set_cons_zero, List.set_cons_succ, List.cons_append, List.nil_append, notN_n]
    | some x =>
      obtain ⟨s, k, e⟩ := x
      rw [q] at B
      obtain ⟨h1, h2, h3, h4⟩ := bst_some h q
      have e5 : s < e := by
        have : e ∈ ends (marks t (spL L)) (s, oS k) := List.mem_of_mem_head? (by rw [h2]; rfl)
        exact ends_gt this
      cases f with
      | zero => omega
      | succ f =>
        obtain ⟨u4, u5, u6, u7, u8, u9, E⟩ := st_loop h hL f (e + (oC k).length) (acc ++ [sD (s, k, e)]) ((e : Int) + ((oC k).length : Nat)) (N + 1) z4 z5 z6 z7 z8 z9 (by omega) (by omega) (by omega) (by simp; omega)
        refine ⟨u4, u5, u6, u7, u8, u9, ?_⟩
        have es : strP t L (f + 1) a = (s, k, e) :: strP t L f (e + (oC k).length) := by
          rw [strP, q]
        rw [es, List.map_cons]
        rw [List.append_assoc] at E
        exact wh_go C B E
theorem Iv.top {n p : Nat} {L : List (Nat × Nat)} (h : Iv n p L) : ∀ x ∈ L, x.2 ≤ n := by
  induction h with
  | last h => intro x hx; rw [List.mem_singleton.mp hx]; exact Nat.le_refl _
  | more h1 h2 h3 ih =>
    intro x hx
    rcases List.mem_cons.mp hx with z | z
    · rw [z]; have := h3.le; dsimp only; omega
    · exact ih x z
def ivT (t : List Nat) : List (Nat × Nat) := iv t (t.length + 1) 0
def prS (t : List Nat) : List (Nat × Bool × Nat) := strP t (ivT t) (t.length + 1) 0
theorem ivT_Iv {t : List Nat} : Iv t.length 0 (ivT t) := iv_Iv _ 0 (Nat.zero_le _)
theorem stretches_of_ok {t : List Nat} (hl : t.length ≤ 900000) : f_stretches_of [.str (mkS t)] = .ok (.lst ((prS t).map sD)) [] := by
  have P := plain_spots_ok hl
  obtain ⟨z4, z5, z6, z7, z8, z9, E⟩ := st_loop (ivT_Iv (t := t)) ivT_Iv.top (t.length + 1) 0 [] 0 1000000 .no .no .no .no .no .no rfl (by omega) (by omega) (by simp; omega)
  unfold stCond stBody bbody at E
  refine (run_of (ρ0 := [.cl (.str (mkS t)), .no, .no, .no, .no, .no, .no, .no, .no, .no]) rfl).trans ?_
  unfold m_stretches_of
  unfold ivT at E
  simp only [s_seq, th_nx, th_ret, th_exn, s_asg, s_asgO, s_ret, s_retN, s_drop, s_if, s_next, s_raise, e_var, e_own, g_var, g_own1, g_own2, e_c, e_2, e_1, e_N, e_nil, e_cons, e_call, fo_ok, fo_exn, e_callD, e_callK, e_if, e_and, e_or, e_not, e_pure, e_of, e_tr, e_bnot, e_band, e_bor, e_chain, e_bind, e_lift, i_bl, t_bl, e_cut, e_pno, e_pat, p_int, i_seq, i_range, i_zip, bnd_ok, bnd_exn, so_ok, so_exn, rb_ok, if_true, if_false, Bool.false_eq_true, e_callO, ow_is, ow_in, ow_ok, fo_ret, fo_ret0, fo_ex, s_par, par_2, s_parO, s_app, ow_lst, e_move, mv_ow, s_asgTup, tup_2, e_wcl, e_wow, s_trip, s_pair, ow_l, is_o, s_ext, s_ins, s_aug, aug_cl, add_o, e_MT, List.getElem?_cons_succ, List.getElem?_cons_zero, List.set_cons_zero, List.set_cons_succ, List.cons_append, List.nil_append, P, mkl0, E]
  rfl
end DL

set_option Elab.async false
set_option linter.all false
set_option maxRecDepth 100000
set_option maxHeartbeats 400000
namespace DL
open PySem PySem.Spec PyProof.Rows L2
theorem pre_cut {t w : List Nat} {p : Nat} (h : p ≤ t.length) : opEq (.str (cutS (mkS t) (some (p : Int)) (some ((p : Int) + (w.length : Nat))))) (.str (mkS w)) = .ok (.bl (pre w t p)) := by
  have e : (p : Int) + (w.length : Nat) = ((p + w.length : Nat) : Int) := by omega
  rw [e, mkS_cut, eq_mkS]
  have e2 : (t.drop (min p t.length)).take (min (p + w.length) t.length - min p t.length) = (t.drop p).take w.length := by
    rw [Nat.min_eq_left h]
    by_cases q : p + w.length ≤ t.length
    · rw [Nat.min_eq_left q]
      congr 1
      omega
    · rw [List.take_of_length_le (by rw [List.length_drop]; omega), List.take_of_length_le (by rw [List.length_drop]; omega)]
  rw [e2]
  unfold pre
  congr 2
  rw [Bool.eq_iff_iff]
  simp
theorem cut_from {t : List Nat} {i : Int} (a : Nat) (h : i = (a : Nat)) : cutS (mkS t) (some i) none = mkS (t.drop a) := by subst h; exact mkS_post
theorem excl2 {t : List Nat} {p : Nat} (h1 : pre (kS false) t p = true) : pre (kS true) t p = false := by
  cases h2 : pre (kS true) t p with
  | false => rfl
  | true =>
    have e1 := pre_get h1 1 (by decide)
    have e2 := pre_get h2 1 (by decide)
    rw [e1] at e2
    exact absurd e2 (by decide)
def iD (x : Option Bool × List Nat) : D := match x.1 with
  | none => .str (mkS x.2)
  | some k => .tup [.str (nm k), .str (mkS x.2)]
theorem lenl1 {x : D} : opLen [.lst [x]] = .ok (.int 1) := rfl
theorem lenl2 {x y : D} : opLen [.lst [x, y]] = .ok (.int 2) := rfl
theorem ee12 : opEq (.int 1) (.int 2) = .ok (.bl false) := rfl
theorem ee22 : opEq (.int 2) (.int 2) = .ok (.bl true) := rfl
theorem ixl20 {x y : D} : opIx (.lst [x, y]) (.int 0) = .ok x := rfl
noncomputable def ibody : MS := (sSeq (sAsg (eIf (bOf (e2 opEq (eCut (eVar 0) (pAt (eVar 2)) (pAt (e2 opAdd (eVar 2) (eN opLen (aCons (eVar 5) (aNil)))))) (eVar 5))) (eMT .str opSplitM (eCut (eVar 0) (pAt (e2 opAdd (eVar 2) (eN opLen (aCons (eVar 5) (aNil))))) (pNo)) (aCons (eVar 6) (aCons (eC (.int 1)) (aNil)))) (eN mkLst (aCons (eVar 0) (aNil)))) (tgName 7))
  (sIf (bOf (e2 opEq (eN opLen (aCons (eVar 7) (aNil))) (eC (.int 2)))) (sSeq (sApp 1 (eN mkTup (aCons (eVar 4) (aCons (e2 opIx (eVar 7) (eC (.int 0))) (aNil)))))
  (sAsg (e2 opAdd (e2 opAdd (e2 opAdd (eVar 2) (eN opLen (aCons (eVar 5) (aNil)))) (eN opLen (aCons (e2 opIx (eVar 7) (eC (.int 0))) (aNil)))) (eN opLen (aCons (eVar 6) (aNil)))) (tgName 3))) (sNext)))
def cont (t : List Nat) (k : Bool) (a e : Nat) : List Nat := (t.drop (a + (kS k).length)).take (e - (a + (kS k).length))
theorem kL_all (k : Bool) : (kL k).all (· < 256) = true := by cases k <;> decide
theorem ibody_ok {t : List Nat} (hl : t.length ≤ 900000) {k : Bool} {a : Nat} (ha : a < t.length) {acc : List D} (hc : acc.length < 16777216) {l : D} {y7 : Sl} :
    ∃ z7, ibody [.cl (.str (mkS t)), .ow (.lst acc), .cl (.int (a : Nat)), .cl l, .cl (.str (nm k)), .cl (.str (mkS (kS k))), .cl (.str (mkS (kL k))), y7] = .nx (match kend t k a with
      | none => [.cl (.str (mkS t)), .ow (.lst acc), .cl (.int (a : Nat)), .cl l, .cl (.str (nm k)), .cl (.str (mkS (kS k))), .cl (.str (mkS (kL k))), z7]
      | some e => [.cl (.str (mkS t)), .ow (.lst (acc ++ [iD (some k, cont t k a e)])), .cl (.int (a : Nat)), .cl (.int ((e + (kL k).length : Nat) : Int)), .cl (.str (nm k)), .cl (.str (mkS (kS k))), .cl (.str (mkS (kL k))), z7]) := by
  have P := pre_cut (t := t) (w := kS k) (p := a) (by omega)
  have CS : ∀ {lo hi : Option Int}, cutD (.str (mkS t)) lo hi = .ok (.str (cutS (mkS t) lo hi)) := fun {lo hi} => cut_str (by omega)
  have C1 : cutS (mkS t) (some ((a : Int) + ((kS k).length : Nat))) none = mkS (t.drop (a + (kS k).length)) := cut_from _ (by omega)
  unfold ibody
  cases q : pre (kS k) t a with
  | false =>
    rw [q] at P
    have e : kend t k a = none := by unfold kend; rw [if_neg (by rw [q]; simp)]
    rw [e]
    refine ⟨.cl (.lst [.str (mkS t)]), ?_⟩
    simp only [s_seq, th_nx, th_ret, th_exn, s_asg, s_asgO, s_ret, s_retN, s_drop, s_if, s_next, s_raise, e_var, e_own, g_var, g_own1, g_own2, e_c, e_2, e_1, e_N, e_nil, e_cons, e_call, fo_ok, fo_exn, e_callD, e_callK, e_if, e_and, e_or, e_not, e_pure, e_of, e_tr, e_bnot, e_band, e_bor, e_chain, e_bind, e_lift, i_bl, t_bl, e_cut, e_pno, e_pat, p_int, i_seq, i_range, i_zip, bnd_ok, bnd_exn, so_ok, so_exn, rb_ok, if_true, if_false, Bool.false_eq_true, e_callO, ow_is, ow_in, ow_ok, fo_ret, fo_ret0, fo_ex, s_par, par_2, s_parO, s_app, ow_lst, e_move, mv_ow, s_asgTup, tup_2, e_wcl, e_wow, s_trip, s_pair, ow_l, is_o, s_ext, s_ins, s_aug, aug_cl, add_o, e_MT, List.getElem?_cons_succ, List.getElem?_cons_zero, List.set_cons_zero, List.set_cons_succ, List.cons_append, List.nil_append, CS, len_mkS (kS_l k), add_int', P, mkl1, lenl1, ee12]
  | true =>
    rw [q] at P
    have hle := pre_le q (kS_ne k)
    have S := splitM_mk (t := t.drop (a + (kS k).length)) (kL_ne k) (kL_all k) (by rw [List.length_drop]; omega)
    rw [fnd_drop hle] at S
    have e : kend t k a = fnd (kL k) t (a + (kS k).length) t.length := by unfold kend; rw [if_pos q]
    rw [e]
    cases z : fnd (kL k) t (a + (kS k).length) t.length with
    | none =>
      rw [z] at S
      refine ⟨.cl (.lst [.str (mkS (t.drop (a + (kS k).length)))]), ?_⟩
      dsimp only [Option.map] at S
      simp only [s_seq, th_nx, th_ret, th_exn, s_asg, s_asgO, s_ret, s_retN, s_drop, s_if, s_next, s_raise, e_var, e_own, g_var, g_own1, g_own2, e_c, e_2, e_1, e_N, e_nil, e_cons, e_call, fo_ok, fo_exn, e_callD, e_callK, e_if, e_and, e_or, e_not, e_pure, e_of, e_tr, e_bnot, e_band, e_bor, e_chain, e_bind, e_lift, i_bl, t_bl, e_cut, e_pno, e_pat, p_int, i_seq, i_range, i_zip, bnd_ok, bnd_exn, so_ok, so_exn, rb_ok, if_true, if_false, Bool.false_eq_true, e_callO, ow_is, ow_in, ow_ok, fo_ret, fo_ret0, fo_ex, s_par, par_2, s_parO, s_app, ow_lst, e_move, mv_ow, s_asgTup, tup_2, e_wcl, e_wow, s_trip, s_pair, ow_l, is_o, s_ext, s_ins, s_aug, aug_cl, add_o, e_MT, List.getElem?_cons_succ, List.getElem?_cons_zero, List.set_cons_zero, List.set_cons_succ, List.cons_append, List.nil_append, CS, len_mkS (kS_l k), add_int', P, C1, isT_s, S, lenl1, ee12]
    | some e0 =>
      rw [z] at S
      have g := fnd_least (kL k) t (a + (kS k).length) t.length
      rw [z] at g
      have g1 := g.1.1
      have g2 := g.1.2.1
      dsimp only [Option.map] at S
      refine ⟨.cl (.lst [.str (mkS (cont t k a e0)), .str (mkS ((t.drop (a + (kS k).length)).drop (e0 - (a + (kS k).length) + (kL k).length)))]), ?_⟩
      have cl : (cont t k a e0).length = e0 - (a + (kS k).length) := by unfold cont; rw [List.length_take, List.length_drop]; omega
      have S' : opSplitM (.str (mkS (t.drop (a + (kS k).length)))) [.str (mkS (kL k)), .int 1] = .ok (.lst [.str (mkS (cont t k a e0)), .str (mkS ((t.drop (a + (kS k).length)).drop (e0 - (a + (kS k).length) + (kL k).length)))]) := S
      have hv : (a : Int) + ((kS k).length : Nat) + ((cont t k a e0).length : Nat) + ((kL k).length : Nat) = ((e0 + (kL k).length : Nat) : Int) := by rw [cl]; omega
      have hp : ∀ {ρ : Rho}, putOw 1 (.tup [.str (nm k), .str (mkS (cont t k a e0))]) (some (.ow (.lst acc))) ρ = .nx (ρ.set 1 (.ow (.lst (acc ++ [.tup [.str (nm k), .str (mkS (cont t k a e0))]])))) := fun {ρ} => put_lst hc
      have hcl : opLen [.str (mkS (cont t k a e0))] = .ok (.int ((cont t k a e0).length : Nat)) := len_mkS (by rw [cl]; omega)
      simp only [s_seq, th_nx, th_ret, th_exn, s_asg, s_asgO, s_ret, s_retN, s_drop, s_if, s_next, s_raise, e_var, e_own, g_var, g_own1, g_own2, e_c, e_2, e_1, e_N, e_nil, e_cons, e_call, fo_ok, fo_exn, e_callD, e_callK, e_if, e_and, e_or, e_not, e_pure, e_of, e_tr, e_bnot, e_band, e_bor, e_chain, e_bind, e_lift, i_bl, t_bl, e_cut, e_pno, e_pat, p_int, i_seq, i_range, i_zip, bnd_ok, bnd_exn, so_ok, so_exn, rb_ok, if_true, if_false, Bool.false_eq_true, e_callO, ow_is, ow_in, ow_ok, fo_ret, fo_ret0, fo_ex, s_par, par_2, s_parO, s_app, ow_lst, e_move, mv_ow, s_asgTup, tup_2, e_wcl, e_wow, s_trip, s_pair, ow_l, is_o, s_ext, s_ins, s_aug, aug_cl, add_o, e_MT, List.getElem?_cons_succ, List.getElem?_cons_zero, List.set_cons_zero, List.set_cons_succ, List.cons_append, List.nil_append, CS, len_mkS (kS_l k), len_mkS (kL_l k), add_int', P, C1, isT_s, S', lenl2, ee22, ixl20, mk2t, hp, hcl, hv, iD]
noncomputable def wbody : MS := (sSeq (sAsg (eVar 2) (tgName 3))
  (sSeq (sFor (tgTup [4, 5, 6]) (iSeq (eN mkLst (aCons (eN mkTup (aCons (eC (.str "note")) (aCons (eC (.str "<!--")) (aCons (eC (.str "-->")) (aNil))))) (aCons (eN mkTup (aCons (eC (.str "asis")) (aCons (eC (.str "<asis>")) (aCons (eC (.str "</asis>")) (aNil))))) (aNil))))) ibody)
  (sSeq (sIf (bOf (e2 opEq (eVar 3) (eVar 2))) (sSeq (sApp 1 (e2 opIx (eVar 0) (eVar 2)))
  (sAsg (e2 opAdd (eVar 2) (eC (.int 1))) (tgName 3))) (sNext))
  (sAsg (eVar 3) (tgName 2)))))
noncomputable def wcond : M Bool := (bOf (e2 opLt (eVar 2) (eN opLen (aCons (eVar 0) (aNil)))))
theorem mkk1 : mkTup [.str "note", .str "<!--", .str "-->"] = .ok (elK false) := by kernel_rfl
theorem mkk2 : mkTup [.str "asis", .str "<asis>", .str "</asis>"] = .ok (elK true) := by kernel_rfl
theorem mkkl {x y : D} : mkLst [x, y] = .ok (.lst [x, y]) := rfl
theorem it_l {xs : List D} : items (.lst xs) = .ok xs := rfl
def itm1 (t : List Nat) (a : Nat) : (Option Bool × List Nat) × Nat := match ke t a with
  | some (k, e) => ((some k, cont t k a e), e + (kL k).length)
  | none => ((none, [t.getD a 0]), a + 1)
theorem wbody_ok {t : List Nat} (hl : t.length ≤ 900000) {a : Nat} (ha : a < t.length) {acc : List D} (hc : acc.length < 16777215) {y3 y4 y5 y6 y7 : Sl} :
    ∃ z3 z4 z5 z6 z7, wbody [.cl (.str (mkS t)), .ow (.lst acc), .cl (.int (a : Nat)), y3, y4, y5, y6, y7] = .nx [.cl (.str (mkS t)), .ow (.lst (acc ++ [iD (itm1 t a).1])), .cl (.int ((itm1 t a).2 : Nat)), z3, z4, z5, z6, z7] := by
  obtain ⟨u, h1⟩ := ibody_ok hl (k := false) ha (acc := acc) (l := .int (a : Nat)) (y7 := y7) (by omega)
  unfold itm1 ke
  unfold wbody
  have AI : opAdd (.int (a : Nat)) (.int 1) = .ok (.int ((a + 1 : Nat) : Int)) := rfl
  cases q : kend t false a with
  | none =>
    rw [q] at h1
    obtain ⟨v, h2⟩ := ibody_ok hl (k := true) ha (acc := acc) (l := .int (a : Nat)) (y7 := u) (by omega)
    cases q2 : kend t true a with
    | none =>
      rw [q2] at h2
      have L : forLoop (tgTup [4, 5, 6]) ibody [elK false, elK true] [.cl (.str (mkS t)), .ow (.lst acc), .cl (.int (a : Nat)), .cl (.int (a : Nat)), y4, y5, y6, y7] = _ := for_nx rfl h1 (for_nx rfl h2 for_nil)
      refine ⟨.cl (.int ((a + 1 : Nat) : Int)), .cl (.str (nm true)), .cl (.str (mkS (kS true))), .cl (.str (mkS (kL true))), v, ?_⟩
      have ix : opIx (.str (mkS t)) (.int (a : Nat)) = .ok (.str (mkS [t.getD a 0])) := ix_mk a (by omega) (by rw [List.getD_eq_getElem?_getD, List.getElem?_eq_getElem ha]; rfl)
      have hp : ∀ {ρ : Rho}, putOw 1 (.str (mkS [t.getD a 0])) (some (.ow (.lst acc))) ρ = .nx (ρ.set 1 (.ow (.lst (acc ++ [.str (mkS [t.getD a 0])])))) := fun {ρ} => put_lst (by omega)
      simp only [s_seq, th_nx, th_ret, th_exn, s_asg, s_asgO, s_ret, s_retN, s_drop, s_if, s_next, s_raise, e_var, e_own, g_var, g_own1, g_own2, e_c, e_2, e_1, e_N, e_nil, e_cons, e_call, fo_ok, fo_exn, e_callD, e_callK, e_if, e_and, e_or, e_not, e_pure, e_of, e_tr, e_bnot, e_band, e_bor, e_chain, e_bind, e_lift, i_bl, t_bl, e_cut, e_pno, e_pat, p_int, i_seq, i_range, i_zip, bnd_ok, bnd_exn, so_ok, so_exn, rb_ok, if_true, if_false, Bool.false_eq_true, e_callO, ow_is, ow_in, ow_ok, fo_ret, fo_ret0, fo_ex, s_par, par_2, s_parO, s_app, ow_lst, e_move, mv_ow, s_asgTup, tup_2, e_wcl, e_wow, s_trip, s_pair, ow_l, is_o, s_ext, s_ins, s_aug, aug_cl, add_o, e_MT, List.getElem?_cons_succ, List.getElem?_cons_zero, List.set_cons_zero, List.set_cons_succ, List.cons_append, List.nil_append, s_for, mkk1, mkk2, mkkl, it_l, L, eq_int, beq_self_eq_true, ix, hp, AI, iD]
    | some e =>
      rw [q2] at h2
      have L : forLoop (tgTup [4, 5, 6]) ibody [elK false, elK true] [.cl (.str (mkS t)), .ow (.lst acc), .cl (.int (a : Nat)), .cl (.int (a : Nat)), y4, y5, y6, y7] = _ := for_nx rfl h1 (for_nx rfl h2 for_nil)
      obtain ⟨g1, g2, g3⟩ := kend_spec q2
      have := kL_len true
      have ne : (((e + (kL true).length : Nat) : Int) == (a : Int)) = false := by rw [beq_eq_false_iff_ne]; omega
      refine ⟨.cl (.int ((e + (kL true).length : Nat) : Int)), .cl (.str (nm true)), .cl (.str (mkS (kS true))), .cl (.str (mkS (kL true))), v, ?_⟩
      simp only [s_seq, th_nx, th_ret, th_exn, s_asg, s_asgO, s_ret, s_retN, s_drop, s_if, s_next, s_raise, e_var, e_own, g_var, g_own1, g_own2, e_c, e_2, e_1, e_N, e_nil, e_cons, e_call, fo_ok, fo_exn, e_callD, e_callK, e_if, e_and, e_or, e_not, e_pure, e_of, e_tr, e_bnot, e_band, e_bor, e_chain, e_bind, e_lift, i_bl, t_bl, e_cut, e_pno, e_pat, p_int, i_seq, i_range, i_zip, bnd_ok, bnd_exn, so_ok, so_exn, rb_ok, if_true, if_false, Bool.false_eq_true, e_callO, ow_is, ow_in, ow_ok, fo_ret, fo_ret0, fo_ex, s_par, par_2, s_parO, s_app, ow_lst, e_move, mv_ow, s_asgTup, tup_2, e_wcl, e_wow, s_trip, s_pair, ow_l, is_o, s_ext, s_ins, s_aug, aug_cl, add_o, e_MT, List.getElem?_cons_succ, List.getElem?_cons_zero, List.set_cons_zero, List.set_cons_succ, List.cons_append, List.nil_append, s_for, mkk1, mkk2, mkkl, it_l, L, eq_int, ne]
  | some e =>
    rw [q] at h1
    have q2 : kend t true a = none := by unfold kend; rw [if_neg (by rw [excl2 (kend_spec q).1]; simp)]
    obtain ⟨v, h2⟩ := ibody_ok hl (k := true) ha (acc := acc ++ [iD (some false, cont t false a e)]) (l := .int ((e + (kL false).length : Nat) : Int)) (y7 := u) (by simp; omega)
    rw [q2] at h2
    have L : forLoop (tgTup [4, 5, 6]) ibody [elK false, elK true] [.cl (.str (mkS t)), .ow (.lst acc), .cl (.int (a : Nat)), .cl (.int (a : Nat)), y4, y5, y6, y7] = _ := for_nx rfl h1 (for_nx rfl h2 for_nil)
    obtain ⟨g1, g2, g3⟩ := kend_spec q
    have := kL_len false
    have ne : (((e + (kL false).length : Nat) : Int) == (a : Int)) = false := by rw [beq_eq_false_iff_ne]; omega
    refine ⟨.cl (.int ((e + (kL false).length : Nat) : Int)), .cl (.str (nm true)), .cl (.str (mkS (kS true))), .cl (.str (mkS (kL true))), v, ?_⟩
    simp only [s_seq, th_nx, th_ret, th_exn, s_asg, s_asgO, s_ret, s_retN, s_drop, s_if, s_next, s_raise, e_var, e_own, g_var, g_own1, g_own2, e_c, e_2, e_1, e_N, e_nil, e_cons, e_call, fo_ok, fo_exn, e_callD, e_callK, e_if, e_and, e_or, e_not, e_pure, e_of, e_tr, e_bnot, e_band, e_bor, e_chain, e_bind, e_lift, i_bl, t_bl, e_cut, e_pno, e_pat, p_int, i_seq, i_range, i_zip, bnd_ok, bnd_exn, so_ok, so_exn, rb_ok, if_true, if_false, Bool.false_eq_true, e_callO, ow_is, ow_in, ow_ok, fo_ret, fo_ret0, fo_ex, s_par, par_2, s_parO, s_app, ow_lst, e_move, mv_ow, s_asgTup, tup_2, e_wcl, e_wow, s_trip, s_pair, ow_l, is_o, s_ext, s_ins, s_aug, aug_cl, add_o, e_MT, List.getElem?_cons_succ, List.getElem?_cons_zero, List.set_cons_zero, List.set_cons_succ, List.cons_append, List.nil_append, s_for, mkk1, mkk2, mkkl, it_l, L, eq_int, ne]
theorem items_loop {t : List Nat} (hl : t.length ≤ 900000) : ∀ (f a : Nat) (acc : List D) (N : Nat) (y3 y4 y5 y6 y7 : Sl), t.length < a + f → f < N → acc.length + f < 16777214 →
    ∃ z2 z3 z4 z5 z6 z7, whLoop wcond wbody N [.cl (.str (mkS t)), .ow (.lst acc), .cl (.int (a : Nat)), y3, y4, y5, y6, y7] = .nx [.cl (.str (mkS t)), .ow (.lst (acc ++ (itms t f a).map iD)), z2, z3, z4, z5, z6, z7]
  | f, a, acc, 0, _, _, _, _, _, _, h, _ => by omega
  | 0, a, acc, N + 1, y3, y4, y5, y6, y7, h, _, _ => by
    have C : wcond [.cl (.str (mkS t)), .ow (.lst acc), .cl (.int (a : Nat)), y3, y4, y5, y6, y7] = .ok false [.cl (.str (mkS t)), .ow (.lst acc), .cl (.int (a : Nat)), y3, y4, y5, y6, y7] := by
      have lf : decide ((a : Int) < (t.length : Nat)) = false := decide_eq_false (by omega)
      unfold wcond
      simp only [s_seq, th_nx, th_ret, th_exn, s_asg, s_asgO, s_ret, s_retN, s_drop, s_if, s_next, s_raise, e_var, e_own, g_var, g_own1, g_own2, e_c, e_2, e_1, e_N, e_nil, e_cons, e_call, fo_ok, fo_exn, e_callD, e_callK, e_if, e_and, e_or, e_not, e_pure, e_of, e_tr, e_bnot, e_band, e_bor, e_chain, e_bind, e_lift, i_bl, t_bl, e_cut, e_pno, e_pat, p_int, i_seq, i_range, i_zip, bnd_ok, bnd_exn, so_ok, so_exn, rb_ok, if_true, if_false, Bool.false_eq_true, e_callO, ow_is, ow_in, ow_ok, fo_ret, fo_ret0, fo_ex, s_par, par_2, s_parO, s_app, ow_lst, e_move, mv_ow, s_asgTup, tup_2, e_wcl, e_wow, s_trip, s_pair, ow_l, is_o, s_ext, s_ins, s_aug, aug_cl, add_o, e_MT, List.getElem?_cons_succ, List.getElem?_cons_zero, List.set_cons_zero, List.set_cons_succ, List.cons_append, List.nil_append, len_mkS (show t.length ≤ 16777216 by omega), lt_int, lf]
    exact ⟨_, _, _, _, _, _, by rw [show itms t 0 a = [] from rfl, List.map_nil, List.append_nil]; exact wh_end C⟩
  | f + 1, a, acc, N + 1, y3, y4, y5, y6, y7, h, hN, hc => by
    by_cases ha : a < t.length
    · have C : wcond [.cl (.str (mkS t)), .ow (.lst acc), .cl (.int (a : Nat)), y3, y4, y5, y6, y7] = .ok true [.cl (.str (mkS t)), .ow (.lst acc), .cl (.int (a : Nat)), y3, y4, y5, y6, y7] := by
        have lf : decide ((a : Int) < (t.length : Nat)) = true := decide_eq_true (by omega)
        unfold wcond
        simp only [s_seq, th_nx, th_ret, th_exn, s_asg, s_asgO, s_ret, s_retN, s_drop, s_if, s_next, s_raise, e_var, e_own, g_var, g_own1, g_own2, e_c, e_2, e_1, e_N, e_nil, e_cons, e_call, fo_ok, fo_exn, e_callD, e_callK, e_if, e_and, e_or, e_not, e_pure, e_of, e_tr, e_bnot, e_band, e_bor, e_chain, e_bind, e_lift, i_bl, t_bl, e_cut, e_pno, e_pat, p_int, i_seq, i_range, i_zip, bnd_ok, bnd_exn, so_ok, so_exn, rb_ok, if_true, if_false, Bool.false_eq_true, e_callO, ow_is, ow_in, ow_ok, fo_ret, fo_ret0, fo_ex, s_par, par_2, s_parO, s_app, ow_lst, e_move, mv_ow, s_asgTup, tup_2, e_wcl, e_wow, s_trip, s_pair, ow_l, is_o, s_ext, s_ins, s_aug, aug_cl, add_o, e_MT, List.getElem?_cons_succ, List.getElem?_cons_zero, List.set_cons_zero, List.set_cons_succ, List.cons_append, List.nil_append, len_mkS (show t.length ≤ 16777216 by omega), lt_int, lf]
      obtain ⟨z3, z4, z5, z6, z7, B⟩ := wbody_ok hl ha (acc := acc) (y3 := y3) (y4 := y4) (y5 := y5) (y6 := y6) (y7 := y7) (by omega)
      have hn : a < (itm1 t a).2 := by
        unfold itm1
        cases q : ke t a with
        | none => exact Nat.lt_succ_self _
        | some x =>
          obtain ⟨k, e⟩ := x
          obtain ⟨g1, g2, g3⟩ := kend_spec (ke_spec q)
          have := kL_len k
          show a < e + (kL k).length
          omega
      obtain ⟨u2, u3, u4, u5, u6, u7, E⟩ := items_loop hl f (itm1 t a).2 (acc ++ [iD (itm1 t a).1]) N z3 z4 z5 z6 z7 (by omega) (by omega) (by simp; omega)
      have ei : itms t (f + 1) a = (itm1 t a).1 :: itms t f (itm1 t a).2 := by
        rw [itms, if_neg (by omega)]
        unfold itm1
        cases q : ke t a with
        | none => rfl
        | some x => rfl
      rw [ei, List.map_cons]
      rw [List.append_assoc] at E
      exact ⟨_, _, _, _, _, _, wh_go C B E⟩
    · have C : wcond [.cl (.str (mkS t)), .ow (.lst acc), .cl (.int (a : Nat)), y3, y4, y5, y6, y7] = .ok false [.cl (.str (mkS t)), .ow (.lst acc), .cl (.int (a : Nat)), y3, y4, y5, y6, y7] := by
        have lf : decide ((a : Int) < (t.length : Nat)) = false := decide_eq_false (by omega)
        unfold wcond
        simp only [s_seq, th_nx, th_ret, th_exn, s_asg, s_asgO, s_ret, s_retN, s_drop, s_if, s_next, s_raise, e_var, e_own, g_var, g_own1, g_own2, e_c, e_2, e_1, e_N, e_nil, e_cons, e_call, fo_ok, fo_exn, e_callD, e_callK, e_if, e_and, e_or, e_not, e_pure, e_of, e_tr, e_bnot, e_band, e_bor, e_chain, e_bind, e_lift, i_bl, t_bl, e_cut, e_pno, e_pat, p_int, i_seq, i_range, i_zip, bnd_ok, bnd_exn, so_ok, so_exn, rb_ok, if_true, if_false, Bool.false_eq_true, e_callO, ow_is, ow_in, ow_ok, fo_ret, fo_ret0, fo_ex, s_par, par_2, s_parO, s_app, ow_lst, e_move, mv_ow, s_asgTup, tup_2, e_wcl, e_wow, s_trip, s_pair, ow_l, is_o, s_ext, s_ins, s_aug, aug_cl, add_o, e_MT, List.getElem?_cons_succ, List.getElem?_cons_zero, List.set_cons_zero, List.set_cons_succ, List.cons_append, List.nil_append, len_mkS (show t.length ≤ 16777216 by omega), lt_int, lf]
      have ei : itms t (f + 1) a = [] := by rw [itms, if_pos (by omega)]
      exact ⟨_, _, _, _, _, _, by rw [ei, List.map_nil, List.append_nil]; exact wh_end C⟩
theorem law_items_ok {t : List Nat} (hl : t.length ≤ 900000) : f__law_items [.str (mkS t)] = .ok (.lst ((itms t (t.length + 1) 0).map iD)) [] := by
  obtain ⟨z2, z3, z4, z5, z6, z7, E⟩ := items_loop hl (t.length + 1) 0 [] 1000000 .no .no .no .no .no (by omega) (by omega) (by simp; omega)
  unfold wcond wbody ibody at E
  refine (run_of (ρ0 := [.cl (.str (mkS t)), .no, .no, .no, .no, .no, .no, .no]) rfl).trans ?_
  unfold m__law_items
  have z : ((0 : Nat) : Int) = 0 := rfl
  rw [z] at E
  simp only [s_seq, th_nx, th_ret, th_exn, s_asg, s_asgO, s_ret, s_retN, s_drop, s_if, s_next, s_raise, e_var, e_own, g_var, g_own1, g_own2, e_c, e_2, e_1, e_N, e_nil, e_cons, e_call, fo_ok, fo_exn, e_callD, e_callK, e_if, e_and, e_or, e_not, e_pure, e_of, e_tr, e_bnot, e_band, e_bor, e_chain, e_bind, e_lift, i_bl, t_bl, e_cut, e_pno, e_pat, p_int, i_seq, i_range, i_zip, bnd_ok, bnd_exn, so_ok, so_exn, rb_ok, if_true, if_false, Bool.false_eq_true, e_callO, ow_is, ow_in, ow_ok, fo_ret, fo_ret0, fo_ex, s_par, par_2, s_parO, s_app, ow_lst, e_move, mv_ow, s_asgTup, tup_2, e_wcl, e_wow, s_trip, s_pair, ow_l, is_o, s_ext, s_ins, s_aug, aug_cl, add_o, e_MT, List.getElem?_cons_succ, List.getElem?_cons_zero, List.set_cons_zero, List.set_cons_succ, List.cons_append, List.nil_append, mkl0, E]
end DL

set_option Elab.async false
set_option linter.all false
set_option maxRecDepth 100000
set_option maxHeartbeats 400000
namespace DL
open PySem PySem.Spec PyProof.Rows L2
def iN (S : List Nat) : List D := S.map fun p => .int (p : Nat)
def Tb : List (Str × Bool) := [("InvalidText", false)]
theorem is_s {z : Str} : opIs [.str] [("InvalidText", false)] (.str z) = .ok (.bl true) := rfl
theorem is_t {xs : List D} : opIs [.str] [("InvalidText", false)] (.tup xs) = .ok (.bl false) := rfl
theorem ixt20 {a b : D} : opIx (.tup [a, b]) (.int 0) = .ok a := rfl
theorem ixt21 {a b : D} : opIx (.tup [a, b]) (.int 1) = .ok b := rfl
theorem eqn (k : Bool) : opEq (.str (nm k)) (.str "note") = .ok (.bl (!k)) := by cases k <;> kernel_rfl
/-! the law's tags -/
noncomputable def tbody : MS := (sSeq (sIf (bTr (e1 (opIs [.str] [("InvalidText", false)]) (eVar 4))) (sApp 3 (eVar 2)) (sNext))
  (sAsg (e2 opAdd (eVar 2) (eIf (bTr (e1 (opIs [.str] [("InvalidText", false)]) (eVar 4))) (eC (.int 1)) (e2 opAdd (eN opLen (aCons (e2 opIx (eVar 4) (eC (.int 1))) (aNil))) (eIf (bOf (e2 opEq (e2 opIx (eVar 4) (eC (.int 0))) (eC (.str "note")))) (eC (.int 7)) (eC (.int 13)))))) (tgName 2)))
theorem tags_loop {T I : D} : ∀ (xs : List (Option Bool × List Nat)) (a : Nat) (S : List Nat) (y4 : Sl), (∀ x ∈ xs, x.2.length ≤ 16777216) → S.length + xs.length < 16777216 →
    ∃ a' z4, forLoop (tgName 4) tbody (xs.map iD) [.cl T, .cl I, .cl (.int (a : Nat)), .ow (.lst (iN S)), y4] = .nx [.cl T, .cl I, .cl (.int (a' : Nat)), .ow (.lst (iN (S ++ tgs xs a))), z4]
  | [], a, S, y4, _, _ => ⟨a, y4, by rw [show tgs [] a = [] from rfl, List.append_nil]; rfl⟩
  | x :: xs, a, S, y4, h, hc => by
    obtain ⟨o, c⟩ := x
    have hcl := h _ List.mem_cons_self
    dsimp only at hcl
    simp only [List.length_cons] at hc
    cases o with
    | none =>
      obtain ⟨a', z4, E⟩ := tags_loop (T := T) (I := I) xs (a + 1) (S ++ [a]) (.cl (iD (none, c))) (fun x hx => h x (List.mem_cons_of_mem _ hx)) (by simp; omega)
      refine ⟨a', z4, ?_⟩
      have e : tgs ((none, c) :: xs) a = a :: tgs xs (a + 1) := by rw [tgs, if_pos rfl]; rfl
      rw [e, show S ++ a :: tgs xs (a + 1) = S ++ [a] ++ tgs xs (a + 1) by simp]
      refine for_nx (ρ1 := [.cl T, .cl I, .cl (.int (a : Nat)), .ow (.lst (iN S)), .cl (iD (none, c))]) rfl ?_ E
      have hp : ∀ {ρ : Rho}, putOw 3 (.int (a : Nat)) (some (.ow (.lst (iN S)))) ρ = .nx (ρ.set 3 (.ow (.lst (iN S ++ [.int (a : Nat)])))) := fun {ρ} => put_lst (by unfold iN; rw [List.length_map]; omega)
      have AI : opAdd (.int (a : Nat)) (.int 1) = .ok (.int ((a + 1 : Nat) : Int)) := rfl
      unfold tbody
      simp only [s_seq, th_nx, th_ret, th_exn, s_asg, s_asgO, s_ret, s_retN, s_drop, s_if, s_next, s_raise, e_var, e_own, g_var, g_own1, g_own2, e_c, e_2, e_1, e_N, e_nil, e_cons, e_call, fo_ok, fo_exn, e_callD, e_callK, e_if, e_and, e_or, e_not, e_pure, e_of, e_tr, e_bnot, e_band, e_bor, e_chain, e_bind, e_lift, i_bl, t_bl, e_cut, e_pno, e_pat, p_int, i_seq, i_range, i_zip, bnd_ok, bnd_exn, so_ok, so_exn, rb_ok, if_true, if_false, Bool.false_eq_true, e_callO, ow_is, ow_in, ow_ok, fo_ret, fo_ret0, fo_ex, s_par, par_2, s_parO, s_app, ow_lst, e_move, mv_ow, s_asgTup, tup_2, e_wcl, e_wow, s_trip, s_pair, ow_l, is_o, s_ext, s_ins, s_aug, aug_cl, add_o, e_MT, List.getElem?_cons_succ, List.getElem?_cons_zero, List.set_cons_zero, List.set_cons_succ, List.cons_append, List.nil_append, iD, is_s, hp, AI]
      unfold iN
      rw [List.map_append]
      rfl
    | some k =>
      obtain ⟨a', z4, E⟩ := tags_loop (T := T) (I := I) xs (a + wid (some k, c)) S (.cl (iD (some k, c))) (fun x hx => h x (List.mem_cons_of_mem _ hx)) (by omega)
      refine ⟨a', z4, ?_⟩
      have e : tgs ((some k, c) :: xs) a = tgs xs (a + wid (some k, c)) := by rw [tgs, if_neg (by simp)]
      rw [e]
      refine for_nx (ρ1 := [.cl T, .cl I, .cl (.int (a : Nat)), .ow (.lst (iN S)), .cl (iD (some k, c))]) rfl ?_ E
      unfold tbody
      cases k with
      | false =>
        have AI : opAdd (.int (a : Nat)) (.int ((c.length : Nat) + 7)) = .ok (.int ((a + wid (some false, c) : Nat) : Int)) := rfl
        simp only [s_seq, th_nx, th_ret, th_exn, s_asg, s_asgO, s_ret, s_retN, s_drop, s_if, s_next, s_raise, e_var, e_own, g_var, g_own1, g_own2, e_c, e_2, e_1, e_N, e_nil, e_cons, e_call, fo_ok, fo_exn, e_callD, e_callK, e_if, e_and, e_or, e_not, e_pure, e_of, e_tr, e_bnot, e_band, e_bor, e_chain, e_bind, e_lift, i_bl, t_bl, e_cut, e_pno, e_pat, p_int, i_seq, i_range, i_zip, bnd_ok, bnd_exn, so_ok, so_exn, rb_ok, if_true, if_false, Bool.false_eq_true, e_callO, ow_is, ow_in, ow_ok, fo_ret, fo_ret0, fo_ex, s_par, par_2, s_parO, s_app, ow_lst, e_move, mv_ow, s_asgTup, tup_2, e_wcl, e_wow, s_trip, s_pair, ow_l, is_o, s_ext, s_ins, s_aug, aug_cl, add_o, e_MT, List.getElem?_cons_succ, List.getElem?_cons_zero, List.set_cons_zero, List.set_cons_succ, List.cons_append, List.nil_append, iD, is_t, ixt21, ixt20, len_mkS hcl, eqn false, Bool.not_false, add_int', ← AI]
        rfl
      | true =>
        simp only [s_seq, th_nx, th_ret, th_exn, s_asg, s_asgO, s_ret, s_retN, s_drop, s_if, s_next, s_raise, e_var, e_own, g_var, g_own1, g_own2, e_c, e_2, e_1, e_N, e_nil, e_cons, e_call, fo_ok, fo_exn, e_callD, e_callK, e_if, e_and, e_or, e_not, e_pure, e_of, e_tr, e_bnot, e_band, e_bor, e_chain, e_bind, e_lift, i_bl, t_bl, e_cut, e_pno, e_pat, p_int, i_seq, i_range, i_zip, bnd_ok, bnd_exn, so_ok, so_exn, rb_ok, if_true, if_false, Bool.false_eq_true, e_callO, ow_is, ow_in, ow_ok, fo_ret, fo_ret0, fo_ex, s_par, par_2, s_parO, s_app, ow_lst, e_move, mv_ow, s_asgTup, tup_2, e_wcl, e_wow, s_trip, s_pair, ow_l, is_o, s_ext, s_ins, s_aug, aug_cl, add_o, e_MT, List.getElem?_cons_succ, List.getElem?_cons_zero, List.set_cons_zero, List.set_cons_succ, List.cons_append, List.nil_append, iD, is_t, ixt21, ixt20, len_mkS hcl, eqn true, Bool.not_true, add_int']
        rfl
theorem itms_mem {t : List Nat} : ∀ (f a : Nat), ∀ x ∈ itms t f a, x.2.length ≤ t.length + 1
  | 0, a, x, h => by cases h
  | f + 1, a, x, h => by
    unfold itms at h
    split at h
    · cases h
    · cases q : ke t a with
      | none =>
        rw [q] at h
        rcases List.mem_cons.mp h with z | z
        · rw [z]; simp
        · exact itms_mem f (a + 1) x z
      | some y =>
        obtain ⟨k, e⟩ := y
        rw [q] at h
        rcases List.mem_cons.mp h with z | z
        · rw [z]
          show ((t.drop (a + (kS k).length)).take (e - (a + (kS k).length))).length ≤ _
          rw [List.length_take, List.length_drop]
          omega
        · exact itms_mem f _ x z
theorem itms_len {t : List Nat} : ∀ (f a : Nat), (itms t f a).length ≤ f
  | 0, a => by simp [itms]
  | f + 1, a => by
    unfold itms
    split
    · simp
    · cases q : ke t a with
      | none => simp; exact itms_len f (a + 1)
      | some y => simp; exact itms_len f _
def spS (t : List Nat) : List Nat := spL (ivT t)
theorem law_tags_ok {t : List Nat} (hl : t.length ≤ 900000) : f__law_tags [.str (mkS t)] = .ok (.lst (iN (spS t))) [] := by
  have I := law_items_ok hl
  have il := itms_len (t := t) (t.length + 1) 0
  obtain ⟨a', z4, E⟩ := tags_loop (T := .str (mkS t)) (I := .lst ((itms t (t.length + 1) 0).map iD)) (itms t (t.length + 1) 0) 0 [] .no (fun x hx => by have := itms_mem _ _ x hx; omega) (by simp; omega)
  rw [tgs_itms, spt_iv t.length (t.length + 1) (t.length + 1) 0 (by omega) (by omega) (by omega) (by omega)] at E
  unfold tbody at E
  refine (run_of (ρ0 := [.cl (.str (mkS t)), .no, .no, .no, .no]) rfl).trans ?_
  unfold m__law_tags
  have z : ((0 : Nat) : Int) = 0 := rfl
  have n : iN [] = [] := rfl
  rw [z, n] at E
  simp only [s_seq, th_nx, th_ret, th_exn, s_asg, s_asgO, s_ret, s_retN, s_drop, s_if, s_next, s_raise, e_var, e_own, g_var, g_own1, g_own2, e_c, e_2, e_1, e_N, e_nil, e_cons, e_call, fo_ok, fo_exn, e_callD, e_callK, e_if, e_and, e_or, e_not, e_pure, e_of, e_tr, e_bnot, e_band, e_bor, e_chain, e_bind, e_lift, i_bl, t_bl, e_cut, e_pno, e_pat, p_int, i_seq, i_range, i_zip, bnd_ok, bnd_exn, so_ok, so_exn, rb_ok, if_true, if_false, Bool.false_eq_true, e_callO, ow_is, ow_in, ow_ok, fo_ret, fo_ret0, fo_ex, s_par, par_2, s_parO, s_app, ow_lst, e_move, mv_ow, s_asgTup, tup_2, e_wcl, e_wow, s_trip, s_pair, ow_l, is_o, s_ext, s_ins, s_aug, aug_cl, add_o, e_MT, List.getElem?_cons_succ, List.getElem?_cons_zero, List.set_cons_zero, List.set_cons_succ, List.cons_append, List.nil_append, I, mkl0, s_for, it_l, E]
  rfl
/-! marks -/
def mD (m : Nat × List Nat) : D := .tup [.int (m.1 : Nat), .str (mkS m.2)]
theorem flats_nat : ∀ S : List Nat, flats (iN S) = some (S.map fun p => .int (p : Nat))
  | [] => rfl
  | p :: S => by
    show (match flat (.int (p : Nat)) with
      | none => none
      | some v => (flats (iN S)).map (v :: ·)) = _
    rw [flats_nat S]
    rfl
theorem in_nat {S : List Nat} {i : Int} (p : Nat) (h : i = (p : Nat)) : opIn (.int i) (.lst (iN S)) = .ok (.bl (decide (p ∈ S))) := by
  subst h
  show (match (match flats (iN S) with
      | some vs => R.ok (inV (.int (p : Nat)) vs)
      | none => .bad) with
    | .ok b => R.ok (D.bl b)
    | .bad => .bad) = _
  rw [flats_nat]
  have e : inV (.int (p : Nat)) (S.map fun p => V.int (p : Nat)) = decide (p ∈ S) := by
    unfold inV
    rw [List.any_map, Bool.eq_iff_iff, List.any_eq_true, decide_eq_true_iff]
    constructor
    · rintro ⟨x, hx, h⟩
      have h2 : ((x : Int) == (p : Int)) = true := h
      have h3 : (x : Int) = p := by simpa using h2
      have : x = p := by omega
      rw [← this]; exact hx
    · intro h
      refine ⟨p, h, ?_⟩
      show ((p : Int) == (p : Int)) = true
      simp
  dsimp only
  rw [e]
theorem range_n {n : Nat} (h : n ≤ 16777216) : toRange [.int (n : Nat)] = .ok ((List.range n).map fun i : Nat => .int (0 + (i : Nat))) := by
  show (if (n : Int) ≤ 16777216 ∧ -(2 ^ 62) ≤ (n : Int) then R.ok (upFrom 0 (n : Int).toNat) else .bad) = _
  rw [if_pos ⟨by omega, by omega⟩]
  rfl
theorem bls_f {α : Type} {f : α → Bool} : ∀ xs : List α, dBls (xs.map fun x => D.bl (f x)) = some (xs.map f)
  | [] => rfl
  | x :: xs => by
    rw [List.map_cons, List.map_cons]
    unfold dBls
    rw [bls_f xs]
    rfl
theorem all_f {α : Type} {f : α → Bool} {xs : List α} : opAll [.lst (xs.map fun x => D.bl (f x))] = .ok (.bl (xs.all f)) := by
  show (match dBls (xs.map fun x => D.bl (f x)) with
    | some is => R.ok (D.bl (is.all id))
    | none => R.bad) = _
  rw [bls_f]
  dsimp only
  rw [List.all_map]
  rfl
noncomputable def mbody : MS := (sIf (bAnd (bOf (e2 opEq (eCut (eVar 0) (pAt (eVar 3)) (pAt (e2 opAdd (eVar 3) (eN opLen (aCons (eVar 4) (aNil)))))) (eVar 4))) (bTr (eN opAll (aCons (eLC [5] (tgName 5) (M.pure true) (e2 opIn (e2 opAdd (eVar 3) (eVar 5)) (eVar 1)) (iRange (aCons (eN opLen (aCons (eVar 4) (aNil))) aNil))) (aNil))))) (sApp 2 (eN mkTup (aCons (eVar 3) (aCons (eVar 4) (aNil))))) (sNext))
theorem mbody_ok {t S : List Nat} (hl : t.length ≤ 900000) {p : Nat} (hp : p ≤ t.length) {w : List Nat} (hw : w.length ≤ 100) {acc : List D} (hc : acc.length < 16777216) :
    mbody [.cl (.str (mkS t)), .cl (.lst (iN S)), .ow (.lst acc), .cl (.int (p : Nat)), .cl (.str (mkS w)), .no] = .nx [.cl (.str (mkS t)), .cl (.lst (iN S)), .ow (.lst (acc ++ if whole t S p w = true then [mD (p, w)] else [])), .cl (.int (p : Nat)), .cl (.str (mkS w)), .no] := by
  have P := pre_cut (t := t) (w := w) (p := p) hp
  have CS : ∀ {lo hi : Option Int}, cutD (.str (mkS t)) lo hi = .ok (.str (cutS (mkS t) lo hi)) := fun {lo hi} => cut_str (by omega)
  have WL : opLen [.str (mkS w)] = .ok (.int (w.length : Nat)) := len_mkS (by omega)
  have L := ev_lcM (vs := [5]) (t := tgName 5) (e := (e2 opIn (e2 opAdd (eVar 3) (eVar 5)) (eVar 1))) (mi := (iRange (aCons (eN opLen (aCons (eVar 4) (aNil))) aNil))) (ρ := [.cl (.str (mkS t)), .cl (.lst (iN S)), .ow (.lst acc), .cl (.int (p : Nat)), .cl (.str (mkS w)), .no]) (ρ1 := [.cl (.str (mkS t)), .cl (.lst (iN S)), .ow (.lst acc), .cl (.int (p : Nat)), .cl (.str (mkS w)), .no])
    (G := fun i : Nat => D.int (0 + (i : Nat))) (E := fun i : Nat => D.bl (decide (p + i ∈ S))) (env := fun i : Nat => [.cl (.str (mkS t)), .cl (.lst (iN S)), .ow (.lst acc), .cl (.int (p : Nat)), .cl (.str (mkS w)), .cl (.int (0 + (i : Nat)))]) (xs := List.range w.length)
    (by simp only [s_seq, th_nx, th_ret, th_exn, s_asg, s_asgO, s_ret, s_retN, s_drop, s_if, s_next, s_raise, e_var, e_own, g_var, g_own1, g_own2, e_c, e_2, e_1, e_N, e_nil, e_cons, e_call, fo_ok, fo_exn, e_callD, e_callK, e_if, e_and, e_or, e_not, e_pure, e_of, e_tr, e_bnot, e_band, e_bor, e_chain, e_bind, e_lift, i_bl, t_bl, e_cut, e_pno, e_pat, p_int, i_seq, i_range, i_zip, bnd_ok, bnd_exn, so_ok, so_exn, rb_ok, if_true, if_false, Bool.false_eq_true, e_callO, ow_is, ow_in, ow_ok, fo_ret, fo_ret0, fo_ex, s_par, par_2, s_parO, s_app, ow_lst, e_move, mv_ow, s_asgTup, tup_2, e_wcl, e_wow, s_trip, s_pair, ow_l, is_o, s_ext, s_ins, s_aug, aug_cl, add_o, e_MT, List.getElem?_cons_succ, List.getElem?_cons_zero, List.set_cons_zero, List.set_cons_succ, List.cons_append, List.nil_append, WL, range_n (show w.length ≤ 16777216 by omega)]) rfl rfl (fun _ _ => rfl) (fun i hi => by simp only [s_seq, th_nx, th_ret, th_exn, s_asg, s_asgO, s_ret, s_retN, s_drop, s_if, s_next, s_raise, e_var, e_own, g_var, g_own1, g_own2, e_c, e_2, e_1, e_N, e_nil, e_cons, e_call, fo_ok, fo_exn, e_callD, e_callK, e_if, e_and, e_or, e_not, e_pure, e_of, e_tr, e_bnot, e_band, e_bor, e_chain, e_bind, e_lift, i_bl, t_bl, e_cut, e_pno, e_pat, p_int, i_seq, i_range, i_zip, bnd_ok, bnd_exn, so_ok, so_exn, rb_ok, if_true, if_false, Bool.false_eq_true, e_callO, ow_is, ow_in, ow_ok, fo_ret, fo_ret0, fo_ex, s_par, par_2, s_parO, s_app, ow_lst, e_move, mv_ow, s_asgTup, tup_2, e_wcl, e_wow, s_trip, s_pair, ow_l, is_o, s_ext, s_ins, s_aug, aug_cl, add_o, e_MT, List.getElem?_cons_succ, List.getElem?_cons_zero, List.set_cons_zero, List.set_cons_succ, List.cons_append, List.nil_append, add_int', in_nat (S := S) (i := (p : Int) + (0 + (i : Nat))) (p + i) (by omega)]) (fun _ _ => rfl)
  unfold mbody whole
  cases q : pre w t p with
  | false =>
    rw [q] at P
    simp only [s_seq, th_nx, th_ret, th_exn, s_asg, s_asgO, s_ret, s_retN, s_drop, s_if, s_next, s_raise, e_var, e_own, g_var, g_own1, g_own2, e_c, e_2, e_1, e_N, e_nil, e_cons, e_call, fo_ok, fo_exn, e_callD, e_callK, e_if, e_and, e_or, e_not, e_pure, e_of, e_tr, e_bnot, e_band, e_bor, e_chain, e_bind, e_lift, i_bl, t_bl, e_cut, e_pno, e_pat, p_int, i_seq, i_range, i_zip, bnd_ok, bnd_exn, so_ok, so_exn, rb_ok, if_true, if_false, Bool.false_eq_true, e_callO, ow_is, ow_in, ow_ok, fo_ret, fo_ret0, fo_ex, s_par, par_2, s_parO, s_app, ow_lst, e_move, mv_ow, s_asgTup, tup_2, e_wcl, e_wow, s_trip, s_pair, ow_l, is_o, s_ext, s_ins, s_aug, aug_cl, add_o, e_MT, List.getElem?_cons_succ, List.getElem?_cons_zero, List.set_cons_zero, List.set_cons_succ, List.cons_append, List.nil_append, CS, WL, add_int', P, Bool.false_and, List.append_nil]
  | true =>
    rw [q] at P
    cases q2 : (List.range w.length).all fun k => decide (p + k ∈ S) with
    | false =>
      have A := all_f (f := fun k => decide (p + k ∈ S)) (xs := List.range w.length)
      rw [q2] at A
      simp only [s_seq, th_nx, th_ret, th_exn, s_asg, s_asgO, s_ret, s_retN, s_drop, s_if, s_next, s_raise, e_var, e_own, g_var, g_own1, g_own2, e_c, e_2, e_1, e_N, e_nil, e_cons, e_call, fo_ok, fo_exn, e_callD, e_callK, e_if, e_and, e_or, e_not, e_pure, e_of, e_tr, e_bnot, e_band, e_bor, e_chain, e_bind, e_lift, i_bl, t_bl, e_cut, e_pno, e_pat, p_int, i_seq, i_range, i_zip, bnd_ok, bnd_exn, so_ok, so_exn, rb_ok, if_true, if_false, Bool.false_eq_true, e_callO, ow_is, ow_in, ow_ok, fo_ret, fo_ret0, fo_ex, s_par, par_2, s_parO, s_app, ow_lst, e_move, mv_ow, s_asgTup, tup_2, e_wcl, e_wow, s_trip, s_pair, ow_l, is_o, s_ext, s_ins, s_aug, aug_cl, add_o, e_MT, List.getElem?_cons_succ, List.getElem?_cons_zero, List.set_cons_zero, List.set_cons_succ, List.cons_append, List.nil_append, CS, WL, add_int', P, L, A, Bool.and_false, List.append_nil]
    | true =>
      have A := all_f (f := fun k => decide (p + k ∈ S)) (xs := List.range w.length)
      rw [q2] at A
      have hpu : ∀ {ρ : Rho}, putOw 2 (.tup [.int (p : Nat), .str (mkS w)]) (some (.ow (.lst acc))) ρ = .nx (ρ.set 2 (.ow (.lst (acc ++ [.tup [.int (p : Nat), .str (mkS w)]])))) := fun {ρ} => put_lst hc
      simp only [s_seq, th_nx, th_ret, th_exn, s_asg, s_asgO, s_ret, s_retN, s_drop, s_if, s_next, s_raise, e_var, e_own, g_var, g_own1, g_own2, e_c, e_2, e_1, e_N, e_nil, e_cons, e_call, fo_ok, fo_exn, e_callD, e_callK, e_if, e_and, e_or, e_not, e_pure, e_of, e_tr, e_bnot, e_band, e_bor, e_chain, e_bind, e_lift, i_bl, t_bl, e_cut, e_pno, e_pat, p_int, i_seq, i_range, i_zip, bnd_ok, bnd_exn, so_ok, so_exn, rb_ok, if_true, if_false, Bool.false_eq_true, e_callO, ow_is, ow_in, ow_ok, fo_ret, fo_ret0, fo_ex, s_par, par_2, s_parO, s_app, ow_lst, e_move, mv_ow, s_asgTup, tup_2, e_wcl, e_wow, s_trip, s_pair, ow_l, is_o, s_ext, s_ins, s_aug, aug_cl, add_o, e_MT, List.getElem?_cons_succ, List.getElem?_cons_zero, List.set_cons_zero, List.set_cons_succ, List.cons_append, List.nil_append, CS, WL, add_int', P, L, A, Bool.and_true, mk2t, hpu, mD]
theorem signs_loop {t S : List Nat} (hl : t.length ≤ 900000) {p : Nat} (hp : p ≤ t.length) : ∀ (ws : List (List Nat)) (acc : List D) (y4 : Sl), (∀ w ∈ ws, w.length ≤ 100) → acc.length + ws.length < 16777216 →
    ∃ z4, forLoop (tgName 4) mbody (ws.map fun w => .str (mkS w)) [.cl (.str (mkS t)), .cl (.lst (iN S)), .ow (.lst acc), .cl (.int (p : Nat)), y4, .no] = .nx [.cl (.str (mkS t)), .cl (.lst (iN S)), .ow (.lst (acc ++ ((ws.filter (whole t S p)).map fun w => (p, w)).map mD)), .cl (.int (p : Nat)), z4, .no]
  | [], acc, y4, _, _ => ⟨y4, by simp only [List.filter_nil, List.map_nil, List.append_nil]; rfl⟩
  | w :: ws, acc, y4, h, hc => by
    simp only [List.length_cons] at hc
    have B := mbody_ok (S := S) hl hp (h w List.mem_cons_self) (acc := acc) (by omega)
    obtain ⟨z4, E⟩ := signs_loop hl hp ws (acc ++ if whole t S p w = true then [mD (p, w)] else []) (.cl (.str (mkS w))) (fun w hw => h w (List.mem_cons_of_mem _ hw)) (by split <;> simp <;> omega)
    refine ⟨z4, for_nx rfl B ?_⟩
    rw [E, List.append_assoc]
    by_cases q : whole t S p w = true
    · rw [if_pos q, List.filter_cons_of_pos q]
      rfl
    · rw [if_neg q, List.filter_cons_of_neg q]
      rfl
noncomputable def pbody : MS := (sFor (tgName 4) (iSeq (eN mkLst (aCons (eC (.str "<only>")) (aCons (eC (.str "</only>")) (aCons (eC (.str "<not>")) (aCons (eC (.str "</not>")) (aNil))))))) mbody)
theorem mk_sgs : mkLst [.str "<only>", .str "</only>", .str "<not>", .str "</not>"] = .ok (.lst (sgs.map fun w => .str (mkS w))) := by kernel_rfl
theorem sgs_100 : ∀ w ∈ sgs, w.length ≤ 100 := by decide
theorem places_loop {t S : List Nat} (hl : t.length ≤ 900000) : ∀ (R : List Nat) (acc : List D) (y3 y4 : Sl), (∀ p ∈ R, p ≤ t.length) → acc.length + 4 * R.length < 16777212 →
    ∃ z3 z4, forLoop (tgName 3) pbody (iN R) [.cl (.str (mkS t)), .cl (.lst (iN S)), .ow (.lst acc), y3, y4, .no] = .nx [.cl (.str (mkS t)), .cl (.lst (iN S)), .ow (.lst (acc ++ (R.flatMap fun p => (sgs.filter (whole t S p)).map fun w => (p, w)).map mD)), z3, z4, .no]
  | [], acc, y3, y4, _, _ => ⟨y3, y4, by rw [List.flatMap_nil, List.map_nil, List.append_nil]; rfl⟩
  | p :: R, acc, y3, y4, h, hc => by
    simp only [List.length_cons] at hc
    obtain ⟨u4, B⟩ := signs_loop (S := S) hl (h p List.mem_cons_self) sgs acc y4 sgs_100 (by show acc.length + 4 < _; omega)
    have fl : (sgs.filter (whole t S p)).length ≤ 4 := List.length_filter_le _ sgs
    obtain ⟨z3, z4, E⟩ := places_loop hl R (acc ++ ((sgs.filter (whole t S p)).map fun w => (p, w)).map mD) (.cl (.int (p : Nat))) u4 (fun p hp => h p (List.mem_cons_of_mem _ hp)) (by simp only [List.length_append, List.length_map]; omega)
    refine ⟨z3, z4, ?_⟩
    rw [List.flatMap_cons, List.map_append, ← List.append_assoc]
    refine for_nx (ρ1 := [.cl (.str (mkS t)), .cl (.lst (iN S)), .ow (.lst acc), .cl (.int (p : Nat)), y4, .no]) rfl ?_ E
    unfold pbody
    simp only [s_seq, th_nx, th_ret, th_exn, s_asg, s_asgO, s_ret, s_retN, s_drop, s_if, s_next, s_raise, e_var, e_own, g_var, g_own1, g_own2, e_c, e_2, e_1, e_N, e_nil, e_cons, e_call, fo_ok, fo_exn, e_callD, e_callK, e_if, e_and, e_or, e_not, e_pure, e_of, e_tr, e_bnot, e_band, e_bor, e_chain, e_bind, e_lift, i_bl, t_bl, e_cut, e_pno, e_pat, p_int, i_seq, i_range, i_zip, bnd_ok, bnd_exn, so_ok, so_exn, rb_ok, if_true, if_false, Bool.false_eq_true, e_callO, ow_is, ow_in, ow_ok, fo_ret, fo_ret0, fo_ex, s_par, par_2, s_parO, s_app, ow_lst, e_move, mv_ow, s_asgTup, tup_2, e_wcl, e_wow, s_trip, s_pair, ow_l, is_o, s_ext, s_ins, s_aug, aug_cl, add_o, e_MT, List.getElem?_cons_succ, List.getElem?_cons_zero, List.set_cons_zero, List.set_cons_succ, List.cons_append, List.nil_append, s_for, mk_sgs, it_l, B]
def mkT (t : List Nat) : List (Nat × List Nat) := marks t (spS t)
theorem spS_lt {t : List Nat} : ∀ p ∈ spS t, p < t.length := fun p hp => (ivT_Iv.mem p hp).2
theorem sorted_len {n : Nat} {S : List Nat} (so : S.Pairwise (· < ·)) (h : ∀ p ∈ S, p < n) : S.length ≤ n := by
  have nd : S.Nodup := so.imp fun h => by omega
  have := nd.length_le_of_subset (l₂ := List.range n) fun p hp => List.mem_range.mpr (h p hp)
  simpa using this
theorem spS_len {t : List Nat} : (spS t).length ≤ t.length := sorted_len ivT_Iv.sorted spS_lt
theorem law_marks_ok {t : List Nat} (hl : t.length ≤ 900000) : f__law_marks [.str (mkS t)] = .ok (.lst ((mkT t).map mD)) [] := by
  have G := law_tags_ok hl
  have sl := spS_len (t := t)
  obtain ⟨z3, z4, E⟩ := places_loop (S := spS t) hl (spS t) [] .no .no (fun p hp => by have := spS_lt p hp; omega) (by simp; omega)
  unfold pbody mbody at E
  refine (run_of (ρ0 := [.cl (.str (mkS t)), .no, .no, .no, .no, .no]) rfl).trans ?_
  unfold m__law_marks
  simp only [s_seq, th_nx, th_ret, th_exn, s_asg, s_asgO, s_ret, s_retN, s_drop, s_if, s_next, s_raise, e_var, e_own, g_var, g_own1, g_own2, e_c, e_2, e_1, e_N, e_nil, e_cons, e_call, fo_ok, fo_exn, e_callD, e_callK, e_if, e_and, e_or, e_not, e_pure, e_of, e_tr, e_bnot, e_band, e_bor, e_chain, e_bind, e_lift, i_bl, t_bl, e_cut, e_pno, e_pat, p_int, i_seq, i_range, i_zip, bnd_ok, bnd_exn, so_ok, so_exn, rb_ok, if_true, if_false, Bool.false_eq_true, e_callO, ow_is, ow_in, ow_ok, fo_ret, fo_ret0, fo_ex, s_par, par_2, s_parO, s_app, ow_lst, e_move, mv_ow, s_asgTup, tup_2, e_wcl, e_wow, s_trip, s_pair, ow_l, is_o, s_ext, s_ins, s_aug, aug_cl, add_o, e_MT, List.getElem?_cons_succ, List.getElem?_cons_zero, List.set_cons_zero, List.set_cons_succ, List.cons_append, List.nil_append, G, mkl0, mk2t, s_for, it_l, E]
  rfl
end DL

set_option Elab.async false
set_option linter.all false
set_option maxRecDepth 100000
set_option maxHeartbeats 400000
namespace DL
open PySem PySem.Spec PyProof.Rows L2
/-! the law's stretches -/
def rD (x : List Nat × Nat × Nat) : D := .tup [.str (mkS x.1), .int (x.2.1 : Nat), .int ((x.2.1 : Int) + (x.1.length : Nat)), .int (x.2.2 : Nat), .int ((x.2.2 : Int) + (x.1.length : Nat) + 1)]
theorem pl_nat : Pl (fun p : Nat => D.int (p : Nat)) (fun p => PyData.int (p : Nat)) := fun i => ⟨by unfold toP; rfl, by simp only [PyData.canLay0], by simp only [PyData.depth]⟩
theorem ne_iN {S : List Nat} : opNe (.lst (iN S)) (.lst []) = .ok (.bl (!S.isEmpty)) := ne_nil pl_nat S
theorem s_cl : ("</" : Str) = mkS [60, 47] := by decide +kernel
theorem s_sl : ("/" : Str) = mkS [47] := by decide +kernel
noncomputable def lbody : MS := (sSeq (sAsg (eLC [7, 8] (tgTup [7, 8]) (bAnd (bOf (e2 opGt (eVar 7) (eVar 4))) (bOf (e2 opEq (eVar 8) (e2 opAdd (eC (.str "</")) (eCut (eVar 5) (pAt (eC (.int 1))) (pNo)))))) (eVar 7) (iSeq (eVar 1))) (tgName 6))
  (sIf (bAnd (bOf (e2 opGe (eVar 4) (eVar 3))) (bAnd (bOf (e2 opNe (e2 opIx (eVar 5) (eC (.int 1))) (eC (.str "/")))) (bOf (e2 opNe (eVar 6) (eN mkLst (aNil)))))) (sSeq (sApp 2 (eN mkTup (aCons (eVar 5) (aCons (eVar 4) (aCons (e2 opAdd (eVar 4) (eN opLen (aCons (eVar 5) (aNil)))) (aCons (e2 opIx (eVar 6) (eC (.int 0))) (aCons (e2 opAdd (e2 opAdd (e2 opIx (eVar 6) (eC (.int 0))) (eN opLen (aCons (eVar 5) (aNil)))) (eC (.int 1))) (aNil))))))))
  (sAsg (e2 opIx (e2 opIx (eOwn 2) (e1 opNeg (eC (.int 1)))) (eC (.int 4))) (tgName 3))) (sNext)))
theorem lbody_ok {T : D} {M : List (Nat × List Nat)} {acc : List D} {a p : Nat} {w : List Nat} {c : Nat} {y6 : Sl} (hw : w.length ≤ 100) (hc : w[1]? = some c) (ha : acc.length < 16777216) (hM : ∀ x ∈ M, x.2.length ≤ 100) (hMl : M.length ≤ 16777216) :
    ∃ z6, lbody [.cl T, .cl (.lst (M.map mD)), .ow (.lst acc), .cl (.int (a : Nat)), .cl (.int (p : Nat)), .cl (.str (mkS w)), y6, .no, .no] =
      .nx (if good M a (p, w) = true then [.cl T, .cl (.lst (M.map mD)), .ow (.lst (acc ++ [rD (itm M (p, w))])), .cl (.int (((ends M (p, w)).headD 0 : Nat) + (w.length : Nat) + 1)), .cl (.int (p : Nat)), .cl (.str (mkS w)), z6, .no, .no]
        else [.cl T, .cl (.lst (M.map mD)), .ow (.lst acc), .cl (.int (a : Nat)), .cl (.int (p : Nat)), .cl (.str (mkS w)), z6, .no, .no]) := by
  have C1 : cutD (.str (mkS w)) (some 1) none = .ok (.str (mkS (w.drop 1))) := by rw [cut_str (by omega), cut_from (t := w) (i := 1) 1 rfl]
  have A1 : opAdd (.str "</") (.str (mkS (w.drop 1))) = .ok (.str (mkS (60 :: 47 :: w.tail))) := by
    rw [s_cl, add_mkS (by simp; omega), List.drop_one]
    rfl
  have L := ev_lcF (vs := [7, 8]) (t := tgTup [7, 8]) (c := bAnd (bOf (e2 opGt (eVar 7) (eVar 4))) (bOf (e2 opEq (eVar 8) (e2 opAdd (eC (.str "</")) (eCut (eVar 5) (pAt (eC (.int 1))) (pNo)))))) (e := eVar 7) (mi := iSeq (eVar 1))
    (ρ := [.cl T, .cl (.lst (M.map mD)), .ow (.lst acc), .cl (.int (a : Nat)), .cl (.int (p : Nat)), .cl (.str (mkS w)), y6, .no, .no]) (ρ1 := [.cl T, .cl (.lst (M.map mD)), .ow (.lst acc), .cl (.int (a : Nat)), .cl (.int (p : Nat)), .cl (.str (mkS w)), y6, .no, .no])
    (G := mD) (E := fun x : Nat × List Nat => D.int (x.1 : Nat)) (P := fun x : Nat × List Nat => decide (p < x.1) && decide (x.2 = 60 :: 47 :: w.tail)) (env := fun x : Nat × List Nat => [.cl T, .cl (.lst (M.map mD)), .ow (.lst acc), .cl (.int (a : Nat)), .cl (.int (p : Nat)), .cl (.str (mkS w)), y6, .cl (.int (x.1 : Nat)), .cl (.str (mkS x.2))]) (xs := M)
    (by simp only [s_seq, th_nx, th_ret, th_exn, s_asg, s_asgO, s_ret, s_retN, s_drop, s_if, s_next, s_raise, e_var, e_own, g_var, g_own1, g_own2, e_c, e_2, e_1, e_N, e_nil, e_cons, e_call, fo_ok, fo_exn, e_callD, e_callK, e_if, e_and, e_or, e_not, e_pure, e_of, e_tr, e_bnot, e_band, e_bor, e_chain, e_bind, e_lift, i_bl, t_bl, e_cut, e_pno, e_pat, p_int, i_seq, i_range, i_zip, bnd_ok, bnd_exn, so_ok, so_exn, rb_ok, if_true, if_false, Bool.false_eq_true, e_callO, ow_is, ow_in, ow_ok, fo_ret, fo_ret0, fo_ex, s_par, par_2, s_parO, s_app, ow_lst, e_move, mv_ow, s_asgTup, tup_2, e_wcl, e_wow, s_trip, s_pair, ow_l, is_o, s_ext, s_ins, s_aug, aug_cl, add_o, e_MT, List.getElem?_cons_succ, List.getElem?_cons_zero, List.set_cons_zero, List.set_cons_succ, List.cons_append, List.nil_append, it_l]) rfl rfl (fun _ _ => rfl) (fun x hx => by
      by_cases q : p < x.1
      · have d1 : decide ((p : Int) < (x.1 : Nat)) = true := decide_eq_true (by omega)
        simp only [s_seq, th_nx, th_ret, th_exn, s_asg, s_asgO, s_ret, s_retN, s_drop, s_if, s_next, s_raise, e_var, e_own, g_var, g_own1, g_own2, e_c, e_2, e_1, e_N, e_nil, e_cons, e_call, fo_ok, fo_exn, e_callD, e_callK, e_if, e_and, e_or, e_not, e_pure, e_of, e_tr, e_bnot, e_band, e_bor, e_chain, e_bind, e_lift, i_bl, t_bl, e_cut, e_pno, e_pat, p_int, i_seq, i_range, i_zip, bnd_ok, bnd_exn, so_ok, so_exn, rb_ok, if_true, if_false, Bool.false_eq_true, e_callO, ow_is, ow_in, ow_ok, fo_ret, fo_ret0, fo_ex, s_par, par_2, s_parO, s_app, ow_lst, e_move, mv_ow, s_asgTup, tup_2, e_wcl, e_wow, s_trip, s_pair, ow_l, is_o, s_ext, s_ins, s_aug, aug_cl, add_o, e_MT, List.getElem?_cons_succ, List.getElem?_cons_zero, List.set_cons_zero, List.set_cons_succ, List.cons_append, List.nil_append, gt_int', d1, C1, A1, eq_mkS, decide_eq_true q, Bool.true_and]
      · have d1 : decide ((p : Int) < (x.1 : Nat)) = false := decide_eq_false (by omega)
        simp only [s_seq, th_nx, th_ret, th_exn, s_asg, s_asgO, s_ret, s_retN, s_drop, s_if, s_next, s_raise, e_var, e_own, g_var, g_own1, g_own2, e_c, e_2, e_1, e_N, e_nil, e_cons, e_call, fo_ok, fo_exn, e_callD, e_callK, e_if, e_and, e_or, e_not, e_pure, e_of, e_tr, e_bnot, e_band, e_bor, e_chain, e_bind, e_lift, i_bl, t_bl, e_cut, e_pno, e_pat, p_int, i_seq, i_range, i_zip, bnd_ok, bnd_exn, so_ok, so_exn, rb_ok, if_true, if_false, Bool.false_eq_true, e_callO, ow_is, ow_in, ow_ok, fo_ret, fo_ret0, fo_ex, s_par, par_2, s_parO, s_app, ow_lst, e_move, mv_ow, s_asgTup, tup_2, e_wcl, e_wow, s_trip, s_pair, ow_l, is_o, s_ext, s_ins, s_aug, aug_cl, add_o, e_MT, List.getElem?_cons_succ, List.getElem?_cons_zero, List.set_cons_zero, List.set_cons_succ, List.cons_append, List.nil_append, gt_int', d1, decide_eq_false q, Bool.false_and]) (fun x hx _ => by simp only [s_seq, th_nx, th_ret, th_exn, s_asg, s_asgO, s_ret, s_retN, s_drop, s_if, s_next, s_raise, e_var, e_own, g_var, g_own1, g_own2, e_c, e_2, e_1, e_N, e_nil, e_cons, e_call, fo_ok, fo_exn, e_callD, e_callK, e_if, e_and, e_or, e_not, e_pure, e_of, e_tr, e_bnot, e_band, e_bor, e_chain, e_bind, e_lift, i_bl, t_bl, e_cut, e_pno, e_pat, p_int, i_seq, i_range, i_zip, bnd_ok, bnd_exn, so_ok, so_exn, rb_ok, if_true, if_false, Bool.false_eq_true, e_callO, ow_is, ow_in, ow_ok, fo_ret, fo_ret0, fo_ex, s_par, par_2, s_parO, s_app, ow_lst, e_move, mv_ow, s_asgTup, tup_2, e_wcl, e_wow, s_trip, s_pair, ow_l, is_o, s_ext, s_ins, s_aug, aug_cl, add_o, e_MT, List.getElem?_cons_succ, List.getElem?_cons_zero, List.set_cons_zero, List.set_cons_succ, List.cons_append, List.nil_append]) (fun _ _ => rfl)
  have ED : (M.filter fun x : Nat × List Nat => decide (p < x.1) && decide (x.2 = 60 :: 47 :: w.tail)).map (fun x => D.int (x.1 : Nat)) = iN (ends M (p, w)) := by
    unfold iN ends
    rw [List.map_map]
    rfl
  rw [ED] at L
  have IX : opIx (.str (mkS w)) (.int 1) = .ok (.str (mkS [c])) := ix_mk 1 (by omega) hc
  have NE : opNe (.str (mkS [c])) (.str "/") = .ok (.bl (!decide (c = 47))) := by
    rw [s_sl, ne_mk]
    simp
  refine ⟨.cl (.lst (iN (ends M (p, w)))), ?_⟩
  unfold lbody good
  show _ = SO.nx (if (decide (a ≤ p) && (decide (w[1]? ≠ some 47) && !(ends M (p, w)).isEmpty)) = true then _ else _)
  rw [hc]
  by_cases q1 : a ≤ p
  · have d1 : decide ((a : Int) ≤ (p : Nat)) = true := decide_eq_true (by omega)
    by_cases q2 : c = 47
    · have d2 : decide (some c ≠ some 47) = false := by simp [q2]
      simp only [s_seq, th_nx, th_ret, th_exn, s_asg, s_asgO, s_ret, s_retN, s_drop, s_if, s_next, s_raise, e_var, e_own, g_var, g_own1, g_own2, e_c, e_2, e_1, e_N, e_nil, e_cons, e_call, fo_ok, fo_exn, e_callD, e_callK, e_if, e_and, e_or, e_not, e_pure, e_of, e_tr, e_bnot, e_band, e_bor, e_chain, e_bind, e_lift, i_bl, t_bl, e_cut, e_pno, e_pat, p_int, i_seq, i_range, i_zip, bnd_ok, bnd_exn, so_ok, so_exn, rb_ok, if_true, if_false, Bool.false_eq_true, e_callO, ow_is, ow_in, ow_ok, fo_ret, fo_ret0, fo_ex, s_par, par_2, s_parO, s_app, ow_lst, e_move, mv_ow, s_asgTup, tup_2, e_wcl, e_wow, s_trip, s_pair, ow_l, is_o, s_ext, s_ins, s_aug, aug_cl, add_o, e_MT, List.getElem?_cons_succ, List.getElem?_cons_zero, List.set_cons_zero, List.set_cons_succ, List.cons_append, List.nil_append, L, ge_int, d1, decide_eq_true q1, Bool.true_and, IX, NE, decide_eq_true q2, Bool.not_true, d2, Bool.false_and]
    · have d2 : decide (some c ≠ some 47) = true := by simp [q2]
      cases q3 : ends M (p, w) with
      | nil =>
        rw [q3] at L
        have N0 : opNe (.lst (iN [])) (.lst []) = .ok (.bl false) := ne_iN
        simp only [s_seq, th_nx, th_ret, th_exn, s_asg, s_asgO, s_ret, s_retN, s_drop, s_if, s_next, s_raise, e_var, e_own, g_var, g_own1, g_own2, e_c, e_2, e_1, e_N, e_nil, e_cons, e_call, fo_ok, fo_exn, e_callD, e_callK, e_if, e_and, e_or, e_not, e_pure, e_of, e_tr, e_bnot, e_band, e_bor, e_chain, e_bind, e_lift, i_bl, t_bl, e_cut, e_pno, e_pat, p_int, i_seq, i_range, i_zip, bnd_ok, bnd_exn, so_ok, so_exn, rb_ok, if_true, if_false, Bool.false_eq_true, e_callO, ow_is, ow_in, ow_ok, fo_ret, fo_ret0, fo_ex, s_par, par_2, s_parO, s_app, ow_lst, e_move, mv_ow, s_asgTup, tup_2, e_wcl, e_wow, s_trip, s_pair, ow_l, is_o, s_ext, s_ins, s_aug, aug_cl, add_o, e_MT, List.getElem?_cons_succ, List.getElem?_cons_zero, List.set_cons_zero, List.set_cons_succ, List.cons_append, List.nil_append, L, ge_int, d1, decide_eq_true q1, Bool.true_and, IX, NE, decide_eq_false q2, Bool.not_false, d2, mkl0, N0, List.isEmpty_nil, Bool.not_true, Bool.and_false]
      | cons e es =>
        rw [q3] at L
        have N1 : opNe (.lst (iN (e :: es))) (.lst []) = .ok (.bl true) := ne_iN
        have I0 : opIx (.lst (iN (e :: es))) (.int 0) = .ok (.int (e : Nat)) := ix_l (n := 0) rfl rfl
        have WL : opLen [.str (mkS w)] = .ok (.int (w.length : Nat)) := len_mkS (by omega)
        have hp : ∀ {x : D} {ρ : Rho}, putOw 2 x (some (.ow (.lst acc))) ρ = .nx (ρ.set 2 (.ow (.lst (acc ++ [x])))) := fun {x ρ} => put_lst ha
        have IE : ∀ {x : D}, opIx (.lst (acc ++ [x])) (.int (-1)) = .ok x := fun {x} => ix_end (by simp)
        simp only [s_seq, th_nx, th_ret, th_exn, s_asg, s_asgO, s_ret, s_retN, s_drop, s_if, s_next, s_raise, e_var, e_own, g_var, g_own1, g_own2, e_c, e_2, e_1, e_N, e_nil, e_cons, e_call, fo_ok, fo_exn, e_callD, e_callK, e_if, e_and, e_or, e_not, e_pure, e_of, e_tr, e_bnot, e_band, e_bor, e_chain, e_bind, e_lift, i_bl, t_bl, e_cut, e_pno, e_pat, p_int, i_seq, i_range, i_zip, bnd_ok, bnd_exn, so_ok, so_exn, rb_ok, if_true, if_false, Bool.false_eq_true, e_callO, ow_is, ow_in, ow_ok, fo_ret, fo_ret0, fo_ex, s_par, par_2, s_parO, s_app, ow_lst, e_move, mv_ow, s_asgTup, tup_2, e_wcl, e_wow, s_trip, s_pair, ow_l, is_o, s_ext, s_ins, s_aug, aug_cl, add_o, e_MT, List.getElem?_cons_succ, List.getElem?_cons_zero, List.set_cons_zero, List.set_cons_succ, List.cons_append, List.nil_append, L, ge_int, d1, decide_eq_true q1, Bool.true_and, IX, NE, decide_eq_false q2, Bool.not_false, d2, mkl0, N1, List.isEmpty_cons, I0, WL, add_int', mk5, hp, neg1, IE, ixq4, itm, rD, q3, List.headD_cons]
  · have d1 : decide ((a : Int) ≤ (p : Nat)) = false := decide_eq_false (by omega)
    simp only [s_seq, th_nx, th_ret, th_exn, s_asg, s_asgO, s_ret, s_retN, s_drop, s_if, s_next, s_raise, e_var, e_own, g_var, g_own1, g_own2, e_c, e_2, e_1, e_N, e_nil, e_cons, e_call, fo_ok, fo_exn, e_callD, e_callK, e_if, e_and, e_or, e_not, e_pure, e_of, e_tr, e_bnot, e_band, e_bor, e_chain, e_bind, e_lift, i_bl, t_bl, e_cut, e_pno, e_pat, p_int, i_seq, i_range, i_zip, bnd_ok, bnd_exn, so_ok, so_exn, rb_ok, if_true, if_false, Bool.false_eq_true, e_callO, ow_is, ow_in, ow_ok, fo_ret, fo_ret0, fo_ex, s_par, par_2, s_parO, s_app, ow_lst, e_move, mv_ow, s_asgTup, tup_2, e_wcl, e_wow, s_trip, s_pair, ow_l, is_o, s_ext, s_ins, s_aug, aug_cl, add_o, e_MT, List.getElem?_cons_succ, List.getElem?_cons_zero, List.set_cons_zero, List.set_cons_succ, List.cons_append, List.nil_append, L, ge_int, d1, decide_eq_false q1, Bool.false_and]
theorem lst_loop {T : D} {M : List (Nat × List Nat)} (hM : ∀ x ∈ M, x.2.length ≤ 100) (hMl : M.length ≤ 16777216) : ∀ (R : List (Nat × List Nat)) (acc : List D) (a : Nat) (i : Int) (y4 y5 y6 : Sl), i = (a : Nat) → (∀ x ∈ R, x.2.length ≤ 100 ∧ ∃ c, x.2[1]? = some c) → acc.length + R.length < 16777216 →
    ∃ z3 z4 z5 z6, forLoop (tgTup [4, 5]) lbody (R.map mD) [.cl T, .cl (.lst (M.map mD)), .ow (.lst acc), .cl (.int i), y4, y5, y6, .no, .no] = .nx [.cl T, .cl (.lst (M.map mD)), .ow (.lst (acc ++ (strL M R a).map rD)), z3, z4, z5, z6, .no, .no]
  | [], acc, a, i, y4, y5, y6, _, _, _ => ⟨_, _, _, _, by simp only [strL, List.map_nil, List.append_nil]; rfl⟩
  | (p, w) :: R, acc, a, i, y4, y5, y6, hi, h, hc => by
    subst hi
    simp only [List.length_cons] at hc
    obtain ⟨h1, c, h2⟩ := h (p, w) List.mem_cons_self
    obtain ⟨z6, B⟩ := lbody_ok (T := T) (M := M) (acc := acc) (a := a) (p := p) (w := w) (y6 := y6) h1 h2 (by omega) hM hMl
    by_cases q : good M a (p, w) = true
    · rw [if_pos q] at B
      obtain ⟨u3, u4, u5, u6, E⟩ := lst_loop hM hMl R (acc ++ [rD (itm M (p, w))]) ((ends M (p, w)).headD 0 + w.length + 1) (((ends M (p, w)).headD 0 : Nat) + (w.length : Nat) + 1) (.cl (.int (p : Nat))) (.cl (.str (mkS w))) z6 (by omega) (fun x hx => h x (List.mem_cons_of_mem _ hx)) (by simp; omega)
      refine ⟨u3, u4, u5, u6, ?_⟩
      rw [strL, if_pos q, List.map_cons]
      rw [List.append_assoc] at E
      exact for_nx rfl B E
    · rw [if_neg q] at B
      obtain ⟨u3, u4, u5, u6, E⟩ := lst_loop hM hMl R acc a (a : Nat) (.cl (.int (p : Nat))) (.cl (.str (mkS w))) z6 rfl (fun x hx => h x (List.mem_cons_of_mem _ hx)) (by omega)
      refine ⟨u3, u4, u5, u6, ?_⟩
      rw [strL, if_neg q]
      exact for_nx rfl B E
theorem mkT_mem {t : List Nat} : ∀ x ∈ mkT t, x.2.length ≤ 100 ∧ ∃ c, x.2[1]? = some c := by
  intro x hx
  have h := ((mem_marks (p := x.1) (w := x.2)).mp hx).1
  refine ⟨sgs_100 _ h, ?_⟩
  simp only [sgs, List.mem_cons, List.not_mem_nil, or_false] at h
  rcases h with e | e | e | e <;> rw [e] <;> exact ⟨_, rfl⟩
theorem mkT_len {t : List Nat} : (mkT t).length ≤ t.length := by
  have so : ((mkT t).map (·.1)).Pairwise (· < ·) := by
    rw [List.pairwise_map]
    exact marks_sorted ivT_Iv.sorted
  have := sorted_len (n := t.length) so fun p hp => by
    obtain ⟨x, hx, rfl⟩ := List.mem_map.mp hp
    have h := (mem_marks (p := x.1) (w := x.2)).mp hx
    have := pre_le h.2.1 (sgs_nn h.1)
    have := sgs_ne h.1
    omega
  simpa using this
theorem law_stretches_ok {t : List Nat} (hl : t.length ≤ 900000) : f__law_stretches [.str (mkS t)] = .ok (.lst ((strL (mkT t) (mkT t) 0).map rD)) [] := by
  have G := law_marks_ok hl
  have ml := mkT_len (t := t)
  obtain ⟨z3, z4, z5, z6, E⟩ := lst_loop (T := .str (mkS t)) (M := mkT t) (fun x hx => (mkT_mem x hx).1) (by omega) (mkT t) [] 0 0 .no .no .no rfl mkT_mem (by simp; omega)
  unfold lbody at E
  refine (run_of (ρ0 := [.cl (.str (mkS t)), .no, .no, .no, .no, .no, .no, .no, .no]) rfl).trans ?_
  unfold m__law_stretches
  simp only [s_seq, th_nx, th_ret, th_exn, s_asg, s_asgO, s_ret, s_retN, s_drop, s_if, s_next, s_raise, e_var, e_own, g_var, g_own1, g_own2, e_c, e_2, e_1, e_N, e_nil, e_cons, e_call, fo_ok, fo_exn, e_callD, e_callK, e_if, e_and, e_or, e_not, e_pure, e_of, e_tr, e_bnot, e_band, e_bor, e_chain, e_bind, e_lift, i_bl, t_bl, e_cut, e_pno, e_pat, p_int, i_seq, i_range, i_zip, bnd_ok, bnd_exn, so_ok, so_exn, rb_ok, if_true, if_false, Bool.false_eq_true, e_callO, ow_is, ow_in, ow_ok, fo_ret, fo_ret0, fo_ex, s_par, par_2, s_parO, s_app, ow_lst, e_move, mv_ow, s_asgTup, tup_2, e_wcl, e_wow, s_trip, s_pair, ow_l, is_o, s_ext, s_ins, s_aug, aug_cl, add_o, e_MT, List.getElem?_cons_succ, List.getElem?_cons_zero, List.set_cons_zero, List.set_cons_succ, List.cons_append, List.nil_append, G, mkl0, s_for, it_l, E]
end DL

set_option Elab.async false
set_option linter.all false
set_option maxRecDepth 100000
set_option maxHeartbeats 400000
namespace DL
open PySem PySem.Spec PyProof.Rows L2
/-! given and own -/
def X3 : Type := Nat × Bool × Nat
def lo3 (x : Nat × Bool × Nat) : Nat := x.1 + (oS x.2.1).length
def fin (x : Nat × Bool × Nat) : Nat := x.2.2 + (oC x.2.1).length
section
variable (t : List Nat)
def cx (x : Nat × Bool × Nat) : List Nat := (t.drop (min (lo3 x) t.length)).take (min x.2.2 t.length - min (lo3 x) t.length)
def gap (a : Nat) (x : Nat × Bool × Nat) : List Nat := (t.drop (min a t.length)).take (min x.1 t.length - min a t.length)
def gl : List (Nat × Bool × Nat) → List Nat → Nat → List Nat × Nat
  | [], l, a => (l, a)
  | x :: xs, l, a => gl xs (l ++ gap t a x) (fin x)
def ol : List (Nat × Bool × Nat) → List Nat → Nat → List Nat × Nat
  | [], l, a => (l, a)
  | x :: xs, l, a => ol xs (l ++ (gap t a x ++ cx t x)) (fin x)
end
variable {t : List Nat}
theorem cx_len {x : Nat × Bool × Nat} : (cx t x).length ≤ t.length := by unfold cx; rw [List.length_take, List.length_drop]; omega
theorem gap_len {a : Nat} {x : Nat × Bool × Nat} : (gap t a x).length ≤ t.length := by unfold gap; rw [List.length_take, List.length_drop]; omega
theorem gl_len : ∀ (xs : List (Nat × Bool × Nat)) (l : List Nat) (a : Nat), (gl t xs l a).1.length ≤ l.length + xs.length * t.length
  | [], l, a => by simp [gl]
  | x :: xs, l, a => by
    have h := gl_len xs (l ++ gap t a x) (fin x)
    have g := gap_len (t := t) (a := a) (x := x)
    unfold gl
    rw [List.length_append] at h
    rw [List.length_cons, Nat.add_mul]
    omega
theorem ol_len : ∀ (xs : List (Nat × Bool × Nat)) (l : List Nat) (a : Nat), (ol t xs l a).1.length ≤ l.length + xs.length * (2 * t.length)
  | [], l, a => by simp [ol]
  | x :: xs, l, a => by
    have h := ol_len xs (l ++ (gap t a x ++ cx t x)) (fin x)
    have g := gap_len (t := t) (a := a) (x := x)
    have g2 := cx_len (t := t) (x := x)
    unfold ol
    rw [List.length_append, List.length_append] at h
    rw [List.length_cons, Nat.add_mul]
    omega
/-- the law's row of a stretch -/
def rS (x : Nat × Bool × Nat) : D := .tup [.str (mkS (oS x.2.1)), .int (x.1 : Nat), .int ((x.1 : Int) + ((oS x.2.1).length : Nat)), .int (x.2.2 : Nat), .int ((x.2.2 : Int) + ((oS x.2.1).length : Nat) + 1)]
theorem CSt (hl : t.length ≤ 16777216) {lo hi : Option Int} : cutD (.str (mkS t)) lo hi = .ok (.str (cutS (mkS t) lo hi)) := cut_str hl
theorem CX {x : Nat × Bool × Nat} : cutS (mkS t) (some ((x.1 : Int) + ((oS x.2.1).length : Nat))) (some (x.2.2 : Int)) = mkS (cx t x) := by
  have e : (x.1 : Int) + ((oS x.2.1).length : Nat) = ((lo3 x : Nat) : Int) := by unfold lo3; omega
  rw [e, mkS_cut]
  rfl
theorem CG {a : Nat} {x : Nat × Bool × Nat} : cutS (mkS t) (some (a : Int)) (some (x.1 : Int)) = mkS (gap t a x) := mkS_cut
/-! the loops -/
noncomputable def gB : MS := (sSeq (sAug 3 (eCut (eVar 0) (pAt (eVar 4)) (pAt (eVar 6))))
  (sAsg (eVar 9) (tgName 4)))
theorem g_loop (hl : t.length ≤ 2000) {S O : D} : ∀ (xs : List (Nat × Bool × Nat)) (l : List Nat) (a : Nat) (i : Int) (y5 y6 y7 y8 y9 : Sl), i = (a : Nat) → l.length + xs.length * t.length ≤ 16777216 →
    ∃ j z5 z6 z7 z8 z9, j = ((gl t xs l a).2 : Int) ∧ forLoop (tgTup [5, 6, 7, 8, 9]) gB (xs.map sD) [.cl (.str (mkS t)), .cl S, .cl O, .cl (.str (mkS l)), .cl (.int i), y5, y6, y7, y8, y9] = .nx [.cl (.str (mkS t)), .cl S, .cl O, .cl (.str (mkS (gl t xs l a).1)), .cl (.int j), z5, z6, z7, z8, z9]
  | [], l, a, i, y5, y6, y7, y8, y9, hi, _ => ⟨i, y5, y6, y7, y8, y9, hi, rfl⟩
  | x :: xs, l, a, i, y5, y6, y7, y8, y9, hi, h => by
    subst hi
    rw [List.length_cons, Nat.add_mul] at h
    have g := gap_len (t := t) (a := a) (x := x)
    obtain ⟨j, z5, z6, z7, z8, z9, e, E⟩ := g_loop hl (S := S) (O := O) xs (l ++ gap t a x) (fin x) ((x.2.2 : Int) + ((oC x.2.1).length : Nat)) (.cl (.str (wd x.2.1))) (.cl (.int (x.1 : Nat))) (.cl (.int ((x.1 : Int) + ((oS x.2.1).length : Nat)))) (.cl (.int (x.2.2 : Nat))) (.cl (.int ((x.2.2 : Int) + ((oC x.2.1).length : Nat)))) (by unfold fin; omega) (by rw [List.length_append]; omega)
    refine ⟨j, z5, z6, z7, z8, z9, e, for_nx rfl ?_ E⟩
    unfold gB
    simp only [s_seq, th_nx, th_ret, th_exn, s_asg, s_asgO, s_ret, s_retN, s_drop, s_if, s_next, s_raise, e_var, e_own, g_var, g_own1, g_own2, e_c, e_2, e_1, e_N, e_nil, e_cons, e_call, fo_ok, fo_exn, e_callD, e_callK, e_if, e_and, e_or, e_not, e_pure, e_of, e_tr, e_bnot, e_band, e_bor, e_chain, e_bind, e_lift, i_bl, t_bl, e_cut, e_pno, e_pat, p_int, i_seq, i_range, i_zip, bnd_ok, bnd_exn, so_ok, so_exn, rb_ok, if_true, if_false, Bool.false_eq_true, e_callO, ow_is, ow_in, ow_ok, fo_ret, fo_ret0, fo_ex, s_par, par_2, s_parO, s_app, ow_lst, e_move, mv_ow, s_asgTup, tup_2, e_wcl, e_wow, s_trip, s_pair, ow_l, is_o, s_ext, s_ins, s_aug, aug_cl, add_o, e_MT, List.getElem?_cons_succ, List.getElem?_cons_zero, List.set_cons_zero, List.set_cons_succ, List.cons_append, List.nil_append, CSt (show t.length ≤ 16777216 by omega), CG, augs_str (show l.length + (gap t a x).length ≤ 16777216 by omega)]
noncomputable def gBl : MS := (sPar 3 4 (aCons (e2 opAdd (eVar 3) (eCut (eVar 0) (pAt (eVar 4)) (pAt (eVar 6)))) (aCons (eVar 9) (aNil))))
theorem gl_loop (hl : t.length ≤ 2000) {S O : D} : ∀ (xs : List (Nat × Bool × Nat)) (l : List Nat) (a : Nat) (i : Int) (y5 y6 y7 y8 y9 : Sl), i = (a : Nat) → l.length + xs.length * t.length ≤ 16777216 →
    ∃ j z5 z6 z7 z8 z9, j = ((gl t xs l a).2 : Int) ∧ forLoop (tgTup [5, 6, 7, 8, 9]) gBl (xs.map rS) [.cl (.str (mkS t)), .cl S, .cl O, .cl (.str (mkS l)), .cl (.int i), y5, y6, y7, y8, y9] = .nx [.cl (.str (mkS t)), .cl S, .cl O, .cl (.str (mkS (gl t xs l a).1)), .cl (.int j), z5, z6, z7, z8, z9]
  | [], l, a, i, y5, y6, y7, y8, y9, hi, _ => ⟨i, y5, y6, y7, y8, y9, hi, rfl⟩
  | x :: xs, l, a, i, y5, y6, y7, y8, y9, hi, h => by
    subst hi
    rw [List.length_cons, Nat.add_mul] at h
    have g := gap_len (t := t) (a := a) (x := x)
    have oc := oC_len x.2.1
    obtain ⟨j, z5, z6, z7, z8, z9, e, E⟩ := gl_loop hl (S := S) (O := O) xs (l ++ gap t a x) (fin x) ((x.2.2 : Int) + ((oS x.2.1).length : Nat) + 1) (.cl (.str (mkS (oS x.2.1)))) (.cl (.int (x.1 : Nat))) (.cl (.int ((x.1 : Int) + ((oS x.2.1).length : Nat)))) (.cl (.int (x.2.2 : Nat))) (.cl (.int ((x.2.2 : Int) + ((oS x.2.1).length : Nat) + 1))) (by unfold fin; omega) (by rw [List.length_append]; omega)
    refine ⟨j, z5, z6, z7, z8, z9, e, for_nx rfl ?_ E⟩
    unfold gBl
    simp only [s_seq, th_nx, th_ret, th_exn, s_asg, s_asgO, s_ret, s_retN, s_drop, s_if, s_next, s_raise, e_var, e_own, g_var, g_own1, g_own2, e_c, e_2, e_1, e_N, e_nil, e_cons, e_call, fo_ok, fo_exn, e_callD, e_callK, e_if, e_and, e_or, e_not, e_pure, e_of, e_tr, e_bnot, e_band, e_bor, e_chain, e_bind, e_lift, i_bl, t_bl, e_cut, e_pno, e_pat, p_int, i_seq, i_range, i_zip, bnd_ok, bnd_exn, so_ok, so_exn, rb_ok, if_true, if_false, Bool.false_eq_true, e_callO, ow_is, ow_in, ow_ok, fo_ret, fo_ret0, fo_ex, s_par, par_2, s_parO, s_app, ow_lst, e_move, mv_ow, s_asgTup, tup_2, e_wcl, e_wow, s_trip, s_pair, ow_l, is_o, s_ext, s_ins, s_aug, aug_cl, add_o, e_MT, List.getElem?_cons_succ, List.getElem?_cons_zero, List.set_cons_zero, List.set_cons_succ, List.cons_append, List.nil_append, CSt (show t.length ≤ 16777216 by omega), CG, add_mkS (show l.length + (gap t a x).length ≤ 16777216 by omega)]
noncomputable def oB : MS := (sSeq (sAug 1 (e2 opAdd (eCut (eVar 0) (pAt (eVar 2)) (pAt (eVar 4))) (eCut (eVar 0) (pAt (eVar 5)) (pAt (eVar 6)))))
  (sAsg (eVar 7) (tgName 2)))
theorem o_loop (hl : t.length ≤ 2000) : ∀ (xs : List (Nat × Bool × Nat)) (l : List Nat) (a : Nat) (i : Int) (y3 y4 y5 y6 y7 : Sl), i = (a : Nat) → l.length + xs.length * (2 * t.length) ≤ 16777216 →
    ∃ j z3 z4 z5 z6 z7, j = ((ol t xs l a).2 : Int) ∧ forLoop (tgTup [3, 4, 5, 6, 7]) oB (xs.map sD) [.cl (.str (mkS t)), .cl (.str (mkS l)), .cl (.int i), y3, y4, y5, y6, y7] = .nx [.cl (.str (mkS t)), .cl (.str (mkS (ol t xs l a).1)), .cl (.int j), z3, z4, z5, z6, z7]
  | [], l, a, i, y3, y4, y5, y6, y7, hi, _ => ⟨i, y3, y4, y5, y6, y7, hi, rfl⟩
  | x :: xs, l, a, i, y3, y4, y5, y6, y7, hi, h => by
    subst hi
    rw [List.length_cons, Nat.add_mul] at h
    have g := gap_len (t := t) (a := a) (x := x)
    have g2 := cx_len (t := t) (x := x)
    obtain ⟨j, z3, z4, z5, z6, z7, e, E⟩ := o_loop hl xs (l ++ (gap t a x ++ cx t x)) (fin x) ((x.2.2 : Int) + ((oC x.2.1).length : Nat)) (.cl (.str (wd x.2.1))) (.cl (.int (x.1 : Nat))) (.cl (.int ((x.1 : Int) + ((oS x.2.1).length : Nat)))) (.cl (.int (x.2.2 : Nat))) (.cl (.int ((x.2.2 : Int) + ((oC x.2.1).length : Nat)))) (by unfold fin; omega) (by rw [List.length_append, List.length_append]; omega)
    refine ⟨j, z3, z4, z5, z6, z7, e, for_nx rfl ?_ E⟩
    unfold oB
    simp only [s_seq, th_nx, th_ret, th_exn, s_asg, s_asgO, s_ret, s_retN, s_drop, s_if, s_next, s_raise, e_var, e_own, g_var, g_own1, g_own2, e_c, e_2, e_1, e_N, e_nil, e_cons, e_call, fo_ok, fo_exn, e_callD, e_callK, e_if, e_and, e_or, e_not, e_pure, e_of, e_tr, e_bnot, e_band, e_bor, e_chain, e_bind, e_lift, i_bl, t_bl, e_cut, e_pno, e_pat, p_int, i_seq, i_range, i_zip, bnd_ok, bnd_exn, so_ok, so_exn, rb_ok, if_true, if_false, Bool.false_eq_true, e_callO, ow_is, ow_in, ow_ok, fo_ret, fo_ret0, fo_ex, s_par, par_2, s_parO, s_app, ow_lst, e_move, mv_ow, s_asgTup, tup_2, e_wcl, e_wow, s_trip, s_pair, ow_l, is_o, s_ext, s_ins, s_aug, aug_cl, add_o, e_MT, List.getElem?_cons_succ, List.getElem?_cons_zero, List.set_cons_zero, List.set_cons_succ, List.cons_append, List.nil_append, CSt (show t.length ≤ 16777216 by omega), CG, CX, add_mkS (show (gap t a x).length + (cx t x).length ≤ 16777216 by omega), augs_str (show l.length + (gap t a x ++ cx t x).length ≤ 16777216 by rw [List.length_append]; omega)]
noncomputable def oBl : MS := (sPar 1 2 (aCons (e2 opAdd (e2 opAdd (eVar 1) (eCut (eVar 0) (pAt (eVar 2)) (pAt (eVar 4)))) (eCut (eVar 0) (pAt (eVar 5)) (pAt (eVar 6)))) (aCons (eVar 7) (aNil))))
theorem ol_loop (hl : t.length ≤ 2000) : ∀ (xs : List (Nat × Bool × Nat)) (l : List Nat) (a : Nat) (i : Int) (y3 y4 y5 y6 y7 : Sl), i = (a : Nat) → l.length + xs.length * (2 * t.length) ≤ 16777216 →
    ∃ j z3 z4 z5 z6 z7, j = ((ol t xs l a).2 : Int) ∧ forLoop (tgTup [3, 4, 5, 6, 7]) oBl (xs.map rS) [.cl (.str (mkS t)), .cl (.str (mkS l)), .cl (.int i), y3, y4, y5, y6, y7] = .nx [.cl (.str (mkS t)), .cl (.str (mkS (ol t xs l a).1)), .cl (.int j), z3, z4, z5, z6, z7]
  | [], l, a, i, y3, y4, y5, y6, y7, hi, _ => ⟨i, y3, y4, y5, y6, y7, hi, rfl⟩
  | x :: xs, l, a, i, y3, y4, y5, y6, y7, hi, h => by
    subst hi
    rw [List.length_cons, Nat.add_mul] at h
    have g := gap_len (t := t) (a := a) (x := x)
    have g2 := cx_len (t := t) (x := x)
    have oc := oC_len x.2.1
    obtain ⟨j, z3, z4, z5, z6, z7, e, E⟩ := ol_loop hl xs (l ++ (gap t a x ++ cx t x)) (fin x) ((x.2.2 : Int) + ((oS x.2.1).length : Nat) + 1) (.cl (.str (mkS (oS x.2.1)))) (.cl (.int (x.1 : Nat))) (.cl (.int ((x.1 : Int) + ((oS x.2.1).length : Nat)))) (.cl (.int (x.2.2 : Nat))) (.cl (.int ((x.2.2 : Int) + ((oS x.2.1).length : Nat) + 1))) (by unfold fin; omega) (by rw [List.length_append, List.length_append]; omega)
    refine ⟨j, z3, z4, z5, z6, z7, e, for_nx rfl ?_ E⟩
    unfold oBl
    simp only [s_seq, th_nx, th_ret, th_exn, s_asg, s_asgO, s_ret, s_retN, s_drop, s_if, s_next, s_raise, e_var, e_own, g_var, g_own1, g_own2, e_c, e_2, e_1, e_N, e_nil, e_cons, e_call, fo_ok, fo_exn, e_callD, e_callK, e_if, e_and, e_or, e_not, e_pure, e_of, e_tr, e_bnot, e_band, e_bor, e_chain, e_bind, e_lift, i_bl, t_bl, e_cut, e_pno, e_pat, p_int, i_seq, i_range, i_zip, bnd_ok, bnd_exn, so_ok, so_exn, rb_ok, if_true, if_false, Bool.false_eq_true, e_callO, ow_is, ow_in, ow_ok, fo_ret, fo_ret0, fo_ex, s_par, par_2, s_parO, s_app, ow_lst, e_move, mv_ow, s_asgTup, tup_2, e_wcl, e_wow, s_trip, s_pair, ow_l, is_o, s_ext, s_ins, s_aug, aug_cl, add_o, e_MT, List.getElem?_cons_succ, List.getElem?_cons_zero, List.set_cons_zero, List.set_cons_succ, List.cons_append, List.nil_append, CSt (show t.length ≤ 16777216 by omega), CG, CX, add_mkS (show l.length + (gap t a x).length ≤ 16777216 by omega), add_mkS (show (l ++ gap t a x).length + (cx t x).length ≤ 16777216 by rw [List.length_append]; omega), List.append_assoc]
/-! the texts -/
def onl (xs : List (Nat × Bool × Nat)) : List (Nat × Bool × Nat) := xs.filter fun x => !x.2.1
def gtx (t : List Nat) : List Nat := if (onl (prS t)).isEmpty = true then (gl t (prS t) [] 0).1 ++ t.drop (gl t (prS t) [] 0).2 else TL.joinL [] ((onl (prS t)).map (cx t))
def otx (t : List Nat) : List Nat := (ol t (prS t) [] 0).1 ++ t.drop (ol t (prS t) [] 0).2
theorem eq_only (k : Bool) : opEq (.str (wd k)) (.str "only") = .ok (.bl (!k)) := by cases k <;> kernel_rfl
theorem eq_onlyS (k : Bool) : opEq (.str (mkS (oS k))) (.str "<only>") = .ok (.bl (!k)) := by cases k <;> kernel_rfl
theorem prS_len : (prS t).length ≤ t.length + 1 := strP_len _ _
theorem joins {ys : List (Nat × Bool × Nat)} (hl : t.length ≤ 2000) (hy : ys.length ≤ t.length + 1) : opJoin (.str "") [.lst (ys.map fun x => D.str (mkS (cx t x)))] = .ok (.str (mkS (TL.joinL [] (ys.map (cx t))))) := by
  have b : ∀ ys : List (Nat × Bool × Nat), ((ys.map (cx t)).map List.length).sum ≤ ys.length * t.length := by
    intro ys
    induction ys with
    | nil => simp
    | cons y ys ih =>
      have := cx_len (t := t) (x := y)
      simp only [List.map_cons, List.sum_cons, List.length_cons, Nat.add_mul]
      omega
  have h := b ys
  have h2 : ys.length * t.length ≤ 2001 * 2000 := Nat.mul_le_mul (by omega) hl
  have := join_mk (s := []) (ws := ys.map (cx t)) (by simp only [List.length_nil, Nat.mul_zero]; omega)
  rw [List.map_map] at this
  rw [s0]
  exact this
theorem given_in_ok (hl : t.length ≤ 2000) : f_given_in [.str (mkS t)] = .ok (.str (mkS (gtx t))) [] := by
  have S := stretches_of_ok (t := t) (by omega)
  have pl := prS_len (t := t)
  have L := ev_lcF (vs := [5, 6, 7, 8, 9]) (t := tgTup [5, 6, 7, 8, 9]) (c := (bOf (e2 opEq (eVar 5) (eC (.str "only"))))) (e := (eCut (eVar 0) (pAt (eVar 7)) (pAt (eVar 8)))) (mi := iSeq (eVar 1))
    (ρ := [.cl (.str (mkS t)), .cl (.lst ((prS t).map sD)), .no, .no, .no, .no, .no, .no, .no, .no]) (ρ1 := [.cl (.str (mkS t)), .cl (.lst ((prS t).map sD)), .no, .no, .no, .no, .no, .no, .no, .no])
    (G := sD) (E := fun x => D.str (mkS (cx t x))) (P := fun x => !x.2.1) (env := fun x => [.cl (.str (mkS t)), .cl (.lst ((prS t).map sD)), .no, .no, .no, .cl (.str (wd x.2.1)), .cl (.int (x.1 : Nat)), .cl (.int ((x.1 : Int) + ((oS x.2.1).length : Nat))), .cl (.int (x.2.2 : Nat)), .cl (.int ((x.2.2 : Int) + ((oC x.2.1).length : Nat)))]) (xs := prS t)
    (by simp only [s_seq, th_nx, th_ret, th_exn, s_asg, s_asgO, s_ret, s_retN, s_drop, s_if, s_next, s_raise, e_var, e_own, g_var, g_own1, g_own2, e_c, e_2, e_1, e_N, e_nil, e_cons, e_call, fo_ok, fo_exn, e_callD, e_callK, e_if, e_and, e_or, e_not, e_pure, e_of, e_tr, e_bnot, e_band, e_bor, e_chain, e_bind, e_lift, i_bl, t_bl, e_cut, e_pno, e_pat, p_int, i_seq, i_range, i_zip, bnd_ok, bnd_exn, so_ok, so_exn, rb_ok, if_true, if_false, Bool.false_eq_true, e_callO, ow_is, ow_in, ow_ok, fo_ret, fo_ret0, fo_ex, s_par, par_2, s_parO, s_app, ow_lst, e_move, mv_ow, s_asgTup, tup_2, e_wcl, e_wow, s_trip, s_pair, ow_l, is_o, s_ext, s_ins, s_aug, aug_cl, add_o, e_MT, List.getElem?_cons_succ, List.getElem?_cons_zero, List.set_cons_zero, List.set_cons_succ, List.cons_append, List.nil_append, it_l]) rfl rfl (fun _ _ => rfl) (fun x hx => by simp only [s_seq, th_nx, th_ret, th_exn, s_asg, s_asgO, s_ret, s_retN, s_drop, s_if, s_next, s_raise, e_var, e_own, g_var, g_own1, g_own2, e_c, e_2, e_1, e_N, e_nil, e_cons, e_call, fo_ok, fo_exn, e_callD, e_callK, e_if, e_and, e_or, e_not, e_pure, e_of, e_tr, e_bnot, e_band, e_bor, e_chain, e_bind, e_lift, i_bl, t_bl, e_cut, e_pno, e_pat, p_int, i_seq, i_range, i_zip, bnd_ok, bnd_exn, so_ok, so_exn, rb_ok, if_true, if_false, Bool.false_eq_true, e_callO, ow_is, ow_in, ow_ok, fo_ret, fo_ret0, fo_ex, s_par, par_2, s_parO, s_app, ow_lst, e_move, mv_ow, s_asgTup, tup_2, e_wcl, e_wow, s_trip, s_pair, ow_l, is_o, s_ext, s_ins, s_aug, aug_cl, add_o, e_MT, List.getElem?_cons_succ, List.getElem?_cons_zero, List.set_cons_zero, List.set_cons_succ, List.cons_append, List.nil_append, eq_only]) (fun x hx _ => by simp only [s_seq, th_nx, th_ret, th_exn, s_asg, s_asgO, s_ret, s_retN, s_drop, s_if, s_next, s_raise, e_var, e_own, g_var, g_own1, g_own2, e_c, e_2, e_1, e_N, e_nil, e_cons, e_call, fo_ok, fo_exn, e_callD, e_callK, e_if, e_and, e_or, e_not, e_pure, e_of, e_tr, e_bnot, e_band, e_bor, e_chain, e_bind, e_lift, i_bl, t_bl, e_cut, e_pno, e_pat, p_int, i_seq, i_range, i_zip, bnd_ok, bnd_exn, so_ok, so_exn, rb_ok, if_true, if_false, Bool.false_eq_true, e_callO, ow_is, ow_in, ow_ok, fo_ret, fo_ret0, fo_ex, s_par, par_2, s_parO, s_app, ow_lst, e_move, mv_ow, s_asgTup, tup_2, e_wcl, e_wow, s_trip, s_pair, ow_l, is_o, s_ext, s_ins, s_aug, aug_cl, add_o, e_MT, List.getElem?_cons_succ, List.getElem?_cons_zero, List.set_cons_zero, List.set_cons_succ, List.cons_append, List.nil_append, CSt (show t.length ≤ 16777216 by omega), CX]) (fun _ _ => rfl)
  have hm : (prS t).length * t.length ≤ 2001 * 2000 := Nat.mul_le_mul (by omega) hl
  obtain ⟨j, z5, z6, z7, z8, z9, e, E⟩ := g_loop (t := t) hl (S := .lst ((prS t).map sD)) (O := .lst []) (prS t) [] 0 0 .no .no .no .no .no rfl (by simp only [List.length_nil]; omega)
  have gll := gl_len (t := t) (prS t) [] 0
  have C := cut_from (t := t) (gl t (prS t) [] 0).2 e
  have A := add_mkS (a := (gl t (prS t) [] 0).1) (b := t.drop (gl t (prS t) [] 0).2) (by rw [List.length_drop]; simp only [List.length_nil] at gll; omega)
  rw [show (mkS [] : Str) = "" from s0.symm] at E
  unfold gB at E
  refine (run_of (ρ0 := [.cl (.str (mkS t)), .no, .no, .no, .no, .no, .no, .no, .no, .no]) rfl).trans ?_
  unfold m_given_in gtx
  have J := joins (t := t) (ys := onl (prS t)) hl (by have := List.length_filter_le (fun x : Nat × Bool × Nat => !x.2.1) (prS t); unfold onl; omega)
  unfold onl at J ⊢
  cases q : (prS t).filter (fun x => !x.2.1) with
  | nil =>
    rw [q] at L
    have T0 : truth (.lst []) = .ok false := rfl
    simp only [s_seq, th_nx, th_ret, th_exn, s_asg, s_asgO, s_ret, s_retN, s_drop, s_if, s_next, s_raise, e_var, e_own, g_var, g_own1, g_own2, e_c, e_2, e_1, e_N, e_nil, e_cons, e_call, fo_ok, fo_exn, e_callD, e_callK, e_if, e_and, e_or, e_not, e_pure, e_of, e_tr, e_bnot, e_band, e_bor, e_chain, e_bind, e_lift, i_bl, t_bl, e_cut, e_pno, e_pat, p_int, i_seq, i_range, i_zip, bnd_ok, bnd_exn, so_ok, so_exn, rb_ok, if_true, if_false, Bool.false_eq_true, e_callO, ow_is, ow_in, ow_ok, fo_ret, fo_ret0, fo_ex, s_par, par_2, s_parO, s_app, ow_lst, e_move, mv_ow, s_asgTup, tup_2, e_wcl, e_wow, s_trip, s_pair, ow_l, is_o, s_ext, s_ins, s_aug, aug_cl, add_o, e_MT, List.getElem?_cons_succ, List.getElem?_cons_zero, List.set_cons_zero, List.set_cons_succ, List.cons_append, List.nil_append, S, L, List.map_nil, T0, List.isEmpty_nil, mk2t, s_for, it_l, E, CSt (show t.length ≤ 16777216 by omega), C, A]
  | cons y ys =>
    rw [q] at L J
    have T1 : truth (.lst ((y :: ys).map fun x => D.str (mkS (cx t x)))) = .ok true := rfl
    simp only [s_seq, th_nx, th_ret, th_exn, s_asg, s_asgO, s_ret, s_retN, s_drop, s_if, s_next, s_raise, e_var, e_own, g_var, g_own1, g_own2, e_c, e_2, e_1, e_N, e_nil, e_cons, e_call, fo_ok, fo_exn, e_callD, e_callK, e_if, e_and, e_or, e_not, e_pure, e_of, e_tr, e_bnot, e_band, e_bor, e_chain, e_bind, e_lift, i_bl, t_bl, e_cut, e_pno, e_pat, p_int, i_seq, i_range, i_zip, bnd_ok, bnd_exn, so_ok, so_exn, rb_ok, if_true, if_false, Bool.false_eq_true, e_callO, ow_is, ow_in, ow_ok, fo_ret, fo_ret0, fo_ex, s_par, par_2, s_parO, s_app, ow_lst, e_move, mv_ow, s_asgTup, tup_2, e_wcl, e_wow, s_trip, s_pair, ow_l, is_o, s_ext, s_ins, s_aug, aug_cl, add_o, e_MT, List.getElem?_cons_succ, List.getElem?_cons_zero, List.set_cons_zero, List.set_cons_succ, List.cons_append, List.nil_append, S, L, T1, List.isEmpty_cons, isT_s, J]
theorem own_in_ok (hl : t.length ≤ 2000) : f_own_in [.str (mkS t)] = .ok (.str (mkS (otx t))) [] := by
  have S := stretches_of_ok (t := t) (by omega)
  have pl := prS_len (t := t)
  have hm : (prS t).length * (2 * t.length) ≤ 2001 * 4000 := Nat.mul_le_mul (by omega) (by omega)
  obtain ⟨j, z3, z4, z5, z6, z7, e, E⟩ := o_loop (t := t) hl (prS t) [] 0 0 .no .no .no .no .no rfl (by simp only [List.length_nil]; omega)
  have gll := ol_len (t := t) (prS t) [] 0
  have C := cut_from (t := t) (ol t (prS t) [] 0).2 e
  have A := add_mkS (a := (ol t (prS t) [] 0).1) (b := t.drop (ol t (prS t) [] 0).2) (by rw [List.length_drop]; simp only [List.length_nil] at gll; omega)
  rw [show (mkS [] : Str) = "" from s0.symm] at E
  unfold oB at E
  refine (run_of (ρ0 := [.cl (.str (mkS t)), .no, .no, .no, .no, .no, .no, .no]) rfl).trans ?_
  unfold m_own_in otx
  simp only [s_seq, th_nx, th_ret, th_exn, s_asg, s_asgO, s_ret, s_retN, s_drop, s_if, s_next, s_raise, e_var, e_own, g_var, g_own1, g_own2, e_c, e_2, e_1, e_N, e_nil, e_cons, e_call, fo_ok, fo_exn, e_callD, e_callK, e_if, e_and, e_or, e_not, e_pure, e_of, e_tr, e_bnot, e_band, e_bor, e_chain, e_bind, e_lift, i_bl, t_bl, e_cut, e_pno, e_pat, p_int, i_seq, i_range, i_zip, bnd_ok, bnd_exn, so_ok, so_exn, rb_ok, if_true, if_false, Bool.false_eq_true, e_callO, ow_is, ow_in, ow_ok, fo_ret, fo_ret0, fo_ex, s_par, par_2, s_parO, s_app, ow_lst, e_move, mv_ow, s_asgTup, tup_2, e_wcl, e_wow, s_trip, s_pair, ow_l, is_o, s_ext, s_ins, s_aug, aug_cl, add_o, e_MT, List.getElem?_cons_succ, List.getElem?_cons_zero, List.set_cons_zero, List.set_cons_succ, List.cons_append, List.nil_append, S, mk2t, s_for, it_l, E, CSt (show t.length ≤ 16777216 by omega), C, A]
theorem lst_rows (hl : t.length ≤ 900000) : f__law_stretches [.str (mkS t)] = .ok (.lst ((prS t).map rS)) [] := by
  have h := law_stretches_ok hl
  have e := strP_eq (ivT_Iv (t := t)) (t.length + 1) 0 (by omega)
  have e2 : strL (mkT t) (mkT t) 0 = (prS t).map fun x => (oS x.2.1, x.1, x.2.2) := e
  rw [e2, List.map_map] at h
  exact h
theorem str_ok {w : List Nat} (h : ∀ c ∈ w, okc c = true) : PyData.strOk (mkS w) = true := by
  unfold PyData.strOk
  show w.toArray.all _ = true
  rw [List.all_toArray, List.all_eq_true]
  intro c hc
  have := h c hc
  unfold okc at this
  simp only [Bool.or_eq_true, Bool.and_eq_true, decide_eq_true_iff] at this
  exact decide_eq_true (by omega)
theorem cx_sub {x : Nat × Bool × Nat} : ∀ c ∈ cx t x, c ∈ t := fun c hc => List.mem_of_mem_drop (List.mem_of_mem_take hc)
theorem law_given_ok (hl : t.length ≤ 2000) (ok : ∀ c ∈ t, okc c = true) : f__law_given [.str (mkS t)] = .ok (.str (mkS (gtx t))) [] := by
  have S := lst_rows (t := t) (by omega)
  have pl := prS_len (t := t)
  have L := ev_lcF (vs := [5, 6, 7, 8, 9]) (t := tgTup [5, 6, 7, 8, 9]) (c := (bOf (e2 opEq (eVar 5) (eC (.str "<only>"))))) (e := (eCut (eVar 0) (pAt (eVar 7)) (pAt (eVar 8)))) (mi := iSeq (eVar 1))
    (ρ := [.cl (.str (mkS t)), .cl (.lst ((prS t).map rS)), .no, .no, .no, .no, .no, .no, .no, .no]) (ρ1 := [.cl (.str (mkS t)), .cl (.lst ((prS t).map rS)), .no, .no, .no, .no, .no, .no, .no, .no])
    (G := rS) (E := fun x => D.str (mkS (cx t x))) (P := fun x => !x.2.1) (env := fun x => [.cl (.str (mkS t)), .cl (.lst ((prS t).map rS)), .no, .no, .no, .cl (.str (mkS (oS x.2.1))), .cl (.int (x.1 : Nat)), .cl (.int ((x.1 : Int) + ((oS x.2.1).length : Nat))), .cl (.int (x.2.2 : Nat)), .cl (.int ((x.2.2 : Int) + ((oS x.2.1).length : Nat) + 1))]) (xs := prS t)
    (by simp only [s_seq, th_nx, th_ret, th_exn, s_asg, s_asgO, s_ret, s_retN, s_drop, s_if, s_next, s_raise, e_var, e_own, g_var, g_own1, g_own2, e_c, e_2, e_1, e_N, e_nil, e_cons, e_call, fo_ok, fo_exn, e_callD, e_callK, e_if, e_and, e_or, e_not, e_pure, e_of, e_tr, e_bnot, e_band, e_bor, e_chain, e_bind, e_lift, i_bl, t_bl, e_cut, e_pno, e_pat, p_int, i_seq, i_range, i_zip, bnd_ok, bnd_exn, so_ok, so_exn, rb_ok, if_true, if_false, Bool.false_eq_true, e_callO, ow_is, ow_in, ow_ok, fo_ret, fo_ret0, fo_ex, s_par, par_2, s_parO, s_app, ow_lst, e_move, mv_ow, s_asgTup, tup_2, e_wcl, e_wow, s_trip, s_pair, ow_l, is_o, s_ext, s_ins, s_aug, aug_cl, add_o, e_MT, List.getElem?_cons_succ, List.getElem?_cons_zero, List.set_cons_zero, List.set_cons_succ, List.cons_append, List.nil_append, it_l]) rfl rfl (fun _ _ => rfl) (fun x hx => by simp only [s_seq, th_nx, th_ret, th_exn, s_asg, s_asgO, s_ret, s_retN, s_drop, s_if, s_next, s_raise, e_var, e_own, g_var, g_own1, g_own2, e_c, e_2, e_1, e_N, e_nil, e_cons, e_call, fo_ok, fo_exn, e_callD, e_callK, e_if, e_and, e_or, e_not, e_pure, e_of, e_tr, e_bnot, e_band, e_bor, e_chain, e_bind, e_lift, i_bl, t_bl, e_cut, e_pno, e_pat, p_int, i_seq, i_range, i_zip, bnd_ok, bnd_exn, so_ok, so_exn, rb_ok, if_true, if_false, Bool.false_eq_true, e_callO, ow_is, ow_in, ow_ok, fo_ret, fo_ret0, fo_ex, s_par, par_2, s_parO, s_app, ow_lst, e_move, mv_ow, s_asgTup, tup_2, e_wcl, e_wow, s_trip, s_pair, ow_l, is_o, s_ext, s_ins, s_aug, aug_cl, add_o, e_MT, List.getElem?_cons_succ, List.getElem?_cons_zero, List.set_cons_zero, List.set_cons_succ, List.cons_append, List.nil_append, eq_onlyS]) (fun x hx _ => by simp only [s_seq, th_nx, th_ret, th_exn, s_asg, s_asgO, s_ret, s_retN, s_drop, s_if, s_next, s_raise, e_var, e_own, g_var, g_own1, g_own2, e_c, e_2, e_1, e_N, e_nil, e_cons, e_call, fo_ok, fo_exn, e_callD, e_callK, e_if, e_and, e_or, e_not, e_pure, e_of, e_tr, e_bnot, e_band, e_bor, e_chain, e_bind, e_lift, i_bl, t_bl, e_cut, e_pno, e_pat, p_int, i_seq, i_range, i_zip, bnd_ok, bnd_exn, so_ok, so_exn, rb_ok, if_true, if_false, Bool.false_eq_true, e_callO, ow_is, ow_in, ow_ok, fo_ret, fo_ret0, fo_ex, s_par, par_2, s_parO, s_app, ow_lst, e_move, mv_ow, s_asgTup, tup_2, e_wcl, e_wow, s_trip, s_pair, ow_l, is_o, s_ext, s_ins, s_aug, aug_cl, add_o, e_MT, List.getElem?_cons_succ, List.getElem?_cons_zero, List.set_cons_zero, List.set_cons_succ, List.cons_append, List.nil_append, CSt (show t.length ≤ 16777216 by omega), CX]) (fun _ _ => rfl)
  have hm : (prS t).length * t.length ≤ 2001 * 2000 := Nat.mul_le_mul (by omega) hl
  obtain ⟨j, z5, z6, z7, z8, z9, e, E⟩ := gl_loop (t := t) hl (S := .lst ((prS t).map rS)) (O := .lst []) (prS t) [] 0 0 .no .no .no .no .no rfl (by simp only [List.length_nil]; omega)
  have gll := gl_len (t := t) (prS t) [] 0
  have C := cut_from (t := t) (gl t (prS t) [] 0).2 e
  have A := add_mkS (a := (gl t (prS t) [] 0).1) (b := t.drop (gl t (prS t) [] 0).2) (by rw [List.length_drop]; simp only [List.length_nil] at gll; omega)
  rw [show (mkS [] : Str) = "" from s0.symm] at E
  unfold gBl at E
  refine (run_of (ρ0 := [.cl (.str (mkS t)), .no, .no, .no, .no, .no, .no, .no, .no, .no]) rfl).trans ?_
  unfold m__law_given gtx
  have J := joins (t := t) (ys := onl (prS t)) hl (by have := List.length_filter_le (fun x : Nat × Bool × Nat => !x.2.1) (prS t); unfold onl; omega)
  unfold onl at J ⊢
  cases q : (prS t).filter (fun x => !x.2.1) with
  | nil =>
    rw [q] at L
    have T0 : opNe (.lst []) (.lst []) = .ok (.bl false) := ne_nil pl_nat []
    simp only [s_seq, th_nx, th_ret, th_exn, s_asg, s_asgO, s_ret, s_retN, s_drop, s_if, s_next, s_raise, e_var, e_own, g_var, g_own1, g_own2, e_c, e_2, e_1, e_N, e_nil, e_cons, e_call, fo_ok, fo_exn, e_callD, e_callK, e_if, e_and, e_or, e_not, e_pure, e_of, e_tr, e_bnot, e_band, e_bor, e_chain, e_bind, e_lift, i_bl, t_bl, e_cut, e_pno, e_pat, p_int, i_seq, i_range, i_zip, bnd_ok, bnd_exn, so_ok, so_exn, rb_ok, if_true, if_false, Bool.false_eq_true, e_callO, ow_is, ow_in, ow_ok, fo_ret, fo_ret0, fo_ex, s_par, par_2, s_parO, s_app, ow_lst, e_move, mv_ow, s_asgTup, tup_2, e_wcl, e_wow, s_trip, s_pair, ow_l, is_o, s_ext, s_ins, s_aug, aug_cl, add_o, e_MT, List.getElem?_cons_succ, List.getElem?_cons_zero, List.set_cons_zero, List.set_cons_succ, List.cons_append, List.nil_append, S, L, List.map_nil, mkl0, T0, List.isEmpty_nil, mk2t, s_for, it_l, E, CSt (show t.length ≤ 16777216 by omega), C, A]
  | cons y ys =>
    rw [q] at L J
    have pls : Pl (fun x : Nat × Bool × Nat => D.str (mkS (cx t x))) (fun x => PyData.str (mkS (cx t x))) := fun i => ⟨by unfold toP; rfl, by simp only [PyData.canLay0]; exact str_ok fun c hc => ok c (cx_sub c hc), by simp only [PyData.depth]⟩
    have T1 : opNe (.lst ((y :: ys).map fun x => D.str (mkS (cx t x)))) (.lst []) = .ok (.bl true) := ne_nil pls (y :: ys)
    simp only [s_seq, th_nx, th_ret, th_exn, s_asg, s_asgO, s_ret, s_retN, s_drop, s_if, s_next, s_raise, e_var, e_own, g_var, g_own1, g_own2, e_c, e_2, e_1, e_N, e_nil, e_cons, e_call, fo_ok, fo_exn, e_callD, e_callK, e_if, e_and, e_or, e_not, e_pure, e_of, e_tr, e_bnot, e_band, e_bor, e_chain, e_bind, e_lift, i_bl, t_bl, e_cut, e_pno, e_pat, p_int, i_seq, i_range, i_zip, bnd_ok, bnd_exn, so_ok, so_exn, rb_ok, if_true, if_false, Bool.false_eq_true, e_callO, ow_is, ow_in, ow_ok, fo_ret, fo_ret0, fo_ex, s_par, par_2, s_parO, s_app, ow_lst, e_move, mv_ow, s_asgTup, tup_2, e_wcl, e_wow, s_trip, s_pair, ow_l, is_o, s_ext, s_ins, s_aug, aug_cl, add_o, e_MT, List.getElem?_cons_succ, List.getElem?_cons_zero, List.set_cons_zero, List.set_cons_succ, List.cons_append, List.nil_append, S, L, mkl0, T1, List.isEmpty_cons, isT_s, J]
theorem law_own_ok (hl : t.length ≤ 2000) : f__law_own [.str (mkS t)] = .ok (.str (mkS (otx t))) [] := by
  have S := lst_rows (t := t) (by omega)
  have pl := prS_len (t := t)
  have hm : (prS t).length * (2 * t.length) ≤ 2001 * 4000 := Nat.mul_le_mul (by omega) (by omega)
  obtain ⟨j, z3, z4, z5, z6, z7, e, E⟩ := ol_loop (t := t) hl (prS t) [] 0 0 .no .no .no .no .no rfl (by simp only [List.length_nil]; omega)
  have gll := ol_len (t := t) (prS t) [] 0
  have C := cut_from (t := t) (ol t (prS t) [] 0).2 e
  have A := add_mkS (a := (ol t (prS t) [] 0).1) (b := t.drop (ol t (prS t) [] 0).2) (by rw [List.length_drop]; simp only [List.length_nil] at gll; omega)
  rw [show (mkS [] : Str) = "" from s0.symm] at E
  unfold oBl at E
  refine (run_of (ρ0 := [.cl (.str (mkS t)), .no, .no, .no, .no, .no, .no, .no]) rfl).trans ?_
  unfold m__law_own otx
  simp only [s_seq, th_nx, th_ret, th_exn, s_asg, s_asgO, s_ret, s_retN, s_drop, s_if, s_next, s_raise, e_var, e_own, g_var, g_own1, g_own2, e_c, e_2, e_1, e_N, e_nil, e_cons, e_call, fo_ok, fo_exn, e_callD, e_callK, e_if, e_and, e_or, e_not, e_pure, e_of, e_tr, e_bnot, e_band, e_bor, e_chain, e_bind, e_lift, i_bl, t_bl, e_cut, e_pno, e_pat, p_int, i_seq, i_range, i_zip, bnd_ok, bnd_exn, so_ok, so_exn, rb_ok, if_true, if_false, Bool.false_eq_true, e_callO, ow_is, ow_in, ow_ok, fo_ret, fo_ret0, fo_ex, s_par, par_2, s_parO, s_app, ow_lst, e_move, mv_ow, s_asgTup, tup_2, e_wcl, e_wow, s_trip, s_pair, ow_l, is_o, s_ext, s_ins, s_aug, aug_cl, add_o, e_MT, List.getElem?_cons_succ, List.getElem?_cons_zero, List.set_cons_zero, List.set_cons_succ, List.cons_append, List.nil_append, S, mk2t, s_for, it_l, E, CSt (show t.length ≤ 16777216 by omega), C, A]
end DL

set_option Elab.async false
set_option linter.all false
set_option maxRecDepth 100000
set_option maxHeartbeats 400000
namespace DL
open PySem PySem.Spec PyProof.Rows L2
/-! ### right -/
theorem is_text_ok {t : List Nat} (hl : t.length ≤ 2000) (ok : ∀ c ∈ t, okc c = true) : f_is_text [.str (mkS t)] = .ok (.bl true) [] := by
  rw [is_text_str (by rw [mkS_len]; omega), mkS_list]
  have : t.all okc = true := List.all_eq_true.mpr ok
  rw [this]
theorem check_ok {t : List Nat} (hl : t.length ≤ 2000) (ok : ∀ c ∈ t, okc c = true) : f_check_text [.str (mkS t)] = .ok .non [] := by
  refine (run_of (ρ0 := [.cl (.str (mkS t))]) rfl).trans ?_
  unfold m_check_text
  simp only [s_seq, th_nx, th_ret, th_exn, s_asg, s_asgO, s_ret, s_retN, s_drop, s_if, s_next, s_raise, e_var, e_own, g_var, g_own1, g_own2, e_c, e_2, e_1, e_N, e_nil, e_cons, e_call, fo_ok, fo_exn, e_callD, e_callK, e_if, e_and, e_or, e_not, e_pure, e_of, e_tr, e_bnot, e_band, e_bor, e_chain, e_bind, e_lift, i_bl, t_bl, e_cut, e_pno, e_pat, p_int, i_seq, i_range, i_zip, bnd_ok, bnd_exn, so_ok, so_exn, rb_ok, if_true, if_false, Bool.false_eq_true, e_callO, ow_is, ow_in, ow_ok, fo_ret, fo_ret0, fo_ex, s_par, par_2, s_parO, s_app, ow_lst, e_move, mv_ow, s_asgTup, tup_2, e_wcl, e_wow, s_trip, s_pair, ow_l, is_o, s_ext, s_ins, s_aug, aug_cl, add_o, e_MT, List.getElem?_cons_succ, List.getElem?_cons_zero, List.set_cons_zero, List.set_cons_succ, List.cons_append, List.nil_append, is_text_ok hl ok, Bool.not_true]
  exact fo_nx
theorem given_text_ok {t : List Nat} (hl : t.length ≤ 2000) (ok : ∀ c ∈ t, okc c = true) : f_given_text [.str (mkS t)] = .ok (.str (mkS (gtx t))) [] := by
  refine (run_of (ρ0 := [.cl (.str (mkS t))]) rfl).trans ?_
  unfold m_given_text
  simp only [s_seq, th_nx, th_ret, th_exn, s_asg, s_asgO, s_ret, s_retN, s_drop, s_if, s_next, s_raise, e_var, e_own, g_var, g_own1, g_own2, e_c, e_2, e_1, e_N, e_nil, e_cons, e_call, fo_ok, fo_exn, e_callD, e_callK, e_if, e_and, e_or, e_not, e_pure, e_of, e_tr, e_bnot, e_band, e_bor, e_chain, e_bind, e_lift, i_bl, t_bl, e_cut, e_pno, e_pat, p_int, i_seq, i_range, i_zip, bnd_ok, bnd_exn, so_ok, so_exn, rb_ok, if_true, if_false, Bool.false_eq_true, e_callO, ow_is, ow_in, ow_ok, fo_ret, fo_ret0, fo_ex, s_par, par_2, s_parO, s_app, ow_lst, e_move, mv_ow, s_asgTup, tup_2, e_wcl, e_wow, s_trip, s_pair, ow_l, is_o, s_ext, s_ins, s_aug, aug_cl, add_o, e_MT, List.getElem?_cons_succ, List.getElem?_cons_zero, List.set_cons_zero, List.set_cons_succ, List.cons_append, List.nil_append, check_ok hl ok, given_in_ok hl]
theorem own_text_ok {t : List Nat} (hl : t.length ≤ 2000) (ok : ∀ c ∈ t, okc c = true) : f_own_text [.str (mkS t)] = .ok (.str (mkS (otx t))) [] := by
  refine (run_of (ρ0 := [.cl (.str (mkS t))]) rfl).trans ?_
  unfold m_own_text
  simp only [s_seq, th_nx, th_ret, th_exn, s_asg, s_asgO, s_ret, s_retN, s_drop, s_if, s_next, s_raise, e_var, e_own, g_var, g_own1, g_own2, e_c, e_2, e_1, e_N, e_nil, e_cons, e_call, fo_ok, fo_exn, e_callD, e_callK, e_if, e_and, e_or, e_not, e_pure, e_of, e_tr, e_bnot, e_band, e_bor, e_chain, e_bind, e_lift, i_bl, t_bl, e_cut, e_pno, e_pat, p_int, i_seq, i_range, i_zip, bnd_ok, bnd_exn, so_ok, so_exn, rb_ok, if_true, if_false, Bool.false_eq_true, e_callO, ow_is, ow_in, ow_ok, fo_ret, fo_ret0, fo_ex, s_par, par_2, s_parO, s_app, ow_lst, e_move, mv_ow, s_asgTup, tup_2, e_wcl, e_wow, s_trip, s_pair, ow_l, is_o, s_ext, s_ins, s_aug, aug_cl, add_o, e_MT, List.getElem?_cons_succ, List.getElem?_cons_zero, List.set_cons_zero, List.set_cons_succ, List.cons_append, List.nil_append, check_ok hl ok, own_in_ok hl]
theorem ex_str {n : Nat} {z : List Nat} : f__law_exact_ (n + 1) [.str (mkS z), .str (mkS z)] = .ok (.bl true) [] := by
  unfold f__law_exact_
  refine (run_of (ρ0 := [.cl (.str (mkS z)), .cl (.str (mkS z)), .no, .no, .no]) rfl).trans ?_
  unfold m__law_exact
  have h2 : opIs [.lst, .tup] [("InvalidText", false)] (.str (mkS z)) = .ok (.bl false) := rfl
  have h3 : opIs [.lst, .tup, .dic] [("InvalidText", false)] (.str (mkS z)) = .ok (.bl false) := rfl
  have h4 : opIs [.int, .bl] [("InvalidText", false)] (.str (mkS z)) = .ok (.bl false) := rfl
  have h5 : opIs [.str] [("InvalidText", false)] (.str (mkS z)) = .ok (.bl true) := rfl
  have h6 : opIs [.bl] [("InvalidText", false)] (.str (mkS z)) = .ok (.bl false) := rfl
  have hN : opIsN (.str (mkS z)) .non = .ok (.bl false) := rfl
  simp only [s_seq, th_nx, th_ret, th_exn, s_asg, s_asgO, s_ret, s_retN, s_drop, s_if, s_next, s_raise, e_var, e_own, g_var, g_own1, g_own2, e_c, e_2, e_1, e_N, e_nil, e_cons, e_call, fo_ok, fo_exn, e_callD, e_callK, e_if, e_and, e_or, e_not, e_pure, e_of, e_tr, e_bnot, e_band, e_bor, e_chain, e_bind, e_lift, i_bl, t_bl, e_cut, e_pno, e_pat, p_int, i_seq, i_range, i_zip, bnd_ok, bnd_exn, so_ok, so_exn, rb_ok, if_true, if_false, Bool.false_eq_true, e_callO, ow_is, ow_in, ow_ok, fo_ret, fo_ret0, fo_ex, s_par, par_2, s_parO, s_app, ow_lst, e_move, mv_ow, s_asgTup, tup_2, e_wcl, e_wow, s_trip, s_pair, ow_l, is_o, s_ext, s_ins, s_aug, aug_cl, add_o, e_MT, List.getElem?_cons_succ, List.getElem?_cons_zero, List.set_cons_zero, List.set_cons_succ, List.cons_append, List.nil_append, h2, h3, h4, h5, h6, hN, ne_bl, eq_bl, beq_self_eq_true, Bool.not_true, eq_mkS, decide_true]
theorem ex_lst {n : Nat} {xs : List D} (hl : xs.length ≤ 16777216) (h : ∀ x ∈ xs, f__law_exact_ n [x, x] = .ok (.bl true) []) : f__law_exact_ (n + 1) [.lst xs, .lst xs] = .ok (.bl true) [] := by
  unfold f__law_exact_
  refine (run_of (ρ0 := [.cl (.lst xs), .cl (.lst xs), .no, .no, .no]) rfl).trans ?_
  unfold m__law_exact
  have h2 : opIs [.lst, .tup] [("InvalidText", false)] (.lst xs) = .ok (.bl true) := rfl
  have h3 : opIs [.lst] [("InvalidText", false)] (.lst xs) = .ok (.bl true) := rfl
  have h4 : opIs [.tup] [("InvalidText", false)] (.lst xs) = .ok (.bl false) := rfl
  have L := ev_lcM (vs := [3, 4]) (t := tgTup [3, 4]) (e := (eCall (f__law_exact_ n) (aCons (eVar 3) (aCons (eVar 4) (aNil))))) (mi := (iZip (aCons (eVar 0) (aCons (eVar 1) (aNil))))) (ρ := [.cl (.lst xs), .cl (.lst xs), .cl (.bl true), .no, .no]) (ρ1 := [.cl (.lst xs), .cl (.lst xs), .cl (.bl true), .no, .no])
    (G := fun x => D.tup [x, x]) (E := fun _ => D.bl true) (env := fun x => [.cl (.lst xs), .cl (.lst xs), .cl (.bl true), .cl x, .cl x]) (xs := xs) (by simp only [s_seq, th_nx, th_ret, th_exn, s_asg, s_asgO, s_ret, s_retN, s_drop, s_if, s_next, s_raise, e_var, e_own, g_var, g_own1, g_own2, e_c, e_2, e_1, e_N, e_nil, e_cons, e_call, fo_ok, fo_exn, e_callD, e_callK, e_if, e_and, e_or, e_not, e_pure, e_of, e_tr, e_bnot, e_band, e_bor, e_chain, e_bind, e_lift, i_bl, t_bl, e_cut, e_pno, e_pat, p_int, i_seq, i_range, i_zip, bnd_ok, bnd_exn, so_ok, so_exn, rb_ok, if_true, if_false, Bool.false_eq_true, e_callO, ow_is, ow_in, ow_ok, fo_ret, fo_ret0, fo_ex, s_par, par_2, s_parO, s_app, ow_lst, e_move, mv_ow, s_asgTup, tup_2, e_wcl, e_wow, s_trip, s_pair, ow_l, is_o, s_ext, s_ins, s_aug, aug_cl, add_o, e_MT, List.getElem?_cons_succ, List.getElem?_cons_zero, List.set_cons_zero, List.set_cons_succ, List.cons_append, List.nil_append, zip_lst hl]) rfl rfl (fun _ _ => rfl) (fun x hx => by simp only [s_seq, th_nx, th_ret, th_exn, s_asg, s_asgO, s_ret, s_retN, s_drop, s_if, s_next, s_raise, e_var, e_own, g_var, g_own1, g_own2, e_c, e_2, e_1, e_N, e_nil, e_cons, e_call, fo_ok, fo_exn, e_callD, e_callK, e_if, e_and, e_or, e_not, e_pure, e_of, e_tr, e_bnot, e_band, e_bor, e_chain, e_bind, e_lift, i_bl, t_bl, e_cut, e_pno, e_pat, p_int, i_seq, i_range, i_zip, bnd_ok, bnd_exn, so_ok, so_exn, rb_ok, if_true, if_false, Bool.false_eq_true, e_callO, ow_is, ow_in, ow_ok, fo_ret, fo_ret0, fo_ex, s_par, par_2, s_parO, s_app, ow_lst, e_move, mv_ow, s_asgTup, tup_2, e_wcl, e_wow, s_trip, s_pair, ow_l, is_o, s_ext, s_ins, s_aug, aug_cl, add_o, e_MT, List.getElem?_cons_succ, List.getElem?_cons_zero, List.set_cons_zero, List.set_cons_succ, List.cons_append, List.nil_append, h x hx]) (fun _ _ => rfl)
  simp only [s_seq, th_nx, th_ret, th_exn, s_asg, s_asgO, s_ret, s_retN, s_drop, s_if, s_next, s_raise, e_var, e_own, g_var, g_own1, g_own2, e_c, e_2, e_1, e_N, e_nil, e_cons, e_call, fo_ok, fo_exn, e_callD, e_callK, e_if, e_and, e_or, e_not, e_pure, e_of, e_tr, e_bnot, e_band, e_bor, e_chain, e_bind, e_lift, i_bl, t_bl, e_cut, e_pno, e_pat, p_int, i_seq, i_range, i_zip, bnd_ok, bnd_exn, so_ok, so_exn, rb_ok, if_true, if_false, Bool.false_eq_true, e_callO, ow_is, ow_in, ow_ok, fo_ret, fo_ret0, fo_ex, s_par, par_2, s_parO, s_app, ow_lst, e_move, mv_ow, s_asgTup, tup_2, e_wcl, e_wow, s_trip, s_pair, ow_l, is_o, s_ext, s_ins, s_aug, aug_cl, add_o, e_MT, List.getElem?_cons_succ, List.getElem?_cons_zero, List.set_cons_zero, List.set_cons_succ, List.cons_append, List.nil_append, h2, h3, h4, eq_bl, beq_self_eq_true, len_lst, eq_int, L, all_t]
theorem right_ok {t : List Nat} (hl : t.length ≤ 2000) (ok : ∀ c ∈ t, okc c = true) : f__law_right [.str (mkS t)] = .ok (.bl true) [] := by
  have X : f__law_exact_ 8 [.lst [.str (mkS (gtx t)), .str (mkS (otx t))], .lst [.str (mkS (gtx t)), .str (mkS (otx t))]] = .ok (.bl true) [] := ex_lst (by simp) fun x hx => by
    simp only [List.mem_cons, List.not_mem_nil, or_false] at hx
    rcases hx with rfl | rfl <;> exact ex_str
  have p0 : permL [0] [D.str (mkS t)] = [.str (mkS t)] := rfl
  refine (run_of (ρ0 := [.cl (.str (mkS t)), .no]) rfl).trans ?_
  unfold m__law_right
  simp only [s_seq, th_nx, th_ret, th_exn, s_asg, s_asgO, s_ret, s_retN, s_drop, s_if, s_next, s_raise, e_var, e_own, g_var, g_own1, g_own2, e_c, e_2, e_1, e_N, e_nil, e_cons, e_call, fo_ok, fo_exn, e_callD, e_callK, e_if, e_and, e_or, e_not, e_pure, e_of, e_tr, e_bnot, e_band, e_bor, e_chain, e_bind, e_lift, i_bl, t_bl, e_cut, e_pno, e_pat, p_int, i_seq, i_range, i_zip, bnd_ok, bnd_exn, so_ok, so_exn, rb_ok, if_true, if_false, Bool.false_eq_true, e_callO, ow_is, ow_in, ow_ok, fo_ret, fo_ret0, fo_ex, s_par, par_2, s_parO, s_app, ow_lst, e_move, mv_ow, s_asgTup, tup_2, e_wcl, e_wow, s_trip, s_pair, ow_l, is_o, s_ext, s_ins, s_aug, aug_cl, add_o, e_MT, List.getElem?_cons_succ, List.getElem?_cons_zero, List.set_cons_zero, List.set_cons_succ, List.cons_append, List.nil_append, law_given_ok hl ok, law_own_ok hl, mkkl, given_text_ok hl ok, own_text_ok hl ok, X, p0]
/-! ### refused -/
def odds : List D := [.non, .int 0, .bl true, .lst [.str "a"], .tup [.str "a"], .dic [(.inr "a", .str "b")], .str "a\t", .int 5]
def tellS (d : D) : Bool := match opRepr [d] with
  | .ok r => (match opNe r r with
    | .ok (.bl false) => true
    | _ => false)
  | .bad => false
theorem tellS_eq {d : D} (h : tellS d = true) : ∃ r, opRepr [d] = .ok r ∧ opNe r r = .ok (.bl false) := by
  unfold tellS at h
  split at h
  · rename_i r e
    refine ⟨r, e, ?_⟩
    split at h
    · rename_i e2; exact e2
    · cases h
  · cases h
theorem odds_tell : ∀ d ∈ odds, tellS d = true := by
  intro d hd
  simp only [odds, List.mem_cons, List.not_mem_nil, or_false] at hd
  rcases hd with rfl | rfl | rfl | rfl | rfl | rfl | rfl | rfl <;> decide +kernel
theorem odds_no : ∀ d ∈ odds, f_given_text [d] = .exn "InvalidText" d [] ∧ f_own_text [d] = .exn "InvalidText" d [] := by
  intro d hd
  simp only [odds, List.mem_cons, List.not_mem_nil, or_false] at hd
  rcases hd with rfl | rfl | rfl | rfl | rfl | rfl | rfl | rfl <;> exact ⟨by kernel_rfl, by kernel_rfl⟩
noncomputable def reB : MS := (sIf (bOf (e2 opEq (eVar 1) (eC (.int 0)))) (sDrop (eCall f_given_text (aCons (eVar 0) (aNil)))) (sDrop (eCall f_own_text (aCons (eVar 0) (aNil)))))
noncomputable def reT : MS := (sSeq (sAsg (eC .non) (tgName 2))
  (sSeq (sTryK [("InvalidText", true)] 3 2 reB)
  (sIf (bOr (bNot (bTr (e1 (opIs [] [("InvalidText", true)]) (eVar 2)))) (bOf (e2 opNe (eN opRepr (aCons (e1 opVal (eVar 2)) (aNil))) (eN opRepr (aCons (eVar 0) (aNil)))))) (sRet (eC (.bl false))) (sNext))))
theorem e00 : opEq (.int 0) (.int 0) = .ok (.bl true) := rfl
theorem e10 : opEq (.int 1) (.int 0) = .ok (.bl false) := rfl
theorem reT_ok {d : D} (hd : d ∈ odds) {i : Int} (hi : i = 0 ∨ i = 1) {y2 y3 : Sl} : reT [.cl d, .cl (.int i), y2, y3] = .any fun a => .nx [.cl d, .cl (.int i), .cl (.exc a "InvalidText" d), .no] := by
  obtain ⟨g1, g2⟩ := odds_no d hd
  obtain ⟨r, t1, t2⟩ := tellS_eq (odds_tell d hd)
  have B : reB [.cl d, .cl (.int i), .cl .non, y3] = .exn "InvalidText" d [.cl d, .cl (.int i), .cl .non, y3] := by
    unfold reB
    rcases hi with rfl | rfl
    · simp only [s_seq, th_nx, th_ret, th_exn, s_asg, s_asgO, s_ret, s_retN, s_drop, s_if, s_next, s_raise, e_var, e_own, g_var, g_own1, g_own2, e_c, e_2, e_1, e_N, e_nil, e_cons, e_call, fo_ok, fo_exn, e_callD, e_callK, e_if, e_and, e_or, e_not, e_pure, e_of, e_tr, e_bnot, e_band, e_bor, e_chain, e_bind, e_lift, i_bl, t_bl, e_cut, e_pno, e_pat, p_int, i_seq, i_range, i_zip, bnd_ok, bnd_exn, so_ok, so_exn, rb_ok, if_true, if_false, Bool.false_eq_true, e_callO, ow_is, ow_in, ow_ok, fo_ret, fo_ret0, fo_ex, s_par, par_2, s_parO, s_app, ow_lst, e_move, mv_ow, s_asgTup, tup_2, e_wcl, e_wow, s_trip, s_pair, ow_l, is_o, s_ext, s_ins, s_aug, aug_cl, add_o, e_MT, List.getElem?_cons_succ, List.getElem?_cons_zero, List.set_cons_zero, List.set_cons_succ, List.cons_append, List.nil_append, e00, g1]
    · simp only [s_seq, th_nx, th_ret, th_exn, s_asg, s_asgO, s_ret, s_retN, s_drop, s_if, s_next, s_raise, e_var, e_own, g_var, g_own1, g_own2, e_c, e_2, e_1, e_N, e_nil, e_cons, e_call, fo_ok, fo_exn, e_callD, e_callK, e_if, e_and, e_or, e_not, e_pure, e_of, e_tr, e_bnot, e_band, e_bor, e_chain, e_bind, e_lift, i_bl, t_bl, e_cut, e_pno, e_pat, p_int, i_seq, i_range, i_zip, bnd_ok, bnd_exn, so_ok, so_exn, rb_ok, if_true, if_false, Bool.false_eq_true, e_callO, ow_is, ow_in, ow_ok, fo_ret, fo_ret0, fo_ex, s_par, par_2, s_parO, s_app, ow_lst, e_move, mv_ow, s_asgTup, tup_2, e_wcl, e_wow, s_trip, s_pair, ow_l, is_o, s_ext, s_ins, s_aug, aug_cl, add_o, e_MT, List.getElem?_cons_succ, List.getElem?_cons_zero, List.set_cons_zero, List.set_cons_succ, List.cons_append, List.nil_append, e10, g2]
  have T := st_kept (tab := [("InvalidText", true)]) (i := 3) (j := 2) B rfl (by show 3 < 4; decide)
  unfold reT
  simp only [s_seq, th_nx, th_ret, th_exn, s_asg, s_asgO, s_ret, s_retN, s_drop, s_if, s_next, s_raise, e_var, e_own, g_var, g_own1, g_own2, e_c, e_2, e_1, e_N, e_nil, e_cons, e_call, fo_ok, fo_exn, e_callD, e_callK, e_if, e_and, e_or, e_not, e_pure, e_of, e_tr, e_bnot, e_band, e_bor, e_chain, e_bind, e_lift, i_bl, t_bl, e_cut, e_pno, e_pat, p_int, i_seq, i_range, i_zip, bnd_ok, bnd_exn, so_ok, so_exn, rb_ok, if_true, if_false, Bool.false_eq_true, e_callO, ow_is, ow_in, ow_ok, fo_ret, fo_ret0, fo_ex, s_par, par_2, s_parO, s_app, ow_lst, e_move, mv_ow, s_asgTup, tup_2, e_wcl, e_wow, s_trip, s_pair, ow_l, is_o, s_ext, s_ins, s_aug, aug_cl, add_o, e_MT, List.getElem?_cons_succ, List.getElem?_cons_zero, List.set_cons_zero, List.set_cons_succ, List.cons_append, List.nil_append]
  refine st_any (g := fun a => [.cl d, .cl (.int i), .cl (.exc a "InvalidText" d), .no]) T (fun a => ?_)
  have i4 : opIs [] [("InvalidText", true)] (.exc a "InvalidText" d) = .ok (.bl true) := rfl
  have vl : opVal (.exc a "InvalidText" d) = .ok d := rfl
  simp only [s_seq, th_nx, th_ret, th_exn, s_asg, s_asgO, s_ret, s_retN, s_drop, s_if, s_next, s_raise, e_var, e_own, g_var, g_own1, g_own2, e_c, e_2, e_1, e_N, e_nil, e_cons, e_call, fo_ok, fo_exn, e_callD, e_callK, e_if, e_and, e_or, e_not, e_pure, e_of, e_tr, e_bnot, e_band, e_bor, e_chain, e_bind, e_lift, i_bl, t_bl, e_cut, e_pno, e_pat, p_int, i_seq, i_range, i_zip, bnd_ok, bnd_exn, so_ok, so_exn, rb_ok, if_true, if_false, Bool.false_eq_true, e_callO, ow_is, ow_in, ow_ok, fo_ret, fo_ret0, fo_ex, s_par, par_2, s_parO, s_app, ow_lst, e_move, mv_ow, s_asgTup, tup_2, e_wcl, e_wow, s_trip, s_pair, ow_l, is_o, s_ext, s_ins, s_aug, aug_cl, add_o, e_MT, List.getElem?_cons_succ, List.getElem?_cons_zero, List.set_cons_zero, List.set_cons_succ, List.cons_append, List.nil_append, i4, vl, t1, t2, Bool.not_true]
theorem range2 : toRange [.int 2] = .ok [.int 0, .int 1] := rfl
theorem odd_list : mkLst [.non, .int 0, .bl true, .lst [.str "a"], .tup [.str "a"], .dic [(.inr "a", .str "b")], .str "a\t", .int 5] = .ok (.lst odds) := rfl
theorem mkd1 : mkDic [.str "a", .str "b"] = .ok (.dic [(.inr "a", .str "b")]) := rfl
theorem mkt1 : mkTup [.str "a"] = .ok (.tup [.str "a"]) := rfl
theorem re_two {d : D} (hd : d ∈ odds) {y1 y2 y3 : Sl} : Eve (fun ρ => ∃ x0 x1 x2 x3, ρ = [x0, x1, x2, x3]) (sFor (tgName 1) (iRange (aCons (eC (.int 2)) aNil)) reT [.cl d, y1, y2, y3]) := by
  have F : sFor (tgName 1) (iRange (aCons (eC (.int 2)) aNil)) reT [.cl d, y1, y2, y3] = forLoop (tgName 1) reT [.int 0, .int 1] [.cl d, y1, y2, y3] := by simp only [s_seq, th_nx, th_ret, th_exn, s_asg, s_asgO, s_ret, s_retN, s_drop, s_if, s_next, s_raise, e_var, e_own, g_var, g_own1, g_own2, e_c, e_2, e_1, e_N, e_nil, e_cons, e_call, fo_ok, fo_exn, e_callD, e_callK, e_if, e_and, e_or, e_not, e_pure, e_of, e_tr, e_bnot, e_band, e_bor, e_chain, e_bind, e_lift, i_bl, t_bl, e_cut, e_pno, e_pat, p_int, i_seq, i_range, i_zip, bnd_ok, bnd_exn, so_ok, so_exn, rb_ok, if_true, if_false, Bool.false_eq_true, e_callO, ow_is, ow_in, ow_ok, fo_ret, fo_ret0, fo_ex, s_par, par_2, s_parO, s_app, ow_lst, e_move, mv_ow, s_asgTup, tup_2, e_wcl, e_wow, s_trip, s_pair, ow_l, is_o, s_ext, s_ins, s_aug, aug_cl, add_o, e_MT, List.getElem?_cons_succ, List.getElem?_cons_zero, List.set_cons_zero, List.set_cons_succ, List.cons_append, List.nil_append, s_for, range2]
  rw [F]
  have E := eve_for (Q := fun ρ => ∃ x1 x2 x3, ρ = [.cl d, x1, x2, x3]) (t := tgName 1) (b := reT) (ds := [.int 0, .int 1]) (ρ := [.cl d, y1, y2, y3]) (by
    rintro ρ ⟨x1, x2, x3, rfl⟩ k hk
    have hk2 : ∃ i : Int, k = .int i ∧ (i = 0 ∨ i = 1) := by
      simp only [List.mem_cons, List.not_mem_nil, or_false] at hk
      rcases hk with rfl | rfl
      · exact ⟨0, rfl, .inl rfl⟩
      · exact ⟨1, rfl, .inr rfl⟩
    obtain ⟨i, rfl, hi⟩ := hk2
    refine ⟨_, rfl, ?_⟩
    show Eve _ (reT [.cl d, .cl (.int i), x2, x3])
    rw [reT_ok hd hi]
    exact fun a => ⟨_, _, _, rfl⟩) ⟨_, _, _, rfl⟩
  have mono : ∀ {s : SO}, Eve (fun ρ => ∃ x1 x2 x3, ρ = [.cl d, x1, x2, x3]) s → Eve (fun ρ => ∃ x0 x1 x2 x3, ρ = [x0, x1, x2, x3]) s := by
    intro s
    induction s with
    | any f ih => exact fun h a => ih a (h a)
    | nx ρ => rintro ⟨x1, x2, x3, rfl⟩; exact ⟨_, _, _, _, rfl⟩
    | _ => exact fun h => h
  exact mono E
noncomputable def reTwo : MS := sFor (tgName 1) (iRange (aCons (eC (.int 2)) aNil)) reT
/-- told as one thing, which is not opened -/
structure EvS (Q : Rho → Prop) (s : SO) : Prop where
  h : Eve Q s
theorem evs_for {Q : Rho → Prop} {t : D → Rho → R Rho} {b : MS} {ds : List D} {ρ : Rho} (h : ∀ ρ, Q ρ → ∀ d ∈ ds, ∃ ρ1, t d ρ = .ok ρ1 ∧ EvS Q (b ρ1)) (q : Q ρ) : EvS Q (forLoop t b ds ρ) :=
  ⟨eve_for (fun ρ q d hd => by
    obtain ⟨ρ1, h1, h2⟩ := h ρ q d hd
    exact ⟨ρ1, h1, h2.h⟩) q⟩
theorem re_turn : ∀ ρ : Rho, (∃ x0 x1 x2 x3, ρ = [x0, x1, x2, x3]) → ∀ d ∈ odds, ∃ ρ1, tgName 0 d ρ = .ok ρ1 ∧ EvS (fun ρ => ∃ x0 x1 x2 x3, ρ = [x0, x1, x2, x3]) (reTwo ρ1) := by
  intro ρ h d hd
  obtain ⟨x0, x1, x2, x3, rfl⟩ := h
  exact ⟨[.cl d, x1, x2, x3], rfl, ⟨re_two hd⟩⟩
theorem re_all : EvS (fun ρ => ∃ x0 x1 x2 x3, ρ = [x0, x1, x2, x3]) (forLoop (tgName 0) reTwo odds [.no, .no, .no, .no]) := evs_for re_turn ⟨.no, .no, .no, .no, rfl⟩
theorem refused_ok : f__law_refused [] = .ok (.bl true) [] := by
  unfold f__law_refused flatFn r__law_refused
  show ((m__law_refused [.no, .no, .no, .no]).fo [] .cl).flat = _
  refine evr_fo ?_
  unfold m__law_refused
  refine evr_seq (Q := fun ρ => ∃ x0 x1 x2 x3, ρ = [x0, x1, x2, x3]) ?_ ?_
  · have F : ∀ b : MS, sFor (tgName 0) (iSeq (eN mkLst (aCons (eC .non) (aCons (eC (.int 0)) (aCons (eC (.bl true)) (aCons (eN mkLst (aCons (eC (.str "a")) (aNil))) (aCons (eN mkTup (aCons (eC (.str "a")) (aNil))) (aCons (eN mkDic (aCons (eC (.str "a")) (aCons (eC (.str "b")) (aNil)))) (aCons (eC (.str "a\t")) (aCons (eC (.int 5)) (aNil))))))))))) b [.no, .no, .no, .no] = forLoop (tgName 0) b odds [.no, .no, .no, .no] := fun b => by
      simp only [s_seq, th_nx, th_ret, th_exn, s_asg, s_asgO, s_ret, s_retN, s_drop, s_if, s_next, s_raise, e_var, e_own, g_var, g_own1, g_own2, e_c, e_2, e_1, e_N, e_nil, e_cons, e_call, fo_ok, fo_exn, e_callD, e_callK, e_if, e_and, e_or, e_not, e_pure, e_of, e_tr, e_bnot, e_band, e_bor, e_chain, e_bind, e_lift, i_bl, t_bl, e_cut, e_pno, e_pat, p_int, i_seq, i_range, i_zip, bnd_ok, bnd_exn, so_ok, so_exn, rb_ok, if_true, if_false, Bool.false_eq_true, e_callO, ow_is, ow_in, ow_ok, fo_ret, fo_ret0, fo_ex, s_par, par_2, s_parO, s_app, ow_lst, e_move, mv_ow, s_asgTup, tup_2, e_wcl, e_wow, s_trip, s_pair, ow_l, is_o, s_ext, s_ins, s_aug, aug_cl, add_o, e_MT, List.getElem?_cons_succ, List.getElem?_cons_zero, List.set_cons_zero, List.set_cons_succ, List.cons_append, List.nil_append, s_for, mkl1, mkt1, mkd1, odd_list, it_l]
    rw [F]
    have E := re_all
    unfold reTwo reT reB at E
    obtain ⟨h⟩ := E
    assumption
  · rintro ρ ⟨x0, x1, x2, x3, rfl⟩
    exact evr_ret (st_ret ev_c)
end DL

set_option Elab.async false
set_option linter.all false
set_option maxRecDepth 100000
set_option maxHeartbeats 1000000
namespace DL
open PySem PySem.Spec PyProof.Rows L2
/-! ### the menu, drawn texts -/
def menu : List (List Nat) := [[60, 111, 110, 108, 121, 62], [60, 47, 111, 110, 108, 121, 62], [60, 110, 111, 116, 62], [60, 47, 110, 111, 116, 62], [60, 33, 45, 45], [45, 45, 62], [60, 97, 115, 105, 115, 62], [60, 47, 97, 115, 105, 115, 62], [60], [62], [111, 110, 108, 121], [97], [98, 32], [10], [60, 111, 110, 108], [123, 123, 120, 125, 125], [60, 79, 78, 76, 89, 62], [60, 47, 78, 111, 116, 62], [60, 111, 110, 60, 33, 45, 45, 97, 45, 45, 62, 108, 121, 62], [60, 47, 110, 111, 60, 33, 45, 45, 45, 45, 62, 116, 62]]
def tails : List (List Nat) := [[], [60, 47, 111, 110, 108, 121, 62], [60, 110, 111, 116], [60, 33, 45, 45, 60, 111, 110, 108, 121, 62, 45, 45, 62, 60, 47, 111, 110, 108, 121, 62]]
def mS (w : List Nat) : D := .str (mkS w)
def okW (w : List Nat) : Prop := w.length ≤ 20 ∧ ∀ c ∈ w, okc c = true
theorem menu_ok : ∀ w ∈ menu, w.length ≤ 20 ∧ ∀ c ∈ w, okc c = true := by decide
theorem tails_ok : ∀ w ∈ tails, w.length ≤ 20 ∧ ∀ c ∈ w, okc c = true := by decide
theorem menu_mk : mkLst [.str "<only>", .str "</only>", .str "<not>", .str "</not>", .str "<!--", .str "-->", .str "<asis>", .str "</asis>", .str "<", .str ">", .str "only", .str "a", .str "b ", .str "\n", .str "<onl", .str "{{x}}", .str "<ONLY>", .str "</Not>", .str "<on<!--a-->ly>", .str "</no<!---->t>"] = .ok (.lst (menu.map mS)) := by kernel_rfl
theorem tails_mk : mkLst [.str "", .str "</only>", .str "<not", .str "<!--<only>--></only>"] = .ok (.lst (tails.map mS)) := by kernel_rfl
theorem s_pre : ("a{{b}} [[c]] " : Str) = mkS [97, 123, 123, 98, 125, 125, 32, 91, 91, 99, 93, 93, 32] := by decide +kernel
/-! shuffled -/
theorem shuffled_ok {n : Int} {p : D} {ms : List D} (h : PV n p) (hn : 0 ≤ n) (hn2 : n < 900000) (hm : ms.length ≤ 1000) :
    ∃ (xs : List D) (p' : D), f__law_shuffled [p, .lst ms] = .ok (.lst xs) [p'] ∧ PV (n + ms.length) p' ∧ xs.length = ms.length ∧ ∀ x ∈ xs, x ∈ ms := by
  let Q : Nat → Rho → Prop := fun i ρ => ∃ (p : D) (xs : List D) (z : Sl), ρ = [.ow p, .cl (.lst ms), .ow (.lst xs), z] ∧ PV (n + i) p ∧ xs.length = i ∧ ∀ x ∈ xs, x ∈ ms
  have L : ∃ ρ2, forLoop (tgName 3) (sIns 2 (aCons (eCallO f__law_draw 0 (aCons (e2 opAdd (eN opLen (aCons (eOwn 2) (aNil))) (eC (.int 1))) (aNil))) (aCons (eVar 3) (aNil)))) ms [.ow p, .cl (.lst ms), .ow (.lst []), .no] = .nx ρ2 ∧ Q (0 + ms.length) ρ2 := by
    refine for_qn (Q := Q) (N := ms.length) (by omega) ?_ ⟨p, [], .no, rfl, by simpa using h, rfl, fun _ h => (by cases h)⟩
    rintro i ρ hi ⟨p, xs, z, rfl, q2, xl, xm⟩ d hd
    obtain ⟨k, p1, e1, k0, k1, q1⟩ := draw_ok (many := (xs.length : Int) + 1) q2 (by omega) (by omega) (by omega)
    refine ⟨_, [.ow p1, .cl (.lst ms), .ow (.lst (xs.take k.toNat ++ [d] ++ xs.drop k.toNat)), .cl d], rfl, ?_, p1, _, _, rfl, ?_, ?_, ?_⟩
    · have I : ∀ {ρ : Rho}, insO 2 [.int k, d] (.ok xs) ρ = .nx (ρ.set 2 (.ow (.lst (xs.take k.toNat ++ [d] ++ xs.drop k.toNat)))) := fun {ρ} => ins_ok (by omega) k0 (by omega)
      simp only [s_seq, th_nx, th_ret, th_exn, s_asg, s_asgO, s_ret, s_retN, s_drop, s_if, s_next, s_raise, e_var, e_own, g_var, g_own1, g_own2, e_c, e_2, e_1, e_N, e_nil, e_cons, e_call, fo_ok, fo_exn, e_callD, e_callK, e_if, e_and, e_or, e_not, e_pure, e_of, e_tr, e_bnot, e_band, e_bor, e_chain, e_bind, e_lift, i_bl, t_bl, e_cut, e_pno, e_pat, p_int, i_seq, i_range, i_zip, bnd_ok, bnd_exn, so_ok, so_exn, rb_ok, if_true, if_false, Bool.false_eq_true, e_callO, ow_is, ow_in, ow_ok, fo_ret, fo_ret0, fo_ex, s_par, par_2, s_parO, s_app, ow_lst, e_move, mv_ow, s_asgTup, tup_2, e_wcl, e_wow, s_trip, s_pair, ow_l, is_o, s_ext, s_ins, s_aug, aug_cl, add_o, e_MT, List.getElem?_cons_succ, List.getElem?_cons_zero, List.set_cons_zero, List.set_cons_succ, List.cons_append, List.nil_append, len_lst, add_int', e1, I]
    · exact PV.le q1 (by omega)
    · simp only [List.length_append, List.length_take, List.length_drop, List.length_cons, List.length_nil]
      omega
    · intro x hx
      rcases List.mem_append.mp hx with hx | hx
      · rcases List.mem_append.mp hx with hx | hx
        · exact xm x (List.mem_of_mem_take hx)
        · rw [List.mem_singleton.mp hx]; exact hd
      · exact xm x (List.mem_of_mem_drop hx)
  obtain ⟨ρ2, L, p1, xs, z, rfl, q1, xl, xm⟩ := L
  refine ⟨xs, p1, ?_, PV.le q1 (by omega), by omega, xm⟩
  refine (run_of (ρ0 := [.ow p, .cl (.lst ms), .no, .no]) rfl).trans ?_
  unfold m__law_shuffled
  simp only [s_seq, th_nx, th_ret, th_exn, s_asg, s_asgO, s_ret, s_retN, s_drop, s_if, s_next, s_raise, e_var, e_own, g_var, g_own1, g_own2, e_c, e_2, e_1, e_N, e_nil, e_cons, e_call, fo_ok, fo_exn, e_callD, e_callK, e_if, e_and, e_or, e_not, e_pure, e_of, e_tr, e_bnot, e_band, e_bor, e_chain, e_bind, e_lift, i_bl, t_bl, e_cut, e_pno, e_pat, p_int, i_seq, i_range, i_zip, bnd_ok, bnd_exn, so_ok, so_exn, rb_ok, if_true, if_false, Bool.false_eq_true, e_callO, ow_is, ow_in, ow_ok, fo_ret, fo_ret0, fo_ex, s_par, par_2, s_parO, s_app, ow_lst, e_move, mv_ow, s_asgTup, tup_2, e_wcl, e_wow, s_trip, s_pair, ow_l, is_o, s_ext, s_ins, s_aug, aug_cl, add_o, e_MT, List.getElem?_cons_succ, List.getElem?_cons_zero, List.set_cons_zero, List.set_cons_succ, List.cons_append, List.nil_append, mkl0, s_for, it_l, L]
theorem cut_few {xs : List D} {k : Int} (h : xs.length = 20) (h0 : 0 ≤ k) : ∃ ys, cutD (.lst xs) none (some ((2 : Int) + k)) = .ok (.lst ys) ∧ 0 < ys.length ∧ ys.length ≤ 20 ∧ ∀ y ∈ ys, y ∈ xs := by
  refine ⟨cutL xs none (some ((2 : Int) + k)), rfl, ?_, ?_, fun y hy => List.mem_of_mem_drop (List.mem_of_mem_take hy)⟩
  all_goals
    unfold cutL
    rw [HT.sIx_none, List.length_take, List.length_drop]
    have e : HT.sIx xs.length xs.length (some ((2 : Int) + k)) = min (2 + k).toNat xs.length := if_neg (by omega)
    rw [e]
    omega
/-! a drawn text -/
theorem joinL_nil : ∀ ws : List (List Nat), (∀ w ∈ ws, w.length ≤ 20 ∧ ∀ c ∈ w, okc c = true) → (TL.joinL [] ws).length ≤ 20 * ws.length ∧ ∀ c ∈ TL.joinL [] ws, okc c = true
  | [], _ => ⟨by simp [TL.joinL], fun c h => by simp [TL.joinL] at h⟩
  | [w], h => ⟨by have := (h w List.mem_cons_self).1; simpa [TL.joinL] using this, fun c hc => (h w List.mem_cons_self).2 c (by simpa [TL.joinL] using hc)⟩
  | w :: v :: ws, h => by
    have ih := joinL_nil (v :: ws) fun u hu => h u (List.mem_cons_of_mem _ hu)
    have e : TL.joinL [] (w :: v :: ws) = w ++ TL.joinL [] (v :: ws) := by simp [TL.joinL]
    have h1 := h w List.mem_cons_self
    rw [e]
    refine ⟨?_, fun c hc => ?_⟩
    · rw [List.length_append]
      have h2 := ih.1
      simp only [List.length_cons] at h2 ⊢
      have h3 := h1.1
      omega
    · rcases List.mem_append.mp hc with z | z
      · exact h1.2 c z
      · exact ih.2 c z
def Tx1 (d x : D) : Prop := ∃ w, x = mS w ∧ w.length ≤ 20 ∧ ∀ c ∈ w, okc c = true
theorem both_ws {ds xs : List D} (h : Both Tx1 ds xs) : ∃ ws : List (List Nat), xs = ws.map (fun w => .str (mkS w)) ∧ ws.length = ds.length ∧ ∀ w ∈ ws, w.length ≤ 20 ∧ ∀ c ∈ w, okc c = true := by
  induction h with
  | nil => exact ⟨[], rfl, rfl, fun _ h => (by cases h)⟩
  | cons h1 h2 ih =>
    obtain ⟨w, rfl, h3⟩ := h1
    obtain ⟨ws, rfl, h4, h5⟩ := ih
    exact ⟨w :: ws, rfl, by simp [h4], fun u hu => by
      rcases List.mem_cons.mp hu with z | z
      · rw [z]; exact h3
      · exact h5 u z⟩
theorem few_one {n : Int} {p : D} {few : List D} (q : PV n p) (hn : n < 1000000) (h0 : 0 < few.length) (h1 : few.length ≤ 20) (hf : ∀ x ∈ few, x ∈ menu.map mS) : ∃ (w : List Nat) (p' : D), f__law_one_of [p, .lst few] = .ok (.str (mkS w)) [p'] ∧ w.length ≤ 20 ∧ (∀ c ∈ w, okc c = true) ∧ PV (n + 1) p' := by
  obtain ⟨d, p1, e, m, q1⟩ := one_of_lst q hn h0 (by omega)
  obtain ⟨w, hw, rfl⟩ := List.mem_map.mp (hf d m)
  obtain ⟨a, b⟩ := menu_ok w hw
  exact ⟨w, p1, e, a, b, q1⟩
noncomputable def txM : M D := (eMT .str opJoin (eC (.str "")) (aCons (eLC [7] (tgName 7) (M.pure true) (eCallO f__law_one_of 3 (aCons (eVar 4) (aNil))) (iRange (aCons (eCallO f__law_draw 3 (aCons (eC (.int 20)) (aNil))) aNil))) (aNil)))
theorem txM_ok {n : Int} {p : D} {few : List D} {s g z2 z5 z6 : Sl} (q : PV n p) (hn0 : 0 ≤ n) (hn : n < 900000) (h0 : 0 < few.length) (h1 : few.length ≤ 20) (hf : ∀ x ∈ few, x ∈ menu.map mS) :
    ∃ (t : List Nat) (p' : D), txM [s, g, z2, .ow p, .cl (.lst few), z5, z6, .no] = .ok (.str (mkS t)) [s, g, z2, .ow p', .cl (.lst few), z5, z6, .no] ∧ t.length ≤ 380 ∧ (∀ c ∈ t, okc c = true) ∧ PV (n + 20) p' := by
  obtain ⟨k, p1, e1, k0, k1, q1⟩ := draw_ok (many := 20) q (by omega) (by decide) (by decide)
  have hr : toRange [.int k] = .ok ((List.range k.toNat).map fun i : Nat => .int (0 + (i : Nat))) := by
    have := range_n (n := k.toNat) (by omega)
    rwa [Int.toNat_of_nonneg k0] at this
  have mi : (iRange (aCons (eCallO f__law_draw 3 (aCons (eC (.int 20)) (aNil))) aNil)) [s, g, z2, .ow p, .cl (.lst few), z5, z6, .no] = .ok ((List.range k.toNat).map fun i : Nat => .int (0 + (i : Nat))) [s, g, z2, .ow p1, .cl (.lst few), z5, z6, .no] := by
    simp only [s_seq, th_nx, th_ret, th_exn, s_asg, s_asgO, s_ret, s_retN, s_drop, s_if, s_next, s_raise, e_var, e_own, g_var, g_own1, g_own2, e_c, e_2, e_1, e_N, e_nil, e_cons, e_call, fo_ok, fo_exn, e_callD, e_callK, e_if, e_and, e_or, e_not, e_pure, e_of, e_tr, e_bnot, e_band, e_bor, e_chain, e_bind, e_lift, i_bl, t_bl, e_cut, e_pno, e_pat, p_int, i_seq, i_range, i_zip, bnd_ok, bnd_exn, so_ok, so_exn, rb_ok, if_true, if_false, Bool.false_eq_true, e_callO, ow_is, ow_in, ow_ok, fo_ret, fo_ret0, fo_ex, s_par, par_2, s_parO, s_app, ow_lst, e_move, mv_ow, s_asgTup, tup_2, e_wcl, e_wow, s_trip, s_pair, ow_l, is_o, s_ext, s_ins, s_aug, aug_cl, add_o, e_MT, List.getElem?_cons_succ, List.getElem?_cons_zero, List.set_cons_zero, List.set_cons_succ, List.cons_append, List.nil_append, e1, hr]
  obtain ⟨xs, ρ2, L, ⟨p2, rfl, q2⟩, B⟩ := ev_lcQ (Q := fun i ρ => ∃ p, ρ = [s, g, z2, .ow p, .cl (.lst few), z5, z6, .no] ∧ PV (n + 1 + i) p) (T := Tx1) (vs := [7]) (t := tgName 7) (e := (eCallO f__law_one_of 3 (aCons (eVar 4) (aNil)))) mi rfl (by
    rintro i ρ hi ⟨p, rfl, q⟩ d hd
    simp only [List.length_map, List.length_range] at hi
    obtain ⟨w, p', e, a, b, q'⟩ := few_one q (by omega) h0 h1 hf
    refine ⟨[s, g, z2, .ow p, .cl (.lst few), z5, z6, .cl d], [s, g, z2, .ow p', .cl (.lst few), z5, z6, .cl d], .str (mkS w), rfl, ?_, ⟨p', rfl, PV.le q' (by omega)⟩, w, rfl, a, b⟩
    simp only [s_seq, th_nx, th_ret, th_exn, s_asg, s_asgO, s_ret, s_retN, s_drop, s_if, s_next, s_raise, e_var, e_own, g_var, g_own1, g_own2, e_c, e_2, e_1, e_N, e_nil, e_cons, e_call, fo_ok, fo_exn, e_callD, e_callK, e_if, e_and, e_or, e_not, e_pure, e_of, e_tr, e_bnot, e_band, e_bor, e_chain, e_bind, e_lift, i_bl, t_bl, e_cut, e_pno, e_pat, p_int, i_seq, i_range, i_zip, bnd_ok, bnd_exn, so_ok, so_exn, rb_ok, if_true, if_false, Bool.false_eq_true, e_callO, ow_is, ow_in, ow_ok, fo_ret, fo_ret0, fo_ex, s_par, par_2, s_parO, s_app, ow_lst, e_move, mv_ow, s_asgTup, tup_2, e_wcl, e_wow, s_trip, s_pair, ow_l, is_o, s_ext, s_ins, s_aug, aug_cl, add_o, e_MT, List.getElem?_cons_succ, List.getElem?_cons_zero, List.set_cons_zero, List.set_cons_succ, List.cons_append, List.nil_append, e]) ⟨p1, rfl, by simpa using q1⟩
  obtain ⟨ws, rfl, wl, wo⟩ := both_ws B
  simp only [List.length_map, List.length_range] at wl q2
  obtain ⟨j1, j2⟩ := joinL_nil ws wo
  have sm : ∀ ws : List (List Nat), (∀ w ∈ ws, w.length ≤ 20 ∧ ∀ c ∈ w, okc c = true) → (ws.map List.length).sum ≤ 20 * ws.length := by
    intro ws h
    induction ws with
    | nil => simp
    | cons w ws ih =>
      have := ih fun u hu => h u (List.mem_cons_of_mem _ hu)
      have := (h w List.mem_cons_self).1
      simp only [List.map_cons, List.sum_cons, List.length_cons]
      omega
  have s1 := sm ws wo
  have J := join_mk (s := []) (ws := ws) (by simp only [List.length_nil, Nat.mul_zero]; omega)
  rw [show (mkS [] : Str) = "" from s0.symm] at J
  have L' : eLC [7] (tgName 7) (M.pure true) (eCallO f__law_one_of 3 (aCons (eVar 4) (aNil))) (iRange (aCons (eCallO f__law_draw 3 (aCons (eC (.int 20)) (aNil))) aNil)) [s, g, z2, .ow p, .cl (.lst few), z5, z6, .no] = .ok (.lst (ws.map fun w => .str (mkS w))) [s, g, z2, .ow p2, .cl (.lst few), z5, z6, .no] := L
  refine ⟨TL.joinL [] ws, p2, ?_, by omega, j2, PV.le q2 (by omega)⟩
  unfold txM
  simp only [s_seq, th_nx, th_ret, th_exn, s_asg, s_asgO, s_ret, s_retN, s_drop, s_if, s_next, s_raise, e_var, e_own, g_var, g_own1, g_own2, e_c, e_2, e_1, e_N, e_nil, e_cons, e_call, fo_ok, fo_exn, e_callD, e_callK, e_if, e_and, e_or, e_not, e_pure, e_of, e_tr, e_bnot, e_band, e_bor, e_chain, e_bind, e_lift, i_bl, t_bl, e_cut, e_pno, e_pat, p_int, i_seq, i_range, i_zip, bnd_ok, bnd_exn, so_ok, so_exn, rb_ok, if_true, if_false, Bool.false_eq_true, e_callO, ow_is, ow_in, ow_ok, fo_ret, fo_ret0, fo_ex, s_par, par_2, s_parO, s_app, ow_lst, e_move, mv_ow, s_asgTup, tup_2, e_wcl, e_wow, s_trip, s_pair, ow_l, is_o, s_ext, s_ins, s_aug, aug_cl, add_o, e_MT, List.getElem?_cons_succ, List.getElem?_cons_zero, List.set_cons_zero, List.set_cons_succ, List.cons_append, List.nil_append, isT_s, L', J]
/-! ### law -/
noncomputable def tnB : MS := (sSeq (sAsg txM (tgName 6))
  (sIf (bNot (bTr (eCall f__law_right (aCons (eVar 6) (aNil))))) (sRet (eC (.bl false))) (sNext)))
theorem tn_ok {n : Int} {p : D} {few : List D} {s g z2 z5 z6 : Sl} (q : PV n p) (hn0 : 0 ≤ n) (hn : n < 900000) (h0 : 0 < few.length) (h1 : few.length ≤ 20) (hf : ∀ x ∈ few, x ∈ menu.map mS) :
    ∃ (u6 : Sl) (p' : D), tnB [s, g, z2, .ow p, .cl (.lst few), z5, z6, .no] = .nx [s, g, z2, .ow p', .cl (.lst few), z5, u6, .no] ∧ PV (n + 20) p' := by
  obtain ⟨t, p1, e, tl, tk, q1⟩ := txM_ok (s := s) (g := g) (z2 := z2) (z5 := z5) (z6 := z6) q hn0 hn h0 h1 hf
  refine ⟨.cl (.str (mkS t)), p1, ?_, q1⟩
  unfold tnB
  simp only [s_seq, th_nx, th_ret, th_exn, s_asg, s_asgO, s_ret, s_retN, s_drop, s_if, s_next, s_raise, e_var, e_own, g_var, g_own1, g_own2, e_c, e_2, e_1, e_N, e_nil, e_cons, e_call, fo_ok, fo_exn, e_callD, e_callK, e_if, e_and, e_or, e_not, e_pure, e_of, e_tr, e_bnot, e_band, e_bor, e_chain, e_bind, e_lift, i_bl, t_bl, e_cut, e_pno, e_pat, p_int, i_seq, i_range, i_zip, bnd_ok, bnd_exn, so_ok, so_exn, rb_ok, if_true, if_false, Bool.false_eq_true, e_callO, ow_is, ow_in, ow_ok, fo_ret, fo_ret0, fo_ex, s_par, par_2, s_parO, s_app, ow_lst, e_move, mv_ow, s_asgTup, tup_2, e_wcl, e_wow, s_trip, s_pair, ow_l, is_o, s_ext, s_ins, s_aug, aug_cl, add_o, e_MT, List.getElem?_cons_succ, List.getElem?_cons_zero, List.set_cons_zero, List.set_cons_succ, List.cons_append, List.nil_append, e, right_ok (show t.length ≤ 2000 by omega) tk, Bool.not_true]
noncomputable def atB : MS := (sSeq (sAsgO 3 (eCall f__law_purse (aCons (eVar 0) (aCons (eVar 2) (aNil)))))
  (sSeq (sAsg (eCut (eCallO f__law_shuffled 3 (aCons (eVar 1) (aNil))) (pNo) (pAt (e2 opAdd (eC (.int 2)) (eCallO f__law_draw 3 (aCons (eC (.int 15)) (aNil)))))) (tgName 4))
  (sSeq (sFor (tgName 5) (iRange (aCons (eC (.int 6)) aNil)) tnB)
  (sIf (bNot (bTr (eCall f__law_right (aCons (e2 opAdd (eC (.str "a{{b}} [[c]] ")) (eCallO f__law_one_of 3 (aCons (eN mkLst (aCons (eC (.str "")) (aCons (eC (.str "</only>")) (aCons (eC (.str "<not")) (aCons (eC (.str "<!--<only>--></only>")) (aNil)))))) (aNil)))) (aNil))))) (sRet (eC (.bl false))) (sNext)))))
theorem at_ok {ns : List Int} {k : Int} (k0 : 0 ≤ k) (k1 : k ≤ 63) {z3 z4 z5 z6 : Sl} :
    ∃ u3 u4 u5 u6, atB [.cl (.ros (ns.map .int)), .cl (.lst (menu.map mS)), .cl (.int k), z3, z4, z5, z6, .no] = .nx [.cl (.ros (ns.map .int)), .cl (.lst (menu.map mS)), .cl (.int k), u3, u4, u5, u6, .no] := by
  obtain ⟨p, e1, q0⟩ := purse_ok (ns := ns) k0 k1
  obtain ⟨xs, p1, e2, q1, xl, xm⟩ := shuffled_ok (ms := menu.map mS) q0 (by decide) (by decide) (by decide)
  have q1' : PV 20 p1 := q1
  obtain ⟨d, p2, e3, d0, d1, q2⟩ := draw_ok (many := 15) q1' (by decide) (by decide) (by decide)
  obtain ⟨few, c1, c2, c3, c4⟩ := cut_few (k := d) (xs := xs) (by rw [xl]; rfl) d0
  have hf : ∀ x ∈ few, x ∈ menu.map mS := fun x hx => xm x (c4 x hx)
  let Q : Nat → Rho → Prop := fun i ρ => ∃ (p : D) (u5 u6 : Sl), ρ = [.cl (.ros (ns.map .int)), .cl (.lst (menu.map mS)), .cl (.int k), .ow p, .cl (.lst few), u5, u6, .no] ∧ PV (20 + 1 + 20 * i) p
  have L : ∃ ρ2, forLoop (tgName 5) tnB ((List.range 6).map fun i : Nat => .int (0 + (i : Nat))) [.cl (.ros (ns.map .int)), .cl (.lst (menu.map mS)), .cl (.int k), .ow p2, .cl (.lst few), z5, z6, .no] = .nx ρ2 ∧ Q (0 + ((List.range 6).map fun i : Nat => D.int (0 + (i : Nat))).length) ρ2 := by
    refine for_qn (Q := Q) (N := 6) (by simp) ?_ ⟨p2, z5, z6, rfl, by simpa using q2⟩
    rintro i ρ hi ⟨p, u5, u6, rfl, q⟩ x hx
    obtain ⟨v6, p', e, q'⟩ := tn_ok (s := .cl (.ros (ns.map .int))) (g := .cl (.lst (menu.map mS))) (z2 := .cl (.int k)) (z5 := .cl x) (z6 := u6) q (by omega) (by omega) c2 c3 hf
    exact ⟨_, _, rfl, e, p', _, _, rfl, PV.le q' (by omega)⟩
  obtain ⟨ρ2, L, p3, u5, u6, rfl, q3⟩ := L
  have r6 : toRange [.int 6] = .ok ((List.range 6).map fun i : Nat => .int (0 + (i : Nat))) := rfl
  obtain ⟨y, p4, e4, ym, q4⟩ := one_of_lst (xs := tails.map mS) q3 (by simp) (by decide) (by decide)
  obtain ⟨w, hw, rfl⟩ := List.mem_map.mp ym
  obtain ⟨wl, wo⟩ := tails_ok w hw
  have A : opAdd (.str "a{{b}} [[c]] ") (mS w) = .ok (.str (mkS ([97, 123, 123, 98, 125, 125, 32, 91, 91, 99, 93, 93, 32] ++ w))) := by
    rw [s_pre]
    exact add_mkS (by simp only [List.length_cons, List.length_nil]; omega)
  have R := right_ok (t := [97, 123, 123, 98, 125, 125, 32, 91, 91, 99, 93, 93, 32] ++ w) (by simp only [List.length_append, List.length_cons, List.length_nil]; omega) (fun c hc => by
    rcases List.mem_append.mp hc with z | z
    · exact (by decide : ∀ c ∈ ([97, 123, 123, 98, 125, 125, 32, 91, 91, 99, 93, 93, 32] : List Nat), okc c = true) c z
    · exact wo c z)
  obtain ⟨Z, hZ⟩ : ∃ Z, Z = [97, 123, 123, 98, 125, 125, 32, 91, 91, 99, 93, 93, 32] ++ w := ⟨_, rfl⟩
  rw [← hZ] at A R
  refine ⟨.ow p4, .cl (.lst few), u5, u6, ?_⟩
  unfold atB
  simp only [s_seq, th_nx, th_ret, th_exn, s_asg, s_asgO, s_ret, s_retN, s_drop, s_if, s_next, s_raise, e_var, e_own, g_var, g_own1, g_own2, e_c, e_2, e_1, e_N, e_nil, e_cons, e_call, fo_ok, fo_exn, e_callD, e_callK, e_if, e_and, e_or, e_not, e_pure, e_of, e_tr, e_bnot, e_band, e_bor, e_chain, e_bind, e_lift, i_bl, t_bl, e_cut, e_pno, e_pat, p_int, i_seq, i_range, i_zip, bnd_ok, bnd_exn, so_ok, so_exn, rb_ok, if_true, if_false, Bool.false_eq_true, e_callO, ow_is, ow_in, ow_ok, fo_ret, fo_ret0, fo_ex, s_par, par_2, s_parO, s_app, ow_lst, e_move, mv_ow, s_asgTup, tup_2, e_wcl, e_wow, s_trip, s_pair, ow_l, is_o, s_ext, s_ins, s_aug, aug_cl, add_o, e_MT, List.getElem?_cons_succ, List.getElem?_cons_zero, List.set_cons_zero, List.set_cons_succ, List.cons_append, List.nil_append, e1, e2, e3, add_int', c1, s_for, r6, L, tails_mk, e4, A, R, Bool.not_true]
theorem law_true : ∀ ns : List Int, ns.length ≤ 63 → (∀ z ∈ ns, Builtin.Int.intBits z ≤ 1048576) → f_law [.ros (ns.map .int)] = .ok (.bl true) [] := by
  intro ns hl _
  have ln : opLen [.ros (ns.map .int)] = .ok (.int (ns.length : Nat)) := by
    show R.ok (D.int ((ns.map D.int).length : Nat)) = _
    rw [List.length_map]
  have m1 : opMin [.int (ns.length : Nat), .int 6] = .ok (.int ((min ns.length 6 : Nat) : Int)) := min_nat (b := 6)
  have m2 : opMax [.int 1, .int ((min ns.length 6 : Nat) : Int)] = .ok (.int ((max 1 (min ns.length 6) : Nat) : Int)) := max_nat (a := 1)
  have r := range_n (n := max 1 (min ns.length 6)) (by omega)
  let Q : Rho → Prop := fun ρ => ∃ z2 z3 z4 z5 z6 : Sl, ρ = [.cl (.ros (ns.map .int)), .cl (.lst (menu.map mS)), z2, z3, z4, z5, z6, .no]
  have L : ∃ ρ2, forLoop (tgName 2) atB ((List.range (max 1 (min ns.length 6))).map fun i : Nat => .int (0 + (i : Nat))) [.cl (.ros (ns.map .int)), .cl (.lst (menu.map mS)), .no, .no, .no, .no, .no, .no] = .nx ρ2 ∧ Q ρ2 := by
    refine for_q (Q := Q) ?_ ⟨_, _, _, _, _, rfl⟩
    rintro ρ ⟨z2, z3, z4, z5, z6, rfl⟩ d hd
    obtain ⟨i, hi, rfl⟩ := List.mem_map.mp hd
    have hi := List.mem_range.mp hi
    obtain ⟨u3, u4, u5, u6, e⟩ := at_ok (ns := ns) (k := 0 + (i : Int)) (by omega) (by omega) (z3 := z3) (z4 := z4) (z5 := z5) (z6 := z6)
    exact ⟨_, _, rfl, e, _, _, _, _, _, rfl⟩
  obtain ⟨ρ2, L, z2, z3, z4, z5, z6, rfl⟩ := L
  have R := right_ok (t := []) (by decide) (fun c hc => by cases hc)
  rw [show (mkS [] : Str) = "" from s0.symm] at R
  unfold atB tnB txM at L
  refine (run_of (ρ0 := [.cl (.ros (ns.map .int)), .no, .no, .no, .no, .no, .no, .no]) rfl).trans ?_
  unfold m_law
  simp only [s_seq, th_nx, th_ret, th_exn, s_asg, s_asgO, s_ret, s_retN, s_drop, s_if, s_next, s_raise, e_var, e_own, g_var, g_own1, g_own2, e_c, e_2, e_1, e_N, e_nil, e_cons, e_call, fo_ok, fo_exn, e_callD, e_callK, e_if, e_and, e_or, e_not, e_pure, e_of, e_tr, e_bnot, e_band, e_bor, e_chain, e_bind, e_lift, i_bl, t_bl, e_cut, e_pno, e_pat, p_int, i_seq, i_range, i_zip, bnd_ok, bnd_exn, so_ok, so_exn, rb_ok, if_true, if_false, Bool.false_eq_true, e_callO, ow_is, ow_in, ow_ok, fo_ret, fo_ret0, fo_ex, s_par, par_2, s_parO, s_app, ow_lst, e_move, mv_ow, s_asgTup, tup_2, e_wcl, e_wow, s_trip, s_pair, ow_l, is_o, s_ext, s_ins, s_aug, aug_cl, add_o, e_MT, List.getElem?_cons_succ, List.getElem?_cons_zero, List.set_cons_zero, List.set_cons_succ, List.cons_append, List.nil_append, menu_mk, ln, m1, m2, s_for, r, L, refused_ok, R]
end DL

set_option Elab.async false
set_option maxRecDepth 100000
set_option maxHeartbeats 4000000
namespace DL
open PySem PySem.Spec PyProof.Rows L2
abbrev i_InvalidText : Stmt := inClass (top 2) 0
theorem tx_mk {P : Program} {w : World} {K : PySem.W.Frag} {h : Heap} {mg : Str → Option Value} {C0 f_1 f_2 f_3 f_4 f_5 f_6 f_7 f_8 f_9 f_10 f_11 f_12 f_13 f_14 f_15 f_16 f_17 f_18 f_19 f_20 f_21 f_22 f_23 f_24 f_25 f_26 f_27 f_28 f_29 C1 f_31 f_32 f_33 f_34 : Addr} {od0 an0 od2 an2 od3 an3 od4 an4 od5 an5 od6 an6 od7 an7 od8 an8 od9 an9 od10 an10 od11 an11 od13 an13 od14 an14 od15 an15 od16 an16 od17 an17 od18 an18 od19 an19 od20 an20 od21 an21 od22 an22 od23 an23 od24 an24 od25 an25 od26 an26 od27 an27 od1 od12 : Option Addr} {sl0 sl1 sl2 sl3 sl4 sl5 sl6 sl7 sl8 sl9 sl10 sl11 sl12 sl13 sl14 sl15 sl16 sl17 sl18 sl19 sl20 sl21 sl22 sl23 sl24 sl25 sl26 sl27 : Array (Option Value)} {oc0 kv0 dc0 pm0 cd0 ct0 oc2 kv2 dc2 pm2 cd2 ct2 oc3 kv3 dc3 pm3 cd3 ct3 oc4 kv4 dc4 pm4 cd4 ct4 oc5 kv5 dc5 pm5 cd5 ct5 oc6 kv6 dc6 pm6 cd6 ct6 oc7 kv7 dc7 pm7 cd7 ct7 oc8 kv8 dc8 pm8 cd8 ct8 oc9 kv9 dc9 pm9 cd9 ct9 oc10 kv10 dc10 pm10 cd10 ct10 oc11 kv11 dc11 pm11 cd11 ct11 oc13 kv13 dc13 pm13 cd13 ct13 oc14 kv14 dc14 pm14 cd14 ct14 oc15 kv15 dc15 pm15 cd15 ct15 oc16 kv16 dc16 pm16 cd16 ct16 oc17 kv17 dc17 pm17 cd17 ct17 oc18 kv18 dc18 pm18 cd18 ct18 oc19 kv19 dc19 pm19 cd19 ct19 oc20 kv20 dc20 pm20 cd20 ct20 oc21 kv21 dc21 pm21 cd21 ct21 oc22 kv22 dc22 pm22 cd22 ct22 oc23 kv23 dc23 pm23 cd23 ct23 oc24 kv24 dc24 pm24 cd24 ct24 oc25 kv25 dc25 pm25 cd25 ct25 oc26 kv26 dc26 pm26 cd26 ct26 oc27 kv27 dc27 pm27 cd27 ct27 : Value} {odzKEPT_0 : Option Addr} {mqzKEPT_0 : Nat} {slzKEPT_0 : Array (Option Value)} {odzKEPT_1 : Option Addr} {mqzKEPT_1 : Nat} {slzKEPT_1 : Array (Option Value)} {odzSTRETCHES_0 : Option Addr} {mqzSTRETCHES_0 : Nat} {slzSTRETCHES_0 : Array (Option Value)} {odzSTRETCHES_1 : Option Addr} {mqzSTRETCHES_1 : Nat} {slzSTRETCHES_1 : Array (Option Value)} {tq0 tq1 tq2 tq3 tq4 tq5 tq6 tq7 tq8 tq9 tq10 tq11 : Tok} {mq1 mq12 : Nat} {oe10 : Value} {oed10 : Option Addr} {nn10 : Nat} {osl10 : Array (Option Value)}
    {nm10 qn10 : _} {nN10 : _} {bs10 bm10 : _} {sn10 : _} {sub10 : _} {ab10 : _} {col10 : _} {dd10 k010 k110 k210 k310 k510 : _}
    (X : K.In h) (G : h.Ns mainGlobals mg)
    (a_C0 : PySem.W.nsIn K mainGlobals "InvalidText" = some (some (.ref C0)))
    (z_isinstance : PySem.W.nsIn K mainGlobals "isinstance" = some none)
    (st_C0_str : PySem.W.subIn K (.ref C0) (.type "str") = some false)
    (z_str : PySem.W.nsIn K mainGlobals "str" = some none)
    (z_all : PySem.W.nsIn K mainGlobals "all" = some none)
    (a_f_1 : PySem.W.nsIn K mainGlobals "is_text" = some (some (.ref f_1)))
    (l_f_1 : K.lookup f_1 = some ⟨oc0, od0, .func (PySem.W.fnOf "is_text" "is_text" (defArgs s_is_text) (defBody s_is_text) (defScope s_is_text) .none kv0 dc0 pm0 an0 cd0 ct0), sl0⟩)
    (c_f_1 : PySem.W.codeIn K cd0 "is_text" = true)
    (k_f_1 : PySem.W.keepIn K (.ref f_1) = true)
    (a_gKEPT : PySem.W.nsIn K mainGlobals "KEPT" = some (some (.ref f_2)))
    (l_gKEPT : K.lookup f_2 = some ⟨.type "tuple", od1, .seq #[.ref f_3, .ref f_4] mq1, sl1⟩)
    (l_gKEPT_0 : K.lookup f_3 = some ⟨.type "tuple", odzKEPT_0, .seq #[.str "note" tq0, .str "<!--" tq1, .str "-->" tq2] mqzKEPT_0, slzKEPT_0⟩)
    (l_gKEPT_1 : K.lookup f_4 = some ⟨.type "tuple", odzKEPT_1, .seq #[.str "asis" tq3, .str "<asis>" tq4, .str "</asis>" tq5] mqzKEPT_1, slzKEPT_1⟩)
    (z_len : PySem.W.nsIn K mainGlobals "len" = some none)
    (a_f_5 : PySem.W.nsIn K mainGlobals "first_kept" = some (some (.ref f_5)))
    (l_f_5 : K.lookup f_5 = some ⟨oc2, od2, .func (PySem.W.fnOf "first_kept" "first_kept" (defArgs s_first_kept) (defBody s_first_kept) (defScope s_first_kept) .none kv2 dc2 pm2 an2 cd2 ct2), sl2⟩)
    (c_f_5 : PySem.W.codeIn K cd2 "first_kept" = true)
    (k_f_5 : PySem.W.keepIn K (.ref f_5) = true)
    (z_max : PySem.W.nsIn K mainGlobals "max" = some none)
    (a_f_6 : PySem.W.nsIn K mainGlobals "found_outside" = some (some (.ref f_6)))
    (l_f_6 : K.lookup f_6 = some ⟨oc3, od3, .func (PySem.W.fnOf "found_outside" "found_outside" (defArgs s_found_outside) (defBody s_found_outside) (defScope s_found_outside) .none kv3 dc3 pm3 an3 cd3 ct3), sl3⟩)
    (c_f_6 : PySem.W.codeIn K cd3 "found_outside" = true)
    (k_f_6 : PySem.W.keepIn K (.ref f_6) = true)
    (z_sum : PySem.W.nsIn K mainGlobals "sum" = some none)
    (z_int : PySem.W.nsIn K mainGlobals "int" = some none)
    (a_f_7 : PySem.W.nsIn K mainGlobals "_law_purse" = some (some (.ref f_7)))
    (l_f_7 : K.lookup f_7 = some ⟨oc4, od4, .func (PySem.W.fnOf "_law_purse" "_law_purse" (defArgs s__law_purse) (defBody s__law_purse) (defScope s__law_purse) .none kv4 dc4 pm4 an4 cd4 ct4), sl4⟩)
    (c_f_7 : PySem.W.codeIn K cd4 "_law_purse" = true)
    (k_f_7 : PySem.W.keepIn K (.ref f_7) = true)
    (a_f_8 : PySem.W.nsIn K mainGlobals "_law_mixed" = some (some (.ref f_8)))
    (l_f_8 : K.lookup f_8 = some ⟨oc5, od5, .func (PySem.W.fnOf "_law_mixed" "_law_mixed" (defArgs s__law_mixed) (defBody s__law_mixed) (defScope s__law_mixed) .none kv5 dc5 pm5 an5 cd5 ct5), sl5⟩)
    (c_f_8 : PySem.W.codeIn K cd5 "_law_mixed" = true)
    (k_f_8 : PySem.W.keepIn K (.ref f_8) = true)
    (a_f_9 : PySem.W.nsIn K mainGlobals "_law_items" = some (some (.ref f_9)))
    (l_f_9 : K.lookup f_9 = some ⟨oc6, od6, .func (PySem.W.fnOf "_law_items" "_law_items" (defArgs s__law_items) (defBody s__law_items) (defScope s__law_items) .none kv6 dc6 pm6 an6 cd6 ct6), sl6⟩)
    (c_f_9 : PySem.W.codeIn K cd6 "_law_items" = true)
    (k_f_9 : PySem.W.keepIn K (.ref f_9) = true)
    (a_f_10 : PySem.W.nsIn K mainGlobals "plain_spots" = some (some (.ref f_10)))
    (l_f_10 : K.lookup f_10 = some ⟨oc7, od7, .func (PySem.W.fnOf "plain_spots" "plain_spots" (defArgs s_plain_spots) (defBody s_plain_spots) (defScope s_plain_spots) .none kv7 dc7 pm7 an7 cd7 ct7), sl7⟩)
    (c_f_10 : PySem.W.codeIn K cd7 "plain_spots" = true)
    (k_f_10 : PySem.W.keepIn K (.ref f_10) = true)
    (z_range : PySem.W.nsIn K mainGlobals "range" = some none)
    (a_f_11 : PySem.W.nsIn K mainGlobals "_law_draw" = some (some (.ref f_11)))
    (l_f_11 : K.lookup f_11 = some ⟨oc8, od8, .func (PySem.W.fnOf "_law_draw" "_law_draw" (defArgs s__law_draw) (defBody s__law_draw) (defScope s__law_draw) .none kv8 dc8 pm8 an8 cd8 ct8), sl8⟩)
    (c_f_11 : PySem.W.codeIn K cd8 "_law_draw" = true)
    (k_f_11 : PySem.W.keepIn K (.ref f_11) = true)
    (a_f_12 : PySem.W.nsIn K mainGlobals "_law_tags" = some (some (.ref f_12)))
    (l_f_12 : K.lookup f_12 = some ⟨oc9, od9, .func (PySem.W.fnOf "_law_tags" "_law_tags" (defArgs s__law_tags) (defBody s__law_tags) (defScope s__law_tags) .none kv9 dc9 pm9 an9 cd9 ct9), sl9⟩)
    (c_f_12 : PySem.W.codeIn K cd9 "_law_tags" = true)
    (k_f_12 : PySem.W.keepIn K (.ref f_12) = true)
    (xC0_l : K.lookup C0 = some (excClassObj nm10 qn10 C0 nN10 bs10 bm10 true sn10 sub10 ab10 col10 dd10 k010 k110 k210 k310 k510 "ValueError.__new__"))
    (xC0_v : PySem.HandSPX.refsVE bm10 = true)
    (xC0_sa : PySem.W.findIn K (.ref C0) "__setattr__" = some (some (.builtin "object.__setattr__")))
    (sb_C0 : PySem.W.subIn K (.ref C0) (.type "BaseException") = some true)
    (ty_C0 : PySem.W.typeIn K (.ref C0) = some (.type "type"))
    (hd_C0 : PySem.W.hasDictIn K C0 = true)
    (xC0_k : PySem.W.keepIn K (.ref C0) = true)
    (xC0_g1 : PySem.W.findIn K (.ref C0) "__getattribute__" = some (some (.builtin "BaseException.__getattribute__")))
    (xC0_g2 : PySem.W.findIn K (.ref C0) "__getattr__" = some none)
    (xC0_ha : PySem.W.findIn K (.ref C0) "__class__" = some (some (.builtin "object.__class__")))
    (w_hn : PySem.W.specialIn K (.builtin "object.__class__") "__get__" = some (some (.builtin "getset_descriptor.__get__")))
    (w_ht : PySem.W.takesIn K (.builtin "object.__class__") = some true)
    (xC0_hm : PySem.W.mroIn K C0 (.type "object") = some true)
    (xC0_hv : PySem.W.findIn K (.ref C0) "value" = some none)
    (xC0_he : PySem.W.findIn K (.ref C0) "__eq__" = some (some (.builtin "object.__eq__")))
    (xC0_iC : PySem.W.findIn K (.ref C0) "__init__" = some (some (.ref f_13)))
    (xC0_tI : PySem.W.typeIn K (.ref f_13) = some (.type "function"))
    (xC0_lI : K.lookup f_13 = some ⟨oc10, od10, .func (PySem.W.fnOf "__init__" "InvalidText.__init__" (defArgs i_InvalidText) (defBody i_InvalidText) (defScope i_InvalidText) (.ref f_14) kv10 dc10 pm10 an10 cd10 ct10), sl10⟩)
    (xC0_cI : PySem.W.codeIn K cd10 "InvalidText.__init__" = true)
    (xC0_kI : PySem.W.keepIn K (.ref f_13) = true)
    (xC0_lT : K.lookup f_14 = some ⟨oe10, oed10, .seq #[.none] nn10, osl10⟩)
    (a_f_15 : PySem.W.nsIn K mainGlobals "check_text" = some (some (.ref f_15)))
    (l_f_15 : K.lookup f_15 = some ⟨oc11, od11, .func (PySem.W.fnOf "check_text" "check_text" (defArgs s_check_text) (defBody s_check_text) (defScope s_check_text) .none kv11 dc11 pm11 an11 cd11 ct11), sl11⟩)
    (c_f_15 : PySem.W.codeIn K cd11 "check_text" = true)
    (k_f_15 : PySem.W.keepIn K (.ref f_15) = true)
    (a_gSTRETCHES : PySem.W.nsIn K mainGlobals "STRETCHES" = some (some (.ref f_16)))
    (l_gSTRETCHES : K.lookup f_16 = some ⟨.type "tuple", od12, .seq #[.ref f_17, .ref f_18] mq12, sl12⟩)
    (l_gSTRETCHES_0 : K.lookup f_17 = some ⟨.type "tuple", odzSTRETCHES_0, .seq #[.str "only" tq6, .str "<only>" tq7, .str "</only>" tq8] mqzSTRETCHES_0, slzSTRETCHES_0⟩)
    (l_gSTRETCHES_1 : K.lookup f_18 = some ⟨.type "tuple", odzSTRETCHES_1, .seq #[.str "not" tq9, .str "<not>" tq10, .str "</not>" tq11] mqzSTRETCHES_1, slzSTRETCHES_1⟩)
    (a_f_19 : PySem.W.nsIn K mainGlobals "stretches_of" = some (some (.ref f_19)))
    (l_f_19 : K.lookup f_19 = some ⟨oc13, od13, .func (PySem.W.fnOf "stretches_of" "stretches_of" (defArgs s_stretches_of) (defBody s_stretches_of) (defScope s_stretches_of) .none kv13 dc13 pm13 an13 cd13 ct13), sl13⟩)
    (c_f_19 : PySem.W.codeIn K cd13 "stretches_of" = true)
    (k_f_19 : PySem.W.keepIn K (.ref f_19) = true)
    (a_f_20 : PySem.W.nsIn K mainGlobals "_law_one_of" = some (some (.ref f_20)))
    (l_f_20 : K.lookup f_20 = some ⟨oc14, od14, .func (PySem.W.fnOf "_law_one_of" "_law_one_of" (defArgs s__law_one_of) (defBody s__law_one_of) (defScope s__law_one_of) .none kv14 dc14 pm14 an14 cd14 ct14), sl14⟩)
    (c_f_20 : PySem.W.codeIn K cd14 "_law_one_of" = true)
    (k_f_20 : PySem.W.keepIn K (.ref f_20) = true)
    (a_f_21 : PySem.W.nsIn K mainGlobals "_law_shuffled" = some (some (.ref f_21)))
    (l_f_21 : K.lookup f_21 = some ⟨oc15, od15, .func (PySem.W.fnOf "_law_shuffled" "_law_shuffled" (defArgs s__law_shuffled) (defBody s__law_shuffled) (defScope s__law_shuffled) .none kv15 dc15 pm15 an15 cd15 ct15), sl15⟩)
    (c_f_21 : PySem.W.codeIn K cd15 "_law_shuffled" = true)
    (k_f_21 : PySem.W.keepIn K (.ref f_21) = true)
    (a_f_22 : PySem.W.nsIn K mainGlobals "_law_marks" = some (some (.ref f_22)))
    (l_f_22 : K.lookup f_22 = some ⟨oc16, od16, .func (PySem.W.fnOf "_law_marks" "_law_marks" (defArgs s__law_marks) (defBody s__law_marks) (defScope s__law_marks) .none kv16 dc16 pm16 an16 cd16 ct16), sl16⟩)
    (c_f_22 : PySem.W.codeIn K cd16 "_law_marks" = true)
    (k_f_22 : PySem.W.keepIn K (.ref f_22) = true)
    (a_f_23 : PySem.W.nsIn K mainGlobals "given_in" = some (some (.ref f_23)))
    (l_f_23 : K.lookup f_23 = some ⟨oc17, od17, .func (PySem.W.fnOf "given_in" "given_in" (defArgs s_given_in) (defBody s_given_in) (defScope s_given_in) .none kv17 dc17 pm17 an17 cd17 ct17), sl17⟩)
    (c_f_23 : PySem.W.codeIn K cd17 "given_in" = true)
    (k_f_23 : PySem.W.keepIn K (.ref f_23) = true)
    (a_f_24 : PySem.W.nsIn K mainGlobals "own_in" = some (some (.ref f_24)))
    (l_f_24 : K.lookup f_24 = some ⟨oc18, od18, .func (PySem.W.fnOf "own_in" "own_in" (defArgs s_own_in) (defBody s_own_in) (defScope s_own_in) .none kv18 dc18 pm18 an18 cd18 ct18), sl18⟩)
    (c_f_24 : PySem.W.codeIn K cd18 "own_in" = true)
    (k_f_24 : PySem.W.keepIn K (.ref f_24) = true)
    (a_f_25 : PySem.W.nsIn K mainGlobals "_law_stretches" = some (some (.ref f_25)))
    (l_f_25 : K.lookup f_25 = some ⟨oc19, od19, .func (PySem.W.fnOf "_law_stretches" "_law_stretches" (defArgs s__law_stretches) (defBody s__law_stretches) (defScope s__law_stretches) .none kv19 dc19 pm19 an19 cd19 ct19), sl19⟩)
    (c_f_25 : PySem.W.codeIn K cd19 "_law_stretches" = true)
    (k_f_25 : PySem.W.keepIn K (.ref f_25) = true)
    (a_f_26 : PySem.W.nsIn K mainGlobals "given_text" = some (some (.ref f_26)))
    (l_f_26 : K.lookup f_26 = some ⟨oc20, od20, .func (PySem.W.fnOf "given_text" "given_text" (defArgs s_given_text) (defBody s_given_text) (defScope s_given_text) .none kv20 dc20 pm20 an20 cd20 ct20), sl20⟩)
    (c_f_26 : PySem.W.codeIn K cd20 "given_text" = true)
    (k_f_26 : PySem.W.keepIn K (.ref f_26) = true)
    (a_f_27 : PySem.W.nsIn K mainGlobals "own_text" = some (some (.ref f_27)))
    (l_f_27 : K.lookup f_27 = some ⟨oc21, od21, .func (PySem.W.fnOf "own_text" "own_text" (defArgs s_own_text) (defBody s_own_text) (defScope s_own_text) .none kv21 dc21 pm21 an21 cd21 ct21), sl21⟩)
    (c_f_27 : PySem.W.codeIn K cd21 "own_text" = true)
    (k_f_27 : PySem.W.keepIn K (.ref f_27) = true)
    (a_f_28 : PySem.W.nsIn K mainGlobals "_law_given" = some (some (.ref f_28)))
    (l_f_28 : K.lookup f_28 = some ⟨oc22, od22, .func (PySem.W.fnOf "_law_given" "_law_given" (defArgs s__law_given) (defBody s__law_given) (defScope s__law_given) .none kv22 dc22 pm22 an22 cd22 ct22), sl22⟩)
    (c_f_28 : PySem.W.codeIn K cd22 "_law_given" = true)
    (k_f_28 : PySem.W.keepIn K (.ref f_28) = true)
    (a_f_29 : PySem.W.nsIn K mainGlobals "_law_own" = some (some (.ref f_29)))
    (l_f_29 : K.lookup f_29 = some ⟨oc23, od23, .func (PySem.W.fnOf "_law_own" "_law_own" (defArgs s__law_own) (defBody s__law_own) (defScope s__law_own) .none kv23 dc23 pm23 an23 cd23 ct23), sl23⟩)
    (c_f_29 : PySem.W.codeIn K cd23 "_law_own" = true)
    (k_f_29 : PySem.W.keepIn K (.ref f_29) = true)
    (a_C1 : PySem.W.nsIn K mainGlobals "WikiError" = some (some (.ref C1)))
    (ty_C1 : PySem.W.typeIn K (.ref C1) = some (.type "type"))
    (hd_C1 : PySem.W.hasDictIn K C1 = true)
    (sb_C1 : PySem.W.subIn K (.ref C1) (.type "BaseException") = some true)
    (ss_C0 : PySem.W.subIn K (.ref C0) (.ref C0) = some true)
    (se_C0_C1 : PySem.W.subIn K (.ref C0) (.ref C1) = some true)
    (sk_C0_dic : PySem.W.subIn K (.type "dict") (.ref C0) = some false)
    (sk_C0_tup : PySem.W.subIn K (.type "tuple") (.ref C0) = some false)
    (sk_C0_lst : PySem.W.subIn K (.type "list") (.ref C0) = some false)
    (sk_C0_str : PySem.W.subIn K (.type "str") (.ref C0) = some false)
    (sk_C0_int : PySem.W.subIn K (.type "int") (.ref C0) = some false)
    (sk_C0_bl : PySem.W.subIn K (.type "bool") (.ref C0) = some false)
    (sk_C0_non : PySem.W.subIn K (.type "NoneType") (.ref C0) = some false)
    (z_repr : PySem.W.nsIn K mainGlobals "repr" = some none)
    (a_f_31 : PySem.W.nsIn K mainGlobals "_law_refused" = some (some (.ref f_31)))
    (l_f_31 : K.lookup f_31 = some ⟨oc24, od24, .func (PySem.W.fnOf "_law_refused" "_law_refused" (defArgs s__law_refused) (defBody s__law_refused) (defScope s__law_refused) .none kv24 dc24 pm24 an24 cd24 ct24), sl24⟩)
    (c_f_31 : PySem.W.codeIn K cd24 "_law_refused" = true)
    (k_f_31 : PySem.W.keepIn K (.ref f_31) = true)
    (st_C0_tuple : PySem.W.subIn K (.ref C0) (.type "tuple") = some false)
    (st_C0_list : PySem.W.subIn K (.ref C0) (.type "list") = some false)
    (z_list : PySem.W.nsIn K mainGlobals "list" = some none)
    (z_tuple : PySem.W.nsIn K mainGlobals "tuple" = some none)
    (z_zip : PySem.W.nsIn K mainGlobals "zip" = some none)
    (st_C0_dict : PySem.W.subIn K (.ref C0) (.type "dict") = some false)
    (z_dict : PySem.W.nsIn K mainGlobals "dict" = some none)
    (st_C0_int : PySem.W.subIn K (.ref C0) (.type "int") = some false)
    (st_C0_bool : PySem.W.subIn K (.ref C0) (.type "bool") = some false)
    (z_bool : PySem.W.nsIn K mainGlobals "bool" = some none)
    (a_f_32 : PySem.W.nsIn K mainGlobals "_law_exact" = some (some (.ref f_32)))
    (l_f_32 : K.lookup f_32 = some ⟨oc25, od25, .func (PySem.W.fnOf "_law_exact" "_law_exact" (defArgs s__law_exact) (defBody s__law_exact) (defScope s__law_exact) .none kv25 dc25 pm25 an25 cd25 ct25), sl25⟩)
    (c_f_32 : PySem.W.codeIn K cd25 "_law_exact" = true)
    (k_f_32 : PySem.W.keepIn K (.ref f_32) = true)
    (a_f_33 : PySem.W.nsIn K mainGlobals "_law_right" = some (some (.ref f_33)))
    (l_f_33 : K.lookup f_33 = some ⟨oc26, od26, .func (PySem.W.fnOf "_law_right" "_law_right" (defArgs s__law_right) (defBody s__law_right) (defScope s__law_right) .none kv26 dc26 pm26 an26 cd26 ct26), sl26⟩)
    (c_f_33 : PySem.W.codeIn K cd26 "_law_right" = true)
    (k_f_33 : PySem.W.keepIn K (.ref f_33) = true)
    (z_min : PySem.W.nsIn K mainGlobals "min" = some none)
    (a_f_34 : PySem.W.nsIn K mainGlobals "law" = some (some (.ref f_34)))
    (l_f_34 : K.lookup f_34 = some ⟨oc27, od27, .func (PySem.W.fnOf "law" "law" (defArgs s_law) (defBody s_law) (defScope s_law) .none kv27 dc27 pm27 an27 cd27 ct27), sl27⟩)
    (c_f_34 : PySem.W.codeIn K cd27 "law" = true)
    (k_f_34 : PySem.W.keepIn K (.ref f_34) = true)
    : ∀ base : Heap, Tx P w K mg base := fun base => {
  n_isinstance := PySem.W.mg_none_of X G z_isinstance
  i_str := isT_tys (Ts := ["str"]) (by intro T h; simp at h; unfold six; subst h; simp) (by intro k; cases k <;> decide +kernel) ⟨⟨rfl, C0, PySem.W.mg_of X G a_C0, ⟨st_C0_str, trivial⟩⟩, trivial⟩
  n_str := PySem.W.mg_none_of X G z_str
  n_all := PySem.W.mg_none_of X G z_all
  d_is_text := ⟨f_1, _, DF.mk' (st := s_is_text) l_f_1 c_f_1 k_f_1 (fun _ => rfl), PySem.W.mg_of X G a_f_1⟩
  g_KEPT := glob_tups [(f_3, [("note", tq0), ("<!--", tq1), ("-->", tq2)]), (f_4, [("asis", tq3), ("<asis>", tq4), ("</asis>", tq5)])] (PySem.W.mg_of X G a_gKEPT) l_gKEPT (Nat.le_of_ble_eq_true rfl) ⟨⟨_, _, _, l_gKEPT_0, Nat.le_of_ble_eq_true rfl⟩, ⟨⟨_, _, _, l_gKEPT_1, Nat.le_of_ble_eq_true rfl⟩, trivial⟩⟩
  n_len := PySem.W.mg_none_of X G z_len
  d_first_kept := ⟨f_5, _, DF.mk' (st := s_first_kept) l_f_5 c_f_5 k_f_5 (fun _ => rfl), PySem.W.mg_of X G a_f_5⟩
  n_max := PySem.W.mg_none_of X G z_max
  d_found_outside := ⟨f_6, _, DF.mk' (st := s_found_outside) l_f_6 c_f_6 k_f_6 (fun _ => rfl), PySem.W.mg_of X G a_f_6⟩
  n_sum := PySem.W.mg_none_of X G z_sum
  n_int := PySem.W.mg_none_of X G z_int
  d__law_purse := ⟨f_7, _, DF.mk' (st := s__law_purse) l_f_7 c_f_7 k_f_7 (fun _ => rfl), PySem.W.mg_of X G a_f_7⟩
  d__law_mixed := ⟨f_8, _, DF.mk' (st := s__law_mixed) l_f_8 c_f_8 k_f_8 (fun _ => rfl), PySem.W.mg_of X G a_f_8⟩
  d__law_items := ⟨f_9, _, DF.mk' (st := s__law_items) l_f_9 c_f_9 k_f_9 (fun _ => rfl), PySem.W.mg_of X G a_f_9⟩
  d_plain_spots := ⟨f_10, _, DF.mk' (st := s_plain_spots) l_f_10 c_f_10 k_f_10 (fun _ => rfl), PySem.W.mg_of X G a_f_10⟩
  n_range := PySem.W.mg_none_of X G z_range
  d__law_draw := ⟨f_11, _, DF.mk' (st := s__law_draw) l_f_11 c_f_11 k_f_11 (fun _ => rfl), PySem.W.mg_of X G a_f_11⟩
  d__law_tags := ⟨f_12, _, DF.mk' (st := s__law_tags) l_f_12 c_f_12 k_f_12 (fun _ => rfl), PySem.W.mg_of X G a_f_12⟩
  x_InvalidText := xd_mk (st := i_InvalidText) (PySem.W.mg_of X G a_C0) ⟨⟨_, _, _, _, _, _, _, _, _, _, _, _, _, _, _, xC0_l, xC0_v⟩, xC0_sa, sb_C0, ty_C0, xC0_k⟩ xC0_g1 xC0_g2 xC0_ha w_hn w_ht xC0_hm hd_C0 xC0_hv xC0_he xC0_iC xC0_tI (DF.mk' (st := i_InvalidText) xC0_lI xC0_cI xC0_kI (fun z => by cases z)) ⟨rfl, rfl, rfl, by decide +kernel, rfl, by decide +kernel, by decide +kernel⟩ rfl rfl rfl (fun _ => rfl) (init_binds xC0_lI xC0_cI xC0_kI xC0_lT fun T kV doc pm an cdv ct us its hu hi => match us, its, hu, hi with | [_, _], [_], _, _ => ⟨_, rfl, rfl⟩)
  d_check_text := ⟨f_15, _, DF.mk' (st := s_check_text) l_f_15 c_f_15 k_f_15 (fun _ => rfl), PySem.W.mg_of X G a_f_15⟩
  g_STRETCHES := glob_tups [(f_17, [("only", tq6), ("<only>", tq7), ("</only>", tq8)]), (f_18, [("not", tq9), ("<not>", tq10), ("</not>", tq11)])] (PySem.W.mg_of X G a_gSTRETCHES) l_gSTRETCHES (Nat.le_of_ble_eq_true rfl) ⟨⟨_, _, _, l_gSTRETCHES_0, Nat.le_of_ble_eq_true rfl⟩, ⟨⟨_, _, _, l_gSTRETCHES_1, Nat.le_of_ble_eq_true rfl⟩, trivial⟩⟩
  d_stretches_of := ⟨f_19, _, DF.mk' (st := s_stretches_of) l_f_19 c_f_19 k_f_19 (fun _ => rfl), PySem.W.mg_of X G a_f_19⟩
  d__law_one_of := ⟨f_20, _, DF.mk' (st := s__law_one_of) l_f_20 c_f_20 k_f_20 (fun _ => rfl), PySem.W.mg_of X G a_f_20⟩
  d__law_shuffled := ⟨f_21, _, DF.mk' (st := s__law_shuffled) l_f_21 c_f_21 k_f_21 (fun _ => rfl), PySem.W.mg_of X G a_f_21⟩
  d__law_marks := ⟨f_22, _, DF.mk' (st := s__law_marks) l_f_22 c_f_22 k_f_22 (fun _ => rfl), PySem.W.mg_of X G a_f_22⟩
  d_given_in := ⟨f_23, _, DF.mk' (st := s_given_in) l_f_23 c_f_23 k_f_23 (fun _ => rfl), PySem.W.mg_of X G a_f_23⟩
  d_own_in := ⟨f_24, _, DF.mk' (st := s_own_in) l_f_24 c_f_24 k_f_24 (fun _ => rfl), PySem.W.mg_of X G a_f_24⟩
  d__law_stretches := ⟨f_25, _, DF.mk' (st := s__law_stretches) l_f_25 c_f_25 k_f_25 (fun _ => rfl), PySem.W.mg_of X G a_f_25⟩
  d_given_text := ⟨f_26, _, DF.mk' (st := s_given_text) l_f_26 c_f_26 k_f_26 (fun _ => rfl), PySem.W.mg_of X G a_f_26⟩
  d_own_text := ⟨f_27, _, DF.mk' (st := s_own_text) l_f_27 c_f_27 k_f_27 (fun _ => rfl), PySem.W.mg_of X G a_f_27⟩
  d__law_given := ⟨f_28, _, DF.mk' (st := s__law_given) l_f_28 c_f_28 k_f_28 (fun _ => rfl), PySem.W.mg_of X G a_f_28⟩
  d__law_own := ⟨f_29, _, DF.mk' (st := s__law_own) l_f_29 c_f_29 k_f_29 (fun _ => rfl), PySem.W.mg_of X G a_f_29⟩
  c_WikiError := ⟨C1, PySem.W.mg_of X G a_C1, catT_mk ty_C1 hd_C1 sb_C1 ⟨⟨C0, PySem.W.mg_of X G a_C0, se_C0_C1, ss_C0⟩, trivial⟩⟩
  i_InvalidText := ⟨C0, PySem.W.mg_of X G a_C0, isT_ref ty_C0 hd_C0 ⟨sk_C0_non, ⟨sk_C0_bl, ⟨sk_C0_int, ⟨sk_C0_str, ⟨sk_C0_lst, ⟨sk_C0_tup, ⟨sk_C0_dic, trivial⟩⟩⟩⟩⟩⟩⟩ ⟨⟨C0, PySem.W.mg_of X G a_C0, ss_C0, ss_C0⟩, trivial⟩⟩
  n_repr := PySem.W.mg_none_of X G z_repr
  d__law_refused := ⟨f_31, _, DF.mk' (st := s__law_refused) l_f_31 c_f_31 k_f_31 (fun _ => rfl), PySem.W.mg_of X G a_f_31⟩
  i_list_tuple := isT_tys (Ts := ["list", "tuple"]) (by intro T h; simp at h; unfold six; rcases h with rfl | rfl <;> simp) (by intro k; cases k <;> decide +kernel) ⟨⟨rfl, C0, PySem.W.mg_of X G a_C0, ⟨st_C0_list, ⟨st_C0_tuple, trivial⟩⟩⟩, trivial⟩
  n_list := PySem.W.mg_none_of X G z_list
  n_tuple := PySem.W.mg_none_of X G z_tuple
  i_list := isT_tys (Ts := ["list"]) (by intro T h; simp at h; unfold six; subst h; simp) (by intro k; cases k <;> decide +kernel) ⟨⟨rfl, C0, PySem.W.mg_of X G a_C0, ⟨st_C0_list, trivial⟩⟩, trivial⟩
  i_tuple := isT_tys (Ts := ["tuple"]) (by intro T h; simp at h; unfold six; subst h; simp) (by intro k; cases k <;> decide +kernel) ⟨⟨rfl, C0, PySem.W.mg_of X G a_C0, ⟨st_C0_tuple, trivial⟩⟩, trivial⟩
  n_zip := PySem.W.mg_none_of X G z_zip
  i_list_tuple_dict := isT_tys (Ts := ["list", "tuple", "dict"]) (by intro T h; simp at h; unfold six; rcases h with rfl | rfl | rfl <;> simp) (by intro k; cases k <;> decide +kernel) ⟨⟨rfl, C0, PySem.W.mg_of X G a_C0, ⟨st_C0_list, ⟨st_C0_tuple, ⟨st_C0_dict, trivial⟩⟩⟩⟩, trivial⟩
  n_dict := PySem.W.mg_none_of X G z_dict
  i_int := isT_tys (Ts := ["int"]) (by intro T h; simp at h; unfold six; subst h; simp) (by intro k; cases k <;> decide +kernel) ⟨⟨rfl, C0, PySem.W.mg_of X G a_C0, ⟨st_C0_int, trivial⟩⟩, trivial⟩
  i_bool := isT_tys (Ts := ["bool"]) (by intro T h; simp at h; unfold six; subst h; simp) (by intro k; cases k <;> decide +kernel) ⟨⟨rfl, C0, PySem.W.mg_of X G a_C0, ⟨st_C0_bool, trivial⟩⟩, trivial⟩
  n_bool := PySem.W.mg_none_of X G z_bool
  d__law_exact := ⟨f_32, _, DF.mk' (st := s__law_exact) l_f_32 c_f_32 k_f_32 (fun _ => rfl), PySem.W.mg_of X G a_f_32⟩
  d__law_right := ⟨f_33, _, DF.mk' (st := s__law_right) l_f_33 c_f_33 k_f_33 (fun _ => rfl), PySem.W.mg_of X G a_f_33⟩
  n_min := PySem.W.mg_none_of X G z_min
  d_law := ⟨f_34, _, DF.mk' (st := s_law) l_f_34 c_f_34 k_f_34 (fun _ => rfl), PySem.W.mg_of X G a_f_34⟩
  }
theorem law_facts {P : Program} {w : World} {K : PySem.W.Frag} {mg : Str → Option Value} (T : ∀ base : Heap, Tx P w K mg base) : (∃ f fd, DF K "law" "law" s_law f fd ∧ mg "law" = some (.ref f)) ∧ ∀ base : Heap, Fw P w K mg base "law" s_law ["script"] [] .cl 1 11 f_law := ⟨(T { objs := #[] }).d_law, fun base => fx_law (T base)⟩
end DL
open PySem PySem.W PyProof.Rows
set_option maxRecDepth 100000 in
set_option maxHeartbeats 0 in
theorem PySem.Challenge.cw_allmayedit_k12_whole_given_and_own_texts_holds : PySem.Challenge.rw_allmayedit_k12_whole_given_and_own_texts.Holds := by
  w_on; o_law; k_head; (case hw => w_witness2)
  k_fill
  refine DL.law_walk (l := PySem.Challenge.rw_allmayedit_k12_whole_given_and_own_texts) (st := DL.s_law) (k := 11) (fn := DL.f_law) rfl rfl ⟨rfl, by decide, by decide⟩ (fun w h Y => PySem.W.kIn_of Y) rfl rfl (fun _ _ _ _ _ _ _ => rfl) DL.law_true ?F
  case F =>
    intro w mg h KX G
    refine DL.law_facts ?T
    case T =>
      refine' DL.tx_mk KX G ?a_C0 ?z_isinstance ?st_C0_str ?z_str ?z_all ?a_f_1 ?l_f_1 ?c_f_1 ?k_f_1 ?a_gKEPT ?l_gKEPT ?l_gKEPT_0 ?l_gKEPT_1 ?z_len ?a_f_5 ?l_f_5 ?c_f_5 ?k_f_5 ?z_max ?a_f_6 ?l_f_6 ?c_f_6 ?k_f_6 ?z_sum ?z_int ?a_f_7 ?l_f_7 ?c_f_7 ?k_f_7 ?a_f_8 ?l_f_8 ?c_f_8 ?k_f_8 ?a_f_9 ?l_f_9 ?c_f_9 ?k_f_9 ?a_f_10 ?l_f_10 ?c_f_10 ?k_f_10 ?z_range ?a_f_11 ?l_f_11 ?c_f_11 ?k_f_11 ?a_f_12 ?l_f_12 ?c_f_12 ?k_f_12 ?xC0_l ?xC0_v ?xC0_sa ?sb_C0 ?ty_C0 ?hd_C0 ?xC0_k ?xC0_g1 ?xC0_g2 ?xC0_ha ?w_hn ?w_ht ?xC0_hm ?xC0_hv ?xC0_he ?xC0_iC ?xC0_tI ?xC0_lI ?xC0_cI ?xC0_kI ?xC0_lT ?a_f_15 ?l_f_15 ?c_f_15 ?k_f_15 ?a_gSTRETCHES ?l_gSTRETCHES ?l_gSTRETCHES_0 ?l_gSTRETCHES_1 ?a_f_19 ?l_f_19 ?c_f_19 ?k_f_19 ?a_f_20 ?l_f_20 ?c_f_20 ?k_f_20 ?a_f_21 ?l_f_21 ?c_f_21 ?k_f_21 ?a_f_22 ?l_f_22 ?c_f_22 ?k_f_22 ?a_f_23 ?l_f_23 ?c_f_23 ?k_f_23 ?a_f_24 ?l_f_24 ?c_f_24 ?k_f_24 ?a_f_25 ?l_f_25 ?c_f_25 ?k_f_25 ?a_f_26 ?l_f_26 ?c_f_26 ?k_f_26 ?a_f_27 ?l_f_27 ?c_f_27 ?k_f_27 ?a_f_28 ?l_f_28 ?c_f_28 ?k_f_28 ?a_f_29 ?l_f_29 ?c_f_29 ?k_f_29 ?a_C1 ?ty_C1 ?hd_C1 ?sb_C1 ?ss_C0 ?se_C0_C1 ?sk_C0_dic ?sk_C0_tup ?sk_C0_lst ?sk_C0_str ?sk_C0_int ?sk_C0_bl ?sk_C0_non ?z_repr ?a_f_31 ?l_f_31 ?c_f_31 ?k_f_31 ?st_C0_tuple ?st_C0_list ?z_list ?z_tuple ?z_zip ?st_C0_dict ?z_dict ?st_C0_int ?st_C0_bool ?z_bool ?a_f_32 ?l_f_32 ?c_f_32 ?k_f_32 ?a_f_33 ?l_f_33 ?c_f_33 ?k_f_33 ?z_min ?a_f_34 ?l_f_34 ?c_f_34 ?k_f_34
      (case a_C0 => k_is)
      (case z_isinstance => k_is)
      (case st_C0_str => k_is)
      (case z_str => k_is)
      (case z_all => k_is)
      (case a_f_1 => k_is)
      (case l_f_1 => k_is)
      (case c_f_1 => k_is)
      (case k_f_1 => k_is)
      (case a_gKEPT => k_is)
      (case l_gKEPT => k_is)
      (case l_gKEPT_0 => k_is)
      (case l_gKEPT_1 => k_is)
      (case z_len => k_is)
      (case a_f_5 => k_is)
      (case l_f_5 => k_is)
      (case c_f_5 => k_is)
      (case k_f_5 => k_is)
      (case z_max => k_is)
      (case a_f_6 => k_is)
      (case l_f_6 => k_is)
      (case c_f_6 => k_is)
      (case k_f_6 => k_is)
      (case z_sum => k_is)
      (case z_int => k_is)
      (case a_f_7 => k_is)
      (case l_f_7 => k_is)
      (case c_f_7 => k_is)
      (case k_f_7 => k_is)
      (case a_f_8 => k_is)
      (case l_f_8 => k_is)
      (case c_f_8 => k_is)
      (case k_f_8 => k_is)
      (case a_f_9 => k_is)
      (case l_f_9 => k_is)
      (case c_f_9 => k_is)
      (case k_f_9 => k_is)
      (case a_f_10 => k_is)
      (case l_f_10 => k_is)
      (case c_f_10 => k_is)
      (case k_f_10 => k_is)
      (case z_range => k_is)
      (case a_f_11 => k_is)
      (case l_f_11 => k_is)
      (case c_f_11 => k_is)
      (case k_f_11 => k_is)
      (case a_f_12 => k_is)
      (case l_f_12 => k_is)
      (case c_f_12 => k_is)
      (case k_f_12 => k_is)
      (case xC0_l => k_is)
      (case xC0_v => rfl)
      (case xC0_sa => k_is)
      (case sb_C0 => k_is)
      (case ty_C0 => k_is)
      (case hd_C0 => k_is)
      (case xC0_k => k_is)
      (case xC0_g1 => k_is)
      (case xC0_g2 => k_is)
      (case xC0_ha => k_is)
      (case w_hn => k_is)
      (case w_ht => k_is)
      (case xC0_hm => k_is)
      (case xC0_hv => k_is)
      (case xC0_he => k_is)
      (case xC0_iC => k_is)
      (case xC0_tI => k_is)
      (case xC0_lI => k_is)
      (case xC0_cI => k_is)
      (case xC0_kI => k_is)
      (case xC0_lT => k_is)
      (case a_f_15 => k_is)
      (case l_f_15 => k_is)
      (case c_f_15 => k_is)
      (case k_f_15 => k_is)
      (case a_gSTRETCHES => k_is)
      (case l_gSTRETCHES => k_is)
      (case l_gSTRETCHES_0 => k_is)
      (case l_gSTRETCHES_1 => k_is)
      (case a_f_19 => k_is)
      (case l_f_19 => k_is)
      (case c_f_19 => k_is)
      (case k_f_19 => k_is)
      (case a_f_20 => k_is)
      (case l_f_20 => k_is)
      (case c_f_20 => k_is)
      (case k_f_20 => k_is)
      (case a_f_21 => k_is)
      (case l_f_21 => k_is)
      (case c_f_21 => k_is)
      (case k_f_21 => k_is)
      (case a_f_22 => k_is)
      (case l_f_22 => k_is)
      (case c_f_22 => k_is)
      (case k_f_22 => k_is)
      (case a_f_23 => k_is)
      (case l_f_23 => k_is)
      (case c_f_23 => k_is)
      (case k_f_23 => k_is)
      (case a_f_24 => k_is)
      (case l_f_24 => k_is)
      (case c_f_24 => k_is)
      (case k_f_24 => k_is)
      (case a_f_25 => k_is)
      (case l_f_25 => k_is)
      (case c_f_25 => k_is)
      (case k_f_25 => k_is)
      (case a_f_26 => k_is)
      (case l_f_26 => k_is)
      (case c_f_26 => k_is)
      (case k_f_26 => k_is)
      (case a_f_27 => k_is)
      (case l_f_27 => k_is)
      (case c_f_27 => k_is)
      (case k_f_27 => k_is)
      (case a_f_28 => k_is)
      (case l_f_28 => k_is)
      (case c_f_28 => k_is)
      (case k_f_28 => k_is)
      (case a_f_29 => k_is)
      (case l_f_29 => k_is)
      (case c_f_29 => k_is)
      (case k_f_29 => k_is)
      (case a_C1 => k_is)
      (case ty_C1 => k_is)
      (case hd_C1 => k_is)
      (case sb_C1 => k_is)
      (case ss_C0 => k_is)
      (case se_C0_C1 => k_is)
      (case sk_C0_dic => k_is)
      (case sk_C0_tup => k_is)
      (case sk_C0_lst => k_is)
      (case sk_C0_str => k_is)
      (case sk_C0_int => k_is)
      (case sk_C0_bl => k_is)
      (case sk_C0_non => k_is)
      (case z_repr => k_is)
      (case a_f_31 => k_is)
      (case l_f_31 => k_is)
      (case c_f_31 => k_is)
      (case k_f_31 => k_is)
      (case st_C0_tuple => k_is)
      (case st_C0_list => k_is)
      (case z_list => k_is)
      (case z_tuple => k_is)
      (case z_zip => k_is)
      (case st_C0_dict => k_is)
      (case z_dict => k_is)
      (case st_C0_int => k_is)
      (case st_C0_bool => k_is)
      (case z_bool => k_is)
      (case a_f_32 => k_is)
      (case l_f_32 => k_is)
      (case c_f_32 => k_is)
      (case k_f_32 => k_is)
      (case a_f_33 => k_is)
      (case l_f_33 => k_is)
      (case c_f_33 => k_is)
      (case k_f_33 => k_is)
      (case z_min => k_is)
      (case a_f_34 => k_is)
      (case l_f_34 => k_is)
      (case c_f_34 => k_is)
      (case k_f_34 => k_is)

