import PyProof.Rows.All
import Wide.All
import OpenK.AllK
import Wide.FinOn
import HandS.ForMost
import HandS.ForExc
import HandS.ExcInit
import HandS.IsInst
import HandS.Flow
import HandS.Style
import HandS.TupAny
import HandS.Zip
import HandS.Rev
import HandS.Wide
import HandS.WideBits
import HandS.StrMore
import HandS.Replace
import HandS.SetFor
import HandS.Text
import PyProof.StrBlock2
import KE.KExcIs
import HandS.ExcValue
import HandS.CallSlots
import HandS.EndBits
import HandS.Defaults
import HandS.ReplaceLit
import HandS.ReplaceDef
import HandS.Codes
import HandS.ReplaceList
import PySem.Challenge.RW_allmayedit_k04_whole_titles_above_and_be
set_option Elab.async false
set_option linter.all false
set_option maxRecDepth 100000
set_option maxHeartbeats 4000000
/-! DL: each def of the text is shown to compute a plain Lean function over data. -/
namespace DL
open PySem L2

/-! ### data -/
/-- Python's data: an own error is its place, its class's name and what its field holds -/
inductive D where
  | non | bl (b : Bool) | int (i : Int) | str (s : Str)
  | lst (xs : List D) | tup (xs : List D) | dic (kvs : List (Key × D))
  /-- a list that is only read: the script, a list of the module's top -/
  | ros (xs : List D)
  | exc (a : Addr) (c : Str) (v : D)

/-- what a part of a program gives -/
inductive R (α : Type) where
  | ok (a : α) | bad
/-- a slot: nothing, data that never changes, a list or dict of this frame's own -/
inductive Sl where
  | no | cl (d : D) | ow (d : D)
abbrev Rho := List Sl
inductive Out (α : Type) where
  | ok (a : α) (r : Rho) | exn (c : Str) (v : D) (r : Rho) | bad
abbrev M (α : Type) := Rho → Out α
def M.pure {α : Type} (a : α) : M α := fun r => .ok a r
def M.bind {α β : Type} (m : M α) (f : α → M β) : M β := fun r => match m r with
  | .ok a r' => f a r'
  | .exn c v r' => .exn c v r'
  | .bad => .bad
def M.lift {α : Type} (x : R α) : M α := fun r => match x with
  | .ok a => .ok a r
  | .bad => .bad

/-! ### data in the heap -/
/-- heaps: F ⊆ H -/
def Sub (F H : Hp) : Prop := ∀ a o, F a = some o → H a = some o
theorem Sub.refl (F : Hp) : Sub F F := fun _ _ h => h
theorem Sub.trans {F G H : Hp} (a : Sub F G) (b : Sub G H) : Sub F H := fun x o h => b x o (a x o h)

/-- an own error of the class at C stands at a, its field's dict at d -/
def ExT (C d a : Addr) : HO := .ext fun h => ∃ (oe : Obj) (vs : Array Value), h.get? a = some oe ∧ oe.cls = .ref C ∧ oe.dict = some d ∧ oe.data = .fields vs

structure Gx where
  K : PySem.W.Frag
  mg : Str → Option Value

/-- a dict that is read: its object stands for good -/
def DcAt (F : Hp) (a : Addr) (kvs : List (Key × V)) : Prop := ∃ o, F a = some (.frz o (.dK kvs))

/-- what an own error's class says -/
structure XcC (K : PySem.W.Frag) (D : Addr) : Prop where
  hc : (PySem.W.clsIn K D).isSome = true
  hg : PySem.W.findIn K (.ref D) "__getattribute__" = some (some (.builtin "BaseException.__getattribute__"))
  hk : PySem.W.findIn K (.ref D) "__getattr__" = some none
  hs : PySem.W.subIn K (.ref D) (.type "BaseException") = some true
  ha : PySem.W.findIn K (.ref D) "__class__" = some (some (.builtin "object.__class__"))
  hn : PySem.W.specialIn K (.builtin "object.__class__") "__get__" = some (some (.builtin "getset_descriptor.__get__"))
  ht : PySem.W.takesIn K (.builtin "object.__class__") = some true
  hm : PySem.W.mroIn K D (.type "object") = some true
  hd : PySem.W.hasDictIn K D = true
  hv : PySem.W.findIn K (.ref D) "value" = some none
  he : PySem.W.findIn K (.ref D) "__eq__" = some (some (.builtin "object.__eq__"))

mutual
def Rep (g : Gx) (F : Hp) : D → V → Prop
  | .non, v => v = .non
  | .bl b, v => v = .bl b
  | .int i, v => v = .int i
  | .str s, v => v = .str s
  | .lst xs, v => ∃ a vs, v = .ref a ∧ F a = some (.lst vs) ∧ RepL g F xs vs
  | .ros xs, v => ∃ a vs, v = .ref a ∧ SqL g.K F a vs ∧ RepL g F xs vs
  | .tup xs, v => ∃ a vs, v = .ref a ∧ SqT g.K F a vs ∧ RepL g F xs vs
  | .dic kvs, v => ∃ a vs, v = .ref a ∧ DcAt F a vs ∧ RepK g F kvs vs
  | .exc a c x, v => ∃ C d w, v = .ref a ∧ g.mg c = some (.ref C) ∧ XcC g.K C ∧ F a = some (ExT C d a) ∧ F d = some (.xd [("value", w)]) ∧ Rep g F x w
def RepL (g : Gx) (F : Hp) : List D → List V → Prop
  | [], vs => vs = []
  | x :: xs, vs => ∃ v r, vs = v :: r ∧ Rep g F x v ∧ RepL g F xs r
def RepK (g : Gx) (F : Hp) : List (Key × D) → List (Key × V) → Prop
  | [], vs => vs = []
  | (k, x) :: xs, vs => ∃ v r, vs = (k, v) :: r ∧ Rep g F x v ∧ RepK g F xs r
end

theorem sqL_mono {K : PySem.W.Frag} {F H : Hp} (e : Sub F H) {a : Addr} {xs : List V} (h : SqL K F a xs) : SqL K H a xs := by
  rcases h with (h | ⟨o, h⟩) | h
  · exact .inl (.inl (e _ _ h))
  · exact .inl (.inr ⟨o, e _ _ h⟩)
  · exact .inr h
theorem sqT_mono {K : PySem.W.Frag} {F H : Hp} (e : Sub F H) {a : Addr} {xs : List V} (h : SqT K F a xs) : SqT K H a xs := by
  rcases h with (h | ⟨o, h⟩) | h
  · exact .inl (.inl (e _ _ h))
  · exact .inl (.inr ⟨o, e _ _ h⟩)
  · exact .inr h
mutual
theorem Rep.mono {g : Gx} {F H : Hp} (e : Sub F H) : ∀ {d : D} {v : V}, Rep g F d v → Rep g H d v
  | .non, v, h => by simpa only [Rep] using h
  | .bl b, v, h => by simpa only [Rep] using h
  | .int i, v, h => by simpa only [Rep] using h
  | .str s, v, h => by simpa only [Rep] using h
  | .lst xs, v, h => by
    simp only [Rep] at h ⊢
    obtain ⟨a, vs, rfl, h1, h2⟩ := h
    exact ⟨a, vs, rfl, e _ _ h1, RepL.mono e h2⟩
  | .ros xs, v, h => by
    simp only [Rep] at h ⊢
    obtain ⟨a, vs, rfl, h1, h2⟩ := h
    exact ⟨a, vs, rfl, sqL_mono e h1, RepL.mono e h2⟩
  | .tup xs, v, h => by
    simp only [Rep] at h ⊢
    obtain ⟨a, vs, rfl, h1, h2⟩ := h
    exact ⟨a, vs, rfl, sqT_mono e h1, RepL.mono e h2⟩
  | .dic kvs, v, h => by
    simp only [Rep] at h ⊢
    obtain ⟨a, vs, rfl, h1, h2⟩ := h
    exact ⟨a, vs, rfl, h1.imp fun o q => e _ _ q, RepK.mono e h2⟩
  | .exc a c x, v, h => by
    simp only [Rep] at h ⊢
    obtain ⟨C, d, w, rfl, h1, hx, h2, h3, h4⟩ := h
    exact ⟨C, d, w, rfl, h1, hx, e _ _ h2, e _ _ h3, Rep.mono e h4⟩
theorem RepL.mono {g : Gx} {F H : Hp} (e : Sub F H) : ∀ {xs : List D} {vs : List V}, RepL g F xs vs → RepL g H xs vs
  | [], vs, h => by simpa only [RepL] using h
  | x :: xs, vs, h => by
    simp only [RepL] at h ⊢
    obtain ⟨v, r, rfl, h1, h2⟩ := h
    exact ⟨v, r, rfl, Rep.mono e h1, RepL.mono e h2⟩
theorem RepK.mono {g : Gx} {F H : Hp} (e : Sub F H) : ∀ {xs : List (Key × D)} {vs : List (Key × V)}, RepK g F xs vs → RepK g H xs vs
  | [], vs, h => by simpa only [RepK] using h
  | (k, x) :: xs, vs, h => by
    simp only [RepK] at h ⊢
    obtain ⟨v, r, rfl, h1, h2⟩ := h
    exact ⟨v, r, rfl, Rep.mono e h1, RepK.mono e h2⟩
end

section
variable {g : Gx} {F H : Hp}
theorem RepL.length : ∀ {xs : List D} {vs : List V}, RepL g F xs vs → vs.length = xs.length
  | [], vs, h => by simp only [RepL] at h; simp [h]
  | x :: xs, vs, h => by
    simp only [RepL] at h
    obtain ⟨v, r, rfl, _, h2⟩ := h
    simp [RepL.length h2]
theorem RepL.append : ∀ {xs ys : List D} {vs ws : List V}, RepL g F xs vs → RepL g F ys ws → RepL g F (xs ++ ys) (vs ++ ws)
  | [], ys, vs, ws, h, k => by simp only [RepL] at h; subst h; simpa using k
  | x :: xs, ys, vs, ws, h, k => by
    simp only [RepL] at h
    obtain ⟨v, r, rfl, h1, h2⟩ := h
    simp only [List.cons_append, RepL]
    exact ⟨v, r ++ ws, rfl, h1, RepL.append h2 k⟩
theorem RepL.get : ∀ {xs : List D} {vs : List V} {i : Nat} {d : D}, RepL g F xs vs → xs[i]? = some d → ∃ v, vs[i]? = some v ∧ Rep g F d v
  | [], vs, i, d, h, e => by simp at e
  | x :: xs, vs, 0, d, h, e => by
    simp only [RepL] at h
    obtain ⟨v, r, rfl, h1, h2⟩ := h
    simp at e
    subst e
    exact ⟨v, rfl, h1⟩
  | x :: xs, vs, i + 1, d, h, e => by
    simp only [RepL] at h
    obtain ⟨v, r, rfl, h1, h2⟩ := h
    obtain ⟨w, e1, r1⟩ := RepL.get (i := i) (d := d) h2 (by simpa using e)
    exact ⟨w, by simpa using e1, r1⟩
theorem RepL.getV : ∀ {xs : List D} {vs : List V} {i : Nat} {v : V}, RepL g F xs vs → vs[i]? = some v → ∃ d, xs[i]? = some d ∧ Rep g F d v
  | [], vs, i, v, h, e => by simp only [RepL] at h; subst h; simp at e
  | x :: xs, vs, 0, v, h, e => by
    simp only [RepL] at h
    obtain ⟨w, r, rfl, h1, h2⟩ := h
    simp at e
    subst e
    exact ⟨x, rfl, h1⟩
  | x :: xs, vs, i + 1, v, h, e => by
    simp only [RepL] at h
    obtain ⟨w, r, rfl, h1, h2⟩ := h
    obtain ⟨d, e1, r1⟩ := RepL.getV (i := i) (v := v) h2 (by simpa using e)
    exact ⟨d, by simpa using e1, r1⟩
theorem RepL.set : ∀ {xs : List D} {vs : List V} {d : D} {v : V} (i : Nat), RepL g F xs vs → Rep g F d v → RepL g F (xs.set i d) (vs.set i v)
  | [], vs, d, v, i, h, k => by simp only [RepL] at h; subst h; simp [RepL]
  | x :: xs, vs, d, v, 0, h, k => by
    simp only [RepL] at h
    obtain ⟨w, r, rfl, h1, h2⟩ := h
    simp only [List.set_cons_zero, RepL]
    exact ⟨v, r, rfl, k, h2⟩
  | x :: xs, vs, d, v, i + 1, h, k => by
    simp only [RepL] at h
    obtain ⟨w, r, rfl, h1, h2⟩ := h
    simp only [List.set_cons_succ, RepL]
    exact ⟨w, r.set i v, rfl, h1, RepL.set i h2 k⟩
theorem RepL.take : ∀ {xs : List D} {vs : List V} (i : Nat), RepL g F xs vs → RepL g F (xs.take i) (vs.take i)
  | [], vs, i, h => by simp only [RepL] at h; subst h; simp [RepL]
  | x :: xs, vs, 0, h => by simp [RepL]
  | x :: xs, vs, i + 1, h => by
    simp only [RepL] at h
    obtain ⟨w, r, rfl, h1, h2⟩ := h
    simp only [List.take_succ_cons, RepL]
    exact ⟨w, r.take i, rfl, h1, RepL.take i h2⟩
theorem RepL.drop : ∀ {xs : List D} {vs : List V} (i : Nat), RepL g F xs vs → RepL g F (xs.drop i) (vs.drop i)
  | [], vs, i, h => by simp only [RepL] at h; subst h; simp [RepL]
  | x :: xs, vs, 0, h => by simpa using h
  | x :: xs, vs, i + 1, h => by
    simp only [RepL] at h
    obtain ⟨w, r, rfl, h1, h2⟩ := h
    simpa using RepL.drop i h2
theorem RepL.reverse : ∀ {xs : List D} {vs : List V}, RepL g F xs vs → RepL g F xs.reverse vs.reverse
  | [], vs, h => by simp only [RepL] at h; subst h; simp [RepL]
  | x :: xs, vs, h => by
    simp only [RepL] at h
    obtain ⟨w, r, rfl, h1, h2⟩ := h
    rw [List.reverse_cons, List.reverse_cons]
    exact RepL.append (RepL.reverse h2) (by simp only [RepL]; exact ⟨w, [], rfl, h1, rfl⟩)
theorem RepL.one {d : D} {v : V} (h : Rep g F d v) : RepL g F [d] [v] := by
  simp only [RepL]
  exact ⟨v, [], rfl, h, rfl⟩
theorem RepL.nil : RepL g F [] [] := by simp only [RepL]
theorem RepL.cons {d : D} {v : V} {xs : List D} {vs : List V} (h : Rep g F d v) (k : RepL g F xs vs) : RepL g F (d :: xs) (v :: vs) := by
  simp only [RepL]
  exact ⟨v, vs, rfl, h, k⟩
end

/-- the heap grows -/
structure Grow (F H F' H' : Hp) : Prop where
  f : Sub F F'
  h : Sub H H'
  s : Sub F' H'
  n : ∀ a o, F' a = some o → F a = some o ∨ H a = none
theorem Grow.refl {F H : Hp} (s : Sub F H) : Grow F H F H := ⟨Sub.refl _, Sub.refl _, s, fun _ _ h => .inl h⟩
theorem Grow.trans {F H F1 H1 F2 H2 : Hp} (a : Grow F H F1 H1) (b : Grow F1 H1 F2 H2) : Grow F H F2 H2 :=
  ⟨a.f.trans b.f, a.h.trans b.h, b.s, fun x o h => by
    rcases b.n x o h with q | q
    · exact a.n x o q
    · right
      cases e : H x with
      | none => rfl
      | some u => rw [a.h x u e] at q; cases q⟩
theorem Grow.new {F H : Hp} (s : Sub F H) {p : Addr} {o : HO} (hp : H p = none) : Grow F H (upd F p o) (upd H p o) := by
  have fp : F p = none := by
    cases e : F p with
    | none => rfl
    | some u => rw [s p u e] at hp; cases hp
  refine ⟨fun a u h => ?_, fun a u h => ?_, fun a u h => ?_, fun a u h => ?_⟩
  · rw [upd_ne (ne_of_none h fp)]; exact h
  · rw [upd_ne (ne_of_none h hp)]; exact h
  · by_cases e : a = p
    · subst e; rw [upd_same] at h ⊢; exact h
    · rw [upd_ne e] at h ⊢; exact s a u h
  · by_cases e : a = p
    · subst e; exact .inr hp
    · rw [upd_ne e] at h; exact .inl h
/-- the big heap alone grows -/
theorem Grow.big {F H : Hp} (s : Sub F H) {p : Addr} {o : HO} (hp : H p = none) : Grow F H F (upd H p o) :=
  ⟨Sub.refl _, (Grow.new s hp (o := o)).h, fun a u h => (Grow.new s hp (o := o)).h a u (s a u h), fun a u h => .inl h⟩

/-- a frame's own list or dict at a -/
def Own (g : Gx) (F H : Hp) (a : Addr) : D → Prop
  | .lst xs => ∃ vs, H a = some (.lst vs) ∧ RepL g F xs vs
  | .dic kvs => ∃ vs, H a = some (.dK vs) ∧ RepK g F kvs vs
  | _ => False
theorem Own.there {g : Gx} {F H : Hp} {a : Addr} {d : D} (h : Own g F H a d) : ∃ o, H a = some o := by
  cases d <;> first
    | (obtain ⟨vs, e, _⟩ := h; exact ⟨_, e⟩)
    | exact h.elim
theorem Own.move {g : Gx} {F H F' H' : Hp} {a : Addr} {d : D} (h : Own g F H a d) (f : Sub F F') (e : H' a = H a) : Own g F' H' a d := by
  cases d <;> first
    | (obtain ⟨vs, e1, r⟩ := h; exact ⟨vs, e.trans e1, RepL.mono f r⟩)
    | (obtain ⟨vs, e1, r⟩ := h; exact ⟨vs, e.trans e1, RepK.mono f r⟩)
    | exact h.elim
/-- shown for reading: clean, or a frame's own -/
def WRep (g : Gx) (F H : Hp) (d : D) (v : V) : Prop := Rep g F d v ∨ ∃ a, v = .ref a ∧ Own g F H a d
theorem WRep.grow {g : Gx} {F H F' H' : Hp} {d : D} {v : V} (h : WRep g F H d v) (G : Grow F H F' H') : WRep g F' H' d v := by
  rcases h with h | ⟨a, rfl, h⟩
  · exact .inl (h.mono G.f)
  · obtain ⟨o, e⟩ := h.there
    exact .inr ⟨a, rfl, h.move G.f ((G.h a o e).trans e.symm)⟩

/-- several lists that are nobody's as yet, none of them there in H0 -/
def OwnL (g : Gx) (F H H0 : Hp) (ds : List D) (vs : List V) : Prop := vs.length = ds.length ∧ ∀ (i : Nat) d, ds[i]? = some d → ∃ a, vs[i]? = some (.ref a) ∧ F a = none ∧ H0 a = none ∧ Own g F H a d
/-- a new list of such -/
def Pool (g : Gx) (F H H0 : Hp) (v : V) (d : D) : Prop := ∃ p ds vs, v = .ref p ∧ d = .lst ds ∧ F p = none ∧ H0 p = none ∧ H p = some (.lst vs) ∧ OwnL g F H H0 ds vs ∧ vs.Nodup ∧ V.ref p ∉ vs
theorem OwnL.base {g : Gx} {F H H0 H1 : Hp} {ds : List D} {vs : List V} (h : OwnL g F H H0 ds vs) (k : ∀ a, H0 a = none → H1 a = none) : OwnL g F H H1 ds vs :=
  ⟨h.1, fun i d e => by
    obtain ⟨a, e1, e2, e3, e4⟩ := h.2 i d e
    exact ⟨a, e1, e2, k a e3, e4⟩⟩
theorem Pool.base {g : Gx} {F H H0 H1 : Hp} {v : V} {d : D} (h : Pool g F H H0 v d) (k : ∀ a, H0 a = none → H1 a = none) : Pool g F H H1 v d := by
  obtain ⟨p, ds, vs, e1, e2, e3, e4, e5, e6, e7, e8⟩ := h
  exact ⟨p, ds, vs, e1, e2, e3, k p e4, e5, e6.base k, e7, e8⟩
theorem OwnL.move {g : Gx} {F H F' H' H0 : Hp} {ds : List D} {vs : List V} (h : OwnL g F H H0 ds vs) (f : Sub F F') (k : ∀ a, V.ref a ∈ vs → H0 a = none → F a = none → (∃ o, H a = some o) → H' a = H a ∧ F' a = none) : OwnL g F' H' H0 ds vs :=
  ⟨h.1, fun i d e => by
    obtain ⟨a, e1, e2, e3, e4⟩ := h.2 i d e
    obtain ⟨k1, k2⟩ := k a (List.mem_of_getElem? e1) e3 e2 e4.there
    exact ⟨a, e1, k2, e3, e4.move f k1⟩⟩
/-! ### a frame -/
/-- what a def hands back: data that stands still, or a list or dict that is the caller's own -/
inductive Rk where
  | cl | fr | pl
  /-- data that stands still, and more that is known of it: N of the heap at the call, of what stands still behind it, of the data -/
  | cw (N : Hp → Hp → D → V → Prop)
structure Fx where
  F0 : Hp
  H0 : Hp
  O0 : List (Nat × Addr)
  ow : List Nat
  rk : Rk

structure ST (g : Gx) (fx : Fx) (σ : L2.St) (H F : Hp) (ρ : Rho) : Prop where
  s : Sub F H
  ge : Sub fx.F0 F
  nw : ∀ a o, F a = some o → fx.F0 a = some o ∨ fx.H0 a = none
  old : ∀ a o, fx.H0 a = some o → (∀ i, (i, a) ∉ fx.O0) → H a = some o
  len : σ.length = ρ.length
  cl : ∀ (i : Nat) d, ρ[i]? = some (.cl d) → ∃ v, σ[i]? = some (some v) ∧ Rep g F d v
  ow : ∀ (i : Nat) d, ρ[i]? = some (.ow d) → ∃ a, σ[i]? = some (some (.ref a)) ∧ F a = none ∧ Own g F H a d ∧ (fx.H0 a = none ∨ (i, a) ∈ fx.O0)
  inj : ∀ (i j : Nat) d e a, ρ[i]? = some (.ow d) → ρ[j]? = some (.ow e) → σ[i]? = some (some (.ref a)) → σ[j]? = some (some (.ref a)) → i = j
  par : ∀ (i : Nat) a, (i, a) ∈ fx.O0 → (∃ d, ρ[i]? = some (.ow d)) ∧ σ[i]? = some (some (.ref a))
  pin : ∀ (i : Nat) a, (i, a) ∈ fx.O0 → i ∈ fx.ow

section
variable {g : Gx} {fx : Fx} {σ : L2.St} {H F H' F' : Hp} {ρ : Rho}
theorem ST.par_there (S : ST g fx σ H F ρ) {i : Nat} {a : Addr} (h : (i, a) ∈ fx.O0) : ∃ o, H a = some o := by
  obtain ⟨⟨d, e⟩, e2⟩ := S.par i a h
  obtain ⟨b, e3, _, o, _⟩ := S.ow i d e
  rw [e2] at e3
  cases e3
  exact o.there
theorem ST.fresh (S : ST g fx σ H F ρ) {a : Addr} (h : H a = none) : fx.H0 a = none := by
  cases e : fx.H0 a with
  | none => rfl
  | some o =>
    by_cases q : ∃ i, (i, a) ∈ fx.O0
    · obtain ⟨i, q⟩ := q
      obtain ⟨u, e2⟩ := S.par_there q
      rw [h] at e2; cases e2
    · have := S.old a o e (fun i hi => q ⟨i, hi⟩)
      rw [h] at this; cases this
theorem ST.grow (S : ST g fx σ H F ρ) (G : Grow F H F' H') : ST g fx σ H' F' ρ where
  s := G.s
  ge := S.ge.trans G.f
  nw := fun a o h => by
    rcases G.n a o h with q | q
    · exact S.nw a o q
    · exact .inr (S.fresh q)
  old := fun a o h k => G.h a o (S.old a o h k)
  len := S.len
  cl := fun i d h => by
    obtain ⟨v, e, r⟩ := S.cl i d h
    exact ⟨v, e, r.mono G.f⟩
  ow := fun i d h => by
    obtain ⟨a, e, fa, o, n⟩ := S.ow i d h
    obtain ⟨u, hu⟩ := o.there
    refine ⟨a, e, ?_, o.move G.f ((G.h a u hu).trans hu.symm), n⟩
    cases q : F' a with
    | none => rfl
    | some w =>
      rcases G.n a w q with z | z
      · rw [fa] at z; cases z
      · rw [hu] at z; cases z
  inj := S.inj
  par := S.par
  pin := S.pin
end
end DL

set_option Elab.async false
set_option linter.all false
set_option maxRecDepth 100000
set_option maxHeartbeats 4000000
namespace DL
open PySem L2

/-! ### judgements -/
def VR (cl : Bool) (g : Gx) (F H : Hp) (d : D) (v : V) : Prop := match cl with
  | true => Rep g F d v
  | false => WRep g F H d v
theorem VR.w {cl : Bool} {g : Gx} {F H : Hp} {d : D} {v : V} (h : VR cl g F H d v) : WRep g F H d v := by
  cases cl with
  | true => exact .inl h
  | false => exact h
theorem VR.grow {cl : Bool} {g : Gx} {F H F' H' : Hp} {d : D} {v : V} (h : VR cl g F H d v) (G : Grow F H F' H') : VR cl g F' H' d v := by
  cases cl with
  | true => exact Rep.mono G.f h
  | false => exact WRep.grow h G
/-- an own error on its way -/
def XR (g : Gx) (F : Hp) (c : Str) (x : D) (cls : Value) (dd : Option Addr) : Prop :=
  ∃ C d w, cls = .ref C ∧ dd = some d ∧ g.mg c = some (.ref C) ∧ XcC g.K C ∧ F d = some (.xd [("value", w)]) ∧ Rep g F x w

/-- what is kept from here to there: all, where nothing of the frame's own is written -/
structure Go (eff : Bool) (σ : L2.St) (F H : Hp) (ρ : Rho) (F' H' : Hp) (ρ' : Rho) : Prop where
  f : Sub F F'
  n : ∀ a o, F' a = some o → F a = some o ∨ H a = none ∨ ∃ (i : Nat) (d : D), ρ[i]? = some (.ow d) ∧ σ[i]? = some (some (.ref a))
  o : ∀ (i : Nat) d, ρ'[i]? = some (.ow d) → ∃ e, ρ[i]? = some (.ow e)
  k : ∀ a o, H a = some o → (∀ (i : Nat) d, ρ[i]? = some (.ow d) → σ[i]? ≠ some (some (.ref a))) → H' a = some o
  g : eff = false → Grow F H F' H' ∧ ρ' = ρ
  d : ∀ a o, H a = some o → ∃ u, H' a = some u
theorem Go.refl {eff : Bool} {σ : L2.St} {F H : Hp} {ρ : Rho} (s : Sub F H) : Go eff σ F H ρ F H ρ := ⟨Sub.refl _, fun _ _ h => .inl h, fun _ d h => ⟨d, h⟩, fun _ _ h _ => h, fun _ => ⟨Grow.refl s, rfl⟩, fun _ o h => ⟨o, h⟩⟩
theorem Go.of {eff : Bool} {σ : L2.St} {F H F' H' : Hp} {ρ : Rho} (G : Grow F H F' H') : Go eff σ F H ρ F' H' ρ := ⟨G.f, fun a o h => (G.n a o h).imp id .inl, fun _ d h => ⟨d, h⟩, fun a o h _ => G.h a o h, fun _ => ⟨G, rfl⟩, fun a o h => ⟨o, G.h a o h⟩⟩
theorem Go.trans {e1 e2 : Bool} {σ : L2.St} {F H F1 H1 F2 H2 : Hp} {ρ ρ1 ρ2 : Rho} (a : Go e1 σ F H ρ F1 H1 ρ1) (b : Go e2 σ F1 H1 ρ1 F2 H2 ρ2) : Go (e1 || e2) σ F H ρ F2 H2 ρ2 where
  f := a.f.trans b.f
  n := fun x o h => by
    rcases b.n x o h with q | q | ⟨i, d, q1, q2⟩
    · exact a.n x o q
    · refine .inr (.inl ?_)
      cases e : H x with
      | none => rfl
      | some u =>
        obtain ⟨w, hw⟩ := a.d x u e
        rw [hw] at q
        cases q
    · obtain ⟨e, h1⟩ := a.o i d q1
      exact .inr (.inr ⟨i, e, h1, q2⟩)
  o := fun i d h => by
    obtain ⟨e, h1⟩ := b.o i d h
    exact a.o i e h1
  k := fun x o h q => b.k x o (a.k x o h q) fun i d hi => by
    obtain ⟨e, h1⟩ := a.o i d hi
    exact q i e h1
  g := fun e => by
    cases e1 with
    | true => cases e
    | false =>
      cases e2 with
      | true => cases e
      | false =>
        obtain ⟨h1, r1⟩ := a.g rfl
        obtain ⟨h2, r2⟩ := b.g rfl
        exact ⟨h1.trans h2, r2.trans r1⟩
  d := fun x o h => by
    obtain ⟨u, hu⟩ := a.d x o h
    exact b.d x u hu
theorem Go.up {e : Bool} {σ : L2.St} {F H F' H' : Hp} {ρ ρ' : Rho} (G : Go e σ F H ρ F' H' ρ') : Go true σ F H ρ F' H' ρ' := ⟨G.f, G.n, G.o, G.k, fun z => (nomatch z), G.d⟩
theorem VR.go {cl eff : Bool} {σ : L2.St} {g : Gx} {F H F' H' : Hp} {ρ ρ' : Rho} {d : D} {v : V} (h : VR cl g F H d v) (o : Go eff σ F H ρ F' H' ρ') (c : (!eff || cl) = true) : VR cl g F' H' d v := by
  cases cl with
  | true => exact Rep.mono o.f h
  | false =>
    cases eff with
    | true => exact absurd c (by decide)
    | false => exact WRep.grow h (o.g rfl).1

theorem xst {e : Bool} {g : Gx} {fx : Fx} {W : WX} {σ : L2.St} {F H F1 H1 : Hp} {ρ ρ1 ρ' : Rho} {c : Str} {x : D} (G : Go e σ F H ρ F1 H1 ρ1) (h : ∀ cls dd H' F', Go true σ F H ρ F' H' ρ' → ST g fx σ H' F' ρ' → XR g F' c x cls dd → W cls dd σ H') :
    ∀ cls dd H' F', Go true σ F1 H1 ρ1 F' H' ρ' → ST g fx σ H' F' ρ' → XR g F' c x cls dd → W cls dd σ H' := fun cls dd H' F' k => h cls dd H' F' (G.up.trans k)
section
variable (g : Gx) (fx : Fx) (W : WX)
def tE (cl eff : Bool) (m : M D) : TE := fun σ H Q => ∃ F ρ, ST g fx σ H F ρ ∧ match m ρ with
  | .ok d ρ' => ∀ v H' F', Go eff σ F H ρ F' H' ρ' → ST g fx σ H' F' ρ' → VR cl g F' H' d v → Q v H'
  | .exn c x ρ' => ∀ cls dd H' F', Go true σ F H ρ F' H' ρ' → ST g fx σ H' F' ρ' → XR g F' c x cls dd → W cls dd σ H'
  | .bad => False
def tB (eff : Bool) (m : M Bool) : TT := fun σ H Q => ∃ F ρ, ST g fx σ H F ρ ∧ match m ρ with
  | .ok b ρ' => ∀ H' F', Go eff σ F H ρ F' H' ρ' → ST g fx σ H' F' ρ' → Q b H'
  | .exn c x ρ' => ∀ cls dd H' F', Go true σ F H ρ F' H' ρ' → ST g fx σ H' F' ρ' → XR g F' c x cls dd → W cls dd σ H'
  | .bad => False
/-- arguments: all of them clean, or readable -/
def VRL (cl : Bool) (g : Gx) (F H : Hp) : List D → List V → Prop
  | [], vs => vs = []
  | d :: ds, vs => ∃ v r, vs = v :: r ∧ VR cl g F H d v ∧ VRL cl g F H ds r
def tA (cl eff : Bool) (m : M (List D)) : TA := fun σ H Q => ∃ F ρ, ST g fx σ H F ρ ∧ match m ρ with
  | .ok ds ρ' => ∀ vs H' F', Go eff σ F H ρ F' H' ρ' → ST g fx σ H' F' ρ' → VRL cl g F' H' ds vs → Q vs H'
  | .exn c x ρ' => ∀ cls dd H' F', Go true σ F H ρ F' H' ρ' → ST g fx σ H' F' ρ' → XR g F' c x cls dd → W cls dd σ H'
  | .bad => False
end
theorem VRL.rep {g : Gx} {F H : Hp} : ∀ {ds : List D} {vs : List V}, VRL true g F H ds vs → RepL g F ds vs
  | [], vs, h => by simpa only [VRL, RepL] using h
  | d :: ds, vs, h => by
    obtain ⟨v, r, rfl, h1, h2⟩ := h
    simp only [RepL]
    exact ⟨v, r, rfl, h1, VRL.rep h2⟩
theorem VRL.length {cl : Bool} {g : Gx} {F H : Hp} : ∀ {ds : List D} {vs : List V}, VRL cl g F H ds vs → vs.length = ds.length
  | [], vs, h => by
    have e : vs = [] := h
    simp [e]
  | d :: ds, vs, h => by
    obtain ⟨v, r, rfl, h1, h2⟩ := h
    simp [VRL.length h2]
/-- readable arguments -/
abbrev WRL (g : Gx) (F H : Hp) (ds : List D) (vs : List V) : Prop := VRL false g F H ds vs
theorem VRL.w {cl : Bool} {g : Gx} {F H : Hp} : ∀ {ds : List D} {vs : List V}, VRL cl g F H ds vs → WRL g F H ds vs
  | [], vs, h => h
  | d :: ds, vs, h => by
    obtain ⟨v, r, rfl, h1, h2⟩ := h
    exact ⟨v, r, rfl, h1.w, VRL.w h2⟩

section
variable (X : Cx) (fx : Fx) (W : WX)
abbrev gx (X : Cx) : Gx := ⟨X.K, X.mg⟩
def SE (cl eff : Bool) (e : Expr) (m : M D) : Prop := PE X e (tE (gx X) fx W cl eff m)
def SB (eff : Bool) (e : Expr) (m : M Bool) : Prop := PT X e (tB (gx X) fx W eff m)
def SA (cl eff : Bool) (es : List Expr) (m : M (List D)) : Prop := PA X es (tA (gx X) fx W cl eff m)
end

theorem PE.imp {X : Cx} {e : Expr} {t u : TE} (h : PE X e t) (k : ∀ σ H Q, u σ H Q → t σ H Q) : PE X e u := ⟨fun pins s σ H Q I q => h.run pins s σ H Q I (k σ H Q q)⟩
theorem PT.imp {X : Cx} {e : Expr} {t u : TT} (h : PT X e t) (k : ∀ σ H Q, u σ H Q → t σ H Q) : PT X e u := ⟨fun pins s σ H Q I q => h.run pins s σ H Q I (k σ H Q q)⟩
theorem PW.imp {X : Cx} {e : Expr} {t u : TT} (h : PW X e t) (k : ∀ σ H Q, u σ H Q → t σ H Q) : PW X e u := ⟨fun wh pins s σ H Q I q => h.run wh pins s σ H Q I (k σ H Q q)⟩
theorem PA.imp {X : Cx} {es : List Expr} {t u : TA} (h : PA X es t) (k : ∀ σ H Q, u σ H Q → t σ H Q) : PA X es u := ⟨fun pos pins s σ H Q I q => h.run pos pins s σ H Q I (k σ H Q q)⟩
theorem PS.imp {X : Cx} {st : Stmt} {t u : TS} (h : PS X st t) (k : ∀ D σ H, u D σ H → t D σ H) : PS X st u := ⟨fun pins s σ H D I q => h.run pins s σ H D I (k D σ H q)⟩
theorem PSs.imp {X : Cx} {st : List Stmt} {t u : TS} (h : PSs X st t) (k : ∀ D σ H, u D σ H → t D σ H) : PSs X st u := ⟨fun pins s σ H D I q => h.run pins s σ H D I (k D σ H q)⟩
theorem PE.or {X : Cx} {e : Expr} {t u : TE} (h : PE X e t) (k : PE X e u) : PE X e (fun σ H Q => t σ H Q ∨ u σ H Q) := ⟨fun pins s σ H Q I q => q.elim (h.run pins s σ H Q I) (k.run pins s σ H Q I)⟩

/-! ### mirrors of expressions -/
def eVar (i : Nat) : M D := fun ρ => match ρ[i]? with
  | some (.cl d) => .ok d ρ
  | _ => .bad
/-- a frame's own list or dict, for reading -/
def eOwn (i : Nat) : M D := fun ρ => match ρ[i]? with
  | some (.cl d) => .ok d ρ
  | some (.ow d) => .ok d ρ
  | _ => .bad
def eC (d : D) : M D := fun ρ => .ok d ρ
def e1 (op : D → R D) (a : M D) : M D := a.bind fun x => M.lift (op x)
def e2 (op : D → D → R D) (a b : M D) : M D := a.bind fun x => b.bind fun y => M.lift (op x y)
def aNil : M (List D) := M.pure []
def aCons (a : M D) (r : M (List D)) : M (List D) := a.bind fun x => r.bind fun xs => M.pure (x :: xs)
def eN (op : List D → R D) (a : M (List D)) : M D := a.bind fun xs => M.lift (op xs)
def eM (op : D → List D → R D) (o : M D) (a : M (List D)) : M D := o.bind fun x => a.bind fun xs => M.lift (op x xs)

/-! ### what an operation by values does -/
section
variable (g : Gx)
def Gives (F H : Hp) (d : D) (Q : VK) : Prop := ∀ v H' F', Grow F H F' H' → Rep g F' d v → Q v H'
def Snd2 (r : R2) (op : D → D → R D) : Prop := ∀ F H dx dy x y d Q, Sub F H → WRep g F H dx x → WRep g F H dy y → op dx dy = .ok d → Gives g F H d Q → r x y H Q
def Snd1 (r : V → Hp → VK → Prop) (op : D → R D) : Prop := ∀ F H dx x d Q, Sub F H → WRep g F H dx x → op dx = .ok d → Gives g F H d Q → r x H Q
def SndN (r : List V → Hp → VK → Prop) (op : List D → R D) : Prop := ∀ F H ds vs d Q, Sub F H → WRL g F H ds vs → op ds = .ok d → Gives g F H d Q → r vs H Q
def SndM (r : V → List V → Hp → VK → Prop) (op : D → List D → R D) : Prop := ∀ F H dx x ds vs d Q, Sub F H → WRep g F H dx x → WRL g F H ds vs → op dx ds = .ok d → Gives g F H d Q → r x vs H Q
end

section
variable {g : Gx} {fx : Fx} {W : WX} {σ : L2.St} {H : Hp} {Q : VK} {ca cb ea eb : Bool} {ma mb : M D}
theorem tE_e2 {r : R2} {op : D → D → R D} (hs : Snd2 g r op) (hc : (!eb || ca) = true) (h : tE g fx W true (ea || eb) (e2 op ma mb) σ H Q) : tOp r (tE g fx W ca ea ma) (tE g fx W cb eb mb) σ H Q := by
  obtain ⟨F, ρ, S, h⟩ := h
  refine ⟨F, ρ, S, ?_⟩
  unfold e2 M.bind at h
  cases e1 : ma ρ with
  | bad => rw [e1] at h; exact h
  | exn c x r1 => rw [e1] at h; exact h
  | ok dx ρ1 =>
    rw [e1] at h
    intro v H1 F1 G1 S1 r1
    refine ⟨F1, ρ1, S1, ?_⟩
    dsimp only at h
    cases e2 : mb ρ1 with
    | bad => rw [e2] at h; exact h
    | exn c x r1 => rw [e2] at h; exact xst G1 h
    | ok dy ρ2 =>
      rw [e2] at h
      intro u H2 F2 G2 S2 r2
      dsimp only [M.lift] at h
      cases e3 : op dx dy with
      | bad => rw [e3] at h; exact h.elim
      | ok d =>
        rw [e3] at h
        refine hs F2 H2 dx dy v u d Q S2.s (r1.go G2 hc).w r2.w e3 fun z H3 F3 G3 r3 => ?_
        exact h z H3 F3 (by
          have q := (G1.trans G2).trans (Go.of (eff := false) (ρ := ρ2) G3)
          rwa [Bool.or_false] at q) (S2.grow G3) r3
theorem tE_e1 {r : V → Hp → VK → Prop} {op : D → R D} (hs : Snd1 g r op) (h : tE g fx W true ea (e1 op ma) σ H Q) : tUn r (tE g fx W ca ea ma) σ H Q := by
  obtain ⟨F, ρ, S, h⟩ := h
  refine ⟨F, ρ, S, ?_⟩
  unfold e1 M.bind at h
  cases e1 : ma ρ with
  | bad => rw [e1] at h; exact h
  | exn c x r1 => rw [e1] at h; exact h
  | ok dx ρ1 =>
    rw [e1] at h
    intro v H1 F1 G1 S1 r1
    dsimp only [M.lift] at h
    cases e3 : op dx with
    | bad => rw [e3] at h; exact h.elim
    | ok d =>
      rw [e3] at h
      refine hs F1 H1 dx v d Q S1.s r1.w e3 fun z H3 F3 G3 r3 => ?_
      exact h z H3 F3 (by
        have q := G1.trans (Go.of (eff := false) (ρ := ρ1) G3)
        rwa [Bool.or_false] at q) (S1.grow G3) r3
theorem tE_eN {r : List V → Hp → VK → Prop} {op : List D → R D} {m : M (List D)} (hs : SndN g r op) (h : tE g fx W true ea (eN op m) σ H Q) : tCB r (tA g fx W ca ea m) σ H Q := by
  obtain ⟨F, ρ, S, h⟩ := h
  refine ⟨F, ρ, S, ?_⟩
  unfold eN M.bind at h
  cases e1 : m ρ with
  | bad => rw [e1] at h; exact h
  | exn c x r1 => rw [e1] at h; exact h
  | ok ds ρ1 =>
    rw [e1] at h
    intro vs H1 F1 G1 S1 r1
    dsimp only [M.lift] at h
    cases e3 : op ds with
    | bad => rw [e3] at h; exact h.elim
    | ok d =>
      rw [e3] at h
      refine hs F1 H1 ds vs d Q S1.s r1.w e3 fun z H3 F3 G3 r3 => ?_
      exact h z H3 F3 (by
        have q := G1.trans (Go.of (eff := false) (ρ := ρ1) G3)
        rwa [Bool.or_false] at q) (S1.grow G3) r3
theorem tA_nil {Q : List V → Hp → Prop} (h : tA g fx W true false aNil σ H Q) : tNil σ H Q := by
  obtain ⟨F, ρ, S, h⟩ := h
  exact h [] H F (Go.refl S.s) S rfl
theorem VRL.go {cl eff : Bool} {σ : L2.St} {g : Gx} {F H F' H' : Hp} {ρ ρ' : Rho} (o : Go eff σ F H ρ F' H' ρ') (c : (!eff || cl) = true) : ∀ {ds : List D} {vs : List V}, VRL cl g F H ds vs → VRL cl g F' H' ds vs
  | [], vs, h => h
  | d :: ds, vs, h => by
    obtain ⟨v, r, rfl, h1, h2⟩ := h
    exact ⟨v, r, rfl, h1.go o c, VRL.go o c h2⟩
/-- weaken to readable -/
theorem VRL.weak {cl cl' : Bool} (h : (!cl' || cl) = true) {g : Gx} {F H : Hp} {ds : List D} {vs : List V} (k : VRL cl g F H ds vs) : VRL cl' g F H ds vs := by
  cases cl' with
  | false => exact k.w
  | true =>
    cases cl with
    | true => exact k
    | false => exact absurd h (by decide)
theorem VR.weak {cl cl' : Bool} (h : (!cl' || cl) = true) {g : Gx} {F H : Hp} {d : D} {v : V} (k : VR cl g F H d v) : VR cl' g F H d v := by
  cases cl' with
  | false => exact k.w
  | true =>
    cases cl with
    | true => exact k
    | false => exact absurd h (by decide)
theorem and_l {a b : Bool} : (!(a && b) || a) = true := by cases a <;> cases b <;> rfl
theorem and_r {a b : Bool} : (!(a && b) || b) = true := by cases a <;> cases b <;> rfl
theorem tA_cons {m : M (List D)} {Q : List V → Hp → Prop} (hc : (!eb || ca) = true) (h : tA g fx W (ca && cb) (ea || eb) (aCons ma m) σ H Q) : tCons (tE g fx W ca ea ma) (tA g fx W cb eb m) σ H Q := by
  obtain ⟨F, ρ, S, h⟩ := h
  refine ⟨F, ρ, S, ?_⟩
  unfold aCons M.bind at h
  cases e1 : ma ρ with
  | bad => rw [e1] at h; exact h
  | exn c x r1 => rw [e1] at h; exact h
  | ok dx ρ1 =>
    rw [e1] at h
    intro v H1 F1 G1 S1 r1
    refine ⟨F1, ρ1, S1, ?_⟩
    dsimp only at h
    cases e2 : m ρ1 with
    | bad => rw [e2] at h; exact h
    | exn c x r1 => rw [e2] at h; exact xst G1 h
    | ok ds ρ2 =>
      rw [e2] at h
      intro vs H2 F2 G2 S2 r2
      exact h (v :: vs) H2 F2 (G1.trans G2) S2 ⟨v, vs, rfl, (r1.go G2 hc).weak and_l, r2.weak and_r⟩
/-- a built-in's method: its receiver's kind is looked at first -/
inductive Ty where
  | str | int | list | dict
def Ty.nm : Ty → String
  | .str => "str" | .int => "int" | .list => "list" | .dict => "dict"
def isT : Ty → D → Bool
  | .str, .str _ => true
  | .int, .int _ => true
  | .list, .lst _ => true
  | .list, .ros _ => true
  | _, _ => false
theorem isT_ty {F H : Hp} {T : Ty} {d : D} {v : V} (s : Sub F H) (h : isT T d = true) (r : WRep g F H d v) : tyV g.K T.nm v H := by
  have hl : ∀ {a : Addr} {vs : List V}, SqL g.K H a vs → tyV g.K Ty.list.nm (.ref a) H := fun {a vs} q => .inl ⟨rfl, vs, q⟩
  rcases r with r | ⟨a, rfl, o⟩
  · cases T with
    | str =>
      cases d <;> first | exact Bool.noConfusion h | skip
      simp only [Rep] at r
      subst r
      rfl
    | int =>
      cases d <;> first | exact Bool.noConfusion h | skip
      simp only [Rep] at r
      subst r
      rfl
    | list =>
      cases d <;> first | exact Bool.noConfusion h | skip
      · simp only [Rep] at r
        obtain ⟨a, vs, rfl, e, _⟩ := r
        exact hl (SqL.of (s _ _ e))
      · simp only [Rep] at r
        obtain ⟨a, vs, rfl, e, _⟩ := r
        exact hl (sqL_mono s e)
    | dict =>
      cases d <;> exact Bool.noConfusion h
  · cases T with
    | str => cases d <;> first | exact Bool.noConfusion h | exact o.elim
    | int => cases d <;> first | exact Bool.noConfusion h | exact o.elim
    | list =>
      cases d <;> first | exact Bool.noConfusion h | exact o.elim | skip
      obtain ⟨vs, e, _⟩ := o
      exact hl (SqL.of e)
    | dict =>
      cases d <;> exact Bool.noConfusion h
def mGuard (b : Bool) : M Unit := fun ρ => if b then .ok () ρ else .bad
def eMT (T : Ty) (op : D → List D → R D) (o : M D) (a : M (List D)) : M D := o.bind fun x => (mGuard (isT T x)).bind fun _ => a.bind fun xs => M.lift (op x xs)
theorem tE_eM {T : Ty} {r : V → List V → Hp → VK → Prop} {op : D → List D → R D} {m : M (List D)} (hs : SndM g r op) (hc : (!eb || ca) = true) (h : tE g fx W true (ea || eb) (eMT T op ma m) σ H Q) :
    tBM g.K T.nm r (tE g fx W ca ea ma) (tA g fx W cb eb m) σ H Q := by
  obtain ⟨F, ρ, S, h⟩ := h
  refine ⟨F, ρ, S, ?_⟩
  unfold eMT M.bind at h
  cases e1 : ma ρ with
  | bad => rw [e1] at h; exact h
  | exn c x r1 => rw [e1] at h; exact h
  | ok dx ρ1 =>
    rw [e1] at h
    intro v H1 F1 G1 S1 r1
    dsimp only at h
    cases e0 : isT T dx with
    | false => rw [e0] at h; exact h.elim
    | true =>
      rw [e0] at h
      refine ⟨isT_ty S1.s e0 r1.w, F1, ρ1, S1, ?_⟩
      dsimp only [mGuard] at h
      rw [if_pos rfl] at h
      dsimp only at h
      cases e2 : m ρ1 with
      | bad => rw [e2] at h; exact h
      | exn c x r1 => rw [e2] at h; exact xst G1 h
      | ok ds ρ2 =>
        rw [e2] at h
        intro vs H2 F2 G2 S2 r2
        dsimp only [M.lift] at h
        cases e3 : op dx ds with
        | bad => rw [e3] at h; exact h.elim
        | ok d =>
          rw [e3] at h
          refine hs F2 H2 dx v ds vs d Q S2.s (r1.go G2 hc).w r2.w e3 fun z H3 F3 G3 r3 => ?_
          exact h z H3 F3 (by
            have q := (G1.trans G2).trans (Go.of (eff := false) (ρ := ρ2) G3)
            rwa [Bool.or_false] at q) (S2.grow G3) r3
theorem tE_eM0 {T : Ty} {r : V → List V → Hp → VK → Prop} {op : D → List D → R D} (hs : SndM g r op) (h : tE g fx W true ea (eMT T op ma aNil) σ H Q) :
    tBM0 g.K T.nm r (tE g fx W ca ea ma) σ H Q := by
  obtain ⟨F, ρ, S, h⟩ := h
  refine ⟨F, ρ, S, ?_⟩
  unfold eMT M.bind aNil at h
  cases e1 : ma ρ with
  | bad => rw [e1] at h; exact h
  | exn c x r1 => rw [e1] at h; exact h
  | ok dx ρ1 =>
    rw [e1] at h
    intro v H1 F1 G1 S1 r1
    dsimp only at h
    cases e0 : isT T dx with
    | false => rw [e0] at h; exact h.elim
    | true =>
      rw [e0] at h
      refine ⟨isT_ty S1.s e0 r1.w, ?_⟩
      dsimp only [mGuard] at h
      rw [if_pos rfl] at h
      dsimp only [M.pure, M.lift] at h
      cases e3 : op dx [] with
      | bad => rw [e3] at h; exact h.elim
      | ok d =>
        rw [e3] at h
        refine hs F1 H1 dx v [] [] d Q S1.s r1.w rfl e3 fun z H3 F3 G3 r3 => ?_
        exact h z H3 F3 (by
          have q := G1.trans (Go.of (eff := false) (ρ := ρ1) G3)
          rwa [Bool.or_false] at q) (S1.grow G3) r3

/-! ### names and constants -/
theorem tE_var {i : Nat} (h : tE g fx W true false (eVar i) σ H Q) : tVar i σ H Q := by
  obtain ⟨F, ρ, S, h⟩ := h
  unfold eVar at h
  cases e : ρ[i]? with
  | none => rw [e] at h; exact h.elim
  | some s =>
    rw [e] at h
    cases s with
    | no => exact h.elim
    | ow d => exact h.elim
    | cl d =>
      obtain ⟨v, e1, r⟩ := S.cl i d e
      exact ⟨v, e1, h v H F (Go.refl S.s) S r⟩
theorem tE_own {i : Nat} (h : tE g fx W false false (eOwn i) σ H Q) : tVar i σ H Q := by
  obtain ⟨F, ρ, S, h⟩ := h
  unfold eOwn at h
  cases e : ρ[i]? with
  | none => rw [e] at h; exact h.elim
  | some s =>
    rw [e] at h
    cases s with
    | no => exact h.elim
    | cl d =>
      obtain ⟨v, e1, r⟩ := S.cl i d e
      exact ⟨v, e1, h v H F (Go.refl S.s) S (.inl r)⟩
    | ow d =>
      obtain ⟨a, e1, _, o, _⟩ := S.ow i d e
      exact ⟨.ref a, e1, h _ H F (Go.refl S.s) S (.inr ⟨a, rfl, o⟩)⟩
theorem tE_c {d : D} {v : V} (hr : ∀ F, Rep g F d v) (h : tE g fx W true false (eC d) σ H Q) : tC v σ H Q := by
  obtain ⟨F, ρ, S, h⟩ := h
  exact h v H F (Go.refl S.s) S (hr F)
end

section
variable {X : Cx} {fx : Fx} {W : WX}
theorem se_var (i : Nat) {x : Str} {pos : Pos} (hN : X.N[i]? = some x := by rfl) (hv : Vis X.env.scope x := by first | exact Or.inl rfl | exact Or.inr (Or.inl rfl) | exact Or.inr (Or.inr rfl)) (hd : (x == ("__debug__" : Str)) = false := by decide)
    (hcd : (x == ("__classdict__" : Str)) = false := by decide) : SE X fx W true false (.Name x pos) (eVar i) := PE.imp (pe_var hN hv hd hcd) fun _ _ _ h => tE_var h
theorem se_own (i : Nat) {x : Str} {pos : Pos} (hN : X.N[i]? = some x := by rfl) (hv : Vis X.env.scope x := by first | exact Or.inl rfl | exact Or.inr (Or.inl rfl) | exact Or.inr (Or.inr rfl)) (hd : (x == ("__debug__" : Str)) = false := by decide)
    (hcd : (x == ("__classdict__" : Str)) = false := by decide) : SE X fx W false false (.Name x pos) (eOwn i) := PE.imp (pe_var hN hv hd hcd) fun _ _ _ h => tE_own h
theorem se_int {i : Int} {j : Nat} {pos : Pos} : SE X fx W true false (.Constant (.int i) j pos) (eC (.int i)) := PE.imp pe_int fun _ _ _ h => tE_c (fun _ => by simp only [Rep]) h
theorem se_bl {b : Bool} {j : Nat} {pos : Pos} : SE X fx W true false (.Constant (.bool b) j pos) (eC (.bl b)) := PE.imp pe_bl fun _ _ _ h => tE_c (fun _ => by simp only [Rep]) h
theorem se_non {j : Nat} {pos : Pos} : SE X fx W true false (.Constant .none j pos) (eC .non) := PE.imp pe_non fun _ _ _ h => tE_c (fun _ => by simp only [Rep]) h
theorem se_str {x : Str} {j : Nat} {pos : Pos} : SE X fx W true false (.Constant (.str x) j pos) (eC (.str x)) := PE.imp pe_str fun _ _ _ h => tE_c (fun _ => by simp only [Rep]) h
/-- a constant of the module -/
theorem se_glob {x : Str} {d : D} {v : V} {u : Value} {pos : Pos} (hm : X.mg x = some u) (r : RelV v u) (hr : ∀ F, Rep (gx X) F d v) (hg : Gl X x := by rfl) (hd : (x == ("__debug__" : Str)) = false := by decide) : SE X fx W true false (.Name x pos) (eC d) :=
  PE.imp (pe_glob hg hm r hd) fun _ _ _ h => tE_c hr h
variable {ca cb ea eb : Bool} {a b : Expr} {ma mb : M D} {pos : Pos}
theorem se_op {o : Operator} {r : R2} {op : D → D → R D} (ho : OpR X (binaryOp o) r) (hs : Snd2 (gx X) r op) (ha : SE X fx W ca ea a ma) (hb : SE X fx W cb eb b mb) (hc : (!eb || ca) = true := by rfl) : SE X fx W true (ea || eb) (.BinOp a o b pos) (e2 op ma mb) :=
  PE.imp (pe_op ho ha hb) fun _ _ _ h => tE_e2 hs hc h
theorem se_un {o : UnaryOp} {r : V → Hp → VK → Prop} {op : D → R D} (ho : UnR X (unaryOp o) r) (hs : Snd1 (gx X) r op) (ha : SE X fx W ca ea a ma) : SE X fx W true ea (.UnaryOp o a pos) (e1 op ma) :=
  PE.imp (pe_un ho ha) fun _ _ _ h => tE_e1 hs h
theorem se_cmp {o : CmpOp} {r : R2} {op : D → D → R D} (ho : OpR X (compareOp o) r) (hs : Snd2 (gx X) r op) (ha : SE X fx W ca ea a ma) (hb : SE X fx W cb eb b mb) (hm : behindInMarks o b = false := by rfl) (hc : (!eb || ca) = true := by rfl) :
    SE X fx W true (ea || eb) (.Compare a [o] [b] pos) (e2 op ma mb) := PE.imp (pe_cmpR ho ha hb hm) fun _ _ _ h => tE_e2 hs hc h
theorem se_ix {r : R2} {op : D → D → R D} (ho : IxR X r) (hs : Snd2 (gx X) r op) (ha : SE X fx W ca ea a ma) (hb : SE X fx W cb eb b mb) (hp : PlainIx b := by exact (fun _ _ => rfl)) (hc : (!eb || ca) = true := by rfl) :
    SE X fx W true (ea || eb) (.Subscript a b pos) (e2 op ma mb) := PE.imp (pe_ix ho ha hb hp) fun _ _ _ h => tE_e2 hs hc h
theorem sa_nil : SA X fx W true false [] aNil := PA.imp pa_nil fun _ _ _ h => tA_nil h
theorem sa_cons {es : List Expr} {m : M (List D)} (ha : SE X fx W ca ea a ma) (hr : SA X fx W cb eb es m) (hs : starEach (a :: es) X.env = (false, eval a X.env) :: starEach es X.env := by rfl) (hc : (!eb || ca) = true := by rfl) :
    SA X fx W (ca && cb) (ea || eb) (a :: es) (aCons ma m) := PA.imp (pa_cons ha hr hs) fun _ _ _ h => tA_cons hc h
theorem se_callB {id : String} {x : Str} {p : Pos} {e : Expr} {es : List Expr} {r : List V → Hp → VK → Prop} {op : List D → R D} {m : M (List D)} (ho : CallR X (.builtin id) r) (hs : SndN (gx X) r op) (hm : X.mg x = none) (hv : bootBuiltins x = some (.builtin id)) (ha : SA X fx W ca ea (e :: es) m)
    (hg : Gl X x := by rfl) (hn : x ≠ "__name__" := by decide) (hdb : (x == ("__debug__" : Str)) = false := by decide) (h1 : starEach (e :: es) X.env = (false, eval e X.env) :: starEach es X.env := by rfl) (hpl : (backTo pos (starEach es X.env)).any (·.1) = false := by rfl) :
    SE X fx W true ea (.Call (.Name x p) (e :: es) [] pos) (eN op m) := PE.imp (pe_callB ho hg hm hv ha hn hdb h1 hpl) fun _ _ _ h => tE_eN hs h
theorem se_callTy {T : String} {x : Str} {p : Pos} {e : Expr} {es : List Expr} {r : List V → Hp → VK → Prop} {op : List D → R D} {m : M (List D)} (ho : CallR X (.type T) r) (hs : SndN (gx X) r op) (hm : X.mg x = none) (hv : bootBuiltins x = some (.type T)) (ha : SA X fx W ca ea (e :: es) m)
    (hg : Gl X x := by rfl) (hn : x ≠ "__name__" := by decide) (hdb : (x == ("__debug__" : Str)) = false := by decide) (h1 : starEach (e :: es) X.env = (false, eval e X.env) :: starEach es X.env := by rfl) (hpl : (backTo pos (starEach es X.env)).any (·.1) = false := by rfl) :
    SE X fx W true ea (.Call (.Name x p) (e :: es) [] pos) (eN op m) := PE.imp (pe_callTy ho hg hm hv ha hn hdb h1 hpl) fun _ _ _ h => tE_eN hs h
end
end DL

set_option Elab.async false
set_option linter.all false
set_option maxRecDepth 100000
set_option maxHeartbeats 4000000
namespace DL
open PySem L2

/-! ### truth -/
def truth : D → R Bool
  | .non => .ok false
  | .bl b => .ok b
  | .int i => .ok (i != 0)
  | .str s => if s.length ≤ 16777216 then .ok ((s.length : Int) != 0) else .bad
  | .lst xs => .ok (!xs.isEmpty)
  | .ros xs => .ok (!xs.isEmpty)
  | .tup xs => .ok (!xs.isEmpty)
  | .dic _ => .bad
  | .exc _ _ _ => .bad
section
variable {g : Gx} {F H : Hp}
theorem RepL.isEmpty {xs : List D} {vs : List V} (h : RepL g F xs vs) : vs.isEmpty = xs.isEmpty := by
  cases xs with
  | nil => simp only [RepL] at h; subst h; rfl
  | cons x xs =>
    simp only [RepL] at h
    obtain ⟨v, r, rfl, _⟩ := h
    rfl
theorem RepK.isEmpty {xs : List (Key × D)} {vs : List (Key × V)} (h : RepK g F xs vs) : vs.isEmpty = xs.isEmpty := by
  cases xs with
  | nil => simp only [RepK] at h; subst h; rfl
  | cons x xs =>
    obtain ⟨k, x⟩ := x
    simp only [RepK] at h
    obtain ⟨v, r, rfl, _⟩ := h
    rfl
theorem truth_ok {d : D} {v : V} {b : Bool} (s : Sub F H) (r : WRep g F H d v) (h : truth d = .ok b) : TruV g.K v H b := by
  rcases r with r | ⟨a, rfl, o⟩
  · cases d with
    | non => simp only [Rep] at r; subst r; cases h; rfl
    | bl k => simp only [Rep] at r; subst r; cases h; rfl
    | int i => simp only [Rep] at r; subst r; cases h; rfl
    | str z =>
      simp only [Rep] at r
      subst r
      dsimp only [truth] at h
      by_cases q : z.length ≤ 16777216
      · rw [if_pos q] at h
        cases h
        exact ⟨by rw [sizeLine_eq]; exact q, rfl⟩
      · rw [if_neg q] at h; cases h
    | lst xs =>
      simp only [Rep] at r
      obtain ⟨a, vs, rfl, e, l⟩ := r
      cases h
      exact .inl ⟨vs, SqL.of (s _ _ e), by rw [l.isEmpty]⟩
    | ros xs =>
      simp only [Rep] at r
      obtain ⟨a, vs, rfl, e, l⟩ := r
      cases h
      exact .inl ⟨vs, sqL_mono s e, by rw [l.isEmpty]⟩
    | tup xs =>
      simp only [Rep] at r
      obtain ⟨a, vs, rfl, e, l⟩ := r
      cases h
      exact .inr (.inl ⟨vs, sqT_mono s e, by rw [l.isEmpty]⟩)
    | dic xs => cases h
    | exc a c x => cases h
  · cases d with
    | lst xs =>
      obtain ⟨vs, e, l⟩ := o
      cases h
      exact .inl ⟨vs, SqL.of e, by rw [l.isEmpty]⟩
    | dic xs => cases h
    | _ => exact o.elim
end

/-! ### tests -/
def isBl : D → R Bool
  | .bl b => .ok b
  | _ => .bad
def bOf (m : M D) : M Bool := m.bind fun d => M.lift (isBl d)
def bTr (m : M D) : M Bool := m.bind fun d => M.lift (truth d)
def bAnd (a b : M Bool) : M Bool := a.bind fun x => if x then b else M.pure false
def bOr (a b : M Bool) : M Bool := a.bind fun x => if x then M.pure true else b
def bNot (a : M Bool) : M Bool := a.bind fun x => M.pure (!x)
def eIf (c : M Bool) (a b : M D) : M D := c.bind fun x => if x then a else b
def eAnd (a b : M D) : M D := a.bind fun x => (M.lift (truth x)).bind fun k => if k then b else M.pure x
def eOr (a b : M D) : M D := a.bind fun x => (M.lift (truth x)).bind fun k => if k then M.pure x else b
def eNot (a : M D) : M D := a.bind fun x => (M.lift (truth x)).bind fun k => M.pure (.bl (!k))
def eChain (op op' : D → D → R D) (a b c : M D) : M D := a.bind fun x => b.bind fun y => (M.lift (op x y)).bind fun z => (M.lift (isBl z)).bind fun k =>
  if k then c.bind fun w => M.lift (op' y w) else M.pure (.bl false)

section
variable {g : Gx} {fx : Fx} {W : WX} {σ : L2.St} {H : Hp} {ca cb ea eb ec : Bool} {ma mb mc : M D} {b1 b2 : M Bool}
theorem tB_of {Q : Bool → Hp → Prop} (h : tB g fx W ea (bOf ma) σ H Q) : tTest (tE g fx W ca ea ma) σ H Q := by
  obtain ⟨F, ρ, S, h⟩ := h
  refine ⟨F, ρ, S, ?_⟩
  unfold bOf M.bind at h
  cases e1 : ma ρ with
  | bad => rw [e1] at h; exact h
  | exn c x r1 => rw [e1] at h; exact h
  | ok dx ρ1 =>
    rw [e1] at h
    intro v H1 F1 G1 S1 r1
    dsimp only [M.lift] at h
    cases dx with
    | bl b =>
      have q := r1.w
      have e : v = .bl b := by
        rcases q with q | ⟨a, _, o⟩
        · simpa only [Rep] using q
        · exact o.elim
      exact ⟨b, e, h H1 F1 G1 S1⟩
    | _ => exact h.elim
theorem tB_tr {Q : Bool → Hp → Prop} (h : tB g fx W ea (bTr ma) σ H Q) : tE g fx W ca ea ma σ H fun x H1 => ∃ k, TruV g.K x H1 k ∧ Q k H1 := by
  obtain ⟨F, ρ, S, h⟩ := h
  refine ⟨F, ρ, S, ?_⟩
  unfold bTr M.bind at h
  cases e1 : ma ρ with
  | bad => rw [e1] at h; exact h
  | exn c x r1 => rw [e1] at h; exact h
  | ok dx ρ1 =>
    rw [e1] at h
    intro v H1 F1 G1 S1 r1
    dsimp only [M.lift] at h
    cases e2 : truth dx with
    | bad => rw [e2] at h; exact h.elim
    | ok k =>
      rw [e2] at h
      exact ⟨k, truth_ok S1.s r1.w e2, h H1 F1 G1 S1⟩
theorem tB_and {Q : Bool → Hp → Prop} (h : tB g fx W (ea || eb) (bAnd b1 b2) σ H Q) : tAnd (tB g fx W ea b1) (tB g fx W eb b2) σ H Q := by
  obtain ⟨F, ρ, S, h⟩ := h
  refine ⟨F, ρ, S, ?_⟩
  unfold bAnd M.bind at h
  cases e1 : b1 ρ with
  | bad => rw [e1] at h; exact h
  | exn c x r1 => rw [e1] at h; exact h
  | ok k ρ1 =>
    rw [e1] at h
    intro H1 F1 G1 S1
    cases k with
    | false =>
      rw [if_neg (by decide)]
      refine h H1 F1 ?_ S1
      have q := G1.trans (Go.refl (eff := eb) (ρ := ρ1) S1.s)
      exact q
    | true =>
      rw [if_pos rfl]
      refine ⟨F1, ρ1, S1, ?_⟩
      dsimp only at h
      rw [if_pos rfl] at h
      cases e2 : b2 ρ1 with
      | bad => rw [e2] at h; exact h
      | exn c x r1 => rw [e2] at h; exact xst G1 h
      | ok k2 ρ2 =>
        rw [e2] at h
        intro H2 F2 G2 S2
        exact h H2 F2 (G1.trans G2) S2
theorem tB_or {Q : Bool → Hp → Prop} (h : tB g fx W (ea || eb) (bOr b1 b2) σ H Q) : tOr (tB g fx W ea b1) (tB g fx W eb b2) σ H Q := by
  obtain ⟨F, ρ, S, h⟩ := h
  refine ⟨F, ρ, S, ?_⟩
  unfold bOr M.bind at h
  cases e1 : b1 ρ with
  | bad => rw [e1] at h; exact h
  | exn c x r1 => rw [e1] at h; exact h
  | ok k ρ1 =>
    rw [e1] at h
    intro H1 F1 G1 S1
    cases k with
    | true =>
      rw [if_pos rfl]
      refine h H1 F1 ?_ S1
      have q := G1.trans (Go.refl (eff := eb) (ρ := ρ1) S1.s)
      exact q
    | false =>
      rw [if_neg (by decide)]
      refine ⟨F1, ρ1, S1, ?_⟩
      dsimp only at h
      rw [if_neg (by decide)] at h
      cases e2 : b2 ρ1 with
      | bad => rw [e2] at h; exact h
      | exn c x r1 => rw [e2] at h; exact xst G1 h
      | ok k2 ρ2 =>
        rw [e2] at h
        intro H2 F2 G2 S2
        exact h H2 F2 (G1.trans G2) S2
theorem tB_not {Q : Bool → Hp → Prop} (h : tB g fx W ea (bNot b1) σ H Q) : tNot (tB g fx W ea b1) σ H Q := by
  obtain ⟨F, ρ, S, h⟩ := h
  refine ⟨F, ρ, S, ?_⟩
  unfold bNot M.bind at h
  cases e1 : b1 ρ with
  | bad => rw [e1] at h; exact h
  | exn c x r1 => rw [e1] at h; exact h
  | ok k ρ1 => rw [e1] at h; exact h
theorem Go.le {e e' : Bool} {σ : L2.St} (h : (!e || e') = true) {F H F' H' : Hp} {ρ ρ' : Rho} (G : Go e σ F H ρ F' H' ρ') : Go e' σ F H ρ F' H' ρ' :=
  ⟨G.f, G.n, G.o, G.k, fun q => G.g (by cases e with | false => rfl | true => subst q; cases h), G.d⟩
theorem le_l {a b : Bool} : (!a || (a || b)) = true := by cases a <;> cases b <;> rfl
theorem le_r {a b : Bool} : (!b || (a || b)) = true := by cases a <;> cases b <;> rfl
theorem tE_if {Q : VK} (h : tE g fx W (ca && cb) (ec || (ea || eb)) (eIf b1 ma mb) σ H Q) : tIf (tB g fx W ec b1) (tE g fx W ca ea ma) (tE g fx W cb eb mb) σ H Q := by
  obtain ⟨F, ρ, S, h⟩ := h
  refine ⟨F, ρ, S, ?_⟩
  unfold eIf M.bind at h
  cases e1 : b1 ρ with
  | bad => rw [e1] at h; exact h
  | exn c x r1 => rw [e1] at h; exact h
  | ok k ρ1 =>
    rw [e1] at h
    intro H1 F1 G1 S1
    dsimp only at h
    cases k with
    | true =>
      rw [if_pos rfl] at h ⊢
      refine ⟨F1, ρ1, S1, ?_⟩
      cases e2 : ma ρ1 with
      | bad => rw [e2] at h; exact h
      | exn c x r1 => rw [e2] at h; exact xst G1 h
      | ok d ρ2 =>
        rw [e2] at h
        intro v H2 F2 G2 S2 r2
        exact h v H2 F2 (G1.trans (G2.le le_l)) S2 (r2.weak and_l)
    | false =>
      rw [if_neg (by decide)] at h ⊢
      refine ⟨F1, ρ1, S1, ?_⟩
      cases e2 : mb ρ1 with
      | bad => rw [e2] at h; exact h
      | exn c x r1 => rw [e2] at h; exact xst G1 h
      | ok d ρ2 =>
        rw [e2] at h
        intro v H2 F2 G2 S2 r2
        exact h v H2 F2 (G1.trans (G2.le le_r)) S2 (r2.weak and_r)
theorem tE_and {Q : VK} (h : tE g fx W (ca && cb) (ea || eb) (eAnd ma mb) σ H Q) : tAndT g.K (tE g fx W ca ea ma) (tE g fx W cb eb mb) σ H Q := by
  obtain ⟨F, ρ, S, h⟩ := h
  refine ⟨F, ρ, S, ?_⟩
  unfold eAnd M.bind at h
  cases e1 : ma ρ with
  | bad => rw [e1] at h; exact h
  | exn c x r1 => rw [e1] at h; exact h
  | ok dx ρ1 =>
    rw [e1] at h
    intro v H1 F1 G1 S1 r1
    dsimp only [M.lift] at h
    cases e2 : truth dx with
    | bad => rw [e2] at h; exact h.elim
    | ok k =>
      rw [e2] at h
      refine ⟨k, truth_ok S1.s r1.w e2, ?_⟩
      dsimp only at h
      cases k with
      | true =>
        rw [if_pos rfl] at h ⊢
        refine ⟨F1, ρ1, S1, ?_⟩
        cases e2 : mb ρ1 with
        | bad => rw [e2] at h; exact h
        | exn c x r1 => rw [e2] at h; exact xst G1 h
        | ok d ρ2 =>
          rw [e2] at h
          intro v H2 F2 G2 S2 r2
          exact h v H2 F2 (G1.trans G2) S2 (r2.weak and_r)
      | false =>
        rw [if_neg (by decide)] at h ⊢
        exact h v H1 F1 (G1.le le_l) S1 (r1.weak and_l)
theorem tE_or {Q : VK} (h : tE g fx W (ca && cb) (ea || eb) (eOr ma mb) σ H Q) : tOrT g.K (tE g fx W ca ea ma) (tE g fx W cb eb mb) σ H Q := by
  obtain ⟨F, ρ, S, h⟩ := h
  refine ⟨F, ρ, S, ?_⟩
  unfold eOr M.bind at h
  cases e1 : ma ρ with
  | bad => rw [e1] at h; exact h
  | exn c x r1 => rw [e1] at h; exact h
  | ok dx ρ1 =>
    rw [e1] at h
    intro v H1 F1 G1 S1 r1
    dsimp only [M.lift] at h
    cases e2 : truth dx with
    | bad => rw [e2] at h; exact h.elim
    | ok k =>
      rw [e2] at h
      refine ⟨k, truth_ok S1.s r1.w e2, ?_⟩
      dsimp only at h
      cases k with
      | false =>
        rw [if_neg (by decide)] at h ⊢
        refine ⟨F1, ρ1, S1, ?_⟩
        cases e2 : mb ρ1 with
        | bad => rw [e2] at h; exact h
        | exn c x r1 => rw [e2] at h; exact xst G1 h
        | ok d ρ2 =>
          rw [e2] at h
          intro v H2 F2 G2 S2 r2
          exact h v H2 F2 (G1.trans G2) S2 (r2.weak and_r)
      | true =>
        rw [if_pos rfl] at h ⊢
        exact h v H1 F1 (G1.le le_l) S1 (r1.weak and_l)
theorem tE_not {Q : VK} (h : tE g fx W true ea (eNot ma) σ H Q) : tNotT g.K (tE g fx W ca ea ma) σ H Q := by
  obtain ⟨F, ρ, S, h⟩ := h
  refine ⟨F, ρ, S, ?_⟩
  unfold eNot M.bind at h
  cases e1 : ma ρ with
  | bad => rw [e1] at h; exact h
  | exn c x r1 => rw [e1] at h; exact h
  | ok dx ρ1 =>
    rw [e1] at h
    intro v H1 F1 G1 S1 r1
    dsimp only [M.lift] at h
    cases e2 : truth dx with
    | bad => rw [e2] at h; exact h.elim
    | ok k =>
      rw [e2] at h
      exact ⟨k, truth_ok S1.s r1.w e2, h _ H1 F1 G1 S1 (by show Rep g F1 _ _; simp only [Rep])⟩
theorem tE_chain {Q : VK} {r r' : R2} {op op' : D → D → R D} (hs : Snd2 g r op) (hs' : Snd2 g r' op') (hc1 : (!eb || ca) = true) (hc2 : (!ec || cb) = true) (h : tE g fx W true (ea || (eb || ec)) (eChain op op' ma mb mc) σ H Q) :
    tChain r r' (tE g fx W ca ea ma) (tE g fx W cb eb mb) (tE g fx W true ec mc) σ H Q := by
  obtain ⟨F, ρ, S, h⟩ := h
  refine ⟨F, ρ, S, ?_⟩
  unfold eChain M.bind at h
  cases e1 : ma ρ with
  | bad => rw [e1] at h; exact h
  | exn c x r1 => rw [e1] at h; exact h
  | ok dx ρ1 =>
    rw [e1] at h
    intro v H1 F1 G1 S1 r1
    refine ⟨F1, ρ1, S1, ?_⟩
    dsimp only at h
    cases e2 : mb ρ1 with
    | bad => rw [e2] at h; exact h
    | exn c x r1 => rw [e2] at h; exact xst G1 h
    | ok dy ρ2 =>
      rw [e2] at h
      intro u H2 F2 G2 S2 r2
      dsimp only [M.lift] at h
      cases e3 : op dx dy with
      | bad => rw [e3] at h; exact h.elim
      | ok z =>
        rw [e3] at h
        refine hs F2 H2 dx dy v u z _ S2.s (r1.go G2 hc1).w r2.w e3 fun zv H3 F3 G3 r3 => ?_
        dsimp only at h
        cases z with
        | bl k =>
          have ez : zv = .bl k := by simpa only [Rep] using r3
          refine ⟨k, ez, ?_⟩
          dsimp only [isBl] at h
          have G23 : Go (ea || eb) σ F H ρ F3 H3 ρ2 := by
            have q := (G1.trans G2).trans (Go.of (eff := false) (ρ := ρ2) G3)
            rwa [Bool.or_false] at q
          cases k with
          | false =>
            rw [if_neg (by decide)] at h ⊢
            exact h _ H3 F3 (by
              have q := G23.trans (Go.refl (eff := ec) (ρ := ρ2) (S2.grow G3).s)
              rwa [Bool.or_assoc] at q) (S2.grow G3) (by show Rep g F3 _ _; simp only [Rep])
          | true =>
            rw [if_pos rfl] at h ⊢
            refine ⟨F3, ρ2, S2.grow G3, ?_⟩
            cases e4 : mc ρ2 with
            | bad => rw [e4] at h; exact h
            | exn c x r1 => rw [e4] at h; exact xst G23 h
            | ok dw ρ4 =>
              rw [e4] at h
              intro w H4 F4 G4 S4 r4
              dsimp only at h
              cases e5 : op' dy dw with
              | bad => rw [e5] at h; exact h.elim
              | ok d =>
                rw [e5] at h
                refine hs' F4 H4 dy dw u w d Q S4.s ((r2.grow G3).go G4 hc2).w r4.w e5 fun q H5 F5 G5 r5 => ?_
                exact h q H5 F5 (by
                  have q := (G23.trans G4).trans (Go.of (eff := false) (ρ := ρ4) G5)
                  rwa [Bool.or_false, Bool.or_assoc] at q) (S4.grow G5) r5
        | _ => exact h.elim
end

section
variable {X : Cx} {fx : Fx} {W : WX} {ca cb cc ea eb ec : Bool} {a b c : Expr} {ma mb mc : M D} {b1 b2 : M Bool} {pos : Pos} {rest : List Expr}
theorem sb_cmp {o : CmpOp} {r : R2} {op : D → D → R D} (ho : OpR X (compareOp o) r) (hs : Snd2 (gx X) r op) (ha : SE X fx W ca ea a ma) (hb : SE X fx W cb eb b mb) (hm : behindInMarks o b = false := by rfl) (hc : (!eb || ca) = true := by rfl) :
    SB X fx W (ea || eb) (.Compare a [o] [b] pos) (bOf (e2 op ma mb)) :=
  PT.imp (pt_cmpR ho ha hb hm) fun σ H Q h => by
    have q : tTest (tE (gx X) fx W true (ea || eb) (e2 op ma mb)) σ H Q := tB_of h
    exact tE_e2 hs hc q
theorem se_chain {o o' : CmpOp} {r r' : R2} {op op' : D → D → R D} (ho : OpR X (compareOp o) r) (hs : Snd2 (gx X) r op) (ho' : OpR X (compareOp o') r') (hs' : Snd2 (gx X) r' op') (ha : SE X fx W ca ea a ma) (hb : SE X fx W cb eb b mb) (hd : SE X fx W true ec c mc)
    (hm : lastMarks [o, o'] [b, c] = false := by rfl) (hc1 : (!eb || ca) = true := by rfl) (hc2 : (!ec || cb) = true := by rfl) :
    SE X fx W true (ea || (eb || ec)) (.Compare a [o, o'] [b, c] pos) (eChain op op' ma mb mc) := PE.imp (pe_chain ho ho' ha hb hd hm) fun σ H Q h => tE_chain hs hs' hc1 hc2 h
theorem sb_chain {o o' : CmpOp} {r r' : R2} {op op' : D → D → R D} (ho : OpR X (compareOp o) r) (hs : Snd2 (gx X) r op) (ho' : OpR X (compareOp o') r') (hs' : Snd2 (gx X) r' op') (ha : SE X fx W ca ea a ma) (hb : SE X fx W cb eb b mb) (hd : SE X fx W true ec c mc)
    (hm : lastMarks [o, o'] [b, c] = false := by rfl) (hc1 : (!eb || ca) = true := by rfl) (hc2 : (!ec || cb) = true := by rfl) :
    SB X fx W (ea || (eb || ec)) (.Compare a [o, o'] [b, c] pos) (bOf (eChain op op' ma mb mc)) := PT.imp (pt_chain ho ho' ha hb hd hm) fun σ H Q h => by
    have q : tTest (tE (gx X) fx W true (ea || (eb || ec)) (eChain op op' ma mb mc)) σ H Q := tB_of h
    exact tE_chain hs hs' hc1 hc2 q
/-- any expression as a test -/
theorem sb_tr (ha : SE X fx W ca ea a ma) (he : ∀ whole, isTrue a X.env whole = (do let v ← whole; standAt a.pos; holding [v] (truthy v)) := by intro _; rfl) : SB X fx W ea a (bTr ma) :=
  PT.imp (pt_truth ha he) fun σ H Q h => tB_tr h
def SW (X : Cx) (fx : Fx) (W : WX) (eff : Bool) (e : Expr) (m : M Bool) : Prop := PW X e (tB (gx X) fx W eff m)
theorem SW.sb (h : SW X fx W ea a b1) : SB X fx W ea a b1 := PW.pt h
theorem sw_and1 (ha : SB X fx W ea a b1) : SW X fx W ea (.BoolOp .And [a] pos) b1 := pw_and1 ha
theorem sw_or1 (ha : SB X fx W ea a b1) : SW X fx W ea (.BoolOp .Or [a] pos) b1 := pw_or1 ha
theorem sw_and (ha : SB X fx W ea a b1) (hb : SW X fx W eb (.BoolOp .And (b :: rest) pos) b2) : SW X fx W (ea || eb) (.BoolOp .And (a :: b :: rest) pos) (bAnd b1 b2) := PW.imp (pw_and ha hb) fun σ H Q h => tB_and h
theorem sw_or (ha : SB X fx W ea a b1) (hb : SW X fx W eb (.BoolOp .Or (b :: rest) pos) b2) : SW X fx W (ea || eb) (.BoolOp .Or (a :: b :: rest) pos) (bOr b1 b2) := PW.imp (pw_or ha hb) fun σ H Q h => tB_or h
theorem sb_not (ha : SB X fx W ea a b1) : SB X fx W ea (.UnaryOp .Not a pos) (bNot b1) := PT.imp (pt_not ha) fun σ H Q h => tB_not h
theorem se_if (hc : SB X fx W ec c b1) (ha : SE X fx W ca ea a ma) (hb : SE X fx W cb eb b mb) : SE X fx W (ca && cb) (ec || (ea || eb)) (.IfExp c a b pos) (eIf b1 ma mb) := PE.imp (pe_ifExp hc ha hb) fun σ H Q h => tE_if h
theorem se_one {o : BoolOp} (ha : SE X fx W ca ea a ma) : SE X fx W ca ea (.BoolOp o [a] pos) ma := pe_one ha
theorem se_and (ha : SE X fx W ca ea a ma) (hb : SE X fx W cb eb (.BoolOp .And (b :: rest) pos) mb) : SE X fx W (ca && cb) (ea || eb) (.BoolOp .And (a :: b :: rest) pos) (eAnd ma mb) := PE.imp (pe_andT ha hb) fun σ H Q h => tE_and h
theorem se_or (ha : SE X fx W ca ea a ma) (hb : SE X fx W cb eb (.BoolOp .Or (b :: rest) pos) mb) : SE X fx W (ca && cb) (ea || eb) (.BoolOp .Or (a :: b :: rest) pos) (eOr ma mb) := PE.imp (pe_orT ha hb) fun σ H Q h => tE_or h
theorem se_not (ha : SE X fx W ca ea a ma) : SE X fx W true ea (.UnaryOp .Not a pos) (eNot ma) := PE.imp (pe_notT ha) fun σ H Q h => tE_not h
end
end DL

set_option Elab.async false
set_option linter.all false
set_option maxRecDepth 100000
set_option maxHeartbeats 4000000
namespace DL
open PySem L2

/-! ### displays -/
def mkLst (xs : List D) : R D := if xs.length ≤ 16777216 then .ok (.lst xs) else .bad
def mkTup (xs : List D) : R D := if xs.length ≤ 16777216 then .ok (.tup xs) else .bad
section
variable {g : Gx} {fx : Fx} {W : WX} {σ : L2.St} {H : Hp} {ea : Bool} {m : M (List D)}
theorem new_lst {F H : Hp} {xs : List D} {vs : List V} {Q : VK} (s : Sub F H) (r : RepL g F xs vs) (h : Gives g F H (.lst xs) Q) {p : Addr} (hp : H p = none) : Q (.ref p) (upd H p (.lst vs)) :=
  h _ _ _ (Grow.new s hp) (by simp only [Rep]; exact ⟨p, vs, rfl, upd_same, RepL.mono (Grow.new s hp).f r⟩)
theorem new_tup {F H : Hp} {xs : List D} {vs : List V} {Q : VK} (s : Sub F H) (r : RepL g F xs vs) (h : Gives g F H (.tup xs) Q) {p : Addr} (hp : H p = none) : Q (.ref p) (upd H p (.tup vs)) :=
  h _ _ _ (Grow.new s hp) (by simp only [Rep]; exact ⟨p, vs, rfl, SqT.of upd_same, RepL.mono (Grow.new s hp).f r⟩)
theorem tE_lst {Q : VK} (h : tE g fx W true ea (eN mkLst m) σ H Q) : tLst (tA g fx W true ea m) σ H Q := by
  obtain ⟨F, ρ, S, h⟩ := h
  refine ⟨F, ρ, S, ?_⟩
  unfold eN M.bind at h
  cases e1 : m ρ with
  | bad => rw [e1] at h; exact h
  | exn c x r1 => rw [e1] at h; exact h
  | ok ds ρ1 =>
    rw [e1] at h
    intro vs H1 F1 G1 S1 r1
    dsimp only [M.lift, mkLst] at h
    by_cases q : ds.length ≤ 16777216
    · rw [if_pos q] at h
      refine ⟨by rw [r1.length, sizeLine_eq]; exact q, fun p hp => new_lst S1.s r1.rep (fun v H2 F2 G2 r2 => ?_) hp⟩
      exact h v H2 F2 (by
        have q := G1.trans (Go.of (eff := false) (ρ := ρ1) G2)
        rwa [Bool.or_false] at q) (S1.grow G2) r2
    · rw [if_neg q] at h; exact h.elim
theorem tE_tup {Q : VK} (h : tE g fx W true ea (eN mkTup m) σ H Q) : tTup (tA g fx W true ea m) σ H Q := by
  obtain ⟨F, ρ, S, h⟩ := h
  refine ⟨F, ρ, S, ?_⟩
  unfold eN M.bind at h
  cases e1 : m ρ with
  | bad => rw [e1] at h; exact h
  | exn c x r1 => rw [e1] at h; exact h
  | ok ds ρ1 =>
    rw [e1] at h
    intro vs H1 F1 G1 S1 r1
    dsimp only [M.lift, mkTup] at h
    by_cases q : ds.length ≤ 16777216
    · rw [if_pos q] at h
      refine ⟨by rw [r1.length, sizeLine_eq]; exact q, fun p hp => new_tup S1.s r1.rep (fun v H2 F2 G2 r2 => ?_) hp⟩
      exact h v H2 F2 (by
        have q := G1.trans (Go.of (eff := false) (ρ := ρ1) G2)
        rwa [Bool.or_false] at q) (S1.grow G2) r2
    · rw [if_neg q] at h; exact h.elim
/-- behind it a thing may be locked for good -/
def tPLock (t : TE) : TE := fun σ H Q => t σ H fun v H1 => Q v H1 ∨ ∃ d u, H1 d = some u ∧ Mut (some u) ∧ ∀ od, Q v (upd H1 d (.frz od u))
theorem pe_plock {X : Cx} {e : Expr} {t : TE} (h : PE X e t) : PE X e (tPLock t) := by
  refine ⟨fun pins s σ H Q I hw => ?_⟩
  refine thn (h.run pins s σ H _ I hw) fun v s1 ⟨x, H1, I1, r, q⟩ => ?_
  rcases q with q | ⟨d, u, hd, mu, q⟩
  · exact ⟨x, H1, I1, r, q⟩
  · obtain ⟨od, I2⟩ := I1.lock hd mu
    exact ⟨x, _, I2, r, q od⟩
theorem tE_dnew {Q : VK} (h : tE g fx W true false (eC (.dic [])) σ H Q) : tPLock tDNewK σ H Q := by
  obtain ⟨F, ρ, S, h⟩ := h
  intro p hp
  refine .inr ⟨p, .dK [], upd_same, trivial, fun od => ?_⟩
  rw [upd_upd]
  refine h _ _ (upd F p (.frz od (.dK []))) (Go.of (Grow.new S.s hp)) (S.grow (Grow.new S.s hp)) ?_
  show Rep g _ _ _
  simp only [Rep]
  exact ⟨p, [], rfl, ⟨od, upd_same⟩, by simp only [RepK]⟩
end

/-! ### slices -/
/-- a part of a slice: a number, or nothing -/
def toPart : D → R (Option Int)
  | .int i => .ok (some i)
  | _ => .bad
def pNo : M (Option Int) := M.pure none
def pAt (m : M D) : M (Option Int) := m.bind fun d => M.lift (toPart d)
def cutL {α : Type} (xs : List α) (lo hi : Option Int) : List α := (xs.drop (HT.sIx xs.length 0 lo)).take (HT.sIx xs.length xs.length hi - HT.sIx xs.length 0 lo)
def cutD : D → Option Int → Option Int → R D
  | .str s, lo, hi => if s.length ≤ 16777216 then .ok (.str (cutS s lo hi)) else .bad
  | .lst xs, lo, hi => .ok (.lst (cutL xs lo hi))
  | .ros xs, lo, hi => .ok (.lst (cutL xs lo hi))
  | .tup xs, lo, hi => .ok (.tup (cutL xs lo hi))
  | _, _, _ => .bad
def eCut (a : M D) (lo hi : M (Option Int)) : M D := a.bind fun x => lo.bind fun l => hi.bind fun h => M.lift (cutD x l h)
def tP (g : Gx) (fx : Fx) (W : WX) (eff : Bool) (m : M (Option Int)) : TO := fun σ H Q => ∃ F ρ, ST g fx σ H F ρ ∧ match m ρ with
  | .ok o ρ' => ∀ H' F', Go eff σ F H ρ F' H' ρ' → ST g fx σ H' F' ρ' → Q o H'
  | .exn c x ρ' => ∀ cls dd H' F', Go true σ F H ρ F' H' ρ' → ST g fx σ H' F' ρ' → XR g F' c x cls dd → W cls dd σ H'
  | .bad => False
def SP (X : Cx) (fx : Fx) (W : WX) (eff : Bool) (e : Option Expr) (m : M (Option Int)) : Prop := PO X e (tP (gx X) fx W eff m)
theorem PO.imp {X : Cx} {e : Option Expr} {t u : TO} (h : PO X e t) (k : ∀ σ H Q, u σ H Q → t σ H Q) : PO X e u := ⟨fun pins s σ H Q I q => h.run pins s σ H Q I (k σ H Q q)⟩
section
variable {g : Gx} {fx : Fx} {W : WX} {σ : L2.St} {H : Hp} {ca ea el eh : Bool} {ma : M D} {ml mh : M (Option Int)}
theorem tP_no {Q : Option Int → Hp → Prop} (h : tP g fx W false pNo σ H Q) : tNoPart σ H Q := by
  obtain ⟨F, ρ, S, h⟩ := h
  exact h H F (Go.refl S.s) S
theorem tP_at {Q : Option Int → Hp → Prop} (h : tP g fx W ea (pAt ma) σ H Q) : tPart (tE g fx W ca ea ma) σ H Q := by
  obtain ⟨F, ρ, S, h⟩ := h
  refine ⟨F, ρ, S, ?_⟩
  unfold pAt M.bind at h
  cases e1 : ma ρ with
  | bad => rw [e1] at h; exact h
  | exn c x r1 => rw [e1] at h; exact h
  | ok dx ρ1 =>
    rw [e1] at h
    intro v H1 F1 G1 S1 r1
    cases dx with
    | int i =>
      have e : v = .int i := by
        rcases r1.w with q | ⟨a, _, o⟩
        · simpa only [Rep] using q
        · exact o.elim
      exact ⟨i, e, h H1 F1 G1 S1⟩
    | _ => exact h.elim
def rCut (K : PySem.W.Frag) : V → Option Int → Option Int → Hp → VK → Prop := fun x lo hi H Q => rSlS x lo hi H Q ∨ rSlL K x lo hi H Q ∨ rSlA K x lo hi H Q
theorem sl_cut {X : Cx} : SlR X (rCut X.K) := SlR.or sl_str (SlR.or sl_list sl_tupA)
theorem RepL.cut {F : Hp} {xs : List D} {vs : List V} (r : RepL g F xs vs) (lo hi : Option Int) : RepL g F (cutL xs lo hi) (cutV vs lo hi) := by
  unfold cutL cutV
  rw [r.length]
  exact RepL.take _ (RepL.drop _ r)
theorem cut_ok {F H : Hp} {x d : D} {v : V} {lo hi : Option Int} {Q : VK} (s : Sub F H) (r : WRep g F H x v) (h : cutD x lo hi = .ok d) (k : Gives g F H d Q) : rCut g.K v lo hi H Q := by
  have lst : ∀ {a : Addr} {vs : List V} {xs : List D}, SqL g.K H a vs → RepL g F xs vs → d = .lst (cutL xs lo hi) → rCut g.K (.ref a) lo hi H Q := fun {a vs xs} e l ed => by
    subst ed
    exact .inr (.inl ⟨a, vs, rfl, e, fun p hp => new_lst s (l.cut lo hi) k hp⟩)
  rcases r with r | ⟨a, rfl, o⟩
  · cases x with
    | str z =>
      simp only [Rep] at r
      subst r
      dsimp only [cutD] at h
      by_cases q : z.length ≤ 16777216
      · rw [if_pos q] at h
        cases h
        exact .inl ⟨z, rfl, by rw [sizeLine_eq]; exact q, k _ _ _ (Grow.refl s) (by simp only [Rep])⟩
      · rw [if_neg q] at h; cases h
    | lst xs =>
      simp only [Rep] at r
      obtain ⟨a, vs, rfl, e, l⟩ := r
      cases h
      exact lst (SqL.of (s _ _ e)) l rfl
    | ros xs =>
      simp only [Rep] at r
      obtain ⟨a, vs, rfl, e, l⟩ := r
      cases h
      exact lst (sqL_mono s e) l rfl
    | tup xs =>
      simp only [Rep] at r
      obtain ⟨a, vs, rfl, e, l⟩ := r
      cases h
      refine .inr (.inr ⟨a, vs, rfl, sqT_mono s e, fun hw => ?_, fun _ p hp => new_tup s (l.cut lo hi) k hp⟩)
      refine k _ _ _ (Grow.refl s) ?_
      simp only [Rep]
      refine ⟨a, vs, rfl, e, ?_⟩
      have e2 : cutL xs lo hi = xs := by
        have el := l.length
        unfold cutL
        rw [← el, hw.1, hw.2, el]
        simp
      rw [e2]
      exact l
    | _ => cases h
  · cases x with
    | lst xs =>
      obtain ⟨vs, e, l⟩ := o
      cases h
      exact lst (SqL.of e) l rfl
    | _ => first | exact o.elim | cases h
theorem tE_cut {Q : VK} (hc1 : (!el || ca) = true) (hc2 : (!eh || ca) = true) (h : tE g fx W true (ea || (el || eh)) (eCut ma ml mh) σ H Q) : tSl (rCut g.K) (tE g fx W ca ea ma) (tP g fx W el ml) (tP g fx W eh mh) σ H Q := by
  obtain ⟨F, ρ, S, h⟩ := h
  refine ⟨F, ρ, S, ?_⟩
  unfold eCut M.bind at h
  cases e1 : ma ρ with
  | bad => rw [e1] at h; exact h
  | exn c x r1 => rw [e1] at h; exact h
  | ok dx ρ1 =>
    rw [e1] at h
    intro v H1 F1 G1 S1 r1
    refine ⟨F1, ρ1, S1, ?_⟩
    dsimp only at h
    cases e2 : ml ρ1 with
    | bad => rw [e2] at h; exact h
    | exn c x r1 => rw [e2] at h; exact xst G1 h
    | ok lo ρ2 =>
      rw [e2] at h
      intro H2 F2 G2 S2
      refine ⟨F2, ρ2, S2, ?_⟩
      dsimp only at h
      cases e3 : mh ρ2 with
      | bad => rw [e3] at h; exact h
      | exn c x r1 => rw [e3] at h; exact xst (G1.trans G2) h
      | ok hi ρ3 =>
        rw [e3] at h
        intro H3 F3 G3 S3
        dsimp only [M.lift] at h
        cases e4 : cutD dx lo hi with
        | bad => rw [e4] at h; exact h.elim
        | ok d =>
          rw [e4] at h
          refine cut_ok S3.s ((r1.go G2 hc1).go G3 hc2).w e4 fun u H4 F4 G4 r4 => ?_
          exact h u H4 F4 (by
            have q := ((G1.trans G2).trans G3).trans (Go.of (eff := false) (ρ := ρ3) G4)
            rwa [Bool.or_false, Bool.or_assoc] at q) (S3.grow G4) r4
end
section
variable {X : Cx} {fx : Fx} {W : WX} {ca ea el eh : Bool} {a : Expr} {ma : M D} {m : M (List D)} {ml mh : M (Option Int)} {pos p2 : Pos} {es : List Expr} {lo hi : Option Expr}
theorem se_lst (h : SA X fx W true ea es m) : SE X fx W true ea (.List es pos) (eN mkLst m) := PE.imp (pe_lst h) fun σ H Q q => tE_lst q
theorem se_tup {x1 : Nat} (h : SA X fx W true ea es m) : SE X fx W true ea (.Tuple es x1 pos) (eN mkTup m) := PE.imp (pe_tup h) fun σ H Q q => tE_tup q
theorem se_dnew : SE X fx W true false (.Dict [] [] pos) (eC (.dic [])) := PE.imp (pe_plock pe_dnewK) fun σ H Q q => tE_dnew q
theorem sp_no : SP X fx W false none pNo := PO.imp po_none fun σ H Q q => tP_no q
theorem sp_at (h : SE X fx W ca ea a ma) : SP X fx W ea (some a) (pAt ma) := PO.imp (po_some h) fun σ H Q q => tP_at q
theorem se_cut (ha : SE X fx W ca ea a ma) (hl : SP X fx W el lo ml) (hh : SP X fx W eh hi mh) (hc1 : (!el || ca) = true := by rfl) (hc2 : (!eh || ca) = true := by rfl) :
    SE X fx W true (ea || (el || eh)) (.Subscript a (.Slice lo hi none p2) pos) (eCut ma ml mh) := PE.imp (pe_slice sl_cut ha hl hh) fun σ H Q q => tE_cut hc1 hc2 q
end
end DL

set_option Elab.async false
set_option linter.all false
set_option maxRecDepth 100000
set_option maxHeartbeats 4000000
namespace DL
open PySem PySem.Spec PyProof.Rows L2

/-! ### what is walked -/
/-- the walk J gives the data ds -/
structure ItRep (g : Gx) (J : It) (ds : List D) (F : Hp) : Prop where
  go : ∀ (i : Nat) H' F', Sub F F' → Sub F' H' → i < ds.length → J.go i H'
  yld : ∀ (i : Nat) H' F' x H'' d, Sub F F' → Sub F' H' → ds[i]? = some d → J.yld i H' x H'' → ∃ F'', Grow F' H' F'' H'' ∧ Rep g F'' d x
  stop : ∀ (i : Nat) H' F', Sub F F' → Sub F' H' → ds.length ≤ i → J.stop i H'
  len : ds.length ≤ 16777216
def tI (g : Gx) (fx : Fx) (W : WX) (eff : Bool) (m : M (List D)) : TI := fun σ H R => ∃ F ρ, ST g fx σ H F ρ ∧ match m ρ with
  | .ok ds ρ' => ∀ J H' F', Go eff σ F H ρ F' H' ρ' → ST g fx σ H' F' ρ' → ItRep g J ds F' → R J H'
  | .exn c x ρ' => ∀ cls dd H' F', Go true σ F H ρ F' H' ρ' → ST g fx σ H' F' ρ' → XR g F' c x cls dd → W cls dd σ H'
  | .bad => False
def SI (X : Cx) (fx : Fx) (W : WX) (eff : Bool) (tg e : Expr) (m : M (List D)) : Prop := PI X tg e (tI (gx X) fx W eff m)
theorem PI.imp {X : Cx} {tg e : Expr} {t u : TI} (h : PI X tg e t) (k : ∀ σ H R, u σ H R → t σ H R) : PI X tg e u := ⟨fun pins s σ H R I q => h.run pins s σ H R I (k σ H R q)⟩

/-- a key of a dict -/
def keyD : Key → D
  | .inl i => .int i
  | .inr x => .str x
def strItems (s : Str) : List D := s.cps.toList.map fun c => .str ⟨#[c]⟩
def items : D → R (List D)
  | .lst xs => .ok xs
  | .ros xs => .ok xs
  | .tup xs => .ok xs
  | .str s => if s.length ≤ 16777216 then .ok (strItems s) else .bad
  | .dic kvs => .ok (kvs.map fun p => keyD p.1)
  | _ => .bad
def iSeq (a : M D) : M (List D) := a.bind fun x => M.lift (items x)
section
variable {g : Gx} {F : Hp}
theorem itl_rep {a : Addr} {xs : List D} {vs : List V} (h : SqL g.K F a vs) (r : RepL g F xs vs) (hl : xs.length ≤ 16777216) (uniq : ∀ F', Sub F F' → ∀ ws, SqL g.K F' a ws → ws = vs) : ItRep g (Itl g.K a) xs F where
  go := fun i H' F' f s hi => by
    have q : SqL g.K H' a vs := sqL_mono (f.trans s) h
    obtain ⟨v, e, _⟩ := r.get (d := xs[i]) (List.getElem?_eq_getElem hi)
    exact ⟨vs, v, q, e⟩
  yld := fun i H' F' x H'' d f s e y => by
    obtain ⟨rfl, y⟩ := y
    obtain ⟨v, e1, r1⟩ := r.get e
    have e2 := y vs (sqL_mono (f.trans s) h)
    rw [e1] at e2
    cases e2
    exact ⟨F', Grow.refl s, r1.mono f⟩
  stop := fun i H' F' f s hi => ⟨vs, sqL_mono (f.trans s) h, by rw [r.length]; exact hi⟩
  len := hl
theorem itt_rep {a : Addr} {xs : List D} {vs : List V} (h : SqT g.K F a vs) (r : RepL g F xs vs) (hl : xs.length ≤ 16777216) : ItRep g (Itt g.K a) xs F where
  go := fun i H' F' f s hi => by
    have q : SqT g.K H' a vs := sqT_mono (f.trans s) h
    obtain ⟨v, e, _⟩ := r.get (d := xs[i]) (List.getElem?_eq_getElem hi)
    exact ⟨vs, v, q, e⟩
  yld := fun i H' F' x H'' d f s e y => by
    obtain ⟨rfl, y⟩ := y
    obtain ⟨v, e1, r1⟩ := r.get e
    have e2 := y vs (sqT_mono (f.trans s) h)
    rw [e1] at e2
    cases e2
    exact ⟨F', Grow.refl s, r1.mono f⟩
  stop := fun i H' F' f s hi => ⟨vs, sqT_mono (f.trans s) h, by rw [r.length]; exact hi⟩
  len := hl
theorem keyD_rep {k : Key} : Rep g F (keyD k) (kV k) := by
  cases k with
  | inl i => show Rep g F (.int i) (.int i); simp only [Rep]
  | inr x => show Rep g F (.str x) (.str x); simp only [Rep]
theorem RepK.get : ∀ {xs : List (Key × D)} {vs : List (Key × V)} {i : Nat} {k : Key} {d : D}, RepK g F xs vs → xs[i]? = some (k, d) → ∃ v, vs[i]? = some (k, v) ∧ Rep g F d v
  | [], vs, i, k, d, h, e => by simp at e
  | (k0, x) :: xs, vs, 0, k, d, h, e => by
    simp only [RepK] at h
    obtain ⟨v, r, rfl, h1, h2⟩ := h
    simp at e
    obtain ⟨rfl, rfl⟩ := e
    exact ⟨v, rfl, h1⟩
  | (k0, x) :: xs, vs, i + 1, k, d, h, e => by
    simp only [RepK] at h
    obtain ⟨v, r, rfl, h1, h2⟩ := h
    obtain ⟨w, e1, r1⟩ := RepK.get (i := i) (d := d) h2 (by simpa using e)
    exact ⟨w, by simpa using e1, r1⟩
theorem RepK.length : ∀ {xs : List (Key × D)} {vs : List (Key × V)}, RepK g F xs vs → vs.length = xs.length
  | [], vs, h => by simp only [RepK] at h; simp [h]
  | (k, x) :: xs, vs, h => by
    simp only [RepK] at h
    obtain ⟨v, r, rfl, _, h2⟩ := h
    simp [RepK.length h2]
theorem itk_rep {a : Addr} {o : Obj} {kvs : List (Key × D)} {vs : List (Key × V)} (h : F a = some (.frz o (.dK vs))) (r : RepK g F kvs vs) (hl : vs.length ≤ 16777216) : ItRep g (Itk a o vs) (kvs.map fun p => keyD p.1) F where
  go := fun i H' F' f s hi => ⟨s _ _ (f _ _ h), by rw [r.length]; simpa using hi⟩
  yld := fun i H' F' x H'' d f s e y => by
    obtain ⟨rfl, k, v, hk, rfl⟩ := y
    rw [List.getElem?_map] at e
    cases q : kvs[i]? with
    | none => rw [q] at e; cases e
    | some p =>
      rw [q] at e
      cases e
      obtain ⟨w, hw, _⟩ := r.get (k := p.1) (d := p.2) q
      rw [hk] at hw
      cases hw
      exact ⟨F', Grow.refl s, keyD_rep⟩
  stop := fun i H' F' f s hi => ⟨s _ _ (f _ _ h), by rw [r.length]; simpa using hi⟩
  len := by
    have := r.length
    simp
    omega
theorem its_rep {z : Str} (hl : z.length ≤ 16777216) : ItRep g (Its z) (strItems z) F where
  go := fun i H' F' f s hi => by
    have : i < z.cps.size := by simpa [strItems] using hi
    exact this
  yld := fun i H' F' x H'' d f s e y => by
    obtain ⟨rfl, c, e1, rfl⟩ := y
    refine ⟨F', Grow.refl s, ?_⟩
    have e2 : d = .str ⟨#[c]⟩ := by
      unfold strItems at e
      rw [List.getElem?_map] at e
      rw [Array.getElem?_toList, e1] at e
      exact (Option.some.inj e).symm
    subst e2
    simp only [Rep]
  stop := fun i H' F' f s hi => by
    have : z.cps.size ≤ i := by simpa [strItems] using hi
    exact this
  len := by
    have : z.cps.size ≤ 16777216 := hl
    simpa [strItems] using this
end

section
variable {X : Cx} {fx : Fx} {W : WX} {ea : Bool} {tg e : Expr} {m : M D}
/-- a list, a tuple, a text, whichever it is -/
theorem si_seq (he : SE X fx W true ea e m) : SI X fx W ea tg e (iSeq m) := by
  refine ⟨fun pins s σ H R I h => ?_⟩
  obtain ⟨F, ρ, S, h⟩ := h
  unfold iSeq M.bind at h
  refine thn (he.run pins s σ H (fun v H1 => ∃ F1 ρ1 d ds, m ρ = .ok d ρ1 ∧ items d = .ok ds ∧ Go ea σ F H ρ F1 H1 ρ1 ∧ ST (gx X) fx σ H1 F1 ρ1 ∧ Rep (gx X) F1 d v) I ⟨F, ρ, S, ?_⟩) fun u s1 ⟨v, H1, I1, rv, F1, ρ1, d, ds, e1, e2, G1, S1, r1⟩ => ?_
  · cases e1 : m ρ with
    | bad => rw [e1] at h; exact h
    | exn c x r1 => rw [e1] at h; exact h
    | ok d ρ1 =>
      rw [e1] at h
      intro v H1 F1 G1 S1 r1
      dsimp only [M.lift] at h
      cases e2 : items d with
      | bad => rw [e2] at h; exact h.elim
      | ok ds => exact ⟨F1, ρ1, d, ds, rfl, e2, G1, S1, r1⟩
  · rw [e1] at h
    dsimp only [M.lift] at h
    rw [e2] at h
    have fin : ∀ {J : It}, ItRep (gx X) J ds F1 → R J H1 := fun j => h _ H1 F1 G1 S1 j
    have lst : ∀ {a : Addr} {vs : List V}, v = .ref a → SqL X.K F1 a vs → RepL (gx X) F1 ds vs → wpAny (model X.prog X.w) X.A (pyIter u) (PIE X pins σ tg R) X.xe s1 := fun {a vs} ev hq l => by
      subst ev
      cases rv
      have hH := sqL_mono S1.s hq
      obtain ⟨its, rr, p, hz⟩ := I1.list hH
      refine wpAny_pyIter_list p.isList ?_
      refine ⟨s1.heap.objs.size, [s1.heap.objs.size], _, _, H1, rfl, I1.kept (t' := s1.toks) fun b o e => Heap.get?_push_of_some _ e, turn_list a _, ⟨_, Heap.get?_push_size _ rfl, rfl, rfl⟩, fun b hb => ?_, fin ?_⟩
      · have e : b = s1.heap.objs.size := by simpa using hb
        subst e
        exact I1.fpOk (Nat.le_refl _) (I1.hok.fresh (Nat.le_refl _))
      · refine ⟨fun i H' F' f s hi => ?_, fun i H' F' x H'' d f s e y => ?_, fun i H' F' f s hi => ⟨vs, sqL_mono (f.trans s) hq, by rw [l.length]; exact hi⟩, by rw [← l.length, ← sizeLine_eq]; exact hz⟩
        · obtain ⟨v, e, _⟩ := l.get (d := ds[i]) (List.getElem?_eq_getElem hi)
          exact ⟨vs, v, sqL_mono (f.trans s) hq, e⟩
        · obtain ⟨rfl, y⟩ := y
          obtain ⟨v, e1, r1⟩ := l.get e
          have e2 := y vs (sqL_mono (f.trans s) hq)
          rw [e1] at e2
          cases e2
          exact ⟨F', Grow.refl s, r1.mono f⟩
    cases d with
    | lst xs =>
      simp only [Rep] at r1
      obtain ⟨a, vs, ev, ea, l⟩ := r1
      cases e2
      exact lst ev (SqL.of ea) l
    | ros xs =>
      simp only [Rep] at r1
      obtain ⟨a, vs, ev, ea, l⟩ := r1
      cases e2
      exact lst ev ea l
    | tup xs =>
      simp only [Rep] at r1
      obtain ⟨a, vs, rfl, hq, l⟩ := r1
      cases e2
      cases rv
      have hH := sqT_mono S1.s hq
      obtain ⟨its, rr, p, hz⟩ := I1.tuple hH
      refine wpAny_pyIter_tuple (show s1.heap.IsTuple a its.toArray from p) ?_
      refine ⟨s1.heap.objs.size, [s1.heap.objs.size], _, _, H1, rfl, I1.kept (t' := s1.toks) fun b o e => Heap.get?_push_of_some _ e, turn_tuple a _, ⟨_, Heap.get?_push_size _ rfl, rfl, rfl⟩, fun b hb => ?_, fin (itt_rep hq l (by rw [← l.length, ← sizeLine_eq]; exact hz))⟩
      have e : b = s1.heap.objs.size := by simpa using hb
      subst e
      exact I1.fpOk (Nat.le_refl _) (I1.hok.fresh (Nat.le_refl _))
    | str z =>
      simp only [Rep] at r1
      subst r1
      dsimp only [items] at e2
      by_cases q : z.length ≤ 16777216
      · rw [if_pos q] at e2
        cases e2
        obtain ⟨t, rfl⟩ := rv
        cases ha : z.cps.all (· < 128)
        · exact wpAny_pyIter_wide ha (pi_one (tk := s1.toks) I1 _ (turn_str _ z t "str_iterator" (.inr rfl)) ⟨_, Heap.get?_push_size _ rfl, rfl, rfl⟩ (fin (its_rep q)))
        · exact wpAny_pyIter_ascii ha (pi_one (tk := s1.toks) I1 _ (turn_str _ z t "str_ascii_iterator" (.inl rfl)) ⟨_, Heap.get?_push_size _ rfl, rfl, rfl⟩ (fin (its_rep q)))
      · rw [if_neg q] at e2; cases e2
    | dic kvs =>
      simp only [Rep] at r1
      obtain ⟨a, vs, rfl, ⟨o, ha⟩, l⟩ := r1
      cases e2
      cases rv
      have hH := S1.s _ _ ha
      obtain ⟨hs, hgd, hx, es, ep, ws, hdt, hsz, kv, hm⟩ := I1.frzK hH
      have hz := (dk_rd I1.hok (.inr ⟨o, hH⟩)).1
      refine iter_keys hs hgd hx hdt (pi_one (tk := s1.toks) I1 _ (turn_keys _ hdt) ⟨_, Heap.get?_push_size _ rfl, rfl, ?_⟩ (fin (itk_rep ha l (by rw [← sizeLine_eq]; exact hz))))
      rw [hsz] <;> rfl
    | _ => cases e2
end

/-- lo, lo + 1, .. -/
def upFrom (lo : Int) (n : Nat) : List D := (List.range n).map fun i => .int (lo + (i : Nat))
def toRange : List D → R (List D)
  | [.int j] => if j ≤ 16777216 ∧ -(2 ^ 62) ≤ j then .ok (upFrom 0 j.toNat) else .bad
  | [.int i, .int j] => if (j - i ≤ 16777216 ∧ -(2 ^ 62) ≤ i ∧ i < 2 ^ 62) ∧ -(2 ^ 62) ≤ j ∧ j < 2 ^ 62 then .ok (upFrom i (j - i).toNat) else .bad
  | _ => .bad
def iRange (a : M (List D)) : M (List D) := a.bind fun xs => M.lift (toRange xs)
theorem itr_rep {g : Gx} {F : Hp} {lo : Int} {n : Nat} (h : n ≤ 16777216) : ItRep g (Itr lo n) (upFrom lo n) F where
  go := fun i H' F' f s hi => by
    have : i < n := by simpa [upFrom] using hi
    exact this
  yld := fun i H' F' x H'' d f s e y => by
    obtain ⟨rfl, rfl⟩ := y
    refine ⟨F', Grow.refl s, ?_⟩
    unfold upFrom at e
    rw [List.getElem?_map] at e
    cases q : (List.range n)[i]? with
    | none => rw [q] at e; cases e
    | some k =>
      rw [q] at e
      have hk : k = i := by
        have z := List.getElem?_eq_some_iff.mp q
        obtain ⟨h1, h2⟩ := z
        rw [List.getElem_range] at h2
        exact h2.symm
      subst hk
      cases e
      simp only [Rep]
  stop := fun i H' F' f s hi => by
    have : n ≤ i := by simpa [upFrom] using hi
    exact this
  len := by simpa [upFrom] using h
section
variable {X : Cx} {fx : Fx} {W : WX} {ca ea : Bool} {tg e a b : Expr} {m : M (List D)} {p pos : Pos}
theorem vr_int {cl : Bool} {g : Gx} {F H : Hp} {i : Int} {v : V} (h : VR cl g F H (.int i) v) : v = .int i := by
  rcases h.w with q | ⟨a, _, o⟩
  · simpa only [Rep] using q
  · exact o.elim
theorem tI_range1 {g : Gx} {σ : L2.St} {H : Hp} {R : It → Hp → Prop} (h1 : ∀ ρ ds ρ', m ρ = .ok ds ρ' → ds.length = 1) (h : tI g fx W ea (iRange m) σ H R) : iRng1 (tA g fx W ca ea m) σ H R := by
  obtain ⟨F, ρ, S, h⟩ := h
  refine ⟨F, ρ, S, ?_⟩
  unfold iRange M.bind at h
  cases e1 : m ρ with
  | bad => rw [e1] at h; exact h
  | exn c x r1 => rw [e1] at h; exact h
  | ok ds ρ1 =>
    rw [e1] at h
    intro vs H1 F1 G1 S1 r1
    have hl := h1 _ _ _ e1
    match ds, hl with
    | [d], _ =>
      obtain ⟨v, r, rfl, r1, rfl⟩ := r1
      cases d with
      | int j =>
        dsimp only [M.lift, toRange] at h
        by_cases q : j ≤ 16777216 ∧ -(2 ^ 62) ≤ j
        · rw [if_pos q] at h
          rw [vr_int r1]
          exact ⟨j, rfl, q.2, by omega, h _ H1 F1 G1 S1 (itr_rep (by omega))⟩
        · rw [if_neg q] at h; exact h.elim
      | _ => exact h.elim
theorem tI_range2 {g : Gx} {σ : L2.St} {H : Hp} {R : It → Hp → Prop} (h1 : ∀ ρ ds ρ', m ρ = .ok ds ρ' → ds.length = 2) (h : tI g fx W ea (iRange m) σ H R) : iRng2 (tA g fx W ca ea m) σ H R := by
  obtain ⟨F, ρ, S, h⟩ := h
  refine ⟨F, ρ, S, ?_⟩
  unfold iRange M.bind at h
  cases e1 : m ρ with
  | bad => rw [e1] at h; exact h
  | exn c x r1 => rw [e1] at h; exact h
  | ok ds ρ1 =>
    rw [e1] at h
    intro vs H1 F1 G1 S1 r1
    have hl := h1 _ _ _ e1
    match ds, hl with
    | [d, d2], _ =>
      obtain ⟨v, r, rfl, r1, v2, r', rfl, r2, rfl⟩ := r1
      cases d with
      | int i =>
        cases d2 with
        | int j =>
          dsimp only [M.lift, toRange] at h
          by_cases q : (j - i ≤ 16777216 ∧ -(2 ^ 62) ≤ i ∧ i < 2 ^ 62) ∧ -(2 ^ 62) ≤ j ∧ j < 2 ^ 62
          · rw [if_pos q] at h
            rw [vr_int r1, vr_int r2]
            exact ⟨i, j, rfl, ⟨q.1.2.1, q.1.2.2, q.2.1, q.2.2⟩, h _ H1 F1 G1 S1 (itr_rep (by omega))⟩
          · rw [if_neg q] at h; exact h.elim
        | _ => exact h.elim
      | _ => exact h.elim
theorem aCons_len {ma : M D} {n : Nat} (h : ∀ ρ ds ρ', m ρ = .ok ds ρ' → ds.length = n) : ∀ ρ ds ρ', aCons ma m ρ = .ok ds ρ' → ds.length = n + 1 := by
  intro ρ ds ρ' e
  unfold aCons M.bind at e
  cases e1 : ma ρ with
  | bad => rw [e1] at e; cases e
  | exn c x r1 => rw [e1] at e; cases e
  | ok d ρ1 =>
    rw [e1] at e
    dsimp only at e
    cases e2 : m ρ1 with
    | bad => rw [e2] at e; cases e
    | exn c x r1 => rw [e2] at e; cases e
    | ok xs ρ2 =>
      rw [e2] at e
      dsimp only [M.pure] at e
      cases e
      rw [List.length_cons, h _ _ _ e2]
theorem aNil_len : ∀ ρ ds ρ', aNil ρ = .ok ds ρ' → ds.length = 0 := by
  intro ρ ds ρ' e
  unfold aNil M.pure at e
  cases e
  rfl
theorem si_range1 {ma : M D} (ha : SE X fx W ca ea a ma) (hm : X.mg "range" = none) (hg : Gl X "range" := by rfl) (hs : starEach [a] X.env = [(false, eval a X.env)] := by rfl) : SI X fx W ea tg (.Call (.Name "range" p) [a] [] pos) (iRange (aCons ma aNil)) := by
  have h := sa_cons ha sa_nil (hs := by rw [hs] <;> rfl) (hc := by rfl)
  rw [Bool.or_false] at h
  exact PI.imp (pi_range1 hg hm h hs) fun σ H R q => tI_range1 (aCons_len aNil_len) q
theorem si_range2 {eb cb : Bool} {ma mb : M D} (ha : SE X fx W ca ea a ma) (hb : SE X fx W cb eb b mb) (hm : X.mg "range" = none) (hc : (!eb || ca) = true := by rfl) (hg : Gl X "range" := by rfl) (hs : starEach [a, b] X.env = [(false, eval a X.env), (false, eval b X.env)] := by rfl) (hs2 : starEach [b] X.env = [(false, eval b X.env)] := by rfl) :
    SI X fx W (ea || eb) tg (.Call (.Name "range" p) [a, b] [] pos) (iRange (aCons ma (aCons mb aNil))) := by
  have h2 := sa_cons hb sa_nil (hs := by rw [hs2] <;> rfl) (hc := by rfl)
  rw [Bool.or_false] at h2
  have h := sa_cons ha h2 (hs := by rw [hs, hs2] <;> rfl) (hc := hc)
  exact PI.imp (pi_range2 hg hm h hs hs2) fun σ H R q => tI_range2 (aCons_len (aCons_len aNil_len)) q
end

/-! ### targets -/
def tgName (i : Nat) (d : D) (ρ : Rho) : R Rho := .ok (ρ.set i (.cl d))
def tgAll : List Nat → List D → Rho → R Rho
  | [], [], ρ => .ok ρ
  | i :: is, d :: ds, ρ => tgAll is ds (ρ.set i (.cl d))
  | _, _, _ => .bad
def tgTup (is : List Nat) (d : D) (ρ : Rho) : R Rho := match d with
  | .tup ds => tgAll is ds ρ
  | _ => .bad
/-- the slots is alone are changed -/
def Touch {α : Type} (is : List Nat) (σ σ' : List α) : Prop := σ'.length = σ.length ∧ ∀ (j : Nat), j ∉ is → σ'[j]? = σ[j]?
theorem Touch.trans {α : Type} {is js : List Nat} {σ σ1 σ2 : List α} (a : Touch is σ σ1) (b : Touch js σ1 σ2) : Touch (is ++ js) σ σ2 :=
  ⟨b.1.trans a.1, fun j h => (b.2 j fun q => h (List.mem_append_right _ q)).trans (a.2 j fun q => h (List.mem_append_left _ q))⟩
theorem Touch.set {α : Type} {i : Nat} {σ : List α} {x : α} : Touch [i] σ (σ.set i x) := ⟨List.length_set, fun j h => List.getElem?_set_ne fun e => h (by simp [e])⟩
/-- no own slot comes of it -/
def NoOw (ρ ρ' : Rho) : Prop := ∀ (i : Nat) d, ρ'[i]? = some (.ow d) → ρ[i]? = some (.ow d)
def tG (g : Gx) (fx : Fx) (is : List Nat) (t : D → Rho → R Rho) : TG := fun v σ H Q => ∃ F ρ d, ST g fx σ H F ρ ∧ Rep g F d v ∧ match t d ρ with
  | .ok ρ' => ∀ σ', ST g fx σ' H F ρ' → Touch is σ σ' → NoOw ρ ρ' → Touch is ρ ρ' → Q σ' H
  | .bad => False
def SG (X : Cx) (fx : Fx) (is : List Nat) (tg : Expr) (t : D → Rho → R Rho) : Prop := PG X tg (tG (gx X) fx is t)
theorem PG.imp {X : Cx} {tg : Expr} {t u : TG} (h : PG X tg t) (k : ∀ v σ H Q, u v σ H Q → t v σ H Q) : PG X tg u := ⟨fun pins s σ H v u Q I r q => h.run pins s σ H v u Q I r (k v σ H Q q)⟩
section
variable {g : Gx} {fx : Fx} {σ : L2.St} {H F : Hp} {ρ : Rho}
theorem set_get {α : Type} {l : List α} {i j : Nat} {x y : α} (h : (l.set i x)[j]? = some y) : (i = j ∧ x = y) ∨ (i ≠ j ∧ l[j]? = some y) := by
  by_cases e : i = j
  · subst e
    by_cases hl : i < l.length
    · rw [List.getElem?_set_self hl] at h
      exact .inl ⟨rfl, Option.some.inj h⟩
    · rw [List.getElem?_eq_none (by rw [List.length_set]; omega)] at h; cases h
  · rw [List.getElem?_set_ne e] at h
    exact .inr ⟨e, h⟩
/-- a clean value is stored -/
theorem ST.set (S : ST g fx σ H F ρ) {i : Nat} {d : D} {v : V} (hi : fx.ow.contains i = false) (r : Rep g F d v) : ST g fx (σ.set i (some v)) H F (ρ.set i (.cl d)) where
  s := S.s
  ge := S.ge
  nw := S.nw
  old := S.old
  len := by rw [List.length_set, List.length_set]; exact S.len
  cl := fun j e h => by
    rcases set_get h with ⟨rfl, q⟩ | ⟨ne, q⟩
    · cases q
      have hl : i < σ.length := by
        rw [S.len]
        have := (List.getElem?_eq_some_iff.mp h).1
        simpa using this
      exact ⟨v, by rw [List.getElem?_set_self hl], r⟩
    · obtain ⟨w, e1, r1⟩ := S.cl j e q
      exact ⟨w, by rw [List.getElem?_set_ne ne]; exact e1, r1⟩
  ow := fun j e h => by
    rcases set_get h with ⟨rfl, q⟩ | ⟨ne, q⟩
    · cases q
    · obtain ⟨a, e1, r1⟩ := S.ow j e q
      exact ⟨a, by rw [List.getElem?_set_ne ne]; exact e1, r1⟩
  inj := fun j k d e a h1 h2 h3 h4 => by
    rcases set_get h1 with ⟨_, q⟩ | ⟨n1, q1⟩
    · cases q
    · rcases set_get h2 with ⟨_, q⟩ | ⟨n2, q2⟩
      · cases q
      · rw [List.getElem?_set_ne n1] at h3
        rw [List.getElem?_set_ne n2] at h4
        exact S.inj j k d e a q1 q2 h3 h4
  par := fun j a h => by
    have hj := S.pin j a h
    have ne : i ≠ j := fun e => by
      subst e
      have : fx.ow.contains i = true := by simpa using hj
      rw [hi] at this; cases this
    obtain ⟨⟨d, e⟩, e2⟩ := S.par j a h
    exact ⟨⟨d, by rw [List.getElem?_set_ne ne]; exact e⟩, by rw [List.getElem?_set_ne ne]; exact e2⟩
  pin := S.pin
theorem NoOw.set {ρ : Rho} {i : Nat} {d : D} : NoOw ρ (ρ.set i (.cl d)) := fun j e h => by
  rcases set_get h with ⟨_, q⟩ | ⟨_, q⟩
  · cases q
  · exact q
theorem NoOw.trans {ρ ρ1 ρ2 : Rho} (a : NoOw ρ ρ1) (b : NoOw ρ1 ρ2) : NoOw ρ ρ2 := fun i d h => a i d (b i d h)
theorem tG_name {i : Nat} {v : V} {Q : L2.St → Hp → Prop} (hi : fx.ow.contains i = false) (h : tG g fx [i] (tgName i) v σ H Q) : gName i v σ H Q := by
  obtain ⟨F, ρ, d, S, r, h⟩ := h
  exact h _ (S.set hi r) Touch.set NoOw.set Touch.set
/-- several names -/
def tGs (g : Gx) (fx : Fx) (is : List Nat) : TGs := fun vs σ H Q => ∃ F ρ ds, ST g fx σ H F ρ ∧ RepL g F ds vs ∧ match tgAll is ds ρ with
  | .ok ρ' => ∀ σ', ST g fx σ' H F ρ' → Touch is σ σ' → NoOw ρ ρ' → Touch is ρ ρ' → Q σ' H
  | .bad => False
theorem tGs_nil {vs : List V} {Q : L2.St → Hp → Prop} (h : tGs g fx [] vs σ H Q) : gNil vs σ H Q := by
  obtain ⟨F, ρ, ds, S, r, h⟩ := h
  cases ds with
  | nil =>
    simp only [RepL] at r
    exact ⟨r, h σ S ⟨rfl, fun _ _ => rfl⟩ (fun _ _ h => h) ⟨rfl, fun _ _ => rfl⟩⟩
  | cons d ds => exact h.elim
theorem tGs_cons {i : Nat} {is : List Nat} {vs : List V} {Q : L2.St → Hp → Prop} (hi : fx.ow.contains i = false) (h : tGs g fx (i :: is) vs σ H Q) : gCons (gName i) (tGs g fx is) vs σ H Q := by
  obtain ⟨F, ρ, ds, S, r, h⟩ := h
  cases ds with
  | nil => exact h.elim
  | cons d ds =>
    simp only [RepL] at r
    obtain ⟨v, w, rfl, r1, r2⟩ := r
    refine ⟨v, w, rfl, F, _, ds, S.set hi r1, r2, ?_⟩
    dsimp only [tgAll] at h
    cases q : tgAll is ds (ρ.set i (.cl d)) with
    | bad => rw [q] at h; exact h
    | ok ρ' =>
      rw [q] at h
      exact fun σ' S' t n u => h σ' S' (Touch.trans Touch.set t) (NoOw.set.trans n) (Touch.trans Touch.set u)
theorem tgAll_len : ∀ {is : List Nat} {ds : List D} {ρ ρ' : Rho}, tgAll is ds ρ = .ok ρ' → ds.length = is.length
  | [], [], _, _, _ => rfl
  | [], _ :: _, _, _, h => by cases h
  | _ :: _, [], _, _, h => by cases h
  | i :: is, d :: ds, ρ, ρ', h => by
    have := tgAll_len (is := is) (ds := ds) (ρ := ρ.set i (.cl d)) h
    simp [this]
theorem tG_tup {is : List Nat} {n : Nat} {v : V} {Q : L2.St → Hp → Prop} (hn : n = is.length) (h : tG g fx is (tgTup is) v σ H Q) : gTup g.K n (tGs g fx is) v σ H Q := by
  obtain ⟨F, ρ, d, S, r, h⟩ := h
  cases d with
  | tup ds =>
    simp only [Rep] at r
    obtain ⟨a, vs, rfl, e, l⟩ := r
    refine ⟨a, vs, rfl, sqT_mono S.s e, ?_, F, ρ, ds, S, l, h⟩
    dsimp only [tgTup] at h
    cases q : tgAll is ds ρ with
    | bad => rw [q] at h; exact h.elim
    | ok ρ' => rw [l.length, tgAll_len q, hn]
  | _ => exact h.elim
end
section
variable {X : Cx} {fx : Fx} {pos : Pos}
theorem sg_name (i : Nat) {x : Str} (hN : X.N.Nodup) (hi : X.N[i]? = some x := by rfl) (ho : fx.ow.contains i = false := by rfl) (hx : Loc X.env.scope x := by first | exact .inl rfl | exact .inr rfl) (hf : X.fn x = true ∨ X.env.scope.names.lookup x = some .local := by first | exact .inl rfl | exact .inr rfl) :
    SG X fx [i] (.Name x pos) (tgName i) := PG.imp (pg_name hN hi hx hf) fun v σ H Q h => tG_name ho h
def SGs (X : Cx) (fx : Fx) (es : List Expr) (is : List Nat) : Prop := PGs X es (tGs (gx X) fx is)
theorem PGs.imp {X : Cx} {es : List Expr} {t u : TGs} (h : PGs X es t) (k : ∀ v σ H Q, u v σ H Q → t v σ H Q) : PGs X es u := ⟨fun pins s σ H v u Q I r q => h.run pins s σ H v u Q I r (k v σ H Q q)⟩
theorem sgs_nil : SGs X fx [] [] := PGs.imp pgs_nil fun v σ H Q h => tGs_nil h
theorem sgs_cons (i : Nat) {is : List Nat} {x : Str} {es : List Expr} (hN : X.N.Nodup) (hr : SGs X fx es is) (hi : X.N[i]? = some x := by rfl) (ho : fx.ow.contains i = false := by rfl) (hx : Loc X.env.scope x := by first | exact .inl rfl | exact .inr rfl) (hf : X.fn x = true ∨ X.env.scope.names.lookup x = some .local := by first | exact .inl rfl | exact .inr rfl)
    (ha : (assignEach (.Name x pos :: es) X.env).map (·.2) = assign (.Name x pos) X.env :: (assignEach es X.env).map (·.2) := by rfl) :
    SGs X fx (.Name x pos :: es) (i :: is) := PGs.imp (pgs_cons (pg_name hN hi hx hf) hr) fun v σ H Q h => tGs_cons ho h
theorem sg_tup {es : List Expr} {k : Nat} {is : List Nat} (hc : X.calm = true) (hr : SGs X fx es is) (hn : (assignEach es X.env).length = is.length := by rfl) (hst : (assignEach es X.env).findIdx? (·.1) = none := by rfl) : SG X fx is (.Tuple es k pos) (tgTup is) := PG.imp (pg_tup hc hr hn hst) fun v σ H Q h => tG_tup rfl h
end
end DL

set_option Elab.async false
set_option linter.all false
set_option maxRecDepth 100000
set_option maxHeartbeats 4000000
namespace DL
open PySem PySem.Spec PyProof.Rows L2

/-! ### comprehensions -/
def over {α : Type} (f : Nat → α) : List Nat → List α → List α
  | [], l => l
  | v :: vs, l => (over f vs l).set v (f v)
theorem over_len {α : Type} {f : Nat → α} : ∀ (vs : List Nat) (l : List α), (over f vs l).length = l.length
  | [], l => rfl
  | v :: vs, l => by unfold over; rw [List.length_set, over_len vs l]
theorem over_get {α : Type} {f : Nat → α} {j : Nat} : ∀ (vs : List Nat) (l : List α), (over f vs l)[j]? = if j ∈ vs then (l[j]?.map fun _ => f j) else l[j]?
  | [], l => by simp [over]
  | v :: vs, l => by
    unfold over
    by_cases e : v = j
    · subst e
      rw [if_pos (by simp)]
      by_cases hl : v < l.length
      · rw [List.getElem?_set_self (by rw [over_len]; exact hl), List.getElem?_eq_getElem hl]
        rfl
      · rw [List.getElem?_eq_none (by rw [List.length_set, over_len]; omega), List.getElem?_eq_none (by omega)]
        rfl
    · rw [List.getElem?_set_ne e, over_get vs l]
      by_cases h : j ∈ vs
      · rw [if_pos h, if_pos (by simp [h])]
      · rw [if_neg h, if_neg (by simp [h]; exact fun q => e q.symm)]
theorem wipe_over (σ : L2.St) : ∀ vs, wipe σ vs = over (fun _ => none) vs σ
  | [] => rfl
  | v :: vs => by
    show (wipe σ vs).set v none = (over _ vs σ).set v none
    rw [wipe_over σ vs]
abbrev wipeR (ρ : Rho) (vs : List Nat) : Rho := over (fun _ => .no) vs ρ
abbrev backR (ρ0 ρ : Rho) (vs : List Nat) : Rho := over (fun j => ρ0.getD j .no) vs ρ
theorem back_wipe {ρ : Rho} {vs : List Nat} : backR ρ (wipeR ρ vs) vs = ρ := by
  refine List.ext_getElem? fun j => ?_
  rw [over_get, over_get]
  by_cases h : j ∈ vs
  · rw [if_pos h, if_pos h]
    cases e : ρ[j]? with
    | none => rfl
    | some x =>
      show some (ρ.getD j .no) = some x
      rw [List.getD_eq_getElem?_getD, e]
      rfl
  · rw [if_neg h, if_neg h]

/-- the turns of a comprehension -/
def lcLoop (vs : List Nat) (t : D → Rho → R Rho) (c : M Bool) (e : M D) : List D → M (List D)
  | [], ρ => .ok [] ρ
  | d :: ds, ρ => match t d ρ with
    | .bad => .bad
    | .ok ρ1 => match c ρ1 with
      | .ok true ρ2 => match e ρ2 with
        | .ok x ρ3 => match lcLoop vs t c e ds (wipeR ρ3 vs) with
          | .ok xs ρ4 => .ok (x :: xs) ρ4
          | _ => .bad
        | _ => .bad
      | .ok false ρ2 => lcLoop vs t c e ds (wipeR ρ2 vs)
      | _ => .bad
def eLC (vs : List Nat) (t : D → Rho → R Rho) (c : M Bool) (e : M D) (it : M (List D)) : M D := it.bind fun ds ρ => match lcLoop vs t c e ds (wipeR ρ vs) with
  | .ok xs ρ' => .ok (.lst xs) (backR ρ ρ' vs)
  | _ => .bad
/-- no exception leaves -/
abbrev W0 : WX := fun _ _ _ _ => False

section
variable {g : Gx} {fx : Fx} {σ : L2.St} {H F H' F' : Hp} {ρ ρ' : Rho} {vs : List Nat}
/-- some slots are let go -/
theorem ST.wipe (S : ST g fx σ H F ρ) (hv : vs.all (fun j => !fx.ow.contains j) = true) : ST g fx (L2.wipe σ vs) H F (wipeR ρ vs) := by
  have nv : ∀ i, i ∈ fx.ow → i ∉ vs := fun i h q => by
    have := List.all_eq_true.mp hv i q
    have h2 : fx.ow.contains i = true := by simpa using h
    rw [h2] at this
    cases this
  have gr : ∀ {i : Nat} {x : Sl}, (wipeR ρ vs)[i]? = some x → x ≠ .no → i ∉ vs ∧ ρ[i]? = some x := fun {i x} h ne => by
    rw [over_get] at h
    by_cases q : i ∈ vs
    · rw [if_pos q] at h
      cases e : ρ[i]? with
      | none => rw [e] at h; cases h
      | some y => rw [e] at h; cases h; exact absurd rfl ne
    · rw [if_neg q] at h
      exact ⟨q, h⟩
  have gs : ∀ {i : Nat}, i ∉ vs → (L2.wipe σ vs)[i]? = σ[i]? := fun {i} h => by rw [wipe_over, over_get, if_neg h]
  refine ⟨S.s, S.ge, S.nw, S.old, by rw [wipe_over, over_len, over_len]; exact S.len, fun i d h => ?_, fun i d h => ?_, fun i j d e a h1 h2 h3 h4 => ?_, fun i a h => ?_, S.pin⟩
  · obtain ⟨n, e⟩ := gr h (by intro z; cases z)
    rw [gs n]
    exact S.cl i d e
  · obtain ⟨n, e⟩ := gr h (by intro z; cases z)
    rw [gs n]
    exact S.ow i d e
  · obtain ⟨n1, e1⟩ := gr h1 (by intro z; cases z)
    obtain ⟨n2, e2⟩ := gr h2 (by intro z; cases z)
    rw [gs n1] at h3
    rw [gs n2] at h4
    exact S.inj i j d e a e1 e2 h3 h4
  · have n := nv i (S.pin i a h)
    obtain ⟨⟨d, e⟩, e2⟩ := S.par i a h
    exact ⟨⟨d, by rw [over_get, if_neg n]; exact e⟩, by rw [gs n]; exact e2⟩
/-- back from the block: its names' slots as they were -/
theorem ST.back {eff : Bool} (S : ST g fx σ H F ρ) (S' : ST g fx (L2.wipe σ vs) H' F' ρ') (G : Go eff (L2.wipe σ vs) F H (wipeR ρ vs) F' H' ρ') (hv : vs.all (fun j => !fx.ow.contains j) = true) : ST g fx σ H' F' (backR ρ ρ' vs) := by
  have gs : ∀ {i : Nat}, i ∉ vs → (L2.wipe σ vs)[i]? = σ[i]? := fun {i} h => by rw [wipe_over, over_get, if_neg h]
  have hl : ρ'.length = ρ.length := by rw [← S'.len, ← S.len, wipe_over, over_len]
  have gr : ∀ {i : Nat} {x : Sl}, (backR ρ ρ' vs)[i]? = some x → (i ∈ vs ∧ ρ[i]? = some x) ∨ (i ∉ vs ∧ ρ'[i]? = some x) := fun {i x} h => by
    rw [over_get] at h
    by_cases q : i ∈ vs
    · rw [if_pos q] at h
      left
      refine ⟨q, ?_⟩
      cases e : ρ'[i]? with
      | none => rw [e] at h; cases h
      | some y =>
        rw [e] at h
        have hi : i < ρ.length := by rw [← hl]; exact (List.getElem?_eq_some_iff.mp e).1
        have e2 : ρ.getD i .no = x := Option.some.inj h
        rw [List.getD_eq_getElem?_getD, List.getElem?_eq_getElem hi] at e2
        rw [List.getElem?_eq_getElem hi]
        exact congrArg some e2
    · rw [if_neg q] at h
      exact .inr ⟨q, h⟩
  -- an own slot that was let go keeps its object
  have kept : ∀ {i : Nat} {d : D} {a : Addr}, i ∈ vs → ρ[i]? = some (.ow d) → σ[i]? = some (some (.ref a)) → (∃ o, H a = some o) → H' a = H a := fun {i d a} q e es ⟨o, ho⟩ => by
    rw [ho]
    refine G.k a o ho fun j e' hj hs => ?_
    rw [over_get] at hj
    by_cases qj : j ∈ vs
    · rw [if_pos qj] at hj
      cases z : ρ[j]? with
      | none => rw [z] at hj; cases hj
      | some y => rw [z] at hj; cases hj
    · rw [if_neg qj] at hj
      rw [gs qj] at hs
      have := S.inj i j d e' a e hj es hs
      exact qj (this ▸ q)
  have nof : ∀ {i : Nat} {d : D} {a : Addr} {o : HO}, i ∈ vs → ρ[i]? = some (.ow d) → σ[i]? = some (some (.ref a)) → F a = none → H a = some o → F' a = none := fun {i d a o} q e es h1 h2 => by
    cases z : F' a with
    | none => rfl
    | some y =>
      rcases G.n a y z with q | q | ⟨j, e', hj, hs⟩
      · rw [h1] at q; cases q
      · rw [h2] at q; cases q
      · rw [over_get] at hj
        by_cases qj : j ∈ vs
        · rw [if_pos qj] at hj
          cases z : ρ[j]? with
          | none => rw [z] at hj; cases hj
          | some y => rw [z] at hj; cases hj
        · rw [if_neg qj] at hj
          rw [gs qj] at hs
          exact absurd q (S.inj i j d e' a e hj es hs ▸ qj)
  refine ⟨S'.s, S'.ge, S'.nw, S'.old, by rw [over_len, hl]; exact S.len, fun i d h => ?_, fun i d h => ?_, fun i j d e a h1 h2 h3 h4 => ?_, fun i a h => ?_, S.pin⟩
  · rcases gr h with ⟨q, e⟩ | ⟨q, e⟩
    · obtain ⟨v, e1, r⟩ := S.cl i d e
      exact ⟨v, e1, r.mono G.f⟩
    · rw [← gs q]
      exact S'.cl i d e
  · rcases gr h with ⟨q, e⟩ | ⟨q, e⟩
    · obtain ⟨a, e1, fa, o, n⟩ := S.ow i d e
      obtain ⟨u, hu⟩ := o.there
      exact ⟨a, e1, nof q e e1 fa hu, o.move G.f (kept q e e1 ⟨u, hu⟩), n⟩
    · rw [← gs q]
      exact S'.ow i d e
  · rcases gr h1 with ⟨q1, e1⟩ | ⟨q1, e1⟩
    · rcases gr h2 with ⟨q2, e2⟩ | ⟨q2, e2⟩
      · exact S.inj i j d e a e1 e2 h3 h4
      · -- j stands in both
        obtain ⟨e', hj⟩ := G.o j e e2
        rw [over_get, if_neg q2] at hj
        exact S.inj i j d e' a e1 hj h3 h4
    · rcases gr h2 with ⟨q2, e2⟩ | ⟨q2, e2⟩
      · obtain ⟨e', hi⟩ := G.o i d e1
        rw [over_get, if_neg q1] at hi
        exact S.inj i j e' e a hi e2 h3 h4
      · rw [← gs q1] at h3
        rw [← gs q2] at h4
        exact S'.inj i j d e a e1 e2 h3 h4
  · have n : i ∉ vs := fun q => by
      have := List.all_eq_true.mp hv i q
      have h2 : fx.ow.contains i = true := by simpa using S.pin i a h
      rw [h2] at this
      cases this
    obtain ⟨⟨d, e⟩, e2⟩ := S'.par i a h
    exact ⟨⟨d, by rw [over_get, if_neg n]; exact e⟩, by rw [← gs n]; exact e2⟩
/-- an object that is nobody's is written -/
theorem ST.side {D : Addr} {o : HO} (S : ST g fx σ H F ρ) (hF : F D = none) (h0 : fx.H0 D = none) (hn : ∀ (i : Nat) d, ρ[i]? = some (.ow d) → σ[i]? ≠ some (some (.ref D))) : ST g fx σ (upd H D o) F ρ where
  s := fun a u h => by
    rw [upd_ne (ne_of_none h hF)]
    exact S.s a u h
  ge := S.ge
  nw := S.nw
  old := fun a u h k => by
    rw [upd_ne (ne_of_none h h0)]
    exact S.old a u h k
  len := S.len
  cl := S.cl
  ow := fun i d h => by
    obtain ⟨a, e, fa, ow, n⟩ := S.ow i d h
    refine ⟨a, e, fa, ow.move (Sub.refl _) (upd_ne fun z => ?_), n⟩
    subst z
    exact hn i d h e
  inj := S.inj
  par := S.par
  pin := S.pin
/-- such an object is given to all -/
theorem ST.give {D : Addr} {o : HO} (S : ST g fx σ H F ρ) (hH : H D = some o) (hF : F D = none) (h0 : fx.H0 D = none) (hn : ∀ (i : Nat) d, ρ[i]? = some (.ow d) → σ[i]? ≠ some (some (.ref D))) : ST g fx σ H (upd F D o) ρ := by
  have f : Sub F (upd F D o) := fun a u h => by
    rw [upd_ne (ne_of_none h hF)]
    exact h
  refine ⟨fun a u h => ?_, S.ge.trans f, fun a u h => ?_, S.old, S.len, fun i d h => ?_, fun i d h => ?_, S.inj, S.par, S.pin⟩
  · by_cases e : a = D
    · subst e; rw [upd_same] at h; rw [hH]; exact h
    · rw [upd_ne e] at h; exact S.s a u h
  · by_cases e : a = D
    · subst e; exact .inr h0
    · rw [upd_ne e] at h; exact S.nw a u h
  · obtain ⟨v, e, r⟩ := S.cl i d h
    exact ⟨v, e, r.mono f⟩
  · obtain ⟨a, e, fa, ow, n⟩ := S.ow i d h
    have ne : a ≠ D := fun z => hn i d h (z ▸ e)
    exact ⟨a, e, by rw [upd_ne ne]; exact fa, ow.move f rfl, n⟩
end

section
variable {g : Gx} {fx : Fx} {W : WX} {σ : L2.St} {H : Hp} {Q : VK} {ei ec ee : Bool} {vs is : List Nat} {t : D → Rho → R Rho} {c : M Bool} {e : M D} {mi : M (List D)}
theorem wipe_touch {σ2 : L2.St} (h : Touch is (wipe σ vs) σ2) (hs : is.all (fun j => vs.contains j) = true) : wipe σ2 vs = wipe σ vs := by
  rw [wipe_over σ2 vs]
  refine List.ext_getElem? fun j => ?_
  have hl : σ2.length = σ.length := by rw [h.1, wipe_over, over_len]
  rw [over_get]
  by_cases q : j ∈ vs
  · rw [if_pos q, wipe_over, over_get, if_pos q]
    cases e1 : σ2[j]? with
    | none =>
      have : σ[j]? = none := List.getElem?_eq_none (by rw [← hl]; exact List.getElem?_eq_none_iff.mp e1)
      rw [this]
    | some x =>
      have hj : j < σ.length := by rw [← hl]; exact (List.getElem?_eq_some_iff.mp e1).1
      rw [List.getElem?_eq_getElem hj]
      rfl
  · rw [if_neg q]
    refine h.2 j fun z => q ?_
    have := List.all_eq_true.mp hs j z
    simpa using this
theorem lc_turns {ρ1 : Rho} {F1 H1 : Hp} {ds : List D} {J : It} {D : Addr} (hv : vs.all (fun j => !fx.ow.contains j) = true) (hs : is.all (fun j => vs.contains j) = true) (S1 : ST g fx σ H1 F1 ρ1) (R1 : ItRep g J ds F1) (hD : H1 D = none) {xs0 : List DL.D} {ρ0 : Rho} (e0 : lcLoop vs t c e ds (wipeR ρ1 vs) = .ok xs0 ρ0) {Qd : Hp → Prop}
    (hE : ∀ Hc Fc accV, ST g fx (wipe σ vs) Hc Fc ρ0 → Go (ec || ee) (wipe σ vs) F1 H1 (wipeR ρ1 vs) Fc Hc ρ0 → Hc D = some (.lst accV) → RepL g Fc xs0 accV → Fc D = none → Qd Hc) :
    ∃ W : Nat → Nat → Hp → Prop, (∃ m, W 0 m (upd H1 D (.lst []))) ∧ ∀ i m H, W i m H →
      (J.stop i H ∧ Qd H) ∨ (J.go i H ∧ ∃ Nx : Hp → Prop, (∀ H', Nx H' → ∃ m', m' < m ∧ W (i + 1) m' H') ∧ ∀ x H', J.yld i H x H' → tG g fx is t x (wipe σ vs) H' fun σ2 H2 => wipe σ2 vs = wipe σ vs ∧ tB g fx W0 ec c σ2 H2 fun b H3 =>
        if b = true then tE g fx W0 true ee e σ2 H3 fun y H4 => ∃ acc, H4 D = some (.lst acc) ∧ acc.length < sizeLine ∧ Nx (upd H4 D (.lst (acc ++ [y]))) else Nx H3) := by
  -- the end, whatever the turns give
  have S1w : ST g fx (wipe σ vs) H1 F1 (wipeR ρ1 vs) := S1.wipe hv
  have hD0 : fx.H0 D = none := S1.fresh hD
  have hDF : F1 D = none := by
    cases z : F1 D with
    | none => rfl
    | some u => rw [S1.s D u z] at hD; cases hD
  have nD : ∀ {ρc : Rho} {Fc Hc : Hp}, Go (ec || ee) (wipe σ vs) F1 H1 (wipeR ρ1 vs) Fc Hc ρc → ∀ (i : Nat) d, ρc[i]? = some (.ow d) → (wipe σ vs)[i]? ≠ some (some (.ref D)) := fun {ρc Fc Hc} G i d hi hs => by
    obtain ⟨d', hi'⟩ := G.o i d hi
    obtain ⟨a, ea, _, o, _⟩ := S1w.ow i d' hi'
    rw [hs] at ea
    cases ea
    obtain ⟨u, hu⟩ := o.there
    rw [hD] at hu; cases hu
  let Pv : Nat → Hp → Prop := fun i Hc => i ≤ ds.length ∧ ∃ Fc ρc acc accV, ST g fx (wipe σ vs) Hc Fc ρc ∧ Go (ec || ee) (wipe σ vs) F1 H1 (wipeR ρ1 vs) Fc Hc ρc ∧ Hc D = some (.lst accV) ∧ RepL g Fc acc accV ∧ Fc D = none ∧ acc.length ≤ i ∧
    match lcLoop vs t c e (ds.drop i) ρc with
      | .ok xs ρ' => acc ++ xs = xs0 ∧ ρ' = ρ0
      | _ => False
  refine ⟨fun i m Hc => m = ds.length - i ∧ Pv i Hc, ⟨ds.length, by simp, Nat.zero_le _, F1, wipeR ρ1 vs, [], [], ?_, ?_, upd_same, RepL.nil, hDF, Nat.le_refl _, ?_⟩, ?_⟩
  · exact S1w.grow (Grow.big S1w.s hD)
  · exact Go.of (Grow.big S1w.s hD)
  · rw [List.drop_zero, e0]
    exact ⟨rfl, rfl⟩
  · rintro i m Hc ⟨rfl, hi, Fc, ρc, acc, accV, Sc, Gc, hDc, rc, hFD, hacc, hq⟩
    by_cases hlt : i < ds.length
    · right
      have f1c : Sub F1 Fc := Gc.f
      refine ⟨R1.go i Hc Fc f1c Sc.s hlt, Pv (i + 1), fun H' p => ⟨ds.length - (i + 1), by omega, rfl, p⟩, fun x H' y => ?_⟩
      obtain ⟨F', G', r'⟩ := R1.yld i Hc Fc x H' ds[i] f1c Sc.s (List.getElem?_eq_getElem hlt) y
      have S' := Sc.grow G'
      have ed : ds.drop i = ds[i] :: ds.drop (i + 1) := List.drop_eq_getElem_cons hlt
      rw [ed] at hq
      dsimp only [lcLoop] at hq
      refine ⟨F', ρc, ds[i], S', r', ?_⟩
      cases et : t ds[i] ρc with
      | bad => rw [et] at hq; exact hq
      | ok ρ2 =>
        rw [et] at hq
        dsimp only at hq
        intro σ2 S2 T2 N2 U2
        refine ⟨wipe_touch T2 hs, F', ρ2, S2, ?_⟩
        -- facts that go along
        have Gx : Go (ec || ee) (wipe σ vs) F1 H1 (wipeR ρ1 vs) F' H' ρc := by
          have q := Gc.trans (Go.of (eff := false) (ρ := ρc) G')
          rwa [Bool.or_false] at q
        have hD' : H' D = some (.lst accV) := G'.h D _ hDc
        have hFD' : F' D = none := by
          cases z : F' D with
          | none => rfl
          | some u =>
            rcases G'.n D u z with q | q
            · rw [hFD] at q; cases q
            · rw [hDc] at q; cases q
        have rc' := rc.mono G'.f
        -- from the block's slots to the slots at hand
        have inv : ∀ {ρ3 : Rho} (j : Nat) d, ρ3[j]? = some (.ow d) → (∃ d', ρ2[j]? = some (.ow d')) → j ∉ vs ∧ ρc[j]? = ρc[j]? := fun j d _ ⟨d', h2⟩ => by
          have h3 := N2 j d' h2
          obtain ⟨d2, h4⟩ := Gc.o j d' h3
          refine ⟨fun q => ?_, rfl⟩
          rw [over_get, if_pos q] at h4
          cases z : ρ1[j]? with
          | none => rw [z] at h4; cases h4
          | some y => rw [z] at h4; cases h4
        have own2 : ∀ (j : Nat) d, ρ2[j]? = some (.ow d) → j ∉ vs ∧ σ2[j]? = (wipe σ vs)[j]? := fun j d h2 => by
          obtain ⟨n, _⟩ := inv (ρ3 := ρ2) j d h2 ⟨d, h2⟩
          exact ⟨n, T2.2 j fun z => n (by simpa using List.all_eq_true.mp hs j z)⟩
        have step : ∀ {ef : Bool} {ρ3 : Rho} {F3 H3 : Hp}, (!ef || (ec || ee)) = true → Go ef σ2 F' H' ρ2 F3 H3 ρ3 → ST g fx σ2 H3 F3 ρ3 →
            ST g fx (wipe σ vs) H3 F3 (wipeR ρ3 vs) ∧ Go (ec || ee) (wipe σ vs) F1 H1 (wipeR ρ1 vs) F3 H3 (wipeR ρ3 vs) ∧ H3 D = some (.lst accV) ∧ F3 D = none := fun {ef ρ3 F3 H3} hle G3 S3 => by
          have Sw := S3.wipe hv
          rw [wipe_touch T2 hs] at Sw
          have ow3 : ∀ (j : Nat) d, (wipeR ρ3 vs)[j]? = some (.ow d) → j ∉ vs ∧ ρ3[j]? = some (.ow d) := fun j d hj => by
            rw [over_get] at hj
            by_cases q : j ∈ vs
            · rw [if_pos q] at hj
              cases z : ρ3[j]? with
              | none => rw [z] at hj; cases hj
              | some y => rw [z] at hj; cases hj
            · rw [if_neg q] at hj
              exact ⟨q, hj⟩
          have kD : ∀ (j : Nat) d, ρ2[j]? = some (.ow d) → σ2[j]? ≠ some (some (.ref D)) := fun j d h2 hs2 => by
            obtain ⟨n, es⟩ := own2 j d h2
            rw [es] at hs2
            exact nD Gx j d (N2 j d h2) hs2
          refine ⟨Sw, ⟨Gx.f.trans G3.f, fun a o ha => ?_, fun j d hj => ?_, fun a o ha hn => ?_, fun e0 => ?_, fun a o ha => ?_⟩, G3.k D _ hD' kD, ?_⟩
          · rcases G3.n a o ha with q | q | ⟨j, d, h2, hs2⟩
            · exact Gx.n a o q
            · refine .inr (.inl ?_)
              cases z : H1 a with
              | none => rfl
              | some u =>
                obtain ⟨w, hw⟩ := Gx.d a u z
                rw [hw] at q; cases q
            · obtain ⟨n, es⟩ := own2 j d h2
              rw [es] at hs2
              obtain ⟨d3, h3⟩ := Gc.o j d (N2 j d h2)
              exact .inr (.inr ⟨j, d3, h3, hs2⟩)
          · obtain ⟨_, h3⟩ := ow3 j d hj
            obtain ⟨d2, h2⟩ := G3.o j d h3
            exact Gc.o j d2 (N2 j d2 h2)
          · refine G3.k a o (Gx.k a o ha hn) fun j d h2 hs2 => ?_
            obtain ⟨n, es⟩ := own2 j d h2
            rw [es] at hs2
            obtain ⟨d3, h3⟩ := Gc.o j d (N2 j d h2)
            exact hn j d3 h3 hs2
          · have e3 : ef = false := by
              cases ef with
              | false => rfl
              | true => rw [e0] at hle; cases hle
            obtain ⟨gr, er⟩ := G3.g e3
            obtain ⟨gr1, er1⟩ := Gx.g e0
            refine ⟨gr1.trans gr, ?_⟩
            rw [er]
            -- the target's slots are the block's own
            refine List.ext_getElem? fun j => ?_
            rw [over_get, over_get]
            by_cases q : j ∈ vs
            · rw [if_pos q, if_pos q]
              have l2 : ρ2.length = ρ1.length := by rw [← S2.len, T2.1, wipe_over, over_len, S1.len]
              cases z : ρ2[j]? with
              | none =>
                have : ρ1[j]? = none := List.getElem?_eq_none (by rw [← l2]; exact List.getElem?_eq_none_iff.mp z)
                rw [this]
              | some y =>
                have hj : j < ρ1.length := by rw [← l2]; exact (List.getElem?_eq_some_iff.mp z).1
                rw [List.getElem?_eq_getElem hj]
                rfl
            · rw [if_neg q, if_neg q]
              rw [U2.2 j fun z => q (by simpa using List.all_eq_true.mp hs j z), er1, over_get, if_neg q]
          · obtain ⟨w, hw⟩ := Gx.d a o ha
            exact G3.d a w hw
          · cases z : F3 D with
            | none => rfl
            | some u =>
              rcases G3.n D u z with q | q | ⟨j, d, h2, hs2⟩
              · rw [hFD'] at q; cases q
              · rw [hD'] at q; cases q
              · exact absurd hs2 (kD j d h2)
        cases ecc : c ρ2 with
        | bad => rw [ecc] at hq; exact hq
        | exn _ _ _ => rw [ecc] at hq; exact hq.elim
        | ok b ρ3 =>
          rw [ecc] at hq
          intro H3 F3 G3 S3
          cases b with
          | false =>
            rw [if_neg (by decide)]
            obtain ⟨Sw, Gw, hDw, hFw⟩ := step le_l G3 S3
            exact ⟨hlt, F3, wipeR ρ3 vs, acc, accV, Sw, Gw, hDw, rc'.mono G3.f, hFw, by omega, hq⟩
          | true =>
            rw [if_pos rfl]
            dsimp only at hq
            refine ⟨F3, ρ3, S3, ?_⟩
            cases eee : e ρ3 with
            | bad => rw [eee] at hq; exact hq
            | exn _ _ _ => rw [eee] at hq; exact hq.elim
            | ok xd ρ4 =>
              rw [eee] at hq
              dsimp only at hq
              intro xv H4 F4 G4 S4 r4
              obtain ⟨Sw, Gw, hDw, hFw⟩ := step (by cases ec <;> cases ee <;> rfl) (G3.trans G4) S4
              refine ⟨accV, hDw, by rw [rc.length, sizeLine_eq]; have := R1.len; omega, hlt, F4, wipeR ρ4 vs, acc ++ [xd], accV ++ [xv], Sw.side hFw hD0 (nD Gw), ?_, upd_same, ((rc'.mono G3.f).mono G4.f).append (RepL.one r4), hFw, by rw [List.length_append, List.length_singleton]; omega, ?_⟩
              · refine ⟨Gw.f, Gw.n, Gw.o, fun a o ha hn => ?_, fun e0 => ?_, fun a o ha => ?_⟩
                · rw [upd_ne (ne_of_none ha hD)]
                  exact Gw.k a o ha hn
                · obtain ⟨gr, er⟩ := Gw.g e0
                  refine ⟨⟨gr.f, fun a o ha => ?_, fun a o ha => ?_, gr.n⟩, er⟩
                  · rw [upd_ne (ne_of_none ha hD)]
                    exact gr.h a o ha
                  · rw [upd_ne (ne_of_none ha hFw)]
                    exact gr.s a o ha
                · by_cases z : a = D
                  · subst z; exact ⟨_, upd_same⟩
                  · rw [upd_ne z]
                    exact Gw.d a o ha
              · cases el : lcLoop vs t c e (ds.drop (i + 1)) (wipeR ρ4 vs) with
                | bad => rw [el] at hq; exact hq
                | exn _ _ _ => rw [el] at hq; exact hq
                | ok xs ρ5 =>
                  rw [el] at hq
                  dsimp only at hq ⊢
                  rw [List.append_assoc]
                  exact hq
    · left
      have ei : i = ds.length := by omega
      subst ei
      refine ⟨R1.stop _ Hc Fc Gc.f Sc.s (Nat.le_refl _), ?_⟩
      rw [List.drop_length] at hq
      dsimp only [lcLoop] at hq
      rw [List.append_nil] at hq
      obtain ⟨q1, q2⟩ := hq
      subst q1
      subst q2
      exact hE Hc Fc accV Sc Gc hDc rc hFD
/-- the block's end: what is kept, seen from around -/
theorem Go.block {eff : Bool} {F1 H1 Fc Hc : Hp} {ρ1 ρc : Rho} (Gg : Go eff (wipe σ vs) F1 H1 (wipeR ρ1 vs) Fc Hc ρc) : Go eff σ F1 H1 ρ1 Fc Hc (backR ρ1 ρc vs) := by
  refine ⟨Gg.f, fun a o ha => ?_, fun j d hj => ?_, fun a o ha hn => ?_, fun e0 => ?_, Gg.d⟩
  · rcases Gg.n a o ha with q | q | ⟨j, d, h2, hs2⟩
    · exact .inl q
    · exact .inr (.inl q)
    · rw [over_get] at h2
      by_cases q : j ∈ vs
      · rw [if_pos q] at h2
        cases z : ρ1[j]? with
        | none => rw [z] at h2; cases h2
        | some y => rw [z] at h2; cases h2
      · rw [if_neg q] at h2
        rw [wipe_over, over_get, if_neg q] at hs2
        exact .inr (.inr ⟨j, d, h2, hs2⟩)
  · rw [over_get] at hj
    by_cases q : j ∈ vs
    · rw [if_pos q] at hj
      cases z : ρc[j]? with
      | none => rw [z] at hj; cases hj
      | some y =>
        rw [z] at hj
        have e2 : ρ1.getD j .no = .ow d := Option.some.inj hj
        rw [List.getD_eq_getElem?_getD] at e2
        cases z2 : ρ1[j]? with
        | none => rw [z2] at e2; cases e2
        | some y2 =>
          rw [z2] at e2
          have e3 : y2 = .ow d := e2
          rw [e3]
          exact ⟨d, rfl⟩
    · rw [if_neg q] at hj
      obtain ⟨d2, h2⟩ := Gg.o j d hj
      rw [over_get, if_neg q] at h2
      exact ⟨d2, h2⟩
  · refine Gg.k a o ha fun j d hj hs => ?_
    rw [over_get] at hj
    by_cases q : j ∈ vs
    · rw [if_pos q] at hj
      cases z : ρ1[j]? with
      | none => rw [z] at hj; cases hj
      | some y => rw [z] at hj; cases hj
    · rw [if_neg q] at hj
      rw [wipe_over, over_get, if_neg q] at hs
      exact hn j d hj hs
  · obtain ⟨gr, er⟩ := Gg.g e0
    refine ⟨gr, ?_⟩
    rw [er]
    exact back_wipe
theorem tE_lc (hv : vs.all (fun j => !fx.ow.contains j) = true) (hs : is.all (fun j => vs.contains j) = true) (h : tE g fx W true (ei || (ec || ee)) (eLC vs t c e mi) σ H Q) :
    tLc (tI g fx W ei mi) (tG g fx is t) (tB g fx W0 ec c) (tE g fx W0 true ee e) vs σ H Q := by
  obtain ⟨F, ρ, S, h⟩ := h
  refine ⟨F, ρ, S, ?_⟩
  unfold eLC M.bind at h
  cases e1 : mi ρ with
  | bad => rw [e1] at h; exact h
  | exn c x r1 => rw [e1] at h; exact h
  | ok ds ρ1 =>
    rw [e1] at h
    intro J H1 F1 G1 S1 R1 D hD
    dsimp only at h
    cases e2 : lcLoop vs t c e ds (wipeR ρ1 vs) with
    | bad => rw [e2] at h; exact h.elim
    | exn _ _ _ => rw [e2] at h; exact h.elim
    | ok xs ρ' =>
      rw [e2] at h
      refine lc_turns hv hs S1 R1 hD e2 fun Hc Fc accV Sc Gc hDc rc hFD => ?_
      have hD0 : fx.H0 D = none := S1.fresh hD
      have hDF : F1 D = none := by
        cases z : F1 D with
        | none => rfl
        | some u => rw [S1.s D u z] at hD; cases hD
      have S1w : ST g fx (wipe σ vs) H1 F1 (wipeR ρ1 vs) := S1.wipe hv
      have nD : ∀ (i : Nat) d, ρ'[i]? = some (.ow d) → (wipe σ vs)[i]? ≠ some (some (.ref D)) := fun i d hi hs => by
        obtain ⟨d', hi'⟩ := Gc.o i d hi
        obtain ⟨a, ea, _, o, _⟩ := S1w.ow i d' hi'
        rw [hs] at ea
        cases ea
        obtain ⟨u, hu⟩ := o.there
        rw [hD] at hu; cases hu
      have Sg := Sc.give hDc hFD hD0 nD
      have Gg : Go (ec || ee) (wipe σ vs) F1 H1 (wipeR ρ1 vs) (upd Fc D (.lst accV)) Hc ρ' := by
        refine ⟨fun a o ha => ?_, fun a o ha => ?_, Gc.o, Gc.k, fun e0 => ?_, Gc.d⟩
        · rw [upd_ne (ne_of_none ha hDF)]
          exact Gc.f a o ha
        · by_cases z : a = D
          · subst z; exact .inr (.inl hD)
          · rw [upd_ne z] at ha; exact Gc.n a o ha
        · obtain ⟨gr, er⟩ := Gc.g e0
          refine ⟨⟨fun a o ha => ?_, gr.h, Sg.s, fun a o ha => ?_⟩, er⟩
          · rw [upd_ne (ne_of_none ha hDF)]
            exact gr.f a o ha
          · by_cases z : a = D
            · subst z; exact .inr hD
            · rw [upd_ne z] at ha; exact gr.n a o ha
      refine h (.ref D) Hc (upd Fc D (.lst accV)) (G1.trans Gg.block) (S1.back Sg Gg hv) ?_
      show Rep g _ (.lst xs) _
      simp only [Rep]
      refine ⟨D, accV, rfl, upd_same, rc.mono fun a o ha => ?_⟩
      rw [upd_ne (ne_of_none ha hFD)]
      exact ha
/-- a new list or dict, the frame's own -/
def tF (g : Gx) (fx : Fx) (W : WX) (eff : Bool) (m : M D) : TE := fun σ H Q => ∃ F ρ, ST g fx σ H F ρ ∧ match m ρ with
  | .ok d ρ' => ∀ a H' F', Go eff σ F H ρ F' H' ρ' → ST g fx σ H' F' ρ' → F' a = none → Own g F' H' a d → fx.H0 a = none → (∀ (i : Nat) e, ρ'[i]? = some (.ow e) → σ[i]? ≠ some (some (.ref a))) → (H a = none ∨ ∃ (i : Nat) (e : D), ρ[i]? = some (.ow e) ∧ σ[i]? = some (some (.ref a))) → Q (.ref a) H'
  | .exn c x ρ' => ∀ cls dd H' F', Go true σ F H ρ F' H' ρ' → ST g fx σ H' F' ρ' → XR g F' c x cls dd → W cls dd σ H'
  | .bad => False
theorem tF_lc (hv : vs.all (fun j => !fx.ow.contains j) = true) (hs : is.all (fun j => vs.contains j) = true) (h : tF g fx W (ei || (ec || ee)) (eLC vs t c e mi) σ H Q) :
    tLc (tI g fx W ei mi) (tG g fx is t) (tB g fx W0 ec c) (tE g fx W0 true ee e) vs σ H Q := by
  obtain ⟨F, ρ, S, h⟩ := h
  refine ⟨F, ρ, S, ?_⟩
  unfold eLC M.bind at h
  cases e1 : mi ρ with
  | bad => rw [e1] at h; exact h
  | exn c x r1 => rw [e1] at h; exact h
  | ok ds ρ1 =>
    rw [e1] at h
    intro J H1 F1 G1 S1 R1 D hD
    dsimp only at h
    cases e2 : lcLoop vs t c e ds (wipeR ρ1 vs) with
    | bad => rw [e2] at h; exact h.elim
    | exn _ _ _ => rw [e2] at h; exact h.elim
    | ok xs ρ' =>
      rw [e2] at h
      refine lc_turns hv hs S1 R1 hD e2 fun Hc Fc accV Sc Gc hDc rc hFD => ?_
      have hD0 : fx.H0 D = none := S1.fresh hD
      refine h D Hc Fc (G1.trans Gc.block) (S1.back Sc Gc hv) hFD ⟨accV, hDc, rc⟩ hD0 (fun i d hi hs => ?_) (.inl ?_)
      · obtain ⟨d', hi'⟩ := Gc.block.o i d hi
        obtain ⟨a, ea, _, o, _⟩ := S1.ow i d' hi'
        rw [hs] at ea
        cases ea
        obtain ⟨u, hu⟩ := o.there
        rw [hD] at hu; cases hu
      · cases z : H D with
        | none => rfl
        | some u =>
          obtain ⟨w, hw⟩ := G1.d D u z
          rw [hD] at hw; cases hw
end
end DL

set_option Elab.async false
set_option linter.all false
set_option maxRecDepth 100000
set_option maxHeartbeats 4000000
namespace DL
open PySem PySem.Spec PyProof.Rows L2

section
variable {X : Cx} {fx : Fx} {W : WX} {ei ec ee : Bool} {is : List Nat} {t : D → Rho → R Rho} {c : M Bool} {e : M D} {mi : M (List D)} {elt tg iter : Expr} {ifs : List Expr} {scope : Scope} {own : List (Str × Nat)} {pos spos : Pos}
def STs (X : Cx) (fx : Fx) (eff : Bool) (es : List Expr) (m : M Bool) : Prop := PTs X es (tB (gx X) fx W0 eff m)
theorem sts_nil : STs X fx false [] (M.pure true) := ⟨fun pins s σ H Q I h => pts_nil.run pins s σ H Q I (by
  obtain ⟨F, ρ, S, h⟩ := h
  exact h H F (Go.refl S.s) S)⟩
theorem sts_one {a : Expr} {m : M Bool} (h : SB X fx W0 ec a m) : STs X fx ec [a] m := pts_one h
/-- [elt for tg in iter if ..] -/
theorem se_lc (own : List (Str × Nat)) (hc : X.calm = true) (hN : X.N.Nodup) (hi : SI X fx W ei tg iter mi) (ok : BlkOk X.N X.env.scope scope own)
    (hg : ∀ (s : Shared) (H : Hp) (C : Addr) (cl : List (Str × Addr)) (fp : List Addr), SG (X.blk s H scope (compEnvC scope cl C X.env) fp) fx is tg t) (ht : ∀ (s : Shared) (H : Hp) (C : Addr) (cl : List (Str × Addr)) (fp : List Addr), STs (X.blk s H scope (compEnvC scope cl C X.env) fp) fx ec ifs c)
    (he : ∀ (s : Shared) (H : Hp) (C : Addr) (cl : List (Str × Addr)) (fp : List Addr), SE (X.blk s H scope (compEnvC scope cl C X.env) fp) fx W0 true ee elt e)
    (hv : (own.map (·.2)).all (fun j => !fx.ow.contains j) = true := by rfl) (hs : is.all (fun j => (own.map (·.2)).contains j) = true := by rfl) (hf : ∀ x, foldedSetIterable iter X.env x = pure x := by intro _; rfl) :
    SE X fx W true (ei || (ec || ee)) (.ListComp elt [⟨tg, iter, ifs, 0⟩] scope pos) (eLC (own.map (·.2)) t c e mi) :=
  PE.imp (pe_lc (g := tG (gx X) fx is t) (tt := tB (gx X) fx W0 ec c) (te := tE (gx X) fx W0 true ee e) hc hN hi ok hg ht he hf) fun σ H Q q => tE_lc hv hs q
end

/-! ### statements -/
/-- the state's own objects -/
def OwnA (σ : L2.St) (ρ : Rho) (a : Addr) : Prop := ∃ (i : Nat) (d : D), ρ[i]? = some (.ow d) ∧ σ[i]? = some (some (.ref a))
/-- from here to there, statements between -/
structure Gs (σ : L2.St) (F H : Hp) (ρ : Rho) (σ' : L2.St) (F' H' : Hp) (ρ' : Rho) : Prop where
  f : Sub F F'
  n : ∀ a o, F' a = some o → F a = some o ∨ H a = none ∨ OwnA σ ρ a
  k : ∀ a o, H a = some o → ¬ OwnA σ ρ a → H' a = some o
  o : ∀ a, OwnA σ' ρ' a → OwnA σ ρ a ∨ H a = none
  d : ∀ a o, H a = some o → ∃ u, H' a = some u
theorem Gs.refl {σ : L2.St} {F H : Hp} {ρ : Rho} : Gs σ F H ρ σ F H ρ := ⟨Sub.refl _, fun _ _ h => .inl h, fun _ _ h _ => h, fun _ h => .inl h, fun _ o h => ⟨o, h⟩⟩
theorem Gs.trans {σ σ1 σ2 : L2.St} {F H F1 H1 F2 H2 : Hp} {ρ ρ1 ρ2 : Rho} (a : Gs σ F H ρ σ1 F1 H1 ρ1) (b : Gs σ1 F1 H1 ρ1 σ2 F2 H2 ρ2) : Gs σ F H ρ σ2 F2 H2 ρ2 where
  f := a.f.trans b.f
  n := fun x o h => by
    rcases b.n x o h with q | q | q
    · exact a.n x o q
    · refine .inr (.inl ?_)
      cases e : H x with
      | none => rfl
      | some u =>
        obtain ⟨w, hw⟩ := a.d x u e
        rw [hw] at q
        cases q
    · rcases a.o x q with z | z
      · exact .inr (.inr z)
      · exact .inr (.inl z)
  k := fun x o h q => b.k x o (a.k x o h q) fun z => by
    rcases a.o x z with w | w
    · exact q w
    · rw [h] at w; cases w
  o := fun x h => by
    rcases b.o x h with q | q
    · exact a.o x q
    · right
      cases e : H x with
      | none => rfl
      | some u =>
        obtain ⟨w, hw⟩ := a.d x u e
        rw [hw] at q
        cases q
  d := fun x o h => by
    obtain ⟨u, hu⟩ := a.d x o h
    exact b.d x u hu
theorem Go.gs {e : Bool} {σ : L2.St} {F H F' H' : Hp} {ρ ρ' : Rho} (G : Go e σ F H ρ F' H' ρ') : Gs σ F H ρ σ F' H' ρ' where
  f := G.f
  n := fun a o h => by
    rcases G.n a o h with q | q | ⟨i, d, q⟩
    · exact .inl q
    · exact .inr (.inl q)
    · exact .inr (.inr ⟨i, d, q⟩)
  k := fun a o h q => G.k a o h fun i d h1 h2 => q ⟨i, d, h1, h2⟩
  o := fun a ⟨i, d, h1, h2⟩ => by
    obtain ⟨e, h3⟩ := G.o i d h1
    exact .inl ⟨i, e, h3, h2⟩
  d := G.d
/-- a store of clean data -/
theorem Gs.to {σ σ' : L2.St} {F H : Hp} {ρ ρ' : Rho} {is : List Nat} (n : NoOw ρ ρ') (t : Touch is σ σ') (u : ∀ (i : Nat), i ∈ is → ∀ d, ρ'[i]? ≠ some (.ow d)) : Gs σ F H ρ σ' F H ρ' :=
  ⟨Sub.refl _, fun _ _ h => .inl h, fun _ _ h _ => h, fun a ⟨i, d, h1, h2⟩ => .inl ⟨i, d, n i d h1, by
    have ni : i ∉ is := fun z => u i z d h1
    rw [t.2 i ni] at h2
    exact h2⟩, fun _ o h => ⟨o, h⟩⟩

inductive SO where
  | nx (r : Rho) | ret (d : D) (r : Rho) | brk (r : Rho) | ct (r : Rho) | exn (c : Str) (v : D) (r : Rho) | bad
  /-- whatever the place of a new object -/
  | any (f : Addr → SO)
abbrev MS := Rho → SO
/-- what is handed back -/
def RV (g : Gx) (fx : Fx) (F H : Hp) (d : D) (v : V) : Prop := match fx.rk with
  | .cl => Rep g F d v
  | .fr => ∃ a, v = .ref a ∧ F a = none ∧ Own g F H a d ∧ fx.H0 a = none
  | .pl => Pool g F H fx.H0 v d
  | .cw N => Rep g F d v ∧ N fx.H0 F d v
def sPost (g : Gx) (fx : Fx) (W : WX) (E : Ends) (σ : L2.St) (F H : Hp) (ρ : Rho) : SO → Prop
  | .nx ρ' => ∀ σ' H' F', Gs σ F H ρ σ' F' H' ρ' → ST g fx σ' H' F' ρ' → E.nx σ' H'
  | .ret d ρ' => ∀ v σ' H' F', ST g fx σ' H' F' ρ' → RV g fx F' H' d v → E.rt v H'
  | .brk ρ' => ∀ σ' H' F', Gs σ F H ρ σ' F' H' ρ' → ST g fx σ' H' F' ρ' → E.bk σ' H'
  | .ct ρ' => ∀ σ' H' F', Gs σ F H ρ σ' F' H' ρ' → ST g fx σ' H' F' ρ' → E.ct σ' H'
  | .exn c x ρ' => ∀ cls dd σ' H' F', Gs σ F H ρ σ' F' H' ρ' → ST g fx σ' H' F' ρ' → XR g F' c x cls dd → W cls dd σ' H'
  | .bad => False
  | .any f => ∀ a, sPost g fx W E σ F H ρ (f a)
def tS (g : Gx) (fx : Fx) (W : WX) (m : MS) : TS := fun E σ H => ∃ F ρ, ST g fx σ H F ρ ∧ sPost g fx W E σ F H ρ (m ρ)
theorem sPost.mono {g : Gx} {fx : Fx} {W : WX} {E : Ends} {σ σ1 : L2.St} {F H F1 H1 : Hp} {ρ ρ1 : Rho} : ∀ {s : SO}, sPost g fx W E σ F H ρ s → Gs σ F H ρ σ1 F1 H1 ρ1 → sPost g fx W E σ1 F1 H1 ρ1 s
  | .nx r, h, G => fun σ' H' F2 k => h σ' H' F2 (G.trans k)
  | .ret d r, h, G => h
  | .brk r, h, G => fun σ' H' F2 k => h σ' H' F2 (G.trans k)
  | .ct r, h, G => fun σ' H' F2 k => h σ' H' F2 (G.trans k)
  | .exn c x r, h, G => fun cls dd σ' H' F2 k => h cls dd σ' H' F2 (G.trans k)
  | .bad, h, G => h
  | .any f, h, G => fun a => sPost.mono (h a) G
def SS (X : Cx) (fx : Fx) (W : WX) (st : Stmt) (m : MS) : Prop := PS X st (tS (gx X) fx W m)
def SSs (X : Cx) (fx : Fx) (W : WX) (st : List Stmt) (m : MS) : Prop := PSs X st (tS (gx X) fx W m)

def sNext : MS := fun ρ => .nx ρ
/-- behind a statement that goes on -/
def SO.then (o : SO) (k : MS) : SO := match o with
  | .nx ρ => k ρ
  | .any f => .any fun a => (f a).then k
  | .ret d ρ => .ret d ρ
  | .brk ρ => .brk ρ
  | .ct ρ => .ct ρ
  | .exn c x ρ => .exn c x ρ
  | .bad => .bad
def sSeq (a b : MS) : MS := fun ρ => (a ρ).then b
/-- what an expression gives, then what is done with it -/
def sDo {α : Type} (m : M α) (k : α → MS) : MS := fun ρ => match m ρ with
  | .ok a ρ1 => k a ρ1
  | .exn c x ρ1 => .exn c x ρ1
  | .bad => .bad
def sTo (t : D → Rho → R Rho) (d : D) : MS := fun ρ => match t d ρ with
  | .ok ρ1 => .nx ρ1
  | .bad => .bad
def sAsg (m : M D) (t : D → Rho → R Rho) : MS := sDo m (sTo t)
def sRet (m : M D) : MS := sDo m fun d ρ => .ret d ρ
def sRetN : MS := fun ρ => .ret .non ρ
def sDrop (m : M D) : MS := sDo m fun _ ρ => .nx ρ
def sIf (c : M Bool) (a b : MS) : MS := sDo c fun k => if k then a else b
def sBrk : MS := fun ρ => .brk ρ
def sCt : MS := fun ρ => .ct ρ
/-- behind a turn of a loop -/
def SO.turn (o : SO) (k : MS) : SO := match o with
  | .nx ρ => k ρ
  | .ct ρ => k ρ
  | .brk ρ => .nx ρ
  | .any f => .any fun a => (f a).turn k
  | .ret d ρ => .ret d ρ
  | .exn c x ρ => .exn c x ρ
  | .bad => .bad
/-- a loop over what is walked -/
def forLoop (t : D → Rho → R Rho) (b : MS) : List D → MS
  | [], ρ => .nx ρ
  | d :: ds, ρ => match t d ρ with
    | .bad => .bad
    | .ok ρ1 => (b ρ1).turn (forLoop t b ds)
def sFor (t : D → Rho → R Rho) (it : M (List D)) (b : MS) : MS := sDo it fun ds => forLoop t b ds
/-- a while, at most so many turns -/
def whLoop (c : M Bool) (b : MS) : Nat → MS
  | 0, _ => .bad
  | n + 1, ρ => match c ρ with
    | .bad => .bad
    | .exn c x ρ1 => .exn c x ρ1
    | .ok false ρ1 => .nx ρ1
    | .ok true ρ1 => (b ρ1).turn (whLoop c b n)

section
variable {g : Gx} {fx : Fx} {W : WX} {E : Ends} {σ : L2.St} {H : Hp} {ma mb : MS} {c : M Bool} {m : M D} {ca ea : Bool} {is : List Nat} {t : D → Rho → R Rho} {mi : M (List D)}
theorem tS_next (h : tS g fx W sNext E σ H) : tNext E σ H := by
  obtain ⟨F, ρ, S, h⟩ := h
  exact h σ H F Gs.refl S
/-- .then, by its parts -/
theorem post_then {k : MS} {F H : Hp} {ρ : Rho} {E' : Ends} (hn : E'.nx = tS g fx W k E) (hr : E'.rt = E.rt) (hb : E'.bk = E.bk) (hc : E'.ct = E.ct) : ∀ {s : SO}, sPost g fx W E σ F H ρ (s.then k) → sPost g fx W E' σ F H ρ s
  | .nx ρ1, h => fun σ' H' F' G S' => by
    rw [hn]
    exact ⟨F', ρ1, S', sPost.mono h G⟩
  | .ret d r, h => by
    intro v σ' H' F' S' q
    rw [hr]
    exact h v σ' H' F' S' q
  | .brk r, h => by
    intro σ' H' F' G S'
    rw [hb]
    exact h σ' H' F' G S'
  | .ct r, h => by
    intro σ' H' F' G S'
    rw [hc]
    exact h σ' H' F' G S'
  | .exn c x r, h => h
  | .bad, h => h
  | .any f, h => fun a => post_then hn hr hb hc (h a)
/-- .turn, by its parts -/
theorem post_turn {k : MS} {F H : Hp} {ρ : Rho} {N : L2.St → Hp → Prop} {E' : Ends} (hk : ∀ ρ1, sPost g fx W E σ F H ρ (k ρ1) → ∀ σ' H' F', Gs σ F H ρ σ' F' H' ρ1 → ST g fx σ' H' F' ρ1 → N σ' H') (hn : E'.nx = N) (hc : E'.ct = N) (hr : E'.rt = E.rt) (hb : E'.bk = E.nx) :
    ∀ {s : SO}, sPost g fx W E σ F H ρ (s.turn k) → sPost g fx W E' σ F H ρ s
  | .nx ρ1, h => by
    intro σ' H' F' G S'
    rw [hn]
    exact hk ρ1 h σ' H' F' G S'
  | .ct ρ1, h => by
    intro σ' H' F' G S'
    rw [hc]
    exact hk ρ1 h σ' H' F' G S'
  | .brk r, h => by
    intro σ' H' F' G S'
    rw [hb]
    exact h σ' H' F' G S'
  | .ret d r, h => by
    intro v σ' H' F' S' q
    rw [hr]
    exact h v σ' H' F' S' q
  | .exn c x r, h => h
  | .bad, h => h
  | .any f, h => fun a => post_turn hk hn hc hr hb (h a)
theorem tS_seq (h : tS g fx W (sSeq ma mb) E σ H) : tSeq (tS g fx W ma) (tS g fx W mb) E σ H := by
  obtain ⟨F, ρ, S, h⟩ := h
  exact ⟨F, ρ, S, post_then (E' := { E with nx := tS g fx W mb E }) rfl rfl rfl rfl h⟩
theorem xgs {F : Hp} {ρ ρ' : Rho} {c : Str} {x : D} (h : ∀ cls dd σ' H' F', Gs σ F H ρ σ' F' H' ρ' → ST g fx σ' H' F' ρ' → XR g F' c x cls dd → W cls dd σ' H') : ∀ cls dd H' F', Go true σ F H ρ F' H' ρ' → ST g fx σ H' F' ρ' → XR g F' c x cls dd → W cls dd σ H' :=
  fun cls dd H' F' G => h cls dd σ H' F' G.gs
/-- what a target stores -/
def TgOk (is : List Nat) (t : D → Rho → R Rho) : Prop := ∀ d ρ ρ', t d ρ = .ok ρ' → ∀ (i : Nat), i ∈ is → ∀ e, ρ'[i]? ≠ some (.ow e)
theorem tS_asg (ht : TgOk is t) (h : tS g fx W (sAsg m t) E σ H) : tAsg (tE g fx W true ea m) (tG g fx is t) E σ H := by
  obtain ⟨F, ρ, S, h⟩ := h
  refine ⟨F, ρ, S, ?_⟩
  unfold sAsg sDo at h
  cases e : m ρ with
  | bad => rw [e] at h; exact h
  | exn c x r =>
    rw [e] at h
    exact xgs h
  | ok d ρ1 =>
    rw [e] at h
    intro v H1 F1 G1 S1 r1
    refine ⟨F1, ρ1, d, S1, r1, ?_⟩
    dsimp only [sTo] at h
    cases e2 : t d ρ1 with
    | bad => rw [e2] at h; exact h
    | ok ρ2 =>
      rw [e2] at h
      exact fun σ' S' T N U => h σ' H1 F1 (G1.gs.trans (Gs.to N T (ht d ρ1 ρ2 e2))) S'
theorem tS_ret (hk : fx.rk = .cl) (h : tS g fx W (sRet m) E σ H) : tRet (tE g fx W true ea m) E σ H := by
  obtain ⟨F, ρ, S, h⟩ := h
  refine ⟨F, ρ, S, ?_⟩
  unfold sRet sDo at h
  cases e : m ρ with
  | bad => rw [e] at h; exact h
  | exn c x r =>
    rw [e] at h
    exact xgs h
  | ok d ρ1 =>
    rw [e] at h
    exact fun v H1 F1 G1 S1 r1 => h v σ H1 F1 S1 (by unfold RV; rw [hk]; exact r1)
theorem tS_retN (hk : fx.rk = .cl) (h : tS g fx W sRetN E σ H) : tRetN E σ H := by
  obtain ⟨F, ρ, S, h⟩ := h
  exact h .non σ H F S (by unfold RV; rw [hk]; simp only [Rep])
theorem tS_drop (h : tS g fx W (sDrop m) E σ H) : tDrop (tE g fx W ca ea m) E σ H := by
  obtain ⟨F, ρ, S, h⟩ := h
  refine ⟨F, ρ, S, ?_⟩
  unfold sDrop sDo at h
  cases e : m ρ with
  | bad => rw [e] at h; exact h
  | exn c x r =>
    rw [e] at h
    exact xgs h
  | ok d ρ1 =>
    rw [e] at h
    exact fun v H1 F1 G1 S1 r1 => h σ H1 F1 G1.gs S1
theorem tS_if (h : tS g fx W (sIf c ma mb) E σ H) : tIfS (tB g fx W ea c) (tS g fx W ma) (tS g fx W mb) E σ H := by
  obtain ⟨F, ρ, S, h⟩ := h
  refine ⟨F, ρ, S, ?_⟩
  unfold sIf sDo at h
  cases e : c ρ with
  | bad => rw [e] at h; exact h
  | exn c x r =>
    rw [e] at h
    exact xgs h
  | ok k ρ1 =>
    rw [e] at h
    intro H1 F1 G1 S1
    cases k with
    | true =>
      rw [if_pos rfl]
      exact ⟨F1, ρ1, S1, sPost.mono h G1.gs⟩
    | false =>
      rw [if_neg (by decide)]
      exact ⟨F1, ρ1, S1, sPost.mono h G1.gs⟩
theorem Grow.gs {F H F' H' : Hp} {ρ : Rho} (G : Grow F H F' H') : Gs σ F H ρ σ F' H' ρ := (Go.of (eff := true) G).gs
theorem tS_for (ht : TgOk is t) (h : tS g fx W (sFor t mi ma) E σ H) : tFor (tI g fx W ea mi) (tG g fx is t) (tS g fx W ma) E σ H := by
  obtain ⟨F, ρ, S, h⟩ := h
  refine ⟨F, ρ, S, ?_⟩
  unfold sFor sDo at h
  cases e : mi ρ with
  | bad => rw [e] at h; exact h
  | exn c x r =>
    rw [e] at h
    exact xgs h
  | ok ds ρ1 =>
    rw [e] at h
    intro J H1 F1 G1 S1 R1
    let Pv : Nat → L2.St → Hp → Prop := fun i σc Hc => i ≤ ds.length ∧ ∃ Fc ρc, ST g fx σc Hc Fc ρc ∧ Sub F1 Fc ∧ sPost g fx W E σc Fc Hc ρc (forLoop t ma (ds.drop i) ρc)
    refine ⟨fun i n σc Hc => n = ds.length - i ∧ Pv i σc Hc, ⟨ds.length, by simp, Nat.zero_le _, F1, ρ1, S1, Sub.refl _, ?_⟩, ?_⟩
    · rw [List.drop_zero]
      exact sPost.mono h G1.gs
    · rintro i n σc Hc ⟨rfl, hi, Fc, ρc, Sc, fc, hq⟩
      by_cases hlt : i < ds.length
      · refine .inr ⟨R1.go i Hc Fc fc Sc.s hlt, Pv (i + 1), fun σ' H' p => ⟨ds.length - (i + 1), by omega, rfl, p⟩, fun x H' y => ?_⟩
        obtain ⟨F', G', r'⟩ := R1.yld i Hc Fc x H' ds[i] fc Sc.s (List.getElem?_eq_getElem hlt) y
        have S' := Sc.grow G'
        have ed : ds.drop i = ds[i] :: ds.drop (i + 1) := List.drop_eq_getElem_cons hlt
        rw [ed] at hq
        dsimp only [forLoop] at hq
        refine ⟨F', ρc, ds[i], S', r', ?_⟩
        cases et : t ds[i] ρc with
        | bad => rw [et] at hq; exact hq
        | ok ρ2 =>
          rw [et] at hq
          intro σ2 S2 T2 N2 U2
          have G2 : Gs σc Fc Hc ρc σ2 F' H' ρ2 := (Grow.gs G').trans (Gs.to N2 T2 (ht _ _ _ et))
          refine ⟨F', ρ2, S2, ?_⟩
          have hq' : sPost g fx W E σ2 F' H' ρ2 ((ma ρ2).turn (forLoop t ma (ds.drop (i + 1)))) := sPost.mono hq G2
          exact post_turn (E := E) (E' := { E with nx := Pv (i + 1), ct := Pv (i + 1), bk := E.nx }) (N := Pv (i + 1)) (fun ρ3 h3 σ3 H3 F3 G3 S3 => ⟨hlt, F3, ρ3, S3, (fc.trans G'.f).trans G3.f, sPost.mono h3 G3⟩) rfl rfl rfl rfl hq'
      · have ei : i = ds.length := by omega
        subst ei
        rw [List.drop_length] at hq
        exact .inl ⟨R1.stop _ Hc Fc fc Sc.s (Nat.le_refl _), hq σc Hc Fc Gs.refl Sc⟩
theorem tS_while {n : Nat} (h : tS g fx W (whLoop c ma n) E σ H) : tWhile (tB g fx W ea c) (tS g fx W ma) E σ H := by
  refine ⟨fun n σ' H' => tS g fx W (whLoop c ma n) E σ' H', ⟨n, h⟩, fun n σ1 H1 h => ?_⟩
  obtain ⟨F, ρ, S, h⟩ := h
  refine ⟨F, ρ, S, ?_⟩
  cases n with
  | zero => exact h.elim
  | succ n =>
    unfold whLoop at h
    cases e : c ρ with
    | bad => rw [e] at h; exact h
    | exn c x r =>
      rw [e] at h
      exact xgs h
    | ok k ρ1 =>
      rw [e] at h
      intro H2 F2 G2 S2
      cases k with
      | false =>
        rw [if_neg (by decide)]
        exact h σ1 H2 F2 G2.gs S2
      | true =>
        rw [if_pos rfl]
        refine ⟨tS g fx W (whLoop c ma n) E, fun σ' H' q => ⟨n, Nat.lt_succ_self n, q⟩, F2, ρ1, S2, ?_⟩
        have h2 : sPost g fx W E σ1 F2 H2 ρ1 ((ma ρ1).turn (whLoop c ma n)) := sPost.mono h G2.gs
        exact post_turn (E := E) (E' := { E with nx := tS g fx W (whLoop c ma n) E, ct := tS g fx W (whLoop c ma n) E, bk := E.nx }) (N := tS g fx W (whLoop c ma n) E) (fun ρ3 h3 σ3 H3 F3 G3 S3 => ⟨F3, ρ3, S3, sPost.mono h3 G3⟩) rfl rfl rfl rfl h2
end

theorem tgName_ok {i : Nat} : TgOk [i] (tgName i) := fun d ρ ρ' h j hj e q => by
  have z : j = i := by simpa using hj
  subst z
  cases h
  rcases set_get q with ⟨_, w⟩ | ⟨w, _⟩
  · cases w
  · exact w rfl
theorem tgAll_ok : ∀ {is : List Nat} {ds : List D} {ρ ρ' : Rho}, tgAll is ds ρ = .ok ρ' → ∀ (j : Nat), (j ∈ is ∨ ∀ e, ρ[j]? ≠ some (.ow e)) → ∀ e, ρ'[j]? ≠ some (.ow e)
  | [], [], ρ, ρ', h, j, hj, e => by
    cases h
    rcases hj with hj | hj
    · cases hj
    · exact hj e
  | [], _ :: _, _, _, h, _, _, _ => by cases h
  | _ :: _, [], _, _, h, _, _, _ => by cases h
  | i :: is, d :: ds, ρ, ρ', h, j, hj, e => by
    refine tgAll_ok (is := is) (ds := ds) (ρ := ρ.set i (.cl d)) h j ?_ e
    by_cases z : j = i
    · right
      intro e' q
      rcases set_get q with ⟨_, w⟩ | ⟨w, _⟩
      · cases w
      · exact w z.symm
    · rcases hj with hj | hj
      · rcases List.mem_cons.mp hj with q | q
        · exact absurd q z
        · exact .inl q
      · right
        intro e' q
        rcases set_get q with ⟨_, w⟩ | ⟨_, w⟩
        · cases w
        · exact hj e' w
theorem tgTup_ok {is : List Nat} : TgOk is (tgTup is) := fun d ρ ρ' h j hj e => by
  cases d <;> first
    | exact tgAll_ok (by exact h) j (.inl hj) e
    | cases h
section
variable {X : Cx} {fx : Fx} {W : WX} {ma mb : MS} {c : M Bool} {m : M D} {ca ea ei ec ee : Bool} {is : List Nat} {t : D → Rho → R Rho} {mi : M (List D)} {st : Stmt} {sts body orelse : List Stmt} {e tg iter test : Expr} {pos spos : Pos}
theorem sss_nil : SSs X fx W [] sNext := PSs.imp pss_nil fun E σ H h => tS_next h
theorem sss_cons (h1 : SS X fx W st ma) (h2 : SSs X fx W sts mb) : SSs X fx W (st :: sts) (sSeq ma mb) := PSs.imp (pss_cons h1 h2) fun E σ H h => tS_seq h
theorem sss_one (h1 : SS X fx W st ma) : SSs X fx W [st] ma := pss_one h1
theorem ss_pass : SS X fx W (.Pass pos) sNext := PS.imp ps_pass fun E σ H h => tS_next h
theorem ss_brk : SS X fx W (.Break pos) sBrk := PS.imp ps_break fun E σ H h => by
  obtain ⟨F, ρ, S, h⟩ := h
  exact h σ H F Gs.refl S
theorem ss_ct : SS X fx W (.Continue pos) sCt := PS.imp ps_continue fun E σ H h => by
  obtain ⟨F, ρ, S, h⟩ := h
  exact h σ H F Gs.refl S
theorem ss_asg (he : SE X fx W true ea e m) (hg : SG X fx is tg t) (ht : TgOk is t := by first | exact tgName_ok | exact tgTup_ok) (hs : swapsWithSole [tg] e pos.line X.env = pure false := by rfl) (hw : swappedStores [tg] e X.env = pure none := by rfl)
    (h1 : (assignEach [tg] X.env).map (·.2) = [assign tg X.env] := by rfl) : SS X fx W (.Assign [tg] e pos) (sAsg m t) := PS.imp (ps_asg he hg hs hw h1) fun E σ H h => tS_asg ht h
theorem ss_ret (he : SE X fx W true ea e m) (hk : fx.rk = .cl := by rfl) : SS X fx W (.Return (some e) pos) (sRet m) := PS.imp (ps_ret he) fun E σ H h => tS_ret hk h
theorem ss_retN (hk : fx.rk = .cl := by rfl) : SS X fx W (.Return none pos) sRetN := PS.imp ps_retN fun E σ H h => tS_retN hk h
theorem ss_expr (he : SE X fx W ca ea e m) (hs : swapsWith e none pos.line X.env = pure false := by rfl) : SS X fx W (.Expr e pos) (sDrop m) := PS.imp (ps_expr he hs) fun E σ H h => tS_drop h
theorem ss_if (hc : SB X fx W ea test c) (ha : SSs X fx W body ma) (hb : SSs X fx W orelse mb) : SS X fx W (.If test body orelse pos) (sIf c ma mb) := PS.imp (ps_if hc ha hb) fun E σ H h => tS_if h
theorem ss_for (hp : PassesOwn (model X.prog X.w) X.A X.env X.xe) (hc : X.calm = true) (hi : SI X fx W ei tg iter mi) (hg : SG X fx is tg t) (hb : SSs X fx W body ma) (ht : TgOk is t := by first | exact tgName_ok | exact tgTup_ok) (hs : ∀ x, foldedSetIterable iter X.env x = pure x := by intro _; rfl) :
    SS X fx W (.For tg iter body [] pos) (sFor t mi ma) := PS.imp (ps_for hp hc hi hg hb hs) fun E σ H h => tS_for ht h
theorem ss_while (n : Nat) (hp : PassesOwn (model X.prog X.w) X.A X.env X.xe) (hc : SB X fx W ea test c) (hb : SSs X fx W body ma) : SS X fx W (.While test body [] pos) (whLoop c ma n) := PS.imp (ps_while hp hc hb) fun E σ H h => tS_while h
/-- name = [..] -/
theorem ss_asgLc {i : Nat} {y : Str} {py : Pos} {elt : Expr} {ifs : List Expr} {scope : Scope} (own : List (Str × Nat)) {em : M D} (hc : X.calm = true) (hN : X.N.Nodup) (hi : SI X fx W ei tg iter mi) (ok : BlkOk X.N X.env.scope scope own)
    (hg : ∀ (s : Shared) (H : Hp) (C : Addr) (cl : List (Str × Addr)) (fp : List Addr), SG (X.blk s H scope (compEnvC scope cl C X.env) fp) fx is tg t) (ht : ∀ (s : Shared) (H : Hp) (C : Addr) (cl : List (Str × Addr)) (fp : List Addr), STs (X.blk s H scope (compEnvC scope cl C X.env) fp) fx ec ifs c)
    (he : ∀ (s : Shared) (H : Hp) (C : Addr) (cl : List (Str × Addr)) (fp : List Addr), SE (X.blk s H scope (compEnvC scope cl C X.env) fp) fx W0 true ee elt em)
    (hy : X.N[i]? = some y := by rfl) (hyl : X.env.scope.names.lookup y = some .local := by rfl) (hsw : swapsWith (.ListComp elt [⟨tg, iter, ifs, 0⟩] scope pos) (some (.Name y py)) spos.line X.env = pure true := by exact (sw_true rfl rfl rfl (by decide +kernel))) (ho : fx.ow.contains i = false := by rfl)
    (hv : (own.map (·.2)).all (fun j => !fx.ow.contains j) = true := by rfl) (hs : is.all (fun j => (own.map (·.2)).contains j) = true := by rfl) (hf : ∀ x, foldedSetIterable iter X.env x = pure x := by intro _; rfl) :
    SS X fx W (.Assign [.Name y py] (.ListComp elt [⟨tg, iter, ifs, 0⟩] scope pos) spos) (sAsg (eLC (own.map (·.2)) t c em mi) (tgName i)) :=
  PS.imp (ps_setLc (g := tG (gx X) fx is t) (tt := tB (gx X) fx W0 ec c) (te := tE (gx X) fx W0 true ee em) hc hN hy hyl hsw hi ok hg ht he hf) fun E σ H h => by
    have q : tAsg (tE (gx X) fx W true (ei || (ec || ee)) (eLC (own.map (·.2)) t c em mi)) (tG (gx X) fx [i] (tgName i)) E σ H := tS_asg tgName_ok h
    have q2 : tE (gx X) fx W true (ei || (ec || ee)) (eLC (own.map (·.2)) t c em mi) σ H fun x H1 => gName i x σ H1 E.nx := by
      obtain ⟨F, ρ, S, q⟩ := q
      refine ⟨F, ρ, S, ?_⟩
      cases e1 : eLC (own.map (·.2)) t c em mi ρ with
      | bad => rw [e1] at q; exact q
      | exn _ _ _ => rw [e1] at q; exact q
      | ok d ρ1 =>
        rw [e1] at q
        exact fun v H' F' G' S' r' => tG_name ho (q v H' F' G' S' r')
    exact tE_lc hv hs q2
end
end DL

set_option Elab.async false
set_option linter.all false
set_option maxRecDepth 100000
set_option maxHeartbeats 4000000
namespace DL
open PySem PySem.Spec PyProof.Rows L2

/-! ### what a def computes -/
inductive FO where
  | ok (d : D) (outs : List D) | exn (c : Str) (v : D) (outs : List D) | bad
  | any (f : Addr → FO)
abbrev Fn := List D → FO
/-- behind a call: what stood stands, but the handed over lists and dicts -/
structure After (g : Gx) (mask : List Nat) (F H : Hp) (vs : List V) (outs : List D) (F' H' : Hp) : Prop where
  s : Sub F' H'
  f : Sub F F'
  n : ∀ a o, F' a = some o → F a = some o ∨ H a = none
  k : ∀ a o, H a = some o → (∀ i ∈ mask, vs[i]? ≠ some (.ref a)) → H' a = some o
  o : ∀ (j : Nat) i, mask[j]? = some i → ∃ a d, vs[i]? = some (.ref a) ∧ outs[j]? = some d ∧ F' a = none ∧ Own g F' H' a d
  l : outs.length = mask.length
structure Args (g : Gx) (mask : List Nat) (F H : Hp) (ds : List D) (vs : List V) : Prop where
  s : Sub F H
  len : vs.length = ds.length
  ow : ∀ (i : Nat) d, i ∈ mask → ds[i]? = some d → ∃ a, vs[i]? = some (.ref a) ∧ F a = none ∧ Own g F H a d
  cl : ∀ (i : Nat) d, i ∉ mask → ds[i]? = some d → ∃ v, vs[i]? = some v ∧ Rep g F d v
  inj : ∀ (i j : Nat) a, i ∈ mask → j ∈ mask → vs[i]? = some (.ref a) → vs[j]? = some (.ref a) → i = j
  all : ∀ i ∈ mask, i < ds.length
/-- what is handed back, H the heap at the call -/
def RC (g : Gx) (rk : Rk) (H F' H' : Hp) (d : D) (v : V) : Prop := match rk with
  | .cl => Rep g F' d v
  | .fr => ∃ a, v = .ref a ∧ F' a = none ∧ Own g F' H' a d ∧ H a = none
  | .pl => Pool g F' H' H v d
  | .cw N => Rep g F' d v ∧ N H F' d v
def fPost (g : Gx) (mask : List Nat) (rk : Rk) (F H : Hp) (vs : List V) (Q : VK) (E : XK) : FO → Prop
  | .ok d outs => ∀ v H' F', After g mask F H vs outs F' H' → RC g rk H F' H' d v → Q v H'
  | .exn c x outs => ∀ cls dd H' F', After g mask F H vs outs F' H' → XR g F' c x cls dd → E cls dd H'
  | .bad => False
  | .any f => ∀ a, fPost g mask rk F H vs Q E (f a)
def spOf (g : Gx) (mask : List Nat) (rk : Rk) (n : Nat) (fn : Fn) : Sp := fun vs H Q E => ∃ F ds, Args g mask F H ds vs ∧ ds.length = n ∧ fPost g mask rk F H vs Q E (fn ds)

/-- the slots at a def's entry -/
def startR (N : Nat) (mask : List Nat) (ds : List D) : Rho := (ds.zipIdx.map fun p => if mask.contains p.2 then Sl.ow p.1 else Sl.cl p.1) ++ List.replicate (N - ds.length) .no
def outAt (x : Option Sl) : D := match x with
  | some (.ow d) => d
  | _ => .non
def outsOf (mask : List Nat) (ρ : Rho) : List D := mask.map fun (i : Nat) => outAt ρ[i]?
def SO.fo (mask : List Nat) (rk : Rk) : SO → FO
  | .nx ρ => match rk with
    | .cl => .ok .non (outsOf mask ρ)
    | .fr => .bad
    | .pl => .bad
    | .cw _ => .bad
  | .ret d ρ => .ok d (outsOf mask ρ)
  | .exn c x ρ => .exn c x (outsOf mask ρ)
  | .any f => .any fun a => (f a).fo mask rk
  | _ => .bad
def runFn (N : Nat) (mask : List Nat) (rk : Rk) (m : MS) : Fn := fun ds => (m (startR N mask ds)).fo mask rk

theorem startR_get {N : Nat} {mask : List Nat} {ds : List D} {i : Nat} {x : Sl} (h : (startR N mask ds)[i]? = some x) : (∃ d, ds[i]? = some d ∧ x = if mask.contains i then Sl.ow d else Sl.cl d) ∨ (ds.length ≤ i ∧ x = .no) := by
  unfold startR at h
  by_cases hi : i < ds.length
  · rw [List.getElem?_append_left (by simpa using hi), List.getElem?_map, List.getElem?_zipIdx, List.getElem?_eq_getElem hi] at h
    refine .inl ⟨ds[i], List.getElem?_eq_getElem hi, ?_⟩
    have e := Option.some.inj h
    rw [← e]
    simp
  · rw [List.getElem?_append_right (by simp; omega), List.getElem?_replicate] at h
    refine .inr ⟨by omega, ?_⟩
    split at h
    · exact (Option.some.inj h).symm
    · cases h
theorem start_get {N : List Str} {vs : List V} {i : Nat} {v : V} (h : vs[i]? = some v) : (L2.start N vs)[i]? = some (some v) := by
  unfold L2.start
  have hi : i < vs.length := (List.getElem?_eq_some_iff.mp h).1
  rw [List.getElem?_append_left (by simpa using hi), List.getElem?_map, h]
  rfl
theorem start_get' {N : List Str} {vs : List V} {i : Nat} {v : V} (h : (L2.start N vs)[i]? = some (some v)) : vs[i]? = some v := by
  unfold L2.start at h
  by_cases hi : i < vs.length
  · rw [List.getElem?_append_left (by simpa using hi), List.getElem?_map] at h
    cases e : vs[i]? with
    | none => rw [e] at h; cases h
    | some w => rw [e] at h; cases h; rfl
  · rw [List.getElem?_append_right (by simp; omega), List.getElem?_replicate] at h
    split at h <;> cases h
/-- the handed over lists and dicts, by their parameters' places -/
def refAt (i : Nat) (x : Option V) : Option (Nat × Addr) := match x with
  | some (.ref a) => some (i, a)
  | _ => none
def ownOf (mask : List Nat) (vs : List V) : List (Nat × Addr) := mask.filterMap fun (i : Nat) => refAt i vs[i]?
theorem mem_ownOf {mask : List Nat} {vs : List V} {i : Nat} {a : Addr} : (i, a) ∈ ownOf mask vs ↔ i ∈ mask ∧ vs[i]? = some (.ref a) := by
  unfold ownOf
  rw [List.mem_filterMap]
  constructor
  · rintro ⟨j, hj, e⟩
    cases q : vs[j]? with
    | none => rw [q] at e; cases e
    | some v =>
      rw [q] at e
      cases v <;> first | cases e | skip
      exact ⟨hj, q⟩
  · rintro ⟨h1, h2⟩
    exact ⟨i, h1, by rw [h2] <;> rfl⟩
theorem st_start {g : Gx} {mask : List Nat} {rk : Rk} {F H : Hp} {ds : List D} {vs : List V} {N : List Str} (A : Args g mask F H ds vs) (hN : ds.length ≤ N.length) : ST g ⟨F, H, ownOf mask vs, mask, rk⟩ (L2.start N vs) H F (startR N.length mask ds) where
  s := A.s
  ge := Sub.refl _
  nw := fun _ _ h => .inl h
  old := fun _ _ h _ => h
  len := by
    unfold startR L2.start
    have := A.len
    simp
    omega
  cl := fun i d h => by
    rcases startR_get h with ⟨d', e, q⟩ | ⟨_, q⟩
    · by_cases c : mask.contains i = true
      · rw [if_pos c] at q; cases q
      · rw [if_neg c] at q
        cases q
        obtain ⟨v, e1, r⟩ := A.cl i d (by simpa using c) e
        exact ⟨v, start_get e1, r⟩
    · cases q
  ow := fun i d h => by
    rcases startR_get h with ⟨d', e, q⟩ | ⟨_, q⟩
    · by_cases c : mask.contains i = true
      · rw [if_pos c] at q
        cases q
        obtain ⟨a, e1, fa, o⟩ := A.ow i d (by simpa using c) e
        exact ⟨a, start_get e1, fa, o, .inr (mem_ownOf.mpr ⟨by simpa using c, e1⟩)⟩
      · rw [if_neg c] at q; cases q
    · cases q
  inj := fun i j d e a h1 h2 h3 h4 => by
    have im : ∀ {i : Nat} {d : D}, (startR N.length mask ds)[i]? = some (.ow d) → i ∈ mask := fun {i d} h => by
      rcases startR_get h with ⟨d', e, q⟩ | ⟨_, q⟩
      · by_cases c : mask.contains i = true
        · simpa using c
        · rw [if_neg c] at q; cases q
      · cases q
    exact A.inj i j a (im h1) (im h2) (start_get' h3) (start_get' h4)
  par := fun i a h => by
    obtain ⟨h1, h2⟩ := mem_ownOf.mp h
    have hi := A.all i h1
    have c : mask.contains i = true := by simpa using h1
    refine ⟨⟨ds[i], ?_⟩, start_get h2⟩
    unfold startR
    rw [List.getElem?_append_left (by simpa using hi), List.getElem?_map, List.getElem?_zipIdx, List.getElem?_eq_getElem hi]
    show some (if mask.contains (0 + i) = true then Sl.ow ds[i] else Sl.cl ds[i]) = _
    rw [Nat.zero_add, if_pos c]
  pin := fun i a h => (mem_ownOf (vs := vs).mp h).1
/-- a def's end -/
theorem st_end {g : Gx} {mask : List Nat} {rk : Rk} {F H F' H' : Hp} {ds : List D} {vs : List V} {σ : L2.St} {ρ : Rho} (A : Args g mask F H ds vs) (S : ST g ⟨F, H, ownOf mask vs, mask, rk⟩ σ H' F' ρ) : After g mask F H vs (outsOf mask ρ) F' H' where
  s := S.s
  f := S.ge
  n := S.nw
  k := fun a o h q => S.old a o h fun i hi => by
    obtain ⟨h1, h2⟩ := mem_ownOf.mp hi
    exact q i h1 h2
  o := fun j i hj => by
    have hi : i ∈ mask := List.mem_of_getElem? hj
    have hd := A.all i hi
    obtain ⟨a, e1, _, _⟩ := A.ow i ds[i] hi (List.getElem?_eq_getElem hd)
    obtain ⟨⟨d, e⟩, e2⟩ := S.par i a (mem_ownOf.mpr ⟨hi, e1⟩)
    obtain ⟨b, e3, fb, o, _⟩ := S.ow i d e
    rw [e2] at e3
    cases e3
    refine ⟨a, d, e1, ?_, fb, o⟩
    unfold outsOf
    rw [List.getElem?_map, hj]
    show some (outAt ρ[i]?) = some d
    rw [e]
    rfl
  l := by unfold outsOf; rw [List.length_map]

section
variable {P : Program} {w : World} {K : PySem.W.Frag} {mg : Str → Option Value} {base : Heap}
theorem fo_post {mask : List Nat} {rk : Rk} {F H : Hp} {ds : List D} {vs : List V} {Q : VK} {E : XK} {σ : L2.St} {ρ : Rho} (A : Args ⟨K, mg⟩ mask F H ds vs) : ∀ {o : SO}, fPost ⟨K, mg⟩ mask rk F H vs Q E (o.fo mask rk) →
    sPost ⟨K, mg⟩ ⟨F, H, ownOf mask vs, mask, rk⟩ (fun cls d _ H => E cls d H) { nx := fun _ H' => Q .non H', rt := Q } σ F H ρ o
  | .nx ρ1, h => by
    cases rk with
    | cl => exact fun σ' H' F' _ S' => h .non H' F' (st_end A S') (by show Rep _ _ _ _; simp only [Rep])
    | fr => exact h.elim
    | pl => exact h.elim
    | cw _ => exact h.elim
  | .ret d ρ1, h => fun v σ' H' F' S' r => h v H' F' (st_end A S') (by
    cases rk with
    | cl => exact r
    | fr => exact r
    | pl => exact r
    | cw _ => exact r)
  | .exn c x ρ1, h => fun cls dd σ' H' F' _ S' r => h cls dd H' F' (st_end A S') r
  | .brk _, h => h.elim
  | .ct _, h => h.elim
  | .bad, h => h.elim
  | .any f, h => fun a => fo_post A (h a)
/-- a def of the text as it stands behind the top, its defaults whatever they are -/
structure DF (K : PySem.W.Frag) (x qual : Str) (st : Stmt) (f : Addr) (fd : FuncData) : Prop where
  ex : ∃ (oc : Value) (od : Option Addr) (dV kV doc pm : Value) (an : Option Addr) (cdv ct : Value) (osl : Array (Option Value)),
    fd = PySem.W.fnOf x qual (defArgs st) (defBody st) (defScope st) dV kV doc pm an cdv ct ∧ K.lookup f = some ⟨oc, od, .func fd, osl⟩ ∧ PySem.W.codeIn K cdv qual = true ∧ ((defArgs st).defaults = [] → dV = .none)
  kp : PySem.W.keepIn K (.ref f) = true
theorem DF.mk' {x qual : Str} {st : Stmt} {f : Addr} {oc : Value} {od an : Option Addr} {osl : Array (Option Value)} {dV kV doc pm cdv ct : Value} (l : K.lookup f = some ⟨oc, od, .func (PySem.W.fnOf x qual (defArgs st) (defBody st) (defScope st) dV kV doc pm an cdv ct), osl⟩)
    (c : PySem.W.codeIn K cdv qual = true) (k : PySem.W.keepIn K (.ref f) = true) (hd : (defArgs st).defaults = [] → dV = .none) : DF K x qual st f (PySem.W.fnOf x qual (defArgs st) (defBody st) (defScope st) dV kV doc pm an cdv ct) := ⟨⟨oc, od, dV, kV, doc, pm, an, cdv, ct, osl, rfl, l, c, hd⟩, k⟩
theorem DF.okX {x qual : Str} {st : Stmt} {f : Addr} {fd : FuncData} {N ps : List Str} {k : Nat} {sp : Sp} (F : DF K x qual st f fd) (S : FnScope N ps (defScope st)) (len : ∀ vs H Q E, sp vs H Q E → vs.length = ps.length)
    (hb : ∀ (cdv : Value) (A : Around) (outer : List Env) (s : Shared) (H : Hp) (vs : List V) (Q : VK) (E : XK), Room k (A.deeper (envOfC qual (defScope st) s.heap.objs.size f cdv)) → sp vs H Q E →
      ∃ t, PSs (cxOf (L2.CX P w) P w K mg base N qual (defScope st) f cdv A outer s H E) (defBody st) t ∧ t { nx := fun _ H' => Q .non H', rt := Q } (start N vs) H) : FnOk P w K mg base (L2.CX P w) (k + 1) f fd ps sp := by
  obtain ⟨oc, od, dV, kV, doc, pm, an, cdv, ct, osl, rfl, lk, hcd, _⟩ := F.ex
  exact fn_of lk hcd S len fun A outer s H vs Q E hr h => hb cdv A outer s H vs Q E hr h
/-- every parameter is given -/
theorem DF.binds {x qual : Str} {st : Stmt} {f : Addr} {fd : FuncData} {ps : List Str} (F : DF K x qual st f fd) (hd : (defArgs st).defaults = [])
    (h : ∀ (kV doc pm : Value) (an : Option Addr) (cdv ct : Value) (us : List Value), us.length = ps.length → bindArgs (PySem.W.fnOf x qual (defArgs st) (defBody st) (defScope st) .none kV doc pm an cdv ct) ⟨us, []⟩ = pure (ps.zip us)) : Binds K fd ps [] := by
  obtain ⟨oc, od, dV, kV, doc, pm, an, cdv, ct, osl, rfl, lk, hcd, z⟩ := F.ex
  cases z hd
  exact .all (h kV doc pm an cdv ct)
/-- .. by keywords -/
theorem DF.kbinds {x qual : Str} {st : Stmt} {f : Addr} {fd : FuncData} {ps ks : List Str} {g : List Value → List Value → List Value} {gV : List V → List V → List V} (F : DF K x qual st f fd) (hd : (defArgs st).defaults = [])
    (h : ∀ (kV doc pm : Value) (an : Option Addr) (cdv ct : Value) (us ws : List Value), (g us ws).length = ps.length → bindArgs (PySem.W.fnOf x qual (defArgs st) (defBody st) (defScope st) .none kV doc pm an cdv ct) ⟨us, ks.zip ws⟩ = pure (ps.zip (g us ws)))
    (hr : ∀ {vs : List V} {us : List Value} {zs : List V} {ws : List Value}, Vals vs us → Vals zs ws → Vals (gV vs zs) (g us ws)) : KBinds K fd ps ks g gV := by
  obtain ⟨oc, od, dV, kV, doc, pm, an, cdv, ct, osl, rfl, lk, hcd, z⟩ := F.ex
  cases z hd
  exact ⟨fun s us ws _ hl => .of_eq (h kV doc pm an cdv ct us ws hl), hr⟩
/-- THE RULE for a def: its body's mirror m -/
theorem fn_ok {x qual : Str} {st : Stmt} {f : Addr} {fd : FuncData} {N ps : List Str} {k : Nat} {mask : List Nat} {rk : Rk} {m : MS} (FF : DF K x qual st f fd) (S : FnScope N ps (defScope st)) (hl : ps.length ≤ N.length)
    (hbody : ∀ (cdv : Value) (A : Around) (outer : List Env) (s : Shared) (H : Hp) (E : XK) (F : Hp) (O : List (Nat × Addr)), Room k (A.deeper (envOfC qual (defScope st) s.heap.objs.size f cdv)) →
      SSs (cxOf (L2.CX P w) P w K mg base N qual (defScope st) f cdv A outer s H E) ⟨F, H, O, mask, rk⟩ (fun cls d _ H => E cls d H) (defBody st) m) :
    FnOk P w K mg base (L2.CX P w) (k + 1) f fd ps (spOf ⟨K, mg⟩ mask rk ps.length (runFn N.length mask rk m)) := by
  refine FF.okX S (fun vs H Q E h => ?_) (fun cdv A outer s H vs Q E hr h => ?_)
  · obtain ⟨F, ds, A, hn, _⟩ := h
    rw [A.len, hn]
  · obtain ⟨F, ds, AA, hn, h⟩ := h
    exact ⟨_, hbody cdv A outer s H E F (ownOf mask vs) hr, F, startR N.length mask ds, st_start AA (by omega), fo_post AA h⟩
end

/-- a def of the text, as its callers see it -/
structure Fd (P : Program) (w : World) (K : PySem.W.Frag) (mg : Str → Option Value) (base : Heap) (x : Str) (mask : List Nat) (rk : Rk) (n k : Nat) (fn : Fn) : Prop where
  ex : ∃ f fd ps, FnOk P w K mg base (L2.CX P w) k f fd ps (spOf ⟨K, mg⟩ mask rk n fn) ∧ mg x = some (.ref f) ∧ PySem.W.keepIn K (.ref f) = true ∧ Binds K fd ps []

/-! ### calls -/
def eCall (fn : Fn) (m : M (List D)) : M D := m.bind fun ds ρ => match fn ds with
  | .ok d _ => .ok d ρ
  | .exn c x _ => .exn c x ρ
  | _ => .bad
/-- the first argument is handed over -/
def eCallO (fn : Fn) (s : Nat) (m : M (List D)) : M D := fun ρ => match ρ[s]? with
  | some (.ow _) => match m ρ with
    | .ok ds ρ1 => match ρ1[s]? with
      | some (.ow d) => match fn (d :: ds) with
        | .ok r [d'] => .ok r (ρ1.set s (.ow d'))
        | .exn c x [d'] => .exn c x (ρ1.set s (.ow d'))
        | _ => .bad
      | _ => .bad
    | .exn c x ρ1 => .exn c x ρ1
    | .bad => .bad
  | _ => .bad

section
variable {g : Gx} {fx : Fx} {W : WX} {σ : L2.St} {H : Hp} {Q : VK} {ea : Bool} {m : M (List D)} {fn : Fn} {n : Nat}
theorem args_of {F H : Hp} {ds : List D} {vs : List V} (s : Sub F H) (r : RepL g F ds vs) : Args g [] F H ds vs :=
  ⟨s, r.length, fun _ _ h => (nomatch h), fun i d _ e => r.get e, fun _ _ _ h => (nomatch h), fun _ h => (nomatch h)⟩
theorem After.grow {F H F' H' : Hp} {vs : List V} {outs : List D} (A : After g [] F H vs outs F' H') : Grow F H F' H' := ⟨A.f, fun a o h => A.k a o h fun _ z => (nomatch z), A.s, A.n⟩
theorem tE_call (hn : ∀ ρ ds ρ', m ρ = .ok ds ρ' → ds.length = n) (h : tE g fx W true ea (eCall fn m) σ H Q) : tCallS (spOf g [] .cl n fn) (WE W) (tA g fx W true ea m) σ H Q := by
  obtain ⟨F, ρ, S, h⟩ := h
  refine ⟨F, ρ, S, ?_⟩
  unfold eCall M.bind at h
  cases e1 : m ρ with
  | bad => rw [e1] at h; exact h
  | exn c x r1 => rw [e1] at h; exact h
  | ok ds ρ1 =>
    rw [e1] at h
    intro vs H1 F1 G1 S1 r1
    refine ⟨F1, ds, args_of S1.s r1.rep, hn _ _ _ e1, ?_⟩
    dsimp only at h
    cases e2 : fn ds with
    | bad => rw [e2] at h; exact h.elim
    | any f => rw [e2] at h; exact h.elim
    | ok d outs =>
      rw [e2] at h
      exact fun v H' F' A r => h v H' F' (by
        have q := G1.trans (Go.of (eff := false) (ρ := ρ1) A.grow)
        rwa [Bool.or_false] at q) (S1.grow A.grow) r
    | exn c x outs =>
      rw [e2] at h
      exact fun cls dd H' F' A r => h cls dd H' F' (G1.trans (Go.of (eff := false) (ρ := ρ1) A.grow)).up (S1.grow A.grow) r
/-- the heap behind a call that was handed the slot s -/
theorem ST.handed {F F' H' : Hp} {ρ : Rho} {s : Nat} {a : Addr} {d d' : D} {vs : List V} (S : ST g fx σ H F ρ) (hs : ρ[s]? = some (.ow d)) (ha : σ[s]? = some (some (.ref a))) (h0 : vs[0]? = some (.ref a)) (A : After g [0] F H vs [d'] F' H') :
    ST g fx σ H' F' (ρ.set s (.ow d')) ∧ Go true σ F H ρ F' H' (ρ.set s (.ow d')) := by
  obtain ⟨b, e1, fa, o, n0⟩ := S.ow s d hs
  rw [ha] at e1
  cases e1
  obtain ⟨u, hu⟩ := o.there
  have hsl : s < ρ.length := (List.getElem?_eq_some_iff.mp hs).1
  obtain ⟨b, d2, e2, e3, fb, ob⟩ := A.o 0 0 rfl
  rw [h0] at e2
  cases e2
  have ed : d' = d2 := Option.some.inj e3
  subst ed
  have kk : ∀ c o, H c = some o → c ≠ a → H' c = some o := fun c o h ne => A.k c o h fun i hi q => by
    have e : i = 0 := by simpa using hi
    subst e
    rw [h0] at q
    cases q
    exact ne rfl
  have gr : ∀ {i : Nat} {x : Sl}, (ρ.set s (.ow d'))[i]? = some x → (i = s ∧ x = .ow d') ∨ (i ≠ s ∧ ρ[i]? = some x) := fun {i x} h => by
    rcases set_get h with ⟨e, q⟩ | ⟨ne, q⟩
    · exact .inl ⟨e.symm, q.symm⟩
    · exact .inr ⟨fun z => ne z.symm, q⟩
  have keep : ∀ {c : Addr} {o : HO}, F c = none → H c = some o → F' c = none := fun {c o} h1 h2 => by
    cases z : F' c with
    | none => rfl
    | some y =>
      rcases A.n c y z with q | q
      · rw [h1] at q; cases q
      · rw [h2] at q; cases q
  refine ⟨⟨A.s, S.ge.trans A.f, fun c o h => ?_, fun c o h q => ?_, by rw [List.length_set]; exact S.len, fun i e h => ?_, fun i e h => ?_, fun i j e e' c h1 h2 h3 h4 => ?_, fun i c h => ?_, S.pin⟩, ⟨A.f, fun c o h => ?_, fun i e h => ?_, fun c o h q => ?_, fun z => (nomatch z), fun c o h => ?_⟩⟩
  · rcases A.n c o h with q | q
    · exact S.nw c o q
    · exact .inr (S.fresh q)
  · refine kk c o (S.old c o h q) fun z => ?_
    subst z
    rcases n0 with n0 | n0
    · rw [h] at n0; cases n0
    · exact q s n0
  · rcases gr h with ⟨_, q⟩ | ⟨_, q⟩
    · cases q
    · obtain ⟨v, e1, r⟩ := S.cl i e q
      exact ⟨v, e1, r.mono A.f⟩
  · rcases gr h with ⟨rfl, q⟩ | ⟨ne, q⟩
    · cases q
      exact ⟨a, ha, fb, ob, n0⟩
    · obtain ⟨c, e1, fc, oc, nc⟩ := S.ow i e q
      obtain ⟨w, hw⟩ := oc.there
      have nca : c ≠ a := fun z => by
        subst z
        exact ne (S.inj i s e d c q hs e1 ha)
      exact ⟨c, e1, keep fc hw, oc.move A.f ((kk c w hw nca).trans hw.symm), nc⟩
  · rcases gr h1 with ⟨rfl, q1⟩ | ⟨n1, q1⟩
    · rcases gr h2 with ⟨rfl, q2⟩ | ⟨n2, q2⟩
      · rfl
      · exact S.inj i j d e' c hs q2 h3 h4
    · rcases gr h2 with ⟨rfl, q2⟩ | ⟨n2, q2⟩
      · exact S.inj i j e d c q1 hs h3 h4
      · exact S.inj i j e e' c q1 q2 h3 h4
  · obtain ⟨⟨e, q⟩, e2⟩ := S.par i c h
    refine ⟨?_, e2⟩
    by_cases z : s = i
    · subst z
      exact ⟨d', List.getElem?_set_self hsl⟩
    · exact ⟨e, by rw [List.getElem?_set_ne z]; exact q⟩
  · rcases A.n c o h with q | q
    · exact .inl q
    · exact .inr (.inl q)
  · rcases gr h with ⟨rfl, _⟩ | ⟨_, q⟩
    · exact ⟨d, hs⟩
    · exact ⟨e, q⟩
  · exact kk c o h fun z => q s d hs (z ▸ ha)
  · by_cases z : c = a
    · subst z
      exact ob.there
    · exact ⟨o, kk c o h z⟩
theorem tE_callO {s : Nat} (hn : ∀ ρ ds ρ', m ρ = .ok ds ρ' → ds.length = n) (h : tE g fx W true true (eCallO fn s m) σ H Q) : tCallS (spOf g [0] .cl (n + 1) fn) (WE W) (tCons (tVar s) (tA g fx W true ea m)) σ H Q := by
  obtain ⟨F, ρ, S, h⟩ := h
  unfold eCallO at h
  cases e0 : ρ[s]? with
  | none => rw [e0] at h; exact h.elim
  | some x =>
    rw [e0] at h
    cases x with
    | no => exact h.elim
    | cl d => exact h.elim
    | ow d0 =>
      dsimp only at h
      obtain ⟨a, ea, _, _, _⟩ := S.ow s d0 e0
      refine ⟨.ref a, ea, F, ρ, S, ?_⟩
      cases e1 : m ρ with
      | bad => rw [e1] at h; exact h
      | exn c x r1 => rw [e1] at h; exact h
      | ok ds ρ1 =>
        rw [e1] at h
        dsimp only at h
        intro vs H1 F1 G1 S1 r1
        cases e2 : ρ1[s]? with
        | none => rw [e2] at h; exact h.elim
        | some x =>
          rw [e2] at h
          cases x with
          | no => exact h.elim
          | cl d => exact h.elim
          | ow d =>
            dsimp only at h
            obtain ⟨b, eb, fb, ob, _⟩ := S1.ow s d e2
            rw [ea] at eb
            cases eb
            have AA : Args g [0] F1 H1 (d :: ds) (.ref a :: vs) := by
              refine ⟨S1.s, by simp [r1.length], fun i e hi he => ?_, fun i e hi he => ?_, fun i j c hi hj _ _ => ?_, fun i hi => ?_⟩
              · have z : i = 0 := by simpa using hi
                subst z
                cases he
                exact ⟨a, rfl, fb, ob⟩
              · cases i with
                | zero => exact absurd (by simp) hi
                | succ i =>
                  obtain ⟨v, e1, r⟩ := r1.rep.get (i := i) (d := e) (by simpa using he)
                  exact ⟨v, by simpa using e1, r⟩
              · have z1 : i = 0 := by simpa using hi
                have z2 : j = 0 := by simpa using hj
                rw [z1, z2]
              · have z1 : i = 0 := by simpa using hi
                subst z1
                simp
            refine ⟨F1, d :: ds, AA, by rw [List.length_cons, hn _ _ _ e1], ?_⟩
            cases e3 : fn (d :: ds) with
            | bad => rw [e3] at h; exact h.elim
            | any f => rw [e3] at h; exact h.elim
            | ok r outs =>
              rw [e3] at h
              match outs, h with
              | [d'], h =>
                intro v H' F' A r'
                obtain ⟨S2, G2⟩ := S1.handed e2 ea rfl A
                exact h v H' F' (by
                  have q := G1.trans G2
                  rwa [Bool.or_true] at q) S2 r'
              | [], h => exact h.elim
              | _ :: _ :: _, h => exact h.elim
            | exn c x outs =>
              rw [e3] at h
              match outs, h with
              | [d'], h =>
                intro cls dd H' F' A r'
                obtain ⟨S2, G2⟩ := S1.handed e2 ea rfl A
                exact h cls dd H' F' (G1.trans G2).up S2 r'
              | [], h => exact h.elim
              | _ :: _ :: _, h => exact h.elim
end

section
variable {X : Cx} {fx : Fx} {W : WX} {ea : Bool} {x : Str} {p pos : Pos} {e : Expr} {es : List Expr} {m : M (List D)} {fn : Fn} {n k : Nat}
theorem se_call (C : Fd X.prog X.w X.K X.mg X.base x [] .cl n k fn) (hr : Room k X.A) (tk : Takes X W) (ha : SA X fx W true ea (e :: es) m) (hn : ∀ ρ ds ρ', m ρ = .ok ds ρ' → ds.length = n) (hg : Gl X x := by rfl)
    (hdb : (x == ("__debug__" : Str)) = false := by decide) (he : starEach (e :: es) X.env = (false, eval e X.env) :: starEach es X.env := by rfl) (hpl : (backTo pos (starEach es X.env)).any (·.1) = false := by rfl) :
    SE X fx W true ea (.Call (.Name x p) (e :: es) [] pos) (eCall fn m) := by
  obtain ⟨f, fd, ps, F, hm, hk, hb⟩ := C.ex
  exact PE.imp (pe_callS F hr hg hm hk hb (fun σ => passAt tk σ) ha hdb he hpl) fun σ H Q q => tE_call hn q
/-- f(own, ..) -/
theorem se_callO (s : Nat) {y : Str} {py : Pos} (C : Fd X.prog X.w X.K X.mg X.base x [0] .cl (n + 1) k fn) (hr : Room k X.A) (tk : Takes X W) (ha : SA X fx W true ea es m) (hn : ∀ ρ ds ρ', m ρ = .ok ds ρ' → ds.length = n) (hg : Gl X x := by rfl)
    (hN : X.N[s]? = some y := by rfl) (hv : Vis X.env.scope y := by first | exact Or.inl rfl | exact Or.inr (Or.inl rfl) | exact Or.inr (Or.inr rfl)) (hd : (y == ("__debug__" : Str)) = false := by decide) (hcd : (y == ("__classdict__" : Str)) = false := by decide)
    (hdb : (x == ("__debug__" : Str)) = false := by decide) (he : starEach (.Name y py :: es) X.env = (false, eval (.Name y py) X.env) :: starEach es X.env := by rfl) (hpl : (backTo pos (starEach es X.env)).any (·.1) = false := by rfl) :
    SE X fx W true true (.Call (.Name x p) (.Name y py :: es) [] pos) (eCallO fn s m) := by
  obtain ⟨f, fd, ps, F, hm, hk, hb⟩ := C.ex
  exact PE.imp (pe_callS F hr hg hm hk hb (fun σ => passAt tk σ) (pa_cons (pv s hN hv hd hcd) ha he) hdb he hpl) fun σ H Q q => tE_callO hn q
end
end DL

set_option Elab.async false
set_option linter.all false
set_option maxRecDepth 100000
set_option maxHeartbeats 4000000
namespace DL
open PySem PySem.Spec PyProof.Rows L2

/-! ### the frame's own lists and dicts -/
def SF (X : Cx) (fx : Fx) (W : WX) (eff : Bool) (e : Expr) (m : M D) : Prop := PE X e (tF (gx X) fx W eff m)
/-- an own slot is let go of: its object is a new value -/
def eMove (i : Nat) : M D := fun ρ => match ρ[i]? with
  | some (.ow d) => .ok d (ρ.set i .no)
  | _ => .bad
section
variable {g : Gx} {fx : Fx} {W : WX} {σ : L2.St} {H F : Hp} {ρ : Rho} {Q : VK} {ea : Bool} {m : M D} {E : Ends}
theorem ST.ow_ne (S : ST g fx σ H F ρ) {p : Addr} (hp : H p = none) : ∀ (i : Nat) e, ρ[i]? = some (.ow e) → σ[i]? ≠ some (some (.ref p)) := fun i e hi hs => by
  obtain ⟨a, e1, _, o, _⟩ := S.ow i e hi
  rw [hs] at e1
  cases e1
  obtain ⟨u, hu⟩ := o.there
  rw [hp] at hu; cases hu
theorem Go.new {eff : Bool} {F' H' : Hp} {ρ' : Rho} (G : Go eff σ F H ρ F' H' ρ') {p : Addr} (hp : H' p = none) : H p = none := by
  cases z : H p with
  | none => rfl
  | some u =>
    obtain ⟨w, hw⟩ := G.d p u z
    rw [hp] at hw; cases hw
theorem tF_lst {m : M (List D)} (h : tF g fx W ea (eN mkLst m) σ H Q) : tLst (tA g fx W true ea m) σ H Q := by
  obtain ⟨F, ρ, S, h⟩ := h
  refine ⟨F, ρ, S, ?_⟩
  unfold eN M.bind at h
  cases e1 : m ρ with
  | bad => rw [e1] at h; exact h
  | exn c x r1 => rw [e1] at h; exact h
  | ok ds ρ1 =>
    rw [e1] at h
    intro vs H1 F1 G1 S1 r1
    dsimp only [M.lift, mkLst] at h
    by_cases q : ds.length ≤ 16777216
    · rw [if_pos q] at h
      refine ⟨by rw [r1.length, sizeLine_eq]; exact q, fun p hp => ?_⟩
      have fp : F1 p = none := by
        cases z : F1 p with
        | none => rfl
        | some u => rw [S1.s p u z] at hp; cases hp
      refine h p _ F1 ?_ (S1.grow (Grow.big S1.s hp)) fp ⟨vs, upd_same, r1.rep⟩ (S1.fresh hp) (S1.ow_ne hp) (.inl (G1.new hp))
      have q := G1.trans (Go.of (eff := false) (ρ := ρ1) (Grow.big S1.s hp (o := .lst vs)))
      rwa [Bool.or_false] at q
    · rw [if_neg q] at h; exact h.elim
theorem tF_dnew (h : tF g fx W false (eC (.dic [])) σ H Q) : tDNewK σ H Q := by
  obtain ⟨F, ρ, S, h⟩ := h
  intro p hp
  have fp : F p = none := by
    cases z : F p with
    | none => rfl
    | some u => rw [S.s p u z] at hp; cases hp
  exact h p _ F (Go.of (Grow.big S.s hp)) (S.grow (Grow.big S.s hp)) fp ⟨[], upd_same, by simp only [RepK]⟩ (S.fresh hp) (S.ow_ne hp) (.inl hp)
theorem Own.rep {a : Addr} {xs : List D} {F' : Hp} (o : Own g F H a (.lst xs)) (f : Sub F F') (e : F' a = H a) : Rep g F' (.lst xs) (.ref a) := by
  obtain ⟨vs, e1, r⟩ := o
  simp only [Rep]
  exact ⟨a, vs, rfl, e.trans e1, r.mono f⟩
/-- a dict is given to all, and stands for good -/
theorem ST.giveD {D : Addr} {o : HO} (S : ST g fx σ H F ρ) (hF : F D = none) (h0 : fx.H0 D = none) (hn : ∀ (i : Nat) d, ρ[i]? = some (.ow d) → σ[i]? ≠ some (some (.ref D))) : ST g fx σ (upd H D o) (upd F D o) ρ := by
  have f : Sub F (upd F D o) := fun a u h => by
    rw [upd_ne (ne_of_none h hF)]
    exact h
  refine ⟨fun a u h => ?_, S.ge.trans f, fun a u h => ?_, fun a u h k => ?_, S.len, fun i d h => ?_, fun i d h => ?_, S.inj, S.par, S.pin⟩
  · by_cases e : a = D
    · subst e; rw [upd_same] at h ⊢; exact h
    · rw [upd_ne e] at h ⊢; exact S.s a u h
  · by_cases e : a = D
    · subst e; exact .inr h0
    · rw [upd_ne e] at h; exact S.nw a u h
  · rw [upd_ne (ne_of_none h h0)]
    exact S.old a u h k
  · obtain ⟨v, e, r⟩ := S.cl i d h
    exact ⟨v, e, r.mono f⟩
  · obtain ⟨a, e, fa, ow, n⟩ := S.ow i d h
    have ne : a ≠ D := fun z => hn i d h (z ▸ e)
    exact ⟨a, e, by rw [upd_ne ne]; exact fa, ow.move f (upd_ne ne), n⟩
/-- given to all -/
theorem tE_fr (h : tE g fx W true true m σ H Q) : tPLock (tF g fx W ea m) σ H Q := by
  obtain ⟨F, ρ, S, h⟩ := h
  refine ⟨F, ρ, S, ?_⟩
  cases e1 : m ρ with
  | bad => rw [e1] at h; exact h
  | exn c x r1 => rw [e1] at h; exact h
  | ok d ρ1 =>
    rw [e1] at h
    intro a H' F' G S' fa o h0 hn ha
    obtain ⟨u, hu⟩ := o.there
    have nn : ∀ w : HO, ∀ b x, upd F' a w b = some x → F b = some x ∨ H b = none ∨ ∃ (i : Nat) (d : D), ρ[i]? = some (.ow d) ∧ σ[i]? = some (some (.ref b)) := fun w b x hb => by
      by_cases z : b = a
      · subst z
        exact .inr ha
      · rw [upd_ne z] at hb
        exact G.n b x hb
    have f : ∀ w : HO, Sub F' (upd F' a w) := fun w b x hb => by
      rw [upd_ne (ne_of_none hb fa)]
      exact hb
    cases d with
    | lst xs =>
      have S2 := S'.give hu fa h0 hn
      exact .inl (h (.ref a) H' (upd F' a u) ⟨G.f.trans (f u), nn u, G.o, G.k, fun z => (nomatch z), G.d⟩ S2 (o.rep (f u) (by rw [upd_same]; exact hu.symm)))
    | dic xs =>
      obtain ⟨vs, e2, r⟩ := o
      refine .inr ⟨a, .dK vs, e2, trivial, fun od => ?_⟩
      refine h (.ref a) (upd H' a (.frz od (.dK vs))) (upd F' a (.frz od (.dK vs))) ⟨G.f.trans (f _), nn _, G.o, fun b x hb k => ?_, fun z => (nomatch z), fun b x hb => ?_⟩ (S'.giveD fa h0 hn) ?_
      · have ne : b ≠ a := fun z => by
          subst z
          rcases ha with z | ⟨i, d, z1, z2⟩
          · rw [z] at hb; cases hb
          · exact k i d z1 z2
        rw [upd_ne ne]
        exact G.k b x hb k
      · by_cases z : b = a
        · subst z; exact ⟨_, upd_same⟩
        · rw [upd_ne z]; exact G.d b x hb
      · show Rep g _ _ _
        simp only [Rep]
        exact ⟨a, vs, rfl, ⟨od, upd_same⟩, r.mono (f _)⟩
    | _ => exact o.elim
theorem set_no {i j : Nat} {x : Sl} (h : (ρ.set i .no)[j]? = some x) (hx : x ≠ .no) : i ≠ j ∧ ρ[j]? = some x := by
  rcases set_get h with ⟨_, q⟩ | q
  · exact absurd q.symm hx
  · exact q
theorem ST.drop (S : ST g fx σ H F ρ) {i : Nat} (hi : fx.ow.contains i = false) : ST g fx σ H F (ρ.set i .no) where
  s := S.s
  ge := S.ge
  nw := S.nw
  old := S.old
  len := by rw [List.length_set]; exact S.len
  cl := fun j d h => S.cl j d (set_no h (by intro z; cases z)).2
  ow := fun j d h => S.ow j d (set_no h (by intro z; cases z)).2
  inj := fun j k d e a h1 h2 h3 h4 => S.inj j k d e a (set_no h1 (by intro z; cases z)).2 (set_no h2 (by intro z; cases z)).2 h3 h4
  par := fun j a h => by
    have hj := S.pin j a h
    have ne : i ≠ j := fun e => by
      subst e
      have : fx.ow.contains i = true := by simpa using hj
      rw [hi] at this; cases this
    obtain ⟨⟨d, e⟩, e2⟩ := S.par j a h
    exact ⟨⟨d, by rw [List.getElem?_set_ne ne]; exact e⟩, e2⟩
  pin := S.pin
theorem tF_move {i : Nat} (hi : fx.ow.contains i = false) (h : tF g fx W true (eMove i) σ H Q) : tVar i σ H Q := by
  obtain ⟨F, ρ, S, h⟩ := h
  unfold eMove at h
  cases e : ρ[i]? with
  | none => rw [e] at h; exact h.elim
  | some s =>
    rw [e] at h
    cases s with
    | no => exact h.elim
    | cl d => exact h.elim
    | ow d =>
      obtain ⟨a, e1, fa, o, n⟩ := S.ow i d e
      have n' : fx.H0 a = none := by
        rcases n with n | n
        · exact n
        · have := S.pin i a n
          have q : fx.ow.contains i = true := by simpa using this
          rw [hi] at q; cases q
      refine ⟨.ref a, e1, h a H F ⟨Sub.refl _, fun _ _ h => .inl h, fun j d h => ⟨d, (set_no h (by intro z; cases z)).2⟩, fun _ _ h _ => h, fun z => (nomatch z), fun _ o h => ⟨o, h⟩⟩ (S.drop hi) fa o n' (fun j e' hj hs => ?_) (.inr ⟨i, d, e, e1⟩)⟩
      obtain ⟨ne, hj⟩ := set_no hj (by intro z; cases z)
      exact ne (S.inj i j d e' a e hj e1 hs)
/-- an own value is stored -/
theorem ST.setO (S : ST g fx σ H F ρ) {i : Nat} {d : D} {a : Addr} (hi : fx.ow.contains i = false) (fa : F a = none) (o : Own g F H a d) (h0 : fx.H0 a = none) (hn : ∀ (i : Nat) e, ρ[i]? = some (.ow e) → σ[i]? ≠ some (some (.ref a))) : ST g fx (σ.set i (some (.ref a))) H F (ρ.set i (.ow d)) where
  s := S.s
  ge := S.ge
  nw := S.nw
  old := S.old
  len := by rw [List.length_set, List.length_set]; exact S.len
  cl := fun j e h => by
    rcases set_get h with ⟨rfl, q⟩ | ⟨ne, q⟩
    · cases q
    · obtain ⟨w, e1, r1⟩ := S.cl j e q
      exact ⟨w, by rw [List.getElem?_set_ne ne]; exact e1, r1⟩
  ow := fun j e h => by
    rcases set_get h with ⟨rfl, q⟩ | ⟨ne, q⟩
    · cases q
      have hl : i < σ.length := by
        rw [S.len]
        have := (List.getElem?_eq_some_iff.mp h).1
        simpa using this
      exact ⟨a, by rw [List.getElem?_set_self hl], fa, o, .inl h0⟩
    · obtain ⟨b, e1, r1⟩ := S.ow j e q
      exact ⟨b, by rw [List.getElem?_set_ne ne]; exact e1, r1⟩
  inj := fun j k d e b h1 h2 h3 h4 => by
    rcases set_get h1 with ⟨rfl, q1⟩ | ⟨n1, q1⟩
    · rcases set_get h2 with ⟨rfl, q2⟩ | ⟨n2, q2⟩
      · rfl
      · have hl : i < σ.length := by
          rw [S.len]
          have := (List.getElem?_eq_some_iff.mp h1).1
          simpa using this
        rw [List.getElem?_set_self hl] at h3
        cases h3
        rw [List.getElem?_set_ne n2] at h4
        exact absurd h4 (hn k e q2)
    · rw [List.getElem?_set_ne n1] at h3
      rcases set_get h2 with ⟨rfl, q2⟩ | ⟨n2, q2⟩
      · have hl : i < σ.length := by
          rw [S.len]
          have := (List.getElem?_eq_some_iff.mp h2).1
          simpa using this
        rw [List.getElem?_set_self hl] at h4
        cases h4
        exact absurd h3 (hn j d q1)
      · rw [List.getElem?_set_ne n2] at h4
        exact S.inj j k d e b q1 q2 h3 h4
  par := fun j b h => by
    have hj := S.pin j b h
    have ne : i ≠ j := fun e => by
      subst e
      have : fx.ow.contains i = true := by simpa using hj
      rw [hi] at this; cases this
    obtain ⟨⟨d, e⟩, e2⟩ := S.par j b h
    exact ⟨⟨d, by rw [List.getElem?_set_ne ne]; exact e⟩, by rw [List.getElem?_set_ne ne]; exact e2⟩
  pin := S.pin
def toOw (i : Nat) (d : D) : MS := fun ρ => .nx (ρ.set i (.ow d))
/-- x = .., x the frame's own -/
def sAsgO (i : Nat) (m : M D) : MS := sDo m (toOw i)
theorem asgO_end {F' H' : Hp} {ρ' : Rho} {i : Nat} {a : Addr} {d : D} {eff : Bool} (hi : fx.ow.contains i = false) (G : Go eff σ F H ρ F' H' ρ') (S' : ST g fx σ H' F' ρ') (fa : F' a = none) (o : Own g F' H' a d) (h0 : fx.H0 a = none) (hn : ∀ (i : Nat) e, ρ'[i]? = some (.ow e) → σ[i]? ≠ some (some (.ref a)))
    (ha : H a = none ∨ ∃ (i : Nat) (e : D), ρ[i]? = some (.ow e) ∧ σ[i]? = some (some (.ref a))) : Gs σ F H ρ (σ.set i (some (.ref a))) F' H' (ρ'.set i (.ow d)) where
  f := G.gs.f
  n := G.gs.n
  k := G.gs.k
  o := fun b ⟨j, e, h1, h2⟩ => by
    rcases set_get h1 with ⟨rfl, q⟩ | ⟨ne, q⟩
    · have hl : i < σ.length := by
        rw [S'.len]
        have := (List.getElem?_eq_some_iff.mp h1).1
        simpa using this
      rw [List.getElem?_set_self hl] at h2
      cases h2
      rcases ha with ha | ⟨k, e', k1, k2⟩
      · exact .inr ha
      · exact .inl ⟨k, e', k1, k2⟩
    · rw [List.getElem?_set_ne ne] at h2
      exact G.gs.o b ⟨j, e, q, h2⟩
  d := G.gs.d
theorem tS_asgO {i : Nat} (hi : fx.ow.contains i = false) (h : tS g fx W (sAsgO i m) E σ H) : tAsg (tF g fx W ea m) (gName i) E σ H := by
  obtain ⟨F, ρ, S, h⟩ := h
  refine ⟨F, ρ, S, ?_⟩
  unfold sAsgO sDo at h
  cases e : m ρ with
  | bad => rw [e] at h; exact h
  | exn c x r =>
    rw [e] at h
    exact xgs h
  | ok d ρ1 =>
    rw [e] at h
    exact fun a H' F' G S' fa o h0 hn ha => h (σ.set i (some (.ref a))) H' F' (asgO_end hi G S' fa o h0 hn ha) (S'.setO hi fa o h0 hn)
theorem tS_retF (hk : fx.rk = .fr) (h : tS g fx W (sRet m) E σ H) : tRet (tF g fx W ea m) E σ H := by
  obtain ⟨F, ρ, S, h⟩ := h
  refine ⟨F, ρ, S, ?_⟩
  unfold sRet sDo at h
  cases e : m ρ with
  | bad => rw [e] at h; exact h
  | exn c x r =>
    rw [e] at h
    exact xgs h
  | ok d ρ1 =>
    rw [e] at h
    exact fun a H' F' G S' fa o h0 hn ha => h (.ref a) σ H' F' S' (by unfold RV; rw [hk]; exact ⟨a, rfl, fa, o, h0⟩)
/-- a call that hands back a new list or dict -/
theorem tF_call {fn : Fn} {n : Nat} {m : M (List D)} (hn : ∀ ρ ds ρ', m ρ = .ok ds ρ' → ds.length = n) (h : tF g fx W ea (eCall fn m) σ H Q) : tCallS (spOf g [] .fr n fn) (WE W) (tA g fx W true ea m) σ H Q := by
  obtain ⟨F, ρ, S, h⟩ := h
  refine ⟨F, ρ, S, ?_⟩
  unfold eCall M.bind at h
  cases e1 : m ρ with
  | bad => rw [e1] at h; exact h
  | exn c x r1 => rw [e1] at h; exact h
  | ok ds ρ1 =>
    rw [e1] at h
    intro vs H1 F1 G1 S1 r1
    refine ⟨F1, ds, args_of S1.s r1.rep, hn _ _ _ e1, ?_⟩
    dsimp only at h
    cases e2 : fn ds with
    | bad => rw [e2] at h; exact h.elim
    | any f => rw [e2] at h; exact h.elim
    | ok d outs =>
      rw [e2] at h
      intro v H' F' A ⟨a, ev, fa, o, ha⟩
      subst ev
      refine h a H' F' (by
        have q := G1.trans (Go.of (eff := false) (ρ := ρ1) A.grow)
        rwa [Bool.or_false] at q) (S1.grow A.grow) fa o (S1.fresh ha) (S1.ow_ne ha) (.inl (G1.new ha))
    | exn c x outs =>
      rw [e2] at h
      exact fun cls dd H' F' A r => h cls dd H' F' (G1.trans (Go.of (eff := false) (ρ := ρ1) A.grow)).up (S1.grow A.grow) r
/-- the own object of slot i is written -/
theorem ST.put (S : ST g fx σ H F ρ) {i : Nat} {d d' : D} {a : Addr} {o : HO} (hs : ρ[i]? = some (.ow d)) (ha : σ[i]? = some (some (.ref a))) (ob : Own g F (upd H a o) a d') :
    ST g fx σ (upd H a o) F (ρ.set i (.ow d')) ∧ Go true σ F H ρ F (upd H a o) (ρ.set i (.ow d')) := by
  obtain ⟨b, e1, fa, ow, n0⟩ := S.ow i d hs
  rw [ha] at e1
  cases e1
  obtain ⟨u, hu⟩ := ow.there
  have hsl : i < ρ.length := (List.getElem?_eq_some_iff.mp hs).1
  have kk : ∀ c w, H c = some w → c ≠ a → upd H a o c = some w := fun c w h ne => by rw [upd_ne ne]; exact h
  have gr : ∀ {j : Nat} {x : Sl}, (ρ.set i (.ow d'))[j]? = some x → (j = i ∧ x = .ow d') ∨ (j ≠ i ∧ ρ[j]? = some x) := fun {j x} h => by
    rcases set_get h with ⟨e, q⟩ | ⟨ne, q⟩
    · exact .inl ⟨e.symm, q.symm⟩
    · exact .inr ⟨fun z => ne z.symm, q⟩
  refine ⟨⟨fun c w h => kk c w (S.s c w h) (ne_of_none h fa), S.ge, S.nw, fun c w h q => ?_, by rw [List.length_set]; exact S.len, fun j e h => ?_, fun j e h => ?_, fun j k e e' c h1 h2 h3 h4 => ?_, fun j c h => ?_, S.pin⟩, ⟨Sub.refl _, fun _ _ h => .inl h, fun j e h => ?_, fun c w h q => ?_, fun z => (nomatch z), fun c w h => ?_⟩⟩
  · refine kk c w (S.old c w h q) fun z => ?_
    subst z
    rcases n0 with n0 | n0
    · rw [h] at n0; cases n0
    · exact q i n0
  · rcases gr h with ⟨_, q⟩ | ⟨_, q⟩
    · cases q
    · exact S.cl j e q
  · rcases gr h with ⟨rfl, q⟩ | ⟨ne, q⟩
    · cases q
      exact ⟨a, ha, fa, ob, n0⟩
    · obtain ⟨c, e1, fc, oc, nc⟩ := S.ow j e q
      have nca : c ≠ a := fun z => by
        subst z
        exact ne (S.inj j i e d c q hs e1 ha)
      exact ⟨c, e1, fc, oc.move (Sub.refl _) (upd_ne nca), nc⟩
  · rcases gr h1 with ⟨rfl, q1⟩ | ⟨n1, q1⟩
    · rcases gr h2 with ⟨rfl, q2⟩ | ⟨n2, q2⟩
      · rfl
      · exact S.inj j k d e' c hs q2 h3 h4
    · rcases gr h2 with ⟨rfl, q2⟩ | ⟨n2, q2⟩
      · exact S.inj j k e d c q1 hs h3 h4
      · exact S.inj j k e e' c q1 q2 h3 h4
  · obtain ⟨⟨e, q⟩, e2⟩ := S.par j c h
    refine ⟨?_, e2⟩
    by_cases z : i = j
    · subst z
      exact ⟨d', List.getElem?_set_self hsl⟩
    · exact ⟨e, by rw [List.getElem?_set_ne z]; exact q⟩
  · rcases gr h with ⟨rfl, _⟩ | ⟨_, q⟩
    · exact ⟨d, hs⟩
    · exact ⟨e, q⟩
  · exact kk c w h fun z => q i d hs (z ▸ ha)
  · by_cases z : c = a
    · subst z
      exact ⟨o, upd_same⟩
    · exact ⟨w, kk c w h z⟩
/-- the slot's own list changed by what m gives -/
def owLst (x : Option Sl) : R (List D) := match x with
  | some (.ow (.lst xs)) => .ok xs
  | _ => .bad
def owDic (x : Option Sl) : R (List (Key × D)) := match x with
  | some (.ow (.dic xs)) => .ok xs
  | _ => .bad
theorem owLst_eq {x : Option Sl} {xs : List D} (h : owLst x = .ok xs) : x = some (.ow (.lst xs)) := by
  unfold owLst at h
  split at h
  · cases h; rfl
  · cases h
theorem owDic_eq {x : Option Sl} {xs : List (Key × D)} (h : owDic x = .ok xs) : x = some (.ow (.dic xs)) := by
  unfold owDic at h
  split at h
  · cases h; rfl
  · cases h
/-- x.append(e) -/
def sApp (i : Nat) (m : M D) : MS := fun ρ => match owLst ρ[i]? with
  | .bad => .bad
  | .ok _ => sDo m (fun d ρ1 => match owLst ρ1[i]? with
    | .ok xs => if xs.length < 16777216 then .nx (ρ1.set i (.ow (.lst (xs ++ [d])))) else .bad
    | .bad => .bad) ρ
theorem tS_app {i : Nat} (h : tS g fx W (sApp i m) E σ H) : tDrop (tBM g.K "list" rAppend (tVar i) (tCons (tE g fx W true ea m) tNil)) E σ H := by
  obtain ⟨F, ρ, S, h⟩ := h
  unfold sApp at h
  cases e0 : owLst ρ[i]? with
  | bad => rw [e0] at h; exact h.elim
  | ok ys =>
    rw [e0] at h
    obtain ⟨a, ea', fa, ⟨ws, hw, _⟩, _⟩ := S.ow i _ (owLst_eq e0)
    refine ⟨.ref a, ea', .inl ⟨rfl, ws, SqL.of hw⟩, F, ρ, S, ?_⟩
    dsimp only [sDo] at h
    cases e : m ρ with
    | bad => rw [e] at h; exact h
    | exn c x r =>
      rw [e] at h
      exact xgs h
    | ok d ρ1 =>
      rw [e] at h
      intro v H1 F1 G1 S1 r1
      dsimp only at h
      cases e2 : owLst ρ1[i]? with
      | bad => rw [e2] at h; exact h.elim
      | ok xs =>
        rw [e2] at h
        dsimp only at h
        have hi := owLst_eq e2
        obtain ⟨b, eb, fb, ⟨vs, hv, l⟩, _⟩ := S1.ow i _ hi
        rw [ea'] at eb
        cases eb
        by_cases q : xs.length < 16777216
        · rw [if_pos q] at h
          obtain ⟨S2, G2⟩ := S1.put (o := .lst (vs ++ [v])) (d' := .lst (xs ++ [d])) hi ea' ⟨vs ++ [v], upd_same, l.append (RepL.one r1)⟩
          exact ⟨a, vs, v, rfl, rfl, hv, by rw [l.length, sizeLine_eq]; exact q, h σ _ F1 (G1.gs.trans G2.gs) S2⟩
        · rw [if_neg q] at h; exact h.elim
/-- x[k] = e, x an own list -/
def sSetI (i : Nat) (k m : M D) : MS := sDo m fun d ρ1 => match owLst ρ1[i]? with
  | .bad => .bad
  | .ok _ => sDo k (fun n ρ2 => match owLst ρ2[i]?, n with
    | .ok xs, .int j => (match ixN xs.length j with
      | some q => .nx (ρ2.set i (.ow (.lst (xs.set q d))))
      | none => .bad)
    | _, _ => .bad) ρ1
theorem tS_setI {i : Nat} {k : M D} {eb : Bool} (h : tS g fx W (sSetI i k m) E σ H) : tAsg (tE g fx W true ea m) (gSub (tVar i) (tE g fx W true eb k) rSetL) E σ H := by
  obtain ⟨F, ρ, S, h⟩ := h
  refine ⟨F, ρ, S, ?_⟩
  unfold sSetI sDo at h
  cases e : m ρ with
  | bad => rw [e] at h; exact h
  | exn c x r =>
    rw [e] at h
    exact xgs h
  | ok d ρ1 =>
    rw [e] at h
    intro v H1 F1 G1 S1 r1
    dsimp only at h
    cases e0 : owLst ρ1[i]? with
    | bad => rw [e0] at h; exact h.elim
    | ok ys =>
      rw [e0] at h
      obtain ⟨a, ea', fa, ⟨ws, hw, _⟩, _⟩ := S1.ow i _ (owLst_eq e0)
      refine ⟨.ref a, ea', F1, ρ1, S1, ?_⟩
      dsimp only at h
      cases e2 : k ρ1 with
      | bad => rw [e2] at h; exact h
      | exn c x r =>
        rw [e2] at h
        exact xst G1 (xgs h)
      | ok n ρ2 =>
        rw [e2] at h
        intro u H2 F2 G2 S2 r2
        dsimp only at h
        cases e3 : owLst ρ2[i]? with
        | bad => rw [e3] at h; exact h.elim
        | ok xs =>
          rw [e3] at h
          have hi := owLst_eq e3
          obtain ⟨b, eb', fb, ⟨vs, hv, l⟩, _⟩ := S2.ow i _ hi
          rw [ea'] at eb'
          cases eb'
          cases n with
          | int j =>
            dsimp only at h
            have ek := vr_int r2
            subst ek
            cases e4 : ixN xs.length j with
            | none => rw [e4] at h; exact h.elim
            | some q =>
              rw [e4] at h
              obtain ⟨S3, G3⟩ := S2.put (o := .lst (vs.set q v)) (d' := .lst (xs.set q d)) hi ea' ⟨vs.set q v, upd_same, RepL.set q l (Rep.mono G2.f r1)⟩
              exact ⟨a, vs, j, q, rfl, rfl, hv, by rw [l.length]; exact e4, h σ _ F2 ((G1.gs.trans G2.gs).trans G3.gs) S3⟩
          | _ => exact h.elim
/-- a, b = e1, e2 -/
def sPar (i j : Nat) (m : M (List D)) : MS := sDo m fun ds ρ => match ds with
  | [a, b] => .nx ((ρ.set i (.cl a)).set j (.cl b))
  | _ => .bad
theorem gs_set {i : Nat} {v : V} {d : D} : Gs σ F H ρ (σ.set i (some v)) F H (ρ.set i (.cl d)) := Gs.to (is := [i]) NoOw.set Touch.set fun k hk e q => by
  have z : k = i := by simpa using hk
  subst z
  rcases set_get q with ⟨_, w⟩ | ⟨w, _⟩
  · cases w
  · exact w rfl
theorem tS_par {i j : Nat} {m : M (List D)} (hi : fx.ow.contains i = false) (hj : fx.ow.contains j = false) (h : tS g fx W (sPar i j m) E σ H) : tPar i j (tA g fx W true ea m) E σ H := by
  obtain ⟨F, ρ, S, h⟩ := h
  refine ⟨F, ρ, S, ?_⟩
  unfold sPar sDo at h
  cases e : m ρ with
  | bad => rw [e] at h; exact h
  | exn c x r =>
    rw [e] at h
    exact xgs h
  | ok ds ρ1 =>
    rw [e] at h
    intro vs H1 F1 G1 S1 r1
    match ds, h, r1 with
    | [a, b], h, r1 =>
      obtain ⟨v, r, rfl, ra, w, r', rfl, rb, rfl⟩ := r1
      refine ⟨v, w, rfl, h _ H1 F1 ((G1.gs.trans gs_set).trans gs_set) ((S1.set hi ra).set hj rb)⟩
    | [], h, r1 => exact h.elim
    | [_], h, r1 => exact h.elim
    | _ :: _ :: _ :: _, h, r1 => exact h.elim
end
section
variable {X : Cx} {fx : Fx} {W : WX} {ea eb ei ec ee : Bool} {m k : M D} {ml : M (List D)} {pos spos py : Pos} {es : List Expr} {e a b : Expr} {y : Str}
theorem sf_lst (h : SA X fx W true ea es ml) : SF X fx W ea (.List es pos) (eN mkLst ml) := PE.imp (pe_lst h) fun σ H Q q => tF_lst q
theorem sf_dnew : SF X fx W false (.Dict [] [] pos) (eC (.dic [])) := PE.imp pe_dnewK fun σ H Q q => tF_dnew q
theorem se_fr (h : SF X fx W ea e m) : SE X fx W true true e m := PE.imp (pe_plock h) fun σ H Q q => tE_fr q
theorem sf_move (i : Nat) (hN : X.N[i]? = some y := by rfl) (hi : fx.ow.contains i = false := by rfl) (hv : Vis X.env.scope y := by first | exact Or.inl rfl | exact Or.inr (Or.inl rfl) | exact Or.inr (Or.inr rfl)) (hd : (y == ("__debug__" : Str)) = false := by decide)
    (hcd : (y == ("__classdict__" : Str)) = false := by decide) : SF X fx W true (.Name y pos) (eMove i) := PE.imp (pe_var hN hv hd hcd) fun σ H Q q => tF_move hi q
theorem sf_call {x : Str} {p : Pos} {fn : Fn} {n j : Nat} (C : Fd X.prog X.w X.K X.mg X.base x [] .fr n j fn) (hr : Room j X.A) (tk : Takes X W) (ha : SA X fx W true ea (e :: es) ml) (hn : ∀ ρ ds ρ', ml ρ = .ok ds ρ' → ds.length = n) (hg : Gl X x := by rfl)
    (hdb : (x == ("__debug__" : Str)) = false := by decide) (he : starEach (e :: es) X.env = (false, eval e X.env) :: starEach es X.env := by rfl) (hpl : (backTo pos (starEach es X.env)).any (·.1) = false := by rfl) :
    SF X fx W ea (.Call (.Name x p) (e :: es) [] pos) (eCall fn ml) := by
  obtain ⟨f, fd, ps, F, hm, hk, hb⟩ := C.ex
  exact PE.imp (pe_callS F hr hg hm hk hb (fun σ => passAt tk σ) ha hdb he hpl) fun σ H Q q => tF_call hn q
theorem ss_asgO (i : Nat) (hN : X.N.Nodup) (he : SF X fx W ea e m) (hi : X.N[i]? = some y := by rfl) (ho : fx.ow.contains i = false := by rfl) (hx : Loc X.env.scope y := by first | exact .inl rfl | exact .inr rfl) (hs : swapsWith e (some (.Name y py)) pos.line X.env = pure false := by rfl)
    (hf : X.fn y = true ∨ X.env.scope.names.lookup y = some .local := by first | exact .inl rfl | exact .inr rfl) : SS X fx W (.Assign [.Name y py] e pos) (sAsgO i m) := PS.imp (ps_set hN hi hx he hs hf) fun E σ H q => tS_asgO ho q
theorem ss_retF (he : SF X fx W ea e m) (hk : fx.rk = .fr := by rfl) : SS X fx W (.Return (some e) pos) (sRet m) := PS.imp (ps_ret he) fun E σ H q => tS_retF hk q
theorem ss_app (i : Nat) {apos cpos : Pos} (he : SE X fx W true ea e m) (hN : X.N[i]? = some y := by rfl) (hv : Vis X.env.scope y := by first | exact Or.inl rfl | exact Or.inr (Or.inl rfl) | exact Or.inr (Or.inr rfl)) (hd : (y == ("__debug__" : Str)) = false := by decide) (hcd : (y == ("__classdict__" : Str)) = false := by decide)
    (h1 : starEach [e] X.env = (false, eval e X.env) :: starEach [] X.env := by rfl) (hbase : attributeBase (.Name y py) "append" X.env (eval (.Name y py) X.env) = eval (.Name y py) X.env := by rfl)
    (hfew : ((backTo cpos (starEach [e] X.env)).all (fun x => !x.1) && (backToKw cpos (keywordEach [] X.env)).all (fun x => x.1.isSome) && decide (([e] : List Expr).length + ([] : List Keyword).length + (if ([] : List Keyword).isEmpty then 0 else 1) < 30)) = true := by rfl)
    (hline : (apos.endLine == cpos.line) = true := by rfl) (hplain : (backTo cpos (starEach [] X.env)).any (·.1) = false := by rfl) (hsw : swapsWith (.Call (.Attribute (.Name y py) "append" apos) [e] [] cpos) none spos.line X.env = pure false := by rfl) :
    SS X fx W (.Expr (.Call (.Attribute (.Name y py) "append" apos) [e] [] cpos) spos) (sApp i m) :=
  PS.imp (ps_expr (pe_bm PySem.F.plainAttrs_list PySem.F.slot_list_append PySem.F.type_list_append mt_append (pv i hN hv hd hcd) (pa_cons he pa_nil h1) hbase hfew hline h1 hplain) hsw) fun E σ H q => tS_app q
theorem ss_setI (i : Nat) {p1 p2 : Pos} {k' : Expr} (he : SE X fx W true ea e m) (hk : SE X fx W true eb k' k) (hN : X.N[i]? = some y := by rfl) (hv : Vis X.env.scope y := by first | exact Or.inl rfl | exact Or.inr (Or.inl rfl) | exact Or.inr (Or.inr rfl)) (hd : (y == ("__debug__" : Str)) = false := by decide) (hcd : (y == ("__classdict__" : Str)) = false := by decide)
    (hsub : ∀ v, assign (.Subscript (.Name y p1) k' p2) X.env v = (do
      let ov ← holding [v] (eval (.Name y p1) X.env)
      let iv ← holding [v, ov] (eval k' X.env)
      standAt p2
      holding [v, ov, iv] (setItem ov iv v)
      release [v, ov, iv] []) := by intro _; rfl)
    (hs : swapsWithSole [.Subscript (.Name y p1) k' p2] e pos.line X.env = pure false := by rfl) (hw : swappedStores [.Subscript (.Name y p1) k' p2] e X.env = pure none := by rfl)
    (h1 : (assignEach [.Subscript (.Name y p1) k' p2] X.env).map (·.2) = [assign (.Subscript (.Name y p1) k' p2) X.env] := by rfl) : SS X fx W (.Assign [.Subscript (.Name y p1) k' p2] e pos) (sSetI i k m) :=
  PS.imp (ps_asg he (pg_sub (pv i hN hv hd hcd) hk set_list hsub) hs hw h1) fun E σ H q => tS_setI q
theorem ss_par (i j : Nat) {x : Str} {px pt : Pos} {kt k2 : Nat} {pt2 : Pos} (hc : X.calm = true) (hN : X.N.Nodup) (ha : SA X fx W true ea [a, b] ml) (hi : X.N[i]? = some x := by rfl) (hj : X.N[j]? = some y := by rfl) (hij : i ≠ j := by decide) (oi : fx.ow.contains i = false := by rfl) (oj : fx.ow.contains j = false := by rfl)
    (hx : X.env.scope.names.lookup x = some .local := by rfl) (hy : X.env.scope.names.lookup y = some .local := by rfl)
    (hw : swappedStores [.Tuple [.Name x px, .Name y py] kt pt] (.Tuple [a, b] k2 pt2) X.env = pure (some [x, y]) := by rfl)
    (hs : swapsWithSole [.Tuple [.Name x px, .Name y py] kt pt] (.Tuple [a, b] k2 pt2) pos.line X.env = pure false := by rfl) :
    SS X fx W (.Assign [.Tuple [.Name x px, .Name y py] kt pt] (.Tuple [a, b] k2 pt2) pos) (sPar i j ml) := PS.imp (ps_par hc hN hi hj hij hx hy ha hw hs) fun E σ H q => tS_par oi oj q
end
end DL

set_option Elab.async false
set_option linter.all false
set_option maxRecDepth 100000
set_option maxHeartbeats 4000000
namespace DL
open PySem PySem.Spec PyProof.Rows L2

/-! ### readings of data -/
section
variable {g : Gx} {F H : Hp} {v : V} {Q : VK}
theorem w_non (r : WRep g F H .non v) : v = .non := by
  rcases r with r | ⟨a, _, o⟩
  · simpa only [Rep] using r
  · exact o.elim
theorem w_bl {b : Bool} (r : WRep g F H (.bl b) v) : v = .bl b := by
  rcases r with r | ⟨a, _, o⟩
  · simpa only [Rep] using r
  · exact o.elim
theorem w_int {i : Int} (r : WRep g F H (.int i) v) : v = .int i := by
  rcases r with r | ⟨a, _, o⟩
  · simpa only [Rep] using r
  · exact o.elim
theorem w_str {s : Str} (r : WRep g F H (.str s) v) : v = .str s := by
  rcases r with r | ⟨a, _, o⟩
  · simpa only [Rep] using r
  · exact o.elim
theorem w_lst {xs : List D} (s : Sub F H) (r : WRep g F H (.lst xs) v) : ∃ a vs, v = .ref a ∧ H a = some (.lst vs) ∧ RepL g F xs vs := by
  rcases r with r | ⟨a, e, o⟩
  · simp only [Rep] at r
    obtain ⟨a, vs, e, h, l⟩ := r
    exact ⟨a, vs, e, s _ _ h, l⟩
  · obtain ⟨vs, h, l⟩ := o
    exact ⟨a, vs, e, h, l⟩
theorem w_ros {xs : List D} (s : Sub F H) (r : WRep g F H (.ros xs) v) : ∃ a vs, v = .ref a ∧ SqL g.K H a vs ∧ RepL g F xs vs := by
  rcases r with r | ⟨a, e, o⟩
  · simp only [Rep] at r
    obtain ⟨a, vs, e, h, l⟩ := r
    exact ⟨a, vs, e, sqL_mono s h, l⟩
  · exact o.elim
theorem w_tup {xs : List D} (s : Sub F H) (r : WRep g F H (.tup xs) v) : ∃ a vs, v = .ref a ∧ SqT g.K H a vs ∧ RepL g F xs vs ∧ Rep g F (.tup xs) v := by
  rcases r with r | ⟨a, e, o⟩
  · have r0 := r
    simp only [Rep] at r
    obtain ⟨a, vs, e, h, l⟩ := r
    exact ⟨a, vs, e, sqT_mono s h, l, r0⟩
  · exact o.elim
theorem w_dic {xs : List (Key × D)} (s : Sub F H) (r : WRep g F H (.dic xs) v) : ∃ a vs, v = .ref a ∧ Rd H a (.dK vs) ∧ RepK g F xs vs := by
  rcases r with r | ⟨a, e, o⟩
  · simp only [Rep] at r
    obtain ⟨a, vs, e, ⟨u, h⟩, l⟩ := r
    exact ⟨a, vs, e, .inr ⟨u, s _ _ h⟩, l⟩
  · obtain ⟨vs, h, l⟩ := o
    exact ⟨a, vs, e, .inl h, l⟩
/-- the items of a list, for reading -/
def lstOf : D → Option (List D)
  | .lst xs => some xs
  | .ros xs => some xs
  | _ => none
theorem w_lstOf {d : D} {xs : List D} (s : Sub F H) (e : lstOf d = some xs) (r : WRep g F H d v) : ∃ a vs, v = .ref a ∧ SqL g.K H a vs ∧ RepL g F xs vs := by
  cases d with
  | lst ys =>
    cases e
    obtain ⟨a, vs, e, h, l⟩ := w_lst s r
    exact ⟨a, vs, e, SqL.of h, l⟩
  | ros ys =>
    cases e
    exact w_ros s r
  | _ => cases e
theorem Gives.bl {b : Bool} (s : Sub F H) (h : Gives g F H (.bl b) Q) : Q (.bl b) H := h _ _ _ (Grow.refl s) (by simp only [Rep])
theorem Gives.int {i : Int} (s : Sub F H) (h : Gives g F H (.int i) Q) : Q (.int i) H := h _ _ _ (Grow.refl s) (by simp only [Rep])
theorem Gives.str {x : Str} (s : Sub F H) (h : Gives g F H (.str x) Q) : Q (.str x) H := h _ _ _ (Grow.refl s) (by simp only [Rep])
theorem Gives.val {d : D} (s : Sub F H) (r : Rep g F d v) (h : Gives g F H d Q) : Q v H := h _ _ _ (Grow.refl s) r
/-- all items dInts, bools, texts -/
def dInts : List D → Option (List Int)
  | [] => some []
  | .int i :: ds => (dInts ds).map (i :: ·)
  | _ => none
theorem dInts_rep : ∀ {xs : List D} {is : List Int} {vs : List V}, dInts xs = some is → RepL g F xs vs → vs = is.map V.int
  | [], is, vs, e, r => by
    cases e
    simp only [RepL] at r
    subst r
    rfl
  | .int i :: ds, is, vs, e, r => by
    simp only [RepL, Rep] at r
    obtain ⟨v, w, rfl, rfl, r⟩ := r
    unfold dInts at e
    cases q : dInts ds with
    | none => rw [q] at e; cases e
    | some js =>
      rw [q] at e
      cases e
      rw [dInts_rep q r]
      rfl
  | .non :: _, _, _, e, _ => by cases e
  | .bl _ :: _, _, _, e, _ => by cases e
  | .str _ :: _, _, _, e, _ => by cases e
  | .lst _ :: _, _, _, e, _ => by cases e
  | .tup _ :: _, _, _, e, _ => by cases e
  | .dic _ :: _, _, _, e, _ => by cases e
  | .ros _ :: _, _, _, e, _ => by cases e
  | .exc _ _ _ :: _, _, _, e, _ => by cases e
def dBls : List D → Option (List Bool)
  | [] => some []
  | .bl i :: ds => (dBls ds).map (i :: ·)
  | _ => none
theorem dBls_rep : ∀ {xs : List D} {is : List Bool} {vs : List V}, dBls xs = some is → RepL g F xs vs → vs = is.map V.bl
  | [], is, vs, e, r => by
    cases e
    simp only [RepL] at r
    subst r
    rfl
  | .bl i :: ds, is, vs, e, r => by
    simp only [RepL, Rep] at r
    obtain ⟨v, w, rfl, rfl, r⟩ := r
    unfold dBls at e
    cases q : dBls ds with
    | none => rw [q] at e; cases e
    | some js =>
      rw [q] at e
      cases e
      rw [dBls_rep q r]
      rfl
  | .non :: _, _, _, e, _ => by cases e
  | .int _ :: _, _, _, e, _ => by cases e
  | .str _ :: _, _, _, e, _ => by cases e
  | .lst _ :: _, _, _, e, _ => by cases e
  | .tup _ :: _, _, _, e, _ => by cases e
  | .dic _ :: _, _, _, e, _ => by cases e
  | .ros _ :: _, _, _, e, _ => by cases e
  | .exc _ _ _ :: _, _, _, e, _ => by cases e
def dStrs : List D → Option (List Str)
  | [] => some []
  | .str i :: ds => (dStrs ds).map (i :: ·)
  | _ => none
theorem dStrs_rep : ∀ {xs : List D} {is : List Str} {vs : List V}, dStrs xs = some is → RepL g F xs vs → vs = is.map V.str
  | [], is, vs, e, r => by
    cases e
    simp only [RepL] at r
    subst r
    rfl
  | .str i :: ds, is, vs, e, r => by
    simp only [RepL, Rep] at r
    obtain ⟨v, w, rfl, rfl, r⟩ := r
    unfold dStrs at e
    cases q : dStrs ds with
    | none => rw [q] at e; cases e
    | some js =>
      rw [q] at e
      cases e
      rw [dStrs_rep q r]
      rfl
  | .non :: _, _, _, e, _ => by cases e
  | .int _ :: _, _, _, e, _ => by cases e
  | .bl _ :: _, _, _, e, _ => by cases e
  | .lst _ :: _, _, _, e, _ => by cases e
  | .tup _ :: _, _, _, e, _ => by cases e
  | .dic _ :: _, _, _, e, _ => by cases e
  | .ros _ :: _, _, _, e, _ => by cases e
  | .exc _ _ _ :: _, _, _, e, _ => by cases e
end

/-! ### arithmetic -/
def opAdd : D → D → R D
  | .int a, .int b => .ok (.int (a + b))
  | .str a, .str b => if a.length + b.length ≤ 16777216 then .ok (.str (a ++ b)) else .bad
  | .lst xs, .lst ys => if xs.length + ys.length ≤ 16777216 then .ok (.lst (xs ++ ys)) else .bad
  | .tup xs, .tup ys => if xs.length + ys.length ≤ 16777216 then .ok (.tup (xs ++ ys)) else .bad
  | _, _ => .bad
def opSub : D → D → R D
  | .int a, .int b => .ok (.int (a - b))
  | _, _ => .bad
def opMul : D → D → R D
  | .int a, .int b => if (Builtin.Int.intBits a : Int) + (Builtin.Int.intBits b : Int) ≤ 134217728 then .ok (.int (a * b)) else .bad
  | .lst xs, .int b => if -(2 ^ 63) ≤ b ∧ b < 2 ^ 63 ∧ xs.length * b.toNat ≤ 16777216 then .ok (.lst (List.replicate b.toNat xs).flatten) else .bad
  | _, _ => .bad
def opMod : D → D → R D
  | .int a, .int b => if 0 < b then .ok (.int (a % b)) else .bad
  | _, _ => .bad
def opFdiv : D → D → R D
  | .int a, .int b => if 0 < b ∧ b.natAbs.log2 < 9000 then .ok (.int (a / b)) else .bad
  | _, _ => .bad
def CPowX (i j : Int) : Prop := 0 ≤ j ∧ (Builtin.Int.intBits i : Int) * j ≤ 2 ^ 27
def opPow : D → D → R D
  | .int a, .int b => if 0 ≤ b ∧ (Builtin.Int.intBits a : Int) * b ≤ 2 ^ 27 then .ok (.int (a ^ b.toNat)) else .bad
  | _, _ => .bad
def opNeg : D → R D
  | .int a => .ok (.int (-a))
  | _ => .bad
section
variable {X : Cx}
theorem op_powX : OpR X (binaryOp .Pow) (rI CPowX fun i j => .int (i ^ j.toNat)) := opI fun _ _ _ _ _ _ _ hc q => pow_int hc.1 hc.2 q
theorem o_add : OpR X (binaryOp .Add) (fun x y H Q => rI0 (fun i j => .int (i + j)) x y H Q ∨ (∃ i j, x = .str i ∧ y = .str j ∧ i.length + j.length ≤ sizeLine ∧ Q (.str (i ++ j)) H) ∨ rCat x y H Q ∨ rCatA X.K x y H Q) :=
  op_add.or (op_add_str.or (op_cat.or op_catA))
theorem s_add {g : Gx} : Snd2 g (fun x y H Q => rI0 (fun i j => .int (i + j)) x y H Q ∨ (∃ i j, x = .str i ∧ y = .str j ∧ i.length + j.length ≤ sizeLine ∧ Q (.str (i ++ j)) H) ∨ rCat x y H Q ∨ rCatA g.K x y H Q) opAdd := by
  intro F H dx dy x y d Q s rx ry e G
  cases dx with
  | int a =>
    cases dy with
    | int b =>
      cases e
      exact .inl ⟨a, b, w_int rx, w_int ry, G.int s⟩
    | _ => cases e
  | str a =>
    cases dy with
    | str b =>
      dsimp only [opAdd] at e
      by_cases q : a.length + b.length ≤ 16777216
      · rw [if_pos q] at e
        cases e
        exact .inr (.inl ⟨a, b, w_str rx, w_str ry, by rw [sizeLine_eq]; exact q, G.str s⟩)
      · rw [if_neg q] at e; cases e
    | _ => cases e
  | lst xs =>
    cases dy with
    | lst ys =>
      dsimp only [opAdd] at e
      by_cases q : xs.length + ys.length ≤ 16777216
      · rw [if_pos q] at e
        cases e
        obtain ⟨a, vs, rfl, ha, la⟩ := w_lst s rx
        obtain ⟨b, ws, rfl, hb, lb⟩ := w_lst s ry
        exact .inr (.inr (.inl ⟨a, b, vs, ws, rfl, rfl, ha, hb, by rw [la.length, lb.length, sizeLine_eq]; exact q, fun p hp => new_lst s (la.append lb) G hp⟩))
      · rw [if_neg q] at e; cases e
    | _ => cases e
  | tup xs =>
    cases dy with
    | tup ys =>
      dsimp only [opAdd] at e
      by_cases q : xs.length + ys.length ≤ 16777216
      · rw [if_pos q] at e
        cases e
        obtain ⟨a, vs, rfl, ha, la, ra⟩ := w_tup s rx
        obtain ⟨b, ws, rfl, hb, lb, rb⟩ := w_tup s ry
        refine .inr (.inr (.inr ⟨a, b, vs, ws, rfl, rfl, ha, hb, by rw [la.length, lb.length, sizeLine_eq]; exact q, fun z => ?_, fun _ z => ?_, fun _ _ p hp => new_tup s (la.append lb) G hp⟩))
        · have e0 : xs = [] := by
            have := la.length
            rw [z] at this
            exact List.length_eq_zero_iff.mp this.symm
          subst e0
          exact G.val s rb
        · have e0 : ys = [] := by
            have := lb.length
            rw [z] at this
            exact List.length_eq_zero_iff.mp this.symm
          subst e0
          rw [List.append_nil] at G
          exact G.val s ra
      · rw [if_neg q] at e; cases e
    | _ => cases e
  | _ => cases dy <;> cases e
theorem s_sub {g : Gx} : Snd2 g (rI0 fun i j => .int (i - j)) opSub := by
  intro F H dx dy x y d Q s rx ry e G
  cases dx with
  | int a =>
    cases dy with
    | int b =>
      cases e
      exact ⟨a, b, w_int rx, w_int ry, G.int s⟩
    | _ => cases e
  | _ => cases dy <;> cases e
theorem o_mul : OpR X (binaryOp .Mult) (fun x y H Q => rI CMulX (fun i j => .int (i * j)) x y H Q ∨ rRep x y H Q) := op_mulX.or op_rep
theorem s_mul {g : Gx} : Snd2 g (fun x y H Q => rI CMulX (fun i j => .int (i * j)) x y H Q ∨ rRep x y H Q) opMul := by
  intro F H dx dy x y d Q s rx ry e G
  cases dx with
  | int a =>
    cases dy with
    | int b =>
      dsimp only [opMul] at e
      by_cases q : (Builtin.Int.intBits a : Int) + (Builtin.Int.intBits b : Int) ≤ 134217728
      · rw [if_pos q] at e
        cases e
        exact .inl ⟨a, b, w_int rx, w_int ry, q, G.int s⟩
      · rw [if_neg q] at e; cases e
    | _ => cases e
  | lst xs =>
    cases dy with
    | int b =>
      dsimp only [opMul] at e
      by_cases q : -(2 ^ 63) ≤ b ∧ b < 2 ^ 63 ∧ xs.length * b.toNat ≤ 16777216
      · rw [if_pos q] at e
        cases e
        obtain ⟨a, vs, rfl, ha, la⟩ := w_lst s rx
        refine .inr ⟨a, b, vs, rfl, w_int ry, ha, q.1, q.2.1, by rw [la.length, sizeLine_eq]; exact q.2.2, fun p hp => new_lst s ?_ G hp⟩
        generalize b.toNat = n
        induction n with
        | zero => exact RepL.nil
        | succ n ih =>
          rw [List.replicate_succ, List.replicate_succ, List.flatten_cons, List.flatten_cons]
          exact la.append ih
      · rw [if_neg q] at e; cases e
    | _ => cases e
  | _ => cases dy <;> cases e
theorem s_mod {g : Gx} : Snd2 g (rI (fun _ j => 0 < j) fun i j => .int (i % j)) opMod := by
  intro F H dx dy x y d Q s rx ry e G
  cases dx with
  | int a =>
    cases dy with
    | int b =>
      dsimp only [opMod] at e
      by_cases q : 0 < b
      · rw [if_pos q] at e
        cases e
        exact ⟨a, b, w_int rx, w_int ry, q, G.int s⟩
      · rw [if_neg q] at e; cases e
    | _ => cases e
  | _ => cases dy <;> cases e
theorem s_fdiv {g : Gx} : Snd2 g (rI CDivW fun i j => .int (i / j)) opFdiv := by
  intro F H dx dy x y d Q s rx ry e G
  cases dx with
  | int a =>
    cases dy with
    | int b =>
      dsimp only [opFdiv] at e
      by_cases q : 0 < b ∧ b.natAbs.log2 < 9000
      · rw [if_pos q] at e
        cases e
        exact ⟨a, b, w_int rx, w_int ry, q, G.int s⟩
      · rw [if_neg q] at e; cases e
    | _ => cases e
  | _ => cases dy <;> cases e
theorem s_pow {g : Gx} : Snd2 g (rI CPowX fun i j => .int (i ^ j.toNat)) opPow := by
  intro F H dx dy x y d Q s rx ry e G
  cases dx with
  | int a =>
    cases dy with
    | int b =>
      dsimp only [opPow] at e
      by_cases q : 0 ≤ b ∧ (Builtin.Int.intBits a : Int) * b ≤ 2 ^ 27
      · rw [if_pos q] at e
        cases e
        exact ⟨a, b, w_int rx, w_int ry, q, G.int s⟩
      · rw [if_neg q] at e; cases e
    | _ => cases e
  | _ => cases dy <;> cases e
theorem s_neg {g : Gx} : Snd1 g (rU fun i => .int (-i)) opNeg := by
  intro F H dx x d Q s rx e G
  cases dx with
  | int a =>
    cases e
    exact ⟨a, w_int rx, G.int s⟩
  | _ => cases e
end
end DL

set_option Elab.async false
set_option linter.all false
set_option maxRecDepth 100000
set_option maxHeartbeats 4000000
namespace DL
open PySem PySem.Spec PyProof.Rows L2

/-! ### == of data -/
mutual
def toP : D → Option PyData
  | .non => some .none
  | .bl b => some (.bool b)
  | .int i => some (.int i)
  | .str s => some (.str s)
  | .lst xs => (toPs xs).map .list
  | .ros xs => (toPs xs).map .list
  | .tup xs => (toPs xs).map .tuple
  | .dic _ => none
  | .exc _ _ _ => none
def toPs : List D → Option (List PyData)
  | [] => some []
  | d :: ds => match toP d with
    | none => none
    | some p => (toPs ds).map (p :: ·)
end
section
variable {g : Gx} {F H : Hp}
mutual
theorem dp_rep (s : Sub F H) : ∀ {d : D} {p : PyData} {v : V}, toP d = some p → Rep g F d v → Dp g.K H v p
  | .non, p, v, e, r => by
    unfold toP at e; cases e
    simp only [Rep] at r; subst r
    exact .non
  | .bl b, p, v, e, r => by
    unfold toP at e; cases e
    simp only [Rep] at r; subst r
    exact .bl b
  | .int b, p, v, e, r => by
    unfold toP at e; cases e
    simp only [Rep] at r; subst r
    exact .int b
  | .str b, p, v, e, r => by
    unfold toP at e; cases e
    simp only [Rep] at r; subst r
    exact .str b
  | .lst xs, p, v, e, r => by
    unfold toP at e
    simp only [Rep] at r
    obtain ⟨a, vs, rfl, h, l⟩ := r
    cases q : toPs xs with
    | none => rw [q] at e; cases e
    | some ps =>
      rw [q] at e; cases e
      exact .lst (SqL.of (s _ _ h)) (dps_rep s q l)
  | .ros xs, p, v, e, r => by
    unfold toP at e
    simp only [Rep] at r
    obtain ⟨a, vs, rfl, h, l⟩ := r
    cases q : toPs xs with
    | none => rw [q] at e; cases e
    | some ps =>
      rw [q] at e; cases e
      exact .lst (sqL_mono s h) (dps_rep s q l)
  | .tup xs, p, v, e, r => by
    unfold toP at e
    simp only [Rep] at r
    obtain ⟨a, vs, rfl, h, l⟩ := r
    cases q : toPs xs with
    | none => rw [q] at e; cases e
    | some ps =>
      rw [q] at e; cases e
      exact .tup (sqT_mono s h) (dps_rep s q l)
  | .dic _, _, _, e, _ => by unfold toP at e; cases e
  | .exc _ _ _, _, _, e, _ => by unfold toP at e; cases e
theorem dps_rep (s : Sub F H) : ∀ {ds : List D} {ps : List PyData} {vs : List V}, toPs ds = some ps → RepL g F ds vs → DpAll g.K H vs ps
  | [], ps, vs, e, r => by
    unfold toPs at e; cases e
    simp only [RepL] at r; subst r
    exact .nil
  | d :: ds, ps, vs, e, r => by
    simp only [RepL] at r
    obtain ⟨v, w, rfl, r1, r2⟩ := r
    unfold toPs at e
    cases q : toP d with
    | none => rw [q] at e; cases e
    | some p =>
      rw [q] at e
      dsimp only at e
      cases q2 : toPs ds with
      | none => rw [q2] at e; cases e
      | some qs =>
        rw [q2] at e; cases e
        exact .cons (dp_rep s q r1) (dps_rep s q2 r2)
end
theorem dp_w (s : Sub F H) {d : D} {p : PyData} {v : V} (e : toP d = some p) (r : WRep g F H d v) : Dp g.K H v p := by
  rcases r with r | ⟨a, rfl, o⟩
  · exact dp_rep s e r
  · cases d with
    | lst xs =>
      obtain ⟨vs, h, l⟩ := o
      unfold toP at e
      cases q : toPs xs with
      | none => rw [q] at e; cases e
      | some ps =>
        rw [q] at e; cases e
        exact .lst (SqL.of h) (dps_rep s q l)
    | dic xs => unfold toP at e; cases e
    | _ => exact o.elim
end
def eqD : D → D → R Bool
  | .int a, .int b => .ok (a == b)
  | .str a, .str b => .ok (a == b)
  | .bl a, .bl b => .ok (a == b)
  | x, y => match toP x, toP y with
    | some p, some q => if SeqAt.shaped p = true ∧ SeqAt.shaped q = true then .ok (PyData.eqv p q) else .bad
    | _, _ => .bad
/-- one own error is itself; of two of them nothing is said -/
def sameX : D → D → Option Bool
  | .exc a _ _, .exc b _ _ => some (decide (a = b))
  | _, _ => none
def opEq (x y : D) : R D := match sameX x y with
  | some true => .ok (.bl true)
  | some false => .bad
  | none => match eqD x y with
    | .ok b => .ok (.bl b)
    | .bad => .bad
def opNe (x y : D) : R D := match eqD x y with
  | .ok b => .ok (.bl (!b))
  | .bad => .bad
section
variable {X : Cx} {pins : List (Addr × Obj)} {σ : L2.St} {H : Hp} {s : Shared}
theorem ext_inst {a C d : Addr} {fs : List (Str × V)} (I : Inv X pins σ H s) (ha : H a = some (ExT C d a)) (hd : H d = some (.xd fs)) : ∃ oe od, PySem.W.InstAt s.heap a oe C (some od) ∧ ∃ mA, s.heap.Ns1 d mA ∧ (∀ f, RelO (fs.lookup f) (mA f)) ∧ s.heap.get? d = some od ∧ ∀ n, PySem.W.lookIn n od = some (mA n) := by
  obtain ⟨⟨oe, vs, e1, e2, e3, e4⟩, _, _⟩ := I.hok a _ ha
  have hx : ObjOk X.prog X.w H s.heap d (.xd fs) := I.hok d _ hd
  obtain ⟨mA, hns, hr⟩ := hx
  obtain ⟨od, ho, hl⟩ := lookIn_ns hns
  exact ⟨oe, od, ⟨e1, e2, by unfold PySem.W.notCls; rw [e4] <;> rfl, by rw [e3]; exact ho⟩, mA, hns, hr, ho, fun n => by rw [hl]⟩
end
section
variable {prog : Program} {w : World} {A : Around} {E : Value → Shared → Prop} {s : Shared} {K : PySem.W.Frag} {x C : Addr} {ox : Obj} {od : Option Obj}
/-- an instance without an own __eq__ is equal to itself -/
theorem rc_self {Q : Value → Shared → Prop} (hu : A.units < cLine) (X : K.In s.heap) (I : PySem.W.InstAt s.heap x ox C od) (hm : PySem.W.mroIn K C (.type "object") = some true) (he : PySem.W.findIn K (.ref C) "__eq__" = some (some (.builtin "object.__eq__"))) (hq : Q (.bool true) s) :
    wpAny (model prog w) A (richCompare .Eq (.ref x) (.ref x)) Q E s := by
  have it : wpAny (model prog w) A (tryCompare (.ref x) "__eq__" (.ref x)) (fun r s' => r = some (.bool true) ∧ s' = s) E s := by
    unfold tryCompare
    exact wpAny_bind (HN.ifBound_objEq X I he (wpAny_call (codeAny_call_builtin F.cmp_object.eq.plain F.cmpEntry_eq (PySem.W.check_slot F.cmpKind_eq F.cmpSplit_eq (I.type.andThen (PySem.W.looks_mroIn X hm)) (F.cmpArgs_eq _ _) (objEq_entry_same (wpAny_pure ⟨rfl, rfl⟩))))))
  simp only [richCompare, cmpInfo_Eq, oneThing_ref]
  refine wpAny_holding (wpAny_bind (wpAny_cRoomFor hu (wpAny_bind (I.type.here (wpAny_bind (I.type.here ?_))))))
  split
  · rename_i q
    exact absurd q (by simp)
  · refine wpAny_bind (wpAny_pure ?_)
    simp only [Bool.false_eq_true, if_false]
    refine wpAny_bind (m := tryCompare (.ref x) _ (.ref x)) (wpAny_mono it (fun r s1 z => ?_) fun _ _ e => e)
    obtain ⟨rfl, rfl⟩ := z
    exact wpAny_pure hq
end
def rEqX (K : PySem.W.Frag) : R2 := fun x y H Q => ∃ (a C d : Addr) (fs : List (Str × V)), x = .ref a ∧ y = .ref a ∧ H a = some (ExT C d a) ∧ H d = some (.xd fs) ∧ XcC K C ∧ Q (.bl true) H
theorem op_eqX {X : Cx} (hu : X.A.units + 64 < cLine) : OpR X (compareOp .Eq) (rEqX X.K) := by
  intro pins s σ H x y v u Q I rx ry h
  obtain ⟨a, C, d, fs, rfl, rfl, ha, hd, T, q⟩ := h
  cases rx
  cases ry
  obtain ⟨oe, od, J, _⟩ := ext_inst I ha hd
  show wpAny (model X.prog X.w) X.A (richCompare .Eq _ _) (EP X pins σ Q) X.xe s
  exact rc_self (by omega) I.kIn J T.hm T.he ⟨.bl true, H, I, rfl, q⟩
section
variable {X : Cx} {g : Gx}
theorem o_eq (hu : X.A.units + 64 < cLine) : OpR X (compareOp .Eq) (fun x y H Q => (rEq x y H Q ∨ rEqD X.K x y H Q) ∨ rEqX X.K x y H Q) := (op_eq.or (op_eqD hu)).or (op_eqX hu)
theorem o_ne (hu : X.A.units + 64 < cLine) : OpR X (compareOp .NotEq) (fun x y H Q => rNe x y H Q ∨ rNeD X.K x y H Q) := op_ne.or (op_neD hu)
theorem eqD_gen {F H : Hp} {dx dy : D} {x y : V} {b : Bool} (s : Sub F H) (rx : WRep g F H dx x) (ry : WRep g F H dy y) (e : eqD dx dy = .ok b) :
    (scal x y = true ∧ decide (x = y) = b) ∨ ∃ p q, Dp g.K H x p ∧ Dp g.K H y q ∧ SeqAt.shaped p = true ∧ SeqAt.shaped q = true ∧ PyData.eqv p q = b := by
  unfold eqD at e
  split at e
  · cases e
    rw [w_int rx, w_int ry]
    exact .inl ⟨rfl, dec_int⟩
  · cases e
    rw [w_str rx, w_str ry]
    exact .inl ⟨rfl, dec_str⟩
  · cases e
    rw [w_bl rx, w_bl ry]
    exact .inl ⟨rfl, dec_bl⟩
  · split at e
    · rename_i p q ep eq
      by_cases c : SeqAt.shaped p = true ∧ SeqAt.shaped q = true
      · rw [if_pos c] at e
        cases e
        exact .inr ⟨p, q, dp_w s ep rx, dp_w s eq ry, c.1, c.2, rfl⟩
      · rw [if_neg c] at e; cases e
    · cases e
theorem w_exc {F H : Hp} {a : Addr} {c : Str} {x : D} {v : V} (s : Sub F H) (r : WRep g F H (.exc a c x) v) : ∃ C d w, v = .ref a ∧ g.mg c = some (.ref C) ∧ XcC g.K C ∧ H a = some (ExT C d a) ∧ H d = some (.xd [("value", w)]) ∧ Rep g F x w := by
  rcases r with r | ⟨b, e, o⟩
  · simp only [Rep] at r
    obtain ⟨C, d, w, e, h1, hx, h2, h3, h4⟩ := r
    exact ⟨C, d, w, e, h1, hx, s _ _ h2, s _ _ h3, h4⟩
  · exact o.elim
theorem s_eq : Snd2 g (fun x y H Q => (rEq x y H Q ∨ rEqD g.K x y H Q) ∨ rEqX g.K x y H Q) opEq := by
  intro F H dx dy x y d Q s rx ry e G
  unfold opEq at e
  cases z : sameX dx dy with
  | none =>
    rw [z] at e
    dsimp only at e
    cases q : eqD dx dy with
    | bad => rw [q] at e; cases e
    | ok b =>
      rw [q] at e; cases e
      rcases eqD_gen s rx ry q with ⟨h1, h2⟩ | ⟨p, q, h1, h2, h3, h4, h5⟩
      · exact .inl (.inl ⟨h1, by rw [h2]; exact G.bl s⟩)
      · exact .inl (.inr ⟨p, q, h1, h2, h3, h4, by rw [h5]; exact G.bl s⟩)
  | some k =>
    rw [z] at e
    cases k with
    | false => cases e
    | true =>
      cases e
      unfold sameX at z
      split at z
      · rename_i a c v b c' v'
        have ab : a = b := by simpa using z
        subst ab
        obtain ⟨C, d, w, rfl, _, T, h1, h2, _⟩ := w_exc s rx
        obtain ⟨_, _, _, rfl, _⟩ := w_exc s ry
        exact .inr ⟨a, C, d, _, rfl, rfl, h1, h2, T, G.bl s⟩
      · cases z
theorem s_ne : Snd2 g (fun x y H Q => rNe x y H Q ∨ rNeD g.K x y H Q) opNe := by
  intro F H dx dy x y d Q s rx ry e G
  unfold opNe at e
  cases q : eqD dx dy with
  | bad => rw [q] at e; cases e
  | ok b =>
    rw [q] at e; cases e
    rcases eqD_gen s rx ry q with ⟨h1, h2⟩ | ⟨p, q, h1, h2, h3, h4, h5⟩
    · exact .inl ⟨h1, by rw [h2]; exact G.bl s⟩
    · exact .inr ⟨p, q, h1, h2, h3, h4, by rw [h5]; exact G.bl s⟩
end

/-! ### order, is, in -/
def opCmp (f : Int → Int → Bool) (h : Str → Str → Bool) : D → D → R D
  | .int a, .int b => .ok (.bl (f a b))
  | .str a, .str b => .ok (.bl (h a b))
  | _, _ => .bad
def opLt : D → D → R D := opCmp (fun i j => decide (i < j)) fun i j => decide (i.cps.toList < j.cps.toList)
def opLe : D → D → R D := opCmp (fun i j => decide (i ≤ j)) fun i j => !decide (j.cps.toList < i.cps.toList)
def opGt : D → D → R D := opCmp (fun i j => decide (j < i)) fun i j => decide (j.cps.toList < i.cps.toList)
def opGe : D → D → R D := opCmp (fun i j => decide (j ≤ i)) fun i j => !decide (i.cps.toList < j.cps.toList)
def rCmp (f : Int → Int → Bool) (h : Str → Str → Bool) : R2 := fun x y H Q => rI0 (fun i j => .bl (f i j)) x y H Q ∨ ∃ i j, x = .str i ∧ y = .str j ∧ Q (.bl (h i j)) H
def isNon : D → Bool
  | .non => true
  | _ => false
def opIsN (x y : D) : R D := match y with
  | .non => .ok (.bl (isNon x))
  | _ => .bad
def opNotN (x y : D) : R D := match y with
  | .non => .ok (.bl (!isNon x))
  | _ => .bad
def opIsB : D → D → R D
  | .bl a, .bl b => .ok (.bl (decide (a = b)))
  | _, _ => .bad
def opNotB : D → D → R D
  | .bl a, .bl b => .ok (.bl (!decide (a = b)))
  | _, _ => .bad
def flat : D → Option V
  | .non => some .non
  | .bl b => some (.bl b)
  | .int i => some (.int i)
  | .str s => some (.str s)
  | _ => none
def flats : List D → Option (List V)
  | [] => some []
  | d :: ds => match flat d with
    | none => none
    | some v => (flats ds).map (v :: ·)
def seqOf : D → Option (List D)
  | .lst xs => some xs
  | .ros xs => some xs
  | .tup xs => some xs
  | _ => none
def inD (x y : D) : R Bool := match x, y with
  | .str a, .str b => .ok (!(Builtin.Str.occurrences b a 0 b.length 1).isEmpty)
  | x, y => match seqOf y, flat x with
    | some ys, some v => match flats ys with
      | some vs => .ok (inV v vs)
      | none => .bad
    | _, _ => .bad
def opIn (x y : D) : R D := match inD x y with
  | .ok b => .ok (.bl b)
  | .bad => .bad
def opNotIn (x y : D) : R D := match inD x y with
  | .ok b => .ok (.bl (!b))
  | .bad => .bad
section
variable {X : Cx} {g : Gx} {F H : Hp}
theorem s_cmp {f : Int → Int → Bool} {h : Str → Str → Bool} : Snd2 g (rCmp f h) (opCmp f h) := by
  intro F H dx dy x y d Q s rx ry e G
  cases dx with
  | int a =>
    cases dy with
    | int b =>
      cases e
      exact .inl ⟨a, b, w_int rx, w_int ry, G.bl s⟩
    | _ => cases e
  | str a =>
    cases dy with
    | str b =>
      cases e
      exact .inr ⟨a, b, w_str rx, w_str ry, G.bl s⟩
    | _ => cases e
  | _ => cases dy <;> cases e
theorem o_lt : OpR X (compareOp .Lt) (rCmp (fun i j => decide (i < j)) fun i j => decide (i.cps.toList < j.cps.toList)) := op_lt.or op_lt_str
theorem o_le : OpR X (compareOp .LtE) (rCmp (fun i j => decide (i ≤ j)) fun i j => !decide (j.cps.toList < i.cps.toList)) := op_le.or op_le_str
theorem o_gt : OpR X (compareOp .Gt) (rCmp (fun i j => decide (j < i)) fun i j => decide (j.cps.toList < i.cps.toList)) := op_gt.or op_gt_str
theorem o_ge : OpR X (compareOp .GtE) (rCmp (fun i j => decide (j ≤ i)) fun i j => !decide (i.cps.toList < j.cps.toList)) := op_ge.or op_ge_str
theorem isNon_ok {d : D} {v : V} (r : WRep g F H d v) : decide (v = .non) = isNon d := by
  rcases r with r | ⟨a, rfl, o⟩
  · cases d <;> simp only [Rep] at r
    · subst r; rfl
    · subst r; rfl
    · subst r; rfl
    · subst r; rfl
    · obtain ⟨a, vs, rfl, _⟩ := r; rfl
    · obtain ⟨a, vs, rfl, _⟩ := r; rfl
    · obtain ⟨a, vs, rfl, _⟩ := r; rfl
    · obtain ⟨a, vs, rfl, _⟩ := r; rfl
    · obtain ⟨_, _, _, rfl, _⟩ := r; rfl
  · cases d <;> first | exact o.elim | rfl
theorem s_isN : Snd2 g (fun x y H Q => y = .non ∧ Q (.bl (decide (x = .non))) H) opIsN := by
  intro F H dx dy x y d Q s rx ry e G
  cases dy with
  | non =>
    cases e
    exact ⟨w_non ry, by rw [isNon_ok rx]; exact G.bl s⟩
  | _ => cases e
theorem s_notN : Snd2 g (fun x y H Q => y = .non ∧ Q (.bl (!decide (x = .non))) H) opNotN := by
  intro F H dx dy x y d Q s rx ry e G
  cases dy with
  | non =>
    cases e
    exact ⟨w_non ry, by rw [isNon_ok rx]; exact G.bl s⟩
  | _ => cases e
theorem s_isB : Snd2 g rIsB opIsB := by
  intro F H dx dy x y d Q s rx ry e G
  cases dx with
  | bl a =>
    cases dy with
    | bl b =>
      cases e
      exact ⟨a, b, w_bl rx, w_bl ry, G.bl s⟩
    | _ => cases e
  | _ => cases dy <;> cases e
theorem s_notB : Snd2 g rNotB opNotB := by
  intro F H dx dy x y d Q s rx ry e G
  cases dx with
  | bl a =>
    cases dy with
    | bl b =>
      cases e
      exact ⟨a, b, w_bl rx, w_bl ry, G.bl s⟩
    | _ => cases e
  | _ => cases dy <;> cases e
theorem flat_rep {d : D} {v w : V} (e : flat d = some v) (r : WRep g F H d w) : w = v ∧ flatV v = true := by
  cases d with
  | non => cases e; exact ⟨w_non r, rfl⟩
  | bl b => cases e; exact ⟨w_bl r, rfl⟩
  | int b => cases e; exact ⟨w_int r, rfl⟩
  | str b => cases e; exact ⟨w_str r, rfl⟩
  | _ => cases e
theorem flats_rep : ∀ {ds : List D} {vs ws : List V}, flats ds = some vs → RepL g F ds ws → ws = vs ∧ vs.all flatV = true
  | [], vs, ws, e, r => by
    unfold flats at e; cases e
    simp only [RepL] at r
    exact ⟨r, rfl⟩
  | d :: ds, vs, ws, e, r => by
    simp only [RepL] at r
    obtain ⟨v, w, rfl, r1, r2⟩ := r
    unfold flats at e
    cases q : flat d with
    | none => rw [q] at e; cases e
    | some u =>
      rw [q] at e
      dsimp only at e
      cases q2 : flats ds with
      | none => rw [q2] at e; cases e
      | some us =>
        rw [q2] at e; cases e
        obtain ⟨h1, h2⟩ := flat_rep (H := F) q (.inl r1)
        obtain ⟨h3, h4⟩ := flats_rep q2 r2
        subst h1 h3
        exact ⟨rfl, by rw [List.all_cons, h2, h4]; rfl⟩
theorem seqOf_rep {d : D} {xs : List D} {v : V} (s : Sub F H) (e : seqOf d = some xs) (r : WRep g F H d v) : ∃ a vs, v = .ref a ∧ (SqL g.K H a vs ∨ SqT g.K H a vs) ∧ RepL g F xs vs := by
  cases d with
  | lst ys =>
    cases e
    obtain ⟨a, vs, e, h, l⟩ := w_lst s r
    exact ⟨a, vs, e, .inl (SqL.of h), l⟩
  | ros ys =>
    cases e
    obtain ⟨a, vs, e, h, l⟩ := w_ros s r
    exact ⟨a, vs, e, .inl h, l⟩
  | tup ys =>
    cases e
    obtain ⟨a, vs, e, h, l, _⟩ := w_tup s r
    exact ⟨a, vs, e, .inr h, l⟩
  | _ => cases e
theorem inD_gen {dx dy : D} {x y : V} {b : Bool} (s : Sub F H) (rx : WRep g F H dx x) (ry : WRep g F H dy y) (e : inD dx dy = .ok b) :
    (∃ i j, x = .str i ∧ y = .str j ∧ (!(Builtin.Str.occurrences j i 0 j.length 1).isEmpty) = b) ∨ ∃ p xs, y = .ref p ∧ (SqL g.K H p xs ∨ SqT g.K H p xs) ∧ flatV x = true ∧ xs.all flatV = true ∧ inV x xs = b := by
  unfold inD at e
  split at e
  · cases e
    exact .inl ⟨_, _, w_str rx, w_str ry, rfl⟩
  · split at e
    · rename_i ys v e1 e2
      split at e
      · rename_i vs e3
        cases e
        obtain ⟨a, ws, rfl, h, l⟩ := seqOf_rep s e1 ry
        obtain ⟨h1, h2⟩ := flat_rep e2 rx
        obtain ⟨h3, h4⟩ := flats_rep e3 l
        subst h1 h3
        exact .inr ⟨a, _, rfl, h, h2, h4, rfl⟩
      · cases e
    · cases e
theorem o_in : OpR X (compareOp .In) (fun x y H Q => (∃ i j, x = .str i ∧ y = .str j ∧ Q (.bl (!(Builtin.Str.occurrences j i 0 j.length 1).isEmpty)) H) ∨ rIn X.K false x y H Q) := op_in_str.or op_in_seq
theorem o_notIn : OpR X (compareOp .NotIn) (fun x y H Q => (∃ i j, x = .str i ∧ y = .str j ∧ Q (.bl (!(!(Builtin.Str.occurrences j i 0 j.length 1).isEmpty))) H) ∨ rIn X.K true x y H Q) := op_notIn_str.or op_notIn_seq
theorem s_in : Snd2 g (fun x y H Q => (∃ i j, x = .str i ∧ y = .str j ∧ Q (.bl (!(Builtin.Str.occurrences j i 0 j.length 1).isEmpty)) H) ∨ rIn g.K false x y H Q) opIn := by
  intro F H dx dy x y d Q s rx ry e G
  unfold opIn at e
  cases q : inD dx dy with
  | bad => rw [q] at e; cases e
  | ok b =>
    rw [q] at e; cases e
    rcases inD_gen s rx ry q with ⟨i, j, h1, h2, h3⟩ | ⟨p, xs, h1, h2, h3, h4, h5⟩
    · exact .inl ⟨i, j, h1, h2, by rw [h3]; exact G.bl s⟩
    · exact .inr ⟨p, xs, h1, h2, h3, h4, by rw [if_neg (by decide), h5]; exact G.bl s⟩
theorem s_notIn : Snd2 g (fun x y H Q => (∃ i j, x = .str i ∧ y = .str j ∧ Q (.bl (!(!(Builtin.Str.occurrences j i 0 j.length 1).isEmpty))) H) ∨ rIn g.K true x y H Q) opNotIn := by
  intro F H dx dy x y d Q s rx ry e G
  unfold opNotIn at e
  cases q : inD dx dy with
  | bad => rw [q] at e; cases e
  | ok b =>
    rw [q] at e; cases e
    rcases inD_gen s rx ry q with ⟨i, j, h1, h2, h3⟩ | ⟨p, xs, h1, h2, h3, h4, h5⟩
    · exact .inl ⟨i, j, h1, h2, by rw [h3]; exact G.bl s⟩
    · exact .inr ⟨p, xs, h1, h2, h3, h4, by rw [if_pos rfl, h5]; exact G.bl s⟩
end

/-! ### x[i], len, int, max, min, sum, all, any -/
def opIx (x y : D) : R D := match y with
  | .int i => (match x with
    | .str z => if z.length ≤ 16777216 then (match atI z.cps.toList i with
      | some c => .ok (.str ⟨#[c]⟩)
      | none => .bad) else .bad
    | x => match seqOf x with
      | some xs => (match atI xs i with
        | some d => .ok d
        | none => .bad)
      | none => .bad)
  | _ => .bad
def lenOf : D → R Nat
  | .str s => if s.length ≤ 16777216 then .ok s.length else .bad
  | .lst xs => .ok xs.length
  | .ros xs => .ok xs.length
  | .tup xs => .ok xs.length
  | .dic xs => .ok xs.length
  | _ => .bad
def opLen : List D → R D
  | [d] => match lenOf d with
    | .ok n => .ok (.int n)
    | .bad => .bad
  | _ => .bad
def opInt : List D → R D
  | [.int i] => .ok (.int i)
  | [.bl k] => .ok (.int (if k then 1 else 0))
  | _ => .bad
def opMax : List D → R D
  | [.int i, .int j] => .ok (.int (if j > i then j else i))
  | _ => .bad
def opMin : List D → R D
  | [.int i, .int j] => .ok (.int (if j < i then j else i))
  | _ => .bad
def opSum : List D → R D
  | [d] => match lstOf d with
    | some xs => (match dInts xs with
      | some is => .ok (.int is.sum)
      | none => .bad)
    | none => .bad
  | _ => .bad
def opAll : List D → R D
  | [d] => match lstOf d with
    | some xs => (match dBls xs with
      | some is => .ok (.bl (is.all id))
      | none => .bad)
    | none => .bad
  | _ => .bad
def opAny : List D → R D
  | [d] => match lstOf d with
    | some xs => (match dBls xs with
      | some is => .ok (.bl (is.any id))
      | none => .bad)
    | none => .bad
  | _ => .bad
section
variable {X : Cx} {g : Gx} {F H : Hp}
theorem atI_rep {xs : List D} {vs : List V} {i : Int} {d : D} (l : RepL g F xs vs) (e : atI xs i = some d) : ∃ v, atI vs i = some v ∧ Rep g F d v := by
  unfold atI at e ⊢
  rw [l.length]
  cases q : ixN xs.length i with
  | none => rw [q] at e; cases e
  | some j =>
    rw [q] at e
    exact l.get e
theorem s_ix : Snd2 g (rIx g.K) opIx := by
  intro F H dx dy x y d Q s rx ry e G
  cases dy with
  | int i =>
    have ey := w_int ry
    subst ey
    have seq : ∀ {dx : D} {xs : List D}, WRep g F H dx x → seqOf dx = some xs → (match atI xs i with
        | some d => R.ok d
        | none => .bad) = .ok d → rIx g.K x (.int i) H Q := by
      intro dx xs rx e1 e
      obtain ⟨a, vs, rfl, h, l⟩ := seqOf_rep s e1 rx
      cases q : atI xs i with
      | none => rw [q] at e; cases e
      | some c =>
        rw [q] at e; cases e
        obtain ⟨v, h1, h2⟩ := atI_rep l q
        rcases h with h | h
        · exact .inl ⟨a, vs, i, v, rfl, rfl, h, h1, G.val s h2⟩
        · exact .inr (.inl ⟨a, vs, i, v, rfl, rfl, h, h1, G.val s h2⟩)
    cases dx with
    | str z =>
      dsimp only [opIx] at e
      by_cases c : z.length ≤ 16777216
      · rw [if_pos c] at e
        cases q : atI z.cps.toList i with
        | none => rw [q] at e; cases e
        | some k =>
          rw [q] at e; cases e
          exact .inr (.inr ⟨z, i, k, w_str rx, rfl, by rw [sizeLine_eq]; exact c, q, G.str s⟩)
      · rw [if_neg c] at e; cases e
    | lst xs => exact seq rx rfl e
    | ros xs => exact seq rx rfl e
    | tup xs => exact seq rx rfl e
    | _ => cases e
  | _ => cases e
theorem wrl1 {d : D} {vs : List V} (h : WRL g F H [d] vs) : ∃ v, vs = [v] ∧ WRep g F H d v := by
  obtain ⟨v, r, rfl, h1, h2⟩ := h
  cases (show r = [] from h2)
  exact ⟨v, rfl, h1⟩
theorem wrl2 {d e : D} {vs : List V} (h : WRL g F H [d, e] vs) : ∃ v w, vs = [v, w] ∧ WRep g F H d v ∧ WRep g F H e w := by
  obtain ⟨v, r, rfl, h1, h2⟩ := h
  obtain ⟨w, rfl, h3⟩ := wrl1 h2
  exact ⟨v, w, rfl, h1, h3⟩
/-- a text, a list, a tuple or a dict of n -/
def LenX (K : PySem.W.Frag) (x : V) (H : Hp) (n : Nat) : Prop := LenV K x H n ∨ ∃ a kvs, x = .ref a ∧ Rd H a (.dK kvs) ∧ n = kvs.length
theorem lenOf_rep {d : D} {v : V} {n : Nat} (s : Sub F H) (e : lenOf d = .ok n) (r : WRep g F H d v) : LenX g.K v H n := by
  cases d with
  | str z =>
    rw [w_str r]
    dsimp only [lenOf] at e
    by_cases c : z.length ≤ 16777216
    · rw [if_pos c] at e
      cases e
      exact .inl ⟨by rw [sizeLine_eq]; exact c, rfl⟩
    · rw [if_neg c] at e; cases e
  | lst xs =>
    cases e
    obtain ⟨a, vs, rfl, h, l⟩ := w_lst s r
    exact .inl (.inl ⟨vs, SqL.of h, l.length.symm⟩)
  | ros xs =>
    cases e
    obtain ⟨a, vs, rfl, h, l⟩ := w_ros s r
    exact .inl (.inl ⟨vs, h, l.length.symm⟩)
  | tup xs =>
    cases e
    obtain ⟨a, vs, rfl, h, l, _⟩ := w_tup s r
    exact .inl (.inr ⟨vs, h, l.length.symm⟩)
  | dic xs =>
    cases e
    obtain ⟨a, vs, rfl, h, l⟩ := w_dic s r
    exact .inr ⟨a, vs, rfl, h, l.length.symm⟩
  | _ => cases e
theorem call_lenX {X : Cx} : CallR X (.builtin "len") (fun xs H Q => ∃ x n, xs = [x] ∧ LenX X.K x H n ∧ Q (.int (n : Nat)) H) := by
  intro pins s σ H xs us Q I r h
  obtain ⟨x, n, e, h | ⟨a, kvs, rfl, ha, rfl⟩, q⟩ := h
  · exact call_len pins s σ H xs us Q I r ⟨x, n, e, h, q⟩
  · subst e
    obtain ⟨u, rfl, ru⟩ := vals1 r
    cases ru
    exact d_len I ha fun t s' I' => ⟨.int kvs.length, H, I', ⟨t, rfl⟩, q⟩
theorem s_len : SndN g (fun xs H Q => ∃ x n, xs = [x] ∧ LenX g.K x H n ∧ Q (.int (n : Nat)) H) opLen := by
  intro F H ds vs d Q s r e G
  cases ds with
  | nil => cases e
  | cons d0 t =>
    cases t with
    | cons d1 t => first | cases e | (cases d0 <;> cases e)
    | nil =>
    obtain ⟨v, rfl, rv⟩ := wrl1 r
    dsimp only [opLen] at e
    cases q : lenOf d0 with
    | bad => rw [q] at e; cases e
    | ok n =>
      rw [q] at e; cases e
      exact ⟨v, n, rfl, lenOf_rep s q rv, G.int s⟩
theorem s_int : SndN g (fun xs H Q => (∃ i, xs = [.int i] ∧ Q (.int i) H) ∨ ∃ k, xs = [.bl k] ∧ Q (.int (if k then 1 else 0)) H) opInt := by
  intro F H ds vs d Q s r e G
  cases ds with
  | nil => cases e
  | cons d0 t =>
    cases t with
    | cons d1 t => first | cases e | (cases d0 <;> cases e)
    | nil =>
    obtain ⟨v, rfl, rv⟩ := wrl1 r
    cases d0 with
    | int i => cases e; exact .inl ⟨i, by rw [w_int rv], G.int s⟩
    | bl k => cases e; exact .inr ⟨k, by rw [w_bl rv], G.int s⟩
    | _ => cases e
theorem s_max : SndN g (fun xs H Q => ∃ i j, xs = [.int i, .int j] ∧ Q (.int (if j > i then j else i)) H) opMax := by
  intro F H ds vs d Q s r e G
  cases ds with
  | nil => cases e
  | cons d0 t =>
    cases t with
    | nil => cases d0 <;> cases e
    | cons d1 t =>
    cases t with
    | cons d2 t => cases d0 <;> cases d1 <;> cases e
    | nil =>
    obtain ⟨v, w, rfl, rv, rw'⟩ := wrl2 r
    cases d0 with
    | int i =>
      cases d1 with
      | int j => cases e; exact ⟨i, j, by rw [w_int rv, w_int rw'], G.int s⟩
      | _ => cases e
    | _ => cases d1 <;> cases e
theorem s_min : SndN g (fun xs H Q => ∃ i j, xs = [.int i, .int j] ∧ Q (.int (if j < i then j else i)) H) opMin := by
  intro F H ds vs d Q s r e G
  cases ds with
  | nil => cases e
  | cons d0 t =>
    cases t with
    | nil => cases d0 <;> cases e
    | cons d1 t =>
    cases t with
    | cons d2 t => cases d0 <;> cases d1 <;> cases e
    | nil =>
    obtain ⟨v, w, rfl, rv, rw'⟩ := wrl2 r
    cases d0 with
    | int i =>
      cases d1 with
      | int j => cases e; exact ⟨i, j, by rw [w_int rv, w_int rw'], G.int s⟩
      | _ => cases e
    | _ => cases d1 <;> cases e
theorem s_sum : SndN g (rSum g.K) opSum := by
  intro F H ds vs d Q s r e G
  cases ds with
  | nil => cases e
  | cons d0 t =>
    cases t with
    | cons d1 t => first | cases e | (cases d0 <;> cases e)
    | nil =>
    obtain ⟨v, rfl, rv⟩ := wrl1 r
    dsimp only [opSum] at e
    cases q : lstOf d0 with
    | none => rw [q] at e; cases e
    | some xs =>
      rw [q] at e
      dsimp only at e
      cases q2 : dInts xs with
      | none => rw [q2] at e; cases e
      | some is =>
        rw [q2] at e; cases e
        obtain ⟨a, ws, rfl, h, l⟩ := w_lstOf s q rv
        rw [dInts_rep q2 l] at h
        exact ⟨a, is, rfl, h, G.int s⟩
theorem s_all : SndN g (rAll g.K) opAll := by
  intro F H ds vs d Q s r e G
  cases ds with
  | nil => cases e
  | cons d0 t =>
    cases t with
    | cons d1 t => first | cases e | (cases d0 <;> cases e)
    | nil =>
    obtain ⟨v, rfl, rv⟩ := wrl1 r
    dsimp only [opAll] at e
    cases q : lstOf d0 with
    | none => rw [q] at e; cases e
    | some xs =>
      rw [q] at e
      dsimp only at e
      cases q2 : dBls xs with
      | none => rw [q2] at e; cases e
      | some is =>
        rw [q2] at e; cases e
        obtain ⟨a, ws, rfl, h, l⟩ := w_lstOf s q rv
        rw [dBls_rep q2 l] at h
        exact ⟨a, is, rfl, h, G.bl s⟩
theorem s_any : SndN g (rAny g.K) opAny := by
  intro F H ds vs d Q s r e G
  cases ds with
  | nil => cases e
  | cons d0 t =>
    cases t with
    | cons d1 t => first | cases e | (cases d0 <;> cases e)
    | nil =>
    obtain ⟨v, rfl, rv⟩ := wrl1 r
    dsimp only [opAny] at e
    cases q : lstOf d0 with
    | none => rw [q] at e; cases e
    | some xs =>
      rw [q] at e
      dsimp only at e
      cases q2 : dBls xs with
      | none => rw [q2] at e; cases e
      | some is =>
        rw [q2] at e; cases e
        obtain ⟨a, ws, rfl, h, l⟩ := w_lstOf s q rv
        rw [dBls_rep q2 l] at h
        exact ⟨a, is, rfl, h, G.bl s⟩
end
end DL

set_option Elab.async false
set_option linter.all false
set_option maxRecDepth 100000
set_option maxHeartbeats 4000000
namespace DL
open PySem PySem.Spec PyProof.Rows L2

/-! ### methods -/
section
variable {X : Cx} {fx : Fx} {W : WX} {ca cb ea eb : Bool} {o e : Expr} {es : List Expr} {mo : M D} {ma : M (List D)} {op : D → List D → R D} {r : V → List V → Hp → VK → Prop} {nm : Str} {apos cpos : Pos} {id : String} {T : Ty}
theorem se_bm0 (T : Ty) (pa : PlainAttrs T.nm) (slot : Slot T.nm nm id) (hty : typeOf (.builtin id) = pure (.type "method_descriptor")) (hm : MtR X id r) (hs : SndM (gx X) r op) (ho : SE X fx W ca ea o mo)
    (hbase : attributeBase o nm X.env (eval o X.env) = eval o X.env := by rfl) (hline : (apos.endLine == cpos.line) = true := by rfl) : SE X fx W true ea (.Call (.Attribute o nm apos) [] [] cpos) (eMT T op mo aNil) :=
  PE.imp (pe_bm0 pa slot hty hm ho hbase hline) fun σ H Q q => tE_eM0 hs q
theorem se_bm (T : Ty) (pa : PlainAttrs T.nm) (slot : Slot T.nm nm id) (hty : typeOf (.builtin id) = pure (.type "method_descriptor")) (hm : MtR X id r) (hs : SndM (gx X) r op) (ho : SE X fx W ca ea o mo) (ha : SA X fx W cb eb (e :: es) ma) (hc : (!eb || ca) = true := by rfl)
    (hbase : attributeBase o nm X.env (eval o X.env) = eval o X.env := by rfl)
    (hfew : ((backTo cpos (starEach (e :: es) X.env)).all (fun x => !x.1) && (backToKw cpos (keywordEach [] X.env)).all (fun x => x.1.isSome)
      && decide ((e :: es).length + ([] : List Keyword).length + (if ([] : List Keyword).isEmpty then 0 else 1) < 30)) = true := by rfl)
    (hline : (apos.endLine == cpos.line) = true := by rfl) (hst : starEach (e :: es) X.env = (false, eval e X.env) :: starEach es X.env := by rfl) (hplain : (backTo cpos (starEach es X.env)).any (·.1) = false := by rfl) :
    SE X fx W true (ea || eb) (.Call (.Attribute o nm apos) (e :: es) [] cpos) (eMT T op mo ma) :=
  PE.imp (pe_bm pa slot hty hm ho ha hbase hfew hline hst hplain) fun σ H Q q => tE_eM hs hc q
end

/-- flat items -/
def rCntF (K : PySem.W.Frag) : V → List V → Hp → VK → Prop := fun x xs H Q => ∃ (p : Addr) (ys : List V) (y : V), x = .ref p ∧ xs = [y] ∧ SqL K H p ys ∧ flatV y = true ∧ ys.all flatV = true ∧ Q (.int (ys.countP fun z => eqV z y : Nat)) H
section
variable {X : Cx}
theorem eqU_countP {y : V} {us : List Value} : ∀ {ys : List V}, Vals ys us → ys.all flatV = true → us.countP (eqU y) = ys.countP fun z => eqV z y
  | _, .nil, _ => rfl
  | _, .cons r t, f => by
    rw [List.all_cons, Bool.and_eq_true] at f
    rw [List.countP_cons, List.countP_cons, eqU_of r f.1, eqU_countP t f.2]
theorem mt_lcountF : MtR X "list.count" (rCntF X.K) := by
  intro pins s σ H x xs v us Q I rx rxs h
  obtain ⟨p, ys, y, rfl, rfl, hs, fy, fys, q⟩ := h
  cases rx
  cases rxs with
  | cons ry rt =>
    rename_i uy ut
    cases rt
    obtain ⟨its, rv, ⟨⟨cls, dd, data, sl⟩, n, ho, hc, hdn, hd⟩, hlen⟩ := I.list hs
    simp only at hc hd
    subst hc hd
    refine call_meets PySem.F.slot_list_count ⟨_, ho, rfl⟩ PySem.F.entry_list_count (PySem.F.args_list_count_2 _ _)
      (SeqAt.list_countAt p its.toArray n dd sl uy (eqU y)) ⟨ho, fun u' hu' => mem_eqAt ry fy rv fys u' (by simpa using hu'), ?_⟩
    have ec : its.toArray.toList.countP (eqU y) = ys.countP fun z => eqV z y := eqU_countP rv fys
    refine ⟨.int (ys.countP fun z => eqV z y : Nat), H, I.tok _, ⟨s.toks, ?_⟩, q⟩
    show Value.int ((its.toArray.toList.countP (eqU y) : Nat) : Int) s.toks = Value.int _ s.toks
    rw [ec]
end
def opCount (x : D) (as : List D) : R D := match as with
  | [y] => match lstOf x, flat y with
    | some xs, some v => (match flats xs with
      | some vs => .ok (.int (vs.countP fun z => eqV z v : Nat))
      | none => .bad)
    | _, _ => .bad
  | _ => .bad
def findV (v : V) : List V → Option Nat
  | [] => none
  | z :: zs => if eqV z v = true then some 0 else (findV v zs).map (· + 1)
def opIndex (x : D) (as : List D) : R D := match as with
  | [y] => match lstOf x, flat y with
    | some xs, some v => (match flats xs with
      | some vs => (match findV v vs with
        | some n => .ok (.int (n : Nat))
        | none => .bad)
      | none => .bad)
    | _, _ => .bad
  | _ => .bad
def opJoin (x : D) (as : List D) : R D := match x, as with
  | .str a, [y] => match seqOf y with
    | some xs => (match dStrs xs with
      | some ys => if (ys.map (·.length)).sum + ys.length * a.length ≤ 16777216 then .ok (.str (Txt.join a ys)) else .bad
      | none => .bad)
    | none => .bad
  | _, _ => .bad
section
variable {X : Cx} {g : Gx}
theorem s_count : SndM g (rCntF g.K) opCount := by
  intro F H dx x ds vs d Q s rx r e G
  cases ds with
  | nil => cases e
  | cons d0 t =>
    cases t with
    | cons _ _ => cases e
    | nil =>
      obtain ⟨v, rfl, rv⟩ := wrl1 r
      dsimp only [opCount] at e
      cases q1 : lstOf dx with
      | none => rw [q1] at e; cases e
      | some xs =>
        cases q2 : flat d0 with
        | none => rw [q1, q2] at e; cases e
        | some u =>
          rw [q1, q2] at e
          dsimp only at e
          cases q3 : flats xs with
          | none => rw [q3] at e; cases e
          | some us =>
            rw [q3] at e; cases e
            obtain ⟨a, ws, rfl, h, l⟩ := w_lstOf s q1 rx
            obtain ⟨h1, h2⟩ := flat_rep q2 rv
            obtain ⟨h3, h4⟩ := flats_rep q3 l
            subst h1 h3
            exact ⟨a, _, _, rfl, rfl, h, h2, h4, G.int s⟩
theorem findV_spec {v : V} : ∀ {vs : List V} {n : Nat}, findV v vs = some n → ∃ z, vs[n]? = some z ∧ eqV z v = true ∧ ∀ (m : Nat) (z' : V), m < n → vs[m]? = some z' → eqV z' v = false
  | [], n, h => by cases h
  | z :: zs, n, h => by
    unfold findV at h
    by_cases c : eqV z v = true
    · rw [if_pos c] at h
      cases h
      exact ⟨z, rfl, c, fun m z' hm _ => absurd hm (by omega)⟩
    · rw [if_neg c] at h
      cases q : findV v zs with
      | none => rw [q] at h; cases h
      | some k =>
        rw [q] at h
        cases h
        obtain ⟨z1, h1, h2, h3⟩ := findV_spec q
        refine ⟨z1, by simpa using h1, h2, fun m z' hm hz => ?_⟩
        cases m with
        | zero =>
          have : z = z' := by simpa using hz
          subst this
          simpa using c
        | succ m => exact h3 m z' (by have := hm; simp at this; omega) (by simpa using hz)
theorem s_index : SndM g (rIndex g.K) opIndex := by
  intro F H dx x ds vs d Q s rx r e G
  cases ds with
  | nil => cases e
  | cons d0 t =>
    cases t with
    | cons _ _ => cases e
    | nil =>
      obtain ⟨v, rfl, rv⟩ := wrl1 r
      dsimp only [opIndex] at e
      cases q1 : lstOf dx with
      | none => rw [q1] at e; cases e
      | some xs =>
        cases q2 : flat d0 with
        | none => rw [q1, q2] at e; cases e
        | some u =>
          rw [q1, q2] at e
          dsimp only at e
          cases q3 : flats xs with
          | none => rw [q3] at e; cases e
          | some us =>
            rw [q3] at e
            dsimp only at e
            cases q4 : findV u us with
            | none => rw [q4] at e; cases e
            | some n =>
              rw [q4] at e; cases e
              obtain ⟨a, ws, rfl, h, l⟩ := w_lstOf s q1 rx
              obtain ⟨h1, h2⟩ := flat_rep q2 rv
              obtain ⟨h3, h4⟩ := flats_rep q3 l
              obtain ⟨z, h5, h6, h7⟩ := findV_spec q4
              subst h1 h3
              exact ⟨a, _, _, n, z, rfl, rfl, h, h2, h4, h5, h6, h7, G.int s⟩
theorem s_join : SndM g (fun x xs H Q => ∃ a p, ∃ ys : List Str, x = .str a ∧ xs = [.ref p] ∧ (SqL g.K H p (ys.map V.str) ∨ SqT g.K H p (ys.map V.str)) ∧
    (ys.map (·.length)).sum + ys.length * a.length ≤ 16777216 ∧ Q (.str (Txt.join a ys)) H) opJoin := by
  intro F H dx x ds vs d Q s rx r e G
  cases ds with
  | nil => cases dx <;> cases e
  | cons d0 t =>
    cases t with
    | cons _ _ => cases dx <;> cases e
    | nil =>
      obtain ⟨v, rfl, rv⟩ := wrl1 r
      cases dx with
      | str a =>
        dsimp only [opJoin] at e
        cases q1 : seqOf d0 with
        | none => rw [q1] at e; cases e
        | some xs =>
          rw [q1] at e
          dsimp only at e
          cases q3 : dStrs xs with
          | none => rw [q3] at e; cases e
          | some us =>
            rw [q3] at e
            dsimp only at e
            by_cases c : (us.map (·.length)).sum + us.length * a.length ≤ 16777216
            · rw [if_pos c] at e; cases e
              obtain ⟨p, ws, rfl, h, l⟩ := seqOf_rep s q1 rv
              rw [dStrs_rep q3 l] at h
              exact ⟨a, p, us, w_str rx, rfl, h, c, G.str s⟩
            · rw [if_neg c] at e; cases e
      | _ => cases e
end

/-! ### text * int -/
def opSMul : D → D → R D
  | .str x, .int n => if n < 2 ^ 24 ∧ x.length * n.toNat ≤ 16777216 ∧ -(2 ^ 63) ≤ n then .ok (.str (Txt.mul x n)) else .bad
  | x, y => opMul x y
section
variable {X : Cx} {g : Gx}
def rSMul : R2 := fun x y H Q => ∃ a n, x = .str a ∧ y = .int n ∧ MulOk a n ∧ Q (.str (Txt.mul a n)) H
theorem op_smul : OpR X (binaryOp .Mult) rSMul := by
  intro pins s σ H x y v u Q I rx ry h
  obtain ⟨a, n, rfl, rfl, hk, q⟩ := h
  obtain ⟨t, rfl⟩ := rx
  obtain ⟨t', rfl⟩ := ry
  exact PySem.SB.mul hk fun t2 k => ⟨.str _, H, I.tok _, ⟨_, rfl⟩, q⟩
theorem mulOk_of {x : Str} {n : Int} (h1 : n < 2 ^ 24) (h2 : x.length * n.toNat ≤ 16777216) (h0 : -(2 ^ 63) ≤ n) : MulOk x n := by
  refine ⟨?_, fun a b => ?_, fun a b => ?_⟩
  · have e1 : decide (n < -(2 ^ 63 : Int)) = false := decide_eq_false (by omega)
    have e2 : decide (n ≥ 2 ^ 63) = false := decide_eq_false (by omega)
    rw [e1, e2]
    rfl
  · have hn : 0 < n := by omega
    have hx : (x.length : Int) ≤ 16777216 := by
      have : x.length ≤ x.length * n.toNat := Nat.le_mul_of_pos_right _ (by omega)
      omega
    have : (16777216 : Int) ≤ (2 ^ 63 - 1) / n := by
      rw [Int.le_ediv_iff_mul_le hn]
      have : (16777216 : Int) * n ≤ 16777216 * 2 ^ 24 := by omega
      omega
    omega
  · unfold Builtin.Str.tooLong
    first
      | (rw [sizeLine_eq]; exact decide_eq_false (by omega))
      | exact decide_eq_false (by have := sizeLine_eq; omega)
theorem s_smul : Snd2 g (fun x y H Q => rSMul x y H Q ∨ rI CMulX (fun i j => .int (i * j)) x y H Q ∨ rRep x y H Q) opSMul := by
  intro F H dx dy x y d Q s rx ry e G
  have other : opMul dx dy = .ok d → (fun x y H Q => rSMul x y H Q ∨ rI CMulX (fun i j => .int (i * j)) x y H Q ∨ rRep x y H Q) x y H Q := fun h => .inr (s_mul (g := g) F H dx dy x y d Q s rx ry h G)
  cases dx with
  | str a =>
    cases dy with
    | int n =>
      dsimp only [opSMul] at e
      by_cases c : n < 2 ^ 24 ∧ a.length * n.toNat ≤ 16777216 ∧ -(2 ^ 63) ≤ n
      · rw [if_pos c] at e; cases e
        exact .inl ⟨a, n, w_str rx, w_int ry, mulOk_of c.1 c.2.1 c.2.2, G.str s⟩
      · rw [if_neg c] at e; cases e
    | _ => exact other e
  | _ => exact other e
theorem o_smul : OpR X (binaryOp .Mult) (fun x y H Q => rSMul x y H Q ∨ rI CMulX (fun i j => .int (i * j)) x y H Q ∨ rRep x y H Q) := op_smul.or o_mul
end

/-! ### i.bit_length() -/
def opBits : D → R D
  | .int i => .ok (.int (Builtin.Int.intBits i : Nat))
  | _ => .bad
section
variable {X : Cx} {fx : Fx} {W : WX} {ca ea : Bool} {o : Expr} {mo : M D} {apos pos : Pos}
theorem se_bits (ho : SE X fx W ca ea o mo) (hbase : attributeBase o "bit_length" X.env (eval o X.env) = eval o X.env := by rfl) (hline : (apos.endLine == pos.line) = true := by rfl) :
    SE X fx W true ea (.Call (.Attribute o "bit_length" apos) [] [] pos) (e1 opBits mo) := PE.imp (pe_bits ho hbase hline) fun σ H Q q => by
  have h := tE_e1 (r := fun x H Q => ∃ i, x = .int i ∧ Q (.int (Builtin.Int.intBits i : Nat)) H) (ca := ca) (fun F H dx x d Q s rx e G => by
    cases dx with
    | int i => cases e; exact ⟨i, w_int rx, G.int s⟩
    | _ => cases e) q
  exact h
/-- what is never reached -/
def eBad : M D := fun _ => .bad
theorem se_bad {eff : Bool} {e : Expr} : SE X fx W true eff e eBad := ⟨fun pins s σ H Q I q => by
  obtain ⟨F, ρ, S, h⟩ := q
  exact h.elim⟩
def sBad : MS := fun _ => .bad
theorem ss_bad {st : Stmt} : SS X fx W st sBad := ⟨fun pins s σ H D I q => by
  obtain ⟨F, ρ, S, h⟩ := q
  exact h.elim⟩
end

/-! ### isinstance -/
inductive Kd where
  | non | bl | int | str | lst | tup | dic
deriving DecidableEq
def Kd.nm : Kd → String
  | .non => "NoneType" | .bl => "bool" | .int => "int" | .str => "str" | .lst => "list" | .tup => "tuple" | .dic => "dict"
def kd : D → Option Kd
  | .non => some .non | .bl _ => some .bl | .int _ => some .int | .str _ => some .str | .lst _ => some .lst | .ros _ => some .lst | .tup _ => some .tup | .dic _ => some .dic
  | .exc _ _ _ => none
/-- isinstance: of the kinds, of the own errors -/
def opIs (base : List Kd) (tab : List (Str × Bool)) : D → R D
  | .exc _ c _ => match tab.lookup c with
    | some b => .ok (.bl b)
    | none => .bad
  | d => match kd d with
    | some k => .ok (.bl (base.contains k))
    | none => .bad
structure IsT (K : PySem.W.Frag) (mg : Str → Option Value) (us : List Value) (base : List Kd) (tab : List (Str × Bool)) : Prop where
  b : ∀ k : Kd, PySem.W.kitAny K (.type k.nm) us = some (base.contains k)
  t : ∀ p ∈ tab, ∃ C, mg p.1 = some (.ref C) ∧ PySem.W.kitAny K (.ref C) us = some p.2
/-- isinstance(e, c), (c1, ..): e an own error that is tracked -/
def rIsX (K : PySem.W.Frag) : List V → Hp → VK → Prop := fun xs H Q => ∃ (a C d : Addr) (fs : List (Str × V)) (c : V) (u : Value) (b : Bool), xs = [.ref a, c] ∧ H a = some (ExT C d a) ∧ H d = some (.xd fs) ∧ XcC K C ∧ ClsV c u ∧ PySem.W.kitOne K (.ref C) u = some b ∧ Q (.bl b) H
def rIsXT (K : PySem.W.Frag) : List V → Hp → VK → Prop := fun xs H Q => ∃ (a C d : Addr) (fs : List (Str × V)) (tp : Addr) (cs : List V) (us : List Value) (b : Bool), xs = [.ref a, .ref tp] ∧ H a = some (ExT C d a) ∧ H d = some (.xd fs) ∧ XcC K C ∧ H tp = some (.tup cs) ∧ Paired ClsV cs us ∧ PySem.W.kitAny K (.ref C) us = some b ∧ Q (.bl b) H
section
variable {X : Cx} {pins : List (Addr × Obj)} {σ : L2.St} {H : Hp} {s : Shared}
theorem call_isX : CallR X (.builtin "isinstance") (rIsX X.K) := by
  intro pins s σ H xs us Q I r h
  obtain ⟨a, C, d, fs, c, u, b, rfl, ha, hd, T, k, e, q⟩ := h
  obtain ⟨u1, u2, rfl, r1, r2⟩ := vals2 r
  cases (show u1 = Value.ref a from r1)
  have e2 := k.eq r2
  subst e2
  obtain ⟨oe, od, J, _⟩ := ext_inst I ha hd
  exact PySem.W.kia_one (PySem.W.kitx_exc T.hc T.hg T.hk T.hs T.ha T.hn T.ht T.hm) I.kIn J e (fun z => nomatch z) fun tk => ⟨.bl b, H, I.tok tk, rfl, q⟩
theorem call_isXT : CallR X (.builtin "isinstance") (rIsXT X.K) := by
  intro pins s σ H xs us Q I r h
  obtain ⟨a, C, d, fs, tp, cs, ws, b, rfl, ha, hd, T, hT, k, e, q⟩ := h
  obtain ⟨u1, u2, rfl, r1, r2⟩ := vals2 r
  cases (show u1 = Value.ref a from r1)
  cases (show u2 = Value.ref tp from r2)
  obtain ⟨oe, od, J, _⟩ := ext_inst I ha hd
  obtain ⟨_, its, rv, o, h1, h2, n, h3⟩ := (show ObjOk X.prog X.w H s.heap tp (.tup cs) from I.hok tp _ hT)
  have e3 := ClsV.all k rv
  subst e3
  obtain ⟨oc, od, dt, sl⟩ := o
  simp only at h2 h3
  subst h2 h3
  exact PySem.W.kia_tup (PySem.W.kitx_exc T.hc T.hg T.hk T.hs T.ha T.hn T.ht T.hm) I.kIn J h1 e (fun z => nomatch z) fun tk => ⟨.bl b, H, I.tok tk, rfl, q⟩
end
theorem kitAny1 {K : PySem.W.Frag} {t u : Value} {b : Bool} (h : PySem.W.kitAny K t [u] = some b) : PySem.W.kitOne K t u = some b := by
  unfold PySem.W.kitAny at h
  split at h
  · cases h; assumption
  · unfold PySem.W.kitAny at h; cases h; assumption
  · cases h
section
variable {g : Gx} {F H : Hp}
theorem ty_rep (s : Sub F H) {d : D} {k : Kd} {v : V} (e : kd d = some k) (r : WRep g F H d v) : TyX g.K H v (.type k.nm) := by
  have hl : ∀ {a : Addr} {vs : List V}, SqL g.K H a vs → TyX g.K H (.ref a) (.type "list") := fun {a vs} q => by
    rcases q with (q | ⟨o, q⟩) | q
    · exact .base (.lst q)
    · exact .base (.frz q)
    · obtain ⟨o, _, _, h1, h2, _⟩ := q
      exact .kList h1 h2
  have ht : ∀ {a : Addr} {vs : List V}, SqT g.K H a vs → TyX g.K H (.ref a) (.type "tuple") := fun {a vs} q => by
    rcases q with (q | ⟨o, q⟩) | q
    · exact .base (.tup q)
    · exact .fTuple q
    · obtain ⟨o, _, _, h1, h2, _⟩ := q
      exact .kTuple h1 h2
  cases d with
  | non => cases e; rw [w_non r]; exact .base .non
  | bl b => cases e; rw [w_bl r]; exact .base (.bl b)
  | int b => cases e; rw [w_int r]; exact .base (.int b)
  | str b => cases e; rw [w_str r]; exact .base (.str b)
  | lst xs => cases e; obtain ⟨a, vs, rfl, h, _⟩ := w_lst s r; exact .base (.lst h)
  | ros xs => cases e; obtain ⟨a, vs, rfl, h, _⟩ := w_ros s r; exact hl h
  | tup xs => cases e; obtain ⟨a, vs, rfl, h, _⟩ := w_tup s r; exact ht h
  | dic xs =>
    cases e
    obtain ⟨a, vs, rfl, h | ⟨u, h⟩, _⟩ := w_dic s r
    · exact .base (.dK h)
    · exact .fDict h
  | exc a c x => cases e
end
section
variable {X : Cx} {fx : Fx} {W : WX} {ca ea : Bool} {e : Expr} {m : M D} {p p2 pos tpos : Pos}
theorem lookup_mem {c : Str} {b : Bool} : ∀ {tab : List (Str × Bool)}, tab.lookup c = some b → (c, b) ∈ tab
  | [], h => by cases h
  | (k, z) :: t, h => by
    rw [List.lookup_cons] at h
    cases q : c == k with
    | true =>
      rw [q] at h
      cases h
      have : c = k := by simpa using q
      subst this
      exact List.mem_cons_self
    | false =>
      rw [q] at h
      exact List.mem_cons_of_mem _ (lookup_mem h)
theorem tE_isi {g : Gx} {σ : L2.St} {H : Hp} {Q : VK} {c : V} {u : Value} {base : List Kd} {tab : List (Str × Bool)} (k : ClsV c u) (T : IsT g.K g.mg [u] base tab) (h : tE g fx W true ea (e1 (opIs base tab) m) σ H Q) :
    tCB (fun xs H Q => rIsi g.K xs H Q ∨ rIsX g.K xs H Q) (tCons (tE g fx W ca ea m) (tCons (tC c) tNil)) σ H Q := by
  have h2 := tE_e1 (r := fun x H Q => rIsi g.K [x, c] H Q ∨ rIsX g.K [x, c] H Q) (ca := ca) (fun F H dx x d Q s rx e G => by
    cases dx with
    | exc a cn y =>
      dsimp only [opIs] at e
      cases q : tab.lookup cn with
      | none => rw [q] at e; cases e
      | some b =>
        rw [q] at e; cases e
        obtain ⟨C, d, w, rfl, h1, m2, h2, h3, _⟩ := w_exc s rx
        obtain ⟨C', m1, m3⟩ := T.t _ (lookup_mem q)
        rw [h1] at m1
        cases m1
        exact .inr ⟨a, C, d, _, c, u, b, rfl, h2, h3, m2, k, kitAny1 m3, G.bl s⟩
    | _ =>
      first
        | (cases e; exact .inl ⟨x, c, _, u, _, rfl, k, ty_rep s rfl rx, kitAny1 (T.b _), G.bl s⟩)) h
  exact h2
/-- isinstance(e, T) -/
theorem se_isi {T : String} {x : Str} {base : List Kd} {tab : List (Str × Bool)} (IT : IsT X.K X.mg [.type T] base tab) (hmT : X.mg x = none) (hvT : bootBuiltins x = some (.type T)) (he : SE X fx W ca ea e m) (hm : X.mg "isinstance" = none) (hg : Gl X "isinstance" := by rfl) (hgT : Gl X x := by rfl)
    (hn : x ≠ "__name__" := by decide) (hdb : (x == ("__debug__" : Str)) = false := by decide)
    (h1 : starEach [e, .Name x p2] X.env = (false, eval e X.env) :: starEach [.Name x p2] X.env := by rfl) (h2 : starEach [.Name x p2] X.env = (false, eval (.Name x p2) X.env) :: starEach [] X.env := by rfl) (hpl : (backTo pos (starEach [.Name x p2] X.env)).any (·.1) = false := by rfl) :
    SE X fx W true ea (.Call (.Name "isinstance" p) [e, .Name x p2] [] pos) (e1 (opIs base tab) m) :=
  PE.imp (pe_callB (call_isi.or call_isX) hg hm PyProof.Rows.Boot.«isinstance» (pa_cons he (pa_cons (pe_bltn (v := V.ty T) hgT hmT hvT rfl hn hdb) pa_nil h2) h1) (by decide) (by decide) h1 hpl) fun σ H Q q => tE_isi (.ty T) IT q
/-- isinstance(e, C), an own class -/
theorem se_isiO {C : Addr} {x : Str} {base : List Kd} {tab : List (Str × Bool)} (IT : IsT X.K X.mg [.ref C] base tab) (hmT : X.mg x = some (.ref C)) (he : SE X fx W ca ea e m) (hm : X.mg "isinstance" = none) (hg : Gl X "isinstance" := by rfl) (hgT : Gl X x := by rfl)
    (hdb : (x == ("__debug__" : Str)) = false := by decide)
    (h1 : starEach [e, .Name x p2] X.env = (false, eval e X.env) :: starEach [.Name x p2] X.env := by rfl) (h2 : starEach [.Name x p2] X.env = (false, eval (.Name x p2) X.env) :: starEach [] X.env := by rfl) (hpl : (backTo pos (starEach [.Name x p2] X.env)).any (·.1) = false := by rfl) :
    SE X fx W true ea (.Call (.Name "isinstance" p) [e, .Name x p2] [] pos) (e1 (opIs base tab) m) :=
  PE.imp (pe_callB (call_isi.or call_isX) hg hm PyProof.Rows.Boot.«isinstance» (pa_cons he (pa_cons (pe_glob (v := V.ref C) hgT hmT rfl hdb) pa_nil h2) h1) (by decide) (by decide) h1 hpl) fun σ H Q q => tE_isi (.own C) IT q
end
end DL

set_option Elab.async false
set_option linter.all false
set_option maxRecDepth 100000
set_option maxHeartbeats 4000000
namespace DL
open PySem PySem.Spec PyProof.Rows L2

/-! ### a caught error that is kept: it is tracked from the clause's end on -/
section
variable {X : Cx} {pins : List (Addr × Obj)} {σ : L2.St} {H : Hp} {s : Shared}
/-- an object of the heap that nobody tracked is tracked -/
theorem inv_track {a : Addr} {o : HO} (I : Inv X pins σ H s) (hn : H a = none) (n0 : X.s_0.heap.get? a = none) (nL : a ≠ X.env.locals) (nC : ∀ x c, X.env.cells.lookup x = some c → c ≠ a) (np : ∀ p ∈ X.pn ++ pins, p.1 ≠ a)
    (new : ObjOk X.prog X.w (upd H a o) s.heap a o) : Inv X pins σ (upd H a o) s where
  ok := I.ok
  os := I.os
  bare := I.bare
  base := {
    keep := fun b u e n h1 h2 => I.base.keep b u e n h1 h2
    slot := fun b u e n h1 h2 => I.base.slot b u e n h1 h2
    free := fun b u e n h1 => by
      have ne : b ≠ a := fun z => by rw [z, n0] at e; cases e
      rw [upd_ne ne]
      exact I.base.free b u e n h1
    there := fun b u e h1 => I.base.there b u e h1
    tups := fun b xs e => by
      have q := I.base.tups b xs e
      rw [upd_ne (ne_of_none q hn)]
      exact q
    frzs := fun b u w e => by
      have q := I.base.frzs b u w e
      rw [upd_ne (ne_of_none q hn)]
      exact q
    tbls := fun b ps e => by
      obtain ⟨more, q⟩ := I.base.tbls b ps e
      exact ⟨more, by rw [upd_ne (ne_of_none q hn)]; exact q⟩ }
  loc := I.loc
  cell := I.cell
  free := by
    rw [upd_ne (Ne.symm nL)]
    exact I.free
  freeC := fun x c e => by
    rw [upd_ne (nC x c e)]
    exact I.freeC x c e
  pin := fun p hp => by
    obtain ⟨h1, h2, h3⟩ := I.pin p hp
    exact ⟨h1, by rw [upd_ne (np p hp)]; exact h2, h3⟩
  hok := I.hok.laidN (fun _ _ e => e) hn new
  len := I.len
theorem ext_ok {P : Program} {w : World} {h : Heap} {a C d : Addr} {oe : Obj} {vs : Array Value} (e : h.get? a = some oe) (e1 : oe.cls = .ref C) (e2 : oe.dict = some d) (e3 : oe.data = .fields vs) : ObjOk P w H h a (ExT C d a) :=
  ⟨⟨oe, vs, e, e1, e2, e3⟩, ⟨oe, e⟩, fun _ _ ⟨o, v, q, r⟩ k => ⟨o, v, k o q, r⟩⟩
end

/-- except c as (slot i): a suite that goes on, the error kept -/
def wKeep (K : PySem.W.Frag) (c : Value) (i : Nat) (ts : Addr → TS) (Wout : WX) (E : Ends) : WX := fun cls d σ H =>
  ∃ b, PySem.W.exmOne K cls c = some b ∧ (b = false → Wout cls d σ H) ∧
    (b = true → ∃ C dd, cls = .ref C ∧ d = some dd ∧ ∀ a, H a = none → ts a { nx := fun σ' H' => H' a = none → E.nx (σ'.set i none) (upd H' a (ExT C dd a)), rt := fun _ _ => False, bk := fun _ _ => False, ct := fun _ _ => False } (σ.set i (some (.ref a))) H)
section
variable {X : Cx} {x n : Str} {c : Value} {i : Nat} {body suite : List Stmt} {b₀ : Stmt} {np pos pos' : Pos} {tb : WX → TS} {ts : Addr → TS} {Wout : WX}
theorem ps_keep (hx0 : X.ex = []) (hs : X.stack = X.env :: X.outer) (hf : X.env.frame = some X.env.locals) (hN : X.N.Nodup) (hi : X.N[i]? = some n) (hln : X.env.kindOf n = some .local) (hc : Names X x c) (tk : Takes X Wout)
    (hb : ∀ (W : WX) (pn : List (Addr × Obj)) (xe : Value → Shared → Prop), Takes (X.tr pn xe) W → PassesOwn (model X.prog X.w) X.A X.env xe → PSs (X.tr pn xe) body (tb W))
    (hsu : ∀ (a : Addr) (oe : Obj) (pn : List (Addr × Obj)), PSs (X.suite a ((a, oe) :: pn)) (b₀ :: suite) (ts a)) :
    PS X (.Try body [.ExceptHandler (some (.Name x np)) (some n) (b₀ :: suite) pos'] [] [] pos) (fun E σ H => tb (wKeep X.K c i ts Wout E) E σ H) := by
  constructor
  intro pins s σ H E I h
  have ok := I.ok
  have frm : X.A.frames = some (X.env :: X.outer) := by rw [ok.frames]; rw [hs]
  refine wpAny_Try_except (wpAny_mono ((hb (wKeep X.K c i ts Wout E) (X.pn ++ pins) (fun e s₁ => wpAny (model X.prog X.w) X.A (noteFrame e X.env) (fun _ s₂ => wpAny (model X.prog X.w) X.A (setFlight e none) (fun _ s₃ => wpAny (model X.prog X.w) X.A (handleBy e X.env [.ExceptHandler (some (.Name x np)) (some n) (b₀ :: suite) pos']) (L2.SP X pins E) X.xe s₃) X.xe s₂) X.xe s₁) ?_ PassesOwn.looking).run [] s σ H E (I.toTry _) h) ?_ fun _ _ z => z)
  · rintro u s' ⟨a, B, sI, pins', σ', H', cls, d, rfl, J0, nb, up, sky, na, os, ag, b, hb1, hno, hyes⟩
    have J : Inv X pins σ' H' sI := J0.ofTry ok
    rw [show (X.tr (X.pn ++ pins) _).stack = X.env :: X.outer from hs] at sky
    show wpAny (model X.prog X.w) X.A (noteFrame (.ref a) X.env) _ _ _
    refine Sky.land Zc.steady frm hf sky fun h3 fl3 up3 => ?_
    have J3 : Inv X pins σ' H' { s' with heap := h3 } := J.landed nb fl3.1 (up.trans up3) os ag
    obtain ⟨oe3, vs3, he3, hz3, hd3⟩ := fl3.there
    have nfr : a ∉ frs (X.env :: X.outer) := fun hm => by
      obtain ⟨_, o', e', hnf⟩ := fl3.2.2.1.mem hm
      rw [he3] at e'
      cases e'
      exact hnf _ hd3
    have nL : a ≠ X.env.locals := fun z => nfr (List.mem_filterMap.mpr ⟨X.env, List.mem_cons_self, by rw [hf, z]⟩)
    have nF : a ∉ X.fs := fun hm => by
      obtain ⟨e, he, q⟩ := List.mem_filterMap.mp hm
      exact nfr (List.mem_filterMap.mpr ⟨e, List.mem_cons_of_mem _ he, q⟩)
    have gB : B.get? a = none := fl3.2.1
    have gI : sI.heap.get? a = none := by
      cases e : sI.heap.get? a with
      | none => rfl
      | some o =>
        have z := nb a o e (by rw [show (X.tr (X.pn ++ pins) _).stack = X.env :: X.outer from hs]; exact nfr)
        rw [gB] at z
        cases z
    have n0 : X.s_0.heap.get? a = none := by
      cases e : X.s_0.heap.get? a with
      | none => rfl
      | some o =>
        obtain ⟨o', z⟩ := J.base.there a o e (by rw [hx0]; exact fun z => nomatch z)
        rw [gI] at z
        cases z
    have np' : ∀ p ∈ X.pn ++ pins, p.1 ≠ a := fun p hp z => by
      have q := (J.pin p hp).1
      rw [z, gI] at q
      cases q
    have S3 := J3.suite he3 hd3 na nL nF
    refine wpAny_handleBy_cons (codeAny_handlers_test ?_) (by intro q; cases q)
    have LT : PySem.W.Looks (model X.prog X.w) h3 (typeOf (.ref a)) cls := fun A Q E s k q => wpAny_typeOf_ref (k _ _ he3) (by rw [hz3.1]; exact q)
    have LM := PySem.W.exm_one (M := model X.prog X.w) (J3.kIn) LT hb1
    have test : ∀ {Q : Value → Shared → Prop} {E : Value → Shared → Prop}, Q c { s' with heap := h3 } → wpAny (model X.prog X.w) (X.A.mark (some (.ref a))) (eval (.Name x np) X.env) Q E { s' with heap := h3 } := fun {Q E} q => by
      obtain ⟨hg, hdbg, hm | ⟨hm, hv, hnn⟩⟩ := hc
      · exact ld_glob (X := X.suite a ((a, oe3) :: (X.pn ++ pins))) S3 hg hm q hdbg
      · exact ld_blt (X := X.suite a ((a, oe3) :: (X.pn ++ pins))) S3 hg hm hv q hnn hdbg
    refine test (LM.here ?_)
    cases b with
    | true =>
      refine codeAny_handlers_suite_as (HandSPX.lands_againZ fl3 fun h4 fl4 up4 => ?_)
      have J4 : Inv X pins σ' H' { s' with heap := h4 } := J.landed nb fl4.1 ((up.trans up3).trans up4) os ag
      obtain ⟨oe4, vs4, he4, hz4, hd4⟩ := fl4.there
      have S4 := J4.suite he4 hd4 na nL nF
      obtain ⟨C, dd, rfl, rfl, hts⟩ := hyes rfl
      refine store_ok (X := X.suite a ((a, oe4) :: (X.pn ++ pins))) (v := .ref a) S4 hN hi (.inl hln) rfl (fun s5 S5 => ?_) (.inr hln)
      refine wpAny_mono ((hsu a oe4 (X.pn ++ pins)).run [] s5 _ H' _ S5 (hts a na)) (fun f s6 hsp => ?_) (fun _ _ z => False.elim z)
      cases f with
      | next =>
        obtain ⟨σ6, H6, S6, q6⟩ := hsp
        have U6 : Inv X ((a, oe4) :: pins) σ6 H6 s6 :=
          ⟨ok, S6.os, S6.bare, S6.base, S6.loc, S6.cell, S6.free, S6.freeC, fun p hp => S6.pin p (by
            refine List.mem_append_left _ ?_
            rcases List.mem_append.mp hp with z | z
            · exact List.mem_cons_of_mem _ (List.mem_append_left _ z)
            · rcases List.mem_cons.mp z with z | z
              · rw [z]; exact List.mem_cons_self
              · exact List.mem_cons_of_mem _ (List.mem_append_right _ z)), S6.hok, S6.len⟩
        refine gone_ok U6 hN hi hln fun s7 J7 => ?_
        obtain ⟨ea, ha, _, _, hnc⟩ := J7.pin (a, oe4) (List.mem_append_right _ List.mem_cons_self)
        have J8 : Inv X pins (σ6.set i none) H6 s7 :=
          ⟨ok, J7.os, J7.bare, J7.base, J7.loc, J7.cell, J7.free, J7.freeC, fun p hp => J7.pin p (by
            rcases List.mem_append.mp hp with z | z
            · exact List.mem_append_left _ z
            · exact List.mem_append_right _ (List.mem_cons_of_mem _ z)), J7.hok, J7.len⟩
        refine ⟨_, _, inv_track J8 ha n0 nL (fun y c' e z => ?_) np' (ext_ok ea hz4.1 hz4.2 hd4), q6 ha⟩
        obtain ⟨v, oc, g1, g2⟩ := J8.cell y c' e
        have eo : oc = oe4 := by
          rw [z, ea] at g1
          exact (Option.some.inj g1).symm
        rw [eo] at g2
        exact hnc v g2
      | brk =>
        obtain ⟨_, _, _, z⟩ := hsp
        exact z.elim
      | cont =>
        obtain ⟨_, _, _, z⟩ := hsp
        exact z.elim
      | ret u =>
        obtain ⟨_, _, _, _, _, z⟩ := hsp
        exact z.elim
    | false =>
      show wpAny _ X.A (handleBy (.ref a) X.env []) _ _ _
      refine wpAny_handleBy_nil ?_
      obtain ⟨k1, k2, k3, oe, vs, T, oT, ts', he, hz, hd, h1, hr⟩ := id fl3
      unfold PySem.passOn
      refine wpAny_bind (wpAny_field he hd h1 ?_)
      rw [if_neg (show ¬ ((Value.ref T == Value.none) = true) from by simp)]
      have fin : wpAny (model X.prog X.w) X.A (setFlight (.ref a) X.env.frame) (fun _ s4 => wpAny (model X.prog X.w) X.A (throw (.ref a) : Sem Flow) (L2.SP X pins E) X.xe s4) X.xe { s' with heap := h3 } := by
        rw [hf]
        exact HandSPX.setFlight_upZ fl3 fun h4 hh4 up4 => wpAny_throw (tk _ _ ⟨a, B, sI, pins, σ', H', cls, d, rfl, J, nb, (up.trans up3).trans up4, .inr (.inr (by rw [hs]; exact hh4)), na, os, ag, hno rfl⟩)
      first
        | exact wpAny_bind (wpAny_pure (wpAny_bind fin))
        | exact wpAny_bind fin
  · intro f s1 hsp
    cases f with
    | next =>
      obtain ⟨σ', H', J', q⟩ := hsp
      exact wpAny_execs_nil ⟨σ', H', J'.ofTry ok, q⟩
    | brk =>
      obtain ⟨σ', H', J', q⟩ := hsp
      exact ⟨σ', H', J'.ofTry ok, q⟩
    | cont =>
      obtain ⟨σ', H', J', q⟩ := hsp
      exact ⟨σ', H', J'.ofTry ok, q⟩
    | ret u =>
      obtain ⟨v, σ', H', J', r, q⟩ := hsp
      exact ⟨v, σ', H', J'.ofTry ok, r, q⟩
end
end DL

set_option Elab.async false
set_option linter.all false
set_option maxRecDepth 100000
set_option maxHeartbeats 4000000
namespace DL
open PySem PySem.Spec PyProof.Rows L2

/-! ### an own error class with __init__(self, value=None): self.value = value -/
def spInit (K : PySem.W.Frag) : Sp := fun vs H Q E => ∃ (a C : Addr) (y : V), vs = [.ref a, y] ∧ OexC K C ∧ PySem.W.findIn K (.ref C) "value" = some none ∧ H a = some (exo a C none) ∧
  ∀ dx, H dx = none → dx ≠ a → Q .non (upd (upd H dx (exd dx [("value", y)])) a (exo a C (some dx)))
/-- what the callers of such a class know -/
structure Xd (P : Program) (w : World) (K : PySem.W.Frag) (mg : Str → Option Value) (base : Heap) (x : Str) (k : Nat) : Prop where
  ex : ∃ C fI fd ps, OexC K C ∧ XcC K C ∧ PySem.W.findIn K (.ref C) "__init__" = some (some (.ref fI)) ∧ PySem.W.typeIn K (.ref fI) = some (.type "function") ∧
    FnOk P w K mg base (L2.CX P w) k fI fd ps (spInit K) ∧ Binds K fd ps [] ∧ mg x = some (.ref C)
section
variable {P : Program} {w : World} {K : PySem.W.Frag} {mg : Str → Option Value} {base : Heap}
theorem init_ok {x qual : Str} {st : Stmt} {f : Addr} {fd : FuncData} {k : Nat} {p1 p2 p3 p4 : Pos} (FF : DF K x qual st f fd) (S : FnScope ["self", "value"] ["self", "value"] (defScope st))
    (hs : (defScope st).names.lookup ("self" : Str) = some .local) (hv : (defScope st).names.lookup ("value" : Str) = some .local) (hb : defBody st = [.Assign [.Attribute (.Name "self" p1) "value" p2] (.Name "value" p3) p4])
    (hsw : ∀ (env : Env), swapsWith (.Name "value" p3) (some (.Attribute (.Name "self" p1) "value" p2)) p4.line env = pure false) :
    FnOk P w K mg base (L2.CX P w) (k + 1) f fd ["self", "value"] (spInit K) := by
  refine FF.okX S (fun vs H Q E h => ?_) (fun cdv A outer s H vs Q E hr h => ?_)
  · obtain ⟨a, C, y, rfl, _⟩ := h
    rfl
  · obtain ⟨a, C, y, rfl, T, hno, ha, q⟩ := h
    rw [hb]
    refine ⟨_, pss_one (ps_ost (pv 0 (hN := by rfl) (hv := .inl hs)) (pv 1 (hN := by rfl) (hv := .inl hv)) (hsw _)), ?_⟩
    exact ⟨y, rfl, .ref a, rfl, a, C, rfl, T, hno, .inl ⟨ha, fun dx n1 n2 => q dx n1 n2⟩⟩
end
/-! ### raise C(e) -/
def sRaise (c : Str) (m : M D) : MS := sDo m fun d ρ => .exn c d ρ
section
variable {X : Cx} {fx : Fx} {W : WX} {ea : Bool} {e : Expr} {m : M D} {E : Ends} {σ : L2.St} {H : Hp}
theorem tS_raise {c : Str} {C : Addr} (T : OexC X.K C) (TC : XcC X.K C) (hm : X.mg c = some (.ref C)) (h : tS (gx X) fx W (sRaise c m) E σ H) :
    tMkO C (spInit X.K) [] (tCons (tE (gx X) fx W true ea m) tNil) σ H fun cls d H' => W cls d σ H' := by
  obtain ⟨F, ρ, S, h⟩ := h
  refine ⟨F, ρ, S, ?_⟩
  unfold sRaise sDo at h
  cases e1 : m ρ with
  | bad => rw [e1] at h; exact h
  | exn c' x r =>
    rw [e1] at h
    exact xgs h
  | ok d ρ1 =>
    rw [e1] at h
    intro v H1 F1 G1 S1 r1
    refine ⟨Nat.le_of_ble_eq_true rfl, fun a na => ⟨a, C, v, rfl, T, TC.hv, upd_same, fun dx n1 n2 => ⟨rfl, dx, _, upd_same, by rw [upd_ne n2, upd_same], ?_, ?_⟩⟩⟩
    · rw [upd_ne n2] at n1
      exact n1
    · have nd : H1 dx = none := by rw [upd_ne n2] at n1; exact n1
      have eh : upd (del (upd (upd (upd H1 a (exo a C none)) dx (exd dx [("value", v)])) a (exo a C (some dx))) a) dx (.xd [("value", v)]) = upd H1 dx (.xd [("value", v)]) := by
        funext b
        by_cases hb : b = dx
        · subst hb
          rw [upd_same, upd_same]
        · rw [upd_ne hb, upd_ne hb]
          by_cases ha : b = a
          · subst ha
            rw [del_same, na]
          · rw [del_ne ha, upd_ne ha, upd_ne hb, upd_ne ha]
      rw [eh]
      have G2 := Grow.new S1.s (p := dx) (o := .xd [("value", v)]) nd
      exact h (.ref C) (some dx) σ _ (upd F1 dx (.xd [("value", v)])) (G1.gs.trans (Grow.gs G2)) (S1.grow G2) ⟨C, dx, v, rfl, rfl, hm, TC, upd_same, r1.mono G2.f⟩
theorem ss_raise {c : Str} {k : Nat} {p pos rpos : Pos} (C : Xd X.prog X.w X.K X.mg X.base c k) (hc : X.calm = true) (hr : Room (k + 1) X.A) (tk : Takes X W) (he : SE X fx W true ea e m) (hx : ∀ (us : L2.St), True := fun _ => trivial) (hg : Gl X c := by rfl)
    (hdb : (c == ("__debug__" : Str)) = false := by decide) (hst : starEach [e] X.env = (false, eval e X.env) :: starEach [] X.env := by rfl) (hpl : (backTo pos (starEach [] X.env)).any (·.1) = false := by rfl) :
    SS X fx W (.Raise (some (.Call (.Name c p) [e] [] pos)) none rpos) (sRaise c m) := by
  obtain ⟨Ca, fI, fd, ps, T, TC, iC, tI, F1, hb, hm⟩ := C.ex
  exact PS.imp (L2.ps_raise hc tk (pmk_oex T iC tI F1 hr hb .nil (fun _ _ _ _ _ _ _ h => by
    obtain ⟨_, _, _, _, _, _, _, _, _, _, _, _, z⟩ := h
    exact z.elim) hg hm (pa_cons he pa_nil hst) hdb hst hpl)) fun E σ H h => tS_raise (ea := ea) T TC hm h
end
end DL

set_option Elab.async false
set_option linter.all false
set_option maxRecDepth 100000
set_option maxHeartbeats 4000000
namespace DL
open PySem PySem.Spec PyProof.Rows L2

/-! ### try: .. except C as e: kept = e -/
def SO.kept (tab : List (Str × Bool)) (i j : Nat) : SO → SO
  | .exn c v ρ => match tab.lookup c with
    | some true => if i < ρ.length then .any fun a => .nx ((ρ.set j (.cl (.exc a c v))).set i .no) else .bad
    | some false => .exn c v ρ
    | none => .bad
  | .any f => .any fun a => (f a).kept tab i j
  | .nx ρ => .nx ρ
  | .ret d ρ => .ret d ρ
  | .brk ρ => .brk ρ
  | .ct ρ => .ct ρ
  | .bad => .bad
def sTryK (tab : List (Str × Bool)) (i j : Nat) (mb : MS) : MS := fun ρ => (mb ρ).kept tab i j
/-- which own errors the clause takes -/
def CatT (K : PySem.W.Frag) (mg : Str → Option Value) (cv : Value) (tab : List (Str × Bool)) : Prop := ∀ p ∈ tab, ∃ C, mg p.1 = some (.ref C) ∧ PySem.W.exmOne K (.ref C) cv = some p.2
section
variable {g : Gx} {fx : Fx} {W : WX} {σ : L2.St} {H F : Hp} {ρ : Rho} {E : Ends}
theorem ST.unset (S : ST g fx σ H F ρ) {i : Nat} (hi : fx.ow.contains i = false) : ST g fx (σ.set i none) H F (ρ.set i .no) where
  s := S.s
  ge := S.ge
  nw := S.nw
  old := S.old
  len := by rw [List.length_set, List.length_set]; exact S.len
  cl := fun j d h => by
    obtain ⟨ne, q⟩ := set_no h (by intro z; cases z)
    rw [List.getElem?_set_ne ne]
    exact S.cl j d q
  ow := fun j d h => by
    obtain ⟨ne, q⟩ := set_no h (by intro z; cases z)
    rw [List.getElem?_set_ne ne]
    exact S.ow j d q
  inj := fun j k d e a h1 h2 h3 h4 => by
    obtain ⟨n1, q1⟩ := set_no h1 (by intro z; cases z)
    obtain ⟨n2, q2⟩ := set_no h2 (by intro z; cases z)
    rw [List.getElem?_set_ne n1] at h3
    rw [List.getElem?_set_ne n2] at h4
    exact S.inj j k d e a q1 q2 h3 h4
  par := fun j a h => by
    have hj := S.pin j a h
    have ne : i ≠ j := fun e => by
      subst e
      have : fx.ow.contains i = true := by simpa using hj
      rw [hi] at this; cases this
    obtain ⟨⟨d, e⟩, e2⟩ := S.par j a h
    exact ⟨⟨d, by rw [List.getElem?_set_ne ne]; exact e⟩, by rw [List.getElem?_set_ne ne]; exact e2⟩
  pin := S.pin
theorem gs_unset {i : Nat} : Gs σ F H ρ (σ.set i none) F H (ρ.set i .no) := ⟨Sub.refl _, fun _ _ h => .inl h, fun _ _ h _ => h, fun a ⟨j, d, h1, h2⟩ => .inl ⟨j, d, by
    obtain ⟨ne, q⟩ := set_no h1 (by intro z; cases z)
    rw [List.getElem?_set_ne ne] at h2
    exact ⟨q, h2⟩⟩, fun _ o h => ⟨o, h⟩⟩
theorem post_kept {cv : Value} {tab : List (Str × Bool)} {i j : Nat} (hij : i ≠ j) (oi : fx.ow.contains i = false) (oj : fx.ow.contains j = false) (T : CatT g.K g.mg cv tab) :
    ∀ {s : SO}, sPost g fx W E σ F H ρ (s.kept tab i j) → sPost g fx (wKeep g.K cv i (fun a => tAsg (tVar i) (gName j)) W E) E σ F H ρ s
  | .nx ρ1, h => h
  | .ret d r, h => h
  | .brk r, h => h
  | .ct r, h => h
  | .bad, h => h
  | .any f, h => fun a => post_kept hij oi oj T (h a)
  | .exn c v r, h => by
    intro cls dd σ' H' F' G S' X
    obtain ⟨C, d, w, rfl, rfl, hm, XC, hd, rw'⟩ := X
    dsimp only [SO.kept] at h
    cases q : tab.lookup c with
    | none => rw [q] at h; exact h.elim
    | some b =>
      rw [q] at h
      obtain ⟨C', m1, m2⟩ := T _ (lookup_mem q)
      rw [hm] at m1
      cases m1
      refine ⟨b, m2, fun z => ?_, fun z => ?_⟩
      · subst z
        exact h _ _ σ' H' F' G S' ⟨C, d, w, rfl, rfl, hm, XC, hd, rw'⟩
      · subst z
        dsimp only at h
        by_cases hi : i < r.length
        · rw [if_pos hi] at h
          refine ⟨C, d, rfl, rfl, fun a na => ⟨.ref a, ?_, fun na' => ?_⟩⟩
          · rw [List.getElem?_set_self (by rw [S'.len]; exact hi)]
          · have G2 := Grow.new S'.s (p := a) (o := ExT C d a) na
            have dn : F' a = none := by
              cases z : F' a with
              | none => rfl
              | some u => rw [S'.s a u z] at na; cases na
            have rx : Rep g (upd F' a (ExT C d a)) (.exc a c v) (.ref a) := by
              simp only [Rep]
              exact ⟨C, d, w, trivial, hm, XC, upd_same, G2.f _ _ hd, rw'.mono G2.f⟩
            have S2 := ((S'.grow G2).set oj rx).unset oi
            have ec : ((σ'.set i (some (.ref a))).set j (some (.ref a))).set i none = (σ'.set j (some (.ref a))).set i none := by
              rw [List.set_comm _ _ hij, List.set_set]
            have Gf := ((G.trans (Grow.gs G2)).trans (gs_set (i := j) (v := .ref a) (d := .exc a c v))).trans (gs_unset (i := i))
            show E.nx (((σ'.set i (some (.ref a))).set j (some (.ref a))).set i none) (upd H' a (ExT C d a))
            rw [ec]
            exact h a _ _ _ Gf S2
        · rw [if_neg hi] at h
          exact h.elim
theorem tS_tryK {cv : Value} {tab : List (Str × Bool)} {i j : Nat} {mb : MS} (hij : i ≠ j) (oi : fx.ow.contains i = false) (oj : fx.ow.contains j = false) (T : CatT g.K g.mg cv tab) (h : tS g fx W (sTryK tab i j mb) E σ H) :
    tS g fx (wKeep g.K cv i (fun a => tAsg (tVar i) (gName j)) W E) mb E σ H := by
  obtain ⟨F, ρ, S, h⟩ := h
  exact ⟨F, ρ, S, post_kept hij oi oj T h⟩
end
section
variable {X : Cx} {fx : Fx} {W : WX}
theorem ss_tryK (i j : Nat) {c x n : Str} {cv : Value} {tab : List (Str × Bool)} {body : List Stmt} {mb : MS} {np pos pos' p1 p2 p3 : Pos} (T : CatT X.K X.mg cv tab) (hc : Names X c cv) (hx0 : X.ex = []) (hs : X.stack = X.env :: X.outer) (hf : X.env.frame = some X.env.locals) (hN : X.N.Nodup) (tk : Takes X W)
    (hb : ∀ (W' : WX) (pn : List (Addr × Obj)) (xe : Value → Shared → Prop), Takes (X.tr pn xe) W' → PassesOwn (model X.prog X.w) X.A X.env xe → SSs (X.tr pn xe) fx W' body mb)
    (hi : X.N[i]? = some n := by rfl) (hj : X.N[j]? = some x := by rfl) (hij : i ≠ j := by decide) (oi : fx.ow.contains i = false := by rfl) (oj : fx.ow.contains j = false := by rfl)
    (hln : X.env.scope.names.lookup n = some .local := by rfl) (hlx : X.env.scope.names.lookup x = some .local := by rfl) (hkn : X.env.kindOf n = some .local := by rfl)
    (hsw : swapsWith (.Name n p2) (some (.Name x p1)) p3.line X.env = pure false := by rfl) (hd : (n == ("__debug__" : Str)) = false := by decide) (hcd : (n == ("__classdict__" : Str)) = false := by decide) :
    SS X fx W (.Try body [.ExceptHandler (some (.Name c np)) (some n) [.Assign [.Name x p1] (.Name n p2) p3] pos'] [] [] pos) (sTryK tab i j mb) := by
  have hsu : ∀ (a : Addr) (oe : Obj) (pn : List (Addr × Obj)), PSs (X.suite a ((a, oe) :: pn)) [.Assign [.Name x p1] (.Name n p2) p3] (tAsg (tVar i) (gName j)) := fun a oe pn =>
    pss_one (ps_set (X := X.suite a ((a, oe) :: pn)) hN hj (.inl hlx) (pe_var (X := X.suite a ((a, oe) :: pn)) hi (.inl hln) hd hcd) hsw (.inr hlx))
  exact PS.imp (ps_keep (tb := fun W' => tS (gx X) fx W' mb) hx0 hs hf hN hi hkn hc tk hb hsu) fun E σ H h => tS_tryK hij oi oj T h
end

/-! ### err.value -/
def opVal : D → R D
  | .exc _ _ v => .ok v
  | _ => .bad
section
variable {X : Cx} {fx : Fx} {W : WX} {ca ea : Bool} {e : Expr} {m : M D} {pos : Pos}
def rVal (K : PySem.W.Frag) : V → Hp → VK → Prop := fun x H Q => ∃ (a C d : Addr) (w : V), x = .ref a ∧ H a = some (ExT C d a) ∧ H d = some (.xd [("value", w)]) ∧ XcC K C ∧ Q w H
theorem pe_val {te : TE} (he : PE X e te) (hb : attributeBase e "value" X.env (eval e X.env) = eval e X.env := by rfl) : PE X (.Attribute e "value" pos) (fun σ H Q => te σ H fun x H1 => rVal X.K x H1 Q) := by
  refine ⟨fun pins s σ H Q I h => attr_of hb (thn (he.run pins s σ H _ I h) fun u s1 hh => ?_)⟩
  obtain ⟨x, H1, I1, rx, a, C, d, w, rfl, ha, hd, T, q⟩ := hh
  obtain rfl : u = Value.ref a := rx
  obtain ⟨oe, od, J, mA, hns, hr, ho, hl⟩ := ext_inst I1 ha hd
  obtain ⟨u, hu, ru⟩ := RelO.some_of (v := w) (o := mA "value") (hr "value")
  exact HandSPX.exc_get I1.kIn J T.hg T.hk T.hs (PySem.W.findObj_own T.hd T.hv rfl (by rw [hl, hu])) (handed_of ru) ⟨w, H1, I1.tok _, ru, q⟩
theorem se_val (he : SE X fx W ca ea e m) (hb : attributeBase e "value" X.env (eval e X.env) = eval e X.env := by rfl) : SE X fx W true ea (.Attribute e "value" pos) (e1 opVal m) :=
  PE.imp (pe_val he hb) fun σ H Q q => by
    have h := tE_e1 (g := gx X) (r := rVal X.K) (ca := ca) (fun F H dx x d Q s rx e G => by
      cases dx with
      | exc a c v =>
        cases e
        obtain ⟨C, dd, w, rfl, h1, h2, h3, h4, h5⟩ := w_exc s rx
        exact ⟨a, C, dd, w, rfl, h3, h4, h2, G.val s h5⟩
      | _ => cases e) q
    exact h
end
end DL

set_option Elab.async false
set_option linter.all false
set_option maxRecDepth 100000
set_option maxHeartbeats 4000000
namespace DL
open PySem PySem.Spec PyProof.Rows L2

section
variable {X : Cx} {fx : Fx} {W : WX}
theorem sss_bad {st : List Stmt} : SSs X fx W st sBad := ⟨fun pins s σ H D I q => by
  obtain ⟨F, ρ, S, h⟩ := q
  exact h.elim⟩
theorem sb_bad {eff : Bool} {e : Expr} : SB X fx W eff e (fun _ => .bad) := ⟨fun pins s σ H Q I q => by
  obtain ⟨F, ρ, S, h⟩ := q
  exact h.elim⟩
end

/-! ### f() -/
section
variable {X : Cx} {fx : Fx} {W : WX} {x : Str} {p pos : Pos} {fn : Fn} {k : Nat}
theorem pe_call0S {CX : CXT} {f : Addr} {fd : FuncData} {ps : List Str} {sp : Sp} {E : L2.St → XK} (F : FnOk X.prog X.w X.K X.mg X.base CX k f fd ps sp) (hr : Room k X.A) (hg : Gl X x) (hm : X.mg x = some (.ref f)) (hk : PySem.W.keepIn X.K (.ref f) = true) (hb : Binds X.K fd ps []) (hx : ∀ σ, PassesAt CX X σ (E σ))
    (hdb : (x == ("__debug__" : Str)) = false := by decide) : PE X (.Call (.Name x p) [] [] pos) (tCallS sp E tNil) := by
  refine ⟨fun pins s σ H Q I h => ?_⟩
  refine wpAny_Call_Name_kw (ld_glob I hg hm ?_ hdb)
  exact PySem.W.callWith_K0 I.kIn hk (run_fnSD (us := []) (vs := []) (dvs := []) F hr hb .nil (hx σ) I .nil h)
theorem se_call0 (C : Fd X.prog X.w X.K X.mg X.base x [] .cl 0 k fn) (hr : Room k X.A) (tk : Takes X W) (hg : Gl X x := by rfl) (hdb : (x == ("__debug__" : Str)) = false := by decide) :
    SE X fx W true false (.Call (.Name x p) [] [] pos) (eCall fn aNil) := by
  obtain ⟨f, fd, ps, F, hm, hk, hb⟩ := C.ex
  exact PE.imp (pe_call0S F hr hg hm hk hb (fun σ => passAt tk σ) hdb) fun σ H Q q => by
    have h := tE_call (ea := false) (n := 0) aNil_len q
    obtain ⟨F, ρ, S, h⟩ := h
    exact h [] H F (Go.refl S.s) S rfl
end

/-! ### f(a = .., b = ..) -/
def permL {α : Type} (is : List Nat) (xs : List α) : List α := is.filterMap fun i => xs[i]?
def permK (is : List Nat) (us ws : List Value) : List Value := match us with
  | [] => permL is ws
  | _ => []
def permV (is : List Nat) (us ws : List V) : List V := match us with
  | [] => permL is ws
  | _ => []
theorem vals_get : ∀ {vs : List V} {us : List Value}, Vals vs us → ∀ i : Nat, (∃ v u, vs[i]? = some v ∧ us[i]? = some u ∧ RelV v u) ∨ (vs[i]? = none ∧ us[i]? = none)
  | _, _, .nil, i => .inr ⟨rfl, rfl⟩
  | _, _, .cons r t, 0 => .inl ⟨_, _, rfl, rfl, r⟩
  | _, _, .cons r t, i + 1 => vals_get t i
theorem permL_vals {vs : List V} {us : List Value} (h : Vals vs us) : ∀ is : List Nat, Vals (permL is vs) (permL is us)
  | [] => .nil
  | i :: is => by
    have ih := permL_vals h is
    unfold permL at ih ⊢
    rw [List.filterMap_cons, List.filterMap_cons]
    rcases vals_get h i with ⟨v, u, e1, e2, r⟩ | ⟨e1, e2⟩
    · rw [e1, e2]
      exact .cons r ih
    · rw [e1, e2]
      exact ih
theorem perm_vals {is : List Nat} {vs : List V} {us : List Value} {zs : List V} {ws : List Value} (h : Vals vs us) (k : Vals zs ws) : Vals (permV is vs zs) (permK is us ws) := by
  cases h with
  | nil => exact permL_vals k is
  | cons r t => exact .nil
/-- a def as its callers by keywords see it -/
structure Fk (P : Program) (w : World) (K : PySem.W.Frag) (mg : Str → Option Value) (base : Heap) (x : Str) (ks : List Str) (is : List Nat) (n k : Nat) (fn : Fn) : Prop where
  ex : ∃ f fd ps, FnOk P w K mg base (L2.CX P w) k f fd ps (spOf ⟨K, mg⟩ [] .cl n fn) ∧ mg x = some (.ref f) ∧ PySem.W.keepIn K (.ref f) = true ∧ KBinds K fd ps ks (permK is) (permV is)
def eCallK (fn : Fn) (is : List Nat) (m : M (List D)) : M D := eCall fn (m.bind fun ds => M.pure (permL is ds))
section
variable {X : Cx} {fx : Fx} {W : WX} {x : Str} {p pos kpos : Pos} {fn : Fn} {k n : Nat} {ea eb ca cb : Bool} {ks : List Str} {is : List Nat} {kws : List Keyword} {m : M (List D)} {e : Expr} {ma : M D} {nm : Option Str}
def SK (X : Cx) (fx : Fx) (W : WX) (cl eff : Bool) (kws : List Keyword) (m : M (List D)) : Prop := PK X kws (tA (gx X) fx W cl eff m)
theorem PK.imp {t u : TA} (h : PK X kws t) (k : ∀ σ H Q, u σ H Q → t σ H Q) : PK X kws u := ⟨fun pos pins s σ H Q I q => h.run pos pins s σ H Q I (k σ H Q q)⟩
theorem sk_nil : SK X fx W true false [] aNil := PK.imp pk_nil fun _ _ _ h => tA_nil h
theorem sk_cons (ha : SE X fx W ca ea e ma) (hr : SK X fx W cb eb kws m) (hc : (!eb || ca) = true := by rfl) : SK X fx W (ca && cb) (ea || eb) (⟨nm, e, kpos⟩ :: kws) (aCons ma m) := PK.imp (pk_cons ha hr) fun _ _ _ h => tA_cons hc h
def tCallKS (sp : Sp) (gV : List V → List V → List V) (E : L2.St → XK) (tk : TA) : TE := fun σ H Q => tk σ H fun zs H2 => sp (gV [] zs) H2 Q (E σ)
theorem pe_callKS {CX : CXT} {f : Addr} {fd : FuncData} {ps : List Str} {sp : Sp} {E : L2.St → XK} {tk : TA} {g : List Value → List Value → List Value} {gV : List V → List V → List V} (F : FnOk X.prog X.w X.K X.mg X.base CX k f fd ps sp) (hr : Room k X.A) (hg : Gl X x) (hm : X.mg x = some (.ref f))
    (hk : PySem.W.keepIn X.K (.ref f) = true) (hb : KBinds X.K fd ps ks g gV) (hx : ∀ σ, PassesAt CX X σ (E σ)) (hkw : PK X kws tk) (hall : (backToKw pos (keywordEach kws X.env)).all (·.1.isSome) = true := by rfl) (hks : (backToKw pos (keywordEach kws X.env)).filterMap (·.1) = ks := by rfl)
    (hdb : (x == ("__debug__" : Str)) = false := by decide) (hpl : ((backTo pos (starEach [] X.env)).any (·.1) || (backToKw pos (keywordEach kws X.env)).any (·.1.isNone)) = false := by rfl) :
    PE X (.Call (.Name x p) [] kws pos) (tCallKS sp gV E tk) := by
  constructor
  intro pins s σ H Q I h
  refine wpAny_Call_Name_kw (ld_glob I hg hm (PySem.W.callWith_KW0 (h₀ := X.base) I.ok.mod.kin hk hall ?_ hpl) hdb)
  refine thn (hkw.run pos pins s σ H _ I h) fun ws s2 ⟨zs, H2, I2, rz, q2⟩ => ⟨I2.kIn, ?_⟩
  rw [hks]
  have r2 := hb.rel .nil rz
  have hl : (g [] ws).length = ps.length := by rw [← r2.length]; exact F.len _ _ _ _ q2
  refine wpAny_call (codeAny_mono (F.run X.A X.stack s2 H2 ⟨[], ks.zip ws⟩ (g [] ws) (gV [] zs) Q (E σ) hr I2.env0 (hb.to s2 [] ws I2.kIn hl) r2 q2) fun r s' hq => ?_)
  cases r with
  | error er => exact hx σ pins H2 s2 er s' I2 hq
  | ok fl =>
    cases fl with
    | ret u => exact I2.after hq
    | next => exact False.elim hq
    | brk => exact False.elim hq
    | cont => exact False.elim hq
theorem permL_vrl {g : Gx} {F H : Hp} {ds : List D} {vs : List V} (r : VRL true g F H ds vs) : ∀ is : List Nat, VRL true g F H (permL is ds) (permL is vs)
  | [] => rfl
  | i :: is => by
    have ih := permL_vrl r is
    unfold permL at ih ⊢
    rw [List.filterMap_cons, List.filterMap_cons]
    cases e : ds[i]? with
    | none =>
      have hl := r.length
      have : vs[i]? = none := List.getElem?_eq_none (by rw [hl]; exact List.getElem?_eq_none_iff.mp e)
      rw [this]
      exact ih
    | some d =>
      obtain ⟨v, e1, r1⟩ := r.rep.get e
      rw [e1]
      exact ⟨v, _, rfl, r1, ih⟩
theorem se_callK (C : Fk X.prog X.w X.K X.mg X.base x ks is n k fn) (hr : Room k X.A) (tk : Takes X W) (ha : SK X fx W true ea kws m) (hn : ∀ ρ ds ρ', m ρ = .ok ds ρ' → (permL is ds).length = n) (hg : Gl X x := by rfl)
    (hall : (backToKw pos (keywordEach kws X.env)).all (·.1.isSome) = true := by rfl) (hks : (backToKw pos (keywordEach kws X.env)).filterMap (·.1) = ks := by rfl)
    (hdb : (x == ("__debug__" : Str)) = false := by decide) (hpl : ((backTo pos (starEach [] X.env)).any (·.1) || (backToKw pos (keywordEach kws X.env)).any (·.1.isNone)) = false := by rfl) :
    SE X fx W true ea (.Call (.Name x p) [] kws pos) (eCallK fn is m) := by
  obtain ⟨f, fd, ps, F, hm, hk, hb⟩ := C.ex
  refine PE.imp (pe_callKS F hr hg hm hk hb (fun σ => passAt tk σ) ha hall hks hdb hpl) fun σ H Q q => ?_
  have h := tE_call (n := n) (m := m.bind fun ds => M.pure (permL is ds)) (fun ρ ds ρ' e => by
    unfold M.bind M.pure at e
    cases e1 : m ρ with
    | bad => rw [e1] at e; cases e
    | exn c x r1 => rw [e1] at e; cases e
    | ok ds1 ρ1 =>
      rw [e1] at e
      cases e
      exact hn _ _ _ e1) q
  obtain ⟨F0, ρ, S, h⟩ := h
  refine ⟨F0, ρ, S, ?_⟩
  unfold M.bind M.pure at h
  cases e1 : m ρ with
  | bad => rw [e1] at h; exact h
  | exn c x r1 => rw [e1] at h; exact h
  | ok ds1 ρ1 =>
    rw [e1] at h
    intro zs H1 F1 G1 S1 r1
    exact h (permL is zs) H1 F1 G1 S1 (permL_vrl r1 is)
end

/-! ### for a, b in zip(e, f) -/
def zipD : List D → R (List D)
  | [a, b] => match lstOf a, lstOf b with
    | some xs, some ys => if xs.length ≤ 16777216 then .ok ((xs.zip ys).map fun p => .tup [p.1, p.2]) else .bad
    | _, _ => match a, b with
      | .tup xs, .tup ys => if xs.length ≤ 16777216 then .ok ((xs.zip ys).map fun p => .tup [p.1, p.2]) else .bad
      | _, _ => .bad
  | _ => .bad
def iZip (m : M (List D)) : M (List D) := m.bind fun ds => M.lift (zipD ds)

section
variable {g : Gx} {F : Hp}
theorem zip_get {xs ys : List D} {i : Nat} {d : D} (e : ((xs.zip ys).map fun p => D.tup [p.1, p.2])[i]? = some d) : ∃ x y, xs[i]? = some x ∧ ys[i]? = some y ∧ d = .tup [x, y] := by
  rw [List.getElem?_map] at e
  cases q : (xs.zip ys)[i]? with
  | none => rw [q] at e; cases e
  | some p =>
    rw [q] at e
    cases e
    obtain ⟨h1, h2⟩ := List.getElem?_zip_eq_some.mp q
    exact ⟨p.1, p.2, h1, h2, rfl⟩
theorem zip_rep {H' F' : Hp} {x y : D} {v u : V} {T : Addr} (s : Sub F' H') (hT : H' T = none) (r1 : Rep g F' x v) (r2 : Rep g F' y u) : ∃ F'', Grow F' H' F'' (upd H' T (.tup [v, u])) ∧ Rep g F'' (.tup [x, y]) (.ref T) :=
  ⟨upd F' T (.tup [v, u]), Grow.new s hT, by
    simp only [Rep]
    have m := (Grow.new s hT (o := .tup [v, u])).f
    exact ⟨T, [v, u], rfl, SqT.of upd_same, RepL.cons (r1.mono m) (RepL.one (r2.mono m))⟩⟩
theorem itz_rep {a b : Addr} {xs ys : List D} {vs ws : List V} (ha : SqL g.K F a vs) (hb : SqL g.K F b ws) (ra : RepL g F xs vs) (rb : RepL g F ys ws) (hl : xs.length ≤ 16777216) : ItRep g (Itz g.K a b) ((xs.zip ys).map fun p => .tup [p.1, p.2]) F where
  go := fun i H' F' f s hi => by
    obtain ⟨x, y, h1, h2, _⟩ := zip_get (List.getElem?_eq_getElem hi)
    obtain ⟨v, e1, _⟩ := ra.get h1
    obtain ⟨u, e2, _⟩ := rb.get h2
    exact ⟨vs, ws, v, u, sqL_mono (f.trans s) ha, sqL_mono (f.trans s) hb, e1, e2⟩
  yld := fun i H' F' x H'' d f s e y => by
    obtain ⟨T, v, u, rfl, hT, rfl, y1, y2⟩ := y
    obtain ⟨dx, dy, h1, h2, rfl⟩ := zip_get e
    obtain ⟨v', e1, r1⟩ := ra.get h1
    obtain ⟨u', e2, r2⟩ := rb.get h2
    have q1 := y1 vs (sqL_mono (f.trans s) ha)
    have q2 := y2 ws (sqL_mono (f.trans s) hb)
    rw [e1] at q1
    rw [e2] at q2
    cases q1
    cases q2
    exact zip_rep s hT (r1.mono f) (r2.mono f)
  stop := fun i H' F' f s hi => ⟨vs, ws, sqL_mono (f.trans s) ha, sqL_mono (f.trans s) hb, by
    have h1 := ra.length
    have h2 := rb.length
    rw [List.length_map, List.length_zip] at hi
    omega⟩
  len := by
    rw [List.length_map, List.length_zip]
    omega
theorem itzT_rep {a b : Addr} {xs ys : List D} {vs ws : List V} (ha : SqT g.K F a vs) (hb : SqT g.K F b ws) (ra : RepL g F xs vs) (rb : RepL g F ys ws) (hl : xs.length ≤ 16777216) : ItRep g (RZ.ItzT g.K a b) ((xs.zip ys).map fun p => .tup [p.1, p.2]) F where
  go := fun i H' F' f s hi => by
    obtain ⟨x, y, h1, h2, _⟩ := zip_get (List.getElem?_eq_getElem hi)
    obtain ⟨v, e1, _⟩ := ra.get h1
    obtain ⟨u, e2, _⟩ := rb.get h2
    exact ⟨vs, ws, v, u, sqT_mono (f.trans s) ha, sqT_mono (f.trans s) hb, e1, e2⟩
  yld := fun i H' F' x H'' d f s e y => by
    obtain ⟨T, v, u, rfl, hT, rfl, y1, y2⟩ := y
    obtain ⟨dx, dy, h1, h2, rfl⟩ := zip_get e
    obtain ⟨v', e1, r1⟩ := ra.get h1
    obtain ⟨u', e2, r2⟩ := rb.get h2
    have q1 := y1 vs (sqT_mono (f.trans s) ha)
    have q2 := y2 ws (sqT_mono (f.trans s) hb)
    rw [e1] at q1
    rw [e2] at q2
    cases q1
    cases q2
    exact zip_rep s hT (r1.mono f) (r2.mono f)
  stop := fun i H' F' f s hi => ⟨vs, ws, sqT_mono (f.trans s) ha, sqT_mono (f.trans s) hb, by
    have h1 := ra.length
    have h2 := rb.length
    rw [List.length_map, List.length_zip] at hi
    omega⟩
  len := by
    rw [List.length_map, List.length_zip]
    omega
theorem lstOf_rep {d : D} {xs : List D} {v : V} (e : lstOf d = some xs) (r : Rep g F d v) : ∃ a vs, v = .ref a ∧ SqL g.K F a vs ∧ RepL g F xs vs := by
  cases d with
  | lst ys =>
    cases e
    simp only [Rep] at r
    obtain ⟨a, vs, e, h, l⟩ := r
    exact ⟨a, vs, e, SqL.of h, l⟩
  | ros ys =>
    cases e
    simp only [Rep] at r
    exact r
  | _ => cases e
end
section
variable {g : Gx} {fx : Fx} {W : WX} {σ : L2.St} {H : Hp} {ea : Bool} {m : M (List D)} {R : It → Hp → Prop}
theorem tI_zip (h : tI g fx W ea (iZip m) σ H R) : RZ.iZipA g.K (tA g fx W true ea m) σ H R := by
  obtain ⟨F, ρ, S, h⟩ := h
  refine ⟨F, ρ, S, ?_⟩
  unfold iZip M.bind at h
  cases e1 : m ρ with
  | bad => rw [e1] at h; exact h
  | exn c x r1 => rw [e1] at h; exact h
  | ok ds ρ1 =>
    rw [e1] at h
    intro vs H1 F1 G1 S1 r1
    dsimp only [M.lift] at h
    match ds, r1, h with
    | [], _, h => exact h.elim
    | [_], _, h => exact h.elim
    | _ :: _ :: _ :: _, _, h => exact h.elim
    | [a, b], r1, h =>
      obtain ⟨v, r, rfl, ra, u, r', rfl, rb, rfl⟩ := r1
      have ra' : Rep g F1 a v := ra
      have rb' : Rep g F1 b u := rb
      cases q1 : lstOf a with
      | some xs =>
        cases q2 : lstOf b with
        | some ys =>
          dsimp only [zipD] at h
          rw [q1, q2] at h
          dsimp only at h
          by_cases c : xs.length ≤ 16777216
          · rw [if_pos c] at h
            obtain ⟨p, vs, rfl, h1, l1⟩ := lstOf_rep q1 ra'
            obtain ⟨p2, ws, rfl, h2, l2⟩ := lstOf_rep q2 rb'
            exact ⟨p, p2, vs, ws, rfl, .inl ⟨sqL_mono S1.s h1, sqL_mono S1.s h2, h _ H1 F1 G1 S1 (itz_rep h1 h2 l1 l2 c)⟩⟩
          · rw [if_neg c] at h; exact h.elim
        | none =>
          dsimp only [zipD] at h
          rw [q1, q2] at h
          cases a <;> cases b <;> first | exact h.elim | (cases q1)
      | none =>
        dsimp only [zipD] at h
        rw [q1] at h
        cases a with
        | tup xs =>
          cases b with
          | tup ys =>
            dsimp only at h
            by_cases c : xs.length ≤ 16777216
            · rw [if_pos c] at h
              simp only [Rep] at ra' rb'
              obtain ⟨p, vs, rfl, h1, l1⟩ := ra'
              obtain ⟨p2, ws, rfl, h2, l2⟩ := rb'
              exact ⟨p, p2, vs, ws, rfl, .inr ⟨sqT_mono S1.s h1, sqT_mono S1.s h2, h _ H1 F1 G1 S1 (itzT_rep h1 h2 l1 l2 c)⟩⟩
            · rw [if_neg c] at h; exact h.elim
          | _ => exact h.elim
        | _ => cases b <;> first | exact h.elim | (cases q1)
end
section
variable {X : Cx} {fx : Fx} {W : WX} {ea : Bool} {p pos tpos : Pos} {e e2 : Expr} {elts : List Expr} {kk : Nat} {m : M (List D)}
theorem si_zip (hm : X.mg "zip" = none) (ha : SA X fx W true ea [e, e2] m) (hg : Gl X "zip" := by rfl) (hs : starEach [e, e2] X.env = (false, eval e X.env) :: starEach [e2] X.env := by rfl) (hpl : (backTo pos (starEach [e2] X.env)).any (·.1) = false := by rfl) :
    SI X fx W ea (.Tuple elts kk tpos) (.Call (.Name "zip" p) [e, e2] [] pos) (iZip m) := PI.imp (RZ.pi_zipA hg hm ha hs hpl) fun σ H R q => tI_zip q
end
end DL

set_option Elab.async false
set_option linter.all false
set_option maxRecDepth 100000
set_option maxHeartbeats 4000000
namespace DL
open PySem PySem.Spec PyProof.Rows L2

theorem takes0 {X : Cx} : Takes X W0 := fun u s' h => by
  obtain ⟨_, _, _, _, _, _, _, _, _, _, _, _, _, _, _, _, z⟩ := h
  exact z.elim

theorem tE_mono {g : Gx} {fx : Fx} {W : WX} {ca ea : Bool} {m : M D} {σ : L2.St} {H : Hp} {Q Q' : VK} (h : tE g fx W ca ea m σ H Q) (k : ∀ v H', Q v H' → Q' v H') : tE g fx W ca ea m σ H Q' := by
  obtain ⟨F, ρ, S, h⟩ := h
  refine ⟨F, ρ, S, ?_⟩
  cases e1 : m ρ with
  | bad => rw [e1] at h; exact h
  | exn c x r => rw [e1] at h; exact h
  | ok d ρ1 =>
    rw [e1] at h
    exact fun v H' F' G S' r => k _ _ (h v H' F' G S' r)
/-! ### isinstance(e, (T1, ..)) -/
section
variable {X : Cx} {fx : Fx} {W : WX} {ca ea : Bool} {e : Expr} {m : M D} {p pos tpos : Pos}
theorem tE_isiT {g : Gx} {σ : L2.St} {H : Hp} {Q : VK} {cs : List V} {us : List Value} {base : List Kd} {tab : List (Str × Bool)} {ta : TA} (k : Paired ClsV cs us) (hta : ∀ σ H Q, Q cs H → ta σ H Q) (hz : cs.length ≤ sizeLine) (T : IsT g.K g.mg us base tab) (h : tE g fx W true ea (e1 (opIs base tab) m) σ H Q) :
    tCB (fun xs H Q => rIsiT g.K xs H Q ∨ rIsXT g.K xs H Q) (tCons (tE g fx W ca ea m) (tCons (tTup ta) tNil)) σ H Q := by
  have h2 := tE_e1 (r := fun x H Q => ∀ t, H t = none → (fun xs H Q => rIsiT g.K xs H Q ∨ rIsXT g.K xs H Q) [x, .ref t] (upd H t (.tup cs)) Q) (ca := ca) (fun F H dx x d Q s rx e G t ht => by
    have G2 := Grow.big s ht (o := .tup cs)
    have rx2 := rx.grow G2
    have fin : ∀ {b : Bool}, Gives g F H (.bl b) Q → Q (.bl b) (upd H t (.tup cs)) := fun {b} G => G _ _ _ G2 (by simp only [Rep])
    cases dx with
    | exc a cn y =>
      dsimp only [opIs] at e
      cases q : tab.lookup cn with
      | none => rw [q] at e; cases e
      | some b =>
        rw [q] at e; cases e
        obtain ⟨C, d, w, rfl, h1, m2, h2, h3, _⟩ := w_exc G2.s rx2
        obtain ⟨C', m1, m3⟩ := T.t _ (lookup_mem q)
        rw [h1] at m1
        cases m1
        exact .inr ⟨a, C, d, _, t, cs, us, b, rfl, h2, h3, m2, upd_same, k, m3, fin G⟩
    | _ =>
      first
        | (cases e; exact .inl ⟨x, t, cs, _, us, _, rfl, upd_same, k, ty_rep G2.s rfl rx2, T.b _, fin G⟩)) h
  exact tE_mono h2 fun x H1 q => hta _ _ _ ⟨hz, fun t ht => q t ht⟩
theorem se_isiT2 {T1 T2 : String} {x1 x2 : Str} {p1 p2 : Pos} {kt : Nat} {base : List Kd} {tab : List (Str × Bool)} (IT : IsT X.K X.mg [.type T1, .type T2] base tab) (h1 : X.mg x1 = none) (v1 : bootBuiltins x1 = some (.type T1)) (h2 : X.mg x2 = none) (v2 : bootBuiltins x2 = some (.type T2))
    (he : SE X fx W ca ea e m) (hm : X.mg "isinstance" = none) (hg : Gl X "isinstance" := by rfl) (g1 : Gl X x1 := by rfl) (g2 : Gl X x2 := by rfl) (n1 : x1 ≠ "__name__" := by decide) (n2 : x2 ≠ "__name__" := by decide) (d1 : (x1 == ("__debug__" : Str)) = false := by decide) (d2 : (x2 == ("__debug__" : Str)) = false := by decide)
    (s1 : starEach [.Name x1 p1, .Name x2 p2] X.env = (false, eval (.Name x1 p1) X.env) :: starEach [.Name x2 p2] X.env := by rfl) (s2 : starEach [.Name x2 p2] X.env = (false, eval (.Name x2 p2) X.env) :: starEach [] X.env := by rfl)
    (s3 : starEach [e, .Tuple [.Name x1 p1, .Name x2 p2] kt tpos] X.env = (false, eval e X.env) :: starEach [.Tuple [.Name x1 p1, .Name x2 p2] kt tpos] X.env := by rfl)
    (s4 : starEach [.Tuple [.Name x1 p1, .Name x2 p2] kt tpos] X.env = (false, eval (.Tuple [.Name x1 p1, .Name x2 p2] kt tpos) X.env) :: starEach [] X.env := by rfl) (hpl : (backTo pos (starEach [.Tuple [.Name x1 p1, .Name x2 p2] kt tpos] X.env)).any (·.1) = false := by rfl) :
    SE X fx W true ea (.Call (.Name "isinstance" p) [e, .Tuple [.Name x1 p1, .Name x2 p2] kt tpos] [] pos) (e1 (opIs base tab) m) :=
  PE.imp (pe_callB (call_isiT.or call_isXT) hg hm PyProof.Rows.Boot.«isinstance» (pa_cons he (pa_cons (pe_tup (pa_cons (pe_bltn (v := V.ty T1) g1 h1 v1 rfl n1 d1) (pa_cons (pe_bltn (v := V.ty T2) g2 h2 v2 rfl n2 d2) pa_nil s2) s1)) pa_nil s4) s3) (by decide) (by decide) s3 hpl) fun σ H Q q =>
    tE_isiT (.cons (.ty T1) (.cons (.ty T2) .nil)) (fun σ H Q q => q) (by rw [sizeLine_eq]; exact Nat.le_of_ble_eq_true rfl) IT q
theorem se_isiT3 {T1 T2 T3 : String} {x1 x2 x3 : Str} {p1 p2 p3 : Pos} {kt : Nat} {base : List Kd} {tab : List (Str × Bool)} (IT : IsT X.K X.mg [.type T1, .type T2, .type T3] base tab) (h1 : X.mg x1 = none) (v1 : bootBuiltins x1 = some (.type T1)) (h2 : X.mg x2 = none) (v2 : bootBuiltins x2 = some (.type T2)) (h3 : X.mg x3 = none) (v3 : bootBuiltins x3 = some (.type T3))
    (he : SE X fx W ca ea e m) (hm : X.mg "isinstance" = none) (hg : Gl X "isinstance" := by rfl) (g1 : Gl X x1 := by rfl) (g2 : Gl X x2 := by rfl) (g3 : Gl X x3 := by rfl) (n1 : x1 ≠ "__name__" := by decide) (n2 : x2 ≠ "__name__" := by decide) (n3 : x3 ≠ "__name__" := by decide)
    (d1 : (x1 == ("__debug__" : Str)) = false := by decide) (d2 : (x2 == ("__debug__" : Str)) = false := by decide) (d3 : (x3 == ("__debug__" : Str)) = false := by decide)
    (s1 : starEach [.Name x1 p1, .Name x2 p2, .Name x3 p3] X.env = (false, eval (.Name x1 p1) X.env) :: starEach [.Name x2 p2, .Name x3 p3] X.env := by rfl) (s2 : starEach [.Name x2 p2, .Name x3 p3] X.env = (false, eval (.Name x2 p2) X.env) :: starEach [.Name x3 p3] X.env := by rfl) (s5 : starEach [.Name x3 p3] X.env = (false, eval (.Name x3 p3) X.env) :: starEach [] X.env := by rfl)
    (s3 : starEach [e, .Tuple [.Name x1 p1, .Name x2 p2, .Name x3 p3] kt tpos] X.env = (false, eval e X.env) :: starEach [.Tuple [.Name x1 p1, .Name x2 p2, .Name x3 p3] kt tpos] X.env := by rfl)
    (s4 : starEach [.Tuple [.Name x1 p1, .Name x2 p2, .Name x3 p3] kt tpos] X.env = (false, eval (.Tuple [.Name x1 p1, .Name x2 p2, .Name x3 p3] kt tpos) X.env) :: starEach [] X.env := by rfl) (hpl : (backTo pos (starEach [.Tuple [.Name x1 p1, .Name x2 p2, .Name x3 p3] kt tpos] X.env)).any (·.1) = false := by rfl) :
    SE X fx W true ea (.Call (.Name "isinstance" p) [e, .Tuple [.Name x1 p1, .Name x2 p2, .Name x3 p3] kt tpos] [] pos) (e1 (opIs base tab) m) :=
  PE.imp (pe_callB (call_isiT.or call_isXT) hg hm PyProof.Rows.Boot.«isinstance» (pa_cons he (pa_cons (pe_tup (pa_cons (pe_bltn (v := V.ty T1) g1 h1 v1 rfl n1 d1) (pa_cons (pe_bltn (v := V.ty T2) g2 h2 v2 rfl n2 d2) (pa_cons (pe_bltn (v := V.ty T3) g3 h3 v3 rfl n3 d3) pa_nil s5) s2) s1)) pa_nil s4) s3) (by decide) (by decide) s3 hpl) fun σ H Q q =>
    tE_isiT (.cons (.ty T1) (.cons (.ty T2) (.cons (.ty T3) .nil))) (fun σ H Q q => q) (by rw [sizeLine_eq]; exact Nat.le_of_ble_eq_true rfl) IT q
end

/-! ### which kinds the classes of the language take -/
theorem kitAny_one {K : PySem.W.Frag} {t u : Value} {b : Bool} (h : PySem.W.kitOne K t u = some b) : PySem.W.kitAny K t [u] = some b := by
  unfold PySem.W.kitAny
  rw [h]
  cases b <;> rfl
theorem kitAny_two {K : PySem.W.Frag} {t u : Value} {us : List Value} {b c : Bool} (h : PySem.W.kitOne K t u = some b) (k : PySem.W.kitAny K t us = some c) : PySem.W.kitAny K t (u :: us) = some (b || c) := by
  unfold PySem.W.kitAny
  rw [h]
  cases b
  · exact k
  · rfl
/-- the kinds of a built-in class -/
def kdsOf : String → List Kd
  | "str" => [.str] | "int" => [.int, .bl] | "bool" => [.bl] | "list" => [.lst] | "tuple" => [.tup] | "dict" => [.dic]
  | _ => []
theorem kit_kd {K : PySem.W.Frag} {T : String} (hT : T = "str" ∨ T = "int" ∨ T = "bool" ∨ T = "list" ∨ T = "tuple" ∨ T = "dict") (k : Kd) : PySem.W.kitOne K (.type k.nm) (.type T) = some ((kdsOf T).contains k) := by
  rcases hT with rfl | rfl | rfl | rfl | rfl | rfl <;> cases k <;> exact kit_ty (by decide +kernel)
end DL

set_option Elab.async false
set_option linter.all false
set_option maxRecDepth 100000
set_option maxHeartbeats 4000000
namespace DL
open PySem PySem.Spec PyProof.Rows L2

/-! ### what a printed walk leans on -/
def blkB (N : List Str) (sc scope : Scope) (own : List (Str × Nat)) : Bool :=
  decide (scope.kind = .function) && (scope.names.all fun y => decide (scope.names.lookup y.1 = some y.2)) && (own.all fun p => decide (N[p.2]? = some p.1)) &&
  (scope.names.all fun y => !decide (y.2 = .free) || decide (sc.names.lookup y.1 = some .cell) || decide (sc.names.lookup y.1 = some .free)) &&
  (scope.names.all fun y => !(decide (y.2 = .local) || decide (y.2 = .cell)) || decide (y.1 ∈ own.map (·.1)) || !decide (y.1 ∈ N))
theorem blkB_ok {N : List Str} {sc scope : Scope} {own : List (Str × Nat)} (h : blkB N sc scope own = true) : BlkOk N sc scope own := by
  unfold blkB at h
  simp only [Bool.and_eq_true, List.all_eq_true, decide_eq_true_eq, Bool.or_eq_true, Bool.not_eq_true', decide_eq_false_iff_not] at h
  obtain ⟨⟨⟨⟨h1, h2⟩, h3⟩, h4⟩, h5⟩ := h
  exact ⟨h1, h2, h3, fun y hy e => by
    rcases h4 y hy with (z | z) | z
    · exact absurd e z
    · exact .inl z
    · exact .inr z, fun y hy e => by
    rcases h5 y hy with (z | z) | z
    · simp at z
      rcases e with e | e
      · exact absurd e z.1
      · exact absurd e z.2
    · exact .inl z
    · exact .inr z⟩
section
variable {X : Cx} {fx : Fx} {W : WX} {ca ea : Bool} {e : Expr} {m : M D} {p p2 pos : Pos} {x : Str}
theorem se_globE {d : D} (h : ∃ v u, X.mg x = some u ∧ RelV v u ∧ ∀ F, Rep ⟨X.K, X.mg⟩ F d v) (hg : Gl X x := by rfl) (hd : (x == ("__debug__" : Str)) = false := by decide) : SE X fx W true false (.Name x pos) (eC d) := by
  obtain ⟨v, u, hm, r, hr⟩ := h
  exact se_glob hm r hr hg hd
theorem se_isiOE {base : List Kd} {tab : List (Str × Bool)} (h : ∃ C, X.mg x = some (.ref C) ∧ IsT X.K X.mg [.ref C] base tab) (he : SE X fx W ca ea e m) (hm : X.mg "isinstance" = none) (hg : Gl X "isinstance" := by rfl) (hgT : Gl X x := by rfl)
    (hdb : (x == ("__debug__" : Str)) = false := by decide)
    (h1 : starEach [e, .Name x p2] X.env = (false, eval e X.env) :: starEach [.Name x p2] X.env := by rfl) (h2 : starEach [.Name x p2] X.env = (false, eval (.Name x p2) X.env) :: starEach [] X.env := by rfl) (hpl : (backTo pos (starEach [.Name x p2] X.env)).any (·.1) = false := by rfl) :
    SE X fx W true ea (.Call (.Name "isinstance" p) [e, .Name x p2] [] pos) (e1 (opIs base tab) m) := by
  obtain ⟨C, hmT, IT⟩ := h
  exact se_isiO IT hmT he hm hg hgT hdb h1 h2 hpl
theorem ss_tryKE (i j : Nat) {c n : Str} {tab : List (Str × Bool)} {body : List Stmt} {mb : MS} {np pos' p1 p3 : Pos} (h : ∃ C, X.mg c = some (.ref C) ∧ CatT X.K X.mg (.ref C) tab) (hx0 : X.ex = []) (hs : X.stack = X.env :: X.outer) (hf : X.env.frame = some X.env.locals) (hN : X.N.Nodup) (tk : Takes X W)
    (hb : ∀ (W' : WX) (pn : List (Addr × Obj)) (xe : Value → Shared → Prop), Takes (X.tr pn xe) W' → PassesOwn (model X.prog X.w) X.A X.env xe → SSs (X.tr pn xe) fx W' body mb)
    (hg : Gl X c := by rfl) (hdb : (c == ("__debug__" : Str)) = false := by decide)
    (hi : X.N[i]? = some n := by rfl) (hj : X.N[j]? = some x := by rfl) (hij : i ≠ j := by decide) (oi : fx.ow.contains i = false := by rfl) (oj : fx.ow.contains j = false := by rfl)
    (hln : X.env.scope.names.lookup n = some .local := by rfl) (hlx : X.env.scope.names.lookup x = some .local := by rfl) (hkn : X.env.kindOf n = some .local := by rfl)
    (hsw : swapsWith (.Name n p2) (some (.Name x p1)) p3.line X.env = pure false := by rfl) (hd : (n == ("__debug__" : Str)) = false := by decide) (hcd : (n == ("__classdict__" : Str)) = false := by decide) :
    SS X fx W (.Try body [.ExceptHandler (some (.Name c np)) (some n) [.Assign [.Name x p1] (.Name n p2) p3] pos'] [] [] pos) (sTryK tab i j mb) := by
  obtain ⟨C, hm, T⟩ := h
  exact ss_tryK i j T ⟨hg, hdb, .inl hm⟩ hx0 hs hf hN tk hb hi hj hij oi oj hln hlx hkn hsw hd hcd
end
theorem permL_len {α : Type} {xs : List α} : ∀ {is : List Nat}, (is.all fun i => decide (i < xs.length)) = true → (permL is xs).length = is.length
  | [], _ => rfl
  | i :: is, h => by
    rw [List.all_cons, Bool.and_eq_true] at h
    have hi : i < xs.length := of_decide_eq_true h.1
    have ih := permL_len h.2
    unfold permL at ih ⊢
    rw [List.filterMap_cons, List.getElem?_eq_getElem hi]
    simp [ih]
theorem perm_len {m : M (List D)} {k n : Nat} {is : List Nat} (hk : ∀ ρ ds ρ', m ρ = .ok ds ρ' → ds.length = k) (h : (is.all fun i => decide (i < k)) = true) (hn : is.length = n) : ∀ ρ ds ρ', m ρ = .ok ds ρ' → (permL is ds).length = n := fun ρ ds ρ' e => by
  rw [permL_len (by rw [hk _ _ _ e]; exact h), hn]
section
variable {P : Program} {w : World} {K : PySem.W.Frag} {mg : Str → Option Value} {base : Heap} {x : Str} {st : Stmt} {mask : List Nat} {rk : Rk} {n k : Nat} {fn : Fn} {ps : List Str}
def Fw (P : Program) (w : World) (K : PySem.W.Frag) (mg : Str → Option Value) (base : Heap) (x : Str) (st : Stmt) (ps : List Str) (mask : List Nat) (rk : Rk) (n k : Nat) (fn : Fn) : Prop :=
  ∃ f fd, DF K x x st f fd ∧ FnOk P w K mg base (L2.CX P w) k f fd ps (spOf ⟨K, mg⟩ mask rk n fn) ∧ mg x = some (.ref f)
theorem fd_of (h : Fw P w K mg base x st ps mask rk n k fn) (hd : (defArgs st).defaults = [])
    (hb : ∀ (kV doc pm : Value) (an : Option Addr) (cdv ct : Value) (us : List Value), us.length = ps.length → bindArgs (PySem.W.fnOf x x (defArgs st) (defBody st) (defScope st) .none kV doc pm an cdv ct) ⟨us, []⟩ = pure (ps.zip us)) : Fd P w K mg base x mask rk n k fn := by
  obtain ⟨f, fd, F, G, hm⟩ := h
  exact ⟨f, fd, ps, G, hm, F.kp, F.binds hd hb⟩
theorem fk_of {ks : List Str} {is : List Nat} (h : Fw P w K mg base x st ps [] .cl n k fn) (hd : (defArgs st).defaults = [])
    (hb : ∀ (kV doc pm : Value) (an : Option Addr) (cdv ct : Value) (us ws : List Value), (permK is us ws).length = ps.length → bindArgs (PySem.W.fnOf x x (defArgs st) (defBody st) (defScope st) .none kV doc pm an cdv ct) ⟨us, ks.zip ws⟩ = pure (ps.zip (permK is us ws))) : Fk P w K mg base x ks is n k fn := by
  obtain ⟨f, fd, F, G, hm⟩ := h
  exact ⟨f, fd, ps, G, hm, F.kp, F.kbinds hd hb perm_vals⟩
end
/-! ### a, b, c = e1, e2, e3 -/
def sPar3 (i j l : Nat) (m : M (List D)) : MS := sDo m fun ds ρ => match ds with
  | [a, b, c] => .nx (((ρ.set i (.cl a)).set j (.cl b)).set l (.cl c))
  | _ => .bad
section
variable {g : Gx} {fx : Fx} {W : WX} {σ : L2.St} {H : Hp} {E : Ends} {ea : Bool}
theorem tS_par3 {i j l : Nat} {m : M (List D)} (hi : fx.ow.contains i = false) (hj : fx.ow.contains j = false) (hl : fx.ow.contains l = false) (h : tS g fx W (sPar3 i j l m) E σ H) : tPar3 i j l (tA g fx W true ea m) E σ H := by
  obtain ⟨F, ρ, S, h⟩ := h
  refine ⟨F, ρ, S, ?_⟩
  unfold sPar3 sDo at h
  cases e : m ρ with
  | bad => rw [e] at h; exact h
  | exn c x r =>
    rw [e] at h
    exact xgs h
  | ok ds ρ1 =>
    rw [e] at h
    intro vs H1 F1 G1 S1 r1
    match ds, h, r1 with
    | [a, b, c], h, r1 =>
      obtain ⟨v, r, rfl, ra, w, r', rfl, rb, u, r'', rfl, rc, rfl⟩ := r1
      refine ⟨v, w, u, rfl, h _ H1 F1 (((G1.gs.trans gs_set).trans gs_set).trans gs_set) (((S1.set hi ra).set hj rb).set hl rc)⟩
    | [], h, r1 => exact h.elim
    | [_], h, r1 => exact h.elim
    | [_, _], h, r1 => exact h.elim
    | _ :: _ :: _ :: _ :: _, h, r1 => exact h.elim
end
section
variable {X : Cx} {fx : Fx} {W : WX} {ea : Bool} {ml : M (List D)} {pos : Pos} {a b c : Expr}
theorem ss_par3 (i j l : Nat) {x y z : Str} {px py pz pt pt2 : Pos} {kt k2 : Nat} (hc : X.calm = true) (hN : X.N.Nodup) (ha : SA X fx W true ea [a, b, c] ml) (hi : X.N[i]? = some x := by rfl) (hj : X.N[j]? = some y := by rfl) (hl : X.N[l]? = some z := by rfl) (hij : i ≠ j := by decide) (hil : i ≠ l := by decide) (hjl : j ≠ l := by decide)
    (oi : fx.ow.contains i = false := by rfl) (oj : fx.ow.contains j = false := by rfl) (ol : fx.ow.contains l = false := by rfl)
    (hx : X.env.scope.names.lookup x = some .local := by rfl) (hy : X.env.scope.names.lookup y = some .local := by rfl) (hz : X.env.scope.names.lookup z = some .local := by rfl)
    (hw : swappedStores [.Tuple [.Name x px, .Name y py, .Name z pz] kt pt] (.Tuple [a, b, c] k2 pt2) X.env = pure (some [x, y, z]) := by rfl)
    (hs : swapsWithSole [.Tuple [.Name x px, .Name y py, .Name z pz] kt pt] (.Tuple [a, b, c] k2 pt2) pos.line X.env = pure false := by rfl) :
    SS X fx W (.Assign [.Tuple [.Name x px, .Name y py, .Name z pz] kt pt] (.Tuple [a, b, c] k2 pt2) pos) (sPar3 i j l ml) := PS.imp (ps_par3 hc hN hi hj hl hij hil hjl hx hy hz ha hw hs) fun E σ H q => tS_par3 oi oj ol q
end
end DL

set_option Elab.async false
set_option linter.all false
set_option maxRecDepth 100000
set_option maxHeartbeats 4000000
namespace DL
open PySem PySem.Spec PyProof.Rows L2

/-! ### lists of own lists -/
/-- the lists made so far, D the list they go to -/
def PL (g : Gx) (F H H1 : Hp) (D : Addr) (ds : List DL.D) (vs : List V) : Prop := OwnL g F H H1 ds vs ∧ vs.Nodup ∧ V.ref D ∉ vs
section
variable {g : Gx} {F H F' H' H1 : Hp} {D : Addr} {ds : List DL.D} {vs : List V}
theorem PL.nil : PL g F H H1 D [] [] := ⟨⟨rfl, fun i d h => by simp at h⟩, List.nodup_nil, by simp⟩
theorem PL.grow (h : PL g F H H1 D ds vs) (G : Grow F H F' H') : PL g F' H' H1 D ds vs :=
  ⟨h.1.move G.f (fun a _ _ hF ho => by
    obtain ⟨o, ho⟩ := ho
    refine ⟨(G.h a o ho).trans ho.symm, ?_⟩
    cases z : F' a with
    | none => rfl
    | some u =>
      rcases G.n a u z with q | q
      · rw [hF] at q; cases q
      · rw [ho] at q; cases q), h.2.1, h.2.2⟩
theorem OwnL.at (h : OwnL g F H H1 ds vs) {a : Addr} (m : V.ref a ∈ vs) : ∃ o, H a = some o := by
  obtain ⟨i, hi, e⟩ := List.getElem_of_mem m
  have hd : i < ds.length := by rw [← h.1]; exact hi
  obtain ⟨b, e1, _, _, o⟩ := h.2 i ds[i] (List.getElem?_eq_getElem hd)
  rw [List.getElem?_eq_getElem hi, e] at e1
  cases e1
  exact o.there
theorem PL.at (h : PL g F H H1 D ds vs) {a : Addr} (m : V.ref a ∈ vs) : ∃ o, H a = some o := h.1.at m
theorem PL.snoc {a : Addr} {d : DL.D} (h : PL g F H H1 D ds vs) (h1 : H1 a = none) (fa : F a = none) (o : Own g F H a d) (na : V.ref a ∉ vs) (ne : a ≠ D) : PL g F H H1 D (ds ++ [d]) (vs ++ [.ref a]) := by
  refine ⟨⟨by rw [List.length_append, List.length_append, h.1.1]; rfl, fun i e hi => ?_⟩, ?_, fun z => ?_⟩
  · by_cases c : i < ds.length
    · rw [List.getElem?_append_left c] at hi
      obtain ⟨b, e1, r⟩ := h.1.2 i e hi
      exact ⟨b, by rw [List.getElem?_append_left (by rw [h.1.1]; exact c)]; exact e1, r⟩
    · rw [List.getElem?_append_right (by omega)] at hi
      have c0 : i - ds.length = 0 := by
        cases q : i - ds.length with
        | zero => rfl
        | succ n => rw [q] at hi; cases hi
      rw [c0] at hi
      cases hi
      exact ⟨a, by rw [List.getElem?_append_right (by rw [h.1.1]; omega), h.1.1, c0]; rfl, fa, h1, o⟩
  · rw [List.nodup_append]
    refine ⟨h.2.1, by simp, fun x hx y hy => ?_⟩
    have : y = .ref a := by simpa using hy
    subst this
    exact fun z => na (z ▸ hx)
  · rcases List.mem_append.mp z with z | z
    · exact h.2.2 z
    · have : V.ref D = V.ref a := by simpa using z
      cases this
      exact ne rfl
theorem PL.side {o : HO} (h : PL g F H H1 D ds vs) : PL g F (upd H D o) H1 D ds vs :=
  ⟨h.1.move (Sub.refl _) fun a m _ hF _ => ⟨upd_ne fun z => h.2.2 (z ▸ m), hF⟩, h.2.1, h.2.2⟩
end
/-- a new list or dict -/
def tN (g : Gx) (fx : Fx) (W : WX) (eff : Bool) (m : M D) : TE := fun σ H Q => ∃ F ρ, ST g fx σ H F ρ ∧ match m ρ with
  | .ok d ρ' => ∀ a H' F', Go eff σ F H ρ F' H' ρ' → ST g fx σ H' F' ρ' → F' a = none → Own g F' H' a d → H a = none → Q (.ref a) H'
  | .exn c x ρ' => ∀ cls dd H' F', Go true σ F H ρ F' H' ρ' → ST g fx σ H' F' ρ' → XR g F' c x cls dd → W cls dd σ H'
  | .bad => False
/-- a new list of new lists -/
def tQ (g : Gx) (fx : Fx) (W : WX) (eff : Bool) (m : M D) : TE := fun σ H Q => ∃ F ρ, ST g fx σ H F ρ ∧ match m ρ with
  | .ok d ρ' => ∀ v H' F', Go eff σ F H ρ F' H' ρ' → ST g fx σ H' F' ρ' → Pool g F' H' H v d → Q v H'
  | .exn c x ρ' => ∀ cls dd H' F', Go true σ F H ρ F' H' ρ' → ST g fx σ H' F' ρ' → XR g F' c x cls dd → W cls dd σ H'
  | .bad => False
section
variable {g : Gx} {fx : Fx} {W : WX} {σ : L2.St} {H : Hp} {Q : VK} {ei ec ee ea : Bool} {vs is : List Nat} {t : D → Rho → R Rho} {c : M Bool} {e : M D} {mi : M (List D)} {E : Ends}
theorem lcp_turns {ρ1 : Rho} {F1 H1 : Hp} {ds : List D} {J : It} {D : Addr} (hv : vs.all (fun j => !fx.ow.contains j) = true) (hs : is.all (fun j => vs.contains j) = true) (S1 : ST g fx σ H1 F1 ρ1) (R1 : ItRep g J ds F1) (hD : H1 D = none) {xs0 : List DL.D} {ρ0 : Rho} (e0 : lcLoop vs t c e ds (wipeR ρ1 vs) = .ok xs0 ρ0) {Qd : Hp → Prop}
    (hE : ∀ Hc Fc accV, ST g fx (wipe σ vs) Hc Fc ρ0 → Go (ec || ee) (wipe σ vs) F1 H1 (wipeR ρ1 vs) Fc Hc ρ0 → Hc D = some (.lst accV) → PL g Fc Hc H1 D xs0 accV → Fc D = none → Qd Hc) :
    ∃ W : Nat → Nat → Hp → Prop, (∃ m, W 0 m (upd H1 D (.lst []))) ∧ ∀ i m H, W i m H →
      (J.stop i H ∧ Qd H) ∨ (J.go i H ∧ ∃ Nx : Hp → Prop, (∀ H', Nx H' → ∃ m', m' < m ∧ W (i + 1) m' H') ∧ ∀ x H', J.yld i H x H' → tG g fx is t x (wipe σ vs) H' fun σ2 H2 => wipe σ2 vs = wipe σ vs ∧ tB g fx W0 ec c σ2 H2 fun b H3 =>
        if b = true then tN g fx W0 ee e σ2 H3 fun y H4 => ∃ acc, H4 D = some (.lst acc) ∧ acc.length < sizeLine ∧ Nx (upd H4 D (.lst (acc ++ [y]))) else Nx H3) := by
  -- the end, whatever the turns give
  have S1w : ST g fx (wipe σ vs) H1 F1 (wipeR ρ1 vs) := S1.wipe hv
  have hD0 : fx.H0 D = none := S1.fresh hD
  have hDF : F1 D = none := by
    cases z : F1 D with
    | none => rfl
    | some u => rw [S1.s D u z] at hD; cases hD
  have nX : ∀ {x : Addr} {ρc : Rho} {Fc Hc : Hp}, H1 x = none → Go (ec || ee) (wipe σ vs) F1 H1 (wipeR ρ1 vs) Fc Hc ρc → ∀ (i : Nat) d, ρc[i]? = some (.ow d) → (wipe σ vs)[i]? ≠ some (some (.ref x)) := fun {x ρc Fc Hc} hx G i d hi hs => by
    obtain ⟨d', hi'⟩ := G.o i d hi
    obtain ⟨a, ea, _, o, _⟩ := S1w.ow i d' hi'
    rw [hs] at ea
    cases ea
    obtain ⟨u, hu⟩ := o.there
    rw [hx] at hu; cases hu
  have nD : ∀ {ρc : Rho} {Fc Hc : Hp}, Go (ec || ee) (wipe σ vs) F1 H1 (wipeR ρ1 vs) Fc Hc ρc → ∀ (i : Nat) d, ρc[i]? = some (.ow d) → (wipe σ vs)[i]? ≠ some (some (.ref D)) := fun {ρc Fc Hc} => nX hD
  let Pv : Nat → Hp → Prop := fun i Hc => i ≤ ds.length ∧ ∃ Fc ρc acc accV, ST g fx (wipe σ vs) Hc Fc ρc ∧ Go (ec || ee) (wipe σ vs) F1 H1 (wipeR ρ1 vs) Fc Hc ρc ∧ Hc D = some (.lst accV) ∧ PL g Fc Hc H1 D acc accV ∧ Fc D = none ∧ acc.length ≤ i ∧
    match lcLoop vs t c e (ds.drop i) ρc with
      | .ok xs ρ' => acc ++ xs = xs0 ∧ ρ' = ρ0
      | _ => False
  refine ⟨fun i m Hc => m = ds.length - i ∧ Pv i Hc, ⟨ds.length, by simp, Nat.zero_le _, F1, wipeR ρ1 vs, [], [], ?_, ?_, upd_same, PL.nil, hDF, Nat.le_refl _, ?_⟩, ?_⟩
  · exact S1w.grow (Grow.big S1w.s hD)
  · exact Go.of (Grow.big S1w.s hD)
  · rw [List.drop_zero, e0]
    exact ⟨rfl, rfl⟩
  · rintro i m Hc ⟨rfl, hi, Fc, ρc, acc, accV, Sc, Gc, hDc, rc, hFD, hacc, hq⟩
    by_cases hlt : i < ds.length
    · right
      have f1c : Sub F1 Fc := Gc.f
      refine ⟨R1.go i Hc Fc f1c Sc.s hlt, Pv (i + 1), fun H' p => ⟨ds.length - (i + 1), by omega, rfl, p⟩, fun x H' y => ?_⟩
      obtain ⟨F', G', r'⟩ := R1.yld i Hc Fc x H' ds[i] f1c Sc.s (List.getElem?_eq_getElem hlt) y
      have S' := Sc.grow G'
      have ed : ds.drop i = ds[i] :: ds.drop (i + 1) := List.drop_eq_getElem_cons hlt
      rw [ed] at hq
      dsimp only [lcLoop] at hq
      refine ⟨F', ρc, ds[i], S', r', ?_⟩
      cases et : t ds[i] ρc with
      | bad => rw [et] at hq; exact hq
      | ok ρ2 =>
        rw [et] at hq
        dsimp only at hq
        intro σ2 S2 T2 N2 U2
        refine ⟨wipe_touch T2 hs, F', ρ2, S2, ?_⟩
        -- facts that go along
        have Gx : Go (ec || ee) (wipe σ vs) F1 H1 (wipeR ρ1 vs) F' H' ρc := by
          have q := Gc.trans (Go.of (eff := false) (ρ := ρc) G')
          rwa [Bool.or_false] at q
        have hD' : H' D = some (.lst accV) := G'.h D _ hDc
        have hFD' : F' D = none := by
          cases z : F' D with
          | none => rfl
          | some u =>
            rcases G'.n D u z with q | q
            · rw [hFD] at q; cases q
            · rw [hDc] at q; cases q
        have rc' := rc.grow G'
        -- from the block's slots to the slots at hand
        have inv : ∀ {ρ3 : Rho} (j : Nat) d, ρ3[j]? = some (.ow d) → (∃ d', ρ2[j]? = some (.ow d')) → j ∉ vs ∧ ρc[j]? = ρc[j]? := fun j d _ ⟨d', h2⟩ => by
          have h3 := N2 j d' h2
          obtain ⟨d2, h4⟩ := Gc.o j d' h3
          refine ⟨fun q => ?_, rfl⟩
          rw [over_get, if_pos q] at h4
          cases z : ρ1[j]? with
          | none => rw [z] at h4; cases h4
          | some y => rw [z] at h4; cases h4
        have own2 : ∀ (j : Nat) d, ρ2[j]? = some (.ow d) → j ∉ vs ∧ σ2[j]? = (wipe σ vs)[j]? := fun j d h2 => by
          obtain ⟨n, _⟩ := inv (ρ3 := ρ2) j d h2 ⟨d, h2⟩
          exact ⟨n, T2.2 j fun z => n (by simpa using List.all_eq_true.mp hs j z)⟩
        have step : ∀ {ef : Bool} {ρ3 : Rho} {F3 H3 : Hp}, (!ef || (ec || ee)) = true → Go ef σ2 F' H' ρ2 F3 H3 ρ3 → ST g fx σ2 H3 F3 ρ3 →
            ST g fx (wipe σ vs) H3 F3 (wipeR ρ3 vs) ∧ Go (ec || ee) (wipe σ vs) F1 H1 (wipeR ρ1 vs) F3 H3 (wipeR ρ3 vs) ∧ H3 D = some (.lst accV) ∧ F3 D = none := fun {ef ρ3 F3 H3} hle G3 S3 => by
          have Sw := S3.wipe hv
          rw [wipe_touch T2 hs] at Sw
          have ow3 : ∀ (j : Nat) d, (wipeR ρ3 vs)[j]? = some (.ow d) → j ∉ vs ∧ ρ3[j]? = some (.ow d) := fun j d hj => by
            rw [over_get] at hj
            by_cases q : j ∈ vs
            · rw [if_pos q] at hj
              cases z : ρ3[j]? with
              | none => rw [z] at hj; cases hj
              | some y => rw [z] at hj; cases hj
            · rw [if_neg q] at hj
              exact ⟨q, hj⟩
          have kD : ∀ (j : Nat) d, ρ2[j]? = some (.ow d) → σ2[j]? ≠ some (some (.ref D)) := fun j d h2 hs2 => by
            obtain ⟨n, es⟩ := own2 j d h2
            rw [es] at hs2
            exact nD Gx j d (N2 j d h2) hs2
          refine ⟨Sw, ⟨Gx.f.trans G3.f, fun a o ha => ?_, fun j d hj => ?_, fun a o ha hn => ?_, fun e0 => ?_, fun a o ha => ?_⟩, G3.k D _ hD' kD, ?_⟩
          · rcases G3.n a o ha with q | q | ⟨j, d, h2, hs2⟩
            · exact Gx.n a o q
            · refine .inr (.inl ?_)
              cases z : H1 a with
              | none => rfl
              | some u =>
                obtain ⟨w, hw⟩ := Gx.d a u z
                rw [hw] at q; cases q
            · obtain ⟨n, es⟩ := own2 j d h2
              rw [es] at hs2
              obtain ⟨d3, h3⟩ := Gc.o j d (N2 j d h2)
              exact .inr (.inr ⟨j, d3, h3, hs2⟩)
          · obtain ⟨_, h3⟩ := ow3 j d hj
            obtain ⟨d2, h2⟩ := G3.o j d h3
            exact Gc.o j d2 (N2 j d2 h2)
          · refine G3.k a o (Gx.k a o ha hn) fun j d h2 hs2 => ?_
            obtain ⟨n, es⟩ := own2 j d h2
            rw [es] at hs2
            obtain ⟨d3, h3⟩ := Gc.o j d (N2 j d h2)
            exact hn j d3 h3 hs2
          · have e3 : ef = false := by
              cases ef with
              | false => rfl
              | true => rw [e0] at hle; cases hle
            obtain ⟨gr, er⟩ := G3.g e3
            obtain ⟨gr1, er1⟩ := Gx.g e0
            refine ⟨gr1.trans gr, ?_⟩
            rw [er]
            -- the target's slots are the block's own
            refine List.ext_getElem? fun j => ?_
            rw [over_get, over_get]
            by_cases q : j ∈ vs
            · rw [if_pos q, if_pos q]
              have l2 : ρ2.length = ρ1.length := by rw [← S2.len, T2.1, wipe_over, over_len, S1.len]
              cases z : ρ2[j]? with
              | none =>
                have : ρ1[j]? = none := List.getElem?_eq_none (by rw [← l2]; exact List.getElem?_eq_none_iff.mp z)
                rw [this]
              | some y =>
                have hj : j < ρ1.length := by rw [← l2]; exact (List.getElem?_eq_some_iff.mp z).1
                rw [List.getElem?_eq_getElem hj]
                rfl
            · rw [if_neg q, if_neg q]
              rw [U2.2 j fun z => q (by simpa using List.all_eq_true.mp hs j z), er1, over_get, if_neg q]
          · obtain ⟨w, hw⟩ := Gx.d a o ha
            exact G3.d a w hw
          · cases z : F3 D with
            | none => rfl
            | some u =>
              rcases G3.n D u z with q | q | ⟨j, d, h2, hs2⟩
              · rw [hFD'] at q; cases q
              · rw [hD'] at q; cases q
              · exact absurd hs2 (kD j d h2)
        have keepP : ∀ {ef : Bool} {ρ3 : Rho} {F3 H3 : Hp}, Go ef σ2 F' H' ρ2 F3 H3 ρ3 → PL g F3 H3 H1 D acc accV := fun {ef ρ3 F3 H3} G3 => by
          refine ⟨rc'.1.move G3.f fun a ha h1 hF ho => ?_, rc'.2.1, rc'.2.2⟩
          obtain ⟨o, ho⟩ := ho
          have kX : ∀ (j : Nat) d, ρ2[j]? = some (.ow d) → σ2[j]? ≠ some (some (.ref a)) := fun j d h2 hs2 => by
            obtain ⟨n, es⟩ := own2 j d h2
            rw [es] at hs2
            exact nX h1 Gx j d (N2 j d h2) hs2
          refine ⟨(G3.k a o ho kX).trans ho.symm, ?_⟩
          cases z : F3 a with
          | none => rfl
          | some u =>
            rcases G3.n a u z with q | q | ⟨j, d, h2, hs2⟩
            · rw [hF] at q; cases q
            · rw [ho] at q; cases q
            · exact absurd hs2 (kX j d h2)
        cases ecc : c ρ2 with
        | bad => rw [ecc] at hq; exact hq
        | exn _ _ _ => rw [ecc] at hq; exact hq.elim
        | ok b ρ3 =>
          rw [ecc] at hq
          intro H3 F3 G3 S3
          cases b with
          | false =>
            rw [if_neg (by decide)]
            obtain ⟨Sw, Gw, hDw, hFw⟩ := step le_l G3 S3
            exact ⟨hlt, F3, wipeR ρ3 vs, acc, accV, Sw, Gw, hDw, keepP G3, hFw, by omega, hq⟩
          | true =>
            rw [if_pos rfl]
            dsimp only at hq
            refine ⟨F3, ρ3, S3, ?_⟩
            cases eee : e ρ3 with
            | bad => rw [eee] at hq; exact hq
            | exn _ _ _ => rw [eee] at hq; exact hq.elim
            | ok xd ρ4 =>
              rw [eee] at hq
              dsimp only at hq
              intro xa H4 F4 G4 S4 fa oa ha3
              have xv : V := .ref xa
              obtain ⟨Sw, Gw, hDw, hFw⟩ := step (by cases ec <;> cases ee <;> rfl) (G3.trans G4) S4
              have P3 := keepP G3
              have P4 := keepP (G3.trans G4)
              have h1a : H1 xa = none := by
                cases z : H1 xa with
                | none => rfl
                | some u =>
                  obtain ⟨w, hw⟩ := Gx.d xa u z
                  obtain ⟨w2, hw2⟩ := G3.d xa w hw
                  rw [ha3] at hw2; cases hw2
              have na : V.ref xa ∉ accV := fun z => by
                obtain ⟨w, hw⟩ := P3.at z
                rw [ha3] at hw; cases hw
              have neD : xa ≠ D := fun z => by
                obtain ⟨w, hw⟩ := G3.d D _ hD'
                rw [z, hw] at ha3; cases ha3
              refine ⟨accV, hDw, by rw [rc.1.1, sizeLine_eq]; have := R1.len; omega, hlt, F4, wipeR ρ4 vs, acc ++ [xd], accV ++ [.ref xa], Sw.side hFw hD0 (nD Gw), ?_, upd_same, (P4.snoc h1a fa oa na neD).side, hFw, by rw [List.length_append, List.length_singleton]; omega, ?_⟩
              · refine ⟨Gw.f, Gw.n, Gw.o, fun a o ha hn => ?_, fun e0 => ?_, fun a o ha => ?_⟩
                · rw [upd_ne (ne_of_none ha hD)]
                  exact Gw.k a o ha hn
                · obtain ⟨gr, er⟩ := Gw.g e0
                  refine ⟨⟨gr.f, fun a o ha => ?_, fun a o ha => ?_, gr.n⟩, er⟩
                  · rw [upd_ne (ne_of_none ha hD)]
                    exact gr.h a o ha
                  · rw [upd_ne (ne_of_none ha hFw)]
                    exact gr.s a o ha
                · by_cases z : a = D
                  · subst z; exact ⟨_, upd_same⟩
                  · rw [upd_ne z]
                    exact Gw.d a o ha
              · cases el : lcLoop vs t c e (ds.drop (i + 1)) (wipeR ρ4 vs) with
                | bad => rw [el] at hq; exact hq
                | exn _ _ _ => rw [el] at hq; exact hq
                | ok xs ρ5 =>
                  rw [el] at hq
                  dsimp only at hq ⊢
                  rw [List.append_assoc]
                  exact hq
    · left
      have ei : i = ds.length := by omega
      subst ei
      refine ⟨R1.stop _ Hc Fc Gc.f Sc.s (Nat.le_refl _), ?_⟩
      rw [List.drop_length] at hq
      dsimp only [lcLoop] at hq
      rw [List.append_nil] at hq
      obtain ⟨q1, q2⟩ := hq
      subst q1
      subst q2
      exact hE Hc Fc accV Sc Gc hDc rc hFD
theorem tQ_lc (hv : vs.all (fun j => !fx.ow.contains j) = true) (hs : is.all (fun j => vs.contains j) = true) (h : tQ g fx W (ei || (ec || ee)) (eLC vs t c e mi) σ H Q) :
    tLc (tI g fx W ei mi) (tG g fx is t) (tB g fx W0 ec c) (tN g fx W0 ee e) vs σ H Q := by
  obtain ⟨F, ρ, S, h⟩ := h
  refine ⟨F, ρ, S, ?_⟩
  unfold eLC M.bind at h
  cases e1 : mi ρ with
  | bad => rw [e1] at h; exact h
  | exn c x r1 => rw [e1] at h; exact h
  | ok ds ρ1 =>
    rw [e1] at h
    intro J H1 F1 G1 S1 R1 D hD
    dsimp only at h
    cases e2 : lcLoop vs t c e ds (wipeR ρ1 vs) with
    | bad => rw [e2] at h; exact h.elim
    | exn _ _ _ => rw [e2] at h; exact h.elim
    | ok xs ρ' =>
      rw [e2] at h
      refine lcp_turns hv hs S1 R1 hD e2 fun Hc Fc accV Sc Gc hDc rc hFD => ?_
      have bk : ∀ a, H1 a = none → H a = none := fun a ha => by
        cases z : H a with
        | none => rfl
        | some u =>
          obtain ⟨w, hw⟩ := G1.d a u z
          rw [ha] at hw; cases hw
      exact h (.ref D) Hc Fc (G1.trans Gc.block) (S1.back Sc Gc hv) ⟨D, xs, accV, rfl, rfl, hFD, bk D hD, hDc, rc.1.base bk, rc.2.1, rc.2.2⟩
/-- a call that hands back a new list -/
theorem tN_call {fn : Fn} {n : Nat} {m : M (List D)} (hn : ∀ ρ ds ρ', m ρ = .ok ds ρ' → ds.length = n) (h : tN g fx W ea (eCall fn m) σ H Q) : tCallS (spOf g [] .fr n fn) (WE W) (tA g fx W true ea m) σ H Q := by
  obtain ⟨F, ρ, S, h⟩ := h
  refine ⟨F, ρ, S, ?_⟩
  unfold eCall M.bind at h
  cases e1 : m ρ with
  | bad => rw [e1] at h; exact h
  | exn c x r1 => rw [e1] at h; exact h
  | ok ds ρ1 =>
    rw [e1] at h
    intro vs H1 F1 G1 S1 r1
    refine ⟨F1, ds, args_of S1.s r1.rep, hn _ _ _ e1, ?_⟩
    dsimp only at h
    cases e2 : fn ds with
    | bad => rw [e2] at h; exact h.elim
    | any f => rw [e2] at h; exact h.elim
    | ok d outs =>
      rw [e2] at h
      intro v H' F' A ⟨a, ev, fa, o, ha⟩
      subst ev
      exact h a H' F' (by
        have q := G1.trans (Go.of (eff := false) (ρ := ρ1) A.grow)
        rwa [Bool.or_false] at q) (S1.grow A.grow) fa o (G1.new ha)
    | exn c x outs =>
      rw [e2] at h
      exact fun cls dd H' F' A r => h cls dd H' F' (G1.trans (Go.of (eff := false) (ρ := ρ1) A.grow)).up (S1.grow A.grow) r
/-- .. a new list of new lists -/
theorem tQ_call {fn : Fn} {n : Nat} {m : M (List D)} (hn : ∀ ρ ds ρ', m ρ = .ok ds ρ' → ds.length = n) (h : tQ g fx W ea (eCall fn m) σ H Q) : tCallS (spOf g [] .pl n fn) (WE W) (tA g fx W true ea m) σ H Q := by
  obtain ⟨F, ρ, S, h⟩ := h
  refine ⟨F, ρ, S, ?_⟩
  unfold eCall M.bind at h
  cases e1 : m ρ with
  | bad => rw [e1] at h; exact h
  | exn c x r1 => rw [e1] at h; exact h
  | ok ds ρ1 =>
    rw [e1] at h
    intro vs H1 F1 G1 S1 r1
    refine ⟨F1, ds, args_of S1.s r1.rep, hn _ _ _ e1, ?_⟩
    dsimp only at h
    cases e2 : fn ds with
    | bad => rw [e2] at h; exact h.elim
    | any f => rw [e2] at h; exact h.elim
    | ok d outs =>
      rw [e2] at h
      exact fun v H' F' A r => h v H' F' (by
        have q := G1.trans (Go.of (eff := false) (ρ := ρ1) A.grow)
        rwa [Bool.or_false] at q) (S1.grow A.grow) (Pool.base r fun a ha => G1.new ha)
    | exn c x outs =>
      rw [e2] at h
      exact fun cls dd H' F' A r => h cls dd H' F' (G1.trans (Go.of (eff := false) (ρ := ρ1) A.grow)).up (S1.grow A.grow) r
theorem tS_retQ {m : M D} (hk : fx.rk = .pl) (h : tS g fx W (sRet m) E σ H) : tRet (tQ g fx W ea m) E σ H := by
  obtain ⟨F, ρ, S, h⟩ := h
  refine ⟨F, ρ, S, ?_⟩
  unfold sRet sDo at h
  cases e : m ρ with
  | bad => rw [e] at h; exact h
  | exn c x r =>
    rw [e] at h
    exact xgs h
  | ok d ρ1 =>
    rw [e] at h
    exact fun v H1 F1 G1 S1 r1 => h v σ H1 F1 S1 (by unfold RV; rw [hk]; exact r1.base fun a ha => S.fresh ha)
end
end DL

set_option Elab.async false
set_option linter.all false
set_option maxRecDepth 100000
set_option maxHeartbeats 4000000
namespace DL
open PySem PySem.Spec PyProof.Rows L2

/-! ### for x in a new list of new lists -/
def forOw (i : Nat) (b : MS) : List D → MS
  | [], ρ => .nx ρ
  | d :: ds, ρ => (b (ρ.set i (.ow d))).turn (forOw i b ds)
def sForP (i : Nat) (m : M D) (b : MS) : MS := sDo m fun d => match d with
  | .lst ds => forOw i b ds
  | _ => fun _ => .bad
section
variable {g : Gx} {fx : Fx} {W : WX} {E : Ends} {σ σ1 : L2.St} {H F H1 F1 : Hp} {ρ ρ1 : Rho} {ea : Bool} {m : M D} {mb : MS}
theorem post_turnB {k : MS} {N : L2.St → Hp → Prop} {E' : Ends} (G : Gs σ F H ρ σ1 F1 H1 ρ1) (hk : ∀ ρ2, sPost g fx W E σ F H ρ (k ρ2) → ∀ σ' H' F', Gs σ1 F1 H1 ρ1 σ' F' H' ρ2 → ST g fx σ' H' F' ρ2 → N σ' H') (hn : E'.nx = N) (hc : E'.ct = N) (hr : E'.rt = E.rt) (hb : E'.bk = E.nx) :
    ∀ {s : SO}, sPost g fx W E σ F H ρ (s.turn k) → sPost g fx W E' σ1 F1 H1 ρ1 s
  | .nx ρ2, h => by
    intro σ' H' F' G2 S'
    rw [hn]
    exact hk ρ2 h σ' H' F' G2 S'
  | .ct ρ2, h => by
    intro σ' H' F' G2 S'
    rw [hc]
    exact hk ρ2 h σ' H' F' G2 S'
  | .brk r, h => by
    intro σ' H' F' G2 S'
    rw [hb]
    exact h σ' H' F' (G.trans G2) S'
  | .ret d r, h => by
    intro v σ' H' F' S' q
    rw [hr]
    exact h v σ' H' F' S' q
  | .exn c x r, h => fun cls dd σ' H' F' G2 => h cls dd σ' H' F' (G.trans G2)
  | .bad, h => h
  | .any f, h => fun a => post_turnB G hk hn hc hr hb (h a)
theorem ST.notOw (S : ST g fx σ H F ρ) {a : Addr} (ha : H a = none) : ¬ OwnA σ ρ a := fun ⟨i, d, h1, h2⟩ => S.ow_ne ha i d h1 h2
/-- the lists from the i-th on are nobody's -/
def Left (g : Gx) (F H H0 : Hp) (σ : L2.St) (ρ : Rho) (p : Addr) (ds : List D) (vs : List V) (i : Nat) : Prop :=
  F p = none ∧ H p = some (.lst vs) ∧ ¬ OwnA σ ρ p ∧ ∀ (j : Nat) d, i ≤ j → ds[j]? = some d → ∃ a, vs[j]? = some (.ref a) ∧ F a = none ∧ H0 a = none ∧ Own g F H a d ∧ ¬ OwnA σ ρ a
theorem Left.step {H0 : Hp} {p : Addr} {ds : List D} {vs : List V} {i : Nat} (h : Left g F H H0 σ ρ p ds vs i) (G : Gs σ F H ρ σ1 F1 H1 ρ1) : Left g F1 H1 H0 σ1 ρ1 p ds vs i := by
  have key : ∀ {a : Addr} {o : HO}, F a = none → H a = some o → ¬ OwnA σ ρ a → F1 a = none ∧ H1 a = some o ∧ ¬ OwnA σ1 ρ1 a := fun {a o} f h n => by
    refine ⟨?_, G.k a o h n, fun z => ?_⟩
    · cases z : F1 a with
      | none => rfl
      | some u =>
        rcases G.n a u z with q | q | q
        · rw [f] at q; cases q
        · rw [h] at q; cases q
        · exact absurd q n
    · rcases G.o a z with q | q
      · exact n q
      · rw [h] at q; cases q
  obtain ⟨h1, h2, h3, h4⟩ := h
  obtain ⟨k1, k2, k3⟩ := key h1 h2 h3
  refine ⟨k1, k2, k3, fun j d hj e => ?_⟩
  obtain ⟨a, e1, fa, ha, o, n⟩ := h4 j d hj e
  obtain ⟨u, hu⟩ := o.there
  obtain ⟨q1, q2, q3⟩ := key fa hu n
  exact ⟨a, e1, q1, ha, o.move G.f (q2.trans hu.symm), q3⟩
theorem own_set {i : Nat} {d : D} {v : Option V} {a : Addr} (h : OwnA (σ.set i v) (ρ.set i (.ow d)) a) : v = some (.ref a) ∨ OwnA σ ρ a := by
  obtain ⟨j, e, h1, h2⟩ := h
  by_cases c : i = j
  · subst c
    left
    have hl : i < σ.length := by
      have := (List.getElem?_eq_some_iff.mp h2).1
      simpa using this
    rw [List.getElem?_set_self hl] at h2
    exact Option.some.inj h2
  · rw [List.getElem?_set_ne c] at h1 h2
    exact .inr ⟨j, e, h1, h2⟩
theorem tS_forP {i : Nat} (hi : fx.ow.contains i = false) (h : tS g fx W (sForP i m mb) E σ H) : tFor (iList g.K (tQ g fx W ea m)) (gName i) (tS g fx W mb) E σ H := by
  obtain ⟨F, ρ, S, h⟩ := h
  refine ⟨F, ρ, S, ?_⟩
  unfold sForP sDo at h
  cases e : m ρ with
  | bad => rw [e] at h; exact h
  | exn c x r =>
    rw [e] at h
    exact xgs h
  | ok d ρ1 =>
    rw [e] at h
    intro v H1 F1 G1 S1 P1
    obtain ⟨p, ds, vs, rfl, rfl, fp, hp0, hp, ol, nd, np⟩ := P1
    dsimp only at h
    refine ⟨p, rfl, ⟨vs, SqL.of hp⟩, ?_⟩
    -- nothing of the pool is a slot's
    have no1 : ∀ a, H a = none → ¬ OwnA σ ρ1 a := fun a ha ⟨j, e, h1, h2⟩ => by
      obtain ⟨e', h3⟩ := G1.o j e h1
      exact S.ow_ne ha j e' h3 h2
    let Pv : Nat → L2.St → Hp → Prop := fun k σc Hc => k ≤ ds.length ∧ ∃ Fc ρc, ST g fx σc Hc Fc ρc ∧ Gs σ F H ρ σc Fc Hc ρc ∧ Left g Fc Hc H σc ρc p ds vs k ∧ sPost g fx W E σ F H ρ (forOw i mb (ds.drop k) ρc)
    refine ⟨fun k n σc Hc => n = ds.length - k ∧ Pv k σc Hc, ⟨ds.length, by simp, Nat.zero_le _, F1, ρ1, S1, G1.gs, ⟨fp, hp, no1 p hp0, fun j d _ e => ?_⟩, ?_⟩, ?_⟩
    · obtain ⟨a, e1, fa, ha, o⟩ := ol.2 j d e
      exact ⟨a, e1, fa, ha, o, no1 a ha⟩
    · rw [List.drop_zero]
      exact h
    · rintro k n σc Hc ⟨rfl, hk, Fc, ρc, Sc, Gc, Lc, hq⟩
      obtain ⟨fpc, hpc, npc, Lr⟩ := Lc
      by_cases hlt : k < ds.length
      · refine .inr ⟨⟨vs, vs[k]'(by rw [ol.1]; exact hlt), SqL.of hpc, List.getElem?_eq_getElem _⟩, Pv (k + 1), fun σ' H' q => ⟨ds.length - (k + 1), by omega, rfl, q⟩, fun x H' y => ?_⟩
        obtain ⟨rfl, y⟩ := y
        have ex := y vs (SqL.of hpc)
        obtain ⟨a, ea, fa, ha, oa, na⟩ := Lr k ds[k] (Nat.le_refl _) (List.getElem?_eq_getElem hlt)
        rw [ea] at ex
        cases ex
        have S2 := Sc.setO hi fa oa (S.fresh ha) (fun j e h1 h2 => na ⟨j, e, h1, h2⟩)
        have G2 : Gs σ F H ρ (σc.set i (some (.ref a))) Fc H' (ρc.set i (.ow ds[k])) := ⟨Gc.f, Gc.n, Gc.k, fun b hb => by
          rcases own_set hb with q | q
          · cases q
            exact .inr ha
          · exact Gc.o b q, Gc.d⟩
        have L2' : Left g Fc H' H (σc.set i (some (.ref a))) (ρc.set i (.ow ds[k])) p ds vs (k + 1) := by
          have ne : ∀ {b : Addr}, b ≠ a → ¬ OwnA σc ρc b → ¬ OwnA (σc.set i (some (.ref a))) (ρc.set i (.ow ds[k])) b := fun {b} n1 n2 z => by
            rcases own_set z with q | q
            · cases q; exact n1 rfl
            · exact n2 q
          refine ⟨fpc, hpc, ne (fun z => np (z ▸ List.mem_of_getElem? ea)) npc, fun j d hj e => ?_⟩
          obtain ⟨b, e1, fb, hb, ob, nb⟩ := Lr j d (by omega) e
          refine ⟨b, e1, fb, hb, ob, ne (fun z => ?_) nb⟩
          subst z
          have hj1 := (List.getElem?_eq_some_iff.mp e1)
          have : j = k := (List.getElem?_inj hj1.1 nd).mp (e1.trans ea.symm)
          omega
        have ed : ds.drop k = ds[k] :: ds.drop (k + 1) := List.drop_eq_getElem_cons hlt
        rw [ed] at hq
        dsimp only [forOw] at hq
        refine ⟨Fc, _, S2, ?_⟩
        exact post_turnB (E' := { E with nx := Pv (k + 1), ct := Pv (k + 1), bk := E.nx }) (N := Pv (k + 1)) G2 (fun ρ3 h3 σ3 H3 F3 G3 S3 => ⟨hlt, F3, ρ3, S3, G2.trans G3, L2'.step G3, h3⟩) rfl rfl rfl rfl hq
      · have ei : k = ds.length := by omega
        subst ei
        rw [List.drop_length] at hq
        exact .inl ⟨⟨vs, SqL.of hpc, by rw [ol.1]; exact Nat.le_refl _⟩, hq σc Hc Fc Gc Sc⟩

/-! ### f(new list) -/
def eCallF (fn : Fn) (m : M D) : M D := m.bind fun d ρ => match fn [d] with
  | .ok r [_] => .ok r ρ
  | .exn c x [_] => .exn c x ρ
  | _ => .bad
theorem ST.lost {F' H' : Hp} {a : Addr} {outs : List D} (S : ST g fx σ H F ρ) (hF : F a = none) (h0 : fx.H0 a = none) (hn : ¬ OwnA σ ρ a) (A : After g [0] F H [.ref a] outs F' H') : ST g fx σ H' F' ρ := by
  have kk : ∀ c o, H c = some o → c ≠ a → H' c = some o := fun c o h ne => A.k c o h fun i hi q => by
    have e : i = 0 := by simpa using hi
    subst e
    have : V.ref a = V.ref c := by simpa using q
    cases this
    exact ne rfl
  refine ⟨A.s, S.ge.trans A.f, fun c o h => ?_, fun c o h k => ?_, S.len, fun i d h => ?_, fun i d h => ?_, S.inj, S.par, S.pin⟩
  · rcases A.n c o h with q | q
    · exact S.nw c o q
    · exact .inr (S.fresh q)
  · exact kk c o (S.old c o h k) fun z => by rw [z, h0] at h; cases h
  · obtain ⟨v, e, r⟩ := S.cl i d h
    exact ⟨v, e, r.mono A.f⟩
  · obtain ⟨c, e, fc, o, n⟩ := S.ow i d h
    obtain ⟨u, hu⟩ := o.there
    have ne : c ≠ a := fun z => hn ⟨i, d, h, z ▸ e⟩
    refine ⟨c, e, ?_, o.move A.f ((kk c u hu ne).trans hu.symm), n⟩
    cases z : F' c with
    | none => rfl
    | some y =>
      rcases A.n c y z with q | q
      · rw [fc] at q; cases q
      · rw [hu] at q; cases q
theorem tE_callF {fn : Fn} {Q : VK} (h : tE g fx W true true (eCallF fn m) σ H Q) : tCallS (spOf g [0] .cl 1 fn) (WE W) (tCons (tN g fx W ea m) tNil) σ H Q := by
  obtain ⟨F, ρ, S, h⟩ := h
  refine ⟨F, ρ, S, ?_⟩
  unfold eCallF M.bind at h
  cases e1 : m ρ with
  | bad => rw [e1] at h; exact h
  | exn c x r1 => rw [e1] at h; exact h
  | ok d ρ1 =>
    rw [e1] at h
    intro a H1 F1 G1 S1 fa o ha
    dsimp only at h
    have na : ¬ OwnA σ ρ1 a := fun ⟨j, e, h1, h2⟩ => by
      obtain ⟨e', h3⟩ := G1.o j e h1
      exact S.ow_ne ha j e' h3 h2
    have AA : Args g [0] F1 H1 [d] [.ref a] := by
      refine ⟨S1.s, rfl, fun i e hi he => ?_, fun i e hi he => ?_, fun i j c hi hj _ _ => ?_, fun i hi => ?_⟩
      · have z : i = 0 := by simpa using hi
        subst z
        cases he
        exact ⟨a, rfl, fa, o⟩
      · cases i with
        | zero => exact absurd (by simp) hi
        | succ i => simp at he
      · have z1 : i = 0 := by simpa using hi
        have z2 : j = 0 := by simpa using hj
        rw [z1, z2]
      · have z1 : i = 0 := by simpa using hi
        subst z1
        simp
    refine ⟨F1, [d], AA, rfl, ?_⟩
    have go : ∀ {outs : List D} {F' H' : Hp}, After g [0] F1 H1 [.ref a] outs F' H' → Go true σ F H ρ F' H' ρ1 := fun {outs F' H'} A => by
      have kk : ∀ c o, H1 c = some o → c ≠ a → H' c = some o := fun c o h ne => A.k c o h fun i hi q => by
        have e : i = 0 := by simpa using hi
        subst e
        have : V.ref a = V.ref c := by simpa using q
        cases this
        exact ne rfl
      refine ⟨G1.f.trans A.f, fun c w hc => ?_, G1.o, fun c w hc hn => ?_, fun z => (nomatch z), fun c w hc => ?_⟩
      · rcases A.n c w hc with q | q
        · exact G1.n c w q
        · exact .inr (.inl (G1.new q))
      · exact kk c w (G1.k c w hc hn) fun z => by rw [z, ha] at hc; cases hc
      · obtain ⟨u, hu⟩ := G1.d c w hc
        exact ⟨u, kk c u hu fun z => by rw [z, ha] at hc; cases hc⟩
    have st : ∀ {outs : List D} {F' H' : Hp}, After g [0] F1 H1 [.ref a] outs F' H' → ST g fx σ H' F' ρ1 := fun {outs F' H'} A => S1.lost fa (S.fresh ha) na A
    cases e3 : fn [d] with
    | bad => rw [e3] at h; exact h.elim
    | any f => rw [e3] at h; exact h.elim
    | ok r outs =>
      rw [e3] at h
      match outs, h with
      | [d'], h => exact fun v H' F' A r' => h v H' F' (go A) (st A) r'
      | [], h => exact h.elim
      | _ :: _ :: _, h => exact h.elim
    | exn c x outs =>
      rw [e3] at h
      match outs, h with
      | [d'], h => exact fun cls dd H' F' A r' => h cls dd H' F' (go A) (st A) r'
      | [], h => exact h.elim
      | _ :: _ :: _, h => exact h.elim
end
section
variable {X : Cx} {fx : Fx} {W : WX} {ea ei ec ee : Bool} {e : Expr} {es : List Expr} {m : M D} {ml : M (List D)} {pos p py : Pos} {is : List Nat} {t : D → Rho → R Rho} {c : M Bool} {em : M D} {mi : M (List D)} {elt tg iter : Expr} {ifs : List Expr} {scope : Scope}
def SN (X : Cx) (fx : Fx) (W : WX) (eff : Bool) (e : Expr) (m : M D) : Prop := PE X e (tN (gx X) fx W eff m)
def SQ (X : Cx) (fx : Fx) (W : WX) (eff : Bool) (e : Expr) (m : M D) : Prop := PE X e (tQ (gx X) fx W eff m)
theorem sn_call {x : Str} {fn : Fn} {n j : Nat} (C : Fd X.prog X.w X.K X.mg X.base x [] .fr n j fn) (hr : Room j X.A) (tk : Takes X W) (ha : SA X fx W true ea (e :: es) ml) (hn : ∀ ρ ds ρ', ml ρ = .ok ds ρ' → ds.length = n) (hg : Gl X x := by rfl)
    (hdb : (x == ("__debug__" : Str)) = false := by decide) (he : starEach (e :: es) X.env = (false, eval e X.env) :: starEach es X.env := by rfl) (hpl : (backTo pos (starEach es X.env)).any (·.1) = false := by rfl) :
    SN X fx W ea (.Call (.Name x p) (e :: es) [] pos) (eCall fn ml) := by
  obtain ⟨f, fd, ps, F, hm, hk, hb⟩ := C.ex
  exact PE.imp (pe_callS F hr hg hm hk hb (fun σ => passAt tk σ) ha hdb he hpl) fun σ H Q q => tN_call hn q
theorem sq_call {x : Str} {fn : Fn} {n j : Nat} (C : Fd X.prog X.w X.K X.mg X.base x [] .pl n j fn) (hr : Room j X.A) (tk : Takes X W) (ha : SA X fx W true ea (e :: es) ml) (hn : ∀ ρ ds ρ', ml ρ = .ok ds ρ' → ds.length = n) (hg : Gl X x := by rfl)
    (hdb : (x == ("__debug__" : Str)) = false := by decide) (he : starEach (e :: es) X.env = (false, eval e X.env) :: starEach es X.env := by rfl) (hpl : (backTo pos (starEach es X.env)).any (·.1) = false := by rfl) :
    SQ X fx W ea (.Call (.Name x p) (e :: es) [] pos) (eCall fn ml) := by
  obtain ⟨f, fd, ps, F, hm, hk, hb⟩ := C.ex
  exact PE.imp (pe_callS F hr hg hm hk hb (fun σ => passAt tk σ) ha hdb he hpl) fun σ H Q q => tQ_call hn q
theorem sq_lc (own : List (Str × Nat)) (hc : X.calm = true) (hN : X.N.Nodup) (hi : SI X fx W ei tg iter mi) (ok : BlkOk X.N X.env.scope scope own)
    (hg : ∀ (s : Shared) (H : Hp) (C : Addr) (cl : List (Str × Addr)) (fp : List Addr), SG (X.blk s H scope (compEnvC scope cl C X.env) fp) fx is tg t) (ht : ∀ (s : Shared) (H : Hp) (C : Addr) (cl : List (Str × Addr)) (fp : List Addr), STs (X.blk s H scope (compEnvC scope cl C X.env) fp) fx ec ifs c)
    (he : ∀ (s : Shared) (H : Hp) (C : Addr) (cl : List (Str × Addr)) (fp : List Addr), SN (X.blk s H scope (compEnvC scope cl C X.env) fp) fx W0 ee elt em)
    (hv : (own.map (·.2)).all (fun j => !fx.ow.contains j) = true := by rfl) (hs : is.all (fun j => (own.map (·.2)).contains j) = true := by rfl) (hf : ∀ x, foldedSetIterable iter X.env x = pure x := by intro _; rfl) :
    SQ X fx W (ei || (ec || ee)) (.ListComp elt [⟨tg, iter, ifs, 0⟩] scope pos) (eLC (own.map (·.2)) t c em mi) :=
  PE.imp (pe_lc (g := tG (gx X) fx is t) (tt := tB (gx X) fx W0 ec c) (te := tN (gx X) fx W0 ee em) hc hN hi ok hg ht he hf) fun σ H Q q => tQ_lc hv hs q
theorem ss_retQ (he : SQ X fx W ea e m) (hk : fx.rk = .pl := by rfl) : SS X fx W (.Return (some e) pos) (sRet m) := PS.imp (ps_ret he) fun E σ H q => tS_retQ hk q
theorem ss_forP (i : Nat) {y : Str} {body : List Stmt} {mb : MS} (hp : PassesOwn (model X.prog X.w) X.A X.env X.xe) (hc : X.calm = true) (hN : X.N.Nodup) (he : SQ X fx W ea e m) (hb : SSs X fx W body mb) (hi : X.N[i]? = some y := by rfl) (ho : fx.ow.contains i = false := by rfl)
    (hx : Loc X.env.scope y := by first | exact .inl rfl | exact .inr rfl) (hf : X.fn y = true ∨ X.env.scope.names.lookup y = some .local := by first | exact .inl rfl | exact .inr rfl) (hs : ∀ x, foldedSetIterable e X.env x = pure x := by intro _; rfl) :
    SS X fx W (.For (.Name y py) e body [] pos) (sForP i m mb) := PS.imp (ps_for hp hc (pi_list he) (pg_name hN hi hx hf) hb hs) fun E σ H q => tS_forP ho q
theorem se_callF {x : Str} {fn : Fn} {k : Nat} (C : Fd X.prog X.w X.K X.mg X.base x [0] .cl 1 k fn) (hr : Room k X.A) (tk : Takes X W) (he : SN X fx W ea e m) (hg : Gl X x := by rfl)
    (hdb : (x == ("__debug__" : Str)) = false := by decide) (hst : starEach [e] X.env = (false, eval e X.env) :: starEach [] X.env := by rfl) (hpl : (backTo pos (starEach [] X.env)).any (·.1) = false := by rfl) :
    SE X fx W true true (.Call (.Name x p) [e] [] pos) (eCallF fn m) := by
  obtain ⟨f, fd, ps, F, hm, hk, hb⟩ := C.ex
  exact PE.imp (pe_callS F hr hg hm hk hb (fun σ => passAt tk σ) (pa_cons he pa_nil hst) hdb hst hpl) fun σ H Q q => tE_callF q
end
end DL

set_option Elab.async false
set_option linter.all false
set_option maxRecDepth 100000
set_option maxHeartbeats 4000000
namespace DL
open PySem PySem.Spec PyProof.Rows L2

/-! ### what the top has written: from k_is's facts to the walk's -/
def AllP {α : Type} (P : α → Prop) : List α → Prop
  | [] => True
  | x :: xs => P x ∧ AllP P xs
theorem allP {α : Type} {P : α → Prop} : ∀ {l : List α}, AllP P l → ∀ x ∈ l, P x
  | [], _, x, h => by cases h
  | y :: ys, ⟨h1, h2⟩, x, h => by
    rcases List.mem_cons.mp h with e | h
    · rw [e]; exact h1
    · exact allP h2 x h
section
variable {K : PySem.W.Frag} {mg : Str → Option Value}
theorem cls_some {C : Addr} (h : PySem.W.hasDictIn K C = true) : (PySem.W.clsIn K C).isSome = true := by
  obtain ⟨cd, hc, _⟩ := PySem.W.any_some h
  rw [hc]
  rfl
theorem kit_refTy {C : Addr} {T : String} {b : Bool} (hT : PySem.W.kitMeta T = true) (s : PySem.W.subIn K (.ref C) (.type T) = some b) : PySem.W.kitOne K (.ref C) (.type T) = some b := by
  unfold PySem.W.kitOne
  rw [if_neg (show ¬ ((Value.ref C == Value.type T) = true) from by simp)]
  show (if PySem.W.kitMeta T = true then _ else _) = _
  rw [if_pos hT]
  exact s
theorem kit_toRef {C : Addr} {t : Value} {b : Bool} (ty : PySem.W.typeIn K (.ref C) = some (.type "type")) (hd : PySem.W.hasDictIn K C = true) (s : PySem.W.subIn K t (.ref C) = some b) (hb : t = .ref C → b = true) : PySem.W.kitOne K t (.ref C) = some b := by
  unfold PySem.W.kitOne
  by_cases e : t = .ref C
  · rw [if_pos (beq_iff_eq.mpr e), hb e]
  · rw [if_neg (fun z => e (beq_iff_eq.mp z))]
    show (if ((PySem.W.clsIn K C).isSome && PySem.W.typeIn K (.ref C) == some (.type "type")) = true then _ else _) = _
    rw [if_pos (by rw [cls_some hd, ty] <;> rfl)]
    exact s
/-- an own error among built-in classes -/
def NoTy (K : PySem.W.Frag) (mg : Str → Option Value) (Ts : List String) (tab : List (Str × Bool)) : Prop := AllP (fun p => p.2 = false ∧ ∃ C, mg p.1 = some (.ref C) ∧ AllP (fun T => PySem.W.subIn K (.ref C) (.type T) = some false) Ts) tab
def six (T : String) : Prop := T = "str" ∨ T = "int" ∨ T = "bool" ∨ T = "list" ∨ T = "tuple" ∨ T = "dict"
theorem six_meta {T : String} (h : six T) : PySem.W.kitMeta T = true := by
  rcases h with rfl | rfl | rfl | rfl | rfl | rfl <;> decide +kernel
theorem any_refTys {C : Addr} : ∀ {Ts : List String}, (∀ T ∈ Ts, six T) → AllP (fun T => PySem.W.subIn K (.ref C) (.type T) = some false) Ts → PySem.W.kitAny K (.ref C) (Ts.map .type) = some false
  | [], _, _ => rfl
  | T :: Ts, h, ⟨s, r⟩ => kitAny_two (kit_refTy (six_meta (h T List.mem_cons_self)) s) (any_refTys (fun U hU => h U (List.mem_cons_of_mem _ hU)) r)
theorem any_kdTys {k : Kd} : ∀ {Ts : List String}, (∀ T ∈ Ts, six T) → PySem.W.kitAny K (.type k.nm) (Ts.map .type) = some (Ts.any fun T => (kdsOf T).contains k)
  | [], _ => rfl
  | T :: Ts, h => kitAny_two (kit_kd (h T List.mem_cons_self) k) (any_kdTys fun U hU => h U (List.mem_cons_of_mem _ hU))
theorem isT_tys {Ts : List String} {base : List Kd} {tab : List (Str × Bool)} (h : ∀ T ∈ Ts, six T) (hb : ∀ k : Kd, (Ts.any fun T => (kdsOf T).contains k) = base.contains k) (t : NoTy K mg Ts tab) : IsT K mg (Ts.map .type) base tab where
  b := fun k => by rw [any_kdTys h, hb]
  t := fun p hp => by
    obtain ⟨e, C, hC, r⟩ := allP t p hp
    exact ⟨C, hC, by rw [e]; exact any_refTys h r⟩
/-- an own error among own classes -/
def ErT (K : PySem.W.Frag) (mg : Str → Option Value) (c : Value) (tab : List (Str × Bool)) : Prop := AllP (fun p => ∃ E, mg p.1 = some (.ref E) ∧ PySem.W.subIn K (.ref E) c = some p.2 ∧ PySem.W.subIn K (.ref E) (.ref E) = some true) tab
theorem kit_er {C E : Addr} {b : Bool} (ty : PySem.W.typeIn K (.ref C) = some (.type "type")) (hd : PySem.W.hasDictIn K C = true) (s : PySem.W.subIn K (.ref E) (.ref C) = some b) (s2 : PySem.W.subIn K (.ref E) (.ref E) = some true) : PySem.W.kitOne K (.ref E) (.ref C) = some b :=
  kit_toRef ty hd s fun e => by
    have e2 : E = C := Value.ref.inj e
    subst e2
    rw [s2] at s
    exact (Option.some.inj s).symm
theorem isT_ref {C : Addr} {tab : List (Str × Bool)} (ty : PySem.W.typeIn K (.ref C) = some (.type "type")) (hd : PySem.W.hasDictIn K C = true) (b : AllP (fun k : Kd => PySem.W.subIn K (.type k.nm) (.ref C) = some false) [.non, .bl, .int, .str, .lst, .tup, .dic]) (t : ErT K mg (.ref C) tab) : IsT K mg [.ref C] [] tab where
  b := fun k => by
    refine kitAny_one (kit_toRef ty hd (allP b k (by cases k <;> simp)) fun e => by cases e)
  t := fun p hp => by
    obtain ⟨E, hE, s, s2⟩ := allP t p hp
    exact ⟨E, hE, kitAny_one (kit_er ty hd s s2)⟩
theorem isT_VE {tab : List (Str × Bool)} (t : ErT K mg (.type "ValueError") tab) : IsT K mg [.type "ValueError"] [] tab where
  b := fun k => kitAny_one (by cases k <;> exact kit_ty (by decide +kernel))
  t := fun p hp => by
    obtain ⟨E, hE, s, s2⟩ := allP t p hp
    exact ⟨E, hE, kitAny_one (kit_refTy (by decide +kernel) s)⟩
theorem catT_mk {C : Addr} {tab : List (Str × Bool)} (ty : PySem.W.typeIn K (.ref C) = some (.type "type")) (hd : PySem.W.hasDictIn K C = true) (hs : PySem.W.subIn K (.ref C) (.type "BaseException") = some true) (t : ErT K mg (.ref C) tab) : CatT K mg (.ref C) tab := fun p hp => by
  obtain ⟨E, hE, s, s2⟩ := allP t p hp
  have q := kit_er ty hd s s2
  refine ⟨E, hE, ?_⟩
  unfold PySem.W.exmOne
  rw [if_pos (by rw [hs] <;> rfl)]
  by_cases e : E = C
  · subst e
    show (if ((PySem.W.clsIn K E).isSome && PySem.W.typeIn K (.ref E) == some (.type "type")) = true then _ else _) = _
    rw [if_pos (by rw [cls_some hd, ty] <;> rfl)]
    exact s
  · show (if ((PySem.W.clsIn K C).isSome && PySem.W.typeIn K (.ref C) == some (.type "type")) = true then _ else _) = _
    rw [if_pos (by rw [cls_some hd, ty] <;> rfl)]
    exact s
end
section
variable {P : Program} {w : World} {K : PySem.W.Frag} {mg : Str → Option Value} {base : Heap}
theorem xd_mk {x : Str} {C fI : Addr} {st : Stmt} {qual : Str} {fd : FuncData} {p1 p2 p3 p4 : Pos} (hm : mg x = some (.ref C)) (oc : OexC K C)
    (g1 : PySem.W.findIn K (.ref C) "__getattribute__" = some (some (.builtin "BaseException.__getattribute__"))) (g2 : PySem.W.findIn K (.ref C) "__getattr__" = some none) (ha : PySem.W.findIn K (.ref C) "__class__" = some (some (.builtin "object.__class__")))
    (hn : PySem.W.specialIn K (.builtin "object.__class__") "__get__" = some (some (.builtin "getset_descriptor.__get__"))) (ht : PySem.W.takesIn K (.builtin "object.__class__") = some true) (hmro : PySem.W.mroIn K C (.type "object") = some true)
    (hd : PySem.W.hasDictIn K C = true) (hv : PySem.W.findIn K (.ref C) "value" = some none) (heq : PySem.W.findIn K (.ref C) "__eq__" = some (some (.builtin "object.__eq__"))) (iC : PySem.W.findIn K (.ref C) "__init__" = some (some (.ref fI))) (tI : PySem.W.typeIn K (.ref fI) = some (.type "function"))
    (FF : DF K "__init__" qual st fI fd) (S : FnScope ["self", "value"] ["self", "value"] (defScope st)) (hs : (defScope st).names.lookup ("self" : Str) = some .local) (hv2 : (defScope st).names.lookup ("value" : Str) = some .local)
    (hb : defBody st = [.Assign [.Attribute (.Name "self" p1) "value" p2] (.Name "value" p3) p4]) (hsw : ∀ (env : Env), swapsWith (.Name "value" p3) (some (.Attribute (.Name "self" p1) "value" p2)) p4.line env = pure false)
    (hbi : Binds K fd ["self", "value"] []) : Xd P w K mg base x 1 :=
  ⟨C, fI, fd, _, oc, ⟨cls_some hd, g1, g2, oc.exC, ha, hn, ht, hmro, hd, hv, heq⟩, iC, tI, init_ok FF S hs hv2 hb hsw, hbi, hm⟩
end
end DL
namespace DL
open PySem PySem.Spec PyProof.Rows L2
/-! ### a default that is never asked for -/
theorem init_binds {K : PySem.W.Frag} {qual : Str} {st : Stmt} {f T : Addr} {oc oc2 kV doc pm cdv ct : Value} {od od2 an : Option Addr} {osl osl2 : Array (Option Value)} {n : Nat} (l : K.lookup f = some ⟨oc, od, .func (PySem.W.fnOf "__init__" qual (defArgs st) (defBody st) (defScope st) (.ref T) kV doc pm an cdv ct), osl⟩)
    (c : PySem.W.codeIn K cdv qual = true) (k : PySem.W.keepIn K (.ref f) = true) (lT : K.lookup T = some ⟨oc2, od2, .seq #[.none] n, osl2⟩)
    (h : ∀ (T : Addr) (kV doc pm : Value) (an : Option Addr) (cdv ct : Value) (us its : List Value), us.length = 2 → its.length = 1 →
      ∃ k, bindArgs (PySem.W.fnOf "__init__" qual (defArgs st) (defBody st) (defScope st) (.ref T) kV doc pm an cdv ct) ⟨us, []⟩ = seqItems? (.ref T) >>= k ∧ k (some its.toArray) = pure ((["self", "value"] : List Str).zip (us ++ its.drop 1))) :
    Binds K (PySem.W.fnOf "__init__" qual (defArgs st) (defBody st) (defScope st) (.ref T) kV doc pm an cdv ct) ["self", "value"] [] := by
  have F : FunD K "__init__" qual (defArgs st) (defBody st) (defScope st) [.non] [] f (PySem.W.fnOf "__init__" qual (defArgs st) (defBody st) (defScope st) (.ref T) kV doc pm an cdv ct) :=
    ⟨⟨oc, od, .ref T, kV, doc, pm, an, cdv, ct, osl, rfl, l, c, .inr ⟨by simp, T, _, [.none], n, rfl, lT, rfl, .cons rfl .nil⟩, .inl rfl⟩, k⟩
  obtain ⟨ds, hd, hb⟩ := F.binds1 (ps := ["self", "value"]) 2 1 (by simp) rfl h
  cases hd
  exact hb
/-! ### the law's end -/
theorem rep_ints {g : Gx} {F : Hp} : ∀ ns : List Int, RepL g F (ns.map .int) (ns.map V.int)
  | [] => RepL.nil
  | n :: ns => RepL.cons (by simp only [Rep]) (rep_ints ns)
def spLaw (K : PySem.W.Frag) : Sp := fun vs H Q _ => ∃ (a : Addr) (ns : List Int), vs = [.ref a] ∧ SqL K H a (ns.map V.int) ∧ ns.length ≤ 63 ∧ (∀ z ∈ ns, Builtin.Int.intBits z ≤ 1048576) ∧ ∀ H', Q (.bl true) H'
theorem law_walk {l : PySem.W.OpenLaw} {q : Program} {loose : List Str} {XP : (Str → Option Value) → Heap → Prop} {YP : World → Heap → Prop} {d : DefRec} {K : Params → PySem.W.Frag} {st : Stmt} {k : Nat} {fn : Fn} (hn : l.most = some 63) (hdf : d.params.defaults = []) (hr : Room k callerA)
    (hY : ∀ (w : World) (h : Heap), YP w h → (K w.params).In h) (hdn : d.name = ("law" : Str)) (hd : (defArgs st).defaults = [])
    (hb : ∀ (kV doc pm : Value) (an : Option Addr) (cdv ct : Value) (u : Value), bindArgs (PySem.W.fnOf "law" "law" (defArgs st) (defBody st) (defScope st) .none kV doc pm an cdv ct) ⟨[u], []⟩ = pure [(("script" : Str), u)])
    (hlaw : ∀ ns : List Int, ns.length ≤ 63 → (∀ z ∈ ns, Builtin.Int.intBits z ≤ 1048576) → fn [.ros (ns.map .int)] = .ok (.bl true) [])
    (F : ∀ (w : World) (mg : Str → Option Value) (h : Heap), (K w.params).In h → h.Ns mainGlobals mg →
      (∃ f fd, DF (K w.params) "law" "law" st f fd ∧ mg "law" = some (.ref f)) ∧ ∀ base : Heap, Fw l.prog w (K w.params) mg base "law" st ["script"] [] .cl 1 k fn) :
    PySem.W.WalkO q loose XP YP l.row.toRowW d [] (fun f vs => PySem.call f vs) := by
  refine L2.walk_ofB (n := 63) (k := k) (x := "script") (CX := fun w => L2.CX l.prog w) (sp := fun w => spLaw (K w.params)) hn (by decide) hdf hr hY (fun w mg fa h KX G hmg => ?_) (fun _ _ a ns hl hb _ hS => ⟨a, ns, rfl, hS, hl, hb, fun _ => rfl⟩) ?_
  · obtain ⟨⟨f, fd, D, hm⟩, FW⟩ := F w mg h KX G
    rw [hdn, hm] at hmg
    cases hmg
    obtain ⟨oc, od, dV, kV, doc, pm, an, cdv, ct, osl, e, lk, hcd, z⟩ := D.ex
    cases z hd
    refine ⟨fd, fun s u => .of_eq (by rw [e]; exact hb kV doc pm an cdv ct u), fun base _ _ => ?_⟩
    obtain ⟨f2, fd2, D2, G2, hm2⟩ := FW base
    rw [hm] at hm2
    cases hm2
    obtain ⟨oc2, od2, dV2, kV2, doc2, pm2, an2, cdv2, ct2, osl2, e2, lk2, _, _⟩ := D2.ex
    rw [lk] at lk2
    cases lk2
    have key : ∀ vs H Q E, spLaw (K w.params) vs H Q E → spOf ⟨K w.params, mg⟩ [] .cl 1 fn vs H Q E := by
      rintro vs H Q E ⟨a, ns, rfl, hS, hl, hbits, hQ⟩
      refine ⟨H, [.ros (ns.map .int)], ⟨Sub.refl _, rfl, fun _ _ h => (nomatch h), fun i d _ e => ?_, fun _ _ _ h => (nomatch h), fun _ h => (nomatch h)⟩, rfl, ?_⟩
      · cases i with
        | zero =>
          cases e
          refine ⟨.ref a, rfl, ?_⟩
          simp only [Rep]
          exact ⟨a, ns.map V.int, rfl, hS, rep_ints ns⟩
        | succ i => simp at e
      · rw [hlaw ns hl hbits]
        intro v H' F' _ r
        have ev : v = .bl true := by
          have r' : Rep ⟨K w.params, mg⟩ F' (.bl true) v := r
          simpa only [Rep] using r'
        rw [ev]
        exact hQ H'
    exact G2.imp key
  · intro w H s e s' z
    obtain ⟨_, _, _, _, _, _, _, _, _, _, _, _, z⟩ := z
    exact z
end DL

set_option Elab.async false
set_option linter.all false
set_option maxRecDepth 100000
set_option maxHeartbeats 4000000
namespace DL
open PySem PySem.Spec PyProof.Rows L2

/-! ### steps of mirrors -/
section
variable {ρ ρ1 ρ2 ρ3 : Rho} {d x y : D} {ds xs : List D} {ma mb mc : M D} {m : M (List D)} {b1 b2 : M Bool} {k : Bool} {i j s : Nat}
theorem ev_var (h : ρ[i]? = some (.cl d)) : eVar i ρ = .ok d ρ := by unfold eVar; rw [h]
theorem ev_own (h : ρ[i]? = some (.ow d)) : eOwn i ρ = .ok d ρ := by unfold eOwn; rw [h]
theorem ev_c : eC d ρ = .ok d ρ := rfl
theorem ev_2 {op : D → D → R D} (ha : ma ρ = .ok x ρ1) (hb : mb ρ1 = .ok y ρ2) (h : op x y = .ok d) : e2 op ma mb ρ = .ok d ρ2 := by
  unfold e2 M.bind
  rw [ha]
  dsimp only
  rw [hb]
  dsimp only [M.lift]
  rw [h]
theorem ev_1 {op : D → R D} (ha : ma ρ = .ok x ρ1) (h : op x = .ok d) : e1 op ma ρ = .ok d ρ1 := by
  unfold e1 M.bind
  rw [ha]
  dsimp only [M.lift]
  rw [h]
theorem ev_N {op : List D → R D} (ha : m ρ = .ok ds ρ1) (h : op ds = .ok d) : eN op m ρ = .ok d ρ1 := by
  unfold eN M.bind
  rw [ha]
  dsimp only [M.lift]
  rw [h]
theorem ev_nil : aNil ρ = .ok [] ρ := rfl
theorem ev_cons (ha : ma ρ = .ok x ρ1) (h : m ρ1 = .ok ds ρ2) : aCons ma m ρ = .ok (x :: ds) ρ2 := by
  unfold aCons M.bind
  rw [ha]
  dsimp only
  rw [h]
  rfl
theorem ev_call {fn : Fn} {outs : List D} (h : m ρ = .ok ds ρ1) (hf : fn ds = .ok d outs) : eCall fn m ρ = .ok d ρ1 := by
  unfold eCall M.bind
  rw [h]
  dsimp only
  rw [hf]
theorem ev_callO {fn : Fn} {d0 d1 d' : D} (h0 : ρ[s]? = some (.ow d0)) (h : m ρ = .ok ds ρ1) (h1 : ρ1[s]? = some (.ow d1)) (hf : fn (d1 :: ds) = .ok d [d']) : eCallO fn s m ρ = .ok d (ρ1.set s (.ow d')) := by
  unfold eCallO
  rw [h0]
  dsimp only
  rw [h]
  dsimp only
  rw [h1]
  dsimp only
  rw [hf]
theorem ev_callF {fn : Fn} {d' : D} (h : ma ρ = .ok x ρ1) (hf : fn [x] = .ok d [d']) : eCallF fn ma ρ = .ok d ρ1 := by
  unfold eCallF M.bind
  rw [h]
  dsimp only
  rw [hf]
theorem ev_callK {fn : Fn} {is : List Nat} {outs : List D} (h : m ρ = .ok ds ρ1) (hf : fn (permL is ds) = .ok d outs) : eCallK fn is m ρ = .ok d ρ1 := by
  unfold eCallK
  refine ev_call (ds := permL is ds) ?_ hf
  unfold M.bind
  rw [h]
  rfl
theorem ev_M {T : Ty} {op : D → List D → R D} (ho : ma ρ = .ok x ρ1) (ht : isT T x = true) (h : m ρ1 = .ok ds ρ2) (hop : op x ds = .ok d) : eMT T op ma m ρ = .ok d ρ2 := by
  unfold eMT M.bind
  rw [ho]
  dsimp only [mGuard]
  rw [if_pos ht]
  dsimp only
  rw [h]
  dsimp only [M.lift]
  rw [hop]
theorem ev_ifT (hc : b1 ρ = .ok true ρ1) (h : ma ρ1 = .ok d ρ2) : eIf b1 ma mb ρ = .ok d ρ2 := by
  unfold eIf M.bind
  rw [hc]
  exact h
theorem ev_ifF (hc : b1 ρ = .ok false ρ1) (h : mb ρ1 = .ok d ρ2) : eIf b1 ma mb ρ = .ok d ρ2 := by
  unfold eIf M.bind
  rw [hc]
  exact h
theorem ev_not (h : ma ρ = .ok x ρ1) (ht : truth x = .ok k) : eNot ma ρ = .ok (.bl (!k)) ρ1 := by
  unfold eNot M.bind
  rw [h]
  dsimp only [M.lift]
  rw [ht]
  rfl
theorem ev_andT (h : ma ρ = .ok x ρ1) (ht : truth x = .ok true) (h2 : mb ρ1 = .ok d ρ2) : eAnd ma mb ρ = .ok d ρ2 := by
  unfold eAnd M.bind
  rw [h]
  dsimp only [M.lift]
  rw [ht]
  exact h2
theorem ev_andF (h : ma ρ = .ok x ρ1) (ht : truth x = .ok false) : eAnd ma mb ρ = .ok x ρ1 := by
  unfold eAnd M.bind
  rw [h]
  dsimp only [M.lift]
  rw [ht]
  rfl
theorem ev_orT (h : ma ρ = .ok x ρ1) (ht : truth x = .ok true) : eOr ma mb ρ = .ok x ρ1 := by
  unfold eOr M.bind
  rw [h]
  dsimp only [M.lift]
  rw [ht]
  rfl
theorem ev_orF (h : ma ρ = .ok x ρ1) (ht : truth x = .ok false) (h2 : mb ρ1 = .ok d ρ2) : eOr ma mb ρ = .ok d ρ2 := by
  unfold eOr M.bind
  rw [h]
  dsimp only [M.lift]
  rw [ht]
  exact h2
theorem ev_chainT {op op' : D → D → R D} {z : D} (ha : ma ρ = .ok x ρ1) (hb : mb ρ1 = .ok y ρ2) (h : op x y = .ok (.bl true)) (hc : mc ρ2 = .ok z ρ3) (h2 : op' y z = .ok d) : eChain op op' ma mb mc ρ = .ok d ρ3 := by
  unfold eChain M.bind
  rw [ha]
  dsimp only
  rw [hb]
  dsimp only [M.lift]
  rw [h]
  dsimp only [isBl]
  rw [if_pos rfl, hc]
  dsimp only [M.lift]
  rw [h2]
theorem ev_chainF {op op' : D → D → R D} (ha : ma ρ = .ok x ρ1) (hb : mb ρ1 = .ok y ρ2) (h : op x y = .ok (.bl false)) : eChain op op' ma mb mc ρ = .ok (.bl false) ρ2 := by
  unfold eChain M.bind
  rw [ha]
  dsimp only
  rw [hb]
  dsimp only [M.lift]
  rw [h]
  rfl
theorem pa_no : pNo ρ = .ok none ρ := rfl
theorem pa_at {n : Int} (h : ma ρ = .ok (.int n) ρ1) : pAt ma ρ = .ok (some n) ρ1 := by
  unfold pAt M.bind
  rw [h]
  rfl
theorem ev_cut {lo hi : M (Option Int)} {l h : Option Int} (ha : ma ρ = .ok x ρ1) (hl : lo ρ1 = .ok l ρ2) (hh : hi ρ2 = .ok h ρ3) (hc : cutD x l h = .ok d) : eCut ma lo hi ρ = .ok d ρ3 := by
  unfold eCut M.bind
  rw [ha]
  dsimp only
  rw [hl]
  dsimp only
  rw [hh]
  dsimp only [M.lift]
  rw [hc]
/-! tests -/
theorem tb_of' (h : ma ρ = .ok (.bl k) ρ1) : bOf ma ρ = .ok k ρ1 := by
  unfold bOf M.bind
  rw [h]
  rfl
theorem tb_tr' (h : ma ρ = .ok x ρ1) (ht : truth x = .ok k) : bTr ma ρ = .ok k ρ1 := by
  unfold bTr M.bind
  rw [h]
  dsimp only [M.lift]
  rw [ht]
theorem tb_andT (h : b1 ρ = .ok true ρ1) (h2 : b2 ρ1 = .ok k ρ2) : bAnd b1 b2 ρ = .ok k ρ2 := by
  unfold bAnd M.bind
  rw [h]
  exact h2
theorem tb_andF (h : b1 ρ = .ok false ρ1) : bAnd b1 b2 ρ = .ok false ρ1 := by
  unfold bAnd M.bind
  rw [h]
  rfl
theorem tb_orT (h : b1 ρ = .ok true ρ1) : bOr b1 b2 ρ = .ok true ρ1 := by
  unfold bOr M.bind
  rw [h]
  rfl
theorem tb_orF (h : b1 ρ = .ok false ρ1) (h2 : b2 ρ1 = .ok k ρ2) : bOr b1 b2 ρ = .ok k ρ2 := by
  unfold bOr M.bind
  rw [h]
  exact h2
theorem tb_not' (h : b1 ρ = .ok k ρ1) : bNot b1 ρ = .ok (!k) ρ1 := by
  unfold bNot M.bind
  rw [h]
  rfl
/-! walks -/
theorem it_seq (h : ma ρ = .ok x ρ1) (hi : items x = .ok ds) : iSeq ma ρ = .ok ds ρ1 := by
  unfold iSeq M.bind
  rw [h]
  dsimp only [M.lift]
  rw [hi]
theorem it_range (h : m ρ = .ok xs ρ1) (hi : toRange xs = .ok ds) : iRange m ρ = .ok ds ρ1 := by
  unfold iRange M.bind
  rw [h]
  dsimp only [M.lift]
  rw [hi]
theorem it_zip (h : m ρ = .ok xs ρ1) (hi : zipD xs = .ok ds) : iZip m ρ = .ok ds ρ1 := by
  unfold iZip M.bind
  rw [h]
  dsimp only [M.lift]
  rw [hi]
theorem ev_lc {vs : List Nat} {t : D → Rho → R Rho} {c : M Bool} {e : M D} {mi : M (List D)} {ρ' : Rho} (h : mi ρ = .ok ds ρ1) (hl : lcLoop vs t c e ds (wipeR ρ1 vs) = .ok xs ρ') : eLC vs t c e mi ρ = .ok (.lst xs) (backR ρ1 ρ' vs) := by
  unfold eLC M.bind
  rw [h]
  dsimp only
  rw [hl]
/-! statements -/
theorem st_seq {a b : MS} {o : SO} (h : a ρ = .nx ρ1) (h2 : b ρ1 = o) : sSeq a b ρ = o := by
  unfold sSeq
  rw [h]
  exact h2
theorem st_seqR {a b : MS} (h : a ρ = .ret d ρ1) : sSeq a b ρ = .ret d ρ1 := by
  unfold sSeq
  rw [h]
  rfl
theorem st_asg (h : ma ρ = .ok d ρ1) : sAsg ma (tgName i) ρ = .nx (ρ1.set i (.cl d)) := by
  unfold sAsg sDo
  rw [h]
  rfl
theorem st_asgT {t : D → Rho → R Rho} (h : ma ρ = .ok d ρ1) (ht : t d ρ1 = .ok ρ2) : sAsg ma t ρ = .nx ρ2 := by
  unfold sAsg sDo
  rw [h]
  dsimp only [sTo]
  rw [ht]
theorem st_asgO (h : ma ρ = .ok d ρ1) : sAsgO i ma ρ = .nx (ρ1.set i (.ow d)) := by
  unfold sAsgO sDo
  rw [h]
  rfl
theorem st_ret (h : ma ρ = .ok d ρ1) : sRet ma ρ = .ret d ρ1 := by
  unfold sRet sDo
  rw [h]
theorem st_drop (h : ma ρ = .ok d ρ1) : sDrop ma ρ = .nx ρ1 := by
  unfold sDrop sDo
  rw [h]
theorem st_ifT {a b : MS} {o : SO} (hc : b1 ρ = .ok true ρ1) (h : a ρ1 = o) : sIf b1 a b ρ = o := by
  unfold sIf sDo
  rw [hc]
  exact h
theorem st_ifF {a b : MS} {o : SO} (hc : b1 ρ = .ok false ρ1) (h : b ρ1 = o) : sIf b1 a b ρ = o := by
  unfold sIf sDo
  rw [hc]
  exact h
theorem st_next : sNext ρ = .nx ρ := rfl
theorem st_par (h : m ρ = .ok [x, y] ρ1) : sPar i j m ρ = .nx ((ρ1.set i (.cl x)).set j (.cl y)) := by
  unfold sPar sDo
  rw [h]
theorem st_par3 {l : Nat} {z : D} (h : m ρ = .ok [x, y, z] ρ1) : sPar3 i j l m ρ = .nx (((ρ1.set i (.cl x)).set j (.cl y)).set l (.cl z)) := by
  unfold sPar3 sDo
  rw [h]
theorem st_app {ys : List D} (h0 : ρ[i]? = some (.ow (.lst ys))) (h : ma ρ = .ok d ρ1) (h1 : ρ1[i]? = some (.ow (.lst xs))) (hl : xs.length < 16777216) : sApp i ma ρ = .nx (ρ1.set i (.ow (.lst (xs ++ [d])))) := by
  unfold sApp
  rw [h0]
  dsimp only [owLst, sDo]
  rw [h]
  dsimp only
  rw [h1]
  dsimp only [owLst]
  rw [if_pos hl]
theorem st_setI {ys : List D} {n : Int} {q : Nat} (h : ma ρ = .ok d ρ1) (h0 : ρ1[i]? = some (.ow (.lst ys))) (hk : mb ρ1 = .ok (.int n) ρ2) (h1 : ρ2[i]? = some (.ow (.lst xs))) (hq : ixN xs.length n = some q) : sSetI i mb ma ρ = .nx (ρ2.set i (.ow (.lst (xs.set q d)))) := by
  unfold sSetI sDo
  rw [h]
  dsimp only
  rw [h0]
  dsimp only [owLst]
  rw [hk]
  dsimp only
  rw [h1]
  dsimp only [owLst]
  rw [hq]
theorem st_for {t : D → Rho → R Rho} {it : M (List D)} {b : MS} {o : SO} (h : it ρ = .ok ds ρ1) (hl : forLoop t b ds ρ1 = o) : sFor t it b ρ = o := by
  unfold sFor sDo
  rw [h]
  exact hl
theorem for_nil {t : D → Rho → R Rho} {b : MS} : forLoop t b [] ρ = .nx ρ := rfl
theorem for_nx {t : D → Rho → R Rho} {b : MS} {o : SO} (ht : t d ρ = .ok ρ1) (hb : b ρ1 = .nx ρ2) (h : forLoop t b ds ρ2 = o) : forLoop t b (d :: ds) ρ = o := by
  show (match t d ρ with
    | .bad => .bad
    | .ok ρ1 => (b ρ1).turn (forLoop t b ds)) = o
  rw [ht]
  dsimp only
  rw [hb]
  exact h
theorem wh_end {c : M Bool} {b : MS} {n : Nat} (hc : c ρ = .ok false ρ1) : whLoop c b (n + 1) ρ = .nx ρ1 := by
  unfold whLoop
  rw [hc]
theorem wh_go {c : M Bool} {b : MS} {n : Nat} {o : SO} (hc : c ρ = .ok true ρ1) (hb : b ρ1 = .nx ρ2) (h : whLoop c b n ρ2 = o) : whLoop c b (n + 1) ρ = o := by
  unfold whLoop
  rw [hc]
  dsimp only
  rw [hb]
  exact h
theorem fn_run {N : Nat} {mask : List Nat} {rk : Rk} {mm : MS} {ρ0 : Rho} (h0 : startR N mask ds = ρ0) (h : mm ρ0 = .ret d ρ1) : runFn N mask rk mm ds = .ok d (outsOf mask ρ1) := by
  unfold runFn
  rw [h0, h]
  rfl
end
end DL

set_option Elab.async false
set_option linter.all false
set_option maxRecDepth 100000
set_option maxHeartbeats 400000
namespace DL
open PySem PySem.Spec PyProof.Rows L2
/-! ### a mirror without .any in place of one with it -/
/-- r stands under s: s is r, whatever the places -/
def FO.le (r : FO) : FO → Prop
  | .any f => ∀ a, FO.le r (f a)
  | s => r = .bad ∨ r = s
theorem post_le {g : Gx} {mask : List Nat} {rk : Rk} {F H : Hp} {vs : List V} {Q : VK} {E : XK} {r : FO} (h : fPost g mask rk F H vs Q E r) : ∀ {s : FO}, FO.le r s → fPost g mask rk F H vs Q E s
  | .any f, k => fun a => post_le h (k a)
  | .ok d outs, k => by
    rcases k with k | k
    · rw [k] at h; exact h.elim
    · rw [k] at h; exact h
  | .exn c x outs, k => by
    rcases k with k | k
    · rw [k] at h; exact h.elim
    · rw [k] at h; exact h
  | .bad, k => by
    rcases k with k | k
    · rw [k] at h; exact h.elim
    · rw [k] at h; exact h
theorem Fw.le {P : Program} {w : World} {K : PySem.W.Frag} {mg : Str → Option Value} {base : Heap} {x : Str} {st : Stmt} {mask : List Nat} {rk : Rk} {n k : Nat} {fn fn' : Fn} {ps : List Str} (h : Fw P w K mg base x st ps mask rk n k fn) (hl : ∀ ds, FO.le (fn' ds) (fn ds)) : Fw P w K mg base x st ps mask rk n k fn' := by
  obtain ⟨f, fd, D, G, hm⟩ := h
  refine ⟨f, fd, D, G.imp fun vs H Q E q => ?_, hm⟩
  obtain ⟨F, ds, A, hn, q⟩ := q
  exact ⟨F, ds, A, hn, post_le q (hl ds)⟩
/-- one answer for all places -/
noncomputable def FO.flat : FO → FO
  | .any f => open Classical in if h : ∃ s, ∀ a, (f a).flat = s then Classical.choose h else .bad
  | .ok d outs => .ok d outs
  | .exn c v outs => .exn c v outs
  | .bad => .bad
theorem FO.bad_le : ∀ r : FO, FO.le .bad r
  | .any f => fun a => FO.bad_le (f a)
  | .ok _ _ => .inl rfl
  | .exn _ _ _ => .inl rfl
  | .bad => .inl rfl
theorem FO.flat_le : ∀ r : FO, FO.le r.flat r
  | .any f => fun a => by
    unfold FO.flat
    by_cases h : ∃ s, ∀ a, (f a).flat = s
    · rw [dif_pos h, ← Classical.choose_spec h a]
      exact FO.flat_le (f a)
    · rw [dif_neg h]
      exact FO.bad_le _
  | .ok _ _ => .inr rfl
  | .exn _ _ _ => .inr rfl
  | .bad => .inr rfl
theorem FO.flat_any {f : Addr → FO} {s : FO} (h : ∀ a, (f a).flat = s) : (FO.any f).flat = s := by
  have e : ∃ s, ∀ a, (f a).flat = s := ⟨s, h⟩
  unfold FO.flat
  rw [dif_pos e, ← Classical.choose_spec e (0 : Nat)]
  exact h _
noncomputable def flatFn (fn : Fn) : Fn := fun ds => (fn ds).flat
theorem Fw.flat {P : Program} {w : World} {K : PySem.W.Frag} {mg : Str → Option Value} {base : Heap} {x : Str} {st : Stmt} {mask : List Nat} {rk : Rk} {n k : Nat} {fn : Fn} {ps : List Str} (h : Fw P w K mg base x st ps mask rk n k fn) : Fw P w K mg base x st ps mask rk n k (flatFn fn) :=
  h.le fun ds => (fn ds).flat_le
end DL

set_option Elab.async false
set_option linter.all false
set_option maxRecDepth 100000
set_option maxHeartbeats 4000000
namespace DL
open PySem PySem.Spec PyProof.Rows L2

/-! ### a comprehension whose first walk wants a token -/
/-- what the walk J is to lead to -/
def LcTo (g : TG) (tt : TT) (te : TE) (vs : List Nat) (σ : L2.St) (Q : VK) (J : It) (H1 : Hp) : Prop := ∀ D, H1 D = none → ∃ W : Nat → Nat → Hp → Prop, (∃ m, W 0 m (upd H1 D (.lst []))) ∧ ∀ i m H, W i m H →
  (J.stop i H ∧ Q (.ref D) H) ∨ (J.go i H ∧ ∃ Nx : Hp → Prop, (∀ H', Nx H' → ∃ m', m' < m ∧ W (i + 1) m' H') ∧ ∀ x H', J.yld i H x H' → g x (wipe σ vs) H' fun σ2 H2 => wipe σ2 vs = wipe σ vs ∧ tt σ2 H2 fun b H3 =>
    if b = true then te σ2 H3 fun y H4 => ∃ acc, H4 D = some (.lst acc) ∧ acc.length < sizeLine ∧ Nx (upd H4 D (.lst (acc ++ [y]))) else Nx H3)
section
variable {X : Cx} {pins : List (Addr × Obj)} {s : Shared} {σ : L2.St} {H : Hp} {Q : VK} {elt tg iter : Expr} {ifs : List Expr} {scope : Scope} {own : List (Str × Nat)} {pos : Pos} {g : TG} {tt : TT} {te : TE}
theorem lc_at (calm : X.calm = true) (nd : X.N.Nodup) (I : Inv X pins σ H s) (ok : BlkOk X.N X.env.scope scope own)
    (PG1 : ∀ (s : Shared) (H : Hp) (C : Addr) (cl : List (Str × Addr)) (fp : List Addr), PG (X.blk s H scope (compEnvC scope cl C X.env) fp) tg g)
    (PT1 : ∀ (s : Shared) (H : Hp) (C : Addr) (cl : List (Str × Addr)) (fp : List Addr), PTs (X.blk s H scope (compEnvC scope cl C X.env) fp) ifs tt)
    (PE1 : ∀ (s : Shared) (H : Hp) (C : Addr) (cl : List (Str × Addr)) (fp : List Addr), PE (X.blk s H scope (compEnvC scope cl C X.env) fp) elt te)
    (hfold : ∀ x, foldedSetIterable iter X.env x = pure x)
    (first : wpAny (model X.prog X.w) X.A (eval iter X.env) (fun v s1 => wpAny (model X.prog X.w) X.A (pyIter v) (PIE X pins σ tg (LcTo g tt te (own.map (·.2)) σ Q)) X.xe s1) X.xe s) :
    wpAny (model X.prog X.w) X.A (eval (.ListComp elt [⟨tg, iter, ifs, 0⟩] scope pos) X.env) (EP X pins σ Q) X.xe s := by
  have cap : ∀ y ∈ scope.names, y.2 = .free → ∃ c, X.env.cells.lookup y.1 = some c := fun y hy e => (ok.free y hy e).elim (fun k => I.ok.has _ (.inl k)) fun k => I.ok.has _ (.inr k)
  rw [eval_ListComp]
  refine wpAny_comprehension_free rfl hfold (closure_ok cap) ok.kind (fun y hy e => (ok.uniq y hy).trans (congrArg some e)) (thn first fun _ _ q1 => thn q1 fun _ sB q2 => ?_)
  obtain ⟨it, fp, tn, J, HB, rfl, IB, T, tB, fB, to⟩ := q2
  refine wpAny_newObj_type (newEnv_comp ?_) (by show 0 ≤ sizeLine; decide)
  -- the new list at D
  let D := sB.heap.objs.size
  obtain ⟨W, ⟨m0, w0⟩, turn⟩ := to D (IB.hok.fresh (Nat.le_refl _))
  let lo : Obj := { cls := .type "list", data := .seq ([] : List Value).toArray }
  let sC : Shared := { sB with heap := sB.heap.push lo }
  let HC : Hp := upd HB D (.lst [])
  have IC : Inv X pins σ HC sC := IB.laid (t' := sB.toks) (fun b o e => Heap.get?_push_of_some _ e) (Nat.le_refl _) ⟨Nat.zero_le _, [], 0, .nil, Heap.get?_push_size _ rfl⟩
  have low : ∀ b ∈ fp, b < sB.heap.objs.size := fun b hb => (T.obj _ _ tB b hb).elim fun o q => Heap.lt_size q.1
  have fC : ∀ b ∈ fp, FpOk X pins HC b ∧ b < sC.heap.objs.size := fun b hb =>
    ⟨⟨(upd_ne (Nat.ne_of_lt (low b hb))).trans (fB b hb).1, (fB b hb).2⟩, by show b < (sB.heap.push lo).objs.size; rw [Heap.size_push]; exact Nat.lt_succ_of_lt (low b hb)⟩
  have tC : tn 0 sC.heap := T.keep _ _ _ tB fun b _ o e => Heap.get?_push_of_some _ e
  -- the block begins
  have IS := block_start IC ok nd fC
  let cl := cellsFrom (sC.heap.objs.size + 1) scope.names (cloFrom X.env.cells scope.names [])
  have pg := PG1 sC HC sC.heap.objs.size cl fp
  have pt := PT1 sC HC sC.heap.objs.size cl fp
  have pe := PE1 sC HC sC.heap.objs.size cl fp
  have hL : (compEnvC scope cl sC.heap.objs.size X.env).locals = sC.heap.objs.size := rfl
  show codeAny _ _ (.compStart (.ListComp elt [⟨tg, iter, ifs, 0⟩] scope pos) 0 (.ref it) (.ref D) (compEnvC scope cl sC.heap.objs.size X.env))
    (compPost (model X.prog X.w) X.A X.xe none (EP X pins σ Q) (.ref D) sC.heap.objs.size) { sC with heap := pushCells (sC.heap.push { cls := .type "dict", data := .dict #[] }) scope.names }
  have IS : Inv (X.blk sC HC scope (compEnvC scope cl sC.heap.objs.size X.env) fp) [] (wipe σ (own.map (·.2))) HC { sC with heap := pushCells (sC.heap.push { cls := .type "dict", data := .dict #[] }) scope.names } := IS
  generalize compEnvC scope cl sC.heap.objs.size X.env = ce at pg pt pe IS hL ⊢
  generalize hS : ({ sC with heap := pushCells (sC.heap.push { cls := .type "dict", data := .dict #[] }) scope.names } : Shared) = sS at IS ⊢
  have tS : tn 0 sS.heap := hS ▸ T.keep _ _ _ tC fun b _ o e => pushCells_keeps _ _ _ _ (Heap.get?_push_of_some _ e)
  have free0 : ∀ b ∈ fp, HC b = none := fun b hb => (fC b hb).1.1
  generalize hτ : wipe σ (own.map (·.2)) = τ at IS turn
  have lenτ : τ.length = σ.length := by rw [← hτ, wipe_length]
  have mine : ∀ {τ' : L2.St} {H' : Hp} {s' : Shared}, Inv (X.blk sC HC scope ce fp) [] τ' H' s' → (∀ b ∈ fp, H' b = none) → ∀ b ∈ fp, FpOk (X.blk sC HC scope ce fp) [] H' b := fun J h b hb =>
    ⟨h b hb, (J.ok.exf b hb).1, J.ok.exfs b hb, .inl hb, (J.ok.exf b hb).2, fun p hp => nomatch (show p ∈ ([] : List (Addr × Obj)) from hp)⟩
  have loop : codeAny (model X.prog X.w) X.A (.compLoop (.ListComp elt [⟨tg, iter, ifs, 0⟩] scope pos) 0 (.ref it) (.ref D) ce) (compPost (model X.prog X.w) X.A X.xe none (EP X pins σ Q) (.ref D) sC.heap.objs.size) sS := by
    refine compLoop_any (fun n s' => ∃ i H', Inv (X.blk sC HC scope ce fp) [] τ H' s' ∧ tn i s'.heap ∧ (∀ b ∈ fp, H' b = none) ∧ W i n H') ?_ m0 ⟨0, HC, IS, tS, free0, w0⟩
    intro n s5 h5
    obtain ⟨i, H5, I5, t5, n5, w5⟩ := h5
    rcases turn i n H5 w5 with ⟨stop, fin⟩ | ⟨go, Nx, back, step⟩
    · refine thnF (T.done (X.blk sC HC scope ce fp) rfl rfl rfl calm i [] s5 _ H5 (fun _ _ => False) I5 (mine I5 n5) t5 stop) fun r s6 h6 => ?_
      obtain ⟨rfl, I6⟩ := h6
      have I7 : Inv X pins σ H5 s6 := IC.call' (ch := fp) I6.os I6.base I6.hok I6.bare fun b hb => ⟨(fC b hb).1.2.2.2.1, (fC b hb).1.2.1, (fC b hb).1.2.2.2.2.1, (fC b hb).1.2.2.2.2.2⟩
      obtain ⟨m, hn, _⟩ := id I6.loc
      have z : H5 ce.locals = none := I6.free
      have hn : s6.heap.Ns ce.locals m := hn
      rw [hL] at z hn
      obtain ⟨f0, f1, f2, f3, f4, f5⟩ := IC.fpOk (H' := H5) (Nat.le_refl _) z
      exact ⟨m, hn, fun h'' sb => ⟨.ref D, H5, I7.turned (t' := s6.toks) (fun b o hb e => (sb.2 b hb).trans e) f0 f1 f3 f4 f5, rfl, fin⟩⟩
    · refine thnF (T.item (X.blk sC HC scope ce fp) rfl rfl rfl calm i [] s5 _ H5 (fun _ _ => False) I5 (mine I5 n5) t5 go) fun r s6 h6 => ?_
      obtain ⟨u, rfl, h6⟩ := h6
      refine thnF h6 fun _ s7 h7 => ?_
      obtain ⟨x, H7, I7, r7, y7, t7, n7⟩ := h7
      refine thnF (pg.run _ s7 _ H7 x u _ (I7.pinned (mine I7 n7) (T.obj _ _ t7)) r7 (step x H7 y7)) fun _ s8 h8 => ?_
      obtain ⟨σ8, H8, I8, w8, q8⟩ := h8
      refine thnF (pt.run _ s8 σ8 H8 _ I8 q8) fun b s9 h9 => ?_
      obtain ⟨H9, I9, q9⟩ := h9
      have again : ∀ {s' : Shared} {H' : Hp}, Inv (X.blk sC HC scope ce fp) ([] ++ pinsAt fp s7.heap) σ8 H' s' → Nx H' → ∃ m, m < n ∧ ∃ i H', Inv (X.blk sC HC scope ce fp) [] τ H' s' ∧ tn i s'.heap ∧ (∀ b ∈ fp, H' b = none) ∧ W i m H' := fun {s' H'} I' nx => by
        obtain ⟨m', hm, w'⟩ := back H' nx
        have kept : ∀ b ∈ fp, ∀ o, s7.heap.get? b = some o → s'.heap.get? b = some o ∧ H' b = none := fun b hb o e =>
          have z := I'.pin (b, o) (List.mem_append_right _ (List.mem_append_right _ (mem_pinsAt hb e)))
          ⟨z.1, z.2.1⟩
        have l8 : τ.length = σ8.length := by rw [lenτ, ← wipe_length σ8 (own.map (·.2)), w8, lenτ]
        refine ⟨m', hm, i + 1, H', (I'.unpinned (pins := [])).weak l8 (fun j v e => ?_), T.keep _ _ _ t7 fun b hb o e => (kept b hb o e).1, fun b hb => (T.obj _ _ t7 b hb).elim fun o q => (kept b hb o q.1).2, w'⟩
        rw [← w8] at e
        exact (wipe_some e).1
      cases b with
      | false => exact again I9 q9
      | true =>
        refine thnF (pe.run _ s9 σ8 H9 _ I9 q9) fun z sA hA => ?_
        obtain ⟨yv, HA, IA, rA, acc, e1, e2, nx⟩ := hA
        exact app_ok (X := X.blk sC HC scope ce fp) IA e1 e2 rA fun sF IF => again IF nx
  exact codeAny_compStart_list loop (T.self X.A 0 _ _ _ tS loop)
theorem pet_lc {wi : TI} (calm : X.calm = true) (nd : X.N.Nodup) (hi : PIT X tg iter wi) (ok : BlkOk X.N X.env.scope scope own)
    (PG1 : ∀ (s : Shared) (H : Hp) (C : Addr) (cl : List (Str × Addr)) (fp : List Addr), PG (X.blk s H scope (compEnvC scope cl C X.env) fp) tg g)
    (PT1 : ∀ (s : Shared) (H : Hp) (C : Addr) (cl : List (Str × Addr)) (fp : List Addr), PTs (X.blk s H scope (compEnvC scope cl C X.env) fp) ifs tt)
    (PE1 : ∀ (s : Shared) (H : Hp) (C : Addr) (cl : List (Str × Addr)) (fp : List Addr), PE (X.blk s H scope (compEnvC scope cl C X.env) fp) elt te)
    (hfold : ∀ x, foldedSetIterable iter X.env x = pure x := by intro _; rfl) : PET X (.ListComp elt [⟨tg, iter, ifs, 0⟩] scope pos) (tLc wi g tt te (own.map (·.2))) := fun pins s σ H Q h0 I h =>
  lc_at calm nd I ok PG1 PT1 PE1 hfold (hi pins s σ H _ h0 I h)
end
end DL

set_option Elab.async false
set_option linter.all false
set_option maxRecDepth 100000
set_option maxHeartbeats 4000000
namespace DL
open PySem PySem.Spec PyProof.Rows L2 CwR

/-! ### methods of texts -/
def opLower (x : D) (as : List D) : R D := match x, as with
  | .str a, [] => if a.length ≤ 5592405 then .ok (.str (Txt.lower a)) else .bad
  | _, _ => .bad
def opUpper (x : D) (as : List D) : R D := match x, as with
  | .str a, [] => if a.length ≤ 5592405 then .ok (.str (Txt.upper a)) else .bad
  | _, _ => .bad
def opStripC (x : D) (as : List D) : R D := match x, as with
  | .str a, [.str b] => if a.length ≤ 16777216 then .ok (.str (Txt.stripChars a b)) else .bad
  | _, _ => .bad
def opSplit (x : D) (as : List D) : R D := match x, as with
  | .str a, [.str b] => if b.length ≠ 0 ∧ a.length + 2 ≤ 16777216 then .ok (.lst ((Txt.split a b).map .str)) else .bad
  | _, _ => .bad
def opSIndex (x : D) (as : List D) : R D := match x, as with
  | .str a, [.str b] => (match Builtin.Str.occurrences a b 0 a.length 1 with
    | i :: _ => .ok (.int (i : Nat))
    | [] => .bad)
  | _, _ => .bad
def opStarts (x : D) (as : List D) : R D := match x, as with
  | .str a, [.str b] => .ok (.bl (Txt.startswith a b))
  | _, _ => .bad
section
variable {X : Cx} {g : Gx} {F H : Hp}
theorem strs_rep : ∀ ys : List Str, RepL g F (ys.map D.str) (ys.map V.str)
  | [] => RepL.nil
  | y :: ys => RepL.cons (by simp only [Rep]) (strs_rep ys)
theorem s_lower : SndM g (fun x xs H Q => ∃ a, x = .str a ∧ xs = [] ∧ a.length ≤ 5592405 ∧ Q (.str (Txt.lower a)) H) opLower := by
  intro F H dx x ds vs d Q s rx r e G
  cases ds with
  | cons _ _ => cases dx <;> cases e
  | nil =>
    cases dx with
    | str a =>
      have ev : vs = [] := r
      dsimp only [opLower] at e
      by_cases q : a.length ≤ 5592405
      · rw [if_pos q] at e
        cases e
        exact ⟨a, w_str rx, ev, q, G.str s⟩
      · rw [if_neg q] at e; cases e
    | _ => cases e
theorem s_upper : SndM g (fun x xs H Q => ∃ a, x = .str a ∧ xs = [] ∧ a.length ≤ 5592405 ∧ Q (.str (Txt.upper a)) H) opUpper := by
  intro F H dx x ds vs d Q s rx r e G
  cases ds with
  | cons _ _ => cases dx <;> cases e
  | nil =>
    cases dx with
    | str a =>
      have ev : vs = [] := r
      dsimp only [opUpper] at e
      by_cases q : a.length ≤ 5592405
      · rw [if_pos q] at e
        cases e
        exact ⟨a, w_str rx, ev, q, G.str s⟩
      · rw [if_neg q] at e; cases e
    | _ => cases e
theorem str2 {op : D → List D → R D} {dx x d : _} {ds : List D} {vs : List V} (h : op dx ds = .ok d) (hop : ∀ y zs d, op y zs = .ok d → ∃ a b, y = D.str a ∧ zs = [D.str b]) (rx : WRep g F H dx x) (r : WRL g F H ds vs) : ∃ a b, dx = .str a ∧ ds = [.str b] ∧ x = .str a ∧ vs = [.str b] := by
  obtain ⟨a, b, rfl, rfl⟩ := hop _ _ _ h
  obtain ⟨v, rfl, rv⟩ := wrl1 r
  exact ⟨a, b, rfl, rfl, w_str rx, by rw [w_str rv]⟩
theorem two_of {op : D → List D → R D} (h1 : ∀ y zs, (∀ a b, ¬ (y = D.str a ∧ zs = [D.str b])) → op y zs = .bad) : ∀ y zs d, op y zs = .ok d → ∃ a b, y = D.str a ∧ zs = [D.str b] := fun y zs d e => by
  by_cases q : ∃ a b, y = D.str a ∧ zs = [D.str b]
  · exact q
  · rw [h1 y zs fun a b z => q ⟨a, b, z⟩] at e
    cases e
theorem bad2 {f : Str → Str → R D} {op : D → List D → R D} (h : ∀ x as, op x as = match x, as with | .str a, [.str b] => f a b | _, _ => .bad) : ∀ y zs d, op y zs = .ok d → ∃ a b, y = D.str a ∧ zs = [D.str b] := fun y zs d e => by
  rw [h] at e
  split at e
  · exact ⟨_, _, rfl, rfl⟩
  · cases e
theorem s_stripC : SndM g (fun x xs H Q => ∃ a b, x = .str a ∧ xs = [.str b] ∧ a.length ≤ sizeLine ∧ Q (.str (Txt.stripChars a b)) H) opStripC := by
  intro F H dx x ds vs d Q s rx r e G
  obtain ⟨a, b, rfl, rfl, rfl, rfl⟩ := str2 e (bad2 fun _ _ => rfl) rx r
  dsimp only [opStripC] at e
  by_cases q : a.length ≤ 16777216
  · rw [if_pos q] at e
    cases e
    exact ⟨a, b, rfl, rfl, by rw [sizeLine_eq]; exact q, G.str s⟩
  · rw [if_neg q] at e; cases e
theorem s_split : SndM g (fun x xs H Q => ∃ a b, x = .str a ∧ xs = [.str b] ∧ (b.length == 0) = false ∧ a.length + 2 ≤ sizeLine ∧ rNewStrs (Txt.split a b) H Q) opSplit := by
  intro F H dx x ds vs d Q s rx r e G
  obtain ⟨a, b, rfl, rfl, rfl, rfl⟩ := str2 e (bad2 fun _ _ => rfl) rx r
  dsimp only [opSplit] at e
  by_cases q : b.length ≠ 0 ∧ a.length + 2 ≤ 16777216
  · rw [if_pos q] at e
    cases e
    exact ⟨a, b, rfl, rfl, by simpa using q.1, by rw [sizeLine_eq]; exact q.2, fun p hp => new_lst s (strs_rep _) G hp⟩
  · rw [if_neg q] at e; cases e
theorem s_sindex : SndM g (fun x xs H Q => ∃ a b i rest, x = .str a ∧ xs = [.str b] ∧ Builtin.Str.occurrences a b 0 a.length 1 = i :: rest ∧ Q (.int (i : Nat)) H) opSIndex := by
  intro F H dx x ds vs d Q s rx r e G
  obtain ⟨a, b, rfl, rfl, rfl, rfl⟩ := str2 e (bad2 fun _ _ => rfl) rx r
  dsimp only [opSIndex] at e
  cases q : Builtin.Str.occurrences a b 0 a.length 1 with
  | nil => rw [q] at e; cases e
  | cons i t =>
    rw [q] at e
    cases e
    exact ⟨a, b, i, t, rfl, rfl, q, G.int s⟩
theorem s_starts : SndM g (fun x xs H Q => ∃ a b, x = .str a ∧ xs = [.str b] ∧ Q (.bl (Txt.startswith a b)) H) opStarts := by
  intro F H dx x ds vs d Q s rx r e G
  obtain ⟨a, b, rfl, rfl, rfl, rfl⟩ := str2 e (bad2 fun _ _ => rfl) rx r
  cases e
  exact ⟨a, b, rfl, rfl, G.bl s⟩
end
/-! ### one of two readings, by what stands there -/
def mOr {α : Type} (c : Rho → Bool) (a b : M α) : M α := fun ρ => if c ρ = true then a ρ else b ρ
def isKd (T : Ty) (m : M D) (ρ : Rho) : Bool := match m ρ with
  | .ok d _ => isT T d
  | _ => true
section
variable {X : Cx} {fx : Fx} {W : WX} {cl eff : Bool} {e : Expr} {m1 m2 : M D}
theorem se_kd (c : Rho → Bool) (h1 : SE X fx W cl eff e m1) (h2 : SE X fx W cl eff e m2) : SE X fx W cl eff e (mOr c m1 m2) := PE.imp (PE.or h1 h2) fun σ H Q q => by
  obtain ⟨F, ρ, S, q⟩ := q
  unfold mOr at q
  cases e : c ρ with
  | true => rw [if_pos e] at q; exact .inl ⟨F, ρ, S, q⟩
  | false => rw [if_neg (by rw [e]; exact Bool.false_ne_true)] at q; exact .inr ⟨F, ρ, S, q⟩
end

/-! ### one token out -/
theorem PET.imp {X : Cx} {e : Expr} {t u : TE} (h : PET X e t) (k : ∀ σ H Q, u σ H Q → t σ H Q) : PET X e u := fun pins s σ H Q h0 I q => h pins s σ H Q h0 I (k σ H Q q)
theorem PAT.imp {X : Cx} {es : List Expr} {t u : TA} (h : PAT X es t) (k : ∀ σ H Q, u σ H Q → t σ H Q) : PAT X es u := fun pos pins s σ H Q h0 I q => h pos pins s σ H Q h0 I (k σ H Q q)
theorem PST.imp {X : Cx} {st : Stmt} {t u : TS} (h : PST X st t) (k : ∀ D σ H, u D σ H → t D σ H) : PST X st u := fun pins s σ H D h0 I q => h pins s σ H D h0 I (k D σ H q)
theorem PIT.imp {X : Cx} {tg e : Expr} {t u : TI} (h : PIT X tg e t) (k : ∀ σ H R, u σ H R → t σ H R) : PIT X tg e u := fun pins s σ H R h0 I q => h pins s σ H R h0 I (k σ H R q)
def SET (X : Cx) (fx : Fx) (W : WX) (cl eff : Bool) (e : Expr) (m : M D) : Prop := PET X e (tE (gx X) fx W cl eff m)
def SAT (X : Cx) (fx : Fx) (W : WX) (cl eff : Bool) (es : List Expr) (m : M (List D)) : Prop := PAT X es (tA (gx X) fx W cl eff m)
def SIT (X : Cx) (fx : Fx) (W : WX) (eff : Bool) (tg e : Expr) (m : M (List D)) : Prop := PIT X tg e (tI (gx X) fx W eff m)
/-- e.replace(y, z) of written texts -/
def opRepl (y z : Str) : D → R D
  | .str x => if x.length + (x.length + 1) * z.length ≤ 16777216 then .ok (.str (Txt.replace x y z)) else .bad
  | _ => .bad
def iLst (a : M D) : M (List D) := a.bind fun x => M.lift (match x with
  | .lst xs => if xs.length ≤ 16777216 then .ok xs else .bad
  | _ => .bad)
section
variable {X : Cx} {fx : Fx} {W : WX} {ca cb ea eb ei ec ee : Bool} {o e tg iter elt : Expr} {es ifs : List Expr} {mo m : M D} {ma : M (List D)} {op : D → List D → R D} {r : V → List V → Hp → VK → Prop} {nm y z : Str} {apos cpos pos c0 c1 : Pos} {id : String} {T : Ty} {j k : Nat}
theorem set_of (h : SE X fx W ca ea e m) : SET X fx W ca ea e m := CwR.PET.of h
theorem set_repl (ho : SE X fx W ca ea o mo) (hyz : (y == z) = false := by decide)
    (hst : starEach [.Constant (.str y) j c0, .Constant (.str z) k c1] X.env = [(false, eval (.Constant (.str y) j c0) X.env), (false, eval (.Constant (.str z) k c1) X.env)] := by rfl)
    (hbase : attributeBase o "replace" X.env (eval o X.env) = eval o X.env := by rfl) (hline : (apos.endLine == pos.line) = true := by rfl) :
    SET X fx W true ea (.Call (.Attribute o "replace" apos) [.Constant (.str y) j c0, .Constant (.str z) k c1] [] pos) (e1 (opRepl y z) mo) :=
  PET.imp (pet_replC ho hyz hst hbase hline) fun σ H Q h => by
    obtain ⟨F, ρ, S, h⟩ := h
    refine ⟨F, ρ, S, ?_⟩
    unfold e1 M.bind at h
    cases e1 : mo ρ with
    | bad => rw [e1] at h; exact h
    | exn c x r1 => rw [e1] at h; exact h
    | ok d ρ1 =>
      rw [e1] at h
      intro v H1 F1 G1 S1 r1
      dsimp only [M.lift] at h
      cases d with
      | str x =>
        dsimp only [opRepl] at h
        by_cases q : x.length + (x.length + 1) * z.length ≤ 16777216
        · rw [if_pos q] at h
          exact ⟨x, w_str r1.w, q, h _ H1 F1 G1 S1 (by show Rep _ _ _ _; simp only [Rep])⟩
        · rw [if_neg q] at h; exact h.elim
      | _ => exact h.elim
theorem set_bm (T : Ty) (pa : PlainAttrs T.nm) (slot : Slot T.nm nm id) (hty : typeOf (.builtin id) = pure (.type "method_descriptor")) (hm : MtR X id r) (hs : SndM (gx X) r op) (ho : SET X fx W ca ea o mo) (ha : SAT X fx W cb eb (e :: es) ma) (hc : (!eb || ca) = true := by rfl)
    (hbase : attributeBase o nm X.env (eval o X.env) = eval o X.env := by rfl)
    (hfew : ((backTo cpos (starEach (e :: es) X.env)).all (fun x => !x.1) && (backToKw cpos (keywordEach [] X.env)).all (fun x => x.1.isSome)
      && decide ((e :: es).length + ([] : List Keyword).length + (if ([] : List Keyword).isEmpty then 0 else 1) < 30)) = true := by rfl)
    (hline : (apos.endLine == cpos.line) = true := by rfl) (hst : starEach (e :: es) X.env = (false, eval e X.env) :: starEach es X.env := by rfl) (hplain : (backTo cpos (starEach es X.env)).any (·.1) = false := by rfl) :
    SET X fx W true (ea || eb) (.Call (.Attribute o nm apos) (e :: es) [] cpos) (eMT T op mo ma) := by
  refine PET.imp (t := tBM X.K T.nm r (tE (gx X) fx W ca ea mo) (tA (gx X) fx W cb eb ma)) ?_ fun σ H Q q => tE_eM hs hc q
  intro pins s σ H Q h0 I h
  refine wpAny_Call_method_late hbase hfew hline rfl (wpAny_mono (PySem.wpAny_toks (ho pins s σ H _ h0 I h)) (fun v s1 q => ?_) fun _ _ q => q.2)
  obtain ⟨hk, x, H1, I1, r1, ty, q1⟩ := q
  obtain ⟨t1, t2⟩ := tyV_is I1 r1 ty
  refine ⟨T.nm, id, pa, slot, hty, t1, t2, ?_⟩
  have hA := ha cpos pins s1 σ H1 _ (Nat.le_trans h0 hk) I1 q1
  rw [hst] at hA ⊢
  exact Calls.callWith_builtin (by show (false || (backTo cpos (starEach es X.env)).any (·.1)) = false; rw [hplain] <;> rfl) (Calls.evalArgs_plain (thn hA fun us s2 ⟨vs, H2, I2, r2, q2⟩ => hm pins s2 σ H2 x vs v us Q I2 r1 r2 q2))
theorem sat_nil : SAT X fx W true false [] aNil := fun pos pins s σ H Q _ I q => (pa_nil (X := X)).run pos pins s σ H Q I (tA_nil q)
theorem sat_cons (ha : SET X fx W ca ea e m) (hr : SAT X fx W cb eb es ma) (hc : (!eb || ca) = true := by rfl) (hst : starEach (e :: es) X.env = (false, eval e X.env) :: starEach es X.env := by rfl) : SAT X fx W (ca && cb) (ea || eb) (e :: es) (aCons m ma) :=
  PAT.imp (pat_cons ha hr hst) fun σ H Q q => tA_cons hc q
theorem sit_lst (h : SET X fx W true ea e m) : SIT X fx W ea tg e (iLst m) := PIT.imp (pit_list h) fun σ H R h => by
  obtain ⟨F, ρ, S, h⟩ := h
  refine ⟨F, ρ, S, ?_⟩
  unfold iLst M.bind at h
  cases e1 : m ρ with
  | bad => rw [e1] at h; exact h
  | exn c x r1 => rw [e1] at h; exact h
  | ok d ρ1 =>
    rw [e1] at h
    intro v H1 F1 G1 S1 r1
    dsimp only [M.lift] at h
    cases d with
    | lst xs =>
      dsimp only at h
      by_cases q : xs.length ≤ 16777216
      · rw [if_pos q] at h
        have r2 : Rep (gx X) F1 (.lst xs) v := r1
        simp only [Rep] at r2
        obtain ⟨a, vs, rfl, ea, l⟩ := r2
        have hq : SqL X.K F1 a vs := SqL.of ea
        refine ⟨a, rfl, ⟨vs, sqL_mono S1.s hq⟩, h _ H1 F1 G1 S1 ?_⟩
        refine ⟨fun i H' F' f s hi => ?_, fun i H' F' x H'' d f s e y => ?_, fun i H' F' f s hi => ⟨vs, sqL_mono (f.trans s) hq, by rw [l.length]; exact hi⟩, q⟩
        · obtain ⟨v, e, _⟩ := l.get (d := xs[i]) (List.getElem?_eq_getElem hi)
          exact ⟨vs, v, sqL_mono (f.trans s) hq, e⟩
        · obtain ⟨rfl, y⟩ := y
          obtain ⟨v, e1, r1⟩ := l.get e
          have e2 := y vs (sqL_mono (f.trans s) hq)
          rw [e1] at e2
          cases e2
          exact ⟨F', Grow.refl s, r1.mono f⟩
      · rw [if_neg q] at h; exact h.elim
    | _ => exact h.elim
theorem set_lc {is : List Nat} {t : D → Rho → R Rho} {c : M Bool} {me : M D} {mi : M (List D)} {scope : Scope} (own : List (Str × Nat)) (hc : X.calm = true) (hN : X.N.Nodup) (hi : SIT X fx W ei tg iter mi) (ok : BlkOk X.N X.env.scope scope own)
    (hg : ∀ (s : Shared) (H : Hp) (C : Addr) (cl : List (Str × Addr)) (fp : List Addr), SG (X.blk s H scope (compEnvC scope cl C X.env) fp) fx is tg t) (ht : ∀ (s : Shared) (H : Hp) (C : Addr) (cl : List (Str × Addr)) (fp : List Addr), STs (X.blk s H scope (compEnvC scope cl C X.env) fp) fx ec ifs c)
    (he : ∀ (s : Shared) (H : Hp) (C : Addr) (cl : List (Str × Addr)) (fp : List Addr), SE (X.blk s H scope (compEnvC scope cl C X.env) fp) fx W0 true ee elt me)
    (hv : (own.map (·.2)).all (fun j => !fx.ow.contains j) = true := by rfl) (hs : is.all (fun j => (own.map (·.2)).contains j) = true := by rfl) (hf : ∀ x, foldedSetIterable iter X.env x = pure x := by intro _; rfl) :
    SET X fx W true (ei || (ec || ee)) (.ListComp elt [⟨tg, iter, ifs, 0⟩] scope pos) (eLC (own.map (·.2)) t c me mi) :=
  PET.imp (pet_lc (g := tG (gx X) fx is t) (tt := tB (gx X) fx W0 ec c) (te := tE (gx X) fx W0 true ee me) hc hN hi ok hg ht he hf) fun σ H Q q => tE_lc hv hs q
/-- a def that is one return -/
theorem sst_ret (he : SET X fx W true ea e m) (hk : fx.rk = .cl := by rfl) : PSsT X [.Return (some e) pos] (tS (gx X) fx W (sRet m)) :=
  psst_one (PST.imp (pst_ret he) fun E σ H h => tS_ret hk h)
end
section
variable {P : Program} {w : World} {K : PySem.W.Frag} {mg : Str → Option Value} {base : Heap}
theorem fn_okT {x qual : Str} {st : Stmt} {f : Addr} {fd : FuncData} {N ps : List Str} {k : Nat} {mask : List Nat} {rk : Rk} {m : MS} (FF : DF K x qual st f fd) (S : FnScope N ps (defScope st)) (hl : ps.length ≤ N.length) (hnc : ∀ y ∈ (defScope st).names, y.2 ≠ .cell) (h1 : 1 ≤ ps.length)
    (hbody : ∀ (cdv : Value) (A : Around) (outer : List Env) (s : Shared) (H : Hp) (E : XK) (F : Hp) (O : List (Nat × Addr)), Room k (A.deeper (envOfC qual (defScope st) s.heap.objs.size f cdv)) →
      PSsT (cxOf (L2.CX P w) P w K mg base N qual (defScope st) f cdv A outer s H E) (defBody st) (tS ⟨K, mg⟩ ⟨F, H, O, mask, rk⟩ (fun cls d _ H => E cls d H) m)) :
    FnOk P w K mg base (L2.CX P w) (k + 1) f fd ps (spOf ⟨K, mg⟩ mask rk ps.length (runFn N.length mask rk m)) := by
  obtain ⟨oc, od, dV, kV, doc, pm, an, cdv, ct, osl, rfl, lk, hcd, _⟩ := FF.ex
  refine fn_ofT lk hcd S hnc h1 (fun vs H Q E h => ?_) (fun A outer s H vs Q E hr h => ?_)
  · obtain ⟨F, ds, A, hn, _⟩ := h
    rw [A.len, hn]
  · obtain ⟨F, ds, AA, hn, h⟩ := h
    exact ⟨_, hbody cdv A outer s H E F (ownOf mask vs) hr, F, startR N.length mask ds, st_start AA (by omega), fo_post AA h⟩
end
end DL

set_option Elab.async false
set_option linter.all false
set_option maxRecDepth 100000
set_option maxHeartbeats 4000000
namespace DL
open PySem PySem.Spec PyProof.Rows L2

/-! ### C(e) as a value: whatever its place -/
theorem pe_new {X : Cx} {e : Expr} {t : L2.St → Hp → XK → Prop} (hx0 : X.ex = []) (h : PMk X e t) :
    PE X e (fun σ H Q => t σ H fun cls d H' => ∀ a, H' a = none → ∃ C dd, cls = .ref C ∧ d = some dd ∧ Q (.ref a) (upd H' a (ExT C dd a))) := by
  refine ⟨fun pins s σ H Q I q => thn (h pins s σ H _ I q) fun u s1 hu => ?_⟩
  obtain ⟨a, oe, vs, sI, H', cls, d, rfl, J, k, hne, ha, hz, hd, h1, na, os, ag, r, q⟩ := hu
  obtain ⟨C, dd, rfl, rfl, q2⟩ := q a na
  have J1 : Inv X pins σ H' s1 := J.call' (ch := []) os (Un.kept k) (J.hok.kept k) ag fun b hb => nomatch hb
  have nL : a ≠ X.env.locals := fun z => by
    obtain ⟨m, ⟨o, _, _, ho, _⟩, _⟩ := J.loc
    rw [← z, hne] at ho
    cases ho
  have nC : ∀ x c, X.env.cells.lookup x = some c → c ≠ a := fun x c e z => by
    obtain ⟨v, o, ho, _⟩ := J.cell x c e
    rw [z, hne] at ho
    cases ho
  have np : ∀ p ∈ X.pn ++ pins, p.1 ≠ a := fun p hp z => by
    have e := (J.pin p hp).1
    rw [z, hne] at e
    cases e
  have n0 : X.s_0.heap.get? a = none := by
    cases e : X.s_0.heap.get? a with
    | none => rfl
    | some o =>
      obtain ⟨o', z⟩ := J.base.there a o e (by rw [hx0]; exact fun z => nomatch z)
      rw [hne] at z
      cases z
  exact ⟨.ref a, _, inv_track J1 na n0 nL nC np (ext_ok ha hz.1 hz.2 hd), rfl, q2⟩
section
variable (g : Gx) (fx : Fx) (W : WX)
def tEf (eff : Bool) (fam : Addr → M D) : TE := fun σ H Q => ∃ F ρ, ST g fx σ H F ρ ∧ ∀ a, match fam a ρ with
  | .ok d ρ' => ∀ v H' F', Go eff σ F H ρ F' H' ρ' → ST g fx σ H' F' ρ' → Rep g F' d v → Q v H'
  | .exn c x ρ' => ∀ cls dd H' F', Go true σ F H ρ F' H' ρ' → ST g fx σ H' F' ρ' → XR g F' c x cls dd → W cls dd σ H'
  | .bad => False
def tAf (eff : Bool) (fam : Addr → M (List D)) : TA := fun σ H Q => ∃ F ρ, ST g fx σ H F ρ ∧ ∀ a, match fam a ρ with
  | .ok ds ρ' => ∀ vs H' F', Go eff σ F H ρ F' H' ρ' → ST g fx σ H' F' ρ' → VRL true g F' H' ds vs → Q vs H'
  | .exn c x ρ' => ∀ cls dd H' F', Go true σ F H ρ F' H' ρ' → ST g fx σ H' F' ρ' → XR g F' c x cls dd → W cls dd σ H'
  | .bad => False
end
def SEf (X : Cx) (fx : Fx) (W : WX) (eff : Bool) (e : Expr) (fam : Addr → M D) : Prop := PE X e (tEf (gx X) fx W eff fam)
def SAf (X : Cx) (fx : Fx) (W : WX) (eff : Bool) (es : List Expr) (fam : Addr → M (List D)) : Prop := PA X es (tAf (gx X) fx W eff fam)
def eNew (c : Str) (m : M D) (a : Addr) : M D := m.bind fun d => M.pure (.exc a c d)
section
variable {X : Cx} {fx : Fx} {W : WX} {ca ea eb : Bool} {e : Expr} {es : List Expr} {m : M D} {ma : M (List D)} {fam : Addr → M D} {fal : Addr → M (List D)} {σ : L2.St} {H : Hp} {p pos : Pos}
theorem tEf_new {c : Str} {C : Addr} {Q : VK} (T : OexC X.K C) (TC : XcC X.K C) (hm : X.mg c = some (.ref C)) (h : tEf (gx X) fx W ea (eNew c m) σ H Q) :
    tMkO C (spInit X.K) [] (tCons (tE (gx X) fx W true ea m) tNil) σ H fun cls d H' => ∀ a, H' a = none → ∃ C dd, cls = .ref C ∧ d = some dd ∧ Q (.ref a) (upd H' a (ExT C dd a)) := by
  obtain ⟨F, ρ, S, h⟩ := h
  refine ⟨F, ρ, S, ?_⟩
  unfold eNew M.bind at h
  cases e1 : m ρ with
  | bad => have h := h (0 : Nat); rw [e1] at h; exact h
  | exn c' x r => have h := h (0 : Nat); rw [e1] at h; exact h
  | ok d ρ1 =>
    rw [e1] at h
    intro v H1 F1 G1 S1 r1
    refine ⟨Nat.le_of_ble_eq_true rfl, fun a na => ⟨a, C, v, rfl, T, TC.hv, upd_same, fun dx n1 n2 => ⟨rfl, dx, _, upd_same, by rw [upd_ne n2, upd_same], ?_, ?_⟩⟩⟩
    · rw [upd_ne n2] at n1
      exact n1
    · have nd : H1 dx = none := by rw [upd_ne n2] at n1; exact n1
      have eh : upd (del (upd (upd (upd H1 a (exo a C none)) dx (exd dx [("value", v)])) a (exo a C (some dx))) a) dx (.xd [("value", v)]) = upd H1 dx (.xd [("value", v)]) := by
        funext b
        by_cases hb : b = dx
        · subst hb
          rw [upd_same, upd_same]
        · rw [upd_ne hb, upd_ne hb]
          by_cases ha : b = a
          · subst ha
            rw [del_same, na]
          · rw [del_ne ha, upd_ne ha, upd_ne hb, upd_ne ha]
      rw [eh]
      intro b nb
      refine ⟨C, dx, rfl, rfl, ?_⟩
      have ne : dx ≠ b := fun z => by
        rw [← z, upd_same] at nb
        cases nb
      have G2 := Grow.new S1.s (p := dx) (o := .xd [("value", v)]) nd
      have G3 := Grow.new G2.s (p := b) (o := ExT C dx b) nb
      refine h b (.ref b) _ (upd (upd F1 dx (.xd [("value", v)])) b (ExT C dx b)) (by
        have q := G1.trans (Go.of (eff := false) (ρ := ρ1) (G2.trans G3))
        rwa [Bool.or_false] at q) (S1.grow (G2.trans G3)) ?_
      show Rep (gx X) _ (.exc b c d) _
      simp only [Rep]
      exact ⟨C, dx, v, trivial, hm, TC, upd_same, by rw [upd_ne ne, upd_same], r1.mono (G2.trans G3).f⟩
theorem sef_new {c : Str} {k : Nat} (C : Xd X.prog X.w X.K X.mg X.base c k) (hx0 : X.ex = []) (hr : Room (k + 1) X.A) (he : SE X fx W true ea e m) (hg : Gl X c := by rfl)
    (hdb : (c == ("__debug__" : Str)) = false := by decide) (hst : starEach [e] X.env = (false, eval e X.env) :: starEach [] X.env := by rfl) (hpl : (backTo pos (starEach [] X.env)).any (·.1) = false := by rfl) :
    SEf X fx W ea (.Call (.Name c p) [e] [] pos) (eNew c m) := by
  obtain ⟨Ca, fI, fd, ps, T, TC, iC, tI, F1, hb, hm⟩ := C.ex
  exact PE.imp (pe_new hx0 (pmk_oex T iC tI F1 hr hb .nil (fun _ _ _ _ _ _ _ h => by
    obtain ⟨_, _, _, _, _, _, _, _, _, _, _, _, z⟩ := h
    exact z.elim) hg hm (pa_cons he pa_nil hst) hdb hst hpl)) fun σ H Q h => tEf_new T TC hm h
theorem saf_last (he : SEf X fx W ea e fam) (hst : starEach [e] X.env = (false, eval e X.env) :: starEach [] X.env := by rfl) : SAf X fx W ea [e] (fun a => aCons (fam a) aNil) :=
  PA.imp (pa_cons he pa_nil hst) fun σ H Q h => by
    obtain ⟨F, ρ, S, h⟩ := h
    refine ⟨F, ρ, S, fun a => ?_⟩
    have h := h a
    dsimp only at h
    unfold aCons M.bind at h
    cases e1 : fam a ρ with
    | bad => rw [e1] at h; exact h
    | exn c x r => rw [e1] at h; exact h
    | ok d ρ1 =>
      rw [e1] at h
      exact fun v H1 F1 G1 S1 r1 => h [v] H1 F1 G1 S1 ⟨v, [], rfl, r1, rfl⟩
theorem saf_cons (he : SE X fx W true ea e m) (hr : SAf X fx W eb es fal) (hst : starEach (e :: es) X.env = (false, eval e X.env) :: starEach es X.env := by rfl) : SAf X fx W (ea || eb) (e :: es) (fun a => aCons m (fal a)) :=
  PA.imp (pa_cons he hr hst) fun σ H Q h => by
    obtain ⟨F, ρ, S, h⟩ := h
    refine ⟨F, ρ, S, ?_⟩
    dsimp only at h
    unfold aCons M.bind at h
    cases e1 : m ρ with
    | bad => have h := h (0 : Nat); rw [e1] at h; exact h
    | exn c x r => have h := h (0 : Nat); rw [e1] at h; exact h
    | ok d ρ1 =>
      rw [e1] at h
      intro v H1 F1 G1 S1 r1
      refine ⟨F1, ρ1, S1, fun a => ?_⟩
      have h := h a
      dsimp only at h
      cases e2 : fal a ρ1 with
      | bad => rw [e2] at h; exact h
      | exn c x r => rw [e2] at h; exact xst G1 h
      | ok ds ρ2 =>
        rw [e2] at h
        exact fun vs H2 F2 G2 S2 r2 => h (v :: vs) H2 F2 (G1.trans G2) S2 ⟨v, vs, rfl, Rep.mono G2.f r1, r2⟩
theorem sef_lst (h : SAf X fx W ea es fal) : SEf X fx W ea (.List es pos) (fun a => eN mkLst (fal a)) := PE.imp (pe_lst h) fun σ H Q h => by
  obtain ⟨F, ρ, S, h⟩ := h
  refine ⟨F, ρ, S, fun a => ?_⟩
  have h := h a
  dsimp only at h
  unfold eN M.bind at h
  cases e1 : fal a ρ with
  | bad => rw [e1] at h; exact h
  | exn c x r1 => rw [e1] at h; exact h
  | ok ds ρ1 =>
    rw [e1] at h
    intro vs H1 F1 G1 S1 r1
    dsimp only [M.lift, mkLst] at h
    by_cases q : ds.length ≤ 16777216
    · rw [if_pos q] at h
      refine ⟨by rw [r1.length, sizeLine_eq]; exact q, fun p hp => new_lst S1.s r1.rep (fun v H2 F2 G2 r2 => ?_) hp⟩
      exact h v H2 F2 (by
        have q := G1.trans (Go.of (eff := false) (ρ := ρ1) G2)
        rwa [Bool.or_false] at q) (S1.grow G2) r2
    · rw [if_neg q] at h; exact h.elim
theorem tEf_callO {s n : Nat} {fn : Fn} {Q : VK} {g : Gx} (hn : ∀ a ρ ds ρ', fal a ρ = .ok ds ρ' → ds.length = n) (h : tEf g fx W true (fun a => eCallO fn s (fal a)) σ H Q) : tCallS (spOf g [0] .cl (n + 1) fn) (WE W) (tCons (tVar s) (tAf g fx W ea fal)) σ H Q := by
  obtain ⟨F, ρ, S, h⟩ := h
  have hz := h (0 : Nat)
  dsimp only at hz
  unfold eCallO at hz
  cases e0 : ρ[s]? with
  | none => rw [e0] at hz; exact hz.elim
  | some x =>
    cases x with
    | no => rw [e0] at hz; exact hz.elim
    | cl d => rw [e0] at hz; exact hz.elim
    | ow d0 =>
      clear hz
      obtain ⟨a, ea', _, _, _⟩ := S.ow s d0 e0
      refine ⟨.ref a, ea', F, ρ, S, fun b => ?_⟩
      have h := h b
      dsimp only at h
      unfold eCallO at h
      rw [e0] at h
      dsimp only at h
      cases e1 : fal b ρ with
      | bad => rw [e1] at h; exact h
      | exn c x r1 => rw [e1] at h; exact h
      | ok ds ρ1 =>
        rw [e1] at h
        dsimp only at h
        intro vs H1 F1 G1 S1 r1
        cases e2 : ρ1[s]? with
        | none => rw [e2] at h; exact h.elim
        | some x =>
          rw [e2] at h
          cases x with
          | no => exact h.elim
          | cl d => exact h.elim
          | ow d =>
            dsimp only at h
            obtain ⟨b', eb, fb, ob, _⟩ := S1.ow s d e2
            rw [ea'] at eb
            cases eb
            have AA : Args g [0] F1 H1 (d :: ds) (.ref a :: vs) := by
              refine ⟨S1.s, by simp [r1.length], fun i e hi he => ?_, fun i e hi he => ?_, fun i j c hi hj _ _ => ?_, fun i hi => ?_⟩
              · have z : i = 0 := by simpa using hi
                subst z
                cases he
                exact ⟨a, rfl, fb, ob⟩
              · cases i with
                | zero => exact absurd (by simp) hi
                | succ i =>
                  obtain ⟨v, e1, r⟩ := r1.rep.get (i := i) (d := e) (by simpa using he)
                  exact ⟨v, by simpa using e1, r⟩
              · have z1 : i = 0 := by simpa using hi
                have z2 : j = 0 := by simpa using hj
                rw [z1, z2]
              · have z1 : i = 0 := by simpa using hi
                subst z1
                simp
            refine ⟨F1, d :: ds, AA, by rw [List.length_cons, hn _ _ _ _ e1], ?_⟩
            cases e3 : fn (d :: ds) with
            | bad => rw [e3] at h; exact h.elim
            | any f => rw [e3] at h; exact h.elim
            | ok r outs =>
              rw [e3] at h
              match outs, h with
              | [d'], h =>
                intro v H' F' A r'
                obtain ⟨S2, G2⟩ := S1.handed e2 ea' rfl A
                exact h v H' F' (by
                  have q := G1.trans G2
                  rwa [Bool.or_true] at q) S2 r'
              | [], h => exact h.elim
              | _ :: _ :: _, h => exact h.elim
            | exn c x outs =>
              rw [e3] at h
              match outs, h with
              | [d'], h =>
                intro cls dd H' F' A r'
                obtain ⟨S2, G2⟩ := S1.handed e2 ea' rfl A
                exact h cls dd H' F' (G1.trans G2).up S2 r'
              | [], h => exact h.elim
              | _ :: _ :: _, h => exact h.elim
theorem aCons_lenf {m : Addr → M D} {fal : Addr → M (List D)} {n : Nat} (h : ∀ a ρ ds ρ', fal a ρ = .ok ds ρ' → ds.length = n) : ∀ a ρ ds ρ', aCons (m a) (fal a) ρ = .ok ds ρ' → ds.length = n + 1 := fun a => aCons_len (h a)
theorem sef_callO (s : Nat) {x y : Str} {k n : Nat} {fn : Fn} {py : Pos} (C : Fd X.prog X.w X.K X.mg X.base x [0] .cl (n + 1) k fn) (hr : Room k X.A) (tk : Takes X W) (ha : SAf X fx W ea es fal) (hn : ∀ a ρ ds ρ', fal a ρ = .ok ds ρ' → ds.length = n) (hg : Gl X x := by rfl)
    (hN : X.N[s]? = some y := by rfl) (hv : Vis X.env.scope y := by first | exact Or.inl rfl | exact Or.inr (Or.inl rfl) | exact Or.inr (Or.inr rfl)) (hd : (y == ("__debug__" : Str)) = false := by decide) (hcd : (y == ("__classdict__" : Str)) = false := by decide)
    (hdb : (x == ("__debug__" : Str)) = false := by decide) (he : starEach (.Name y py :: es) X.env = (false, eval (.Name y py) X.env) :: starEach es X.env := by rfl) (hpl : (backTo pos (starEach es X.env)).any (·.1) = false := by rfl) :
    SEf X fx W true (.Call (.Name x p) (.Name y py :: es) [] pos) (fun a => eCallO fn s (fal a)) := by
  obtain ⟨f, fd, ps, F, hm, hk, hb⟩ := C.ex
  exact PE.imp (pe_callS F hr hg hm hk hb (fun σ => passAt tk σ) (pa_cons (pv s hN hv hd hcd) ha he) hdb he hpl) fun σ H Q q => tEf_callO hn q
/-- x = .., whatever the place -/
def sAny (f : Addr → MS) : MS := fun ρ => .any fun a => f a ρ
theorem ssf_asg {is : List Nat} {t : D → Rho → R Rho} {tg : Expr} (he : SEf X fx W ea e fam) (hg : SG X fx is tg t) (ht : TgOk is t := by first | exact tgName_ok | exact tgTup_ok) (hs : swapsWithSole [tg] e pos.line X.env = pure false := by rfl) (hw : swappedStores [tg] e X.env = pure none := by rfl)
    (h1 : (assignEach [tg] X.env).map (·.2) = [assign tg X.env] := by rfl) : SS X fx W (.Assign [tg] e pos) (sAny fun a => sAsg (fam a) t) := PS.imp (ps_asg he hg hs hw h1) fun E σ H h => by
  obtain ⟨F, ρ, S, h⟩ := h
  refine ⟨F, ρ, S, fun a => ?_⟩
  have h : sPost (gx X) fx W E σ F H ρ (sAsg (fam a) t ρ) := h a
  unfold sAsg sDo at h
  cases e1 : fam a ρ with
  | bad => rw [e1] at h; exact h
  | exn c x r =>
    rw [e1] at h
    exact xgs h
  | ok d ρ1 =>
    rw [e1] at h
    intro v H1 F1 G1 S1 r1
    refine ⟨F1, ρ1, d, S1, r1, ?_⟩
    dsimp only [sTo] at h
    cases e2 : t d ρ1 with
    | bad => rw [e2] at h; exact h
    | ok ρ2 =>
      rw [e2] at h
      exact fun σ' S' T N U => h σ' H1 F1 (G1.gs.trans (Gs.to N T (ht d ρ1 ρ2 e2))) S'
end
end DL

set_option Elab.async false
set_option linter.all false
set_option maxRecDepth 100000
set_option maxHeartbeats 4000000
namespace DL
open PySem PySem.Spec PyProof.Rows L2
/-! ### constants of the top -/
theorem vals_strs2 : ∀ ys : List (Str × Tok), Vals (ys.map fun p => V.str p.1) (ys.map fun p => Value.str p.1 p.2)
  | [] => .nil
  | p :: ys => .cons ⟨p.2, rfl⟩ (vals_strs2 ys)
theorem rep_strs2 {g : Gx} {F : Hp} : ∀ ys : List (Str × Tok), RepL g F (ys.map fun p => D.str p.1) (ys.map fun p => V.str p.1)
  | [] => RepL.nil
  | p :: ys => RepL.cons (by simp only [Rep]) (rep_strs2 ys)
/-- a tuple of written texts -/
theorem glob_strs {K : PySem.W.Frag} {mg : Str → Option Value} {x : Str} {a : Addr} {dd : Option Addr} {n : Nat} {sl : Array (Option Value)} (ys : List (Str × Tok)) (hm : mg x = some (.ref a))
    (h : K.lookup a = some ⟨.type "tuple", dd, .seq (ys.map fun p => Value.str p.1 p.2).toArray n, sl⟩) (hz : ys.length ≤ sizeLine) : ∃ v u, mg x = some u ∧ RelV v u ∧ ∀ F, Rep ⟨K, mg⟩ F (.tup (ys.map fun p => D.str p.1)) v :=
  ⟨.ref a, .ref a, hm, rfl, fun F => by
    simp only [Rep]
    exact ⟨a, ys.map fun p => V.str p.1, rfl, .inr ⟨_, _, _, h, rfl, rfl, by simpa using hz, by simpa using vals_strs2 ys⟩, rep_strs2 ys⟩⟩
theorem glob_str {K : PySem.W.Frag} {mg : Str → Option Value} {x y : Str} {t : Tok} (hm : mg x = some (.str y t)) : ∃ v u, mg x = some u ∧ RelV v u ∧ ∀ F, Rep ⟨K, mg⟩ F (.str y) v := ⟨.str y, .str y t, hm, ⟨t, rfl⟩, fun F => by simp only [Rep]⟩
theorem glob_int {K : PySem.W.Frag} {mg : Str → Option Value} {x : Str} {i : Int} {t : Tok} (hm : mg x = some (.int i t)) : ∃ v u, mg x = some u ∧ RelV v u ∧ ∀ F, Rep ⟨K, mg⟩ F (.int i) v := ⟨.int i, .int i t, hm, ⟨t, rfl⟩, fun F => by simp only [Rep]⟩
end DL

set_option Elab.async false
set_option linter.all false
set_option maxRecDepth 100000
set_option maxHeartbeats 4000000
namespace DL
open PySem PySem.Spec PyProof.Rows L2
/-! ### dicts are read -/
def dget (kvs : List (Key × D)) (k : Key) : Option D := (kvs.find? fun kv => decide (kv.1 = k)).map (·.2)
def keyOf : D → Option Key
  | .int i => some (.inl i)
  | .str s => some (.inr s)
  | _ => none
def opCGet (kvs : List (Key × D)) (y : D) : R D := match keyOf y with
  | some k => (match dget kvs k with
    | some d => .ok d
    | none => .bad)
  | none => .bad
def opCIn (kvs : List (Key × D)) (y : D) : R D := match keyOf y with
  | some k => .ok (.bl (dget kvs k).isSome)
  | none => .bad
def opCNotIn (kvs : List (Key × D)) (y : D) : R D := match keyOf y with
  | some k => .ok (.bl (!(dget kvs k).isSome))
  | none => .bad
def opDGet (x y : D) : R D := match x with
  | .dic kvs => opCGet kvs y
  | _ => .bad
def opDIn (y x : D) : R D := match x with
  | .dic kvs => opCIn kvs y
  | _ => .bad
def opDNotIn (y x : D) : R D := match x with
  | .dic kvs => opCNotIn kvs y
  | _ => .bad
section
variable {g : Gx} {F H : Hp}
theorem repK_val {k : Key} : ∀ {kvs : List (Key × D)} {vs : List (Key × V)}, RepK g F kvs vs → match dget kvs k with
    | some d => ∃ v, valV vs k = some v ∧ Rep g F d v
    | none => valV vs k = none
  | [], vs, h => by
    simp only [RepK] at h
    subst h
    exact valV_nil
  | (k0, x) :: kvs, vs, h => by
    simp only [RepK] at h
    obtain ⟨v, r, rfl, h1, h2⟩ := h
    by_cases e : k0 = k
    · have q : dget ((k0, x) :: kvs) k = some x := by simp [dget, List.find?_cons, e]
      rw [q]
      exact ⟨v, valV_pos e, h1⟩
    · have q : dget ((k0, x) :: kvs) k = dget kvs k := by simp [dget, List.find?_cons, e]
      rw [q, valV_neg (p := (k0, v)) e]
      exact repK_val h2
theorem keyOf_w {d : D} {k : Key} {v : V} (e : keyOf d = some k) (r : WRep g F H d v) : v = kV k := by
  cases d with
  | int i => cases e; exact w_int r
  | str s => cases e; exact w_str r
  | _ => cases e
end
def rDGet : R2 := fun x y H Q => ∃ a v, x = .ref a ∧ DGet H a y (some v) ∧ Q v H
def rDIn (neg : Bool) : R2 := fun y x H Q => ∃ a o, x = .ref a ∧ DGet H a y o ∧ Q (.bl (if neg then !o.isSome else o.isSome)) H
section
variable {g : Gx}
theorem s_dget : Snd2 g rDGet opDGet := by
  intro F H dx dy x y d Q s rx ry e G
  cases dx with
  | dic kvs =>
    obtain ⟨a, vs, rfl, ha, l⟩ := w_dic s rx
    dsimp only [opDGet, opCGet] at e
    cases q : keyOf dy with
    | none => rw [q] at e; cases e
    | some k =>
      rw [q] at e
      dsimp only at e
      have r := repK_val (k := k) l
      cases q2 : dget kvs k with
      | none => rw [q2] at e; cases e
      | some d2 =>
        rw [q2] at e r
        cases e
        obtain ⟨v, e1, r1⟩ := r
        exact ⟨a, v, rfl, .inl ⟨vs, k, ha, keyOf_w q ry, e1.symm⟩, G.val s r1⟩
  | _ => cases e
theorem dic_has {kvs : List (Key × D)} {vs : List (Key × V)} {F : Hp} {k : Key} (l : RepK g F kvs vs) : (dget kvs k).isSome = (valV vs k).isSome := by
  have r := repK_val (k := k) l
  cases q2 : dget kvs k with
  | none => rw [q2] at r; rw [r]; rfl
  | some d => rw [q2] at r; obtain ⟨v, e, _⟩ := r; rw [e]; rfl
theorem s_din : Snd2 g (rDIn false) opDIn := by
  intro F H dy dx y x d Q s ry rx e G
  cases dx with
  | dic kvs =>
    obtain ⟨a, vs, rfl, ha, l⟩ := w_dic s rx
    dsimp only [opDIn, opCIn] at e
    cases q : keyOf dy with
    | none => rw [q] at e; cases e
    | some k =>
      rw [q] at e
      cases e
      refine ⟨a, valV vs k, rfl, .inl ⟨vs, k, ha, keyOf_w q ry, rfl⟩, ?_⟩
      rw [← dic_has l]
      exact G.bl s
  | _ => cases e
theorem s_dnotIn : Snd2 g (rDIn true) opDNotIn := by
  intro F H dy dx y x d Q s ry rx e G
  cases dx with
  | dic kvs =>
    obtain ⟨a, vs, rfl, ha, l⟩ := w_dic s rx
    dsimp only [opDNotIn, opCNotIn] at e
    cases q : keyOf dy with
    | none => rw [q] at e; cases e
    | some k =>
      rw [q] at e
      cases e
      refine ⟨a, valV vs k, rfl, .inl ⟨vs, k, ha, keyOf_w q ry, rfl⟩, ?_⟩
      rw [← dic_has l]
      exact G.bl s
  | _ => cases e
end
section
variable {X : Cx}
theorem op_dIn (hu : X.A.units + 64 < cLine) : OpR X (compareOp .In) (rDIn false) := by
  intro pins s σ H x y v u Q I rx ry h
  obtain ⟨a, o, rfl, g, q⟩ := h
  cases ry
  exact d_in (by omega) I g rx fun s' I' => ⟨.bl o.isSome, H, I', rfl, q⟩
theorem op_dNotIn (hu : X.A.units + 64 < cLine) : OpR X (compareOp .NotIn) (rDIn true) := by
  intro pins s σ H x y v u Q I rx ry h
  obtain ⟨a, o, rfl, g, q⟩ := h
  cases ry
  exact d_notIn (by omega) I g rx fun s' I' => ⟨.bl (!o.isSome), H, I', rfl, q⟩
end
section
variable {X : Cx} {fx : Fx} {W : WX} {ca cb ea eb : Bool} {a b : Expr} {ma mb : M D} {pos : Pos}
theorem se_dget (hu : X.A.units + 64 < cLine) (ha : SE X fx W ca ea a ma) (hb : SE X fx W cb eb b mb) (hs : NoSl b := by exact (fun _ _ => rfl)) (hc : (!eb || ca) = true := by rfl) : SE X fx W true (ea || eb) (.Subscript a b pos) (e2 opDGet ma mb) :=
  PE.imp (pe_dget (by omega) ha hb hs) fun σ H Q h => tE_e2 (r := rDGet) s_dget hc h
end

/-! ### a dict of the module's top -/
def DcC (w : World) (K : PySem.W.Frag) (mg : Str → Option Value) (x : Str) (kvs : List (Key × D)) : Prop :=
  ∃ (a : Addr) (o : Obj) (es : Array DictEntry) (ep : Nat) (ws : List (Key × V)) (vs : List (Key × Value)), mg x = some (.ref a) ∧ (a == sysModules) = false ∧ K.lookup a = some o ∧ o.ExactDict ∧ o.data = .dict es ep ∧ ws.length ≤ sizeLine ∧ KV ws vs ∧
    (∀ F, RepK ⟨K, mg⟩ F kvs ws) ∧ ∀ P : Program, KeysOf (mixKind P w) es ∧ Pairs (mixKind P w) es.toList vs ∧ (vs.map (·.1)).Nodup
/-- the pairs -/
def ItC (ws : List (Key × V)) : It :=
  ⟨fun i _ => i < ws.length, fun i H x H' => ∃ T k v, ws[i]? = some (k, v) ∧ x = .ref T ∧ H T = none ∧ H' = upd H T (.tup [kV k, v]), fun i _ => ws.length ≤ i⟩
def pairsD (kvs : List (Key × D)) : List D := kvs.map fun p => .tup [keyD p.1, p.2]
theorem itC_rep {g : Gx} {F : Hp} {kvs : List (Key × D)} {ws : List (Key × V)} (r : RepK g F kvs ws) (hl : ws.length ≤ 16777216) : ItRep g (ItC ws) (pairsD kvs) F where
  go := fun i H' F' f s hi => by
    show i < ws.length
    rw [r.length]
    simpa [pairsD] using hi
  yld := fun i H' F' x H'' d f s e y => by
    obtain ⟨T, k, v, hk, rfl, hT, rfl⟩ := y
    unfold pairsD at e
    rw [List.getElem?_map] at e
    cases q : kvs[i]? with
    | none => rw [q] at e; cases e
    | some p =>
      rw [q] at e
      cases e
      obtain ⟨w, hw, r1⟩ := r.get (k := p.1) (d := p.2) q
      rw [hk] at hw
      cases hw
      refine ⟨_, Grow.new s hT (o := .tup [kV p.1, v]), ?_⟩
      simp only [Rep]
      exact ⟨T, _, rfl, SqT.of upd_same, RepL.cons keyD_rep (RepL.cons (r1.mono (f.trans (Grow.new s hT).f)) RepL.nil)⟩
  stop := fun i H' F' f s hi => by
    show ws.length ≤ i
    rw [r.length]
    simpa [pairsD] using hi
  len := by
    have := r.length
    simp [pairsD]
    omega
section
variable {X : Cx} {pins : List (Addr × Obj)} {σ : L2.St} {H : Hp} {s : Shared} {a : Addr} {o : Obj} {es : Array DictEntry} {ep : Nat} {vs : List (Key × Value)}
theorem atK (I : Inv X pins σ H s) (hk : X.K.lookup a = some o) (hx : o.ExactDict) (hd : o.data = .dict es ep) (hp : KeysOf (mixKind X.prog X.w) es ∧ Pairs (mixKind X.prog X.w) es.toList vs ∧ (vs.map (·.1)).Nodup) :
    s.heap.DictAt (mixKind X.prog X.w) a vs ep := ⟨o, es, I.kIn a o hk, hx, hd, hp⟩
end
theorem turn_itemsK {P : Program} {w : World} {K : PySem.W.Frag} {a : Addr} {o : Obj} {es : Array DictEntry} {ep : Nat} {ws : List (Key × V)} {vs : List (Key × Value)} {elts : List Expr} {kk : Nat} {tpos : Pos} (z : Addr)
    (hk : K.lookup a = some o) (hx : o.ExactDict) (hd : o.data = .dict es ep) (rel : KV ws vs) (hp : KeysOf (mixKind P w) es ∧ Pairs (mixKind P w) es.toList vs ∧ (vs.map (·.1)).Nodup) :
    Turn P w K (.Tuple elts kk tpos) (ItC ws) [z] z (fun i h => ∃ k0 v0, IsItemIter h z a i vs.length ep k0 v0) where
  mem := List.mem_singleton.mpr rfl
  obj := fun i h st b hb => by
    rw [List.mem_singleton.mp hb]
    exact let ⟨_, _, e⟩ := st; ⟨_, e, fun v q => nomatch q⟩
  keep := fun i h h' st k => let ⟨k0, v0, e⟩ := st; ⟨k0, v0, k z (List.mem_singleton.mpr rfl) _ e⟩
  item := by
    rintro X rfl rfl rfl hc i pins s σ H E I hf ⟨k0, v0, it0⟩ (hi : i < ws.length)
    have dict := atK I hk hx hd hp
    have there : ws[i]? = some ws[i] := List.getElem?_eq_getElem hi
    generalize ws[i] = kv at there
    cases kv with
    | mk k v =>
      obtain ⟨u, hu, ru⟩ := kv_get rel there
      have zlt : z < s.heap.objs.size := Heap.lt_size it0
      refine wpAny_pyNext_items_item it0 dict hu fun key h' hkey ho hT hz kept => ⟨_, rfl, wpAny_letOwnedTupleGo_items (s := { s with heap := h' }) ho fun h'' it1 sb => ?_⟩
      have tup : h''.get? s.heap.objs.size = some { cls := .type "tuple", data := .seq #[key, u] } := (sb.2 _ (Nat.ne_of_gt zlt)).trans hT
      have fresh := I.hok.fresh (Nat.le_refl s.heap.objs.size)
      have new : ObjOk X.prog X.w (upd H s.heap.objs.size (.tup [kV k, v])) h'' s.heap.objs.size (.tup [kV k, v]) := ⟨by show 2 ≤ sizeLine; decide, [key, u], .cons (relV_key (show keyIs k key = true from hkey)) (.cons ru .nil), _, tup, rfl, _, rfl⟩
      refine ⟨.ref s.heap.objs.size, upd H s.heap.objs.size (.tup [kV k, v]), I.turnedNew (t' := s.toks) (ch := [z]) (fun b ob hb e => ?_) hf (Nat.le_refl _) new, rfl, ⟨_, k, v, there, rfl, fresh, rfl⟩, ⟨key, u, it1⟩, fun b hb => ?_⟩
      · have hb : b ≠ z := fun q => hb (q ▸ List.mem_singleton.mpr rfl)
        exact (sb.2 b hb).trans (kept b ob hb e)
      · rw [List.mem_singleton.mp hb, upd_ne (Nat.ne_of_lt zlt)]
        exact (hf z (List.mem_singleton.mpr rfl)).1
  done := by
    rintro X rfl rfl rfl hc i pins s σ H E I hf ⟨k0, v0, it0⟩ (hi : ws.length ≤ i)
    have f := hf z (List.mem_singleton.mpr rfl)
    have hl : ws.length = vs.length := Paired.length rel
    exact wpAny_pyNext_items_end (I.ok.hd hc) it0 (atK I hk hx hd hp) (List.getElem?_eq_none (by omega)) fun h' eb => ⟨rfl, I.turned (t' := s.toks) (fun b ob hb e => eb b ob hb e) f.1 f.2.1 f.2.2.2.1 f.2.2.2.2.1 f.2.2.2.2.2⟩
  self := fun A i s Q E st h => let ⟨_, _, e⟩ := st; PySem.W.kcp_self e h
section
variable {X : Cx} {fx : Fx} {W : WX} {ca ea : Bool} {b : Expr} {mb : M D} {x : Str} {kvs : List (Key × D)} {pos p apos cpos tpos : Pos} {elts : List Expr} {kk : Nat}
def rCGet (ws : List (Key × V)) : V → Hp → VK → Prop := fun y H Q => ∃ k v, y = kV k ∧ valV ws k = some v ∧ Q v H
def rCIn (neg : Bool) (ws : List (Key × V)) : V → Hp → VK → Prop := fun y H Q => ∃ k, y = kV k ∧ Q (.bl (if neg then !(valV ws k).isSome else (valV ws k).isSome)) H
theorem s_cget {g : Gx} {ws : List (Key × V)} (l : ∀ F, RepK g F kvs ws) : Snd1 g (rCGet ws) (opCGet kvs) := by
  intro F H dx y d Q s ry e G
  unfold opCGet at e
  cases q : keyOf dx with
  | none => rw [q] at e; cases e
  | some k =>
    rw [q] at e
    dsimp only at e
    have r := repK_val (k := k) (l F)
    cases q2 : dget kvs k with
    | none => rw [q2] at e; cases e
    | some d2 =>
      rw [q2] at e r
      cases e
      obtain ⟨v, e1, r1⟩ := r
      exact ⟨k, v, keyOf_w q ry, e1, G.val s r1⟩
theorem s_cin {g : Gx} {ws : List (Key × V)} (l : ∀ F, RepK g F kvs ws) : Snd1 g (rCIn false ws) (opCIn kvs) := by
  intro F H dx y d Q s ry e G
  unfold opCIn at e
  cases q : keyOf dx with
  | none => rw [q] at e; cases e
  | some k =>
    rw [q] at e
    cases e
    refine ⟨k, keyOf_w q ry, ?_⟩
    rw [← dic_has (l F)]
    exact G.bl s
theorem s_cnotIn {g : Gx} {ws : List (Key × V)} (l : ∀ F, RepK g F kvs ws) : Snd1 g (rCIn true ws) (opCNotIn kvs) := by
  intro F H dx y d Q s ry e G
  unfold opCNotIn at e
  cases q : keyOf dx with
  | none => rw [q] at e; cases e
  | some k =>
    rw [q] at e
    cases e
    refine ⟨k, keyOf_w q ry, ?_⟩
    rw [← dic_has (l F)]
    exact G.bl s
theorem se_cget (T : DcC X.w X.K X.mg x kvs) (hb : SE X fx W ca ea b mb) (hg : Gl X x := by rfl) (hs : NoSl b := by exact (fun _ _ => rfl)) (hdb : (x == ("__debug__" : Str)) = false := by decide) :
    SE X fx W true ea (.Subscript (.Name x p) b pos) (e1 (opCGet kvs) mb) := by
  obtain ⟨a, o, es, ep, ws, vs, hm, hz, hk, hx, hd, hl, rel, rep, hp⟩ := T
  refine PE.imp (t := tUn (rCGet ws) (tE (gx X) fx W ca ea mb)) ⟨fun pins s σ H Q I h => ?_⟩ fun σ H Q h => tE_e1 (s_cget rep) h
  refine subD_of PySem.F.slot_dict_getitem.lookup hs (thn ((pe_glob (v := V.ref a) hg hm rfl hdb).run pins s σ H (fun x H1 => x = .ref a ∧ tUn (rCGet ws) (tE (gx X) fx W ca ea mb) σ H1 Q) I ⟨rfl, h⟩) fun u s1 ⟨x, H1, I1, rx, ex, q1⟩ => thn (hb.run pins s1 σ H1 _ I1 q1) fun iv s2 ⟨y, H2, I2, ry, k, v, ey, e2, q2⟩ => ?_)
  subst ex ey
  obtain rfl : u = Value.ref a := rx
  have dd := (atK I2 hk hx hd (hp X.prog)).dictOf
  obtain ⟨w', hw, rw'⟩ := RelO.some_of (v := v) (o := valueAt vs k) (by rw [← e2]; exact rel.val k)
  exact ⟨dd.typeIs, wpAny_getItem_of (kV_is ry) dd.mapOf hw ⟨v, H2, I2.tok _, rw', q2⟩⟩
theorem op_cIn {neg : Bool} {a : Addr} {o : Obj} {es : Array DictEntry} {ep : Nat} {ws : List (Key × V)} {vs : List (Key × Value)} (hz : (a == sysModules) = false) (hk : X.K.lookup a = some o) (hx : o.ExactDict) (hd : o.data = .dict es ep) (rel : KV ws vs)
    (hp : ∀ P : Program, KeysOf (mixKind P X.w) es ∧ Pairs (mixKind P X.w) es.toList vs ∧ (vs.map (·.1)).Nodup) : OpR X (compareOp (if neg then .NotIn else .In)) (fun y x H Q => x = .ref a ∧ rCIn neg ws y H Q) := by
  intro pins s σ H x y v u Q I rx ry h
  obtain ⟨rfl, k, rfl, q⟩ := h
  cases ry
  have dd := (atK I hk hx hd (hp X.prog)).dictOf
  cases neg with
  | false =>
    refine wpAny_in_of (kV_is rx) hz dd.mapOf ⟨_, H, I.tok _, ?_, q⟩
    show _ = _
    rw [(rel.val k).isSome_eq]
    rfl
  | true =>
    refine wpAny_notIn_of (kV_is rx) hz dd.mapOf ⟨_, H, I.tok _, ?_, q⟩
    show _ = _
    rw [(rel.val k).isSome_eq]
    rfl
theorem tE_cin {g : Gx} {σ : L2.St} {H : Hp} {Q : VK} {neg : Bool} {a : Addr} {ws : List (Key × V)} {op : D → R D} (hs : Snd1 g (rCIn neg ws) op) (h : tE g fx W true ea (e1 op mb) σ H Q) :
    tOp (fun y x H Q => x = .ref a ∧ rCIn neg ws y H Q) (tE g fx W ca ea mb) (tC (.ref a)) σ H Q := by
  have q : tUn (rCIn neg ws) (tE g fx W ca ea mb) σ H Q := tE_e1 hs h
  obtain ⟨F, ρ, S, q⟩ := q
  refine ⟨F, ρ, S, ?_⟩
  cases e : mb ρ with
  | bad => rw [e] at q; exact q
  | exn c x r => rw [e] at q; exact q
  | ok d r =>
    rw [e] at q
    exact fun v H' F' G S' R => ⟨rfl, q v H' F' G S' R⟩
theorem se_cin (T : DcC X.w X.K X.mg x kvs) (hb : SE X fx W ca ea b mb) (hg : Gl X x := by rfl) (hm' : behindInMarks .In (.Name x p) = false := by rfl) (hdb : (x == ("__debug__" : Str)) = false := by decide) :
    SE X fx W true ea (.Compare b [.In] [.Name x p] pos) (e1 (opCIn kvs) mb) := by
  obtain ⟨a, o, es, ep, ws, vs, hm, hz, hk, hx, hd, hl, rel, rep, hp⟩ := T
  exact PE.imp (pe_cmpR (op_cIn (neg := false) hz hk hx hd rel hp) hb (pe_glob (v := V.ref a) hg hm rfl hdb) hm') fun σ H Q h => tE_cin (s_cin rep) h
theorem se_cnotIn (T : DcC X.w X.K X.mg x kvs) (hb : SE X fx W ca ea b mb) (hg : Gl X x := by rfl) (hm' : behindInMarks .NotIn (.Name x p) = false := by rfl) (hdb : (x == ("__debug__" : Str)) = false := by decide) :
    SE X fx W true ea (.Compare b [.NotIn] [.Name x p] pos) (e1 (opCNotIn kvs) mb) := by
  obtain ⟨a, o, es, ep, ws, vs, hm, hz, hk, hx, hd, hl, rel, rep, hp⟩ := T
  exact PE.imp (pe_cmpR (op_cIn (neg := true) hz hk hx hd rel hp) hb (pe_glob (v := V.ref a) hg hm rfl hdb) hm') fun σ H Q h => tE_cin (s_cnotIn rep) h
theorem sb_cin (T : DcC X.w X.K X.mg x kvs) (hb : SE X fx W ca ea b mb) (hg : Gl X x := by rfl) (hm' : behindInMarks .In (.Name x p) = false := by rfl) (hdb : (x == ("__debug__" : Str)) = false := by decide) :
    SB X fx W ea (.Compare b [.In] [.Name x p] pos) (bOf (e1 (opCIn kvs) mb)) := by
  obtain ⟨a, o, es, ep, ws, vs, hm, hz, hk, hx, hd, hl, rel, rep, hp⟩ := T
  exact PT.imp (pt_cmpR (op_cIn (neg := false) hz hk hx hd rel hp) hb (pe_glob (v := V.ref a) hg hm rfl hdb) hm') fun σ H Q h => by
    have q : tTest (tE (gx X) fx W true ea (e1 (opCIn kvs) mb)) σ H Q := tB_of h
    exact tE_cin (s_cin rep) q
theorem sb_cnotIn (T : DcC X.w X.K X.mg x kvs) (hb : SE X fx W ca ea b mb) (hg : Gl X x := by rfl) (hm' : behindInMarks .NotIn (.Name x p) = false := by rfl) (hdb : (x == ("__debug__" : Str)) = false := by decide) :
    SB X fx W ea (.Compare b [.NotIn] [.Name x p] pos) (bOf (e1 (opCNotIn kvs) mb)) := by
  obtain ⟨a, o, es, ep, ws, vs, hm, hz, hk, hx, hd, hl, rel, rep, hp⟩ := T
  exact PT.imp (pt_cmpR (op_cIn (neg := true) hz hk hx hd rel hp) hb (pe_glob (v := V.ref a) hg hm rfl hdb) hm') fun σ H Q h => by
    have q : tTest (tE (gx X) fx W true ea (e1 (opCNotIn kvs) mb)) σ H Q := tB_of h
    exact tE_cin (s_cnotIn rep) q
/-- for k, v in X.items(), of the top -/
def iPairs (kvs : List (Key × D)) : M (List D) := M.pure (pairsD kvs)
theorem si_citems (T : DcC X.w X.K X.mg x kvs) (hg : Gl X x := by rfl) (hdb : (x == ("__debug__" : Str)) = false := by decide) (hbase : attributeBase (.Name x p) "items" X.env (eval (.Name x p) X.env) = eval (.Name x p) X.env := by rfl) (hline : (apos.endLine == cpos.line) = true := by rfl) :
    SI X fx W false (.Tuple elts kk tpos) (.Call (.Attribute (.Name x p) "items" apos) [] [] cpos) (iPairs kvs) := by
  obtain ⟨a, o, es, ep, ws, vs, hm, hz, hk, hx, hd, hl, rel, rep, hp⟩ := T
  refine ⟨fun pins s σ H R I h => ?_⟩
  obtain ⟨F1, ρ, S, h⟩ := h
  refine wpAny_Call_method (T := "dict") (id := "dict.items") hbase rfl hline F.plainAttrs_dict F.slot_dict_items F.type_dict_items (thn ((pe_glob (v := V.ref a) hg hm rfl hdb).run pins s σ H (fun x H1 => x = .ref a ∧ H1 = H) I ⟨rfl, rfl⟩) fun u s1 ⟨x, H1, I1, rx, ex, eh⟩ => ?_)
  subst ex eh
  obtain rfl : u = Value.ref a := rx
  have dict := atK I1 hk hx hd (hp X.prog)
  have hlen : ws.length = vs.length := Paired.length rel
  refine ⟨dict.dictOf.typeIs, dict.dictOf.mapOf.noDict, ?_⟩
  have I2 : Inv X pins σ H1 { s1 with heap := s1.heap.push { cls := .type "dict_items", data := .fields #[.ref a] } } := I1.kept (t' := s1.toks) fun b ob q => Heap.get?_push_of_some _ q
  have q : R (ItC ws) H1 := h _ H1 F1 (Go.refl S.s) S (itC_rep (rep F1) (by rw [← sizeLine_eq]; exact hl))
  have walk : wpAny (model X.prog X.w) X.A (pyIter (.ref s1.heap.objs.size)) (PIE X pins σ (.Tuple elts kk tpos) R) X.xe { s1 with heap := s1.heap.push { cls := .type "dict_items", data := .fields #[.ref a] } } :=
    wpAny_pyIter_items (d := a) (knd := mixKind X.prog X.w) ⟨_, Heap.get?_push_size _ rfl, rfl, rfl⟩ (dict.push _) (pi_one (tk := s1.toks) I2 _ (turn_itemsK _ hk hx hd rel (hp X.prog)) ⟨.none, .none, Heap.get?_push_size _ rfl⟩ q)
  show wpAny _ _ (callWith cpos (.builtin "dict.items") [.ref a] [] []) _ X.xe s1
  exact method_meetsIn F.slot_dict_items F.entry_dict_items rfl (PySem.evalArgs_none ⟨rfl, dict.dictOf.typeIs, F.args_dict_items_1 _, _, meets_dict_items (mixKind X.prog X.w) a hz, ⟨vs, dict.dictOf⟩, walk⟩)
end
end DL

set_option Elab.async false
set_option linter.all false
set_option maxRecDepth 100000
set_option maxHeartbeats 4000000
namespace DL
open PySem PySem.Spec PyProof.Rows L2
/-! ### displays of dicts -/
/-- keys and values in turn -/
def pairUp : List D → Option (List (Key × D))
  | [] => some []
  | k :: d :: r => match keyOf k, pairUp r with
    | some k, some ps => some ((k, d) :: ps)
    | _, _ => none
  | _ => none
def mkDic (ds : List D) : R D := match pairUp ds with
  | some kvs => if kvs.length ≤ 15 ∧ (kvs.map (·.1)).Nodup then .ok (.dic kvs) else .bad
  | none => .bad
theorem mergeK_new : ∀ {more kvs : List (Key × V)}, ((kvs ++ more).map (·.1)).Nodup → mergeK kvs more = kvs ++ more
  | [], kvs, _ => (List.append_nil kvs).symm
  | p :: r, kvs, h => by
    have e : valV kvs p.1 = none := by
      cases q : valV kvs p.1 with
      | none => rfl
      | some v =>
        have : ∃ kv ∈ kvs, kv.1 = p.1 := by
          unfold valV at q
          obtain ⟨kv, h1, _⟩ := Option.map_eq_some_iff.mp q
          exact ⟨kv, List.mem_of_find?_eq_some h1, by simpa using List.find?_some h1⟩
        obtain ⟨kv, m, e⟩ := this
        rw [List.map_append, List.nodup_append] at h
        exact absurd e (h.2.2 _ (List.mem_map.mpr ⟨kv, m, rfl⟩) _ (List.mem_map.mpr ⟨p, List.mem_cons_self, rfl⟩))
    show mergeK (putK kvs p.1 p.2) r = _
    rw [putK_new p.2 e, mergeK_new (by simpa using h)]
    simp
theorem repK_keys {g : Gx} {F : Hp} : ∀ {kvs : List (Key × D)} {vs : List (Key × V)}, RepK g F kvs vs → vs.map (·.1) = kvs.map (·.1)
  | [], vs, h => by
    simp only [RepK] at h
    rw [h]
    rfl
  | (k, x) :: kvs, vs, h => by
    simp only [RepK] at h
    obtain ⟨v, r, rfl, h1, h2⟩ := h
    simp [repK_keys h2]
/-- what a reading of pairs has of the values in turn -/
def turns : List (V × V) → List V
  | [] => []
  | p :: r => p.1 :: p.2 :: turns r
theorem pairUp_rep {g : Gx} {F H : Hp} : ∀ {ps : List (V × V)} {ds : List D} {kvs : List (Key × D)}, VRL true g F H ds (turns ps) → pairUp ds = some kvs → ∃ vs : List (Key × V), ps = vs.map (fun kv => (kV kv.1, kv.2)) ∧ RepK g F kvs vs
  | [], [], kvs, _, e => by
    cases e
    exact ⟨[], rfl, by simp only [RepK]⟩
  | [], d :: ds, kvs, h, e => by
    obtain ⟨v, r, q, _⟩ := h
    cases q
  | p :: ps, [], kvs, h, e => by
    have h : turns (p :: ps) = [] := h
    cases h
  | p :: ps, [d], kvs, h, e => by cases e
  | p :: ps, k :: d :: ds, kvs, h, e => by
    obtain ⟨v, r, q, h1, v2, r2, q2, h2, h3⟩ := h
    cases q
    cases q2
    unfold pairUp at e
    cases e1 : keyOf k with
    | none => rw [e1] at e; cases e
    | some k' =>
      cases e2 : pairUp ds with
      | none => rw [e1, e2] at e; cases e
      | some kvs' =>
        rw [e1, e2] at e
        cases e
        obtain ⟨vs, rfl, rr⟩ := pairUp_rep h3 e2
        have hk : p.1 = kV k' := keyOf_w e1 (VR.w h1)
        refine ⟨(k', p.2) :: vs, by rw [List.map_cons, ← hk], ?_⟩
        simp only [RepK]
        exact ⟨_, _, rfl, h2, rr⟩
section
variable {X : Cx} {fx : Fx} {W : WX} {eff ea eb : Bool} {m : M (List D)} {pos : Pos}
theorem tA_mono {g : Gx} {ca : Bool} {σ : L2.St} {H : Hp} {Q Q' : List V → Hp → Prop} (h : tA g fx W ca ea m σ H Q) (k : ∀ v H', Q v H' → Q' v H') : tA g fx W ca ea m σ H Q' := by
  obtain ⟨F, ρ, S, h⟩ := h
  refine ⟨F, ρ, S, ?_⟩
  cases e1 : m ρ with
  | bad => rw [e1] at h; exact h
  | exn c x r1 => rw [e1] at h; exact h
  | ok d ρ1 =>
    rw [e1] at h
    exact fun v H' F' G S' R => k v H' (h v H' F' G S' R)
/-- the pairs of a display, by their values in turn -/
def SD (X : Cx) (fx : Fx) (W : WX) (eff : Bool) (pos : Pos) (ks : List (Option Expr)) (vs : List Expr) (m : M (List D)) : Prop :=
  ∃ trs, PPs X pos ks vs trs ∧ ∀ σ H (Q : List (V × V) → Hp → Prop), tA (gx X) fx W true eff m σ H (fun ws H' => ∀ ps, turns ps = ws → Q ps H') → tPairs trs σ H Q
theorem sd_nil : SD X fx W false pos [] [] aNil := ⟨[], pps_nil, fun σ H Q h => by
  have q := tA_nil h
  exact q [] rfl⟩
theorem sd_cons {k v : Expr} {ks : List (Option Expr)} {vs : List Expr} {mk mv : M D} (hk : SE X fx W true ea k mk) (hv : SE X fx W true eb v mv) (hr : SD X fx W eff pos ks vs m) :
    SD X fx W (ea || (eb || eff)) pos (some k :: ks) (v :: vs) (aCons mk (aCons mv m)) := by
  obtain ⟨trs, P, h⟩ := hr
  refine ⟨_, pps_cons hk hv P, fun σ H Q q => ?_⟩
  have q1 := tA_cons (ca := true) (cb := true) (by cases ea <;> cases eb <;> cases eff <;> rfl) q
  refine tE_mono q1 ?_
  intro x H1 q2
  have q3 := tA_cons (ca := true) (cb := true) (by cases eb <;> cases eff <;> rfl) q2
  refine tE_mono q3 ?_
  intro y H2 q4
  refine h σ H2 _ (tA_mono q4 ?_)
  intro ws H3 q5 ps e
  exact q5 ((x, y) :: ps) (by rw [← e]; rfl)
theorem tE_disp {trs : List (TE × TE)} {σ : L2.St} {H : Hp} {Q : VK} (hp : ∀ σ H (Q : List (V × V) → Hp → Prop), tA (gx X) fx W true eff m σ H (fun ws H' => ∀ ps, turns ps = ws → Q ps H') → tPairs trs σ H Q)
    (h : tE (gx X) fx W true eff (eN mkDic m) σ H Q) : tPLock (tDisp trs) σ H Q := by
  intro p hp0
  apply hp
  obtain ⟨F, ρ, S, h⟩ := h
  have G0 := Grow.big S.s hp0 (o := .dK [])
  have S0 := S.grow G0
  have no : ∀ (i : Nat) d, ρ[i]? = some (.ow d) → σ[i]? ≠ some (some (.ref p)) := S.ow_ne hp0
  refine ⟨F, ρ, S0, ?_⟩
  unfold eN M.bind at h
  cases e1 : m ρ with
  | bad => rw [e1] at h; exact h
  | exn c x r1 =>
    rw [e1] at h
    exact fun cls dd H' F' G S' R => h cls dd H' F' ((Go.of (eff := true) G0).trans G) S' R
  | ok ds ρ1 =>
    rw [e1] at h
    dsimp only [M.lift, mkDic] at h
    intro ws H' F' G S' R ps eps
    subst eps
    cases e2 : pairUp ds with
    | none => rw [e2] at h; exact h.elim
    | some kvs =>
      rw [e2] at h
      dsimp only at h
      by_cases c : kvs.length ≤ 15 ∧ (kvs.map (·.1)).Nodup
      · rw [if_pos c] at h
        obtain ⟨vs, rfl, rr⟩ := pairUp_rep R e2
        have hk := repK_keys rr
        have hl : vs.length = kvs.length := rr.length
        refine ⟨G.k p _ upd_same no, vs, rfl, by omega, ?_⟩
        have em : mergeK [] vs = vs := mergeK_new (by rw [List.nil_append, hk]; exact c.2)
        rw [em]
        refine .inr ⟨p, .dK vs, upd_same, trivial, fun od => ?_⟩
        rw [upd_upd]
        have fp : F' p = none := by
          cases q : F' p with
          | none => rfl
          | some u =>
            rcases G.n p u q with z | z | ⟨i, d, z1, z2⟩
            · rw [S.s p u z] at hp0; cases hp0
            · rw [upd_same] at z; cases z
            · exact absurd z2 (no i d z1)
        have f : ∀ w : HO, Sub F' (upd F' p w) := fun w b x hb => by
          rw [upd_ne (ne_of_none hb fp)]
          exact hb
        have no' : ∀ (i : Nat) d, ρ1[i]? = some (.ow d) → σ[i]? ≠ some (some (.ref p)) := fun i d hd => by
          obtain ⟨e, he⟩ := G.o i d hd
          exact no i e he
        have GG := (Go.of (eff := false) (σ := σ) (ρ := ρ) G0).trans G
        rw [Bool.false_or] at GG
        refine h (.ref p) (upd H' p (.frz od (.dK vs))) (upd F' p (.frz od (.dK vs))) ⟨GG.f.trans (f _), fun b x hb => ?_, GG.o, fun b x hb k => ?_, fun z => ?_, fun b x hb => ?_⟩ (S'.giveD fp (S.fresh hp0) no') ?_
        · by_cases z : b = p
          · subst z; exact .inr (.inl hp0)
          · rw [upd_ne z] at hb
            exact GG.n b x hb
        · rw [upd_ne (ne_of_none hb hp0)]
          exact GG.k b x hb k
        · obtain ⟨g1, g2⟩ := GG.g z
          refine ⟨⟨g1.f.trans (f _), fun b x hb => ?_, fun b x hb => ?_, fun b x hb => ?_⟩, g2⟩
          · rw [upd_ne (ne_of_none hb hp0)]
            exact g1.h b x hb
          · by_cases z : b = p
            · subst z; rw [upd_same] at hb ⊢; exact hb
            · rw [upd_ne z] at hb ⊢
              exact g1.s b x hb
          · by_cases z : b = p
            · subst z; exact .inr hp0
            · rw [upd_ne z] at hb
              exact g1.n b x hb
        · by_cases z : b = p
          · subst z; exact ⟨_, upd_same⟩
          · rw [upd_ne z]; exact GG.d b x hb
        · show Rep (gx X) _ _ _
          simp only [Rep]
          exact ⟨p, vs, rfl, ⟨od, upd_same⟩, rr.mono (f _)⟩
      · rw [if_neg c] at h; exact h.elim
theorem se_disp {ks : List (Option Expr)} {vs : List Expr} (hd : SD X fx W eff pos ks vs m) (hall : ks.all (·.isSome) = true := by rfl) (hl : ks.length = vs.length := by rfl) (h0 : ks ≠ [] := by exact (fun q => nomatch q)) (h15 : ks.length ≤ 15 := by decide) :
    SE X fx W true eff (.Dict ks vs pos) (eN mkDic m) := by
  obtain ⟨trs, P, h⟩ := hd
  exact PE.imp (pe_plock (pe_disp P hall hl h0 h15)) fun σ H Q q => tE_disp h q
end
/-! ### list(x) -/
def opList : List D → R D
  | [.lst xs] => .ok (.lst xs)
  | [.ros xs] => .ok (.lst xs)
  | [.tup xs] => .ok (.lst xs)
  | _ => .bad
theorem s_list {g : Gx} : SndN g (fun xs H Q => ∃ p ys, xs = [.ref p] ∧ (SqL g.K H p ys ∨ SqT g.K H p ys) ∧ ∀ l, H l = none → Q (.ref l) (upd H l (.lst ys))) opList := by
  intro F H ds vs d Q s r e G
  cases ds with
  | nil => cases e
  | cons d0 t =>
    cases t with
    | cons d1 t => cases d0 <;> cases e
    | nil =>
      obtain ⟨v, rfl, rv⟩ := wrl1 r
      cases d0 with
      | lst xs =>
        cases e
        obtain ⟨a, vs, rfl, h, l⟩ := w_lst s rv
        exact ⟨a, vs, rfl, .inl (SqL.of h), fun p hp => new_lst s l G hp⟩
      | ros xs =>
        cases e
        obtain ⟨a, vs, rfl, h, l⟩ := w_ros s rv
        exact ⟨a, vs, rfl, .inl h, fun p hp => new_lst s l G hp⟩
      | tup xs =>
        cases e
        obtain ⟨a, vs, rfl, h, l, _⟩ := w_tup s rv
        exact ⟨a, vs, rfl, .inr h, fun p hp => new_lst s l G hp⟩
      | _ => cases e
/-! ### a dict of the top: its fact -/
theorem pairs_top {w : World} : ∀ ys : List ((Str × Tok) × (Str × Tok)), ∀ P : Program, Pairs (mixKind P w) (ys.map fun p => (⟨PyData.keyHash w.params p.1.1, .str p.1.1 p.1.2, .str p.2.1 p.2.2⟩ : DictEntry)) (ys.map fun p => ((Sum.inr p.1.1 : Key), Value.str p.2.1 p.2.2))
  | [], P => .nil
  | p :: ys, P => .cons (kV_is (k := Sum.inr p.1.1) (show RelV (V.str p.1.1) _ from ⟨p.1.2, rfl⟩)) rfl (pairs_top ys P)
theorem kv_top : ∀ ys : List ((Str × Tok) × (Str × Tok)), KV (ys.map fun p => ((Sum.inr p.1.1 : Key), V.str p.2.1)) (ys.map fun p => ((Sum.inr p.1.1 : Key), Value.str p.2.1 p.2.2))
  | [] => .nil
  | p :: ys => .cons ⟨rfl, p.2.2, rfl⟩ (kv_top ys)
theorem repK_top {g : Gx} {F : Hp} : ∀ ys : List ((Str × Tok) × (Str × Tok)), RepK g F (ys.map fun p => ((Sum.inr p.1.1 : Key), D.str p.2.1)) (ys.map fun p => ((Sum.inr p.1.1 : Key), V.str p.2.1))
  | [] => by simp only [List.map_nil, RepK]
  | p :: ys => by
    simp only [List.map_cons, RepK]
    exact ⟨_, _, rfl, by simp only [Rep], repK_top ys⟩
theorem glob_dict {w : World} {K : PySem.W.Frag} {mg : Str → Option Value} {x : Str} {a : Addr} {n : Nat} (ys : List ((Str × Tok) × (Str × Tok))) (hm : mg x = some (.ref a)) (hz : (a == sysModules) = false)
    (h : K.lookup a = some ⟨.type "dict", none, .dict (ys.map fun p => (⟨PyData.keyHash w.params p.1.1, .str p.1.1 p.1.2, .str p.2.1 p.2.2⟩ : DictEntry)).toArray n, #[]⟩) (hn : (ys.map fun p => (Sum.inr p.1.1 : Key)).Nodup) (hl : ys.length ≤ sizeLine) :
    DcC w K mg x (ys.map fun p => (Sum.inr p.1.1, D.str p.2.1)) :=
  ⟨a, _, _, n, ys.map fun p => (Sum.inr p.1.1, V.str p.2.1), ys.map fun p => (Sum.inr p.1.1, Value.str p.2.1 p.2.2), hm, hz, h, ⟨rfl, rfl, rfl⟩, rfl, by rw [List.length_map]; exact hl, kv_top ys, fun F => repK_top ys, fun P =>
    ⟨fun e he => by
      obtain ⟨p, _, rfl⟩ := List.mem_map.mp (List.mem_toArray.mp he)
      exact ⟨Sum.inr p.1.1, kV_is (show RelV (V.str p.1.1) _ from ⟨p.1.2, rfl⟩), rfl⟩, pairs_top ys P, by
      rw [List.map_map]
      exact hn⟩⟩
end DL

set_option Elab.async false
set_option linter.all false
set_option maxRecDepth 100000
set_option maxHeartbeats 4000000
namespace DL
open PySem PySem.Spec PyProof.Rows L2
/-! ### xs[::-1], enumerate(xs) -/
def opRev : D → R D
  | .lst xs => .ok (.lst xs.reverse)
  | .ros xs => .ok (.lst xs.reverse)
  | _ => .bad
theorem RepL.app {g : Gx} {F : Hp} : ∀ {xs ys : List D} {vs ws : List V}, RepL g F xs vs → RepL g F ys ws → RepL g F (xs ++ ys) (vs ++ ws)
  | [], ys, vs, ws, h, k => by
    simp only [RepL] at h
    subst h
    exact k
  | x :: xs, ys, vs, ws, h, k => by
    simp only [RepL] at h
    obtain ⟨v, r, rfl, h1, h2⟩ := h
    show RepL g F (x :: (xs ++ ys)) (v :: (r ++ ws))
    simp only [RepL]
    exact ⟨v, _, rfl, h1, RepL.app h2 k⟩
theorem RepL.rev {g : Gx} {F : Hp} : ∀ {xs : List D} {vs : List V}, RepL g F xs vs → RepL g F xs.reverse vs.reverse
  | [], vs, h => by
    simp only [RepL] at h
    subst h
    simp [RepL]
  | x :: xs, vs, h => by
    simp only [RepL] at h
    obtain ⟨v, r, rfl, h1, h2⟩ := h
    rw [List.reverse_cons, List.reverse_cons]
    refine RepL.app (RepL.rev h2) ?_
    simp only [RepL]
    exact ⟨v, [], rfl, h1, rfl⟩
/-- the pairs of places and items -/
def numD : Nat → List D → List D
  | _, [] => []
  | i, d :: ds => .tup [.int (i : Nat), d] :: numD (i + 1) ds
theorem numD_get : ∀ (ds : List D) (k i : Nat), (numD k ds)[i]? = (ds[i]?).map fun d => D.tup [.int ((k + i : Nat) : Int), d]
  | [], k, i => by simp [numD]
  | d :: ds, k, 0 => by simp [numD]
  | d :: ds, k, i + 1 => by
    show (numD (k + 1) ds)[i]? = _
    rw [numD_get ds (k + 1) i, List.getElem?_cons_succ, show k + 1 + i = k + (i + 1) by omega]
theorem numD_len : ∀ (ds : List D) (k : Nat), (numD k ds).length = ds.length
  | [], _ => rfl
  | _ :: ds, k => by
    show (numD (k + 1) ds).length + 1 = _
    rw [numD_len ds (k + 1)]
    rfl
def enumD : List D → R (List D)
  | [d] => match lstOf d with
    | some xs => if xs.length ≤ 16777216 then .ok (numD 0 xs) else .bad
    | none => .bad
  | _ => .bad
def iEnumD (m : M (List D)) : M (List D) := m.bind fun xs => M.lift (enumD xs)
section
variable {g : Gx} {F : Hp}
theorem ite_rep {a : Addr} {xs : List D} {vs : List V} (h : SqL g.K F a vs) (r : RepL g F xs vs) (hl : xs.length ≤ 16777216) : ItRep g (Ite g.K a) (numD 0 xs) F where
  go := fun i H' F' f s hi => by
    rw [numD_len] at hi
    obtain ⟨v, e, _⟩ := r.get (d := xs[i]) (List.getElem?_eq_getElem hi)
    exact ⟨vs, v, sqL_mono (f.trans s) h, e⟩
  yld := fun i H' F' x H'' d f s e y => by
    obtain ⟨T, v, rfl, hT, rfl, q⟩ := y
    have q1 := q vs (sqL_mono (f.trans s) h)
    rw [numD_get, Nat.zero_add] at e
    cases k : xs[i]? with
    | none => rw [k] at e; cases e
    | some z =>
      rw [k] at e
      cases e
      obtain ⟨w, e1, r1⟩ := r.get k
      rw [q1] at e1
      cases e1
      refine ⟨_, Grow.new s hT (o := .tup [.int (i : Nat), v]), ?_⟩
      simp only [Rep]
      exact ⟨T, _, rfl, SqT.of upd_same, RepL.cons (by simp only [Rep]) (RepL.cons (r1.mono (f.trans (Grow.new s hT).f)) RepL.nil)⟩
  stop := fun i H' F' f s hi => ⟨vs, sqL_mono (f.trans s) h, by rw [numD_len] at hi; rw [r.length]; exact hi⟩
  len := by rw [numD_len]; exact hl
end
section
variable {X : Cx} {fx : Fx} {W : WX} {ca ea : Bool} {e : Expr} {m : M D} {ma : M (List D)} {k kk : Nat} {p p1 p2 p3 pos tpos : Pos} {elts : List Expr}
theorem s_rev {g : Gx} : Snd1 g (fun v H Q => ∃ (a : Addr) (xs : List V), v = .ref a ∧ SqL g.K H a xs ∧ ∀ q, H q = none → Q (.ref q) (upd H q (.lst xs.reverse))) opRev := by
  intro F H dx x d Q s rx e G
  cases dx with
  | lst xs =>
    cases e
    obtain ⟨a, vs, rfl, h, l⟩ := w_lst s rx
    exact ⟨a, vs, rfl, SqL.of h, fun p hp => new_lst s l.rev G hp⟩
  | ros xs =>
    cases e
    obtain ⟨a, vs, rfl, h, l⟩ := w_ros s rx
    exact ⟨a, vs, rfl, h, fun p hp => new_lst s l.rev G hp⟩
  | _ => cases e
theorem se_rev (he : SE X fx W ca ea e m) : SE X fx W true ea (.Subscript e (.Slice none none (some (.UnaryOp .USub (.Constant (.int 1) k p1) p2)) p3) pos) (e1 opRev m) :=
  PE.imp (pe_revL he) fun σ H Q h => tE_e1 (ca := ca) s_rev h
theorem tI_enum {g : Gx} {σ : L2.St} {H : Hp} {R : It → Hp → Prop} (h : tI g fx W ea (iEnumD ma) σ H R) : iEnum g.K (tA g fx W true ea ma) σ H R := by
  obtain ⟨F, ρ, S, h⟩ := h
  refine ⟨F, ρ, S, ?_⟩
  unfold iEnumD M.bind at h
  cases e1 : ma ρ with
  | bad => rw [e1] at h; exact h
  | exn c x r1 => rw [e1] at h; exact h
  | ok ds ρ1 =>
    rw [e1] at h
    intro vs H1 F1 G1 S1 r1
    dsimp only [M.lift] at h
    match ds, r1, h with
    | [], _, h => exact h.elim
    | _ :: _ :: _, _, h => exact h.elim
    | [a], r1, h =>
      obtain ⟨v, r, rfl, ra, rfl⟩ := r1
      have ra' : Rep g F1 a v := ra
      cases q1 : lstOf a with
      | none =>
        dsimp only [enumD] at h
        rw [q1] at h
        exact h.elim
      | some xs =>
        dsimp only [enumD] at h
        rw [q1] at h
        dsimp only at h
        by_cases c : xs.length ≤ 16777216
        · rw [if_pos c] at h
          obtain ⟨p, vs, rfl, h1, l1⟩ := lstOf_rep q1 ra'
          exact ⟨p, vs, rfl, sqL_mono S1.s h1, h _ H1 F1 G1 S1 (ite_rep h1 l1 c)⟩
        · rw [if_neg c] at h; exact h.elim
theorem si_enum (hm : X.mg "enumerate" = none) (ha : SA X fx W true ea [e] ma) (hg : Gl X "enumerate" := by rfl) (hs : starEach [e] X.env = [(false, eval e X.env)] := by rfl) :
    SI X fx W ea (.Tuple elts kk tpos) (.Call (.Name "enumerate" p) [e] [] pos) (iEnumD ma) := PI.imp (pi_enum hg hm ha hs) fun σ H R q => tI_enum q
end
end DL

set_option Elab.async false
set_option linter.all false
set_option maxRecDepth 100000
set_option maxHeartbeats 4000000
namespace DL
open PySem PySem.Spec PyProof.Rows L2
/-! ### more that is known of a value: new lists in it -/
structure NK where
  N : Hp → Hp → D → V → Prop
  hit : D → Bool
  free : ∀ H F d v, hit d = false → N H F d v
  anti : ∀ {H H0 F d v}, N H F d v → (∀ a, H a = none → H0 a = none) → N H0 F d v
  mono : ∀ {H F F' d v}, N H F d v → Sub F F' → N H F' d v
/-- a list is new -/
def N0 (H _F : Hp) (d : D) (v : V) : Prop := match d with
  | .lst _ => ∃ a, v = .ref a ∧ H a = none
  | _ => True
def k0 : NK where
  N := N0
  hit := fun d => match d with
    | .lst _ => true
    | _ => false
  free := fun H F d v h => by cases d <;> first | trivial | cases h
  anti := fun {H H0 F d v} h k => by
    cases d with
    | lst xs => obtain ⟨a, e, q⟩ := h; exact ⟨a, e, k a q⟩
    | _ => trivial
  mono := fun {H F F' d v} h s => by
    cases d with
    | lst xs => exact h
    | _ => trivial
/-- told, and a new list -/
def hit1 : D → Bool
  | .lst [.str w, .lst _] => w == "told"
  | _ => false
def N1 (H F : Hp) (d : D) (v : V) : Prop := hit1 d = true → ∃ a b x, v = .ref a ∧ F a = some (.lst [x, .ref b]) ∧ H b = none
def k1 : NK where
  N := N1
  hit := hit1
  free := fun H F d v h z => by rw [h] at z; cases z
  anti := fun h k z => by
    obtain ⟨a, b, x, e, f, q⟩ := h z
    exact ⟨a, b, x, e, f, k b q⟩
  mono := fun h s z => by
    obtain ⟨a, b, x, e, f, q⟩ := h z
    exact ⟨a, b, x, e, s _ _ f, q⟩
def tKn (g : Gx) (fx : Fx) (W : WX) (N : Hp → Hp → D → V → Prop) (eff : Bool) (m : M D) : TE := fun σ H Q => ∃ F ρ, ST g fx σ H F ρ ∧ match m ρ with
  | .ok d ρ' => ∀ v H' F', Go eff σ F H ρ F' H' ρ' → ST g fx σ H' F' ρ' → Rep g F' d v → N fx.H0 F' d v → Q v H'
  | .exn c x ρ' => ∀ cls dd H' F', Go true σ F H ρ F' H' ρ' → ST g fx σ H' F' ρ' → XR g F' c x cls dd → W cls dd σ H'
  | .bad => False
def SKn (X : Cx) (fx : Fx) (W : WX) (N : Hp → Hp → D → V → Prop) (eff : Bool) (e : Expr) (m : M D) : Prop := PE X e (tKn (gx X) fx W N eff m)
/-- data of which nothing has to be known -/
def eChk (hit : D → Bool) (m : M D) : M D := m.bind fun d ρ => if hit d then .bad else .ok d ρ
section
variable {g : Gx} {fx : Fx} {W : WX} {σ : L2.St} {H : Hp} {Q : VK} {ea eb ec : Bool} {m ma mb : M D} {ml : M (List D)} {b1 : M Bool} {k : NK}
theorem tKn_chk (h : tKn g fx W k.N ea (eChk k.hit m) σ H Q) : tE g fx W true ea m σ H Q := by
  obtain ⟨F, ρ, S, h⟩ := h
  refine ⟨F, ρ, S, ?_⟩
  unfold eChk M.bind at h
  cases e1 : m ρ with
  | bad => rw [e1] at h; exact h
  | exn c x r1 => rw [e1] at h; exact h
  | ok d ρ1 =>
    rw [e1] at h
    dsimp only at h
    cases q : k.hit d with
    | true => rw [q] at h; exact h.elim
    | false =>
      rw [q] at h
      exact fun v H' F' G S' r => h v H' F' G S' r (k.free _ _ _ _ q)
theorem tKn_if {N : Hp → Hp → D → V → Prop} (h : tKn g fx W N (ec || (ea || eb)) (eIf b1 ma mb) σ H Q) : tIf (tB g fx W ec b1) (tKn g fx W N ea ma) (tKn g fx W N eb mb) σ H Q := by
  obtain ⟨F, ρ, S, h⟩ := h
  refine ⟨F, ρ, S, ?_⟩
  unfold eIf M.bind at h
  cases e1 : b1 ρ with
  | bad => rw [e1] at h; exact h
  | exn c x r1 => rw [e1] at h; exact h
  | ok q ρ1 =>
    rw [e1] at h
    intro H1 F1 G1 S1
    dsimp only at h
    cases q with
    | true =>
      rw [if_pos rfl] at h ⊢
      refine ⟨F1, ρ1, S1, ?_⟩
      cases e2 : ma ρ1 with
      | bad => rw [e2] at h; exact h
      | exn c x r1 => rw [e2] at h; exact xst G1 h
      | ok d ρ2 =>
        rw [e2] at h
        exact fun v H2 F2 G2 S2 r2 n2 => h v H2 F2 (G1.trans (G2.le le_l)) S2 r2 n2
    | false =>
      rw [if_neg (by decide)] at h ⊢
      refine ⟨F1, ρ1, S1, ?_⟩
      cases e2 : mb ρ1 with
      | bad => rw [e2] at h; exact h
      | exn c x r1 => rw [e2] at h; exact xst G1 h
      | ok d ρ2 =>
        rw [e2] at h
        exact fun v H2 F2 G2 S2 r2 n2 => h v H2 F2 (G1.trans (G2.le le_r)) S2 r2 n2
/-- a new list is given to all -/
theorem tKn_fr (h : tKn g fx W N0 true m σ H Q) : tPLock (tF g fx W ea m) σ H Q := by
  obtain ⟨F, ρ, S, h⟩ := h
  refine ⟨F, ρ, S, ?_⟩
  cases e1 : m ρ with
  | bad => rw [e1] at h; exact h
  | exn c x r1 => rw [e1] at h; exact h
  | ok d ρ1 =>
    rw [e1] at h
    intro a H' F' G S' fa o h0 hn ha
    obtain ⟨u, hu⟩ := o.there
    have nn : ∀ w : HO, ∀ b x, upd F' a w b = some x → F b = some x ∨ H b = none ∨ ∃ (i : Nat) (d : D), ρ[i]? = some (.ow d) ∧ σ[i]? = some (some (.ref b)) := fun w b x hb => by
      by_cases z : b = a
      · subst z
        exact .inr ha
      · rw [upd_ne z] at hb
        exact G.n b x hb
    have f : ∀ w : HO, Sub F' (upd F' a w) := fun w b x hb => by
      rw [upd_ne (ne_of_none hb fa)]
      exact hb
    cases d with
    | lst xs =>
      have S2 := S'.give hu fa h0 hn
      exact .inl (h (.ref a) H' (upd F' a u) ⟨G.f.trans (f u), nn u, G.o, G.k, fun z => (nomatch z), G.d⟩ S2 (o.rep (f u) (by rw [upd_same]; exact hu.symm)) ⟨a, rfl, h0⟩)
    | dic xs =>
      obtain ⟨vs, e2, r⟩ := o
      refine .inr ⟨a, .dK vs, e2, trivial, fun od => ?_⟩
      refine h (.ref a) (upd H' a (.frz od (.dK vs))) (upd F' a (.frz od (.dK vs))) ⟨G.f.trans (f _), nn _, G.o, fun b x hb k => ?_, fun z => (nomatch z), fun b x hb => ?_⟩ (S'.giveD fa h0 hn) ?_ trivial
      · have ne : b ≠ a := fun z => by
          subst z
          rcases ha with z | ⟨i, d, z1, z2⟩
          · rw [z] at hb; cases hb
          · exact k i d z1 z2
        rw [upd_ne ne]
        exact G.k b x hb k
      · by_cases z : b = a
        · subst z; exact ⟨_, upd_same⟩
        · rw [upd_ne z]; exact G.d b x hb
      · show Rep g _ _ _
        simp only [Rep]
        exact ⟨a, vs, rfl, ⟨od, upd_same⟩, r.mono (f _)⟩
    | _ => exact o.elim
theorem tKn_call {fn : Fn} {n : Nat} (hn : ∀ ρ ds ρ', ml ρ = .ok ds ρ' → ds.length = n) (h : tKn g fx W k.N ea (eCall fn ml) σ H Q) : tCallS (spOf g [] (.cw k.N) n fn) (WE W) (tA g fx W true ea ml) σ H Q := by
  obtain ⟨F, ρ, S, h⟩ := h
  refine ⟨F, ρ, S, ?_⟩
  unfold eCall M.bind at h
  cases e1 : ml ρ with
  | bad => rw [e1] at h; exact h
  | exn c x r1 => rw [e1] at h; exact h
  | ok ds ρ1 =>
    rw [e1] at h
    intro vs H1 F1 G1 S1 r1
    refine ⟨F1, ds, args_of S1.s r1.rep, hn _ _ _ e1, ?_⟩
    dsimp only at h
    cases e2 : fn ds with
    | bad => rw [e2] at h; exact h.elim
    | any f => rw [e2] at h; exact h.elim
    | ok d outs =>
      rw [e2] at h
      intro v H' F' A ⟨r, nw⟩
      refine h v H' F' (by
        have q := G1.trans (Go.of (eff := false) (ρ := ρ1) A.grow)
        rwa [Bool.or_false] at q) (S1.grow A.grow) r (k.anti nw fun a z => S1.fresh z)
    | exn c x outs =>
      rw [e2] at h
      intro cls dd H' F' A r
      exact h cls dd H' F' (G1.trans (Go.of (eff := true) (ρ := ρ1) A.grow)).up (S1.grow A.grow) r
theorem tS_retW {E : Ends} {N : Hp → Hp → D → V → Prop} (hk : fx.rk = .cw N) (h : tS g fx W (sRet m) E σ H) : tRet (tKn g fx W N ea m) E σ H := by
  obtain ⟨F, ρ, S, h⟩ := h
  refine ⟨F, ρ, S, ?_⟩
  unfold sRet sDo at h
  cases e : m ρ with
  | bad => rw [e] at h; exact h
  | exn c x r =>
    rw [e] at h
    exact xgs h
  | ok d ρ1 =>
    rw [e] at h
    exact fun v H1 F1 G1 S1 r1 n1 => h v σ H1 F1 S1 (by unfold RV; rw [hk]; exact ⟨r1, n1⟩)
end
section
variable {X : Cx} {fx : Fx} {W : WX} {ea eb ec : Bool} {e a b c : Expr} {es : List Expr} {m ma mb : M D} {ml : M (List D)} {b1 : M Bool} {k : NK} {p pos : Pos} {x : Str} {fn : Fn} {n j : Nat}
theorem skn_of (h : SE X fx W true ea e m) : SKn X fx W k.N ea e (eChk k.hit m) := PE.imp h fun σ H Q q => tKn_chk q
theorem skn_if {N : Hp → Hp → D → V → Prop} (hc : SB X fx W ec c b1) (ha : SKn X fx W N ea a ma) (hb : SKn X fx W N eb b mb) : SKn X fx W N (ec || (ea || eb)) (.IfExp c a b pos) (eIf b1 ma mb) := PE.imp (pe_ifExp hc ha hb) fun σ H Q h => tKn_if h
theorem skn_fr (h : SF X fx W ea e m) : SKn X fx W N0 true e m := PE.imp (pe_plock h) fun σ H Q q => tKn_fr q
theorem skn_call (C : Fd X.prog X.w X.K X.mg X.base x [] (.cw k.N) n j fn) (hr : Room j X.A) (tk : Takes X W) (ha : SA X fx W true ea (e :: es) ml) (hn : ∀ ρ ds ρ', ml ρ = .ok ds ρ' → ds.length = n) (hg : Gl X x := by rfl)
    (hdb : (x == ("__debug__" : Str)) = false := by decide) (he : starEach (e :: es) X.env = (false, eval e X.env) :: starEach es X.env := by rfl) (hpl : (backTo pos (starEach es X.env)).any (·.1) = false := by rfl) :
    SKn X fx W k.N ea (.Call (.Name x p) (e :: es) [] pos) (eCall fn ml) := by
  obtain ⟨f, fd, ps, F, hm, hk, hb⟩ := C.ex
  exact PE.imp (pe_callS F hr hg hm hk hb (fun σ => passAt tk σ) ha hdb he hpl) fun σ H Q q => tKn_call hn q
theorem ss_retW {N : Hp → Hp → D → V → Prop} (he : SKn X fx W N ea e m) (hk : fx.rk = .cw N := by rfl) : SS X fx W (.Return (some e) pos) (sRet m) := PS.imp (ps_ret he) fun E σ H q => tS_retW hk q
end
section
variable {X : Cx} {fx : Fx} {W : WX} {ea eb : Bool} {a b : Expr} {ma mb : M D} {pos : Pos}
theorem tKn_lst2 {g : Gx} {σ : L2.St} {H : Hp} {Q : VK} (h : tKn g fx W N1 (ea || (eb || false)) (eN mkLst (aCons ma (aCons mb aNil))) σ H Q) : tLst (tCons (tE g fx W true ea ma) (tCons (tKn g fx W N0 eb mb) tNil)) σ H Q := by
  obtain ⟨F, ρ, S, h⟩ := h
  refine ⟨F, ρ, S, ?_⟩
  unfold eN aCons M.bind at h
  cases e1 : ma ρ with
  | bad => rw [e1] at h; exact h
  | exn c x r1 => rw [e1] at h; exact h
  | ok d ρ1 =>
    rw [e1] at h
    intro v H1 F1 G1 S1 r1
    refine ⟨F1, ρ1, S1, ?_⟩
    dsimp only at h
    cases e2 : mb ρ1 with
    | bad => rw [e2] at h; exact h
    | exn c x r => rw [e2] at h; exact xst G1 h
    | ok d2 ρ2 =>
      rw [e2] at h
      intro v2 H2 F2 G2 S2 r2 n2
      refine ⟨by show 2 ≤ sizeLine; decide, fun p hp => ?_⟩
      have GN := Grow.new S2.s hp (o := .lst [v, v2])
      refine h (.ref p) (upd H2 p (.lst [v, v2])) (upd F2 p (.lst [v, v2])) (by
        have q := (G1.trans G2).trans (Go.of (eff := false) (ρ := ρ2) GN)
        rw [Bool.or_false] at q ⊢
        exact q) (S2.grow GN) ?_ ?_
      · simp only [Rep]
        exact ⟨p, [v, v2], rfl, upd_same, RepL.cons ((Rep.mono G2.f r1).mono GN.f) (RepL.cons (r2.mono GN.f) RepL.nil)⟩
      · intro z
        cases d2 with
        | lst ys =>
          obtain ⟨b, rfl, q⟩ := n2
          exact ⟨p, b, v, rfl, upd_same, q⟩
        | _ =>
          cases d <;> cases z
theorem skn_lst2 (ha : SE X fx W true ea a ma) (hb : SKn X fx W N0 eb b mb) (h1 : starEach [a, b] X.env = (false, eval a X.env) :: starEach [b] X.env := by rfl) (h2 : starEach [b] X.env = (false, eval b X.env) :: starEach [] X.env := by rfl) :
    SKn X fx W N1 (ea || (eb || false)) (.List [a, b] pos) (eN mkLst (aCons ma (aCons mb aNil))) := PE.imp (pe_lst (pa_cons ha (pa_cons hb pa_nil h2) h1)) fun σ H Q q => tKn_lst2 q
end
/-- what is known may be let go of -/
theorem spOf_cl {g : Gx} {mask : List Nat} {N : Hp → Hp → D → V → Prop} {n : Nat} {fn : Fn} {vs : List V} {H : Hp} {Q : VK} {E : XK} (h : spOf g mask .cl n fn vs H Q E) : spOf g mask (.cw N) n fn vs H Q E := by
  obtain ⟨F, ds, A, hn, h⟩ := h
  refine ⟨F, ds, A, hn, ?_⟩
  have : ∀ o : FO, fPost g mask .cl F H vs Q E o → fPost g mask (.cw N) F H vs Q E o := fun o => by
    induction o with
    | ok d outs => exact fun q v H' F' A r => q v H' F' A r.1
    | exn c x outs => exact fun q => q
    | bad => exact fun q => q
    | any f ih => exact fun q a => ih a (q a)
  exact this _ h
theorem Fd.cl {P : Program} {w : World} {K : PySem.W.Frag} {mg : Str → Option Value} {base : Heap} {x : Str} {mask : List Nat} {N : Hp → Hp → D → V → Prop} {n k : Nat} {fn : Fn} (h : Fd P w K mg base x mask (.cw N) n k fn) : Fd P w K mg base x mask .cl n k fn := by
  obtain ⟨f, fd, ps, F, hm, hk, hb⟩ := h.ex
  exact ⟨f, fd, ps, F.imp fun vs H Q E q => spOf_cl q, hm, hk, hb⟩
end DL

set_option Elab.async false
set_option linter.all false
set_option maxRecDepth 100000
set_option maxHeartbeats 4000000
namespace DL
open PySem PySem.Spec PyProof.Rows L2
/-- a def as its callers by keywords see it, whatever it hands back -/
structure FkW (P : Program) (w : World) (K : PySem.W.Frag) (mg : Str → Option Value) (base : Heap) (x : Str) (ks : List Str) (is : List Nat) (rk : Rk) (n k : Nat) (fn : Fn) : Prop where
  ex : ∃ f fd ps, FnOk P w K mg base (L2.CX P w) k f fd ps (spOf ⟨K, mg⟩ [] rk n fn) ∧ mg x = some (.ref f) ∧ PySem.W.keepIn K (.ref f) = true ∧ KBinds K fd ps ks (permK is) (permV is)
theorem FkW.cl {P : Program} {w : World} {K : PySem.W.Frag} {mg : Str → Option Value} {base : Heap} {x : Str} {ks : List Str} {is : List Nat} {N : Hp → Hp → D → V → Prop} {n k : Nat} {fn : Fn} (h : FkW P w K mg base x ks is (.cw N) n k fn) : Fk P w K mg base x ks is n k fn := by
  obtain ⟨f, fd, ps, F, hm, hk, hb⟩ := h.ex
  exact ⟨f, fd, ps, F.imp fun vs H Q E q => spOf_cl q, hm, hk, hb⟩
theorem fkW_of {P : Program} {w : World} {K : PySem.W.Frag} {mg : Str → Option Value} {base : Heap} {x : Str} {st : Stmt} {rk : Rk} {n k : Nat} {fn : Fn} {ps ks : List Str} {is : List Nat} (h : Fw P w K mg base x st ps [] rk n k fn) (hd : (defArgs st).defaults = [])
    (hb : ∀ (kV doc pm : Value) (an : Option Addr) (cdv ct : Value) (us ws : List Value), (permK is us ws).length = ps.length → bindArgs (PySem.W.fnOf x x (defArgs st) (defBody st) (defScope st) .none kV doc pm an cdv ct) ⟨us, ks.zip ws⟩ = pure (ps.zip (permK is us ws))) : FkW P w K mg base x ks is rk n k fn := by
  obtain ⟨f, fd, F, G, hm⟩ := h
  exact ⟨f, fd, ps, G, hm, F.kp, F.kbinds hd hb perm_vals⟩
section
variable {X : Cx} {fx : Fx} {W : WX} {x : Str} {p pos kpos : Pos} {fn : Fn} {k n : Nat} {ea : Bool} {ks : List Str} {is : List Nat} {kws : List Keyword} {m : M (List D)} {nk : NK}
theorem skn_callK (C : FkW X.prog X.w X.K X.mg X.base x ks is (.cw nk.N) n k fn) (hr : Room k X.A) (tk : Takes X W) (ha : SK X fx W true ea kws m) (hn : ∀ ρ ds ρ', m ρ = .ok ds ρ' → (permL is ds).length = n) (hg : Gl X x := by rfl)
    (hall : (backToKw pos (keywordEach kws X.env)).all (·.1.isSome) = true := by rfl) (hks : (backToKw pos (keywordEach kws X.env)).filterMap (·.1) = ks := by rfl)
    (hdb : (x == ("__debug__" : Str)) = false := by decide) (hpl : ((backTo pos (starEach [] X.env)).any (·.1) || (backToKw pos (keywordEach kws X.env)).any (·.1.isNone)) = false := by rfl) :
    SKn X fx W nk.N ea (.Call (.Name x p) [] kws pos) (eCallK fn is m) := by
  obtain ⟨f, fd, ps, F, hm, hk, hb⟩ := C.ex
  refine PE.imp (pe_callKS F hr hg hm hk hb (fun σ => passAt tk σ) ha hall hks hdb hpl) fun σ H Q q => ?_
  have h := tKn_call (k := nk) (n := n) (ml := m.bind fun ds => M.pure (permL is ds)) (fun ρ ds ρ' e => by
    unfold M.bind M.pure at e
    cases e1 : m ρ with
    | bad => rw [e1] at e; cases e
    | exn c x r1 => rw [e1] at e; cases e
    | ok ds1 ρ1 =>
      rw [e1] at e
      cases e
      exact hn _ _ _ e1) q
  obtain ⟨F0, ρ, S, h⟩ := h
  refine ⟨F0, ρ, S, ?_⟩
  unfold M.bind M.pure at h
  cases e1 : m ρ with
  | bad => rw [e1] at h; exact h
  | exn c x r1 => rw [e1] at h; exact h
  | ok ds1 ρ1 =>
    rw [e1] at h
    intro zs H1 F1 G1 S1 r1
    exact h (permL is zs) H1 F1 G1 S1 (permL_vrl r1 is)
end
section
variable {X : Cx} {fx : Fx} {W : WX} {ei ec ee : Bool} {tg iter elt : Expr} {ifs : List Expr} {scope : Scope} {pos : Pos} {is : List Nat} {t : D → Rho → R Rho} {c : M Bool} {e : M D} {mi : M (List D)}
/-- a comprehension is a new list -/
theorem sf_lc (own : List (Str × Nat)) (hc : X.calm = true) (hN : X.N.Nodup) (hi : SI X fx W ei tg iter mi) (ok : BlkOk X.N X.env.scope scope own)
    (hg : ∀ (s : Shared) (H : Hp) (C : Addr) (cl : List (Str × Addr)) (fp : List Addr), SG (X.blk s H scope (compEnvC scope cl C X.env) fp) fx is tg t) (ht : ∀ (s : Shared) (H : Hp) (C : Addr) (cl : List (Str × Addr)) (fp : List Addr), STs (X.blk s H scope (compEnvC scope cl C X.env) fp) fx ec ifs c)
    (he : ∀ (s : Shared) (H : Hp) (C : Addr) (cl : List (Str × Addr)) (fp : List Addr), SE (X.blk s H scope (compEnvC scope cl C X.env) fp) fx W0 true ee elt e)
    (hv : (own.map (·.2)).all (fun j => !fx.ow.contains j) = true := by rfl) (hs : is.all (fun j => (own.map (·.2)).contains j) = true := by rfl) (hf : ∀ x, foldedSetIterable iter X.env x = pure x := by intro _; rfl) :
    SF X fx W (ei || (ec || ee)) (.ListComp elt [⟨tg, iter, ifs, 0⟩] scope pos) (eLC (own.map (·.2)) t c e mi) :=
  PE.imp (pe_lc (g := tG (gx X) fx is t) (tt := tB (gx X) fx W0 ec c) (te := tE (gx X) fx W0 true ee e) hc hN hi ok hg ht he hf) fun σ H Q q => tF_lc hv hs q
end
end DL

set_option Elab.async false
set_option linter.all false
set_option maxRecDepth 100000
set_option maxHeartbeats 4000000
namespace DL
open PySem PySem.Spec PyProof.Rows L2
/-! ### told = f(..); if ..: return e; told[1].append(c): told's new list is changed, told is never asked again -/
def tKh (g : Gx) (fx : Fx) (W : WX) (N : Hp → Hp → D → V → Prop) (eff : Bool) (m : M D) : TE := fun σ H Q => ∃ F ρ, ST g fx σ H F ρ ∧ match m ρ with
  | .ok d ρ' => ∀ v H' F', Go eff σ F H ρ F' H' ρ' → ST g fx σ H' F' ρ' → Rep g F' d v → N H F' d v → Q v H'
  | .exn c x ρ' => ∀ cls dd H' F', Go true σ F H ρ F' H' ρ' → ST g fx σ H' F' ρ' → XR g F' c x cls dd → W cls dd σ H'
  | .bad => False
def toldL : D → Option (List D)
  | .lst [.str w, .lst ys] => if (w == "told") = true then some ys else none
  | _ => none
theorem toldL_eq {d : D} {ys : List D} (h : toldL d = some ys) : ∃ w, d = .lst [.str w, .lst ys] ∧ (w == "told") = true := by
  unfold toldL at h
  split at h
  · rename_i w zs
    split at h
    · rename_i q
      cases h
      exact ⟨w, rfl, q⟩
    · cases h
  · cases h
def sSpoil (i : Nat) (call : M D) (test : M Bool) (r : M D) : MS := fun ρ => match call ρ with
  | .ok d ρ1 => (match test (ρ1.set i (.cl d)) with
    | .ok true ρ2 => sRet r ρ2
    | .ok false ρ2 => (match toldL d with
      | some ys => if ys.length < 16777216 ∧ i < ρ.length then .nx (ρ.set i .no) else .bad
      | none => .bad)
    | _ => .bad)
  | .exn c x ρ1 => .exn c x ρ1
  | .bad => .bad
section
variable {g : Gx} {fx : Fx} {W : WX} {σ : L2.St} {F H : Hp} {ρ : Rho} {Q : VK} {ml : M (List D)} {k : NK}
theorem tKh_call {fn : Fn} {n : Nat} (hn : ∀ ρ ds ρ', ml ρ = .ok ds ρ' → ds.length = n) (h : tKh g fx W k.N false (eCall fn ml) σ H Q) : tCallS (spOf g [] (.cw k.N) n fn) (WE W) (tA g fx W true false ml) σ H Q := by
  obtain ⟨F, ρ, S, h⟩ := h
  refine ⟨F, ρ, S, ?_⟩
  unfold eCall M.bind at h
  cases e1 : ml ρ with
  | bad => rw [e1] at h; exact h
  | exn c x r1 => rw [e1] at h; exact h
  | ok ds ρ1 =>
    rw [e1] at h
    intro vs H1 F1 G1 S1 r1
    refine ⟨F1, ds, args_of S1.s r1.rep, hn _ _ _ e1, ?_⟩
    dsimp only at h
    cases e2 : fn ds with
    | bad => rw [e2] at h; exact h.elim
    | any f => rw [e2] at h; exact h.elim
    | ok d outs =>
      rw [e2] at h
      intro v H' F' A ⟨r, nw⟩
      exact h v H' F' (G1.trans (Go.of (eff := false) (ρ := ρ1) A.grow)) (S1.grow A.grow) r (k.anti nw fun a z => G1.new z)
    | exn c x outs =>
      rw [e2] at h
      intro cls dd H' F' A r
      exact h cls dd H' F' (G1.trans (Go.of (eff := true) (ρ := ρ1) A.grow)).up (S1.grow A.grow) r
theorem ST.junk (S : ST g fx σ H F ρ) {i : Nat} {x : Option V} (hi : fx.ow.contains i = false) : ST g fx (σ.set i x) H F (ρ.set i .no) where
  s := S.s
  ge := S.ge
  nw := S.nw
  old := S.old
  len := by rw [List.length_set, List.length_set]; exact S.len
  cl := fun j d h => by
    obtain ⟨ne, q⟩ := set_no h (fun z => nomatch z)
    rw [List.getElem?_set_ne ne]
    exact S.cl j d q
  ow := fun j d h => by
    obtain ⟨ne, q⟩ := set_no h (fun z => nomatch z)
    rw [List.getElem?_set_ne ne]
    exact S.ow j d q
  inj := fun j k d e a h1 h2 h3 h4 => by
    obtain ⟨n1, q1⟩ := set_no h1 (fun z => nomatch z)
    obtain ⟨n2, q2⟩ := set_no h2 (fun z => nomatch z)
    rw [List.getElem?_set_ne n1] at h3
    rw [List.getElem?_set_ne n2] at h4
    exact S.inj j k d e a q1 q2 h3 h4
  par := fun j a h => by
    have ne : i ≠ j := fun e => by
      have hj := S.pin j a h
      rw [← e] at hj
      have : fx.ow.contains i = true := by simpa using hj
      rw [hi] at this; cases this
    obtain ⟨⟨d, e⟩, e2⟩ := S.par j a h
    exact ⟨⟨d, by rw [List.getElem?_set_ne ne]; exact e⟩, by rw [List.getElem?_set_ne ne]; exact e2⟩
  pin := S.pin
end
section
variable {X : Cx} {fx : Fx} {W : WX} {test re : Expr} {e : Expr} {es : List Expr} {ml : M (List D)} {c : M Bool} {r : M D} {x y s : Str} {p pos p1 p2 p3 p4 p5 p6 p7 p8 p9 p10 rpos : Pos} {fn : Fn} {n j k3 k4 : Nat} {er : Bool}
theorem sss_spoil (i : Nat) (C : Fd X.prog X.w X.K X.mg X.base x [] (.cw N1) n j fn) (hr : Room j X.A) (tk : Takes X W) (ha : SA X fx W true false (e :: es) ml) (hn : ∀ ρ ds ρ', ml ρ = .ok ds ρ' → ds.length = n) (hc : SB X fx W false test c) (hre : SE X fx W true er re r) (hk : fx.rk = .cl := by rfl)
    (hN : X.N.Nodup := by assumption) (hi : X.N[i]? = some y := by rfl) (ho : fx.ow.contains i = false := by rfl) (hx : Loc X.env.scope y := by first | exact .inl rfl | exact .inr rfl) (hs : swapsWith (.Call (.Name x p) (e :: es) [] pos) (some (.Name y p1)) p2.line X.env = pure false := by rfl)
    (hf : X.fn y = true ∨ X.env.scope.names.lookup y = some .local := by first | exact .inl rfl | exact .inr rfl)
    (hv : Vis X.env.scope y := by first | exact Or.inl rfl | exact Or.inr (Or.inl rfl) | exact Or.inr (Or.inr rfl)) (hd : (y == ("__debug__" : Str)) = false := by decide) (hcd : (y == ("__classdict__" : Str)) = false := by decide)
    (hg : Gl X x := by rfl) (hdb : (x == ("__debug__" : Str)) = false := by decide) (he : starEach (e :: es) X.env = (false, eval e X.env) :: starEach es X.env := by rfl) (hpl : (backTo pos (starEach es X.env)).any (·.1) = false := by rfl)
    (hbase : attributeBase (.Subscript (.Name y p3) (.Constant (.int 1) k3 p4) p5) "append" X.env (eval (.Subscript (.Name y p3) (.Constant (.int 1) k3 p4) p5) X.env) = eval (.Subscript (.Name y p3) (.Constant (.int 1) k3 p4) p5) X.env := by rfl)
    (hfew : ((backTo p8 (starEach [.Constant (.str s) k4 p6] X.env)).all (fun x => !x.1) && (backToKw p8 (keywordEach [] X.env)).all (fun x => x.1.isSome) && decide (([.Constant (.str s) k4 p6] : List Expr).length + ([] : List Keyword).length + (if ([] : List Keyword).isEmpty then 0 else 1) < 30)) = true := by rfl)
    (hline : (p7.endLine == p8.line) = true := by rfl) (h1 : starEach [.Constant (.str s) k4 p6] X.env = (false, eval (.Constant (.str s) k4 p6) X.env) :: starEach [] X.env := by rfl) (hplain : (backTo p8 (starEach [] X.env)).any (·.1) = false := by rfl)
    (hsw : swapsWith (.Call (.Attribute (.Subscript (.Name y p3) (.Constant (.int 1) k3 p4) p5) "append" p7) [.Constant (.str s) k4 p6] [] p8) none p9.line X.env = pure false := by rfl) :
    SSs X fx W [.Assign [.Name y p1] (.Call (.Name x p) (e :: es) [] pos) p2, .If test [.Return (some re) rpos] [] p10, .Expr (.Call (.Attribute (.Subscript (.Name y p3) (.Constant (.int 1) k3 p4) p5) "append" p7) [.Constant (.str s) k4 p6] [] p8) p9] (sSpoil i (eCall fn ml) c r) := by
  obtain ⟨f, fd, ps, FF, hm, hkp, hb⟩ := C.ex
  have P1 : PE X (.Call (.Name x p) (e :: es) [] pos) (tKh (gx X) fx W N1 false (eCall fn ml)) := PE.imp (pe_callS FF hr hg hm hkp hb (fun σ => passAt tk σ) ha hdb he hpl) fun σ H Q q => tKh_call (k := k1) hn q
  have P3 := pe_bm PySem.F.plainAttrs_list PySem.F.slot_list_append PySem.F.type_list_append mt_append (pe_ix (pos := p5) ix_list (pv i (pos := p3) hi hv hd hcd) (pe_int (j := k3) (pos := p4) (i := 1)) (fun _ _ => rfl)) (pa_cons (pe_str (x := s) (j := k4) (pos := p6)) pa_nil h1) hbase hfew hline h1 hplain
  refine PSs.imp (pss_cons (ps_set hN hi hx P1 hs hf) (pss_cons (ps_if hc (pss_one (ss_ret hre hk)) pss_nil) (pss_one (ps_expr P3 hsw)))) fun E σ H h => ?_
  obtain ⟨F, ρ, S, h⟩ := h
  unfold sSpoil at h
  refine ⟨F, ρ, S, ?_⟩
  cases e1 : eCall fn ml ρ with
  | bad => rw [e1] at h; exact h.elim
  | exn c x r1 =>
    rw [e1] at h
    exact xgs h
  | ok d ρ1 =>
    rw [e1] at h
    dsimp only at h
    intro v H1 F1 G1 S1 r1 n1
    obtain ⟨gr1, er1⟩ := G1.g rfl
    have er1 : ρ1 = ρ := er1
    subst er1
    have S1' := S1.set ho r1
    refine ⟨F1, _, S1', ?_⟩
    cases e2 : c (ρ1.set i (.cl d)) with
    | bad => rw [e2] at h; exact h.elim
    | exn c x r2 => rw [e2] at h; exact h.elim
    | ok q ρ2 =>
      rw [e2] at h
      intro H2 F2 G2 S2
      obtain ⟨gr2, er2⟩ := G2.g rfl
      cases q with
      | true =>
        rw [if_pos rfl]
        dsimp only at h
        have h' := h.mono ((G1.gs.trans gs_set).trans G2.gs)
        refine ⟨F2, ρ2, S2, ?_⟩
        unfold sRet sDo at h' ⊢
        cases e3 : r ρ2 with
        | bad => rw [e3] at h'; exact h'
        | exn c x r3 => rw [e3] at h'; exact h'
        | ok d3 r3 => rw [e3] at h'; exact h'
      | false =>
        rw [if_neg (by decide)]
        dsimp only at h
        cases tq : toldL d with
        | none => rw [tq] at h; exact h.elim
        | some ys =>
          rw [tq] at h
          obtain ⟨w, rfl, hw⟩ := toldL_eq tq
          dsimp only at h
          by_cases z : ys.length < 16777216 ∧ i < ρ1.length
          · rw [if_pos z] at h
            obtain ⟨a, b, vx, ev, fa, hb0⟩ := n1 hw
            subst ev
            simp only [Rep] at r1
            obtain ⟨a', vs', ea, fa', rl⟩ := r1
            cases ea
            rw [fa] at fa'
            cases fa'
            simp only [RepL] at rl
            obtain ⟨v1, t1, et, _, v2, t2, et2, rb, _⟩ := rl
            cases et
            cases et2
            simp only [Rep] at rb
            obtain ⟨b', vs, eb, fb, rys⟩ := rb
            cases eb
            have hlen : i < σ.length := by
              rw [S.len]
              exact z.2
            have hA : H2 a = some (.lst [vx, .ref b]) := S2.s _ _ (gr2.f _ _ fa)
            have hB : H2 b = some (.lst vs) := S2.s _ _ (gr2.f _ _ fb)
            refine ⟨.ref a, by rw [List.getElem?_set_self hlen], ⟨a, [vx, .ref b], 1, .ref b, rfl, rfl, SqL.of hA, rfl, .inl ⟨rfl, vs, SqL.of hB⟩, b, vs, .str s, rfl, rfl, hB, by rw [rys.length, sizeLine_eq]; exact z.1, ?_⟩⟩
            have sub : ∀ a0 o, H a0 = some o → upd H2 b (.lst (vs ++ [.str s])) a0 = some o := fun a0 o q => by
              rw [upd_ne (ne_of_none q hb0)]
              exact gr2.h _ _ (gr1.h _ _ q)
            have GR : Grow F H F (upd H2 b (.lst (vs ++ [.str s]))) := ⟨Sub.refl _, sub, fun a0 o q => sub a0 o (S.s a0 o q), fun a0 o q => .inl q⟩
            refine h _ _ F ⟨Sub.refl _, fun a0 o q => .inl q, fun a0 o q _ => sub a0 o q, fun a0 ⟨j, dd, q1, q2⟩ => ?_, fun a0 o q => ⟨o, sub a0 o q⟩⟩ ((S.grow GR).junk ho)
            obtain ⟨ne, q⟩ := set_no q1 (fun z => nomatch z)
            rw [List.getElem?_set_ne ne] at q2
            exact .inl ⟨j, dd, q, q2⟩
          · rw [if_neg z] at h
            exact h.elim
end
end DL

set_option Elab.async false
set_option linter.all false
set_option maxRecDepth 100000
set_option maxHeartbeats 400000
namespace DL
open PySem PySem.Spec PyProof.Rows L2
/-! ### steps that lay the slots out again -/
section
variable {ρ ρ1 ρ2 ρ3 : Rho} {d x y : D} {ds xs : List D} {ma mb mc : M D} {m : M (List D)} {b1 b2 : M Bool} {k : Bool} {i j s : Nat}
theorem ew_callO {fn : Fn} {d0 d1 d' : D} (h0 : ρ[s]? = some (.ow d0)) (h : m ρ = .ok ds ρ1) (h1 : ρ1[s]? = some (.ow d1)) (hf : fn (d1 :: ds) = .ok d [d']) (hr : ρ1.set s (.ow d') = ρ2) : eCallO fn s m ρ = .ok d ρ2 := hr ▸ ev_callO h0 h h1 hf
theorem sw_asg (h : ma ρ = .ok d ρ1) (hr : ρ1.set i (.cl d) = ρ2) : sAsg ma (tgName i) ρ = .nx ρ2 := hr ▸ st_asg h
theorem sw_asgO (h : ma ρ = .ok d ρ1) (hr : ρ1.set i (.ow d) = ρ2) : sAsgO i ma ρ = .nx ρ2 := hr ▸ st_asgO h
theorem sw_par (h : m ρ = .ok [x, y] ρ1) (hr : (ρ1.set i (.cl x)).set j (.cl y) = ρ2) : sPar i j m ρ = .nx ρ2 := hr ▸ st_par h
theorem sw_par3 {l : Nat} {z : D} (h : m ρ = .ok [x, y, z] ρ1) (hr : ((ρ1.set i (.cl x)).set j (.cl y)).set l (.cl z) = ρ2) : sPar3 i j l m ρ = .nx ρ2 := hr ▸ st_par3 h
theorem sw_app {ys : List D} (h0 : ρ[i]? = some (.ow (.lst ys))) (h : ma ρ = .ok d ρ1) (h1 : ρ1[i]? = some (.ow (.lst xs))) (hl : xs.length < 16777216) (hr : ρ1.set i (.ow (.lst (xs ++ [d]))) = ρ2) : sApp i ma ρ = .nx ρ2 := hr ▸ st_app h0 h h1 hl
theorem gt_id {x : Option Sl} (h : ρ[i]? = x) : ρ[i]? = x := h
theorem set_id {x : Sl} (h : ρ.set i x = ρ1) : ρ.set i x = ρ1 := h
theorem set_n {x : Sl} (h : ρ.set i x = ρ1) (h2 : ρ1.set j x = ρ2) : (ρ.set i x).set j x = ρ2 := h ▸ h2
/-- a test, then its way -/
theorem sw_if {a b : MS} {o : SO} (hc : b1 ρ = .ok k ρ1) (ht : k = true → a ρ1 = o) (hf : k = false → b ρ1 = o) : sIf b1 a b ρ = o := by
  cases k with
  | true => exact st_ifT hc (ht rfl)
  | false => exact st_ifF hc (hf rfl)
theorem bw_and {k2 : Bool} (h : b1 ρ = .ok k ρ1) (h2 : k = true → b2 ρ1 = .ok k2 ρ1) : bAnd b1 b2 ρ = .ok (k && k2) ρ1 := by
  cases k with
  | true => exact tb_andT h (h2 rfl)
  | false => exact tb_andF h
theorem bw_or {k2 : Bool} (h : b1 ρ = .ok k ρ1) (h2 : k = false → b2 ρ1 = .ok k2 ρ1) : bOr b1 b2 ρ = .ok (k || k2) ρ1 := by
  cases k with
  | false => exact tb_orF h (h2 rfl)
  | true => exact tb_orT h
/-! ### errors -/
theorem ex_call {fn : Fn} {outs : List D} {c : Str} {v : D} (h : m ρ = .ok ds ρ1) (hf : fn ds = .exn c v outs) : eCall fn m ρ = .exn c v ρ1 := by
  unfold eCall M.bind
  rw [h]
  dsimp only
  rw [hf]
theorem ex_bind {c : Str} {v : D} {t : D → Rho → R Rho} (h : ma ρ = .exn c v ρ1) : sAsg ma t ρ = .exn c v ρ1 := by
  unfold sAsg sDo
  rw [h]
theorem ex_drop {c : Str} {v : D} (h : ma ρ = .exn c v ρ1) : sDrop ma ρ = .exn c v ρ1 := by
  unfold sDrop sDo
  rw [h]
theorem ex_ret {c : Str} {v : D} (h : ma ρ = .exn c v ρ1) : sRet ma ρ = .exn c v ρ1 := by
  unfold sRet sDo
  rw [h]
theorem ex_seq {a b : MS} {c : Str} {v : D} (h : a ρ = .exn c v ρ1) : sSeq a b ρ = .exn c v ρ1 := by
  unfold sSeq
  rw [h]
  rfl
theorem st_raise {c : Str} (h : ma ρ = .ok d ρ1) : sRaise c ma ρ = .exn c d ρ1 := by
  unfold sRaise sDo
  rw [h]
theorem ex_run {N : Nat} {mask : List Nat} {rk : Rk} {mm : MS} {ρ0 : Rho} {c : Str} {v : D} {outs : List D} (h0 : startR N mask ds = ρ0) (h : mm ρ0 = .exn c v ρ1) (ho : outsOf mask ρ1 = outs) : runFn N mask rk mm ds = .exn c v outs := by
  unfold runFn
  rw [h0, h]
  subst ho
  rfl
theorem st_try {tab : List (Str × Bool)} {b : MS} (h : b ρ = .nx ρ1) : sTryK tab i j b ρ = .nx ρ1 := by
  unfold sTryK
  rw [h]
  rfl
theorem st_tryR {tab : List (Str × Bool)} {b : MS} (h : b ρ = .ret d ρ1) : sTryK tab i j b ρ = .ret d ρ1 := by
  unfold sTryK
  rw [h]
  rfl
theorem st_kept {tab : List (Str × Bool)} {b : MS} {c : Str} {v : D} (h : b ρ = .exn c v ρ1) (ht : tab.lookup c = some true) (hi : i < ρ1.length) : sTryK tab i j b ρ = .any fun a => .nx ((ρ1.set j (.cl (.exc a c v))).set i .no) := by
  unfold sTryK
  rw [h]
  unfold SO.kept
  rw [ht]
  dsimp only
  rw [if_pos hi]
theorem st_any {a b : MS} {g : Addr → Rho} {o : Addr → SO} (h : a ρ = .any fun x => .nx (g x)) (h2 : ∀ x, b (g x) = o x) : sSeq a b ρ = .any o := by
  unfold sSeq
  rw [h]
  show SO.any (fun x => b (g x)) = _
  exact congrArg SO.any (funext h2)
theorem st_anyS {a b : MS} {f : Addr → SO} {o : Addr → SO} (h : a ρ = .any f) (h2 : ∀ x, (f x).then b = o x) : sSeq a b ρ = .any o := by
  unfold sSeq
  rw [h]
  show SO.any (fun x => (f x).then b) = _
  exact congrArg SO.any (funext h2)
theorem fw_run {N : Nat} {mask : List Nat} {rk : Rk} {mm : MS} {ρ0 : Rho} {outs : List D} (h0 : startR N mask ds = ρ0) (h : mm ρ0 = .ret d ρ1) (ho : outsOf mask ρ1 = outs) : runFn N mask rk mm ds = .ok d outs := ho ▸ fn_run h0 h
theorem fw_flat {N : Nat} {mask : List Nat} {rk : Rk} {mm : MS} {ρ0 : Rho} {outs : List D} {g : Addr → Rho} (h0 : startR N mask ds = ρ0) (h : mm ρ0 = .any fun a => .ret d (g a)) (ho : ∀ a, outsOf mask (g a) = outs) : flatFn (runFn N mask rk mm) ds = .ok d outs := by
  unfold flatFn runFn
  rw [h0, h]
  refine FO.flat_any fun a => ?_
  show FO.ok d (outsOf mask (g a)) = _
  rw [ho]
theorem fw_flat1 {N : Nat} {mask : List Nat} {rk : Rk} {mm : MS} {ρ0 : Rho} {outs : List D} (h0 : startR N mask ds = ρ0) (h : mm ρ0 = .ret d ρ1) (ho : outsOf mask ρ1 = outs) : flatFn (runFn N mask rk mm) ds = .ok d outs := by
  unfold flatFn runFn
  rw [h0, h]
  subst ho
  rfl
end
end DL

set_option Elab.async false
set_option linter.all false
set_option maxRecDepth 100000
set_option maxHeartbeats 1000000
namespace DL
open PyProof.Rows
/-! ### titles, in plain lists of signs -/
def isp (c : Nat) : Bool := c == 32 || c == 95
def moS (f : List Nat) (c : Nat) : List Nat := if isp c = true then (if f ≠ [] ∧ f.getLast? ≠ some 32 then f ++ [32] else f) else f ++ [c]
def moT (f : List Nat) : List Nat := if f.getLast? = some 32 then f.dropLast else f
def mo (cs : List Nat) : List Nat := moT (cs.foldl moS [])
/-- no low line, no two blanks side by side -/
def nd : List Nat → Bool
  | [] => true
  | c :: r => decide (c ≠ 95) && (decide (c ≠ 32) || decide (r.head? ≠ some 32)) && nd r
theorem nd_cons {c : Nat} {r : List Nat} : nd (c :: r) = true ↔ c ≠ 95 ∧ (c ≠ 32 ∨ r.head? ≠ some 32) ∧ nd r = true := by
  show (decide (c ≠ 95) && (decide (c ≠ 32) || decide (r.head? ≠ some 32)) && nd r) = true ↔ _
  simp only [Bool.and_eq_true, Bool.or_eq_true, decide_eq_true_eq, and_assoc]
theorem nd_app : ∀ {a b : List Nat}, nd (a ++ b) = true ↔ nd a = true ∧ nd b = true ∧ (a.getLast? ≠ some 32 ∨ b.head? ≠ some 32)
  | [], b => by simp [nd]
  | [c], b => by
    rw [List.singleton_append, nd_cons]
    simp [nd, and_assoc, and_comm, and_left_comm]
  | c :: d :: a, b => by
    have ih := nd_app (a := d :: a) (b := b)
    rw [List.cons_append, nd_cons, ih, nd_cons (c := c)]
    have e : (c :: d :: a).getLast? = (d :: a).getLast? := by rw [List.getLast?_cons_cons]
    rw [e, List.cons_append, List.head?_cons, List.head?_cons]
    simp only [and_assoc]
/-- blanks single, none at the ends -/
structure Nm (s : List Nat) : Prop where
  nd : nd s = true
  hd : s.head? ≠ some 32
  tl : s.getLast? ≠ some 32
theorem nm_nil : Nm [] := ⟨rfl, by simp, by simp⟩
theorem nd_dropLast {f : List Nat} (h : nd f = true) : nd f.dropLast = true := by
  by_cases e : f = []
  · subst e; rfl
  · rw [← List.dropLast_concat_getLast e, nd_app] at h
    exact h.1
theorem moT_nm {f : List Nat} (h : nd f = true) (hh : f.head? ≠ some 32) : Nm (moT f) := by
  unfold moT
  by_cases c : f.getLast? = some 32
  · rw [if_pos c]
    have e : f ≠ [] := fun z => by rw [z] at c; cases c
    have q := List.dropLast_concat_getLast e
    have h2 := h
    rw [← q, nd_app] at h2
    refine ⟨h2.1, ?_, ?_⟩
    · cases hd : f.dropLast with
      | nil => simp
      | cons a r =>
        rw [hd] at q
        rw [← q] at hh
        simpa using hh
    · rcases h2.2.2 with z | z
      · exact z
      · exfalso
        rw [List.getLast?_eq_some_getLast e] at c
        exact z (by simpa using c)
  · rw [if_neg c]
    exact ⟨h, hh, c⟩
theorem fold_nd : ∀ (cs f : List Nat), nd f = true → f.head? ≠ some 32 → nd (cs.foldl moS f) = true ∧ (cs.foldl moS f).head? ≠ some 32
  | [], f, h, hh => ⟨h, hh⟩
  | c :: cs, f, h, hh => by
    rw [List.foldl_cons]
    refine fold_nd cs _ ?_ ?_
    · unfold moS
      split
      · split
        · rename_i q
          rw [nd_app]
          exact ⟨h, rfl, .inl q.2⟩
        · exact h
      · rename_i q
        have q1 : c ≠ 32 ∧ c ≠ 95 := by simpa [isp] using q
        rw [nd_app, nd_cons]
        exact ⟨h, ⟨q1.2, .inl q1.1, rfl⟩, .inr (by simpa using q1.1)⟩
    · unfold moS
      split
      · split
        · rename_i q
          cases f with
          | nil => exact absurd rfl q.1
          | cons a r => simpa using hh
        · exact hh
      · rename_i q
        have q1 : c ≠ 32 ∧ c ≠ 95 := by simpa [isp] using q
        cases f with
        | nil => simpa using q1.1
        | cons a r => simpa using hh
theorem mo_nm (cs : List Nat) : Nm (mo cs) := by
  obtain ⟨h1, h2⟩ := fold_nd cs [] rfl (by simp)
  exact moT_nm h1 h2
/-- blanks at the ends away, where they are single -/
def st (s : List Nat) : List Nat := moT (if s.head? = some 32 then s.tail else s)
theorem fold_run : ∀ (s f : List Nat), f ≠ [] → nd s = true → (f.getLast? ≠ some 32 ∨ s.head? ≠ some 32) → s.foldl moS f = f ++ s
  | [], f, _, _, _ => by simp
  | c :: s, f, hf, h, hl => by
    rw [nd_cons] at h
    rw [List.foldl_cons]
    have e : moS f c = f ++ [c] := by
      unfold moS
      by_cases q : c = 32
      · subst q
        rw [if_pos (by decide), if_pos ⟨hf, by simpa using hl⟩]
      · rw [if_neg (by simp [isp, q, h.1])]
    rw [e, fold_run s (f ++ [c]) (by simp) h.2.2 (by simpa using h.2.1)]
    simp
theorem fold_nil {s : List Nat} (h : nd s = true) : s.foldl moS [] = if s.head? = some 32 then s.tail else s := by
  cases s with
  | nil => rfl
  | cons c s =>
    rw [nd_cons] at h
    rw [List.foldl_cons]
    by_cases q : c = 32
    · subst q
      have e : moS [] 32 = [] := rfl
      rw [e, if_pos (by simp), List.tail_cons]
      cases s with
      | nil => rfl
      | cons d s =>
        have hd : d ≠ 32 := by simpa using h.2.1
        have h3 := nd_cons.mp h.2.2
        rw [List.foldl_cons]
        have e2 : moS [] d = [d] := by unfold moS; rw [if_neg (by simp [isp, hd, h3.1])]; rfl
        rw [e2, fold_run s [d] (by simp) h3.2.2 (by simpa using h3.2.1)]
        rfl
    · have e2 : moS [] c = [c] := by unfold moS; rw [if_neg (by simp [isp, q, h.1])]; rfl
      rw [e2, fold_run s [c] (by simp) h.2.2 (by simpa using h.2.1), if_neg (by simpa using q)]
      rfl
theorem mo_st {s : List Nat} (h : nd s = true) : mo s = st s := by
  unfold mo st
  rw [fold_nil h]
theorem st_of {s : List Nat} (h : Nm s) : st s = s := by
  unfold st moT
  rw [if_neg h.hd, if_neg h.tl]
theorem mo_of {s : List Nat} (h : Nm s) : mo s = s := (mo_st h.nd).trans (st_of h)
theorem nd_tail {s : List Nat} (h : nd s = true) : nd s.tail = true := by
  cases s with
  | nil => rfl
  | cons c s => exact (nd_cons.mp h).2.2
theorem st_nm {s : List Nat} (h : nd s = true) : Nm (st s) := by
  unfold st
  by_cases q : s.head? = some 32
  · rw [if_pos q]
    refine moT_nm (nd_tail h) ?_
    cases s with
    | nil => cases q
    | cons c s =>
      have e : c = 32 := by simpa using q
      have := (nd_cons.mp h).2.1
      rw [e] at this
      simpa using this
  · rw [if_neg q]
    exact moT_nm h q
/-! lengths -/
theorem moT_len {f : List Nat} : (moT f).length ≤ f.length := by
  unfold moT
  split
  · rw [List.length_dropLast]; omega
  · exact Nat.le_refl _
theorem fold_len : ∀ (cs f : List Nat), (cs.foldl moS f).length ≤ f.length + cs.length
  | [], f => by simp
  | c :: cs, f => by
    rw [List.foldl_cons]
    have h := fold_len cs (moS f c)
    have h2 : (moS f c).length ≤ f.length + 1 := by
      unfold moS
      split
      · split
        · simp
        · omega
      · simp
    rw [List.length_cons]
    omega
theorem mo_len (cs : List Nat) : (mo cs).length ≤ cs.length := by
  have h1 := moT_len (f := cs.foldl moS [])
  have h2 := fold_len cs []
  simp at h2
  unfold mo
  omega
theorem st_len (s : List Nat) : (st s).length ≤ s.length := by
  have h1 := moT_len (f := if s.head? = some 32 then s.tail else s)
  have h2 : (if s.head? = some 32 then s.tail else s).length ≤ s.length := by
    split
    · rw [List.length_tail]; omega
    · exact Nat.le_refl _
  unfold st
  omega
/-! signs -/
theorem moT_mem {f : List Nat} {c : Nat} (h : c ∈ moT f) : c ∈ f := by
  unfold moT at h
  split at h
  · exact (List.dropLast_subset f) h
  · exact h
theorem fold_mem {c : Nat} : ∀ (cs f : List Nat), c ∈ cs.foldl moS f → c ∈ f ∨ c ∈ cs ∨ c = 32
  | [], f, h => .inl h
  | d :: cs, f, h => by
    rw [List.foldl_cons] at h
    rcases fold_mem cs _ h with q | q | q
    · unfold moS at q
      split at q
      · split at q
        · rcases List.mem_append.mp q with q | q
          · exact .inl q
          · exact .inr (.inr (by simpa using q))
        · exact .inl q
      · rcases List.mem_append.mp q with q | q
        · exact .inl q
        · exact .inr (.inl (by rw [List.mem_singleton.mp q]; exact List.mem_cons_self))
    · exact .inr (.inl (List.mem_cons_of_mem _ q))
    · exact .inr (.inr q)
theorem mo_mem {cs : List Nat} {c : Nat} (h : c ∈ mo cs) : c ∈ cs ∨ c = 32 := by
  rcases fold_mem cs [] (moT_mem h) with q | q | q
  · cases q
  · exact .inl q
  · exact .inr q
theorem st_mem {s : List Nat} {c : Nat} (h : c ∈ st s) : c ∈ s := by
  have q := moT_mem h
  split at q
  · exact List.mem_of_mem_tail q
  · exact q
end DL

set_option Elab.async false
set_option linter.all false
set_option maxRecDepth 100000
set_option maxHeartbeats 1000000
namespace DL
open PyProof.Rows
/-- the great letter ahead -/
def uf : List Nat → List Nat
  | [] => []
  | c :: r => up1 c :: r
def pre58 (o : List Nat) : List Nat := o.takeWhile (fun c => decide (c ≠ 58))
def post58 (o : List Nat) : List Nat := (o.dropWhile (fun c => decide (c ≠ 58))).tail
def roomL : List (List Nat) := [[84, 97, 108, 107], [85, 115, 101, 114], [85, 115, 101, 114, 32, 116, 97, 108, 107], [84, 101, 109, 112, 108, 97, 116, 101], [84, 101, 109, 112, 108, 97, 116, 101, 32, 116, 97, 108, 107],
  [67, 97, 116, 101, 103, 111, 114, 121], [67, 97, 116, 101, 103, 111, 114, 121, 32, 116, 97, 108, 107], [72, 101, 108, 112], [72, 101, 108, 112, 32, 116, 97, 108, 107]]
def rm (p : List Nat) : Option (List Nat) := roomL.find? fun n => decide (n.map lo1 = p.map lo1)
def bad (c : Nat) : Bool := [10, 91, 93, 123, 125, 124, 60, 62, 35].contains c
def nameOf (o : List Nat) : Option (List Nat) := if 58 ∈ o then rm (st (pre58 o)) else none
def restOf (o : List Nat) (n : Option (List Nat)) : List Nat := match n with
  | none => o
  | some _ => st (post58 o)
def joinT (n : Option (List Nat)) (r : List Nat) : List Nat := match n with
  | none => r
  | some n => n ++ 58 :: r
def fitT (r t : List Nat) : Option (List Nat) := if r = [] ∨ r.head? = some 58 ∨ 60 < t.length then none else some t
def TT (cs : List Nat) : Option (List Nat) := if cs.any bad = true then none else
  fitT (uf (restOf (mo cs) (nameOf (mo cs)))) (joinT (nameOf (mo cs)) (uf (restOf (mo cs) (nameOf (mo cs)))))

theorem up1_32 {c : Nat} : up1 c = 32 ↔ c = 32 := by unfold up1; split <;> omega
theorem up1_58 {c : Nat} : up1 c = 58 ↔ c = 58 := by unfold up1; split <;> omega
theorem up1_95 {c : Nat} : up1 c = 95 ↔ c = 95 := by unfold up1; split <;> omega
theorem up1_up1 {c : Nat} : up1 (up1 c) = up1 c := by unfold up1; split <;> (try split) <;> omega
theorem lo1_up1 {c : Nat} : lo1 (up1 c) = lo1 c := by unfold lo1 up1; split <;> split <;> (try split) <;> omega
theorem lo1_32 {c : Nat} : lo1 c = 32 ↔ c = 32 := by unfold lo1; split <;> omega
theorem lo1_58 {c : Nat} : lo1 c = 58 ↔ c = 58 := by unfold lo1; split <;> omega
theorem bad_iff {c : Nat} : bad c = true ↔ c = 10 ∨ c = 91 ∨ c = 93 ∨ c = 123 ∨ c = 125 ∨ c = 124 ∨ c = 60 ∨ c = 62 ∨ c = 35 := by
  unfold bad
  simp
theorem bad_up1 {c : Nat} (h : bad (up1 c) = true) : bad c = true := by
  rw [bad_iff] at h ⊢
  unfold up1 at h
  split at h <;> omega
theorem uf_uf : ∀ s : List Nat, uf (uf s) = uf s
  | [] => rfl
  | c :: r => by
    show up1 (up1 c) :: r = up1 c :: r
    rw [up1_up1]
theorem uf_len : ∀ s : List Nat, (uf s).length = s.length
  | [] => rfl
  | _ :: _ => rfl
theorem uf_nil {s : List Nat} : uf s = [] ↔ s = [] := by cases s <;> simp [uf]
theorem uf_head {s : List Nat} : (uf s).head? = some 58 ↔ s.head? = some 58 := by cases s <;> simp [uf, up1_58]
theorem uf_nm {s : List Nat} (h : Nm s) : Nm (uf s) := by
  cases s with
  | nil => exact nm_nil
  | cons c r =>
    obtain ⟨h1, h2, h3⟩ := h
    rw [nd_cons] at h1
    refine ⟨?_, ?_, ?_⟩
    · show nd (up1 c :: r) = true
      rw [nd_cons, Ne, up1_95, Ne, up1_32]
      exact h1
    · show (up1 c :: r).head? ≠ some 32
      simpa [up1_32] using h2
    · show (up1 c :: r).getLast? ≠ some 32
      cases r with
      | nil => simpa [up1_32] using h3
      | cons d r => rw [List.getLast?_cons_cons] at h3 ⊢; exact h3
theorem uf_bad {s : List Nat} (h : ∀ c ∈ s, bad c = false) : ∀ c ∈ uf s, bad c = false := by
  cases s with
  | nil => exact h
  | cons d r =>
    intro c hc
    rcases List.mem_cons.mp hc with e | hc
    · cases q : bad c with
      | false => rfl
      | true =>
        rw [e] at q
        have := bad_up1 q
        rw [h d List.mem_cons_self] at this
        cases this
    · exact h c (List.mem_cons_of_mem _ hc)
theorem uf_lo : ∀ s : List Nat, (uf s).map lo1 = s.map lo1
  | [] => rfl
  | c :: r => by
    show lo1 (up1 c) :: r.map lo1 = lo1 c :: r.map lo1
    rw [lo1_up1]
theorem mem_uf58 {s : List Nat} : 58 ∈ uf s ↔ 58 ∈ s := by
  cases s with
  | nil => rfl
  | cons c r =>
    show 58 ∈ up1 c :: r ↔ 58 ∈ c :: r
    rw [List.mem_cons, List.mem_cons]
    constructor
    · rintro (h | h)
      · exact .inl (up1_58.mp h.symm).symm
      · exact .inr h
    · rintro (h | h)
      · exact .inl (up1_58.mpr h.symm).symm
      · exact .inr h
theorem split58 {o : List Nat} (h : 58 ∈ o) : o = pre58 o ++ 58 :: post58 o := by
  unfold pre58 post58
  induction o with
  | nil => cases h
  | cons c r ih =>
    by_cases q : c = 58
    · subst q; simp
    · have h2 : 58 ∈ r := by
        rcases List.mem_cons.mp h with z | z
        · exact absurd z.symm q
        · exact z
      have e := ih h2
      rw [List.takeWhile_cons_of_pos (by simpa using q), List.dropWhile_cons_of_pos (by simpa using q), List.cons_append, ← e]
theorem pre58_no (o : List Nat) : 58 ∉ pre58 o := fun h => by
  have : ∀ l : List Nat, 58 ∉ l.takeWhile (fun c => decide (c ≠ 58)) := fun l => by
    induction l with
    | nil => simp
    | cons c r ih =>
      by_cases q : c = 58
      · subst q; simp
      · rw [List.takeWhile_cons_of_pos (by simpa using q)]
        intro z
        rcases List.mem_cons.mp z with z | z
        · exact q z.symm
        · exact ih z
  exact this o h
theorem pre58_app {p t : List Nat} (h : 58 ∉ p) : pre58 (p ++ 58 :: t) = p ∧ post58 (p ++ 58 :: t) = t := by
  unfold pre58 post58
  induction p with
  | nil => simp
  | cons c r ih =>
    have h1 : c ≠ 58 := fun z => h (by rw [z]; exact List.mem_cons_self)
    obtain ⟨e1, e2⟩ := ih fun z => h (List.mem_cons_of_mem _ z)
    rw [List.cons_append, List.takeWhile_cons_of_pos (by simpa using h1), List.dropWhile_cons_of_pos (by simpa using h1), e1, e2]
    exact ⟨rfl, rfl⟩
theorem rm_some {p n : List Nat} (h : rm p = some n) : n ∈ roomL ∧ n.map lo1 = p.map lo1 := ⟨List.mem_of_find?_eq_some h, by simpa using List.find?_some h⟩
theorem rm_self : ∀ n ∈ roomL, rm n = some n := by decide +kernel
theorem room_nm : ∀ n ∈ roomL, nd n = true ∧ n.head? ≠ some 32 ∧ n.getLast? ≠ some 32 ∧ 58 ∉ n ∧ n ≠ [] ∧ (∀ c ∈ n, bad c = false) := by decide +kernel
theorem rm_lo {p q : List Nat} (h : p.map lo1 = q.map lo1) : rm p = rm q := by unfold rm; rw [h]
theorem fit_some {r t u : List Nat} (h : fitT r t = some u) : r ≠ [] ∧ r.head? ≠ some 58 ∧ t.length ≤ 60 ∧ u = t := by
  unfold fitT at h
  split at h
  · cases h
  · rename_i q
    refine ⟨fun z => q (.inl z), fun z => q (.inr (.inl z)), ?_, (Option.some.inj h).symm⟩
    have : ¬ 60 < t.length := fun z => q (.inr (.inr z))
    omega
theorem fit_of {r t : List Nat} (h1 : r ≠ []) (h2 : r.head? ≠ some 58) (h3 : t.length ≤ 60) : fitT r t = some t := by
  unfold fitT
  rw [if_neg]
  rintro (z | z | z)
  · exact h1 z
  · exact h2 z
  · omega
theorem post_nd {o : List Nat} (h : nd o = true) (h58 : 58 ∈ o) : nd (post58 o) = true := by
  rw [split58 h58, nd_app, nd_cons] at h
  exact h.2.1.2.2
theorem pre_nd {o : List Nat} (h : nd o = true) (h58 : 58 ∈ o) : nd (pre58 o) = true := by
  rw [split58 h58, nd_app] at h
  exact h.1
/-- a title of at most so many signs -/
theorem TT_len {cs t : List Nat} (h : TT cs = some t) : t.length ≤ cs.length ∧ t.length ≤ 60 := by
  unfold TT at h
  split at h
  · cases h
  · obtain ⟨h1, h2, h3, rfl⟩ := fit_some h
    refine ⟨?_, h3⟩
    have hm := mo_len cs
    generalize mo cs = o at h1 h2 h3 hm ⊢
    cases e : nameOf o with
    | none =>
      show (uf o).length ≤ _
      rw [uf_len]
      exact hm
    | some n =>
      unfold nameOf at e
      split at e
      · rename_i h58
        obtain ⟨_, el⟩ := rm_some e
        have l1 := congrArg List.length el
        rw [List.length_map, List.length_map] at l1
        have l2 := st_len (pre58 o)
        have l3 := st_len (post58 o)
        have l4 := congrArg List.length (split58 h58)
        rw [List.length_append, List.length_cons] at l4
        show (n ++ 58 :: uf (st (post58 o))).length ≤ _
        rw [List.length_append, List.length_cons, uf_len]
        omega
      · cases e
/-- a title makes itself -/
theorem TT_self {cs t : List Nat} (h : TT cs = some t) : TT t = some t := by
  unfold TT at h
  split at h
  · cases h
  rename_i hb
  have hb : ∀ c ∈ cs, bad c = false := by simpa using hb
  have hbo : ∀ c ∈ mo cs, bad c = false := fun c hc => by
    rcases mo_mem hc with z | z
    · exact hb c z
    · rw [z]; rfl
  have hn := mo_nm cs
  generalize mo cs = o at h hbo hn
  obtain ⟨h1, h2, h3, rfl⟩ := fit_some h
  clear h
  cases e : nameOf o with
  | none =>
    rw [e] at h1 h2 h3
    have h1 : uf o ≠ [] := h1
    have h2 : (uf o).head? ≠ some 58 := h2
    have h3 : (uf o).length ≤ 60 := h3
    show TT (uf o) = some (uf o)
    have hu := uf_nm hn
    have e2 : nameOf (uf o) = none := by
      unfold nameOf at e ⊢
      by_cases q : 58 ∈ o
      · rw [if_pos q] at e
        rw [if_pos (mem_uf58.mpr q)]
        have s1 := split58 q
        generalize hp : pre58 o = p at e s1
        have np : 58 ∉ p := hp ▸ pre58_no o
        have pne : p ≠ [] := fun z => by
          rw [z] at s1
          rw [s1] at h2
          exact h2 rfl
        have e3 : pre58 (uf o) = uf p := by
          cases p with
          | nil => exact absurd rfl pne
          | cons c r =>
            rw [s1]
            show pre58 ((up1 c :: r) ++ 58 :: post58 o) = up1 c :: r
            refine (pre58_app fun z => ?_).1
            rcases List.mem_cons.mp z with z | z
            · exact np (by rw [up1_58.mp z.symm]; exact List.mem_cons_self)
            · exact np (List.mem_cons_of_mem _ z)
        rw [e3]
        have nh : p.head? ≠ some 32 := by
          cases p with
          | nil => exact absurd rfl pne
          | cons c r =>
            have z := hn.hd
            rw [s1] at z
            simpa using z
        have e4 : (st (uf p)).map lo1 = (st p).map lo1 := by
          cases p with
          | nil => rfl
          | cons c r =>
            have nh' : c ≠ 32 := by simpa using nh
            have nu : up1 c ≠ 32 := fun z => nh' (up1_32.mp z)
            have e5 : st (up1 c :: r) = moT (up1 c :: r) := by unfold st; rw [if_neg (by simpa using nu)]
            have e6 : st (c :: r) = moT (c :: r) := by unfold st; rw [if_neg (by simpa using nh')]
            show (st (up1 c :: r)).map lo1 = (st (c :: r)).map lo1
            rw [e5, e6]
            unfold moT
            cases r with
            | nil =>
              rw [if_neg (by simpa using nu), if_neg (by simpa using nh')]
              simp [lo1_up1]
            | cons d r =>
              rw [List.getLast?_cons_cons, List.getLast?_cons_cons]
              split
              · rw [List.dropLast_cons_cons, List.dropLast_cons_cons, List.map_cons, List.map_cons, lo1_up1]
              · rw [List.map_cons, lo1_up1]
                rfl
        rw [rm_lo e4]
        exact e
      · rw [if_neg fun z => q (mem_uf58.mp z)]
    unfold TT
    rw [if_neg (by simpa using uf_bad hbo), mo_of hu, e2]
    show fitT (uf (uf o)) (uf (uf o)) = some (uf o)
    rw [uf_uf]
    exact fit_of h1 h2 h3
  | some n =>
    rw [e] at h1 h2 h3
    have h58 : 58 ∈ o := by
      unfold nameOf at e
      split at e
      · assumption
      · cases e
    have er : rm (st (pre58 o)) = some n := by
      unfold nameOf at e
      rw [if_pos h58] at e
      exact e
    obtain ⟨nr, nl⟩ := rm_some er
    obtain ⟨n1, n2, n3, n4, n5, n6⟩ := room_nm n nr
    have h1 : uf (st (post58 o)) ≠ [] := h1
    have h2 : (uf (st (post58 o))).head? ≠ some 58 := h2
    have h3 : (n ++ 58 :: uf (st (post58 o))).length ≤ 60 := h3
    show TT (n ++ 58 :: uf (st (post58 o))) = some (n ++ 58 :: uf (st (post58 o)))
    have hr := uf_nm (st_nm (post_nd hn.nd h58))
    have hu := uf_uf (st (post58 o))
    have hbr : ∀ c ∈ uf (st (post58 o)), bad c = false := uf_bad fun c hc => hbo c (by
      rw [split58 h58]
      exact List.mem_append_right _ (List.mem_cons_of_mem _ (st_mem hc)))
    generalize uf (st (post58 o)) = r at h1 h2 h3 hr hu hbr
    have ht : Nm (n ++ 58 :: r) := by
      refine ⟨?_, ?_, ?_⟩
      · rw [nd_app, nd_cons]
        exact ⟨n1, ⟨by decide, .inl (by decide), hr.nd⟩, .inl n3⟩
      · cases n with
        | nil => exact absurd rfl n5
        | cons c m => simpa using n2
      · have q := hr.tl
        cases r with
        | nil => exact absurd rfl h1
        | cons c m => rw [List.getLast?_append, List.getLast?_cons_cons]; simp at q ⊢; exact q
    have e2 : nameOf (n ++ 58 :: r) = some n := by
      unfold nameOf
      rw [if_pos (List.mem_append_right _ List.mem_cons_self), (pre58_app n4).1, st_of ⟨n1, n2, n3⟩]
      exact rm_self n nr
    unfold TT
    rw [if_neg, mo_of ht, e2]
    · show fitT (uf (st (post58 (n ++ 58 :: r)))) (n ++ 58 :: uf (st (post58 (n ++ 58 :: r)))) = _
      rw [(pre58_app n4).2, st_of hr, hu]
      exact fit_of h1 h2 h3
    · intro z
      obtain ⟨c, hc, hz⟩ := List.any_eq_true.mp z
      have : bad c = false := by
        rcases List.mem_append.mp hc with z | z
        · exact n6 c z
        · rcases List.mem_cons.mp z with z | z
          · rw [z]; rfl
          · exact hbr c z
      rw [this] at hz
      cases hz
end DL

set_option Elab.async false
set_option linter.all false
set_option maxRecDepth 100000
set_option maxHeartbeats 1000000
namespace DL
open PyProof.Rows
/-! ### how the law reads a room -/
def lawRoomL : List (List Nat) := [[85, 115, 101, 114, 32, 116, 97, 108, 107], [85, 115, 101, 114], [84, 101, 109, 112, 108, 97, 116, 101, 32, 116, 97, 108, 107], [84, 101, 109, 112, 108, 97, 116, 101],
  [67, 97, 116, 101, 103, 111, 114, 121, 32, 116, 97, 108, 107], [67, 97, 116, 101, 103, 111, 114, 121], [72, 101, 108, 112, 32, 116, 97, 108, 107], [72, 101, 108, 112], [84, 97, 108, 107]]
theorem law_rooms_mem : ∀ n, n ∈ lawRoomL ↔ n ∈ roomL := by
  have h1 : ∀ n ∈ lawRoomL, n ∈ roomL := by decide +kernel
  have h2 : ∀ n ∈ roomL, n ∈ lawRoomL := by decide +kernel
  exact fun n => ⟨h1 n, h2 n⟩
theorem room_uniq : ∀ n ∈ roomL, ∀ m ∈ roomL, n.map lo1 = m.map lo1 → n = m := by decide +kernel
/-- the room n stands ahead -/
def Ahead (o n : List Nat) : Prop := (o.take n.length).map lo1 = n.map lo1 ∧ ((o.drop n.length).take 1 = [58] ∨ (o.drop n.length).take 2 = [32, 58])
theorem lo_mem58 {q n : List Nat} (h : q.map lo1 = n.map lo1) (hn : 58 ∉ n) : 58 ∉ q := fun z => by
  have h1 : lo1 58 ∈ q.map lo1 := List.mem_map_of_mem z
  rw [h] at h1
  obtain ⟨c, hc, e⟩ := List.mem_map.mp h1
  have : c = 58 := by
    have e2 : lo1 58 = 58 := by decide
    rw [e2] at e
    exact lo1_58.mp e
  exact hn (this ▸ hc)
theorem lo_head {q n : List Nat} (h : q.map lo1 = n.map lo1) (hn : n.head? ≠ some 32) : q.head? ≠ some 32 := by
  have e := congrArg List.head? h
  rw [List.head?_map, List.head?_map] at e
  intro z
  rw [z] at e
  cases y : n.head? with
  | none => rw [y] at e; cases e
  | some c =>
    rw [y] at e hn
    have e2 : lo1 32 = lo1 c := Option.some.inj e
    have e3 : lo1 32 = 32 := by decide
    rw [e3] at e2
    exact hn (by rw [lo1_32.mp e2.symm])
theorem lo_last {q n : List Nat} (h : q.map lo1 = n.map lo1) (hn : n.getLast? ≠ some 32) : q.getLast? ≠ some 32 := by
  have e := congrArg List.getLast? h
  rw [List.getLast?_map, List.getLast?_map] at e
  intro z
  rw [z] at e
  cases y : n.getLast? with
  | none => rw [y] at e; cases e
  | some c =>
    rw [y] at e hn
    have e2 : lo1 32 = lo1 c := Option.some.inj e
    have e3 : lo1 32 = 32 := by decide
    rw [e3] at e2
    exact hn (by rw [lo1_32.mp e2.symm])
theorem st_snoc {q : List Nat} (h : Nm q) (hq : q ≠ []) : st (q ++ [32]) = q := by
  unfold st
  have e : (q ++ [32]).head? ≠ some 32 := by
    cases q with
    | nil => exact absurd rfl hq
    | cons c r => exact h.hd
  rw [if_neg e]
  unfold moT
  rw [if_pos (by simp), List.dropLast_concat]
theorem ahead_iff {o n : List Nat} (ho : Nm o) (hn : n ∈ roomL) : Ahead o n ↔ 58 ∈ o ∧ n.map lo1 = (st (pre58 o)).map lo1 := by
  obtain ⟨n1, n2, n3, n4, n5, n6⟩ := room_nm n hn
  constructor
  · rintro ⟨h1, h2⟩
    have s : o = o.take n.length ++ o.drop n.length := (List.take_append_drop _ _).symm
    have q58 := lo_mem58 h1 n4
    have qh := lo_head h1 n2
    have ql := lo_last h1 n3
    have qd : nd (o.take n.length) = true := by
      have z := ho.nd
      rw [s, nd_app] at z
      exact z.1
    have qn : Nm (o.take n.length) := ⟨qd, qh, ql⟩
    have qe : o.take n.length ≠ [] := fun z => by
      rw [z] at h1
      exact n5 (by simpa using h1.symm)
    generalize o.take n.length = q at s h1 q58 qn qe
    rcases h2 with h2 | h2
    · obtain ⟨t, ht⟩ : ∃ t, o.drop n.length = 58 :: t := by
        cases z : o.drop n.length with
        | nil => rw [z] at h2; cases h2
        | cons a r => rw [z] at h2; exact ⟨r, by rw [show a = 58 by simpa using h2]⟩
      rw [ht] at s
      rw [s, (pre58_app q58).1, st_of qn]
      exact ⟨List.mem_append_right _ List.mem_cons_self, h1.symm⟩
    · obtain ⟨t, ht⟩ : ∃ t, o.drop n.length = 32 :: 58 :: t := by
        cases z : o.drop n.length with
        | nil => rw [z] at h2; cases h2
        | cons a r =>
          rw [z] at h2
          cases r with
          | nil => simp at h2
          | cons b r =>
            have e : a = 32 ∧ b = 58 := by simpa using h2
            exact ⟨r, by rw [e.1, e.2]⟩
      rw [ht] at s
      have s2 : o = (q ++ [32]) ++ 58 :: t := by rw [s]; simp
      rw [s2, (pre58_app (by simpa using q58)).1, st_snoc qn qe]
      exact ⟨List.mem_append_right _ List.mem_cons_self, h1.symm⟩
  · rintro ⟨h58, h⟩
    have s := split58 h58
    have pd := pre_nd ho.nd h58
    generalize pre58 o = p at s h pd
    generalize post58 o = t at s
    have pne : p ≠ [] := fun z => by
      rw [z] at h
      exact n5 (by simpa [st, moT] using h)
    have ph : p.head? ≠ some 32 := by
      have z := ho.hd
      rw [s] at z
      cases p with
      | nil => exact absurd rfl pne
      | cons c r => exact z
    have l := congrArg List.length h
    rw [List.length_map, List.length_map] at l
    unfold st at h l
    rw [if_neg ph] at h l
    unfold moT at h l
    by_cases q : p.getLast? = some 32
    · rw [if_pos q] at h l
      have e := List.dropLast_concat_getLast pne
      rw [List.getLast?_eq_some_getLast pne] at q
      rw [Option.some.inj q] at e
      generalize p.dropLast = v at h l e
      rw [← e] at s
      have s2 : o = v ++ (32 :: 58 :: t) := by rw [s]; simp
      refine ⟨?_, .inr ?_⟩
      · rw [s2, l, List.take_left]
        exact h.symm
      · rw [s2, l, List.drop_left]
        rfl
    · rw [if_neg q] at h l
      refine ⟨?_, .inl ?_⟩
      · rw [s, l, List.take_left]
        exact h.symm
      · rw [s, l, List.drop_left]
        rfl
theorem post58_skip : ∀ {q d : List Nat}, 58 ∉ q → post58 (q ++ d) = post58 d
  | [], _, _ => rfl
  | c :: q, d, h => by
    have h1 : c ≠ 58 := fun z => h (by rw [z]; exact List.mem_cons_self)
    have ih := post58_skip (q := q) (d := d) fun z => h (List.mem_cons_of_mem _ z)
    unfold post58 at ih ⊢
    rw [List.cons_append, List.dropWhile_cons_of_pos (by simpa using h1)]
    exact ih
theorem ahead_post {o n : List Nat} (hn : n ∈ roomL) (h : Ahead o n) : post58 (o.drop n.length) = post58 o ∧ 58 ∈ o.drop n.length := by
  obtain ⟨n1, n2, n3, n4, n5, n6⟩ := room_nm n hn
  have q58 := lo_mem58 h.1 n4
  refine ⟨?_, ?_⟩
  · have e := post58_skip (d := o.drop n.length) q58
    rw [List.take_append_drop] at e
    exact e.symm
  · rcases h.2 with z | z
    · exact List.mem_of_mem_take (by rw [z]; simp)
    · exact List.mem_of_mem_take (by rw [z]; simp)
open Classical in
/-- the last room that stands ahead -/
noncomputable def lastR (o : List Nat) (s : Option (List Nat)) (n : List Nat) : Option (List Nat) := if Ahead o n then some n else s
theorem last_none {o : List Nat} : ∀ (ns : List (List Nat)) (s : Option (List Nat)), (∀ n ∈ ns, ¬ Ahead o n) → ns.foldl (lastR o) s = s
  | [], s, _ => rfl
  | n :: ns, s, h => by
    rw [List.foldl_cons]
    have e : lastR o s n = s := by unfold lastR; rw [if_neg (h n List.mem_cons_self)]
    rw [e]
    exact last_none ns s fun m hm => h m (List.mem_cons_of_mem _ hm)
theorem last_some {o n0 : List Nat} : ∀ (ns : List (List Nat)) (s : Option (List Nat)), (∀ n ∈ ns, Ahead o n ↔ n = n0) → (n0 ∈ ns ∨ s = some n0) → ns.foldl (lastR o) s = some n0
  | [], s, _, h => by
    rcases h with h | h
    · cases h
    · exact h
  | n :: ns, s, h, h2 => by
    rw [List.foldl_cons]
    refine last_some ns _ (fun m hm => h m (List.mem_cons_of_mem _ hm)) ?_
    by_cases q : n = n0
    · right
      unfold lastR
      rw [if_pos ((h n List.mem_cons_self).mpr q), q]
    · rcases h2 with z | z
      · rcases List.mem_cons.mp z with z | z
        · exact absurd z.symm q
        · exact .inl z
      · right
        unfold lastR
        rw [if_neg fun y => q ((h n List.mem_cons_self).mp y)]
        exact z
theorem last_name {o : List Nat} (ho : Nm o) : lawRoomL.foldl (lastR o) none = nameOf o := by
  cases e : nameOf o with
  | none =>
    refine last_none _ _ fun n hn z => ?_
    have hr := (law_rooms_mem n).mp hn
    obtain ⟨h58, hl⟩ := (ahead_iff ho hr).mp z
    unfold nameOf at e
    rw [if_pos h58] at e
    have := List.find?_eq_none.mp e n hr
    exact this (by simpa using hl)
  | some n0 =>
    have h58 : 58 ∈ o := by
      unfold nameOf at e
      split at e
      · assumption
      · cases e
    unfold nameOf at e
    rw [if_pos h58] at e
    obtain ⟨h0, hl⟩ := rm_some e
    refine last_some _ _ (fun n hn => ?_) (.inl ((law_rooms_mem n0).mpr h0))
    have hr := (law_rooms_mem n).mp hn
    rw [ahead_iff ho hr]
    constructor
    · rintro ⟨_, h⟩
      exact room_uniq n hr n0 h0 (h.trans hl.symm)
    · rintro rfl
      exact ⟨h58, hl⟩
end DL

set_option Elab.async false
set_option linter.all false
set_option maxRecDepth 100000
set_option maxHeartbeats 400000
namespace DL
/-! ### rooms and talks of titles -/
structure GR (r : List Nat) : Prop where
  nm : Nm r
  ne : r ≠ []
  hd : r.head? ≠ some 58
  up : uf r = r
  bd : ∀ c ∈ r, bad c = false
theorem TT_room {n r : List Nat} (hn : n ∈ roomL) (g : GR r) (hl : (n ++ 58 :: r).length ≤ 60) : TT (n ++ 58 :: r) = some (n ++ 58 :: r) := by
  obtain ⟨n1, n2, n3, n4, n5, n6⟩ := room_nm n hn
  have ht : Nm (n ++ 58 :: r) := by
    refine ⟨?_, ?_, ?_⟩
    · rw [nd_app, nd_cons]
      exact ⟨n1, ⟨by decide, .inl (by decide), g.nm.nd⟩, .inl n3⟩
    · cases n with
      | nil => exact absurd rfl n5
      | cons c m => simpa using n2
    · have q := g.nm.tl
      have h1 := g.ne
      cases r with
      | nil => exact absurd rfl h1
      | cons c m => rw [List.getLast?_append, List.getLast?_cons_cons]; simp at q ⊢; exact q
  have e2 : nameOf (n ++ 58 :: r) = some n := by
    unfold nameOf
    rw [if_pos (List.mem_append_right _ List.mem_cons_self), (pre58_app n4).1, st_of ⟨n1, n2, n3⟩]
    exact rm_self n hn
  unfold TT
  rw [if_neg, mo_of ht, e2]
  · show fitT (uf (st (post58 (n ++ 58 :: r)))) (n ++ 58 :: uf (st (post58 (n ++ 58 :: r)))) = _
    rw [(pre58_app n4).2, st_of g.nm, g.up]
    exact fit_of g.ne g.hd hl
  · intro z
    obtain ⟨c, hc, hz⟩ := List.any_eq_true.mp z
    have : bad c = false := by
      rcases List.mem_append.mp hc with z | z
      · exact n6 c z
      · rcases List.mem_cons.mp z with z | z
        · rw [z]; rfl
        · exact g.bd c z
    rw [this] at hz
    cases hz
theorem TT_form {t : List Nat} (h : TT t = some t) : (∃ n ∈ roomL, ∃ r, t = n ++ 58 :: r ∧ GR r) ∨ (GR t ∧ (58 ∈ t → pre58 t ∉ roomL)) := by
  unfold TT at h
  split at h
  · cases h
  rename_i hb
  have hb : ∀ c ∈ t, bad c = false := by simpa using hb
  have hbo : ∀ c ∈ mo t, bad c = false := fun c hc => by
    rcases mo_mem hc with z | z
    · exact hb c z
    · rw [z]; rfl
  have hn := mo_nm t
  obtain ⟨h1, h2, h3, h4⟩ := fit_some h
  clear h
  cases e : nameOf (mo t) with
  | none =>
    rw [e] at h1 h2 h4
    have h1 : uf (mo t) ≠ [] := h1
    have h2 : (uf (mo t)).head? ≠ some 58 := h2
    have h4 : t = uf (mo t) := h4
    have hu := uf_nm hn
    have eo : mo t = t := mo_of (h4 ▸ hu)
    rw [eo] at e h1 h2 hbo hu hn
    have hup : uf t = t := by rw [eo] at h4; exact h4.symm
    rw [hup] at h1 h2
    refine .inr ⟨⟨hn, h1, h2, hup, hbo⟩, fun h58 hp => ?_⟩
    obtain ⟨n1, n2, n3, n4, n5, n6⟩ := room_nm _ hp
    unfold nameOf at e
    rw [if_pos h58, st_of ⟨n1, n2, n3⟩, rm_self _ hp] at e
    cases e
  | some n =>
    rw [e] at h1 h2 h4
    have h58 : 58 ∈ mo t := by
      unfold nameOf at e
      split at e
      · assumption
      · cases e
    have er : rm (st (pre58 (mo t))) = some n := by
      unfold nameOf at e
      rw [if_pos h58] at e
      exact e
    obtain ⟨nr, nl⟩ := rm_some er
    exact .inl ⟨n, nr, _, h4, uf_nm (st_nm (post_nd hn.nd h58)), h1, h2, uf_uf _, uf_bad fun c hc => hbo c (by
      rw [split58 h58]
      exact List.mem_append_right _ (List.mem_cons_of_mem _ (st_mem hc)))⟩
/-- the room, the rest -/
def rmOf (t : List Nat) : List Nat := if 58 ∈ t ∧ pre58 t ∈ roomL then pre58 t else []
def rsOf (t : List Nat) : List Nat := if rmOf t = [] then t else t.drop ((rmOf t).length + 1)
theorem rm_rooms : ∀ n ∈ roomL, n ≠ [] := fun n h => (room_nm n h).2.2.2.2.1
theorem rmOf_room {n r : List Nat} (hn : n ∈ roomL) : rmOf (n ++ 58 :: r) = n ∧ rsOf (n ++ 58 :: r) = r := by
  have n4 := (room_nm n hn).2.2.2.1
  have e : rmOf (n ++ 58 :: r) = n := by
    unfold rmOf
    rw [(pre58_app n4).1, if_pos ⟨List.mem_append_right _ List.mem_cons_self, hn⟩]
  refine ⟨e, ?_⟩
  unfold rsOf
  rw [e, if_neg (rm_rooms n hn)]
  have : n ++ 58 :: r = (n ++ [58]) ++ r := by simp
  rw [this, List.drop_left' (by simp)]
theorem rmOf_none {t : List Nat} (h : 58 ∈ t → pre58 t ∉ roomL) : rmOf t = [] ∧ rsOf t = t := by
  have e : rmOf t = [] := if_neg fun z => h z.1 z.2
  exact ⟨e, if_pos e⟩
theorem rsOf_GR {t : List Nat} (h : TT t = some t) : GR (rsOf t) ∧ t = (if rmOf t = [] then rsOf t else rmOf t ++ 58 :: rsOf t) := by
  rcases TT_form h with ⟨n, hn, r, rfl, g⟩ | ⟨g, k⟩
  · obtain ⟨e1, e2⟩ := rmOf_room (r := r) hn
    rw [e1, e2, if_neg (rm_rooms n hn)]
    exact ⟨g, rfl⟩
  · obtain ⟨e1, e2⟩ := rmOf_none k
    rw [e1, e2, if_pos rfl]
    exact ⟨g, rfl⟩
theorem rsOf_len (t : List Nat) : (rsOf t).length ≤ t.length := by
  unfold rsOf
  split
  · exact Nat.le_refl _
  · rw [List.length_drop]; omega
def tkL : List (List Nat × List Nat) := [([], [84, 97, 108, 107]), ([85, 115, 101, 114], [85, 115, 101, 114, 32, 116, 97, 108, 107]), ([84, 101, 109, 112, 108, 97, 116, 101], [84, 101, 109, 112, 108, 97, 116, 101, 32, 116, 97, 108, 107]),
  ([67, 97, 116, 101, 103, 111, 114, 121], [67, 97, 116, 101, 103, 111, 114, 121, 32, 116, 97, 108, 107]), ([72, 101, 108, 112], [72, 101, 108, 112, 32, 116, 97, 108, 107])]
def fit60 (t : List Nat) : Option (List Nat) := if t.length ≤ 60 then some t else none
def tk (t : List Nat) : Option (List Nat) := match tkL.lookup (rmOf t) with
  | none => none
  | some n => fit60 (n ++ 58 :: rsOf t)
def backN (n r : List Nat) : List Nat := if n = [] then r else n ++ 58 :: r
def td (t : List Nat) : Option (List Nat) := match tkL.find? fun p => decide (p.2 = rmOf t) with
  | none => none
  | some p => if TT (backN p.1 (rsOf t)) = some (backN p.1 (rsOf t)) ∧ tk (backN p.1 (rsOf t)) = some t then some (backN p.1 (rsOf t)) else none
theorem tk_room : ∀ p ∈ tkL, p.2 ∈ roomL ∧ (tkL.find? fun q => decide (q.2 = p.2)) = some p ∧ p.1.length ≤ 9 ∧ p.2.length ≤ 14 := by decide +kernel
theorem lookup_mem' {n m : List Nat} : ∀ {l : List (List Nat × List Nat)}, l.lookup n = some m → (n, m) ∈ l
  | [], h => by cases h
  | (a, b) :: l, h => by
    rw [List.lookup_cons] at h
    by_cases e : n = a
    · subst e
      simp at h
      rw [h]
      exact List.mem_cons_self
    · rw [show (n == a) = false by simpa using e] at h
      exact List.mem_cons_of_mem _ (lookup_mem' h)
theorem tk_back {t u : List Nat} (h : TT t = some t) (e : tk t = some u) : TT u = some u ∧ td u = some t := by
  obtain ⟨g, ht⟩ := rsOf_GR h
  have e0 := e
  unfold tk at e
  cases q : tkL.lookup (rmOf t) with
  | none => rw [q] at e; cases e
  | some n =>
    rw [q] at e
    dsimp only at e
    unfold fit60 at e
    split at e
    · rename_i hl
      cases e
      obtain ⟨hn, hf, _, _⟩ := tk_room _ (lookup_mem' q)
      have hn : n ∈ roomL := hn
      have hf : (tkL.find? fun q => decide (q.2 = n)) = some (rmOf t, n) := hf
      have hu := TT_room hn g hl
      obtain ⟨e1, e2⟩ := rmOf_room (r := rsOf t) hn
      refine ⟨hu, ?_⟩
      unfold td
      rw [e1, e2, hf]
      dsimp only
      have eb : backN (rmOf t) (rsOf t) = t := ht.symm
      rw [eb, if_pos ⟨h, e0⟩]
    · cases e
theorem tk_len {t u : List Nat} (e : tk t = some u) : u.length ≤ 60 := by
  unfold tk at e
  cases q : tkL.lookup (rmOf t) with
  | none => rw [q] at e; cases e
  | some n =>
    rw [q] at e
    dsimp only at e
    unfold fit60 at e
    split at e
    · cases e; assumption
    · cases e
end DL

set_option Elab.async false
set_option linter.all false
set_option maxRecDepth 100000
set_option maxHeartbeats 400000
namespace DL
open PyProof.Rows
/-! ### titles above -/
def fst0 (t : List Nat) : Nat := t.length - (rsOf t).length
/-- the titles at the places below n, last first -/
def abv (t : List Nat) (f : Nat) : Nat → List (List Nat)
  | 0 => []
  | n + 1 => (if f ≤ n ∧ t[n]? = some 47 then (match TT (t.take n) with
    | some u => [u]
    | none => []) else []) ++ abv t f n
def AB (t : List Nat) : List (List Nat) := abv t (fst0 t) t.length
theorem moT_of {s : List Nat} (h : s.getLast? ≠ some 32) : moT s = s := if_neg h
/-- a rest, cut short -/
theorem cut_nm {r : List Nat} (h : Nm r) (k : Nat) : nd (r.take k) = true ∧ (r.take k).head? ≠ some 32 := by
  have e := List.take_append_drop k r
  have hn := h.nd
  rw [← e, nd_app] at hn
  refine ⟨hn.1, fun z => h.hd ?_⟩
  cases r with
  | nil => simp at z
  | cons c r =>
    cases k with
    | zero => simp at z
    | succ k => simpa using z
theorem st_cut {r : List Nat} (h : Nm r) (k : Nat) : st (r.take k) = moT (r.take k) := by
  unfold st
  rw [if_neg (cut_nm h k).2]
theorem mo_cut {r : List Nat} (h : Nm r) (k : Nat) : mo (r.take k) = moT (r.take k) := (mo_st (cut_nm h k).1).trans (st_cut h k)
theorem moT_pre (s : List Nat) : ∃ j, moT s = s.take j ∧ s.length ≤ j + 1 ∧ j ≤ s.length := by
  unfold moT
  split
  · exact ⟨s.length - 1, by rw [List.dropLast_eq_take], by omega, by omega⟩
  · exact ⟨s.length, by rw [List.take_length], by omega, Nat.le_refl _⟩
theorem up_cut {r : List Nat} (h : uf r = r) (j : Nat) : uf (r.take j) = r.take j := by
  cases r with
  | nil => simp [uf]
  | cons c r =>
    have e : up1 c = c := by
      have : up1 c :: r = c :: r := h
      injection this
    cases j with
    | zero => rfl
    | succ j =>
      show up1 c :: r.take j = c :: r.take j
      rw [e]
/-- the cut rest is a rest, or nothing -/
theorem GR_cut {r : List Nat} (g : GR r) (k : Nat) (hne : moT (r.take k) ≠ []) : GR (moT (r.take k)) := by
  have hm : Nm (moT (r.take k)) := moT_nm (cut_nm g.nm k).1 (cut_nm g.nm k).2
  obtain ⟨j, e, _, _⟩ := moT_pre (r.take k)
  have e2 : moT (r.take k) = r.take (min j k) := by rw [e, List.take_take]
  refine ⟨hm, hne, fun z => ?_, ?_, fun c hc => ?_⟩
  · rw [e2] at z hne
    have hd := g.hd
    cases r with
    | nil => simp at z
    | cons c r =>
      cases q : min j k with
      | zero => rw [q] at hne; exact hne rfl
      | succ q' =>
        rw [q] at z
        exact hd (by simpa using z)
  · rw [e2]
    exact up_cut g.up _
  · rw [e2] at hc
    exact g.bd c (List.mem_of_mem_take hc)
/-- a room and a rest, cut in the rest -/
theorem TT_cutR {n r : List Nat} (hn : n ∈ roomL) (g : GR r) (hl : (n ++ 58 :: r).length ≤ 60) (k : Nat) : TT (n ++ 58 :: r.take k) = if moT (r.take k) = [] then none else some (n ++ 58 :: moT (r.take k)) := by
  obtain ⟨n1, n2, n3, n4, n5, n6⟩ := room_nm n hn
  have hlen : (moT (r.take k)).length ≤ r.length := Nat.le_trans moT_len (by rw [List.length_take]; omega)
  have hb : (n ++ 58 :: r.take k).any bad = false := by
    rw [List.any_append, List.any_cons]
    have h1 : n.any bad = false := by simpa using n6
    have h2 : (r.take k).any bad = false := by
      rw [List.any_eq_false]
      exact fun c hc => by simpa using g.bd c (List.mem_of_mem_take hc)
    rw [h1, h2]
    rfl
  -- what is made one
  have hmo : mo (n ++ 58 :: r.take k) = n ++ 58 :: moT (r.take k) := by
    have hnd : nd (n ++ 58 :: r.take k) = true := by
      rw [nd_app, nd_cons]
      exact ⟨n1, ⟨by decide, .inl (by decide), (cut_nm g.nm k).1⟩, .inl n3⟩
    have hh : (n ++ 58 :: r.take k).head? ≠ some 32 := by
      cases n with
      | nil => exact absurd rfl n5
      | cons c m => simpa using n2
    rw [mo_st hnd]
    unfold st
    rw [if_neg hh]
    unfold moT
    cases e : r.take k with
    | nil => simp
    | cons c m =>
      rw [List.getLast?_append, List.getLast?_cons_cons]
      have e3 : ((c :: m).getLast?).or n.getLast? = (c :: m).getLast? := by
        cases q : (c :: m).getLast? with
        | none => simp at q
        | some z => rfl
      rw [e3]
      split
      · rw [List.dropLast_append_of_ne_nil (by simp), List.dropLast_cons_cons]
      · rfl
  unfold TT
  rw [hb, if_neg Bool.false_ne_true, hmo]
  have e2 : nameOf (n ++ 58 :: moT (r.take k)) = some n := by
    unfold nameOf
    rw [if_pos (List.mem_append_right _ List.mem_cons_self), (pre58_app n4).1, st_of ⟨n1, n2, n3⟩]
    exact rm_self n hn
  rw [e2]
  show fitT (uf (st (post58 (n ++ 58 :: moT (r.take k))))) (n ++ 58 :: uf (st (post58 (n ++ 58 :: moT (r.take k))))) = _
  rw [(pre58_app n4).2]
  by_cases q : moT (r.take k) = []
  · rw [if_pos q, q]
    rfl
  · have gc := GR_cut g k q
    rw [if_neg q, st_of gc.nm, gc.up]
    refine fit_of gc.ne gc.hd ?_
    rw [List.length_append, List.length_cons] at hl ⊢
    omega
/-- no room, cut -/
theorem TT_cutN {t : List Nat} (g : GR t) (hr : 58 ∈ t → pre58 t ∉ roomL) (hs : TT t = some t) (k : Nat) : TT (t.take k) = if moT (t.take k) = [] then none else some (moT (t.take k)) := by
  have hb : (t.take k).any bad = false := by
    rw [List.any_eq_false]
    exact fun c hc => by simpa using g.bd c (List.mem_of_mem_take hc)
  have hl := (TT_len hs).2
  have hlen : (moT (t.take k)).length ≤ t.length := Nat.le_trans moT_len (by rw [List.length_take]; omega)
  -- no name
  have hno : nameOf t = none := by
    cases e : nameOf t with
    | none => rfl
    | some n =>
      unfold TT at hs
      rw [if_neg (by simpa using g.bd), mo_of g.nm, e] at hs
      obtain ⟨_, _, _, e4⟩ := fit_some hs
      have e4 : t = n ++ 58 :: uf (st (post58 t)) := e4
      have h58 : 58 ∈ t := by rw [e4]; exact List.mem_append_right _ List.mem_cons_self
      have en : n ∈ roomL := by
        unfold nameOf at e
        rw [if_pos h58] at e
        exact (rm_some e).1
      have : pre58 t = n := by rw [e4]; exact (pre58_app (room_nm n en).2.2.2.1).1
      exact absurd (this ▸ en) (hr h58)
  obtain ⟨j, ej, _, _⟩ := moT_pre (t.take k)
  have e2 : moT (t.take k) = t.take (min j k) := by rw [ej, List.take_take]
  have hno2 : nameOf (moT (t.take k)) = none := by
    unfold nameOf at hno ⊢
    by_cases q : 58 ∈ moT (t.take k)
    · rw [if_pos q]
      have qt : 58 ∈ t := List.mem_of_mem_take (e2 ▸ q)
      rw [if_pos qt] at hno
      have : pre58 (moT (t.take k)) = pre58 t := by
        have s := split58 q
        have np := pre58_no (moT (t.take k))
        have w : t = pre58 (moT (t.take k)) ++ 58 :: (post58 (moT (t.take k)) ++ t.drop (min j k)) := by
          conv => lhs; rw [← List.take_append_drop (min j k) t, ← e2, s]
          simp
        conv => rhs; rw [w]
        exact (pre58_app np).1.symm
      rw [this]
      exact hno
    · rw [if_neg q]
  unfold TT
  rw [hb, if_neg Bool.false_ne_true, mo_cut g.nm, hno2]
  show fitT (uf (moT (t.take k))) (uf (moT (t.take k))) = _
  by_cases q : moT (t.take k) = []
  · rw [if_pos q, q]
    rfl
  · have gc := GR_cut g k q
    rw [if_neg q, gc.up]
    exact fit_of gc.ne gc.hd (by omega)
end DL

set_option Elab.async false
set_option linter.all false
set_option maxRecDepth 100000
set_option maxHeartbeats 400000
namespace DL
open PyProof.Rows
theorem pre58_take {t : List Nat} {q : Nat} (h : 58 ∈ t.take q) : pre58 (t.take q) = pre58 t := by
  have s := split58 h
  have np := pre58_no (t.take q)
  have w : t = pre58 (t.take q) ++ 58 :: (post58 (t.take q) ++ t.drop q) := by
    conv => lhs; rw [← List.take_append_drop q t, s]
    simp
  conv => rhs; rw [w]
  exact (pre58_app np).1.symm
/-- cut at p, a blank ahead of it left out -/
theorem moT_take {r : List Nat} {k : Nat} (hk : k ≤ r.length) : ∃ q, moT (r.take k) = r.take q ∧ (q = k ∨ (q + 1 = k ∧ r[q]? = some 32)) := by
  unfold moT
  split
  · rename_i h
    have hk0 : 0 < k := by
      cases k with
      | zero => simp at h
      | succ k => omega
    refine ⟨k - 1, ?_, .inr ⟨by omega, ?_⟩⟩
    · rw [List.dropLast_eq_take, List.length_take, List.take_take]
      congr 1
      omega
    · rw [List.getLast?_eq_getElem?, List.length_take, Nat.min_eq_left hk, List.getElem?_take_of_lt (by omega)] at h
      exact h
  · exact ⟨k, rfl, .inl rfl⟩
theorem abv_pre {t u : List Nat} {f q : Nat} (hu : u = t.take q) (hq : q ≤ t.length) : ∀ n, n ≤ q → abv u f n = abv t f n
  | 0, _ => rfl
  | n + 1, h => by
    have e1 : u[n]? = t[n]? := by rw [hu, List.getElem?_take_of_lt (by omega)]
    have e2 : u.take n = t.take n := by rw [hu, List.take_take, Nat.min_eq_left (by omega)]
    show _ ++ abv u f n = _ ++ abv t f n
    rw [abv_pre hu hq n (by omega), e1, e2]
theorem abv_step {t : List Nat} {f q p : Nat} (h : q = p ∨ (q + 1 = p ∧ t[q]? = some 32)) : abv t f p = abv t f q := by
  rcases h with rfl | ⟨rfl, e⟩
  · rfl
  · show _ ++ abv t f q = _
    rw [if_neg fun z => by rw [e] at z; cases z.2]
    rfl
theorem take_room {n r : List Nat} {q : Nat} : (n ++ 58 :: r).take (n.length + 1 + q) = n ++ 58 :: r.take q := by
  have e : n ++ 58 :: r = (n ++ [58]) ++ r := by simp
  have l : n.length + 1 + q = (n ++ [58]).length + q := by simp
  rw [e, l, List.take_length_add_append]
  simp
theorem get_room {n r : List Nat} {q : Nat} : (n ++ 58 :: r)[n.length + 1 + q]? = r[q]? := by
  have e : n ++ 58 :: r = (n ++ [58]) ++ r := by simp
  rw [e, List.getElem?_append_right (by simp)]
  congr 1
  simp
/-- a title above: a title, what is above it is what is above it here -/
theorem above_of {t u : List Nat} {p : Nat} (ht : TT t = some t) (hf : fst0 t ≤ p) (hp : p ≤ t.length) (h : TT (t.take p) = some u) : TT u = some u ∧ AB u = abv t (fst0 t) p ∧ u.length ≤ p := by
  have hs := TT_self h
  refine ⟨hs, ?_⟩
  have key : ∃ q, u = t.take q ∧ (q = p ∨ (q + 1 = p ∧ t[q]? = some 32)) ∧ fst0 u = fst0 t := by
    rcases TT_form ht with ⟨n, hn, r, rfl, g⟩ | ⟨g, hr⟩
    · obtain ⟨e1, e2⟩ := rmOf_room (r := r) hn
      have ef : fst0 (n ++ 58 :: r) = n.length + 1 := by
        unfold fst0
        rw [e2, List.length_append, List.length_cons]
        omega
      rw [ef] at hf
      have hl := (TT_len ht).2
      have ek : (n ++ 58 :: r).take p = n ++ 58 :: r.take (p - (n.length + 1)) := by
        rw [← take_room, show n.length + 1 + (p - (n.length + 1)) = p by omega]
      have hk : p - (n.length + 1) ≤ r.length := by
        rw [List.length_append, List.length_cons] at hp
        omega
      rw [ek, TT_cutR hn g hl] at h
      split at h
      · cases h
      · rename_i hne
        cases h
        obtain ⟨q, eq, hq⟩ := moT_take hk
        have gc := GR_cut g _ hne
        obtain ⟨e3, e4⟩ := rmOf_room (r := moT (r.take (p - (n.length + 1)))) hn
        refine ⟨n.length + 1 + q, ?_, ?_, ?_⟩
        · rw [eq, take_room]
        · rcases hq with hq | ⟨hq, hb⟩
          · exact .inl (by omega)
          · refine .inr ⟨by omega, ?_⟩
            rw [get_room]
            exact hb
        · rw [ef]
          unfold fst0
          rw [e4, List.length_append, List.length_cons]
          omega
    · obtain ⟨e1, e2⟩ := rmOf_none hr
      have ef : fst0 t = 0 := by
        unfold fst0
        rw [e2]
        omega
      rw [TT_cutN g hr ht] at h
      split at h
      · cases h
      · rename_i hne
        cases h
        obtain ⟨q, eq, hq⟩ := moT_take hp
        refine ⟨q, eq, hq, ?_⟩
        have hr' : 58 ∈ moT (t.take p) → pre58 (moT (t.take p)) ∉ roomL := fun z => by
          rw [eq] at z ⊢
          rw [pre58_take z]
          exact hr (List.mem_of_mem_take z)
        rw [ef]
        unfold fst0
        rw [(rmOf_none hr').2]
        omega
  obtain ⟨q, eu, hq, ef⟩ := key
  have hqp : q ≤ p := by rcases hq with rfl | ⟨rfl, _⟩ <;> omega
  have ul : u.length = q := by rw [eu, List.length_take]; omega
  refine ⟨?_, by omega⟩
  unfold AB
  rw [ef, ul, abv_pre eu (by omega) q (Nat.le_refl _), abv_step hq]
/-- each one of them is a title, and what is above it stands behind it -/
theorem abv_all {t : List Nat} (ht : TT t = some t) : ∀ n, n ≤ t.length → ∀ (i : Nat) (u : List Nat), (abv t (fst0 t) n)[i]? = some u → TT u = some u ∧ AB u = (abv t (fst0 t) n).drop (i + 1) ∧ u.length ≤ n
  | 0, _, i, u, h => by simp [abv] at h
  | n + 1, hn, i, u, h => by
    have ih := abv_all ht n (by omega)
    have e : abv t (fst0 t) (n + 1) = (if fst0 t ≤ n ∧ t[n]? = some 47 then (match TT (t.take n) with
      | some u => [u]
      | none => []) else []) ++ abv t (fst0 t) n := rfl
    rw [e] at h ⊢
    by_cases c : fst0 t ≤ n ∧ t[n]? = some 47
    · rw [if_pos c] at h ⊢
      cases q : TT (t.take n) with
      | none =>
        rw [q] at h
        obtain ⟨a, b, l⟩ := ih i u h
        exact ⟨a, b, by omega⟩
      | some w =>
        rw [q] at h
        cases i with
        | zero =>
          simp at h
          subst h
          obtain ⟨a, b, l⟩ := above_of ht c.1 (by omega) q
          exact ⟨a, b, by omega⟩
        | succ i =>
          obtain ⟨a, b, l⟩ := ih i u (by simpa using h)
          exact ⟨a, by simpa using b, by omega⟩
    · rw [if_neg c] at h ⊢
      obtain ⟨a, b, l⟩ := ih i u h
      exact ⟨a, b, by omega⟩
theorem AB_all {t : List Nat} (ht : TT t = some t) {i : Nat} {u : List Nat} (h : (AB t)[i]? = some u) : TT u = some u ∧ AB u = (AB t).drop (i + 1) ∧ u.length ≤ t.length := abv_all ht t.length (Nat.le_refl _) i u h
theorem abv_len (t : List Nat) (f : Nat) : ∀ n, (abv t f n).length ≤ n
  | 0 => Nat.le_refl _
  | n + 1 => by
    have := abv_len t f n
    show (_ ++ abv t f n).length ≤ _
    rw [List.length_append]
    split
    · cases TT (t.take n) <;> simp <;> omega
    · simp; omega
/-! ### steps -/
/-- what a title and a text lead to, with so many steps up at most -/
def led : Nat → List Nat → List Nat → Option (List Nat)
  | 0, _, _ => none
  | k + 1, t, s => if s.take 3 = [46, 46, 47] then (match AB t with
      | [] => none
      | u :: _ => led k u (s.drop 3))
    else (let l := if s.head? = some 47 then s.drop 1 else s
      if l = [] then some t else TT (t ++ 47 :: l))
end DL

set_option Elab.async false
set_option linter.all false
set_option maxRecDepth 100000
set_option maxHeartbeats 400000
namespace DL
open PyProof.Rows
/-- at most so many steps up ahead -/
def stp : Nat → List Nat → Bool
  | 0, s => decide (s.take 3 ≠ [46, 46, 47])
  | k + 1, s => decide (s.take 3 ≠ [46, 46, 47]) || stp k (s.drop 3)
/-- what a text leads to -/
def ledTo (k : Nat) (t s : List Nat) : Option (List Nat) := if s.take 3 ≠ [46, 46, 47] ∧ s.head? ≠ some 47 then TT s else led k t s
theorem led_up {k : Nat} {t s : List Nat} (h : s.take 3 = [46, 46, 47]) : led (k + 1) t s = match AB t with
    | [] => none
    | u :: _ => led k u (s.drop 3) := by
  conv => lhs; unfold led
  refine (if_pos h).trans ?_
  cases AB t <;> rfl
theorem led_end {k : Nat} {t s : List Nat} (h : s.take 3 ≠ [46, 46, 47]) : led (k + 1) t s = if (if s.head? = some 47 then s.drop 1 else s) = [] then some t else TT (t ++ 47 :: (if s.head? = some 47 then s.drop 1 else s)) := by
  conv => lhs; unfold led
  rw [if_neg h]
theorem led_slash {k : Nat} {t s : List Nat} (h1 : s.take 3 ≠ [46, 46, 47]) (h2 : s.head? ≠ some 47) : led (k + 1) t (47 :: s) = led (k + 1) t s := by
  have e : (47 :: s).take 3 ≠ [46, 46, 47] := by simp
  rw [led_end e, led_end h1, if_pos (show (47 :: s).head? = some 47 from rfl), if_neg h2]
  rfl
end DL

set_option Elab.async false
set_option linter.all false
set_option maxRecDepth 100000
set_option maxHeartbeats 400000
namespace DL
open PySem PySem.Spec PyProof.Rows L2
theorem bits_le {x : Int} {k : Nat} (h : x.natAbs < 2 ^ k) : Builtin.Int.intBits x ≤ k := by
  unfold Builtin.Int.intBits
  split
  · exact Nat.zero_le _
  · have := (Nat.log2_lt (by intro z; simp_all)).mpr h
    omega
theorem smul_int {a b : Int} (ha : a.natAbs < 2 ^ 64) (hb : b.natAbs < 2 ^ 64) : opSMul (.int a) (.int b) = .ok (.int (a * b)) := by
  have h1 := bits_le ha
  have h2 := bits_le hb
  show opMul (.int a) (.int b) = _
  unfold opMul
  exact if_pos (by omega)
theorem add_int' {a b : Int} : opAdd (.int a) (.int b) = .ok (.int (a + b)) := rfl
theorem sub_int' {a b : Int} : opSub (.int a) (.int b) = .ok (.int (a - b)) := rfl
theorem mod_int {a b : Int} (h : 0 < b) : opMod (.int a) (.int b) = .ok (.int (a % b)) := by
  unfold opMod
  exact if_pos h
theorem int_int {a : Int} : opInt [.int a] = .ok (.int a) := rfl
theorem gt_t {a b : Int} (h : b < a) : opGt (.int a) (.int b) = .ok (.bl true) := by
  show R.ok (D.bl (decide (b < a))) = _
  rw [decide_eq_true h]
theorem gt_f {a b : Int} (h : ¬ b < a) : opGt (.int a) (.int b) = .ok (.bl false) := by
  show R.ok (D.bl (decide (b < a))) = _
  rw [decide_eq_false h]
theorem fdiv_int {a b : Int} (h : 0 < b) (h2 : b.natAbs.log2 < 9000) : opFdiv (.int a) (.int b) = .ok (.int (a / b)) := by
  unfold opFdiv
  exact if_pos ⟨h, h2⟩
theorem log2_27 {b : Int} (h : 0 < b) (h2 : b < 2 ^ 27) : b.natAbs.log2 < 9000 := by
  have := (Nat.log2_lt (n := b.natAbs) (k := 27) (by omega)).mpr (by omega)
  omega
theorem ixp0 {a b c d : D} : opIx (.lst [a, b, c, d]) (.int 0) = .ok a := rfl
theorem ixp1 {a b c d : D} : opIx (.lst [a, b, c, d]) (.int 1) = .ok b := rfl
theorem ixp2 {a b c d : D} : opIx (.lst [a, b, c, d]) (.int 2) = .ok c := rfl
theorem ixp3 {a b c d : D} : opIx (.lst [a, b, c, d]) (.int 3) = .ok d := rfl
theorem bits_ev {i : Int} : opBits (.int i) = .ok (.int (Builtin.Int.intBits i : Nat)) := rfl
theorem tg_name {ρ : Rho} {i : Nat} {d : D} : tgName i d ρ = .ok (ρ.set i (.cl d)) := rfl
theorem ix_str {z : Str} {i : Int} (k : Nat) {c : Nat} (e : i = (k : Int)) (hl : z.length ≤ 16777216) (h : z.cps.toList[k]? = some c) : opIx (.str z) (.int i) = .ok (.str ⟨#[c]⟩) := by
  subst e
  have hk : k < z.cps.toList.length := (List.getElem?_eq_some_iff.mp h).1
  have e2 : atI z.cps.toList (k : Int) = some c := by
    unfold atI ixN
    rw [if_pos (by omega), if_pos (by omega)]
    exact h
  show (if z.length ≤ 16777216 then _ else _) = _
  rw [if_pos hl, e2]
theorem eq_sign {c d : Nat} : opEq (.str ⟨#[c]⟩) (.str ⟨#[d]⟩) = .ok (.bl (decide (c = d))) := by
  show R.ok (D.bl ((⟨#[c]⟩ : Str) == ⟨#[d]⟩)) = _
  congr 2
  rw [Bool.eq_iff_iff]
  simp
theorem lt_t {a b : Int} (h : a < b) : opLt (.int a) (.int b) = .ok (.bl true) := by
  show R.ok (D.bl (decide (a < b))) = _
  rw [decide_eq_true h]
theorem lt_f {a b : Int} (h : ¬ a < b) : opLt (.int a) (.int b) = .ok (.bl false) := by
  show R.ok (D.bl (decide (a < b))) = _
  rw [decide_eq_false h]
theorem len_str {z : Str} (h : z.length ≤ 16777216) : opLen [.str z] = .ok (.int (z.length : Nat)) := by
  show (match (if z.length ≤ 16777216 then R.ok z.length else R.bad) with
    | .ok n => R.ok (D.int n)
    | .bad => .bad) = _
  rw [if_pos h]
def okc (c : Nat) : Bool := (decide (32 ≤ c) && decide (c ≤ 126)) || decide (c = 10)
theorem lt1 {a b : Nat} : ([a] < [b]) ↔ a < b := by
  rw [List.cons_lt_cons_iff]
  constructor
  · rintro (h | ⟨_, h⟩)
    · exact h
    · cases h
  · exact .inl
theorem le_sign {c d : Nat} : opLe (.str ⟨#[c]⟩) (.str ⟨#[d]⟩) = .ok (.bl (decide (c ≤ d))) := by
  show R.ok (D.bl (!decide ([d] < [c]))) = _
  have e : (!decide ([d] < [c])) = decide (c ≤ d) := by
    by_cases h : d < c
    · rw [decide_eq_true (lt1.mpr h), decide_eq_false (by omega)]
      rfl
    · rw [decide_eq_false (fun z => h (lt1.mp z)), decide_eq_true (by omega)]
      rfl
  rw [e]
theorem s32 : (" " : Str) = ⟨#[32]⟩ := by decide +kernel
theorem s126 : ("~" : Str) = ⟨#[126]⟩ := by decide +kernel
theorem s10 : ("\n" : Str) = ⟨#[10]⟩ := by decide +kernel
theorem bls_map : ∀ cs : List Nat, dBls (cs.map fun c => D.bl (okc c)) = some (cs.map okc)
  | [] => rfl
  | c :: cs => by
    show (dBls (cs.map fun c => D.bl (okc c))).map (okc c :: ·) = _
    rw [bls_map cs]
    rfl
theorem items_str {z : Str} (h : z.length ≤ 16777216) : items (.str z) = .ok (z.cps.toList.map fun c => .str ⟨#[c]⟩) := by
  show (if z.length ≤ 16777216 then R.ok (strItems z) else R.bad) = _
  rw [if_pos h]
  rfl
def Sm : Nat → D → Prop
  | 0, _ => False
  | _ + 1, .non => True
  | _ + 1, .bl _ => True
  | _ + 1, .int _ => True
  | _ + 1, .str _ => True
  | n + 1, .lst xs => xs.length ≤ 16777216 ∧ ∀ x ∈ xs, Sm n x
  | n + 1, .tup xs => xs.length ≤ 16777216 ∧ ∀ x ∈ xs, Sm n x
  | _ + 1, _ => False
theorem eq_bl {b c : Bool} : opEq (.bl b) (.bl c) = .ok (.bl (b == c)) := rfl
theorem ne_bl {b c : Bool} : opNe (.bl b) (.bl c) = .ok (.bl (!(b == c))) := rfl
theorem eq_int {i j : Int} : opEq (.int i) (.int j) = .ok (.bl (i == j)) := rfl
theorem trues : ∀ xs : List D, dBls (xs.map fun _ => D.bl true) = some (xs.map fun _ => true)
  | [] => rfl
  | x :: xs => by
    show (dBls (xs.map fun _ => D.bl true)).map (true :: ·) = _
    rw [trues xs]
    rfl
theorem all_trues {xs : List D} : opAll [.lst (xs.map fun _ => D.bl true)] = .ok (.bl true) := by
  show (match dBls (xs.map fun _ => D.bl true) with
    | some is => R.ok (D.bl (is.all id))
    | none => .bad) = _
  rw [trues]
  show R.ok (D.bl ((xs.map fun _ => true).all id)) = _
  congr 2
  simp
theorem lst2 {x y : D} : mkLst [x, y] = .ok (.lst [x, y]) := rfl
theorem ix_lst {xs : List D} {k : Int} {d : D} (h0 : 0 ≤ k) (h : xs[k.toNat]? = some d) : opIx (.lst xs) (.int k) = .ok d := by
  have hk := (List.getElem?_eq_some_iff.mp h).1
  have e : atI xs k = some d := by
    unfold atI ixN
    rw [if_pos h0, if_pos (by omega)]
    exact h
  show (match atI xs k with
    | some d => R.ok d
    | none => .bad) = _
  rw [e]
theorem len_lst {xs : List D} : opLen [.lst xs] = .ok (.int (xs.length : Nat)) := rfl
theorem max_int {a b : Int} : opMax [.int a, .int b] = .ok (.int (if b > a then b else a)) := rfl
theorem pow_int' {a b : Int} (h : 0 ≤ b) (h2 : (Builtin.Int.intBits a : Int) * b ≤ 2 ^ 27) : opPow (.int a) (.int b) = .ok (.int (a ^ b.toNat)) := by
  unfold opPow
  exact if_pos ⟨h, h2⟩
theorem p18 : opPow (.int 10) (.int 18) = .ok (.int (10 ^ 18)) := pow_int' (by decide) (by decide +kernel)
theorem p60 : opPow (.int 10) (.int 60) = .ok (.int (10 ^ 60)) := pow_int' (by decide) (by decide +kernel)
theorem p480 : opPow (.int (10 ^ 60)) (.int 8) = .ok (.int ((10 ^ 60) ^ 8)) := pow_int' (by decide) (by decide +kernel)
theorem dints_map : ∀ xs : List Int, dInts (xs.map D.int) = some xs
  | [] => rfl
  | x :: xs => by
    show (dInts (xs.map D.int)).map (x :: ·) = _
    rw [dints_map xs]
    rfl
theorem cutL_map {lo hi : Option Int} {xs : List Int} : cutL (xs.map D.int) lo hi = (cutL xs lo hi).map D.int := by
  unfold cutL
  rw [List.length_map, List.map_take, List.map_drop]
theorem set_self {ρ : Rho} {i : Nat} {x : Sl} (h : ρ[i]? = some x) : ρ.set i x = ρ := by
  refine List.ext_getElem? fun j => ?_
  by_cases e : i = j
  · subst e
    rw [List.getElem?_set_self (List.getElem?_eq_some_iff.mp h).1, h]
  · rw [List.getElem?_set_ne e]
def mkS (cs : List Nat) : Str := ⟨cs.toArray⟩
theorem mkS_list (cs : List Nat) : (mkS cs).cps.toList = cs := by simp [mkS]
theorem mkS_len (cs : List Nat) : (mkS cs).length = cs.length := by simp [mkS, Str.length]
theorem mkS_of (z : Str) : z = mkS z.cps.toList := by
  cases z
  simp [mkS]
theorem mkS_inj {a b : List Nat} : mkS a = mkS b ↔ a = b := ⟨fun h => by
  have q := congrArg (fun z : Str => z.cps.toList) h
  simpa [mkS_list] using q, fun h => by rw [h]⟩
theorem mkS_cut {cs : List Nat} {a b : Nat} : cutS (mkS cs) (some (a : Int)) (some (b : Int)) = mkS ((cs.drop (min a cs.length)).take (min b cs.length - min a cs.length)) := by
  unfold cutS
  rw [HT.sIx_nat, HT.sIx_nat, mkS_len, mkS_list]
  rfl
theorem mkS_pre {cs : List Nat} {b : Nat} : cutS (mkS cs) none (some (b : Int)) = mkS (cs.take b) := by
  unfold cutS
  rw [HT.sIx_nat, HT.sIx_none, mkS_len, mkS_list]
  show mkS ((cs.drop 0).take (min b cs.length - 0)) = _
  rw [List.drop_zero, Nat.sub_zero, mkS_inj, List.take_eq_take_iff]
  omega
theorem mkS_post {cs : List Nat} {a : Nat} : cutS (mkS cs) (some (a : Int)) none = mkS (cs.drop a) := by
  unfold cutS
  rw [HT.sIx_nat, HT.sIx_none, mkS_len, mkS_list]
  show mkS ((cs.drop (min a cs.length)).take (cs.length - min a cs.length)) = _
  rw [mkS_inj]
  by_cases h : a ≤ cs.length
  · rw [Nat.min_eq_left h, List.take_of_length_le (by rw [List.length_drop]; exact Nat.le_refl _)]
  · rw [Nat.min_eq_right (by omega), List.drop_eq_nil_of_le (Nat.le_refl _), List.drop_eq_nil_of_le (by omega)]
    simp
theorem eq_mkS {a b : List Nat} : opEq (.str (mkS a)) (.str (mkS b)) = .ok (.bl (decide (a = b))) := by
  show R.ok (D.bl (mkS a == mkS b)) = _
  congr 2
  rw [Bool.eq_iff_iff]
  simp [mkS_inj]
theorem add_mkS {a b : List Nat} (h : a.length + b.length ≤ 16777216) : opAdd (.str (mkS a)) (.str (mkS b)) = .ok (.str (mkS (a ++ b))) := by
  have e : mkS a ++ mkS b = mkS (a ++ b) := by
    show (⟨_⟩ : Str) = _
    simp [mkS]
  show (if (mkS a).length + (mkS b).length ≤ 16777216 then _ else _) = _
  rw [mkS_len, mkS_len, if_pos h, e]
theorem len_mkS {a : List Nat} (h : a.length ≤ 16777216) : opLen [.str (mkS a)] = .ok (.int (a.length : Nat)) := by
  have e := len_str (z := mkS a) (by rw [mkS_len]; exact h)
  rw [mkS_len] at e
  exact e
theorem ge_t {a b : Int} (h : b ≤ a) : opGe (.int a) (.int b) = .ok (.bl true) := by
  show R.ok (D.bl (decide (b ≤ a))) = _
  rw [decide_eq_true h]
theorem ge_f {a b : Int} (h : ¬ b ≤ a) : opGe (.int a) (.int b) = .ok (.bl false) := by
  show R.ok (D.bl (decide (b ≤ a))) = _
  rw [decide_eq_false h]
theorem lt_int {a b : Int} : opLt (.int a) (.int b) = .ok (.bl (decide (a < b))) := rfl
theorem gt_int' {a b : Int} : opGt (.int a) (.int b) = .ok (.bl (decide (b < a))) := rfl
theorem ixt0 {a b c : D} : opIx (.tup [a, b, c]) (.int 0) = .ok a := rfl
theorem ixt1 {a b c : D} : opIx (.tup [a, b, c]) (.int 1) = .ok b := rfl
theorem cut_str {cs : List Nat} {lo hi : Option Int} (h : cs.length ≤ 16777216) : cutD (.str (mkS cs)) lo hi = .ok (.str (cutS (mkS cs) lo hi)) := by
  show (if (mkS cs).length ≤ 16777216 then _ else _) = _
  rw [mkS_len, if_pos h]
theorem tup3 {a b c : D} : mkTup [a, b, c] = .ok (.tup [a, b, c]) := rfl
theorem strs_map : ∀ ks : List Nat, dStrs (ks.map fun c => D.str ⟨#[c]⟩) = some (ks.map fun c => (⟨#[c]⟩ : Str))
  | [] => rfl
  | k :: ks => by
    show (dStrs (ks.map fun c => D.str ⟨#[c]⟩)).map ((⟨#[k]⟩ : Str) :: ·) = _
    rw [strs_map ks]
    rfl
theorem app_mkS {a b : List Nat} : mkS a ++ mkS b = mkS (a ++ b) := by
  show (⟨_⟩ : Str) = _
  simp [mkS]
theorem s0 : ("" : Str) = mkS [] := by decide +kernel
theorem join_mkS : ∀ ks : List Nat, Str.join (mkS []) (ks.map fun c => (⟨#[c]⟩ : Str)) = mkS ks
  | [] => rfl
  | [k] => rfl
  | k :: l :: ks => by
    have ih := join_mkS (l :: ks)
    show mkS [k] ++ mkS [] ++ Str.join (mkS []) ((l :: ks).map fun c => (⟨#[c]⟩ : Str)) = _
    rw [ih, app_mkS, app_mkS]
    rfl
theorem ones_sum : ∀ ks : List Nat, ((ks.map fun c => (⟨#[c]⟩ : Str)).map (·.length)).sum = ks.length
  | [] => rfl
  | k :: ks => by
    rw [List.map_cons, List.map_cons, List.sum_cons, ones_sum ks, List.length_cons]
    show 1 + ks.length = _
    omega
theorem join_ok {ks : List Nat} (h : ks.length ≤ 16777216) : opJoin (.str "") [.lst (ks.map fun c => D.str ⟨#[c]⟩)] = .ok (.str (mkS ks)) := by
  rw [s0]
  show (match dStrs (ks.map fun c => D.str ⟨#[c]⟩) with
    | some ys => if (ys.map fun z : Str => z.length).sum + ys.length * (mkS []).length ≤ 16777216 then R.ok (D.str (Txt.join (mkS []) ys)) else .bad
    | none => .bad) = _
  rw [strs_map]
  have e : Txt.join (mkS []) (ks.map fun c => (⟨#[c]⟩ : Str)) = mkS ks := by
    show Builtin.Str.glued _ _ = _
    rw [StrLaws.glued_eq_join, join_mkS]
  dsimp only
  rw [e, ones_sum, mkS_len]
  exact if_pos (by simpa using h)
theorem up_len {k : Nat} : (upFrom 0 k).length = k := by simp [upFrom]
theorem fold_rep (a : Array Nat) : ∀ (k : Nat) (acc : Array Nat), ((List.replicate k a).foldl (· ++ ·) acc).toList = acc.toList ++ (List.replicate k a.toList).flatten
  | 0, acc => by simp
  | k + 1, acc => by
    rw [List.replicate_succ, List.foldl_cons, fold_rep a k, List.replicate_succ, List.flatten_cons]
    simp [List.append_assoc]
theorem mul_mkS {ks : List Nat} {n : Nat} : Txt.mul (mkS ks) (n : Int) = mkS (List.replicate n ks).flatten := by
  unfold Txt.mul
  by_cases h : (n : Int) < 1
  · rw [if_pos h]
    have e : n = 0 := by omega
    subst e
    rfl
  · rw [if_neg h]
    by_cases c : ((n : Int) == 1 || (mkS ks).length == 0) = true
    · rw [if_pos c, mkS_inj]
      rw [mkS_len] at c
      rcases (Bool.or_eq_true _ _).mp c with c | c
      · have e : n = 1 := by have := beq_iff_eq.mp c; omega
        subst e
        simp
      · have e : ks = [] := List.length_eq_zero_iff.mp (beq_iff_eq.mp c)
        subst e
        simp
    · rw [if_neg c, Int.toNat_natCast]
      have q := fold_rep (mkS ks).cps n #[]
      rw [mkS_list] at q
      have q2 : ((List.replicate n (mkS ks).cps).foldl (· ++ ·) #[]).toList = (List.replicate n ks).flatten := by simpa using q
      rw [mkS_of ⟨(List.replicate n (mkS ks).cps).foldl (· ++ ·) #[]⟩, mkS_inj]
      exact q2
theorem smul_mkS {ks : List Nat} {n : Nat} (h : n < 2 ^ 24) (h2 : ks.length * n ≤ 16777216) : opSMul (.str (mkS ks)) (.int n) = .ok (.str (mkS (List.replicate n ks).flatten)) := by
  have c : (n : Int) < 2 ^ 24 ∧ (mkS ks).length * (n : Int).toNat ≤ 16777216 ∧ -(2 ^ 63) ≤ (n : Int) := ⟨by omega, by rw [mkS_len, Int.toNat_natCast]; exact h2, by omega⟩
  rw [← mul_mkS]
  generalize (n : Int) = z at c ⊢
  dsimp only [opSMul]
  rw [if_pos c]
theorem rep_len {ks : List Nat} : ∀ n : Nat, (List.replicate n ks).flatten.length = n * ks.length
  | 0 => by simp
  | n + 1 => by
    rw [List.replicate_succ, List.flatten_cons, List.length_append, rep_len n, Nat.succ_mul]
    omega
theorem rep_ok {ks : List Nat} (h : ks.all okc = true) : ∀ n : Nat, (List.replicate n ks).flatten.all okc = true
  | 0 => rfl
  | n + 1 => by
    rw [List.replicate_succ, List.flatten_cons, List.all_append, h, rep_ok h n]
    rfl
theorem truth_bl {b : Bool} : truth (.bl b) = .ok b := rfl
def rp (ks : List Nat) (z : Int) : List Nat := (List.replicate z.toNat ks).flatten
theorem rp_len {ks : List Nat} {z : Int} : (rp ks z).length = z.toNat * ks.length := rep_len _
theorem rp_add {ks : List Nat} {z w : Int} (h : 0 ≤ z) (h2 : 0 ≤ w) : rp ks (z + w) = rp ks z ++ rp ks w := by
  unfold rp
  rw [show (z + w).toNat = z.toNat + w.toNat by omega, ← List.replicate_append_replicate, List.flatten_append]
theorem rp_ok {ks : List Nat} {z : Int} (h : ks.all okc = true) : (rp ks z).all okc = true := rep_ok h _
theorem smul_rp {ks : List Nat} {z : Int} (h : 0 ≤ z) (h2 : z < 5000) (h3 : ks.length ≤ 2) : opSMul (.str (mkS ks)) (.int z) = .ok (.str (mkS (rp ks z))) := by
  have q := smul_mkS (ks := ks) (n := z.toNat) (by omega) (by
    have : ks.length * z.toNat ≤ 2 * z.toNat := Nat.mul_le_mul_right _ h3
    omega)
  rwa [Int.toNat_of_nonneg h] at q
end DL

set_option Elab.async false
set_option linter.all false
set_option maxRecDepth 100000
set_option maxHeartbeats 400000
namespace DL
open PySem PySem.Spec PyProof.Rows L2
/-! ### texts: replace, split, join, lower, upper, strip, index, in -/
def us (c : Nat) : Nat := if c = 95 then 32 else c
theorem replL_us : ∀ l : List Nat, StrLaws.replL [95] [32] l = l.map us
  | [] => StrLaws.replL_nil
  | c :: r => by
    by_cases h : c = 95
    · subst h
      rw [StrLaws.replL_hit (by simp) (by simp)]
      show [32] ++ StrLaws.replL [95] [32] r = _
      rw [replL_us r]
      rfl
    · rw [StrLaws.replL_miss (by simpa using h), replL_us r]
      show c :: r.map us = us c :: r.map us
      unfold us
      rw [if_neg h]
theorem s_us : ("_" : Str) = mkS [95] := by decide +kernel
theorem s_bl : (" " : Str) = mkS [32] := by decide +kernel
theorem repl_us {cs : List Nat} (h : cs.length ≤ 8000000) : opRepl "_" " " (.str (mkS cs)) = .ok (.str (mkS (cs.map us))) := by
  rw [s_us, s_bl]
  have e : Txt.replace (mkS cs) (mkS [95]) (mkS [32]) = mkS (cs.map us) := by
    rw [mkS_of (Txt.replace (mkS cs) (mkS [95]) (mkS [32])), mkS_inj, StrLaws.replace_list (by rw [mkS_len]; decide), mkS_list, mkS_list, mkS_list]
    exact replL_us cs
  show (if (mkS cs).length + ((mkS cs).length + 1) * (mkS [32]).length ≤ 16777216 then _ else _) = _
  rw [e, mkS_len, mkS_len, if_pos (by simp; omega)]
/-- the parts at the blanks -/
def sp32 (cs : List Nat) : List (List Nat) := TL.spl [32] 0 [] cs
theorem split_bl {cs : List Nat} (h : cs.length ≤ 8000000) : opSplit (.str (mkS cs)) [.str (mkS [32])] = .ok (.lst ((sp32 cs).map fun w => D.str (mkS w))) := by
  have e : Txt.split (mkS cs) (mkS [32]) = (sp32 cs).map SX.S := SX.split_S (by simp) (by decide)
  show (if (mkS [32]).length ≠ 0 ∧ (mkS cs).length + 2 ≤ 16777216 then R.ok (D.lst ((Txt.split (mkS cs) (mkS [32])).map .str)) else .bad) = _
  rw [e, mkS_len, mkS_len, if_pos (by constructor <;> simp <;> omega), List.map_map]
  rfl
theorem dstrs_mk : ∀ ws : List (List Nat), dStrs (ws.map fun w => D.str (mkS w)) = some (ws.map mkS)
  | [] => rfl
  | w :: ws => by
    show (dStrs (ws.map fun w => D.str (mkS w))).map (mkS w :: ·) = _
    rw [dstrs_mk ws]
    rfl
theorem join_mk {s : List Nat} {ws : List (List Nat)} (h : (ws.map List.length).sum + ws.length * s.length ≤ 16777216) : opJoin (.str (mkS s)) [.lst (ws.map fun w => D.str (mkS w))] = .ok (.str (mkS (TL.joinL s ws))) := by
  have e : Txt.join (mkS s) (ws.map mkS) = mkS (TL.joinL s ws) := SX.join_S s ws
  have l : (ws.map mkS).map (·.length) = ws.map List.length := SX.lens ws
  show (match dStrs (ws.map fun w => D.str (mkS w)) with
    | some ys => if (ys.map fun z : Str => z.length).sum + ys.length * (mkS s).length ≤ 16777216 then R.ok (D.str (Txt.join (mkS s) ys)) else .bad
    | none => .bad) = _
  rw [dstrs_mk]
  dsimp only
  rw [e, l, List.length_map, mkS_len, if_pos h]
theorem lower_mk {cs : List Nat} (h : cs.all (· < 128) = true) (hl : cs.length ≤ 5592405) : opLower (.str (mkS cs)) [] = .ok (.str (mkS (cs.map lo1))) := by
  have e : Txt.lower (mkS cs) = mkS (cs.map lo1) := SX.lower_S h
  show (if (mkS cs).length ≤ 5592405 then R.ok (D.str (Txt.lower (mkS cs))) else .bad) = _
  rw [e, mkS_len, if_pos hl]
theorem upper_mk {cs : List Nat} (h : cs.all (· < 128) = true) (hl : cs.length ≤ 5592405) : opUpper (.str (mkS cs)) [] = .ok (.str (mkS (cs.map up1))) := by
  have e : Txt.upper (mkS cs) = mkS (cs.map up1) := SX.upper_S h
  show (if (mkS cs).length ≤ 5592405 then R.ok (D.str (Txt.upper (mkS cs))) else .bad) = _
  rw [e, mkS_len, if_pos hl]
/-! one sign: in, index -/
theorem occ_first (s sub : Str) (hi : Nat) : ∀ (l : List Nat) (free : Nat), (∀ i ∈ l, free ≤ i) →
    (forIn l ((#[] : Array Nat), free) (StrLaws.occBody s sub hi 1)).run.fst.toList = (l.find? fun i => decide (i + sub.length ≤ hi ∧ Builtin.Str.subAt s sub i = true)).toList := by
  have full : ∀ (l : List Nat) (a free : Nat), (forIn l ((#[a] : Array Nat), free) (StrLaws.occBody s sub hi 1)).run.fst = #[a] := fun l => by
    induction l with
    | nil => intro a free; rfl
    | cons b l ih =>
      intro a free
      rw [List.forIn_cons]
      unfold StrLaws.occBody
      rw [if_neg (by simp)]
      exact ih a free
  intro l
  induction l with
  | nil => intro free _; rfl
  | cons a l ih =>
    intro free hf
    have ha : free ≤ a := hf a List.mem_cons_self
    rw [List.forIn_cons]
    unfold StrLaws.occBody
    by_cases hc : a + sub.length ≤ hi ∧ Builtin.Str.subAt s sub a = true
    · rw [if_pos ⟨⟨⟨by simp, ha⟩, hc.1⟩, hc.2⟩, List.find?_cons_of_pos (by simpa using hc)]
      show (forIn l ((#[a] : Array Nat), a + sub.length) (StrLaws.occBody s sub hi 1)).run.fst.toList = _
      rw [full]
      rfl
    · rw [if_neg fun h => hc ⟨h.1.2, h.2⟩, List.find?_cons_of_neg (by simpa using hc)]
      exact ih free fun i hi' => hf i (List.mem_cons_of_mem _ hi')
theorem sub_one {cs : List Nat} {c i : Nat} : Builtin.Str.subAt (mkS cs) (mkS [c]) i = true ↔ cs[i]? = some c := by
  have e := StrLaws.subAt_eq (mkS cs) (mkS [c]) i
  rw [e, mkS_list, mkS_list]
  simp only [mkS_len]
  constructor
  · intro h
    have h2 : (cs.drop i).take 1 = [c] := by simpa using h
    cases q : cs.drop i with
    | nil => rw [q] at h2; simp at h2
    | cons d r =>
      rw [q] at h2
      have e2 : d = c := by simpa using h2
      have h3 := congrArg List.head? q
      rw [List.head?_drop] at h3
      rw [h3, e2]
      rfl
  · intro h
    have h3 : (cs.drop i).head? = some c := by rw [List.head?_drop]; exact h
    cases q : cs.drop i with
    | nil => rw [q] at h3; cases h3
    | cons d r =>
      rw [q] at h3
      have e2 : d = c := by simpa using h3
      rw [e2]
      simp
/-- where a sign stands first -/
def at1 (c : Nat) (cs : List Nat) : Nat := (cs.takeWhile fun d => decide (d ≠ c)).length
theorem at1_get {c : Nat} : ∀ {cs : List Nat}, c ∈ cs → cs[at1 c cs]? = some c ∧ (∀ j, j < at1 c cs → cs[j]? ≠ some c) ∧ at1 c cs < cs.length
  | [], h => by cases h
  | d :: cs, h => by
    by_cases q : d = c
    · subst q
      have e : at1 d (d :: cs) = 0 := by unfold at1; simp
      rw [e]
      exact ⟨rfl, fun j hj => by omega, by simp⟩
    · have h2 : c ∈ cs := by
        rcases List.mem_cons.mp h with z | z
        · exact absurd z.symm q
        · exact z
      obtain ⟨h3, h4, h5⟩ := at1_get h2
      have e : at1 c (d :: cs) = at1 c cs + 1 := by unfold at1; rw [List.takeWhile_cons_of_pos (by simpa using q), List.length_cons]
      rw [e]
      refine ⟨by simpa using h3, fun j hj => ?_, by simpa using h5⟩
      cases j with
      | zero => simpa using q
      | succ j => simpa using h4 j (by omega)
theorem find_least {P : Nat → Bool} {n i : Nat} (hi : i < n) (h : P i = true) (hl : ∀ j, j < i → P j = false) : (List.range' 0 n).find? P = some i := by
  rw [← List.range_eq_range']
  rw [List.find?_range_eq_some]
  exact ⟨h, by simpa using hi, fun j hj => by simp [hl j hj]⟩
theorem sindex_mk {c : Nat} {cs : List Nat} (h : c ∈ cs) : opSIndex (.str (mkS cs)) [.str (mkS [c])] = .ok (.int (at1 c cs : Nat)) := by
  obtain ⟨h1, h2, h3⟩ := at1_get h
  have e : Builtin.Str.occurrences (mkS cs) (mkS [c]) 0 (mkS cs).length 1 = [at1 c cs] := by
    rw [StrLaws.occ_eq, occ_first _ _ _ _ 0 (fun i _ => Nat.zero_le i)]
    rw [find_least (i := at1 c cs) (by rw [mkS_len]; omega)]
    · rfl
    · rw [mkS_len, mkS_len]
      exact decide_eq_true ⟨by simp; omega, sub_one.mpr h1⟩
    · intro j hj
      exact decide_eq_false fun z => h2 j hj (sub_one.mp z.2)
  show (match Builtin.Str.occurrences (mkS cs) (mkS [c]) 0 (mkS cs).length 1 with
    | i :: _ => R.ok (D.int (i : Nat))
    | [] => .bad) = _
  rw [e]
theorem in_mk {c : Nat} {cs : List Nat} : opIn (.str (mkS [c])) (.str (mkS cs)) = .ok (.bl (decide (c ∈ cs))) := by
  have e : (!(Builtin.Str.occurrences (mkS cs) (mkS [c]) 0 (mkS cs).length 1).isEmpty) = decide (c ∈ cs) := SX.in_one cs c
  show R.ok (D.bl (!(Builtin.Str.occurrences (mkS cs) (mkS [c]) 0 (mkS cs).length 1).isEmpty)) = _
  rw [e]
theorem notIn_mk {c : Nat} {cs : List Nat} : opNotIn (.str (mkS [c])) (.str (mkS cs)) = .ok (.bl (!decide (c ∈ cs))) := by
  have e : (!(Builtin.Str.occurrences (mkS cs) (mkS [c]) 0 (mkS cs).length 1).isEmpty) = decide (c ∈ cs) := SX.in_one cs c
  show R.ok (D.bl (!(!(Builtin.Str.occurrences (mkS cs) (mkS [c]) 0 (mkS cs).length 1).isEmpty))) = _
  rw [e]
theorem tw_len {s : List Nat} (h : nd s = true) : (s.takeWhile fun c => [32].contains c).length = if s.head? = some 32 then 1 else 0 := by
  cases s with
  | nil => rfl
  | cons c r =>
    by_cases q : c = 32
    · subst q
      have h2 := (nd_cons.mp h).2.1
      have h3 : r.head? ≠ some 32 := by simpa using h2
      have e : r.takeWhile (fun c => [32].contains c) = [] := by
        cases r with
        | nil => rfl
        | cons d r =>
          have : d ≠ 32 := by simpa using h3
          rw [List.takeWhile_cons_of_neg (by simpa using this)]
      rw [List.takeWhile_cons_of_pos (by simp), e]
      rfl
    · rw [List.takeWhile_cons_of_neg (by simpa using q), if_neg (by simpa using q)]
      rfl
theorem nd_rev : ∀ {s : List Nat}, nd s = true → nd s.reverse = true
  | [], _ => rfl
  | c :: r, h => by
    have h2 := nd_cons.mp h
    rw [List.reverse_cons, nd_app]
    refine ⟨nd_rev h2.2.2, ?_, ?_⟩
    · rw [nd_cons]
      exact ⟨h2.1, .inr (by simp), rfl⟩
    · rw [List.getLast?_reverse]
      rcases h2.2.1 with z | z
      · exact .inr (by simpa using z)
      · exact .inl z
/-- blanks away at the ends of a text of single blanks -/
theorem strip_list {s : List Nat} (h : nd s = true) : Txt.stripChars (mkS s) (mkS [32]) = mkS (st s) := by
  unfold Txt.stripChars
  rw [stripBy_eq]
  have g : (mkS [32]).cps.contains = fun c => [32].contains c := by
    funext c
    show (#[32] : Array Nat).contains c = _
    simp
  have e1 : stripLo (mkS [32]).cps.contains true (mkS s) = if s.head? = some 32 then 1 else 0 := by
    unfold stripLo
    rw [g, mkS_list, if_pos rfl, tw_len h]
  have ht : nd (s.drop (if s.head? = some 32 then 1 else 0)) = true := by
    split
    · rw [List.drop_one]; exact nd_tail h
    · exact h
  have e2 : stripHi (mkS [32]).cps.contains true (mkS s) (if s.head? = some 32 then 1 else 0) = s.length - (if (s.drop (if s.head? = some 32 then 1 else 0)).getLast? = some 32 then 1 else 0) := by
    unfold stripHi
    rw [g, mkS_list, if_pos rfl, tw_len (nd_rev ht), List.head?_reverse, mkS_len]
  rw [e1, e2]
  have e3 : ∀ lo hi : Nat, hi ≤ s.length → Builtin.Str.strSub (mkS s) lo hi = mkS ((s.drop lo).take (hi - lo)) := fun lo hi hh => by
    rw [mkS_of (Builtin.Str.strSub (mkS s) lo hi), mkS_inj]
    show ((mkS s).cps.extract lo hi).toList = _
    rw [Array.toList_extract, mkS_list, List.extract_eq_take_drop]
  rw [e3 _ _ (Nat.sub_le _ _), mkS_inj]
  unfold st
  have e4 : (if s.head? = some 32 then s.tail else s) = s.drop (if s.head? = some 32 then 1 else 0) := by
    split
    · rw [List.drop_one]
    · rfl
  rw [e4]
  have el : (s.drop (if s.head? = some 32 then 1 else 0)).length = s.length - (if s.head? = some 32 then 1 else 0) := List.length_drop
  generalize hL : (if s.head? = some 32 then 1 else 0) = L at ht el ⊢
  generalize s.drop L = t at ht el ⊢
  unfold moT
  by_cases q : t.getLast? = some 32
  · rw [if_pos q, if_pos q, List.dropLast_eq_take]
    congr 1
    omega
  · rw [if_neg q, if_neg q]
    exact List.take_of_length_le (by omega)
theorem strip_nd {s : List Nat} (h : nd s = true) (hl : s.length ≤ 16777216) : opStripC (.str (mkS s)) [.str (mkS [32])] = .ok (.str (mkS (st s))) := by
  show (if (mkS s).length ≤ 16777216 then R.ok (D.str (Txt.stripChars (mkS s) (mkS [32]))) else .bad) = _
  rw [strip_list h, mkS_len, if_pos hl]
end DL

set_option Elab.async false
set_option linter.all false
set_option maxRecDepth 100000
set_option maxHeartbeats 400000
namespace DL
open PySem PySem.Spec PyProof.Rows L2
/-! ### loops by plain lists -/
section
variable {α : Type} {vs : List Nat} {t : D → Rho → R Rho} {c : M Bool} {e : M D} {ρ : Rho} {G E : α → D} {env : α → Rho} {P : α → Bool}
theorem lc_gen : ∀ {xs : List α}, (∀ x ∈ xs, t (G x) ρ = .ok (env x)) → (∀ x ∈ xs, c (env x) = .ok (P x) (env x)) → (∀ x ∈ xs, P x = true → e (env x) = .ok (E x) (env x)) → (∀ x ∈ xs, wipeR (env x) vs = ρ) →
    lcLoop vs t c e (xs.map G) ρ = .ok ((xs.filter P).map E) ρ
  | [], _, _, _, _ => rfl
  | x :: xs, ht, hc, he, hw => by
    have ih := lc_gen (xs := xs) (fun y hy => ht y (List.mem_cons_of_mem _ hy)) (fun y hy => hc y (List.mem_cons_of_mem _ hy)) (fun y hy => he y (List.mem_cons_of_mem _ hy)) fun y hy => hw y (List.mem_cons_of_mem _ hy)
    rw [List.map_cons]
    unfold lcLoop
    rw [ht x List.mem_cons_self]
    dsimp only
    rw [hc x List.mem_cons_self]
    cases q : P x with
    | true =>
      dsimp only
      rw [he x List.mem_cons_self q]
      dsimp only
      rw [hw x List.mem_cons_self, ih, List.filter_cons_of_pos q]
      rfl
    | false =>
      dsimp only
      rw [hw x List.mem_cons_self, ih, List.filter_cons_of_neg (by rw [q]; exact Bool.false_ne_true)]
theorem ev_lcF {mi : M (List D)} {ρ1 : Rho} {xs : List α} (hi : mi ρ = .ok (xs.map G) ρ1) (hw0 : wipeR ρ1 vs = ρ1) (hb : backR ρ1 ρ1 vs = ρ1) (ht : ∀ x ∈ xs, t (G x) ρ1 = .ok (env x)) (hc : ∀ x ∈ xs, c (env x) = .ok (P x) (env x)) (he : ∀ x ∈ xs, P x = true → e (env x) = .ok (E x) (env x)) (hw : ∀ x ∈ xs, wipeR (env x) vs = ρ1) :
    eLC vs t c e mi ρ = .ok (.lst ((xs.filter P).map E)) ρ1 := by
  have q := ev_lc (vs := vs) (t := t) (c := c) (e := e) hi (by rw [hw0]; exact lc_gen ht hc he hw)
  rwa [hb] at q
/-- without a test -/
theorem ev_lcM {mi : M (List D)} {ρ1 : Rho} {xs : List α} (hi : mi ρ = .ok (xs.map G) ρ1) (hw0 : wipeR ρ1 vs = ρ1) (hb : backR ρ1 ρ1 vs = ρ1) (ht : ∀ x ∈ xs, t (G x) ρ1 = .ok (env x)) (he : ∀ x ∈ xs, e (env x) = .ok (E x) (env x)) (hw : ∀ x ∈ xs, wipeR (env x) vs = ρ1) :
    eLC vs t (M.pure true) e mi ρ = .ok (.lst (xs.map E)) ρ1 := by
  have q := ev_lcF (vs := vs) (t := t) (c := M.pure true) (P := fun _ => true) hi hw0 hb ht (fun _ _ => rfl) (fun x hx _ => he x hx) hw
  rwa [List.filter_eq_self.mpr fun _ _ => rfl] at q
variable {S : Type} {b : MS} {Env : S → Rho} {step : S → α → S}
/-- each turn goes on -/
theorem for_fold : ∀ {xs : List α} {s : S}, (∀ s, ∀ x ∈ xs, ∃ ρ1, t (G x) (Env s) = .ok ρ1 ∧ b ρ1 = .nx (Env (step s x))) → forLoop t b (xs.map G) (Env s) = .nx (Env (xs.foldl step s))
  | [], s, _ => rfl
  | x :: xs, s, h => by
    obtain ⟨ρ1, h1, h2⟩ := h s x List.mem_cons_self
    exact for_nx h1 h2 (for_fold fun s y hy => h s y (List.mem_cons_of_mem _ hy))
/-- .. while something is kept -/
theorem for_inv {I : S → Prop} : ∀ {xs : List α} {s : S}, I s → (∀ s, I s → ∀ x ∈ xs, ∃ ρ1, t (G x) (Env s) = .ok ρ1 ∧ b ρ1 = .nx (Env (step s x)) ∧ I (step s x)) → forLoop t b (xs.map G) (Env s) = .nx (Env (xs.foldl step s)) ∧ I (xs.foldl step s)
  | [], s, i, _ => ⟨rfl, i⟩
  | x :: xs, s, i, h => by
    obtain ⟨ρ1, h1, h2, h3⟩ := h s i x List.mem_cons_self
    obtain ⟨h4, h5⟩ := for_inv h3 fun s i y hy => h s i y (List.mem_cons_of_mem _ hy)
    exact ⟨for_nx h1 h2 h4, h5⟩
theorem for_ret {d : D} {ds : List D} {ρ1 ρ2 : Rho} {r : D} (ht : t d ρ = .ok ρ1) (hb : b ρ1 = .ret r ρ2) : forLoop t b (d :: ds) ρ = .ret r ρ2 := by
  show (match t d ρ with
    | .bad => SO.bad
    | .ok ρ1 => (b ρ1).turn (forLoop t b ds)) = _
  rw [ht]
  dsimp only
  rw [hb]
  rfl
/-- the first one that is meant -/
theorem for_find {Y : Sl → Rho} {Q : α → D} : ∀ {xs : List α} {y : Sl}, (∀ y, ∀ x ∈ xs, t (G x) (Y y) = .ok (Y (.cl (G x)))) → (∀ x ∈ xs, P x = true → b (Y (.cl (G x))) = .ret (Q x) (Y (.cl (G x)))) → (∀ x ∈ xs, P x = false → b (Y (.cl (G x))) = .nx (Y (.cl (G x)))) →
    (∀ x, xs.find? P = some x → forLoop t b (xs.map G) (Y y) = .ret (Q x) (Y (.cl (G x)))) ∧ (xs.find? P = none → ∃ z, forLoop t b (xs.map G) (Y y) = .nx (Y z))
  | [], y, _, _, _ => ⟨fun x h => (by cases h), fun _ => ⟨y, rfl⟩⟩
  | x :: xs, y, ht, h1, h0 => by
    have ih := for_find (y := .cl (G x)) (fun y z hz => ht y z (List.mem_cons_of_mem _ hz)) (fun z hz => h1 z (List.mem_cons_of_mem _ hz)) fun z hz => h0 z (List.mem_cons_of_mem _ hz)
    cases q : P x with
    | true =>
      refine ⟨fun z hz => ?_, fun hz => ?_⟩
      · rw [List.find?_cons_of_pos q] at hz
        cases hz
        exact for_ret (ht y x List.mem_cons_self) (h1 x List.mem_cons_self q)
      · rw [List.find?_cons_of_pos q] at hz
        cases hz
    | false =>
      rw [List.find?_cons_of_neg (by rw [q]; exact Bool.false_ne_true)]
      refine ⟨fun z hz => for_nx (ht y x List.mem_cons_self) (h0 x List.mem_cons_self q) (ih.1 z hz), fun hz => ?_⟩
      obtain ⟨w, hw⟩ := ih.2 hz
      exact ⟨w, for_nx (ht y x List.mem_cons_self) (h0 x List.mem_cons_self q) hw⟩
end
/-! ### the words of a text -/
def full (w : List Nat) : Bool := decide (w ≠ [])
theorem joinL_snoc {s : List Nat} : ∀ {ws : List (List Nat)} {w : List Nat}, ws ≠ [] → TL.joinL s (ws ++ [w]) = TL.joinL s ws ++ (s ++ w)
  | [], w, h => absurd rfl h
  | [p], w, _ => by
    show p ++ (s ++ w) = p ++ (s ++ w)
    rfl
  | p :: q :: r, w, _ => by
    have ih := joinL_snoc (s := s) (ws := q :: r) (w := w) (by simp)
    show p ++ (s ++ TL.joinL s (q :: r ++ [w])) = p ++ (s ++ TL.joinL s (q :: r)) ++ (s ++ w)
    rw [ih]
    simp
theorem words_fold : ∀ (l acc f : List Nat) (ws : List (List Nat)), (acc ≠ [] → f = TL.joinL [32] (ws ++ [acc]) ∧ acc.getLast? ≠ some 32) → (acc = [] → f = if ws = [] then [] else TL.joinL [32] ws ++ [32]) → (∀ w ∈ ws, w ≠ [] ∧ w.getLast? ≠ some 32) →
    moT (l.foldl moS f) = TL.joinL [32] (ws ++ (TL.spl [32] 0 acc (l.map us)).filter full)
  | [], acc, f, ws, ha, h0, hw => by
    rw [List.map_nil, TL.spl_nil, List.foldl_nil]
    have lastJ : ∀ (ws : List (List Nat)) , ws ≠ [] → (∀ w ∈ ws, w ≠ [] ∧ w.getLast? ≠ some 32) → (TL.joinL [32] ws).getLast? ≠ some 32 := fun ws hne hw => by
      have e := (List.dropLast_concat_getLast hne).symm
      have hl := hw _ (List.getLast_mem hne)
      generalize ws.getLast hne = w at e hl
      generalize ws.dropLast = vs at e
      subst e
      by_cases q : vs = []
      · subst q; exact hl.2
      · rw [joinL_snoc q, List.getLast?_append]
        have : w.getLast? ≠ none := by simpa using hl.1
        rw [List.getLast?_append]
        cases z : w.getLast? with
        | none => exact absurd z this
        | some c => rw [z] at hl; simpa using hl.2
    by_cases q : acc = []
    · rw [h0 q, q]
      show moT _ = TL.joinL [32] (ws ++ [])
      rw [List.append_nil]
      by_cases z : ws = []
      · subst z; rfl
      · rw [if_neg z]
        unfold moT
        rw [if_pos (by simp), List.dropLast_concat]
    · obtain ⟨e, hl⟩ := ha q
      have e2 : [acc].filter full = [acc] := by simp [full, q]
      rw [e2, e]
      unfold moT
      rw [if_neg]
      refine lastJ _ (by simp) fun w hw' => ?_
      rcases List.mem_append.mp hw' with z | z
      · exact hw w z
      · rw [List.mem_singleton.mp z]; exact ⟨q, hl⟩
  | c :: l, acc, f, ws, ha, h0, hw => by
    rw [List.foldl_cons, List.map_cons]
    by_cases hs : isp c = true
    · have hu : us c = 32 := by
        unfold us
        have : c = 32 ∨ c = 95 := by simpa [isp] using hs
        rcases this with z | z
        · subst z; rfl
        · rw [if_pos z]
      rw [hu, TL.spl_hit (by rfl)]
      show moT (l.foldl moS (moS f c)) = TL.joinL [32] (ws ++ (acc :: TL.spl [32] 0 [] (l.map us)).filter full)
      by_cases q : acc = []
      · have e : moS f c = f := by
          unfold moS
          rw [if_pos hs]
          rw [h0 q]
          by_cases z : ws = []
          · rw [if_pos z]; rfl
          · rw [if_neg z, if_neg (by simp)]
        rw [e, List.filter_cons_of_neg (by simp [full, q])]
        exact words_fold l [] f ws (fun z => absurd rfl z) (fun _ => h0 q) hw
      · obtain ⟨e1, hl⟩ := ha q
        have fl : f.getLast? = acc.getLast? ∧ f ≠ [] := by
          rw [e1]
          by_cases z : ws = []
          · subst z; exact ⟨rfl, q⟩
          · rw [joinL_snoc z]
            refine ⟨?_, by simp⟩
            rw [List.getLast?_append, List.getLast?_append]
            cases y : acc.getLast? with
            | none => exact absurd (by simpa using y) q
            | some k => rfl
        have e : moS f c = f ++ [32] := by
          unfold moS
          rw [if_pos hs, if_pos ⟨fl.2, by rw [fl.1]; exact hl⟩]
        rw [e, List.filter_cons_of_pos (by simp [full, q])]
        have ih := words_fold l [] (f ++ [32]) (ws ++ [acc]) (fun z => absurd rfl z) (fun _ => by rw [if_neg (by simp), e1]) fun w hw' => by
          rcases List.mem_append.mp hw' with z | z
          · exact hw w z
          · rw [List.mem_singleton.mp z]; exact ⟨q, hl⟩
        rw [ih]
        simp
    · have q1 : c ≠ 32 ∧ c ≠ 95 := by simpa [isp] using hs
      have hu : us c = c := by unfold us; rw [if_neg q1.2]
      have e : moS f c = f ++ [c] := by unfold moS; rw [if_neg hs]
      rw [hu, TL.spl_miss (by unfold TL.pre; simpa using q1.1), e]
      refine words_fold l (acc ++ [c]) (f ++ [c]) ws (fun _ => ⟨?_, by simpa using q1.1⟩) (fun z => by simp at z) hw
      by_cases q : acc = []
      · rw [h0 q, q]
        by_cases z : ws = []
        · subst z; rfl
        · rw [if_neg z, List.nil_append, joinL_snoc z, List.append_assoc]
      · rw [(ha q).1]
        by_cases z : ws = []
        · subst z; rfl
        · rw [joinL_snoc z, joinL_snoc z]
          simp
/-- the program's words are the law's signs -/
theorem words_mo (cs : List Nat) : TL.joinL [32] ((sp32 (cs.map us)).filter full) = mo cs :=
  (words_fold cs [] [] [] (fun z => absurd rfl z) (fun _ => rfl) (fun w h => by cases h)).symm
end DL

set_option Elab.async false
set_option linter.all false
set_option maxRecDepth 100000
set_option maxHeartbeats 400000
namespace DL
open PySem PySem.Spec PyProof.Rows L2
/-! ### steps on texts by lists of signs -/
section
variable {ρ ρ1 ρ2 ρ3 : Rho} {d x y : D} {ds xs : List D} {ma mb mc : M D} {m : M (List D)} {b1 b2 : M Bool} {k : Bool}
theorem it_lst (h : ma ρ = .ok (.lst xs) ρ1) (hl : xs.length ≤ 16777216) : iLst ma ρ = .ok xs ρ1 := by
  unfold iLst M.bind
  rw [h]
  dsimp only [M.lift]
  rw [if_pos hl]
theorem ew_if (hc : b1 ρ = .ok k ρ1) (ht : k = true → ma ρ1 = .ok d ρ2) (hf : k = false → mb ρ1 = .ok d ρ2) : eIf b1 ma mb ρ = .ok d ρ2 := by
  cases k with
  | true => exact ev_ifT hc (ht rfl)
  | false => exact ev_ifF hc (hf rfl)
theorem ew_kdS {z : Str} {a b : M D} {o : Out D} (h : ma ρ = .ok (.str z) ρ1) (h2 : a ρ = o) : mOr (isKd .str ma) a b ρ = o := by
  unfold mOr isKd
  rw [h]
  exact h2
theorem ew_kdL {z : List D} {a b : M D} {o : Out D} (h : ma ρ = .ok (.lst z) ρ1) (h2 : b ρ = o) : mOr (isKd .str ma) a b ρ = o := by
  unfold mOr isKd
  rw [h]
  exact h2
end
theorem ne_mk {a b : List Nat} : opNe (.str (mkS a)) (.str (mkS b)) = .ok (.bl (!decide (a = b))) := by
  have h := eq_mkS (a := a) (b := b)
  show R.ok (D.bl (!(mkS a == mkS b))) = _
  have e : (mkS a == mkS b) = decide (a = b) := by
    rw [Bool.eq_iff_iff]
    simp [mkS_inj]
  rw [e]
theorem ix_mk {cs : List Nat} {c : Nat} (i : Nat) (hl : cs.length ≤ 16777216) (h : cs[i]? = some c) : opIx (.str (mkS cs)) (.int (i : Nat)) = .ok (.str (mkS [c])) :=
  ix_str i rfl (by rw [mkS_len]; exact hl) (by rw [mkS_list]; exact h)
theorem neg1 : opNeg (.int 1) = .ok (.int (-1)) := rfl
theorem ix_last {cs : List Nat} {c : Nat} (hl : cs.length ≤ 16777216) (h : cs.getLast? = some c) : opIx (.str (mkS cs)) (.int (-1)) = .ok (.str (mkS [c])) := by
  have hn : 0 < cs.length := by
    cases cs with
    | nil => cases h
    | cons a r => simp
  have e : atI (mkS cs).cps.toList (-1) = some c := by
    rw [mkS_list]
    unfold atI ixN
    rw [if_neg (by omega), if_pos (by omega)]
    show cs[((-1 : Int) + cs.length).toNat]? = some c
    rw [List.getLast?_eq_getElem?] at h
    rw [← h]
    congr 1
    omega
  show (if (mkS cs).length ≤ 16777216 then _ else _) = _
  rw [mkS_len, if_pos hl, e]
  rfl
theorem sIx_m1 {n d : Nat} : HT.sIx n d (some (-1)) = n - 1 := by
  unfold HT.sIx
  first
    | (simp; omega)
    | (rw [if_pos (by omega)]; omega)
    | omega
theorem cut_m1 {cs : List Nat} (hl : cs.length ≤ 16777216) : cutD (.str (mkS cs)) (some (-1)) none = .ok (.str (mkS (cs.drop (cs.length - 1)))) := by
  rw [cut_str hl]
  unfold cutS
  rw [sIx_m1, HT.sIx_none, mkS_len, mkS_list]
  have e : (cs.drop (cs.length - 1)).take (cs.length - (cs.length - 1)) = cs.drop (cs.length - 1) := List.take_of_length_le (by rw [List.length_drop]; omega)
  rw [e]
  rfl
theorem cut_init {cs : List Nat} (hl : cs.length ≤ 16777216) : cutD (.str (mkS cs)) none (some (-1)) = .ok (.str (mkS cs.dropLast)) := by
  rw [cut_str hl]
  unfold cutS
  rw [sIx_m1, HT.sIx_none, mkS_len, mkS_list, List.drop_zero, List.dropLast_eq_take]
  rfl
theorem cut_pre {cs : List Nat} {b : Nat} (hl : cs.length ≤ 16777216) : cutD (.str (mkS cs)) none (some (b : Nat)) = .ok (.str (mkS (cs.take b))) := by rw [cut_str hl, mkS_pre]
theorem cut_post {cs : List Nat} {a : Nat} (hl : cs.length ≤ 16777216) : cutD (.str (mkS cs)) (some (a : Nat)) none = .ok (.str (mkS (cs.drop a))) := by rw [cut_str hl, mkS_post]
theorem items_mk {cs : List Nat} (h : cs.length ≤ 16777216) : items (.str (mkS cs)) = .ok (cs.map fun c => D.str (mkS [c])) := by
  rw [items_str (by rw [mkS_len]; exact h), mkS_list]
  rfl
theorem last_drop {f : List Nat} : f.drop (f.length - 1) = match f.getLast? with | some c => [c] | none => [] := by
  cases h : f.getLast? with
  | none =>
    have : f = [] := by simpa using h
    subst this
    rfl
  | some c =>
    have hne : f ≠ [] := fun z => by rw [z] at h; cases h
    have e := List.dropLast_concat_getLast hne
    rw [List.getLast?_eq_some_getLast hne] at h
    have ec : f.getLast hne = c := Option.some.inj h
    have e2 : f = f.dropLast ++ [c] := by rw [← ec]; exact e.symm
    rw [e2]
    simp
theorem last_eq {f : List Nat} : decide (f.drop (f.length - 1) = [32]) = decide (f.getLast? = some 32) := by
  rw [last_drop]
  cases f.getLast? with
  | none => simp
  | some c => simp
/-! how long the parts are -/
theorem spl_len : ∀ (l acc : List Nat), (TL.spl [32] 0 acc l).length ≤ l.length + 1 ∧ ((TL.spl [32] 0 acc l).map List.length).sum ≤ acc.length + l.length
  | [], acc => by rw [TL.spl_nil]; simp
  | c :: l, acc => by
    by_cases h : c = 32
    · subst h
      rw [TL.spl_hit (by rfl)]
      obtain ⟨h1, h2⟩ := spl_len l []
      simp only [List.length_cons, List.map_cons, List.sum_cons, List.length_nil] at h1 h2 ⊢
      show (TL.spl [32] 0 [] l).length + 1 ≤ _ ∧ acc.length + ((TL.spl [32] 0 [] l).map List.length).sum ≤ _
      omega
    · rw [TL.spl_miss (by unfold TL.pre; simpa using h)]
      obtain ⟨h1, h2⟩ := spl_len l (acc ++ [c])
      simp only [List.length_append, List.length_cons, List.length_nil] at h1 h2 ⊢
      omega
theorem filter_sum {P : List Nat → Bool} : ∀ ws : List (List Nat), ((ws.filter P).map List.length).sum ≤ (ws.map List.length).sum
  | [] => Nat.le_refl _
  | w :: ws => by
    have ih := filter_sum (P := P) ws
    by_cases h : P w = true
    · rw [List.filter_cons_of_pos h, List.map_cons, List.map_cons, List.sum_cons, List.sum_cons]
      omega
    · rw [List.filter_cons_of_neg h, List.map_cons, List.sum_cons]
      omega
end DL

set_option Elab.async false
set_option linter.all false
set_option maxRecDepth 100000
set_option maxHeartbeats 400000
namespace DL
open PySem PySem.Spec PyProof.Rows L2
/-! ### whatever the places of new objects -/
/-- goes on, Q of the slots -/
def Eve (Q : Rho → Prop) : SO → Prop
  | .any f => ∀ a, Eve Q (f a)
  | .nx ρ => Q ρ
  | _ => False
/-- hands back r -/
def EvR (r : D) : SO → Prop
  | .any f => ∀ a, EvR r (f a)
  | .ret d _ => d = r
  | _ => False
theorem Eve.turn {Q Q' : Rho → Prop} {k : MS} (h : ∀ ρ, Q ρ → Eve Q' (k ρ)) : ∀ {s : SO}, Eve Q s → Eve Q' (s.turn k)
  | .any f, q => fun a => Eve.turn h (q a)
  | .nx ρ, q => h ρ q
  | .ret _ _, q => q.elim
  | .brk _, q => q.elim
  | .ct _, q => q.elim
  | .exn _ _ _, q => q.elim
  | .bad, q => q.elim
theorem Eve.then {Q Q' : Rho → Prop} {k : MS} (h : ∀ ρ, Q ρ → Eve Q' (k ρ)) : ∀ {s : SO}, Eve Q s → Eve Q' (s.then k)
  | .any f, q => fun a => Eve.then h (q a)
  | .nx ρ, q => h ρ q
  | .ret _ _, q => q.elim
  | .brk _, q => q.elim
  | .ct _, q => q.elim
  | .exn _ _ _, q => q.elim
  | .bad, q => q.elim
theorem Eve.thenR {Q : Rho → Prop} {r : D} {k : MS} (h : ∀ ρ, Q ρ → EvR r (k ρ)) : ∀ {s : SO}, Eve Q s → EvR r (s.then k)
  | .any f, q => fun a => Eve.thenR h (q a)
  | .nx ρ, q => h ρ q
  | .ret _ _, q => q.elim
  | .brk _, q => q.elim
  | .ct _, q => q.elim
  | .exn _ _ _, q => q.elim
  | .bad, q => q.elim
theorem eve_seq {Q Q' : Rho → Prop} {a b : MS} {ρ : Rho} (h1 : Eve Q (a ρ)) (h2 : ∀ ρ, Q ρ → Eve Q' (b ρ)) : Eve Q' (sSeq a b ρ) := Eve.then h2 h1
theorem evr_seq {Q : Rho → Prop} {r : D} {a b : MS} {ρ : Rho} (h1 : Eve Q (a ρ)) (h2 : ∀ ρ, Q ρ → EvR r (b ρ)) : EvR r (sSeq a b ρ) := Eve.thenR h2 h1
theorem eve_nx {Q : Rho → Prop} {s : SO} {ρ : Rho} (h : s = .nx ρ) (q : Q ρ) : Eve Q s := h ▸ q
theorem evr_ret {r : D} {s : SO} {ρ : Rho} (h : s = .ret r ρ) : EvR r s := h ▸ rfl
theorem eve_for {Q : Rho → Prop} {t : D → Rho → R Rho} {b : MS} : ∀ {ds : List D} {ρ : Rho}, (∀ ρ, Q ρ → ∀ d ∈ ds, ∃ ρ1, t d ρ = .ok ρ1 ∧ Eve Q (b ρ1)) → Q ρ → Eve Q (forLoop t b ds ρ)
  | [], ρ, _, q => q
  | d :: ds, ρ, h, q => by
    obtain ⟨ρ1, h1, h2⟩ := h ρ q d List.mem_cons_self
    show Eve Q (match t d ρ with
      | .bad => SO.bad
      | .ok ρ1 => (b ρ1).turn (forLoop t b ds))
    rw [h1]
    exact Eve.turn (fun ρ2 q2 => eve_for (fun ρ q d hd => h ρ q d (List.mem_cons_of_mem _ hd)) q2) h2
theorem evr_fo {r : D} : ∀ {s : SO}, EvR r s → (s.fo [] .cl).flat = .ok r []
  | .any f, h => FO.flat_any fun a => evr_fo (h a)
  | .ret d ρ, h => by
    have e : d = r := h
    subst e
    rfl
  | .nx _, h => h.elim
  | .brk _, h => h.elim
  | .ct _, h => h.elim
  | .exn _ _ _, h => h.elim
  | .bad, h => h.elim
theorem fw_evr {N : Nat} {mm : MS} {ρ0 : Rho} {ds : List D} {r : D} (h0 : startR N [] ds = ρ0) (h : EvR r (mm ρ0)) : flatFn (runFn N [] .cl mm) ds = .ok r [] := by
  unfold flatFn runFn
  rw [h0]
  exact evr_fo h
section
variable {ρ ρ1 ρ2 : Rho} {ma mb : M D} {b1 : M Bool} {c : Str} {v : D}
theorem ex_ifT (hc : b1 ρ = .ok true ρ1) (h : ma ρ1 = .exn c v ρ2) : eIf b1 ma mb ρ = .exn c v ρ2 := by
  unfold eIf M.bind
  rw [hc]
  exact h
theorem ex_ifF (hc : b1 ρ = .ok false ρ1) (h : mb ρ1 = .exn c v ρ2) : eIf b1 ma mb ρ = .exn c v ρ2 := by
  unfold eIf M.bind
  rw [hc]
  exact h
theorem ex_callK {fn : Fn} {is : List Nat} {outs ds : List D} {m : M (List D)} (h : m ρ = .ok ds ρ1) (hf : fn (permL is ds) = .exn c v outs) : eCallK fn is m ρ = .exn c v ρ1 := by
  unfold eCallK
  refine ex_call (ds := permL is ds) ?_ hf
  unfold M.bind
  rw [h]
  rfl
theorem ex_cons {m : M (List D)} (h : ma ρ = .exn c v ρ1) : aCons ma m ρ = .exn c v ρ1 := by
  unfold aCons M.bind
  rw [h]
theorem ex_cons2 {m : M (List D)} {d : D} (h : ma ρ = .ok d ρ1) (h2 : m ρ1 = .exn c v ρ2) : aCons ma m ρ = .exn c v ρ2 := by
  unfold aCons M.bind
  rw [h]
  dsimp only
  rw [h2]
theorem ex_N {op : List D → R D} {m : M (List D)} (h : m ρ = .exn c v ρ1) : eN op m ρ = .exn c v ρ1 := by
  unfold eN M.bind
  rw [h]
end
end DL

set_option Elab.async false
set_option linter.all false
set_option maxRecDepth 100000
set_option maxHeartbeats 4000000
namespace DL
open PySem PySem.Spec PyProof.Rows L2
noncomputable section
/-! law_k04: mirrors -/
def top (i : Nat) : Stmt := PySem.Challenge.pw_allmayedit_k04_whole_titles_above_and_be.main.body.getD i (.Pass ⟨0, 0, 0, 0⟩)
def d_ROOMS : D := .tup [.str "Talk", .str "User", .str "User talk", .str "Template", .str "Template talk", .str "Category", .str "Category talk", .str "Help", .str "Help talk"]
def d_BARRED : D := .str "[]{}|<>#"
def d_LONGEST : D := .int 60
/-! is_text -/
def m_is_text : MS := sRet (eAnd (e1 (opIs [.str] [("InvalidCount", false), ("InvalidText", false), ("InvalidTitle", false)]) (eVar 0)) (eN opAll (aCons (eLC [1] (tgName 1) (M.pure true) (eOr (eChain opLe opLe (eC (.str " ")) (eVar 1) (eC (.str "~"))) (e2 opEq (eVar 1) (eC (.str "\n")))) (iSeq (eVar 0))) (aNil))))
def f_is_text : Fn := runFn 2 [] .cl m_is_text
/-! made_one -/
def m_made_one : MS := sRet (eMT .str opJoin (eC (.str " ")) (aCons (eLC [1] (tgName 1) (bOf (e2 opNe (eVar 1) (eC (.str "")))) (eVar 1) (iLst (eMT .str opSplit (e1 (opRepl "_" " ") (eVar 0)) (aCons (eC (.str " ")) aNil)))) aNil))
def f_made_one : Fn := runFn 2 [] .cl m_made_one
/-! room_called -/
def m_room_called : MS := sSeq (sFor (tgName 1) (iSeq (eC d_ROOMS)) (sIf (bOf (e2 opEq (eMT .str opLower (eVar 1) aNil) (eMT .str opLower (eVar 0) aNil))) (sRet (eVar 1)) (sNext)))
  (sRet (eC .non))
def f_room_called : Fn := runFn 2 [] .cl m_room_called
/-! room_there -/
def m_room_there : MS := sSeq (sAsg (eIf (bOf (e2 opIn (eC (.str ":")) (eVar 0))) (eCut (eVar 0) (pNo) (pAt (mOr (isKd .str (eVar 0)) (eMT .str opSIndex (eVar 0) (aCons (eC (.str ":")) (aNil))) (eMT .list opIndex (eVar 0) (aCons (eC (.str ":")) (aNil)))))) (eC (.str ""))) (tgName 1))
  (sRet (eIf (bOf (e2 opIn (eVar 1) (eC d_ROOMS))) (eVar 1) (eC (.str ""))))
def f_room_there : Fn := runFn 2 [] .cl m_room_there
/-! _law_purse -/
def m__law_purse : MS := sSeq (sAsg (eN opSum (aCons (eCut (eVar 0) (pAt (eVar 1)) (pAt (e2 opAdd (eVar 1) (eC (.int 1))))) (aNil))) (tgName 2))
  (sRet (eN mkLst (aCons (e2 opMod (eN opInt (aCons (eN opMax (aCons (e2 opSub (eVar 2) (e2 opPow (eC (.int 10)) (eC (.int 18)))) (aCons (eC (.int 0)) (aNil)))) (aNil))) (e2 opPow (e2 opPow (eC (.int 10)) (eC (.int 60))) (eC (.int 8)))) (aCons (e2 opMod (eN opInt (aCons (eVar 2) (aNil))) (eC (.int 2147483629))) (aCons (eC (.int 0)) (aCons (eVar 1) (aNil)))))))
def f__law_purse : Fn := runFn 3 [] .fr m__law_purse
/-! _law_mixed -/
def m__law_mixed : MS := sSeq (sAsg (e2 opAdd (e2 opSMul (eVar 0) (eC (.int 69069))) (e2 opSMul (e2 opSMul (eC (.int 104729)) (eVar 1)) (eVar 1))) (tgName 3))
  (sSeq (sAsg (e2 opMod (eN opInt (aCons (e2 opAdd (e2 opAdd (eVar 3) (e2 opSMul (eC (.int 7919)) (eVar 2))) (eVar 1)) (aNil))) (eC (.int 2147483647))) (tgName 3))
  (sSeq (sAsg (e2 opMod (eN opInt (aCons (e2 opAdd (e2 opSMul (eVar 3) (eVar 3)) (eC (.int 40503))) (aNil))) (eC (.int 2147483629))) (tgName 3))
  (sRet (e2 opMod (eN opInt (aCons (e2 opSMul (eVar 3) (eC (.int 48271))) (aNil))) (eC (.int 2147483587))))))
def f__law_mixed : Fn := runFn 4 [] .cl m__law_mixed
/-! _law_rooms -/
def m__law_rooms : MS := sRet (eN mkLst (aCons (eC (.str "User talk")) (aCons (eC (.str "User")) (aCons (eC (.str "Template talk")) (aCons (eC (.str "Template")) (aCons (eC (.str "Category talk")) (aCons (eC (.str "Category")) (aCons (eC (.str "Help talk")) (aCons (eC (.str "Help")) (aCons (eC (.str "Talk")) (aNil)))))))))))
def f__law_rooms : Fn := runFn 0 [] .cl m__law_rooms
/-! _law_made_one -/
def m__law_made_one : MS := sSeq (sAsg (eC (.str "")) (tgName 1))
  (sSeq (sFor (tgName 2) (iSeq (eVar 0)) (sIf (bOf (e2 opNotIn (eVar 2) (eC (.str " _")))) (sAsg (e2 opAdd (eVar 1) (eVar 2)) (tgName 1)) (sIf (bAnd (bOf (e2 opNe (eVar 1) (eC (.str "")))) (bOf (e2 opNe (e2 opIx (eVar 1) (e1 opNeg (eC (.int 1)))) (eC (.str " "))))) (sAsg (e2 opAdd (eVar 1) (eC (.str " "))) (tgName 1)) (sNext))))
  (sRet (eIf (bOf (e2 opEq (eCut (eVar 1) (pAt (e1 opNeg (eC (.int 1)))) (pNo)) (eC (.str " ")))) (eCut (eVar 1) (pNo) (pAt (e1 opNeg (eC (.int 1))))) (eVar 1))))
def f__law_made_one : Fn := runFn 3 [] .cl m__law_made_one
/-! _law_great -/
def m__law_great : MS := sSeq (sAsg (eN mkTup (aCons (eC (.str "abcdefghijklmnopqrstuvwxyz")) (aCons (eC (.str "ABCDEFGHIJKLMNOPQRSTUVWXYZ")) (aNil)))) (tgTup [1, 2]))
  (sRet (eIf (bAnd (bOf (e2 opNe (eVar 0) (eC (.str "")))) (bOf (e2 opIn (e2 opIx (eVar 0) (eC (.int 0))) (eVar 1)))) (e2 opAdd (e2 opIx (eVar 2) (mOr (isKd .str (eVar 1)) (eMT .str opSIndex (eVar 1) (aCons (e2 opIx (eVar 0) (eC (.int 0))) (aNil))) (eMT .list opIndex (eVar 1) (aCons (e2 opIx (eVar 0) (eC (.int 0))) (aNil))))) (eCut (eVar 0) (pAt (eC (.int 1))) (pNo))) (eVar 0)))
def f__law_great : Fn := runFn 3 [] .cl m__law_great
/-! title_read -/
def m_title_read : MS := sSeq (sIf (bOr (bOf (e2 opIn (eC (.str "\n")) (eVar 0))) (bTr (eN opAny (aCons (eLC [5] (tgName 5) (M.pure true) (e2 opIn (eVar 5) (eVar 0)) (iSeq (eC d_BARRED))) (aNil))))) (sRet (eC .non)) (sNext))
  (sSeq (sAsg (eCall f_made_one (aCons (eVar 0) (aNil))) (tgName 1))
  (sSeq (sAsg (eIf (bOf (e2 opIn (eC (.str ":")) (eVar 1))) (eCall f_room_called (aCons (eMT .str opStripC (eCut (eVar 1) (pNo) (pAt (mOr (isKd .str (eVar 1)) (eMT .str opSIndex (eVar 1) (aCons (eC (.str ":")) (aNil))) (eMT .list opIndex (eVar 1) (aCons (eC (.str ":")) (aNil)))))) (aCons (eC (.str " ")) (aNil))) (aNil))) (eC .non)) (tgName 2))
  (sSeq (sAsg (eIf (bOf (e2 opIsN (eVar 2) (eC .non))) (eVar 1) (eMT .str opStripC (eCut (eVar 1) (pAt (e2 opAdd (mOr (isKd .str (eVar 1)) (eMT .str opSIndex (eVar 1) (aCons (eC (.str ":")) (aNil))) (eMT .list opIndex (eVar 1) (aCons (eC (.str ":")) (aNil)))) (eC (.int 1)))) (pNo)) (aCons (eC (.str " ")) (aNil)))) (tgName 3))
  (sSeq (sAsg (e2 opAdd (eMT .str opUpper (eCut (eVar 3) (pNo) (pAt (eC (.int 1)))) aNil) (eCut (eVar 3) (pAt (eC (.int 1))) (pNo))) (tgName 3))
  (sSeq (sAsg (eIf (bOf (e2 opIsN (eVar 2) (eC .non))) (eVar 3) (e2 opAdd (e2 opAdd (eVar 2) (eC (.str ":"))) (eVar 3))) (tgName 4))
  (sRet (eIf (bOr (bOf (e2 opEq (eVar 3) (eC (.str "")))) (bOr (bOf (e2 opEq (e2 opIx (eVar 3) (eC (.int 0))) (eC (.str ":")))) (bOf (e2 opGt (eN opLen (aCons (eVar 4) (aNil))) (eC d_LONGEST))))) (eC .non) (eVar 4))))))))
def f_title_read : Fn := runFn 6 [] .cl m_title_read
/-! rest_there -/
def m_rest_there : MS := sSeq (sAsg (eCall f_room_there (aCons (eVar 0) (aNil))) (tgName 1))
  (sRet (eIf (bOf (e2 opEq (eVar 1) (eC (.str "")))) (eVar 0) (eCut (eVar 0) (pAt (e2 opAdd (eN opLen (aCons (eVar 1) (aNil))) (eC (.int 1)))) (pNo))))
def f_rest_there : Fn := runFn 2 [] .cl m_rest_there
/-! _law_draw -/
def m__law_draw : MS := sSeq (sIf (bOf (e2 opGt (e2 opIx (eOwn 0) (eC (.int 0))) (eC (.int 0)))) (sSeq (sAsg (e2 opMod (eN opInt (aCons (e2 opIx (eOwn 0) (eC (.int 0))) (aNil))) (eVar 1)) (tgName 2))
  (sSeq (sSetI 0 (eC (.int 0)) (e2 opFdiv (e2 opIx (eOwn 0) (eC (.int 0))) (eVar 1)))
  (sRet (eVar 2)))) (sNext))
  (sSeq (sAsg (eC (.int 0)) (tgName 3))
  (sSeq (sFor (tgName 4) (iRange (aCons (e2 opAdd (eC (.int 1)) (e2 opFdiv (e1 opBits (eVar 1)) (eC (.int 28)))) aNil)) (sSeq (sSetI 0 (eC (.int 2)) (e2 opAdd (e2 opIx (eOwn 0) (eC (.int 2))) (eC (.int 1))))
  (sAsg (e2 opAdd (e2 opSMul (eVar 3) (eC (.int 2147483587))) (eCall f__law_mixed (aCons (e2 opIx (eOwn 0) (eC (.int 1))) (aCons (e2 opIx (eOwn 0) (eC (.int 2))) (aCons (e2 opIx (eOwn 0) (eC (.int 3))) (aNil)))))) (tgName 3))))
  (sRet (e2 opMod (eN opInt (aCons (eVar 3) (aNil))) (eVar 1)))))
def f__law_draw : Fn := runFn 5 [0] .cl m__law_draw
/-! _law_parted -/
def m__law_parted : MS := sSeq (sFor (tgName 1) (iSeq (eCall f__law_rooms aNil)) (sIf (bOf (e2 opEq (eCut (eVar 0) (pNo) (pAt (e2 opAdd (eN opLen (aCons (eVar 1) (aNil))) (eC (.int 1))))) (e2 opAdd (eVar 1) (eC (.str ":"))))) (sRet (eN mkTup (aCons (eVar 1) (aCons (eCut (eVar 0) (pAt (e2 opAdd (eN opLen (aCons (eVar 1) (aNil))) (eC (.int 1)))) (pNo)) (aNil))))) (sNext)))
  (sRet (eN mkTup (aCons (eC (.str "")) (aCons (eVar 0) (aNil)))))
def f__law_parted : Fn := runFn 2 [] .cl m__law_parted
/-! _law_title -/
def m__law_title : MS := sSeq (sAsg (eCall f__law_made_one (aCons (eVar 0) (aNil))) (tgName 1))
  (sSeq (sIf (bOf (e2 opNe (eLC [7] (tgName 7) (bOf (e2 opIn (eVar 7) (eC (.str "[]{}|#<>\n")))) (eVar 7) (iSeq (eVar 0))) (eN mkLst (aNil)))) (sRet (eC .non)) (sNext))
  (sSeq (sPar 2 3 (aCons (eC (.str "")) (aCons (eVar 1) (aNil))))
  (sSeq (sFor (tgName 4) (iSeq (eCall f__law_rooms aNil)) (sSeq (sAsg (eCut (eVar 1) (pAt (eN opLen (aCons (eVar 4) (aNil)))) (pNo)) (tgName 5))
  (sIf (bAnd (bOf (e2 opEq (eMT .str opLower (eCut (eVar 1) (pNo) (pAt (eN opLen (aCons (eVar 4) (aNil))))) aNil) (eMT .str opLower (eVar 4) aNil))) (bOr (bOf (e2 opEq (eCut (eVar 5) (pNo) (pAt (eC (.int 1)))) (eC (.str ":")))) (bOf (e2 opEq (eCut (eVar 5) (pNo) (pAt (eC (.int 2)))) (eC (.str " :")))))) (sPar 2 3 (aCons (eVar 4) (aCons (eCall f__law_made_one (aCons (eCut (eVar 5) (pAt (e2 opAdd (mOr (isKd .str (eVar 5)) (eMT .str opSIndex (eVar 5) (aCons (eC (.str ":")) (aNil))) (eMT .list opIndex (eVar 5) (aCons (eC (.str ":")) (aNil)))) (eC (.int 1)))) (pNo)) (aNil))) (aNil)))) (sNext))))
  (sSeq (sAsg (eCall f__law_great (aCons (eVar 3) (aNil))) (tgName 3))
  (sSeq (sAsg (eIf (bOf (e2 opEq (eVar 2) (eC (.str "")))) (eVar 3) (e2 opAdd (e2 opAdd (eVar 2) (eC (.str ":"))) (eVar 3))) (tgName 6))
  (sRet (eIf (bAnd (bOf (e2 opNe (eVar 3) (eC (.str "")))) (bAnd (bOf (e2 opNe (e2 opIx (eVar 3) (eC (.int 0))) (eC (.str ":")))) (bOf (e2 opLt (eN opLen (aCons (eVar 6) (aNil))) (eC (.int 61)))))) (eVar 6) (eC .non))))))))
def f__law_title : Fn := runFn 8 [] .cl m__law_title
/-! check_text -/
def m_check_text : MS := sIf (bNot (bTr (eCall f_is_text (aCons (eVar 0) (aNil))))) (sRaise "InvalidText" (eVar 0)) (sNext)
def f_check_text : Fn := runFn 1 [] .cl m_check_text
/-! is_title -/
def m_is_title : MS := sRet (eAnd (eCall f_is_text (aCons (eVar 0) (aNil))) (e2 opEq (eCall f_title_read (aCons (eVar 0) (aNil))) (eVar 0)))
def f_is_title : Fn := runFn 1 [] .cl m_is_title
/-! above_there -/
def m_above_there : MS := sSeq (sAsg (e2 opSub (eN opLen (aCons (eVar 0) (aNil))) (eN opLen (aCons (eCall f_rest_there (aCons (eVar 0) (aNil))) (aNil)))) (tgName 1))
  (sSeq (sAsg (eLC [4] (tgName 4) (bOf (e2 opEq (e2 opIx (eVar 0) (eVar 4)) (eC (.str "/")))) (eVar 4) (iRange (aCons (eVar 1) (aCons (eN opLen (aCons (eVar 0) (aNil))) aNil)))) (tgName 2))
  (sSeq (sAsg (eLC [4] (tgName 4) (M.pure true) (eCall f_title_read (aCons (eCut (eVar 0) (pNo) (pAt (eVar 4))) (aNil))) (iSeq (e1 opRev (eVar 2)))) (tgName 3))
  (sRet (eLC [5] (tgName 5) (bOf (e2 opNotN (eVar 5) (eC .non))) (eVar 5) (iSeq (eVar 3))))))
def f_above_there : Fn := runFn 6 [] .fr m_above_there
/-! _law_one_of -/
def m__law_one_of : MS := sRet (e2 opIx (eVar 1) (eCallO f__law_draw 0 (aCons (eN opLen (aCons (eVar 1) (aNil))) (aNil))))
def f__law_one_of : Fn := runFn 2 [0] .cl m__law_one_of
/-! _law_above -/
def m__law_above : MS := sSeq (sAsg (eCall f__law_parted (aCons (eVar 0) (aNil))) (tgTup [1, 2]))
  (sSeq (sPar 3 4 (aCons (e2 opSub (eN opLen (aCons (eVar 0) (aNil))) (eN opLen (aCons (eVar 2) (aNil)))) (aCons (eN mkLst (aNil)) (aNil))))
  (sSeq (sFor (tgName 5) (iRange (aCons (eVar 3) (aCons (eN opLen (aCons (eVar 0) (aNil))) aNil))) (sSeq (sAsg (eIf (bOf (e2 opEq (e2 opIx (eVar 0) (eVar 5)) (eC (.str "/")))) (eCall f__law_title (aCons (eCut (eVar 0) (pNo) (pAt (eVar 5))) (aNil))) (eC .non)) (tgName 6))
  (sAsg (eIf (bOf (e2 opNotN (eVar 6) (eC .non))) (e2 opAdd (eN mkLst (aCons (eVar 6) (aNil))) (eVar 4)) (eVar 4)) (tgName 4))))
  (sRet (eVar 4))))
def f__law_above : Fn := runFn 7 [] .cl m__law_above
/-! check_title -/
def m_check_title : MS := sIf (bNot (bTr (eCall f_is_title (aCons (eVar 0) (aNil))))) (sRaise "InvalidTitle" (eVar 0)) (sNext)
def f_check_title : Fn := runFn 1 [] .cl m_check_title
/-! _law_barred -/
def m__law_barred : MS := sSeq (sAsg (eCallO f__law_one_of 0 (aCons (eN mkLst (aCons (eC (.str "")) (aCons (eC (.str "")) (aCons (eC (.str "Help:")) (aCons (eC (.str "User talk:")) (aNil)))))) (aNil))) (tgName 1))
  (sSeq (sAsg (eCallO f__law_one_of 0 (aCons (eN mkLst (aCons (eC (.str "A")) (aCons (eC (.str "b")) (aCons (eC (.str "/x")) (aCons (eC (.str "A b")) (aNil)))))) (aNil))) (tgName 2))
  (sSeq (sFor (tgName 3) (iRange (aCons (eCallO f__law_draw 0 (aCons (eC (.int 5)) (aNil))) aNil)) (sAsg (e2 opAdd (e2 opAdd (eVar 2) (eC (.str "/"))) (eCallO f__law_one_of 0 (aCons (eN mkLst (aCons (eC (.str "b")) (aCons (eC (.str "c d")) (aCons (eC (.str "")) (aCons (eC (.str " e")) (aCons (eC (.str "..")) (aCons (eC (.str "x:y")) (aCons (eC (.str "F_")) (aNil))))))))) (aNil)))) (tgName 2)))
  (sSeq (sAsg (eCall f__law_title (aCons (e2 opAdd (eVar 1) (eVar 2)) (aNil))) (tgName 4))
  (sRet (eIf (bOf (e2 opNotN (eVar 4) (eC .non))) (eVar 4) (eC (.str "A/b")))))))
def f__law_barred : Fn := runFn 5 [0] .cl m__law_barred
/-! _law_step -/
def m__law_step : MS := sSeq (sAsg (e2 opSMul (eC (.str "../")) (eCallO f__law_draw 0 (aCons (eC (.int 4)) (aNil)))) (tgName 1))
  (sRet (e2 opAdd (eVar 1) (eCallO f__law_one_of 0 (aCons (eN mkLst (aCons (eC (.str "")) (aCons (eC (.str "/")) (aCons (eC (.str "x")) (aCons (eC (.str "/y z")) (aCons (eC (.str "//")) (aCons (eC (.str "talk:a")) (aCons (eC (.str "/#")) (aCons (eC (.str "\n")) (aCons (eC (.str " /b")) (aCons (eC (.str "..")) (aCons (eC (.str "/..")) (aCons (eC (.str "a/../b")) (aNil)))))))))))))) (aNil)))))
def f__law_step : Fn := runFn 2 [0] .cl m__law_step
/-! titles_above -/
def m_titles_above : MS := sSeq (sDrop (eCall f_check_title (aCons (eVar 0) (aNil))))
  (sRet (eCall f_above_there (aCons (eVar 0) (aNil))))
def f_titles_above : Fn := runFn 1 [] (.cw N0) m_titles_above
/-! led_to -/
def m_led_to : MS := sSeq (sDrop (eCall f_check_title (aCons (eVar 0) (aNil))))
  (sSeq (sDrop (eCall f_check_text (aCons (eVar 1) (aNil))))
  (sSeq (sIf (bAnd (bNot (bTr (eMT .str opStarts (eVar 1) (aCons (eC (.str "../")) (aNil))))) (bNot (bTr (eMT .str opStarts (eVar 1) (aCons (eC (.str "/")) (aNil)))))) (sRet (eCall f_title_read (aCons (eVar 1) (aNil)))) (sNext))
  (sSeq (sPar 2 3 (aCons (eVar 0) (aCons (eVar 1) (aNil))))
  (sSeq (whLoop (bTr (eMT .str opStarts (eVar 3) (aCons (eC (.str "../")) (aNil)))) (sSeq (sAsg (eCall f_above_there (aCons (eVar 2) (aNil))) (tgName 4))
  (sSeq (sIf (bOf (e2 opEq (eVar 4) (eN mkLst (aNil)))) (sRet (eC .non)) (sNext))
  (sPar 2 3 (aCons (e2 opIx (eVar 4) (eC (.int 0))) (aCons (eCut (eVar 3) (pAt (eC (.int 3))) (pNo)) (aNil)))))) 1000000)
  (sSeq (sAsg (eIf (bTr (eMT .str opStarts (eVar 3) (aCons (eC (.str "/")) (aNil)))) (eCut (eVar 3) (pAt (eC (.int 1))) (pNo)) (eVar 3)) (tgName 3))
  (sRet (eIf (bOf (e2 opEq (eVar 3) (eC (.str "")))) (eVar 2) (eCall f_title_read (aCons (e2 opAdd (e2 opAdd (eVar 2) (eC (.str "/"))) (eVar 3)) (aNil))))))))))
def f_led_to : Fn := runFn 5 [] .cl m_led_to
/-! _law_asked -/
def m__law_asked : MS := sSeq (sIf (bOf (e2 opLt (eVar 0) (eC (.int 2)))) (sRet (eIf (bOf (e2 opEq (eVar 0) (eC (.int 0)))) (eCall f_titles_above (aCons (e2 opIx (eVar 1) (eC (.int 0))) (aNil))) (eCallK f_titles_above [0] (aCons (e2 opIx (eVar 1) (eC (.int 0))) (aNil))))) (sNext))
  (sRet (eChk k0.hit (eIf (bOf (e2 opEq (eVar 0) (eC (.int 2)))) (eCall f_led_to (aCons (e2 opIx (eVar 1) (eC (.int 0))) (aCons (e2 opIx (eVar 1) (eC (.int 1))) (aNil)))) (eCallK f_led_to [1, 0] (aCons (e2 opIx (eVar 1) (eC (.int 1))) (aCons (e2 opIx (eVar 1) (eC (.int 0))) (aNil)))))))
def f__law_asked : Fn := runFn 2 [] (.cw N0) m__law_asked
/-! _law_refusal -/
def m__law_refusal : MS := sSeq (sAsg (eC .non) (tgName 2))
  (sSeq (sTryK [("InvalidCount", true), ("InvalidText", true), ("InvalidTitle", true)] 3 2 (sRet (eN mkLst (aCons (eC (.str "told")) (aCons (eCall f__law_asked (aCons (eVar 0) (aCons (eVar 1) (aNil)))) aNil)))))
  (sSeq (sAsg (eN mkLst (aCons (e1 (opIs [] [("InvalidCount", false), ("InvalidText", true), ("InvalidTitle", false)]) (eVar 2)) (aCons (e1 (opIs [] [("InvalidCount", false), ("InvalidText", false), ("InvalidTitle", true)]) (eVar 2)) (aCons (e1 (opIs [] [("InvalidCount", true), ("InvalidText", false), ("InvalidTitle", false)]) (eVar 2)) (aNil))))) (tgName 4))
  (sSeq (sIf (bOr (bOf (e2 opNe (eMT .list opCount (eVar 4) (aCons (eC (.bl true)) (aNil))) (eC (.int 1)))) (bNot (bTr (e1 (opIs [] [("InvalidCount", true), ("InvalidText", true), ("InvalidTitle", true)]) (eVar 2))))) (sRet (eChk k1.hit (eN mkLst (aCons (eC (.str "other")) (aNil))))) (sNext))
  (sRet (eChk k1.hit (eN mkLst (aCons (e2 opIx (eN mkLst (aCons (eC (.str "text")) (aCons (eC (.str "title")) (aCons (eC (.str "count")) (aNil))))) (mOr (isKd .str (eVar 4)) (eMT .str opSIndex (eVar 4) (aCons (eC (.bl true)) (aNil))) (eMT .list opIndex (eVar 4) (aCons (eC (.bl true)) (aNil))))) (aCons (e1 opVal (eVar 2)) (aNil)))))))))
def r__law_refusal : Fn := runFn 5 [] (.cw N1) m__law_refusal
noncomputable def f__law_refusal : Fn := flatFn r__law_refusal
/-! _law_same -/
def m__law_same (rc : Fn) : MS := sSeq (sIf (bTr (e1 (opIs [.dic] [("InvalidCount", false), ("InvalidText", false), ("InvalidTitle", false)]) (eVar 1))) (sSeq (sAsg (eAnd (e1 (opIs [.dic] [("InvalidCount", false), ("InvalidText", false), ("InvalidTitle", false)]) (eVar 0)) (eAnd (e2 opEq (eN opLen (aCons (eVar 0) (aNil))) (eN opLen (aCons (eVar 1) (aNil)))) (eN opAll (aCons (eLC [3] (tgName 3) (M.pure true) (e2 opIn (eVar 3) (eVar 0)) (iSeq (eVar 1))) (aNil))))) (tgName 2))
  (sRet (eAnd (eVar 2) (eN opAll (aCons (eLC [3] (tgName 3) (M.pure true) (eCall rc (aCons (e2 opIx (eVar 0) (eVar 3)) (aCons (e2 opIx (eVar 1) (eVar 3)) (aNil)))) (iSeq (eVar 1))) (aNil)))))) (sNext))
  (sSeq (sIf (bTr (e1 (opIs [.lst, .tup] [("InvalidCount", false), ("InvalidText", false), ("InvalidTitle", false)]) (eVar 1))) (sSeq (sAsg (eAnd (e2 opEq (e1 (opIs [.lst] [("InvalidCount", false), ("InvalidText", false), ("InvalidTitle", false)]) (eVar 0)) (e1 (opIs [.lst] [("InvalidCount", false), ("InvalidText", false), ("InvalidTitle", false)]) (eVar 1))) (e2 opEq (e1 (opIs [.tup] [("InvalidCount", false), ("InvalidText", false), ("InvalidTitle", false)]) (eVar 0)) (e1 (opIs [.tup] [("InvalidCount", false), ("InvalidText", false), ("InvalidTitle", false)]) (eVar 1)))) (tgName 2))
  (sRet (eAnd (eVar 2) (eAnd (e2 opEq (eN opLen (aCons (eVar 0) (aNil))) (eN opLen (aCons (eVar 1) (aNil)))) (eN opAll (aCons (eLC [4, 5] (tgTup [4, 5]) (M.pure true) (eCall rc (aCons (eVar 4) (aCons (eVar 5) (aNil)))) (iZip (aCons (eVar 0) (aCons (eVar 1) (aNil))))) (aNil))))))) (sNext))
  (sSeq (sIf (bOr (bTr (e1 (opIs [.lst, .tup, .dic] [("InvalidCount", false), ("InvalidText", false), ("InvalidTitle", false)]) (eVar 0))) (bOf (e2 opNe (e2 opIsN (eVar 0) (eC .non)) (e2 opIsN (eVar 1) (eC .non))))) (sRet (eC (.bl false))) (sNext))
  (sSeq (sAsg (eAnd (e2 opEq (e1 (opIs [.int, .bl] [("InvalidCount", false), ("InvalidText", false), ("InvalidTitle", false)]) (eVar 0)) (e1 (opIs [.int, .bl] [("InvalidCount", false), ("InvalidText", false), ("InvalidTitle", false)]) (eVar 1))) (e2 opEq (e1 (opIs [.str] [("InvalidCount", false), ("InvalidText", false), ("InvalidTitle", false)]) (eVar 0)) (e1 (opIs [.str] [("InvalidCount", false), ("InvalidText", false), ("InvalidTitle", false)]) (eVar 1)))) (tgName 2))
  (sRet (eAnd (eVar 2) (eAnd (e2 opEq (e1 (opIs [.bl] [("InvalidCount", false), ("InvalidText", false), ("InvalidTitle", false)]) (eVar 0)) (e1 (opIs [.bl] [("InvalidCount", false), ("InvalidText", false), ("InvalidTitle", false)]) (eVar 1))) (e2 opEq (eVar 0) (eVar 1))))))))
def f__law_same_ : Nat → Fn
  | 0 => runFn 6 [] .cl sBad
  | n + 1 => runFn 6 [] .cl (m__law_same (f__law_same_ n))
abbrev f__law_same : Fn := f__law_same_ 8
/-! _law_led -/
def m__law_led (rc : Fn) : MS := sSeq (sIf (bAnd (bOf (e2 opNe (eCut (eVar 1) (pNo) (pAt (eC (.int 1)))) (eC (.str "/")))) (bOf (e2 opNe (eCut (eVar 1) (pNo) (pAt (eC (.int 3)))) (eC (.str "../"))))) (sRet (eCall f__law_title (aCons (eVar 1) (aNil)))) (sNext))
  (sSeq (sIf (bOf (e2 opEq (eCut (eVar 1) (pNo) (pAt (eC (.int 3)))) (eC (.str "../")))) (sSeq (sAsg (eCall f__law_above (aCons (eVar 0) (aNil))) (tgName 2))
  (sSeq (sAsg (eIf (bOr (bOf (e2 opEq (eCut (eVar 1) (pAt (eC (.int 3))) (pAt (eC (.int 6)))) (eC (.str "../")))) (bOf (e2 opEq (eCut (eVar 1) (pAt (eC (.int 3))) (pAt (eC (.int 4)))) (eC (.str "/"))))) (eCut (eVar 1) (pAt (eC (.int 3))) (pNo)) (e2 opAdd (eC (.str "/")) (eCut (eVar 1) (pAt (eC (.int 3))) (pNo)))) (tgName 3))
  (sRet (eIf (bOf (e2 opEq (eVar 2) (eN mkLst (aNil)))) (eC .non) (eCall rc (aCons (e2 opIx (eVar 2) (eC (.int 0))) (aCons (eVar 3) (aNil)))))))) (sNext))
  (sSeq (sAsg (eCut (eVar 1) (pAt (eC (.int 1))) (pNo)) (tgName 4))
  (sRet (eIf (bOf (e2 opEq (eVar 4) (eC (.str "")))) (eVar 0) (eCall f__law_title (aCons (e2 opAdd (e2 opAdd (eVar 0) (eC (.str "/"))) (eVar 4)) (aNil)))))))
def f__law_led_ : Nat → Fn
  | 0 => runFn 5 [] .cl sBad
  | n + 1 => runFn 5 [] .cl (m__law_led (f__law_led_ n))
abbrev f__law_led : Fn := f__law_led_ 8
/-! _law_right -/
def m__law_right : MS := sSeq (sAsg (eCall f__law_above (aCons (eVar 0) (aNil))) (tgName 2))
  (sSeq (sFor (tgName 3) (iRange (aCons (eC (.int 2)) aNil)) (sSpoil 4 (eCall f__law_refusal (aCons (eVar 3) (aCons (eN mkLst (aCons (eVar 0) (aNil))) (aNil)))) (bNot (bTr (eCall f__law_same (aCons (eVar 4) (aCons (eN mkLst (aCons (eC (.str "told")) (aCons (eVar 2) (aNil)))) (aNil)))))) (eC (.bl false))))
  (sSeq (sFor (tgTup [5, 6]) (iEnumD (aCons (eVar 2) (aNil))) (sIf (bOr (bOf (e2 opNotB (eCall f_is_title (aCons (eVar 6) (aNil))) (eC (.bl true)))) (bOf (e2 opNe (eCall f_titles_above (aCons (eVar 6) (aNil))) (eCut (eVar 2) (pAt (e2 opAdd (eVar 5) (eC (.int 1)))) (pNo))))) (sRet (eC (.bl false))) (sNext)))
  (sRet (eCall f__law_same (aCons (eLC [3] (tgName 3) (M.pure true) (eCall f__law_refusal (aCons (eVar 3) (aCons (eN mkLst (aCons (eVar 0) (aCons (eVar 1) (aNil)))) (aNil)))) (iSeq (eN mkTup (aCons (eC (.int 2)) (aCons (eC (.int 3)) (aNil)))))) (aCons (e2 opSMul (eN mkLst (aCons (eN mkLst (aCons (eC (.str "told")) (aCons (eCall f__law_led (aCons (eVar 0) (aCons (eVar 1) (aNil)))) (aNil)))) (aNil))) (eC (.int 2))) (aNil)))))))
def f__law_right : Fn := runFn 7 [] .cl m__law_right
/-! law -/
def m_law : MS := sSeq (sFor (tgName 1) (iRange (aCons (eC (.int 6)) aNil)) (sSeq (sAsgO 2 (eCall f__law_purse (aCons (eVar 0) (aCons (eVar 1) (aNil)))))
  (sSeq (sFor (tgName 3) (iRange (aCons (eC (.int 8)) aNil)) (sIf (bNot (bTr (eCall f__law_right (aCons (eCallO f__law_barred 2 (aNil)) (aCons (eCallO f__law_step 2 (aNil)) (aNil)))))) (sRet (eC (.bl false))) (sNext)))
  (sSeq (sAny fun a => sAsg (eCallO f__law_one_of 2 (aCons (eN mkLst (aCons (eC .non) (aCons (eC (.int 5)) (aCons (eC (.str "")) (aCons (eC (.str "a")) (aCons (eC (.str "A_b")) (aCons (eC (.str "talk:X")) (aCons (eN mkLst (aCons (eC (.str "A")) (aNil))) (aCons (eC (.bl true)) (aCons (eNew "InvalidCount" (eC (.str "A")) a) aNil)))))))))) aNil)) (tgName 4))
  (sSeq (sAsg (eCallO f__law_one_of 2 (aCons (eN mkLst (aCons (eC .non) (aCons (eC (.int 5)) (aCons (eC (.bl true)) (aCons (eN mkLst (aCons (eC (.str "A")) (aNil))) (aCons (e2 opAdd (eC (.str "a")) (eC (.str "\t"))) (aCons (eC (.dic [])) (aNil)))))))) (aNil))) (tgName 5))
  (sFor (tgName 6) (iRange (aCons (eC (.int 4)) aNil)) (sSeq (sIf (bNot (bTr (eCall f__law_same (aCons (eCall f__law_refusal (aCons (eVar 6) (aCons (eN mkLst (aCons (eVar 4) (aCons (eVar 5) (aNil)))) (aNil)))) (aCons (eN mkLst (aCons (eC (.str "title")) (aCons (eVar 4) (aNil)))) (aNil)))))) (sRet (eC (.bl false))) (sNext))
  (sIf (bAnd (bOf (e2 opGt (eVar 6) (eC (.int 1)))) (bNot (bTr (eCall f__law_same (aCons (eCall f__law_refusal (aCons (eVar 6) (aCons (eN mkLst (aCons (eC (.str "A/b")) (aCons (eVar 5) (aNil)))) (aNil)))) (aCons (eN mkLst (aCons (eC (.str "text")) (aCons (eVar 5) (aNil)))) (aNil))))))) (sRet (eC (.bl false))) (sNext)))))))))
  (sRet (eC (.bl true)))
def r_law : Fn := runFn 7 [] .cl m_law
noncomputable def f_law : Fn := flatFn r_law
abbrev s_is_text : Stmt := top 6
abbrev s_made_one : Stmt := top 12
abbrev s_room_called : Stmt := top 13
abbrev s_room_there : Stmt := top 17
abbrev s__law_purse : Stmt := top 23
abbrev s__law_mixed : Stmt := top 24
abbrev s__law_rooms : Stmt := top 28
abbrev s__law_made_one : Stmt := top 29
abbrev s__law_great : Stmt := top 30
abbrev s_title_read : Stmt := top 14
abbrev s_rest_there : Stmt := top 18
abbrev s__law_draw : Stmt := top 25
abbrev s__law_parted : Stmt := top 31
abbrev s__law_title : Stmt := top 32
abbrev s_check_text : Stmt := top 7
abbrev s_is_title : Stmt := top 15
abbrev s_above_there : Stmt := top 19
abbrev s__law_one_of : Stmt := top 26
abbrev s__law_above : Stmt := top 33
abbrev s_check_title : Stmt := top 16
abbrev s__law_barred : Stmt := top 35
abbrev s__law_step : Stmt := top 36
abbrev s_titles_above : Stmt := top 20
abbrev s_led_to : Stmt := top 21
abbrev s__law_asked : Stmt := top 37
abbrev s__law_refusal : Stmt := top 38
abbrev s__law_same : Stmt := top 27
abbrev s__law_led : Stmt := top 34
abbrev s__law_right : Stmt := top 39
abbrev s_law : Stmt := top 40
structure Tx (P : Program) (w : World) (K : PySem.W.Frag) (mg : Str → Option Value) (base : Heap) : Prop where
  n_isinstance : mg "isinstance" = none
  i_str : IsT K mg [.type "str"] [.str] [("InvalidCount", false), ("InvalidText", false), ("InvalidTitle", false)]
  n_str : mg "str" = none
  n_all : mg "all" = none
  d_is_text : ∃ f fd, DF K "is_text" "is_text" s_is_text f fd ∧ mg "is_text" = some (.ref f)
  d_made_one : ∃ f fd, DF K "made_one" "made_one" s_made_one f fd ∧ mg "made_one" = some (.ref f)
  g_ROOMS : ∃ v u, mg "ROOMS" = some u ∧ RelV v u ∧ ∀ F, Rep ⟨K, mg⟩ F d_ROOMS v
  d_room_called : ∃ f fd, DF K "room_called" "room_called" s_room_called f fd ∧ mg "room_called" = some (.ref f)
  d_room_there : ∃ f fd, DF K "room_there" "room_there" s_room_there f fd ∧ mg "room_there" = some (.ref f)
  n_sum : mg "sum" = none
  n_int : mg "int" = none
  n_max : mg "max" = none
  d__law_purse : ∃ f fd, DF K "_law_purse" "_law_purse" s__law_purse f fd ∧ mg "_law_purse" = some (.ref f)
  d__law_mixed : ∃ f fd, DF K "_law_mixed" "_law_mixed" s__law_mixed f fd ∧ mg "_law_mixed" = some (.ref f)
  d__law_rooms : ∃ f fd, DF K "_law_rooms" "_law_rooms" s__law_rooms f fd ∧ mg "_law_rooms" = some (.ref f)
  d__law_made_one : ∃ f fd, DF K "_law_made_one" "_law_made_one" s__law_made_one f fd ∧ mg "_law_made_one" = some (.ref f)
  d__law_great : ∃ f fd, DF K "_law_great" "_law_great" s__law_great f fd ∧ mg "_law_great" = some (.ref f)
  g_BARRED : ∃ v u, mg "BARRED" = some u ∧ RelV v u ∧ ∀ F, Rep ⟨K, mg⟩ F d_BARRED v
  n_any : mg "any" = none
  n_len : mg "len" = none
  g_LONGEST : ∃ v u, mg "LONGEST" = some u ∧ RelV v u ∧ ∀ F, Rep ⟨K, mg⟩ F d_LONGEST v
  d_title_read : ∃ f fd, DF K "title_read" "title_read" s_title_read f fd ∧ mg "title_read" = some (.ref f)
  d_rest_there : ∃ f fd, DF K "rest_there" "rest_there" s_rest_there f fd ∧ mg "rest_there" = some (.ref f)
  n_range : mg "range" = none
  d__law_draw : ∃ f fd, DF K "_law_draw" "_law_draw" s__law_draw f fd ∧ mg "_law_draw" = some (.ref f)
  d__law_parted : ∃ f fd, DF K "_law_parted" "_law_parted" s__law_parted f fd ∧ mg "_law_parted" = some (.ref f)
  d__law_title : ∃ f fd, DF K "_law_title" "_law_title" s__law_title f fd ∧ mg "_law_title" = some (.ref f)
  x_InvalidText : Xd P w K mg base "InvalidText" 1
  d_check_text : ∃ f fd, DF K "check_text" "check_text" s_check_text f fd ∧ mg "check_text" = some (.ref f)
  d_is_title : ∃ f fd, DF K "is_title" "is_title" s_is_title f fd ∧ mg "is_title" = some (.ref f)
  d_above_there : ∃ f fd, DF K "above_there" "above_there" s_above_there f fd ∧ mg "above_there" = some (.ref f)
  d__law_one_of : ∃ f fd, DF K "_law_one_of" "_law_one_of" s__law_one_of f fd ∧ mg "_law_one_of" = some (.ref f)
  d__law_above : ∃ f fd, DF K "_law_above" "_law_above" s__law_above f fd ∧ mg "_law_above" = some (.ref f)
  x_InvalidTitle : Xd P w K mg base "InvalidTitle" 1
  d_check_title : ∃ f fd, DF K "check_title" "check_title" s_check_title f fd ∧ mg "check_title" = some (.ref f)
  d__law_barred : ∃ f fd, DF K "_law_barred" "_law_barred" s__law_barred f fd ∧ mg "_law_barred" = some (.ref f)
  d__law_step : ∃ f fd, DF K "_law_step" "_law_step" s__law_step f fd ∧ mg "_law_step" = some (.ref f)
  d_titles_above : ∃ f fd, DF K "titles_above" "titles_above" s_titles_above f fd ∧ mg "titles_above" = some (.ref f)
  d_led_to : ∃ f fd, DF K "led_to" "led_to" s_led_to f fd ∧ mg "led_to" = some (.ref f)
  d__law_asked : ∃ f fd, DF K "_law_asked" "_law_asked" s__law_asked f fd ∧ mg "_law_asked" = some (.ref f)
  c_WikiError : ∃ C, mg "WikiError" = some (.ref C) ∧ CatT K mg (.ref C) [("InvalidCount", true), ("InvalidText", true), ("InvalidTitle", true)]
  i_InvalidCount : ∃ C, mg "InvalidCount" = some (.ref C) ∧ IsT K mg [.ref C] [] [("InvalidCount", true), ("InvalidText", false), ("InvalidTitle", false)]
  i_InvalidTitle : ∃ C, mg "InvalidTitle" = some (.ref C) ∧ IsT K mg [.ref C] [] [("InvalidCount", false), ("InvalidText", false), ("InvalidTitle", true)]
  i_InvalidText : ∃ C, mg "InvalidText" = some (.ref C) ∧ IsT K mg [.ref C] [] [("InvalidCount", false), ("InvalidText", true), ("InvalidTitle", false)]
  i_ValueError : IsT K mg [.type "ValueError"] [] [("InvalidCount", true), ("InvalidText", true), ("InvalidTitle", true)]
  n_ValueError : mg "ValueError" = none
  d__law_refusal : ∃ f fd, DF K "_law_refusal" "_law_refusal" s__law_refusal f fd ∧ mg "_law_refusal" = some (.ref f)
  i_dict : IsT K mg [.type "dict"] [.dic] [("InvalidCount", false), ("InvalidText", false), ("InvalidTitle", false)]
  n_dict : mg "dict" = none
  i_list_tuple : IsT K mg [.type "list", .type "tuple"] [.lst, .tup] [("InvalidCount", false), ("InvalidText", false), ("InvalidTitle", false)]
  n_list : mg "list" = none
  n_tuple : mg "tuple" = none
  i_list : IsT K mg [.type "list"] [.lst] [("InvalidCount", false), ("InvalidText", false), ("InvalidTitle", false)]
  i_tuple : IsT K mg [.type "tuple"] [.tup] [("InvalidCount", false), ("InvalidText", false), ("InvalidTitle", false)]
  n_zip : mg "zip" = none
  i_list_tuple_dict : IsT K mg [.type "list", .type "tuple", .type "dict"] [.lst, .tup, .dic] [("InvalidCount", false), ("InvalidText", false), ("InvalidTitle", false)]
  i_int : IsT K mg [.type "int"] [.int, .bl] [("InvalidCount", false), ("InvalidText", false), ("InvalidTitle", false)]
  i_bool : IsT K mg [.type "bool"] [.bl] [("InvalidCount", false), ("InvalidText", false), ("InvalidTitle", false)]
  n_bool : mg "bool" = none
  d__law_same : ∃ f fd, DF K "_law_same" "_law_same" s__law_same f fd ∧ mg "_law_same" = some (.ref f)
  d__law_led : ∃ f fd, DF K "_law_led" "_law_led" s__law_led f fd ∧ mg "_law_led" = some (.ref f)
  n_enumerate : mg "enumerate" = none
  d__law_right : ∃ f fd, DF K "_law_right" "_law_right" s__law_right f fd ∧ mg "_law_right" = some (.ref f)
  x_InvalidCount : Xd P w K mg base "InvalidCount" 1
  d_law : ∃ f fd, DF K "law" "law" s_law f fd ∧ mg "law" = some (.ref f)
section
variable {P : Program} {w : World} {K : PySem.W.Frag} {mg : Str → Option Value} {base : Heap}
theorem sc_is_text : FnScope ["value", "sign"] ["value"] (defScope s_is_text) := ⟨rfl, rfl, rfl, by decide +kernel, rfl, by decide +kernel, by decide +kernel⟩
theorem fx_is_text (T : Tx P w K mg base) : Fw P w K mg base "is_text" s_is_text ["value"] [] .cl 1 1 f_is_text := by
  obtain ⟨f, fd, F, hm⟩ := T.d_is_text
  refine ⟨f, fd, F, fn_ok F sc_is_text (by decide) (fun cdv A outer s H E F0 O hr => ?_), hm⟩
  have tk := takes_of (X := cxOf (L2.CX P w) P w K mg base ["value", "sign"] "is_text" (defScope s_is_text) f cdv A outer s H E) rfl rfl rfl rfl
  have hp := passes_of (X := cxOf (L2.CX P w) P w K mg base ["value", "sign"] "is_text" (defScope s_is_text) f cdv A outer s H E) rfl
  have nd := sc_is_text.nd
  exact (sss_one (ss_ret (se_and (se_isi T.i_str T.n_str PyProof.Rows.Boot.«str» (se_var 0) T.n_isinstance) (se_one (se_callB (cr_all rfl) s_all T.n_all PyProof.Rows.Boot.«all» (sa_cons (se_lc [("sign", 1)] rfl nd (si_seq (se_var 0)) (blkB_ok (by rfl)) (fun _ _ _ _ _ => (sg_name 1 nd)) (fun _ _ _ _ _ => sts_nil) (fun _ _ _ _ _ => (se_or (se_chain o_le s_cmp o_le s_cmp se_str (se_var 1) se_str) (se_one (se_cmp (o_eq hr.units) s_eq (se_var 1) se_str))))) sa_nil))))))
theorem fd_is_text (T : Tx P w K mg base) : Fd P w K mg base "is_text" [] .cl 1 1 f_is_text := fd_of (fx_is_text T) (rfl) (fun _ _ _ _ _ _ us hl => match us, hl with | [_], _ => rfl)
theorem sc_made_one : FnScope ["text", "word"] ["text"] (defScope s_made_one) := ⟨rfl, rfl, rfl, by decide +kernel, rfl, by decide +kernel, by decide +kernel⟩
theorem fx_made_one (T : Tx P w K mg base) : Fw P w K mg base "made_one" s_made_one ["text"] [] .cl 1 1 f_made_one := by
  obtain ⟨f, fd, F, hm⟩ := T.d_made_one
  refine ⟨f, fd, F, fn_okT F sc_made_one (by decide) (by decide +kernel) (by decide) (fun cdv A outer s H E F0 O hr => ?_), hm⟩
  have tk := takes_of (X := cxOf (L2.CX P w) P w K mg base ["text", "word"] "made_one" (defScope s_made_one) f cdv A outer s H E) rfl rfl rfl rfl
  have hp := passes_of (X := cxOf (L2.CX P w) P w K mg base ["text", "word"] "made_one" (defScope s_made_one) f cdv A outer s H E) rfl
  have nd := sc_made_one.nd
  exact (sst_ret (set_bm .str PySem.F.plainAttrs_str PySem.F.slot_str_join PySem.F.type_str_join mt_join s_join (set_of se_str) (sat_cons (set_lc [("word", 1)] rfl nd (sit_lst (set_bm .str PySem.F.plainAttrs_str PySem.F.slot_str_split PySem.F.type_str_split mt_split s_split (set_repl (se_var 0)) (sat_cons (set_of se_str) sat_nil))) (blkB_ok (by rfl)) (fun _ _ _ _ _ => (sg_name 1 nd)) (fun _ _ _ _ _ => (sts_one (sb_cmp (o_ne hr.units) s_ne (se_var 1) se_str))) (fun _ _ _ _ _ => (se_var 1))) sat_nil)))
theorem fd_made_one (T : Tx P w K mg base) : Fd P w K mg base "made_one" [] .cl 1 1 f_made_one := fd_of (fx_made_one T) (rfl) (fun _ _ _ _ _ _ us hl => match us, hl with | [_], _ => rfl)
theorem sc_room_called : FnScope ["text", "name"] ["text"] (defScope s_room_called) := ⟨rfl, rfl, rfl, by decide +kernel, rfl, by decide +kernel, by decide +kernel⟩
theorem fx_room_called (T : Tx P w K mg base) : Fw P w K mg base "room_called" s_room_called ["text"] [] .cl 1 1 f_room_called := by
  obtain ⟨f, fd, F, hm⟩ := T.d_room_called
  refine ⟨f, fd, F, fn_ok F sc_room_called (by decide) (fun cdv A outer s H E F0 O hr => ?_), hm⟩
  have tk := takes_of (X := cxOf (L2.CX P w) P w K mg base ["text", "name"] "room_called" (defScope s_room_called) f cdv A outer s H E) rfl rfl rfl rfl
  have hp := passes_of (X := cxOf (L2.CX P w) P w K mg base ["text", "name"] "room_called" (defScope s_room_called) f cdv A outer s H E) rfl
  have nd := sc_room_called.nd
  exact (sss_cons (ss_for hp rfl (si_seq (se_globE T.g_ROOMS)) (sg_name 1 nd) (sss_one (ss_if (sb_cmp (o_eq hr.units) s_eq (se_bm0 .str PySem.F.plainAttrs_str PySem.F.slot_str_lower PySem.F.type_str_lower mt_lower s_lower (se_var 1)) (se_bm0 .str PySem.F.plainAttrs_str PySem.F.slot_str_lower PySem.F.type_str_lower mt_lower s_lower (se_var 0))) (sss_one (ss_ret (se_var 1))) sss_nil))) (sss_one (ss_ret se_non)))
theorem fd_room_called (T : Tx P w K mg base) : Fd P w K mg base "room_called" [] .cl 1 1 f_room_called := fd_of (fx_room_called T) (rfl) (fun _ _ _ _ _ _ us hl => match us, hl with | [_], _ => rfl)
theorem sc_room_there : FnScope ["title", "name"] ["title"] (defScope s_room_there) := ⟨rfl, rfl, rfl, by decide +kernel, rfl, by decide +kernel, by decide +kernel⟩
theorem fx_room_there (T : Tx P w K mg base) : Fw P w K mg base "room_there" s_room_there ["title"] [] .cl 1 1 f_room_there := by
  obtain ⟨f, fd, F, hm⟩ := T.d_room_there
  refine ⟨f, fd, F, fn_ok F sc_room_there (by decide) (fun cdv A outer s H E F0 O hr => ?_), hm⟩
  have tk := takes_of (X := cxOf (L2.CX P w) P w K mg base ["title", "name"] "room_there" (defScope s_room_there) f cdv A outer s H E) rfl rfl rfl rfl
  have hp := passes_of (X := cxOf (L2.CX P w) P w K mg base ["title", "name"] "room_there" (defScope s_room_there) f cdv A outer s H E) rfl
  have nd := sc_room_there.nd
  exact (sss_cons (ss_asg (se_if (sb_cmp o_in s_in se_str (se_var 0)) (se_cut (se_var 0) sp_no (sp_at (se_kd (isKd .str (eVar 0)) (se_bm .str PySem.F.plainAttrs_str PySem.F.slot_str_index PySem.F.type_str_index mt_sindex s_sindex (se_var 0) (sa_cons se_str sa_nil)) (se_bm .list PySem.F.plainAttrs_list PySem.F.slot_list_index PySem.F.type_list_index mt_index s_index (se_var 0) (sa_cons se_str sa_nil))))) se_str) (sg_name 1 nd)) (sss_one (ss_ret (se_if (sb_cmp o_in s_in (se_var 1) (se_globE T.g_ROOMS)) (se_var 1) se_str))))
theorem fd_room_there (T : Tx P w K mg base) : Fd P w K mg base "room_there" [] .cl 1 1 f_room_there := fd_of (fx_room_there T) (rfl) (fun _ _ _ _ _ _ us hl => match us, hl with | [_], _ => rfl)
theorem sc__law_purse : FnScope ["script", "at", "seed"] ["script", "at"] (defScope s__law_purse) := ⟨rfl, rfl, rfl, by decide +kernel, rfl, by decide +kernel, by decide +kernel⟩
theorem fx__law_purse (T : Tx P w K mg base) : Fw P w K mg base "_law_purse" s__law_purse ["script", "at"] [] .fr 2 1 f__law_purse := by
  obtain ⟨f, fd, F, hm⟩ := T.d__law_purse
  refine ⟨f, fd, F, fn_ok F sc__law_purse (by decide) (fun cdv A outer s H E F0 O hr => ?_), hm⟩
  have tk := takes_of (X := cxOf (L2.CX P w) P w K mg base ["script", "at", "seed"] "_law_purse" (defScope s__law_purse) f cdv A outer s H E) rfl rfl rfl rfl
  have hp := passes_of (X := cxOf (L2.CX P w) P w K mg base ["script", "at", "seed"] "_law_purse" (defScope s__law_purse) f cdv A outer s H E) rfl
  have nd := sc__law_purse.nd
  exact (sss_cons (ss_asg (se_callB (cr_sum rfl) s_sum T.n_sum PyProof.Rows.Boot.«sum» (sa_cons (se_cut (se_var 0) (sp_at (se_var 1)) (sp_at (se_op o_add s_add (se_var 1) se_int))) sa_nil)) (sg_name 2 nd)) (sss_one (ss_retF (sf_lst (sa_cons (se_op op_mod s_mod (se_callTy call_int1 s_int T.n_int PyProof.Rows.Boot.«int» (sa_cons (se_callB (call_max2 rfl) s_max T.n_max PyProof.Rows.Boot.«max» (sa_cons (se_op op_sub s_sub (se_var 2) (se_op op_powX s_pow se_int se_int)) (sa_cons se_int sa_nil))) sa_nil)) (se_op op_powX s_pow (se_op op_powX s_pow se_int se_int) se_int)) (sa_cons (se_op op_mod s_mod (se_callTy call_int1 s_int T.n_int PyProof.Rows.Boot.«int» (sa_cons (se_var 2) sa_nil)) se_int) (sa_cons se_int (sa_cons (se_var 1) sa_nil))))))))
theorem fd__law_purse (T : Tx P w K mg base) : Fd P w K mg base "_law_purse" [] .fr 2 1 f__law_purse := fd_of (fx__law_purse T) (rfl) (fun _ _ _ _ _ _ us hl => match us, hl with | [_, _], _ => rfl)
theorem sc__law_mixed : FnScope ["seed", "spin", "at", "mixed"] ["seed", "spin", "at"] (defScope s__law_mixed) := ⟨rfl, rfl, rfl, by decide +kernel, rfl, by decide +kernel, by decide +kernel⟩
theorem fx__law_mixed (T : Tx P w K mg base) : Fw P w K mg base "_law_mixed" s__law_mixed ["seed", "spin", "at"] [] .cl 3 1 f__law_mixed := by
  obtain ⟨f, fd, F, hm⟩ := T.d__law_mixed
  refine ⟨f, fd, F, fn_ok F sc__law_mixed (by decide) (fun cdv A outer s H E F0 O hr => ?_), hm⟩
  have tk := takes_of (X := cxOf (L2.CX P w) P w K mg base ["seed", "spin", "at", "mixed"] "_law_mixed" (defScope s__law_mixed) f cdv A outer s H E) rfl rfl rfl rfl
  have hp := passes_of (X := cxOf (L2.CX P w) P w K mg base ["seed", "spin", "at", "mixed"] "_law_mixed" (defScope s__law_mixed) f cdv A outer s H E) rfl
  have nd := sc__law_mixed.nd
  exact (sss_cons (ss_asg (se_op o_add s_add (se_op o_smul s_smul (se_var 0) se_int) (se_op o_smul s_smul (se_op o_smul s_smul se_int (se_var 1)) (se_var 1))) (sg_name 3 nd)) (sss_cons (ss_asg (se_op op_mod s_mod (se_callTy call_int1 s_int T.n_int PyProof.Rows.Boot.«int» (sa_cons (se_op o_add s_add (se_op o_add s_add (se_var 3) (se_op o_smul s_smul se_int (se_var 2))) (se_var 1)) sa_nil)) se_int) (sg_name 3 nd)) (sss_cons (ss_asg (se_op op_mod s_mod (se_callTy call_int1 s_int T.n_int PyProof.Rows.Boot.«int» (sa_cons (se_op o_add s_add (se_op o_smul s_smul (se_var 3) (se_var 3)) se_int) sa_nil)) se_int) (sg_name 3 nd)) (sss_one (ss_ret (se_op op_mod s_mod (se_callTy call_int1 s_int T.n_int PyProof.Rows.Boot.«int» (sa_cons (se_op o_smul s_smul (se_var 3) se_int) sa_nil)) se_int))))))
theorem fd__law_mixed (T : Tx P w K mg base) : Fd P w K mg base "_law_mixed" [] .cl 3 1 f__law_mixed := fd_of (fx__law_mixed T) (rfl) (fun _ _ _ _ _ _ us hl => match us, hl with | [_, _, _], _ => rfl)
theorem sc__law_rooms : FnScope [] [] (defScope s__law_rooms) := ⟨rfl, rfl, rfl, by decide +kernel, rfl, by decide +kernel, by decide +kernel⟩
theorem fx__law_rooms (T : Tx P w K mg base) : Fw P w K mg base "_law_rooms" s__law_rooms [] [] .cl 0 1 f__law_rooms := by
  obtain ⟨f, fd, F, hm⟩ := T.d__law_rooms
  refine ⟨f, fd, F, fn_ok F sc__law_rooms (by decide) (fun cdv A outer s H E F0 O hr => ?_), hm⟩
  have tk := takes_of (X := cxOf (L2.CX P w) P w K mg base [] "_law_rooms" (defScope s__law_rooms) f cdv A outer s H E) rfl rfl rfl rfl
  have hp := passes_of (X := cxOf (L2.CX P w) P w K mg base [] "_law_rooms" (defScope s__law_rooms) f cdv A outer s H E) rfl
  have nd := sc__law_rooms.nd
  exact (sss_one (ss_ret (se_lst (sa_cons se_str (sa_cons se_str (sa_cons se_str (sa_cons se_str (sa_cons se_str (sa_cons se_str (sa_cons se_str (sa_cons se_str (sa_cons se_str sa_nil))))))))))))
theorem fd__law_rooms (T : Tx P w K mg base) : Fd P w K mg base "_law_rooms" [] .cl 0 1 f__law_rooms := fd_of (fx__law_rooms T) (rfl) (fun _ _ _ _ _ _ us hl => match us, hl with | [], _ => rfl)
theorem sc__law_made_one : FnScope ["text", "found", "sign"] ["text"] (defScope s__law_made_one) := ⟨rfl, rfl, rfl, by decide +kernel, rfl, by decide +kernel, by decide +kernel⟩
theorem fx__law_made_one (T : Tx P w K mg base) : Fw P w K mg base "_law_made_one" s__law_made_one ["text"] [] .cl 1 1 f__law_made_one := by
  obtain ⟨f, fd, F, hm⟩ := T.d__law_made_one
  refine ⟨f, fd, F, fn_ok F sc__law_made_one (by decide) (fun cdv A outer s H E F0 O hr => ?_), hm⟩
  have tk := takes_of (X := cxOf (L2.CX P w) P w K mg base ["text", "found", "sign"] "_law_made_one" (defScope s__law_made_one) f cdv A outer s H E) rfl rfl rfl rfl
  have hp := passes_of (X := cxOf (L2.CX P w) P w K mg base ["text", "found", "sign"] "_law_made_one" (defScope s__law_made_one) f cdv A outer s H E) rfl
  have nd := sc__law_made_one.nd
  exact (sss_cons (ss_asg se_str (sg_name 1 nd)) (sss_cons (ss_for hp rfl (si_seq (se_var 0)) (sg_name 2 nd) (sss_one (ss_if (sb_cmp o_notIn s_notIn (se_var 2) se_str) (sss_one (ss_asg (se_op o_add s_add (se_var 1) (se_var 2)) (sg_name 1 nd))) (sss_one (ss_if (SW.sb (sw_and (sb_cmp (o_ne hr.units) s_ne (se_var 1) se_str) (sw_and1 (sb_cmp (o_ne hr.units) s_ne (se_ix ix_seq s_ix (se_var 1) (se_un un_neg s_neg se_int)) se_str)))) (sss_one (ss_asg (se_op o_add s_add (se_var 1) se_str) (sg_name 1 nd))) sss_nil))))) (sss_one (ss_ret (se_if (sb_cmp (o_eq hr.units) s_eq (se_cut (se_var 1) (sp_at (se_un un_neg s_neg se_int)) sp_no) se_str) (se_cut (se_var 1) sp_no (sp_at (se_un un_neg s_neg se_int))) (se_var 1))))))
theorem fd__law_made_one (T : Tx P w K mg base) : Fd P w K mg base "_law_made_one" [] .cl 1 1 f__law_made_one := fd_of (fx__law_made_one T) (rfl) (fun _ _ _ _ _ _ us hl => match us, hl with | [_], _ => rfl)
theorem sc__law_great : FnScope ["text", "small", "great"] ["text"] (defScope s__law_great) := ⟨rfl, rfl, rfl, by decide +kernel, rfl, by decide +kernel, by decide +kernel⟩
theorem fx__law_great (T : Tx P w K mg base) : Fw P w K mg base "_law_great" s__law_great ["text"] [] .cl 1 1 f__law_great := by
  obtain ⟨f, fd, F, hm⟩ := T.d__law_great
  refine ⟨f, fd, F, fn_ok F sc__law_great (by decide) (fun cdv A outer s H E F0 O hr => ?_), hm⟩
  have tk := takes_of (X := cxOf (L2.CX P w) P w K mg base ["text", "small", "great"] "_law_great" (defScope s__law_great) f cdv A outer s H E) rfl rfl rfl rfl
  have hp := passes_of (X := cxOf (L2.CX P w) P w K mg base ["text", "small", "great"] "_law_great" (defScope s__law_great) f cdv A outer s H E) rfl
  have nd := sc__law_great.nd
  exact (sss_cons (ss_asg (se_tup (sa_cons se_str (sa_cons se_str sa_nil))) (sg_tup rfl (sgs_cons 1 nd (sgs_cons 2 nd sgs_nil)))) (sss_one (ss_ret (se_if (SW.sb (sw_and (sb_cmp (o_ne hr.units) s_ne (se_var 0) se_str) (sw_and1 (sb_cmp o_in s_in (se_ix ix_seq s_ix (se_var 0) se_int) (se_var 1))))) (se_op o_add s_add (se_ix ix_seq s_ix (se_var 2) (se_kd (isKd .str (eVar 1)) (se_bm .str PySem.F.plainAttrs_str PySem.F.slot_str_index PySem.F.type_str_index mt_sindex s_sindex (se_var 1) (sa_cons (se_ix ix_seq s_ix (se_var 0) se_int) sa_nil)) (se_bm .list PySem.F.plainAttrs_list PySem.F.slot_list_index PySem.F.type_list_index mt_index s_index (se_var 1) (sa_cons (se_ix ix_seq s_ix (se_var 0) se_int) sa_nil)))) (se_cut (se_var 0) (sp_at se_int) sp_no)) (se_var 0)))))
theorem fd__law_great (T : Tx P w K mg base) : Fd P w K mg base "_law_great" [] .cl 1 1 f__law_great := fd_of (fx__law_great T) (rfl) (fun _ _ _ _ _ _ us hl => match us, hl with | [_], _ => rfl)
theorem sc_title_read : FnScope ["text", "one", "name", "rest", "title", "sign"] ["text"] (defScope s_title_read) := ⟨rfl, rfl, rfl, by decide +kernel, rfl, by decide +kernel, by decide +kernel⟩
theorem fx_title_read (T : Tx P w K mg base) : Fw P w K mg base "title_read" s_title_read ["text"] [] .cl 1 2 f_title_read := by
  obtain ⟨f, fd, F, hm⟩ := T.d_title_read
  refine ⟨f, fd, F, fn_ok F sc_title_read (by decide) (fun cdv A outer s H E F0 O hr => ?_), hm⟩
  have tk := takes_of (X := cxOf (L2.CX P w) P w K mg base ["text", "one", "name", "rest", "title", "sign"] "title_read" (defScope s_title_read) f cdv A outer s H E) rfl rfl rfl rfl
  have hp := passes_of (X := cxOf (L2.CX P w) P w K mg base ["text", "one", "name", "rest", "title", "sign"] "title_read" (defScope s_title_read) f cdv A outer s H E) rfl
  have nd := sc_title_read.nd
  exact (sss_cons (ss_if (SW.sb (sw_or (sb_cmp o_in s_in se_str (se_var 0)) (sw_or1 (sb_tr (se_callB (cr_any rfl) s_any T.n_any PyProof.Rows.Boot.«any» (sa_cons (se_lc [("sign", 5)] rfl nd (si_seq (se_globE T.g_BARRED)) (blkB_ok (by rfl)) (fun _ _ _ _ _ => (sg_name 5 nd)) (fun _ _ _ _ _ => sts_nil) (fun _ _ _ _ _ => (se_cmp o_in s_in (se_var 5) (se_var 0)))) sa_nil)))))) (sss_one (ss_ret se_non)) sss_nil) (sss_cons (ss_asg (se_call (fd_made_one T) (hr.mono (by decide)) tk (sa_cons (se_var 0) sa_nil) (aCons_len aNil_len)) (sg_name 1 nd)) (sss_cons (ss_asg (se_if (sb_cmp o_in s_in se_str (se_var 1)) (se_call (fd_room_called T) (hr.mono (by decide)) tk (sa_cons (se_bm .str PySem.F.plainAttrs_str PySem.F.slot_str_strip PySem.F.type_str_strip mt_stripChars s_stripC (se_cut (se_var 1) sp_no (sp_at (se_kd (isKd .str (eVar 1)) (se_bm .str PySem.F.plainAttrs_str PySem.F.slot_str_index PySem.F.type_str_index mt_sindex s_sindex (se_var 1) (sa_cons se_str sa_nil)) (se_bm .list PySem.F.plainAttrs_list PySem.F.slot_list_index PySem.F.type_list_index mt_index s_index (se_var 1) (sa_cons se_str sa_nil))))) (sa_cons se_str sa_nil)) sa_nil) (aCons_len aNil_len)) se_non) (sg_name 2 nd)) (sss_cons (ss_asg (se_if (sb_cmp op_isN s_isN (se_var 2) se_non) (se_var 1) (se_bm .str PySem.F.plainAttrs_str PySem.F.slot_str_strip PySem.F.type_str_strip mt_stripChars s_stripC (se_cut (se_var 1) (sp_at (se_op o_add s_add (se_kd (isKd .str (eVar 1)) (se_bm .str PySem.F.plainAttrs_str PySem.F.slot_str_index PySem.F.type_str_index mt_sindex s_sindex (se_var 1) (sa_cons se_str sa_nil)) (se_bm .list PySem.F.plainAttrs_list PySem.F.slot_list_index PySem.F.type_list_index mt_index s_index (se_var 1) (sa_cons se_str sa_nil))) se_int)) sp_no) (sa_cons se_str sa_nil))) (sg_name 3 nd)) (sss_cons (ss_asg (se_op o_add s_add (se_bm0 .str PySem.F.plainAttrs_str PySem.F.slot_str_upper PySem.F.type_str_upper mt_upper s_upper (se_cut (se_var 3) sp_no (sp_at se_int))) (se_cut (se_var 3) (sp_at se_int) sp_no)) (sg_name 3 nd)) (sss_cons (ss_asg (se_if (sb_cmp op_isN s_isN (se_var 2) se_non) (se_var 3) (se_op o_add s_add (se_op o_add s_add (se_var 2) se_str) (se_var 3))) (sg_name 4 nd)) (sss_one (ss_ret (se_if (SW.sb (sw_or (sb_cmp (o_eq hr.units) s_eq (se_var 3) se_str) (sw_or (sb_cmp (o_eq hr.units) s_eq (se_ix ix_seq s_ix (se_var 3) se_int) se_str) (sw_or1 (sb_cmp o_gt s_cmp (se_callB call_lenX s_len T.n_len PyProof.Rows.Boot.«len» (sa_cons (se_var 4) sa_nil)) (se_globE T.g_LONGEST)))))) se_non (se_var 4))))))))))
theorem fd_title_read (T : Tx P w K mg base) : Fd P w K mg base "title_read" [] .cl 1 2 f_title_read := fd_of (fx_title_read T) (rfl) (fun _ _ _ _ _ _ us hl => match us, hl with | [_], _ => rfl)
theorem sc_rest_there : FnScope ["title", "name"] ["title"] (defScope s_rest_there) := ⟨rfl, rfl, rfl, by decide +kernel, rfl, by decide +kernel, by decide +kernel⟩
theorem fx_rest_there (T : Tx P w K mg base) : Fw P w K mg base "rest_there" s_rest_there ["title"] [] .cl 1 2 f_rest_there := by
  obtain ⟨f, fd, F, hm⟩ := T.d_rest_there
  refine ⟨f, fd, F, fn_ok F sc_rest_there (by decide) (fun cdv A outer s H E F0 O hr => ?_), hm⟩
  have tk := takes_of (X := cxOf (L2.CX P w) P w K mg base ["title", "name"] "rest_there" (defScope s_rest_there) f cdv A outer s H E) rfl rfl rfl rfl
  have hp := passes_of (X := cxOf (L2.CX P w) P w K mg base ["title", "name"] "rest_there" (defScope s_rest_there) f cdv A outer s H E) rfl
  have nd := sc_rest_there.nd
  exact (sss_cons (ss_asg (se_call (fd_room_there T) (hr.mono (by decide)) tk (sa_cons (se_var 0) sa_nil) (aCons_len aNil_len)) (sg_name 1 nd)) (sss_one (ss_ret (se_if (sb_cmp (o_eq hr.units) s_eq (se_var 1) se_str) (se_var 0) (se_cut (se_var 0) (sp_at (se_op o_add s_add (se_callB call_lenX s_len T.n_len PyProof.Rows.Boot.«len» (sa_cons (se_var 1) sa_nil)) se_int)) sp_no)))))
theorem fd_rest_there (T : Tx P w K mg base) : Fd P w K mg base "rest_there" [] .cl 1 2 f_rest_there := fd_of (fx_rest_there T) (rfl) (fun _ _ _ _ _ _ us hl => match us, hl with | [_], _ => rfl)
theorem sc__law_draw : FnScope ["purse", "many", "drawn", "found", "piece"] ["purse", "many"] (defScope s__law_draw) := ⟨rfl, rfl, rfl, by decide +kernel, rfl, by decide +kernel, by decide +kernel⟩
theorem fx__law_draw (T : Tx P w K mg base) : Fw P w K mg base "_law_draw" s__law_draw ["purse", "many"] [0] .cl 2 2 f__law_draw := by
  obtain ⟨f, fd, F, hm⟩ := T.d__law_draw
  refine ⟨f, fd, F, fn_ok F sc__law_draw (by decide) (fun cdv A outer s H E F0 O hr => ?_), hm⟩
  have tk := takes_of (X := cxOf (L2.CX P w) P w K mg base ["purse", "many", "drawn", "found", "piece"] "_law_draw" (defScope s__law_draw) f cdv A outer s H E) rfl rfl rfl rfl
  have hp := passes_of (X := cxOf (L2.CX P w) P w K mg base ["purse", "many", "drawn", "found", "piece"] "_law_draw" (defScope s__law_draw) f cdv A outer s H E) rfl
  have nd := sc__law_draw.nd
  exact (sss_cons (ss_if (sb_cmp o_gt s_cmp (se_ix ix_seq s_ix (se_own 0) se_int) se_int) (sss_cons (ss_asg (se_op op_mod s_mod (se_callTy call_int1 s_int T.n_int PyProof.Rows.Boot.«int» (sa_cons (se_ix ix_seq s_ix (se_own 0) se_int) sa_nil)) (se_var 1)) (sg_name 2 nd)) (sss_cons (ss_setI 0 (se_op op_fdivW s_fdiv (se_ix ix_seq s_ix (se_own 0) se_int) (se_var 1)) se_int) (sss_one (ss_ret (se_var 2))))) sss_nil) (sss_cons (ss_asg se_int (sg_name 3 nd)) (sss_cons (ss_for hp rfl (si_range1 (se_op o_add s_add se_int (se_op op_fdivW s_fdiv (se_bits (se_var 1)) se_int)) T.n_range) (sg_name 4 nd) (sss_cons (ss_setI 0 (se_op o_add s_add (se_ix ix_seq s_ix (se_own 0) se_int) se_int) se_int) (sss_one (ss_asg (se_op o_add s_add (se_op o_smul s_smul (se_var 3) se_int) (se_call (fd__law_mixed T) (hr.mono (by decide)) tk (sa_cons (se_ix ix_seq s_ix (se_own 0) se_int) (sa_cons (se_ix ix_seq s_ix (se_own 0) se_int) (sa_cons (se_ix ix_seq s_ix (se_own 0) se_int) sa_nil))) (aCons_len (aCons_len (aCons_len aNil_len))))) (sg_name 3 nd))))) (sss_one (ss_ret (se_op op_mod s_mod (se_callTy call_int1 s_int T.n_int PyProof.Rows.Boot.«int» (sa_cons (se_var 3) sa_nil)) (se_var 1)))))))
theorem fd__law_draw (T : Tx P w K mg base) : Fd P w K mg base "_law_draw" [0] .cl 2 2 f__law_draw := fd_of (fx__law_draw T) (rfl) (fun _ _ _ _ _ _ us hl => match us, hl with | [_, _], _ => rfl)
theorem sc__law_parted : FnScope ["title", "room"] ["title"] (defScope s__law_parted) := ⟨rfl, rfl, rfl, by decide +kernel, rfl, by decide +kernel, by decide +kernel⟩
theorem fx__law_parted (T : Tx P w K mg base) : Fw P w K mg base "_law_parted" s__law_parted ["title"] [] .cl 1 2 f__law_parted := by
  obtain ⟨f, fd, F, hm⟩ := T.d__law_parted
  refine ⟨f, fd, F, fn_ok F sc__law_parted (by decide) (fun cdv A outer s H E F0 O hr => ?_), hm⟩
  have tk := takes_of (X := cxOf (L2.CX P w) P w K mg base ["title", "room"] "_law_parted" (defScope s__law_parted) f cdv A outer s H E) rfl rfl rfl rfl
  have hp := passes_of (X := cxOf (L2.CX P w) P w K mg base ["title", "room"] "_law_parted" (defScope s__law_parted) f cdv A outer s H E) rfl
  have nd := sc__law_parted.nd
  exact (sss_cons (ss_for hp rfl (si_seq (se_call0 (fd__law_rooms T) (hr.mono (by decide)) tk)) (sg_name 1 nd) (sss_one (ss_if (sb_cmp (o_eq hr.units) s_eq (se_cut (se_var 0) sp_no (sp_at (se_op o_add s_add (se_callB call_lenX s_len T.n_len PyProof.Rows.Boot.«len» (sa_cons (se_var 1) sa_nil)) se_int))) (se_op o_add s_add (se_var 1) se_str)) (sss_one (ss_ret (se_tup (sa_cons (se_var 1) (sa_cons (se_cut (se_var 0) (sp_at (se_op o_add s_add (se_callB call_lenX s_len T.n_len PyProof.Rows.Boot.«len» (sa_cons (se_var 1) sa_nil)) se_int)) sp_no) sa_nil))))) sss_nil))) (sss_one (ss_ret (se_tup (sa_cons se_str (sa_cons (se_var 0) sa_nil))))))
theorem fd__law_parted (T : Tx P w K mg base) : Fd P w K mg base "_law_parted" [] .cl 1 2 f__law_parted := fd_of (fx__law_parted T) (rfl) (fun _ _ _ _ _ _ us hl => match us, hl with | [_], _ => rfl)
theorem sc__law_title : FnScope ["text", "one", "room", "rest", "name", "behind", "title", "sign"] ["text"] (defScope s__law_title) := ⟨rfl, rfl, rfl, by decide +kernel, rfl, by decide +kernel, by decide +kernel⟩
theorem fx__law_title (T : Tx P w K mg base) : Fw P w K mg base "_law_title" s__law_title ["text"] [] .cl 1 2 f__law_title := by
  obtain ⟨f, fd, F, hm⟩ := T.d__law_title
  refine ⟨f, fd, F, fn_ok F sc__law_title (by decide) (fun cdv A outer s H E F0 O hr => ?_), hm⟩
  have tk := takes_of (X := cxOf (L2.CX P w) P w K mg base ["text", "one", "room", "rest", "name", "behind", "title", "sign"] "_law_title" (defScope s__law_title) f cdv A outer s H E) rfl rfl rfl rfl
  have hp := passes_of (X := cxOf (L2.CX P w) P w K mg base ["text", "one", "room", "rest", "name", "behind", "title", "sign"] "_law_title" (defScope s__law_title) f cdv A outer s H E) rfl
  have nd := sc__law_title.nd
  exact (sss_cons (ss_asg (se_call (fd__law_made_one T) (hr.mono (by decide)) tk (sa_cons (se_var 0) sa_nil) (aCons_len aNil_len)) (sg_name 1 nd)) (sss_cons (ss_if (sb_cmp (o_ne hr.units) s_ne (se_lc [("sign", 7)] rfl nd (si_seq (se_var 0)) (blkB_ok (by rfl)) (fun _ _ _ _ _ => (sg_name 7 nd)) (fun _ _ _ _ _ => (sts_one (sb_cmp o_in s_in (se_var 7) se_str))) (fun _ _ _ _ _ => (se_var 7))) (se_lst sa_nil)) (sss_one (ss_ret se_non)) sss_nil) (sss_cons (ss_par 2 3 rfl nd (sa_cons se_str (sa_cons (se_var 1) sa_nil))) (sss_cons (ss_for hp rfl (si_seq (se_call0 (fd__law_rooms T) (hr.mono (by decide)) tk)) (sg_name 4 nd) (sss_cons (ss_asg (se_cut (se_var 1) (sp_at (se_callB call_lenX s_len T.n_len PyProof.Rows.Boot.«len» (sa_cons (se_var 4) sa_nil))) sp_no) (sg_name 5 nd)) (sss_one (ss_if (SW.sb (sw_and (sb_cmp (o_eq hr.units) s_eq (se_bm0 .str PySem.F.plainAttrs_str PySem.F.slot_str_lower PySem.F.type_str_lower mt_lower s_lower (se_cut (se_var 1) sp_no (sp_at (se_callB call_lenX s_len T.n_len PyProof.Rows.Boot.«len» (sa_cons (se_var 4) sa_nil))))) (se_bm0 .str PySem.F.plainAttrs_str PySem.F.slot_str_lower PySem.F.type_str_lower mt_lower s_lower (se_var 4))) (sw_and1 (SW.sb (sw_or (sb_cmp (o_eq hr.units) s_eq (se_cut (se_var 5) sp_no (sp_at se_int)) se_str) (sw_or1 (sb_cmp (o_eq hr.units) s_eq (se_cut (se_var 5) sp_no (sp_at se_int)) se_str))))))) (sss_one (ss_par 2 3 rfl nd (sa_cons (se_var 4) (sa_cons (se_call (fd__law_made_one T) (hr.mono (by decide)) tk (sa_cons (se_cut (se_var 5) (sp_at (se_op o_add s_add (se_kd (isKd .str (eVar 5)) (se_bm .str PySem.F.plainAttrs_str PySem.F.slot_str_index PySem.F.type_str_index mt_sindex s_sindex (se_var 5) (sa_cons se_str sa_nil)) (se_bm .list PySem.F.plainAttrs_list PySem.F.slot_list_index PySem.F.type_list_index mt_index s_index (se_var 5) (sa_cons se_str sa_nil))) se_int)) sp_no) sa_nil) (aCons_len aNil_len)) sa_nil)))) sss_nil)))) (sss_cons (ss_asg (se_call (fd__law_great T) (hr.mono (by decide)) tk (sa_cons (se_var 3) sa_nil) (aCons_len aNil_len)) (sg_name 3 nd)) (sss_cons (ss_asg (se_if (sb_cmp (o_eq hr.units) s_eq (se_var 2) se_str) (se_var 3) (se_op o_add s_add (se_op o_add s_add (se_var 2) se_str) (se_var 3))) (sg_name 6 nd)) (sss_one (ss_ret (se_if (SW.sb (sw_and (sb_cmp (o_ne hr.units) s_ne (se_var 3) se_str) (sw_and (sb_cmp (o_ne hr.units) s_ne (se_ix ix_seq s_ix (se_var 3) se_int) se_str) (sw_and1 (sb_cmp o_lt s_cmp (se_callB call_lenX s_len T.n_len PyProof.Rows.Boot.«len» (sa_cons (se_var 6) sa_nil)) se_int))))) (se_var 6) se_non)))))))))
theorem fd__law_title (T : Tx P w K mg base) : Fd P w K mg base "_law_title" [] .cl 1 2 f__law_title := fd_of (fx__law_title T) (rfl) (fun _ _ _ _ _ _ us hl => match us, hl with | [_], _ => rfl)
theorem sc_check_text : FnScope ["value"] ["value"] (defScope s_check_text) := ⟨rfl, rfl, rfl, by decide +kernel, rfl, by decide +kernel, by decide +kernel⟩
theorem fx_check_text (T : Tx P w K mg base) : Fw P w K mg base "check_text" s_check_text ["value"] [] .cl 1 3 f_check_text := by
  obtain ⟨f, fd, F, hm⟩ := T.d_check_text
  refine ⟨f, fd, F, fn_ok F sc_check_text (by decide) (fun cdv A outer s H E F0 O hr => ?_), hm⟩
  have tk := takes_of (X := cxOf (L2.CX P w) P w K mg base ["value"] "check_text" (defScope s_check_text) f cdv A outer s H E) rfl rfl rfl rfl
  have hp := passes_of (X := cxOf (L2.CX P w) P w K mg base ["value"] "check_text" (defScope s_check_text) f cdv A outer s H E) rfl
  have nd := sc_check_text.nd
  exact (sss_one (ss_if (sb_not (sb_tr (se_call (fd_is_text T) (hr.mono (by decide)) tk (sa_cons (se_var 0) sa_nil) (aCons_len aNil_len)))) (sss_one (ss_raise T.x_InvalidText rfl (hr.mono (by decide)) tk (se_var 0))) sss_nil))
theorem fd_check_text (T : Tx P w K mg base) : Fd P w K mg base "check_text" [] .cl 1 3 f_check_text := fd_of (fx_check_text T) (rfl) (fun _ _ _ _ _ _ us hl => match us, hl with | [_], _ => rfl)
theorem sc_is_title : FnScope ["value"] ["value"] (defScope s_is_title) := ⟨rfl, rfl, rfl, by decide +kernel, rfl, by decide +kernel, by decide +kernel⟩
theorem fx_is_title (T : Tx P w K mg base) : Fw P w K mg base "is_title" s_is_title ["value"] [] .cl 1 3 f_is_title := by
  obtain ⟨f, fd, F, hm⟩ := T.d_is_title
  refine ⟨f, fd, F, fn_ok F sc_is_title (by decide) (fun cdv A outer s H E F0 O hr => ?_), hm⟩
  have tk := takes_of (X := cxOf (L2.CX P w) P w K mg base ["value"] "is_title" (defScope s_is_title) f cdv A outer s H E) rfl rfl rfl rfl
  have hp := passes_of (X := cxOf (L2.CX P w) P w K mg base ["value"] "is_title" (defScope s_is_title) f cdv A outer s H E) rfl
  have nd := sc_is_title.nd
  exact (sss_one (ss_ret (se_and (se_call (fd_is_text T) (hr.mono (by decide)) tk (sa_cons (se_var 0) sa_nil) (aCons_len aNil_len)) (se_one (se_cmp (o_eq hr.units) s_eq (se_call (fd_title_read T) (hr.mono (by decide)) tk (sa_cons (se_var 0) sa_nil) (aCons_len aNil_len)) (se_var 0))))))
theorem fd_is_title (T : Tx P w K mg base) : Fd P w K mg base "is_title" [] .cl 1 3 f_is_title := fd_of (fx_is_title T) (rfl) (fun _ _ _ _ _ _ us hl => match us, hl with | [_], _ => rfl)
theorem sc_above_there : FnScope ["title", "first", "places", "made", "place", "other"] ["title"] (defScope s_above_there) := ⟨rfl, rfl, rfl, by decide +kernel, rfl, by decide +kernel, by decide +kernel⟩
theorem fx_above_there (T : Tx P w K mg base) : Fw P w K mg base "above_there" s_above_there ["title"] [] .fr 1 3 f_above_there := by
  obtain ⟨f, fd, F, hm⟩ := T.d_above_there
  refine ⟨f, fd, F, fn_ok F sc_above_there (by decide) (fun cdv A outer s H E F0 O hr => ?_), hm⟩
  have tk := takes_of (X := cxOf (L2.CX P w) P w K mg base ["title", "first", "places", "made", "place", "other"] "above_there" (defScope s_above_there) f cdv A outer s H E) rfl rfl rfl rfl
  have hp := passes_of (X := cxOf (L2.CX P w) P w K mg base ["title", "first", "places", "made", "place", "other"] "above_there" (defScope s_above_there) f cdv A outer s H E) rfl
  have nd := sc_above_there.nd
  exact (sss_cons (ss_asg (se_op op_sub s_sub (se_callB call_lenX s_len T.n_len PyProof.Rows.Boot.«len» (sa_cons (se_var 0) sa_nil)) (se_callB call_lenX s_len T.n_len PyProof.Rows.Boot.«len» (sa_cons (se_call (fd_rest_there T) (hr.mono (by decide)) tk (sa_cons (se_var 0) sa_nil) (aCons_len aNil_len)) sa_nil))) (sg_name 1 nd)) (sss_cons (ss_asgLc [("place", 4)] rfl nd (si_range2 (se_var 1) (se_callB call_lenX s_len T.n_len PyProof.Rows.Boot.«len» (sa_cons (se_var 0) sa_nil)) T.n_range) (blkB_ok (by rfl)) (fun _ _ _ _ _ => (sg_name 4 nd)) (fun _ _ _ _ _ => (sts_one (sb_cmp (o_eq hr.units) s_eq (se_ix ix_seq s_ix (se_var 0) (se_var 4)) se_str))) (fun _ _ _ _ _ => (se_var 4)) (i := 2)) (sss_cons (ss_asgLc [("place", 4)] rfl nd (si_seq (se_rev (se_var 2))) (blkB_ok (by rfl)) (fun _ _ _ _ _ => (sg_name 4 nd)) (fun _ _ _ _ _ => sts_nil) (fun _ _ _ _ _ => (se_call (fd_title_read T) (hr.mono (by decide)) takes0 (sa_cons (se_cut (se_var 0) sp_no (sp_at (se_var 4))) sa_nil) (aCons_len aNil_len))) (i := 3)) (sss_one (ss_retF (sf_lc [("other", 5)] rfl nd (si_seq (se_var 3)) (blkB_ok (by rfl)) (fun _ _ _ _ _ => (sg_name 5 nd)) (fun _ _ _ _ _ => (sts_one (sb_cmp op_notN s_notN (se_var 5) se_non))) (fun _ _ _ _ _ => (se_var 5))))))))
theorem fd_above_there (T : Tx P w K mg base) : Fd P w K mg base "above_there" [] .fr 1 3 f_above_there := fd_of (fx_above_there T) (rfl) (fun _ _ _ _ _ _ us hl => match us, hl with | [_], _ => rfl)
theorem sc__law_one_of : FnScope ["purse", "some"] ["purse", "some"] (defScope s__law_one_of) := ⟨rfl, rfl, rfl, by decide +kernel, rfl, by decide +kernel, by decide +kernel⟩
theorem fx__law_one_of (T : Tx P w K mg base) : Fw P w K mg base "_law_one_of" s__law_one_of ["purse", "some"] [0] .cl 2 3 f__law_one_of := by
  obtain ⟨f, fd, F, hm⟩ := T.d__law_one_of
  refine ⟨f, fd, F, fn_ok F sc__law_one_of (by decide) (fun cdv A outer s H E F0 O hr => ?_), hm⟩
  have tk := takes_of (X := cxOf (L2.CX P w) P w K mg base ["purse", "some"] "_law_one_of" (defScope s__law_one_of) f cdv A outer s H E) rfl rfl rfl rfl
  have hp := passes_of (X := cxOf (L2.CX P w) P w K mg base ["purse", "some"] "_law_one_of" (defScope s__law_one_of) f cdv A outer s H E) rfl
  have nd := sc__law_one_of.nd
  exact (sss_one (ss_ret (se_ix ix_seq s_ix (se_var 1) (se_callO 0 (fd__law_draw T) (hr.mono (by decide)) tk (sa_cons (se_callB call_lenX s_len T.n_len PyProof.Rows.Boot.«len» (sa_cons (se_var 1) sa_nil)) sa_nil) (aCons_len aNil_len)))))
theorem fd__law_one_of (T : Tx P w K mg base) : Fd P w K mg base "_law_one_of" [0] .cl 2 3 f__law_one_of := fd_of (fx__law_one_of T) (rfl) (fun _ _ _ _ _ _ us hl => match us, hl with | [_, _], _ => rfl)
theorem sc__law_above : FnScope ["title", "room", "rest", "first", "found", "place", "made"] ["title"] (defScope s__law_above) := ⟨rfl, rfl, rfl, by decide +kernel, rfl, by decide +kernel, by decide +kernel⟩
theorem fx__law_above (T : Tx P w K mg base) : Fw P w K mg base "_law_above" s__law_above ["title"] [] .cl 1 3 f__law_above := by
  obtain ⟨f, fd, F, hm⟩ := T.d__law_above
  refine ⟨f, fd, F, fn_ok F sc__law_above (by decide) (fun cdv A outer s H E F0 O hr => ?_), hm⟩
  have tk := takes_of (X := cxOf (L2.CX P w) P w K mg base ["title", "room", "rest", "first", "found", "place", "made"] "_law_above" (defScope s__law_above) f cdv A outer s H E) rfl rfl rfl rfl
  have hp := passes_of (X := cxOf (L2.CX P w) P w K mg base ["title", "room", "rest", "first", "found", "place", "made"] "_law_above" (defScope s__law_above) f cdv A outer s H E) rfl
  have nd := sc__law_above.nd
  exact (sss_cons (ss_asg (se_call (fd__law_parted T) (hr.mono (by decide)) tk (sa_cons (se_var 0) sa_nil) (aCons_len aNil_len)) (sg_tup rfl (sgs_cons 1 nd (sgs_cons 2 nd sgs_nil)))) (sss_cons (ss_par 3 4 rfl nd (sa_cons (se_op op_sub s_sub (se_callB call_lenX s_len T.n_len PyProof.Rows.Boot.«len» (sa_cons (se_var 0) sa_nil)) (se_callB call_lenX s_len T.n_len PyProof.Rows.Boot.«len» (sa_cons (se_var 2) sa_nil))) (sa_cons (se_lst sa_nil) sa_nil))) (sss_cons (ss_for hp rfl (si_range2 (se_var 3) (se_callB call_lenX s_len T.n_len PyProof.Rows.Boot.«len» (sa_cons (se_var 0) sa_nil)) T.n_range) (sg_name 5 nd) (sss_cons (ss_asg (se_if (sb_cmp (o_eq hr.units) s_eq (se_ix ix_seq s_ix (se_var 0) (se_var 5)) se_str) (se_call (fd__law_title T) (hr.mono (by decide)) tk (sa_cons (se_cut (se_var 0) sp_no (sp_at (se_var 5))) sa_nil) (aCons_len aNil_len)) se_non) (sg_name 6 nd)) (sss_one (ss_asg (se_if (sb_cmp op_notN s_notN (se_var 6) se_non) (se_op o_add s_add (se_lst (sa_cons (se_var 6) sa_nil)) (se_var 4)) (se_var 4)) (sg_name 4 nd))))) (sss_one (ss_ret (se_var 4))))))
theorem fd__law_above (T : Tx P w K mg base) : Fd P w K mg base "_law_above" [] .cl 1 3 f__law_above := fd_of (fx__law_above T) (rfl) (fun _ _ _ _ _ _ us hl => match us, hl with | [_], _ => rfl)
theorem sc_check_title : FnScope ["value"] ["value"] (defScope s_check_title) := ⟨rfl, rfl, rfl, by decide +kernel, rfl, by decide +kernel, by decide +kernel⟩
theorem fx_check_title (T : Tx P w K mg base) : Fw P w K mg base "check_title" s_check_title ["value"] [] .cl 1 4 f_check_title := by
  obtain ⟨f, fd, F, hm⟩ := T.d_check_title
  refine ⟨f, fd, F, fn_ok F sc_check_title (by decide) (fun cdv A outer s H E F0 O hr => ?_), hm⟩
  have tk := takes_of (X := cxOf (L2.CX P w) P w K mg base ["value"] "check_title" (defScope s_check_title) f cdv A outer s H E) rfl rfl rfl rfl
  have hp := passes_of (X := cxOf (L2.CX P w) P w K mg base ["value"] "check_title" (defScope s_check_title) f cdv A outer s H E) rfl
  have nd := sc_check_title.nd
  exact (sss_one (ss_if (sb_not (sb_tr (se_call (fd_is_title T) (hr.mono (by decide)) tk (sa_cons (se_var 0) sa_nil) (aCons_len aNil_len)))) (sss_one (ss_raise T.x_InvalidTitle rfl (hr.mono (by decide)) tk (se_var 0))) sss_nil))
theorem fd_check_title (T : Tx P w K mg base) : Fd P w K mg base "check_title" [] .cl 1 4 f_check_title := fd_of (fx_check_title T) (rfl) (fun _ _ _ _ _ _ us hl => match us, hl with | [_], _ => rfl)
theorem sc__law_barred : FnScope ["purse", "room", "rest", "spin", "title"] ["purse"] (defScope s__law_barred) := ⟨rfl, rfl, rfl, by decide +kernel, rfl, by decide +kernel, by decide +kernel⟩
theorem fx__law_barred (T : Tx P w K mg base) : Fw P w K mg base "_law_barred" s__law_barred ["purse"] [0] .cl 1 4 f__law_barred := by
  obtain ⟨f, fd, F, hm⟩ := T.d__law_barred
  refine ⟨f, fd, F, fn_ok F sc__law_barred (by decide) (fun cdv A outer s H E F0 O hr => ?_), hm⟩
  have tk := takes_of (X := cxOf (L2.CX P w) P w K mg base ["purse", "room", "rest", "spin", "title"] "_law_barred" (defScope s__law_barred) f cdv A outer s H E) rfl rfl rfl rfl
  have hp := passes_of (X := cxOf (L2.CX P w) P w K mg base ["purse", "room", "rest", "spin", "title"] "_law_barred" (defScope s__law_barred) f cdv A outer s H E) rfl
  have nd := sc__law_barred.nd
  exact (sss_cons (ss_asg (se_callO 0 (fd__law_one_of T) (hr.mono (by decide)) tk (sa_cons (se_lst (sa_cons se_str (sa_cons se_str (sa_cons se_str (sa_cons se_str sa_nil))))) sa_nil) (aCons_len aNil_len)) (sg_name 1 nd)) (sss_cons (ss_asg (se_callO 0 (fd__law_one_of T) (hr.mono (by decide)) tk (sa_cons (se_lst (sa_cons se_str (sa_cons se_str (sa_cons se_str (sa_cons se_str sa_nil))))) sa_nil) (aCons_len aNil_len)) (sg_name 2 nd)) (sss_cons (ss_for hp rfl (si_range1 (se_callO 0 (fd__law_draw T) (hr.mono (by decide)) tk (sa_cons se_int sa_nil) (aCons_len aNil_len)) T.n_range) (sg_name 3 nd) (sss_one (ss_asg (se_op o_add s_add (se_op o_add s_add (se_var 2) se_str) (se_callO 0 (fd__law_one_of T) (hr.mono (by decide)) tk (sa_cons (se_lst (sa_cons se_str (sa_cons se_str (sa_cons se_str (sa_cons se_str (sa_cons se_str (sa_cons se_str (sa_cons se_str sa_nil)))))))) sa_nil) (aCons_len aNil_len))) (sg_name 2 nd)))) (sss_cons (ss_asg (se_call (fd__law_title T) (hr.mono (by decide)) tk (sa_cons (se_op o_add s_add (se_var 1) (se_var 2)) sa_nil) (aCons_len aNil_len)) (sg_name 4 nd)) (sss_one (ss_ret (se_if (sb_cmp op_notN s_notN (se_var 4) se_non) (se_var 4) se_str)))))))
theorem fd__law_barred (T : Tx P w K mg base) : Fd P w K mg base "_law_barred" [0] .cl 1 4 f__law_barred := fd_of (fx__law_barred T) (rfl) (fun _ _ _ _ _ _ us hl => match us, hl with | [_], _ => rfl)
theorem sc__law_step : FnScope ["purse", "found"] ["purse"] (defScope s__law_step) := ⟨rfl, rfl, rfl, by decide +kernel, rfl, by decide +kernel, by decide +kernel⟩
theorem fx__law_step (T : Tx P w K mg base) : Fw P w K mg base "_law_step" s__law_step ["purse"] [0] .cl 1 4 f__law_step := by
  obtain ⟨f, fd, F, hm⟩ := T.d__law_step
  refine ⟨f, fd, F, fn_ok F sc__law_step (by decide) (fun cdv A outer s H E F0 O hr => ?_), hm⟩
  have tk := takes_of (X := cxOf (L2.CX P w) P w K mg base ["purse", "found"] "_law_step" (defScope s__law_step) f cdv A outer s H E) rfl rfl rfl rfl
  have hp := passes_of (X := cxOf (L2.CX P w) P w K mg base ["purse", "found"] "_law_step" (defScope s__law_step) f cdv A outer s H E) rfl
  have nd := sc__law_step.nd
  exact (sss_cons (ss_asg (se_op o_smul s_smul se_str (se_callO 0 (fd__law_draw T) (hr.mono (by decide)) tk (sa_cons se_int sa_nil) (aCons_len aNil_len))) (sg_name 1 nd)) (sss_one (ss_ret (se_op o_add s_add (se_var 1) (se_callO 0 (fd__law_one_of T) (hr.mono (by decide)) tk (sa_cons (se_lst (sa_cons se_str (sa_cons se_str (sa_cons se_str (sa_cons se_str (sa_cons se_str (sa_cons se_str (sa_cons se_str (sa_cons se_str (sa_cons se_str (sa_cons se_str (sa_cons se_str (sa_cons se_str sa_nil))))))))))))) sa_nil) (aCons_len aNil_len))))))
theorem fd__law_step (T : Tx P w K mg base) : Fd P w K mg base "_law_step" [0] .cl 1 4 f__law_step := fd_of (fx__law_step T) (rfl) (fun _ _ _ _ _ _ us hl => match us, hl with | [_], _ => rfl)
theorem sc_titles_above : FnScope ["title"] ["title"] (defScope s_titles_above) := ⟨rfl, rfl, rfl, by decide +kernel, rfl, by decide +kernel, by decide +kernel⟩
theorem fx_titles_above (T : Tx P w K mg base) : Fw P w K mg base "titles_above" s_titles_above ["title"] [] (.cw N0) 1 5 f_titles_above := by
  obtain ⟨f, fd, F, hm⟩ := T.d_titles_above
  refine ⟨f, fd, F, fn_ok F sc_titles_above (by decide) (fun cdv A outer s H E F0 O hr => ?_), hm⟩
  have tk := takes_of (X := cxOf (L2.CX P w) P w K mg base ["title"] "titles_above" (defScope s_titles_above) f cdv A outer s H E) rfl rfl rfl rfl
  have hp := passes_of (X := cxOf (L2.CX P w) P w K mg base ["title"] "titles_above" (defScope s_titles_above) f cdv A outer s H E) rfl
  have nd := sc_titles_above.nd
  exact (sss_cons (ss_expr (se_call (fd_check_title T) (hr.mono (by decide)) tk (sa_cons (se_var 0) sa_nil) (aCons_len aNil_len))) (sss_one (ss_retW (skn_fr (sf_call (fd_above_there T) (hr.mono (by decide)) tk (sa_cons (se_var 0) sa_nil) (aCons_len aNil_len))))))
theorem fd_titles_above (T : Tx P w K mg base) : Fd P w K mg base "titles_above" [] (.cw N0) 1 5 f_titles_above := fd_of (fx_titles_above T) (rfl) (fun _ _ _ _ _ _ us hl => match us, hl with | [_], _ => rfl)
theorem fk_titles_above_title (T : Tx P w K mg base) : FkW P w K mg base "titles_above" ["title"] [0] (.cw N0) 1 5 f_titles_above := fkW_of (fx_titles_above T) rfl fun _ _ _ _ _ _ us ws hl => match us, ws, hl with | [], _ :: _, _ => rfl
theorem sc_led_to : FnScope ["title", "text", "here", "left", "above"] ["title", "text"] (defScope s_led_to) := ⟨rfl, rfl, rfl, by decide +kernel, rfl, by decide +kernel, by decide +kernel⟩
theorem fx_led_to (T : Tx P w K mg base) : Fw P w K mg base "led_to" s_led_to ["title", "text"] [] .cl 2 5 f_led_to := by
  obtain ⟨f, fd, F, hm⟩ := T.d_led_to
  refine ⟨f, fd, F, fn_ok F sc_led_to (by decide) (fun cdv A outer s H E F0 O hr => ?_), hm⟩
  have tk := takes_of (X := cxOf (L2.CX P w) P w K mg base ["title", "text", "here", "left", "above"] "led_to" (defScope s_led_to) f cdv A outer s H E) rfl rfl rfl rfl
  have hp := passes_of (X := cxOf (L2.CX P w) P w K mg base ["title", "text", "here", "left", "above"] "led_to" (defScope s_led_to) f cdv A outer s H E) rfl
  have nd := sc_led_to.nd
  exact (sss_cons (ss_expr (se_call (fd_check_title T) (hr.mono (by decide)) tk (sa_cons (se_var 0) sa_nil) (aCons_len aNil_len))) (sss_cons (ss_expr (se_call (fd_check_text T) (hr.mono (by decide)) tk (sa_cons (se_var 1) sa_nil) (aCons_len aNil_len))) (sss_cons (ss_if (SW.sb (sw_and (sb_not (sb_tr (se_bm .str PySem.F.plainAttrs_str PySem.F.slot_str_startswith PySem.F.type_str_startswith mt_startswith s_starts (se_var 1) (sa_cons se_str sa_nil)))) (sw_and1 (sb_not (sb_tr (se_bm .str PySem.F.plainAttrs_str PySem.F.slot_str_startswith PySem.F.type_str_startswith mt_startswith s_starts (se_var 1) (sa_cons se_str sa_nil))))))) (sss_one (ss_ret (se_call (fd_title_read T) (hr.mono (by decide)) tk (sa_cons (se_var 1) sa_nil) (aCons_len aNil_len)))) sss_nil) (sss_cons (ss_par 2 3 rfl nd (sa_cons (se_var 0) (sa_cons (se_var 1) sa_nil))) (sss_cons (ss_while 1000000 hp (sb_tr (se_bm .str PySem.F.plainAttrs_str PySem.F.slot_str_startswith PySem.F.type_str_startswith mt_startswith s_starts (se_var 3) (sa_cons se_str sa_nil))) (sss_cons (ss_asg (se_fr (sf_call (fd_above_there T) (hr.mono (by decide)) tk (sa_cons (se_var 2) sa_nil) (aCons_len aNil_len))) (sg_name 4 nd)) (sss_cons (ss_if (sb_cmp (o_eq hr.units) s_eq (se_var 4) (se_lst sa_nil)) (sss_one (ss_ret se_non)) sss_nil) (sss_one (ss_par 2 3 rfl nd (sa_cons (se_ix ix_seq s_ix (se_var 4) se_int) (sa_cons (se_cut (se_var 3) (sp_at se_int) sp_no) sa_nil))))))) (sss_cons (ss_asg (se_if (sb_tr (se_bm .str PySem.F.plainAttrs_str PySem.F.slot_str_startswith PySem.F.type_str_startswith mt_startswith s_starts (se_var 3) (sa_cons se_str sa_nil))) (se_cut (se_var 3) (sp_at se_int) sp_no) (se_var 3)) (sg_name 3 nd)) (sss_one (ss_ret (se_if (sb_cmp (o_eq hr.units) s_eq (se_var 3) se_str) (se_var 2) (se_call (fd_title_read T) (hr.mono (by decide)) tk (sa_cons (se_op o_add s_add (se_op o_add s_add (se_var 2) se_str) (se_var 3)) sa_nil) (aCons_len aNil_len)))))))))))
theorem fd_led_to (T : Tx P w K mg base) : Fd P w K mg base "led_to" [] .cl 2 5 f_led_to := fd_of (fx_led_to T) (rfl) (fun _ _ _ _ _ _ us hl => match us, hl with | [_, _], _ => rfl)
theorem fk_led_to_text_title (T : Tx P w K mg base) : Fk P w K mg base "led_to" ["text", "title"] [1, 0] 2 5 f_led_to := fk_of (fx_led_to T) rfl fun _ _ _ _ _ _ us ws hl => match us, ws, hl with | [], _ :: _ :: _, _ => rfl
theorem sc__law_asked : FnScope ["way", "things"] ["way", "things"] (defScope s__law_asked) := ⟨rfl, rfl, rfl, by decide +kernel, rfl, by decide +kernel, by decide +kernel⟩
theorem fx__law_asked (T : Tx P w K mg base) : Fw P w K mg base "_law_asked" s__law_asked ["way", "things"] [] (.cw N0) 2 6 f__law_asked := by
  obtain ⟨f, fd, F, hm⟩ := T.d__law_asked
  refine ⟨f, fd, F, fn_ok F sc__law_asked (by decide) (fun cdv A outer s H E F0 O hr => ?_), hm⟩
  have tk := takes_of (X := cxOf (L2.CX P w) P w K mg base ["way", "things"] "_law_asked" (defScope s__law_asked) f cdv A outer s H E) rfl rfl rfl rfl
  have hp := passes_of (X := cxOf (L2.CX P w) P w K mg base ["way", "things"] "_law_asked" (defScope s__law_asked) f cdv A outer s H E) rfl
  have nd := sc__law_asked.nd
  exact (sss_cons (ss_if (sb_cmp o_lt s_cmp (se_var 0) se_int) (sss_one (ss_retW (skn_if (sb_cmp (o_eq hr.units) s_eq (se_var 0) se_int) (skn_call (k := k0) (fd_titles_above T) (hr.mono (by decide)) tk (sa_cons (se_ix ix_seq s_ix (se_var 1) se_int) sa_nil) (aCons_len aNil_len)) (skn_callK (nk := k0) (fk_titles_above_title T) (hr.mono (by decide)) tk (sk_cons (se_ix ix_seq s_ix (se_var 1) se_int) sk_nil) (perm_len (aCons_len aNil_len) (by decide) rfl))))) sss_nil) (sss_one (ss_retW (skn_of (k := k0) (se_if (sb_cmp (o_eq hr.units) s_eq (se_var 0) se_int) (se_call (fd_led_to T) (hr.mono (by decide)) tk (sa_cons (se_ix ix_seq s_ix (se_var 1) se_int) (sa_cons (se_ix ix_seq s_ix (se_var 1) se_int) sa_nil)) (aCons_len (aCons_len aNil_len))) (se_callK (fk_led_to_text_title T) (hr.mono (by decide)) tk (sk_cons (se_ix ix_seq s_ix (se_var 1) se_int) (sk_cons (se_ix ix_seq s_ix (se_var 1) se_int) sk_nil)) (perm_len (aCons_len (aCons_len aNil_len)) (by decide) rfl)))))))
theorem fd__law_asked (T : Tx P w K mg base) : Fd P w K mg base "_law_asked" [] (.cw N0) 2 6 f__law_asked := fd_of (fx__law_asked T) (rfl) (fun _ _ _ _ _ _ us hl => match us, hl with | [_, _], _ => rfl)
theorem sc__law_refusal : FnScope ["way", "things", "caught", "error", "kinds"] ["way", "things"] (defScope s__law_refusal) := ⟨rfl, rfl, rfl, by decide +kernel, rfl, by decide +kernel, by decide +kernel⟩
theorem fr__law_refusal (T : Tx P w K mg base) : Fw P w K mg base "_law_refusal" s__law_refusal ["way", "things"] [] (.cw N1) 2 7 r__law_refusal := by
  obtain ⟨f, fd, F, hm⟩ := T.d__law_refusal
  refine ⟨f, fd, F, fn_ok F sc__law_refusal (by decide) (fun cdv A outer s H E F0 O hr => ?_), hm⟩
  have tk := takes_of (X := cxOf (L2.CX P w) P w K mg base ["way", "things", "caught", "error", "kinds"] "_law_refusal" (defScope s__law_refusal) f cdv A outer s H E) rfl rfl rfl rfl
  have hp := passes_of (X := cxOf (L2.CX P w) P w K mg base ["way", "things", "caught", "error", "kinds"] "_law_refusal" (defScope s__law_refusal) f cdv A outer s H E) rfl
  have nd := sc__law_refusal.nd
  exact (sss_cons (ss_asg se_non (sg_name 2 nd)) (sss_cons (ss_tryKE 3 2 T.c_WikiError rfl rfl rfl nd tk (fun W1 pn1 xe1 tk1 hp1 => (sss_one (ss_retW (skn_lst2 se_str (skn_call (k := k0) (fd__law_asked T) (hr.mono (by decide)) tk1 (sa_cons (se_var 0) (sa_cons (se_var 1) sa_nil)) (aCons_len (aCons_len aNil_len)))))))) (sss_cons (ss_asg (se_lst (sa_cons (se_isiOE T.i_InvalidText (se_var 2) T.n_isinstance) (sa_cons (se_isiOE T.i_InvalidTitle (se_var 2) T.n_isinstance) (sa_cons (se_isiOE T.i_InvalidCount (se_var 2) T.n_isinstance) sa_nil)))) (sg_name 4 nd)) (sss_cons (ss_if (SW.sb (sw_or (sb_cmp (o_ne hr.units) s_ne (se_bm .list PySem.F.plainAttrs_list PySem.F.slot_list_count PySem.F.type_list_count mt_lcountF s_count (se_var 4) (sa_cons se_bl sa_nil)) se_int) (sw_or1 (sb_not (sb_tr (se_isi T.i_ValueError T.n_ValueError PyProof.Rows.Boot.«ValueError» (se_var 2) T.n_isinstance)))))) (sss_one (ss_retW (skn_of (k := k1) (se_lst (sa_cons se_str sa_nil))))) sss_nil) (sss_one (ss_retW (skn_of (k := k1) (se_lst (sa_cons (se_ix ix_seq s_ix (se_lst (sa_cons se_str (sa_cons se_str (sa_cons se_str sa_nil)))) (se_kd (isKd .str (eVar 4)) (se_bm .str PySem.F.plainAttrs_str PySem.F.slot_str_index PySem.F.type_str_index mt_sindex s_sindex (se_var 4) (sa_cons se_bl sa_nil)) (se_bm .list PySem.F.plainAttrs_list PySem.F.slot_list_index PySem.F.type_list_index mt_index s_index (se_var 4) (sa_cons se_bl sa_nil)))) (sa_cons (se_val (se_var 2)) sa_nil))))))))))
theorem fx__law_refusal (T : Tx P w K mg base) : Fw P w K mg base "_law_refusal" s__law_refusal ["way", "things"] [] (.cw N1) 2 7 f__law_refusal := (fr__law_refusal T).flat
theorem fd__law_refusal (T : Tx P w K mg base) : Fd P w K mg base "_law_refusal" [] (.cw N1) 2 7 f__law_refusal := fd_of (fx__law_refusal T) (rfl) (fun _ _ _ _ _ _ us hl => match us, hl with | [_, _], _ => rfl)
theorem sc__law_same : FnScope ["told", "due", "is_like", "key", "one", "other"] ["told", "due"] (defScope s__law_same) := ⟨rfl, rfl, rfl, by decide +kernel, rfl, by decide +kernel, by decide +kernel⟩
theorem fx__law_same_ (T : Tx P w K mg base) : ∀ n : Nat, Fw P w K mg base "_law_same" s__law_same ["told", "due"] [] .cl 2 (n + 1) (f__law_same_ n)
  | 0 => by
    obtain ⟨f, fd, F, hm⟩ := T.d__law_same
    exact ⟨f, fd, F, fn_ok F sc__law_same (by decide) (fun cdv A outer s H E F0 O hr => sss_bad), hm⟩
  | n + 1 => by
    have ih := fd_of (fx__law_same_ T n) (rfl) (fun _ _ _ _ _ _ us hl => match us, hl with | [_, _], _ => rfl)
    obtain ⟨f, fd, F, hm⟩ := T.d__law_same
    rw [show n + 1 + 1 = (n + 1) + 1 by omega]
    refine ⟨f, fd, F, fn_ok F sc__law_same (by decide) (fun cdv A outer s H E F0 O hr => ?_), hm⟩
    have tk := takes_of (X := cxOf (L2.CX P w) P w K mg base ["told", "due", "is_like", "key", "one", "other"] "_law_same" (defScope s__law_same) f cdv A outer s H E) rfl rfl rfl rfl
    have hp := passes_of (X := cxOf (L2.CX P w) P w K mg base ["told", "due", "is_like", "key", "one", "other"] "_law_same" (defScope s__law_same) f cdv A outer s H E) rfl
    have nd := sc__law_same.nd
    exact (sss_cons (ss_if (sb_tr (se_isi T.i_dict T.n_dict PyProof.Rows.Boot.«dict» (se_var 1) T.n_isinstance)) (sss_cons (ss_asg (se_and (se_isi T.i_dict T.n_dict PyProof.Rows.Boot.«dict» (se_var 0) T.n_isinstance) (se_and (se_cmp (o_eq hr.units) s_eq (se_callB call_lenX s_len T.n_len PyProof.Rows.Boot.«len» (sa_cons (se_var 0) sa_nil)) (se_callB call_lenX s_len T.n_len PyProof.Rows.Boot.«len» (sa_cons (se_var 1) sa_nil))) (se_one (se_callB (cr_all rfl) s_all T.n_all PyProof.Rows.Boot.«all» (sa_cons (se_lc [("key", 3)] rfl nd (si_seq (se_var 1)) (blkB_ok (by rfl)) (fun _ _ _ _ _ => (sg_name 3 nd)) (fun _ _ _ _ _ => sts_nil) (fun _ _ _ _ _ => (se_cmp o_in s_in (se_var 3) (se_var 0)))) sa_nil))))) (sg_name 2 nd)) (sss_one (ss_ret (se_and (se_var 2) (se_one (se_callB (cr_all rfl) s_all T.n_all PyProof.Rows.Boot.«all» (sa_cons (se_lc [("key", 3)] rfl nd (si_seq (se_var 1)) (blkB_ok (by rfl)) (fun _ _ _ _ _ => (sg_name 3 nd)) (fun _ _ _ _ _ => sts_nil) (fun _ _ _ _ _ => (se_call ih (hr.mono (by omega)) takes0 (sa_cons (se_ix ix_seq s_ix (se_var 0) (se_var 3)) (sa_cons (se_ix ix_seq s_ix (se_var 1) (se_var 3)) sa_nil)) (aCons_len (aCons_len aNil_len))))) sa_nil))))))) sss_nil) (sss_cons (ss_if (sb_tr (se_isiT2 T.i_list_tuple T.n_list PyProof.Rows.Boot.«list» T.n_tuple PyProof.Rows.Boot.«tuple» (se_var 1) T.n_isinstance)) (sss_cons (ss_asg (se_and (se_cmp (o_eq hr.units) s_eq (se_isi T.i_list T.n_list PyProof.Rows.Boot.«list» (se_var 0) T.n_isinstance) (se_isi T.i_list T.n_list PyProof.Rows.Boot.«list» (se_var 1) T.n_isinstance)) (se_one (se_cmp (o_eq hr.units) s_eq (se_isi T.i_tuple T.n_tuple PyProof.Rows.Boot.«tuple» (se_var 0) T.n_isinstance) (se_isi T.i_tuple T.n_tuple PyProof.Rows.Boot.«tuple» (se_var 1) T.n_isinstance)))) (sg_name 2 nd)) (sss_one (ss_ret (se_and (se_var 2) (se_and (se_cmp (o_eq hr.units) s_eq (se_callB call_lenX s_len T.n_len PyProof.Rows.Boot.«len» (sa_cons (se_var 0) sa_nil)) (se_callB call_lenX s_len T.n_len PyProof.Rows.Boot.«len» (sa_cons (se_var 1) sa_nil))) (se_one (se_callB (cr_all rfl) s_all T.n_all PyProof.Rows.Boot.«all» (sa_cons (se_lc [("one", 4), ("other", 5)] rfl nd (si_zip T.n_zip (sa_cons (se_var 0) (sa_cons (se_var 1) sa_nil))) (blkB_ok (by rfl)) (fun _ _ _ _ _ => (sg_tup rfl (sgs_cons 4 nd (sgs_cons 5 nd sgs_nil)))) (fun _ _ _ _ _ => sts_nil) (fun _ _ _ _ _ => (se_call ih (hr.mono (by omega)) takes0 (sa_cons (se_var 4) (sa_cons (se_var 5) sa_nil)) (aCons_len (aCons_len aNil_len))))) sa_nil)))))))) sss_nil) (sss_cons (ss_if (SW.sb (sw_or (sb_tr (se_isiT3 T.i_list_tuple_dict T.n_list PyProof.Rows.Boot.«list» T.n_tuple PyProof.Rows.Boot.«tuple» T.n_dict PyProof.Rows.Boot.«dict» (se_var 0) T.n_isinstance)) (sw_or1 (sb_cmp (o_ne hr.units) s_ne (se_cmp op_isN s_isN (se_var 0) se_non) (se_cmp op_isN s_isN (se_var 1) se_non))))) (sss_one (ss_ret se_bl)) sss_nil) (sss_cons (ss_asg (se_and (se_cmp (o_eq hr.units) s_eq (se_isi T.i_int T.n_int PyProof.Rows.Boot.«int» (se_var 0) T.n_isinstance) (se_isi T.i_int T.n_int PyProof.Rows.Boot.«int» (se_var 1) T.n_isinstance)) (se_one (se_cmp (o_eq hr.units) s_eq (se_isi T.i_str T.n_str PyProof.Rows.Boot.«str» (se_var 0) T.n_isinstance) (se_isi T.i_str T.n_str PyProof.Rows.Boot.«str» (se_var 1) T.n_isinstance)))) (sg_name 2 nd)) (sss_one (ss_ret (se_and (se_var 2) (se_and (se_cmp (o_eq hr.units) s_eq (se_isi T.i_bool T.n_bool PyProof.Rows.Boot.«bool» (se_var 0) T.n_isinstance) (se_isi T.i_bool T.n_bool PyProof.Rows.Boot.«bool» (se_var 1) T.n_isinstance)) (se_one (se_cmp (o_eq hr.units) s_eq (se_var 0) (se_var 1)))))))))))
theorem fx__law_same (T : Tx P w K mg base) : Fw P w K mg base "_law_same" s__law_same ["told", "due"] [] .cl 2 9 f__law_same := fx__law_same_ T 8
theorem fd__law_same (T : Tx P w K mg base) : Fd P w K mg base "_law_same" [] .cl 2 9 f__law_same := fd_of (fx__law_same T) (rfl) (fun _ _ _ _ _ _ us hl => match us, hl with | [_, _], _ => rfl)
theorem sc__law_led : FnScope ["title", "text", "some", "rest", "left"] ["title", "text"] (defScope s__law_led) := ⟨rfl, rfl, rfl, by decide +kernel, rfl, by decide +kernel, by decide +kernel⟩
theorem fx__law_led_ (T : Tx P w K mg base) : ∀ n : Nat, Fw P w K mg base "_law_led" s__law_led ["title", "text"] [] .cl 2 (n + 4) (f__law_led_ n)
  | 0 => by
    obtain ⟨f, fd, F, hm⟩ := T.d__law_led
    exact ⟨f, fd, F, fn_ok F sc__law_led (by decide) (fun cdv A outer s H E F0 O hr => sss_bad), hm⟩
  | n + 1 => by
    have ih := fd_of (fx__law_led_ T n) (rfl) (fun _ _ _ _ _ _ us hl => match us, hl with | [_, _], _ => rfl)
    obtain ⟨f, fd, F, hm⟩ := T.d__law_led
    rw [show n + 1 + 4 = (n + 4) + 1 by omega]
    refine ⟨f, fd, F, fn_ok F sc__law_led (by decide) (fun cdv A outer s H E F0 O hr => ?_), hm⟩
    have tk := takes_of (X := cxOf (L2.CX P w) P w K mg base ["title", "text", "some", "rest", "left"] "_law_led" (defScope s__law_led) f cdv A outer s H E) rfl rfl rfl rfl
    have hp := passes_of (X := cxOf (L2.CX P w) P w K mg base ["title", "text", "some", "rest", "left"] "_law_led" (defScope s__law_led) f cdv A outer s H E) rfl
    have nd := sc__law_led.nd
    exact (sss_cons (ss_if (SW.sb (sw_and (sb_cmp (o_ne hr.units) s_ne (se_cut (se_var 1) sp_no (sp_at se_int)) se_str) (sw_and1 (sb_cmp (o_ne hr.units) s_ne (se_cut (se_var 1) sp_no (sp_at se_int)) se_str)))) (sss_one (ss_ret (se_call (fd__law_title T) (hr.mono (by omega)) tk (sa_cons (se_var 1) sa_nil) (aCons_len aNil_len)))) sss_nil) (sss_cons (ss_if (sb_cmp (o_eq hr.units) s_eq (se_cut (se_var 1) sp_no (sp_at se_int)) se_str) (sss_cons (ss_asg (se_call (fd__law_above T) (hr.mono (by omega)) tk (sa_cons (se_var 0) sa_nil) (aCons_len aNil_len)) (sg_name 2 nd)) (sss_cons (ss_asg (se_if (SW.sb (sw_or (sb_cmp (o_eq hr.units) s_eq (se_cut (se_var 1) (sp_at se_int) (sp_at se_int)) se_str) (sw_or1 (sb_cmp (o_eq hr.units) s_eq (se_cut (se_var 1) (sp_at se_int) (sp_at se_int)) se_str)))) (se_cut (se_var 1) (sp_at se_int) sp_no) (se_op o_add s_add se_str (se_cut (se_var 1) (sp_at se_int) sp_no))) (sg_name 3 nd)) (sss_one (ss_ret (se_if (sb_cmp (o_eq hr.units) s_eq (se_var 2) (se_lst sa_nil)) se_non (se_call ih (hr.mono (by omega)) tk (sa_cons (se_ix ix_seq s_ix (se_var 2) se_int) (sa_cons (se_var 3) sa_nil)) (aCons_len (aCons_len aNil_len)))))))) sss_nil) (sss_cons (ss_asg (se_cut (se_var 1) (sp_at se_int) sp_no) (sg_name 4 nd)) (sss_one (ss_ret (se_if (sb_cmp (o_eq hr.units) s_eq (se_var 4) se_str) (se_var 0) (se_call (fd__law_title T) (hr.mono (by omega)) tk (sa_cons (se_op o_add s_add (se_op o_add s_add (se_var 0) se_str) (se_var 4)) sa_nil) (aCons_len aNil_len))))))))
theorem fx__law_led (T : Tx P w K mg base) : Fw P w K mg base "_law_led" s__law_led ["title", "text"] [] .cl 2 12 f__law_led := fx__law_led_ T 8
theorem fd__law_led (T : Tx P w K mg base) : Fd P w K mg base "_law_led" [] .cl 2 12 f__law_led := fd_of (fx__law_led T) (rfl) (fun _ _ _ _ _ _ us hl => match us, hl with | [_, _], _ => rfl)
theorem sc__law_right : FnScope ["title", "text", "due", "way", "told", "at", "above"] ["title", "text"] (defScope s__law_right) := ⟨rfl, rfl, rfl, by decide +kernel, rfl, by decide +kernel, by decide +kernel⟩
theorem fx__law_right (T : Tx P w K mg base) : Fw P w K mg base "_law_right" s__law_right ["title", "text"] [] .cl 2 13 f__law_right := by
  obtain ⟨f, fd, F, hm⟩ := T.d__law_right
  refine ⟨f, fd, F, fn_ok F sc__law_right (by decide) (fun cdv A outer s H E F0 O hr => ?_), hm⟩
  have tk := takes_of (X := cxOf (L2.CX P w) P w K mg base ["title", "text", "due", "way", "told", "at", "above"] "_law_right" (defScope s__law_right) f cdv A outer s H E) rfl rfl rfl rfl
  have hp := passes_of (X := cxOf (L2.CX P w) P w K mg base ["title", "text", "due", "way", "told", "at", "above"] "_law_right" (defScope s__law_right) f cdv A outer s H E) rfl
  have nd := sc__law_right.nd
  exact (sss_cons (ss_asg (se_call (fd__law_above T) (hr.mono (by decide)) tk (sa_cons (se_var 0) sa_nil) (aCons_len aNil_len)) (sg_name 2 nd)) (sss_cons (ss_for hp rfl (si_range1 se_int T.n_range) (sg_name 3 nd) (sss_spoil 4 (fd__law_refusal T) (hr.mono (by decide)) tk (sa_cons (se_var 3) (sa_cons (se_lst (sa_cons (se_var 0) sa_nil)) sa_nil)) (aCons_len (aCons_len aNil_len)) (sb_not (sb_tr (se_call (fd__law_same T) (hr.mono (by decide)) tk (sa_cons (se_var 4) (sa_cons (se_lst (sa_cons se_str (sa_cons (se_var 2) sa_nil))) sa_nil)) (aCons_len (aCons_len aNil_len))))) se_bl (hN := nd))) (sss_cons (ss_for hp rfl (si_enum T.n_enumerate (sa_cons (se_var 2) sa_nil)) (sg_tup rfl (sgs_cons 5 nd (sgs_cons 6 nd sgs_nil))) (sss_one (ss_if (SW.sb (sw_or (sb_cmp op_notBl s_notB (se_call (fd_is_title T) (hr.mono (by decide)) tk (sa_cons (se_var 6) sa_nil) (aCons_len aNil_len)) se_bl) (sw_or1 (sb_cmp (o_ne hr.units) s_ne (se_call (fd_titles_above T).cl (hr.mono (by decide)) tk (sa_cons (se_var 6) sa_nil) (aCons_len aNil_len)) (se_cut (se_var 2) (sp_at (se_op o_add s_add (se_var 5) se_int)) sp_no))))) (sss_one (ss_ret se_bl)) sss_nil))) (sss_one (ss_ret (se_call (fd__law_same T) (hr.mono (by decide)) tk (sa_cons (se_lc [("way", 3)] rfl nd (si_seq (se_tup (sa_cons se_int (sa_cons se_int sa_nil)))) (blkB_ok (by rfl)) (fun _ _ _ _ _ => (sg_name 3 nd)) (fun _ _ _ _ _ => sts_nil) (fun _ _ _ _ _ => (se_call (fd__law_refusal T).cl (hr.mono (by decide)) takes0 (sa_cons (se_var 3) (sa_cons (se_lst (sa_cons (se_var 0) (sa_cons (se_var 1) sa_nil))) sa_nil)) (aCons_len (aCons_len aNil_len))))) (sa_cons (se_op o_smul s_smul (se_lst (sa_cons (se_lst (sa_cons se_str (sa_cons (se_call (fd__law_led T) (hr.mono (by decide)) tk (sa_cons (se_var 0) (sa_cons (se_var 1) sa_nil)) (aCons_len (aCons_len aNil_len))) sa_nil))) sa_nil)) se_int) sa_nil)) (aCons_len (aCons_len aNil_len))))))))
theorem fd__law_right (T : Tx P w K mg base) : Fd P w K mg base "_law_right" [] .cl 2 13 f__law_right := fd_of (fx__law_right T) (rfl) (fun _ _ _ _ _ _ us hl => match us, hl with | [_, _], _ => rfl)
theorem sc_law : FnScope ["script", "at", "purse", "spin", "odd", "none", "way"] ["script"] (defScope s_law) := ⟨rfl, rfl, rfl, by decide +kernel, rfl, by decide +kernel, by decide +kernel⟩
theorem fr_law (T : Tx P w K mg base) : Fw P w K mg base "law" s_law ["script"] [] .cl 1 14 r_law := by
  obtain ⟨f, fd, F, hm⟩ := T.d_law
  refine ⟨f, fd, F, fn_ok F sc_law (by decide) (fun cdv A outer s H E F0 O hr => ?_), hm⟩
  have tk := takes_of (X := cxOf (L2.CX P w) P w K mg base ["script", "at", "purse", "spin", "odd", "none", "way"] "law" (defScope s_law) f cdv A outer s H E) rfl rfl rfl rfl
  have hp := passes_of (X := cxOf (L2.CX P w) P w K mg base ["script", "at", "purse", "spin", "odd", "none", "way"] "law" (defScope s_law) f cdv A outer s H E) rfl
  have nd := sc_law.nd
  exact (sss_cons (ss_for hp rfl (si_range1 se_int T.n_range) (sg_name 1 nd) (sss_cons (ss_asgO 2 nd (sf_call (fd__law_purse T) (hr.mono (by decide)) tk (sa_cons (se_var 0) (sa_cons (se_var 1) sa_nil)) (aCons_len (aCons_len aNil_len)))) (sss_cons (ss_for hp rfl (si_range1 se_int T.n_range) (sg_name 3 nd) (sss_one (ss_if (sb_not (sb_tr (se_call (fd__law_right T) (hr.mono (by decide)) tk (sa_cons (se_callO 2 (fd__law_barred T) (hr.mono (by decide)) tk sa_nil aNil_len) (sa_cons (se_callO 2 (fd__law_step T) (hr.mono (by decide)) tk sa_nil aNil_len) sa_nil)) (aCons_len (aCons_len aNil_len))))) (sss_one (ss_ret se_bl)) sss_nil))) (sss_cons (ssf_asg (sef_callO 2 (fd__law_one_of T) (hr.mono (by decide)) tk (saf_last (sef_lst (saf_cons se_non (saf_cons se_int (saf_cons se_str (saf_cons se_str (saf_cons se_str (saf_cons se_str (saf_cons (se_lst (sa_cons se_str sa_nil)) (saf_cons se_bl (saf_last (sef_new T.x_InvalidCount rfl (hr.mono (by decide)) se_str)))))))))))) (aCons_lenf (fun _ => aNil_len))) (sg_name 4 nd)) (sss_cons (ss_asg (se_callO 2 (fd__law_one_of T) (hr.mono (by decide)) tk (sa_cons (se_lst (sa_cons se_non (sa_cons se_int (sa_cons se_bl (sa_cons (se_lst (sa_cons se_str sa_nil)) (sa_cons (se_op o_add s_add se_str se_str) (sa_cons se_dnew sa_nil))))))) sa_nil) (aCons_len aNil_len)) (sg_name 5 nd)) (sss_one (ss_for hp rfl (si_range1 se_int T.n_range) (sg_name 6 nd) (sss_cons (ss_if (sb_not (sb_tr (se_call (fd__law_same T) (hr.mono (by decide)) tk (sa_cons (se_call (fd__law_refusal T).cl (hr.mono (by decide)) tk (sa_cons (se_var 6) (sa_cons (se_lst (sa_cons (se_var 4) (sa_cons (se_var 5) sa_nil))) sa_nil)) (aCons_len (aCons_len aNil_len))) (sa_cons (se_lst (sa_cons se_str (sa_cons (se_var 4) sa_nil))) sa_nil)) (aCons_len (aCons_len aNil_len))))) (sss_one (ss_ret se_bl)) sss_nil) (sss_one (ss_if (SW.sb (sw_and (sb_cmp o_gt s_cmp (se_var 6) se_int) (sw_and1 (sb_not (sb_tr (se_call (fd__law_same T) (hr.mono (by decide)) tk (sa_cons (se_call (fd__law_refusal T).cl (hr.mono (by decide)) tk (sa_cons (se_var 6) (sa_cons (se_lst (sa_cons se_str (sa_cons (se_var 5) sa_nil))) sa_nil)) (aCons_len (aCons_len aNil_len))) (sa_cons (se_lst (sa_cons se_str (sa_cons (se_var 5) sa_nil))) sa_nil)) (aCons_len (aCons_len aNil_len)))))))) (sss_one (ss_ret se_bl)) sss_nil)))))))))) (sss_one (ss_ret se_bl)))
theorem fx_law (T : Tx P w K mg base) : Fw P w K mg base "law" s_law ["script"] [] .cl 1 14 f_law := (fr_law T).flat
theorem fd_law (T : Tx P w K mg base) : Fd P w K mg base "law" [] .cl 1 14 f_law := fd_of (fx_law T) (rfl) (fun _ _ _ _ _ _ us hl => match us, hl with | [_], _ => rfl)
end
end
end DL

set_option Elab.async false
set_option linter.all false
set_option maxRecDepth 100000
set_option maxHeartbeats 400000
namespace DL
open PySem PySem.Spec PyProof.Rows L2
theorem mixed_ok {a b c : Int} (h1 : 0 ≤ a) (h2 : a < 2147483629) (h3 : 0 ≤ b) (h4 : b ≤ 2000000) (h5 : 0 ≤ c) (h6 : c ≤ 63) : ∃ n : Int, f__law_mixed [.int a, .int b, .int c] = .ok (.int n) [] := by
  exact ⟨_, fn_run (ρ0 := [.cl (.int a), .cl (.int b), .cl (.int c), .no]) rfl
    (st_seq (st_asg (ev_2 (ev_2 (ev_var rfl) ev_c (smul_int (by omega) (by decide))) (ev_2 (ev_2 ev_c (ev_var rfl) (smul_int (by decide) (by omega))) (ev_var rfl) (smul_int (by omega) (by omega))) add_int'))
    (st_seq (st_asg (ev_2 (ev_N (ev_cons (ev_2 (ev_2 (ev_var rfl) (ev_2 ev_c (ev_var rfl) (smul_int (by decide) (by omega))) add_int') (ev_var rfl) add_int') ev_nil) int_int) ev_c (mod_int (by decide))))
    (st_seq (st_asg (ev_2 (ev_N (ev_cons (ev_2 (ev_2 (ev_var rfl) (ev_var rfl) (smul_int (by omega) (by omega))) ev_c add_int') ev_nil) int_int) ev_c (mod_int (by decide))))
    (st_ret (ev_2 (ev_N (ev_cons (ev_2 (ev_var rfl) ev_c (smul_int (by omega) (by decide))) ev_nil) int_int) ev_c (mod_int (by decide)))))))⟩

def PV (n : Int) (p : D) : Prop := ∃ a b c d : Int, p = .lst [.int a, .int b, .int c, .int d] ∧ 0 ≤ a ∧ 0 ≤ b ∧ b < 2147483629 ∧ 0 ≤ c ∧ c ≤ n ∧ 0 ≤ d ∧ d ≤ 63
section
variable {ρ ρ1 : Rho} {v a b c d : D} {ma mb : M D} {i : Nat}
theorem st_set0 (h : ma ρ = .ok v ρ1) (h0 : ρ1[i]? = some (.ow (.lst [a, b, c, d]))) (hk : mb ρ1 = .ok (.int 0) ρ1) : sSetI i mb ma ρ = .nx (ρ1.set i (.ow (.lst [v, b, c, d]))) := st_setI (xs := [a, b, c, d]) (n := 0) (q := 0) h h0 hk h0 rfl
theorem st_set2 (h : ma ρ = .ok v ρ1) (h0 : ρ1[i]? = some (.ow (.lst [a, b, c, d]))) (hk : mb ρ1 = .ok (.int 2) ρ1) : sSetI i mb ma ρ = .nx (ρ1.set i (.ow (.lst [a, b, v, d]))) := st_setI (xs := [a, b, c, d]) (n := 2) (q := 2) h h0 hk h0 rfl
end
theorem draw_a {a b c d many : Int} (h0 : 0 < a) (hm : 0 < many) (hm2 : many < 2 ^ 27) : m__law_draw [.ow (.lst [.int a, .int b, .int c, .int d]), .cl (.int many), .no, .no, .no] =
    .ret (.int (a % many)) [.ow (.lst [.int (a / many), .int b, .int c, .int d]), .cl (.int many), .cl (.int (a % many)), .no, .no] :=
  st_seqR (st_ifT (tb_of' (ev_2 (ev_2 (ev_own rfl) ev_c ixp0) ev_c (gt_t h0)))
    (st_seq (st_asg (ev_2 (ev_N (ev_cons (ev_2 (ev_own rfl) ev_c ixp0) ev_nil) int_int) (ev_var rfl) (mod_int hm)))
    (st_seq (st_set0 (ev_2 (ev_2 (ev_own rfl) ev_c ixp0) (ev_var rfl) (fdiv_int hm (log2_27 hm hm2))) rfl ev_c)
    (st_ret (ev_var rfl)))))

theorem draw_b {a b c d many mx : Int} (h0 : ¬ 0 < a) (hm : 0 < many) (hm2 : many < 2 ^ 27) (hmx : f__law_mixed [.int b, .int (c + 1), .int d] = .ok (.int mx) []) :
    m__law_draw [.ow (.lst [.int a, .int b, .int c, .int d]), .cl (.int many), .no, .no, .no] =
    .ret (.int ((0 * 2147483587 + mx) % many)) [.ow (.lst [.int a, .int b, .int (c + 1), .int d]), .cl (.int many), .no, .cl (.int (0 * 2147483587 + mx)), .cl (.int 0)] := by
  have hbits : Builtin.Int.intBits many ≤ 27 := bits_le (by omega)
  have e1 : (1 : Int) + ((Builtin.Int.intBits many : Nat) : Int) / 28 = 1 := by omega
  have hr : toRange [.int (1 + ((Builtin.Int.intBits many : Nat) : Int) / 28)] = .ok [.int 0] := by
    rw [e1]
    rfl
  exact st_seq (st_ifF (tb_of' (ev_2 (ev_2 (ev_own rfl) ev_c ixp0) ev_c (gt_f h0))) st_next)
    (st_seq (st_asg ev_c)
    (st_seq (st_for (it_range (ev_cons (ev_2 ev_c (ev_2 (ev_1 (ev_var rfl) bits_ev) ev_c (fdiv_int (by decide) (by decide))) add_int') ev_nil) hr)
      (for_nx tg_name (st_seq (st_set2 (ev_2 (ev_2 (ev_own rfl) ev_c ixp2) ev_c add_int') rfl ev_c)
        (st_asg (ev_2 (ev_2 (ev_var rfl) ev_c (smul_int (by decide) (by decide))) (ev_call (ev_cons (ev_2 (ev_own rfl) ev_c ixp1) (ev_cons (ev_2 (ev_own rfl) ev_c ixp2) (ev_cons (ev_2 (ev_own rfl) ev_c ixp3) ev_nil))) hmx) add_int'))) for_nil))
    (st_ret (ev_2 (ev_N (ev_cons (ev_var rfl) ev_nil) int_int) (ev_var rfl) (mod_int hm)))))
theorem draw_ok {n many : Int} {p : D} (h : PV n p) (hn : n < 1000000) (hm : 0 < many) (hm2 : many < 2 ^ 27) : ∃ (k : Int) (p' : D), f__law_draw [p, .int many] = .ok (.int k) [p'] ∧ 0 ≤ k ∧ k < many ∧ PV (n + 1) p' := by
  obtain ⟨a, b, c, d, rfl, ha, hb, hb2, hc, hc2, hd, hd2⟩ := h
  by_cases h0 : 0 < a
  · exact ⟨_, _, fn_run rfl (draw_a h0 hm hm2), Int.emod_nonneg _ (by omega), Int.emod_lt_of_pos _ hm, _, _, _, _, rfl, Int.ediv_nonneg ha (by omega), hb, hb2, hc, by omega, hd, hd2⟩
  · obtain ⟨mx, hmx⟩ := mixed_ok (a := b) (b := c + 1) (c := d) hb hb2 (by omega) (by omega) hd hd2
    exact ⟨_, _, fn_run rfl (draw_b h0 hm hm2 hmx), Int.emod_nonneg _ (by omega), Int.emod_lt_of_pos _ hm, _, _, _, _, rfl, ha, hb, hb2, by omega, by omega, hd, hd2⟩
def txE : M D := eOr (eChain opLe opLe (eC (.str " ")) (eVar 1) (eC (.str "~"))) (e2 opEq (eVar 1) (eC (.str "\n")))
theorem txE_ok {x : Sl} {c : Nat} : txE [x, .cl (.str ⟨#[c]⟩)] = .ok (.bl (okc c)) [x, .cl (.str ⟨#[c]⟩)] := by
  unfold txE
  rw [s32, s126, s10]
  by_cases h1 : 32 ≤ c
  · have e1 : opLe (.str ⟨#[32]⟩) (.str ⟨#[c]⟩) = .ok (.bl true) := by rw [le_sign, decide_eq_true h1]
    by_cases h2 : c ≤ 126
    · have e2 : opLe (.str ⟨#[c]⟩) (.str ⟨#[126]⟩) = .ok (.bl true) := by rw [le_sign, decide_eq_true h2]
      have e3 : okc c = true := by simp [okc, h1, h2]
      rw [e3]
      exact ev_orT (ev_chainT ev_c (ev_var rfl) e1 ev_c e2) rfl
    · have e2 : opLe (.str ⟨#[c]⟩) (.str ⟨#[126]⟩) = .ok (.bl false) := by rw [le_sign, decide_eq_false h2]
      have e3 : okc c = decide (c = 10) := by simp [okc, h2]
      rw [e3]
      exact ev_orF (ev_chainT ev_c (ev_var rfl) e1 ev_c e2) rfl (ev_2 (ev_var rfl) ev_c eq_sign)
  · have e1 : opLe (.str ⟨#[32]⟩) (.str ⟨#[c]⟩) = .ok (.bl false) := by rw [le_sign, decide_eq_false h1]
    have e3 : okc c = decide (c = 10) := by simp [okc, h1]
    rw [e3]
    exact ev_orF (ev_chainF ev_c (ev_var rfl) e1) rfl (ev_2 (ev_var rfl) ev_c eq_sign)
theorem tx_loop {x : Sl} : ∀ cs : List Nat, lcLoop [1] (tgName 1) (M.pure true) txE (cs.map fun c => .str ⟨#[c]⟩) [x, .no] = .ok (cs.map fun c => D.bl (okc c)) [x, .no]
  | [] => rfl
  | c :: cs => by
    show (match txE [x, .cl (.str ⟨#[c]⟩)] with
      | .ok y ρ3 => (match lcLoop [1] (tgName 1) (M.pure true) txE (cs.map fun c => .str ⟨#[c]⟩) (wipeR ρ3 [1]) with
        | .ok xs ρ4 => Out.ok (y :: xs) ρ4
        | _ => .bad)
      | _ => .bad) = _
    rw [txE_ok]
    show (match lcLoop [1] (tgName 1) (M.pure true) txE (cs.map fun c => .str ⟨#[c]⟩) [x, .no] with
        | .ok xs ρ4 => Out.ok (D.bl (okc c) :: xs) ρ4
        | _ => .bad) = _
    rw [tx_loop cs]
    rfl
theorem is_text_str {z : Str} (h : z.length ≤ 16777216) : f_is_text [.str z] = .ok (.bl (z.cps.toList.all okc)) [] := by
  have e : opAll [.lst (z.cps.toList.map fun c => D.bl (okc c))] = .ok (.bl (z.cps.toList.all okc)) := by
    show (match dBls (z.cps.toList.map fun c => D.bl (okc c)) with
      | some is => R.ok (D.bl (is.all id))
      | none => .bad) = _
    rw [bls_map]
    show R.ok (D.bl ((z.cps.toList.map okc).all id)) = _
    rw [List.all_map]
    rfl
  exact fn_run (ρ0 := [.cl (.str z), .no]) rfl (st_ret (ev_andT (ev_1 (ev_var rfl) (show opIs [.str] [("InvalidCount", false), ("InvalidText", false), ("InvalidTitle", false)] (.str z) = .ok (.bl true) from rfl)) rfl
    (ev_N (ev_cons (ev_lc (it_seq (ev_var rfl) (items_str h)) (tx_loop _)) ev_nil) e)))
theorem one_of_lst {n : Int} {p : D} {xs : List D} (h : PV n p) (hn : n < 1000000) (h0 : 0 < xs.length) (h1 : xs.length < 2 ^ 27) : ∃ (d : D) (p' : D), f__law_one_of [p, .lst xs] = .ok d [p'] ∧ d ∈ xs ∧ PV (n + 1) p' := by
  obtain ⟨k, p', e, hk, hk2, hp⟩ := draw_ok (many := (xs.length : Nat)) h hn (by omega) (by omega)
  have hlt : k.toNat < xs.length := by omega
  exact ⟨xs[k.toNat], p', fn_run (ρ0 := [.ow p, .cl (.lst xs)]) rfl (st_ret (ev_2 (ev_var rfl) (ev_callO rfl (ev_cons (ev_N (ev_cons (ev_var rfl) ev_nil) len_lst) ev_nil) rfl e) (ix_lst hk (List.getElem?_eq_getElem hlt)))), List.getElem_mem hlt, hp⟩
theorem one_of_str {n : Int} {p : D} {z : Str} {cs : List Nat} (h : PV n p) (hn : n < 1000000) (ez : z.cps.toList = cs) (h0 : 0 < cs.length) (h1 : cs.length ≤ 16777216) : ∃ (c : Nat) (p' : D), f__law_one_of [p, .str z] = .ok (.str ⟨#[c]⟩) [p'] ∧ c ∈ cs ∧ PV (n + 1) p' := by
  have lz : z.length = cs.length := by rw [← ez]; simp [Str.length]
  obtain ⟨k, p', e, hk, hk2, hp⟩ := draw_ok (many := (z.length : Nat)) h hn (by omega) (by omega)
  have hlt : k.toNat < cs.length := by omega
  exact ⟨cs[k.toNat], p', fn_run (ρ0 := [.ow p, .cl (.str z)]) rfl (st_ret (ev_2 (ev_var rfl) (ev_callO rfl (ev_cons (ev_N (ev_cons (ev_var rfl) ev_nil) (len_str (by omega))) ev_nil) rfl e) (ix_str k.toNat (by omega) (by omega) (by rw [ez]; exact List.getElem?_eq_getElem hlt)))), List.getElem_mem hlt, hp⟩
theorem purse_ok {ns : List Int} {k : Int} (h0 : 0 ≤ k) (h1 : k ≤ 63) : ∃ p, f__law_purse [.ros (ns.map .int), .int k] = .ok p [] ∧ PV 0 p := by
  have c1 : cutD (.ros (ns.map .int)) (some k) (some (k + 1)) = .ok (.lst ((cutL ns (some k) (some (k + 1))).map D.int)) := by
    show R.ok (D.lst (cutL (ns.map D.int) _ _)) = _
    rw [cutL_map]
  have c2 : opSum [.lst ((cutL ns (some k) (some (k + 1))).map D.int)] = .ok (.int (cutL ns (some k) (some (k + 1))).sum) := by
    show (match dInts ((cutL ns (some k) (some (k + 1))).map D.int) with
      | some is => R.ok (D.int is.sum)
      | none => .bad) = _
    rw [dints_map]
  have pp : (0 : Int) < (10 ^ 60) ^ 8 := by decide +kernel
  refine ⟨_, fn_run (ρ0 := [.cl (.ros (ns.map .int)), .cl (.int k), .no]) rfl
    (st_seq (st_asg (ev_N (ev_cons (ev_cut (ev_var rfl) (pa_at (ev_var rfl)) (pa_at (ev_2 (ev_var rfl) ev_c add_int')) c1) ev_nil) c2))
    (st_ret (ev_N (ev_cons (ev_2 (ev_N (ev_cons (ev_N (ev_cons (ev_2 (ev_var rfl) (ev_2 ev_c ev_c p18) sub_int') (ev_cons ev_c ev_nil)) max_int) ev_nil) int_int) (ev_2 (ev_2 ev_c ev_c p60) ev_c p480) (mod_int pp))
      (ev_cons (ev_2 (ev_N (ev_cons (ev_var rfl) ev_nil) int_int) ev_c (mod_int (by decide))) (ev_cons ev_c (ev_cons (ev_var rfl) ev_nil)))) rfl))), _, _, _, _, rfl, Int.emod_nonneg _ (by omega), Int.emod_nonneg _ (by decide), Int.emod_lt_of_pos _ (by decide), Int.le_refl _, Int.le_refl _, h0, h1⟩
theorem PV.le {n m : Int} {p : D} (h : PV n p) (k : n ≤ m) : PV m p := by
  obtain ⟨a, b, c, d, e, h1, h2, h3, h4, h5, h6⟩ := h
  exact ⟨a, b, c, d, e, h1, h2, h3, h4, by omega, h6⟩
end DL

set_option Elab.async false
set_option linter.all false
set_option maxRecDepth 100000
set_option maxHeartbeats 400000
namespace DL
open PySem PySem.Spec PyProof.Rows L2
local macro_rules | `(tactic| array_get_dec) => `(tactic| first
  | with_reducible exact ev_c
  | with_reducible exact ev_nil
  | with_reducible exact pa_no
  | ((with_reducible apply ev_var); exact rfl)
  | ((with_reducible apply ev_own); exact rfl)
  | with_reducible apply ev_2
  | with_reducible apply ev_1
  | with_reducible apply ev_N
  | with_reducible apply ev_cons
  | ((with_reducible apply ew_callO); exact rfl)
  | with_reducible apply ev_call
  | with_reducible apply ev_callF
  | with_reducible apply ev_callK
  | ((with_reducible apply ev_M); rotate_left 1; exact rfl; rotate_right 1)
  | with_reducible apply ev_cut
  | with_reducible apply pa_at
  | with_reducible apply tb_of'
  | with_reducible apply tb_tr'
  | with_reducible apply tb_not'
  | with_reducible apply bw_or
  | with_reducible apply bw_and
  | with_reducible apply ew_if
  | with_reducible apply st_seq
  | with_reducible apply sw_asg
  | with_reducible apply sw_asgO
  | with_reducible apply sw_par
  | with_reducible apply sw_par3
  | with_reducible apply sw_if
  | with_reducible apply st_ret
  | with_reducible exact st_next
  | with_reducible assumption
  | with_reducible exact eq_int
  | with_reducible exact add_int'
  | with_reducible exact sub_int'
  | with_reducible exact neg1
  | with_reducible exact eq_mkS
  | with_reducible exact ne_mk
  | with_reducible exact in_mk
  | with_reducible exact notIn_mk
  | with_reducible exact truth_bl
  | with_reducible exact lt_int
  | with_reducible exact gt_int'
  | with_reducible exact eq_bl
  | with_reducible exact ne_bl
  | ((with_reducible apply gt_id); exact rfl)
  | ((with_reducible apply set_id); simp only [List.set_cons_zero, List.set_cons_succ]; with_reducible exact rfl)
  | ((with_reducible apply add_mkS); simp only [List.length_append, List.length_cons, List.length_nil]; omega)
  | ((with_reducible apply len_mkS); omega)
  | ((with_reducible apply cut_m1); omega)
  | ((with_reducible apply cut_init); omega)
  | ((with_reducible apply cut_pre); omega)
  | ((with_reducible apply cut_post); omega)
  | (intro hh; first | exact absurd hh (by decide) | exact absurd (show false = true from hh) (by decide) | exact absurd (show true = false from hh) (by decide) | (exfalso; simp_all; done) | (exfalso; simp at hh; omega) | skip))
theorem made_one_ok {cs : List Nat} (h : cs.length ≤ 1000000) : f_made_one [.str (mkS cs)] = .ok (.str (mkS (mo cs))) [] := by
  have r1 := repl_us (cs := cs) (by omega)
  have r2 := split_bl (cs := cs.map us) (by rw [List.length_map]; omega)
  have hs := spl_len (cs.map us) []
  rw [List.length_map] at hs
  have f1 := List.length_filter_le full (sp32 (cs.map us))
  have f2 := filter_sum (P := full) (sp32 (cs.map us))
  have r3 : opJoin (.str (mkS [32])) [.lst (((sp32 (cs.map us)).filter full).map fun w => D.str (mkS w))] = .ok (.str (mkS (mo cs))) := by
    rw [join_mk, words_mo]
    have q1 : (sp32 (cs.map us)).length ≤ cs.length + 1 := hs.1
    have q2 : ((sp32 (cs.map us)).map List.length).sum ≤ cs.length := by
      have z := hs.2
      simp only [List.length_nil, Nat.zero_add] at z
      exact z
    simp only [List.length_cons, List.length_nil]
    omega
  apply fw_run (ρ0 := [.cl (.str (mkS cs)), .no]) rfl
  · unfold m_made_one
    apply st_ret
    apply ev_M (h := ev_cons (ev_lcF (G := fun w => D.str (mkS w)) (E := fun w => D.str (mkS w)) (env := fun w => [.cl (.str (mkS cs)), .cl (.str (mkS w))]) (P := full) (xs := sp32 (cs.map us)) (ρ1 := [.cl (.str (mkS cs)), .no]) ?_ rfl rfl (fun _ _ => rfl) (fun w _ => ?_) (fun w _ _ => ev_var rfl) (fun _ _ => rfl)) ev_nil) (hop := r3)
    · rw [s_bl]
      exact ev_c
    · rfl
    · apply it_lst
      · rw [s_bl]
        rw [s_bl] at r1
        exact ev_M (ev_1 (ev_var rfl) r1) rfl (ev_cons ev_c ev_nil) r2
      · rw [List.length_map]
        have q1 : (sp32 (cs.map us)).length ≤ cs.length + 1 := hs.1
        omega
    · rw [s0]
      exact tb_of' (ev_2 (ev_var rfl) ev_c (by rw [ne_mk]; unfold full; rw [decide_not]))
  · rfl
theorem sgn2 : (" _" : Str) = mkS [32, 95] := by decide +kernel
def lmB : MS := sIf (bOf (e2 opNotIn (eVar 2) (eC (.str " _")))) (sAsg (e2 opAdd (eVar 1) (eVar 2)) (tgName 1)) (sIf (bAnd (bOf (e2 opNe (eVar 1) (eC (.str "")))) (bOf (e2 opNe (e2 opIx (eVar 1) (e1 opNeg (eC (.int 1)))) (eC (.str " "))))) (sAsg (e2 opAdd (eVar 1) (eC (.str " "))) (tgName 1)) (sNext))
theorem lm_turn {a : Sl} {f : List Nat} {c : Nat} (h : f.length ≤ 2000000) : lmB [a, .cl (.str (mkS f)), .cl (.str (mkS [c]))] = .nx [a, .cl (.str (mkS (moS f c))), .cl (.str (mkS [c]))] := by
  unfold lmB
  rw [sgn2, s0, s_bl]
  unfold moS isp
  by_cases h1 : c = 32 ∨ c = 95
  · rw [if_pos (by simpa using h1)]
    apply st_ifF
    · exact tb_of' (ev_2 (ev_var rfl) ev_c (by rw [notIn_mk, decide_eq_true (by simpa using h1)]; rfl))
    · by_cases h2 : f = []
      · rw [if_neg fun z => z.1 h2]
        exact st_ifF (tb_andF (tb_of' (ev_2 (ev_var rfl) ev_c (by rw [ne_mk, decide_eq_true h2]; rfl)))) st_next
      · cases e : f.getLast? with
        | none => exact absurd (by simpa using e) h2
        | some d =>
          have n : bOf (e2 opNe (eVar 1) (eC (.str (mkS [])))) [a, .cl (.str (mkS f)), .cl (.str (mkS [c]))] = .ok true [a, .cl (.str (mkS f)), .cl (.str (mkS [c]))] := tb_of' (ev_2 (ev_var rfl) ev_c (by rw [ne_mk, decide_eq_false h2]; rfl))
          have m : bOf (e2 opNe (e2 opIx (eVar 1) (e1 opNeg (eC (.int 1)))) (eC (.str (mkS [32])))) [a, .cl (.str (mkS f)), .cl (.str (mkS [c]))] = .ok (!decide (d = 32)) [a, .cl (.str (mkS f)), .cl (.str (mkS [c]))] := tb_of' (ev_2 (ev_2 (ev_var rfl) (ev_1 ev_c neg1) (ix_last (by omega) e)) ev_c (by rw [ne_mk]; simp))
          by_cases h3 : d = 32
          · rw [if_neg fun z => z.2 (by rw [h3])]
            rw [decide_eq_true h3] at m
            exact st_ifF (tb_andT n m) st_next
          · rw [if_pos ⟨h2, fun z => h3 (Option.some.inj z)⟩]
            rw [decide_eq_false h3] at m
            exact st_ifT (tb_andT n m) (sw_asg (ev_2 (ev_var rfl) ev_c (add_mkS (by simp; omega))) rfl)
  · rw [if_neg (by simpa using h1)]
    exact st_ifT (tb_of' (ev_2 (ev_var rfl) ev_c (by rw [notIn_mk, decide_eq_false (by simpa using h1)]; rfl))) (sw_asg (ev_2 (ev_var rfl) (ev_var rfl) (add_mkS (by simp; omega))) rfl)
theorem lm_loop {a : Sl} : ∀ (l f : List Nat) (y : Sl), f.length + l.length ≤ 2000000 → ∃ z, forLoop (tgName 2) lmB (l.map fun c => D.str (mkS [c])) [a, .cl (.str (mkS f)), y] = .nx [a, .cl (.str (mkS (l.foldl moS f))), z]
  | [], f, y, _ => ⟨y, rfl⟩
  | c :: l, f, y, h => by
    have h2 : (moS f c).length ≤ f.length + 1 := by
      unfold moS
      split
      · split
        · simp
        · omega
      · simp
    rw [List.length_cons] at h
    obtain ⟨z, e⟩ := lm_loop (a := a) l (moS f c) (.cl (.str (mkS [c]))) (by omega)
    exact ⟨z, for_nx rfl (lm_turn (by omega)) e⟩
theorem lm_ret {a z : Sl} {f : List Nat} (h : f.length ≤ 2000000) : sRet (eIf (bOf (e2 opEq (eCut (eVar 1) (pAt (e1 opNeg (eC (.int 1)))) (pNo)) (eC (.str " ")))) (eCut (eVar 1) (pNo) (pAt (e1 opNeg (eC (.int 1))))) (eVar 1)) [a, .cl (.str (mkS f)), z] = .ret (.str (mkS (moT f))) [a, .cl (.str (mkS f)), z] := by
  rw [s_bl]
  have n : bOf (e2 opEq (eCut (eVar 1) (pAt (e1 opNeg (eC (.int 1)))) (pNo)) (eC (.str (mkS [32])))) [a, .cl (.str (mkS f)), z] = .ok (decide (f.getLast? = some 32)) [a, .cl (.str (mkS f)), z] :=
    tb_of' (ev_2 (ev_cut (ev_var rfl) (pa_at (ev_1 ev_c neg1)) pa_no (cut_m1 (by omega))) ev_c (by rw [eq_mkS, last_eq]))
  unfold moT
  by_cases q : f.getLast? = some 32
  · rw [if_pos q]
    rw [decide_eq_true q] at n
    exact st_ret (ev_ifT n (ev_cut (ev_var rfl) pa_no (pa_at (ev_1 ev_c neg1)) (cut_init (by omega))))
  · rw [if_neg q]
    rw [decide_eq_false q] at n
    exact st_ret (ev_ifF n (ev_var rfl))
theorem law_made_ok {cs : List Nat} (h : cs.length ≤ 1000000) : f__law_made_one [.str (mkS cs)] = .ok (.str (mkS (mo cs))) [] := by
  obtain ⟨z, e⟩ := lm_loop (a := .cl (.str (mkS cs))) cs [] .no (by simp; omega)
  have hl := fold_len cs []
  simp only [List.length_nil] at hl
  have e1 : sFor (tgName 2) (iSeq (eVar 0)) lmB [.cl (.str (mkS cs)), .cl (.str (mkS [])), .no] = .nx [.cl (.str (mkS cs)), .cl (.str (mkS (cs.foldl moS []))), z] := st_for (it_seq (ev_var rfl) (items_mk (by omega))) e
  apply fw_run (ρ0 := [.cl (.str (mkS cs)), .no, .no]) rfl
  · unfold m__law_made_one
    apply st_seq (ρ1 := [.cl (.str (mkS cs)), .cl (.str (mkS [])), .no])
    · rw [s0]
      exact st_asg ev_c
    · exact st_seq e1 (lm_ret (by omega))
  · rfl
theorem rooms_eq : d_ROOMS = .tup (roomL.map fun n => D.str (mkS n)) := by
  have h : ∀ {a b : Str}, a = b → D.str a = D.str b := fun e => by rw [e]
  unfold d_ROOMS
  rw [show ("Talk" : Str) = mkS [84, 97, 108, 107] by decide +kernel, show ("User" : Str) = mkS [85, 115, 101, 114] by decide +kernel, show ("User talk" : Str) = mkS [85, 115, 101, 114, 32, 116, 97, 108, 107] by decide +kernel,
    show ("Template" : Str) = mkS [84, 101, 109, 112, 108, 97, 116, 101] by decide +kernel, show ("Template talk" : Str) = mkS [84, 101, 109, 112, 108, 97, 116, 101, 32, 116, 97, 108, 107] by decide +kernel,
    show ("Category" : Str) = mkS [67, 97, 116, 101, 103, 111, 114, 121] by decide +kernel, show ("Category talk" : Str) = mkS [67, 97, 116, 101, 103, 111, 114, 121, 32, 116, 97, 108, 107] by decide +kernel,
    show ("Help" : Str) = mkS [72, 101, 108, 112] by decide +kernel, show ("Help talk" : Str) = mkS [72, 101, 108, 112, 32, 116, 97, 108, 107] by decide +kernel]
  rfl
theorem room_ascii : ∀ n ∈ roomL, n.all (· < 128) = true ∧ n.length ≤ 20 := by decide +kernel
/-- a room, or None -/
def optS : Option (List Nat) → D
  | none => .non
  | some n => .str (mkS n)
theorem room_called_ok {p : List Nat} (h : p.length ≤ 1000000) (ha : p.all (· < 128) = true) : f_room_called [.str (mkS p)] = .ok (optS (rm p)) [] := by
  have body : ∀ n ∈ roomL, ∀ k : Bool, decide (n.map lo1 = p.map lo1) = k → bOf (e2 opEq (eMT .str opLower (eVar 1) aNil) (eMT .str opLower (eVar 0) aNil)) [.cl (.str (mkS p)), .cl (.str (mkS n))] = .ok k [.cl (.str (mkS p)), .cl (.str (mkS n))] := fun n hn k e =>
    tb_of' (ev_2 (ev_M (ev_var rfl) rfl ev_nil (lower_mk (room_ascii n hn).1 (by have := (room_ascii n hn).2; omega))) (ev_M (ev_var rfl) rfl ev_nil (lower_mk ha (by omega))) (by rw [eq_mkS, e]))
  have F := for_find (α := List Nat) (t := tgName 1) (b := sIf (bOf (e2 opEq (eMT .str opLower (eVar 1) aNil) (eMT .str opLower (eVar 0) aNil))) (sRet (eVar 1)) (sNext)) (G := fun n => D.str (mkS n)) (Q := fun n => D.str (mkS n)) (P := fun n => decide (n.map lo1 = p.map lo1)) (Y := fun y => [.cl (.str (mkS p)), y]) (xs := roomL) (y := .no)
    (fun _ _ _ => rfl) (fun n hn q => st_ifT (body n hn true q) (st_ret (ev_var rfl))) (fun n hn q => st_ifF (body n hn false q) st_next)
  have it : iSeq (eC d_ROOMS) [.cl (.str (mkS p)), .no] = .ok (roomL.map fun n => D.str (mkS n)) [.cl (.str (mkS p)), .no] := by
    rw [rooms_eq]
    exact it_seq ev_c rfl
  cases e : rm p with
  | none =>
    obtain ⟨z, hz⟩ := F.2 e
    apply fw_run (ρ0 := [.cl (.str (mkS p)), .no]) rfl
    · unfold m_room_called
      exact st_seq (st_for it hz) (st_ret ev_c)
    · rfl
  | some n =>
    apply fw_run (ρ0 := [.cl (.str (mkS p)), .no]) rfl
    · unfold m_room_called
      exact st_seqR (st_for it (F.1 n e))
    · rfl
end DL

set_option Elab.async false
set_option linter.all false
set_option maxRecDepth 100000
set_option maxHeartbeats 400000
namespace DL
open PySem PySem.Spec PyProof.Rows L2
theorem take_at1 (c : Nat) : ∀ cs : List Nat, cs.take (at1 c cs) = cs.takeWhile (fun d => decide (d ≠ c)) ∧ cs.drop (at1 c cs + 1) = (cs.dropWhile (fun d => decide (d ≠ c))).tail
  | [] => by simp [at1]
  | d :: cs => by
    obtain ⟨h1, h2⟩ := take_at1 c cs
    by_cases q : d = c
    · subst q
      have e : at1 d (d :: cs) = 0 := by unfold at1; simp
      rw [e]
      simp
    · have e : at1 c (d :: cs) = at1 c cs + 1 := by unfold at1; rw [List.takeWhile_cons_of_pos (by simpa using q), List.length_cons]
      rw [e, List.take_succ_cons, List.drop_succ_cons, List.takeWhile_cons_of_pos (by simpa using q), List.dropWhile_cons_of_pos (by simpa using q), h1, h2]
      exact ⟨rfl, rfl⟩
theorem pre_take (o : List Nat) : o.take (at1 58 o) = pre58 o := (take_at1 58 o).1
theorem post_drop (o : List Nat) : o.drop (at1 58 o + 1) = post58 o := (take_at1 58 o).2
theorem dbls_map {α : Type} {P : α → Bool} : ∀ xs : List α, dBls (xs.map fun x => D.bl (P x)) = some (xs.map P)
  | [] => rfl
  | x :: xs => by
    show (dBls (xs.map fun x => D.bl (P x))).map (P x :: ·) = _
    rw [dbls_map xs]
    rfl
theorem any_bl {α : Type} {P : α → Bool} {xs : List α} : opAny [.lst (xs.map fun x => D.bl (P x))] = .ok (.bl (xs.any P)) := by
  show (match dBls (xs.map fun x => D.bl (P x)) with
    | some is => R.ok (D.bl (is.any id))
    | none => .bad) = _
  rw [dbls_map]
  show R.ok (D.bl ((xs.map P).any id)) = _
  rw [List.any_map]
  rfl
def barL : List Nat := [91, 93, 123, 125, 124, 60, 62, 35]
theorem barred_eq : d_BARRED = .str (mkS barL) := by
  unfold d_BARRED
  rw [show ("[]{}|<>#" : Str) = mkS barL by decide +kernel]
theorem bad_any {cs : List Nat} : (decide (10 ∈ cs) || barL.any fun c => decide (c ∈ cs)) = cs.any bad := by
  rw [Bool.eq_iff_iff]
  simp only [Bool.or_eq_true, decide_eq_true_eq, List.any_eq_true, bad_iff]
  unfold barL
  constructor
  · rintro (h | ⟨c, hc, h⟩)
    · exact ⟨10, h, .inl rfl⟩
    · refine ⟨c, h, ?_⟩
      simp at hc
      omega
  · rintro ⟨c, hc, h⟩
    rcases h with h | h | h | h | h | h | h | h | h
    · exact .inl (h ▸ hc)
    all_goals exact .inr ⟨c, by simp [h], hc⟩
theorem s_nl : ("\n" : Str) = mkS [10] := by decide +kernel
theorem s_co : (":" : Str) = mkS [58] := by decide +kernel
theorem uf_eq : ∀ r : List Nat, (r.take 1).map up1 ++ r.drop 1 = uf r
  | [] => rfl
  | _ :: _ => rfl
theorem all_sub {s t : List Nat} (h : ∀ c ∈ s, c ∈ t ∨ c = 32) (ht : t.all (· < 128) = true) : s.all (· < 128) = true := by
  rw [List.all_eq_true] at ht ⊢
  intro c hc
  rcases h c hc with z | z
  · exact ht c z
  · rw [z]; rfl
theorem pre_mem {o : List Nat} {c : Nat} (h : c ∈ pre58 o) : c ∈ o := by rw [← pre_take] at h; exact List.mem_of_mem_take h
theorem post_mem {o : List Nat} {c : Nat} (h : c ∈ post58 o) : c ∈ o := by rw [← post_drop] at h; exact List.mem_of_mem_drop h
theorem isn_opt {n : Option (List Nat)} : opIsN (optS n) .non = .ok (.bl n.isNone) := by cases n <;> rfl
theorem title_read_ok {cs : List Nat} (h : cs.length ≤ 900000) (ha : cs.all (· < 128) = true) : f_title_read [.str (mkS cs)] = .ok (optS (TT cs)) [] := by
  -- what is barred
  have B : (bOr (bOf (e2 opIn (eC (.str "\n")) (eVar 0))) (bTr (eN opAny (aCons (eLC [5] (tgName 5) (M.pure true) (e2 opIn (eVar 5) (eVar 0)) (iSeq (eC d_BARRED))) (aNil))))) [.cl (.str (mkS cs)), .no, .no, .no, .no, .no] = .ok (cs.any bad) [.cl (.str (mkS cs)), .no, .no, .no, .no, .no] := by
    rw [← bad_any, s_nl, barred_eq]
    refine bw_or (tb_of' (ev_2 ev_c (ev_var rfl) in_mk)) fun _ => ?_
    exact tb_tr' (ev_N (ev_cons (ev_lcM (G := fun c => D.str (mkS [c])) (E := fun c => D.bl (decide (c ∈ cs))) (env := fun c => [.cl (.str (mkS cs)), .no, .no, .no, .no, .cl (.str (mkS [c]))]) (ρ1 := [.cl (.str (mkS cs)), .no, .no, .no, .no, .no])
      (it_seq ev_c (items_mk (by decide))) rfl rfl (fun _ _ => rfl) (fun c _ => ev_2 (ev_var rfl) (ev_var rfl) in_mk) (fun _ _ => rfl)) ev_nil) any_bl) truth_bl
  by_cases hb : cs.any bad = true
  · rw [hb] at B
    have e : TT cs = none := by unfold TT; rw [if_pos hb]
    rw [e]
    apply fw_run (ρ0 := [.cl (.str (mkS cs)), .no, .no, .no, .no, .no]) rfl
    · unfold m_title_read
      exact st_seqR (st_ifT B (st_ret ev_c))
    · rfl
  · have hb' : cs.any bad = false := by simpa using hb
    rw [hb'] at B
    have hm := mo_len cs
    have hn := mo_nm cs
    have hoa : (mo cs).all (· < 128) = true := all_sub (fun c hc => mo_mem hc) ha
    have e1 : f_made_one [.str (mkS cs)] = _ := made_one_ok (by omega)
    have e : TT cs = fitT (uf (restOf (mo cs) (nameOf (mo cs)))) (joinT (nameOf (mo cs)) (uf (restOf (mo cs) (nameOf (mo cs))))) := by unfold TT; rw [if_neg hb]
    rw [e]
    clear e
    generalize mo cs = o at hm hn hoa e1 ⊢
    have sp := fun (q : 58 ∈ o) => strip_nd (pre_nd hn.nd q) (by rw [← pre_take, List.length_take]; omega)
    have sq := fun (q : 58 ∈ o) => strip_nd (post_nd hn.nd q) (by rw [← post_drop, List.length_drop]; omega)
    have A2 : sAsg (eIf (bOf (e2 opIn (eC (.str ":")) (eVar 1))) (eCall f_room_called (aCons (eMT .str opStripC (eCut (eVar 1) (pNo) (pAt (mOr (isKd .str (eVar 1)) (eMT .str opSIndex (eVar 1) (aCons (eC (.str ":")) (aNil))) (eMT .list opIndex (eVar 1) (aCons (eC (.str ":")) (aNil)))))) (aCons (eC (.str " ")) (aNil))) (aNil))) (eC .non)) (tgName 2)
        [.cl (.str (mkS cs)), .cl (.str (mkS o)), .no, .no, .no, .no] = .nx [.cl (.str (mkS cs)), .cl (.str (mkS o)), .cl (optS (nameOf o)), .no, .no, .no] := by
      rw [s_co, s_bl]
      refine sw_asg (d := optS (nameOf o)) (ρ1 := [.cl (.str (mkS cs)), .cl (.str (mkS o)), .no, .no, .no, .no]) (ew_if (tb_of' (ev_2 ev_c (ev_var rfl) in_mk)) (fun q => ?_) fun q => ?_) rfl
      · have q := of_decide_eq_true q
        have sp := sp q
        rw [← pre_take] at sp
        have en : nameOf o = rm (st (o.take (at1 58 o))) := by unfold nameOf; rw [if_pos q, pre_take]
        rw [en]
        exact ev_call (ev_cons (ev_M (ev_cut (ev_var rfl) pa_no (pa_at (ew_kdS (ev_var rfl) (ev_M (ev_var rfl) rfl (ev_cons ev_c ev_nil) (sindex_mk q)))) (cut_pre (by omega))) rfl (ev_cons ev_c ev_nil) sp) ev_nil)
          (room_called_ok (by have := st_len (o.take (at1 58 o)); rw [List.length_take] at this; omega) (all_sub (t := o) (fun c hc => .inl (List.mem_of_mem_take (st_mem hc))) hoa))
      · have q := of_decide_eq_false q
        have en : nameOf o = none := by unfold nameOf; rw [if_neg q]
        rw [en]
        exact ev_c
    have h58 : (nameOf o).isNone = false → 58 ∈ o := fun z => by
      unfold nameOf at z
      split at z
      · assumption
      · cases z
    have A3 : sAsg (eIf (bOf (e2 opIsN (eVar 2) (eC .non))) (eVar 1) (eMT .str opStripC (eCut (eVar 1) (pAt (e2 opAdd (mOr (isKd .str (eVar 1)) (eMT .str opSIndex (eVar 1) (aCons (eC (.str ":")) (aNil))) (eMT .list opIndex (eVar 1) (aCons (eC (.str ":")) (aNil)))) (eC (.int 1)))) (pNo)) (aCons (eC (.str " ")) (aNil)))) (tgName 3)
        [.cl (.str (mkS cs)), .cl (.str (mkS o)), .cl (optS (nameOf o)), .no, .no, .no] = .nx [.cl (.str (mkS cs)), .cl (.str (mkS o)), .cl (optS (nameOf o)), .cl (.str (mkS (restOf o (nameOf o)))), .no, .no] := by
      rw [s_co, s_bl]
      refine sw_asg (d := .str (mkS (restOf o (nameOf o)))) (ρ1 := [.cl (.str (mkS cs)), .cl (.str (mkS o)), .cl (optS (nameOf o)), .no, .no, .no]) (ew_if (tb_of' (ev_2 (ev_var rfl) ev_c isn_opt)) (fun q => ?_) fun q => ?_) rfl
      · cases e : nameOf o with
        | none => exact ev_var rfl
        | some n => rw [e] at q; cases q
      · have sq := sq (h58 q)
        rw [← post_drop] at sq
        have er : restOf o (nameOf o) = st (o.drop (at1 58 o + 1)) := by
          rw [post_drop]
          cases e : nameOf o with
          | none => rw [e] at q; cases q
          | some n => rfl
        rw [er]
        exact ev_M (ev_cut (ev_var rfl) (pa_at (ev_2 (ew_kdS (ev_var rfl) (ev_M (ev_var rfl) rfl (ev_cons ev_c ev_nil) (sindex_mk (h58 q)))) ev_c add_int')) pa_no (cut_post (a := at1 58 o + 1) (by omega))) rfl (ev_cons ev_c ev_nil) sq
    have hr : (restOf o (nameOf o)).length ≤ 900000 ∧ (restOf o (nameOf o)).all (· < 128) = true := by
      cases nameOf o with
      | none => exact ⟨by show o.length ≤ _; omega, hoa⟩
      | some n =>
        have q1 := st_len (post58 o)
        rw [← post_drop, List.length_drop] at q1
        refine ⟨by show (st (post58 o)).length ≤ _; rw [← post_drop]; omega, all_sub (t := o) (fun c hc => .inl (post_mem (st_mem hc))) hoa⟩
    have hN : ∀ n, nameOf o = some n → n.length ≤ 20 := fun n e => by
      unfold nameOf at e
      split at e
      · exact (room_ascii n (rm_some e).1).2
      · cases e
    generalize nameOf o = n at A2 A3 hr hN ⊢
    generalize restOf o n = r at A3 hr ⊢
    have A4 : sAsg (e2 opAdd (eMT .str opUpper (eCut (eVar 3) (pNo) (pAt (eC (.int 1)))) aNil) (eCut (eVar 3) (pAt (eC (.int 1))) (pNo))) (tgName 3) [.cl (.str (mkS cs)), .cl (.str (mkS o)), .cl (optS n), .cl (.str (mkS r)), .no, .no] = .nx [.cl (.str (mkS cs)), .cl (.str (mkS o)), .cl (optS n), .cl (.str (mkS (uf r))), .no, .no] := by
      rw [← uf_eq]
      exact sw_asg (ev_2 (ev_M (ev_cut (ev_var rfl) pa_no (pa_at ev_c) (cut_pre (b := 1) (by omega))) rfl ev_nil (upper_mk (all_sub (t := r) (fun c hc => .inl (List.mem_of_mem_take hc)) hr.2) (by rw [List.length_take]; omega)))
        (ev_cut (ev_var rfl) (pa_at ev_c) pa_no (cut_post (a := 1) (by omega))) (add_mkS (by rw [List.length_map, List.length_take, List.length_drop]; omega))) rfl
    have hu := uf_len r
    have A5 : sAsg (eIf (bOf (e2 opIsN (eVar 2) (eC .non))) (eVar 3) (e2 opAdd (e2 opAdd (eVar 2) (eC (.str ":"))) (eVar 3))) (tgName 4) [.cl (.str (mkS cs)), .cl (.str (mkS o)), .cl (optS n), .cl (.str (mkS (uf r))), .no, .no] =
        .nx [.cl (.str (mkS cs)), .cl (.str (mkS o)), .cl (optS n), .cl (.str (mkS (uf r))), .cl (.str (mkS (joinT n (uf r)))), .no] := by
      rw [s_co]
      cases n with
      | none => exact sw_asg (ev_ifT (tb_of' (ev_2 (ev_var rfl) ev_c isn_opt)) (ev_var rfl)) rfl
      | some n =>
        have := hN n rfl
        have e : joinT (some n) (uf r) = n ++ [58] ++ uf r := by
          show n ++ 58 :: uf r = _
          simp
        rw [e]
        exact sw_asg (ev_ifF (tb_of' (ev_2 (ev_var rfl) ev_c isn_opt)) (ev_2 (ev_2 (ev_var rfl) ev_c (add_mkS (by simp; omega))) (ev_var rfl) (add_mkS (by simp; omega)))) rfl
    have hj : (joinT n (uf r)).length ≤ 901000 := by
      cases n with
      | none => show (uf r).length ≤ _; omega
      | some n =>
        have := hN n rfl
        show (n ++ 58 :: uf r).length ≤ _
        rw [List.length_append, List.length_cons]
        omega
    generalize uf r = v at A4 A5 hu hj ⊢
    generalize joinT n v = w at A5 hj ⊢
    have A6 : sRet (eIf (bOr (bOf (e2 opEq (eVar 3) (eC (.str "")))) (bOr (bOf (e2 opEq (e2 opIx (eVar 3) (eC (.int 0))) (eC (.str ":")))) (bOf (e2 opGt (eN opLen (aCons (eVar 4) (aNil))) (eC d_LONGEST))))) (eC .non) (eVar 4)) [.cl (.str (mkS cs)), .cl (.str (mkS o)), .cl (optS n), .cl (.str (mkS v)), .cl (.str (mkS w)), .no] =
        .ret (optS (fitT v w)) [.cl (.str (mkS cs)), .cl (.str (mkS o)), .cl (optS n), .cl (.str (mkS v)), .cl (.str (mkS w)), .no] := by
      rw [s0, s_co]
      have g : bOf (e2 opGt (eN opLen (aCons (eVar 4) (aNil))) (eC d_LONGEST)) [.cl (.str (mkS cs)), .cl (.str (mkS o)), .cl (optS n), .cl (.str (mkS v)), .cl (.str (mkS w)), .no] = .ok (decide ((60 : Int) < (w.length : Nat))) [.cl (.str (mkS cs)), .cl (.str (mkS o)), .cl (optS n), .cl (.str (mkS v)), .cl (.str (mkS w)), .no] :=
        tb_of' (ev_2 (ev_N (ev_cons (ev_var rfl) ev_nil) (len_mkS (by omega))) ev_c gt_int')
      have z1 : bOf (e2 opEq (eVar 3) (eC (.str (mkS [])))) [.cl (.str (mkS cs)), .cl (.str (mkS o)), .cl (optS n), .cl (.str (mkS v)), .cl (.str (mkS w)), .no] = .ok (decide (v = [])) [.cl (.str (mkS cs)), .cl (.str (mkS o)), .cl (optS n), .cl (.str (mkS v)), .cl (.str (mkS w)), .no] :=
        tb_of' (ev_2 (ev_var rfl) ev_c eq_mkS)
      cases v with
      | nil => exact st_ret (ev_ifT (tb_orT z1) ev_c)
      | cons c r =>
        have z2 : bOf (e2 opEq (e2 opIx (eVar 3) (eC (.int 0))) (eC (.str (mkS [58])))) [.cl (.str (mkS cs)), .cl (.str (mkS o)), .cl (optS n), .cl (.str (mkS (c :: r))), .cl (.str (mkS w)), .no] = .ok (decide ([c] = [58])) [.cl (.str (mkS cs)), .cl (.str (mkS o)), .cl (optS n), .cl (.str (mkS (c :: r))), .cl (.str (mkS w)), .no] :=
          tb_of' (ev_2 (ev_2 (ev_var rfl) ev_c (ix_mk 0 (by omega) rfl)) ev_c eq_mkS)
        by_cases q2 : c = 58
        · subst q2
          exact st_ret (ev_ifT (tb_orF z1 (tb_orT z2)) ev_c)
        · rw [decide_eq_false (by simpa using q2)] at z2
          by_cases q3 : 60 < w.length
          · rw [decide_eq_true (by omega)] at g
            have ef : fitT (c :: r) w = none := by unfold fitT; rw [if_pos (.inr (.inr q3))]
            rw [ef]
            exact st_ret (ev_ifT (tb_orF z1 (tb_orF z2 g)) ev_c)
          · rw [decide_eq_false (by omega)] at g
            rw [fit_of (by simp) (by simpa using q2) (by omega)]
            exact st_ret (ev_ifF (tb_orF z1 (tb_orF z2 g)) (ev_var rfl))
    apply fw_run (ρ0 := [.cl (.str (mkS cs)), .no, .no, .no, .no, .no]) rfl
    · unfold m_title_read
      exact st_seq (st_ifF B st_next) (st_seq (sw_asg (ev_call (ev_cons (ev_var rfl) ev_nil) e1) rfl) (st_seq A2 (st_seq A3 (st_seq A4 (st_seq A5 A6)))))
    · rfl
end DL

set_option Elab.async false
set_option linter.all false
set_option maxRecDepth 100000
set_option maxHeartbeats 400000
namespace DL
open PySem PySem.Spec PyProof.Rows L2
def smallL : List Nat := [97, 98, 99, 100, 101, 102, 103, 104, 105, 106, 107, 108, 109, 110, 111, 112, 113, 114, 115, 116, 117, 118, 119, 120, 121, 122]
def greatL : List Nat := [65, 66, 67, 68, 69, 70, 71, 72, 73, 74, 75, 76, 77, 78, 79, 80, 81, 82, 83, 84, 85, 86, 87, 88, 89, 90]
theorem s_small : ("abcdefghijklmnopqrstuvwxyz" : Str) = mkS smallL := by decide +kernel
theorem s_great : ("ABCDEFGHIJKLMNOPQRSTUVWXYZ" : Str) = mkS greatL := by decide +kernel
theorem small_at : ∀ c ∈ smallL, greatL[at1 c smallL]? = some (up1 c) := by decide +kernel
theorem small_not {c : Nat} (h : c ∉ smallL) : up1 c = c := by
  unfold up1
  rw [if_neg]
  intro z
  apply h
  have e : smallL = (List.range 26).map (· + 97) := by decide +kernel
  rw [e, List.mem_map]
  exact ⟨c - 97, List.mem_range.mpr (by omega), by omega⟩
theorem great_law_ok {r : List Nat} (h : r.length ≤ 1000000) : f__law_great [.str (mkS r)] = .ok (.str (mkS (uf r))) [] := by
  apply fw_run (ρ0 := [.cl (.str (mkS r)), .no, .no]) (ρ1 := [.cl (.str (mkS r)), .cl (.str (mkS smallL)), .cl (.str (mkS greatL))]) rfl
  · unfold m__law_great
    rw [s_small, s_great, s0]
    apply st_seq (ρ1 := [.cl (.str (mkS r)), .cl (.str (mkS smallL)), .cl (.str (mkS greatL))])
    · exact rfl
    · have n : bOf (e2 opNe (eVar 0) (eC (.str (mkS [])))) [.cl (.str (mkS r)), .cl (.str (mkS smallL)), .cl (.str (mkS greatL))] = .ok (!decide (r = [])) [.cl (.str (mkS r)), .cl (.str (mkS smallL)), .cl (.str (mkS greatL))] := tb_of' (ev_2 (ev_var rfl) ev_c ne_mk)
      cases r with
      | nil => exact st_ret (ev_ifF (tb_andF n) (ev_var rfl))
      | cons c t =>
        have x : e2 opIx (eVar 0) (eC (.int 0)) [.cl (.str (mkS (c :: t))), .cl (.str (mkS smallL)), .cl (.str (mkS greatL))] = .ok (.str (mkS [c])) [.cl (.str (mkS (c :: t))), .cl (.str (mkS smallL)), .cl (.str (mkS greatL))] := ev_2 (ev_var rfl) ev_c (ix_mk 0 (by omega) rfl)
        have m : bOf (e2 opIn (e2 opIx (eVar 0) (eC (.int 0))) (eVar 1)) [.cl (.str (mkS (c :: t))), .cl (.str (mkS smallL)), .cl (.str (mkS greatL))] = .ok (decide (c ∈ smallL)) [.cl (.str (mkS (c :: t))), .cl (.str (mkS smallL)), .cl (.str (mkS greatL))] := tb_of' (ev_2 x (ev_var rfl) in_mk)
        by_cases q : c ∈ smallL
        · rw [decide_eq_true q] at m
          have e : uf (c :: t) = [up1 c] ++ (c :: t).drop 1 := rfl
          rw [e]
          exact st_ret (ev_ifT (tb_andT n m) (ev_2 (ev_2 (ev_var rfl) (ew_kdS (ev_var rfl) (ev_M (ev_var rfl) rfl (ev_cons x ev_nil) (sindex_mk q))) (ix_mk _ (by decide) (small_at c q))) (ev_cut (ev_var rfl) (pa_at ev_c) pa_no (cut_post (a := 1) (by omega)))
            (add_mkS (by rw [List.length_drop]; simp at h ⊢; omega))))
        · rw [decide_eq_false q] at m
          have e : uf (c :: t) = c :: t := by
            show up1 c :: t = c :: t
            rw [small_not q]
          rw [e]
          exact st_ret (ev_ifF (tb_andT n m) (ev_var rfl))
  · rfl
/-! ### lists of signs, compared with nothing -/
theorem toPs_strs : ∀ ws : List Nat, toPs (ws.map fun w => D.str (mkS [w])) = some (ws.map fun w => PyData.str (mkS [w]))
  | [] => rfl
  | w :: ws => by
    show (match toP (D.str (mkS [w])) with
      | none => none
      | some p => (toPs (ws.map fun w => D.str (mkS [w]))).map (p :: ·)) = _
    rw [toPs_strs ws]
    rfl
theorem sign_ok : ∀ c, c < 128 → PyData.canLay0 (.str (mkS [c])) = true := by decide +kernel
theorem signs_shaped {ws : List Nat} (h : ws.all (· < 128) = true) : SeqAt.shaped (.list (ws.map fun w => PyData.str (mkS [w]))) = true := by
  have h1 : ∀ vs : List Nat, vs.all (· < 128) = true → PyData.canLayAll0 (vs.map fun w => PyData.str (mkS [w])) = true := fun vs => by
    induction vs with
    | nil => intro _; rfl
    | cons v vs ih =>
      intro hv
      rw [List.all_cons, Bool.and_eq_true] at hv
      show (PyData.canLay0 (.str (mkS [v])) && PyData.canLayAll0 (vs.map fun w => PyData.str (mkS [w]))) = true
      rw [ih hv.2, sign_ok v (by simpa using hv.1)]
      rfl
  have h2 : ∀ vs : List Nat, PyData.depthAll (vs.map fun w => PyData.str (mkS [w])) = 0 := fun vs => by
    induction vs with
    | nil => rfl
    | cons v vs ih =>
      show max (PyData.depth (.str (mkS [v]))) (PyData.depthAll (vs.map fun w => PyData.str (mkS [w]))) = 0
      rw [ih]
      rfl
  show (PyData.canLayAll0 (ws.map fun w => PyData.str (mkS [w])) && decide (PyData.depthAll (ws.map fun w => PyData.str (mkS [w])) + 1 ≤ 64)) = true
  rw [h1 ws h, h2]
  rfl
theorem ne_nil {ws : List Nat} (h : ws.all (· < 128) = true) : opNe (.lst (ws.map fun w => D.str (mkS [w]))) (.lst []) = .ok (.bl (!decide (ws = []))) := by
  cases ws with
  | nil => rfl
  | cons w ws =>
    have e : toP (.lst ((w :: ws).map fun w => D.str (mkS [w]))) = some (.list ((w :: ws).map fun w => PyData.str (mkS [w]))) := by
      show (toPs ((w :: ws).map fun w => D.str (mkS [w]))).map PyData.list = _
      rw [toPs_strs]
      rfl
    have q : eqD (.lst ((w :: ws).map fun w => D.str (mkS [w]))) (.lst []) = .ok false := by
      show (match toP (.lst ((w :: ws).map fun w => D.str (mkS [w]))), toP (.lst []) with
        | some p, some q => if SeqAt.shaped p = true ∧ SeqAt.shaped q = true then R.ok (PyData.eqv p q) else .bad
        | _, _ => .bad) = _
      rw [e]
      show (if SeqAt.shaped (.list ((w :: ws).map fun w => PyData.str (mkS [w]))) = true ∧ SeqAt.shaped (.list []) = true then R.ok (PyData.eqv (.list ((w :: ws).map fun w => PyData.str (mkS [w]))) (.list [])) else .bad) = _
      rw [if_pos ⟨signs_shaped h, rfl⟩]
      rfl
    show (match eqD (.lst ((w :: ws).map fun w => D.str (mkS [w]))) (.lst []) with
      | .ok b => R.ok (D.bl (!b))
      | .bad => .bad) = _
    rw [q]
    rfl
end DL

set_option Elab.async false
set_option linter.all false
set_option maxRecDepth 100000
set_option maxHeartbeats 400000
namespace DL
open PySem PySem.Spec PyProof.Rows L2
theorem law_rooms_ok : f__law_rooms [] = .ok (.lst (lawRoomL.map fun n => D.str (mkS n))) [] := by
  apply fw_run (ρ0 := []) rfl
  · unfold m__law_rooms
    rw [show ("Talk" : Str) = mkS [84, 97, 108, 107] by decide +kernel, show ("User" : Str) = mkS [85, 115, 101, 114] by decide +kernel, show ("User talk" : Str) = mkS [85, 115, 101, 114, 32, 116, 97, 108, 107] by decide +kernel,
      show ("Template" : Str) = mkS [84, 101, 109, 112, 108, 97, 116, 101] by decide +kernel, show ("Template talk" : Str) = mkS [84, 101, 109, 112, 108, 97, 116, 101, 32, 116, 97, 108, 107] by decide +kernel,
      show ("Category" : Str) = mkS [67, 97, 116, 101, 103, 111, 114, 121] by decide +kernel, show ("Category talk" : Str) = mkS [67, 97, 116, 101, 103, 111, 114, 121, 32, 116, 97, 108, 107] by decide +kernel,
      show ("Help" : Str) = mkS [72, 101, 108, 112] by decide +kernel, show ("Help talk" : Str) = mkS [72, 101, 108, 112, 32, 116, 97, 108, 107] by decide +kernel]
    exact st_ret (ev_N (ev_cons ev_c (ev_cons ev_c (ev_cons ev_c (ev_cons ev_c (ev_cons ev_c (ev_cons ev_c (ev_cons ev_c (ev_cons ev_c (ev_cons ev_c ev_nil))))))))) rfl)
  · rfl
def roomT (s : Option (List Nat)) : List Nat := s.getD []
def ltB : MS := sSeq (sAsg (eCut (eVar 1) (pAt (eN opLen (aCons (eVar 4) (aNil)))) (pNo)) (tgName 5))
  (sIf (bAnd (bOf (e2 opEq (eMT .str opLower (eCut (eVar 1) (pNo) (pAt (eN opLen (aCons (eVar 4) (aNil))))) aNil) (eMT .str opLower (eVar 4) aNil))) (bOr (bOf (e2 opEq (eCut (eVar 5) (pNo) (pAt (eC (.int 1)))) (eC (.str ":")))) (bOf (e2 opEq (eCut (eVar 5) (pNo) (pAt (eC (.int 2)))) (eC (.str " :")))))) (sPar 2 3 (aCons (eVar 4) (aCons (eCall f__law_made_one (aCons (eCut (eVar 5) (pAt (e2 opAdd (mOr (isKd .str (eVar 5)) (eMT .str opSIndex (eVar 5) (aCons (eC (.str ":")) (aNil))) (eMT .list opIndex (eVar 5) (aCons (eC (.str ":")) (aNil)))) (eC (.int 1)))) (pNo)) (aNil))) (aNil)))) (sNext))
theorem s_bc : (" :" : Str) = mkS [32, 58] := by decide +kernel
def ltE (T : D) (o : List Nat) (s : Option (List Nat)) (y z : Sl) : Rho := [.cl T, .cl (.str (mkS o)), .cl (.str (mkS (roomT s))), .cl (.str (mkS (restOf o s))), y, z, .no, .no]
theorem lt_turn {T : D} {o n : List Nat} {s : Option (List Nat)} {z : Sl} (hl : o.length ≤ 900000) (ho : Nm o) (ha : o.all (· < 128) = true) (hn : n ∈ roomL) :
    ltB (ltE T o s (.cl (.str (mkS n))) z) = .nx (ltE T o (lastR o s n) (.cl (.str (mkS n))) (.cl (.str (mkS (o.drop n.length))))) := by
  obtain ⟨na, nl⟩ := room_ascii n hn
  unfold ltB
  rw [s_co, s_bc]
  apply st_seq (ρ1 := ltE T o s (.cl (.str (mkS n))) (.cl (.str (mkS (o.drop n.length)))))
  · exact sw_asg (ev_cut (ev_var rfl) (pa_at (ev_N (ev_cons (ev_var rfl) ev_nil) (len_mkS (by omega)))) pa_no (cut_post (by omega))) rfl
  · have c1 : bOf (e2 opEq (eMT .str opLower (eCut (eVar 1) (pNo) (pAt (eN opLen (aCons (eVar 4) (aNil))))) aNil) (eMT .str opLower (eVar 4) aNil)) (ltE T o s (.cl (.str (mkS n))) (.cl (.str (mkS (o.drop n.length))))) =
        .ok (decide ((o.take n.length).map lo1 = n.map lo1)) (ltE T o s (.cl (.str (mkS n))) (.cl (.str (mkS (o.drop n.length))))) :=
      tb_of' (ev_2 (ev_M (ev_cut (ev_var rfl) pa_no (pa_at (ev_N (ev_cons (ev_var rfl) ev_nil) (len_mkS (by omega)))) (cut_pre (by omega))) rfl ev_nil (lower_mk (all_sub (t := o) (fun c hc => .inl (List.mem_of_mem_take hc)) ha) (by rw [List.length_take]; omega)))
        (ev_M (ev_var rfl) rfl ev_nil (lower_mk na (by omega))) eq_mkS)
    have hd : (o.drop n.length).length ≤ 900000 := by rw [List.length_drop]; omega
    have c2 : bOf (e2 opEq (eCut (eVar 5) (pNo) (pAt (eC (.int 1)))) (eC (.str (mkS [58])))) (ltE T o s (.cl (.str (mkS n))) (.cl (.str (mkS (o.drop n.length))))) = .ok (decide ((o.drop n.length).take 1 = [58])) (ltE T o s (.cl (.str (mkS n))) (.cl (.str (mkS (o.drop n.length))))) :=
      tb_of' (ev_2 (ev_cut (ev_var rfl) pa_no (pa_at ev_c) (cut_pre (b := 1) (by omega))) ev_c eq_mkS)
    have c3 : bOf (e2 opEq (eCut (eVar 5) (pNo) (pAt (eC (.int 2)))) (eC (.str (mkS [32, 58])))) (ltE T o s (.cl (.str (mkS n))) (.cl (.str (mkS (o.drop n.length))))) = .ok (decide ((o.drop n.length).take 2 = [32, 58])) (ltE T o s (.cl (.str (mkS n))) (.cl (.str (mkS (o.drop n.length))))) :=
      tb_of' (ev_2 (ev_cut (ev_var rfl) pa_no (pa_at ev_c) (cut_pre (b := 2) (by omega))) ev_c eq_mkS)
    have c := bw_and c1 (fun _ => bw_or c2 (fun _ => c3))
    by_cases q : Ahead o n
    · obtain ⟨q1, q2⟩ := q
      obtain ⟨p1, p2⟩ := ahead_post hn ⟨q1, q2⟩
      have e : lastR o s n = some n := by unfold lastR; rw [if_pos ⟨q1, q2⟩]
      rw [e]
      have ct : (decide ((o.take n.length).map lo1 = n.map lo1) && (decide ((o.drop n.length).take 1 = [58]) || decide ((o.drop n.length).take 2 = [32, 58]))) = true := by
        simp only [Bool.and_eq_true, Bool.or_eq_true, decide_eq_true_eq]
        exact ⟨q1, q2⟩
      rw [ct] at c
      have h58 : 58 ∈ o := ((ahead_iff ho hn).mp ⟨q1, q2⟩).1
      have mm : mo (post58 (o.drop n.length)) = st (post58 o) := by rw [p1, mo_st (post_nd ho.nd h58)]
      have lm := law_made_ok (cs := post58 (o.drop n.length)) (by rw [← post_drop, List.length_drop]; omega)
      rw [mm, ← post_drop] at lm
      exact st_ifT c (sw_par (ev_cons (ev_var rfl) (ev_cons (ev_call (ev_cons (ev_cut (ev_var rfl) (pa_at (ev_2 (ew_kdS (ev_var rfl) (ev_M (ev_var rfl) rfl (ev_cons ev_c ev_nil) (sindex_mk p2))) ev_c add_int')) pa_no (cut_post (a := at1 58 (o.drop n.length) + 1) (by omega))) ev_nil) lm) ev_nil)) rfl)
    · have e : lastR o s n = s := by unfold lastR; rw [if_neg q]
      rw [e]
      have cf : (decide ((o.take n.length).map lo1 = n.map lo1) && (decide ((o.drop n.length).take 1 = [58]) || decide ((o.drop n.length).take 2 = [32, 58]))) = false := by
        rw [← Bool.not_eq_true]
        simp only [Bool.and_eq_true, Bool.or_eq_true, decide_eq_true_eq]
        exact q
      rw [cf] at c
      exact st_ifF c st_next
theorem lt_loop {T : D} {o : List Nat} (hl : o.length ≤ 900000) (ho : Nm o) (ha : o.all (· < 128) = true) : ∀ (ns : List (List Nat)) (s : Option (List Nat)) (y z : Sl), (∀ n ∈ ns, n ∈ roomL) →
    ∃ y' z', forLoop (tgName 4) ltB (ns.map fun n => D.str (mkS n)) (ltE T o s y z) = .nx (ltE T o (ns.foldl (lastR o) s) y' z')
  | [], s, y, z, _ => ⟨y, z, rfl⟩
  | n :: ns, s, y, z, h => by
    obtain ⟨y', z', e⟩ := lt_loop (T := T) hl ho ha ns (lastR o s n) (.cl (.str (mkS n))) (.cl (.str (mkS (o.drop n.length)))) fun m hm => h m (List.mem_cons_of_mem _ hm)
    exact ⟨y', z', for_nx rfl (lt_turn hl ho ha (h n List.mem_cons_self)) e⟩
theorem s_barN : ("[]{}|#<>\n" : Str) = mkS [91, 93, 123, 125, 124, 35, 60, 62, 10] := by decide +kernel
theorem bad_in {c : Nat} : decide (c ∈ [91, 93, 123, 125, 124, 35, 60, 62, 10]) = bad c := by
  rw [Bool.eq_iff_iff, bad_iff, decide_eq_true_eq]
  simp
  omega
theorem law_title_ok {cs : List Nat} (h : cs.length ≤ 900000) (ha : cs.all (· < 128) = true) : f__law_title [.str (mkS cs)] = .ok (optS (TT cs)) [] := by
  have hm := mo_len cs
  have hn := mo_nm cs
  have hoa : (mo cs).all (· < 128) = true := all_sub (fun c hc => mo_mem hc) ha
  have e1 : f__law_made_one [.str (mkS cs)] = _ := law_made_ok (by omega)
  have A2 : bOf (e2 opNe (eLC [7] (tgName 7) (bOf (e2 opIn (eVar 7) (eC (.str "[]{}|#<>\n")))) (eVar 7) (iSeq (eVar 0))) (eN mkLst (aNil))) [.cl (.str (mkS cs)), .cl (.str (mkS (mo cs))), .no, .no, .no, .no, .no, .no] = .ok (cs.any bad) [.cl (.str (mkS cs)), .cl (.str (mkS (mo cs))), .no, .no, .no, .no, .no, .no] := by
    rw [s_barN]
    have e : cs.any bad = !decide (cs.filter bad = []) := by
      rw [Bool.eq_iff_iff]
      simp
    rw [e]
    exact tb_of' (ev_2 (ev_lcF (G := fun c => D.str (mkS [c])) (E := fun c => D.str (mkS [c])) (P := bad) (env := fun c => [.cl (.str (mkS cs)), .cl (.str (mkS (mo cs))), .no, .no, .no, .no, .no, .cl (.str (mkS [c]))]) (ρ1 := [.cl (.str (mkS cs)), .cl (.str (mkS (mo cs))), .no, .no, .no, .no, .no, .no])
      (it_seq (ev_var rfl) (items_mk (by omega))) rfl rfl (fun _ _ => rfl) (fun c _ => tb_of' (ev_2 (ev_var rfl) ev_c (by rw [in_mk, bad_in]))) (fun c _ _ => ev_var rfl) (fun _ _ => rfl)) (ev_N ev_nil rfl)
      (ne_nil (by rw [List.all_eq_true] at ha ⊢; exact fun c hc => ha c (List.mem_filter.mp hc).1)))
  by_cases hb : cs.any bad = true
  · rw [hb] at A2
    have e : TT cs = none := by unfold TT; rw [if_pos hb]
    rw [e]
    apply fw_run (ρ0 := [.cl (.str (mkS cs)), .no, .no, .no, .no, .no, .no, .no]) rfl
    · unfold m__law_title
      exact st_seq (st_asg (ev_call (ev_cons (ev_var rfl) ev_nil) e1)) (st_seqR (st_ifT A2 (st_ret ev_c)))
    · rfl
  · have hb' : cs.any bad = false := by simpa using hb
    rw [hb'] at A2
    have e : TT cs = fitT (uf (restOf (mo cs) (nameOf (mo cs)))) (joinT (nameOf (mo cs)) (uf (restOf (mo cs) (nameOf (mo cs))))) := by unfold TT; rw [if_neg hb]
    rw [e]
    clear e hb hb'
    generalize mo cs = o at hm hn hoa e1 A2 ⊢
    obtain ⟨y, z, L⟩ := lt_loop (T := .str (mkS cs)) (o := o) (by omega) hn hoa lawRoomL none .no .no fun n hn => (law_rooms_mem n).mp hn
    rw [last_name hn] at L
    have hr : (restOf o (nameOf o)).length ≤ 900000 := by
      cases nameOf o with
      | none => show o.length ≤ _; omega
      | some n =>
        have q1 := st_len (post58 o)
        rw [← post_drop, List.length_drop] at q1
        show (st (post58 o)).length ≤ _
        rw [← post_drop]
        omega
    have hN : ∀ n, nameOf o = some n → n.length ≤ 20 ∧ n ≠ [] := fun n e => by
      unfold nameOf at e
      split at e
      · exact ⟨(room_ascii n (rm_some e).1).2, (room_nm n (rm_some e).1).2.2.2.2.1⟩
      · cases e
    have E : ltE (.str (mkS cs)) o (nameOf o) y z = [.cl (.str (mkS cs)), .cl (.str (mkS o)), .cl (.str (mkS (roomT (nameOf o)))), .cl (.str (mkS (restOf o (nameOf o)))), y, z, .no, .no] := rfl
    rw [E] at L
    generalize nameOf o = n at L hr hN ⊢
    generalize restOf o n = r at L hr ⊢
    have hu := uf_len r
    have eg : f__law_great [.str (mkS r)] = _ := great_law_ok (by omega)
    have A5 : sAsg (eIf (bOf (e2 opEq (eVar 2) (eC (.str "")))) (eVar 3) (e2 opAdd (e2 opAdd (eVar 2) (eC (.str ":"))) (eVar 3))) (tgName 6) [.cl (.str (mkS cs)), .cl (.str (mkS o)), .cl (.str (mkS (roomT n))), .cl (.str (mkS (uf r))), y, z, .no, .no] =
        .nx [.cl (.str (mkS cs)), .cl (.str (mkS o)), .cl (.str (mkS (roomT n))), .cl (.str (mkS (uf r))), y, z, .cl (.str (mkS (joinT n (uf r)))), .no] := by
      rw [s_co, s0]
      cases n with
      | none => exact sw_asg (ev_ifT (tb_of' (ev_2 (ev_var rfl) ev_c eq_mkS)) (ev_var rfl)) rfl
      | some n =>
        have := hN n rfl
        have e : joinT (some n) (uf r) = n ++ [58] ++ uf r := by
          show n ++ 58 :: uf r = _
          simp
        rw [e]
        exact sw_asg (ev_ifF (tb_of' (ev_2 (ev_var rfl) ev_c (by rw [eq_mkS, decide_eq_false (show ¬ roomT (some n) = [] from this.2)]))) (ev_2 (ev_2 (ev_var rfl) ev_c (add_mkS (by show n.length + _ ≤ _; simp; omega))) (ev_var rfl) (add_mkS (by show (n ++ [58]).length + _ ≤ _; simp; omega)))) rfl
    have hj : (joinT n (uf r)).length ≤ 901000 := by
      cases n with
      | none => show (uf r).length ≤ _; omega
      | some n =>
        have := (hN n rfl).1
        show (n ++ 58 :: uf r).length ≤ _
        rw [List.length_append, List.length_cons]
        omega
    have A6 : ∀ v w : List Nat, v.length ≤ 900000 → w.length ≤ 901000 → sRet (eIf (bAnd (bOf (e2 opNe (eVar 3) (eC (.str "")))) (bAnd (bOf (e2 opNe (e2 opIx (eVar 3) (eC (.int 0))) (eC (.str ":")))) (bOf (e2 opLt (eN opLen (aCons (eVar 6) (aNil))) (eC (.int 61)))))) (eVar 6) (eC .non)) [.cl (.str (mkS cs)), .cl (.str (mkS o)), .cl (.str (mkS (roomT n))), .cl (.str (mkS v)), y, z, .cl (.str (mkS w)), .no] =
        .ret (optS (fitT v w)) [.cl (.str (mkS cs)), .cl (.str (mkS o)), .cl (.str (mkS (roomT n))), .cl (.str (mkS v)), y, z, .cl (.str (mkS w)), .no] := fun v w hv hw => by
      rw [s0, s_co]
      generalize he : ([.cl (.str (mkS cs)), .cl (.str (mkS o)), .cl (.str (mkS (roomT n))), .cl (.str (mkS v)), y, z, .cl (.str (mkS w)), .no] : Rho) = ρ
      have v3 : eVar 3 ρ = .ok (.str (mkS v)) ρ := by rw [← he]; rfl
      have v6 : eVar 6 ρ = .ok (.str (mkS w)) ρ := by rw [← he]; rfl
      have g : bOf (e2 opLt (eN opLen (aCons (eVar 6) (aNil))) (eC (.int 61))) ρ = .ok (decide (((w.length : Nat) : Int) < 61)) ρ := tb_of' (ev_2 (ev_N (ev_cons v6 ev_nil) (len_mkS (by omega))) ev_c lt_int)
      have z1 : bOf (e2 opNe (eVar 3) (eC (.str (mkS [])))) ρ = .ok (!decide (v = [])) ρ := tb_of' (ev_2 v3 ev_c ne_mk)
      cases v with
      | nil => exact st_ret (ev_ifF (tb_andF z1) ev_c)
      | cons c t =>
        have z2 : bOf (e2 opNe (e2 opIx (eVar 3) (eC (.int 0))) (eC (.str (mkS [58])))) ρ = .ok (!decide ([c] = [58])) ρ := tb_of' (ev_2 (ev_2 v3 ev_c (ix_mk 0 (by omega) rfl)) ev_c ne_mk)
        by_cases q2 : c = 58
        · subst q2
          exact st_ret (ev_ifF (tb_andT z1 (tb_andF z2)) ev_c)
        · rw [decide_eq_false (by simpa using q2)] at z2
          by_cases q3 : 60 < w.length
          · rw [decide_eq_false (by omega)] at g
            have ef : fitT (c :: t) w = none := by unfold fitT; rw [if_pos (.inr (.inr q3))]
            rw [ef]
            exact st_ret (ev_ifF (tb_andT z1 (tb_andT z2 g)) ev_c)
          · rw [decide_eq_true (by omega)] at g
            rw [fit_of (by simp) (by simpa using q2) (by omega)]
            exact st_ret (ev_ifT (tb_andT z1 (tb_andT z2 g)) v6)
    apply fw_run (ρ0 := [.cl (.str (mkS cs)), .no, .no, .no, .no, .no, .no, .no]) rfl
    · unfold m__law_title
      refine st_seq (st_asg (ev_call (ev_cons (ev_var rfl) ev_nil) e1)) (st_seq (st_ifF A2 st_next) (st_seq (ρ1 := [.cl (.str (mkS cs)), .cl (.str (mkS o)), .cl (.str (mkS [])), .cl (.str (mkS o)), .no, .no, .no, .no]) ?_ (st_seq (st_for (it_seq (ev_call ev_nil law_rooms_ok) rfl) L)
        (st_seq (sw_asg (ev_call (ev_cons (ev_var rfl) ev_nil) eg) rfl) (st_seq A5 (A6 (uf r) (joinT n (uf r)) (by omega) hj))))))
      rw [s0]
      exact sw_par (ev_cons ev_c (ev_cons (ev_var rfl) ev_nil)) rfl
    · rfl
end DL

set_option Elab.async false
set_option linter.all false
set_option maxRecDepth 100000
set_option maxHeartbeats 400000
namespace DL
open PySem PySem.Spec PyProof.Rows L2
theorem okc_ascii {cs : List Nat} (h : cs.all okc = true) : cs.all (· < 128) = true := by
  rw [List.all_eq_true] at h ⊢
  intro c hc
  have := h c hc
  simp [okc] at this
  simp
  omega
theorem okc_up1 {c : Nat} (h : okc c = true) : okc (up1 c) = true := by
  simp [okc] at h ⊢
  unfold up1
  split <;> omega
theorem uf_okc {r : List Nat} (h : ∀ c ∈ r, okc c = true) : ∀ c ∈ uf r, okc c = true := by
  cases r with
  | nil => exact h
  | cons d r =>
    intro c hc
    rcases List.mem_cons.mp hc with e | hc
    · rw [e]; exact okc_up1 (h d List.mem_cons_self)
    · exact h c (List.mem_cons_of_mem _ hc)
theorem room_okc : ∀ n ∈ roomL, n.all okc = true := by decide +kernel
theorem TT_okc {cs t : List Nat} (ha : cs.all okc = true) (h : TT cs = some t) : t.all okc = true := by
  rw [List.all_eq_true] at ha
  have hm : ∀ c ∈ mo cs, okc c = true := fun c hc => by
    rcases mo_mem hc with z | z
    · exact ha c z
    · rw [z]; rfl
  unfold TT at h
  split at h
  · cases h
  obtain ⟨_, _, _, rfl⟩ := fit_some h
  rw [List.all_eq_true]
  generalize mo cs = o at hm ⊢
  cases e : nameOf o with
  | none => exact uf_okc hm
  | some n =>
    have hn : n ∈ roomL := by
      unfold nameOf at e
      split at e
      · exact (rm_some e).1
      · cases e
    have hr : ∀ c ∈ uf (st (post58 o)), okc c = true := uf_okc fun c hc => hm c (post_mem (st_mem hc))
    intro c hc
    have hc : c ∈ n ++ 58 :: uf (st (post58 o)) := hc
    rcases List.mem_append.mp hc with z | z
    · exact List.all_eq_true.mp (room_okc n hn) c z
    · rcases List.mem_cons.mp z with z | z
      · rw [z]; rfl
      · exact hr c z
/-! ### what is no text -/
theorem not_text {d : D} (h : opIs [.str] [("InvalidCount", false), ("InvalidText", false), ("InvalidTitle", false)] d = .ok (.bl false)) : f_is_text [d] = .ok (.bl false) [] := by
  apply fw_run (ρ0 := [.cl d, .no]) rfl
  · unfold m_is_text
    exact st_ret (ev_andF (ev_1 (ev_var rfl) h) rfl)
  · rfl
theorem is_text_mk {ks : List Nat} (hl : ks.length ≤ 16777216) : f_is_text [.str (mkS ks)] = .ok (.bl (ks.all okc)) [] := by
  have q := is_text_str (z := mkS ks) (by rw [mkS_len]; exact hl)
  rw [mkS_list] at q
  exact q
theorem check_no {d : D} (h : f_is_text [d] = .ok (.bl false) []) : f_check_text [d] = .exn "InvalidText" d [] := by
  apply ex_run (ρ0 := [.cl d]) rfl
  · unfold m_check_text
    exact st_ifT (tb_not' (tb_tr' (ev_call (ev_cons (ev_var rfl) ev_nil) h) rfl)) (st_raise (ev_var rfl))
  · rfl
theorem check_mk {ks : List Nat} (hl : ks.length ≤ 16777216) (ha : ks.all okc = true) : f_check_text [.str (mkS ks)] = .ok .non [] := by
  have e := is_text_mk hl
  rw [ha] at e
  have : m_check_text [.cl (.str (mkS ks))] = .nx [.cl (.str (mkS ks))] := st_ifF (tb_not' (tb_tr' (ev_call (ev_cons (ev_var rfl) ev_nil) e) rfl)) st_next
  unfold f_check_text runFn
  rw [show startR 1 [] [.str (mkS ks)] = [.cl (.str (mkS ks))] from rfl, this]
  rfl
theorem str_ok {cs : List Nat} (ha : cs.all (· < 128) = true) : PyData.canLay0 (.str (mkS cs)) = true := by
  show (mkS cs).cps.all (· < 0x110000) = true
  rw [← Array.all_toList, mkS_list]
  rw [List.all_eq_true] at ha ⊢
  intro c hc
  have := ha c hc
  simp at this ⊢
  omega
theorem eq_opt {n : Option (List Nat)} {cs : List Nat} (ha : cs.all (· < 128) = true) : opEq (optS n) (.str (mkS cs)) = .ok (.bl (decide (n = some cs))) := by
  cases n with
  | some t =>
    show opEq (.str (mkS t)) (.str (mkS cs)) = _
    rw [eq_mkS]
    congr 2
    rw [Bool.eq_iff_iff]
    simp
  | none =>
    show (match eqD .non (.str (mkS cs)) with
      | .ok b => R.ok (D.bl b)
      | .bad => .bad) = _
    have e : eqD .non (.str (mkS cs)) = .ok false := by
      show (if SeqAt.shaped .none = true ∧ SeqAt.shaped (.str (mkS cs)) = true then R.ok (PyData.eqv .none (.str (mkS cs))) else .bad) = _
      have z : SeqAt.shaped (.str (mkS cs)) = true := by
        show (PyData.canLay0 (.str (mkS cs)) && decide (PyData.depth (.str (mkS cs)) ≤ 64)) = true
        rw [str_ok ha]
        rfl
      rw [if_pos ⟨rfl, z⟩]
      rfl
    rw [e]
    rfl
theorem is_title_ok {cs : List Nat} (h : cs.length ≤ 900000) (ha : cs.all okc = true) : f_is_title [.str (mkS cs)] = .ok (.bl (decide (TT cs = some cs))) [] := by
  have e := is_text_mk (ks := cs) (by omega)
  rw [ha] at e
  apply fw_run (ρ0 := [.cl (.str (mkS cs))]) rfl
  · unfold m_is_title
    exact st_ret (ev_andT (ev_call (ev_cons (ev_var rfl) ev_nil) e) rfl (ev_2 (ev_call (ev_cons (ev_var rfl) ev_nil) (title_read_ok h (okc_ascii ha))) (ev_var rfl) (eq_opt (okc_ascii ha))))
  · rfl
theorem is_title_no {d : D} (h : f_is_text [d] = .ok (.bl false) []) : f_is_title [d] = .ok (.bl false) [] := by
  apply fw_run (ρ0 := [.cl d]) rfl
  · unfold m_is_title
    exact st_ret (ev_andF (ev_call (ev_cons (ev_var rfl) ev_nil) h) rfl)
  · rfl
/-! ### asked, by place and by name -/
theorem mk2 {x y : D} : mkLst [x, y] = .ok (.lst [x, y]) := rfl
end DL

set_option Elab.async false
set_option linter.all false
set_option maxRecDepth 100000
set_option maxHeartbeats 400000
namespace DL
open PySem PySem.Spec PyProof.Rows L2
theorem same_leaf {rc : Fn} {d : D} (h1 : opIs [.dic] [("InvalidCount", false), ("InvalidText", false), ("InvalidTitle", false)] d = .ok (.bl false)) (h2 : opIs [.lst, .tup] [("InvalidCount", false), ("InvalidText", false), ("InvalidTitle", false)] d = .ok (.bl false)) (h3 : opIs [.lst, .tup, .dic] [("InvalidCount", false), ("InvalidText", false), ("InvalidTitle", false)] d = .ok (.bl false))
    {k4 k5 k6 : Bool} (h4 : opIs [.int, .bl] [("InvalidCount", false), ("InvalidText", false), ("InvalidTitle", false)] d = .ok (.bl k4)) (h5 : opIs [.str] [("InvalidCount", false), ("InvalidText", false), ("InvalidTitle", false)] d = .ok (.bl k5)) (h6 : opIs [.bl] [("InvalidCount", false), ("InvalidText", false), ("InvalidTitle", false)] d = .ok (.bl k6)) (h7 : opEq d d = .ok (.bl true)) :
    runFn 6 [] .cl (m__law_same rc) [d, d] = .ok (.bl true) [] := by
  have n1 : opNe (.bl (isNon d)) (.bl (isNon d)) = .ok (.bl false) := by
    rw [ne_bl]
    cases isNon d <;> rfl
  have e4 : opEq (.bl k4) (.bl k4) = .ok (.bl true) := by rw [eq_bl]; cases k4 <;> rfl
  have e5 : opEq (.bl k5) (.bl k5) = .ok (.bl true) := by rw [eq_bl]; cases k5 <;> rfl
  have e6 : opEq (.bl k6) (.bl k6) = .ok (.bl true) := by rw [eq_bl]; cases k6 <;> rfl
  have isn : opIsN d .non = .ok (.bl (isNon d)) := rfl
  exact fn_run (ρ0 := [.cl d, .cl d, .no, .no, .no, .no]) rfl
    (st_seq (st_ifF (tb_tr' (ev_1 (ev_var rfl) h1) truth_bl) st_next)
    (st_seq (st_ifF (tb_tr' (ev_1 (ev_var rfl) h2) truth_bl) st_next)
    (st_seq (st_ifF (tb_orF (tb_tr' (ev_1 (ev_var rfl) h3) truth_bl) (tb_of' (ev_2 (ev_2 (ev_var rfl) ev_c isn) (ev_2 (ev_var rfl) ev_c isn) n1))) st_next)
    (st_seq (st_asg (ev_andT (ev_2 (ev_1 (ev_var rfl) h4) (ev_1 (ev_var rfl) h4) e4) truth_bl (ev_2 (ev_1 (ev_var rfl) h5) (ev_1 (ev_var rfl) h5) e5)))
    (st_ret (ev_andT (ev_var rfl) truth_bl (ev_andT (ev_2 (ev_1 (ev_var rfl) h6) (ev_1 (ev_var rfl) h6) e6) truth_bl (ev_2 (ev_var rfl) (ev_var rfl) h7))))))))
theorem zip_map (xs : List D) : (xs.zip xs).map (fun p : D × D => D.tup [p.1, p.2]) = xs.map fun x => D.tup [x, x] := by
  induction xs with
  | nil => rfl
  | cons x xs ih =>
    rw [List.zip_cons_cons, List.map_cons, List.map_cons, ih]
theorem same_seq {rc : Fn} {xs : List D} {d : D} (hd : d = .lst xs ∨ d = .tup xs) (hl : xs.length ≤ 16777216) (h : ∀ x ∈ xs, rc [x, x] = .ok (.bl true) []) : runFn 6 [] .cl (m__law_same rc) [d, d] = .ok (.bl true) [] := by
  have h1 : opIs [.dic] [("InvalidCount", false), ("InvalidText", false), ("InvalidTitle", false)] d = .ok (.bl false) := by rcases hd with rfl | rfl <;> rfl
  have h2 : opIs [.lst, .tup] [("InvalidCount", false), ("InvalidText", false), ("InvalidTitle", false)] d = .ok (.bl true) := by rcases hd with rfl | rfl <;> rfl
  obtain ⟨k3, h3⟩ : ∃ k, opIs [.lst] [("InvalidCount", false), ("InvalidText", false), ("InvalidTitle", false)] d = .ok (.bl k) := by rcases hd with rfl | rfl <;> exact ⟨_, rfl⟩
  obtain ⟨k4, h4⟩ : ∃ k, opIs [.tup] [("InvalidCount", false), ("InvalidText", false), ("InvalidTitle", false)] d = .ok (.bl k) := by rcases hd with rfl | rfl <;> exact ⟨_, rfl⟩
  have e3 : opEq (.bl k3) (.bl k3) = .ok (.bl true) := by rw [eq_bl]; cases k3 <;> rfl
  have e4 : opEq (.bl k4) (.bl k4) = .ok (.bl true) := by rw [eq_bl]; cases k4 <;> rfl
  have hn : opLen [d] = .ok (.int (xs.length : Nat)) := by rcases hd with rfl | rfl <;> rfl
  have en : opEq (.int (xs.length : Nat)) (.int (xs.length : Nat)) = .ok (.bl true) := by rw [eq_int]; simp
  have hz : zipD [d, d] = .ok (xs.map fun x => D.tup [x, x]) := by
    rw [← zip_map]
    rcases hd with rfl | rfl
    · exact if_pos hl
    · exact if_pos hl
  exact fn_run (ρ0 := [.cl d, .cl d, .no, .no, .no, .no]) rfl
    (st_seq (st_ifF (tb_tr' (ev_1 (ev_var rfl) h1) truth_bl) st_next)
    (st_seqR (st_ifT (tb_tr' (ev_1 (ev_var rfl) h2) truth_bl)
      (st_seq (st_asg (ev_andT (ev_2 (ev_1 (ev_var rfl) h3) (ev_1 (ev_var rfl) h3) e3) truth_bl (ev_2 (ev_1 (ev_var rfl) h4) (ev_1 (ev_var rfl) h4) e4)))
      (st_ret (ev_andT (ev_var rfl) truth_bl (ev_andT (ev_2 (ev_N (ev_cons (ev_var rfl) ev_nil) hn) (ev_N (ev_cons (ev_var rfl) ev_nil) hn) en) truth_bl
        (ev_N (ev_cons (ev_lcM (G := fun x => D.tup [x, x]) (E := fun _ => D.bl true) (env := fun x => [.cl d, .cl d, .cl (.bl true), .no, .cl x, .cl x]) (ρ1 := [.cl d, .cl d, .cl (.bl true), .no, .no, .no])
          (it_zip (ev_cons (ev_var rfl) (ev_cons (ev_var rfl) ev_nil)) hz) rfl rfl (fun _ _ => rfl) (fun x hx => ev_call (ev_cons (ev_var rfl) (ev_cons (ev_var rfl) ev_nil)) (h x hx)) (fun _ _ => rfl)) ev_nil) all_trues))))))))
theorem same_dic {n : Nat} : f__law_same_ (n + 1) [.dic [], .dic []] = .ok (.bl true) [] := by
  have i : opIs [.dic] [("InvalidCount", false), ("InvalidText", false), ("InvalidTitle", false)] (.dic []) = .ok (.bl true) := rfl
  have l : opLen [.dic []] = .ok (.int 0) := rfl
  have e : opEq (.int 0) (.int 0) = .ok (.bl true) := rfl
  have a : opAll [.lst []] = .ok (.bl true) := rfl
  have t : items (.dic []) = .ok [] := rfl
  apply fw_run (ρ0 := [.cl (.dic []), .cl (.dic []), .no, .no, .no, .no]) rfl
  · unfold m__law_same
    exact st_seqR (st_ifT (tb_tr' (ev_1 (ev_var rfl) i) truth_bl) (st_seq (st_asg (ev_andT (ev_1 (ev_var rfl) i) truth_bl (ev_andT (ev_2 (ev_N (ev_cons (ev_var rfl) ev_nil) l) (ev_N (ev_cons (ev_var rfl) ev_nil) l) e) truth_bl
      (ev_N (ev_cons (ev_lc (it_seq (ev_var rfl) t) rfl) ev_nil) a)))) (st_ret (ev_andT (ev_var rfl) truth_bl (ev_N (ev_cons (ev_lc (it_seq (ev_var rfl) t) rfl) ev_nil) a)))))
  · rfl
theorem eq_self_exc {a : Addr} {c : Str} {v : D} : opEq (.exc a c v) (.exc a c v) = .ok (.bl true) := by
  show (match some (decide (a = a)) with
    | some true => R.ok (D.bl true)
    | some false => .bad
    | none => _) = _
  rw [decide_eq_true rfl]
theorem same_exc {n : Nat} {a : Addr} {v : D} : f__law_same_ (n + 1) [.exc a "InvalidCount" v, .exc a "InvalidCount" v] = .ok (.bl true) [] := same_leaf rfl rfl rfl rfl rfl rfl eq_self_exc
theorem same_refl : ∀ (n : Nat) (d : D), Sm n d → f__law_same_ n [d, d] = .ok (.bl true) []
  | 0, _, h => h.elim
  | n + 1, .non, _ => same_leaf rfl rfl rfl rfl rfl rfl rfl
  | n + 1, .bl b, _ => same_leaf rfl rfl rfl rfl rfl rfl (by rw [eq_bl]; simp)
  | n + 1, .int b, _ => same_leaf rfl rfl rfl rfl rfl rfl (by rw [eq_int]; simp)
  | n + 1, .str b, _ => same_leaf rfl rfl rfl rfl rfl rfl (by show R.ok (D.bl (b == b)) = _; simp)
  | n + 1, .lst xs, h => same_seq (.inl rfl) h.1 fun x hx => same_refl n x (h.2 x hx)
  | n + 1, .tup xs, h => same_seq (.inr rfl) h.1 fun x hx => same_refl n x (h.2 x hx)
  | _ + 1, .dic _, h => h.elim
  | _ + 1, .ros _, h => h.elim
  | _ + 1, .exc _ _ _, h => h.elim
/-- a word and a thing -/
theorem same_pair {n : Nat} {w : Str} {d : D} (h : f__law_same_ (n + 1) [d, d] = .ok (.bl true) []) : f__law_same_ (n + 2) [.lst [.str w, d], .lst [.str w, d]] = .ok (.bl true) [] :=
  same_seq (xs := [.str w, d]) (.inl rfl) (Nat.le_of_ble_eq_true rfl) fun x hx => by
    have e : x = .str w ∨ x = d := by simpa using hx
    rcases e with rfl | rfl
    · exact same_refl (n + 1) _ trivial
    · exact h
def txB : D → Bool
  | .str s => s.cps.toList.all okc && decide (s.cps.toList.length ≤ 10)
  | _ => false
theorem tx_of {xs : List D} (h : xs.all txB = true) {d : D} (hd : d ∈ xs) : ∃ cs : List Nat, d = .str (mkS cs) ∧ cs.all okc = true ∧ cs.length ≤ 10 := by
  have q := List.all_eq_true.mp h d hd
  cases d with
  | str s =>
    have q : (s.cps.toList.all okc && decide (s.cps.toList.length ≤ 10)) = true := q
    rw [Bool.and_eq_true] at q
    exact ⟨s.cps.toList, rfl, q.1, of_decide_eq_true q.2⟩
  | _ => exact absurd q Bool.false_ne_true
theorem one_tx {n : Int} {p : D} {xs : List D} (hx : xs.all txB = true) (h : PV n p) (hn : n < 1000000) (h0 : 0 < xs.length) (h1 : xs.length < 2 ^ 27) :
    ∃ (cs : List Nat) (p' : D), f__law_one_of [p, .lst xs] = .ok (.str (mkS cs)) [p'] ∧ (cs.all okc = true ∧ cs.length ≤ 10) ∧ PV (n + 1) p' := by
  obtain ⟨d, p', e, hd, hp⟩ := one_of_lst h hn h0 h1
  obtain ⟨cs, rfl, h1, h2⟩ := tx_of hx hd
  exact ⟨cs, p', e, ⟨h1, h2⟩, hp⟩
theorem s_x : ("x" : Str) = mkS [120] := by decide +kernel
theorem s_e : ("" : Str) = mkS [] := by decide +kernel
theorem sm_opt {n : Option (List Nat)} : Sm 7 (optS n) := by cases n <;> trivial
theorem mk1 {x : D} : mkLst [x] = .ok (.lst [x]) := rfl
theorem r2 : toRange [.int 2] = .ok [.int 0, .int 1] := rfl
theorem notN_opt {n : Option (List Nat)} : opNotN (optS n) .non = .ok (.bl n.isSome) := by cases n <;> rfl
theorem notB_t : opNotB (.bl true) (.bl true) = .ok (.bl false) := rfl
end DL

set_option Elab.async false
set_option linter.all false
set_option maxRecDepth 100000
set_option maxHeartbeats 400000
namespace DL
open PySem PySem.Spec PyProof.Rows L2
theorem flats_mk : ∀ l : List (List Nat), flats (l.map fun m => D.str (mkS m)) = some (l.map fun m => V.str (mkS m))
  | [] => rfl
  | m :: l => by
    show (flats (l.map fun m => D.str (mkS m))).map (V.str (mkS m) :: ·) = _
    rw [flats_mk l]
    rfl
theorem in_tup {n : List Nat} {l : List (List Nat)} : opIn (.str (mkS n)) (.tup (l.map fun m => D.str (mkS m))) = .ok (.bl (decide (n ∈ l))) := by
  have e : inD (.str (mkS n)) (.tup (l.map fun m => D.str (mkS m))) = .ok (inV (V.str (mkS n)) (l.map fun m => V.str (mkS m))) := by
    show (match flats (l.map fun m => D.str (mkS m)) with
      | some vs => R.ok (inV (V.str (mkS n)) vs)
      | none => .bad) = _
    rw [flats_mk]
  have hv : inV (V.str (mkS n)) (l.map fun m => V.str (mkS m)) = decide (n ∈ l) := by
    unfold inV
    rw [List.any_map, Bool.eq_iff_iff]
    simp only [List.any_eq_true, decide_eq_true_eq]
    constructor
    · rintro ⟨m, hm, q⟩
      have q : (mkS m == mkS n) = true := q
      rw [beq_iff_eq, mkS_inj] at q
      exact q ▸ hm
    · exact fun h => ⟨n, h, by show (mkS n == mkS n) = true; simp⟩
  unfold opIn
  rw [e, hv]
theorem ix58 {ρ : Rho} {cs : List Nat} {i : Nat} (hv : ρ[i]? = some (.cl (.str (mkS cs)))) (h : 58 ∈ cs) : mOr (isKd .str (eVar i)) (eMT .str opSIndex (eVar i) (aCons (eC (.str ":")) (aNil))) (eMT .list opIndex (eVar i) (aCons (eC (.str ":")) (aNil))) ρ = .ok (.int (at1 58 cs : Nat)) ρ := by
  rw [s_co]
  exact ew_kdS (ev_var hv) (ev_M (ev_var hv) rfl (ev_cons ev_c ev_nil) (sindex_mk h))
theorem room_there_ok {cs : List Nat} (h : cs.length ≤ 900000) : f_room_there [.str (mkS cs)] = .ok (.str (mkS (rmOf cs))) [] := by
  have A1 : ∃ n, (decide (58 ∈ cs) = true → n = pre58 cs) ∧ (decide (58 ∈ cs) = false → n = []) ∧ eIf (bOf (e2 opIn (eC (.str ":")) (eVar 0))) (eCut (eVar 0) (pNo) (pAt (mOr (isKd .str (eVar 0)) (eMT .str opSIndex (eVar 0) (aCons (eC (.str ":")) (aNil))) (eMT .list opIndex (eVar 0) (aCons (eC (.str ":")) (aNil)))))) (eC (.str "")) [.cl (.str (mkS cs)), .no] =
      .ok (.str (mkS n)) [.cl (.str (mkS cs)), .no] := by
    by_cases q : 58 ∈ cs
    · refine ⟨pre58 cs, fun _ => rfl, fun z => absurd q (of_decide_eq_false z), ?_⟩
      rw [← pre_take]
      refine ev_ifT (tb_of' (ev_2 ev_c (ev_var rfl) (by rw [s_co, in_mk, decide_eq_true q]))) (ev_cut (ev_var rfl) pa_no (pa_at (ix58 rfl q)) (cut_pre (by omega)))
    · refine ⟨[], fun z => absurd (of_decide_eq_true z) q, fun _ => rfl, ?_⟩
      rw [s0]
      exact ev_ifF (tb_of' (ev_2 ev_c (ev_var rfl) (by rw [s_co, in_mk, decide_eq_false q]))) ev_c
  obtain ⟨n, n1, n2, e⟩ := A1
  have A2 : eIf (bOf (e2 opIn (eVar 1) (eC d_ROOMS))) (eVar 1) (eC (.str "")) [.cl (.str (mkS cs)), .cl (.str (mkS n))] = .ok (.str (mkS (rmOf cs))) [.cl (.str (mkS cs)), .cl (.str (mkS n))] := by
    have c : bOf (e2 opIn (eVar 1) (eC d_ROOMS)) [.cl (.str (mkS cs)), .cl (.str (mkS n))] = .ok (decide (n ∈ roomL)) [.cl (.str (mkS cs)), .cl (.str (mkS n))] := by
      rw [rooms_eq]
      exact tb_of' (ev_2 (ev_var rfl) ev_c in_tup)
    refine ew_if c (fun k => ?_) (fun k => ?_)
    · have k := of_decide_eq_true k
      have : rmOf cs = n := by
        unfold rmOf
        by_cases q : 58 ∈ cs
        · rw [n1 (decide_eq_true q)] at k ⊢
          rw [if_pos ⟨q, k⟩]
        · rw [n2 (decide_eq_false q)] at k
          exact absurd rfl (rm_rooms _ k)
      rw [this]
      exact ev_var rfl
    · have k := of_decide_eq_false k
      have : rmOf cs = [] := by
        unfold rmOf
        by_cases q : 58 ∈ cs
        · rw [n1 (decide_eq_true q)] at k
          rw [if_neg fun z => k z.2]
        · rw [if_neg fun z => q z.1]
      rw [this, s0]
      exact ev_c
  exact fw_run (ρ0 := [.cl (.str (mkS cs)), .no]) rfl (st_seq (sw_asg e rfl) (st_ret A2)) rfl
theorem eq_nil {n : List Nat} : opEq (.str (mkS n)) (.str "") = .ok (.bl (decide (n = []))) := by
  rw [s0]
  exact eq_mkS
theorem ne_nil' {n : List Nat} : opNe (.str (mkS n)) (.str "") = .ok (.bl (!decide (n = []))) := by
  rw [s0]
  exact ne_mk
theorem rm_len (cs : List Nat) : (rmOf cs).length ≤ 20 := by
  unfold rmOf
  split
  · rename_i h; exact (room_ascii _ h.2).2
  · exact Nat.zero_le _
theorem rest_there_ok {cs : List Nat} (h : cs.length ≤ 900000) : f_rest_there [.str (mkS cs)] = .ok (.str (mkS (rsOf cs))) [] := by
  have hl := rm_len cs
  refine fw_run (ρ0 := [.cl (.str (mkS cs)), .no]) rfl (ρ1 := [.cl (.str (mkS cs)), .cl (.str (mkS (rmOf cs)))]) (st_seq (sw_asg (ev_call (ev_cons (ev_var rfl) ev_nil) (room_there_ok h)) rfl) (st_ret ?_)) rfl
  refine ew_if (tb_of' (ev_2 (ev_var rfl) ev_c eq_nil)) (fun k => ?_) (fun k => ?_)
  · have k := of_decide_eq_true k
    unfold rsOf
    rw [if_pos k]
    exact ev_var rfl
  · have k := of_decide_eq_false k
    unfold rsOf
    rw [if_neg k]
    exact ev_cut (ev_var rfl) (pa_at (ev_2 (ev_N (ev_cons (ev_var rfl) ev_nil) (len_mkS (by omega))) ev_c add_int')) pa_no (cut_post (a := (rmOf cs).length + 1) (by omega))
theorem parted_iff {cs n : List Nat} (hn : n ∈ roomL) : cs.take (n.length + 1) = n ++ [58] ↔ rmOf cs = n := by
  obtain ⟨n1, n2, n3, n4, n5, n6⟩ := room_nm n hn
  constructor
  · intro h
    have e : cs = n ++ 58 :: cs.drop (n.length + 1) := by
      conv => lhs; rw [← List.take_append_drop (n.length + 1) cs, h]
      simp
    rw [e]
    exact (rmOf_room hn).1
  · intro h
    unfold rmOf at h
    split at h
    · rename_i q
      have e := split58 q.1
      rw [h] at e
      rw [e]
      have : n ++ 58 :: post58 cs = (n ++ [58]) ++ post58 cs := by simp
      rw [this, List.take_left' (by simp)]
    · exact absurd h.symm n5
theorem law_parted_ok {cs : List Nat} (h : cs.length ≤ 900000) : f__law_parted [.str (mkS cs)] = .ok (.tup [.str (mkS (rmOf cs)), .str (mkS (rsOf cs))]) [] := by
  have body : ∀ n ∈ roomL, ∀ k : Bool, decide (rmOf cs = n) = k → bOf (e2 opEq (eCut (eVar 0) (pNo) (pAt (e2 opAdd (eN opLen (aCons (eVar 1) (aNil))) (eC (.int 1))))) (e2 opAdd (eVar 1) (eC (.str ":")))) [.cl (.str (mkS cs)), .cl (.str (mkS n))] = .ok k [.cl (.str (mkS cs)), .cl (.str (mkS n))] := fun n hn k e => by
    have hl := (room_ascii n hn).2
    rw [s_co]
    refine tb_of' (ev_2 (ev_cut (ev_var rfl) pa_no (pa_at (ev_2 (ev_N (ev_cons (ev_var rfl) ev_nil) (len_mkS (by omega))) ev_c add_int')) (cut_pre (b := n.length + 1) (by omega))) (ev_2 (ev_var rfl) ev_c (add_mkS (by simp; omega))) ?_)
    rw [eq_mkS, ← e]
    congr 2
    exact decide_eq_decide.mpr (parted_iff hn)
  have cut : ∀ n ∈ roomL, rmOf cs = n → eN mkTup (aCons (eVar 1) (aCons (eCut (eVar 0) (pAt (e2 opAdd (eN opLen (aCons (eVar 1) (aNil))) (eC (.int 1)))) (pNo)) (aNil))) [.cl (.str (mkS cs)), .cl (.str (mkS n))] = .ok (.tup [.str (mkS n), .str (mkS (rsOf cs))]) [.cl (.str (mkS cs)), .cl (.str (mkS n))] := fun n hn e => by
    have hl := (room_ascii n hn).2
    have er : rsOf cs = cs.drop (n.length + 1) := by
      unfold rsOf
      rw [e, if_neg (rm_rooms n hn)]
    rw [er]
    exact ev_N (ev_cons (ev_var rfl) (ev_cons (ev_cut (ev_var rfl) (pa_at (ev_2 (ev_N (ev_cons (ev_var rfl) ev_nil) (len_mkS (by omega))) ev_c add_int')) pa_no (cut_post (a := n.length + 1) (by omega))) ev_nil)) rfl
  have F := for_find (α := List Nat) (t := tgName 1) (b := sIf (bOf (e2 opEq (eCut (eVar 0) (pNo) (pAt (e2 opAdd (eN opLen (aCons (eVar 1) (aNil))) (eC (.int 1))))) (e2 opAdd (eVar 1) (eC (.str ":"))))) (sRet (eN mkTup (aCons (eVar 1) (aCons (eCut (eVar 0) (pAt (e2 opAdd (eN opLen (aCons (eVar 1) (aNil))) (eC (.int 1)))) (pNo)) (aNil))))) (sNext))
    (G := fun n => D.str (mkS n)) (Q := fun n => D.tup [.str (mkS n), .str (mkS (rsOf cs))]) (P := fun n => decide (rmOf cs = n)) (Y := fun y => [.cl (.str (mkS cs)), y]) (xs := lawRoomL) (y := .no)
    (fun _ _ _ => rfl) (fun n hn q => st_ifT (body n ((law_rooms_mem n).mp hn) true q) (st_ret (cut n ((law_rooms_mem n).mp hn) (of_decide_eq_true q)))) (fun n hn q => st_ifF (body n ((law_rooms_mem n).mp hn) false q) st_next)
  have it : iSeq (eCall f__law_rooms aNil) [.cl (.str (mkS cs)), .no] = .ok (lawRoomL.map fun n => D.str (mkS n)) [.cl (.str (mkS cs)), .no] := it_seq (ev_call ev_nil law_rooms_ok) rfl
  cases e : lawRoomL.find? fun n => decide (rmOf cs = n) with
  | none =>
    obtain ⟨z, hz⟩ := F.2 e
    have e0 : rmOf cs = [] := by
      unfold rmOf
      split
      · rename_i q
        have := List.find?_eq_none.mp e (pre58 cs) ((law_rooms_mem _).mpr q.2)
        exact absurd (by rw [decide_eq_true_eq]; unfold rmOf; rw [if_pos q]) this
      · rfl
    have e1 : rsOf cs = cs := if_pos e0
    refine fw_run (ρ0 := [.cl (.str (mkS cs)), .no]) rfl (ρ1 := [.cl (.str (mkS cs)), z]) ?_ rfl
    unfold m__law_parted
    rw [e0, e1, s0]
    exact st_seq (st_for it hz) (st_ret (ev_N (ev_cons ev_c (ev_cons (ev_var rfl) ev_nil)) rfl))
  | some n =>
    have en : rmOf cs = n := by simpa using List.find?_some e
    refine fw_run (ρ0 := [.cl (.str (mkS cs)), .no]) rfl (ρ1 := [.cl (.str (mkS cs)), .cl (.str (mkS n))]) ?_ rfl
    unfold m__law_parted
    rw [en]
    exact st_seqR (st_for it (F.1 n e))
theorem sw_asgT {ma : M D} {d : D} {ρ ρ1 ρ2 : Rho} {t : D → Rho → R Rho} (h : ma ρ = .ok d ρ1) (hr : t d ρ1 = .ok ρ2) : sAsg ma t ρ = .nx ρ2 := by
  unfold sAsg sDo
  rw [h]
  dsimp only
  unfold sTo
  rw [hr]
theorem check_title_ok {t : List Nat} (hl : t.length ≤ 900000) (ha : t.all okc = true) (h : TT t = some t) : f_check_title [.str (mkS t)] = .ok .non [] := by
  have q := is_title_ok hl ha
  rw [h, decide_eq_true rfl] at q
  exact show (runFn 1 [] .cl m_check_title [.str (mkS t)] = _) from by
    unfold runFn
    show ((sIf (bNot (bTr (eCall f_is_title (aCons (eVar 0) (aNil))))) (sRaise "InvalidTitle" (eVar 0)) (sNext) [.cl (.str (mkS t))]).fo [] .cl) = _
    rw [st_ifF (tb_not' (k := true) (tb_tr' (ev_call (ev_cons (ev_var rfl) ev_nil) q) truth_bl)) st_next]
    rfl
theorem check_title_no {d : D} (h : f_is_title [d] = .ok (.bl false) []) : f_check_title [d] = .exn "InvalidTitle" d [] :=
  ex_run (ρ0 := [.cl d]) rfl (st_ifT (tb_not' (k := false) (tb_tr' (ev_call (ev_cons (ev_var rfl) ev_nil) h) truth_bl)) (st_raise (ev_var rfl))) rfl
end DL

set_option Elab.async false
set_option linter.all false
set_option maxRecDepth 100000
set_option maxHeartbeats 400000
namespace DL
open PySem PySem.Spec PyProof.Rows L2
theorem s_sl : ("/" : Str) = mkS [47] := by decide +kernel
def isSl (t : List Nat) (f i : Nat) : Bool := decide (t[f + i]? = some 47)
theorem abv_low {t : List Nat} {f : Nat} : ∀ n, n ≤ f → abv t f n = []
  | 0, _ => rfl
  | n + 1, h => by
    show _ ++ abv t f n = []
    rw [abv_low n (by omega), if_neg (by omega)]
    rfl
theorem abv_list {t : List Nat} {f : Nat} : ∀ m, abv t f (f + m) = (((List.range m).filter (isSl t f)).reverse.map fun i => TT (t.take (f + i))).filterMap id
  | 0 => abv_low f (Nat.le_refl _)
  | m + 1 => by
    rw [List.range_succ, List.filter_append, List.reverse_append, List.map_append, List.filterMap_append, ← abv_list m]
    show _ ++ abv t f (f + m) = _
    congr 1
    unfold isSl
    by_cases h : t[f + m]? = some 47
    · rw [if_pos ⟨Nat.le_add_right f m, h⟩, List.filter_cons_of_pos (by simpa using h)]
      cases e : TT (t.take (f + m)) <;> simp [e]
    · rw [if_neg fun z => h z.2, List.filter_cons_of_neg (by simpa using h)]
      rfl
theorem opt_some : ∀ xs : List (Option (List Nat)), (xs.filter Option.isSome).map optS = (xs.filterMap id).map fun u => D.str (mkS u)
  | [] => rfl
  | none :: xs => by
    rw [List.filter_cons_of_neg (by decide), opt_some xs]
    rfl
  | some u :: xs => by
    rw [List.filter_cons_of_pos rfl, List.map_cons, opt_some xs]
    rfl
theorem fst_int (t : List Nat) : ((t.length : Nat) : Int) - ((rsOf t).length : Nat) = (fst0 t : Nat) := by
  have := rsOf_len t
  unfold fst0
  omega
theorem range2 {f n : Nat} (h : f ≤ n) (hn : n ≤ 1000000) : toRange [.int (f : Nat), .int (n : Nat)] = .ok ((List.range (n - f)).map fun i => D.int ((f + i : Nat) : Int)) := by
  show (if ((((n : Nat) : Int) - (f : Nat) ≤ 16777216 ∧ -(2 ^ 62) ≤ ((f : Nat) : Int) ∧ ((f : Nat) : Int) < 2 ^ 62) ∧ -(2 ^ 62) ≤ ((n : Nat) : Int) ∧ ((n : Nat) : Int) < 2 ^ 62) then R.ok (upFrom (f : Nat) (((n : Nat) : Int) - (f : Nat)).toNat) else .bad) = _
  rw [if_pos (by omega)]
  unfold upFrom
  rw [show (((n : Nat) : Int) - (f : Nat)).toNat = n - f by omega]
  congr 1
theorem rev_lst {xs : List D} : opRev (.lst xs) = .ok (.lst xs.reverse) := rfl
theorem fst_le (t : List Nat) : fst0 t ≤ t.length := Nat.sub_le _ _
theorem above_there_ok {t : List Nat} (hl : t.length ≤ 900000) (ha : t.all (· < 128) = true) : f_above_there [.str (mkS t)] = .ok (.lst ((AB t).map fun u => D.str (mkS u))) [] := by
  have hf := fst_le t
  have R : f_rest_there [.str (mkS t)] = _ := rest_there_ok hl
  let G : Nat → D := fun i => D.int ((fst0 t + i : Nat) : Int)
  let X := (List.range (t.length - fst0 t)).filter (isSl t (fst0 t))
  have hX : ∀ i ∈ X.reverse, i < t.length - fst0 t := fun i hi => List.mem_range.mp (List.mem_filter.mp (List.mem_reverse.mp hi)).1
  let E : Sl → Sl → Rho := fun x y => [.cl (.str (mkS t)), .cl (.int (fst0 t : Nat)), x, y, .no, .no]
  have A1 : sAsg (e2 opSub (eN opLen (aCons (eVar 0) (aNil))) (eN opLen (aCons (eCall f_rest_there (aCons (eVar 0) (aNil))) (aNil)))) (tgName 1) [.cl (.str (mkS t)), .no, .no, .no, .no, .no] = .nx (E .no .no) := by
    refine sw_asg (d := .int (fst0 t : Nat)) (ρ1 := [.cl (.str (mkS t)), .no, .no, .no, .no, .no]) ?_ rfl
    rw [← fst_int]
    exact ev_2 (ev_N (ev_cons (ev_var rfl) ev_nil) (len_mkS (by omega))) (ev_N (ev_cons (ev_call (ev_cons (ev_var rfl) ev_nil) R) ev_nil) (len_mkS (by have := rsOf_len t; omega))) sub_int'
  have A2 : sAsg (eLC [4] (tgName 4) (bOf (e2 opEq (e2 opIx (eVar 0) (eVar 4)) (eC (.str "/")))) (eVar 4) (iRange (aCons (eVar 1) (aCons (eN opLen (aCons (eVar 0) (aNil))) aNil)))) (tgName 2) (E .no .no) = .nx (E (.cl (.lst (X.map G))) .no) := by
    rw [s_sl]
    refine sw_asg (ev_lcF (xs := List.range (t.length - fst0 t)) (G := G) (E := G) (P := isSl t (fst0 t)) (env := fun i => [.cl (.str (mkS t)), .cl (.int (fst0 t : Nat)), .no, .no, .cl (G i), .no])
      (it_range (ev_cons (ev_var rfl) (ev_cons (ev_N (ev_cons (ev_var rfl) ev_nil) (len_mkS (by omega))) ev_nil)) (range2 hf (by omega))) rfl rfl (fun _ _ => rfl) (fun i hi => ?_) (fun _ _ _ => ev_var rfl) (fun _ _ => rfl)) rfl
    have hi := List.mem_range.mp hi
    have hlt : fst0 t + i < t.length := by omega
    have q := List.getElem?_eq_getElem hlt
    refine tb_of' (ev_2 (ev_2 (ev_var rfl) (ev_var rfl) (ix_mk (fst0 t + i) (by omega) q)) ev_c ?_)
    rw [eq_mkS]
    unfold isSl
    rw [q]
    congr 2
    exact decide_eq_decide.mpr ⟨fun z => by injection z with z; rw [z], fun z => by injection z with z; rw [z]⟩
  have A3 : sAsg (eLC [4] (tgName 4) (M.pure true) (eCall f_title_read (aCons (eCut (eVar 0) (pNo) (pAt (eVar 4))) (aNil))) (iSeq (e1 opRev (eVar 2)))) (tgName 3) (E (.cl (.lst (X.map G))) .no) = .nx (E (.cl (.lst (X.map G))) (.cl (.lst (X.reverse.map fun i => optS (TT (t.take (fst0 t + i))))))) := by
    refine sw_asg (ev_lcM (xs := X.reverse) (G := G) (E := fun i => optS (TT (t.take (fst0 t + i)))) (env := fun i => [.cl (.str (mkS t)), .cl (.int (fst0 t : Nat)), .cl (.lst (X.map G)), .no, .cl (G i), .no])
      (it_seq (ev_1 (ev_var rfl) rev_lst) (by rw [List.map_reverse]; rfl)) rfl rfl (fun _ _ => rfl) (fun i hi => ?_) (fun _ _ => rfl)) rfl
    have hlt := hX i hi
    exact ev_call (ev_cons (ev_cut (ev_var rfl) pa_no (pa_at (ev_var rfl)) (cut_pre (by omega))) ev_nil) (title_read_ok (by rw [List.length_take]; omega) (by
      rw [List.all_eq_true] at ha ⊢
      exact fun c hc => ha c (List.mem_of_mem_take hc)))
  have A4 : eLC [5] (tgName 5) (bOf (e2 opNotN (eVar 5) (eC .non))) (eVar 5) (iSeq (eVar 3)) (E (.cl (.lst (X.map G))) (.cl (.lst (X.reverse.map fun i => optS (TT (t.take (fst0 t + i))))))) = .ok (.lst ((AB t).map fun u => D.str (mkS u))) (E (.cl (.lst (X.map G))) (.cl (.lst (X.reverse.map fun i => optS (TT (t.take (fst0 t + i))))))) := by
    have e : AB t = ((X.reverse.map fun i => TT (t.take (fst0 t + i)))).filterMap id := by
      unfold AB
      rw [show t.length = fst0 t + (t.length - fst0 t) by omega, abv_list]
    rw [e, ← opt_some]
    exact ev_lcF (xs := X.reverse.map fun i => TT (t.take (fst0 t + i))) (G := optS) (E := optS) (P := Option.isSome) (env := fun o => [.cl (.str (mkS t)), .cl (.int (fst0 t : Nat)), .cl (.lst (X.map G)), .cl (.lst (X.reverse.map fun i => optS (TT (t.take (fst0 t + i))))), .no, .cl (optS o)])
      (it_seq (ev_var rfl) (by rw [List.map_map]; rfl)) rfl rfl (fun _ _ => rfl) (fun o _ => tb_of' (ev_2 (ev_var rfl) ev_c notN_opt)) (fun _ _ _ => ev_var rfl) (fun _ _ => rfl)
  exact fw_run (ρ0 := [.cl (.str (mkS t)), .no, .no, .no, .no, .no]) rfl (st_seq A1 (st_seq A2 (st_seq A3 (st_ret A4)))) rfl
end DL

set_option Elab.async false
set_option linter.all false
set_option maxRecDepth 100000
set_option maxHeartbeats 400000
namespace DL
open PySem PySem.Spec PyProof.Rows L2
def strL (l : List (List Nat)) : D := .lst (l.map fun u => D.str (mkS u))
theorem titles_above_ok {t : List Nat} (hl : t.length ≤ 900000) (ha : t.all okc = true) (h : TT t = some t) : f_titles_above [.str (mkS t)] = .ok (strL (AB t)) [] :=
  fw_run (ρ0 := [.cl (.str (mkS t))]) rfl (st_seq (st_drop (ev_call (ev_cons (ev_var rfl) ev_nil) (check_title_ok hl ha h))) (st_ret (ev_call (ev_cons (ev_var rfl) ev_nil) (above_there_ok hl (okc_ascii ha))))) rfl
theorem titles_above_no {d : D} (h : f_is_title [d] = .ok (.bl false) []) : f_titles_above [d] = .exn "InvalidTitle" d [] :=
  ex_run (ρ0 := [.cl d]) rfl (ex_seq (ex_drop (ex_call (ev_cons (ev_var rfl) ev_nil) (check_title_no h)))) rfl
/-! the law's own -/
def laB : MS := (sSeq (sAsg (eIf (bOf (e2 opEq (e2 opIx (eVar 0) (eVar 5)) (eC (.str "/")))) (eCall f__law_title (aCons (eCut (eVar 0) (pNo) (pAt (eVar 5))) (aNil))) (eC .non)) (tgName 6))
  (sAsg (eIf (bOf (e2 opNotN (eVar 6) (eC .non))) (e2 opAdd (eN mkLst (aCons (eVar 6) (aNil))) (eVar 4)) (eVar 4)) (tgName 4)))
theorem add_one {x : D} {xs : List D} (h : xs.length ≤ 1000000) : opAdd (.lst [x]) (.lst xs) = .ok (.lst (x :: xs)) := by
  show (if ([x] : List D).length + xs.length ≤ 16777216 then R.ok (D.lst ([x] ++ xs)) else .bad) = _
  rw [if_pos (by simp; omega)]
  rfl
theorem la_turn {t : List Nat} {s1 s2 s3 y6 : Sl} {f n : Nat} (hf : f ≤ n) (hn : n < t.length) (hl : t.length ≤ 900000) (ha : t.all (· < 128) = true) :
    ∃ z6, laB [.cl (.str (mkS t)), s1, s2, s3, .cl (strL (abv t f n)), .cl (.int (n : Nat)), y6] = .nx [.cl (.str (mkS t)), s1, s2, s3, .cl (strL (abv t f (n + 1))), .cl (.int (n : Nat)), z6] := by
  have q := List.getElem?_eq_getElem hn
  have al := abv_len t f n
  have C : bOf (e2 opEq (e2 opIx (eVar 0) (eVar 5)) (eC (.str "/"))) [.cl (.str (mkS t)), s1, s2, s3, .cl (strL (abv t f n)), .cl (.int (n : Nat)), y6] = .ok (decide (t[n]? = some 47)) [.cl (.str (mkS t)), s1, s2, s3, .cl (strL (abv t f n)), .cl (.int (n : Nat)), y6] := by
    rw [s_sl]
    refine tb_of' (ev_2 (ev_2 (ev_var rfl) (ev_var rfl) (ix_mk n (by omega) q)) ev_c ?_)
    rw [eq_mkS, q]
    congr 2
    exact decide_eq_decide.mpr ⟨fun z => by injection z with z; rw [z], fun z => by injection z with z; rw [z]⟩
  have ea : abv t f (n + 1) = (if f ≤ n ∧ t[n]? = some 47 then (match TT (t.take n) with
    | some u => [u]
    | none => []) else []) ++ abv t f n := rfl
  have B : ∀ o : Option (List Nat), abv t f (n + 1) = o.toList ++ abv t f n → sAsg (eIf (bOf (e2 opNotN (eVar 6) (eC .non))) (e2 opAdd (eN mkLst (aCons (eVar 6) (aNil))) (eVar 4)) (eVar 4)) (tgName 4) [.cl (.str (mkS t)), s1, s2, s3, .cl (strL (abv t f n)), .cl (.int (n : Nat)), .cl (optS o)] =
      .nx [.cl (.str (mkS t)), s1, s2, s3, .cl (strL (abv t f (n + 1))), .cl (.int (n : Nat)), .cl (optS o)] := fun o e => by
    rw [e]
    have N : bOf (e2 opNotN (eVar 6) (eC .non)) [.cl (.str (mkS t)), s1, s2, s3, .cl (strL (abv t f n)), .cl (.int (n : Nat)), .cl (optS o)] = .ok o.isSome [.cl (.str (mkS t)), s1, s2, s3, .cl (strL (abv t f n)), .cl (.int (n : Nat)), .cl (optS o)] := tb_of' (ev_2 (ev_var rfl) ev_c notN_opt)
    cases o with
    | none => exact sw_asg (ev_ifF N (ev_var rfl)) rfl
    | some u => exact sw_asg (ev_ifT N (ev_2 (ev_N (ev_cons (ev_var rfl) ev_nil) mk1) (ev_var rfl) (add_one (by rw [List.length_map]; omega)))) rfl
  by_cases c : t[n]? = some 47
  · rw [decide_eq_true c] at C
    have T : f__law_title [.str (mkS (t.take n))] = _ := law_title_ok (by rw [List.length_take]; omega) (by
      rw [List.all_eq_true] at ha ⊢
      exact fun c hc => ha c (List.mem_of_mem_take hc))
    refine ⟨.cl (optS (TT (t.take n))), st_seq (sw_asg (ev_ifT C (ev_call (ev_cons (ev_cut (ev_var rfl) pa_no (pa_at (ev_var rfl)) (cut_pre (by omega))) ev_nil) T)) rfl) (B _ ?_)⟩
    rw [ea, if_pos ⟨hf, c⟩]
    cases TT (t.take n) <;> rfl
  · rw [decide_eq_false c] at C
    refine ⟨.cl (optS none), st_seq (sw_asg (ev_ifF C ev_c) rfl) (B none ?_)⟩
    rw [ea, if_neg fun z => c z.2]
    rfl
theorem la_loop {t : List Nat} {s1 s2 s3 : Sl} {f : Nat} (hl : t.length ≤ 900000) (ha : t.all (· < 128) = true) : ∀ (m k : Nat) (y5 y6 : Sl), f + k + m ≤ t.length →
    ∃ z5 z6, forLoop (tgName 5) laB ((List.range' k m).map fun i => D.int ((f + i : Nat) : Int)) [.cl (.str (mkS t)), s1, s2, s3, .cl (strL (abv t f (f + k))), y5, y6] = .nx [.cl (.str (mkS t)), s1, s2, s3, .cl (strL (abv t f (f + k + m))), z5, z6]
  | 0, k, y5, y6, _ => ⟨y5, y6, rfl⟩
  | m + 1, k, y5, y6, h => by
    obtain ⟨z6, e1⟩ := la_turn (t := t) (s1 := s1) (s2 := s2) (s3 := s3) (y6 := y6) (f := f) (n := f + k) (by omega) (by omega) hl ha
    obtain ⟨w5, w6, e2⟩ := la_loop (s1 := s1) (s2 := s2) (s3 := s3) (f := f) hl ha m (k + 1) (.cl (.int ((f + k : Nat) : Int))) z6 (by omega)
    refine ⟨w5, w6, ?_⟩
    rw [List.range'_succ, List.map_cons]
    refine for_nx (ρ1 := [.cl (.str (mkS t)), s1, s2, s3, .cl (strL (abv t f (f + k))), .cl (.int ((f + k : Nat) : Int)), y6]) rfl e1 ?_
    rw [show f + k + (m + 1) = f + (k + 1) + m by omega]
    exact e2
theorem law_above_ok {t : List Nat} (hl : t.length ≤ 900000) (ha : t.all (· < 128) = true) : f__law_above [.str (mkS t)] = .ok (strL (AB t)) [] := by
  have hf := fst_le t
  have hr := rsOf_len t
  have P : f__law_parted [.str (mkS t)] = _ := law_parted_ok hl
  obtain ⟨z5, z6, L⟩ := la_loop (t := t) (s1 := .cl (.str (mkS (rmOf t)))) (s2 := .cl (.str (mkS (rsOf t)))) (s3 := .cl (.int (fst0 t : Nat))) (f := fst0 t) hl ha (t.length - fst0 t) 0 .no .no (by omega)
  rw [show fst0 t + 0 + (t.length - fst0 t) = t.length by omega, Nat.add_zero, abv_low _ (Nat.le_refl _), ← List.range_eq_range'] at L
  have A2 : sPar 3 4 (aCons (e2 opSub (eN opLen (aCons (eVar 0) (aNil))) (eN opLen (aCons (eVar 2) (aNil)))) (aCons (eN mkLst (aNil)) (aNil))) [.cl (.str (mkS t)), .cl (.str (mkS (rmOf t))), .cl (.str (mkS (rsOf t))), .no, .no, .no, .no] =
      .nx [.cl (.str (mkS t)), .cl (.str (mkS (rmOf t))), .cl (.str (mkS (rsOf t))), .cl (.int (fst0 t : Nat)), .cl (strL []), .no, .no] := by
    refine sw_par (x := .int (fst0 t : Nat)) (y := strL []) (ρ1 := [.cl (.str (mkS t)), .cl (.str (mkS (rmOf t))), .cl (.str (mkS (rsOf t))), .no, .no, .no, .no]) (ev_cons ?_ (ev_cons (ev_N ev_nil rfl) ev_nil)) rfl
    rw [← fst_int]
    exact ev_2 (ev_N (ev_cons (ev_var rfl) ev_nil) (len_mkS (by omega))) (ev_N (ev_cons (ev_var rfl) ev_nil) (len_mkS (by omega))) sub_int'
  refine fw_run (ρ0 := [.cl (.str (mkS t)), .no, .no, .no, .no, .no, .no]) rfl (ρ1 := [.cl (.str (mkS t)), .cl (.str (mkS (rmOf t))), .cl (.str (mkS (rsOf t))), .cl (.int (fst0 t : Nat)), .cl (strL (AB t)), z5, z6]) ?_ rfl
  unfold m__law_above
  exact st_seq (sw_asgT (ev_call (ev_cons (ev_var rfl) ev_nil) P) rfl) (st_seq A2 (st_seq (st_for (it_range (ev_cons (ev_var rfl) (ev_cons (ev_N (ev_cons (ev_var rfl) ev_nil) (len_mkS (by omega))) ev_nil)) (range2 hf (by omega))) L) (st_ret (ev_var rfl))))
end DL

set_option Elab.async false
set_option linter.all false
set_option maxRecDepth 100000
set_option maxHeartbeats 400000
namespace DL
open PySem PySem.Spec PyProof.Rows L2
theorem starts_mk {a b : List Nat} : opStarts (.str (mkS a)) [.str (mkS b)] = .ok (.bl (decide (a.take b.length = b))) := by
  show R.ok (D.bl (Txt.startswith (mkS a) (mkS b))) = _
  congr 2
  rw [Bool.eq_iff_iff, decide_eq_true_eq]
  unfold Txt.startswith
  rw [Bool.and_eq_true, decide_eq_true_eq, mkS_len, mkS_len, StrLaws.subAt_eq, mkS_list, mkS_list]
  constructor
  · rintro ⟨_, h⟩
    simpa [mkS_len] using h
  · intro h
    refine ⟨?_, by simpa [mkS_len] using h⟩
    have := congrArg List.length h
    rw [List.length_take] at this
    omega
theorem s_up : ("../" : Str) = mkS [46, 46, 47] := by decide +kernel
theorem take1 {s : List Nat} {c : Nat} : s.take 1 = [c] ↔ s.head? = some c := by
  cases s with
  | nil => simp
  | cons d r => simp
theorem cut_mid {cs : List Nat} {a b : Nat} (hl : cs.length ≤ 1000000) : cutD (.str (mkS cs)) (some (a : Nat)) (some ((a + b : Nat) : Int)) = .ok (.str (mkS ((cs.drop a).take b))) := by
  rw [cut_str (by omega), mkS_cut]
  congr 3
  by_cases h : a ≤ cs.length
  · rw [Nat.min_eq_left h, List.take_eq_take_iff, List.length_drop]
    omega
  · rw [List.drop_of_length_le (by omega), List.drop_of_length_le (by omega)]
    simp
def upL : List Nat := [46, 46, 47]
/-! the law's own -/
def nxt (s : List Nat) : List Nat := if (s.drop 3).take 3 = [46, 46, 47] ∨ (s.drop 3).head? = some 47 then s.drop 3 else 47 :: s.drop 3
theorem llE {S T : Sl} {s : List Nat} {y2 y3 y4 : Sl} (hl : s.length ≤ 1000) : (bAnd (bOf (e2 opNe (eCut (eVar 1) (pNo) (pAt (eC (.int 1)))) (eC (.str "/")))) (bOf (e2 opNe (eCut (eVar 1) (pNo) (pAt (eC (.int 3)))) (eC (.str "../"))))) [S, .cl (.str (mkS s)), y2, y3, y4] =
    .ok (!decide (s.take 1 = [47]) && !decide (s.take 3 = [46, 46, 47])) [S, .cl (.str (mkS s)), y2, y3, y4] := by
  rw [s_sl, s_up]
  exact bw_and (tb_of' (ev_2 (ev_cut (ev_var rfl) pa_no (pa_at ev_c) (cut_pre (b := 1) (by omega))) ev_c ne_mk)) fun _ => tb_of' (ev_2 (ev_cut (ev_var rfl) pa_no (pa_at ev_c) (cut_pre (b := 3) (by omega))) ev_c ne_mk)
theorem ll_plain {rc : Fn} {t s : List Nat} (hs : s.length ≤ 1000) (ha : s.all (· < 128) = true) (h1 : s.take 3 ≠ [46, 46, 47]) (h2 : s.head? ≠ some 47) : runFn 5 [] .cl (m__law_led rc) [.str (mkS t), .str (mkS s)] = .ok (optS (TT s)) [] := by
  have C := llE (S := .cl (.str (mkS t))) (T := .no) (s := s) (y2 := .no) (y3 := .no) (y4 := .no) hs
  rw [decide_eq_false h1, decide_eq_false fun z => h2 (take1.mp z)] at C
  have L : f__law_title [.str (mkS s)] = _ := law_title_ok (by omega) ha
  refine fw_run (ρ0 := [.cl (.str (mkS t)), .cl (.str (mkS s)), .no, .no, .no]) rfl (ρ1 := [.cl (.str (mkS t)), .cl (.str (mkS s)), .no, .no, .no]) ?_ rfl
  unfold m__law_led
  exact st_seqR (st_ifT C (st_ret (ev_call (ev_cons (ev_var rfl) ev_nil) L)))
theorem ll_end {rc : Fn} {t s : List Nat} (ht : t.length ≤ 1000) (hta : t.all (· < 128) = true) (hs : s.length ≤ 1000) (ha : s.all (· < 128) = true) (h1 : s.take 3 ≠ [46, 46, 47]) (h2 : s.head? = some 47) :
    runFn 5 [] .cl (m__law_led rc) [.str (mkS t), .str (mkS s)] = .ok (optS (if s.drop 1 = [] then some t else TT (t ++ 47 :: s.drop 1))) [] := by
  have C := llE (S := .cl (.str (mkS t))) (T := .no) (s := s) (y2 := .no) (y3 := .no) (y4 := .no) hs
  rw [decide_eq_false h1, decide_eq_true (take1.mpr h2)] at C
  have C2 : bOf (e2 opEq (eCut (eVar 1) (pNo) (pAt (eC (.int 3)))) (eC (.str "../"))) [.cl (.str (mkS t)), .cl (.str (mkS s)), .no, .no, .no] = .ok false [.cl (.str (mkS t)), .cl (.str (mkS s)), .no, .no, .no] := by
    rw [s_up]
    exact tb_of' (ev_2 (ev_cut (ev_var rfl) pa_no (pa_at ev_c) (cut_pre (b := 3) (by omega))) ev_c (by rw [eq_mkS, decide_eq_false h1]))
  have hd : (t ++ [47] ++ s.drop 1).all (· < 128) = true := by
    rw [List.all_append, List.all_append, hta]
    rw [List.all_eq_true] at ha
    rw [show (s.drop 1).all (· < 128) = true from List.all_eq_true.mpr fun c hc => ha c (List.mem_of_mem_drop hc)]
    rfl
  have hlen : (t ++ [47] ++ s.drop 1).length ≤ 3000 := by simp; omega
  have L : f__law_title [.str (mkS (t ++ [47] ++ s.drop 1))] = _ := law_title_ok (by omega) hd
  refine fw_run (ρ0 := [.cl (.str (mkS t)), .cl (.str (mkS s)), .no, .no, .no]) rfl (ρ1 := [.cl (.str (mkS t)), .cl (.str (mkS s)), .no, .no, .cl (.str (mkS (s.drop 1)))]) ?_ rfl
  unfold m__law_led
  refine st_seq (st_ifF C st_next) (st_seq (st_ifF C2 st_next) (st_seq (sw_asg (ev_cut (ev_var rfl) (pa_at ev_c) pa_no (cut_post (a := 1) (by omega))) rfl) (st_ret (ew_if (tb_of' (ev_2 (ev_var rfl) ev_c eq_nil)) (fun k => ?_) (fun k => ?_)))))
  · rw [if_pos (of_decide_eq_true k)]
    exact ev_var rfl
  · rw [if_neg (of_decide_eq_false k), s_sl, show t ++ 47 :: s.drop 1 = t ++ [47] ++ s.drop 1 by simp]
    exact ev_call (ev_cons (ev_2 (ev_2 (ev_var rfl) ev_c (add_mkS (by simp; omega))) (ev_var rfl) (add_mkS (by simp; omega))) ev_nil) L
end DL

set_option Elab.async false
set_option linter.all false
set_option maxRecDepth 100000
set_option maxHeartbeats 400000
namespace DL
open PySem PySem.Spec PyProof.Rows L2
theorem toPs_list : ∀ ws : List (List Nat), toPs (ws.map fun w => D.str (mkS w)) = some (ws.map fun w => PyData.str (mkS w))
  | [] => rfl
  | w :: ws => by
    show (match toP (D.str (mkS w)) with
      | none => none
      | some p => (toPs (ws.map fun w => D.str (mkS w))).map (p :: ·)) = _
    rw [toPs_list ws]
    rfl
theorem lists_shaped {ws : List (List Nat)} (h : ∀ w ∈ ws, w.all (· < 128) = true) : SeqAt.shaped (.list (ws.map fun w => PyData.str (mkS w))) = true := by
  have h1 : ∀ vs : List (List Nat), (∀ w ∈ vs, w.all (· < 128) = true) → PyData.canLayAll0 (vs.map fun w => PyData.str (mkS w)) = true := fun vs => by
    induction vs with
    | nil => intro _; rfl
    | cons v vs ih =>
      intro hv
      show (PyData.canLay0 (.str (mkS v)) && PyData.canLayAll0 (vs.map fun w => PyData.str (mkS w))) = true
      rw [ih fun w hw => hv w (List.mem_cons_of_mem _ hw), str_ok (hv v List.mem_cons_self)]
      rfl
  have h2 : ∀ vs : List (List Nat), PyData.depthAll (vs.map fun w => PyData.str (mkS w)) = 0 := fun vs => by
    induction vs with
    | nil => rfl
    | cons v vs ih =>
      show max (PyData.depth (.str (mkS v))) (PyData.depthAll (vs.map fun w => PyData.str (mkS w))) = 0
      rw [ih]
      rfl
  show (PyData.canLayAll0 (ws.map fun w => PyData.str (mkS w)) && decide (PyData.depthAll (ws.map fun w => PyData.str (mkS w)) + 1 ≤ 64)) = true
  rw [h1 ws h, h2]
  rfl
theorem eqD_list {xs ys : List (List Nat)} (hx : ∀ w ∈ xs, w.all (· < 128) = true) (hy : ∀ w ∈ ys, w.all (· < 128) = true) : eqD (strL xs) (strL ys) = .ok (PyData.eqv (.list (xs.map fun w => PyData.str (mkS w))) (.list (ys.map fun w => PyData.str (mkS w)))) := by
  have e : ∀ zs : List (List Nat), toP (strL zs) = some (.list (zs.map fun w => PyData.str (mkS w))) := fun zs => by
    show (toPs (zs.map fun w => D.str (mkS w))).map PyData.list = _
    rw [toPs_list]
    rfl
  show (match toP (strL xs), toP (strL ys) with
    | some p, some q => if SeqAt.shaped p = true ∧ SeqAt.shaped q = true then R.ok (PyData.eqv p q) else .bad
    | _, _ => .bad) = _
  rw [e, e]
  dsimp only
  rw [if_pos ⟨lists_shaped hx, lists_shaped hy⟩]
theorem eq_listN {xs : List (List Nat)} (hx : ∀ w ∈ xs, w.all (· < 128) = true) (hne : xs ≠ []) : opEq (strL xs) (.lst []) = .ok (.bl false) := by
  have q := eqD_list (ys := []) hx (fun _ h => nomatch h)
  have e : PyData.eqv (.list (xs.map fun w => PyData.str (mkS w))) (.list (([] : List (List Nat)).map fun w => PyData.str (mkS w))) = false := by
    cases xs with
    | nil => exact absurd rfl hne
    | cons x xs => rfl
  rw [e] at q
  show (match sameX (strL xs) (.lst []) with
    | some true => R.ok (D.bl true)
    | some false => .bad
    | none => match eqD (strL xs) (.lst []) with
      | .ok b => .ok (.bl b)
      | .bad => .bad) = _
  rw [show sameX (strL xs) (.lst []) = none from rfl, show eqD (strL xs) (.lst []) = .ok false from q]
theorem AB_okc {t : List Nat} (ha : t.all okc = true) : ∀ n, ∀ w ∈ abv t (fst0 t) n, w.all okc = true
  | 0, w, h => nomatch h
  | n + 1, w, h => by
    have h : w ∈ (if fst0 t ≤ n ∧ t[n]? = some 47 then (match TT (t.take n) with
      | some u => [u]
      | none => []) else []) ++ abv t (fst0 t) n := h
    rcases List.mem_append.mp h with h | h
    · split at h
      · cases e : TT (t.take n) with
        | none => rw [e] at h; cases h
        | some u =>
          rw [e] at h
          rw [List.mem_singleton.mp h]
          refine TT_okc ?_ e
          rw [List.all_eq_true] at ha ⊢
          exact fun c hc => ha c (List.mem_of_mem_take hc)
      · cases h
    · exact AB_okc ha n w h
theorem AB_head {t u : List Nat} {l : List (List Nat)} (e : AB t = u :: l) (ht : TT t = some t) : TT u = some u ∧ u.length ≤ t.length := by
  have q := AB_all ht (i := 0) (u := u) (by rw [e]; rfl)
  exact ⟨q.1, q.2.2⟩
theorem nxt_len (s : List Nat) : (nxt s).length ≤ s.length + 1 := by
  unfold nxt
  split
  · rw [List.length_drop]; omega
  · rw [List.length_cons, List.length_drop]; omega
theorem ll_up {rc : Fn} {t s : List Nat} {r : Option (List Nat)} (ht : t.length ≤ 1000) (hta : t.all okc = true) (hT : TT t = some t) (hs : s.length ≤ 1000) (h1 : s.take 3 = [46, 46, 47])
    (hr : match AB t with
      | [] => r = none
      | u :: _ => rc [.str (mkS u), .str (mkS (nxt s))] = .ok (optS r) []) :
    runFn 5 [] .cl (m__law_led rc) [.str (mkS t), .str (mkS s)] = .ok (optS r) [] := by
  have hA := okc_ascii hta
  have C := llE (S := .cl (.str (mkS t))) (T := .no) (s := s) (y2 := .no) (y3 := .no) (y4 := .no) hs
  have h3 : (!decide (s.take 1 = [47]) && !decide (s.take 3 = [46, 46, 47])) = false := by rw [decide_eq_true h1]; simp
  rw [h3] at C
  have C2 : bOf (e2 opEq (eCut (eVar 1) (pNo) (pAt (eC (.int 3)))) (eC (.str "../"))) [.cl (.str (mkS t)), .cl (.str (mkS s)), .no, .no, .no] = .ok true [.cl (.str (mkS t)), .cl (.str (mkS s)), .no, .no, .no] := by
    rw [s_up]
    exact tb_of' (ev_2 (ev_cut (ev_var rfl) pa_no (pa_at ev_c) (cut_pre (b := 3) (by omega))) ev_c (by rw [eq_mkS, decide_eq_true h1]))
  have L : f__law_above [.str (mkS t)] = _ := law_above_ok (by omega) hA
  let E : Sl → Sl → Rho := fun x y => [.cl (.str (mkS t)), .cl (.str (mkS s)), x, y, .no]
  have A1 : sAsg (eCall f__law_above (aCons (eVar 0) (aNil))) (tgName 2) (E .no .no) = .nx (E (.cl (strL (AB t))) .no) := sw_asg (ev_call (ev_cons (ev_var rfl) ev_nil) L) rfl
  have A2 : sAsg (eIf (bOr (bOf (e2 opEq (eCut (eVar 1) (pAt (eC (.int 3))) (pAt (eC (.int 6)))) (eC (.str "../")))) (bOf (e2 opEq (eCut (eVar 1) (pAt (eC (.int 3))) (pAt (eC (.int 4)))) (eC (.str "/"))))) (eCut (eVar 1) (pAt (eC (.int 3))) (pNo)) (e2 opAdd (eC (.str "/")) (eCut (eVar 1) (pAt (eC (.int 3))) (pNo)))) (tgName 3) (E (.cl (strL (AB t))) .no) =
      .nx (E (.cl (strL (AB t))) (.cl (.str (mkS (nxt s))))) := by
    rw [s_up, s_sl]
    refine sw_asg (d := .str (mkS (nxt s))) (ρ1 := E (.cl (strL (AB t))) .no) (ew_if (k := decide ((s.drop 3).take 3 = [46, 46, 47]) || decide ((s.drop 3).take 1 = [47])) (bw_or (tb_of' (ev_2 (ev_cut (ev_var rfl) (pa_at ev_c) (pa_at ev_c) (cut_mid (a := 3) (b := 3) (by omega))) ev_c eq_mkS)) fun _ => tb_of' (ev_2 (ev_cut (ev_var rfl) (pa_at ev_c) (pa_at ev_c) (cut_mid (a := 3) (b := 1) (by omega))) ev_c eq_mkS)) (fun k => ?_) (fun k => ?_)) rfl
    · rw [Bool.or_eq_true, decide_eq_true_eq, decide_eq_true_eq, take1] at k
      rw [show nxt s = s.drop 3 from if_pos k]
      exact ev_cut (ev_var rfl) (pa_at ev_c) pa_no (cut_post (a := 3) (by omega))
    · rw [show nxt s = [47] ++ s.drop 3 from if_neg fun z => by
        rw [← take1] at z
        rcases z with z | z
        · rw [decide_eq_true z] at k; cases k
        · rw [decide_eq_true z, Bool.or_true] at k; cases k]
      exact ev_2 ev_c (ev_cut (ev_var rfl) (pa_at ev_c) pa_no (cut_post (a := 3) (by omega))) (add_mkS (by simp; omega))
  refine fw_run (ρ0 := [.cl (.str (mkS t)), .cl (.str (mkS s)), .no, .no, .no]) rfl (ρ1 := E (.cl (strL (AB t))) (.cl (.str (mkS (nxt s))))) ?_ rfl
  unfold m__law_led
  refine st_seq (st_ifF C st_next) (st_seqR (st_ifT C2 (st_seq A1 (st_seq A2 (st_ret ?_)))))
  cases e : AB t with
  | nil =>
    rw [e] at hr
    have hr : r = none := hr
    subst hr
    exact ev_ifT (tb_of' (ev_2 (ev_var rfl) (ev_N ev_nil rfl) rfl)) ev_c
  | cons u l =>
    rw [e] at hr
    have hr : rc [.str (mkS u), .str (mkS (nxt s))] = .ok (optS r) [] := hr
    have Q : opEq (strL (u :: l)) (.lst []) = .ok (.bl false) := eq_listN (fun w hw => okc_ascii (AB_okc hta t.length w (by
      show w ∈ AB t
      rw [e]
      exact hw))) (fun z => nomatch z)
    have X : opIx (strL (u :: l)) (.int 0) = .ok (.str (mkS u)) := ix_lst (Int.le_refl _) rfl
    exact ev_ifF (tb_of' (ev_2 (ev_var rfl) (ev_N ev_nil rfl) Q)) (ev_call (ev_cons (ev_2 (ev_var rfl) ev_c X) (ev_cons (ev_var rfl) ev_nil)) hr)
end DL

set_option Elab.async false
set_option linter.all false
set_option maxRecDepth 100000
set_option maxHeartbeats 400000
namespace DL
open PySem PySem.Spec PyProof.Rows L2
theorem stp_no : ∀ (k : Nat) {s : List Nat}, s.take 3 ≠ [46, 46, 47] → stp k s = true
  | 0, s, h => decide_eq_true h
  | k + 1, s, h => by
    unfold stp
    rw [decide_eq_true h]
    rfl
theorem dots_len {s : List Nat} (h : s.take 3 = [46, 46, 47]) : 3 ≤ s.length := by
  have := congrArg List.length h
  rw [List.length_take] at this
  simp at this
  omega
theorem nxt_asc {s : List Nat} (h : s.all (· < 128) = true) : (nxt s).all (· < 128) = true := by
  have hd : (s.drop 3).all (· < 128) = true := by
    rw [List.all_eq_true] at h ⊢
    exact fun c hc => h c (List.mem_of_mem_drop hc)
  unfold nxt
  split
  · exact hd
  · rw [List.all_cons, hd]
    rfl
theorem led_ok : ∀ (k : Nat) {t s : List Nat}, TT t = some t → t.all okc = true → s.all (· < 128) = true → s.length ≤ 1000 → stp k s = true → (s.take 3 = [46, 46, 47] ∨ s.head? = some 47) →
    f__law_led_ (k + 1) [.str (mkS t), .str (mkS s)] = .ok (optS (led (k + 1) t s)) [] := by
  intro k
  induction k with
  | zero =>
    intro t s hT ht hs hl hp hc
    have h1 : s.take 3 ≠ [46, 46, 47] := of_decide_eq_true hp
    have h2 : s.head? = some 47 := hc.resolve_left h1
    have hlt := (TT_len hT).2
    rw [led_end h1, if_pos h2]
    exact ll_end (by omega) (okc_ascii ht) hl hs h1 h2
  | succ k ih =>
    intro t s hT ht hs hl hp hc
    have hlt := (TT_len hT).2
    by_cases h1 : s.take 3 = [46, 46, 47]
    · have h3 := dots_len h1
      refine ll_up (by omega) ht hT hl h1 ?_
      rw [led_up h1]
      cases e : AB t with
      | nil => rfl
      | cons u l =>
        obtain ⟨hu, hul⟩ := AB_head e hT
        have huo : u.all okc = true := AB_okc ht t.length u (by
          show u ∈ AB t
          rw [e]
          exact List.mem_cons_self)
        have hp' : stp k (s.drop 3) = true := by
          unfold stp at hp
          rw [decide_eq_false fun z => z h1, Bool.false_or] at hp
          exact hp
        have hn := nxt_asc hs
        show f__law_led_ (k + 1) [.str (mkS u), .str (mkS (nxt s))] = .ok (optS (led (k + 1) u (s.drop 3))) []
        by_cases c : (s.drop 3).take 3 = [46, 46, 47] ∨ (s.drop 3).head? = some 47
        · have en : nxt s = s.drop 3 := if_pos c
          rw [en] at hn ⊢
          exact ih hu huo hn (by rw [List.length_drop]; omega) hp' c
        · have en : nxt s = 47 :: s.drop 3 := if_neg c
          rw [en] at hn ⊢
          rw [← led_slash (fun z => c (.inl z)) (fun z => c (.inr z))]
          exact ih hu huo hn (by rw [List.length_cons, List.length_drop]; omega) (stp_no k (by simp)) (.inr rfl)
    · have h2 : s.head? = some 47 := hc.resolve_left h1
      rw [led_end h1, if_pos h2]
      exact ll_end (by omega) (okc_ascii ht) hl hs h1 h2
theorem law_led_ok {t s : List Nat} (hT : TT t = some t) (ht : t.all okc = true) (hs : s.all (· < 128) = true) (hl : s.length ≤ 1000) (hp : stp 7 s = true) : f__law_led [.str (mkS t), .str (mkS s)] = .ok (optS (ledTo 8 t s)) [] := by
  unfold ledTo
  by_cases h : s.take 3 ≠ [46, 46, 47] ∧ s.head? ≠ some 47
  · rw [if_pos h]
    exact ll_plain hl hs h.1 h.2
  · rw [if_neg h]
    refine led_ok 7 hT ht hs hl hp ?_
    by_cases q : s.take 3 = [46, 46, 47]
    · exact .inl q
    · refine .inr ?_
      by_cases q2 : s.head? = some 47
      · exact q2
      · exact absurd ⟨q, q2⟩ h
end DL

set_option Elab.async false
set_option linter.all false
set_option maxRecDepth 100000
set_option maxHeartbeats 400000
namespace DL
open PySem PySem.Spec PyProof.Rows L2
theorem wh_ret {c : M Bool} {b : MS} {n : Nat} {d : D} {ρ ρ1 ρ2 : Rho} (hc : c ρ = .ok true ρ1) (hb : b ρ1 = .ret d ρ2) : whLoop c b (n + 1) ρ = .ret d ρ2 := by
  unfold whLoop
  rw [hc]
  dsimp only
  rw [hb]
  rfl
def lfT (s : List Nat) : List Nat := if s.head? = some 47 then s.drop 1 else s
def endT (t s : List Nat) : Option (List Nat) := if lfT s = [] then some t else TT (t ++ 47 :: lfT s)
def upB : MS := (sSeq (sAsg (eCall f_above_there (aCons (eVar 2) (aNil))) (tgName 4))
  (sSeq (sIf (bOf (e2 opEq (eVar 4) (eN mkLst (aNil)))) (sRet (eC .non)) (sNext))
  (sPar 2 3 (aCons (e2 opIx (eVar 4) (eC (.int 0))) (aCons (eCut (eVar 3) (pAt (eC (.int 3))) (pNo)) (aNil))))))
def upC : M Bool := (bTr (eMT .str opStarts (eVar 3) (aCons (eC (.str "../")) (aNil))))
theorem upC_ok {T S h y : Sl} {s : List Nat} : upC [T, S, h, .cl (.str (mkS s)), y] = .ok (decide (s.take 3 = [46, 46, 47])) [T, S, h, .cl (.str (mkS s)), y] := by
  unfold upC
  rw [s_up]
  exact tb_tr' (ev_M (ev_var rfl) rfl (ev_cons ev_c ev_nil) starts_mk) truth_bl
theorem wl_ok {T S : Sl} : ∀ (k n : Nat) {t s : List Nat} {y : Sl}, TT t = some t → t.all okc = true → s.all (· < 128) = true → s.length ≤ 1000 → stp k s = true →
    (∃ ρ, whLoop upC upB (n + k + 1) [T, S, .cl (.str (mkS t)), .cl (.str (mkS s)), y] = .ret .non ρ ∧ led (k + 1) t s = none) ∨
    (∃ t' s' y', whLoop upC upB (n + k + 1) [T, S, .cl (.str (mkS t)), .cl (.str (mkS s)), y] = .nx [T, S, .cl (.str (mkS t')), .cl (.str (mkS s')), y'] ∧ TT t' = some t' ∧ t'.all okc = true ∧ s'.all (· < 128) = true ∧ s'.length ≤ 1000 ∧ led (k + 1) t s = endT t' s') := by
  intro k
  induction k with
  | zero =>
    intro n t s y hT ht hs hl hp
    have h1 : s.take 3 ≠ [46, 46, 47] := of_decide_eq_true hp
    refine .inr ⟨t, s, y, wh_end (upC_ok.trans (by rw [decide_eq_false h1])), hT, ht, hs, hl, ?_⟩
    rw [led_end h1]
    rfl
  | succ k ih =>
    intro n t s y hT ht hs hl hp
    by_cases h1 : s.take 3 = [46, 46, 47]
    · have C := upC_ok (T := T) (S := S) (h := .cl (.str (mkS t))) (y := y) (s := s)
      rw [decide_eq_true h1] at C
      have hlt := (TT_len hT).2
      have A : f_above_there [.str (mkS t)] = .ok (strL (AB t)) [] := above_there_ok (by omega) (okc_ascii ht)
      have A1 : sAsg (eCall f_above_there (aCons (eVar 2) (aNil))) (tgName 4) [T, S, .cl (.str (mkS t)), .cl (.str (mkS s)), y] = .nx [T, S, .cl (.str (mkS t)), .cl (.str (mkS s)), .cl (strL (AB t))] := sw_asg (ev_call (ev_cons (ev_var rfl) ev_nil) A) rfl
      rw [led_up h1]
      cases e : AB t with
      | nil =>
        rw [e] at A1
        exact .inl ⟨_, wh_ret C (st_seq A1 (st_seqR (st_ifT (tb_of' (ev_2 (ev_var rfl) (ev_N ev_nil rfl) rfl)) (st_ret ev_c)))), rfl⟩
      | cons u l =>
        obtain ⟨hu, hul⟩ := AB_head e hT
        have hm : ∀ w ∈ u :: l, w.all okc = true := fun w hw => AB_okc ht t.length w (by
          show w ∈ AB t
          rw [e]
          exact hw)
        have Q : opEq (strL (u :: l)) (.lst []) = .ok (.bl false) := eq_listN (fun w hw => okc_ascii (hm w hw)) (fun z => nomatch z)
        have X : opIx (strL (u :: l)) (.int 0) = .ok (.str (mkS u)) := ix_lst (Int.le_refl _) rfl
        rw [e] at A1
        have B : upB [T, S, .cl (.str (mkS t)), .cl (.str (mkS s)), y] = .nx [T, S, .cl (.str (mkS u)), .cl (.str (mkS (s.drop 3))), .cl (strL (u :: l))] :=
          st_seq A1 (st_seq (st_ifF (tb_of' (ev_2 (ev_var rfl) (ev_N ev_nil rfl) Q)) st_next) (sw_par (ev_cons (ev_2 (ev_var rfl) ev_c X) (ev_cons (ev_cut (ev_var rfl) (pa_at ev_c) pa_no (cut_post (a := 3) (by omega))) ev_nil)) rfl))
        have hp' : stp k (s.drop 3) = true := by
          unfold stp at hp
          rw [decide_eq_false fun z => z h1, Bool.false_or] at hp
          exact hp
        have hd : (s.drop 3).all (· < 128) = true := by
          rw [List.all_eq_true] at hs ⊢
          exact fun c hc => hs c (List.mem_of_mem_drop hc)
        rcases ih n (y := .cl (strL (u :: l))) hu (hm u List.mem_cons_self) hd (by rw [List.length_drop]; omega) hp' with ⟨ρ, w, z⟩ | ⟨t', s', y', w, r⟩
        · exact .inl ⟨ρ, wh_go C B w, z⟩
        · exact .inr ⟨t', s', y', wh_go C B w, r⟩
    · refine .inr ⟨t, s, y, wh_end (upC_ok.trans (by rw [decide_eq_false h1])), hT, ht, hs, hl, ?_⟩
      rw [led_end h1]
      rfl
end DL

set_option Elab.async false
set_option linter.all false
set_option maxRecDepth 100000
set_option maxHeartbeats 400000
namespace DL
open PySem PySem.Spec PyProof.Rows L2
theorem led_to_ok {t s : List Nat} (hT : TT t = some t) (ht : t.all okc = true) (hs : s.all okc = true) (hl : s.length ≤ 1000) (hp : stp 7 s = true) : f_led_to [.str (mkS t), .str (mkS s)] = .ok (optS (ledTo 8 t s)) [] := by
  have hA := okc_ascii hs
  have hlt := (TT_len hT).2
  let E : Sl → Sl → Sl → Rho := fun x y z => [.cl (.str (mkS t)), .cl (.str (mkS s)), x, y, z]
  have D1 : sDrop (eCall f_check_title (aCons (eVar 0) (aNil))) (E .no .no .no) = .nx (E .no .no .no) := st_drop (ev_call (ev_cons (ev_var rfl) ev_nil) (check_title_ok (by omega) ht hT))
  have D2 : sDrop (eCall f_check_text (aCons (eVar 1) (aNil))) (E .no .no .no) = .nx (E .no .no .no) := st_drop (ev_call (ev_cons (ev_var rfl) ev_nil) (check_mk (by omega) hs))
  have C : (bAnd (bNot (bTr (eMT .str opStarts (eVar 1) (aCons (eC (.str "../")) (aNil))))) (bNot (bTr (eMT .str opStarts (eVar 1) (aCons (eC (.str "/")) (aNil)))))) (E .no .no .no) = .ok (!decide (s.take 3 = [46, 46, 47]) && !decide (s.take 1 = [47])) (E .no .no .no) := by
    rw [s_up, s_sl]
    exact bw_and (tb_not' (tb_tr' (ev_M (ev_var rfl) rfl (ev_cons ev_c ev_nil) starts_mk) truth_bl)) fun _ => tb_not' (tb_tr' (ev_M (ev_var rfl) rfl (ev_cons ev_c ev_nil) starts_mk) truth_bl)
  unfold ledTo
  by_cases c : s.take 3 ≠ [46, 46, 47] ∧ s.head? ≠ some 47
  · rw [if_pos c]
    rw [decide_eq_false c.1, decide_eq_false fun z => c.2 (take1.mp z)] at C
    exact fw_run (ρ0 := E .no .no .no) rfl (st_seq D1 (st_seq D2 (st_seqR (st_ifT C (st_ret (ev_call (ev_cons (ev_var rfl) ev_nil) (title_read_ok (by omega) hA))))))) rfl
  · rw [if_neg c]
    have hc : (!decide (s.take 3 = [46, 46, 47]) && !decide (s.take 1 = [47])) = false := by
      by_cases q : s.take 3 = [46, 46, 47]
      · rw [decide_eq_true q]; rfl
      · by_cases q2 : s.take 1 = [47]
        · rw [decide_eq_true q2]; simp
        · exact absurd ⟨q, fun z => q2 (take1.mpr z)⟩ c
    rw [hc] at C
    have P : sPar 2 3 (aCons (eVar 0) (aCons (eVar 1) (aNil))) (E .no .no .no) = .nx (E (.cl (.str (mkS t))) (.cl (.str (mkS s))) .no) := sw_par (ev_cons (ev_var rfl) (ev_cons (ev_var rfl) ev_nil)) rfl
    have wl := wl_ok (T := .cl (.str (mkS t))) (S := .cl (.str (mkS s))) 7 999992 (y := .no) hT ht hA hl hp
    rcases wl with ⟨ρ, w, z⟩ | ⟨t', s', y', w, hT', ht', hs', hl', z⟩
    · rw [z]
      refine fw_run (ρ0 := E .no .no .no) rfl (ρ1 := ρ) ?_ rfl
      unfold m_led_to
      exact st_seq D1 (st_seq D2 (st_seq (st_ifF C st_next) (st_seq P (st_seqR w))))
    · rw [z]
      have hlt' := (TT_len hT').2
      have A1 : sAsg (eIf (bTr (eMT .str opStarts (eVar 3) (aCons (eC (.str "/")) (aNil)))) (eCut (eVar 3) (pAt (eC (.int 1))) (pNo)) (eVar 3)) (tgName 3) (E (.cl (.str (mkS t'))) (.cl (.str (mkS s'))) y') = .nx (E (.cl (.str (mkS t'))) (.cl (.str (mkS (lfT s')))) y') := by
        rw [s_sl]
        refine sw_asg (d := .str (mkS (lfT s'))) (ρ1 := E (.cl (.str (mkS t'))) (.cl (.str (mkS s'))) y') (ew_if (tb_tr' (ev_M (ev_var rfl) rfl (ev_cons ev_c ev_nil) starts_mk) truth_bl) (fun k => ?_) (fun k => ?_)) rfl
        · rw [show lfT s' = s'.drop 1 from if_pos (take1.mp (of_decide_eq_true k))]
          exact ev_cut (ev_var rfl) (pa_at ev_c) pa_no (cut_post (a := 1) (by omega))
        · rw [show lfT s' = s' from if_neg fun q => of_decide_eq_false k (take1.mpr q)]
          exact ev_var rfl
      have ll : (lfT s').length ≤ 1000 := by
        unfold lfT
        split
        · rw [List.length_drop]; omega
        · exact hl'
      have la : (lfT s').all (· < 128) = true := by
        unfold lfT
        split
        · rw [List.all_eq_true] at hs' ⊢
          exact fun c hc => hs' c (List.mem_of_mem_drop hc)
        · exact hs'
      have hd : (t' ++ [47] ++ lfT s').all (· < 128) = true := by
        rw [List.all_append, List.all_append, okc_ascii ht', la]
        rfl
      have hlen : (t' ++ [47] ++ lfT s').length ≤ 3000 := by simp; omega
      have L : f_title_read [.str (mkS (t' ++ [47] ++ lfT s'))] = _ := title_read_ok (by omega) hd
      refine fw_run (ρ0 := E .no .no .no) rfl (ρ1 := E (.cl (.str (mkS t'))) (.cl (.str (mkS (lfT s')))) y') ?_ rfl
      unfold m_led_to
      refine st_seq D1 (st_seq D2 (st_seq (st_ifF C st_next) (st_seq P (st_seq w (st_seq A1 (st_ret ?_))))))
      unfold endT
      refine ew_if (tb_of' (ev_2 (ev_var rfl) ev_c eq_nil)) (fun k => ?_) (fun k => ?_)
      · rw [if_pos (of_decide_eq_true k)]
        exact ev_var rfl
      · rw [if_neg (of_decide_eq_false k), s_sl, show t' ++ 47 :: lfT s' = t' ++ [47] ++ lfT s' by simp]
        exact ev_call (ev_cons (ev_2 (ev_2 (ev_var rfl) ev_c (add_mkS (by simp; omega))) (ev_var rfl) (add_mkS (by simp; omega))) ev_nil) L
end DL

set_option Elab.async false
set_option linter.all false
set_option maxRecDepth 100000
set_option maxHeartbeats 400000
namespace DL
open PySem PySem.Spec PyProof.Rows L2
theorem ev_chk {hit : D → Bool} {m : M D} {d : D} {ρ ρ1 : Rho} (h : m ρ = .ok d ρ1) (hh : hit d = false) : eChk hit m ρ = .ok d ρ1 := by
  unfold eChk M.bind
  rw [h]
  dsimp only
  rw [hh]
  rfl
theorem ex_chk {hit : D → Bool} {m : M D} {c : Str} {v : D} {ρ ρ1 : Rho} (h : m ρ = .exn c v ρ1) : eChk hit m ρ = .exn c v ρ1 := by
  unfold eChk M.bind
  rw [h]
theorem hit_opt {o : Option (List Nat)} : k0.hit (optS o) = false := by cases o <;> rfl
theorem hit1_no {w : Str} {v : D} (h : (w == "told") = false) : k1.hit (.lst [.str w, v]) = false := by
  show hit1 (.lst [.str w, v]) = false
  cases v <;> first | rfl | exact h
theorem ixh {x : D} {l : List D} : opIx (.lst (x :: l)) (.int 0) = .ok x := ix_lst (Int.le_refl _) rfl
theorem ixs {x y : D} {l : List D} : opIx (.lst (x :: y :: l)) (.int 1) = .ok y := ix_lst (by decide) rfl
theorem asked0_ok {x y r : D} {l : List D} (h : f_titles_above [x] = .ok (r) []) : f__law_asked [.int 0, .lst (x :: l)] = .ok (r) [] := fw_run (ρ0 := [.cl (.int 0), .cl (.lst (x :: l))]) rfl (st_seqR (st_ifT (tb_of' (ev_2 (ev_var rfl) ev_c rfl)) (st_ret (ev_ifT (tb_of' (ev_2 (ev_var rfl) ev_c rfl)) (ev_call (ev_cons (ev_2 (ev_var rfl) ev_c ixh) ev_nil) h))))) rfl
theorem asked0_no {c : Str} {x y v : D} {l : List D} (h : f_titles_above [x] = .exn c v []) : f__law_asked [.int 0, .lst (x :: l)] = .exn c v [] := ex_run (ρ0 := [.cl (.int 0), .cl (.lst (x :: l))]) rfl (ex_seq (st_ifT (tb_of' (ev_2 (ev_var rfl) ev_c rfl)) (ex_ret (ex_ifT (tb_of' (ev_2 (ev_var rfl) ev_c rfl)) (ex_call (ev_cons (ev_2 (ev_var rfl) ev_c ixh) ev_nil) h))))) rfl
theorem asked1_ok {x y r : D} {l : List D} (h : f_titles_above [x] = .ok (r) []) : f__law_asked [.int 1, .lst (x :: l)] = .ok (r) [] := fw_run (ρ0 := [.cl (.int 1), .cl (.lst (x :: l))]) rfl (st_seqR (st_ifT (tb_of' (ev_2 (ev_var rfl) ev_c rfl)) (st_ret (ev_ifF (tb_of' (ev_2 (ev_var rfl) ev_c rfl)) (ev_callK (ev_cons (ev_2 (ev_var rfl) ev_c ixh) ev_nil) h))))) rfl
theorem asked1_no {c : Str} {x y v : D} {l : List D} (h : f_titles_above [x] = .exn c v []) : f__law_asked [.int 1, .lst (x :: l)] = .exn c v [] := ex_run (ρ0 := [.cl (.int 1), .cl (.lst (x :: l))]) rfl (ex_seq (st_ifT (tb_of' (ev_2 (ev_var rfl) ev_c rfl)) (ex_ret (ex_ifF (tb_of' (ev_2 (ev_var rfl) ev_c rfl)) (ex_callK (ev_cons (ev_2 (ev_var rfl) ev_c ixh) ev_nil) h))))) rfl
theorem asked2_ok {x y : D} {o : Option (List Nat)} {l : List D} (h : f_led_to [x, y] = .ok (optS o) []) : f__law_asked [.int 2, .lst (x :: y :: l)] = .ok (optS o) [] := fw_run (ρ0 := [.cl (.int 2), .cl (.lst (x :: y :: l))]) rfl (st_seq (st_ifF (tb_of' (ev_2 (ev_var rfl) ev_c rfl)) st_next) (st_ret (ev_chk (ev_ifT (tb_of' (ev_2 (ev_var rfl) ev_c rfl)) (ev_call (ev_cons (ev_2 (ev_var rfl) ev_c ixh) (ev_cons (ev_2 (ev_var rfl) ev_c ixs) ev_nil)) h)) hit_opt))) rfl
theorem asked2_no {c : Str} {x y v : D} {l : List D} (h : f_led_to [x, y] = .exn c v []) : f__law_asked [.int 2, .lst (x :: y :: l)] = .exn c v [] := ex_run (ρ0 := [.cl (.int 2), .cl (.lst (x :: y :: l))]) rfl (st_seq (st_ifF (tb_of' (ev_2 (ev_var rfl) ev_c rfl)) st_next) (ex_ret (ex_chk (ex_ifT (tb_of' (ev_2 (ev_var rfl) ev_c rfl)) (ex_call (ev_cons (ev_2 (ev_var rfl) ev_c ixh) (ev_cons (ev_2 (ev_var rfl) ev_c ixs) ev_nil)) h))))) rfl
theorem asked3_ok {x y : D} {o : Option (List Nat)} {l : List D} (h : f_led_to [x, y] = .ok (optS o) []) : f__law_asked [.int 3, .lst (x :: y :: l)] = .ok (optS o) [] := fw_run (ρ0 := [.cl (.int 3), .cl (.lst (x :: y :: l))]) rfl (st_seq (st_ifF (tb_of' (ev_2 (ev_var rfl) ev_c rfl)) st_next) (st_ret (ev_chk (ev_ifF (tb_of' (ev_2 (ev_var rfl) ev_c rfl)) (ev_callK (ev_cons (ev_2 (ev_var rfl) ev_c ixs) (ev_cons (ev_2 (ev_var rfl) ev_c ixh) ev_nil)) h)) hit_opt))) rfl
theorem asked3_no {c : Str} {x y v : D} {l : List D} (h : f_led_to [x, y] = .exn c v []) : f__law_asked [.int 3, .lst (x :: y :: l)] = .exn c v [] := ex_run (ρ0 := [.cl (.int 3), .cl (.lst (x :: y :: l))]) rfl (st_seq (st_ifF (tb_of' (ev_2 (ev_var rfl) ev_c rfl)) st_next) (ex_ret (ex_chk (ex_ifF (tb_of' (ev_2 (ev_var rfl) ev_c rfl)) (ex_callK (ev_cons (ev_2 (ev_var rfl) ev_c ixs) (ev_cons (ev_2 (ev_var rfl) ev_c ixh) ev_nil)) h))))) rfl
theorem refusal_told {x y d : D} (h : f__law_asked [x, y] = .ok d []) : f__law_refusal [x, y] = .ok (.lst [.str "told", d]) [] := by
  apply fw_flat1 (ρ0 := [.cl x, .cl y, .no, .no, .no]) rfl
  · unfold m__law_refusal
    exact st_seq (st_asg ev_c) (st_seqR (st_tryR (st_ret (ev_N (ev_cons ev_c (ev_cons (ev_call (ev_cons (ev_var rfl) (ev_cons (ev_var rfl) ev_nil)) h) ev_nil)) mk2))))
  · rfl
theorem refusal_text {x y v : D} (h : f__law_asked [x, y] = .exn "InvalidText" v []) : f__law_refusal [x, y] = .ok (.lst [.str "text", v]) [] := by
  apply fw_flat (ρ0 := [.cl x, .cl y, .no, .no, .no]) (g := fun a => [.cl x, .cl y, .cl (.exc a "InvalidText" v), .no, .cl (.lst [.bl true, .bl false, .bl false])]) rfl
  · unfold m__law_refusal
    apply st_seq (ρ1 := [.cl x, .cl y, .cl .non, .no, .no])
    · exact st_asg ev_c
    · apply st_any (g := fun a => [.cl x, .cl y, .cl (.exc a "InvalidText" v), .no, .no])
      · exact st_kept (ρ1 := [.cl x, .cl y, .cl .non, .no, .no]) (ex_ret (ex_N (ex_cons2 ev_c (ex_cons (ex_call (ev_cons (ev_var rfl) (ev_cons (ev_var rfl) ev_nil)) h))))) rfl (by simp)
      · intro a
        have i1 : opIs [] [("InvalidCount", false), ("InvalidText", true), ("InvalidTitle", false)] (.exc a "InvalidText" v) = .ok (.bl true) := rfl
        have i2 : opIs [] [("InvalidCount", false), ("InvalidText", false), ("InvalidTitle", true)] (.exc a "InvalidText" v) = .ok (.bl false) := rfl
        have i3 : opIs [] [("InvalidCount", true), ("InvalidText", false), ("InvalidTitle", false)] (.exc a "InvalidText" v) = .ok (.bl false) := rfl
        have i4 : opIs [] [("InvalidCount", true), ("InvalidText", true), ("InvalidTitle", true)] (.exc a "InvalidText" v) = .ok (.bl true) := rfl
        have l3 : ∀ x y z : D, mkLst [x, y, z] = .ok (.lst [x, y, z]) := fun _ _ _ => rfl
        have ct : opCount (.lst [.bl true, .bl false, .bl false]) [.bl true] = .ok (.int 1) := rfl
        have ne : opNe (.int 1) (.int 1) = .ok (.bl false) := rfl
        have id : opIndex (.lst [.bl true, .bl false, .bl false]) [.bl true] = .ok (.int 0) := rfl
        have ix : opIx (.lst [.str "text", .str "title", .str "count"]) (.int 0) = .ok (.str "text") := rfl
        have vl : opVal (.exc a "InvalidText" v) = .ok v := rfl
        apply st_seq (ρ1 := [.cl x, .cl y, .cl (.exc a "InvalidText" v), .no, .cl (.lst [.bl true, .bl false, .bl false])])
        · exact st_asg (ev_N (ev_cons (ev_1 (ev_var rfl) i1) (ev_cons (ev_1 (ev_var rfl) i2) (ev_cons (ev_1 (ev_var rfl) i3) ev_nil))) (l3 _ _ _))
        · apply st_seq (ρ1 := [.cl x, .cl y, .cl (.exc a "InvalidText" v), .no, .cl (.lst [.bl true, .bl false, .bl false])])
          · apply st_ifF
            · apply tb_orF
              · exact tb_of' (ev_2 (ev_M (ev_var rfl) rfl (ev_cons ev_c ev_nil) ct) ev_c ne)
              · exact tb_not' (k := true) (tb_tr' (ev_1 (ev_var rfl) i4) truth_bl)
            · exact st_next
          · exact st_ret (ev_chk (ev_N (ev_cons (ev_2 (ev_N (ev_cons ev_c (ev_cons ev_c (ev_cons ev_c ev_nil))) (l3 _ _ _)) (ew_kdL (ev_var rfl) (ev_M (ev_var rfl) rfl (ev_cons ev_c ev_nil) id)) ix) (ev_cons (ev_1 (ev_var rfl) vl) ev_nil)) mk2) (hit1_no (by decide +kernel)))
  · intro a
    rfl
theorem refusal_title {x y v : D} (h : f__law_asked [x, y] = .exn "InvalidTitle" v []) : f__law_refusal [x, y] = .ok (.lst [.str "title", v]) [] := by
  apply fw_flat (ρ0 := [.cl x, .cl y, .no, .no, .no]) (g := fun a => [.cl x, .cl y, .cl (.exc a "InvalidTitle" v), .no, .cl (.lst [.bl false, .bl true, .bl false])]) rfl
  · unfold m__law_refusal
    apply st_seq (ρ1 := [.cl x, .cl y, .cl .non, .no, .no])
    · exact st_asg ev_c
    · apply st_any (g := fun a => [.cl x, .cl y, .cl (.exc a "InvalidTitle" v), .no, .no])
      · exact st_kept (ρ1 := [.cl x, .cl y, .cl .non, .no, .no]) (ex_ret (ex_N (ex_cons2 ev_c (ex_cons (ex_call (ev_cons (ev_var rfl) (ev_cons (ev_var rfl) ev_nil)) h))))) rfl (by simp)
      · intro a
        have i1 : opIs [] [("InvalidCount", false), ("InvalidText", true), ("InvalidTitle", false)] (.exc a "InvalidTitle" v) = .ok (.bl false) := rfl
        have i2 : opIs [] [("InvalidCount", false), ("InvalidText", false), ("InvalidTitle", true)] (.exc a "InvalidTitle" v) = .ok (.bl true) := rfl
        have i3 : opIs [] [("InvalidCount", true), ("InvalidText", false), ("InvalidTitle", false)] (.exc a "InvalidTitle" v) = .ok (.bl false) := rfl
        have i4 : opIs [] [("InvalidCount", true), ("InvalidText", true), ("InvalidTitle", true)] (.exc a "InvalidTitle" v) = .ok (.bl true) := rfl
        have l3 : ∀ x y z : D, mkLst [x, y, z] = .ok (.lst [x, y, z]) := fun _ _ _ => rfl
        have ct : opCount (.lst [.bl false, .bl true, .bl false]) [.bl true] = .ok (.int 1) := rfl
        have ne : opNe (.int 1) (.int 1) = .ok (.bl false) := rfl
        have id : opIndex (.lst [.bl false, .bl true, .bl false]) [.bl true] = .ok (.int 1) := rfl
        have ix : opIx (.lst [.str "text", .str "title", .str "count"]) (.int 1) = .ok (.str "title") := rfl
        have vl : opVal (.exc a "InvalidTitle" v) = .ok v := rfl
        apply st_seq (ρ1 := [.cl x, .cl y, .cl (.exc a "InvalidTitle" v), .no, .cl (.lst [.bl false, .bl true, .bl false])])
        · exact st_asg (ev_N (ev_cons (ev_1 (ev_var rfl) i1) (ev_cons (ev_1 (ev_var rfl) i2) (ev_cons (ev_1 (ev_var rfl) i3) ev_nil))) (l3 _ _ _))
        · apply st_seq (ρ1 := [.cl x, .cl y, .cl (.exc a "InvalidTitle" v), .no, .cl (.lst [.bl false, .bl true, .bl false])])
          · apply st_ifF
            · apply tb_orF
              · exact tb_of' (ev_2 (ev_M (ev_var rfl) rfl (ev_cons ev_c ev_nil) ct) ev_c ne)
              · exact tb_not' (k := true) (tb_tr' (ev_1 (ev_var rfl) i4) truth_bl)
            · exact st_next
          · exact st_ret (ev_chk (ev_N (ev_cons (ev_2 (ev_N (ev_cons ev_c (ev_cons ev_c (ev_cons ev_c ev_nil))) (l3 _ _ _)) (ew_kdL (ev_var rfl) (ev_M (ev_var rfl) rfl (ev_cons ev_c ev_nil) id)) ix) (ev_cons (ev_1 (ev_var rfl) vl) ev_nil)) mk2) (hit1_no (by decide +kernel)))
  · intro a
    rfl
end DL

set_option Elab.async false
set_option linter.all false
set_option maxRecDepth 100000
set_option maxHeartbeats 400000
namespace DL
open PySem PySem.Spec PyProof.Rows L2
theorem st_spoil {i : Nat} {call : M D} {test : M Bool} {r : M D} {ρ ρ2 : Rho} {ys : List D} (h : call ρ = .ok (.lst [.str "told", .lst ys]) ρ) (ht : test (ρ.set i (.cl (.lst [.str "told", .lst ys]))) = .ok false ρ2) (hl : ys.length < 16777216) (hi : i < ρ.length) :
    sSpoil i call test r ρ = .nx (ρ.set i .no) := by
  have e : toldL (.lst [.str "told", .lst ys]) = some ys := rfl
  unfold sSpoil
  rw [h]
  dsimp only
  rw [ht]
  dsimp only
  rw [e]
  dsimp only
  rw [if_pos ⟨hl, hi⟩]
theorem AB_small {t : List Nat} (hl : t.length ≤ 60) : (AB t).length ≤ 60 := Nat.le_trans (abv_len t _ _) hl
theorem sm_strL {n : Nat} {l : List (List Nat)} (h : l.length ≤ 16777216) : Sm (n + 2) (strL l) := ⟨by rw [List.length_map]; exact h, fun x hx => by
  obtain ⟨u, _, rfl⟩ := List.mem_map.mp hx
  trivial⟩
theorem sm_pair {n : Nat} {w : Str} {d : D} (h : Sm (n + 1) d) : Sm (n + 2) (.lst [.str w, d]) :=
  ⟨by show 2 ≤ 16777216; decide, fun x hx => by
    simp only [List.mem_cons, List.not_mem_nil, or_false] at hx
    rcases hx with rfl | rfl
    · trivial
    · exact h⟩
noncomputable def spB : MS := (sSpoil 4 (eCall f__law_refusal (aCons (eVar 3) (aCons (eN mkLst (aCons (eVar 0) (aNil))) (aNil)))) (bNot (bTr (eCall f__law_same (aCons (eVar 4) (aCons (eN mkLst (aCons (eC (.str "told")) (aCons (eVar 2) (aNil)))) (aNil)))))) (eC (.bl false)))
theorem sp_turn {S y5 y6 y4 : Sl} {t : List Nat} {w : Int} (hw : w = 0 ∨ w = 1) (hT : TT t = some t) (ht : t.all okc = true) :
    spB [.cl (.str (mkS t)), S, .cl (strL (AB t)), .cl (.int w), y4, y5, y6] = .nx [.cl (.str (mkS t)), S, .cl (strL (AB t)), .cl (.int w), .no, y5, y6] := by
  have hl := (TT_len hT).2
  have A := titles_above_ok (by omega) ht hT
  have R : f__law_refusal [.int w, .lst [.str (mkS t)]] = .ok (.lst [.str "told", strL (AB t)]) [] := by
    rcases hw with rfl | rfl
    · exact refusal_told (asked0_ok (y := .non) A)
    · exact refusal_told (asked1_ok (y := .non) A)
  have Q : f__law_same [.lst [.str "told", strL (AB t)], .lst [.str "told", strL (AB t)]] = .ok (.bl true) [] := same_refl 8 _ (sm_pair (n := 6) (sm_strL (n := 5) (by have := AB_small hl; omega)))
  exact st_spoil (ev_call (ev_cons (ev_var rfl) (ev_cons (ev_N (ev_cons (ev_var rfl) ev_nil) mk1) ev_nil)) R)
    (tb_not' (k := true) (tb_tr' (ev_call (ev_cons (ev_var rfl) (ev_cons (ev_N (ev_cons ev_c (ev_cons (ev_var rfl) ev_nil)) mk2) ev_nil)) Q) truth_bl)) (by rw [List.length_map]; have := AB_small hl; omega) (show 4 < 7 by decide)
theorem eqvAll_strs : ∀ ws : List (List Nat), PyData.eqvAll (ws.map fun w => PyData.str (mkS w)) (ws.map fun w => PyData.str (mkS w)) = true
  | [] => rfl
  | w :: ws => by
    show (PyData.eqv (.str (mkS w)) (.str (mkS w)) && PyData.eqvAll (ws.map fun w => PyData.str (mkS w)) (ws.map fun w => PyData.str (mkS w))) = true
    rw [eqvAll_strs ws, Bool.and_true]
    simp [PyData.eqv]
theorem ne_self {xs : List (List Nat)} (hx : ∀ w ∈ xs, w.all (· < 128) = true) : opNe (strL xs) (strL xs) = .ok (.bl false) := by
  have q := eqD_list hx hx
  have e : PyData.eqv (.list (xs.map fun w => PyData.str (mkS w))) (.list (xs.map fun w => PyData.str (mkS w))) = true := by
    rw [PyData.eqv]
    exact eqvAll_strs xs
  rw [e] at q
  unfold opNe
  rw [q]
  rfl
theorem cut_lst {xs : List (List Nat)} {a : Nat} (hl : xs.length ≤ 1000) : cutD (strL xs) (some (a : Nat)) none = .ok (strL (xs.drop a)) := by
  show R.ok (D.lst (cutL (xs.map fun u => D.str (mkS u)) (some (a : Nat)) none)) = _
  unfold cutL
  rw [HT.sIx_nat, HT.sIx_none, List.length_map]
  unfold strL
  congr 2
  by_cases h : a ≤ xs.length
  · rw [Nat.min_eq_left h, List.map_drop, List.take_of_length_le (by simp)]
  · rw [Nat.min_eq_right (by omega), List.drop_of_length_le (Nat.le_of_not_le h)]
    simp
noncomputable def enB : MS := (sIf (bOr (bOf (e2 opNotB (eCall f_is_title (aCons (eVar 6) (aNil))) (eC (.bl true)))) (bOf (e2 opNe (eCall f_titles_above (aCons (eVar 6) (aNil))) (eCut (eVar 2) (pAt (e2 opAdd (eVar 5) (eC (.int 1)))) (pNo))))) (sRet (eC (.bl false))) (sNext))
theorem en_turn {S y3 y4 : Sl} {t u : List Nat} {i : Nat} (hT : TT t = some t) (ht : t.all okc = true) (hu : (AB t)[i]? = some u) :
    enB [.cl (.str (mkS t)), S, .cl (strL (AB t)), y3, y4, .cl (.int (i : Nat)), .cl (.str (mkS u))] = .nx [.cl (.str (mkS t)), S, .cl (strL (AB t)), y3, y4, .cl (.int (i : Nat)), .cl (.str (mkS u))] := by
  have hl := (TT_len hT).2
  obtain ⟨h1, h2, h3⟩ := AB_all hT hu
  have hm : ∀ w ∈ AB t, w.all okc = true := AB_okc ht t.length
  have uo := hm u (List.mem_of_getElem? hu)
  have T := is_title_ok (cs := u) (by omega) uo
  rw [h1, decide_eq_true rfl] at T
  have A := titles_above_ok (t := u) (by omega) uo h1
  rw [h2] at A
  refine st_ifF (tb_orF (tb_of' (ev_2 (ev_call (ev_cons (ev_var rfl) ev_nil) T) ev_c notB_t)) (tb_of' (ev_2 (ev_call (ev_cons (ev_var rfl) ev_nil) A) (ev_cut (ev_var rfl) (pa_at (ev_2 (ev_var rfl) ev_c add_int')) pa_no (cut_lst (a := i + 1) (by have := AB_small hl; omega))) (ne_self fun w hw => okc_ascii (hm w (List.mem_of_mem_drop hw)))))) st_next
theorem en_loop {S y3 y4 : Sl} {t : List Nat} (hT : TT t = some t) (ht : t.all okc = true) : ∀ (us : List (List Nat)) (k : Nat) (y5 y6 : Sl), (AB t).drop k = us →
    ∃ z5 z6, forLoop (tgTup [5, 6]) enB (numD k (us.map fun u => D.str (mkS u))) [.cl (.str (mkS t)), S, .cl (strL (AB t)), y3, y4, y5, y6] = .nx [.cl (.str (mkS t)), S, .cl (strL (AB t)), y3, y4, z5, z6]
  | [], _, y5, y6, _ => ⟨y5, y6, rfl⟩
  | u :: us, k, y5, y6, h => by
    have hu : (AB t)[k]? = some u := by
      rw [← List.head?_drop, h]
      rfl
    obtain ⟨z5, z6, e⟩ := en_loop (S := S) (y3 := y3) (y4 := y4) hT ht us (k + 1) (.cl (.int (k : Nat))) (.cl (.str (mkS u))) (by rw [← List.drop_drop, h]; rfl)
    exact ⟨z5, z6, for_nx (ρ1 := [.cl (.str (mkS t)), S, .cl (strL (AB t)), y3, y4, .cl (.int (k : Nat)), .cl (.str (mkS u))]) rfl (en_turn hT ht hu) e⟩
end DL

set_option Elab.async false
set_option linter.all false
set_option maxRecDepth 100000
set_option maxHeartbeats 400000
namespace DL
open PySem PySem.Spec PyProof.Rows L2
/-- a comprehension over a name that is in use around it -/
theorem ev_lcB {α : Type} {vs : List Nat} {tt : D → Rho → R Rho} {e : M D} {ρ ρ1 ρw : Rho} {G E : α → D} {env : α → Rho} {mi : M (List D)} {xs : List α} (hi : mi ρ = .ok (xs.map G) ρ1) (hw0 : wipeR ρ1 vs = ρw) (hb : backR ρ1 ρw vs = ρ1)
    (ht : ∀ x ∈ xs, tt (G x) ρw = .ok (env x)) (he : ∀ x ∈ xs, e (env x) = .ok (E x) (env x)) (hw : ∀ x ∈ xs, wipeR (env x) vs = ρw) : eLC vs tt (M.pure true) e mi ρ = .ok (.lst (xs.map E)) ρ1 := by
  have g := lc_gen (c := M.pure true) (e := e) (E := E) (P := fun _ => true) ht (fun _ _ => rfl) (fun x hx _ => he x hx) hw
  rw [List.filter_eq_self.mpr fun _ _ => rfl] at g
  have q := ev_lc (vs := vs) (t := tt) (c := M.pure true) (e := e) hi (by rw [hw0]; exact g)
  rwa [hb] at q
theorem rep2 {x : D} : opSMul (.lst [x]) (.int 2) = .ok (.lst [x, x]) := rfl
theorem mkT2 {a b : D} : mkTup [a, b] = .ok (.tup [a, b]) := rfl
theorem two {S T K Y Z z5 z6 : Sl} {x y d0 d1 : D} (hS : S = .cl x) (hT : T = .cl y) (h0 : f__law_refusal [.int 2, .lst [x, y]] = .ok d0 []) (h1 : f__law_refusal [.int 3, .lst [x, y]] = .ok d1 []) :
    eLC [3] (tgName 3) (M.pure true) (eCall f__law_refusal (aCons (eVar 3) (aCons (eN mkLst (aCons (eVar 0) (aCons (eVar 1) (aNil)))) (aNil)))) (iSeq (eN mkTup (aCons (eC (.int 2)) (aCons (eC (.int 3)) (aNil))))) [S, T, K, Y, Z, z5, z6] = .ok (.lst [d0, d1]) [S, T, K, Y, Z, z5, z6] := by
  subst hS hT
  have hi : iSeq (eN mkTup (aCons (eC (.int 2)) (aCons (eC (.int 3)) (aNil)))) [.cl x, .cl y, K, Y, Z, z5, z6] = .ok ([((2 : Int), d0), (3, d1)].map fun p : Int × D => D.int p.1) [.cl x, .cl y, K, Y, Z, z5, z6] := it_seq (ev_N (ev_cons ev_c (ev_cons ev_c ev_nil)) mkT2) rfl
  have hb : backR [.cl x, .cl y, K, Y, Z, z5, z6] [.cl x, .cl y, K, .no, Z, z5, z6] [3] = [.cl x, .cl y, K, Y, Z, z5, z6] := rfl
  have he : ∀ p ∈ [((2 : Int), d0), (3, d1)], eCall f__law_refusal (aCons (eVar 3) (aCons (eN mkLst (aCons (eVar 0) (aCons (eVar 1) (aNil)))) (aNil))) [.cl x, .cl y, K, .cl (.int p.1), Z, z5, z6] = .ok p.2 [.cl x, .cl y, K, .cl (.int p.1), Z, z5, z6] := fun p hp => by
    refine ev_call (ds := [.int p.1, .lst [x, y]]) (outs := []) (ev_cons (ev_var rfl) (ev_cons (ev_N (ev_cons (ev_var rfl) (ev_cons (ev_var rfl) ev_nil)) mk2) ev_nil)) ?_
    simp only [List.mem_cons, List.not_mem_nil, or_false] at hp
    rcases hp with rfl | rfl
    · exact h0
    · exact h1
  have q := ev_lcB (vs := [3]) (tt := tgName 3) (E := fun p : Int × D => p.2) (env := fun p : Int × D => [.cl x, .cl y, K, .cl (.int p.1), Z, z5, z6]) (ρw := [.cl x, .cl y, K, .no, Z, z5, z6]) hi rfl hb (fun _ _ => rfl) he (fun _ _ => rfl)
  exact q
theorem sm_optN {n : Nat} {o : Option (List Nat)} : Sm (n + 1) (optS o) := by cases o <;> trivial
theorem right_ok {t s : List Nat} (hT : TT t = some t) (ht : t.all okc = true) (hs : s.all okc = true) (hl : s.length ≤ 1000) (hp : stp 7 s = true) : f__law_right [.str (mkS t), .str (mkS s)] = .ok (.bl true) [] := by
  have hlt := (TT_len hT).2
  have A : f__law_above [.str (mkS t)] = _ := law_above_ok (by omega) (okc_ascii ht)
  have A1 : sAsg (eCall f__law_above (aCons (eVar 0) (aNil))) (tgName 2) [.cl (.str (mkS t)), .cl (.str (mkS s)), .no, .no, .no, .no, .no] = .nx [.cl (.str (mkS t)), .cl (.str (mkS s)), .cl (strL (AB t)), .no, .no, .no, .no] := sw_asg (ev_call (ev_cons (ev_var rfl) ev_nil) A) rfl
  have A2 : sFor (tgName 3) (iRange (aCons (eC (.int 2)) aNil)) spB [.cl (.str (mkS t)), .cl (.str (mkS s)), .cl (strL (AB t)), .no, .no, .no, .no] = .nx [.cl (.str (mkS t)), .cl (.str (mkS s)), .cl (strL (AB t)), .cl (.int 1), .no, .no, .no] :=
    st_for (it_range (ev_cons ev_c ev_nil) r2) (for_nx rfl (sp_turn (.inl rfl) hT ht) (for_nx rfl (sp_turn (.inr rfl) hT ht) for_nil))
  obtain ⟨z5, z6, L⟩ := en_loop (S := .cl (.str (mkS s))) (y3 := .cl (.int 1)) (y4 := .no) hT ht (AB t) 0 .no .no rfl
  have en : enumD [strL (AB t)] = .ok (numD 0 ((AB t).map fun u => D.str (mkS u))) := by
    show (if ((AB t).map fun u => D.str (mkS u)).length ≤ 16777216 then R.ok (numD 0 ((AB t).map fun u => D.str (mkS u))) else .bad) = _
    rw [if_pos (by rw [List.length_map]; have := AB_small hlt; omega)]
  have ie : iEnumD (aCons (eVar 2) (aNil)) [.cl (.str (mkS t)), .cl (.str (mkS s)), .cl (strL (AB t)), .cl (.int 1), .no, .no, .no] = .ok (numD 0 ((AB t).map fun u => D.str (mkS u))) [.cl (.str (mkS t)), .cl (.str (mkS s)), .cl (strL (AB t)), .cl (.int 1), .no, .no, .no] := by
    unfold iEnumD M.bind
    rw [show aCons (eVar 2) aNil [.cl (.str (mkS t)), .cl (.str (mkS s)), .cl (strL (AB t)), .cl (.int 1), .no, .no, .no] = .ok [strL (AB t)] [.cl (.str (mkS t)), .cl (.str (mkS s)), .cl (strL (AB t)), .cl (.int 1), .no, .no, .no] from rfl]
    dsimp only [M.lift]
    rw [en]
  have W := law_led_ok hT ht (okc_ascii hs) hl hp
  have P := led_to_ok hT ht hs hl hp
  generalize ledTo 8 t s = o at W P
  have LC : eLC [3] (tgName 3) (M.pure true) (eCall f__law_refusal (aCons (eVar 3) (aCons (eN mkLst (aCons (eVar 0) (aCons (eVar 1) (aNil)))) (aNil)))) (iSeq (eN mkTup (aCons (eC (.int 2)) (aCons (eC (.int 3)) (aNil))))) [.cl (.str (mkS t)), .cl (.str (mkS s)), .cl (strL (AB t)), .cl (.int 1), .no, z5, z6] =
      .ok (.lst [.lst [.str "told", optS (o)], .lst [.str "told", optS (o)]]) [.cl (.str (mkS t)), .cl (.str (mkS s)), .cl (strL (AB t)), .cl (.int 1), .no, z5, z6] := by
    exact two rfl rfl (refusal_told (asked2_ok P)) (refusal_told (asked3_ok P))
  have Q : f__law_same [.lst [.lst [.str "told", optS (o)], .lst [.str "told", optS (o)]], .lst [.lst [.str "told", optS (o)], .lst [.str "told", optS (o)]]] = .ok (.bl true) [] := same_refl 8 _ ⟨by show 2 ≤ 16777216; decide, fun x hx => by
    simp only [List.mem_cons, List.not_mem_nil, or_false] at hx
    rcases hx with rfl | rfl <;> exact sm_pair (n := 5) sm_optN⟩
  refine fw_run (ρ0 := [.cl (.str (mkS t)), .cl (.str (mkS s)), .no, .no, .no, .no, .no]) rfl (ρ1 := [.cl (.str (mkS t)), .cl (.str (mkS s)), .cl (strL (AB t)), .cl (.int 1), .no, z5, z6]) ?_ rfl
  unfold m__law_right
  exact st_seq A1 (st_seq A2 (st_seq (st_for ie L) (st_ret (ev_call (ev_cons LC (ev_cons (ev_2 (ev_N (ev_cons (ev_N (ev_cons ev_c (ev_cons (ev_call (ev_cons (ev_var rfl) (ev_cons (ev_var rfl) ev_nil)) W) ev_nil)) mk2) ev_nil) mk1) ev_c rep2) ev_nil)) Q))))
end DL

set_option Elab.async false
set_option linter.all false
set_option maxRecDepth 100000
set_option maxHeartbeats 400000
namespace DL
open PySem PySem.Spec PyProof.Rows L2
/-! ### steps that are drawn -/
def ends : List (List Nat) := [[], [47], [120], [47, 121, 32, 122], [47, 47], [116, 97, 108, 107, 58, 97], [47, 35], [10], [32, 47, 98], [46, 46], [47, 46, 46], [97, 47, 46, 46, 47, 98]]
def w12e : List D := [.str "", .str "/", .str "x", .str "/y z", .str "//", .str "talk:a", .str "/#", .str "\n", .str " /b", .str "..", .str "/..", .str "a/../b"]
def enB2 : D → Bool
  | .str s => ends.contains s.cps.toList
  | _ => false
theorem w12e_ok : w12e.all enB2 = true := by decide +kernel
theorem ends_ok : ∀ e ∈ ends, ∀ k : Fin 4, stp 7 ((List.replicate k.val [46, 46, 47]).flatten ++ e) = true ∧ ((List.replicate k.val [46, 46, 47]).flatten ++ e).all okc = true ∧ ((List.replicate k.val [46, 46, 47]).flatten ++ e).length ≤ 20 := by decide +kernel
theorem mk12e : mkLst w12e = .ok (.lst w12e) := rfl
theorem step_ok {n : Int} {p : D} (h : PV n p) (hn : n < 100000) : ∃ (cs : List Nat) (p' : D), f__law_step [p] = .ok (.str (mkS cs)) [p'] ∧ cs.all okc = true ∧ cs.length ≤ 20 ∧ stp 7 cs = true ∧ PV (n + 2) p' := by
  obtain ⟨j, p1, h1, j0, j1, q1⟩ := draw_ok (many := 4) h (by omega) (by decide) (by decide)
  obtain ⟨d, p2, h2, hd, q2⟩ := one_of_lst (xs := w12e) q1 (by omega) (by decide) (by decide)
  have hb := List.all_eq_true.mp w12e_ok d hd
  cases d with
  | str s =>
    have hb : ends.contains s.cps.toList = true := hb
    have he := List.contains_iff_mem.mp hb
    obtain ⟨a1, a2, a3⟩ := ends_ok _ he ⟨j.toNat, by omega⟩
    have M : opSMul (.str "../") (.int j) = .ok (.str (mkS ((List.replicate j.toNat [46, 46, 47]).flatten))) := by
      rw [s_up]
      have q := smul_mkS (ks := [46, 46, 47]) (n := j.toNat) (by omega) (by simp; omega)
      rwa [Int.toNat_of_nonneg j0] at q
    have l1 : ((List.replicate j.toNat [46, 46, 47]).flatten).length + s.cps.toList.length ≤ 20 := by
      rw [← List.length_append]
      exact a3
    refine ⟨_, p2, fw_run (ρ0 := [.ow p, .no]) rfl (ρ1 := [.ow p2, .cl (.str (mkS ((List.replicate j.toNat [46, 46, 47]).flatten)))]) ?_ rfl, a2, a3, a1, q2.le (by omega)⟩
    unfold m__law_step
    exact st_seq (ρ1 := [.ow p1, .cl (.str (mkS ((List.replicate j.toNat [46, 46, 47]).flatten)))]) (sw_asg (ev_2 ev_c (ew_callO rfl (ev_cons ev_c ev_nil) rfl h1 rfl) M) rfl)
      (st_ret (ev_2 (ev_var rfl) (ew_callO rfl (ev_cons (ev_N (ds := w12e) rfl mk12e) ev_nil) rfl h2 rfl) (add_mkS (b := s.cps.toList) (by omega))))
  | _ => exact absurd hb Bool.false_ne_true
end DL

set_option Elab.async false
set_option linter.all false
set_option maxRecDepth 100000
set_option maxHeartbeats 400000
namespace DL
open PySem PySem.Spec PyProof.Rows L2
def TxD (n : Nat) (d : D) : Prop := ∃ cs : List Nat, d = .str (mkS cs) ∧ cs.all okc = true ∧ cs.length ≤ n
def tx20 : D → Bool
  | .str s => s.cps.toList.all okc && decide (s.cps.toList.length ≤ 20)
  | _ => false
theorem tx20_of {xs : List D} (h : xs.all tx20 = true) : ∀ d ∈ xs, TxD 20 d := fun d hd => by
  have q := List.all_eq_true.mp h d hd
  cases d with
  | str s =>
    have q : (s.cps.toList.all okc && decide (s.cps.toList.length ≤ 20)) = true := q
    rw [Bool.and_eq_true] at q
    exact ⟨s.cps.toList, rfl, q.1, of_decide_eq_true q.2⟩
  | _ => exact absurd q Bool.false_ne_true
theorem one_txP {k : Nat} {n : Int} {p : D} {xs : List D} (hx : ∀ d ∈ xs, TxD k d) (h : PV n p) (hn : n < 1000000) (h0 : 0 < xs.length) (h1 : xs.length < 2 ^ 27) :
    ∃ (cs : List Nat) (p' : D), f__law_one_of [p, .lst xs] = .ok (.str (mkS cs)) [p'] ∧ (cs.all okc = true ∧ cs.length ≤ k) ∧ PV (n + 1) p' := by
  obtain ⟨d, p', e, hd, hp⟩ := one_of_lst h hn h0 h1
  obtain ⟨cs, rfl, h1, h2⟩ := hx d hd
  exact ⟨cs, p', e, ⟨h1, h2⟩, hp⟩
def GT (t : List Nat) : Prop := TT t = some t ∧ t.all okc = true ∧ t.length ≤ 60
def gdB : D → Bool
  | .str s => decide (TT s.cps.toList = some s.cps.toList) && (s.cps.toList.all okc && decide (s.cps.toList.length ≤ 60))
  | _ => false
theorem gd_of {xs : List D} (h : xs.all gdB = true) {d : D} (hd : d ∈ xs) : ∃ t : List Nat, d = .str (mkS t) ∧ GT t := by
  have q := List.all_eq_true.mp h d hd
  cases d with
  | str s =>
    have q : (decide (TT s.cps.toList = some s.cps.toList) && (s.cps.toList.all okc && decide (s.cps.toList.length ≤ 60))) = true := q
    rw [Bool.and_eq_true, Bool.and_eq_true] at q
    exact ⟨s.cps.toList, rfl, of_decide_eq_true q.1, q.2.1, of_decide_eq_true q.2.2⟩
  | _ => exact absurd q Bool.false_ne_true
theorem law_title_GT {cs t : List Nat} (ha : cs.all okc = true) (h : TT cs = some t) : GT t := ⟨TT_self h, TT_okc ha h, (TT_len h).2⟩
theorem s_Ab : ("A/b" : Str) = mkS [65, 47, 98] := by decide +kernel
theorem GT_Ab : GT [65, 47, 98] := ⟨by decide +kernel, by decide +kernel, by decide⟩
def b4 : List D := [.str "", .str "", .str "Help:", .str "User talk:"]
def c4 : List D := [.str "A", .str "b", .str "/x", .str "A b"]
def b7 : List D := [.str "b", .str "c d", .str "", .str " e", .str "..", .str "x:y", .str "F_"]
theorem b4_ok : b4.all tx20 = true := by decide +kernel
theorem c4_ok : c4.all tx20 = true := by decide +kernel
theorem b7_ok : b7.all tx20 = true := by decide +kernel
theorem mkb4 : mkLst b4 = .ok (.lst b4) := rfl
theorem mkc4 : mkLst c4 = .ok (.lst c4) := rfl
theorem mkb7 : mkLst b7 = .ok (.lst b7) := rfl
def brB : MS := (sAsg (e2 opAdd (e2 opAdd (eVar 2) (eC (.str "/"))) (eCallO f__law_one_of 0 (aCons (eN mkLst (aCons (eC (.str "b")) (aCons (eC (.str "c d")) (aCons (eC (.str "")) (aCons (eC (.str " e")) (aCons (eC (.str "..")) (aCons (eC (.str "x:y")) (aCons (eC (.str "F_")) (aNil))))))))) (aNil)))) (tgName 2))
theorem br_loop {y1 y4 : Sl} : ∀ (ds : List D) {n : Int} {p : D} {cs : List Nat} {y3 : Sl}, PV n p → n + ds.length < 900000 → cs.all okc = true → cs.length + 21 * ds.length ≤ 200 →
    ∃ (p' : D) (cs' : List Nat) (y3' : Sl), forLoop (tgName 3) brB ds [.ow p, y1, .cl (.str (mkS cs)), y3, y4] = .nx [.ow p', y1, .cl (.str (mkS cs')), y3', y4] ∧ PV (n + ds.length) p' ∧ cs'.all okc = true ∧ cs'.length ≤ 200
  | [], n, p, cs, y3, h, hn, ha, hl => ⟨p, cs, y3, rfl, h.le (by simp), ha, by simpa using hl⟩
  | d :: ds, n, p, cs, y3, h, hn, ha, hl => by
    rw [List.length_cons] at hl hn
    obtain ⟨t, p1, h1, ⟨ta, tl⟩, q1⟩ := one_txP (tx20_of b7_ok) h (by omega) (by decide) (by decide)
    have hcs : (cs ++ [47] ++ t).all okc = true := by rw [List.all_append, List.all_append, ha, ta]; rfl
    have hcl : (cs ++ [47] ++ t).length ≤ cs.length + 21 := by simp; omega
    obtain ⟨p2, c2, u3, h2, q2, a2, l2⟩ := br_loop ds (n := n + 1) (cs := cs ++ [47] ++ t) (y3 := .cl d) q1 (by omega) hcs (by omega)
    refine ⟨p2, c2, u3, for_nx (ρ1 := [.ow p, y1, .cl (.str (mkS cs)), .cl d, y4]) rfl (ρ2 := [.ow p1, y1, .cl (.str (mkS (cs ++ [47] ++ t))), .cl d, y4]) ?_ h2, q2.le (by rw [List.length_cons]; omega), a2, l2⟩
    unfold brB
    rw [s_sl]
    exact sw_asg (ev_2 (ev_2 (ev_var rfl) ev_c (add_mkS (by simp; omega))) (ew_callO rfl (ev_cons (ev_N (ds := b7) rfl mkb7) ev_nil) rfl h1 rfl) (add_mkS (by simp; omega))) rfl
theorem barred_ok {n : Int} {p : D} (h : PV n p) (hn : n < 100000) : ∃ (t : List Nat) (p' : D), f__law_barred [p] = .ok (.str (mkS t)) [p'] ∧ GT t ∧ PV (n + 10) p' := by
  obtain ⟨r, p1, h1, ⟨ra, rl⟩, q1⟩ := one_txP (tx20_of b4_ok) h (by omega) (by decide) (by decide)
  obtain ⟨s, p2, h2, ⟨sa, sl⟩, q2⟩ := one_txP (tx20_of c4_ok) q1 (by omega) (by decide) (by decide)
  obtain ⟨j, p3, h3, j0, j1, q3⟩ := draw_ok (many := 5) q2 (by omega) (by decide) (by decide)
  have tr : toRange [.int j] = .ok (upFrom 0 j.toNat) := by
    show (if j ≤ 16777216 ∧ -(2 ^ 62) ≤ j then R.ok (upFrom 0 j.toNat) else .bad) = _
    rw [if_pos (by omega)]
  have ul : (upFrom 0 j.toNat).length = j.toNat := by simp [upFrom]
  obtain ⟨p4, cs, y3, h4, q4, ca, cl⟩ := br_loop (y1 := .cl (.str (mkS r))) (y4 := .no) (upFrom 0 j.toNat) (p := p3) (cs := s) (y3 := .no) q3 (by omega) sa (by rw [ul]; omega)
  have ha : (r ++ cs).all okc = true := by rw [List.all_append, ra, ca]; rfl
  have hl : (r ++ cs).length ≤ 220 := by rw [List.length_append]; omega
  have T : f__law_title [.str (mkS (r ++ cs))] = _ := law_title_ok (by omega) (okc_ascii ha)
  let E : Sl → Rho := fun z => [.ow p4, .cl (.str (mkS r)), .cl (.str (mkS cs)), y3, z]
  have S4 : sAsg (eCall f__law_title (aCons (e2 opAdd (eVar 1) (eVar 2)) (aNil))) (tgName 4) (E .no) = .nx (E (.cl (optS (TT (r ++ cs))))) := sw_asg (ev_call (ev_cons (ev_2 (ev_var rfl) (ev_var rfl) (add_mkS (by omega))) ev_nil) T) rfl
  have C : bOf (e2 opNotN (eVar 4) (eC .non)) (E (.cl (optS (TT (r ++ cs))))) = .ok (TT (r ++ cs)).isSome (E (.cl (optS (TT (r ++ cs))))) := tb_of' (ev_2 (ev_var rfl) ev_c notN_opt)
  have fin : ∃ t, GT t ∧ eIf (bOf (e2 opNotN (eVar 4) (eC .non))) (eVar 4) (eC (.str "A/b")) (E (.cl (optS (TT (r ++ cs))))) = .ok (.str (mkS t)) (E (.cl (optS (TT (r ++ cs))))) := by
    cases e : TT (r ++ cs) with
    | none =>
      rw [e] at C
      exact ⟨_, GT_Ab, ev_ifF C (by rw [s_Ab]; exact ev_c)⟩
    | some t =>
      rw [e] at C
      exact ⟨t, law_title_GT ha e, ev_ifT C (ev_var rfl)⟩
  obtain ⟨t, g, F⟩ := fin
  refine ⟨t, p4, fw_run (ρ0 := [.ow p, .no, .no, .no, .no]) rfl (ρ1 := E (.cl (optS (TT (r ++ cs))))) ?_ rfl, g, q4.le (by rw [ul]; omega)⟩
  unfold m__law_barred
  exact st_seq (ρ1 := [.ow p1, .cl (.str (mkS r)), .no, .no, .no]) (sw_asg (ew_callO rfl (ev_cons (ev_N (ds := b4) rfl mkb4) ev_nil) rfl h1 rfl) rfl)
    (st_seq (ρ1 := [.ow p2, .cl (.str (mkS r)), .cl (.str (mkS s)), .no, .no]) (sw_asg (ew_callO rfl (ev_cons (ev_N (ds := c4) rfl mkc4) ev_nil) rfl h2 rfl) rfl)
    (st_seq (st_for (it_range (ev_cons (ew_callO rfl (ev_cons ev_c ev_nil) rfl h3 rfl) ev_nil) tr) h4) (st_seq S4 (st_ret F))))
end DL

set_option Elab.async false
set_option linter.all false
set_option maxRecDepth 100000
set_option maxHeartbeats 400000
namespace DL
open PySem PySem.Spec PyProof.Rows L2
def OddT (d : D) : Prop := f_is_title [d] = .ok (.bl false) [] ∧ f__law_same_ 7 [d, d] = .ok (.bl true) []
def OddX (d : D) : Prop := f_is_text [d] = .ok (.bl false) [] ∧ f__law_same_ 7 [d, d] = .ok (.bl true) []
def otB : D → Bool
  | .str s => s.cps.toList.all okc && (decide (s.cps.toList.length ≤ 61) && decide (TT s.cps.toList ≠ some s.cps.toList))
  | _ => false
theorem ot_of {d : D} (h : otB d = true) : OddT d := by
  cases d with
  | str s =>
    have h : (s.cps.toList.all okc && (decide (s.cps.toList.length ≤ 61) && decide (TT s.cps.toList ≠ some s.cps.toList))) = true := h
    rw [Bool.and_eq_true, Bool.and_eq_true, decide_eq_true_eq, decide_eq_true_eq] at h
    have q : f_is_title [.str (mkS s.cps.toList)] = _ := is_title_ok (by omega) h.1
    rw [decide_eq_false h.2.2] at q
    exact ⟨q, same_refl 7 _ trivial⟩
  | _ => exact absurd h Bool.false_ne_true
theorem ot_no {d : D} (h : OddX d) : OddT d := ⟨is_title_no h.1, h.2⟩
theorem ox_non : OddX .non := ⟨not_text rfl, same_refl 7 _ trivial⟩
theorem ox_int {i : Int} : OddX (.int i) := ⟨not_text rfl, same_refl 7 _ trivial⟩
theorem ox_bl {b : Bool} : OddX (.bl b) := ⟨not_text rfl, same_refl 7 _ trivial⟩
theorem ox_lst {s : Str} : OddX (.lst [.str s]) := ⟨not_text rfl, same_refl 7 _ ⟨by show 1 ≤ 16777216; decide, fun x hx => by rw [List.mem_singleton.mp hx]; trivial⟩⟩
theorem ox_tup {s : Str} : OddX (.tup [.str s]) := ⟨not_text rfl, same_refl 7 _ ⟨by show 1 ≤ 16777216; decide, fun x hx => by rw [List.mem_singleton.mp hx]; trivial⟩⟩
theorem ox_dic : OddX (.dic []) := ⟨not_text rfl, same_dic⟩
theorem ox_exc {a : Addr} {v : D} : OddX (.exc a "InvalidCount" v) := ⟨not_text rfl, same_exc⟩
theorem s_at : opAdd (.str "a") (.str "\t") = .ok (.str (mkS [97, 9])) := by
  rw [show ("a" : Str) = mkS [97] by decide +kernel, show ("\t" : Str) = mkS [9] by decide +kernel]
  exact add_mkS (by decide)
theorem led_to_noT {d y : D} (h : f_is_title [d] = .ok (.bl false) []) : f_led_to [d, y] = .exn "InvalidTitle" d [] :=
  ex_run (ρ0 := [.cl d, .cl y, .no, .no, .no]) rfl (ex_seq (ex_drop (ex_call (ev_cons (ev_var rfl) ev_nil) (check_title_no h)))) rfl
theorem led_to_noX {t : List Nat} {d : D} (g : GT t) (h : f_is_text [d] = .ok (.bl false) []) : f_led_to [.str (mkS t), d] = .exn "InvalidText" d [] :=
  ex_run (ρ0 := [.cl (.str (mkS t)), .cl d, .no, .no, .no]) rfl (st_seq (st_drop (ev_call (ev_cons (ev_var rfl) ev_nil) (check_title_ok (by have := g.2.2; omega) g.2.1 g.1))) (ex_seq (ex_drop (ex_call (ev_cons (ev_var rfl) ev_nil) (check_no h))))) rfl
theorem ref_title {w : Int} {d y : D} (hw : w = 0 ∨ w = 1 ∨ w = 2 ∨ w = 3) (h : f_is_title [d] = .ok (.bl false) []) : f__law_refusal [.int w, .lst [d, y]] = .ok (.lst [.str "title", d]) [] := by
  rcases hw with rfl | rfl | rfl | rfl
  · exact refusal_title (asked0_no (y := .non) (titles_above_no h))
  · exact refusal_title (asked1_no (y := .non) (titles_above_no h))
  · exact refusal_title (asked2_no (led_to_noT h))
  · exact refusal_title (asked3_no (led_to_noT h))
theorem ref_text {w : Int} {t : List Nat} {d : D} (hw : w = 2 ∨ w = 3) (g : GT t) (h : f_is_text [d] = .ok (.bl false) []) : f__law_refusal [.int w, .lst [.str (mkS t), d]] = .ok (.lst [.str "text", d]) [] := by
  rcases hw with rfl | rfl
  · exact refusal_text (asked2_no (led_to_noX g h))
  · exact refusal_text (asked3_no (led_to_noX g h))
end DL

set_option Elab.async false
set_option linter.all false
set_option maxRecDepth 100000
set_option maxHeartbeats 400000
namespace DL
open PySem PySem.Spec PyProof.Rows L2
noncomputable def riB : MS := (sIf (bNot (bTr (eCall f__law_right (aCons (eCallO f__law_barred 2 (aNil)) (aCons (eCallO f__law_step 2 (aNil)) (aNil)))))) (sRet (eC (.bl false))) (sNext))
theorem ri_loop {s x1 x4 x5 x6 : Sl} : ∀ (ds : List D) {n : Int} {p : D} {y3 : Sl}, PV n p → n + 12 * ds.length < 90000 →
    ∃ (p' : D) (y3' : Sl), forLoop (tgName 3) riB ds [s, x1, .ow p, y3, x4, x5, x6] = .nx [s, x1, .ow p', y3', x4, x5, x6] ∧ PV (n + 12 * ds.length) p'
  | [], n, p, y3, h, hn => ⟨p, y3, rfl, h.le (by simp)⟩
  | d :: ds, n, p, y3, h, hn => by
    rw [List.length_cons] at hn
    obtain ⟨t, p1, h1, g, q1⟩ := barred_ok h (by omega)
    obtain ⟨cs, p2, h2, ca, cl, cp, q2⟩ := step_ok q1 (by omega)
    obtain ⟨p3, u3, h3, q3⟩ := ri_loop ds (n := n + 12) (y3 := .cl d) (q2.le (by omega)) (by omega)
    refine ⟨p3, u3, for_nx rfl ?_ h3, q3.le (by rw [List.length_cons]; omega)⟩
    exact st_ifF (tb_not' (k := true) (tb_tr' (ev_call (ev_cons (ew_callO rfl ev_nil rfl h1 rfl) (ev_cons (ew_callO rfl ev_nil rfl h2 rfl) ev_nil)) (right_ok g.1 g.2.1 ca (by omega) cp)) truth_bl)) st_next
end DL

set_option Elab.async false
set_option linter.all false
set_option maxRecDepth 100000
set_option maxHeartbeats 400000
namespace DL
open PySem PySem.Spec PyProof.Rows L2
def t4 : List D := [.str "", .str "a", .str "A_b", .str "talk:X"]
theorem t4_ok : t4.all otB = true := by decide +kernel
def odT (a : Addr) : List D := [.non, .int 5, .str "", .str "a", .str "A_b", .str "talk:X", .lst [.str "A"], .bl true, .exc a "InvalidCount" (.str "A")]
theorem odT_ok {a : Addr} {d : D} (h : d ∈ odT a) : OddT d := by
  have f : ∀ {d}, d ∈ t4 → OddT d := fun h => ot_of (List.all_eq_true.mp t4_ok _ h)
  simp only [odT, List.mem_cons, List.not_mem_nil, or_false] at h
  rcases h with rfl | rfl | rfl | rfl | rfl | rfl | rfl | rfl | rfl
  · exact ot_no ox_non
  · exact ot_no ox_int
  · exact f (by simp [t4])
  · exact f (by simp [t4])
  · exact f (by simp [t4])
  · exact f (by simp [t4])
  · exact ot_no ox_lst
  · exact ot_no ox_bl
  · exact ot_no ox_exc
def odX : List D := [.non, .int 5, .bl true, .lst [.str "A"], .str (mkS [97, 9]), .dic []]
theorem odX_ok {d : D} (h : d ∈ odX) : OddX d := by
  simp only [odX, List.mem_cons, List.not_mem_nil, or_false] at h
  rcases h with rfl | rfl | rfl | rfl | rfl | rfl
  · exact ox_non
  · exact ox_int
  · exact ox_bl
  · exact ox_lst
  · exact ⟨is_text_mk (by decide), same_refl 7 _ trivial⟩
  · exact ox_dic
noncomputable def odB : MS := (sSeq (sIf (bNot (bTr (eCall f__law_same (aCons (eCall f__law_refusal (aCons (eVar 6) (aCons (eN mkLst (aCons (eVar 4) (aCons (eVar 5) (aNil)))) (aNil)))) (aCons (eN mkLst (aCons (eC (.str "title")) (aCons (eVar 4) (aNil)))) (aNil)))))) (sRet (eC (.bl false))) (sNext))
  (sIf (bAnd (bOf (e2 opGt (eVar 6) (eC (.int 1)))) (bNot (bTr (eCall f__law_same (aCons (eCall f__law_refusal (aCons (eVar 6) (aCons (eN mkLst (aCons (eC (.str "A/b")) (aCons (eVar 5) (aNil)))) (aNil)))) (aCons (eN mkLst (aCons (eC (.str "text")) (aCons (eVar 5) (aNil)))) (aNil))))))) (sRet (eC (.bl false))) (sNext)))
theorem od_turn {s x1 x2 x3 : Sl} {d e : D} {w : Int} (hw : w = 0 ∨ w = 1 ∨ w = 2 ∨ w = 3) (hd : OddT d) (he : OddX e) : odB [s, x1, x2, x3, .cl d, .cl e, .cl (.int w)] = .nx [s, x1, x2, x3, .cl d, .cl e, .cl (.int w)] := by
  have R1 := ref_title (y := e) hw hd.1
  refine st_seq (st_ifF (tb_not' (k := true) (tb_tr' (ev_call (ev_cons (ev_call (ev_cons (ev_var rfl) (ev_cons (ev_N (ev_cons (ev_var rfl) (ev_cons (ev_var rfl) ev_nil)) mk2) ev_nil)) R1) (ev_cons (ev_N (ev_cons ev_c (ev_cons (ev_var rfl) ev_nil)) mk2) ev_nil)) (same_pair (n := 6) hd.2)) truth_bl)) st_next) ?_
  have G : bOf (e2 opGt (eVar 6) (eC (.int 1))) [s, x1, x2, x3, .cl d, .cl e, .cl (.int w)] = .ok (decide (1 < w)) [s, x1, x2, x3, .cl d, .cl e, .cl (.int w)] := tb_of' (ev_2 (ev_var rfl) ev_c gt_int')
  by_cases q : 1 < w
  · rw [decide_eq_true q] at G
    have R2 := ref_text (w := w) (by omega) GT_Ab he.1
    rw [← s_Ab] at R2
    exact st_ifF (tb_andT G (tb_not' (k := true) (tb_tr' (ev_call (ev_cons (ev_call (ev_cons (ev_var rfl) (ev_cons (ev_N (ev_cons ev_c (ev_cons (ev_var rfl) ev_nil)) mk2) ev_nil)) R2) (ev_cons (ev_N (ev_cons ev_c (ev_cons (ev_var rfl) ev_nil)) mk2) ev_nil)) (same_pair (n := 6) he.2)) truth_bl))) st_next
  · rw [decide_eq_false q] at G
    exact st_ifF (tb_andF G) st_next
end DL

set_option Elab.async false
set_option linter.all false
set_option maxRecDepth 100000
set_option maxHeartbeats 400000
namespace DL
open PySem PySem.Spec PyProof.Rows L2
def menT (a : Addr) : M (List D) := (aCons (eC .non) (aCons (eC (.int 5)) (aCons (eC (.str "")) (aCons (eC (.str "a")) (aCons (eC (.str "A_b")) (aCons (eC (.str "talk:X")) (aCons (eN mkLst (aCons (eC (.str "A")) (aNil))) (aCons (eC (.bl true)) (aCons (eNew "InvalidCount" (eC (.str "A")) a) aNil)))))))))
theorem menT_ok {a : Addr} {ρ : Rho} : menT a ρ = .ok (odT a) ρ := ev_cons ev_c (ev_cons ev_c (ev_cons ev_c (ev_cons ev_c (ev_cons ev_c (ev_cons ev_c (ev_cons (ev_N (ev_cons ev_c ev_nil) rfl) (ev_cons ev_c (ev_cons rfl ev_nil))))))))
theorem mkodT {a : Addr} : mkLst (odT a) = .ok (.lst (odT a)) := rfl
def menX : M (List D) := (aCons (eC .non) (aCons (eC (.int 5)) (aCons (eC (.bl true)) (aCons (eN mkLst (aCons (eC (.str "A")) (aNil))) (aCons (e2 opAdd (eC (.str "a")) (eC (.str "\t"))) (aCons (eC (.dic [])) (aNil)))))))
theorem menX_ok {ρ : Rho} : menX ρ = .ok odX ρ := ev_cons ev_c (ev_cons ev_c (ev_cons ev_c (ev_cons (ev_N (ev_cons ev_c ev_nil) rfl) (ev_cons (ev_2 ev_c ev_c s_at) (ev_cons ev_c ev_nil)))))
theorem mkodX : mkLst odX = .ok (.lst odX) := rfl
theorem r8' : toRange [.int 8] = .ok (upFrom 0 8) := rfl
theorem r6 : toRange [.int 6] = .ok (upFrom 0 6) := rfl
theorem r4 : toRange [.int 4] = .ok [.int 0, .int 1, .int 2, .int 3] := rfl
noncomputable def lawB : MS := (sSeq (sAsgO 2 (eCall f__law_purse (aCons (eVar 0) (aCons (eVar 1) (aNil)))))
  (sSeq (sFor (tgName 3) (iRange (aCons (eC (.int 8)) aNil)) riB)
  (sSeq (sAny fun a => sAsg (eCallO f__law_one_of 2 (aCons (eN mkLst (menT a)) aNil)) (tgName 4))
  (sSeq (sAsg (eCallO f__law_one_of 2 (aCons (eN mkLst menX) (aNil))) (tgName 5))
  (sFor (tgName 6) (iRange (aCons (eC (.int 4)) aNil)) odB)))))
def LQ (s : Sl) (ρ : Rho) : Prop := ∃ a b c d e f, ρ = [s, a, b, c, d, e, f]
theorem law_turn {ns : List Int} {k : Int} {x2 x3 x4 x5 x6 : Sl} (h0 : 0 ≤ k) (h1 : k ≤ 63) : Eve (LQ (.cl (.ros (ns.map .int)))) (lawB [.cl (.ros (ns.map .int)), .cl (.int k), x2, x3, x4, x5, x6]) := by
  obtain ⟨p, E1, q1⟩ := purse_ok (ns := ns) h0 h1
  obtain ⟨p2, z3, E2, q2⟩ := ri_loop (s := .cl (.ros (ns.map .int))) (x1 := .cl (.int k)) (x4 := x4) (x5 := x5) (x6 := x6) (upFrom 0 8) (y3 := x3) q1 (by decide)
  have q2 : PV (0 + 12 * 8) p2 := q2
  unfold lawB
  refine eve_seq (Q := fun ρ => ρ = [.cl (.ros (ns.map .int)), .cl (.int k), .ow p, x3, x4, x5, x6]) (eve_nx (sw_asgO (ev_call (ev_cons (ev_var rfl) (ev_cons (ev_var rfl) ev_nil)) E1) rfl) rfl) ?_
  rintro _ rfl
  refine eve_seq (Q := fun ρ => ρ = [.cl (.ros (ns.map .int)), .cl (.int k), .ow p2, z3, x4, x5, x6]) (eve_nx (st_for (it_range (ev_cons ev_c ev_nil) r8') E2) rfl) ?_
  rintro _ rfl
  refine eve_seq (Q := fun ρ => ∃ (p3 d : D), OddT d ∧ PV 1000 p3 ∧ ρ = [.cl (.ros (ns.map .int)), .cl (.int k), .ow p3, z3, .cl d, x5, x6]) ?_ ?_
  · intro a
    obtain ⟨d, p3, E3, hd, q3⟩ := one_of_lst (xs := odT a) q2 (by omega) (show 0 < 9 by decide) (show 9 < 2 ^ 27 by decide)
    exact eve_nx (sw_asg (ew_callO rfl (ev_cons (ev_N menT_ok mkodT) ev_nil) rfl E3 rfl) rfl) ⟨p3, d, odT_ok hd, q3.le (by decide), rfl⟩
  · rintro _ ⟨p3, d, hd, q3, rfl⟩
    obtain ⟨e, p4, E4, he, q4⟩ := one_of_lst (xs := odX) q3 (by decide) (by decide) (by decide)
    have he := odX_ok he
    refine eve_seq (Q := fun ρ => ρ = [.cl (.ros (ns.map .int)), .cl (.int k), .ow p4, z3, .cl d, .cl e, x6]) (eve_nx (sw_asg (ew_callO rfl (ev_cons (ev_N menX_ok mkodX) ev_nil) rfl E4 rfl) rfl) rfl) ?_
    rintro _ rfl
    have F := st_for (t := tgName 6) (b := odB) (it_range (m := aCons (eC (.int 4)) aNil) (ρ := [.cl (.ros (ns.map .int)), .cl (.int k), .ow p4, z3, .cl d, .cl e, x6]) (ev_cons ev_c ev_nil) r4) (for_nx rfl (od_turn (.inl rfl) hd he) (for_nx rfl (od_turn (.inr (.inl rfl)) hd he) (for_nx rfl (od_turn (.inr (.inr (.inl rfl))) hd he) (for_nx rfl (od_turn (.inr (.inr (.inr rfl))) hd he) for_nil))))
    exact eve_nx F ⟨_, _, _, _, _, _, rfl⟩
theorem law_true : ∀ ns : List Int, ns.length ≤ 63 → (∀ z ∈ ns, Builtin.Int.intBits z ≤ 1048576) → f_law [.ros (ns.map .int)] = .ok (.bl true) [] := by
  intro ns _ _
  refine fw_evr (ρ0 := [.cl (.ros (ns.map .int)), .no, .no, .no, .no, .no, .no]) rfl ?_
  show EvR _ ((sSeq (sFor (tgName 1) (iRange (aCons (eC (.int 6)) aNil)) lawB) _) _)
  refine evr_seq (Q := LQ (.cl (.ros (ns.map .int)))) ?_ ?_
  · rw [st_for (it_range (ev_cons ev_c ev_nil) r6) rfl]
    refine eve_for ?_ ⟨_, _, _, _, _, _, rfl⟩
    rintro _ ⟨a, b, c, d, e, f, rfl⟩ x hx
    obtain ⟨i, hi, rfl⟩ := List.mem_map.mp hx
    have hi := List.mem_range.mp hi
    exact ⟨_, rfl, law_turn (by omega) (by omega)⟩
  · rintro _ ⟨a, b, c, d, e, f, rfl⟩
    exact evr_ret (st_ret ev_c)
end DL

set_option Elab.async false
set_option maxRecDepth 100000
set_option maxHeartbeats 4000000
namespace DL
open PySem PySem.Spec PyProof.Rows L2
abbrev i_InvalidText : Stmt := inClass (top 2) 0
abbrev i_InvalidTitle : Stmt := inClass (top 3) 0
abbrev i_InvalidCount : Stmt := inClass (top 4) 0
theorem tx_mk {P : Program} {w : World} {K : PySem.W.Frag} {h : Heap} {mg : Str → Option Value} {C0 C1 C2 f_3 f_4 f_5 f_6 f_7 f_8 f_9 f_10 f_11 f_12 f_13 f_14 f_15 f_16 f_17 f_18 f_19 f_20 f_21 f_22 f_23 f_24 f_25 f_26 f_27 f_28 f_29 f_30 f_31 f_32 C3 f_34 f_35 f_36 f_37 f_38 f_39 f_40 : Addr} {od0 an0 od1 an1 od3 an3 od4 an4 od5 an5 od6 an6 od7 an7 od8 an8 od9 an9 od10 an10 od11 an11 od12 an12 od13 an13 od14 an14 od15 an15 od16 an16 od17 an17 od18 an18 od19 an19 od20 an20 od21 an21 od22 an22 od23 an23 od24 an24 od25 an25 od26 an26 od27 an27 od28 an28 od29 an29 od30 an30 od31 an31 od32 an32 od33 an33 od2 : Option Addr} {sl0 sl1 sl2 sl3 sl4 sl5 sl6 sl7 sl8 sl9 sl10 sl11 sl12 sl13 sl14 sl15 sl16 sl17 sl18 sl19 sl20 sl21 sl22 sl23 sl24 sl25 sl26 sl27 sl28 sl29 sl30 sl31 sl32 sl33 : Array (Option Value)} {oc0 kv0 dc0 pm0 cd0 ct0 oc1 kv1 dc1 pm1 cd1 ct1 oc3 kv3 dc3 pm3 cd3 ct3 oc4 kv4 dc4 pm4 cd4 ct4 oc5 kv5 dc5 pm5 cd5 ct5 oc6 kv6 dc6 pm6 cd6 ct6 oc7 kv7 dc7 pm7 cd7 ct7 oc8 kv8 dc8 pm8 cd8 ct8 oc9 kv9 dc9 pm9 cd9 ct9 oc10 kv10 dc10 pm10 cd10 ct10 oc11 kv11 dc11 pm11 cd11 ct11 oc12 kv12 dc12 pm12 cd12 ct12 oc13 kv13 dc13 pm13 cd13 ct13 oc14 kv14 dc14 pm14 cd14 ct14 oc15 kv15 dc15 pm15 cd15 ct15 oc16 kv16 dc16 pm16 cd16 ct16 oc17 kv17 dc17 pm17 cd17 ct17 oc18 kv18 dc18 pm18 cd18 ct18 oc19 kv19 dc19 pm19 cd19 ct19 oc20 kv20 dc20 pm20 cd20 ct20 oc21 kv21 dc21 pm21 cd21 ct21 oc22 kv22 dc22 pm22 cd22 ct22 oc23 kv23 dc23 pm23 cd23 ct23 oc24 kv24 dc24 pm24 cd24 ct24 oc25 kv25 dc25 pm25 cd25 ct25 oc26 kv26 dc26 pm26 cd26 ct26 oc27 kv27 dc27 pm27 cd27 ct27 oc28 kv28 dc28 pm28 cd28 ct28 oc29 kv29 dc29 pm29 cd29 ct29 oc30 kv30 dc30 pm30 cd30 ct30 oc31 kv31 dc31 pm31 cd31 ct31 oc32 kv32 dc32 pm32 cd32 ct32 oc33 kv33 dc33 pm33 cd33 ct33 : Value} {tq0 tq1 tq2 tq3 tq4 tq5 tq6 tq7 tq8 tq9 tq10 : Tok} {mq2 : Nat} {oe15 oe21 oe32 : Value} {oed15 oed21 oed32 : Option Addr} {nn15 nn21 nn32 : Nat} {osl15 osl21 osl32 : Array (Option Value)}
    {nm15 qn15 : _} {nN15 : _} {bs15 bm15 : _} {sn15 : _} {sub15 : _} {ab15 : _} {col15 : _} {dd15 k015 k115 k215 k315 k515 : _} {nm21 qn21 : _} {nN21 : _} {bs21 bm21 : _} {sn21 : _} {sub21 : _} {ab21 : _} {col21 : _} {dd21 k021 k121 k221 k321 k521 : _} {nm32 qn32 : _} {nN32 : _} {bs32 bm32 : _} {sn32 : _} {sub32 : _} {ab32 : _} {col32 : _} {dd32 k032 k132 k232 k332 k532 : _}
    (X : K.In h) (G : h.Ns mainGlobals mg)
    (a_C0 : PySem.W.nsIn K mainGlobals "InvalidCount" = some (some (.ref C0)))
    (a_C1 : PySem.W.nsIn K mainGlobals "InvalidText" = some (some (.ref C1)))
    (a_C2 : PySem.W.nsIn K mainGlobals "InvalidTitle" = some (some (.ref C2)))
    (z_isinstance : PySem.W.nsIn K mainGlobals "isinstance" = some none)
    (st_C2_str : PySem.W.subIn K (.ref C2) (.type "str") = some false)
    (st_C1_str : PySem.W.subIn K (.ref C1) (.type "str") = some false)
    (st_C0_str : PySem.W.subIn K (.ref C0) (.type "str") = some false)
    (z_str : PySem.W.nsIn K mainGlobals "str" = some none)
    (z_all : PySem.W.nsIn K mainGlobals "all" = some none)
    (a_f_3 : PySem.W.nsIn K mainGlobals "is_text" = some (some (.ref f_3)))
    (l_f_3 : K.lookup f_3 = some ⟨oc0, od0, .func (PySem.W.fnOf "is_text" "is_text" (defArgs s_is_text) (defBody s_is_text) (defScope s_is_text) .none kv0 dc0 pm0 an0 cd0 ct0), sl0⟩)
    (c_f_3 : PySem.W.codeIn K cd0 "is_text" = true)
    (k_f_3 : PySem.W.keepIn K (.ref f_3) = true)
    (a_f_4 : PySem.W.nsIn K mainGlobals "made_one" = some (some (.ref f_4)))
    (l_f_4 : K.lookup f_4 = some ⟨oc1, od1, .func (PySem.W.fnOf "made_one" "made_one" (defArgs s_made_one) (defBody s_made_one) (defScope s_made_one) .none kv1 dc1 pm1 an1 cd1 ct1), sl1⟩)
    (c_f_4 : PySem.W.codeIn K cd1 "made_one" = true)
    (k_f_4 : PySem.W.keepIn K (.ref f_4) = true)
    (a_gROOMS : PySem.W.nsIn K mainGlobals "ROOMS" = some (some (.ref f_5)))
    (l_gROOMS : K.lookup f_5 = some ⟨.type "tuple", od2, .seq #[.str "Talk" tq0, .str "User" tq1, .str "User talk" tq2, .str "Template" tq3, .str "Template talk" tq4, .str "Category" tq5, .str "Category talk" tq6, .str "Help" tq7, .str "Help talk" tq8] mq2, sl2⟩)
    (a_f_6 : PySem.W.nsIn K mainGlobals "room_called" = some (some (.ref f_6)))
    (l_f_6 : K.lookup f_6 = some ⟨oc3, od3, .func (PySem.W.fnOf "room_called" "room_called" (defArgs s_room_called) (defBody s_room_called) (defScope s_room_called) .none kv3 dc3 pm3 an3 cd3 ct3), sl3⟩)
    (c_f_6 : PySem.W.codeIn K cd3 "room_called" = true)
    (k_f_6 : PySem.W.keepIn K (.ref f_6) = true)
    (a_f_7 : PySem.W.nsIn K mainGlobals "room_there" = some (some (.ref f_7)))
    (l_f_7 : K.lookup f_7 = some ⟨oc4, od4, .func (PySem.W.fnOf "room_there" "room_there" (defArgs s_room_there) (defBody s_room_there) (defScope s_room_there) .none kv4 dc4 pm4 an4 cd4 ct4), sl4⟩)
    (c_f_7 : PySem.W.codeIn K cd4 "room_there" = true)
    (k_f_7 : PySem.W.keepIn K (.ref f_7) = true)
    (z_sum : PySem.W.nsIn K mainGlobals "sum" = some none)
    (z_int : PySem.W.nsIn K mainGlobals "int" = some none)
    (z_max : PySem.W.nsIn K mainGlobals "max" = some none)
    (a_f_8 : PySem.W.nsIn K mainGlobals "_law_purse" = some (some (.ref f_8)))
    (l_f_8 : K.lookup f_8 = some ⟨oc5, od5, .func (PySem.W.fnOf "_law_purse" "_law_purse" (defArgs s__law_purse) (defBody s__law_purse) (defScope s__law_purse) .none kv5 dc5 pm5 an5 cd5 ct5), sl5⟩)
    (c_f_8 : PySem.W.codeIn K cd5 "_law_purse" = true)
    (k_f_8 : PySem.W.keepIn K (.ref f_8) = true)
    (a_f_9 : PySem.W.nsIn K mainGlobals "_law_mixed" = some (some (.ref f_9)))
    (l_f_9 : K.lookup f_9 = some ⟨oc6, od6, .func (PySem.W.fnOf "_law_mixed" "_law_mixed" (defArgs s__law_mixed) (defBody s__law_mixed) (defScope s__law_mixed) .none kv6 dc6 pm6 an6 cd6 ct6), sl6⟩)
    (c_f_9 : PySem.W.codeIn K cd6 "_law_mixed" = true)
    (k_f_9 : PySem.W.keepIn K (.ref f_9) = true)
    (a_f_10 : PySem.W.nsIn K mainGlobals "_law_rooms" = some (some (.ref f_10)))
    (l_f_10 : K.lookup f_10 = some ⟨oc7, od7, .func (PySem.W.fnOf "_law_rooms" "_law_rooms" (defArgs s__law_rooms) (defBody s__law_rooms) (defScope s__law_rooms) .none kv7 dc7 pm7 an7 cd7 ct7), sl7⟩)
    (c_f_10 : PySem.W.codeIn K cd7 "_law_rooms" = true)
    (k_f_10 : PySem.W.keepIn K (.ref f_10) = true)
    (a_f_11 : PySem.W.nsIn K mainGlobals "_law_made_one" = some (some (.ref f_11)))
    (l_f_11 : K.lookup f_11 = some ⟨oc8, od8, .func (PySem.W.fnOf "_law_made_one" "_law_made_one" (defArgs s__law_made_one) (defBody s__law_made_one) (defScope s__law_made_one) .none kv8 dc8 pm8 an8 cd8 ct8), sl8⟩)
    (c_f_11 : PySem.W.codeIn K cd8 "_law_made_one" = true)
    (k_f_11 : PySem.W.keepIn K (.ref f_11) = true)
    (a_f_12 : PySem.W.nsIn K mainGlobals "_law_great" = some (some (.ref f_12)))
    (l_f_12 : K.lookup f_12 = some ⟨oc9, od9, .func (PySem.W.fnOf "_law_great" "_law_great" (defArgs s__law_great) (defBody s__law_great) (defScope s__law_great) .none kv9 dc9 pm9 an9 cd9 ct9), sl9⟩)
    (c_f_12 : PySem.W.codeIn K cd9 "_law_great" = true)
    (k_f_12 : PySem.W.keepIn K (.ref f_12) = true)
    (a_gBARRED : PySem.W.nsIn K mainGlobals "BARRED" = some (some (.str "[]{}|<>#" tq9)))
    (z_any : PySem.W.nsIn K mainGlobals "any" = some none)
    (z_len : PySem.W.nsIn K mainGlobals "len" = some none)
    (a_gLONGEST : PySem.W.nsIn K mainGlobals "LONGEST" = some (some (.int 60 tq10)))
    (a_f_13 : PySem.W.nsIn K mainGlobals "title_read" = some (some (.ref f_13)))
    (l_f_13 : K.lookup f_13 = some ⟨oc10, od10, .func (PySem.W.fnOf "title_read" "title_read" (defArgs s_title_read) (defBody s_title_read) (defScope s_title_read) .none kv10 dc10 pm10 an10 cd10 ct10), sl10⟩)
    (c_f_13 : PySem.W.codeIn K cd10 "title_read" = true)
    (k_f_13 : PySem.W.keepIn K (.ref f_13) = true)
    (a_f_14 : PySem.W.nsIn K mainGlobals "rest_there" = some (some (.ref f_14)))
    (l_f_14 : K.lookup f_14 = some ⟨oc11, od11, .func (PySem.W.fnOf "rest_there" "rest_there" (defArgs s_rest_there) (defBody s_rest_there) (defScope s_rest_there) .none kv11 dc11 pm11 an11 cd11 ct11), sl11⟩)
    (c_f_14 : PySem.W.codeIn K cd11 "rest_there" = true)
    (k_f_14 : PySem.W.keepIn K (.ref f_14) = true)
    (z_range : PySem.W.nsIn K mainGlobals "range" = some none)
    (a_f_15 : PySem.W.nsIn K mainGlobals "_law_draw" = some (some (.ref f_15)))
    (l_f_15 : K.lookup f_15 = some ⟨oc12, od12, .func (PySem.W.fnOf "_law_draw" "_law_draw" (defArgs s__law_draw) (defBody s__law_draw) (defScope s__law_draw) .none kv12 dc12 pm12 an12 cd12 ct12), sl12⟩)
    (c_f_15 : PySem.W.codeIn K cd12 "_law_draw" = true)
    (k_f_15 : PySem.W.keepIn K (.ref f_15) = true)
    (a_f_16 : PySem.W.nsIn K mainGlobals "_law_parted" = some (some (.ref f_16)))
    (l_f_16 : K.lookup f_16 = some ⟨oc13, od13, .func (PySem.W.fnOf "_law_parted" "_law_parted" (defArgs s__law_parted) (defBody s__law_parted) (defScope s__law_parted) .none kv13 dc13 pm13 an13 cd13 ct13), sl13⟩)
    (c_f_16 : PySem.W.codeIn K cd13 "_law_parted" = true)
    (k_f_16 : PySem.W.keepIn K (.ref f_16) = true)
    (a_f_17 : PySem.W.nsIn K mainGlobals "_law_title" = some (some (.ref f_17)))
    (l_f_17 : K.lookup f_17 = some ⟨oc14, od14, .func (PySem.W.fnOf "_law_title" "_law_title" (defArgs s__law_title) (defBody s__law_title) (defScope s__law_title) .none kv14 dc14 pm14 an14 cd14 ct14), sl14⟩)
    (c_f_17 : PySem.W.codeIn K cd14 "_law_title" = true)
    (k_f_17 : PySem.W.keepIn K (.ref f_17) = true)
    (xC1_l : K.lookup C1 = some (excClassObj nm15 qn15 C1 nN15 bs15 bm15 true sn15 sub15 ab15 col15 dd15 k015 k115 k215 k315 k515 "ValueError.__new__"))
    (xC1_v : PySem.HandSPX.refsVE bm15 = true)
    (xC1_sa : PySem.W.findIn K (.ref C1) "__setattr__" = some (some (.builtin "object.__setattr__")))
    (sb_C1 : PySem.W.subIn K (.ref C1) (.type "BaseException") = some true)
    (ty_C1 : PySem.W.typeIn K (.ref C1) = some (.type "type"))
    (hd_C1 : PySem.W.hasDictIn K C1 = true)
    (xC1_k : PySem.W.keepIn K (.ref C1) = true)
    (xC1_g1 : PySem.W.findIn K (.ref C1) "__getattribute__" = some (some (.builtin "BaseException.__getattribute__")))
    (xC1_g2 : PySem.W.findIn K (.ref C1) "__getattr__" = some none)
    (xC1_ha : PySem.W.findIn K (.ref C1) "__class__" = some (some (.builtin "object.__class__")))
    (w_hn : PySem.W.specialIn K (.builtin "object.__class__") "__get__" = some (some (.builtin "getset_descriptor.__get__")))
    (w_ht : PySem.W.takesIn K (.builtin "object.__class__") = some true)
    (xC1_hm : PySem.W.mroIn K C1 (.type "object") = some true)
    (xC1_hv : PySem.W.findIn K (.ref C1) "value" = some none)
    (xC1_he : PySem.W.findIn K (.ref C1) "__eq__" = some (some (.builtin "object.__eq__")))
    (xC1_iC : PySem.W.findIn K (.ref C1) "__init__" = some (some (.ref f_18)))
    (xC1_tI : PySem.W.typeIn K (.ref f_18) = some (.type "function"))
    (xC1_lI : K.lookup f_18 = some ⟨oc15, od15, .func (PySem.W.fnOf "__init__" "InvalidText.__init__" (defArgs i_InvalidText) (defBody i_InvalidText) (defScope i_InvalidText) (.ref f_19) kv15 dc15 pm15 an15 cd15 ct15), sl15⟩)
    (xC1_cI : PySem.W.codeIn K cd15 "InvalidText.__init__" = true)
    (xC1_kI : PySem.W.keepIn K (.ref f_18) = true)
    (xC1_lT : K.lookup f_19 = some ⟨oe15, oed15, .seq #[.none] nn15, osl15⟩)
    (a_f_20 : PySem.W.nsIn K mainGlobals "check_text" = some (some (.ref f_20)))
    (l_f_20 : K.lookup f_20 = some ⟨oc16, od16, .func (PySem.W.fnOf "check_text" "check_text" (defArgs s_check_text) (defBody s_check_text) (defScope s_check_text) .none kv16 dc16 pm16 an16 cd16 ct16), sl16⟩)
    (c_f_20 : PySem.W.codeIn K cd16 "check_text" = true)
    (k_f_20 : PySem.W.keepIn K (.ref f_20) = true)
    (a_f_21 : PySem.W.nsIn K mainGlobals "is_title" = some (some (.ref f_21)))
    (l_f_21 : K.lookup f_21 = some ⟨oc17, od17, .func (PySem.W.fnOf "is_title" "is_title" (defArgs s_is_title) (defBody s_is_title) (defScope s_is_title) .none kv17 dc17 pm17 an17 cd17 ct17), sl17⟩)
    (c_f_21 : PySem.W.codeIn K cd17 "is_title" = true)
    (k_f_21 : PySem.W.keepIn K (.ref f_21) = true)
    (a_f_22 : PySem.W.nsIn K mainGlobals "above_there" = some (some (.ref f_22)))
    (l_f_22 : K.lookup f_22 = some ⟨oc18, od18, .func (PySem.W.fnOf "above_there" "above_there" (defArgs s_above_there) (defBody s_above_there) (defScope s_above_there) .none kv18 dc18 pm18 an18 cd18 ct18), sl18⟩)
    (c_f_22 : PySem.W.codeIn K cd18 "above_there" = true)
    (k_f_22 : PySem.W.keepIn K (.ref f_22) = true)
    (a_f_23 : PySem.W.nsIn K mainGlobals "_law_one_of" = some (some (.ref f_23)))
    (l_f_23 : K.lookup f_23 = some ⟨oc19, od19, .func (PySem.W.fnOf "_law_one_of" "_law_one_of" (defArgs s__law_one_of) (defBody s__law_one_of) (defScope s__law_one_of) .none kv19 dc19 pm19 an19 cd19 ct19), sl19⟩)
    (c_f_23 : PySem.W.codeIn K cd19 "_law_one_of" = true)
    (k_f_23 : PySem.W.keepIn K (.ref f_23) = true)
    (a_f_24 : PySem.W.nsIn K mainGlobals "_law_above" = some (some (.ref f_24)))
    (l_f_24 : K.lookup f_24 = some ⟨oc20, od20, .func (PySem.W.fnOf "_law_above" "_law_above" (defArgs s__law_above) (defBody s__law_above) (defScope s__law_above) .none kv20 dc20 pm20 an20 cd20 ct20), sl20⟩)
    (c_f_24 : PySem.W.codeIn K cd20 "_law_above" = true)
    (k_f_24 : PySem.W.keepIn K (.ref f_24) = true)
    (xC2_l : K.lookup C2 = some (excClassObj nm21 qn21 C2 nN21 bs21 bm21 true sn21 sub21 ab21 col21 dd21 k021 k121 k221 k321 k521 "ValueError.__new__"))
    (xC2_v : PySem.HandSPX.refsVE bm21 = true)
    (xC2_sa : PySem.W.findIn K (.ref C2) "__setattr__" = some (some (.builtin "object.__setattr__")))
    (sb_C2 : PySem.W.subIn K (.ref C2) (.type "BaseException") = some true)
    (ty_C2 : PySem.W.typeIn K (.ref C2) = some (.type "type"))
    (hd_C2 : PySem.W.hasDictIn K C2 = true)
    (xC2_k : PySem.W.keepIn K (.ref C2) = true)
    (xC2_g1 : PySem.W.findIn K (.ref C2) "__getattribute__" = some (some (.builtin "BaseException.__getattribute__")))
    (xC2_g2 : PySem.W.findIn K (.ref C2) "__getattr__" = some none)
    (xC2_ha : PySem.W.findIn K (.ref C2) "__class__" = some (some (.builtin "object.__class__")))
    (xC2_hm : PySem.W.mroIn K C2 (.type "object") = some true)
    (xC2_hv : PySem.W.findIn K (.ref C2) "value" = some none)
    (xC2_he : PySem.W.findIn K (.ref C2) "__eq__" = some (some (.builtin "object.__eq__")))
    (xC2_iC : PySem.W.findIn K (.ref C2) "__init__" = some (some (.ref f_25)))
    (xC2_tI : PySem.W.typeIn K (.ref f_25) = some (.type "function"))
    (xC2_lI : K.lookup f_25 = some ⟨oc21, od21, .func (PySem.W.fnOf "__init__" "InvalidTitle.__init__" (defArgs i_InvalidTitle) (defBody i_InvalidTitle) (defScope i_InvalidTitle) (.ref f_26) kv21 dc21 pm21 an21 cd21 ct21), sl21⟩)
    (xC2_cI : PySem.W.codeIn K cd21 "InvalidTitle.__init__" = true)
    (xC2_kI : PySem.W.keepIn K (.ref f_25) = true)
    (xC2_lT : K.lookup f_26 = some ⟨oe21, oed21, .seq #[.none] nn21, osl21⟩)
    (a_f_27 : PySem.W.nsIn K mainGlobals "check_title" = some (some (.ref f_27)))
    (l_f_27 : K.lookup f_27 = some ⟨oc22, od22, .func (PySem.W.fnOf "check_title" "check_title" (defArgs s_check_title) (defBody s_check_title) (defScope s_check_title) .none kv22 dc22 pm22 an22 cd22 ct22), sl22⟩)
    (c_f_27 : PySem.W.codeIn K cd22 "check_title" = true)
    (k_f_27 : PySem.W.keepIn K (.ref f_27) = true)
    (a_f_28 : PySem.W.nsIn K mainGlobals "_law_barred" = some (some (.ref f_28)))
    (l_f_28 : K.lookup f_28 = some ⟨oc23, od23, .func (PySem.W.fnOf "_law_barred" "_law_barred" (defArgs s__law_barred) (defBody s__law_barred) (defScope s__law_barred) .none kv23 dc23 pm23 an23 cd23 ct23), sl23⟩)
    (c_f_28 : PySem.W.codeIn K cd23 "_law_barred" = true)
    (k_f_28 : PySem.W.keepIn K (.ref f_28) = true)
    (a_f_29 : PySem.W.nsIn K mainGlobals "_law_step" = some (some (.ref f_29)))
    (l_f_29 : K.lookup f_29 = some ⟨oc24, od24, .func (PySem.W.fnOf "_law_step" "_law_step" (defArgs s__law_step) (defBody s__law_step) (defScope s__law_step) .none kv24 dc24 pm24 an24 cd24 ct24), sl24⟩)
    (c_f_29 : PySem.W.codeIn K cd24 "_law_step" = true)
    (k_f_29 : PySem.W.keepIn K (.ref f_29) = true)
    (a_f_30 : PySem.W.nsIn K mainGlobals "titles_above" = some (some (.ref f_30)))
    (l_f_30 : K.lookup f_30 = some ⟨oc25, od25, .func (PySem.W.fnOf "titles_above" "titles_above" (defArgs s_titles_above) (defBody s_titles_above) (defScope s_titles_above) .none kv25 dc25 pm25 an25 cd25 ct25), sl25⟩)
    (c_f_30 : PySem.W.codeIn K cd25 "titles_above" = true)
    (k_f_30 : PySem.W.keepIn K (.ref f_30) = true)
    (a_f_31 : PySem.W.nsIn K mainGlobals "led_to" = some (some (.ref f_31)))
    (l_f_31 : K.lookup f_31 = some ⟨oc26, od26, .func (PySem.W.fnOf "led_to" "led_to" (defArgs s_led_to) (defBody s_led_to) (defScope s_led_to) .none kv26 dc26 pm26 an26 cd26 ct26), sl26⟩)
    (c_f_31 : PySem.W.codeIn K cd26 "led_to" = true)
    (k_f_31 : PySem.W.keepIn K (.ref f_31) = true)
    (a_f_32 : PySem.W.nsIn K mainGlobals "_law_asked" = some (some (.ref f_32)))
    (l_f_32 : K.lookup f_32 = some ⟨oc27, od27, .func (PySem.W.fnOf "_law_asked" "_law_asked" (defArgs s__law_asked) (defBody s__law_asked) (defScope s__law_asked) .none kv27 dc27 pm27 an27 cd27 ct27), sl27⟩)
    (c_f_32 : PySem.W.codeIn K cd27 "_law_asked" = true)
    (k_f_32 : PySem.W.keepIn K (.ref f_32) = true)
    (a_C3 : PySem.W.nsIn K mainGlobals "WikiError" = some (some (.ref C3)))
    (ty_C3 : PySem.W.typeIn K (.ref C3) = some (.type "type"))
    (hd_C3 : PySem.W.hasDictIn K C3 = true)
    (sb_C3 : PySem.W.subIn K (.ref C3) (.type "BaseException") = some true)
    (ss_C2 : PySem.W.subIn K (.ref C2) (.ref C2) = some true)
    (se_C2_C3 : PySem.W.subIn K (.ref C2) (.ref C3) = some true)
    (ss_C1 : PySem.W.subIn K (.ref C1) (.ref C1) = some true)
    (se_C1_C3 : PySem.W.subIn K (.ref C1) (.ref C3) = some true)
    (ss_C0 : PySem.W.subIn K (.ref C0) (.ref C0) = some true)
    (se_C0_C3 : PySem.W.subIn K (.ref C0) (.ref C3) = some true)
    (ty_C0 : PySem.W.typeIn K (.ref C0) = some (.type "type"))
    (hd_C0 : PySem.W.hasDictIn K C0 = true)
    (sk_C0_dic : PySem.W.subIn K (.type "dict") (.ref C0) = some false)
    (sk_C0_tup : PySem.W.subIn K (.type "tuple") (.ref C0) = some false)
    (sk_C0_lst : PySem.W.subIn K (.type "list") (.ref C0) = some false)
    (sk_C0_str : PySem.W.subIn K (.type "str") (.ref C0) = some false)
    (sk_C0_int : PySem.W.subIn K (.type "int") (.ref C0) = some false)
    (sk_C0_bl : PySem.W.subIn K (.type "bool") (.ref C0) = some false)
    (sk_C0_non : PySem.W.subIn K (.type "NoneType") (.ref C0) = some false)
    (se_C2_C0 : PySem.W.subIn K (.ref C2) (.ref C0) = some false)
    (se_C1_C0 : PySem.W.subIn K (.ref C1) (.ref C0) = some false)
    (sk_C2_dic : PySem.W.subIn K (.type "dict") (.ref C2) = some false)
    (sk_C2_tup : PySem.W.subIn K (.type "tuple") (.ref C2) = some false)
    (sk_C2_lst : PySem.W.subIn K (.type "list") (.ref C2) = some false)
    (sk_C2_str : PySem.W.subIn K (.type "str") (.ref C2) = some false)
    (sk_C2_int : PySem.W.subIn K (.type "int") (.ref C2) = some false)
    (sk_C2_bl : PySem.W.subIn K (.type "bool") (.ref C2) = some false)
    (sk_C2_non : PySem.W.subIn K (.type "NoneType") (.ref C2) = some false)
    (se_C1_C2 : PySem.W.subIn K (.ref C1) (.ref C2) = some false)
    (se_C0_C2 : PySem.W.subIn K (.ref C0) (.ref C2) = some false)
    (sk_C1_dic : PySem.W.subIn K (.type "dict") (.ref C1) = some false)
    (sk_C1_tup : PySem.W.subIn K (.type "tuple") (.ref C1) = some false)
    (sk_C1_lst : PySem.W.subIn K (.type "list") (.ref C1) = some false)
    (sk_C1_str : PySem.W.subIn K (.type "str") (.ref C1) = some false)
    (sk_C1_int : PySem.W.subIn K (.type "int") (.ref C1) = some false)
    (sk_C1_bl : PySem.W.subIn K (.type "bool") (.ref C1) = some false)
    (sk_C1_non : PySem.W.subIn K (.type "NoneType") (.ref C1) = some false)
    (se_C2_C1 : PySem.W.subIn K (.ref C2) (.ref C1) = some false)
    (se_C0_C1 : PySem.W.subIn K (.ref C0) (.ref C1) = some false)
    (sv_C2 : PySem.W.subIn K (.ref C2) (.type "ValueError") = some true)
    (sv_C1 : PySem.W.subIn K (.ref C1) (.type "ValueError") = some true)
    (sv_C0 : PySem.W.subIn K (.ref C0) (.type "ValueError") = some true)
    (z_ValueError : PySem.W.nsIn K mainGlobals "ValueError" = some none)
    (a_f_34 : PySem.W.nsIn K mainGlobals "_law_refusal" = some (some (.ref f_34)))
    (l_f_34 : K.lookup f_34 = some ⟨oc28, od28, .func (PySem.W.fnOf "_law_refusal" "_law_refusal" (defArgs s__law_refusal) (defBody s__law_refusal) (defScope s__law_refusal) .none kv28 dc28 pm28 an28 cd28 ct28), sl28⟩)
    (c_f_34 : PySem.W.codeIn K cd28 "_law_refusal" = true)
    (k_f_34 : PySem.W.keepIn K (.ref f_34) = true)
    (st_C2_dict : PySem.W.subIn K (.ref C2) (.type "dict") = some false)
    (st_C1_dict : PySem.W.subIn K (.ref C1) (.type "dict") = some false)
    (st_C0_dict : PySem.W.subIn K (.ref C0) (.type "dict") = some false)
    (z_dict : PySem.W.nsIn K mainGlobals "dict" = some none)
    (st_C2_tuple : PySem.W.subIn K (.ref C2) (.type "tuple") = some false)
    (st_C2_list : PySem.W.subIn K (.ref C2) (.type "list") = some false)
    (st_C1_tuple : PySem.W.subIn K (.ref C1) (.type "tuple") = some false)
    (st_C1_list : PySem.W.subIn K (.ref C1) (.type "list") = some false)
    (st_C0_tuple : PySem.W.subIn K (.ref C0) (.type "tuple") = some false)
    (st_C0_list : PySem.W.subIn K (.ref C0) (.type "list") = some false)
    (z_list : PySem.W.nsIn K mainGlobals "list" = some none)
    (z_tuple : PySem.W.nsIn K mainGlobals "tuple" = some none)
    (z_zip : PySem.W.nsIn K mainGlobals "zip" = some none)
    (st_C2_int : PySem.W.subIn K (.ref C2) (.type "int") = some false)
    (st_C1_int : PySem.W.subIn K (.ref C1) (.type "int") = some false)
    (st_C0_int : PySem.W.subIn K (.ref C0) (.type "int") = some false)
    (st_C2_bool : PySem.W.subIn K (.ref C2) (.type "bool") = some false)
    (st_C1_bool : PySem.W.subIn K (.ref C1) (.type "bool") = some false)
    (st_C0_bool : PySem.W.subIn K (.ref C0) (.type "bool") = some false)
    (z_bool : PySem.W.nsIn K mainGlobals "bool" = some none)
    (a_f_35 : PySem.W.nsIn K mainGlobals "_law_same" = some (some (.ref f_35)))
    (l_f_35 : K.lookup f_35 = some ⟨oc29, od29, .func (PySem.W.fnOf "_law_same" "_law_same" (defArgs s__law_same) (defBody s__law_same) (defScope s__law_same) .none kv29 dc29 pm29 an29 cd29 ct29), sl29⟩)
    (c_f_35 : PySem.W.codeIn K cd29 "_law_same" = true)
    (k_f_35 : PySem.W.keepIn K (.ref f_35) = true)
    (a_f_36 : PySem.W.nsIn K mainGlobals "_law_led" = some (some (.ref f_36)))
    (l_f_36 : K.lookup f_36 = some ⟨oc30, od30, .func (PySem.W.fnOf "_law_led" "_law_led" (defArgs s__law_led) (defBody s__law_led) (defScope s__law_led) .none kv30 dc30 pm30 an30 cd30 ct30), sl30⟩)
    (c_f_36 : PySem.W.codeIn K cd30 "_law_led" = true)
    (k_f_36 : PySem.W.keepIn K (.ref f_36) = true)
    (z_enumerate : PySem.W.nsIn K mainGlobals "enumerate" = some none)
    (a_f_37 : PySem.W.nsIn K mainGlobals "_law_right" = some (some (.ref f_37)))
    (l_f_37 : K.lookup f_37 = some ⟨oc31, od31, .func (PySem.W.fnOf "_law_right" "_law_right" (defArgs s__law_right) (defBody s__law_right) (defScope s__law_right) .none kv31 dc31 pm31 an31 cd31 ct31), sl31⟩)
    (c_f_37 : PySem.W.codeIn K cd31 "_law_right" = true)
    (k_f_37 : PySem.W.keepIn K (.ref f_37) = true)
    (xC0_l : K.lookup C0 = some (excClassObj nm32 qn32 C0 nN32 bs32 bm32 true sn32 sub32 ab32 col32 dd32 k032 k132 k232 k332 k532 "ValueError.__new__"))
    (xC0_v : PySem.HandSPX.refsVE bm32 = true)
    (xC0_sa : PySem.W.findIn K (.ref C0) "__setattr__" = some (some (.builtin "object.__setattr__")))
    (sb_C0 : PySem.W.subIn K (.ref C0) (.type "BaseException") = some true)
    (xC0_k : PySem.W.keepIn K (.ref C0) = true)
    (xC0_g1 : PySem.W.findIn K (.ref C0) "__getattribute__" = some (some (.builtin "BaseException.__getattribute__")))
    (xC0_g2 : PySem.W.findIn K (.ref C0) "__getattr__" = some none)
    (xC0_ha : PySem.W.findIn K (.ref C0) "__class__" = some (some (.builtin "object.__class__")))
    (xC0_hm : PySem.W.mroIn K C0 (.type "object") = some true)
    (xC0_hv : PySem.W.findIn K (.ref C0) "value" = some none)
    (xC0_he : PySem.W.findIn K (.ref C0) "__eq__" = some (some (.builtin "object.__eq__")))
    (xC0_iC : PySem.W.findIn K (.ref C0) "__init__" = some (some (.ref f_38)))
    (xC0_tI : PySem.W.typeIn K (.ref f_38) = some (.type "function"))
    (xC0_lI : K.lookup f_38 = some ⟨oc32, od32, .func (PySem.W.fnOf "__init__" "InvalidCount.__init__" (defArgs i_InvalidCount) (defBody i_InvalidCount) (defScope i_InvalidCount) (.ref f_39) kv32 dc32 pm32 an32 cd32 ct32), sl32⟩)
    (xC0_cI : PySem.W.codeIn K cd32 "InvalidCount.__init__" = true)
    (xC0_kI : PySem.W.keepIn K (.ref f_38) = true)
    (xC0_lT : K.lookup f_39 = some ⟨oe32, oed32, .seq #[.none] nn32, osl32⟩)
    (a_f_40 : PySem.W.nsIn K mainGlobals "law" = some (some (.ref f_40)))
    (l_f_40 : K.lookup f_40 = some ⟨oc33, od33, .func (PySem.W.fnOf "law" "law" (defArgs s_law) (defBody s_law) (defScope s_law) .none kv33 dc33 pm33 an33 cd33 ct33), sl33⟩)
    (c_f_40 : PySem.W.codeIn K cd33 "law" = true)
    (k_f_40 : PySem.W.keepIn K (.ref f_40) = true)
    : ∀ base : Heap, Tx P w K mg base := fun base => {
  n_isinstance := PySem.W.mg_none_of X G z_isinstance
  i_str := isT_tys (Ts := ["str"]) (by intro T h; simp at h; unfold six; subst h; simp) (by intro k; cases k <;> decide +kernel) ⟨⟨rfl, C0, PySem.W.mg_of X G a_C0, ⟨st_C0_str, trivial⟩⟩, ⟨⟨rfl, C1, PySem.W.mg_of X G a_C1, ⟨st_C1_str, trivial⟩⟩, ⟨⟨rfl, C2, PySem.W.mg_of X G a_C2, ⟨st_C2_str, trivial⟩⟩, trivial⟩⟩⟩
  n_str := PySem.W.mg_none_of X G z_str
  n_all := PySem.W.mg_none_of X G z_all
  d_is_text := ⟨f_3, _, DF.mk' (st := s_is_text) l_f_3 c_f_3 k_f_3 (fun _ => rfl), PySem.W.mg_of X G a_f_3⟩
  d_made_one := ⟨f_4, _, DF.mk' (st := s_made_one) l_f_4 c_f_4 k_f_4 (fun _ => rfl), PySem.W.mg_of X G a_f_4⟩
  g_ROOMS := glob_strs [("Talk", tq0), ("User", tq1), ("User talk", tq2), ("Template", tq3), ("Template talk", tq4), ("Category", tq5), ("Category talk", tq6), ("Help", tq7), ("Help talk", tq8)] (PySem.W.mg_of X G a_gROOMS) l_gROOMS (Nat.le_of_ble_eq_true rfl)
  d_room_called := ⟨f_6, _, DF.mk' (st := s_room_called) l_f_6 c_f_6 k_f_6 (fun _ => rfl), PySem.W.mg_of X G a_f_6⟩
  d_room_there := ⟨f_7, _, DF.mk' (st := s_room_there) l_f_7 c_f_7 k_f_7 (fun _ => rfl), PySem.W.mg_of X G a_f_7⟩
  n_sum := PySem.W.mg_none_of X G z_sum
  n_int := PySem.W.mg_none_of X G z_int
  n_max := PySem.W.mg_none_of X G z_max
  d__law_purse := ⟨f_8, _, DF.mk' (st := s__law_purse) l_f_8 c_f_8 k_f_8 (fun _ => rfl), PySem.W.mg_of X G a_f_8⟩
  d__law_mixed := ⟨f_9, _, DF.mk' (st := s__law_mixed) l_f_9 c_f_9 k_f_9 (fun _ => rfl), PySem.W.mg_of X G a_f_9⟩
  d__law_rooms := ⟨f_10, _, DF.mk' (st := s__law_rooms) l_f_10 c_f_10 k_f_10 (fun _ => rfl), PySem.W.mg_of X G a_f_10⟩
  d__law_made_one := ⟨f_11, _, DF.mk' (st := s__law_made_one) l_f_11 c_f_11 k_f_11 (fun _ => rfl), PySem.W.mg_of X G a_f_11⟩
  d__law_great := ⟨f_12, _, DF.mk' (st := s__law_great) l_f_12 c_f_12 k_f_12 (fun _ => rfl), PySem.W.mg_of X G a_f_12⟩
  g_BARRED := glob_str (PySem.W.mg_of X G a_gBARRED)
  n_any := PySem.W.mg_none_of X G z_any
  n_len := PySem.W.mg_none_of X G z_len
  g_LONGEST := glob_int (PySem.W.mg_of X G a_gLONGEST)
  d_title_read := ⟨f_13, _, DF.mk' (st := s_title_read) l_f_13 c_f_13 k_f_13 (fun _ => rfl), PySem.W.mg_of X G a_f_13⟩
  d_rest_there := ⟨f_14, _, DF.mk' (st := s_rest_there) l_f_14 c_f_14 k_f_14 (fun _ => rfl), PySem.W.mg_of X G a_f_14⟩
  n_range := PySem.W.mg_none_of X G z_range
  d__law_draw := ⟨f_15, _, DF.mk' (st := s__law_draw) l_f_15 c_f_15 k_f_15 (fun _ => rfl), PySem.W.mg_of X G a_f_15⟩
  d__law_parted := ⟨f_16, _, DF.mk' (st := s__law_parted) l_f_16 c_f_16 k_f_16 (fun _ => rfl), PySem.W.mg_of X G a_f_16⟩
  d__law_title := ⟨f_17, _, DF.mk' (st := s__law_title) l_f_17 c_f_17 k_f_17 (fun _ => rfl), PySem.W.mg_of X G a_f_17⟩
  x_InvalidText := xd_mk (st := i_InvalidText) (PySem.W.mg_of X G a_C1) ⟨⟨_, _, _, _, _, _, _, _, _, _, _, _, _, _, _, xC1_l, xC1_v⟩, xC1_sa, sb_C1, ty_C1, xC1_k⟩ xC1_g1 xC1_g2 xC1_ha w_hn w_ht xC1_hm hd_C1 xC1_hv xC1_he xC1_iC xC1_tI (DF.mk' (st := i_InvalidText) xC1_lI xC1_cI xC1_kI (fun z => by cases z)) ⟨rfl, rfl, rfl, by decide +kernel, rfl, by decide +kernel, by decide +kernel⟩ rfl rfl rfl (fun _ => rfl) (init_binds xC1_lI xC1_cI xC1_kI xC1_lT fun T kV doc pm an cdv ct us its hu hi => match us, its, hu, hi with | [_, _], [_], _, _ => ⟨_, rfl, rfl⟩)
  d_check_text := ⟨f_20, _, DF.mk' (st := s_check_text) l_f_20 c_f_20 k_f_20 (fun _ => rfl), PySem.W.mg_of X G a_f_20⟩
  d_is_title := ⟨f_21, _, DF.mk' (st := s_is_title) l_f_21 c_f_21 k_f_21 (fun _ => rfl), PySem.W.mg_of X G a_f_21⟩
  d_above_there := ⟨f_22, _, DF.mk' (st := s_above_there) l_f_22 c_f_22 k_f_22 (fun _ => rfl), PySem.W.mg_of X G a_f_22⟩
  d__law_one_of := ⟨f_23, _, DF.mk' (st := s__law_one_of) l_f_23 c_f_23 k_f_23 (fun _ => rfl), PySem.W.mg_of X G a_f_23⟩
  d__law_above := ⟨f_24, _, DF.mk' (st := s__law_above) l_f_24 c_f_24 k_f_24 (fun _ => rfl), PySem.W.mg_of X G a_f_24⟩
  x_InvalidTitle := xd_mk (st := i_InvalidTitle) (PySem.W.mg_of X G a_C2) ⟨⟨_, _, _, _, _, _, _, _, _, _, _, _, _, _, _, xC2_l, xC2_v⟩, xC2_sa, sb_C2, ty_C2, xC2_k⟩ xC2_g1 xC2_g2 xC2_ha w_hn w_ht xC2_hm hd_C2 xC2_hv xC2_he xC2_iC xC2_tI (DF.mk' (st := i_InvalidTitle) xC2_lI xC2_cI xC2_kI (fun z => by cases z)) ⟨rfl, rfl, rfl, by decide +kernel, rfl, by decide +kernel, by decide +kernel⟩ rfl rfl rfl (fun _ => rfl) (init_binds xC2_lI xC2_cI xC2_kI xC2_lT fun T kV doc pm an cdv ct us its hu hi => match us, its, hu, hi with | [_, _], [_], _, _ => ⟨_, rfl, rfl⟩)
  d_check_title := ⟨f_27, _, DF.mk' (st := s_check_title) l_f_27 c_f_27 k_f_27 (fun _ => rfl), PySem.W.mg_of X G a_f_27⟩
  d__law_barred := ⟨f_28, _, DF.mk' (st := s__law_barred) l_f_28 c_f_28 k_f_28 (fun _ => rfl), PySem.W.mg_of X G a_f_28⟩
  d__law_step := ⟨f_29, _, DF.mk' (st := s__law_step) l_f_29 c_f_29 k_f_29 (fun _ => rfl), PySem.W.mg_of X G a_f_29⟩
  d_titles_above := ⟨f_30, _, DF.mk' (st := s_titles_above) l_f_30 c_f_30 k_f_30 (fun _ => rfl), PySem.W.mg_of X G a_f_30⟩
  d_led_to := ⟨f_31, _, DF.mk' (st := s_led_to) l_f_31 c_f_31 k_f_31 (fun _ => rfl), PySem.W.mg_of X G a_f_31⟩
  d__law_asked := ⟨f_32, _, DF.mk' (st := s__law_asked) l_f_32 c_f_32 k_f_32 (fun _ => rfl), PySem.W.mg_of X G a_f_32⟩
  c_WikiError := ⟨C3, PySem.W.mg_of X G a_C3, catT_mk ty_C3 hd_C3 sb_C3 ⟨⟨C0, PySem.W.mg_of X G a_C0, se_C0_C3, ss_C0⟩, ⟨⟨C1, PySem.W.mg_of X G a_C1, se_C1_C3, ss_C1⟩, ⟨⟨C2, PySem.W.mg_of X G a_C2, se_C2_C3, ss_C2⟩, trivial⟩⟩⟩⟩
  i_InvalidCount := ⟨C0, PySem.W.mg_of X G a_C0, isT_ref ty_C0 hd_C0 ⟨sk_C0_non, ⟨sk_C0_bl, ⟨sk_C0_int, ⟨sk_C0_str, ⟨sk_C0_lst, ⟨sk_C0_tup, ⟨sk_C0_dic, trivial⟩⟩⟩⟩⟩⟩⟩ ⟨⟨C0, PySem.W.mg_of X G a_C0, ss_C0, ss_C0⟩, ⟨⟨C1, PySem.W.mg_of X G a_C1, se_C1_C0, ss_C1⟩, ⟨⟨C2, PySem.W.mg_of X G a_C2, se_C2_C0, ss_C2⟩, trivial⟩⟩⟩⟩
  i_InvalidTitle := ⟨C2, PySem.W.mg_of X G a_C2, isT_ref ty_C2 hd_C2 ⟨sk_C2_non, ⟨sk_C2_bl, ⟨sk_C2_int, ⟨sk_C2_str, ⟨sk_C2_lst, ⟨sk_C2_tup, ⟨sk_C2_dic, trivial⟩⟩⟩⟩⟩⟩⟩ ⟨⟨C0, PySem.W.mg_of X G a_C0, se_C0_C2, ss_C0⟩, ⟨⟨C1, PySem.W.mg_of X G a_C1, se_C1_C2, ss_C1⟩, ⟨⟨C2, PySem.W.mg_of X G a_C2, ss_C2, ss_C2⟩, trivial⟩⟩⟩⟩
  i_InvalidText := ⟨C1, PySem.W.mg_of X G a_C1, isT_ref ty_C1 hd_C1 ⟨sk_C1_non, ⟨sk_C1_bl, ⟨sk_C1_int, ⟨sk_C1_str, ⟨sk_C1_lst, ⟨sk_C1_tup, ⟨sk_C1_dic, trivial⟩⟩⟩⟩⟩⟩⟩ ⟨⟨C0, PySem.W.mg_of X G a_C0, se_C0_C1, ss_C0⟩, ⟨⟨C1, PySem.W.mg_of X G a_C1, ss_C1, ss_C1⟩, ⟨⟨C2, PySem.W.mg_of X G a_C2, se_C2_C1, ss_C2⟩, trivial⟩⟩⟩⟩
  i_ValueError := isT_VE ⟨⟨C0, PySem.W.mg_of X G a_C0, sv_C0, ss_C0⟩, ⟨⟨C1, PySem.W.mg_of X G a_C1, sv_C1, ss_C1⟩, ⟨⟨C2, PySem.W.mg_of X G a_C2, sv_C2, ss_C2⟩, trivial⟩⟩⟩
  n_ValueError := PySem.W.mg_none_of X G z_ValueError
  d__law_refusal := ⟨f_34, _, DF.mk' (st := s__law_refusal) l_f_34 c_f_34 k_f_34 (fun _ => rfl), PySem.W.mg_of X G a_f_34⟩
  i_dict := isT_tys (Ts := ["dict"]) (by intro T h; simp at h; unfold six; subst h; simp) (by intro k; cases k <;> decide +kernel) ⟨⟨rfl, C0, PySem.W.mg_of X G a_C0, ⟨st_C0_dict, trivial⟩⟩, ⟨⟨rfl, C1, PySem.W.mg_of X G a_C1, ⟨st_C1_dict, trivial⟩⟩, ⟨⟨rfl, C2, PySem.W.mg_of X G a_C2, ⟨st_C2_dict, trivial⟩⟩, trivial⟩⟩⟩
  n_dict := PySem.W.mg_none_of X G z_dict
  i_list_tuple := isT_tys (Ts := ["list", "tuple"]) (by intro T h; simp at h; unfold six; rcases h with rfl | rfl <;> simp) (by intro k; cases k <;> decide +kernel) ⟨⟨rfl, C0, PySem.W.mg_of X G a_C0, ⟨st_C0_list, ⟨st_C0_tuple, trivial⟩⟩⟩, ⟨⟨rfl, C1, PySem.W.mg_of X G a_C1, ⟨st_C1_list, ⟨st_C1_tuple, trivial⟩⟩⟩, ⟨⟨rfl, C2, PySem.W.mg_of X G a_C2, ⟨st_C2_list, ⟨st_C2_tuple, trivial⟩⟩⟩, trivial⟩⟩⟩
  n_list := PySem.W.mg_none_of X G z_list
  n_tuple := PySem.W.mg_none_of X G z_tuple
  i_list := isT_tys (Ts := ["list"]) (by intro T h; simp at h; unfold six; subst h; simp) (by intro k; cases k <;> decide +kernel) ⟨⟨rfl, C0, PySem.W.mg_of X G a_C0, ⟨st_C0_list, trivial⟩⟩, ⟨⟨rfl, C1, PySem.W.mg_of X G a_C1, ⟨st_C1_list, trivial⟩⟩, ⟨⟨rfl, C2, PySem.W.mg_of X G a_C2, ⟨st_C2_list, trivial⟩⟩, trivial⟩⟩⟩
  i_tuple := isT_tys (Ts := ["tuple"]) (by intro T h; simp at h; unfold six; subst h; simp) (by intro k; cases k <;> decide +kernel) ⟨⟨rfl, C0, PySem.W.mg_of X G a_C0, ⟨st_C0_tuple, trivial⟩⟩, ⟨⟨rfl, C1, PySem.W.mg_of X G a_C1, ⟨st_C1_tuple, trivial⟩⟩, ⟨⟨rfl, C2, PySem.W.mg_of X G a_C2, ⟨st_C2_tuple, trivial⟩⟩, trivial⟩⟩⟩
  n_zip := PySem.W.mg_none_of X G z_zip
  i_list_tuple_dict := isT_tys (Ts := ["list", "tuple", "dict"]) (by intro T h; simp at h; unfold six; rcases h with rfl | rfl | rfl <;> simp) (by intro k; cases k <;> decide +kernel) ⟨⟨rfl, C0, PySem.W.mg_of X G a_C0, ⟨st_C0_list, ⟨st_C0_tuple, ⟨st_C0_dict, trivial⟩⟩⟩⟩, ⟨⟨rfl, C1, PySem.W.mg_of X G a_C1, ⟨st_C1_list, ⟨st_C1_tuple, ⟨st_C1_dict, trivial⟩⟩⟩⟩, ⟨⟨rfl, C2, PySem.W.mg_of X G a_C2, ⟨st_C2_list, ⟨st_C2_tuple, ⟨st_C2_dict, trivial⟩⟩⟩⟩, trivial⟩⟩⟩
  i_int := isT_tys (Ts := ["int"]) (by intro T h; simp at h; unfold six; subst h; simp) (by intro k; cases k <;> decide +kernel) ⟨⟨rfl, C0, PySem.W.mg_of X G a_C0, ⟨st_C0_int, trivial⟩⟩, ⟨⟨rfl, C1, PySem.W.mg_of X G a_C1, ⟨st_C1_int, trivial⟩⟩, ⟨⟨rfl, C2, PySem.W.mg_of X G a_C2, ⟨st_C2_int, trivial⟩⟩, trivial⟩⟩⟩
  i_bool := isT_tys (Ts := ["bool"]) (by intro T h; simp at h; unfold six; subst h; simp) (by intro k; cases k <;> decide +kernel) ⟨⟨rfl, C0, PySem.W.mg_of X G a_C0, ⟨st_C0_bool, trivial⟩⟩, ⟨⟨rfl, C1, PySem.W.mg_of X G a_C1, ⟨st_C1_bool, trivial⟩⟩, ⟨⟨rfl, C2, PySem.W.mg_of X G a_C2, ⟨st_C2_bool, trivial⟩⟩, trivial⟩⟩⟩
  n_bool := PySem.W.mg_none_of X G z_bool
  d__law_same := ⟨f_35, _, DF.mk' (st := s__law_same) l_f_35 c_f_35 k_f_35 (fun _ => rfl), PySem.W.mg_of X G a_f_35⟩
  d__law_led := ⟨f_36, _, DF.mk' (st := s__law_led) l_f_36 c_f_36 k_f_36 (fun _ => rfl), PySem.W.mg_of X G a_f_36⟩
  n_enumerate := PySem.W.mg_none_of X G z_enumerate
  d__law_right := ⟨f_37, _, DF.mk' (st := s__law_right) l_f_37 c_f_37 k_f_37 (fun _ => rfl), PySem.W.mg_of X G a_f_37⟩
  x_InvalidCount := xd_mk (st := i_InvalidCount) (PySem.W.mg_of X G a_C0) ⟨⟨_, _, _, _, _, _, _, _, _, _, _, _, _, _, _, xC0_l, xC0_v⟩, xC0_sa, sb_C0, ty_C0, xC0_k⟩ xC0_g1 xC0_g2 xC0_ha w_hn w_ht xC0_hm hd_C0 xC0_hv xC0_he xC0_iC xC0_tI (DF.mk' (st := i_InvalidCount) xC0_lI xC0_cI xC0_kI (fun z => by cases z)) ⟨rfl, rfl, rfl, by decide +kernel, rfl, by decide +kernel, by decide +kernel⟩ rfl rfl rfl (fun _ => rfl) (init_binds xC0_lI xC0_cI xC0_kI xC0_lT fun T kV doc pm an cdv ct us its hu hi => match us, its, hu, hi with | [_, _], [_], _, _ => ⟨_, rfl, rfl⟩)
  d_law := ⟨f_40, _, DF.mk' (st := s_law) l_f_40 c_f_40 k_f_40 (fun _ => rfl), PySem.W.mg_of X G a_f_40⟩
  }
theorem law_facts {P : Program} {w : World} {K : PySem.W.Frag} {mg : Str → Option Value} (T : ∀ base : Heap, Tx P w K mg base) : (∃ f fd, DF K "law" "law" s_law f fd ∧ mg "law" = some (.ref f)) ∧ ∀ base : Heap, Fw P w K mg base "law" s_law ["script"] [] .cl 1 14 f_law := ⟨(T { objs := #[] }).d_law, fun base => fx_law (T base)⟩
end DL
open PySem PySem.W PyProof.Rows
set_option maxRecDepth 100000 in
set_option maxHeartbeats 0 in
theorem PySem.Challenge.cw_allmayedit_k04_whole_titles_above_and_be_holds : PySem.Challenge.rw_allmayedit_k04_whole_titles_above_and_be.Holds := by
  w_on; o_law; k_head; (case hw => w_witness2)
  k_fill
  refine DL.law_walk (l := PySem.Challenge.rw_allmayedit_k04_whole_titles_above_and_be) (st := DL.s_law) (k := 14) (fn := DL.f_law) rfl rfl ⟨rfl, by decide, by decide⟩ (fun w h Y => PySem.W.kIn_of Y) rfl rfl (fun _ _ _ _ _ _ _ => rfl) DL.law_true ?F
  case F =>
    intro w mg h KX G
    refine DL.law_facts ?T
    case T =>
      refine' DL.tx_mk KX G ?a_C0 ?a_C1 ?a_C2 ?z_isinstance ?st_C2_str ?st_C1_str ?st_C0_str ?z_str ?z_all ?a_f_3 ?l_f_3 ?c_f_3 ?k_f_3 ?a_f_4 ?l_f_4 ?c_f_4 ?k_f_4 ?a_gROOMS ?l_gROOMS ?a_f_6 ?l_f_6 ?c_f_6 ?k_f_6 ?a_f_7 ?l_f_7 ?c_f_7 ?k_f_7 ?z_sum ?z_int ?z_max ?a_f_8 ?l_f_8 ?c_f_8 ?k_f_8 ?a_f_9 ?l_f_9 ?c_f_9 ?k_f_9 ?a_f_10 ?l_f_10 ?c_f_10 ?k_f_10 ?a_f_11 ?l_f_11 ?c_f_11 ?k_f_11 ?a_f_12 ?l_f_12 ?c_f_12 ?k_f_12 ?a_gBARRED ?z_any ?z_len ?a_gLONGEST ?a_f_13 ?l_f_13 ?c_f_13 ?k_f_13 ?a_f_14 ?l_f_14 ?c_f_14 ?k_f_14 ?z_range ?a_f_15 ?l_f_15 ?c_f_15 ?k_f_15 ?a_f_16 ?l_f_16 ?c_f_16 ?k_f_16 ?a_f_17 ?l_f_17 ?c_f_17 ?k_f_17 ?xC1_l ?xC1_v ?xC1_sa ?sb_C1 ?ty_C1 ?hd_C1 ?xC1_k ?xC1_g1 ?xC1_g2 ?xC1_ha ?w_hn ?w_ht ?xC1_hm ?xC1_hv ?xC1_he ?xC1_iC ?xC1_tI ?xC1_lI ?xC1_cI ?xC1_kI ?xC1_lT ?a_f_20 ?l_f_20 ?c_f_20 ?k_f_20 ?a_f_21 ?l_f_21 ?c_f_21 ?k_f_21 ?a_f_22 ?l_f_22 ?c_f_22 ?k_f_22 ?a_f_23 ?l_f_23 ?c_f_23 ?k_f_23 ?a_f_24 ?l_f_24 ?c_f_24 ?k_f_24 ?xC2_l ?xC2_v ?xC2_sa ?sb_C2 ?ty_C2 ?hd_C2 ?xC2_k ?xC2_g1 ?xC2_g2 ?xC2_ha ?xC2_hm ?xC2_hv ?xC2_he ?xC2_iC ?xC2_tI ?xC2_lI ?xC2_cI ?xC2_kI ?xC2_lT ?a_f_27 ?l_f_27 ?c_f_27 ?k_f_27 ?a_f_28 ?l_f_28 ?c_f_28 ?k_f_28 ?a_f_29 ?l_f_29 ?c_f_29 ?k_f_29 ?a_f_30 ?l_f_30 ?c_f_30 ?k_f_30 ?a_f_31 ?l_f_31 ?c_f_31 ?k_f_31 ?a_f_32 ?l_f_32 ?c_f_32 ?k_f_32 ?a_C3 ?ty_C3 ?hd_C3 ?sb_C3 ?ss_C2 ?se_C2_C3 ?ss_C1 ?se_C1_C3 ?ss_C0 ?se_C0_C3 ?ty_C0 ?hd_C0 ?sk_C0_dic ?sk_C0_tup ?sk_C0_lst ?sk_C0_str ?sk_C0_int ?sk_C0_bl ?sk_C0_non ?se_C2_C0 ?se_C1_C0 ?sk_C2_dic ?sk_C2_tup ?sk_C2_lst ?sk_C2_str ?sk_C2_int ?sk_C2_bl ?sk_C2_non ?se_C1_C2 ?se_C0_C2 ?sk_C1_dic ?sk_C1_tup ?sk_C1_lst ?sk_C1_str ?sk_C1_int ?sk_C1_bl ?sk_C1_non ?se_C2_C1 ?se_C0_C1 ?sv_C2 ?sv_C1 ?sv_C0 ?z_ValueError ?a_f_34 ?l_f_34 ?c_f_34 ?k_f_34 ?st_C2_dict ?st_C1_dict ?st_C0_dict ?z_dict ?st_C2_tuple ?st_C2_list ?st_C1_tuple ?st_C1_list ?st_C0_tuple ?st_C0_list ?z_list ?z_tuple ?z_zip ?st_C2_int ?st_C1_int ?st_C0_int ?st_C2_bool ?st_C1_bool ?st_C0_bool ?z_bool ?a_f_35 ?l_f_35 ?c_f_35 ?k_f_35 ?a_f_36 ?l_f_36 ?c_f_36 ?k_f_36 ?z_enumerate ?a_f_37 ?l_f_37 ?c_f_37 ?k_f_37 ?xC0_l ?xC0_v ?xC0_sa ?sb_C0 ?xC0_k ?xC0_g1 ?xC0_g2 ?xC0_ha ?xC0_hm ?xC0_hv ?xC0_he ?xC0_iC ?xC0_tI ?xC0_lI ?xC0_cI ?xC0_kI ?xC0_lT ?a_f_40 ?l_f_40 ?c_f_40 ?k_f_40
      (case a_C0 => k_is)
      (case a_C1 => k_is)
      (case a_C2 => k_is)
      (case z_isinstance => k_is)
      (case st_C2_str => k_is)
      (case st_C1_str => k_is)
      (case st_C0_str => k_is)
      (case z_str => k_is)
      (case z_all => k_is)
      (case a_f_3 => k_is)
      (case l_f_3 => k_is)
      (case c_f_3 => k_is)
      (case k_f_3 => k_is)
      (case a_f_4 => k_is)
      (case l_f_4 => k_is)
      (case c_f_4 => k_is)
      (case k_f_4 => k_is)
      (case a_gROOMS => k_is)
      (case l_gROOMS => k_is)
      (case a_f_6 => k_is)
      (case l_f_6 => k_is)
      (case c_f_6 => k_is)
      (case k_f_6 => k_is)
      (case a_f_7 => k_is)
      (case l_f_7 => k_is)
      (case c_f_7 => k_is)
      (case k_f_7 => k_is)
      (case z_sum => k_is)
      (case z_int => k_is)
      (case z_max => k_is)
      (case a_f_8 => k_is)
      (case l_f_8 => k_is)
      (case c_f_8 => k_is)
      (case k_f_8 => k_is)
      (case a_f_9 => k_is)
      (case l_f_9 => k_is)
      (case c_f_9 => k_is)
      (case k_f_9 => k_is)
      (case a_f_10 => k_is)
      (case l_f_10 => k_is)
      (case c_f_10 => k_is)
      (case k_f_10 => k_is)
      (case a_f_11 => k_is)
      (case l_f_11 => k_is)
      (case c_f_11 => k_is)
      (case k_f_11 => k_is)
      (case a_f_12 => k_is)
      (case l_f_12 => k_is)
      (case c_f_12 => k_is)
      (case k_f_12 => k_is)
      (case a_gBARRED => k_is)
      (case z_any => k_is)
      (case z_len => k_is)
      (case a_gLONGEST => k_is)
      (case a_f_13 => k_is)
      (case l_f_13 => k_is)
      (case c_f_13 => k_is)
      (case k_f_13 => k_is)
      (case a_f_14 => k_is)
      (case l_f_14 => k_is)
      (case c_f_14 => k_is)
      (case k_f_14 => k_is)
      (case z_range => k_is)
      (case a_f_15 => k_is)
      (case l_f_15 => k_is)
      (case c_f_15 => k_is)
      (case k_f_15 => k_is)
      (case a_f_16 => k_is)
      (case l_f_16 => k_is)
      (case c_f_16 => k_is)
      (case k_f_16 => k_is)
      (case a_f_17 => k_is)
      (case l_f_17 => k_is)
      (case c_f_17 => k_is)
      (case k_f_17 => k_is)
      (case xC1_l => k_is)
      (case xC1_v => rfl)
      (case xC1_sa => k_is)
      (case sb_C1 => k_is)
      (case ty_C1 => k_is)
      (case hd_C1 => k_is)
      (case xC1_k => k_is)
      (case xC1_g1 => k_is)
      (case xC1_g2 => k_is)
      (case xC1_ha => k_is)
      (case w_hn => k_is)
      (case w_ht => k_is)
      (case xC1_hm => k_is)
      (case xC1_hv => k_is)
      (case xC1_he => k_is)
      (case xC1_iC => k_is)
      (case xC1_tI => k_is)
      (case xC1_lI => k_is)
      (case xC1_cI => k_is)
      (case xC1_kI => k_is)
      (case xC1_lT => k_is)
      (case a_f_20 => k_is)
      (case l_f_20 => k_is)
      (case c_f_20 => k_is)
      (case k_f_20 => k_is)
      (case a_f_21 => k_is)
      (case l_f_21 => k_is)
      (case c_f_21 => k_is)
      (case k_f_21 => k_is)
      (case a_f_22 => k_is)
      (case l_f_22 => k_is)
      (case c_f_22 => k_is)
      (case k_f_22 => k_is)
      (case a_f_23 => k_is)
      (case l_f_23 => k_is)
      (case c_f_23 => k_is)
      (case k_f_23 => k_is)
      (case a_f_24 => k_is)
      (case l_f_24 => k_is)
      (case c_f_24 => k_is)
      (case k_f_24 => k_is)
      (case xC2_l => k_is)
      (case xC2_v => rfl)
      (case xC2_sa => k_is)
      (case sb_C2 => k_is)
      (case ty_C2 => k_is)
      (case hd_C2 => k_is)
      (case xC2_k => k_is)
      (case xC2_g1 => k_is)
      (case xC2_g2 => k_is)
      (case xC2_ha => k_is)
      (case xC2_hm => k_is)
      (case xC2_hv => k_is)
      (case xC2_he => k_is)
      (case xC2_iC => k_is)
      (case xC2_tI => k_is)
      (case xC2_lI => k_is)
      (case xC2_cI => k_is)
      (case xC2_kI => k_is)
      (case xC2_lT => k_is)
      (case a_f_27 => k_is)
      (case l_f_27 => k_is)
      (case c_f_27 => k_is)
      (case k_f_27 => k_is)
      (case a_f_28 => k_is)
      (case l_f_28 => k_is)
      (case c_f_28 => k_is)
      (case k_f_28 => k_is)
      (case a_f_29 => k_is)
      (case l_f_29 => k_is)
      (case c_f_29 => k_is)
      (case k_f_29 => k_is)
      (case a_f_30 => k_is)
      (case l_f_30 => k_is)
      (case c_f_30 => k_is)
      (case k_f_30 => k_is)
      (case a_f_31 => k_is)
      (case l_f_31 => k_is)
      (case c_f_31 => k_is)
      (case k_f_31 => k_is)
      (case a_f_32 => k_is)
      (case l_f_32 => k_is)
      (case c_f_32 => k_is)
      (case k_f_32 => k_is)
      (case a_C3 => k_is)
      (case ty_C3 => k_is)
      (case hd_C3 => k_is)
      (case sb_C3 => k_is)
      (case ss_C2 => k_is)
      (case se_C2_C3 => k_is)
      (case ss_C1 => k_is)
      (case se_C1_C3 => k_is)
      (case ss_C0 => k_is)
      (case se_C0_C3 => k_is)
      (case ty_C0 => k_is)
      (case hd_C0 => k_is)
      (case sk_C0_dic => k_is)
      (case sk_C0_tup => k_is)
      (case sk_C0_lst => k_is)
      (case sk_C0_str => k_is)
      (case sk_C0_int => k_is)
      (case sk_C0_bl => k_is)
      (case sk_C0_non => k_is)
      (case se_C2_C0 => k_is)
      (case se_C1_C0 => k_is)
      (case sk_C2_dic => k_is)
      (case sk_C2_tup => k_is)
      (case sk_C2_lst => k_is)
      (case sk_C2_str => k_is)
      (case sk_C2_int => k_is)
      (case sk_C2_bl => k_is)
      (case sk_C2_non => k_is)
      (case se_C1_C2 => k_is)
      (case se_C0_C2 => k_is)
      (case sk_C1_dic => k_is)
      (case sk_C1_tup => k_is)
      (case sk_C1_lst => k_is)
      (case sk_C1_str => k_is)
      (case sk_C1_int => k_is)
      (case sk_C1_bl => k_is)
      (case sk_C1_non => k_is)
      (case se_C2_C1 => k_is)
      (case se_C0_C1 => k_is)
      (case sv_C2 => k_is)
      (case sv_C1 => k_is)
      (case sv_C0 => k_is)
      (case z_ValueError => k_is)
      (case a_f_34 => k_is)
      (case l_f_34 => k_is)
      (case c_f_34 => k_is)
      (case k_f_34 => k_is)
      (case st_C2_dict => k_is)
      (case st_C1_dict => k_is)
      (case st_C0_dict => k_is)
      (case z_dict => k_is)
      (case st_C2_tuple => k_is)
      (case st_C2_list => k_is)
      (case st_C1_tuple => k_is)
      (case st_C1_list => k_is)
      (case st_C0_tuple => k_is)
      (case st_C0_list => k_is)
      (case z_list => k_is)
      (case z_tuple => k_is)
      (case z_zip => k_is)
      (case st_C2_int => k_is)
      (case st_C1_int => k_is)
      (case st_C0_int => k_is)
      (case st_C2_bool => k_is)
      (case st_C1_bool => k_is)
      (case st_C0_bool => k_is)
      (case z_bool => k_is)
      (case a_f_35 => k_is)
      (case l_f_35 => k_is)
      (case c_f_35 => k_is)
      (case k_f_35 => k_is)
      (case a_f_36 => k_is)
      (case l_f_36 => k_is)
      (case c_f_36 => k_is)
      (case k_f_36 => k_is)
      (case z_enumerate => k_is)
      (case a_f_37 => k_is)
      (case l_f_37 => k_is)
      (case c_f_37 => k_is)
      (case k_f_37 => k_is)
      (case xC0_l => k_is)
      (case xC0_v => rfl)
      (case xC0_sa => k_is)
      (case sb_C0 => k_is)
      (case xC0_k => k_is)
      (case xC0_g1 => k_is)
      (case xC0_g2 => k_is)
      (case xC0_ha => k_is)
      (case xC0_hm => k_is)
      (case xC0_hv => k_is)
      (case xC0_he => k_is)
      (case xC0_iC => k_is)
      (case xC0_tI => k_is)
      (case xC0_lI => k_is)
      (case xC0_cI => k_is)
      (case xC0_kI => k_is)
      (case xC0_lT => k_is)
      (case a_f_40 => k_is)
      (case l_f_40 => k_is)
      (case c_f_40 => k_is)
      (case k_f_40 => k_is)

